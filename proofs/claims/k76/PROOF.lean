import PyProof.Rows.All
import HandS.Exc
import HandS.ExcInit
import HandS.ExcField
import HandS.TryMany
import HandS.Nested
import HandS.NestedK
import HandS.EndTab
import HandS.Head0
import HandS.Head1
import HandS.Head2
import HandS.HeadEnd
import HandS.HeadHook1
import HandS.HeadHook2
import HandS.HeadHook3
import HandS.HeadHook4
import HandS.HeadWalk
import HandS.SetKeys
import HandS.Lambda
import KE.KDictKeyed
import KE.KDictWalk
import HandS.ForMost
import Wide.All
import OpenK.AllK
import Wide.FinOn
import PyProof.EqAt
import PyProof.EqKinds
import PyProof.TupleCall
import KE.KLam
import HandS.TryOnly
import HandS.IsInst
import HandS.Conv
import HandS.Zip
import HandS.Rev
import HandS.TupAny
import HandS.TupLe
import HandS.DictComp
import HandS.ListItems
import HandS.NoneIn
import HandS.Flow
import HandS.Style
import HandS.Defaults
import HandS.Wide
import PyProof.P3In
import HandS.More
import HandS.Words
import HandS.WordsExc
import PyProof.Rows.FactsN_abs
import PyProof.Rows.FactsT1
import PyProof.Rows.SeqCalls
import HandS.TupMul
import PyProof.StrBlock2
import PyProof.EnumMake
import PyProof.Draws
import KE.GoesMore
import HandS.Iter
import HandS.Star
import PyProof.Rows.RuleB_bool
import KE.SortData
import KE.GoesZip
import HandS.Codes
import HandS.List
import PySem.Challenge.RW_landscounted_k76_general_position_refuse
set_option Elab.async false
set_option linter.all false
set_option maxRecDepth 100000
set_option maxHeartbeats 4000000
/-! EvA: facts of the head, by looking -/
namespace Ev
open PySem PySem.Spec PyProof.Rows L2 LamX NdefX
def clsB (K : PySem.W.Frag) (C : Addr) : Bool := match K.lookup C with
  | some ⟨.type c, _, .cls ⟨_, _, .ref C' :: bm, _, _, true, _, _, _, _, false⟩, ⟨[_, _, _, _, some (.builtin n), _]⟩⟩ => decide (c = "type") && (decide (C' = C) && (decide (n = "ValueError.__new__") && PySem.HandSPX.refsVE bm))
  | _ => false
def excB (K : PySem.W.Frag) (x f : Str) : Bool := clsB K (He.ga K x) && (He.eqO (PySem.W.findIn K (.ref (He.ga K x)) "__setattr__") (some (some (.builtin "object.__setattr__"))) &&
  (decide (PySem.W.subIn K (.ref (He.ga K x)) (.type "BaseException") = some true) && (decide (PySem.W.typeIn K (.ref (He.ga K x)) = some (.type "type")) && (PySem.W.keepIn K (.ref (He.ga K x)) && (xfB K (He.ga K x) &&
  (He.eqO (PySem.W.findIn K (.ref (He.ga K x)) f) (some none) && (He.eqO (PySem.W.findIn K (.ref (He.ga K x)) "__init__") (some (some (.ref (He.ma K (He.ga K x) "__init__")))) && (decide (PySem.W.typeIn K (.ref (He.ma K (He.ga K x) "__init__")) = some (.type "function")) &&
  He.eqO (PySem.W.nsIn K mainGlobals x) (some (some (.ref (He.ga K x)))))))))))) 
def apartB (K : PySem.W.Frag) (xs : List Str) : Bool := (List.range xs.length).all fun i => (List.range xs.length).all fun j => match xs[i]?, xs[j]? with
  | some x, some y => decide (PySem.W.exmOne K (.ref (He.ga K x)) (.ref (He.ga K y)) = some (decide (i = j)))
  | _, _ => false
/-- the module's tuples of ints -/
def ktB (K : PySem.W.Frag) (tab : List (Str × List Int)) : Bool := tab.all fun p => He.tupB K p.1 (p.2.map He.Dv.int)
end Ev

set_option Elab.async false
set_option linter.all false
set_option maxRecDepth 100000
set_option maxHeartbeats 0
/-! the law k76_general_position_refused -/
namespace Kk76
open PySem PySem.Spec PyProof.Rows L2 LamX NdefX Ev
def top (i : Nat) : Stmt := PySem.Challenge.pw_landscounted_k76_general_position_refuse.main.body.getD i (.Pass ⟨0, 0, 0, 0⟩)
def tf : List He.Defn := [("law", none), ("_law_all_refused", none), ("_law_planes_refused", none), ("_law_is_very", none)]
def nm_law : Nat → Nat → Str := fun _ _ => (envOfC "law" (defScope (top 106)) 0 0 .none).qual ++ "<lambda>"
def nm__law_all_refused : Nat → Nat → Str := fun _ _ => (envOfC "_law_all_refused" (defScope (top 102)) 0 0 .none).qual ++ "<lambda>"
def nm__law_planes_refused : Nat → Nat → Str := fun _ _ => (envOfC "_law_planes_refused" (defScope (top 104)) 0 0 .none).qual ++ "<lambda>"
def nm__law_is_very : Nat → Nat → Str := fun _ _ => (envOfC "_law_is_very" (defScope (top 101)) 0 0 .none).qual ++ "<lambda>"
def TT (K : PySem.W.Frag) : List NTab := [((He.cT K ("law", none)).2, nm_law), ((He.cT K ("_law_all_refused", none)).2, nm__law_all_refused), ((He.cT K ("_law_planes_refused", none)).2, nm__law_planes_refused), ((He.cT K ("_law_is_very", none)).2, nm__law_is_very)]
def cnames : List Str := ["BadPlanes", "BadMany", "BadLand", "BadCount"]
def ktab : List (Str × List Int) := [("NOUGHT", [0, 1])]
def kinit (s : Stmt) (i : Nat) : Stmt := match s with
  | .ClassDef _ _ _ b _ _ _ _ _ _ _ => b.getD i s
  | _ => s
def D_law : He.DefD := ⟨("law", none), "law", "law", defArgs (top 106), defBody (top 106), defScope (top 106), [], []⟩
def D_corners_in_turn : He.DefD := ⟨("corners_in_turn", none), "corners_in_turn", "corners_in_turn", defArgs (top 81), defBody (top 81), defScope (top 81), [], []⟩
def D_area : He.DefD := ⟨("area", none), "area", "area", defArgs (top 82), defBody (top 82), defScope (top 82), [], []⟩
def D_middle : He.DefD := ⟨("middle", none), "middle", "middle", defArgs (top 83), defBody (top 83), defScope (top 83), [], []⟩
def D_neighbours_in_turn : He.DefD := ⟨("neighbours_in_turn", none), "neighbours_in_turn", "neighbours_in_turn", defArgs (top 84), defBody (top 84), defScope (top 84), [], []⟩
def D__law_all_refused : He.DefD := ⟨("_law_all_refused", none), "_law_all_refused", "_law_all_refused", defArgs (top 102), defBody (top 102), defScope (top 102), [], []⟩
def D__law_draw : He.DefD := ⟨("_law_draw", none), "_law_draw", "_law_draw", defArgs (top 99), defBody (top 99), defScope (top 99), [], []⟩
def D_most_lands : He.DefD := ⟨("most_lands", none), "most_lands", "most_lands", defArgs (top 93), defBody (top 93), defScope (top 93), [], []⟩
def D_most_bounded : He.DefD := ⟨("most_bounded", none), "most_bounded", "most_bounded", defArgs (top 94), defBody (top 94), defScope (top 94), [], []⟩
def D_most_corners : He.DefD := ⟨("most_corners", none), "most_corners", "most_corners", defArgs (top 95), defBody (top 95), defScope (top 95), [], []⟩
def D_general_or_lot : He.DefD := ⟨("general_or_lot", none), "general_or_lot", "general_or_lot", defArgs (top 88), defBody (top 88), defScope (top 88), [], []⟩
def D_lands_lacking : He.DefD := ⟨("lands_lacking", none), "lands_lacking", "lands_lacking", defArgs (top 96), defBody (top 96), defScope (top 96), [], []⟩
def D__law_planes_refused : He.DefD := ⟨("_law_planes_refused", none), "_law_planes_refused", "_law_planes_refused", defArgs (top 104), defBody (top 104), defScope (top 104), [], []⟩
def D_need_boxed : He.DefD := ⟨("need_boxed", none), "need_boxed", "need_boxed", defArgs (top 77), defBody (top 77), defScope (top 77), [], []⟩
def D__law_same : He.DefD := ⟨("_law_same", none), "_law_same", "_law_same", defArgs (top 100), defBody (top 100), defScope (top 100), [], []⟩
def D__law_met : He.DefD := ⟨("_law_met", none), "_law_met", "_law_met", defArgs (top 105), defBody (top 105), defScope (top 105), [], []⟩
def D__law_is_very : He.DefD := ⟨("_law_is_very", none), "_law_is_very", "_law_is_very", defArgs (top 101), defBody (top 101), defScope (top 101), [], []⟩
def D_check_count : He.DefD := ⟨("check_count", none), "check_count", "check_count", defArgs (top 90), defBody (top 90), defScope (top 90), [], []⟩
def D_need_planes : He.DefD := ⟨("need_planes", none), "need_planes", "need_planes", defArgs (top 30), defBody (top 30), defScope (top 30), [], []⟩
def D__law_odd_planes : He.DefD := ⟨("_law_odd_planes", none), "_law_odd_planes", "_law_odd_planes", defArgs (top 103), defBody (top 103), defScope (top 103), [], []⟩
def D_need_land : He.DefD := ⟨("need_land", none), "need_land", "need_land", defArgs (top 57), defBody (top 57), defScope (top 57), [], []⟩
def D_check_many : He.DefD := ⟨("check_many", none), "check_many", "check_many", defArgs (top 26), defBody (top 26), defScope (top 26), [], []⟩
def D_is_number : He.DefD := ⟨("is_number", none), "is_number", "is_number", defArgs (top 3), defBody (top 3), defScope (top 3), [], []⟩
def D_planes_fault : He.DefD := ⟨("planes_fault", none), "planes_fault", "planes_fault", defArgs (top 29), defBody (top 29), defScope (top 29), [], []⟩
def D_kept_plane : He.DefD := ⟨("kept_plane", none), "kept_plane", "kept_plane", defArgs (top 27), defBody (top 27), defScope (top 27), [], []⟩
def D_kept_land : He.DefD := ⟨("kept_land", none), "kept_land", "kept_land", defArgs (top 56), defBody (top 56), defScope (top 56), [], []⟩
def D_is_whole : He.DefD := ⟨("is_whole", none), "is_whole", "is_whole", defArgs (top 2), defBody (top 2), defScope (top 2), [], []⟩
def D_is_list : He.DefD := ⟨("is_list", none), "is_list", "is_list", defArgs (top 1), defBody (top 1), defScope (top 1), [], []⟩
def D_plain_of : He.DefD := ⟨("plain_of", none), "plain_of", "plain_of", defArgs (top 28), defBody (top 28), defScope (top 28), [], []⟩
def D_is_row : He.DefD := ⟨("is_row", none), "is_row", "is_row", defArgs (top 4), defBody (top 4), defScope (top 4), [], []⟩
def D_kept_row : He.DefD := ⟨("kept_row", none), "kept_row", "kept_row", defArgs (top 55), defBody (top 55), defScope (top 55), [], []⟩
def D_rows_by : He.DefD := ⟨("rows_by", none), "rows_by", "rows_by", defArgs (top 54), defBody (top 54), defScope (top 54), [], []⟩
def D_common_divisor : He.DefD := ⟨("common_divisor", none), "common_divisor", "common_divisor", defArgs (top 13), defBody (top 13), defScope (top 13), [], []⟩
def D_points_by : He.DefD := ⟨("points_by", none), "points_by", "points_by", defArgs (top 53), defBody (top 53), defScope (top 53), [], []⟩
def D_sides : He.DefD := ⟨("sides", none), "sides", "sides", defArgs (top 33), defBody (top 33), defScope (top 33), [], []⟩
def D_points_of : He.DefD := ⟨("points_of", none), "points_of", "points_of", defArgs (top 39), defBody (top 39), defScope (top 39), [], []⟩
def D_unlike_cuts : He.DefD := ⟨("unlike_cuts", none), "unlike_cuts", "unlike_cuts", defArgs (top 52), defBody (top 52), defScope (top 52), [], []⟩
def D_lifted : He.DefD := ⟨("lifted", none), "lifted", "lifted", defArgs (top 49), defBody (top 49), defScope (top 49), [], []⟩
def D_step_for : He.DefD := ⟨("step_for", none), "step_for", "step_for", defArgs (top 50), defBody (top 50), defScope (top 50), [], []⟩
def D_stepped : He.DefD := ⟨("stepped", none), "stepped", "stepped", defArgs (top 48), defBody (top 48), defScope (top 48), [], []⟩
def D_minus : He.DefD := ⟨("minus", none), "minus", "minus", defArgs (top 16), defBody (top 16), defScope (top 16), [], []⟩
def D_side_of : He.DefD := ⟨("side_of", none), "side_of", "side_of", defArgs (top 32), defBody (top 32), defScope (top 32), [], []⟩
def D_system : He.DefD := ⟨("system", none), "system", "system", defArgs (top 37), defBody (top 37), defScope (top 37), [], []⟩
def D_cut_by : He.DefD := ⟨("cut_by", none), "cut_by", "cut_by", defArgs (top 46), defBody (top 46), defScope (top 46), [], []⟩
def D_worth_at : He.DefD := ⟨("worth_at", none), "worth_at", "worth_at", defArgs (top 31), defBody (top 31), defScope (top 31), [], []⟩
def D_over : He.DefD := ⟨("over", none), "over", "over", defArgs (top 18), defBody (top 18), defScope (top 18), [], []⟩
def D_times : He.DefD := ⟨("times", none), "times", "times", defArgs (top 17), defBody (top 17), defScope (top 17), [], []⟩
def D_size_of : He.DefD := ⟨("size_of", none), "size_of", "size_of", defArgs (top 51), defBody (top 51), defScope (top 51), [], []⟩
def D_is_under : He.DefD := ⟨("is_under", none), "is_under", "is_under", defArgs (top 19), defBody (top 19), defScope (top 19), [], []⟩
def D_plus : He.DefD := ⟨("plus", none), "plus", "plus", defArgs (top 15), defBody (top 15), defScope (top 15), [], []⟩
def D_reduced : He.DefD := ⟨("reduced", none), "reduced", "reduced", defArgs (top 14), defBody (top 14), defScope (top 14), [], []⟩
def D_reduced_rows : He.DefD := ⟨("reduced_rows", none), "reduced_rows", "reduced_rows", defArgs (top 36), defBody (top 36), defScope (top 36), [], []⟩
def D_dot : He.DefD := ⟨("dot", none), "dot", "dot", defArgs (top 21), defBody (top 21), defScope (top 21), [], []⟩
def D_total : He.DefD := ⟨("total", none), "total", "total", defArgs (top 20), defBody (top 20), defScope (top 20), [], []⟩
def D__law_stream : He.DefD := ⟨("_law_stream", none), "_law_stream", "_law_stream", defArgs (top 98), defBody (top 98), defScope (top 98), [], []⟩
abbrev si_BadPlanes : Stmt := kinit (top 8) 0
def DI_BadPlanes : He.DefD := ⟨("BadPlanes", some "__init__"), "__init__", "BadPlanes.__init__", defArgs si_BadPlanes, defBody si_BadPlanes, defScope si_BadPlanes, [], []⟩
abbrev si_BadMany : Stmt := kinit (top 7) 0
def DI_BadMany : He.DefD := ⟨("BadMany", some "__init__"), "__init__", "BadMany.__init__", defArgs si_BadMany, defBody si_BadMany, defScope si_BadMany, [], []⟩
abbrev si_BadLand : Stmt := kinit (top 9) 0
def DI_BadLand : He.DefD := ⟨("BadLand", some "__init__"), "__init__", "BadLand.__init__", defArgs si_BadLand, defBody si_BadLand, defScope si_BadLand, [], []⟩
abbrev si_BadCount : Stmt := kinit (top 10) 0
def DI_BadCount : He.DefD := ⟨("BadCount", some "__init__"), "__init__", "BadCount.__init__", defArgs si_BadCount, defBody si_BadCount, defScope si_BadCount, [], []⟩
def fn : List He.DefD := [D_law, D_corners_in_turn, D_area, D_middle, D_neighbours_in_turn, D__law_all_refused, D__law_draw, D_most_lands, D_most_bounded, D_most_corners, D_general_or_lot, D_lands_lacking, D__law_planes_refused, D_need_boxed, D__law_same, D__law_met, D__law_is_very, D_check_count, D_need_planes, D__law_odd_planes, D_need_land, D_check_many, D_is_number, D_planes_fault, D_kept_plane, D_kept_land, D_is_whole, D_is_list, D_plain_of, D_is_row, D_kept_row, D_rows_by, D_common_divisor, D_points_by, D_sides, D_points_of, D_unlike_cuts, D_lifted, D_step_for, D_stepped, D_minus, D_side_of, D_system, D_cut_by, D_worth_at, D_over, D_times, D_size_of, D_is_under, D_plus, D_reduced, D_reduced_rows, D_dot, D_total, D__law_stream, DI_BadPlanes, DI_BadMany, DI_BadLand, DI_BadCount]
def fa : List He.Fa := [.free "abs", .free "all", .free "any", .free "bool", .free "dict", .free "enumerate", .free "int", .free "isinstance", .free "len", .free "list", .free "range", .free "sorted", .free "str", .free "tuple", .free "zip", .glo "law", .glo "corners_in_turn", .glo "area", .glo "middle", .glo "neighbours_in_turn", .glo "_law_all_refused", .glo "_law_draw", .glo "most_lands", .glo "most_bounded", .glo "most_corners", .glo "general_or_lot", .glo "lands_lacking", .glo "_law_planes_refused", .glo "need_boxed", .glo "_law_same", .glo "_law_met", .glo "_law_is_very", .glo "check_count", .glo "need_planes", .glo "_law_odd_planes", .glo "need_land", .glo "check_many", .glo "is_number", .glo "planes_fault", .glo "kept_plane", .glo "kept_land", .glo "is_whole", .glo "is_list", .glo "plain_of", .glo "is_row", .glo "kept_row", .glo "rows_by", .glo "common_divisor", .glo "points_by", .glo "sides", .glo "points_of", .glo "unlike_cuts", .glo "lifted", .glo "step_for", .glo "stepped", .glo "minus", .glo "side_of", .glo "system", .glo "cut_by", .glo "worth_at", .glo "over", .glo "times", .glo "size_of", .glo "is_under", .glo "plus", .glo "reduced", .glo "reduced_rows", .glo "dot", .glo "total", .glo "_law_stream", .glo "BadPlanes", .glo "BadMany", .glo "BadLand", .glo "BadCount", .glo "NOUGHT"]
def ex (K : PySem.W.Frag) : Bool := (ktB K ktab && (excB K "BadPlanes" "index" && (excB K "BadMany" "many" && (excB K "BadLand" "land" && (excB K "BadCount" "count" && (apartB K cnames && decide ((TT K).map (·.1)).Nodup))))))
abbrev R : PySem.W.OpenRow := PySem.W.OpenLaw.row PySem.Challenge.rw_landscounted_k76_general_position_refuse
abbrev hk : PySem.W.Hook := He.hookX 4 fa fn [] tf ex
def ob (s : PySem.W.SharedT) : He.AlX := He.obsX 4 fa fn [] tf ex (HandSHeadRun.getT s)
theorem ob_eq (s : PySem.W.SharedT) : ob s = hk.obs s.abs := He.obsX_eq (HandSHeadRun.getT_eq s)
def lo0 : List Str := [("is_list" : Str), ("is_whole" : Str), ("is_number" : Str), ("is_row" : Str), ("LandError" : Str), ("BadMany" : Str), ("BadPlanes" : Str), ("BadLand" : Str), ("BadCount" : Str), ("common_divisor" : Str), ("reduced" : Str), ("plus" : Str), ("minus" : Str), ("times" : Str), ("over" : Str), ("is_under" : Str), ("total" : Str), ("dot" : Str), ("greatest" : Str), ("least" : Str), ("check_many" : Str), ("kept_plane" : Str), ("plain_of" : Str), ("planes_fault" : Str), ("need_planes" : Str), ("worth_at" : Str), ("side_of" : Str), ("sides" : Str), ("less" : Str), ("reduced_rows" : Str), ("system" : Str), ("whole" : Str), ("points_of" : Str), ("rank_by" : Str), ("lies_on" : Str)]
def lo1 : List Str := [("flat_by" : Str), ("flats_by" : Str), ("cut_by" : Str), ("stepped" : Str), ("lifted" : Str), ("step_for" : Str), ("size_of" : Str), ("unlike_cuts" : Str), ("points_by" : Str), ("rows_by" : Str), ("kept_row" : Str), ("kept_land" : Str), ("need_land" : Str), ("shortened" : Str), ("summed" : Str), ("without" : Str), ("few" : Str), ("is_broken" : Str), ("point_for" : Str), ("value_by" : Str), ("turned_rows" : Str), ("rows_above" : Str), ("as_integers" : Str), ("way_or_weights" : Str), ("NotBounded" : Str), ("need_boxed" : Str), ("turn_by" : Str), ("is_ahead" : Str), ("corners_by" : Str), ("corners_in_turn" : Str), ("area" : Str), ("middle" : Str), ("neighbours_in_turn" : Str), ("lots_of" : Str), ("is_odd_lot" : Str)]
def lo2 : List Str := [("general_or_lot" : Str), ("choose" : Str), ("check_count" : Str), ("greatest" : Str), ("most_lands" : Str), ("most_bounded" : Str), ("most_corners" : Str), ("lands_lacking" : Str), ("_law_stream" : Str), ("_law_draw" : Str), ("_law_same" : Str), ("_law_is_very" : Str), ("_law_all_refused" : Str), ("_law_odd_planes" : Str), ("_law_planes_refused" : Str), ("_law_met" : Str), ("NOUGHT" : Str), ("greatest_exact" : Str), ("EQUAL" : Str), ("ABOVE" : Str), ("FROM_ON" : Str), ("greatest_general" : Str)]
def loose : List Str := lo0 ++ lo1 ++ lo2
theorem run (w : World) : HandSHeadRun.RunEq R (PySem.W.view R.prog [106]) hk ob 4500 loose w := by
  intro os
  kernel_rfl
end Kk76
set_option Elab.async false
set_option linter.all false
set_option maxRecDepth 100000
set_option maxHeartbeats 4000000
/-! Ev24: a dict whose keys are nested tuples, all whatever its values -/
namespace Ev
open PySem PySem.Spec PyProof.Rows L2 LamX NdefX

/-- the entries -/
def kdEs (w : World) (ys : List (NestedKey × Addr × Value)) : List DictEntry := ys.map fun x => ⟨x.1.hash w, .ref x.2.1, x.2.2⟩
def kdN (ys : List (NestedKey × Addr × Value)) : List (NestedKey × Addr) := ys.map fun x => (x.1, x.2.1)
theorem kdN_keys (ys : List (NestedKey × Addr × Value)) : (kdN ys).map (·.1) = ys.map (·.1) := by unfold kdN; rw [List.map_map]; rfl
theorem kdN_len (ys : List (NestedKey × Addr × Value)) : (kdN ys).length = ys.length := List.length_map ..
/-- the dict at a -/
def KDp (w : World) (a : Addr) (xs : List (NestedKey × Addr)) (h : Heap) : Prop :=
  (∃ o es ep ys, h.get? a = some o ∧ o.ExactDict ∧ o.data = .dict es ep ∧ es.toList = kdEs w ys ∧ kdN ys = xs ∧ (xs.map (·.1)).Nodup) ∧ (a == sysModules) = false
def KDo (w : World) (a : Addr) (xs : List (NestedKey × Addr)) : HO := .ext (KDp w a xs)
/-- the value v is the key k -/
inductive NKv (K : PySem.W.Frag) (H : Hp) : NestedKey → V → Prop
  | non : NKv K H .none .non
  | int (i : Int) : NKv K H (.num i) (.int i)
  | str (s : Str) : NKv K H (.text s) (.str s)
  | nil {a : Addr} (h : SqT K H a []) : NKv K H (.tup []) (.ref a)
  | cons {a : Addr} {ks : List NestedKey} {vs : List V} (h : SqT K H a vs) (hl : ks.length = vs.length) (hs : ∀ (i : Nat) k v, ks[i]? = some k → vs[i]? = some v → NKv K H k v) : NKv K H (.tup ks) (.ref a)
section
variable {X : Cx} {pins : List (Addr × Obj)} {σ : L2.St} {H : Hp} {s : Shared}
theorem nall_of {h : Heap} {K : PySem.W.Frag} {H : Hp} : ∀ {ks : List NestedKey} {vs : List V} {us : List Value}, ks.length = vs.length → Vals vs us → (∀ (i : Nat) k v u, ks[i]? = some k → vs[i]? = some v → RelV v u → NestedIs h k u) → NestedAll h ks us
  | [], [], [], _, _, _ => .nil
  | k :: ks, v :: vs, u :: us, hl, r, hs => by
    cases r with
    | cons r1 r2 => exact .cons (hs 0 k v u rfl rfl r1) (nall_of (K := K) (H := H) (by simpa using hl) r2 fun i k' v' u' h1 h2 h3 => hs (i + 1) k' v' u' h1 h2 h3)
  | [], _ :: _, _, hl, _, _ => by simp at hl
  | _ :: _, [], _, hl, _, _ => by simp at hl
  | _ :: _, _ :: _, [], _, r, _ => by cases r
  | [], [], _ :: _, _, r, _ => by cases r
theorem NKv.is (I : Inv X pins σ H s) : ∀ {k : NestedKey} {v : V}, NKv X.K H k v → ∀ {u : Value}, RelV v u → NestedIs s.heap k u := by
  intro k v h
  induction h with
  | non => intro u r; cases r; exact .none
  | int i => intro u r; obtain ⟨t, rfl⟩ := r; exact .int i t
  | str x => intro u r; obtain ⟨t, rfl⟩ := r; exact .text x t
  | nil h =>
    intro u r; cases r
    obtain ⟨its, rv, ⟨o, e, c, n, d⟩, _⟩ := I.tuple h
    exact .tup e c d (nall_of (K := X.K) (H := H) rfl rv fun i k v u h1 _ _ => by simp at h1)
  | cons h hl hs ih =>
    intro u r; cases r
    obtain ⟨its, rv, ⟨o, e, c, n, d⟩, _⟩ := I.tuple h
    exact .tup e c d (nall_of (K := X.K) (H := H) hl rv fun i k v u h1 h2 h3 => ih i k v h1 h2 h3)
theorem kd_obj {w : World} {H : Hp} {h : Heap} {a : Addr} {xs : List (NestedKey × Addr)} (p : KDp w a xs h) {P : Program} : ObjOk P w H h a (KDo w a xs) := by
  obtain ⟨⟨o, es, ep, ys, e, r⟩, q⟩ := p
  exact ⟨⟨⟨o, es, ep, ys, e, r⟩, q⟩, ⟨o, e⟩, fun h1 h2 ⟨⟨o, es, ep, ys, e, r⟩, q⟩ k => ⟨⟨o, es, ep, ys, k o e, r⟩, q⟩⟩
theorem kd_at (I : Inv X pins σ H s) {a : Addr} {xs : List (NestedKey × Addr)} (e : H a = some (KDo X.w a xs)) : KDp X.w a xs s.heap := (I.hok a _ e).1
theorem kd_of {P : Program} {w : World} {h : Heap} {a : Addr} {xs : List (NestedKey × Addr)} (p : KDp w a xs h) (ks : ∀ x ∈ xs, NestedIs h x.1 (.ref x.2) ∧ x.1.depth ≤ 8) : ∃ ys, kdN ys = xs ∧ h.DictOfH (nestedKind P w) a ys := by
  obtain ⟨⟨o, es, ep, ys, e, c, d, l, n, nd⟩, _⟩ := p
  refine ⟨ys, n, o, es, ep, e, c, d, l, fun x hx => ?_, ?_⟩
  · exact ks (x.1, x.2.1) (by rw [← n]; exact List.mem_map.mpr ⟨x, hx, rfl⟩)
  · rw [← kdN_keys, n]; exact nd
theorem kd_to {P : Program} {w : World} {h : Heap} {a : Addr} {ys : List (NestedKey × Addr × Value)} (hd : (a == sysModules) = false) (p : h.DictOfH (nestedKind P w) a ys) : KDp w a (kdN ys) h := by
  obtain ⟨o, es, ep, e, c, d, l, _, n⟩ := p
  exact ⟨⟨o, es, ep, ys, e, c, d, l, rfl, by rw [kdN_keys]; exact n⟩, hd⟩
theorem kd_new {w : World} (h : Heap) (hb : sysModules < h.objs.size) : KDp w h.objs.size [] (h.push { cls := .type "dict", data := .dict #[] }) :=
  ⟨⟨_, #[], 0, [], Heap.get?_push_size _ rfl, ⟨rfl, rfl, rfl⟩, rfl, rfl, rfl, List.nodup_nil⟩, beq_eq_false_iff_ne.mpr (Ne.symm (Nat.ne_of_lt hb))⟩
/-- {} -/
def tDNewKD (w : World) : TE := fun _ H Q => ∀ p, H p = none → Q (.ref p) (upd H p (KDo w p []))
theorem pe_dnewKD {pos : Pos} : PE X (.Dict [] [] pos) (tDNewKD X.w) := ⟨fun pins s σ H Q I h =>
  wpAny_Dict_empty ⟨.ref s.heap.objs.size, _, I.laid (a := s.heap.objs.size) (o := KDo X.w s.heap.objs.size []) (t' := s.toks) (fun _ _ q => Heap.get?_push_of_some _ q) (Nat.le_refl _) (kd_obj (kd_new s.heap I.big)), rfl, h _ (I.hok.fresh (Nat.le_refl _))⟩⟩
def hasK (xs : List (NestedKey × Addr)) (k : NestedKey) : Bool := xs.any fun x => decide (x.1 = k)
theorem atKey_kd (ys : List (NestedKey × Addr × Value)) (k : NestedKey) : (atKey ys k).isSome = hasK (kdN ys) k := by
  unfold hasK kdN
  induction ys with
  | nil => rfl
  | cons x r ih =>
    unfold atKey at ih ⊢
    by_cases e : x.1 = k
    · simp [e]
    · simp only [List.map_cons, List.find?_cons, e, decide_false, List.any_cons, Bool.false_or]
      exact ih
def putKD (xs : List (NestedKey × Addr)) (k : NestedKey) (b : Addr) : List (NestedKey × Addr) := if hasK xs k = true then xs else xs ++ [(k, b)]
theorem stored_kd (ys : List (NestedKey × Addr × Value)) (k : NestedKey) (b : Addr) (v : Value) : kdN (storedH ys k b v) = putKD (kdN ys) k b := by
  unfold storedH putKD
  rw [atKey_kd]
  split
  · unfold kdN
    rw [List.map_map]
    refine List.map_congr_left fun x _ => ?_
    show (fun x : NestedKey × Addr × Value => (x.1, x.2.1)) (putAt k v x) = _
    unfold putAt
    split <;> rfl
  · unfold kdN; rw [List.map_append]; rfl
/-- k in d, k not in d -/
def rInKD (K : PySem.W.Frag) (w : World) (neg : Bool) : R2 := fun x y H Q => ∃ (k : NestedKey) (b a : Addr) (xs : List (NestedKey × Addr)), x = .ref b ∧ y = .ref a ∧ NKv K H k (.ref b) ∧ k.depth ≤ 8 ∧ H a = some (KDo w a xs) ∧ (∀ x ∈ xs, NKv K H x.1 (.ref x.2) ∧ x.1.depth ≤ 8) ∧
  Q (.bl (if neg then !hasK xs k else hasK xs k)) H
theorem op_inKD (hu : X.A.units + 64 < cLine) : OpR X (compareOp .In) (rInKD X.K X.w false) := by
  intro pins s σ H x y v u Q I rx ry h
  obtain ⟨k, b, a, xs, rfl, rfl, hk, hd, ha, hs, q⟩ := h
  cases rx
  cases ry
  have p := kd_at I ha
  obtain ⟨ys, en, m⟩ := kd_of (P := X.prog) p fun x hx => ⟨(hs x hx).1.is I rfl, (hs x hx).2⟩
  refine wpAny_in_heap (knd := nestedKind X.prog X.w) (k := k) (xs := ys) (by show X.A.in1.units + 8 < cLine; show X.A.units + 1 + 8 < cLine; omega) ⟨hk.is I rfl, hd⟩ p.2 m ?_
  rw [atKey_kd, en]
  exact ⟨.bl _, H, I.tok _, rfl, q⟩
theorem op_notinKD (hu : X.A.units + 64 < cLine) : OpR X (compareOp .NotIn) (rInKD X.K X.w true) := by
  intro pins s σ H x y v u Q I rx ry h
  obtain ⟨k, b, a, xs, rfl, rfl, hk, hd, ha, hs, q⟩ := h
  cases rx
  cases ry
  have p := kd_at I ha
  obtain ⟨ys, en, m⟩ := kd_of (P := X.prog) p fun x hx => ⟨(hs x hx).1.is I rfl, (hs x hx).2⟩
  show wpAny _ _ (do return Value.bool (!(← contains (.ref a) (.ref b)))) _ _ s
  refine wpAny_bind (wpAny_contains_heap (knd := nestedKind X.prog X.w) (k := k) (xs := ys) (by show X.A.units + 1 + 8 < cLine; omega) ⟨hk.is I rfl, hd⟩ p.2 m (wpAny_pure ?_))
  rw [atKey_kd, en]
  exact ⟨.bl _, H, I.tok _, rfl, q⟩
/-- d[k] = v -/
def rSetKD (K : PySem.W.Frag) (w : World) : TSet := fun o i v H Q => ∃ (a b : Addr) (k : NestedKey) (xs : List (NestedKey × Addr)), o = .ref a ∧ i = .ref b ∧ NKv K H k (.ref b) ∧ k.depth ≤ 8 ∧ H a = some (KDo w a xs) ∧ (∀ x ∈ xs, NKv K H x.1 (.ref x.2) ∧ x.1.depth ≤ 8) ∧
  xs.length ≤ sizeLine ∧ Q (upd H a (KDo w a (putKD xs k b)))
theorem set_KD (hu : X.A.units + 64 < cLine) : PSet X (rSetKD X.K X.w) := by
  intro pins s σ H o i v ov iv u Q I ro ri rv h
  obtain ⟨a, b, k, xs, rfl, rfl, hk, hd, ha, hs, hl, q⟩ := h
  cases ro
  cases ri
  have p := kd_at I ha
  have hsm := p.2
  obtain ⟨ys, en, m⟩ := kd_of (P := X.prog) p fun x hx => ⟨(hs x hx).1.is I rfl, (hs x hx).2⟩
  refine wpAny_setItem_heap (knd := nestedKind X.prog X.w) (k := k) (xs := ys) (v := _) (hsz := by rw [← kdN_len, en]; exact hl) (by show X.A.units + 1 + 8 < cLine; omega) ⟨hk.is I rfl, hd⟩ m fun h' m' sb => ?_
  have p' := kd_to hsm m'
  rw [stored_kd, en] at p'
  have he : ∃ u, h'.get? a = some u := by obtain ⟨⟨o, _, _, _, e, _⟩, _⟩ := p'; exact ⟨o, e⟩
  exact ⟨_, I.write (e := a) (t' := s.toks + (nestedKind X.prog X.w).draws k) (by rw [ha]; trivial) (.inl rfl) (fun c u hb hu => (sb.2 c hb).trans hu) he (kd_obj p'), q⟩
/-- a code object is no such dict -/
theorem code_ne_kd {c a : Addr} {q : Str} {w : World} {xs : List (NestedKey × Addr)} : CodeO c q ≠ KDo w a xs := by
  intro e
  unfold CodeO KDo at e
  injection e with e
  let oc : Obj := { cls := .none, data := .fields #[.none, .str q 0] }
  let h : Heap := { objs := Array.replicate (c + 1) oc }
  have get : ∀ b, h.get? b = if b < c + 1 then some oc else none := fun b => by
    unfold Heap.get?
    rw [show h.objs[b]? = if b < c + 1 then some oc else none from Array.getElem?_replicate]
    by_cases z : b < c + 1
    · rw [if_pos z]
    · rw [if_neg z]
  have all : ∀ b o, h.get? b = some o → o = oc := fun b o hb => by
    rw [get] at hb
    split at hb
    · exact (Option.some.inj hb).symm
    · cases hb
  have h1 : KDp w a xs h := by
    rw [← e]
    refine ⟨oc, _, _, ?_, rfl, rfl⟩
    rw [get, if_pos (Nat.lt_succ_self c)]
  obtain ⟨⟨o, es, ep, _, e1, _, e2, _⟩, _⟩ := h1
  rw [all a o e1] at e2
  cases e2
end
end Ev

set_option Elab.async false
set_option linter.all false
set_option maxRecDepth 100000
/-! Ev1: values as trees, cells, the pieces of a program in CPS -/
namespace Ev
open PySem

/-- a value: a tree; cel: a mutable cell; clo: a lambda (line, column of its text) with its captured boxes -/
inductive D where
  | non | bl (b : Bool) | int (i : Int) | str (s : Str)
  | lst (xs : List D) | tup (xs : List D) | dct (kvs : List (D × D))
  | cel (n : Nat) | clo (l c : Nat) (bs : List Nat) | fn (g : Nat)
  | exc (c : Nat) (fs : List (Str × D))
  deriving Inhabited

inductive Cell where
  | lst (xs : List D) | kd (ks : List D) | box (d : Option D) | strm (m k : Nat) | raw

structure Cs where
  nx : Nat
  l : List (Nat × Cell)

def Cs.get (cs : Cs) (n : Nat) : Option Cell := cs.l.lookup n

abbrev Env := List (Option D)
abbrev KE := D → Cs → Bool
/-- an exception: its class's number, its fields -/
abbrev KX := Nat → List (Str × D) → Cs → Bool
structure Cal where
  fn : Nat → List D → Cs → KE → KX → Bool
  lam : Nat → Nat → List Nat → List D → Cs → KE → KX → Bool
abbrev ME := Cal → Env → Cs → KE → KX → Bool
abbrev MA := Cal → Env → Cs → (List D → Cs → Bool) → KX → Bool
abbrev MT := Cal → Env → Cs → (Bool → Cs → Bool) → KX → Bool
abbrev KXs := Nat → List (Str × D) → Env → Cs → Bool
structure KS where
  nx : Env → Cs → Bool
  rt : D → Cs → Bool
  bk : Env → Cs → Bool
  ct : Env → Cs → Bool
abbrev MS := Cal → Env → Cs → KS → KXs → Bool
abbrev MG := D → Cal → Env → Cs → (Env → Cs → Bool) → KX → Bool
abbrev MGs := List D → Cal → Env → Cs → (Env → Cs → Bool) → KX → Bool

/-! ### numbers put into their plain form -/
def fNat (n : Nat) (k : Nat → Bool) : Bool := match n with
  | 0 => k 0
  | m + 1 => k (Nat.succ m)
def fInt (i : Int) (k : Int → Bool) : Bool := match i with
  | .ofNat n => (match n with
    | 0 => k (.ofNat 0)
    | m + 1 => k (.ofNat (Nat.succ m)))
  | .negSucc n => (match n with
    | 0 => k (.negSucc 0)
    | m + 1 => k (.negSucc (Nat.succ m)))
theorem fNat_eq (n : Nat) (k : Nat → Bool) : fNat n k = k n := by cases n <;> rfl
theorem fInt_eq (i : Int) (k : Int → Bool) : fInt i k = k i := by
  cases i with
  | ofNat n => cases n <;> rfl
  | negSucc n => cases n <;> rfl
/-- a list's spine put into its plain form -/
def fList {α : Type} : List α → (List α → Bool) → Bool
  | [], k => k []
  | x :: xs, k => fList xs fun ys => k (x :: ys)
theorem fList_eq {α : Type} : ∀ (xs : List α) (k : List α → Bool), fList xs k = k xs
  | [], _ => rfl
  | x :: xs, k => by
    show fList xs (fun ys => k (x :: ys)) = _
    rw [fList_eq xs]
def fBool (b : Bool) (k : Bool → Bool) : Bool := match b with
  | true => k true
  | false => k false
theorem fBool_eq (b : Bool) (k : Bool → Bool) : fBool b k = k b := by cases b <;> rfl

/-! ### the environment -/
def nthE : Env → Nat → (D → Bool) → Bool
  | [], _, _ => false
  | some d :: _, 0, k => k d
  | none :: _, 0, _ => false
  | _ :: r, n + 1, k => nthE r n k
theorem nthE_true : ∀ {e : Env} {i : Nat} {k : D → Bool}, nthE e i k = true → ∃ d, e[i]? = some (some d) ∧ k d = true
  | [], _, _, h => by cases h
  | some d :: _, 0, k, h => ⟨d, rfl, h⟩
  | none :: _, 0, _, h => by cases h
  | x :: r, n + 1, k, h => by
    obtain ⟨d, e, q⟩ := nthE_true (e := r) (i := n) (k := k) (by cases x <;> exact h)
    exact ⟨d, by simpa using e, q⟩
def setE : Env → Nat → Option D → (Env → Bool) → Bool
  | [], _, _, k => k []
  | _ :: r, 0, d, k => k (d :: r)
  | x :: r, n + 1, d, k => setE r n d fun r' => k (x :: r')
theorem setE_eq : ∀ (e : Env) (i : Nat) (d : Option D) (k : Env → Bool), setE e i d k = k (e.set i d)
  | [], _, _, _ => rfl
  | _ :: _, 0, _, _ => rfl
  | x :: r, n + 1, d, k => by
    show setE r n d (fun r' => k (x :: r')) = _
    rw [setE_eq r n]
    rfl

/-! ### the cells -/
def getC : List (Nat × Cell) → Nat → (Cell → Bool) → Bool
  | [], _, _ => false
  | (m, c) :: r, n, k => match Nat.beq n m with
    | true => k c
    | false => getC r n k
theorem getC_true : ∀ {l : List (Nat × Cell)} {n : Nat} {k : Cell → Bool}, getC l n k = true → ∃ c, l.lookup n = some c ∧ k c = true
  | [], _, _, h => by cases h
  | (m, c) :: r, n, k, h => by
    unfold getC at h
    cases e : Nat.beq n m with
    | true =>
      rw [e] at h
      have e' : (n == m) = true := by simpa using Nat.eq_of_beq_eq_true e
      exact ⟨c, by simp only [List.lookup, e'], h⟩
    | false =>
      rw [e] at h
      obtain ⟨c', q, z⟩ := getC_true h
      have e' : (n == m) = false := by simpa using Nat.ne_of_beq_eq_false e
      exact ⟨c', by simp only [List.lookup, e', q], z⟩
def setL : List (Nat × Cell) → Nat → Cell → (List (Nat × Cell) → Bool) → Bool
  | [], _, _, k => k []
  | (m, c) :: r, n, d, k => match Nat.beq n m with
    | true => k ((m, d) :: r)
    | false => setL r n d fun r' => k ((m, c) :: r')
def putL : List (Nat × Cell) → Nat → Cell → List (Nat × Cell)
  | [], _, _ => []
  | (m, c) :: r, n, d => if n = m then (m, d) :: r else (m, c) :: putL r n d
theorem setL_eq : ∀ (l : List (Nat × Cell)) (n : Nat) (d : Cell) (k : List (Nat × Cell) → Bool), setL l n d k = k (putL l n d)
  | [], _, _, _ => rfl
  | (m, c) :: r, n, d, k => by
    unfold setL putL
    cases e : Nat.beq n m with
    | true => rw [if_pos (Nat.eq_of_beq_eq_true e)]
    | false =>
      rw [if_neg (Nat.ne_of_beq_eq_false e)]
      dsimp only
      rw [setL_eq r n]
theorem lookup_putL (l : List (Nat × Cell)) (n m : Nat) (d : Cell) : (putL l n d).lookup m = if m = n then (l.lookup n).map (fun _ => d) else l.lookup m := by
  induction l with
  | nil => unfold putL; by_cases e : m = n <;> simp [e]
  | cons p r ih =>
    obtain ⟨q, c⟩ := p
    unfold putL
    by_cases e : n = q
    · subst e
      rw [if_pos rfl]
      by_cases e2 : m = n
      · subst e2; simp
      · have z : (m == n) = false := by simpa using e2
        rw [if_neg e2]
        simp only [List.lookup, z]
    · rw [if_neg e]
      have zn : (n == q) = false := by simpa using e
      by_cases e2 : m = q
      · subst e2
        have : m ≠ n := fun z => e z.symm
        rw [if_neg this]
        simp [List.lookup]
      · have z : (m == q) = false := by simpa using e2
        simp only [List.lookup, z, ih, zn]
def delL : List (Nat × Cell) → Nat → (List (Nat × Cell) → Bool) → Bool
  | [], _, k => k []
  | (m, c) :: r, n, k => match Nat.beq n m with
    | true => k r
    | false => delL r n fun r' => k ((m, c) :: r')
def remL : List (Nat × Cell) → Nat → List (Nat × Cell)
  | [], _ => []
  | (m, c) :: r, n => if n = m then r else (m, c) :: remL r n
theorem delL_eq : ∀ (l : List (Nat × Cell)) (n : Nat) (k : List (Nat × Cell) → Bool), delL l n k = k (remL l n)
  | [], _, _ => rfl
  | (m, c) :: r, n, k => by
    unfold delL remL
    cases e : Nat.beq n m with
    | true => rw [if_pos (Nat.eq_of_beq_eq_true e)]
    | false =>
      rw [if_neg (Nat.ne_of_beq_eq_false e)]
      dsimp only
      rw [delL_eq r n]
/-- all cells whose numbers are below b (the newest stand first) -/
def truncL (b : Nat) : List (Nat × Cell) → List (Nat × Cell)
  | [] => []
  | (m, c) :: r => match Nat.blt m b with
    | true => (m, c) :: r
    | false => truncL b r
theorem mem_lookupN {α : Type} : ∀ {l : List (Nat × α)} {n : Nat}, n ∈ l.map (·.1) → ∃ c, l.lookup n = some c
  | (m, c) :: r, n, h => by
    by_cases e : n = m
    · subst e; exact ⟨c, by simp [List.lookup]⟩
    · have z : (n == m) = false := by simpa using e
      have h' : n ∈ r.map (·.1) := by
        rcases List.mem_cons.mp h with q | q
        · exact absurd q e
        · exact q
      obtain ⟨c', q⟩ := mem_lookupN h'
      exact ⟨c', by simp only [List.lookup, z]; exact q⟩
theorem lookup_memN {α : Type} : ∀ {l : List (Nat × α)} {n : Nat} {c : α}, l.lookup n = some c → n ∈ l.map (·.1)
  | (m, c) :: r, n, d, h => by
    by_cases e : n = m
    · subst e; exact List.mem_cons_self
    · have z : (n == m) = false := by simpa using e
      simp only [List.lookup, z] at h
      exact List.mem_cons_of_mem _ (lookup_memN h)
theorem keys_putL (l : List (Nat × Cell)) (n : Nat) (d : Cell) : (putL l n d).map (·.1) = l.map (·.1) := by
  induction l with
  | nil => rfl
  | cons p r ih =>
    obtain ⟨q, c⟩ := p
    unfold putL
    by_cases e : n = q
    · rw [if_pos e]; rfl
    · rw [if_neg e]
      show q :: (putL r n d).map (·.1) = _
      rw [ih]; rfl
theorem keys_remL (l : List (Nat × Cell)) (n : Nat) : ∀ m, m ∈ (remL l n).map (·.1) → m ∈ l.map (·.1) := by
  induction l with
  | nil => intro m h; exact h
  | cons p r ih =>
    obtain ⟨q, c⟩ := p
    intro m h
    unfold remL at h
    by_cases e : n = q
    · rw [if_pos e] at h
      exact List.mem_cons_of_mem _ h
    · rw [if_neg e] at h
      rcases List.mem_cons.mp h with z | z
      · rw [z]; exact List.mem_cons_self
      · exact List.mem_cons_of_mem _ (ih m z)
theorem nodup_remL (l : List (Nat × Cell)) (n : Nat) (h : (l.map (·.1)).Nodup) : ((remL l n).map (·.1)).Nodup := by
  induction l with
  | nil => exact h
  | cons p r ih =>
    obtain ⟨q, c⟩ := p
    obtain ⟨h1, h2⟩ := List.nodup_cons.mp h
    unfold remL
    by_cases e : n = q
    · rw [if_pos e]; exact h2
    · rw [if_neg e]
      exact List.nodup_cons.mpr ⟨fun z => h1 (keys_remL r n _ z), ih h2⟩
theorem lookup_remL (l : List (Nat × Cell)) (n m : Nat) (h : (l.map (·.1)).Nodup) : (remL l n).lookup m = if m = n then none else l.lookup m := by
  induction l with
  | nil => unfold remL; by_cases e : m = n <;> simp [e]
  | cons p r ih =>
    obtain ⟨q, c⟩ := p
    obtain ⟨h1, h2⟩ := List.nodup_cons.mp h
    unfold remL
    by_cases e : n = q
    · rw [if_pos e]
      by_cases e2 : m = n
      · rw [if_pos e2]
        cases z : List.lookup m r with
        | none => rfl
        | some c' => exact absurd (by rw [← e, ← e2]; exact lookup_memN z) h1
      · rw [if_neg e2]
        have z : (m == q) = false := by rw [← e]; simpa using e2
        simp only [List.lookup, z]
    · rw [if_neg e]
      by_cases e2 : m = q
      · subst e2
        rw [if_neg (fun z => e z.symm)]
        simp [List.lookup]
      · have z : (m == q) = false := by simpa using e2
        simp only [List.lookup, z, ih h2]
theorem truncL_sub (b : Nat) : ∀ (l : List (Nat × Cell)), ∃ pre, l = pre ++ truncL b l
  | [] => ⟨[], rfl⟩
  | (m, c) :: r => by
    unfold truncL
    cases e : Nat.blt m b with
    | true => exact ⟨[], rfl⟩
    | false =>
      obtain ⟨pre, q⟩ := truncL_sub b r
      exact ⟨(m, c) :: pre, by dsimp only; rw [List.cons_append, ← q]⟩
theorem lookup_suffix {α : Type} : ∀ {pre l : List (Nat × α)} {n : Nat} {c : α}, ((pre ++ l).map (·.1)).Nodup → l.lookup n = some c → (pre ++ l).lookup n = some c
  | [], _, _, _, _, h => h
  | (m, d) :: pre, l, n, c, hn, h => by
    obtain ⟨h1, h2⟩ := List.nodup_cons.mp hn
    have ih := lookup_suffix (pre := pre) h2 h
    have e : n ≠ m := fun e => h1 (by
      show m ∈ (pre ++ l).map (·.1)
      rw [← e]; exact lookup_memN ih)
    have z : (n == m) = false := by simpa using e
    show List.lookup n ((m, d) :: (pre ++ l)) = _
    simp only [List.lookup, z]
    exact ih
theorem lookup_truncL {b : Nat} {l : List (Nat × Cell)} {n : Nat} {c : Cell} (hn : (l.map (·.1)).Nodup) (h : (truncL b l).lookup n = some c) : l.lookup n = some c := by
  obtain ⟨pre, e⟩ := truncL_sub b l
  rw [e] at hn ⊢
  exact lookup_suffix hn h
theorem nodup_truncL {b : Nat} {l : List (Nat × Cell)} (hn : (l.map (·.1)).Nodup) : ((truncL b l).map (·.1)).Nodup := by
  obtain ⟨pre, e⟩ := truncL_sub b l
  rw [e, List.map_append] at hn
  exact (List.nodup_append.mp hn).2.1
end Ev

set_option Elab.async false
set_option linter.all false
set_option maxRecDepth 100000
set_option maxHeartbeats 2000000
/-! Ev2: how values and cells lie in the abstract heap -/
namespace Ev
open PySem PySem.Spec PyProof.Rows L2 LamX NdefX

/-- a lambda made: its words, its captured cells, its code object -/
structure LF where
  qual : Str
  params : Arguments
  body : Expr
  scope : Scope
  cl : List (Str × Addr)
  c : Addr
abbrev LF.fd (F : LF) (pm ctv : Value) : FuncData := PySem.W.kla_fn "<lambda>" F.qual F.params F.body F.scope F.cl pm (.ref F.c) ctv
/-- the object at f is the lambda F -/
def LamO (f : Addr) (F : LF) : HO := .ext fun h => ∃ (od : Option Addr) (sl : Array (Option Value)) (pm ctv : Value), h.get? f = some (⟨.type "function", od, .func (F.fd pm ctv), sl⟩ : Obj)

/-- the text of a lambda, by line and column: its code's name, parameters, body, scope, the captured names in the order of the boxes -/
structure LTxt where
  qual : Str
  params : Arguments
  body : Expr
  scope : Scope
  fr : List Str
/-- what is fixed of the program -/
structure Gs where
  fa : Nat → Addr
  lam : Nat → Nat → Option LTxt
  w : World
  Kf : PySem.W.Frag
  kt : Addr → Option (List Int)
  kok : ∀ a ns, kt a = some ns → ∀ H : Hp, SqT Kf H a (ns.map V.int)
  kty : ∀ a ns, kt a = some ns → ∃ o, Kf.lookup a = some o ∧ o.cls = .type "tuple"
/-- a tuple of the heap or of the module -/
def TAt (G : Gs) (H : Hp) (a : Addr) (vs : List V) : Prop := H a = some (.tup vs) ∨ ∃ ns, G.kt a = some ns ∧ vs = ns.map V.int
theorem TAt.mono {G : Gs} {F H : Hp} {a : Addr} {vs : List V} (t : TAt G F a vs) (h : ∀ a o, F a = some o → H a = some o) : TAt G H a vs := t.imp (h _ _) id
theorem TAt.sq {G : Gs} {H : Hp} {a : Addr} {vs : List V} {K : PySem.W.Frag} (t : TAt G H a vs) (k : G.Kf = K) : SqT K H a vs := by
  subst k
  rcases t with t | ⟨ns, h, e⟩
  · exact SqT.of t
  · rw [e]; exact G.kok a ns h H

mutual
/-- the value v, in the frozen heap F, is the tree d; r: where the cells stand -/
inductive Rep (G : Gs) (r : Nat → Option Addr) (F : Hp) : V → D → Prop
  | non : Rep G r F .non .non
  | bl (b : Bool) : Rep G r F (.bl b) (.bl b)
  | int (i : Int) : Rep G r F (.int i) (.int i)
  | str (s : Str) : Rep G r F (.str s) (.str s)
  | lst {a : Addr} {vs : List V} {ds : List D} (h : F a = some (.lst vs)) (hs : Reps G r F vs ds) : Rep G r F (.ref a) (.lst ds)
  | tup {a : Addr} {vs : List V} {ds : List D} (h : F a = some (.tup vs)) (hs : Reps G r F vs ds) : Rep G r F (.ref a) (.tup ds)
  | ktp {a : Addr} {ns : List Int} (h : G.kt a = some ns) : Rep G r F (.ref a) (.tup (ns.map D.int))
  | dct {a : Addr} {kvs : List (Key × V)} {ds : List (D × D)} (h : F a = some (.dK kvs)) (hs : RepD G r F kvs ds) : Rep G r F (.ref a) (.dct ds)
  | cel {a : Addr} {n : Nat} (h : r n = some a) : Rep G r F (.ref a) (.cel n)
  | clo {a : Addr} {l c : Nat} {bs : List Nat} {L : LF} {T : LTxt} (h : F a = some (LamO a L)) (hc : F L.c = some (CodeO L.c L.qual)) (ht : G.lam l c = some T)
      (hq : L.qual = T.qual ∧ L.params = T.params ∧ L.body = T.body ∧ L.scope = T.scope) (hd : (∀ y b, L.cl.lookup y = some b → y ∈ T.fr) ∧ ∀ x y b, L.cl.lookup x = some b → L.cl.lookup y = some b → x = y) (hb : Paired (fun n y => ∃ a, r n = some a ∧ L.cl.lookup y = some a) bs T.fr) : Rep G r F (.ref a) (.clo l c bs)
  | fn (g : Nat) : Rep G r F (.ref (G.fa g)) (.fn g)
inductive Reps (G : Gs) (r : Nat → Option Addr) (F : Hp) : List V → List D → Prop
  | nil : Reps G r F [] []
  | cons {v : V} {vs : List V} {d : D} {ds : List D} (h : Rep G r F v d) (t : Reps G r F vs ds) : Reps G r F (v :: vs) (d :: ds)
inductive RepD (G : Gs) (r : Nat → Option Addr) (F : Hp) : List (Key × V) → List (D × D) → Prop
  | nil : RepD G r F [] []
  | cons {k : Key} {v : V} {kvs : List (Key × V)} {dk d : D} {ds : List (D × D)} (hk : Rep G r F (kV k) dk) (h : Rep G r F v d) (t : RepD G r F kvs ds) : RepD G r F ((k, v) :: kvs) ((dk, d) :: ds)
end

/-- one frozen heap, one placing of the cells grown into another -/
structure Ext (r : Nat → Option Addr) (F B : Hp) (r' : Nat → Option Addr) (F' B' : Hp) : Prop where
  r : ∀ n a, r n = some a → r' n = some a
  F : ∀ a o, F a = some o → F' a = some o
  B : ∀ a o, B a = some o → B' a = some o
theorem Ext.refl (r : Nat → Option Addr) (F B : Hp) : Ext r F B r F B := ⟨fun _ _ h => h, fun _ _ h => h, fun _ _ h => h⟩
theorem Ext.trans {r r1 r2 : Nat → Option Addr} {F F1 F2 B B1 B2 : Hp} (a : Ext r F B r1 F1 B1) (b : Ext r1 F1 B1 r2 F2 B2) : Ext r F B r2 F2 B2 :=
  ⟨fun n x h => b.r n x (a.r n x h), fun n x h => b.F n x (a.F n x h), fun n x h => b.B n x (a.B n x h)⟩

section
variable {G : Gs} {r r' : Nat → Option Addr} {F F' : Hp}
mutual
theorem Rep.mono (hr : ∀ n a, r n = some a → r' n = some a) (hF : ∀ a o, F a = some o → F' a = some o) : ∀ {v : V} {d : D}, Rep G r F v d → Rep G r' F' v d
  | _, _, .non => .non
  | _, _, .bl b => .bl b
  | _, _, .int i => .int i
  | _, _, .str s => .str s
  | _, _, .lst h hs => .lst (hF _ _ h) (Reps.mono hr hF hs)
  | _, _, .tup h hs => .tup (hF _ _ h) (Reps.mono hr hF hs)
  | _, _, .ktp h => .ktp h
  | _, _, .dct h hs => .dct (hF _ _ h) (RepD.mono hr hF hs)
  | _, _, .cel h => .cel (hr _ _ h)
  | _, _, .clo h hc ht hq hd hb => .clo (hF _ _ h) (hF _ _ hc) ht hq hd (Paired.mapP hb fun _ _ ⟨a, h1, h2⟩ => ⟨a, hr _ _ h1, h2⟩)
  | _, _, .fn g => .fn g
theorem Reps.mono (hr : ∀ n a, r n = some a → r' n = some a) (hF : ∀ a o, F a = some o → F' a = some o) : ∀ {vs : List V} {ds : List D}, Reps G r F vs ds → Reps G r' F' vs ds
  | _, _, .nil => .nil
  | _, _, .cons h t => .cons (Rep.mono hr hF h) (Reps.mono hr hF t)
theorem RepD.mono (hr : ∀ n a, r n = some a → r' n = some a) (hF : ∀ a o, F a = some o → F' a = some o) : ∀ {vs : List (Key × V)} {ds : List (D × D)}, RepD G r F vs ds → RepD G r' F' vs ds
  | _, _, .nil => .nil
  | _, _, .cons hk h t => .cons (Rep.mono hr hF hk) (Rep.mono hr hF h) (RepD.mono hr hF t)
end
end
theorem reps_ints {G : Gs} {r : Nat → Option Addr} {F : Hp} : ∀ ns : List Int, Reps G r F (ns.map V.int) (ns.map D.int)
  | [] => .nil
  | n :: ns => .cons (.int n) (reps_ints ns)
theorem Rep.tupI {G : Gs} {r : Nat → Option Addr} {F : Hp} {v : V} {ds : List D} (h : Rep G r F v (.tup ds)) : ∃ a vs, v = .ref a ∧ TAt G F a vs ∧ Reps G r F vs ds := by
  cases h with
  | tup h hs => exact ⟨_, _, rfl, .inl h, hs⟩
  | ktp h => exact ⟨_, _, rfl, .inr ⟨_, h, rfl⟩, reps_ints _⟩
theorem Rep.ext {G : Gs} {r r' : Nat → Option Addr} {F F' B B' : Hp} {v : V} {d : D} (h : Rep G r F v d) (e : Ext r F B r' F' B') : Rep G r' F' v d := h.mono e.r e.F
theorem Reps.ext {G : Gs} {r r' : Nat → Option Addr} {F F' B B' : Hp} {v : List V} {d : List D} (h : Reps G r F v d) (e : Ext r F B r' F' B') : Reps G r' F' v d := h.mono e.r e.F

/-- what may lie frozen -/
def PlainO : HO → Prop
  | .lst _ => True
  | .tup _ => True
  | .dK _ => True
  | .ext _ => True
  | .xd _ => True
  | _ => False
theorem PlainO.ntbl {o : HO} (p : PlainO o) (ps : Array Value) : o ≠ .tbl ps := fun e => by subst e; exact p
theorem PlainO.nfrz {o : HO} (p : PlainO o) (ob : Obj) (u : HO) : o ≠ .frz ob u := fun e => by subst e; exact p

/-- a box's object holds what the box holds -/
def BoxObj (G : Gs) (r : Nat → Option Addr) (F : Hp) (ob : Obj) (od : Option D) : Prop :=
  ∃ ou, ob.data = .cell ou ∧ ∀ d, od = some d → ∃ u v, ou = some u ∧ RelV v u ∧ Rep G r F v d

mutual
/-- a tree as a key -/
def nkD : D → NestedKey
  | .int i => .num i
  | .str s => .text s
  | .tup ds => .tup (nkDs ds)
  | _ => .none
def nkDs : List D → List NestedKey
  | [] => []
  | d :: ds => nkD d :: nkDs ds
end
def allL (f : D → Bool) : List D → Bool
  | [] => true
  | d :: ds => match f d with
    | true => allL f ds
    | false => false
/-- the tree is a key, of depth at most n -/
def okK : Nat → D → Bool
  | _, .int _ => true
  | _, .str _ => true
  | _, .non => true
  | n + 1, .tup ds => allL (okK n) ds
  | _, _ => false
/-- the keys of a dict -/
def KDk (G : Gs) (r : Nat → Option Addr) (F : Hp) (xs : List (NestedKey × Addr)) (ks : List D) : Prop := Paired (fun (x : NestedKey × Addr) d => nkD d = x.1 ∧ okK 8 d = true ∧ Rep G r F (.ref x.2) d) xs ks
theorem KDk.ext {G : Gs} {r r' : Nat → Option Addr} {F B F' B' : Hp} {xs : List (NestedKey × Addr)} {ks : List D} (h : KDk G r F xs ks) (e : Ext r F B r' F' B') : KDk G r' F' xs ks := Paired.mapP h fun _ _ z => ⟨z.1, z.2.1, z.2.2.ext e⟩
/-- what a cell's thing may be -/
def LivO (o : HO) : Prop := (∃ vs, o = .lst vs) ∨ ∃ w a xs, o = KDo w a xs
theorem LivO.lst {vs : List V} : LivO (.lst vs) := .inl ⟨vs, rfl⟩
theorem LivO.kd {w : World} {a : Addr} {xs : List (NestedKey × Addr)} : LivO (KDo w a xs) := .inr ⟨w, a, xs, rfl⟩
theorem LivO.nfrz {o : HO} (h : LivO o) (ob : Obj) (u : HO) : o ≠ .frz ob u := fun e => by
  rcases h with ⟨vs, z⟩ | ⟨w, a, xs, z⟩ <;> rw [e] at z
  · cases z
  · unfold KDo at z; cases z
theorem LivO.ntbl {o : HO} (h : LivO o) (ps : Array Value) : o ≠ .tbl ps := fun e => by
  rcases h with ⟨vs, z⟩ | ⟨w, a, xs, z⟩ <;> rw [e] at z
  · cases z
  · unfold KDo at z; cases z
theorem LivO.ncode {o : HO} (h : LivO o) (c : Addr) (q : Str) : o ≠ CodeO c q := fun e => by
  rcases h with ⟨vs, z⟩ | ⟨w, a, xs, z⟩ <;> rw [e] at z
  · unfold CodeO at z; cases z
  · exact code_ne_kd z
/-- what a live cell is; own: the boxes that the running frame itself keeps -/
def CellOk (G : Gs) (own : Addr → Prop) (r : Nat → Option Addr) (F B H : Hp) (cs : Cs) (n : Nat) : Cell → Prop
  | .lst xs => ∃ a vs, r n = some a ∧ (F a = none ∧ B a = none) ∧ H a = some (.lst vs) ∧ Reps G r F vs xs
  | .raw => ∃ (a : Addr) (ns : List Int), r n = some a ∧ (F a = none ∧ B a = none) ∧ H a = some (.lst (ns.map V.int))
  | .strm m k => ∃ (a b : Addr) (x y z : Int), r n = some a ∧ (F a = none ∧ B a = none) ∧ r m = some b ∧ H a = some (.lst [.ref b, .int x, .int y, .int z]) ∧ cs.get m = some .raw ∧ m < n ∧ 0 ≤ x ∧ 0 ≤ y ∧ y ≤ k ∧ 0 ≤ z ∧ z < 2147483647
  | .kd ks => ∃ a xs, r n = some a ∧ (F a = none ∧ B a = none) ∧ H a = some (KDo G.w a xs) ∧ KDk G r F xs ks
  | .box od => (∃ a, r n = some a ∧ own a) ∨ ∃ a ob, r n = some a ∧ B a = some (.frz ob (.own 0)) ∧ BoxObj G r F ob od

/-- the state, whatever frame runs: own, the boxes that are the frame's -/
structure RC (G : Gs) (T : List NTab) (own : Addr → Prop) (r : Nat → Option Addr) (F B H : Hp) (cs : Cs) : Prop where
  subF : ∀ a o, F a = some o → H a = some o
  subB : ∀ a o, B a = some o → H a = some o
  plF : ∀ a o, F a = some o → PlainO o
  frB : ∀ a o, B a = some o → (∃ ob, o = .frz ob (.own 0)) ∨ ∃ vs, o = .lst vs
  inj : ∀ n m a, r n = some a → r m = some a → n = m
  rng : ∀ n a, r n = some a → H a ≠ none ∨ own a
  fresh : ∀ n, cs.nx ≤ n → r n = none
  dec : (cs.l.map (·.1)).Pairwise (· > ·)
  lt : ∀ n c, cs.get n = some c → n < cs.nx
  cell : ∀ n c, cs.get n = some c → CellOk G own r F B H cs n c
  tabs : TabsN T H
  dj : ∀ a o, B a = some o → F a = none
  rb : ∀ n a vs, r n = some a → B a ≠ some (.lst vs)

theorem RC.nd {G : Gs} {T : List NTab} {own : Addr → Prop} {r : Nat → Option Addr} {F B H : Hp} {cs : Cs} (R : RC G T own r F B H cs) : (cs.l.map (·.1)).Nodup := R.dec.imp fun h e => by rw [e] at h; exact absurd h (Nat.lt_irrefl _)
theorem BoxObj.ext {G : Gs} {r r' : Nat → Option Addr} {F F' B B' : Hp} {ob : Obj} {od : Option D} (h : BoxObj G r F ob od) (e : Ext r F B r' F' B') : BoxObj G r' F' ob od := by
  obtain ⟨ou, h1, h2⟩ := h
  refine ⟨ou, h1, fun d q => ?_⟩
  obtain ⟨u, v, a, b, c⟩ := h2 d q
  exact ⟨u, v, a, b, c.ext e⟩
/-- a live cell: where it stands; its thing is a list, or it is a box -/
theorem CellOk.at_ {G : Gs} {own : Addr → Prop} {r : Nat → Option Addr} {F B H : Hp} {cs : Cs} {n : Nat} {c : Cell} (h : CellOk G own r F B H cs n c) : (∃ od, c = .box od) ∨ ∃ a o, r n = some a ∧ (F a = none ∧ B a = none) ∧ H a = some o ∧ LivO o := by
  cases c with
  | lst xs => obtain ⟨a, vs, h1, h2, h3, _⟩ := h; exact .inr ⟨a, _, h1, h2, h3, .lst⟩
  | raw => obtain ⟨a, ns, h1, h2, h3⟩ := h; exact .inr ⟨a, _, h1, h2, h3, .lst⟩
  | strm m k => obtain ⟨a, b, x, y, z, h1, h2, _, h3, _⟩ := h; exact .inr ⟨a, _, h1, h2, h3, .lst⟩
  | kd ks => obtain ⟨a, xs, h1, h2, h3, _⟩ := h; exact .inr ⟨a, _, h1, h2, h3, .kd⟩
  | box od => exact .inl ⟨od, rfl⟩
/-- a cell is as it was: nothing but its own thing matters, and the stream's -/
theorem CellOk.stay {G : Gs} {own own' : Addr → Prop} {r r' : Nat → Option Addr} {F F' B B' H H' : Hp} {cs cs' : Cs} {n : Nat} {c : Cell} (h : CellOk G own r F B H cs n c) (e : Ext r F B r' F' B')
    (ho : ∀ a, own a → own' a) (hH : ∀ a, r n = some a → (F a = none ∧ B a = none) → ∀ o, LivO o → H a = some o → (F' a = none ∧ B' a = none) ∧ H' a = some o) (hm : ∀ m, cs.get m = some .raw → cs'.get m = some .raw) : CellOk G own' r' F' B' H' cs' n c := by
  cases c with
  | lst xs => obtain ⟨a, vs, h1, h2, h3, h4⟩ := h; obtain ⟨q1, q2⟩ := hH a h1 h2 _ .lst h3; exact ⟨a, vs, e.r _ _ h1, q1, q2, h4.ext e⟩
  | raw => obtain ⟨a, ns, h1, h2, h3⟩ := h; obtain ⟨q1, q2⟩ := hH a h1 h2 _ .lst h3; exact ⟨a, ns, e.r _ _ h1, q1, q2⟩
  | strm m k => obtain ⟨a, b, x, y, z, h1, h2, h3, h4, h5, h6⟩ := h; obtain ⟨q1, q2⟩ := hH a h1 h2 _ .lst h4; exact ⟨a, b, x, y, z, e.r _ _ h1, q1, e.r _ _ h3, q2, hm m h5, h6⟩
  | kd ks => obtain ⟨a, xs, h1, h2, h3, h4⟩ := h; obtain ⟨q1, q2⟩ := hH a h1 h2 _ .kd h3; exact ⟨a, xs, e.r _ _ h1, q1, q2, h4.ext e⟩
  | box od =>
    rcases h with ⟨a, h1, h⟩ | ⟨a, ob, h1, h2, h3⟩
    · exact .inl ⟨a, e.r _ _ h1, ho a h⟩
    · exact .inr ⟨a, ob, e.r _ _ h1, e.B _ _ h2, h3.ext e⟩

section
variable {G : Gs} {T : List NTab} {own : Addr → Prop} {r : Nat → Option Addr} {F B H : Hp} {cs : Cs} {p : Addr} {o : HO}
theorem ext_newF (hp : F p = none) : Ext r F B r (upd F p o) B := ⟨fun _ _ h => h, fun a o' h => by rw [upd_ne (ne_of_none h hp)]; exact h, fun _ _ h => h⟩
theorem RC.freeF (R : RC G T own r F B H cs) (hp : H p = none) : F p = none := by
  cases e : F p with
  | none => rfl
  | some o' => rw [R.subF p o' e] at hp; cases hp
theorem RC.freeB (R : RC G T own r F B H cs) (hp : H p = none) : B p = none := by
  cases e : B p with
  | none => rfl
  | some o' => rw [R.subB p o' e] at hp; cases hp
theorem some_keep {H H' : Hp} {a : Addr} (k : ∀ b o', H b = some o' → H' b = some o') (h : H a ≠ none) : H' a ≠ none := by
  cases e : H a with
  | none => exact absurd e h
  | some o' => rw [k a o' e]; exact fun z => nomatch z
/-- a new thing, frozen -/
theorem RC.newF (R : RC G T own r F B H cs) (hp : H p = none) (ho : PlainO o) : RC G T own r (upd F p o) B (upd H p o) cs ∧ Ext r F B r (upd F p o) B := by
  have E : Ext r F B r (upd F p o) B := ext_newF (R.freeF hp)
  have keep : ∀ b o', H b = some o' → upd H p o b = some o' := fun b o' e => by rw [upd_ne (ne_of_none e hp)]; exact e
  refine ⟨⟨fun a o' h => ?_, fun a o' h => keep a o' (R.subB a o' h), fun a o' h => ?_, R.frB, R.inj, fun n a h => (R.rng n a h).imp (fun z => some_keep keep z) id, R.fresh, R.dec, R.lt, fun n c h => ?_, R.tabs.ext keep, fun a o' h => by rw [upd_ne (ne_of_none h (R.freeB hp))]; exact R.dj a o' h, R.rb⟩, E⟩
  · by_cases e : a = p
    · subst e; rw [upd_same] at h ⊢; exact h
    · rw [upd_ne e] at h; exact keep a o' (R.subF a o' h)
  · by_cases e : a = p
    · subst e; rw [upd_same] at h; cases h; exact ho
    · rw [upd_ne e] at h; exact R.plF a o' h
  · exact (R.cell n c h).stay E (fun _ z => z) (fun a h1 h2 vs _ h3 => ⟨⟨by rw [upd_ne (ne_of_none h3 hp)]; exact h2.1, h2.2⟩, keep a _ h3⟩) fun _ z => z

def updR (r : Nat → Option Addr) (n : Nat) (a : Addr) : Nat → Option Addr := fun m => if m = n then some a else r m
theorem updR_same (n : Nat) (a : Addr) : updR r n a n = some a := if_pos rfl
theorem updR_ne {n m : Nat} (a : Addr) (h : m ≠ n) : updR r n a m = r m := if_neg h
theorem get_cons (cs : Cs) (c : Cell) (n : Nat) : Cs.get ⟨cs.nx + 1, (cs.nx, c) :: cs.l⟩ n = if n = cs.nx then some c else cs.get n := by
  unfold Cs.get
  by_cases e : n = cs.nx
  · subst e; simp [List.lookup]
  · have z : (n == cs.nx) = false := by simpa using e
    rw [if_neg e]
    simp only [List.lookup, z]
theorem RC.ext_newC (R : RC G T own r F B H cs) (p : Addr) : Ext r F B (updR r cs.nx p) F B :=
  ⟨fun n a h => by rw [updR_ne p (fun e => by rw [e, R.fresh _ (Nat.le_refl _)] at h; cases h)]; exact h, fun _ _ h => h, fun _ _ h => h⟩
/-- a new cell: its thing at p new (or, of a box, not tracked) -/
theorem RC.newCell {own' : Addr → Prop} {c : Cell} {H' : Hp} (R : RC G T own r F B H cs) (hp : H p = none) (hb : ∀ a, own a → a ≠ p) (ho : ∀ a, own a → own' a)
    (keep : ∀ b o', H b = some o' → H' b = some o') (hp' : H' p ≠ none ∨ own' p) (new : CellOk G own' (updR r cs.nx p) F B H' ⟨cs.nx + 1, (cs.nx, c) :: cs.l⟩ cs.nx c) :
    RC G T own' (updR r cs.nx p) F B H' ⟨cs.nx + 1, (cs.nx, c) :: cs.l⟩ ∧ Ext r F B (updR r cs.nx p) F B := by
  have E := R.ext_newC p
  -- a cell does not stand at p
  have live : ∀ n a, r n = some a → a ≠ p := fun n a h2 e => by
    rcases R.rng n a h2 with z | z
    · rw [e] at z; exact z hp
    · exact hb a z e
  refine ⟨⟨fun a o' h => keep a o' (R.subF a o' h), fun a o' h => keep a o' (R.subB a o' h), R.plF, R.frB, fun n m a h3 h4 => ?_, fun n a h => ?_, fun n h => ?_, ?_, fun n c h => ?_, fun n c h => ?_, R.tabs.ext keep, R.dj, fun n a vs h => ?_⟩, E⟩
  · by_cases en : n = cs.nx
    · by_cases em : m = cs.nx
      · rw [en, em]
      · rw [en, updR_same] at h3; cases h3
        rw [updR_ne p em] at h4
        exact absurd rfl (live m p h4)
    · rw [updR_ne p en] at h3
      by_cases em : m = cs.nx
      · rw [em, updR_same] at h4; cases h4
        exact absurd rfl (live n p h3)
      · rw [updR_ne p em] at h4
        exact R.inj n m a h3 h4
  · by_cases en : n = cs.nx
    · rw [en, updR_same] at h
      cases h
      exact hp'
    · rw [updR_ne p en] at h
      exact (R.rng n a h).imp (fun z => some_keep keep z) (ho a)
  · have h : cs.nx + 1 ≤ n := h
    rw [updR_ne p (by omega)]
    exact R.fresh n (by omega)
  · show (cs.nx :: cs.l.map (·.1)).Pairwise (· > ·)
    refine List.pairwise_cons.mpr ⟨fun m hm => ?_, R.dec⟩
    obtain ⟨c', e'⟩ := mem_lookupN hm
    exact R.lt _ _ e'
  · rw [get_cons] at h
    show n < cs.nx + 1
    by_cases en : n = cs.nx
    · omega
    · rw [if_neg en] at h
      have := R.lt n c h
      omega
  · rw [get_cons] at h
    by_cases en : n = cs.nx
    · rw [if_pos en] at h
      cases h
      rw [en]
      exact new
    · rw [if_neg en] at h
      refine (R.cell n c h).stay E ho (fun a h1 h2 vs _ h3 => ⟨h2, keep a _ h3⟩) fun m hm => ?_
      rw [get_cons, if_neg (fun e => by rw [e] at hm; exact absurd (R.lt _ _ hm) (Nat.lt_irrefl _))]
      exact hm
  · by_cases en : n = cs.nx
    · rw [en, updR_same] at h
      cases h
      rw [R.freeB hp]
      exact fun z => nomatch z
    · rw [updR_ne p en] at h
      exact R.rb n a vs h
/-- a new list, a cell -/
theorem RC.newC {vs : List V} {xs : List D} (R : RC G T own r F B H cs) (hp : H p = none) (hb : ∀ a, own a → a ≠ p) (hs : Reps G r F vs xs) :
    RC G T own (updR r cs.nx p) F B (upd H p (.lst vs)) ⟨cs.nx + 1, (cs.nx, .lst xs) :: cs.l⟩ ∧ Ext r F B (updR r cs.nx p) F B :=
  R.newCell hp hb (fun _ z => z) (fun b o' e => by rw [upd_ne (ne_of_none e hp)]; exact e) (.inl (by rw [upd_same]; exact fun z => nomatch z)) ⟨p, vs, updR_same _ _, ⟨R.freeF hp, R.freeB hp⟩, upd_same, hs.ext (R.ext_newC p)⟩

theorem get_put (cs : Cs) (n m : Nat) (c : Cell) (h : (cs.get n).isSome = true) : Cs.get ⟨cs.nx, putL cs.l n c⟩ m = if m = n then some c else cs.get m := by
  unfold Cs.get
  rw [lookup_putL]
  by_cases e : m = n
  · rw [if_pos e, if_pos e]
    cases q : cs.l.lookup n with
    | none => unfold Cs.get at h; rw [q] at h; cases h
    | some c' => rfl
  · rw [if_neg e, if_neg e]
theorem tabs_upd {a : Addr} {vs ws : List V} (t : TabsN T H) (ha : H a = some (.lst vs)) : TabsN T (upd H a (.lst ws)) := fun q hq => by
  obtain ⟨ps, h1, h2, h3⟩ := t q hq
  have keep : ∀ b o', H b = some o' → (∀ us, o' ≠ .lst us) → upd H a (.lst ws) b = some o' := fun b o' e n => by
    rw [upd_ne (fun z => by rw [z, ha] at e; exact n vs (Option.some.inj e).symm)]
    exact e
  refine ⟨ps, keep _ _ h1 (fun us z => nomatch z), h2, fun pos cv hc => ?_⟩
  obtain ⟨c, e1, e2⟩ := h3 pos cv hc
  exact ⟨c, e1, keep _ _ e2 (fun us z => by unfold CodeO at z; cases z)⟩
/-- a list cell is written -/
theorem RC.write {n : Nat} {a : Addr} {vs ws : List V} {c c' : Cell} (R : RC G T own r F B H cs) (hn : cs.get n = some c) (hc : ∀ od, c ≠ .box od) (hi : c = .raw → c' = .raw) (hr : r n = some a) (ha : H a = some (.lst vs))
    (new : CellOk G own r F B (upd H a (.lst ws)) ⟨cs.nx, putL cs.l n c'⟩ n c') : RC G T own r F B (upd H a (.lst ws)) ⟨cs.nx, putL cs.l n c'⟩ := by
  have fa : F a = none ∧ B a = none := by
    rcases (R.cell n c hn).at_ with ⟨od, e⟩ | ⟨a', vs', z1, z2, z3⟩
    · exact absurd e (hc od)
    · rw [hr] at z1; cases z1; exact z2
  have is : (cs.get n).isSome = true := by rw [hn]; rfl
  have keep : ∀ b o', H b = some o' → (∀ us, o' ≠ .lst us) → upd H a (.lst ws) b = some o' := fun b o' e nl => by
    rw [upd_ne (fun z => by rw [z, ha] at e; exact nl vs (Option.some.inj e).symm)]
    exact e
  refine ⟨fun b o' h => ?_, fun b o' h => ?_, R.plF, R.frB, R.inj, fun m b h => (R.rng m b h).imp (fun z => ?_) id, R.fresh, ?_, fun m d h => ?_, fun m d h => ?_, tabs_upd R.tabs ha, R.dj, R.rb⟩
  · rw [upd_ne (fun z => by rw [z, fa.1] at h; cases h)]
    exact R.subF b o' h
  · rw [upd_ne (fun z => by rw [z, fa.2] at h; cases h)]
    exact R.subB b o' h
  · by_cases e : b = a
    · rw [e, upd_same]; exact fun z => nomatch z
    · rw [upd_ne e]; exact z
  · show ((putL cs.l n c').map (·.1)).Pairwise (· > ·)
    rw [keys_putL]; exact R.dec
  · rw [get_put cs n m c' is] at h
    by_cases e : m = n
    · rw [e]; exact R.lt n c hn
    · rw [if_neg e] at h; exact R.lt m d h
  · rw [get_put cs n m c' is] at h
    by_cases e : m = n
    · rw [if_pos e] at h
      cases h
      rw [e]; exact new
    · rw [if_neg e] at h
      refine (R.cell m d h).stay (Ext.refl _ _ _) (fun _ z => z) (fun b h1 h2 us _ h3 => ⟨h2, ?_⟩) fun k hk => ?_
      · rw [upd_ne (fun z => e (R.inj m n b h1 (by rw [z]; exact hr)))]
        exact h3
      · rw [get_put cs n k c' is]
        by_cases e2 : k = n
        · rw [if_pos e2]
          rw [e2, hn] at hk; cases hk
          rw [hi rfl]
        · rw [if_neg e2]; exact hk
/-- cells are forgotten -/
theorem RC.less {cs' : Cs} {own' : Addr → Prop} (R : RC G T own r F B H cs) (hx : cs'.nx = cs.nx) (hn : (cs'.l.map (·.1)).Pairwise (· > ·)) (hs : ∀ n c, cs'.get n = some c → cs.get n = some c) (hm : ∀ n m k, cs'.get n = some (.strm m k) → cs'.get m = cs.get m)
    (ho : ∀ a, own a → own' a) : RC G T own' r F B H cs' := by
  have is : ∀ n, (cs'.get n).isSome = true → (cs.get n).isSome = true := fun n h => by
    obtain ⟨c, e⟩ := Option.isSome_iff_exists.mp h
    rw [hs n c e]; rfl
  refine ⟨R.subF, R.subB, R.plF, R.frB, R.inj, fun n a h => (R.rng n a h).imp id (ho a), by rw [hx]; exact R.fresh, hn, fun n c h => by rw [hx]; exact R.lt n c (hs n c h), fun n c h => ?_, R.tabs, R.dj, R.rb⟩
  have k := R.cell n c (hs n c h)
  cases c with
  | lst xs => exact k
  | raw => exact k
  | kd ys => exact k
  | strm m j =>
    obtain ⟨a, b, x, y, z, h1, h2, h3, h4, h5, h6⟩ := k
    exact ⟨a, b, x, y, z, h1, h2, h3, h4, by rw [hm n m j h]; exact h5, h6⟩
  | box od =>
    rcases k with ⟨a, k1, k⟩ | k
    · exact .inl ⟨a, k1, ho a k⟩
    · exact .inr k
theorem lookup_pre {α : Type} : ∀ {pre l : List (Nat × α)} {n : Nat}, n ∉ pre.map (·.1) → (pre ++ l).lookup n = l.lookup n
  | [], _, _, _ => rfl
  | (m, c) :: pre, l, n, h => by
    have e : n ≠ m := fun e => h (by rw [e]; exact List.mem_cons_self)
    have z : (n == m) = false := by simpa using e
    show List.lookup n ((m, c) :: (pre ++ l)) = _
    simp only [List.lookup, z]
    exact lookup_pre fun q => h (List.mem_cons_of_mem _ q)
theorem dec_remL (l : List (Nat × Cell)) (n : Nat) (h : (l.map (·.1)).Pairwise (· > ·)) : ((remL l n).map (·.1)).Pairwise (· > ·) := by
  induction l with
  | nil => exact h
  | cons p q ih =>
    obtain ⟨m, c⟩ := p
    obtain ⟨h1, h2⟩ := List.pairwise_cons.mp h
    unfold remL
    by_cases e : n = m
    · rw [if_pos e]; exact h2
    · rw [if_neg e]
      exact List.pairwise_cons.mpr ⟨fun z hz => h1 z (keys_remL q n _ hz), ih h2⟩
/-- the youngest cells are forgotten -/
theorem RC.trunc (R : RC G T own r F B H cs) (b : Nat) : RC G T own r F B H ⟨cs.nx, truncL b cs.l⟩ := by
  obtain ⟨pre, e⟩ := truncL_sub b cs.l
  have hd := R.dec
  rw [e, List.map_append] at hd
  obtain ⟨d1, d2, d3⟩ := List.pairwise_append.mp hd
  have sub : ∀ n c, Cs.get ⟨cs.nx, truncL b cs.l⟩ n = some c → cs.get n = some c := fun n c h => lookup_truncL R.nd h
  refine R.less rfl d2 sub (fun n m k h => ?_) fun _ z => z
  -- a stream's list is older than the stream
  have hn := sub _ _ h
  obtain ⟨a, a2, x, y, z, h1, _, h3, _, h5, hlt, _⟩ := R.cell n _ hn
  have hmem : n ∈ (truncL b cs.l).map (·.1) := lookup_memN h
  show (truncL b cs.l).lookup m = cs.l.lookup m
  have np : m ∉ pre.map (·.1) := fun hm => by
    have := d3 m hm n hmem
    omega
  exact ((lookup_pre np).symm.trans (by rw [← e]))
/-- a list cell becomes a frozen list -/
theorem RC.freeze {n : Nat} {xs : List D} (R : RC G T own r F B H cs) (hn : cs.get n = some (.lst xs)) : ∃ a F', Ext r F B r F' B ∧ RC G T own r F' B H ⟨cs.nx, remL cs.l n⟩ ∧ r n = some a ∧ Rep G r F' (.ref a) (.lst xs) := by
  obtain ⟨a, vs, h1, h2, h3, h4⟩ := R.cell n _ hn
  have E : Ext r F B r (upd F a (.lst vs)) B := ext_newF h2.1
  have get' : ∀ m, Cs.get ⟨cs.nx, remL cs.l n⟩ m = if m = n then none else cs.get m := fun m => lookup_remL cs.l n m R.nd
  have some' : ∀ m c, Cs.get ⟨cs.nx, remL cs.l n⟩ m = some c → m ≠ n ∧ cs.get m = some c := fun m c h => by
    rw [get' m] at h
    by_cases e : m = n
    · rw [if_pos e] at h; cases h
    · rw [if_neg e] at h; exact ⟨e, h⟩
  refine ⟨a, upd F a (.lst vs), E, ⟨fun b o' h => ?_, R.subB, fun b o' h => ?_, R.frB, R.inj, R.rng, R.fresh, dec_remL _ _ R.dec, fun m c h => R.lt m c (some' m c h).2, fun m c h => ?_, R.tabs, fun b o h => by rw [upd_ne (fun z => by rw [z, h2.2] at h; cases h)]; exact R.dj b o h, R.rb⟩, h1, .lst upd_same (h4.ext E)⟩
  · by_cases e : b = a
    · rw [e, upd_same] at h; cases h; rw [e]; exact h3
    · rw [upd_ne e] at h; exact R.subF b o' h
  · by_cases e : b = a
    · rw [e, upd_same] at h; cases h; trivial
    · rw [upd_ne e] at h; exact R.plF b o' h
  · obtain ⟨e, h⟩ := some' m c h
    refine (R.cell m c h).stay E (fun _ z => z) (fun b q1 q2 us _ q3 => ⟨⟨?_, q2.2⟩, q3⟩) fun k hk => ?_
    · rw [upd_ne (fun z => e (R.inj m n b q1 (by rw [z]; exact h1)))]
      exact q2.1
    · rw [get' k, if_neg (fun z => by rw [z, hn] at hk; cases hk)]
      exact hk
end

/-! ### the frame -/
/-- the names' own cells are not tracked -/
def OwnFree (X : Cx) (H : Hp) : Prop := ∀ x c, X.env.cells.lookup x = some c → H c = none
/-- the cell of the name in slot i -/
def bAddr (X : Cx) (i : Nat) : Option Addr := match X.N[i]? with
  | some x => X.env.cells.lookup x
  | none => none
def ownB (X : Cx) (bx : List Nat) : Addr → Prop := fun a => ∃ i ∈ bx, bAddr X i = some a
/-- the state of a frame: bx, the slots that are boxes -/
structure RL (G : Gs) (T : List NTab) (X : Cx) (bx : List Nat) (r : Nat → Option Addr) (F B : Hp) (σ : L2.St) (H : Hp) (ds : Env) (cs : Cs) : Prop where
  rc : RC G T (ownB X bx) r F B H cs
  slot : ∀ i d, i ∉ bx → ds[i]? = some (some d) → ∃ v, σ[i]? = some (some v) ∧ Rep G r F v d
  boxs : ∀ i ∈ bx, ∃ n a, ds[i]? = some (some (.cel n)) ∧ bAddr X i = some a ∧ r n = some a ∧ ∀ m ce, r m = some a → cs.get m = some ce → ∃ od, ce = .box od ∧ ∀ d, od = some d → ∃ v, σ[i]? = some (some v) ∧ Rep G r F v d
  binj : ∀ i ∈ bx, ∀ j ∈ bx, ∀ a, bAddr X i = some a → bAddr X j = some a → i = j
  len : ds.length = σ.length
  kf : G.Kf = X.K
end Ev

set_option Elab.async false
set_option linter.all false
set_option maxRecDepth 100000
set_option maxHeartbeats 2000000
/-! Ev3: the judgements; expressions -/
namespace Ev
open PySem PySem.Spec PyProof.Rows L2 LamX NdefX

/-- what is fixed for a frame's text -/
structure Cxt where
  G : Gs
  T : List NTab
  cal : Cal
  cls : Nat → Value
  bx : List Nat
  W : WX

def ExcOk (c : Cxt) (r : Nat → Option Addr) (F H : Hp) (n : Nat) (fs : List (Str × D)) (cls : Value) (dd : Option Addr) : Prop :=
  (cls = c.cls n ∧ cls ≠ .none) ∧ ((fs = [] ∧ dd = none) ∨ ∃ d fvs, dd = some d ∧ F d = some (.xd fvs) ∧ Paired (fun (p : Str × V) (q : Str × D) => p.1 = q.1 ∧ Rep c.G r F p.2 q.2) fvs fs)
abbrev ownQ (X : Cx) (Q : VK) : VK := fun v H => OwnFree X H → Q v H
section
variable (c : Cxt) (X : Cx)
abbrev RS (r : Nat → Option Addr) (F B : Hp) (σ : L2.St) (H : Hp) (ds : Env) (cs : Cs) : Prop := RL c.G c.T X c.bx r F B σ H ds cs
def Kok (r : Nat → Option Addr) (F B : Hp) (σ : L2.St) (ds : Env) (K : KE) (Q : VK) : Prop :=
  ∀ r' F' B' H' v d cs', Ext r F B r' F' B' → RS c X r' F' B' σ H' ds cs' → Rep c.G r' F' v d → K d cs' = true → Q v H'
def Xok (r : Nat → Option Addr) (F B : Hp) (σ : L2.St) (ds : Env) (x : KX) : Prop :=
  ∀ n fs r' F' B' H' cls dd cs', Ext r F B r' F' B' → RS c X r' F' B' σ H' ds cs' → ExcOk c r' F' H' n fs cls dd → x n fs cs' = true → c.W cls dd σ H'
def tE (m : ME) : TE := fun σ H Q => ∃ r F B ds cs K x, m c.cal ds cs K x = true ∧ RS c X r F B σ H ds cs ∧ Kok c X r F B σ ds K Q ∧ Xok c X r F B σ ds x
/-- a value's test -/
def tT (m : MT) : TT := fun σ H Q => ∃ r F B ds cs K x, m c.cal ds cs K x = true ∧ RS c X r F B σ H ds cs ∧
  (∀ r' F' B' H' b cs', Ext r F B r' F' B' → RS c X r' F' B' σ H' ds cs' → K b cs' = true → Q b H') ∧ Xok c X r F B σ ds x
def tA (m : MA) : TA := fun σ H Q => ∃ r F B ds cs K x, m c.cal ds cs K x = true ∧ RS c X r F B σ H ds cs ∧
  (∀ r' F' B' H' vs us cs', Ext r F B r' F' B' → RS c X r' F' B' σ H' ds cs' → Reps c.G r' F' vs us → K us cs' = true → Q vs H') ∧ Xok c X r F B σ ds x
def XE (e : Expr) (m : ME) : Prop := PE X e (tE c X m)
def XT (e : Expr) (m : MT) : Prop := PT X e (tT c X m)
def XA (es : List Expr) (m : MA) : Prop := PA X es (tA c X m)
end
section
variable {c : Cxt} {X : Cx} {e a b : Expr} {pos : Pos} {r : Nat → Option Addr} {F B H : Hp} {σ : L2.St} {ds : Env} {cs : Cs} {K : KE} {x : KX} {Q : VK} {m ma mb : ME}
theorem Xok.ext {r' F' B'} (h : Xok c X r F B σ ds x) (e : Ext r F B r' F' B') : Xok c X r' F' B' σ ds x :=
  fun n fs r'' F'' B'' H' cls dd cs' e' => h n fs r'' F'' B'' H' cls dd cs' (e.trans e')
theorem Kok.ext {r' F' B'} (h : Kok c X r F B σ ds K Q) (e : Ext r F B r' F' B') : Kok c X r' F' B' σ ds K Q :=
  fun r'' F'' B'' H' v d cs' e' => h r'' F'' B'' H' v d cs' (e.trans e')
theorem Inv.ownFree {pins : List (Addr × Obj)} {s : Shared} (I : Inv X pins σ H s) : OwnFree X H := fun y c e => I.freeC y c e
theorem pe_own {t : TE} (h : PE X e t) : PE X e (fun σ H Q => t σ H (ownQ X Q)) := ⟨fun pins s σ H Q I q =>
  thn (h.run pins s σ H _ I q) fun u s' ⟨v, H', I', rv, q'⟩ => ⟨v, H', I', rv, q' (Inv.ownFree I')⟩⟩
theorem pt_own {t : TT} (h : PT X e t) : PT X e (fun σ H Q => t σ H fun b H => OwnFree X H → Q b H) := ⟨fun pins s σ H Q I q =>
  thn (h.run pins s σ H _ I q) fun u s' ⟨H', I', q'⟩ => ⟨H', I', q' (Inv.ownFree I')⟩⟩
theorem pe_imp {t t' : TE} (h : PE X e t) (i : ∀ σ H Q, t' σ H Q → t σ H Q) : PE X e t' := ⟨fun pins s σ H Q I q => h.run pins s σ H Q I (i σ H Q q)⟩
theorem pt_imp {t t' : TT} (h : PT X e t) (i : ∀ σ H Q, t' σ H Q → t σ H Q) : PT X e t' := ⟨fun pins s σ H Q I q => h.run pins s σ H Q I (i σ H Q q)⟩
theorem pa_imp {es : List Expr} {t t' : TA} (h : PA X es t) (i : ∀ σ H Q, t' σ H Q → t σ H Q) : PA X es t' := ⟨fun pos pins s σ H Q I q => h.run pos pins s σ H Q I (i σ H Q q)⟩
/-- by a rule of the hand layer -/
theorem XE.mk {t : TE} (h : PE X e t) (q : ∀ r F B σ H ds cs K x Q, m c.cal ds cs K x = true → RS c X r F B σ H ds cs → Kok c X r F B σ ds K Q → Xok c X r F B σ ds x → t σ H (ownQ X Q)) : XE c X e m :=
  pe_imp (pe_own h) fun σ H Q ⟨r, F, B, ds, cs, K, x, hm, R, k, xk⟩ => q r F B σ H ds cs K x Q hm R k xk
theorem XT.mk {t : TT} {m : MT} (h : PT X e t) (q : ∀ r F B σ H ds cs K x (Q : Bool → Hp → Prop), m c.cal ds cs K x = true → RS c X r F B σ H ds cs →
    (∀ r' F' B' H' b cs', Ext r F B r' F' B' → RS c X r' F' B' σ H' ds cs' → K b cs' = true → Q b H') → Xok c X r F B σ ds x → t σ H (fun b H => OwnFree X H → Q b H)) : XT c X e m :=
  pt_imp (pt_own h) fun σ H Q ⟨r, F, B, ds, cs, K, x, hm, R, k, xk⟩ => q r F B σ H ds cs K x Q hm R k xk
theorem tE.of (hm : m c.cal ds cs K x = true) (R : RS c X r F B σ H ds cs) (k : Kok c X r F B σ ds K Q) (xk : Xok c X r F B σ ds x) : tE c X m σ H Q := ⟨r, F, B, ds, cs, K, x, hm, R, k, xk⟩
theorem tA.of {m : MA} {K : List D → Cs → Bool} {Q : List V → Hp → Prop} (hm : m c.cal ds cs K x = true) (R : RS c X r F B σ H ds cs)
    (k : ∀ r' F' B' H' vs us cs', Ext r F B r' F' B' → RS c X r' F' B' σ H' ds cs' → Reps c.G r' F' vs us → K us cs' = true → Q vs H') (xk : Xok c X r F B σ ds x) : tA c X m σ H Q := ⟨r, F, B, ds, cs, K, x, hm, R, k, xk⟩
theorem tT.of {m : MT} {K : Bool → Cs → Bool} {Q : Bool → Hp → Prop} (hm : m c.cal ds cs K x = true) (R : RS c X r F B σ H ds cs)
    (k : ∀ r' F' B' H' b cs', Ext r F B r' F' B' → RS c X r' F' B' σ H' ds cs' → K b cs' = true → Q b H') (xk : Xok c X r F B σ ds x) : tT c X m σ H Q := ⟨r, F, B, ds, cs, K, x, hm, R, k, xk⟩

/-! ### names, constants -/
def mVar (i : Nat) : ME := fun _ e cs k _ => nthE e i fun d => k d cs
def mVarB (i : Nat) : ME := fun _ e cs k _ => nthE e i fun d => match d with
  | .cel n => getC cs.l n fun b => match b with
    | .box (some d) => k d cs
    | _ => false
  | _ => false
def mC (d : D) : ME := fun _ _ cs k _ => k d cs
theorem xe_var {i : Nat} {y : Str} (hN : X.N[i]? = some y) (hv : Vis X.env.scope y) (hb : i ∉ c.bx) (hd : (y == ("__debug__" : Str)) = false := by decide) (hcd : (y == ("__classdict__" : Str)) = false := by decide) : XE c X (.Name y pos) (mVar i) :=
  XE.mk (pe_var (i := i) hN hv hd hcd) fun r F B σ H ds cs K x Q hm R k xk => by
    obtain ⟨d, h1, h2⟩ := nthE_true hm
    obtain ⟨v, h3, h4⟩ := R.slot i d hb h1
    exact ⟨v, h3, fun _ => k _ _ _ _ _ _ _ (Ext.refl _ _ _) R h4 h2⟩
theorem xe_varB {i : Nat} {y : Str} (hN : X.N[i]? = some y) (hv : Vis X.env.scope y) (hb : i ∈ c.bx) (hd : (y == ("__debug__" : Str)) = false := by decide) (hcd : (y == ("__classdict__" : Str)) = false := by decide) : XE c X (.Name y pos) (mVarB i) :=
  XE.mk (pe_var (i := i) hN hv hd hcd) fun r F B σ H ds cs K x Q hm R k xk => by
    obtain ⟨d, h1, h2⟩ := nthE_true hm
    obtain ⟨n, a, e1, _, e4, e5⟩ := R.boxs i hb
    rw [e1] at h1
    cases h1
    obtain ⟨b, q1, q2⟩ := getC_true h2
    obtain ⟨od, q3, e6⟩ := e5 _ _ e4 q1
    subst q3
    cases od with
    | none => cases q2
    | some d =>
      obtain ⟨v, h3, h4⟩ := e6 d rfl
      exact ⟨v, h3, fun _ => k _ _ _ _ _ _ _ (Ext.refl _ _ _) R h4 q2⟩
theorem xe_C {v : V} {d : D} (h : PE X e (tC v)) (hr : ∀ r F, Rep c.G r F v d) : XE c X e (mC d) :=
  XE.mk h fun r F B σ H ds cs K x Q hm R k xk => fun _ => k _ _ _ _ _ _ _ (Ext.refl _ _ _) R (hr _ _) hm
theorem xe_int {i : Int} {j} : XE c X (.Constant (.int i) j pos) (mC (.int i)) := xe_C pe_int fun _ _ => .int i
theorem xe_bl {b : Bool} {j} : XE c X (.Constant (.bool b) j pos) (mC (.bl b)) := xe_C pe_bl fun _ _ => .bl b
theorem xe_non {j} : XE c X (.Constant .none j pos) (mC .non) := xe_C pe_non fun _ _ => .non
theorem xe_str {s : Str} {j} : XE c X (.Constant (.str s) j pos) (mC (.str s)) := xe_C pe_str fun _ _ => .str s

/-! ### two values -/
abbrev O2 := D → D → Cs → KE → Bool
def mOp (o : O2) (a b : ME) : ME := fun f e cs k x => a f e cs (fun u cs1 => b f e cs1 (fun v cs2 => o u v cs2 k) x) x
/-- the operation o on trees does what the rule asks -/
def O2ok (c : Cxt) (X : Cx) (r2 : R2) (o : O2) : Prop :=
  ∀ r F B σ H ds cs K Q v w d e, RS c X r F B σ H ds cs → Rep c.G r F v d → Rep c.G r F w e → o d e cs K = true → Kok c X r F B σ ds K Q → r2 v w H (ownQ X Q)
theorem op_read {r2 : R2} {o : O2} (ok : O2ok c X r2 o) {hm : mOp o ma mb c.cal ds cs K x = true} (R : RS c X r F B σ H ds cs) (k : Kok c X r F B σ ds K Q) (xk : Xok c X r F B σ ds x) : tOp r2 (tE c X ma) (tE c X mb) σ H (ownQ X Q) := by
  refine tE.of hm R (fun r1 F1 B1 H1 v d cs1 E1 R1 hv h1 => ?_) xk
  refine tE.of h1 R1 (fun r2' F2 B2 H2 w d2 cs2 E2 R2 hw h2 => ?_) (xk.ext E1)
  exact ok _ _ _ _ _ _ _ _ _ _ _ _ _ R2 (hv.ext E2) hw h2 (k.ext (E1.trans E2))
theorem xe_op {op : Operator} {r2 : R2} {o : O2} (ho : OpR X (binaryOp op) r2) (ok : O2ok c X r2 o) (ha : XE c X a ma) (hb : XE c X b mb) : XE c X (.BinOp a op b pos) (mOp o ma mb) :=
  XE.mk (pe_op ho ha hb) fun r F B σ H ds cs K x Q hm R k xk => op_read ok (hm := hm) R k xk
theorem xe_cmp {op : CmpOp} {r2 : R2} {o : O2} (ho : OpR X (compareOp op) r2) (ok : O2ok c X r2 o) (ha : XE c X a ma) (hb : XE c X b mb) (hm : behindInMarks op b = false) : XE c X (.Compare a [op] [b] pos) (mOp o ma mb) :=
  XE.mk (pe_cmpR ho ha hb hm) fun r F B σ H ds cs K x Q hm R k xk => op_read ok (hm := hm) R k xk
/-- ints in, an int out -/
def oI (f : Int → Int → Int) : O2 := fun u v cs k => match u, v with
  | .int i, .int j => fInt (f i j) fun z => k (.int z) cs
  | _, _ => false
def oIc (g : Int → Int → Bool) (f : Int → Int → Int) : O2 := fun u v cs k => match u, v with
  | .int i, .int j => (match g i j with
    | true => fInt (f i j) fun z => k (.int z) cs
    | false => false)
  | _, _ => false
def oB (f : Int → Int → Bool) : O2 := fun u v cs k => match u, v with
  | .int i, .int j => fBool (f i j) fun z => k (.bl z) cs
  | _, _ => false
theorem Rep.int_inv {G : Gs} {v : V} {i : Int} (h : Rep G r F v (.int i)) : v = .int i := by cases h; rfl
theorem oI_ok (f : Int → Int → Int) : O2ok c X (rI0 fun i j => .int (f i j)) (oI f) := by
  intro r F B σ H ds cs K Q v w d e R hv hw h k
  unfold oI at h
  split at h
  · rw [fInt_eq] at h
    exact ⟨_, _, hv.int_inv, hw.int_inv, fun _ => k _ _ _ _ _ _ _ (Ext.refl _ _ _) R (.int _) h⟩
  · cases h
theorem oIc_ok {C : Int → Int → Prop} {g : Int → Int → Bool} (f : Int → Int → Int) (hg : ∀ i j, g i j = true → C i j) : O2ok c X (rI C fun i j => .int (f i j)) (oIc g f) := by
  intro r F B σ H ds cs K Q v w d e R hv hw h k
  unfold oIc at h
  split at h
  · rename_i i j
    cases q : g i j with
    | false => rw [q] at h; cases h
    | true =>
      rw [q] at h
      dsimp only at h
      rw [fInt_eq] at h
      exact ⟨_, _, hv.int_inv, hw.int_inv, hg _ _ q, fun _ => k _ _ _ _ _ _ _ (Ext.refl _ _ _) R (.int _) h⟩
  · cases h
theorem oB_ok (f : Int → Int → Bool) : O2ok c X (rI0 fun i j => .bl (f i j)) (oB f) := by
  intro r F B σ H ds cs K Q v w d e R hv hw h k
  unfold oB at h
  split at h
  · rw [fBool_eq] at h
    exact ⟨_, _, hv.int_inv, hw.int_inv, fun _ => k _ _ _ _ _ _ _ (Ext.refl _ _ _) R (.bl _) h⟩
  · cases h
end
end Ev

set_option Elab.async false
set_option linter.all false
set_option maxRecDepth 100000
set_option maxHeartbeats 2000000
/-! Ev4: new things, sequences read, operators -/
namespace Ev
open PySem PySem.Spec PyProof.Rows L2 LamX NdefX

section
variable {c : Cxt} {X : Cx} {e a b : Expr} {pos : Pos} {r : Nat → Option Addr} {F B H : Hp} {σ : L2.St} {ds : Env} {cs : Cs} {K : KE} {x : KX} {Q : VK} {m ma mb : ME} {p : Addr} {o : HO}
theorem RL.newF {G : Gs} {T : List NTab} {bx : List Nat} (R : RL G T X bx r F B σ H ds cs) (hp : H p = none) (ho : PlainO o) : RL G T X bx r (upd F p o) B σ (upd H p o) ds cs ∧ Ext r F B r (upd F p o) B := by
  obtain ⟨q, E⟩ := R.rc.newF hp ho
  refine ⟨⟨q, fun i d h1 h2 => ?_, fun i hi => ?_, R.binj, R.len, R.kf⟩, E⟩
  · obtain ⟨v, h3, h4⟩ := R.slot i d h1 h2
    exact ⟨v, h3, h4.ext E⟩
  · obtain ⟨n, a', h1, h2, h4, h5⟩ := R.boxs i hi
    refine ⟨n, a', h1, h2, h4, fun m ce hm hc => ?_⟩
    obtain ⟨od, e1, h6⟩ := h5 m ce hm hc
    refine ⟨od, e1, fun d e => ?_⟩
    obtain ⟨v, q1, q2⟩ := h6 d e
    exact ⟨v, q1, q2.ext E⟩
theorem ownne {bx : List Nat} (hf : OwnFree X (upd H p o)) : ∀ a, ownB X bx a → a ≠ p := fun a ⟨i, hi, h⟩ e => by
  unfold bAddr at h
  split at h
  · have := hf _ a h
    rw [e, upd_same] at this
    cases this
  · cases h
theorem RL.newC {G : Gs} {T : List NTab} {bx : List Nat} {vs : List V} {xs : List D} (R : RL G T X bx r F B σ H ds cs) (hp : H p = none) (hf : OwnFree X (upd H p (.lst vs))) (hs : Reps G r F vs xs) :
    RL G T X bx (updR r cs.nx p) F B σ (upd H p (.lst vs)) ds ⟨cs.nx + 1, (cs.nx, .lst xs) :: cs.l⟩ ∧ Ext r F B (updR r cs.nx p) F B := by
  obtain ⟨q, E⟩ := R.rc.newC hp (ownne hf) hs
  refine ⟨⟨q, fun i d h1 h2 => ?_, fun i hi => ?_, R.binj, R.len, R.kf⟩, E⟩
  · obtain ⟨v, h3, h4⟩ := R.slot i d h1 h2
    exact ⟨v, h3, h4.ext E⟩
  · obtain ⟨n, a', h1, h2, h4, h5⟩ := R.boxs i hi
    refine ⟨n, a', h1, h2, E.r _ _ h4, fun m ce hm hc => ?_⟩
    have nx : m ≠ cs.nx := fun e => by
      rw [e, updR_same] at hm
      cases hm
      exact ownne hf _ ⟨i, hi, h2⟩ rfl
    rw [get_cons, if_neg nx] at hc
    rw [updR_ne p nx] at hm
    obtain ⟨od, e1, h6⟩ := h5 m ce hm hc
    refine ⟨od, e1, fun d e => ?_⟩
    obtain ⟨v, q1, q2⟩ := h6 d e
    exact ⟨v, q1, q2.ext E⟩
/-- a list cell is written -/
theorem RL.write {G : Gs} {T : List NTab} {bx : List Nat} {n : Nat} {a : Addr} {vs ws : List V} {xs ys : List D} (R : RL G T X bx r F B σ H ds cs) (hn : cs.get n = some (.lst xs)) (hr : r n = some a) (ha : H a = some (.lst vs)) (hs : Reps G r F ws ys) :
    RL G T X bx r F B σ (upd H a (.lst ws)) ds ⟨cs.nx, putL cs.l n (.lst ys)⟩ := by
  have fa : F a = none ∧ B a = none := by
    obtain ⟨a', vs', h1, h2, _⟩ := R.rc.cell n _ hn
    rw [hr] at h1; cases h1; exact h2
  have is : (cs.get n).isSome = true := by rw [hn]; rfl
  refine ⟨R.rc.write hn (fun od e => nomatch e) (fun e => nomatch e) hr ha ⟨a, ws, hr, fa, upd_same, hs⟩, R.slot, fun i hi => ?_, R.binj, R.len, R.kf⟩
  · obtain ⟨n', a', h1, h2, h4, h5⟩ := R.boxs i hi
    refine ⟨n', a', h1, h2, h4, fun m ce hm hc => ?_⟩
    rw [get_put cs n m _ is, if_neg (fun e => by rw [e] at hm; obtain ⟨od, e1, _⟩ := h5 _ _ hm hn; cases e1)] at hc
    exact h5 m ce hm hc
theorem RL.freeze {G : Gs} {T : List NTab} {bx : List Nat} {n : Nat} {xs : List D} (R : RL G T X bx r F B σ H ds cs) (hn : cs.get n = some (.lst xs)) :
    ∃ a F', Ext r F B r F' B ∧ RL G T X bx r F' B σ H ds ⟨cs.nx, remL cs.l n⟩ ∧ r n = some a ∧ Rep G r F' (.ref a) (.lst xs) := by
  obtain ⟨a, F', E, q, h1, h2⟩ := R.rc.freeze hn
  refine ⟨a, F', E, ⟨q, fun i d z1 z2 => ?_, fun i hi => ?_, R.binj, R.len, R.kf⟩, h1, h2⟩
  · obtain ⟨v, h3, h4⟩ := R.slot i d z1 z2
    exact ⟨v, h3, h4.ext E⟩
  · obtain ⟨n', a', z1, z2, z4, z5⟩ := R.boxs i hi
    refine ⟨n', a', z1, z2, z4, fun m ce hm hc => ?_⟩
    have hc : (remL cs.l n).lookup m = some ce := hc
    rw [lookup_remL _ _ _ R.rc.nd] at hc
    by_cases e : m = n
    · rw [if_pos e] at hc; cases hc
    · rw [if_neg e] at hc
      obtain ⟨od, e1, z6⟩ := z5 m ce hm hc
      refine ⟨od, e1, fun d e => ?_⟩
      obtain ⟨v, q1, q2⟩ := z6 d e
      exact ⟨v, q1, q2.ext E⟩

/-! ### new lists and tuples -/
/-- a new list: a frozen tree, or (pol) a cell -/
def newL (pol : Bool) (xs : List D) (cs : Cs) (k : KE) : Bool := match pol with
  | false => k (.lst xs) cs
  | true => fNat (cs.nx + 1) fun n => k (.cel cs.nx) ⟨n, (cs.nx, .lst xs) :: cs.l⟩
theorem newL_ok {pol : Bool} {xs : List D} {vs : List V} (R : RS c X r F B σ H ds cs) (k : Kok c X r F B σ ds K Q) (hs : Reps c.G r F vs xs) (h : newL pol xs cs K = true) : ∀ p, H p = none → ownQ X Q (.ref p) (upd H p (.lst vs)) := by
  intro p hp hf
  cases pol with
  | false =>
    obtain ⟨R', E⟩ := RL.newF (o := .lst vs) R hp trivial
    exact k _ _ _ _ _ _ _ E R' (.lst upd_same (hs.ext E)) h
  | true =>
    unfold newL at h
    dsimp only at h
    rw [fNat_eq] at h
    obtain ⟨R', E⟩ := RL.newC R hp hf hs
    exact k _ _ _ _ _ _ _ E R' (.cel (updR_same _ _)) h
theorem newT_ok {xs : List D} {vs : List V} (R : RS c X r F B σ H ds cs) (k : Kok c X r F B σ ds K Q) (hs : Reps c.G r F vs xs) (h : K (.tup xs) cs = true) : ∀ p, H p = none → ownQ X Q (.ref p) (upd H p (.tup vs)) := by
  intro p hp hf
  obtain ⟨R', E⟩ := RL.newF (o := .tup vs) R hp trivial
  exact k _ _ _ _ _ _ _ E R' (.tup upd_same (hs.ext E)) h
theorem Reps.length {G : Gs} {vs : List V} {xs : List D} (h : Reps G r F vs xs) : vs.length = xs.length := by
  induction xs generalizing vs with
  | nil => cases h; rfl
  | cons x xs ih => cases h with | cons _ t => simp [ih t]
theorem Reps.append {G : Gs} {ys : List D} {ws : List V} (h2 : Reps G r F ws ys) : ∀ {vs : List V} {xs : List D}, Reps G r F vs xs → Reps G r F (vs ++ ws) (xs ++ ys)
  | _, _, .nil => h2
  | _, _, .cons h t => .cons h (Reps.append h2 t)
theorem Reps.get {G : Gs} : ∀ {vs : List V} {xs : List D} {i : Nat} {d : D}, Reps G r F vs xs → xs[i]? = some d → ∃ v, vs[i]? = some v ∧ Rep G r F v d
  | _, _, _, _, .nil, e => by simp at e
  | _, _, 0, _, .cons h _, e => by simp at e; subst e; exact ⟨_, rfl, h⟩
  | _, _, i + 1, d, .cons _ t, e => by
    obtain ⟨v, h1, h2⟩ := Reps.get (i := i) (d := d) t (by simpa using e)
    exact ⟨v, by simpa using h1, h2⟩
theorem Reps.take {G : Gs} : ∀ (n : Nat) {vs : List V} {xs : List D}, Reps G r F vs xs → Reps G r F (vs.take n) (xs.take n)
  | 0, _, _, _ => .nil
  | _ + 1, _, _, .nil => .nil
  | n + 1, _, _, .cons h t => .cons h (Reps.take n t)
theorem Reps.drop {G : Gs} : ∀ (n : Nat) {vs : List V} {xs : List D}, Reps G r F vs xs → Reps G r F (vs.drop n) (xs.drop n)
  | 0, _, _, h => h
  | _ + 1, _, _, .nil => .nil
  | n + 1, _, _, .cons h t => Reps.drop n t
theorem Reps.set {G : Gs} {v : V} {d : D} (h : Rep G r F v d) : ∀ (n : Nat) {vs : List V} {xs : List D}, Reps G r F vs xs → Reps G r F (vs.set n v) (xs.set n d)
  | _, _, _, .nil => .nil
  | 0, _, _, .cons _ t => .cons h t
  | n + 1, _, _, .cons q t => .cons q (Reps.set h n t)

/-! ### a sequence read: t, a tuple -/
def rdSeq (d : D) (cs : Cs) (k : Bool → List D → Bool) : Bool := match d with
  | .lst xs => k false xs
  | .tup xs => k true xs
  | .cel n => getC cs.l n fun q => match q with
    | .lst xs => k false xs
    | _ => false
  | _ => false
theorem rdSeq_ok2 {G : Gs} {T : List NTab} {own : Addr → Prop} {v : V} {d : D} {k : Bool → List D → Bool} (R : RC G T own r F B H cs) (hv : Rep G r F v d) (h : rdSeq d cs k = true) :
    ∃ a vs xs, v = .ref a ∧ Reps G r F vs xs ∧ ((k false xs = true ∧ H a = some (.lst vs)) ∨ (k true xs = true ∧ TAt G H a vs ∧ d = .tup xs)) := by
  unfold rdSeq at h
  split at h
  · cases hv with
    | lst h1 hs => exact ⟨_, _, _, rfl, hs, .inl ⟨h, R.subF _ _ h1⟩⟩
  · obtain ⟨a, vs, ev, h1, hs⟩ := hv.tupI
    exact ⟨a, vs, _, ev, hs, .inr ⟨h, h1.mono R.subF, rfl⟩⟩
  · obtain ⟨q, q1, q2⟩ := getC_true h
    split at q2
    · cases hv with
      | cel hr =>
        obtain ⟨a, vs, h1, h2, h3, h4⟩ := R.cell _ _ q1
        rw [hr] at h1; cases h1
        exact ⟨_, _, _, rfl, h4, .inl ⟨q2, h3⟩⟩
    · cases q2
  · cases h
theorem rdSeq_ok {G : Gs} {T : List NTab} {own : Addr → Prop} {v : V} {d : D} {k : Bool → List D → Bool} (R : RC G T own r F B H cs) (hv : Rep G r F v d) (h : rdSeq d cs k = true) :
    ∃ a vs xs, v = .ref a ∧ Reps G r F vs xs ∧ ((k false xs = true ∧ H a = some (.lst vs)) ∨ (k true xs = true ∧ TAt G H a vs)) := by
  unfold rdSeq at h
  split at h
  · cases hv with
    | lst h1 hs => exact ⟨_, _, _, rfl, hs, .inl ⟨h, R.subF _ _ h1⟩⟩
  · obtain ⟨a, vs, ev, h1, hs⟩ := hv.tupI
    exact ⟨a, vs, _, ev, hs, .inr ⟨h, h1.mono R.subF⟩⟩
  · obtain ⟨q, q1, q2⟩ := getC_true h
    split at q2
    · cases hv with
      | cel hr =>
        obtain ⟨a, vs, h1, h2, h3, h4⟩ := R.cell _ _ q1
        rw [hr] at h1; cases h1
        exact ⟨_, _, _, rfl, h4, .inl ⟨q2, h3⟩⟩
    · cases q2
  · cases h

/-! ### argument lists, displays -/
def mNil : MA := fun _ _ cs k _ => k [] cs
def mCons (a : ME) (r : MA) : MA := fun f e cs k x => a f e cs (fun u cs1 => r f e cs1 (fun us cs2 => k (u :: us) cs2) x) x
theorem xa_nil : XA c X [] mNil := pa_imp pa_nil fun σ H Q ⟨r, F, B, ds, cs, K, x, hm, R, k, xk⟩ => k _ _ _ _ _ _ _ (Ext.refl _ _ _) R .nil hm
theorem xa_cons {es : List Expr} {mr : MA} (ha : XE c X a ma) (hr : XA c X es mr) (hs : starEach (a :: es) X.env = (false, eval a X.env) :: starEach es X.env := by rfl) : XA c X (a :: es) (mCons ma mr) :=
  pa_imp (pa_cons ha hr hs) fun σ H Q ⟨r, F, B, ds, cs, K, x, hm, R, k, xk⟩ => by
    refine tE.of hm R (fun r1 F1 B1 H1 v d cs1 E1 R1 hv h1 => ?_) xk
    refine tA.of h1 R1 (fun r2 F2 B2 H2 vs us cs2 E2 R2 hvs h2 => ?_) (xk.ext E1)
    exact k _ _ _ _ _ _ _ (E1.trans E2) R2 (.cons (hv.ext E2) hvs) h2
def fits (xs : List D) : Bool := Nat.ble xs.length 1000000
theorem fits_ok {xs : List D} {vs : List V} (h : fits xs = true) (e : vs.length = xs.length) : vs.length < sizeLine ∧ vs.length ≤ sizeLine := by
  have h := Nat.le_of_ble_eq_true h
  rw [sizeLine_eq]
  omega
def mTup (a : MA) : ME := fun f e cs k x => a f e cs (fun us cs1 => match fits us with
  | true => k (.tup us) cs1
  | false => false) x
def mLst (pol : Bool) (a : MA) : ME := fun f e cs k x => a f e cs (fun us cs1 => match fits us with
  | true => newL pol us cs1 k
  | false => false) x
theorem xe_tup {es : List Expr} {x1} {mr : MA} (h : XA c X es mr) : XE c X (.Tuple es x1 pos) (mTup mr) :=
  XE.mk (pe_tup h) fun r F B σ H ds cs K x Q hm R k xk => by
    refine tA.of hm R (fun r1 F1 B1 H1 vs us cs1 E1 R1 hv h1 => ?_) xk
    cases q : fits us with
    | false => rw [q] at h1; cases h1
    | true =>
      rw [q] at h1
      exact ⟨(fits_ok q hv.length).2, newT_ok R1 (k.ext E1) hv h1⟩
theorem xe_lst (pol : Bool) {es : List Expr} {mr : MA} (h : XA c X es mr) : XE c X (.List es pos) (mLst pol mr) :=
  XE.mk (pe_lst h) fun r F B σ H ds cs K x Q hm R k xk => by
    refine tA.of hm R (fun r1 F1 B1 H1 vs us cs1 E1 R1 hv h1 => ?_) xk
    cases q : fits us with
    | false => rw [q] at h1; cases h1
    | true =>
      rw [q] at h1
      exact ⟨(fits_ok q hv.length).2, newL_ok R1 (k.ext E1) hv h1⟩

/-! ### freezing a cell: the same value -/
def mFrz (a : ME) : ME := fun f e cs k x => a f e cs (fun u cs1 => match u with
  | .cel n => getC cs1.l n fun q => match q with
    | .lst xs => delL cs1.l n fun l => k (.lst xs) ⟨cs1.nx, l⟩
    | _ => false
  | _ => k u cs1) x
theorem xe_frz (h : XE c X e m) : XE c X e (mFrz m) :=
  pe_imp h fun σ H Q ⟨r, F, B, ds, cs, K, x, hm, R, k, xk⟩ => by
    refine tE.of hm R (fun r1 F1 B1 H1 v d cs1 E1 R1 hv h1 => ?_) xk
    split at h1
    · obtain ⟨q, q1, q2⟩ := getC_true h1
      split at q2
      · rw [delL_eq] at q2
        obtain ⟨a, F', E, R', hr, hrep⟩ := RL.freeze R1 q1
        cases hv with
        | cel hr2 =>
          rw [hr] at hr2; cases hr2
          exact k _ _ _ _ _ _ _ (E1.trans E) R' hrep q2
      · cases q2
    · exact k _ _ _ _ _ _ _ E1 R1 hv h1
end
end Ev

set_option Elab.async false
set_option linter.all false
set_option maxRecDepth 100000
set_option maxHeartbeats 2000000
/-! Ev5: comparisons, truth, tests, and or not -/
namespace Ev
open PySem PySem.Spec PyProof.Rows L2 LamX NdefX

/-! ### trees as data -/
mutual
def toPD : Nat → Cs → D → Option PyData
  | 0, _, _ => none
  | n + 1, cs, d => match d with
    | .non => some .none
    | .bl b => some (.bool b)
    | .int i => some (.int i)
    | .str s => some (.str s)
    | .lst xs => (toPDs n cs xs).map .list
    | .tup xs => (toPDs n cs xs).map .tuple
    | .cel m => match cs.l.lookup m with
      | some (.lst xs) => (toPDs n cs xs).map .list
      | _ => none
    | _ => none
def toPDs : Nat → Cs → List D → Option (List PyData)
  | 0, _, _ => none
  | n + 1, cs, ds => match ds with
    | [] => some []
    | d :: ds => match toPD n cs d with
      | some p => match toPDs n cs ds with
        | some ps => some (p :: ps)
        | none => none
      | none => none
end
section
variable {c : Cxt} {X : Cx} {e a b : Expr} {pos : Pos} {r : Nat → Option Addr} {F B H : Hp} {σ : L2.St} {ds : Env} {cs : Cs} {K : KE} {x : KX} {Q : VK} {m ma mb : ME} {p : Addr} {o : HO}
mutual
theorem toPD_ok {G : Gs} {T : List NTab} {own : Addr → Prop} (R : RC G T own r F B H cs) (Kf : PySem.W.Frag) (hK : G.Kf = Kf) : ∀ (n : Nat) (d : D) (v : V) (q : PyData), Rep G r F v d → toPD n cs d = some q → Dp Kf H v q
  | 0, _, _, _, _, h => by cases h
  | n + 1, d, v, q, hv, h => by
    unfold toPD at h
    cases hv with
    | non => cases h; exact .non
    | bl b => cases h; exact .bl b
    | int i => cases h; exact .int i
    | str s => cases h; exact .str s
    | lst h1 hs =>
      obtain ⟨ps, e1, e2⟩ := Option.map_eq_some_iff.mp h
      subst e2
      exact .lst (SqL.of (R.subF _ _ h1)) (toPDs_ok R Kf hK n _ _ ps hs e1)
    | tup h1 hs =>
      obtain ⟨ps, e1, e2⟩ := Option.map_eq_some_iff.mp h
      subst e2
      exact .tup (SqT.of (R.subF _ _ h1)) (toPDs_ok R Kf hK n _ _ ps hs e1)
    | ktp h1 =>
      obtain ⟨ps, e1, e2⟩ := Option.map_eq_some_iff.mp h
      subst e2
      exact .tup (TAt.sq (H := H) (.inr ⟨_, h1, rfl⟩) hK) (toPDs_ok R Kf hK n _ _ ps (reps_ints _) e1)
    | dct _ _ => cases h
    | cel hr =>
      dsimp only at h
      split at h
      · rename_i xs q1
        obtain ⟨ps, e1, e2⟩ := Option.map_eq_some_iff.mp h
        subst e2
        obtain ⟨a, vs, z1, z2, z3, z4⟩ := R.cell _ _ q1
        rw [hr] at z1; cases z1
        exact .lst (SqL.of z3) (toPDs_ok R Kf hK n _ _ ps z4 e1)
      · cases h
    | clo _ _ _ _ _ _ => cases h
    | fn g => cases h
theorem toPDs_ok {G : Gs} {T : List NTab} {own : Addr → Prop} (R : RC G T own r F B H cs) (Kf : PySem.W.Frag) (hK : G.Kf = Kf) : ∀ (n : Nat) (ds : List D) (vs : List V) (qs : List PyData), Reps G r F vs ds → toPDs n cs ds = some qs → DpAll Kf H vs qs
  | 0, _, _, _, _, h => by cases h
  | n + 1, ds, vs, qs, hv, h => by
    unfold toPDs at h
    cases hv with
    | nil => cases h; exact .nil
    | cons h1 t =>
      dsimp only at h
      split at h
      · rename_i p e1
        split at h
        · rename_i ps e2
          cases h
          exact .cons (toPD_ok R Kf hK n _ _ p h1 e1) (toPDs_ok R Kf hK n _ _ ps t e2)
        · cases h
      · cases h
end

/-! ### comparisons: a bool comes, nothing is changed -/
abbrev B2 := D → D → Cs → (Bool → Bool) → Bool
def B2ok (c : Cxt) (X : Cx) (r2 : R2) (o : B2) : Prop :=
  ∀ r F B σ H ds cs k v w d e, RS c X r F B σ H ds cs → Rep c.G r F v d → Rep c.G r F w e → o d e cs k = true → ∃ b, k b = true ∧ ∀ Q : VK, Q (.bl b) H → r2 v w H Q
def mCmp (o : B2) (a b : ME) : ME := fun f e cs k x => a f e cs (fun u cs1 => b f e cs1 (fun v cs2 => o u v cs2 fun q => k (.bl q) cs2) x) x
def tCmpM (o : B2) (a b : ME) : MT := fun f e cs k x => a f e cs (fun u cs1 => b f e cs1 (fun v cs2 => o u v cs2 fun q => k q cs2) x) x
theorem xe_cmpB {op : CmpOp} {r2 : R2} {o : B2} (ho : OpR X (compareOp op) r2) (ok : B2ok c X r2 o) (ha : XE c X a ma) (hb : XE c X b mb) (hm : behindInMarks op b = false) : XE c X (.Compare a [op] [b] pos) (mCmp o ma mb) :=
  XE.mk (pe_cmpR ho ha hb hm) fun r F B σ H ds cs K x Q hm R k xk => by
    refine tE.of hm R (fun r1 F1 B1 H1 v d cs1 E1 R1 hv h1 => ?_) xk
    refine tE.of h1 R1 (fun r2' F2 B2 H2 w d2 cs2 E2 R2 hw h2 => ?_) (xk.ext E1)
    obtain ⟨q, h3, h4⟩ := ok _ _ _ _ _ _ _ _ _ _ _ _ R2 (hv.ext E2) hw h2
    exact h4 _ fun _ => k _ _ _ _ _ _ _ (E1.trans E2) R2 (.bl q) h3
theorem xt_cmpB {op : CmpOp} {r2 : R2} {o : B2} (ho : OpR X (compareOp op) r2) (ok : B2ok c X r2 o) (ha : XE c X a ma) (hb : XE c X b mb) (hm : behindInMarks op b = false) : XT c X (.Compare a [op] [b] pos) (tCmpM o ma mb) :=
  XT.mk (pt_cmpR ho ha hb hm) fun r F B σ H ds cs K x Q hm R k xk => by
    refine tE.of hm R (fun r1 F1 B1 H1 v d cs1 E1 R1 hv h1 => ?_) xk
    refine tE.of h1 R1 (fun r2' F2 B2 H2 w d2 cs2 E2 R2 hw h2 => ?_) (xk.ext E1)
    obtain ⟨q, h3, h4⟩ := ok _ _ _ _ _ _ _ _ _ _ _ _ R2 (hv.ext E2) hw h2
    exact h4 _ ⟨q, rfl, fun _ => k _ _ _ _ _ _ (E1.trans E2) R2 h3⟩
/-- a op1 b op2 c -/
def mChain (o1 o2 : B2) (a b d : ME) : ME := fun f e cs k x => a f e cs (fun u cs1 => b f e cs1 (fun v cs2 => o1 u v cs2 fun q => match q with
  | true => d f e cs2 (fun w cs3 => o2 v w cs3 fun q' => k (.bl q') cs3) x
  | false => k (.bl false) cs2) x) x
def tChainM (o1 o2 : B2) (a b d : ME) : MT := fun f e cs k x => a f e cs (fun u cs1 => b f e cs1 (fun v cs2 => o1 u v cs2 fun q => match q with
  | true => d f e cs2 (fun w cs3 => o2 v w cs3 fun q' => k q' cs3) x
  | false => k false cs2) x) x
theorem xe_chain {op op' : CmpOp} {r2 r2' : R2} {o o' : B2} {d : Expr} {md : ME} (ho : OpR X (compareOp op) r2) (ok : B2ok c X r2 o) (ho' : OpR X (compareOp op') r2') (ok' : B2ok c X r2' o') (ha : XE c X a ma) (hb : XE c X b mb) (hd : XE c X d md)
    (hm : lastMarks [op, op'] [b, d] = false := by with_unfolding_all rfl) : XE c X (.Compare a [op, op'] [b, d] pos) (mChain o o' ma mb md) :=
  XE.mk (pe_chain ho ho' ha hb hd hm) fun r F B σ H ds cs K x Q hm R k xk => by
    refine tE.of hm R (fun r1 F1 B1 H1 v d cs1 E1 R1 hv h1 => ?_) xk
    refine tE.of h1 R1 (fun r2' F2 B2 H2 w d2 cs2 E2 R2 hw h2 => ?_) (xk.ext E1)
    obtain ⟨q, h3, h4⟩ := ok _ _ _ _ _ _ _ _ _ _ _ _ R2 (hv.ext E2) hw h2
    refine h4 _ ⟨q, rfl, ?_⟩
    cases q with
    | false => exact fun _ => k _ _ _ _ _ _ _ (E1.trans E2) R2 (.bl false) h3
    | true =>
      refine tE.of h3 R2 (fun r3 F3 B3 H3 z d3 cs3 E3 R3 hz h5 => ?_) (xk.ext (E1.trans E2))
      obtain ⟨q, h6, h7⟩ := ok' _ _ _ _ _ _ _ _ _ _ _ _ R3 (hw.ext E3) hz h5
      exact h7 _ fun _ => k _ _ _ _ _ _ _ ((E1.trans E2).trans E3) R3 (.bl q) h6
theorem xt_chain {op op' : CmpOp} {r2 r2' : R2} {o o' : B2} {d : Expr} {md : ME} (ho : OpR X (compareOp op) r2) (ok : B2ok c X r2 o) (ho' : OpR X (compareOp op') r2') (ok' : B2ok c X r2' o') (ha : XE c X a ma) (hb : XE c X b mb) (hd : XE c X d md)
    (hm : lastMarks [op, op'] [b, d] = false := by with_unfolding_all rfl) : XT c X (.Compare a [op, op'] [b, d] pos) (tChainM o o' ma mb md) :=
  XT.mk (pt_chain ho ho' ha hb hd hm) fun r F B σ H ds cs K x Q hm R k xk => by
    refine tE.of hm R (fun r1 F1 B1 H1 v d cs1 E1 R1 hv h1 => ?_) xk
    refine tE.of h1 R1 (fun r2' F2 B2 H2 w d2 cs2 E2 R2 hw h2 => ?_) (xk.ext E1)
    obtain ⟨q, h3, h4⟩ := ok _ _ _ _ _ _ _ _ _ _ _ _ R2 (hv.ext E2) hw h2
    refine h4 _ ⟨q, rfl, ?_⟩
    cases q with
    | false => exact ⟨false, rfl, fun _ => k _ _ _ _ _ _ (E1.trans E2) R2 h3⟩
    | true =>
      refine tE.of h3 R2 (fun r3 F3 B3 H3 z d3 cs3 E3 R3 hz h5 => ?_) (xk.ext (E1.trans E2))
      obtain ⟨q, h6, h7⟩ := ok' _ _ _ _ _ _ _ _ _ _ _ _ R3 (hw.ext E3) hz h5
      exact h7 _ ⟨q, rfl, fun _ => k _ _ _ _ _ _ ((E1.trans E2).trans E3) R3 h6⟩
/-- ints -/
def bI (f : Int → Int → Bool) : B2 := fun u v _ k => match u, v with
  | .int i, .int j => fBool (f i j) k
  | _, _ => false
theorem bI_ok (f : Int → Int → Bool) : B2ok c X (rI0 fun i j => .bl (f i j)) (bI f) := by
  intro r F B σ H ds cs k v w d e R hv hw h
  unfold bI at h
  split at h
  · rw [fBool_eq] at h
    exact ⟨_, h, fun Q q => ⟨_, _, hv.int_inv, hw.int_inv, q⟩⟩
  · cases h
/-- is None, is not None -/
def bNone (neg : Bool) : B2 := fun u v _ k => match v with
  | .non => (match u with
    | .non => k (!neg)
    | _ => k neg)
  | _ => false
theorem Rep.non_iff {G : Gs} {v : V} {d : D} (h : Rep G r F v d) : decide (v = .non) = (match d with | .non => true | _ => false) := by
  cases h <;> rfl
theorem bNone_is : B2ok c X (fun x y H Q => y = .non ∧ Q (.bl (decide (x = .non))) H) (bNone false) := by
  intro r F B σ H ds cs k v w d e R hv hw h
  unfold bNone at h
  split at h
  · cases hw
    split at h
    · exact ⟨true, h, fun Q q => ⟨rfl, by rw [hv.non_iff]; exact q⟩⟩
    · rename_i hn
      refine ⟨false, h, fun Q q => ⟨rfl, ?_⟩⟩
      rw [hv.non_iff]
      cases d <;> first | exact q | exact absurd rfl hn
  · cases h
theorem bNone_not : B2ok c X (fun x y H Q => y = .non ∧ Q (.bl (!decide (x = .non))) H) (bNone true) := by
  intro r F B σ H ds cs k v w d e R hv hw h
  unfold bNone at h
  split at h
  · cases hw
    split at h
    · exact ⟨false, h, fun Q q => ⟨rfl, by rw [hv.non_iff]; exact q⟩⟩
    · rename_i hn
      refine ⟨true, h, fun Q q => ⟨rfl, ?_⟩⟩
      rw [hv.non_iff]
      cases d <;> first | exact q | exact absurd rfl hn
  · cases h
/-- ==, != of data -/
def bEq (neg : Bool) : B2 := fun u v cs k => match u, v with
  | .int i, .int j => fBool (i == j) fun q => (match neg with | true => k (!q) | false => k q)
  | _, _ => match toPD 60 cs u with
    | some p => (match toPD 60 cs v with
      | some q => (match SeqAt.shaped p && SeqAt.shaped q with
        | true => fBool (PyData.eqv p q) fun z => (match neg with | true => k (!z) | false => k z)
        | false => false)
      | none => false)
    | none => false
theorem bEq_core {Kf : PySem.W.Frag} (hK : c.G.Kf = Kf) {neg : Bool} {k : Bool → Bool} {v w : V} {d e : D} (R : RS c X r F B σ H ds cs) (hv : Rep c.G r F v d) (hw : Rep c.G r F w e) (h : bEq neg d e cs k = true) :
    ∃ p q, Dp Kf H v p ∧ Dp Kf H w q ∧ SeqAt.shaped p = true ∧ SeqAt.shaped q = true ∧ k (if neg then !PyData.eqv p q else PyData.eqv p q) = true := by
  unfold bEq at h
  split at h
  · rename_i i j
    rw [fBool_eq] at h
    cases hv; cases hw
    refine ⟨.int i, .int j, .int i, .int j, by simp [SeqAt.shaped, PyData.canLay0, PyData.depth], by simp [SeqAt.shaped, PyData.canLay0, PyData.depth], ?_⟩
    have e : PyData.eqv (.int i) (.int j) = (i == j) := by simp [PyData.eqv]
    rw [e]
    cases neg <;> exact h
  · split at h
    · rename_i p e1
      split at h
      · rename_i q e2
        split at h
        · rename_i e3
          rw [fBool_eq] at h
          obtain ⟨s1, s2⟩ := Bool.and_eq_true_iff.mp e3
          refine ⟨p, q, toPD_ok R.rc Kf hK _ _ _ _ hv e1, toPD_ok R.rc Kf hK _ _ _ _ hw e2, s1, s2, ?_⟩
          cases neg <;> exact h
        · cases h
      · cases h
    · cases h
theorem bEq_ok : B2ok c X (rEqD X.K) (bEq false) := by
  intro r F B σ H ds cs k v w d e R hv hw h
  obtain ⟨p, q, h1, h2, h3, h4, h5⟩ := bEq_core (Kf := X.K) R.kf R hv hw h
  exact ⟨_, h5, fun Q z => ⟨p, q, h1, h2, h3, h4, z⟩⟩
theorem bNe_ok : B2ok c X (rNeD X.K) (bEq true) := by
  intro r F B σ H ds cs k v w d e R hv hw h
  obtain ⟨p, q, h1, h2, h3, h4, h5⟩ := bEq_core (Kf := X.K) R.kf R hv hw h
  exact ⟨_, h5, fun Q z => ⟨p, q, h1, h2, h3, h4, z⟩⟩
end
/-! ### x in a list or tuple of data -/
def rInD (K : PySem.W.Frag) (neg : Bool) : R2 := fun x y H Q => ∃ d xs z, Dp K H x d ∧ Dp K H y z ∧ (z = .list xs ∨ z = .tuple xs) ∧ SeqAt.shaped d = true ∧ PyData.canLayAll0 xs = true ∧ Q (.bl (if neg then !(xs.any fun y => PyData.eqv y d) else xs.any fun y => PyData.eqv y d)) H
section
variable {c : Cxt} {X : Cx} {e a b : Expr} {pos : Pos} {r : Nat → Option Addr} {F B H : Hp} {σ : L2.St} {ds : Env} {cs : Cs} {K : KE} {x : KX} {Q : VK} {m ma mb : ME} {p : Addr} {o : HO}
theorem op_inD (hu : X.A.units + 128 < cLine) : OpR X (compareOp .In) (rInD X.K false) := by
  intro pins s σ H x y v u Q I rx ry h
  obtain ⟨d, xs, z, hd, hz, ez, sd, sx, q⟩ := h
  obtain ⟨as, r1⟩ := Dp.reads I d x v hd rx
  obtain ⟨bs, r2⟩ := Dp.reads I z y u hz ry
  have hdep := SeqAt.depth_of_shaped sd
  have hmin : min (PyData.depthAll xs) d.depth ≤ d.depth := Nat.min_le_right _ _
  rcases ez with e | e
  · subst e
    exact SeqAt.in_list_reads r2 r1 sx (SeqAt.canLay_of_shaped sd) (by omega) ⟨.bl _, H, I, rfl, q⟩
  · subst e
    exact SeqAt.in_tuple_reads r2 r1 sx (SeqAt.canLay_of_shaped sd) (by omega) ⟨.bl _, H, I, rfl, q⟩
theorem op_notInD (hu : X.A.units + 128 < cLine) : OpR X (compareOp .NotIn) (rInD X.K true) := by
  intro pins s σ H x y v u Q I rx ry h
  obtain ⟨d, xs, z, hd, hz, ez, sd, sx, q⟩ := h
  obtain ⟨as, r1⟩ := Dp.reads I d x v hd rx
  obtain ⟨bs, r2⟩ := Dp.reads I z y u hz ry
  have hdep := SeqAt.depth_of_shaped sd
  have hmin : min (PyData.depthAll xs) d.depth ≤ d.depth := Nat.min_le_right _ _
  rcases ez with e | e
  · subst e
    exact SeqAt.notIn_list_reads r2 r1 sx (SeqAt.canLay_of_shaped sd) (by omega) ⟨.bl _, H, I, rfl, q⟩
  · subst e
    exact SeqAt.notIn_tuple_reads r2 r1 sx (SeqAt.canLay_of_shaped sd) (by omega) ⟨.bl _, H, I, rfl, q⟩
def anyEqv (d : PyData) : List PyData → Bool
  | [] => false
  | y :: ys => match PyData.eqv y d with
    | true => true
    | false => anyEqv d ys
theorem anyEqv_eq (d : PyData) : ∀ ys, anyEqv d ys = ys.any fun y => PyData.eqv y d
  | [] => rfl
  | y :: ys => by
    unfold anyEqv
    rw [List.any_cons]
    cases PyData.eqv y d with
    | true => rfl
    | false => exact anyEqv_eq d ys
def bIn (neg : Bool) : B2 := fun u v cs k => match toPD 60 cs u with
  | some d => (match toPD 60 cs v with
    | some (.list xs) => (match SeqAt.shaped d && PyData.canLayAll0 xs with
      | true => fBool (anyEqv d xs) fun z => (match neg with | true => k (!z) | false => k z)
      | false => false)
    | some (.tuple xs) => (match SeqAt.shaped d && PyData.canLayAll0 xs with
      | true => fBool (anyEqv d xs) fun z => (match neg with | true => k (!z) | false => k z)
      | false => false)
    | _ => false)
  | none => false
theorem bIn_ok (neg : Bool) : B2ok c X (rInD X.K neg) (bIn neg) := by
  intro r F B σ H ds cs k v w d e R hv hw h
  unfold bIn at h
  split at h
  · rename_i q e1
    have h1 := toPD_ok R.rc X.K R.kf _ _ _ _ hv e1
    split at h
    · rename_i xs e2
      have h2 := toPD_ok R.rc X.K R.kf _ _ _ _ hw e2
      split at h
      · rename_i e3
        obtain ⟨s1, s2⟩ := Bool.and_eq_true_iff.mp e3
        rw [fBool_eq, anyEqv_eq] at h
        exact ⟨if neg then !(xs.any fun y => PyData.eqv y q) else xs.any fun y => PyData.eqv y q, by cases neg <;> exact h, fun Q z => ⟨q, xs, _, h1, h2, .inl rfl, s1, s2, z⟩⟩
      · cases h
    · rename_i xs e2
      have h2 := toPD_ok R.rc X.K R.kf _ _ _ _ hw e2
      split at h
      · rename_i e3
        obtain ⟨s1, s2⟩ := Bool.and_eq_true_iff.mp e3
        rw [fBool_eq, anyEqv_eq] at h
        exact ⟨if neg then !(xs.any fun y => PyData.eqv y q) else xs.any fun y => PyData.eqv y q, by cases neg <;> exact h, fun Q z => ⟨q, xs, _, h1, h2, .inr rfl, s1, s2, z⟩⟩
      · cases h
    · cases h
  · cases h

/-! ### truth -/
def truD (d : D) (cs : Cs) (k : Bool → Bool) : Bool := match d with
  | .non => k false
  | .bl b => k b
  | .int i => (match i with
    | .ofNat n => (match n with
      | 0 => k false
      | _ + 1 => k true)
    | .negSucc _ => k true)
  | .str s => (match Nat.ble s.length 1000000 with
    | true => fBool ((s.length : Int) != 0) k
    | false => false)
  | .lst xs => (match xs with
    | [] => k false
    | _ :: _ => k true)
  | .tup xs => (match xs with
    | [] => k false
    | _ :: _ => k true)
  | .dct kvs => (match kvs with
    | [] => k false
    | _ :: _ => k true)
  | .cel n => getC cs.l n fun q => match q with
    | .lst xs => (match xs with
      | [] => k false
      | _ :: _ => k true)
    | _ => false
  | _ => false
theorem truD_ok {G : Gs} {T : List NTab} {own : Addr → Prop} {v : V} {d : D} {k : Bool → Bool} (R : RC G T own r F B H cs) (Kf : PySem.W.Frag) (hK : G.Kf = Kf) (hv : Rep G r F v d) (h : truD d cs k = true) : ∃ b, TruV Kf v H b ∧ k b = true := by
  unfold truD at h
  cases hv with
  | non => exact ⟨false, rfl, h⟩
  | bl b => exact ⟨b, rfl, h⟩
  | int i =>
    dsimp only at h
    cases i with
    | ofNat n =>
      cases n with
      | zero => exact ⟨false, rfl, h⟩
      | succ n => exact ⟨true, by show true = _; simp; omega, h⟩
    | negSucc n => exact ⟨true, by show true = _; simp, h⟩
  | str s =>
    dsimp only at h
    cases q : Nat.ble s.length 1000000 with
    | false => rw [q] at h; cases h
    | true =>
      rw [q] at h
      dsimp only at h
      rw [fBool_eq] at h
      exact ⟨_, ⟨by rw [sizeLine_eq]; have := Nat.le_of_ble_eq_true q; omega, rfl⟩, h⟩
  | lst h1 hs =>
    dsimp only at h
    cases hs with
    | nil => exact ⟨false, .inl ⟨_, SqL.of (R.subF _ _ h1), rfl⟩, h⟩
    | cons _ _ => exact ⟨true, .inl ⟨_, SqL.of (R.subF _ _ h1), rfl⟩, h⟩
  | tup h1 hs =>
    dsimp only at h
    cases hs with
    | nil => exact ⟨false, .inr (.inl ⟨_, SqT.of (R.subF _ _ h1), rfl⟩), h⟩
    | cons _ _ => exact ⟨true, .inr (.inl ⟨_, SqT.of (R.subF _ _ h1), rfl⟩), h⟩
  | @ktp a ns h1 =>
    have sq := TAt.sq (H := H) (.inr ⟨_, h1, rfl⟩) hK
    dsimp only at h
    cases ns with
    | nil => exact ⟨false, .inr (.inl ⟨_, sq, rfl⟩), h⟩
    | cons _ _ => exact ⟨true, .inr (.inl ⟨_, sq, rfl⟩), h⟩
  | dct h1 hs =>
    dsimp only at h
    cases hs with
    | nil => exact ⟨false, .inr (.inr ⟨_, R.subF _ _ h1, rfl⟩), h⟩
    | cons _ _ _ => exact ⟨true, .inr (.inr ⟨_, R.subF _ _ h1, rfl⟩), h⟩
  | cel hr =>
    dsimp only at h
    obtain ⟨q, q1, q2⟩ := getC_true h
    split at q2
    · obtain ⟨a, vs, z1, z2, z3, z4⟩ := R.cell _ _ q1
      rw [hr] at z1; cases z1
      cases z4 with
      | nil => exact ⟨false, .inl ⟨_, SqL.of z3, rfl⟩, q2⟩
      | cons _ _ => exact ⟨true, .inl ⟨_, SqL.of z3, rfl⟩, q2⟩
    · cases q2
  | clo _ _ _ _ _ _ => cases h
  | fn g => cases h

/-! ### tests -/
def tVal (m : ME) : MT := fun f e cs k x => m f e cs (fun d cs1 => truD d cs1 fun b => k b cs1) x
theorem xt_val (h : XE c X e m) (he : ∀ whole, isTrue e X.env whole = (do let v ← whole; standAt e.pos; holding [v] (truthy v)) := by intro _; rfl) : XT c X e (tVal m) :=
  XT.mk (pt_truth h he) fun r F B σ H ds cs K x Q hm R k xk => by
    refine tE.of hm R (fun r1 F1 B1 H1 v d cs1 E1 R1 hv h1 => ?_) xk
    obtain ⟨b, h2, h3⟩ := truD_ok R1.rc X.K R1.kf hv h1
    exact ⟨b, h2, fun _ => k _ _ _ _ _ _ E1 R1 h3⟩
def tNotM (m : MT) : MT := fun f e cs k x => m f e cs (fun b cs1 => k (!b) cs1) x
def tAndM (m m' : MT) : MT := fun f e cs k x => m f e cs (fun b cs1 => match b with
  | true => m' f e cs1 k x
  | false => k false cs1) x
def tOrM (m m' : MT) : MT := fun f e cs k x => m f e cs (fun b cs1 => match b with
  | true => k true cs1
  | false => m' f e cs1 k x) x
theorem xt_not {m : MT} (h : XT c X e m) : XT c X (.UnaryOp .Not e pos) (tNotM m) :=
  pt_imp (pt_not h) fun σ H Q ⟨r, F, B, ds, cs, K, x, hm, R, k, xk⟩ => tT.of hm R (fun r' F' B' H' b cs' E' R' h' => k _ _ _ _ _ _ E' R' h') xk
/-- and, or: whatever the whole -/
def XW (c : Cxt) (X : Cx) (e : Expr) (m : MT) : Prop := PW X e (tT c X m)
theorem xw_and1 {m : MT} (h : XT c X e m) : XW c X (.BoolOp .And [e] pos) m := pw_and1 h
theorem xw_or1 {m : MT} (h : XT c X e m) : XW c X (.BoolOp .Or [e] pos) m := pw_or1 h
theorem pw_imp {e : Expr} {t t' : TT} (h : PW X e t) (i : ∀ σ H Q, t' σ H Q → t σ H Q) : PW X e t' := ⟨fun wh pins s σ H Q I q => h.run wh pins s σ H Q I (i σ H Q q)⟩
theorem xw_and {m m' : MT} {rest : List Expr} (h : XT c X a m) (h' : XW c X (.BoolOp .And (b :: rest) pos) m') : XW c X (.BoolOp .And (a :: b :: rest) pos) (tAndM m m') :=
  pw_imp (pw_and h h') fun σ H Q ⟨r, F, B, ds, cs, K, x, hm, R, k, xk⟩ => tT.of hm R (fun r' F' B' H' q cs' E' R' h' => by
    cases q with
    | true => exact tT.of h' R' (fun r2 F2 B2 H2 b cs2 E2 R2 h2 => k _ _ _ _ _ _ (E'.trans E2) R2 h2) (xk.ext E')
    | false => exact k _ _ _ _ _ _ E' R' h') xk
theorem xw_or {m m' : MT} {rest : List Expr} (h : XT c X a m) (h' : XW c X (.BoolOp .Or (b :: rest) pos) m') : XW c X (.BoolOp .Or (a :: b :: rest) pos) (tOrM m m') :=
  pw_imp (pw_or h h') fun σ H Q ⟨r, F, B, ds, cs, K, x, hm, R, k, xk⟩ => tT.of hm R (fun r' F' B' H' q cs' E' R' h' => by
    cases q with
    | true => exact k _ _ _ _ _ _ E' R' h'
    | false => exact tT.of h' R' (fun r2 F2 B2 H2 b cs2 E2 R2 h2 => k _ _ _ _ _ _ (E'.trans E2) R2 h2) (xk.ext E')) xk
theorem xt_w {m : MT} (h : XW c X e m) : XT c X e m := PW.pt h
/-- a if t else b -/
def mIfE (t : MT) (a b : ME) : ME := fun f e cs k x => t f e cs (fun q cs1 => match q with
  | true => a f e cs1 k x
  | false => b f e cs1 k x) x
theorem xe_if {t : Expr} {mt : MT} (ht : XT c X t mt) (ha : XE c X a ma) (hb : XE c X b mb) : XE c X (.IfExp t a b pos) (mIfE mt ma mb) :=
  pe_imp (pe_ifExp ht ha hb) fun σ H Q ⟨r, F, B, ds, cs, K, x, hm, R, k, xk⟩ => tT.of hm R (fun r' F' B' H' q cs' E' R' h' => by
    cases q with
    | true => exact tE.of h' R' (k.ext E') (xk.ext E')
    | false => exact tE.of h' R' (k.ext E') (xk.ext E')) xk
/-- and, or, not as values -/
def mAndE (a b : ME) : ME := fun f e cs k x => a f e cs (fun u cs1 => truD u cs1 fun q => match q with
  | true => b f e cs1 k x
  | false => k u cs1) x
def mOrE (a b : ME) : ME := fun f e cs k x => a f e cs (fun u cs1 => truD u cs1 fun q => match q with
  | true => k u cs1
  | false => b f e cs1 k x) x
def mNotE (a : ME) : ME := fun f e cs k x => a f e cs (fun u cs1 => truD u cs1 fun q => k (.bl (!q)) cs1) x
theorem xe_one {op} (h : XE c X a m) : XE c X (.BoolOp op [a] pos) m := pe_one h
theorem xe_and {rest : List Expr} (ha : XE c X a ma) (hb : XE c X (.BoolOp .And (b :: rest) pos) mb) : XE c X (.BoolOp .And (a :: b :: rest) pos) (mAndE ma mb) :=
  pe_imp (pe_andT ha hb) fun σ H Q ⟨r, F, B, ds, cs, K, x, hm, R, k, xk⟩ => tE.of hm R (fun r' F' B' H' v d cs' E' R' hv h' => by
    obtain ⟨q, h2, h3⟩ := truD_ok R'.rc X.K R'.kf hv h'
    refine ⟨q, h2, ?_⟩
    cases q with
    | true => exact tE.of h3 R' (k.ext E') (xk.ext E')
    | false => exact k _ _ _ _ _ _ _ E' R' hv h3) xk
theorem xe_or {rest : List Expr} (ha : XE c X a ma) (hb : XE c X (.BoolOp .Or (b :: rest) pos) mb) : XE c X (.BoolOp .Or (a :: b :: rest) pos) (mOrE ma mb) :=
  pe_imp (pe_orT ha hb) fun σ H Q ⟨r, F, B, ds, cs, K, x, hm, R, k, xk⟩ => tE.of hm R (fun r' F' B' H' v d cs' E' R' hv h' => by
    obtain ⟨q, h2, h3⟩ := truD_ok R'.rc X.K R'.kf hv h'
    refine ⟨q, h2, ?_⟩
    cases q with
    | true => exact k _ _ _ _ _ _ _ E' R' hv h3
    | false => exact tE.of h3 R' (k.ext E') (xk.ext E')) xk
theorem xe_not (ha : XE c X a ma) : XE c X (.UnaryOp .Not a pos) (mNotE ma) :=
  pe_imp (pe_notT ha) fun σ H Q ⟨r, F, B, ds, cs, K, x, hm, R, k, xk⟩ => tE.of hm R (fun r' F' B' H' v d cs' E' R' hv h' => by
    obtain ⟨q, h2, h3⟩ := truD_ok R'.rc X.K R'.kf hv h'
    exact ⟨q, h2, k _ _ _ _ _ _ _ E' R' (.bl _) h3⟩) xk
/-- -a -/
def mNeg (a : ME) : ME := fun f e cs k x => a f e cs (fun u cs1 => match u with
  | .int i => fInt (-i) fun j => k (.int j) cs1
  | _ => false) x
theorem xe_neg (ha : XE c X a ma) : XE c X (.UnaryOp .USub a pos) (mNeg ma) :=
  pe_imp (pe_un un_neg ha) fun σ H Q ⟨r, F, B, ds, cs, K, x, hm, R, k, xk⟩ => tE.of hm R (fun r' F' B' H' v d cs' E' R' hv h' => by
    split at h'
    · rw [fInt_eq] at h'
      exact ⟨_, hv.int_inv, k _ _ _ _ _ _ _ E' R' (.int _) h'⟩
    · cases h') xk
end
end Ev

set_option Elab.async false
set_option linter.all false
set_option maxRecDepth 100000
set_option maxHeartbeats 2000000
/-! Ev6: slots written; statements -/
namespace Ev
open PySem PySem.Spec PyProof.Rows L2 LamX NdefX

section
variable {c : Cxt} {X : Cx} {e a b : Expr} {pos : Pos} {r : Nat → Option Addr} {F B H : Hp} {σ : L2.St} {ds : Env} {cs : Cs} {K : KE} {x : KX} {Q : VK} {m ma mb : ME} {p : Addr} {o : HO}
theorem ne_mem {bx : List Nat} {i j : Nat} (hi : i ∉ bx) (hj : j ∈ bx) : i ≠ j := fun e => hi (by rw [e]; exact hj)
theorem RL.set {G : Gs} {T : List NTab} {bx : List Nat} {i : Nat} {v : V} {d : D} (R : RL G T X bx r F B σ H ds cs) (hi : i ∉ bx) (hv : Rep G r F v d) : RL G T X bx r F B (σ.set i (some v)) H (ds.set i (some d)) cs := by
  refine ⟨R.rc, fun j d' hj h => ?_, fun j hj => ?_, R.binj, by rw [List.length_set, List.length_set]; exact R.len, R.kf⟩
  · by_cases e : i = j
    · subst e
      by_cases hl : i < ds.length
      · rw [List.getElem?_set_self hl] at h
        cases h
        exact ⟨v, by rw [List.getElem?_set_self (by rw [← R.len]; exact hl)], hv⟩
      · rw [List.getElem?_eq_none (by rw [List.length_set]; omega)] at h
        cases h
    · rw [List.getElem?_set_ne e] at h
      rw [List.getElem?_set_ne e]
      exact R.slot j d' hj h
  · have e : i ≠ j := (ne_mem hi hj)
    obtain ⟨n, cc, h1, h2, h4, h5⟩ := R.boxs j hj
    refine ⟨n, cc, by rw [List.getElem?_set_ne e]; exact h1, h2, h4, fun m ce hm hc => ?_⟩
    rw [List.getElem?_set_ne e]
    exact h5 m ce hm hc
/-- a slot's value is forgotten -/
theorem RL.unset {G : Gs} {T : List NTab} {bx : List Nat} {i : Nat} (R : RL G T X bx r F B σ H ds cs) (hi : i ∉ bx) : RL G T X bx r F B (σ.set i none) H (ds.set i none) cs := by
  refine ⟨R.rc, fun j d' hj h => ?_, fun j hj => ?_, R.binj, by rw [List.length_set, List.length_set]; exact R.len, R.kf⟩
  · by_cases e : i = j
    · subst e
      by_cases hl : i < ds.length
      · rw [List.getElem?_set_self hl] at h
        cases h
      · rw [List.getElem?_eq_none (by rw [List.length_set]; omega)] at h
        cases h
    · rw [List.getElem?_set_ne e] at h
      rw [List.getElem?_set_ne e]
      exact R.slot j d' hj h
  · have e : i ≠ j := (ne_mem hi hj)
    obtain ⟨n, cc, h1, h2, h4, h5⟩ := R.boxs j hj
    refine ⟨n, cc, by rw [List.getElem?_set_ne e]; exact h1, h2, h4, fun m ce hm hc => ?_⟩
    rw [List.getElem?_set_ne e]
    exact h5 m ce hm hc
theorem get_putM (cs : Cs) (n m : Nat) (c : Cell) : Cs.get ⟨cs.nx, putL cs.l n c⟩ m = if m = n then (cs.get n).map (fun _ => c) else cs.get m := by
  unfold Cs.get
  exact lookup_putL _ _ _ _
/-- an own box is written -/
theorem RC.writeB {G : Gs} {T : List NTab} {own : Addr → Prop} {n : Nat} {a : Addr} {od od' : Option D} (R : RC G T own r F B H cs) (ha : r n = some a) (ho : own a) (hn : cs.get n = some (.box od)) : RC G T own r F B H ⟨cs.nx, putL cs.l n (.box od')⟩ := by
  have is' : (cs.get n).isSome = true := by rw [hn]; rfl
  have is : ∀ m, (Cs.get ⟨cs.nx, putL cs.l n (.box od')⟩ m).isSome = true → (cs.get m).isSome = true := fun m h => by
    rw [get_put cs n m _ is'] at h
    by_cases e : m = n
    · rw [e]; exact is'
    · rw [if_neg e] at h; exact h
  refine ⟨R.subF, R.subB, R.plF, R.frB, R.inj, R.rng, R.fresh, ?_, fun m d h => ?_, fun m d h => ?_, R.tabs, R.dj, R.rb⟩
  · show ((putL cs.l n _).map (·.1)).Pairwise (· > ·)
    rw [keys_putL]; exact R.dec
  · obtain ⟨c', e⟩ := Option.isSome_iff_exists.mp (is m (by rw [h]; rfl))
    exact R.lt m c' e
  · rw [get_put cs n m _ is'] at h
    by_cases e : m = n
    · rw [if_pos e] at h
      cases h
      exact .inl ⟨a, by rw [e]; exact ha, ho⟩
    · rw [if_neg e] at h
      refine (R.cell m d h).stay (Ext.refl _ _ _) (fun _ z => z) (fun b h1 h2 us _ h3 => ⟨h2, h3⟩) fun k hk => ?_
      rw [get_put cs n k _ is']
      by_cases e2 : k = n
      · rw [e2, hn] at hk
        cases hk
      · rw [if_neg e2]; exact hk
theorem RL.setB {G : Gs} {T : List NTab} {bx : List Nat} {i n : Nat} {v : V} {d : D} {ce : Cell} (R : RL G T X bx r F B σ H ds cs) (hi : i ∈ bx) (hn : ds[i]? = some (some (.cel n))) (hl : cs.get n = some ce) (hv : Rep G r F v d) : RL G T X bx r F B (σ.set i (some v)) H ds ⟨cs.nx, putL cs.l n (.box (some d))⟩ := by
  obtain ⟨n', a, h1, h2, h4, h5⟩ := R.boxs i hi
  rw [hn] at h1; cases h1
  obtain ⟨od, e, _⟩ := h5 n ce h4 hl
  subst e
  have is' : (cs.get n).isSome = true := by rw [hl]; rfl
  refine ⟨R.rc.writeB h4 ⟨i, hi, h2⟩ hl, fun j d' hj h => ?_, fun j hj => ?_, R.binj, by rw [List.length_set]; exact R.len, R.kf⟩
  · have e : i ≠ j := fun e => hj (e ▸ hi)
    rw [List.getElem?_set_ne e]
    exact R.slot j d' hj h
  · obtain ⟨m, a', q1, q2, q4, q5⟩ := R.boxs j hj
    refine ⟨m, a', q1, q2, q4, fun k ce hk hc => ?_⟩
    rw [get_put cs n k _ is'] at hc
    by_cases e : k = n
    · rw [if_pos e] at hc
      cases hc
      have eij : j = i := R.binj j hj i hi _ q2 (by rw [e, h4] at hk; cases hk; exact h2)
      refine ⟨some d, rfl, fun d' ed => ?_⟩
      cases ed
      refine ⟨v, ?_, hv⟩
      rw [eij, List.getElem?_set_self]
      rw [← R.len]
      exact (List.getElem?_eq_some_iff.mp hn).1
    · rw [if_neg e] at hc
      have eij : i ≠ j := fun z => by
        subst z
        rw [q2] at h2
        cases h2
        exact e (R.rc.inj k n _ hk h4)
      rw [List.getElem?_set_ne eij]
      exact q5 k ce hk hc
end

/-! ### statements, with the slots at a return -/
structure Ends2 where
  nx : L2.St → Hp → Prop
  rt : V → L2.St → Hp → Prop
  bk : L2.St → Hp → Prop := fun _ _ => False
  ct : L2.St → Hp → Prop := fun _ _ => False
abbrev TS2 := Ends2 → L2.St → Hp → Prop
def SP2 (X : Cx) (pins : List (Addr × Obj)) (D : Ends2) (f : Flow) (s' : Shared) : Prop :=
  match f with
  | .next => ∃ σ' H', Inv X pins σ' H' s' ∧ D.nx σ' H'
  | .brk => ∃ σ' H', Inv X pins σ' H' s' ∧ D.bk σ' H'
  | .cont => ∃ σ' H', Inv X pins σ' H' s' ∧ D.ct σ' H'
  | .ret u => ∃ v σ' H', Inv X pins σ' H' s' ∧ RelV v u ∧ D.rt v σ' H'
structure PS2 (X : Cx) (st : Stmt) (t : TS2) : Prop where
  run : ∀ (pins : List (Addr × Obj)) (s : Shared) (σ : L2.St) (H : Hp) (D : Ends2), Inv X pins σ H s → t D σ H → wpAny (model X.prog X.w) X.A (exec st X.env) (SP2 X pins D) X.xe s
structure PSs2 (X : Cx) (st : List Stmt) (t : TS2) : Prop where
  run : ∀ (pins : List (Addr × Obj)) (s : Shared) (σ : L2.St) (H : Hp) (D : Ends2), Inv X pins σ H s → t D σ H → wpAny (model X.prog X.w) X.A (execs st X.env) (SP2 X pins D) X.xe s
abbrev Ends2.old (D : Ends2) : Ends := ⟨D.nx, fun _ _ => False, D.bk, D.ct⟩
section
variable {X : Cx} {st : Stmt} {rest : List Stmt} {t u : TS2} {pos : Pos}
theorem SP2.of {pins : List (Addr × Obj)} {D : Ends2} {f : Flow} {s' : Shared} (h : SP X pins D.old f s') : SP2 X pins D f s' := by
  cases f with
  | next => exact h
  | brk => exact h
  | cont => exact h
  | ret u => obtain ⟨_, _, _, _, _, q⟩ := h; exact q.elim
/-- a statement that does not return -/
theorem ps2_of {t : TS} (h : PS X st t) : PS2 X st (fun D σ H => t D.old σ H) := ⟨fun pins s σ H D I q => thn (h.run pins s σ H _ I q) fun f s' z => SP2.of z⟩
theorem pss2_nil : PSs2 X [] (fun D σ H => D.nx σ H) := ⟨fun _ _ σ H _ I h => wpAny_execs_nil ⟨σ, H, I, h⟩⟩
theorem pss2_cons (h1 : PS2 X st t) (h2 : PSs2 X rest u) : PSs2 X (st :: rest) (fun D σ H => t { D with nx := u D } σ H) := by
  refine ⟨fun pins s σ H D I h => ?_⟩
  refine wpAny_execs_cons (thn (h1.run pins s σ H { D with nx := u D } I h) fun f s1 q => ?_)
  cases f with
  | next =>
    obtain ⟨σ', H', I', q⟩ := q
    exact h2.run pins s1 σ' H' D I' q
  | ret v => exact q
  | brk => exact q
  | cont => exact q
theorem pss2_one (h1 : PS2 X st t) : PSs2 X [st] t := by
  refine ⟨fun pins s σ H D I h => ?_⟩
  refine wpAny_execs_cons (thn (h1.run pins s σ H D I h) fun f s1 q => ?_)
  cases f with
  | next => exact wpAny_execs_nil q
  | ret v => exact q
  | brk => exact q
  | cont => exact q
theorem ps2_ret {e : Expr} {te : TE} (he : PE X e te) : PS2 X (.Return (some e) pos) (fun D σ H => te σ H fun v H' => D.rt v σ H') := by
  refine ⟨fun pins s σ H D I h => ?_⟩
  exact wpAny_Return_some (thn (he.run pins s σ H _ I h) fun v s1 ⟨x, H1, I1, r1, q1⟩ => ⟨x, σ, H1, I1, r1, q1⟩)
theorem ps2_retN : PS2 X (.Return none pos) (fun D σ H => D.rt .non σ H) := ⟨fun _ _ σ H _ I h => wpAny_Return_none ⟨.non, σ, H, I, rfl, h⟩⟩
theorem ps2_if {c : Expr} {a b : List Stmt} {tc : TT} (hc : PT X c tc) (ha : PSs2 X a t) (hb : PSs2 X b u) : PS2 X (.If c a b pos) (fun D σ H => tc σ H fun b H1 => if b = true then t D σ H1 else u D σ H1) := by
  refine ⟨fun pins s σ H D I h => ?_⟩
  refine wpAny_If (thn (hc.run pins s σ H _ I h) fun d s1 ⟨H1, I1, q1⟩ => ?_)
  cases d with
  | true => exact ha.run pins s1 σ H1 D I1 q1
  | false => exact hb.run pins s1 σ H1 D I1 q1
theorem ps2_never : PS2 X st (fun _ _ _ => False) := ⟨fun _ _ _ _ _ _ h => h.elim⟩
theorem pss2_never {sts : List Stmt} : PSs2 X sts (fun _ _ _ => False) := ⟨fun _ _ _ _ _ _ h => h.elim⟩
def tWhile2 (c : TT) (tb : TS2) : TS2 := fun D σ H => ∃ W : Nat → L2.St → Hp → Prop, (∃ m, W m σ H) ∧ ∀ m σ H, W m σ H →
  c σ H fun b H1 => if b = true then ∃ N : L2.St → Hp → Prop, (∀ σ' H', N σ' H' → ∃ m', m' < m ∧ W m' σ' H') ∧ tb { D with nx := N, ct := N, bk := D.nx } σ H1 else D.nx σ H1
theorem ps2_while {c : Expr} {body : List Stmt} {tc : TT} {tb : TS2} (hp : PassesOwn (model X.prog X.w) X.A X.env X.xe) (hc : PT X c tc) (hb : PSs2 X body tb) : PS2 X (.While c body [] pos) (tWhile2 tc tb) := by
  refine ⟨fun pins s σ H D I h => ?_⟩
  obtain ⟨W, ⟨m0, w0⟩, turn⟩ := h
  refine wpAny_While (codeAny_whileLoop (fun n s' => ∃ σ' H', Inv X pins σ' H' s' ∧ W n σ' H') ?_ m0 ⟨σ, H, I, w0⟩)
  rintro n s1 ⟨σ1, H1, I1, w1⟩
  refine wpAny_passesOwn hp (thn (hc.run pins s1 σ1 H1 _ I1 (turn n σ1 H1 w1)) fun b s2 ⟨H2, I2, q2⟩ => ?_)
  cases b with
  | true =>
    obtain ⟨N, hN, q2⟩ := q2
    rw [if_pos rfl]
    refine wpAny_passesOwn hp (thn (hb.run pins s2 σ1 H2 _ I2 q2) fun f s3 q3 => ?_)
    cases f with
    | next =>
      obtain ⟨σ3, H3, I3, n3⟩ := q3
      obtain ⟨m', hm, w3⟩ := hN σ3 H3 n3
      exact ⟨m', hm, σ3, H3, I3, w3⟩
    | cont =>
      obtain ⟨σ3, H3, I3, n3⟩ := q3
      obtain ⟨m', hm, w3⟩ := hN σ3 H3 n3
      exact ⟨m', hm, σ3, H3, I3, w3⟩
    | brk => exact q3
    | ret v => exact q3
  | false =>
    rw [if_neg Bool.false_ne_true]
    exact wpAny_execs_nil ⟨σ1, H2, I2, q2⟩
def tFor2 (wi : TI) (g : TG) (tb : TS2) : TS2 := fun D σ H => wi σ H fun J H1 => ∃ W : Nat → Nat → L2.St → Hp → Prop, (∃ m, W 0 m σ H1) ∧ ∀ i m σ H, W i m σ H →
  (J.stop i H ∧ D.nx σ H) ∨ (J.go i H ∧ ∃ N : L2.St → Hp → Prop, (∀ σ' H', N σ' H' → ∃ m', m' < m ∧ W (i + 1) m' σ' H') ∧ ∀ x H', J.yld i H x H' → g x σ H' fun σ2 H2 => tb { D with nx := N, ct := N, bk := D.nx } σ2 H2)
theorem ps2_for {tg iter : Expr} {body : List Stmt} {wi : TI} {g : TG} {tb : TS2} (hp : PassesOwn (model X.prog X.w) X.A X.env X.xe) (hc : X.calm = true) (hi : PI X tg iter wi) (hg : PG X tg g) (hb : PSs2 X body tb)
    (hs : ∀ x, foldedSetIterable iter X.env x = pure x := by intro _; rfl) : PS2 X (.For tg iter body [] pos) (tFor2 wi g tb) := by
  refine ⟨fun pins s σ H D I h => ?_⟩
  refine wpAny_For (thn (hi.run pins s σ H _ I h) fun v s1 h1 => thn h1 fun itv s2 h2 => ?_) hs
  obtain ⟨it, fp, tn, J, H2, e, I2, T, st2, f2, W, ⟨m0, w0⟩, turn⟩ := h2
  subst e
  have stat : ∀ {H' : Hp}, (∀ b ∈ fp, H' b = none) → ∀ b ∈ fp, FpOk X pins H' b := fun hn b hb => ⟨hn b hb, (f2 b hb).2⟩
  refine codeAny_forLoop_any (fun n s' => ∃ i σ' H', Inv X pins σ' H' s' ∧ tn i s'.heap ∧ (∀ b ∈ fp, H' b = none) ∧ W i n σ' H') ?_ m0 ⟨0, σ, H2, I2, st2, fun b hb => (f2 b hb).1, w0⟩
  rintro n s3 ⟨i, σ3, H3, I3, st3, fr3, w3⟩
  rcases turn i n σ3 H3 w3 with ⟨stop, qn⟩ | ⟨go, N, hN, step⟩
  · refine wpAny_passesOwn hp (thn (T.done X rfl rfl rfl hc i pins s3 σ3 H3 X.xe I3 (stat fr3) st3 stop) fun r s4 ⟨hr, I4⟩ => ?_)
    subst hr
    exact wpAny_execs_nil ⟨σ3, H3, I4, qn⟩
  · refine wpAny_passesOwn hp (thn (T.item X rfl rfl rfl hc i pins s3 σ3 H3 X.xe I3 (stat fr3) st3 go) fun r s4 ⟨u, hr, h4⟩ => ?_)
    subst hr
    refine wpAny_passesOwn hp (thn h4 fun _ s5 ⟨x, H5, I5, r5, y5, st5, fr5⟩ => ?_)
    have I5' := I5.pinned (stat fr5) (T.obj _ _ st5)
    refine wpAny_passesOwn hp (thn (hg.run _ s5 σ3 H5 x u _ I5' r5 (step x H5 y5)) fun _ s6 ⟨σ6, H6, I6, q6⟩ => ?_)
    refine wpAny_passesOwn hp (thn (hb.run _ s6 σ6 H6 _ I6 q6) fun f s7 q7 => ?_)
    have again : ∀ {σ7 : L2.St} {H7 : Hp}, Inv X (pins ++ pinsAt fp s5.heap) σ7 H7 s7 → N σ7 H7 → ∃ m, m < n ∧ ∃ i σ' H', Inv X pins σ' H' s7 ∧ tn i s7.heap ∧ (∀ b ∈ fp, H' b = none) ∧ W i m σ' H' := fun {σ7 H7} I7 n7 => by
      obtain ⟨m', hm, w7⟩ := hN σ7 H7 n7
      refine ⟨m', hm, i + 1, σ7, H7, I7.unpinned, T.keep _ _ _ st5 fun b hb o e => (I7.pin (b, o) (List.mem_append_right _ (List.mem_append_right _ (mem_pinsAt hb e)))).1, fun b hb => ?_, w7⟩
      obtain ⟨o, e, d⟩ := T.obj _ _ st5 b hb
      exact (I7.pin (b, o) (List.mem_append_right _ (List.mem_append_right _ (mem_pinsAt hb e)))).2.1
    cases f with
    | next => obtain ⟨σ7, H7, I7, n7⟩ := q7; exact again I7 n7
    | cont => obtain ⟨σ7, H7, I7, n7⟩ := q7; exact again I7 n7
    | brk => obtain ⟨σ7, H7, I7, q7⟩ := q7; exact ⟨σ7, H7, I7.unpinned, q7⟩
    | ret v => obtain ⟨x7, σ7, H7, I7, r7, q7⟩ := q7; exact ⟨x7, σ7, H7, I7.unpinned, r7, q7⟩
end

section
variable (c : Cxt) (X : Cx)
def Nok (r : Nat → Option Addr) (F B : Hp) (k : Env → Cs → Bool) (Q : L2.St → Hp → Prop) : Prop :=
  ∀ r' F' B' H' σ' ds' cs', Ext r F B r' F' B' → RS c X r' F' B' σ' H' ds' cs' → k ds' cs' = true → Q σ' H'
def Rok (r : Nat → Option Addr) (F B : Hp) (k : D → Cs → Bool) (Q : V → L2.St → Hp → Prop) : Prop :=
  ∀ r' F' B' H' σ' ds' cs' v d, Ext r F B r' F' B' → RS c X r' F' B' σ' H' ds' cs' → Rep c.G r' F' v d → k d cs' = true → Q v σ' H'
def XSok (r : Nat → Option Addr) (F B : Hp) (x : KXs) : Prop :=
  ∀ n fs r' F' B' H' σ' ds' cls dd cs', Ext r F B r' F' B' → RS c X r' F' B' σ' H' ds' cs' → ExcOk c r' F' H' n fs cls dd → x n fs ds' cs' = true → c.W cls dd σ' H'
def Sok (r : Nat → Option Addr) (F B : Hp) (k : KS) (x : KXs) (D : Ends2) : Prop := Nok c X r F B k.nx D.nx ∧ Rok c X r F B k.rt D.rt ∧ Nok c X r F B k.bk D.bk ∧ Nok c X r F B k.ct D.ct ∧ XSok c X r F B x
def tS (m : MS) : TS2 := fun D σ H => ∃ r F B ds cs k x, m c.cal ds cs k x = true ∧ RS c X r F B σ H ds cs ∧ Sok c X r F B k x D
def XS (st : Stmt) (m : MS) : Prop := PS2 X st (tS c X m)
def XSs (st : List Stmt) (m : MS) : Prop := PSs2 X st (tS c X m)
/-- a target: the value v, the tree d -/
def tG (m : MG) : TG := fun v σ H Q => ∃ r F B ds cs d k x, m d c.cal ds cs k x = true ∧ RS c X r F B σ H ds cs ∧ Rep c.G r F v d ∧ Nok c X r F B k Q ∧ Xok c X r F B σ ds x
def XG (e : Expr) (m : MG) : Prop := PG X e (tG c X m)
def tGs (m : MGs) : TGs := fun vs σ H Q => ∃ r F B ds cs us k x, m us c.cal ds cs k x = true ∧ RS c X r F B σ H ds cs ∧ Reps c.G r F vs us ∧ Nok c X r F B k Q ∧ Xok c X r F B σ ds x
def XGs (es : List Expr) (m : MGs) : Prop := PGs X es (tGs c X m)
end

section
variable {c : Cxt} {X : Cx} {e a b : Expr} {pos : Pos} {r r' : Nat → Option Addr} {F B F' B' H : Hp} {σ : L2.St} {ds : Env} {cs : Cs} {K : KE} {x : KX} {Q : VK} {m ma mb : ME} {p : Addr} {o : HO} {st : Stmt} {rest : List Stmt} {u w : MS} {k : KS} {xs : KXs} {Dn : Ends2}
theorem Nok.ext {k : Env → Cs → Bool} {Q : L2.St → Hp → Prop} (h : Nok c X r F B k Q) (e : Ext r F B r' F' B') : Nok c X r' F' B' k Q := fun r2 F2 B2 H' σ' ds' cs' e' => h r2 F2 B2 H' σ' ds' cs' (e.trans e')
theorem Rok.ext {k : D → Cs → Bool} {Q : V → L2.St → Hp → Prop} (h : Rok c X r F B k Q) (e : Ext r F B r' F' B') : Rok c X r' F' B' k Q := fun r2 F2 B2 H' σ' ds' cs' v d e' => h r2 F2 B2 H' σ' ds' cs' v d (e.trans e')
theorem XSok.ext (h : XSok c X r F B xs) (e : Ext r F B r' F' B') : XSok c X r' F' B' xs := fun n fs r2 F2 B2 H' σ' ds' cls dd cs' e' => h n fs r2 F2 B2 H' σ' ds' cls dd cs' (e.trans e')
theorem Sok.ext (h : Sok c X r F B k xs Dn) (e : Ext r F B r' F' B') : Sok c X r' F' B' k xs Dn := ⟨Nok.ext h.1 e, Rok.ext h.2.1 e, Nok.ext h.2.2.1 e, Nok.ext h.2.2.2.1 e, XSok.ext h.2.2.2.2 e⟩
theorem XSok.at_ (h : XSok c X r F B xs) (σ : L2.St) (ds : Env) : Xok c X r F B σ ds fun n fs cs => xs n fs ds cs := fun n fs r2 F2 B2 H' cls dd cs' e' R => h n fs r2 F2 B2 H' σ ds cls dd cs' e' R
theorem tS.of {m : MS} (hm : m c.cal ds cs k xs = true) (R : RS c X r F B σ H ds cs) (s : Sok c X r F B k xs Dn) : tS c X m Dn σ H := ⟨r, F, B, ds, cs, k, xs, hm, R, s⟩
theorem ps_imp {t t' : TS2} (h : PS2 X st t) (i : ∀ D σ H, t' D σ H → t D σ H) : PS2 X st t' := ⟨fun pins s σ H D I q => h.run pins s σ H D I (i D σ H q)⟩
theorem pss_imp {sts : List Stmt} {t t' : TS2} (h : PSs2 X sts t) (i : ∀ D σ H, t' D σ H → t D σ H) : PSs2 X sts t' := ⟨fun pins s σ H D I q => h.run pins s σ H D I (i D σ H q)⟩
theorem pg_imp {t t' : TG} (h : PG X e t) (i : ∀ v σ H Q, t' v σ H Q → t v σ H Q) : PG X e t' := ⟨fun pins s σ H v u Q I rv q => h.run pins s σ H v u Q I rv (i v σ H Q q)⟩
theorem pgs_imp {es : List Expr} {t t' : TGs} (h : PGs X es t) (i : ∀ v σ H Q, t' v σ H Q → t v σ H Q) : PGs X es t' := ⟨fun pins s σ H v u Q I rv q => h.run pins s σ H v u Q I rv (i v σ H Q q)⟩

/-! ### in a row -/
def sNil : MS := fun _ e cs k _ => k.nx e cs
def sSeq (u w : MS) : MS := fun f e cs k x => u f e cs ⟨fun e1 cs1 => w f e1 cs1 k x, k.rt, k.bk, k.ct⟩ x
def sNever : MS := fun _ _ _ _ _ => false
theorem xss_nil : XSs c X [] sNil := pss_imp pss2_nil fun D σ H ⟨r, F, B, ds, cs, k, x, hm, R, s⟩ => s.1 _ _ _ _ _ _ _ (Ext.refl _ _ _) R hm
theorem seq_sok (s : Sok c X r F B k xs Dn) : Sok c X r F B ⟨fun e1 cs1 => w c.cal e1 cs1 k xs, k.rt, k.bk, k.ct⟩ xs { Dn with nx := tS c X w Dn } :=
  ⟨fun r' F' B' H' σ' ds' cs' E R h => tS.of h R (Sok.ext s E), s.2⟩
theorem xss_cons (h1 : XS c X st u) (h2 : XSs c X rest w) : XSs c X (st :: rest) (sSeq u w) := pss_imp (pss2_cons h1 h2) fun D σ H ⟨r, F, B, ds, cs, k, x, hm, R, s⟩ => tS.of hm R (seq_sok s)
theorem xss_one (h1 : XS c X st u) : XSs c X [st] u := pss2_one h1
theorem xs_never : XS c X st sNever := ps_imp ps2_never fun D σ H ⟨r, F, B, ds, cs, k, x, hm, R, s⟩ => nomatch hm
theorem xss_never {sts : List Stmt} : XSs c X sts sNever := pss_imp pss2_never fun D σ H ⟨r, F, B, ds, cs, k, x, hm, R, s⟩ => nomatch hm
theorem xs_pass : XS c X (.Pass pos) sNil := ps_imp (ps2_of ps_pass) fun D σ H ⟨r, F, B, ds, cs, k, x, hm, R, s⟩ => s.1 _ _ _ _ _ _ _ (Ext.refl _ _ _) R hm
def sBreak : MS := fun _ e cs k _ => k.bk e cs
def sCont : MS := fun _ e cs k _ => k.ct e cs
theorem xs_break : XS c X (.Break pos) sBreak := ps_imp (ps2_of ps_break) fun D σ H ⟨r, F, B, ds, cs, k, x, hm, R, s⟩ => s.2.2.1 _ _ _ _ _ _ _ (Ext.refl _ _ _) R hm
theorem xs_continue : XS c X (.Continue pos) sCont := ps_imp (ps2_of ps_continue) fun D σ H ⟨r, F, B, ds, cs, k, x, hm, R, s⟩ => s.2.2.2.1 _ _ _ _ _ _ _ (Ext.refl _ _ _) R hm
/-! ### return, an expression, if -/
def sRet (a : ME) : MS := fun f e cs k x => a f e cs k.rt fun n fs cs => x n fs e cs
def sRetN : MS := fun f e cs k x => k.rt .non cs
def sExpr (a : ME) : MS := fun f e cs k x => a f e cs (fun _ cs1 => k.nx e cs1) fun n fs cs => x n fs e cs
def sIf (t : MT) (u w : MS) : MS := fun f e cs k x => t f e cs (fun q cs1 => match q with
  | true => u f e cs1 k x
  | false => w f e cs1 k x) fun n fs cs => x n fs e cs
theorem xs_ret (h : XE c X e m) : XS c X (.Return (some e) pos) (sRet m) := ps_imp (ps2_ret h) fun D σ H ⟨r, F, B, ds, cs, k, x, hm, R, s⟩ =>
  tE.of hm R (fun r' F' B' H' v d cs' E R' hv h' => s.2.1 _ _ _ _ _ _ _ _ _ E R' hv h') (XSok.at_ s.2.2.2.2 _ _)
theorem xs_retN : XS c X (.Return none pos) sRetN := ps_imp ps2_retN fun D σ H ⟨r, F, B, ds, cs, k, x, hm, R, s⟩ => s.2.1 _ _ _ _ _ _ _ _ _ (Ext.refl _ _ _) R .non hm
theorem xs_expr (h : XE c X e m) (hs : swapsWith e none pos.line X.env = pure false := by rfl) : XS c X (.Expr e pos) (sExpr m) := ps_imp (ps2_of (ps_expr h hs)) fun D σ H ⟨r, F, B, ds, cs, k, x, hm, R, s⟩ =>
  tE.of hm R (fun r' F' B' H' v d cs' E R' hv h' => s.1 _ _ _ _ _ _ _ E R' h') (XSok.at_ s.2.2.2.2 _ _)
theorem xs_if {t : Expr} {mt : MT} {p q : List Stmt} (ht : XT c X t mt) (hp : XSs c X p u) (hq : XSs c X q w) : XS c X (.If t p q pos) (sIf mt u w) := ps_imp (ps2_if ht hp hq) fun D σ H ⟨r, F, B, ds, cs, k, x, hm, R, s⟩ =>
  tT.of hm R (fun r' F' B' H' b cs' E R' h' => by
    cases b with
    | true => exact tS.of h' R' (Sok.ext s E)
    | false => exact tS.of h' R' (Sok.ext s E)) (XSok.at_ s.2.2.2.2 _ _)
/-! ### targets -/
def gVar (i : Nat) : MG := fun d _ e cs k _ => setE e i (some d) fun e' => k e' cs
def gVarB (i : Nat) : MG := fun d _ e cs k _ => nthE e i fun q => match q with
  | .cel n => getC cs.l n fun _ => setL cs.l n (.box (some d)) fun l => k e ⟨cs.nx, l⟩
  | _ => false
theorem xg_var {i : Nat} {y : Str} (hN : X.N.Nodup) (hi : X.N[i]? = some y) (hx : Loc X.env.scope y) (hf : X.fn y = true ∨ X.env.scope.names.lookup y = some .local) (hb : i ∉ c.bx) : XG c X (.Name y pos) (gVar i) :=
  pg_imp (pg_name hN hi hx hf) fun v σ H Q ⟨r, F, B, ds, cs, d, k, x, hm, R, hv, n, xk⟩ => by
    unfold gVar at hm
    rw [setE_eq] at hm
    exact n _ _ _ _ _ _ _ (Ext.refl _ _ _) (RL.set R hb hv) hm
theorem xg_varB {i : Nat} {y : Str} (hN : X.N.Nodup) (hi : X.N[i]? = some y) (hx : Loc X.env.scope y) (hf : X.fn y = true ∨ X.env.scope.names.lookup y = some .local) (hb : i ∈ c.bx) : XG c X (.Name y pos) (gVarB i) :=
  pg_imp (pg_name hN hi hx hf) fun v σ H Q ⟨r, F, B, ds, cs, d, k, x, hm, R, hv, n, xk⟩ => by
    obtain ⟨q, h1, h2⟩ := nthE_true hm
    split at h2
    · obtain ⟨ce, q1, q2⟩ := getC_true h2
      rw [setL_eq] at q2
      exact n _ _ _ _ _ _ _ (Ext.refl _ _ _) (RL.setB R hb h1 q1 hv) q2
    · cases h2
def gsNil : MGs := fun us _ e cs k _ => match us with
  | [] => k e cs
  | _ => false
def gsCons (g : MG) (gs : MGs) : MGs := fun us f e cs k x => match us with
  | d :: ds => g d f e cs (fun e1 cs1 => gs ds f e1 cs1 k fun _ _ _ => false) x
  | _ => false
theorem xgs_nil : XGs c X [] gsNil := pgs_imp pgs_nil fun vs σ H Q ⟨r, F, B, ds, cs, us, k, x, hm, R, hv, n, xk⟩ => by
  cases hv with
  | nil => exact ⟨rfl, n _ _ _ _ _ _ _ (Ext.refl _ _ _) R hm⟩
  | cons _ _ => cases hm
theorem Xok.no {σ : L2.St} {ds : Env} : Xok c X r F B σ ds fun _ _ _ => false := fun _ _ _ _ _ _ _ _ _ _ _ _ h => nomatch h
theorem xgs_cons {es : List Expr} {g : MG} {gs : MGs} (h1 : XG c X e g) (h2 : XGs c X es gs) (hs : (assignEach (e :: es) X.env).map (·.2) = assign e X.env :: (assignEach es X.env).map (·.2) := by rfl) : XGs c X (e :: es) (gsCons g gs) :=
  pgs_imp (pgs_cons h1 h2 hs) fun vs σ H Q ⟨r, F, B, ds, cs, us, k, x, hm, R, hv, n, xk⟩ => by
    cases hv with
    | nil => cases hm
    | cons h t =>
      refine ⟨_, _, rfl, r, F, B, ds, cs, _, _, x, hm, R, h, fun r' F' B' H' σ' ds' cs' E R' h' => ?_, xk⟩
      exact ⟨r', F', B', ds', cs', _, _, _, h', R', t.ext E, Nok.ext n E, Xok.no⟩
def gTupM (n : Nat) (g : MGs) : MG := fun d f e cs k x => match d with
  | .tup us => (match Nat.beq us.length n with
    | true => g us f e cs k x
    | false => false)
  | _ => false
theorem xg_tup {es : List Expr} {kk n : Nat} {g : MGs} (hc : X.calm = true) (h : XGs c X es g) (hn : (assignEach es X.env).length = n := by rfl) (hst : (assignEach es X.env).findIdx? (·.1) = none := by rfl) : XG c X (.Tuple es kk pos) (gTupM n g) :=
  pg_imp (pg_tup hc h hn hst) fun v σ H Q ⟨r, F, B, ds, cs, d, k, x, hm, R, hv, nk, xk⟩ => by
    unfold gTupM at hm
    split at hm
    · split at hm
      · rename_i q
        obtain ⟨a, vs, ev, h1, hs⟩ := hv.tupI
        exact ⟨a, vs, ev, (h1.mono R.rc.subF).sq R.kf, by rw [hs.length]; exact Nat.eq_of_beq_eq_true q, r, F, B, ds, cs, _, k, x, hm, R, hs, nk, xk⟩
      · cases hm
    · cases hm
/-- target = e -/
def sAsg (a : ME) (g : MG) : MS := fun f e cs k x => a f e cs (fun d cs1 => g d f e cs1 k.nx fun n fs cs => x n fs e cs) fun n fs cs => x n fs e cs
theorem xs_asg {tg : Expr} {g : MG} (he : XE c X e m) (hg : XG c X tg g) (hs : swapsWithSole [tg] e pos.line X.env = pure false := by rfl) (hw : swappedStores [tg] e X.env = pure none := by rfl)
    (h1 : (assignEach [tg] X.env).map (·.2) = [assign tg X.env] := by rfl) : XS c X (.Assign [tg] e pos) (sAsg m g) :=
  ps_imp (ps2_of (ps_asg he hg hs hw h1)) fun D σ H ⟨r, F, B, ds, cs, k, x, hm, R, s⟩ => tE.of hm R (fun r' F' B' H' v d cs' E R' hv h' =>
    ⟨r', F', B', ds, cs', d, _, _, h', R', hv, Nok.ext s.1 E, XSok.at_ (XSok.ext s.2.2.2.2 E) _ _⟩) (XSok.at_ s.2.2.2.2 _ _)
/-- name = e -/
theorem xs_set {i : Nat} {y : Str} {pos' : Pos} (hN : X.N.Nodup) (hi : X.N[i]? = some y) (hx : Loc X.env.scope y) (hf : X.fn y = true ∨ X.env.scope.names.lookup y = some .local) (hb : i ∉ c.bx) (he : XE c X e m) (hs : swapsWith e (some (.Name y pos')) pos.line X.env = pure false := by rfl) :
    XS c X (.Assign [.Name y pos'] e pos) (sAsg m (gVar i)) :=
  ps_imp (ps2_of (ps_set hN hi hx he hs hf)) fun D σ H ⟨r, F, B, ds, cs, k, x, hm, R, s⟩ => tE.of hm R (fun r' F' B' H' v d cs' E R' hv h' => by
    unfold gVar at h'
    rw [setE_eq] at h'
    exact s.1 _ _ _ _ _ _ _ E (RL.set R' hb hv) h') (XSok.at_ s.2.2.2.2 _ _)
theorem xs_setB {i : Nat} {y : Str} {pos' : Pos} (hN : X.N.Nodup) (hi : X.N[i]? = some y) (hx : Loc X.env.scope y) (hf : X.fn y = true ∨ X.env.scope.names.lookup y = some .local) (hb : i ∈ c.bx) (he : XE c X e m) (hs : swapsWith e (some (.Name y pos')) pos.line X.env = pure false := by rfl) :
    XS c X (.Assign [.Name y pos'] e pos) (sAsg m (gVarB i)) :=
  ps_imp (ps2_of (ps_set hN hi hx he hs hf)) fun D σ H ⟨r, F, B, ds, cs, k, x, hm, R, s⟩ => tE.of hm R (fun r' F' B' H' v d cs' E R' hv h' => by
    obtain ⟨q, h1, h2⟩ := nthE_true h'
    split at h2
    · obtain ⟨ce, q1, q2⟩ := getC_true h2
      rw [setL_eq] at q2
      exact s.1 _ _ _ _ _ _ _ E (RL.setB R' hb h1 q1 hv) q2
    · cases h2) (XSok.at_ s.2.2.2.2 _ _)
end
end Ev

set_option Elab.async false
set_option linter.all false
set_option maxRecDepth 100000
set_option maxHeartbeats 2000000
/-! Ev7: own boxes are lent at a call and come back; the call of a def -/
namespace Ev
open PySem PySem.Spec PyProof.Rows L2 LamX NdefX
open Classical in
noncomputable def lendAt (X : Cx) (bx : List Nat) (h : Heap) (H : Hp) : Hp := fun a => if ownB X bx a then (h.get? a).map (fun ob => HO.frz ob (.own 0)) else H a
open Classical in
noncomputable def hideB (X : Cx) (bx : List Nat) (H : Hp) : Hp := fun a => if ownB X bx a then none else H a
/-- the boxes' names are cells; the cells are no part of what was there ahead -/
structure OwnX (X : Cx) (bx : List Nat) : Prop where
  nb : ∀ i ∈ bx, ∀ a, bAddr X i = some a → X.base.get? a = none
  nf : ∀ i ∈ bx, ∀ a, bAddr X i = some a → a ∉ X.fs
  kb : ∀ i ∈ bx, ∀ y, X.N[i]? = some y → X.env.kindOf y = some .cell ∨ X.env.kindOf y = some .free
abbrev noOwn : Addr → Prop := fun _ => False
section
variable {c : Cxt} {X : Cx} {r r' : Nat → Option Addr} {F B F' B' H H' : Hp} {σ : L2.St} {ds : Env} {cs cs' : Cs} {pins : List (Addr × Obj)} {s s' : Shared}
theorem bAddr_look {i : Nat} {a : Addr} (h : bAddr X i = some a) : ∃ y, X.N[i]? = some y ∧ X.env.cells.lookup y = some a := by
  unfold bAddr at h
  split at h
  · exact ⟨_, by assumption, h⟩
  · cases h
theorem own_free (I : Inv X pins σ H s) {bx : List Nat} {a : Addr} (h : ownB X bx a) : H a = none := by
  obtain ⟨i, _, e⟩ := h
  obtain ⟨y, _, l⟩ := bAddr_look e
  exact I.freeC y a l
theorem lend_own {bx : List Nat} {h : Heap} {a : Addr} (o : ownB X bx a) : lendAt X bx h H a = (h.get? a).map fun ob => HO.frz ob (.own 0) := if_pos o
theorem lend_not {bx : List Nat} {h : Heap} {a : Addr} (o : ¬ ownB X bx a) : lendAt X bx h H a = H a := if_neg o
theorem hide_own {bx : List Nat} {a : Addr} (o : ownB X bx a) : hideB X bx H a = none := if_pos o
theorem hide_not {bx : List Nat} {a : Addr} (o : ¬ ownB X bx a) : hideB X bx H a = H a := if_neg o
theorem hide_some {bx : List Nat} {a : Addr} {o : HO} (h : hideB X bx H a = some o) : ¬ ownB X bx a ∧ H a = some o := by
  by_cases q : ownB X bx a
  · rw [hide_own q] at h; cases h
  · rw [hide_not q] at h; exact ⟨q, h⟩
theorem not_own (I : Inv X pins σ H s) {bx : List Nat} {a : Addr} {o : HO} (h : H a = some o) : ¬ ownB X bx a := fun q => by
  rw [own_free I q] at h; cases h
/-- an own box's object -/
theorem own_obj (I : Inv X pins σ H s) {bx : List Nat} (O : OwnX X bx) {i : Nat} {a : Addr} (hi : i ∈ bx) (e : bAddr X i = some a) :
    ∃ ob ou, s.heap.get? a = some ob ∧ ob.data = .cell ou ∧ ∀ v, σ[i]? = some (some v) → ∃ u, ou = some u ∧ RelV v u := by
  obtain ⟨y, hy, l⟩ := bAddr_look e
  obtain ⟨ou, ob, h1, h2⟩ := I.cell y a l
  refine ⟨ob, ou, h1, h2, fun v hv => ?_⟩
  obtain ⟨m, hn, hl⟩ := I.loc
  have k := O.kb i hi y hy
  obtain ⟨u, rv, q⟩ := hl i y v hy hv (k.elim (fun z => .inr (.inl z)) fun z => .inr (.inr z))
  rcases q with ⟨z, _⟩ | ⟨_, a', l', ob', h1', h2'⟩
  · rcases k with k | k <;> rw [k] at z <;> cases z
  · rw [l] at l'; cases l'
    rw [h1] at h1'; cases h1'
    rw [h2] at h2'; cases h2'
    exact ⟨u, rfl, rv⟩
theorem lend_ext (I : Inv X pins σ H s) (R : RS c X r F B σ H ds cs) : Ext r F B r F (lendAt X c.bx s.heap B) :=
  ⟨fun _ _ h => h, fun _ _ h => h, fun a o h => by rw [lend_not (not_own I (R.rc.subB a o h))]; exact h⟩
theorem lend_rc (I : Inv X pins σ H s) (O : OwnX X c.bx) (R : RS c X r F B σ H ds cs) : RC c.G c.T noOwn r F (lendAt X c.bx s.heap B) (lendAt X c.bx s.heap H) cs := by
  have E := lend_ext I R
  have R' := R.rc
  have nH : ∀ a o, H a = some o → lendAt X c.bx s.heap H a = some o := fun a o h => by rw [lend_not (not_own I h)]; exact h
  refine ⟨fun a o h => nH a o (R'.subF a o h), fun a o h => ?_, R'.plF, fun a o h => ?_, R'.inj, fun n a h => ?_, R'.fresh, R'.dec, R'.lt, fun n ce h => ?_, R'.tabs.ext nH, fun a o h => ?_, fun n a vs h => ?_⟩
  · by_cases q : ownB X c.bx a
    · rw [lend_own q] at h ⊢; exact h
    · rw [lend_not q] at h; exact nH a o (R'.subB a o h)
  · by_cases q : ownB X c.bx a
    · rw [lend_own q] at h
      obtain ⟨ob, _, e⟩ := Option.map_eq_some_iff.mp h
      exact .inl ⟨ob, e.symm⟩
    · rw [lend_not q] at h; exact R'.frB a o h
  · refine .inl ?_
    rcases R'.rng n a h with z | z
    · cases e : H a with
      | none => exact absurd e z
      | some o => rw [nH a o e]; exact fun z => nomatch z
    · obtain ⟨i, hi, e⟩ := id z
      obtain ⟨ob, ou, h1, _, _⟩ := own_obj I O hi e
      rw [lend_own z, h1]
      exact fun z => nomatch z
  · have k := R'.cell n ce h
    have list : (∀ od, ce ≠ .box od) → CellOk c.G noOwn r F (lendAt X c.bx s.heap B) (lendAt X c.bx s.heap H) cs n ce := fun nb => by
      have k2 := k.stay (own' := ownB X c.bx) E (fun _ z => z) (fun a h1 h2 vs _ h3 => ⟨⟨h2.1, by rw [lend_not (not_own I h3)]; exact h2.2⟩, nH a _ h3⟩) (cs' := cs) fun _ z => z
      cases ce with
      | lst xs => exact k2
      | raw => exact k2
      | strm m j => exact k2
      | kd ys => exact k2
      | box od => exact absurd rfl (nb od)
    cases ce with
    | lst xs => exact list (fun _ z => nomatch z)
    | raw => exact list (fun _ z => nomatch z)
    | strm m j => exact list (fun _ z => nomatch z)
    | kd ys => exact list (fun _ z => nomatch z)
    | box od =>
      rcases k with ⟨a, h1, z⟩ | ⟨a, ob, h1, h2, h3⟩
      · obtain ⟨i, hi, e⟩ := id z
        obtain ⟨ob, ou, q1, q2, q3⟩ := own_obj I O hi e
        refine .inr ⟨a, ob, h1, by rw [lend_own z, q1]; rfl, ou, q2, fun d ed => ?_⟩
        obtain ⟨n', a', e1, e2, e3, e4⟩ := R.boxs i hi
        rw [e] at e2; cases e2
        obtain ⟨od', e5, e6⟩ := e4 n _ h1 h
        cases e5
        obtain ⟨v, e7, e8⟩ := e6 d ed
        obtain ⟨u, e9, e10⟩ := q3 v e7
        exact ⟨u, v, e9, e10, e8⟩
      · exact .inr ⟨a, ob, h1, E.B _ _ h2, h3⟩
  · by_cases q : ownB X c.bx a
    · exact R'.freeF (own_free I q)
    · rw [lend_not q] at h; exact R'.dj a o h
  · by_cases q : ownB X c.bx a
    · rw [lend_own q]
      cases s.heap.get? a with
      | none => exact fun z => nomatch z
      | some ob => exact fun z => nomatch z
    · rw [lend_not q]; exact R'.rb n a vs h
theorem lend_env0 (I : Inv X pins σ H s) (O : OwnX X c.bx) : Env0 X.prog X.w X.K X.mg X.base X.A X.stack s (lendAt X c.bx s.heap H) := by
  have e0 := I.env0
  have nH : ∀ a o, H a = some o → lendAt X c.bx s.heap H a = some o := fun a o h => by rw [lend_not (not_own I h)]; exact h
  refine ⟨e0.frames, e0.mod, fun b o h => ⟨(e0.bs b o h).1, ?_⟩, e0.bsz, e0.funs, fun b hb => ?_, fun a o h => ?_, e0.bare⟩
  · have nq : ¬ ownB X c.bx b := fun ⟨i, hi, e⟩ => by
      rw [O.nb i hi b e] at h; cases h
    rw [lend_not nq]
    exact (e0.bs b o h).2
  · have nq : ¬ ownB X c.bx b := fun ⟨i, hi, e⟩ => by
      obtain ⟨y, _, l⟩ := bAddr_look e
      rcases List.mem_cons.mp (I.stkSub b hb) with z | z
      · exact I.cne y b l z
      · exact O.nf i hi b e z
    rw [lend_not nq]
    exact e0.frf b hb
  · by_cases q : ownB X c.bx a
    · rw [lend_own q] at h
      obtain ⟨ob, h1, e⟩ := Option.map_eq_some_iff.mp h
      subst e
      exact ⟨h1, ob, h1⟩
    · rw [lend_not q] at h
      exact (I.hok a o h).stay (fun _ _ _ z => z) (fun b z => nH b _ z) fun b xs z => nH b _ z
/-- the own boxes come back -/
theorem back_ext {B1 F1 : Hp} (I : Inv X pins σ H s) (R : RS c X r F B σ H ds cs) (E : Ext r F (lendAt X c.bx s.heap B) r' F1 B1) : Ext r F B r' F1 (hideB X c.bx B1) :=
  ⟨E.r, E.F, fun a o h => by
    have nq := not_own I (R.rc.subB a o h) (bx := c.bx)
    rw [hide_not nq]
    exact E.B a o (by rw [lend_not nq]; exact h)⟩
theorem back_inv {H1 : Hp} (I : Inv X pins σ H s) (O : OwnX X c.bx) (os : s'.os = s.os) (u : Un (frs X.stack) [] (lendAt X c.bx s.heap H) H1 s.heap s'.heap) (hok : HOk X.prog X.w H1 s'.heap) (hg : AllBare s'.gens) :
    Inv X pins σ (hideB X c.bx H1) s' := by
  have lN : ∀ a, H a = none → ¬ ownB X c.bx a → lendAt X c.bx s.heap H a = none := fun a h q => by rw [lend_not q]; exact h
  have own1 : ∀ {a ob}, ownB X c.bx a → s.heap.get? a = some ob → s'.heap.get? a = some ob := fun {a ob} q h => by
    have h1 := u.frzs a ob (.own 0) (by rw [lend_own q, h]; rfl)
    exact (hok a _ h1).1
  have ns : ∀ b ∈ frs X.stack, ¬ ownB X c.bx b := fun b hb ⟨i, hi, e⟩ => by
    obtain ⟨y, _, l⟩ := bAddr_look e
    rcases List.mem_cons.mp (I.stkSub b hb) with z | z
    · exact I.cne y b l z
    · exact O.nf i hi b e z
  refine I.call' (ch := []) os ⟨fun b o h n hb _ => ?_, fun b o h n hb _ => ?_, fun b o h n _ => ?_, fun b o h _ => u.there b o h (by simp), fun b xs h => ?_, fun b o x h => ?_, fun b ps h => ?_⟩ (fun a o h => ?_) hg (fun b z => absurd z (by simp))
  · by_cases q : ownB X c.bx b
    · exact own1 q h
    · exact u.keep b o h (lN b n q) hb (by simp)
  · exact u.slot b o h (lN b n (ns b hb)) hb (by simp)
  · by_cases q : ownB X c.bx b
    · exact hide_own q
    · rw [hide_not q]; exact u.free b o h (lN b n q) (by simp)
  · have q := not_own I h (bx := c.bx)
    rw [hide_not q]; exact u.tups b xs (by rw [lend_not q]; exact h)
  · have q := not_own I h (bx := c.bx)
    rw [hide_not q]; exact u.frzs b o x (by rw [lend_not q]; exact h)
  · have q := not_own I h (bx := c.bx)
    rw [hide_not q]; exact u.tbls b ps (by rw [lend_not q]; exact h)
  · obtain ⟨q, h1⟩ := hide_some h
    have frz : ∀ b, ownB X c.bx b → ∃ ob, H1 b = some (.frz ob (.own 0)) := fun b qb => by
      obtain ⟨i, hi, e⟩ := id qb
      obtain ⟨ob, _, e1, _, _⟩ := own_obj I O hi e
      exact ⟨ob, u.frzs b ob (.own 0) (by rw [lend_own qb, e1]; rfl)⟩
    refine (hok a o h1).stay (fun _ _ _ z => z) (fun b z => ?_) fun b xs z => ?_
    · rw [hide_not (fun qb => by obtain ⟨ob, e⟩ := frz b qb; rw [e] at z; cases z)]; exact z
    · rw [hide_not (fun qb => by obtain ⟨ob, e⟩ := frz b qb; rw [e] at z; cases z)]; exact z
theorem back_rl {B1 F1 H1 : Hp} (I : Inv X pins σ H s) (O : OwnX X c.bx) (R : RS c X r F B σ H ds cs) (E : Ext r F (lendAt X c.bx s.heap B) r' F1 B1) (Q : RC c.G c.T noOwn r' F1 B1 H1 cs')
    (he : ∀ i ∈ c.bx, ∀ n, ds[i]? = some (some (.cel n)) → (∀ d, cs.get n ≠ some (.box (some d))) → ∀ d, cs'.get n ≠ some (.box (some d))) :
    RS c X r' F1 (hideB X c.bx B1) σ (hideB X c.bx H1) ds cs' := by
  have E' := back_ext I R E
  -- what stands at an own box
  have at1 : ∀ {i a}, i ∈ c.bx → bAddr X i = some a → ∃ ob ou, B1 a = some (.frz ob (.own 0)) ∧ ob.data = .cell ou ∧ ∀ v, σ[i]? = some (some v) → ∃ u, ou = some u ∧ RelV v u := fun {i a} hi e => by
    obtain ⟨ob, ou, h1, h2, h3⟩ := own_obj I O hi e
    exact ⟨ob, ou, E.B a _ (by rw [lend_own ⟨i, hi, e⟩, h1]; rfl), h2, h3⟩
  have nl : ∀ {a o}, H1 a = some o → B1 a = none → ¬ ownB X c.bx a := fun {a o} h n ⟨i, hi, e⟩ => by
    obtain ⟨ob, ou, h1, _, _⟩ := at1 hi e
    rw [n] at h1; cases h1
  have keepO : ∀ a o, H1 a = some o → (∀ ob, o ≠ .frz ob (.own 0)) → hideB X c.bx H1 a = some o := fun a o h n => by
    rw [hide_not (fun ⟨i, hi, e⟩ => by
      obtain ⟨ob, ou, h1, _, _⟩ := at1 hi e
      rw [Q.subB _ _ h1] at h
      cases h
      exact n ob rfl)]
    exact h
  refine ⟨⟨fun a o h => keepO a o (Q.subF a o h) (fun ob z => (Q.plF a o h).nfrz ob _ z), fun a o h => ?_, Q.plF, fun a o h => Q.frB a o (hide_some h).2, Q.inj, fun n a h => ?_, Q.fresh, Q.dec, Q.lt, fun n ce h => ?_, fun q hq => ?_, fun a o h => Q.dj a o (hide_some h).2, fun n a vs h z => Q.rb n a vs h (hide_some z).2⟩, fun i d hi h => ?_, fun i hi => ?_, R.binj, R.len, R.kf⟩
  · obtain ⟨q, h1⟩ := hide_some h
    rw [hide_not q]
    exact Q.subB a o h1
  · by_cases q : ownB X c.bx a
    · exact .inr q
    · rw [hide_not q]
      exact .inl ((Q.rng n a h).elim id fun z => z.elim)
  · have k := Q.cell n ce h
    have list : (∀ od, ce ≠ .box od) → CellOk c.G (ownB X c.bx) r' F1 (hideB X c.bx B1) (hideB X c.bx H1) cs' n ce := fun nb => by
      cases ce with
      | lst xs =>
        obtain ⟨a, vs, h1, h2, h3, h4⟩ := k
        have q := nl h3 h2.2
        exact ⟨a, vs, h1, ⟨h2.1, by rw [hide_not q]; exact h2.2⟩, by rw [hide_not q]; exact h3, h4⟩
      | raw =>
        obtain ⟨a, ns, h1, h2, h3⟩ := k
        have q := nl h3 h2.2
        exact ⟨a, ns, h1, ⟨h2.1, by rw [hide_not q]; exact h2.2⟩, by rw [hide_not q]; exact h3⟩
      | strm m j =>
        obtain ⟨a, b, x, y, z, h1, h2, h3, h4, h5⟩ := k
        have q := nl h4 h2.2
        exact ⟨a, b, x, y, z, h1, ⟨h2.1, by rw [hide_not q]; exact h2.2⟩, h3, by rw [hide_not q]; exact h4, h5⟩
      | kd ys =>
        obtain ⟨a, xs, h1, h2, h3, h4⟩ := k
        have q := nl h3 h2.2
        exact ⟨a, xs, h1, ⟨h2.1, by rw [hide_not q]; exact h2.2⟩, by rw [hide_not q]; exact h3, h4⟩
      | box od => exact absurd rfl (nb od)
    cases ce with
    | lst xs => exact list (fun _ z => nomatch z)
    | raw => exact list (fun _ z => nomatch z)
    | strm m j => exact list (fun _ z => nomatch z)
    | kd ys => exact list (fun _ z => nomatch z)
    | box od =>
      rcases k with ⟨a, h1, z⟩ | ⟨a, ob, h1, h2, h3⟩
      · exact z.elim
      · by_cases q : ownB X c.bx a
        · exact .inl ⟨a, h1, q⟩
        · exact .inr ⟨a, ob, h1, by rw [hide_not q]; exact h2, h3⟩
  · obtain ⟨ps, h1, h2, h3⟩ := Q.tabs q hq
    refine ⟨ps, keepO _ _ h1 (fun ob z => nomatch z), h2, fun pos cv hc => ?_⟩
    obtain ⟨cc, e1, e2⟩ := h3 pos cv hc
    exact ⟨cc, e1, keepO _ _ e2 (fun ob z => by unfold CodeO at z; cases z)⟩
  · obtain ⟨v, h1, h2⟩ := R.slot i d hi h
    exact ⟨v, h1, h2.ext E'⟩
  · obtain ⟨n, a, h1, h2, h3, h4⟩ := R.boxs i hi
    refine ⟨n, a, h1, h2, E.r _ _ h3, fun m ce hm hc => ?_⟩
    have em : m = n := Q.inj m n a hm (E.r _ _ h3)
    subst em
    obtain ⟨ob, ou, z1, z2, z3⟩ := at1 hi h2
    have k := Q.cell m ce hc
    rcases k.at_ with ⟨od, e⟩ | ⟨a', vs, y1, y2, y3, _⟩
    · subst e
      refine ⟨od, rfl, fun d ed => ?_⟩
      subst ed
      rcases k with ⟨_, _, z⟩ | ⟨a', ob', y1, y2, ou', y3, y4⟩
      · exact z.elim
      · rw [hm] at y1; cases y1
        rw [z1] at y2; cases y2
        rw [z2] at y3; cases y3
        obtain ⟨u, v, w1, w2, w3⟩ := y4 d rfl
        have live : ∃ d0, cs.get m = some (.box (some d0)) := Classical.byContradiction fun no => he i hi m h1 (fun d z => no ⟨d, z⟩) d hc
        obtain ⟨d0, l0⟩ := live
        obtain ⟨od0, l1, l2⟩ := h4 m _ h3 l0
        cases l1
        obtain ⟨v0, l3, l4⟩ := l2 d0 rfl
        obtain ⟨u0, l5, l6⟩ := z3 v0 l3
        rw [w1] at l5; cases l5
        have e := RelV.inj w2 l6
        subst e
        exact ⟨v, l3, w3⟩
    · rw [hm] at y1; cases y1
      rw [z1] at y2; exact nomatch y2.2
end

/-! ### the promise of a def -/
/-- g, called with the trees us -/
def spF (c : Cxt) (g : Nat) (n : Nat) : Sp := fun vs H Q E => ∃ r F B cs us K x, us.length = n ∧ c.cal.fn g us cs K x = true ∧ RC c.G c.T noOwn r F B H cs ∧ Reps c.G r F vs us ∧
  (∀ r' F' B' H' v d cs', Ext r F B r' F' B' → RC c.G c.T noOwn r' F' B' H' cs' → Rep c.G r' F' v d → K d cs' = true → Q v H') ∧
  (∀ n fs r' F' B' H' cls dd cs', Ext r F B r' F' B' → RC c.G c.T noOwn r' F' B' H' cs' → ExcOk c r' F' H' n fs cls dd → x n fs cs' = true → E cls dd H')
def getO : List (Nat × Cell) → Nat → Option Cell
  | [], _ => none
  | (m, c) :: r, n => match Nat.beq n m with
    | true => some c
    | false => getO r n
theorem getO_eq : ∀ (l : List (Nat × Cell)) (n : Nat), getO l n = l.lookup n
  | [], _ => rfl
  | (m, c) :: r, n => by
    unfold getO
    cases e : Nat.beq n m with
    | true =>
      have e' : (n == m) = true := by simpa using Nat.eq_of_beq_eq_true e
      simp only [List.lookup, e']
    | false =>
      have e' : (n == m) = false := by simpa using Nat.ne_of_beq_eq_false e
      simp only [List.lookup, e', getO_eq r n]
/-- the boxes that hold nothing -/
def emptyB (cs : Cs) (e : Env) : List Nat → (List Nat → Bool) → Bool
  | [], k => k []
  | i :: is, k => nthE e i fun d => match d with
    | .cel n => (match getO cs.l n with
      | some (.box (some _)) => emptyB cs e is k
      | _ => emptyB cs e is fun ns => k (n :: ns))
    | _ => false
def stillE (cs : Cs) : List Nat → Bool
  | [] => true
  | n :: ns => match getO cs.l n with
    | some (.box (some _)) => false
    | _ => stillE cs ns
theorem stillE_ok {cs : Cs} : ∀ {ns : List Nat}, stillE cs ns = true → ∀ n ∈ ns, ∀ d, cs.get n ≠ some (.box (some d))
  | m :: ns, h, n, hn, d, e => by
    unfold stillE at h
    have e : cs.l.lookup n = some (.box (some d)) := e
    rw [← getO_eq] at e
    split at h
    · cases h
    · rename_i no
      rcases List.mem_cons.mp hn with z | z
      · subst z; exact no _ e
      · exact stillE_ok h n z d (by rw [getO_eq] at e; exact e)
theorem emptyB_ok {cs : Cs} {e : Env} : ∀ {is : List Nat} {k : List Nat → Bool}, emptyB cs e is k = true → ∃ ns, k ns = true ∧ ∀ i ∈ is, ∀ n, e[i]? = some (some (.cel n)) → (∀ d, cs.get n ≠ some (.box (some d))) → n ∈ ns
  | [], k, h => ⟨[], h, fun i hi => absurd hi (by simp)⟩
  | i :: is, k, h => by
    unfold emptyB at h
    obtain ⟨d, h1, h2⟩ := nthE_true h
    split at h2
    · rename_i n
      split at h2
      · rename_i d0 q
        obtain ⟨ns, h3, h4⟩ := emptyB_ok h2
        refine ⟨ns, h3, fun j hj m hm no => ?_⟩
        rcases List.mem_cons.mp hj with z | z
        · subst z
          rw [h1] at hm; cases hm
          exact absurd (show cs.l.lookup n = _ by rw [← getO_eq]; exact q) (no d0)
        · exact h4 j z m hm no
      · obtain ⟨ns, h3, h4⟩ := emptyB_ok h2
        refine ⟨n :: ns, h3, fun j hj m hm no => ?_⟩
        rcases List.mem_cons.mp hj with z | z
        · subst z
          rw [h1] at hm; cases hm
          exact List.mem_cons_self
        · exact List.mem_cons_of_mem _ (h4 j z m hm no)
    · cases h2
/-- a call, own boxes lent -/
def lent (bx : List Nat) (e : Env) (cs : Cs) (run : KE → KX → Bool) (k : KE) (x : KX) : Bool := match bx with
  | [] => run k x
  | i :: is => emptyB cs e (i :: is) fun ns => run (fun d cs' => match stillE cs' ns with
    | true => k d cs'
    | false => false) fun n fs cs' => match stillE cs' ns with
    | true => x n fs cs'
    | false => false
section
variable {c : Cxt} {X : Cx} {r r' : Nat → Option Addr} {F B F' B' H H' : Hp} {σ : L2.St} {ds : Env} {cs cs' : Cs} {pins : List (Addr × Obj)} {s s' : Shared} {K : KE} {x : KX} {Q : VK}
theorem lent_ok {run : KE → KX → Bool} {e : Env} {bx : List Nat} (h : lent bx e cs run K x = true) : ∃ (K' : KE) (x' : KX), run K' x' = true ∧
    (∀ d cs', K' d cs' = true → K d cs' = true ∧ ∀ i ∈ bx, ∀ n, e[i]? = some (some (.cel n)) → (∀ d, cs.get n ≠ some (.box (some d))) → ∀ d, cs'.get n ≠ some (.box (some d))) ∧
    (∀ n fs cs', x' n fs cs' = true → x n fs cs' = true ∧ ∀ i ∈ bx, ∀ n, e[i]? = some (some (.cel n)) → (∀ d, cs.get n ≠ some (.box (some d))) → ∀ d, cs'.get n ≠ some (.box (some d))) := by
  unfold lent at h
  split at h
  · exact ⟨K, x, h, fun d cs' h => ⟨h, fun i hi => absurd hi (by simp)⟩, fun n fs cs' h => ⟨h, fun i hi => absurd hi (by simp)⟩⟩
  · obtain ⟨ns, h1, h2⟩ := emptyB_ok h
    refine ⟨_, _, h1, fun d cs' q => ?_, fun n fs cs' q => ?_⟩
    · cases z : stillE cs' ns with
      | false => rw [z] at q; cases q
      | true => rw [z] at q; exact ⟨q, fun i hi n hn no => stillE_ok z n (h2 i hi n hn no)⟩
    · cases z : stillE cs' ns with
      | false => rw [z] at q; cases q
      | true => rw [z] at q; exact ⟨q, fun i hi n hn no => stillE_ok z n (h2 i hi n hn no)⟩
/-- what is wanted behind a run from outside -/
def retQ (c : Cxt) (r : Nat → Option Addr) (F B : Hp) (K : KE) : VK := fun v H' => ∃ r' F' B' d cs', Ext r F B r' F' B' ∧ RC c.G c.T noOwn r' F' B' H' cs' ∧ Rep c.G r' F' v d ∧ K d cs' = true
def excQ (c : Cxt) (r : Nat → Option Addr) (F B : Hp) (x : KX) : XK := fun cls dd H' => ∃ n fs r' F' B' cs', Ext r F B r' F' B' ∧ RC c.G c.T noOwn r' F' B' H' cs' ∧ ExcOk c r' F' H' n fs cls dd ∧ x n fs cs' = true
/-- what a callee's run gives the caller -/
theorem ret_of (I : Inv X pins σ H s) (O : OwnX X c.bx) (R : RS c X r F B σ H ds cs) (k : Kok c X r F B σ ds K Q) (xk : Xok c X r F B σ ds x) (tk : Takes X c.W)
    {K' : KE} {x' : KX} (hK : ∀ d cs', K' d cs' = true → K d cs' = true ∧ ∀ i ∈ c.bx, ∀ n, ds[i]? = some (some (.cel n)) → (∀ d, cs.get n ≠ some (.box (some d))) → ∀ d, cs'.get n ≠ some (.box (some d)))
    (hx : ∀ n fs cs', x' n fs cs' = true → x n fs cs' = true ∧ ∀ i ∈ c.bx, ∀ n, ds[i]? = some (some (.cel n)) → (∀ d, cs.get n ≠ some (.box (some d))) → ∀ d, cs'.get n ≠ some (.box (some d)))
    {res : Result} (h : CR (L2.CX X.prog X.w) X.stack X.prog X.w (lendAt X c.bx s.heap H) s
      (retQ c r F (lendAt X c.bx s.heap B) K') (excQ c r F (lendAt X c.bx s.heap B) x') res s') :
    match res with
    | .ok (.ret u) => EP X pins σ Q u s'
    | .ok _ => False
    | .error e => X.xe e s' := by
  cases res with
  | ok fl =>
    cases fl with
    | ret u =>
      obtain ⟨v, H1, os, bare, un, hok, rv, r', F', B', d, cs', E, Q', hv, hk⟩ := h
      obtain ⟨hk1, he⟩ := hK d cs' hk
      exact ⟨v, _, back_inv I O os un hok bare, rv, k _ _ _ _ _ _ _ (back_ext I R E) (back_rl I O R E Q' he) hv hk1⟩
    | next => exact h
    | brk => exact h
    | cont => exact h
  | error u =>
    -- the exception, in our air: with the boxes back
    obtain ⟨a, G, H1, cls, d, e, fl, hok, ub, na, os, ag, n, fs, r', F', B', cs', E, Q', hE, hk⟩ := h
    obtain ⟨hk1, he⟩ := hx n fs cs' hk
    have ns : ∀ b ∈ frs X.stack, ¬ ownB X c.bx b := fun b hb ⟨i, hi, e⟩ => by
      obtain ⟨y, _, l⟩ := bAddr_look e
      rcases List.mem_cons.mp (I.stkSub b hb) with z | z
      · exact I.cne y b l z
      · exact O.nf i hi b e z
    have frz : ∀ {b ob}, ownB X c.bx b → s.heap.get? b = some ob → H1 b = some (.frz ob (.own 0)) := fun {b ob} q h => ub.frzs b ob (.own 0) (by rw [lend_own q, h]; rfl)
    have lN : ∀ a, H a = none → ¬ ownB X c.bx a → lendAt X c.bx s.heap H a = none := fun a h q => by rw [lend_not q]; exact h
    have own_there : ∀ {b}, ownB X c.bx b → ∃ ob, s.heap.get? b = some ob := fun {b} ⟨i, hi, e⟩ => by
      obtain ⟨ob, _, e1, _, _⟩ := own_obj I O hi e
      exact ⟨ob, e1⟩
    have hR := back_rl I O R E Q' he
    refine tk u s' (XE.of_call (E := fun cls dd H' => c.W cls dd σ H') I (fun _ _ _ h => h) ⟨a, G, hideB X c.bx H1, cls, d, e, fl, fun b o h => ?_, ⟨fun b o h n hb => ?_, ub.slot, fun b o h n => ?_, ub.there, fun b xs h => ?_, fun b o xs h => ?_, fun b ps h => ?_⟩, ?_, os, ag, ?_⟩)
    · obtain ⟨q, h1⟩ := hide_some h
      refine (hok b o h1).stay (fun _ _ _ z => z) (fun b2 z => ?_) fun b2 xs z => ?_
      · rw [hide_not (fun qb => by obtain ⟨ob, e⟩ := own_there qb; rw [frz qb e] at z; cases z)]; exact z
      · rw [hide_not (fun qb => by obtain ⟨ob, e⟩ := own_there qb; rw [frz qb e] at z; cases z)]; exact z
    · by_cases q : ownB X c.bx b
      · exact (hok b _ (frz q h)).1
      · exact ub.keep b o h (lN b n q) hb
    · by_cases q : ownB X c.bx b
      · exact hide_own q
      · rw [hide_not q]; exact ub.free b o h (lN b n q)
    · have q := not_own I h (bx := c.bx)
      rw [hide_not q]; exact ub.tups b xs (by rw [lend_not q]; exact h)
    · have q := not_own I h (bx := c.bx)
      rw [hide_not q]; exact ub.frzs b o xs (by rw [lend_not q]; exact h)
    · have q := not_own I h (bx := c.bx)
      rw [hide_not q]; exact ub.tbls b ps (by rw [lend_not q]; exact h)
    · by_cases q : ownB X c.bx a
      · exact hide_own q
      · rw [hide_not q]; exact na
    · exact xk n fs _ _ _ _ cls d cs' (back_ext I R E) hR hE hk1
end
end Ev

set_option Elab.async false
set_option linter.all false
set_option maxRecDepth 100000
set_option maxHeartbeats 2000000
/-! Ev8: the call of a def of the top; a def by its body -/
namespace Ev
open PySem PySem.Spec PyProof.Rows L2 LamX NdefX

/-- a def without defaults -/
abbrev fdOf (x : Str) (pa : Arguments) (body : List Stmt) (scope : Scope) (kV doc pm : Value) (an : Option Addr) (cdv ct : Value) : FuncData := PySem.W.fnOf x x pa body scope .none kV doc pm an cdv ct
/-- what a body knows of the def x, number g: its promise at k rooms -/
structure CalF (c : Cxt) (P : Program) (w : World) (K : PySem.W.Frag) (mg : Str → Option Value) (base : Heap) (k : Nat) (x : Str) (g : Nat) (ps : List Str) (pa : Arguments) : Prop where
  ex : ∃ (f : Addr) (body : List Stmt) (scope : Scope) (kV doc pm : Value) (an : Option Addr) (cdv ct : Value), FnOk P w K mg base (L2.CX P w) k f (fdOf x pa body scope kV doc pm an cdv ct) ps (spF c g ps.length) ∧ mg x = some (.ref f) ∧ PySem.W.keepIn K (.ref f) = true
/-- how the written arguments go to the parameters: pm tells for each parameter which of the written ones it is -/
def permG {α : Type} (p : List Nat) (l : List α) : List α := p.filterMap fun i => l[i]?
theorem permG_vals {vs : List V} {us : List Value} (r : Vals vs us) : ∀ p : List Nat, Vals (permG p vs) (permG p us)
  | [] => .nil
  | i :: p => by
    have ih := permG_vals r p
    cases e : vs[i]? with
    | none =>
      have e2 := Vals.none_of r e
      have h1 : permG (i :: p) vs = permG p vs := by unfold permG; rw [List.filterMap_cons, e]
      have h2 : permG (i :: p) us = permG p us := by unfold permG; rw [List.filterMap_cons, e2]
      rw [h1, h2]; exact ih
    | some v =>
      obtain ⟨u, e2, rv⟩ := r.get e
      have h1 : permG (i :: p) vs = v :: permG p vs := by unfold permG; rw [List.filterMap_cons, e]
      have h2 : permG (i :: p) us = u :: permG p us := by unfold permG; rw [List.filterMap_cons, e2]
      rw [h1, h2]; exact .cons rv ih
theorem permG_reps {G : Gs} {r : Nat → Option Addr} {F : Hp} {vs : List V} {us : List D} (h : Reps G r F vs us) : ∀ p : List Nat, Reps G r F (permG p vs) (permG p us)
  | [] => .nil
  | i :: p => by
    have ih := permG_reps h p
    cases e : us[i]? with
    | none =>
      have e2 : vs[i]? = none := List.getElem?_eq_none_iff.mpr (by rw [h.length]; exact List.getElem?_eq_none_iff.mp e)
      have h1 : permG (i :: p) us = permG p us := by unfold permG; rw [List.filterMap_cons, e]
      have h2 : permG (i :: p) vs = permG p vs := by unfold permG; rw [List.filterMap_cons, e2]
      rw [h1, h2]; exact ih
    | some d =>
      obtain ⟨v, e2, rv⟩ := h.get e
      have h1 : permG (i :: p) us = d :: permG p us := by unfold permG; rw [List.filterMap_cons, e]
      have h2 : permG (i :: p) vs = v :: permG p vs := by unfold permG; rw [List.filterMap_cons, e2]
      rw [h1, h2]; exact .cons rv ih
/-- how a def binds n written values and those named ks -/
def BindK (x : Str) (pa : Arguments) (ps : List Str) (n : Nat) (ks : List Str) (p : List Nat) : Prop :=
  ∀ (body : List Stmt) (scope : Scope) (kV doc pm : Value) (an : Option Addr) (cdv ct : Value) (us ws : List Value), us.length = n → ws.length = ks.length →
    bindArgs (fdOf x pa body scope kV doc pm an cdv ct) ⟨us, ks.zip ws⟩ = pure (ps.zip (permG p (us ++ ws)))
def XKw (c : Cxt) (X : Cx) (kws : List Keyword) (m : MA) : Prop := PK X kws (tA c X m)
def mPerm (p : List Nat) (us : List D) (k : List D → Bool) : Bool := fList (permG p us) k
def lenIs : List D → Nat → Bool
  | [], 0 => true
  | _ :: r, n + 1 => lenIs r n
  | _, _ => false
theorem lenIs_ok : ∀ {us : List D} {n : Nat}, lenIs us n = true → us.length = n
  | [], 0, _ => rfl
  | _ :: r, n + 1, h => by rw [List.length_cons, lenIs_ok (us := r) (n := n) h]
  | [], _ + 1, h => nomatch h
  | _ :: _, 0, h => nomatch h
/-- f(e, ..); f(e, .., k = v, ..) -/
def mCall (bx : List Nat) (g n : Nat) (a : MA) : ME := fun f e cs k x => a f e cs (fun us cs1 => match lenIs us n with
  | true => lent bx e cs1 (fun k' x' => f.fn g us cs1 k' x') k x
  | false => false) x
def mCallK (bx : List Nat) (g n m l : Nat) (p : List Nat) (a b : MA) : ME := fun f e cs k x => a f e cs (fun us cs1 => b f e cs1 (fun ws cs2 => match lenIs us n && lenIs ws m with
  | true => mPerm p (us ++ ws) fun zs => (match lenIs zs l with
    | true => lent bx e cs2 (fun k' x' => f.fn g zs cs2 k' x') k x
    | false => false)
  | false => false) x) x
section
variable {c : Cxt} {X : Cx} {r r' : Nat → Option Addr} {F B F' B' H H' : Hp} {σ : L2.St} {ds : Env} {cs cs' : Cs} {pins : List (Addr × Obj)} {s s' : Shared} {K : KE} {x : KX} {Q : VK} {pos p : Pos} {e : Expr} {es : List Expr} {kws : List Keyword} {ma mb : MA} {k g : Nat} {y : Str} {ps : List Str} {pa : Arguments}
theorem xk_nil : XKw c X [] mNil := ⟨fun pos pins s σ H Q I ⟨r, F, B, ds, cs, K, x, hm, R, k, xk⟩ => pk_nil.run pos pins s σ H Q I (k _ _ _ _ _ _ _ (Ext.refl _ _ _) R .nil hm)⟩
theorem xk_cons {nm : Option Str} {kpos : Pos} {a : ME} (ha : XE c X e a) (hr : XKw c X kws mb) : XKw c X (⟨nm, e, kpos⟩ :: kws) (mCons a mb) := ⟨fun pos pins s σ H Q I ⟨r, F, B, ds, cs, K, x, hm, R, k, xk⟩ =>
  (pk_cons ha hr).run pos pins s σ H Q I (tE.of hm R (fun r1 F1 B1 H1 v d cs1 E1 R1 hv h1 => tA.of h1 R1 (fun r2 F2 B2 H2 vs us cs2 E2 R2 hvs h2 =>
    k _ _ _ _ _ _ _ (E1.trans E2) R2 (.cons (hv.ext E2) hvs) h2) (xk.ext E1)) xk)⟩
/-- the callee's run -/
theorem run_cal {f : Addr} {fd : FuncData} {pa : List Value} {ka : List (Str × Value)} {us : List Value} {vs : List V} {zs : List D} (Fo : FnOk X.prog X.w X.K X.mg X.base (L2.CX X.prog X.w) k f fd ps (spF c g ps.length)) (hr : Room k X.A) (I : Inv X pins σ H s) (O : OwnX X c.bx) (tk : Takes X c.W)
    (R : RS c X r F B σ H ds cs) (kk : Kok c X r F B σ ds K Q) (xk : Xok c X r F B σ ds x) (hb : BindsTo s fd ⟨pa, ka⟩ (ps.zip us)) (rv : Vals vs us) (hv : Reps c.G r F vs zs) (hl : zs.length = ps.length)
    (hm : lent c.bx ds cs (fun k' x' => c.cal.fn g zs cs k' x') K x = true) : wpAny (model X.prog X.w) X.A (call (.ref f) pa ka) (EP X pins σ Q) X.xe s := by
  obtain ⟨K', x', h1, hK, hx⟩ := lent_ok hm
  have E := lend_ext I R
  refine wpAny_call (codeAny_mono (Fo.run X.A X.stack s (lendAt X c.bx s.heap H) ⟨pa, ka⟩ us vs (retQ c r F (lendAt X c.bx s.heap B) K') (excQ c r F (lendAt X c.bx s.heap B) x') hr (lend_env0 I O) hb rv ⟨r, F, _, cs, zs, K', x', hl, h1, lend_rc I O R, hv,
    fun r' F' B' H' v d cs' E' R' hv' h' => ⟨r', F', B', d, cs', E', R', hv', h'⟩, fun n fs r' F' B' H' cls dd cs' E' R' hE h' => ⟨n, fs, r', F', B', cs', E', R', hE, h'⟩⟩) fun res s' hq => ?_)
  have q := ret_of I O R kk xk tk hK hx hq
  cases res with
  | ok fl => cases fl with
    | ret u => exact q
    | next => exact q
    | brk => exact q
    | cont => exact q
  | error e => exact q
theorem xe_call (C : CalF c X.prog X.w X.K X.mg X.base k y g ps pa) (hr : Room k X.A) (O : OwnX X c.bx) (tk : Takes X c.W) (hg : Gl X y)
    (hb : ∀ (body : List Stmt) (scope : Scope) (kV doc pm : Value) (an : Option Addr) (cdv ct : Value) (us : List Value), us.length = ps.length → bindArgs (fdOf y pa body scope kV doc pm an cdv ct) ⟨us, []⟩ = pure (ps.zip us)) (ha : XA c X (e :: es) ma)
    (hdb : (y == ("__debug__" : Str)) = false := by decide) (he : starEach (e :: es) X.env = (false, eval e X.env) :: starEach es X.env := by rfl) (hpl : (backTo pos (starEach es X.env)).any (·.1) = false := by rfl) :
    XE c X (.Call (.Name y p) (e :: es) [] pos) (mCall c.bx g ps.length ma) := by
  obtain ⟨f, body, scope, kV, doc, pm, an, cdv, ct, Fo, hmg, hk⟩ := C.ex
  refine ⟨fun pins s σ H Q I ⟨r, F, B, ds, cs, K, x, hm, R, kk, xk⟩ => ?_⟩
  refine wpAny_Call_Name_kw (ld_glob I hg hmg ?_ hdb)
  refine PySem.W.callWith_K (h₀ := X.base) I.ok.mod.kin hk (thn (ha.run pos pins s σ H (fun vs H1 => ∃ r1 F1 B1 cs1 us, Ext r F B r1 F1 B1 ∧ RS c X r1 F1 B1 σ H1 ds cs1 ∧ Reps c.G r1 F1 vs us ∧ _ = true) I
    (tA.of hm R (fun r1 F1 B1 H1 vs us cs1 E1 R1 hvs h1 => ⟨r1, F1, B1, cs1, us, E1, R1, hvs, h1⟩) xk)) fun us s1 ⟨vs, H1, I1, rv, r1, F1, B1, cs1, zs, E1, R1, hvs, h1⟩ => ⟨I1.kIn, ?_⟩) he hpl
  split at h1
  · rename_i q
    have q := lenIs_ok q
    have lu : us.length = ps.length := by rw [← rv.length, hvs.length]; exact q
    exact run_cal Fo hr I1 O tk R1 (kk.ext E1) (xk.ext E1) (.of_eq (hb body scope kV doc pm an cdv ct us lu)) rv hvs q h1
  · cases h1
theorem xe_call0 (C : CalF c X.prog X.w X.K X.mg X.base k y g [] pa) (hr : Room k X.A) (O : OwnX X c.bx) (tk : Takes X c.W) (hg : Gl X y)
    (hb : ∀ (body : List Stmt) (scope : Scope) (kV doc pm : Value) (an : Option Addr) (cdv ct : Value), bindArgs (fdOf y pa body scope kV doc pm an cdv ct) ⟨[], []⟩ = pure []) (hdb : (y == ("__debug__" : Str)) = false := by decide) :
    XE c X (.Call (.Name y p) [] [] pos) (mCall c.bx g 0 mNil) := by
  obtain ⟨f, body, scope, kV, doc, pm, an, cdv, ct, Fo, hmg, hk⟩ := C.ex
  refine ⟨fun pins s σ H Q I ⟨r, F, B, ds, cs, K, x, hm, R, kk, xk⟩ => ?_⟩
  refine wpAny_Call_Name_kw (ld_glob I hg hmg ?_ hdb)
  exact PySem.W.callWith_K0 I.kIn hk (run_cal Fo hr I O tk R kk xk (.of_eq (hb body scope kV doc pm an cdv ct)) .nil .nil rfl hm)
/-- behind the written arguments -/
theorem run_calK {n : Nat} {ks : List Str} {pp : List Nat} {f : Addr} {body : List Stmt} {scope : Scope} {kV doc pm : Value} {an : Option Addr} {cdv ct : Value} {us ws : List Value} {vs zs : List V} {ys wz : List D}
    (Fo : FnOk X.prog X.w X.K X.mg X.base (L2.CX X.prog X.w) k f (fdOf y pa body scope kV doc pm an cdv ct) ps (spF c g ps.length)) (hr : Room k X.A) (I : Inv X pins σ H s) (O : OwnX X c.bx) (tk : Takes X c.W)
    (R : RS c X r F B σ H ds cs) (kk : Kok c X r F B σ ds K Q) (xk : Xok c X r F B σ ds x) (hb : BindK y pa ps n ks pp) (rv : Vals vs us) (rz : Vals zs ws) (hv : Reps c.G r F vs ys) (hz : Reps c.G r F zs wz)
    (hm : (match lenIs ys n && lenIs wz ks.length with
      | true => mPerm pp (ys ++ wz) fun zs => (match lenIs zs ps.length with
        | true => lent c.bx ds cs (fun k' x' => c.cal.fn g zs cs k' x') K x
        | false => false)
      | false => false) = true) : wpAny (model X.prog X.w) X.A (call (.ref f) us (ks.zip ws)) (EP X pins σ Q) X.xe s := by
  split at hm
  · rename_i q
    obtain ⟨q1, q2⟩ := Bool.and_eq_true_iff.mp q
    have q1 := lenIs_ok q1
    have q2 := lenIs_ok q2
    unfold mPerm at hm
    rw [fList_eq] at hm
    split at hm
    · rename_i q3
      exact run_cal Fo hr I O tk R kk xk (.of_eq (hb body scope kV doc pm an cdv ct us ws (by rw [← rv.length, hv.length]; exact q1) (by rw [← rz.length, hz.length]; exact q2))) (permG_vals (rv.append rz) pp) (permG_reps (Reps.append hz hv) pp) (lenIs_ok q3) hm
    · cases hm
  · cases hm
theorem xe_callK {n : Nat} {ks : List Str} {pp : List Nat} (C : CalF c X.prog X.w X.K X.mg X.base k y g ps pa) (hr : Room k X.A) (O : OwnX X c.bx) (tk : Takes X c.W) (hg : Gl X y) (hb : BindK y pa ps n ks pp) (ha : XA c X (e :: es) ma) (hw : XKw c X kws mb)
    (hall : (backToKw pos (keywordEach kws X.env)).all (·.1.isSome) = true := by rfl) (hks : (backToKw pos (keywordEach kws X.env)).filterMap (·.1) = ks := by rfl)
    (hdb : (y == ("__debug__" : Str)) = false := by decide) (he : starEach (e :: es) X.env = (false, eval e X.env) :: starEach es X.env := by rfl)
    (hpl : ((backTo pos (starEach (e :: es) X.env)).any (·.1) || (backToKw pos (keywordEach kws X.env)).any (·.1.isNone)) = false := by rfl) :
    XE c X (.Call (.Name y p) (e :: es) kws pos) (mCallK c.bx g n ks.length ps.length pp ma mb) := by
  obtain ⟨f, body, scope, kV, doc, pm, an, cdv, ct, Fo, hmg, hk⟩ := C.ex
  refine ⟨fun pins s σ H Q I ⟨r, F, B, ds, cs, K, x, hm, R, kk, xk⟩ => ?_⟩
  refine wpAny_Call_Name_kw (ld_glob I hg hmg ?_ hdb)
  refine PySem.W.callWith_KW (h₀ := X.base) I.ok.mod.kin hk hall (thn (ha.run pos pins s σ H (fun vs H1 => ∃ r1 F1 B1 cs1 us, Ext r F B r1 F1 B1 ∧ RS c X r1 F1 B1 σ H1 ds cs1 ∧ Reps c.G r1 F1 vs us ∧ _ = true) I
    (tA.of hm R (fun r1 F1 B1 H1 vs us cs1 E1 R1 hvs h1 => ⟨r1, F1, B1, cs1, us, E1, R1, hvs, h1⟩) xk)) fun us s1 ⟨vs, H1, I1, rv, r1, F1, B1, cs1, zs, E1, R1, hvs, h1⟩ => ?_) hpl he
  refine thn (hw.run pos pins s1 σ H1 (fun vs H1 => ∃ r2 F2 B2 cs2 us, Ext r1 F1 B1 r2 F2 B2 ∧ RS c X r2 F2 B2 σ H1 ds cs2 ∧ Reps c.G r2 F2 vs us ∧ _ = true) I1
    (tA.of h1 R1 (fun r1 F1 B1 H1 vs us cs1 E1 R1 hvs h1 => ⟨r1, F1, B1, cs1, us, E1, R1, hvs, h1⟩) (xk.ext E1))) fun ws s2 ⟨zs2, H2, I2, rz, r2, F2, B2, cs2, ys, E2, R2, hz, h2⟩ => ⟨I2.kIn, ?_⟩
  rw [hks]
  exact run_calK Fo hr I2 O tk R2 (kk.ext (E1.trans E2)) (xk.ext (E1.trans E2)) hb rv rz (hvs.ext E2) hz h2
theorem xe_callK0 {ks : List Str} {pp : List Nat} (C : CalF c X.prog X.w X.K X.mg X.base k y g ps pa) (hr : Room k X.A) (O : OwnX X c.bx) (tk : Takes X c.W) (hg : Gl X y) (hb : BindK y pa ps 0 ks pp) (hw : XKw c X kws mb)
    (hall : (backToKw pos (keywordEach kws X.env)).all (·.1.isSome) = true := by rfl) (hks : (backToKw pos (keywordEach kws X.env)).filterMap (·.1) = ks := by rfl)
    (hdb : (y == ("__debug__" : Str)) = false := by decide)
    (hpl : ((backTo pos (starEach [] X.env)).any (·.1) || (backToKw pos (keywordEach kws X.env)).any (·.1.isNone)) = false := by rfl) :
    XE c X (.Call (.Name y p) [] kws pos) (mCallK c.bx g 0 ks.length ps.length pp mNil mb) := by
  obtain ⟨f, body, scope, kV, doc, pm, an, cdv, ct, Fo, hmg, hk⟩ := C.ex
  refine ⟨fun pins s σ H Q I ⟨r, F, B, ds, cs, K, x, hm, R, kk, xk⟩ => ?_⟩
  refine wpAny_Call_Name_kw (ld_glob I hg hmg ?_ hdb)
  refine PySem.W.callWith_KW0 (h₀ := X.base) I.ok.mod.kin hk hall ?_ hpl
  have hm : mb c.cal ds cs _ x = true := hm
  refine thn (hw.run pos pins s σ H (fun vs H1 => ∃ r2 F2 B2 cs2 us, Ext r F B r2 F2 B2 ∧ RS c X r2 F2 B2 σ H1 ds cs2 ∧ Reps c.G r2 F2 vs us ∧ _ = true) I
    (tA.of hm R (fun r1 F1 B1 H1 vs us cs1 E1 R1 hvs h1 => ⟨r1, F1, B1, cs1, us, E1, R1, hvs, h1⟩) xk)) fun ws s2 ⟨zs2, H2, I2, rz, r2, F2, B2, cs2, ys, E2, R2, hz, h2⟩ => ⟨I2.kIn, ?_⟩
  rw [hks]
  exact run_calK Fo hr I2 O tk R2 (kk.ext E2) (xk.ext E2) hb .nil rz .nil hz h2
end
end Ev

set_option Elab.async false
set_option linter.all false
set_option maxRecDepth 100000
set_option maxHeartbeats 2000000
/-! Ev9: a def by its body: the entry with its boxes, the end -/
namespace Ev
open PySem PySem.Spec PyProof.Rows L2 LamX NdefX

section
variable {c : Cxt} {X : Cx} {r r' : Nat → Option Addr} {F B F' B' H H' : Hp} {σ : L2.St} {ds : Env} {cs cs' : Cs} {pins : List (Addr × Obj)} {s s' : Shared} {p : Addr}
theorem RL.perm {G : Gs} {T : List NTab} {bx bx' : List Nat} (R : RL G T X bx r F B σ H ds cs) (h : ∀ i, i ∈ bx ↔ i ∈ bx') : RL G T X bx' r F B σ H ds cs := by
  have e : ownB X bx = ownB X bx' := by
    funext a
    apply propext
    exact ⟨fun ⟨i, hi, q⟩ => ⟨i, (h i).mp hi, q⟩, fun ⟨i, hi, q⟩ => ⟨i, (h i).mpr hi, q⟩⟩
  exact ⟨e ▸ R.rc, fun i d hi => R.slot i d fun z => hi ((h i).mp z), fun i hi => R.boxs i ((h i).mpr hi), fun i hi j hj => R.binj i ((h i).mpr hi) j ((h j).mpr hj), R.len, R.kf⟩
/-- a slot becomes a box -/
theorem RL.newB {G : Gs} {T : List NTab} {bx : List Nat} {i : Nat} {od : Option D} (R : RL G T X bx r F B σ H ds cs) (hi : i ∉ bx) (ha : bAddr X i = some p) (hp : H p = none) (hd : ∀ j ∈ bx, bAddr X j ≠ some p) (ho : ds[i]? = some od) :
    RL G T X (i :: bx) (updR r cs.nx p) F B σ H (ds.set i (some (.cel cs.nx))) ⟨cs.nx + 1, (cs.nx, .box od) :: cs.l⟩ ∧ Ext r F B (updR r cs.nx p) F B := by
  have hb : ∀ a, ownB X bx a → a ≠ p := fun a ⟨j, hj, e⟩ z => hd j hj (z ▸ e)
  obtain ⟨q, E⟩ := R.rc.newCell (own' := ownB X (i :: bx)) (c := .box od) hp hb (fun a ⟨j, hj, e⟩ => ⟨j, List.mem_cons_of_mem _ hj, e⟩) (fun _ _ z => z) (.inr ⟨i, List.mem_cons_self, ha⟩) (.inl ⟨p, updR_same _ _, i, List.mem_cons_self, ha⟩)
  have hl : i < ds.length := (List.getElem?_eq_some_iff.mp ho).1
  refine ⟨⟨q, fun j d hj h => ?_, fun j hj => ?_, fun j hj k hk a h1 h2 => ?_, by rw [List.length_set]; exact R.len, R.kf⟩, E⟩
  · have ne : i ≠ j := fun z => hj (by rw [z]; exact List.mem_cons_self)
    rw [List.getElem?_set_ne ne] at h
    obtain ⟨v, h3, h4⟩ := R.slot j d (fun z => hj (List.mem_cons_of_mem _ z)) h
    exact ⟨v, h3, h4.ext E⟩
  · by_cases ej : j = i
    · subst ej
      refine ⟨cs.nx, p, List.getElem?_set_self hl, ha, updR_same _ _, fun m ce hm hc => ?_⟩
      have em : m = cs.nx := q.inj m cs.nx p hm (updR_same _ _)
      rw [get_cons, if_pos em] at hc
      cases hc
      refine ⟨od, rfl, fun d ed => ?_⟩
      subst ed
      obtain ⟨v, h3, h4⟩ := R.slot j d hi ho
      exact ⟨v, h3, h4.ext E⟩
    · have hj' : j ∈ bx := (List.mem_cons.mp hj).resolve_left ej
      obtain ⟨n, a, h1, h2, h4, h5⟩ := R.boxs j hj'
      refine ⟨n, a, by rw [List.getElem?_set_ne (Ne.symm ej)]; exact h1, h2, E.r _ _ h4, fun m ce hm hc => ?_⟩
      have nx : m ≠ cs.nx := fun e => by
        rw [e, updR_same] at hm
        cases hm
        exact hd j hj' h2
      rw [get_cons, if_neg nx] at hc
      rw [updR_ne p nx] at hm
      obtain ⟨od, e1, h6⟩ := h5 m ce hm hc
      refine ⟨od, e1, fun d e => ?_⟩
      obtain ⟨v, q1, q2⟩ := h6 d e
      exact ⟨v, q1, q2.ext E⟩
  · rcases List.mem_cons.mp hj with e1 | e1
    · rcases List.mem_cons.mp hk with e2 | e2
      · rw [e1, e2]
      · subst e1
        rw [ha] at h1; cases h1
        exact absurd h2 (hd k e2)
    · rcases List.mem_cons.mp hk with e2 | e2
      · subst e2
        rw [ha] at h2; cases h2
        exact absurd h1 (hd j e1)
      · exact R.binj j e1 k e2 a h1 h2
end
/-! ### the entry -/
def getE : Env → Nat → (Option D → Bool) → Bool
  | [], _, _ => false
  | x :: _, 0, k => k x
  | _ :: r, n + 1, k => getE r n k
theorem getE_true : ∀ {e : Env} {i : Nat} {k : Option D → Bool}, getE e i k = true → ∃ od, e[i]? = some od ∧ k od = true
  | [], _, _, h => by cases h
  | x :: _, 0, k, h => ⟨x, rfl, h⟩
  | _ :: r, n + 1, k, h => by
    obtain ⟨od, h1, h2⟩ := getE_true (e := r) (i := n) h
    exact ⟨od, by simpa using h1, h2⟩
def enterB : List Nat → Env → Cs → (Env → Cs → Bool) → Bool
  | [], e, cs, k => k e cs
  | i :: is, e, cs, k => getE e i fun od => setE e i (some (.cel cs.nx)) fun e' => fNat (cs.nx + 1) fun n => enterB is e' ⟨n, (cs.nx, .box od) :: cs.l⟩ k
/-- the cells of the slots bx are known by name, apart from one another, not tracked -/
structure Boxes (X : Cx) (bx : List Nat) (H : Hp) : Prop where
  nd : bx.Nodup
  at_ : ∀ i ∈ bx, ∃ a, bAddr X i = some a ∧ H a = none
  inj : ∀ i ∈ bx, ∀ j ∈ bx, ∀ a, bAddr X i = some a → bAddr X j = some a → i = j
theorem enterB_ok {G : Gs} {T : List NTab} {X : Cx} {F B H : Hp} {σ : L2.St} : ∀ {is dn : List Nat} {r : Nat → Option Addr} {e : Env} {cs : Cs} {k : Env → Cs → Bool}, Boxes X (is ++ dn) H → RL G T X dn r F B σ H e cs → enterB is e cs k = true →
    ∃ r' e' cs', Ext r F B r' F B ∧ RL G T X (is ++ dn) r' F B σ H e' cs' ∧ k e' cs' = true
  | [], dn, r, e, cs, k, _, R, h => ⟨r, e, cs, Ext.refl _ _ _, R, h⟩
  | i :: is, dn, r, e, cs, k, hB, R, h => by
    unfold enterB at h
    obtain ⟨od, h1, h2⟩ := getE_true h
    rw [setE_eq, fNat_eq] at h2
    obtain ⟨a, ha, hn⟩ := hB.at_ i (by simp)
    have hnd := List.nodup_cons.mp hB.nd
    have hi : i ∉ dn := fun z => hnd.1 (List.mem_append_right _ z)
    obtain ⟨R', E⟩ := RL.newB R hi ha hn (fun j hj e => by
      have := hB.inj i (by simp) j (by simp [hj]) a ha e
      exact hi (this ▸ hj)) h1
    have mem : ∀ j, j ∈ is ++ (i :: dn) ↔ j ∈ i :: is ++ dn := fun j => by
      simp only [List.mem_append, List.mem_cons, List.cons_append]
      constructor
      · rintro (z | z | z)
        · exact .inr (.inl z)
        · exact .inl z
        · exact .inr (.inr z)
      · rintro (z | z | z)
        · exact .inr (.inl z)
        · exact .inl z
        · exact .inr (.inr z)
    have nd' : (is ++ (i :: dn)).Nodup := by
      have p : (is ++ (i :: dn)).Perm (i :: is ++ dn) := List.perm_middle
      exact p.nodup_iff.mpr hB.nd
    obtain ⟨r', e', cs', E', R2, h3⟩ := enterB_ok (is := is) (dn := i :: dn) ⟨nd', fun j hj => hB.at_ j ((mem j).mp hj), fun j hj l hl => hB.inj j ((mem j).mp hj) l ((mem l).mp hl)⟩ R' h2
    exact ⟨r', e', cs', E.trans E', R2.perm mem, h3⟩
/-! ### the end -/
def truncC (b : Nat) : List (Nat × Cell) → (List (Nat × Cell) → Bool) → Bool
  | [], k => k []
  | (m, c) :: r, k => match Nat.ble b m with
    | true => truncC b r k
    | false => k ((m, c) :: r)
theorem truncC_eq (b : Nat) : ∀ (l : List (Nat × Cell)) (k : List (Nat × Cell) → Bool), truncC b l k = k (truncL b l)
  | [], _ => rfl
  | (m, c) :: r, k => by
    unfold truncC truncL
    cases e : Nat.ble b m with
    | true =>
      have : Nat.blt m b = false := by
        cases q : Nat.blt m b with
        | false => rfl
        | true =>
          have h1 := Nat.le_of_ble_eq_true e
          have h2 : m < b := Nat.le_of_ble_eq_true q
          omega
      rw [this]
      exact truncC_eq b r k
    | false =>
      have : Nat.blt m b = true := by
        cases q : Nat.blt m b with
        | true => rfl
        | false =>
          have h1 : ¬ b ≤ m := fun z => by rw [Nat.ble_eq_true_of_le z] at e; cases e
          have h2 : ¬ (m + 1 ≤ b) := fun z => by
            have : Nat.blt m b = true := Nat.ble_eq_true_of_le z
            rw [q] at this; cases this
          omega
      rw [this]
/-- tr: what was made within is forgotten -/
def finT (tr : Bool) (b : Nat) (cs : Cs) (k : Cs → Bool) : Bool := match tr with
  | true => truncC b cs.l fun l => k ⟨cs.nx, l⟩
  | false => k cs
theorem finT_ok {G : Gs} {T : List NTab} {own : Addr → Prop} {r : Nat → Option Addr} {F B H : Hp} {cs : Cs} {tr : Bool} {b : Nat} {k : Cs → Bool} (R : RC G T own r F B H cs) (h : finT tr b cs k = true) : ∃ cs', RC G T own r F B H cs' ∧ k cs' = true := by
  unfold finT at h
  cases tr with
  | true =>
    dsimp only at h
    rw [truncC_eq] at h
    exact ⟨_, R.trunc b, h⟩
  | false => exact ⟨cs, R, h⟩
def noneL : Nat → Env
  | 0 => []
  | n + 1 => none :: noneL n
theorem noneL_eq : ∀ n : Nat, noneL n = List.replicate n none
  | 0 => rfl
  | n + 1 => by unfold noneL; rw [noneL_eq n]; rfl
def envOf : List D → Nat → Env
  | [], n => noneL n
  | d :: us, n => some d :: envOf us n
theorem envOf_eq : ∀ (us : List D) (n : Nat), envOf us n = us.map some ++ List.replicate n none
  | [], n => by unfold envOf; rw [noneL_eq n]; rfl
  | d :: us, n => by unfold envOf; rw [envOf_eq us n]; rfl
/-- the run of a def: nl names behind the parameters -/
def runF (bx : List Nat) (nl : Nat) (tr : Bool) (m : MS) : Cal → List D → Cs → KE → KX → Bool := fun cal us cs K x =>
  fList (envOf us nl) fun e => enterB bx e cs fun e cs1 => m cal e cs1 ⟨fun _ cs' => finT tr cs.nx cs' fun cs2 => K .non cs2, fun d cs' => finT tr cs.nx cs' fun cs2 => K d cs2, fun _ _ => false, fun _ _ => false⟩
    (match bx with
      | [] => fun n fs _ cs' => finT tr cs.nx cs' fun cs2 => x n fs cs2
      | _ :: _ => fun _ _ _ _ => false)
section
variable {X : Cx} {H : Hp} {σ : L2.St} {pins : List (Addr × Obj)} {s s' : Shared}
theorem ownX_of {bx : List Nat} (I : Inv X pins σ H s) (hfn : ∀ x, X.fn x = true) (kb : ∀ i ∈ bx, ∀ y, X.N[i]? = some y → X.env.kindOf y = some .cell ∨ X.env.kindOf y = some .free) : OwnX X bx := by
  have young : ∀ x a, X.env.cells.lookup x = some a → X.s_0.heap.objs.size ≤ a := fun x a h => I.ok.cab x a (hfn x) h
  refine ⟨fun i _ a e => ?_, fun i _ a e z => ?_, kb⟩
  · obtain ⟨x, _, h⟩ := bAddr_look e
    exact Heap.get?_none_of_le (Nat.le_trans I.ok.bsz (young x a h))
  · obtain ⟨x, _, h⟩ := bAddr_look e
    obtain ⟨_, o, ho, _⟩ := I.ok.funs.mem z
    exact absurd (Nat.lt_of_lt_of_le (Heap.lt_size ho) (young x a h)) (Nat.lt_irrefl _)
/-- the frame is left: its boxes stay in the heap -/
theorem exit_un {bx : List Nat} (J : Inv X pins σ H s) (O : OwnX X bx) (young : ∀ x a, X.env.cells.lookup x = some a → X.s_0.heap.objs.size ≤ a) (hex : X.ex = []) :
    Un X.fs [] X.H_0 (lendAt X bx s.heap H) X.s_0.heap s.heap := by
  have b := J.base
  rw [hex] at b
  have no : ∀ {a o}, X.s_0.heap.get? a = some o → ¬ ownB X bx a := fun {a o} h ⟨i, _, e⟩ => by
    obtain ⟨y, _, l⟩ := bAddr_look e
    exact absurd (Nat.lt_of_lt_of_le (Heap.lt_size h) (young y a l)) (Nat.lt_irrefl _)
  have some' : ∀ {a o}, H a = some o → lendAt X bx s.heap H a = some o := fun {a o} h => by rw [lend_not (not_own J h)]; exact h
  exact ⟨b.keep, b.slot, fun a o h n hx => by rw [lend_not (no h)]; exact b.free a o h n hx, b.there, fun a xs h => some' (b.tups a xs h), fun a o u h => some' (b.frzs a o u h), fun a ps h => by
    obtain ⟨more, e⟩ := b.tbls a ps h
    exact ⟨more, some' e⟩⟩
end
theorem noOwn_nil (X : Cx) : ownB X [] = noOwn := by
  funext a
  apply propext
  exact ⟨fun ⟨i, hi, _⟩ => absurd hi (by simp), fun z => z.elim⟩
/-- what a context is in which expressions are read -/
structure Bex (c : Cxt) (X : Cx) (k : Nat) : Prop where
  calm : X.calm = true
  nd : X.N.Nodup
  room : Room k X.A
  tk : Takes X c.W
  own : OwnX X c.bx
/-- what a context of a def's body is -/
structure Bod (c : Cxt) (X : Cx) (k : Nat) : Prop extends Bex c X k where
  stk : X.stack = X.env :: X.outer
  fr : X.env.frame = some X.env.locals
  pas : PassesOwn (model X.prog X.w) X.A X.env X.xe

/-- a def by its body -/
theorem fn_ev {P : Program} {w : World} {K : PySem.W.Frag} {mg : Str → Option Value} {base : Heap} {G : Gs} {T : List NTab} {cl : Nat → Value} {cal cal' : Cal} {k g : Nat} {f : Addr} {name : Str} {params : Arguments} {body : List Stmt} {scope : Scope} {kV doc pm cdv ct oc : Value} {an od : Option Addr}
    {osl : Array (Option Value)} {N ps : List Str} {bx : List Nat} {nl : Nat} {tr : Bool} {m : MS}
    (hGK : G.Kf = K) (lk : K.lookup f = some ⟨oc, od, .func (fdOf name params body scope kV doc pm an cdv ct), osl⟩) (hcd : PySem.W.codeIn K cdv name = true) (S : FnScope N ps scope) (hnl : N.length = ps.length + nl)
    (hbx : bx.Nodup) (hk : ∀ i ∈ bx, ∃ y, N[i]? = some y ∧ scope.names.lookup y = some .cell)
    (hcal : ∀ us cs K x, cal'.fn g us cs K x = true → runF bx nl tr m cal us cs K x = true)
    (hbody : ∀ (W : WX) (A : Around) (outer : List PySem.Env) (s : Shared) (H : Hp) (E : XK), Bod ⟨G, T, cal, cl, bx, W⟩ (cxOf (L2.CX P w) P w K mg base N name scope f cdv A outer s H E) k →
      XSs ⟨G, T, cal, cl, bx, W⟩ (cxOf (L2.CX P w) P w K mg base N name scope f cdv A outer s H E) body m) :
    FnOk P w K mg base (L2.CX P w) (k + 1) f (fdOf name params body scope kV doc pm an cdv ct) ps (spF ⟨G, T, cal', cl, [], fun _ _ _ _ => False⟩ g ps.length) := by
  refine ⟨fun vs H Q E ⟨r, F, B, cs, us, _, _, hl, _, _, hv, _⟩ => by rw [hv.length]; exact hl, fun A outer s H args us vs Q E hr e0 hb rv hsp => ?_⟩
  obtain ⟨r, F, B, cs, zs, Kx, xx, hl, hm, R, hv, hret, hexc⟩ := hsp
  have lvs : vs.length = ps.length := by rw [hv.length]; exact hl
  have KX : K.In s.heap := e0.mod.kin.keeps fun b o e => (e0.bs b o e).1
  have lim : s.heap.NoLimit := e0.mod.nolimit.keeps fun b o e => (e0.bs b o e).1
  have hkind : ∀ y ∈ ps.zip us, scope.names.lookup y.1 = some .local ∨ (scope.names.lookup y.1 = some .cell ∧ ((cellsFrom (s.heap.objs.size + 1) scope.names []).lookup y.1).isSome = true) := fun ⟨n, v⟩ hy => by
    rcases S.par n (List.of_mem_zip hy).1 with q | q
    · exact .inl q
    · exact .inr ⟨q, PySem.W.cellsFrom_some _ _ _ (.inl q)⟩
  refine codeAny_call_function hr.depth (KX _ _ lk) rfl S.co S.gen rfl (PySem.W.codeRec_of KX hcd) (hb _ _ _ _ ?_)
  refine wpAny_newFunctionEnv_cells S.kind hkind fun env he s1 x => ?_
  subst he
  refine ⟨lim.keeps x.toInCall.keep, codeAny_func ?_⟩
  have I : Inv (cxOf (L2.CX P w) P w K mg base N name scope f cdv A outer s H E) [] (L2.start N vs) H s1 := inv_start S hr.hd e0 lvs rv x
  generalize hX : cxOf (L2.CX P w) P w K mg base N name scope f cdv A outer s H E = X at I
  have XN : X.N = N := by rw [← hX]; rfl
  have Xsc : X.env.scope = scope := by rw [← hX]; rfl
  have Xfn : ∀ x, X.fn x = true := fun x => by rw [← hX]; rfl
  have Xex : X.ex = [] := by rw [← hX]; rfl
  have Xs0 : X.s_0 = s := by rw [← hX]; rfl
  have XH0 : X.H_0 = H := by rw [← hX]; rfl
  have Xfs : X.fs = frs outer := by rw [← hX]; rfl
  have Xp : X.prog = P := by rw [← hX]; rfl
  have Xw : X.w = w := by rw [← hX]; rfl
  have Xout : X.outer = outer := by rw [← hX]; rfl
  have kb : ∀ i ∈ bx, ∀ y, X.N[i]? = some y → X.env.kindOf y = some .cell ∨ X.env.kindOf y = some .free := fun i hi y hy => by
    obtain ⟨y', h1, h2⟩ := hk i hi
    rw [XN, h1] at hy
    have hy := Option.some.inj hy
    rw [← hy]
    exact .inl (by show X.env.scope.names.lookup y' = _; rw [Xsc]; exact h2)
  have O : OwnX X bx := ownX_of I Xfn kb
  have young : ∀ x a, X.env.cells.lookup x = some a → X.s_0.heap.objs.size ≤ a := fun x a h => I.ok.cab x a (Xfn x) h
  have Bx : Boxes X bx H := by
    have at_ : ∀ i ∈ bx, ∃ a, bAddr X i = some a ∧ H a = none := fun i hi => by
      obtain ⟨y, h1, h2⟩ := hk i hi
      obtain ⟨a, ha⟩ := I.ok.has y (.inl (by show X.env.scope.names.lookup y = _; rw [Xsc]; exact h2))
      exact ⟨a, by unfold bAddr; rw [XN, h1]; exact ha, I.freeC y a ha⟩
    refine ⟨hbx, at_, fun i hi j hj a h1 h2 => ?_⟩
    obtain ⟨y, e1, l1⟩ := bAddr_look h1
    obtain ⟨z, e2, l2⟩ := bAddr_look h2
    have := I.ok.inj y z a l1 l2
    subst this
    rw [XN] at e1 e2
    exact nodup_ix S.nd e1 e2
  -- the entry
  have hm := hcal _ _ _ _ hm
  unfold runF at hm
  rw [fList_eq] at hm
  have st : L2.start N vs = vs.map some ++ List.replicate nl none := by unfold L2.start; rw [hnl, lvs]; congr 2; omega
  have hGX : G.Kf = X.K := by first | exact hGK | (rw [← hX]; exact hGK)
  have R0 : RL G T X [] r F B (L2.start N vs) H (envOf zs nl) cs := by
    refine ⟨by rw [noOwn_nil]; exact R, fun i d _ h => ?_, fun i hi => absurd hi (by simp), fun i hi => absurd hi (by simp), ?_, hGX⟩
    · rw [envOf_eq] at h
      rw [st]
      by_cases hi : i < zs.length
      · rw [List.getElem?_append_left (by simpa using hi), List.getElem?_map] at h
        cases e : zs[i]? with
        | none => rw [e] at h; cases h
        | some d' =>
          rw [e] at h; cases h
          obtain ⟨v, h1, h2⟩ := hv.get e
          refine ⟨v, ?_, h2⟩
          rw [List.getElem?_append_left (by rw [List.length_map, hv.length]; exact hi), List.getElem?_map, h1]
          rfl
      · rw [List.getElem?_append_right (by simpa using hi), List.getElem?_replicate] at h
        split at h <;> cases h
    · rw [envOf_eq, st, List.length_append, List.length_append, List.length_map, List.length_map, hv.length]
      simp
  obtain ⟨r1, e1, cs1, E1, R1, hm1⟩ := enterB_ok (dn := []) (by rw [List.append_nil]; exact Bx) R0 hm
  rw [List.append_nil] at R1
  -- the wish for exceptions
  have tk : ∃ W : WX, Takes X W ∧ ((bx = [] ∧ W = fun cls d _ H => E cls d H) ∨ (bx ≠ [] ∧ W = fun _ _ _ _ => False)) := by
    by_cases hb0 : bx = []
    · refine ⟨_, ?_, .inl ⟨hb0, rfl⟩⟩
      rw [← hX]
      exact takes_of rfl rfl rfl rfl
    · exact ⟨_, takes_none5, .inr ⟨hb0, rfl⟩⟩
  obtain ⟨W, tkW, hW⟩ := tk
  have bod : Bod ⟨G, T, cal, cl, bx, W⟩ X k := by
    refine ⟨⟨by rw [← hX]; rfl, by rw [XN]; exact S.nd, by rw [← hX]; exact hr.deeper _, tkW, O⟩, by rw [← hX]; rfl, by rw [← hX]; rfl, by rw [← hX]; exact passes_of rfl⟩
  have hxs : XSs ⟨G, T, cal, cl, bx, W⟩ X body m := by
    have q := hbody W A outer s H E (by rw [hX]; exact bod)
    rw [hX] at q
    exact q
  -- behind the body
  have fin : ∀ {σ' : L2.St} {H' : Hp} {v : V} {u : Value} {s' : Shared} {r' F' B' d' cs'} {ds' : Env}, Inv X [] σ' H' s' → RelV v u → Ext r1 F B r' F' B' → RL G T X bx r' F' B' σ' H' ds' cs' → Rep G r' F' v d' → finT tr cs.nx cs' (fun cs2 => Kx d' cs2) = true → CE outer P w H s Q u s' := by
    intro σ' H' v u s' r' F' B' d' cs' ds' J rv' E' R' hv' hk'
    have rc := lend_rc (c := ⟨G, T, cal, cl, bx, W⟩) J O R'
    have E2 := lend_ext (c := ⟨G, T, cal, cl, bx, W⟩) J R'
    obtain ⟨cs2, rc2, hk2⟩ := finT_ok rc hk'
    have un := exit_un J O young Xex
    have hok := (lend_env0 (c := ⟨G, T, cal, cl, bx, W⟩) J O).hok
    rw [Xfs, XH0, Xs0] at un
    rw [Xp, Xw] at hok
    exact ⟨v, _, by rw [J.os, Xs0], J.bare, un, hok, rv', hret _ _ _ _ _ _ _ ((E1.trans E').trans E2) rc2 hv' hk2⟩
  have run := hxs.run [] s1 (L2.start N vs) H ⟨fun σ' H' => ∃ r' F' B' ds' cs', Ext r1 F B r' F' B' ∧ RL G T X bx r' F' B' σ' H' ds' cs' ∧ finT tr cs.nx cs' (fun cs2 => Kx .non cs2) = true,
    fun v σ' H' => ∃ r' F' B' ds' cs' d', Ext r1 F B r' F' B' ∧ RL G T X bx r' F' B' σ' H' ds' cs' ∧ Rep G r' F' v d' ∧ finT tr cs.nx cs' (fun cs2 => Kx d' cs2) = true, fun _ _ => False, fun _ _ => False⟩ I
    (tS.of hm1 R1 ⟨fun r' F' B' H' σ' ds' cs' E' R' h => ⟨r', F', B', ds', cs', E', R', h⟩, fun r' F' B' H' σ' ds' cs' v d E' R' hv' h => ⟨r', F', B', ds', cs', d, E', R', hv', h⟩, fun _ _ _ _ _ _ _ _ _ h => (nomatch h), fun _ _ _ _ _ _ _ _ _ h => (nomatch h), ?_⟩)
  · rw [← hX] at run
    refine wpAny_mono run (fun fl s' hs => ?_) fun e s' hs => hs
    rw [hX] at hs
    cases fl with
    | ret u =>
      obtain ⟨v, σ', H', J, rv', r', F', B', ds', cs', d', E', R', hv', h⟩ := hs
      exact fin J rv' E' R' hv' h
    | next =>
      obtain ⟨σ', H', J, r', F', B', ds', cs', E', R', h⟩ := hs
      exact fin (v := V.non) (u := Value.none) J rfl E' R' .non h
    | brk =>
      obtain ⟨_, _, _, q⟩ := hs
      exact False.elim q
    | cont =>
      obtain ⟨_, _, _, q⟩ := hs
      exact False.elim q
  · intro n fs r' F' B' H' σ' ds' cls dd cs' E' R' hE h
    rcases hW with ⟨hb0, hw⟩ | ⟨hb0, hw⟩
    · subst hb0
      subst hw
      have rc := R'.rc
      rw [noOwn_nil] at rc
      obtain ⟨cs2, rc2, h2⟩ := finT_ok rc h
      exact hexc n fs _ _ _ _ cls dd cs2 (E1.trans E') rc2 hE h2
    · cases bx with
      | nil => exact absurd rfl hb0
      | cons _ _ => cases h
end Ev

set_option Elab.async false
set_option linter.all false
set_option maxRecDepth 100000
set_option maxHeartbeats 2000000
/-! Ev10: a lambda is made -/
namespace Ev
open PySem PySem.Spec PyProof.Rows L2 LamX NdefX

theorem lamO_ne {f : Addr} {F : LF} (ps : Array Value) : LamO f F ≠ .tbl ps := fun z => by
  unfold LamO at z
  cases z
section
variable {X : Cx} {pins : List (Addr × Obj)} {σ : L2.St} {H : Hp} {s : Shared}
/-- a lambda's object just made is known from now on -/
theorem inv_lam {L : LF} {o : Obj} {t0 t' : Nat} {pm ctv : Value} {h' : Heap} (I : Inv X pins σ H { s with heap := h', toks := t0 }) (ho : o = { cls := .type "function", data := .func (L.fd pm ctv) }) :
    Inv X pins σ (upd H h'.objs.size (LamO h'.objs.size L)) { s with heap := h'.push o, toks := t' } := by
  subst ho
  have e : (h'.push ({ cls := .type "function", data := .func (L.fd pm ctv) } : Obj)).get? h'.objs.size = some ({ cls := .type "function", data := .func (L.fd pm ctv) } : Obj) := Heap.get?_push_size _ rfl
  exact I.laid (a := h'.objs.size) (t' := t') (fun b u e => Heap.get?_push_of_some _ e) (Nat.le_refl _) ⟨⟨_, _, pm, ctv, e⟩, ⟨_, e⟩, fun h1 h2 ⟨od, sl, p, t, z⟩ st => ⟨od, sl, p, t, st _ z⟩⟩
/-- its code object is new, or found in the table -/
theorem lam_makeN {T : List NTab} {nm : Nat → Nat → Str} {c P : Addr} {params : Arguments} {body : Expr} {scope : Scope} {pos : Pos} {E : Value → Shared → Prop} {Q : Value → Shared → Prop} (I : Inv X pins σ H s) (TB : TabB X.base X.mg c P) (hcode : X.env.code = .ref c)
    (hm : (P, nm) ∈ T) (hn : nm pos.line pos.col = X.env.qual ++ "<lambda>") (hu : ∀ p ∈ T, p.1 = P → p.2 = nm) (hT : TabsN T H) (hdef : defaultsOf params X.env = ([], [])) (hfree : ∀ y ∈ scope.names, y.2 = .free → ∃ c, X.env.cells.lookup y.1 = some c)
    (h : ∀ (f c' : Addr) (H1 : Hp) (s' : Shared), Inv X pins σ H1 s' → ExtN H H1 → (∀ b, H1 b = Option.none → H b = Option.none) → TabsN T H1 → H f = none → c' ≠ f →
      H1 f = some (LamO f ⟨X.env.qual ++ "<lambda>", params, body, scope, cloFrom X.env.cells scope.names [], c'⟩) → H1 c' = some (CodeO c' (X.env.qual ++ "<lambda>")) → Q (.ref f) s') :
    wpAny (model X.prog X.w) X.A (eval (.Lambda params body scope pos) X.env) Q E s := by
  obtain ⟨ps, hP, ht, ha⟩ := (show TabN H P nm from hT _ hm)
  refine PySem.W.kla_eval hdef ?_
  have bP : s.heap.BuiltinsAt X.mg P := TB.bm.keeps I.bk
  have hP' : s.heap.get? P = some { cls := .none, data := .fields ps } := I.hok P _ hP
  cases hc : codeAmong pos ps.toList with
  | none =>
    refine PySem.W.kla_makeFunction (mg := X.mg) (c := c) (P := P) (ps := ps) (closure_ok hfree) I.ok.glob (I.mod.glob.keeps I.bk) hcode (TB.code.keeps I.bk) hP' ht hc TB.gP bP fun c' ctv h' tk hx hge hlt hrec htb => ?_
    obtain ⟨c2, oc, vs, t, e2, hoc, hd, hv⟩ := hrec
    cases e2
    have nC : H c' = none := I.hok.fresh hge
    have I1 := inv_table (t' := tk) (more := #[rawInt pos.line, rawInt pos.col, .ref c']) (h' := h') I hP (fun b o hb e => hx b o hb e) htb hge ⟨oc, vs, t, hoc, hd, hv⟩
    have hE : ExtN H (upd (upd H P (.tbl (ps ++ #[rawInt pos.line, rawInt pos.col, .ref c']))) c' (CodeO c' (X.env.qual ++ "<lambda>"))) := fun b o e n => by
      rw [upd_ne (ne_of_none e nC), upd_ne (fun z => n ps (Option.some.inj (e.symm.trans (by rw [z]; exact hP))))]
      exact e
    have eL : (ps ++ #[rawInt pos.line, rawInt pos.col, .ref c']).toList = ps.toList ++ [rawInt pos.line, rawInt pos.col, .ref c'] := by simp
    have T1 : TabsN T (upd (upd H P (.tbl (ps ++ #[rawInt pos.line, rawInt pos.col, .ref c']))) c' (CodeO c' (X.env.qual ++ "<lambda>"))) := fun p hp => by
      by_cases hb : p.1 = P
      · rw [hu p hp hb, hb]
        refine ⟨_, by rw [upd_ne (ne_of_none hP nC), upd_same], by rw [eL]; exact PySem.TriplesOk_snoc _ _ _ _ ht, fun p' cv hcv => ?_⟩
        rw [eL] at hcv
        rcases among_app2 _ ht hcv with z | ⟨z, z1, z2⟩
        · obtain ⟨c0, e1, e2⟩ := ha p' cv z
          exact ⟨c0, e1, hE _ _ e2 codeO_ne⟩
        · refine ⟨c', z, ?_⟩
          rw [← z1, ← z2, hn]
          exact upd_same
      · obtain ⟨ps', a1, a2, a3⟩ := hT p hp
        refine ⟨ps', by rw [upd_ne (ne_of_none a1 nC), upd_ne hb]; exact a1, a2, fun p' cv hcv => ?_⟩
        obtain ⟨c0, e1, e2⟩ := a3 p' cv hcv
        exact ⟨c0, e1, hE _ _ e2 codeO_ne⟩
    have nF := I1.hok.fresh (Nat.le_refl _)
    have I2 := inv_lam (s := s) (h' := h') (t0 := tk) (L := ⟨X.env.qual ++ "<lambda>", params, body, scope, cloFrom X.env.cells scope.names [], c'⟩) (t' := tk) (pm := (X.mg "__name__").getD .none) (ctv := ctv) I1 rfl
    refine h h'.objs.size c' _ _ I2 (fun b o e n => ?_) (fun b e => upd_none (upd_none (upd_none e))) (T1.ext fun b o e => ?_) (I.hok.fresh (Nat.le_trans hge (Nat.le_of_lt hlt))) (Nat.ne_of_lt hlt) upd_same ?_
    · have e1 := hE b o e n
      exact (upd_ne (ne_of_none e1 nF)).trans e1
    · exact (upd_ne (ne_of_none e nF)).trans e
    · exact (upd_ne (Nat.ne_of_lt hlt)).trans upd_same
  | some cv =>
    obtain ⟨c', e, hco⟩ := ha pos cv hc
    subst e
    rw [hn] at hco
    refine PySem.W.kla_makeFunctionHit (mg := X.mg) (c := c) (P := P) (ps := ps) (closure_ok hfree) I.ok.glob (I.mod.glob.keeps I.bk) hcode (TB.code.keeps I.bk) hP' ht hc bP fun ctv h' tk hx hsz => ?_
    have I1 : Inv X pins σ H { s with heap := h', toks := tk } := I.kept hx
    have nF : H h'.objs.size = none := I1.hok.fresh (Nat.le_refl _)
    have I2 := inv_lam (s := s) (h' := h') (t0 := tk) (L := ⟨X.env.qual ++ "<lambda>", params, body, scope, cloFrom X.env.cells scope.names [], c'⟩) (t' := tk) (pm := (X.mg "__name__").getD .none) (ctv := ctv) I1 rfl
    refine h h'.objs.size c' _ _ I2 (fun b o e n => ?_) (fun b e => upd_none e) (hT.ext fun b o e => ?_) nF (ne_of_none hco nF) upd_same ?_
    · exact (upd_ne (ne_of_none e nF)).trans e
    · exact (upd_ne (ne_of_none e nF)).trans e
    · exact (upd_ne (ne_of_none hco nF)).trans hco
end
/-- the captured boxes' numbers -/
def gatherB (e : Env) : List Nat → (List Nat → Bool) → Bool
  | [], k => k []
  | j :: js, k => nthE e j fun d => match d with
    | .cel n => gatherB e js fun bs => k (n :: bs)
    | _ => false
def mLam (l col : Nat) (js : List Nat) : ME := fun _ e cs k _ => gatherB e js fun bs => k (.clo l col bs) cs
theorem gatherB_ok {G : Gs} {T : List NTab} {X : Cx} {bx : List Nat} {r : Nat → Option Addr} {F B H : Hp} {σ : L2.St} {ds : Env} {cs : Cs} {cl : List (Str × Addr)} (R : RL G T X bx r F B σ H ds cs) :
    ∀ {js : List Nat} {fr : List Str} {k : List Nat → Bool}, gatherB ds js k = true → (∀ j ∈ js, j ∈ bx) → js.map (fun j => X.N[j]?) = fr.map some → (∀ y ∈ fr, ∀ a, X.env.cells.lookup y = some a → cl.lookup y = some a) →
      ∃ bs, k bs = true ∧ Paired (fun n y => ∃ a, r n = some a ∧ cl.lookup y = some a) bs fr
  | [], [], k, h, _, _, _ => ⟨[], h, .nil⟩
  | [], y :: fr, k, _, _, e, _ => by simp at e
  | j :: js, [], k, _, _, e, _ => by simp at e
  | j :: js, y :: fr, k, h, hb, e, hc => by
    unfold gatherB at h
    obtain ⟨d, h1, h2⟩ := nthE_true h
    split at h2
    · rename_i n
      rw [List.map_cons, List.map_cons] at e
      obtain ⟨e1, e2⟩ := List.cons.inj e
      obtain ⟨bs, h3, h4⟩ := gatherB_ok R h2 (fun j hj => hb j (List.mem_cons_of_mem _ hj)) e2 fun y hy => hc y (List.mem_cons_of_mem _ hy)
      obtain ⟨n', a, q1, q2, q3, _⟩ := R.boxs j (hb j List.mem_cons_self)
      rw [h1] at q1; cases q1
      unfold bAddr at q2
      rw [e1] at q2
      exact ⟨n :: bs, h3, .cons ⟨a, q3, hc y List.mem_cons_self a q2⟩ h4⟩
    · cases h2
section
variable {c : Cxt} {X : Cx} {r : Nat → Option Addr} {F B H : Hp} {σ : L2.St} {ds : Env} {cs : Cs}
/-- a lambda's object and its code object are new in the frozen heap -/
theorem RC.lam {G : Gs} {T : List NTab} {own : Addr → Prop} {H1 : Hp} {f c' : Addr} {L : LF} (R : RC G T own r F B H cs) (hE : ExtN H H1) (hnn : ∀ b, H1 b = Option.none → H b = Option.none) (hT : TabsN T H1) (hf : H f = none) (hcf : c' ≠ f)
    (h1 : H1 f = some (LamO f L)) (h2 : H1 c' = some (CodeO c' L.qual)) :
    RC G T own r (upd (upd F c' (CodeO c' L.qual)) f (LamO f L)) B H1 cs ∧ Ext r F B r (upd (upd F c' (CodeO c' L.qual)) f (LamO f L)) B := by
  have ff : F f = none := R.freeF hf
  have E : Ext r F B r (upd (upd F c' (CodeO c' L.qual)) f (LamO f L)) B := by
    refine ⟨fun _ _ h => h, fun a o h => ?_, fun _ _ h => h⟩
    rw [upd_ne (ne_of_none h ff)]
    by_cases e : a = c'
    · have q := hE a o (R.subF a o h) fun ps z => (R.plF a o h).ntbl ps z
      rw [e, h2] at q
      rw [e, upd_same]; exact q
    · rw [upd_ne e]; exact h
  refine ⟨⟨fun a o h => ?_, fun a o h => hE a o (R.subB a o h) fun ps z => ?_, fun a o h => ?_, R.frB, R.inj, fun n a h => (R.rng n a h).imp (fun z q => z (hnn a q)) id, R.fresh, R.dec, R.lt, fun n ce h => ?_, hT, fun a o h => ?_, R.rb⟩, E⟩
  · by_cases e : a = f
    · rw [e, upd_same] at h; cases h; rw [e]; exact h1
    · rw [upd_ne e] at h
      by_cases e2 : a = c'
      · rw [e2, upd_same] at h; cases h; rw [e2]; exact h2
      · rw [upd_ne e2] at h
        exact hE a o (R.subF a o h) fun ps z => (R.plF a o h).ntbl ps z
  · rcases R.frB a o h with ⟨ob, q⟩ | ⟨vs, q⟩ <;> rw [q] at z <;> cases z
  · by_cases e : a = f
    · rw [e, upd_same] at h; cases h; unfold LamO; trivial
    · rw [upd_ne e] at h
      by_cases e2 : a = c'
      · rw [e2, upd_same] at h; cases h; unfold CodeO; trivial
      · rw [upd_ne e2] at h; exact R.plF a o h
  · refine (R.cell n ce h).stay E (fun _ z => z) (fun a q1 q2 vs lv q3 => ?_) fun _ z => z
    have q4 := hE a _ q3 (fun ps z => lv.ntbl ps z)
    refine ⟨⟨?_, q2.2⟩, q4⟩
    rw [upd_ne (fun z => by rw [z, hf] at q3; cases q3), upd_ne (fun z => by rw [z] at q4; rw [q4] at h2; exact lv.ncode _ _ (Option.some.inj h2))]
    exact q2.1
  · have q3 := R.subB a o h
    have q4 := hE a o q3 fun ps z => by
      rcases R.frB a o h with ⟨ob, q⟩ | ⟨vs, q⟩ <;> rw [q] at z <;> cases z
    rw [upd_ne (ne_of_none q3 hf), upd_ne (fun z => by
      rw [z, h2] at q4
      rcases R.frB a o h with ⟨ob, q⟩ | ⟨vs, q⟩ <;> rw [q] at q4 <;> cases q4)]
    exact R.dj a o h
theorem RL.lam {G : Gs} {T : List NTab} {bx : List Nat} {H1 : Hp} {f c' : Addr} {L : LF} (R : RL G T X bx r F B σ H ds cs) (hE : ExtN H H1) (hnn : ∀ b, H1 b = Option.none → H b = Option.none) (hT : TabsN T H1) (hf : H f = none) (hcf : c' ≠ f)
    (h1 : H1 f = some (LamO f L)) (h2 : H1 c' = some (CodeO c' L.qual)) :
    RL G T X bx r (upd (upd F c' (CodeO c' L.qual)) f (LamO f L)) B σ H1 ds cs ∧ Ext r F B r (upd (upd F c' (CodeO c' L.qual)) f (LamO f L)) B := by
  obtain ⟨q, E⟩ := R.rc.lam hE hnn hT hf hcf h1 h2
  refine ⟨⟨q, fun i d h1 h2 => ?_, fun i hi => ?_, R.binj, R.len, R.kf⟩, E⟩
  · obtain ⟨v, h3, h4⟩ := R.slot i d h1 h2
    exact ⟨v, h3, h4.ext E⟩
  · obtain ⟨n, a', h1, h2, h4, h5⟩ := R.boxs i hi
    refine ⟨n, a', h1, h2, h4, fun m ce hm hc => ?_⟩
    obtain ⟨od, e1, h6⟩ := h5 m ce hm hc
    refine ⟨od, e1, fun d e => ?_⟩
    obtain ⟨v, q1, q2⟩ := h6 d e
    exact ⟨v, q1, q2.ext E⟩
/-- what the text of a lambda must be, next to the scope around it -/
def lamB (sc lsc : Scope) (fr : List Str) : Bool :=
  (lsc.names.all fun y => !decide (y.2 = .free) || ((decide (sc.names.lookup y.1 = some .cell) || decide (sc.names.lookup y.1 = some .free)) && decide (y.1 ∈ fr))) && fr.all fun y => decide ((y, NameKind.free) ∈ lsc.names)
theorem lamB_ok {sc lsc : Scope} {fr : List Str} (h : lamB sc lsc fr = true) :
    (∀ y ∈ lsc.names, y.2 = .free → (sc.names.lookup y.1 = some .cell ∨ sc.names.lookup y.1 = some .free) ∧ y.1 ∈ fr) ∧ ∀ y ∈ fr, (y, NameKind.free) ∈ lsc.names := by
  unfold lamB at h
  simp only [Bool.and_eq_true, Bool.or_eq_true, Bool.not_eq_true', decide_eq_true_eq, decide_eq_false_iff_not, List.all_eq_true] at h
  exact ⟨fun y hy e => (h.1 y hy).resolve_left fun z => z e, h.2⟩
theorem xe_lam {nm : Nat → Nat → Str} {cc P : Addr} {params : Arguments} {body : Expr} {scope : Scope} {pos : Pos} {js : List Nat} {fr : List Str} {sc : Scope} {q : Str} (TB : TabB X.base X.mg cc P) (hcode : X.env.code = .ref cc) (hm : (P, nm) ∈ c.T) (hn : nm pos.line pos.col = X.env.qual ++ "<lambda>")
    (hu : ∀ p ∈ c.T, p.1 = P → p.2 = nm) (hsc : X.env.scope = sc) (hl : lamB sc scope fr = true) (hjs : js.map (fun j => X.N[j]?) = fr.map some) (hjb : ∀ j ∈ js, j ∈ c.bx) (hG : c.G.lam pos.line pos.col = some ⟨X.env.qual ++ "<lambda>", params, body, scope, fr⟩)
    (hdef : defaultsOf params X.env = ([], []) := by rfl) : XE c X (.Lambda params body scope pos) (mLam pos.line pos.col js) := by
  obtain ⟨l1, l2⟩ := lamB_ok hl
  refine ⟨fun pins s σ H Q I ⟨r, F, B, ds, cs, K, x, hmm, R, k, xk⟩ => ?_⟩
  have cp : Caps X (cloFrom X.env.cells scope.names []) fr js := Caps.made I.ok (fun y hy e => by rw [hsc]; exact (l1 y hy e).1) l2 hjs
  refine lam_makeN I TB hcode hm hn hu R.rc.tabs hdef (fun y hy e => (l1 y hy e).1.elim (fun z => I.ok.has _ (.inl (by show X.env.scope.names.lookup _ = _; rw [hsc]; exact z))) fun z => I.ok.has _ (.inr (by show X.env.scope.names.lookup _ = _; rw [hsc]; exact z))) fun f c' H1 s' I1 hE hnn hT hf hcf h1 h2 => ?_
  obtain ⟨R1, E1⟩ := R.lam hE hnn hT hf hcf h1 h2
  obtain ⟨bs, hk, hp⟩ := gatherB_ok R hmm hjb hjs fun y hy a ha => cp.sup y hy a ha
  refine ⟨.ref f, H1, I1, rfl, k _ _ _ _ _ _ _ E1 R1 (.clo upd_same ?_ hG ⟨rfl, rfl, rfl, rfl⟩ ⟨fun y b hy => ?_, fun y z b hy hz => ?_⟩ hp) hk⟩
  · rw [upd_ne hcf, upd_same]
  · rcases cloFrom_mem (PySem.mem_of_lookup hy) with z | ⟨z, _⟩
    · cases z
    · exact (l1 _ z rfl).2
  · exact I.ok.inj y z b (cp.sub y b hy) (cp.sub z b hz)
end
end Ev

set_option Elab.async false
set_option linter.all false
set_option maxRecDepth 100000
set_option maxHeartbeats 2000000
/-! Ev11: a lambda is called; a lambda by its body -/
namespace Ev
open PySem PySem.Spec PyProof.Rows L2 LamX NdefX

open Classical in
noncomputable def hideO (own : Addr → Prop) (H : Hp) : Hp := fun a => if own a then none else H a
open Classical in
/-- what was hidden comes back as it was in H0 -/
noncomputable def showO (own : Addr → Prop) (H0 H : Hp) : Hp := fun a => if own a then H0 a else H a
section
variable {own : Addr → Prop} {H H0 : Hp} {a : Addr} {o : HO}
theorem hideO_own (q : own a) : hideO own H a = none := if_pos q
theorem hideO_not (q : ¬ own a) : hideO own H a = H a := if_neg q
theorem hideO_some (h : hideO own H a = some o) : ¬ own a ∧ H a = some o := by
  by_cases q : own a
  · rw [hideO_own q] at h; cases h
  · rw [hideO_not q] at h; exact ⟨q, h⟩
theorem showO_own (q : own a) : showO own H0 H a = H0 a := if_pos q
theorem showO_not (q : ¬ own a) : showO own H0 H a = H a := if_neg q
end
theorem RC.hide {G : Gs} {T : List NTab} {own : Addr → Prop} {r : Nat → Option Addr} {F B H : Hp} {cs : Cs} (Q : RC G T noOwn r F B H cs) (hB : ∀ a, own a → ∃ ob, B a = some (.frz ob (.own 0))) : RC G T own r F (hideO own B) (hideO own H) cs := by
  have keepO : ∀ a o, H a = some o → (∀ ob, o ≠ .frz ob (.own 0)) → hideO own H a = some o := fun a o h n => by
    rw [hideO_not (fun q => by
      obtain ⟨ob, h1⟩ := hB a q
      rw [Q.subB _ _ h1] at h
      cases h
      exact n ob rfl)]
    exact h
  have nl : ∀ {a o}, LivO o → H a = some o → ¬ own a := fun {a o} lv h q => by
    obtain ⟨ob, h1⟩ := hB a q
    rw [Q.subB _ _ h1] at h; exact lv.nfrz _ _ (Option.some.inj h).symm
  refine ⟨fun a o h => keepO a o (Q.subF a o h) (fun ob z => (Q.plF a o h).nfrz ob _ z), fun a o h => ?_, Q.plF, fun a o h => Q.frB a o (hideO_some h).2, Q.inj, fun n a h => ?_, Q.fresh, Q.dec, Q.lt, fun n ce h => ?_, fun q hq => ?_, fun a o h => Q.dj a o (hideO_some h).2, fun n a vs h z => Q.rb n a vs h (hideO_some z).2⟩
  · obtain ⟨q, h1⟩ := hideO_some h
    rw [hideO_not q]
    exact Q.subB a o h1
  · by_cases q : own a
    · exact .inr q
    · rw [hideO_not q]
      exact .inl ((Q.rng n a h).elim id fun z => z.elim)
  · have k := Q.cell n ce h
    cases ce with
    | lst xs =>
      obtain ⟨a, vs, h1, h2, h3, h4⟩ := k
      have q := nl .lst h3
      exact ⟨a, vs, h1, ⟨h2.1, by rw [hideO_not q]; exact h2.2⟩, by rw [hideO_not q]; exact h3, h4⟩
    | raw =>
      obtain ⟨a, ns, h1, h2, h3⟩ := k
      have q := nl .lst h3
      exact ⟨a, ns, h1, ⟨h2.1, by rw [hideO_not q]; exact h2.2⟩, by rw [hideO_not q]; exact h3⟩
    | strm m j =>
      obtain ⟨a, b, x, y, z, h1, h2, h3, h4, h5⟩ := k
      have q := nl .lst h4
      exact ⟨a, b, x, y, z, h1, ⟨h2.1, by rw [hideO_not q]; exact h2.2⟩, h3, by rw [hideO_not q]; exact h4, h5⟩
    | kd ys =>
      obtain ⟨a, xs, h1, h2, h3, h4⟩ := k
      have q := nl .kd h3
      exact ⟨a, xs, h1, ⟨h2.1, by rw [hideO_not q]; exact h2.2⟩, by rw [hideO_not q]; exact h3, h4⟩
    | box od =>
      rcases k with ⟨a, h1, z⟩ | ⟨a, ob, h1, h2, h3⟩
      · exact z.elim
      · by_cases q : own a
        · exact .inl ⟨a, h1, q⟩
        · exact .inr ⟨a, ob, h1, by rw [hideO_not q]; exact h2, h3⟩
  · obtain ⟨ps, h1, h2, h3⟩ := Q.tabs q hq
    refine ⟨ps, keepO _ _ h1 (fun ob z => nomatch z), h2, fun pos cv hc => ?_⟩
    obtain ⟨cc, e1, e2⟩ := h3 pos cv hc
    exact ⟨cc, e1, keepO _ _ e2 (fun ob z => by unfold CodeO at z; cases z)⟩
/-- .. and come back -/
theorem RC.unhide {G : Gs} {T : List NTab} {own : Addr → Prop} {r' : Nat → Option Addr} {F' B' H' H0 B0 : Hp} {cs' : Cs} (R : RC G T own r' F' B' H' cs') (hH : ∀ a, own a → H' a = none) (h0 : ∀ a, own a → ∃ ob, B0 a = some (.frz ob (.own 0)) ∧ H0 a = B0 a)
    (hb : ∀ n od, cs'.get n = some (.box od) → ∀ a, r' n = some a → own a → ∃ ob, B0 a = some (.frz ob (.own 0)) ∧ BoxObj G r' F' ob od) : RC G T noOwn r' F' (showO own B0 B') (showO own H0 H') cs' := by
  have no : ∀ {a o}, H' a = some o → ¬ own a := fun {a o} h q => by rw [hH a q] at h; cases h
  have keep : ∀ a o, H' a = some o → showO own H0 H' a = some o := fun a o h => by rw [showO_not (no h)]; exact h
  refine ⟨fun a o h => keep a o (R.subF a o h), fun a o h => ?_, R.plF, fun a o h => ?_, R.inj, fun n a h => .inl ?_, R.fresh, R.dec, R.lt, fun n ce h => ?_, R.tabs.ext keep, fun a o h => ?_, fun n a vs h => ?_⟩
  · by_cases q : own a
    · rw [showO_own q] at h ⊢
      obtain ⟨ob, e1, e2⟩ := h0 a q
      rw [e2]; exact h
    · rw [showO_not q] at h
      exact keep a o (R.subB a o h)
  · by_cases q : own a
    · rw [showO_own q] at h
      obtain ⟨ob, e1, _⟩ := h0 a q
      rw [e1] at h; cases h
      exact .inl ⟨ob, rfl⟩
    · rw [showO_not q] at h
      exact R.frB a o h
  · rcases R.rng n a h with z | z
    · exact some_keep keep z
    · obtain ⟨ob, e1, e2⟩ := h0 a z
      rw [showO_own z, e2, e1]
      exact fun z => nomatch z
  · have k := R.cell n ce h
    cases ce with
    | lst xs =>
      obtain ⟨a, vs, h1, h2, h3, h4⟩ := k
      exact ⟨a, vs, h1, ⟨h2.1, by rw [showO_not (no h3)]; exact h2.2⟩, keep _ _ h3, h4⟩
    | raw =>
      obtain ⟨a, ns, h1, h2, h3⟩ := k
      exact ⟨a, ns, h1, ⟨h2.1, by rw [showO_not (no h3)]; exact h2.2⟩, keep _ _ h3⟩
    | strm m j =>
      obtain ⟨a, b, x, y, z, h1, h2, h3, h4, h5⟩ := k
      exact ⟨a, b, x, y, z, h1, ⟨h2.1, by rw [showO_not (no h4)]; exact h2.2⟩, h3, keep _ _ h4, h5⟩
    | kd ys =>
      obtain ⟨a, xs, h1, h2, h3, h4⟩ := k
      exact ⟨a, xs, h1, ⟨h2.1, by rw [showO_not (no h3)]; exact h2.2⟩, keep _ _ h3, h4⟩
    | box od =>
      rcases k with ⟨a, h1, z⟩ | ⟨a, ob, h1, h2, h3⟩
      · obtain ⟨ob, e1, e2⟩ := hb n od h a h1 z
        exact .inr ⟨a, ob, h1, by rw [showO_own z]; exact e1, e2⟩
      · exact .inr ⟨a, ob, h1, by rw [showO_not (no (R.subB _ _ h2))]; exact h2, h3⟩
  · by_cases q : own a
    · exact R.freeF (hH a q)
    · rw [showO_not q] at h; exact R.dj a o h
  · by_cases q : own a
    · rw [showO_own q]
      obtain ⟨ob, e, _⟩ := h0 a q
      rw [e]
      exact fun z => nomatch z
    · rw [showO_not q]; exact R.rb n a vs h

/-- the promise of all lambdas -/
structure LamP (c : Cxt) (P : Program) (w : World) (K : PySem.W.Frag) (mg : Str → Option Value) (base : Heap) (k : Nat) : Prop where
  run : ∀ (A : Around) (outer : List PySem.Env) (s : Shared) (H : Hp) (a : Addr) (us : List Value) (vs : List V) (l col : Nat) (bs : List Nat) (r : Nat → Option Addr) (F B : Hp) (cs : Cs) (zs : List D) (Kx : KE) (xx : KX),
    Room k A → Env0 P w K mg base A outer s H → RC c.G c.T noOwn r F B H cs → Rep c.G r F (.ref a) (.clo l col bs) → Vals vs us → Reps c.G r F vs zs → c.cal.lam l col bs zs cs Kx xx = true →
    codeAny (model P w) A (.call (.ref a) ⟨us, []⟩) (CR (L2.CX P w) outer P w H s (retQ c r F B Kx) (excQ c r F B xx)) s
def mCallV (bx : List Nat) (mf : ME) (ma : MA) : ME := fun f e cs k x => mf f e cs (fun d cs1 => match d with
  | .clo l col bs => ma f e cs1 (fun us cs2 => lent bx e cs2 (fun k' x' => f.lam l col bs us cs2 k' x') k x) x
  | _ => false) x
theorem lamO_at {P : Program} {w : World} {H : Hp} {h : Heap} {f : Addr} {L : LF} (hok : HOk P w H h) (e : H f = some (LamO f L)) : ∃ (od : Option Addr) (sl : Array (Option Value)) (pm ctv : Value), h.get? f = some (⟨.type "function", od, .func (L.fd pm ctv), sl⟩ : Obj) := by
  obtain ⟨z, _, _⟩ := hok f _ e
  obtain ⟨od, sl, pm, ctv, z⟩ := z
  exact ⟨od, sl, pm, ctv, z⟩
section
variable {c : Cxt} {X : Cx} {r : Nat → Option Addr} {F B H : Hp} {σ : L2.St} {ds : Env} {cs : Cs} {pins : List (Addr × Obj)} {s : Shared} {K : KE} {x : KX} {Q : VK} {pos p : Pos} {e : Expr} {es : List Expr} {ma : MA} {mf : ME} {k : Nat} {y : Str}
theorem fnAt_clo (I : Inv X pins σ H s) (R : RS c X r F B σ H ds cs) {a : Addr} {l col : Nat} {bs : List Nat} (h : Rep c.G r F (.ref a) (.clo l col bs)) : PySem.W.FnAt a s.heap := by
  cases h with
  | clo h1 _ _ _ _ _ =>
    obtain ⟨od, sl, pm, ctv, ho⟩ := lamO_at I.hok (R.rc.subF _ _ h1)
    exact ⟨_, od, _, sl, ho⟩
theorem run_lam (LP : LamP c X.prog X.w X.K X.mg X.base k) (hr : Room k X.A) (I : Inv X pins σ H s) (O : OwnX X c.bx) (tk : Takes X c.W) (R : RS c X r F B σ H ds cs) (kk : Kok c X r F B σ ds K Q) (xk : Xok c X r F B σ ds x)
    {a : Addr} {us : List Value} {vs : List V} {zs : List D} {l col : Nat} {bs : List Nat} (ha : Rep c.G r F (.ref a) (.clo l col bs)) (rv : Vals vs us) (hv : Reps c.G r F vs zs)
    (hm : lent c.bx ds cs (fun k' x' => c.cal.lam l col bs zs cs k' x') K x = true) : wpAny (model X.prog X.w) X.A (call (.ref a) us) (EP X pins σ Q) X.xe s := by
  obtain ⟨K', x', h1, hK, hx⟩ := lent_ok hm
  have E := lend_ext I R
  refine wpAny_call (codeAny_mono (LP.run X.A X.stack s (lendAt X c.bx s.heap H) a us vs l col bs r F _ cs zs K' x' hr (lend_env0 I O) (lend_rc I O R) ha rv hv h1) fun res s' hq => ?_)
  have q := ret_of I O R kk xk tk hK hx hq
  cases res with
  | ok fl => cases fl with
    | ret u => exact q
    | next => exact q
    | brk => exact q
    | cont => exact q
  | error e => exact q
theorem xe_callV (LP : LamP c X.prog X.w X.K X.mg X.base k) (hr : Room k X.A) (O : OwnX X c.bx) (tk : Takes X c.W) (hf : XE c X (.Name y p) mf) (ha : XA c X (e :: es) ma)
    (he : starEach (e :: es) X.env = (false, eval e X.env) :: starEach es X.env := by rfl) (hpl : (backTo pos (starEach es X.env)).any (·.1) = false := by rfl) : XE c X (.Call (.Name y p) (e :: es) [] pos) (mCallV c.bx mf ma) := by
  refine ⟨fun pins s σ H Q I ⟨r, F, B, ds, cs, K, x, hm, R, kk, xk⟩ => ?_⟩
  refine wpAny_Call_Name_kw (thn (hf.run pins s σ H (fun v H1 => ∃ r1 F1 B1 cs1 d, Ext r F B r1 F1 B1 ∧ RS c X r1 F1 B1 σ H1 ds cs1 ∧ Rep c.G r1 F1 v d ∧ _ = true) I
    (tE.of hm R (fun r1 F1 B1 H1 v d cs1 E1 R1 hv h1 => ⟨r1, F1, B1, cs1, d, E1, R1, hv, h1⟩) xk)) fun u s1 ⟨v, H1, I1, rv, r1, F1, B1, cs1, d, E1, R1, hv, h1⟩ => ?_)
  split at h1
  · rename_i l col bs
    cases hv with
    | @clo a _ _ _ _ _ q1 q2 q3 q4 q5 q6 =>
      have hv : Rep c.G r1 F1 (.ref a) (.clo l col bs) := .clo q1 q2 q3 q4 q5 q6
      obtain rfl : u = Value.ref a := rv
      refine PySem.W.callWith_F (first := []) (fnAt_clo I1 R1 hv) (thn (ha.run pos pins s1 σ H1 (fun vs H2 => ∃ r2 F2 B2 cs2 us, Ext r1 F1 B1 r2 F2 B2 ∧ RS c X r2 F2 B2 σ H2 ds cs2 ∧ Reps c.G r2 F2 vs us ∧ _ = true) I1
        (tA.of h1 R1 (fun r2 F2 B2 H2 vs us cs2 E2 R2 hvs h2 => ⟨r2, F2, B2, cs2, us, E2, R2, hvs, h2⟩) (xk.ext E1))) fun us s2 ⟨vs, H2, I2, rv2, r2, F2, B2, cs2, zs, E2, R2, hvs, h2⟩ => ⟨fnAt_clo I2 R2 (hv.ext E2), ?_⟩) he hpl
      show wpAny _ _ (call (.ref a) us) _ _ _
      exact run_lam LP hr I2 O tk R2 (kk.ext (E1.trans E2)) (xk.ext (E1.trans E2)) (hv.ext E2) rv2 hvs h2
  · cases h1
theorem xe_callV0 (LP : LamP c X.prog X.w X.K X.mg X.base k) (hr : Room k X.A) (O : OwnX X c.bx) (tk : Takes X c.W) (hf : XE c X (.Name y p) mf) : XE c X (.Call (.Name y p) [] [] pos) (mCallV c.bx mf mNil) := by
  refine ⟨fun pins s σ H Q I ⟨r, F, B, ds, cs, K, x, hm, R, kk, xk⟩ => ?_⟩
  refine wpAny_Call_Name_kw (thn (hf.run pins s σ H (fun v H1 => ∃ r1 F1 B1 cs1 d, Ext r F B r1 F1 B1 ∧ RS c X r1 F1 B1 σ H1 ds cs1 ∧ Rep c.G r1 F1 v d ∧ _ = true) I
    (tE.of hm R (fun r1 F1 B1 H1 v d cs1 E1 R1 hv h1 => ⟨r1, F1, B1, cs1, d, E1, R1, hv, h1⟩) xk)) fun u s1 ⟨v, H1, I1, rv, r1, F1, B1, cs1, d, E1, R1, hv, h1⟩ => ?_)
  split at h1
  · rename_i l col bs
    cases hv with
    | @clo a _ _ _ _ _ q1 q2 q3 q4 q5 q6 =>
      have hv : Rep c.G r1 F1 (.ref a) (.clo l col bs) := .clo q1 q2 q3 q4 q5 q6
      obtain rfl : u = Value.ref a := rv
      refine PySem.W.callWith_F0 (first := []) (fnAt_clo I1 R1 hv) ?_
      show wpAny _ _ (call (.ref a) []) _ _ _
      exact run_lam LP hr I1 O tk R1 (kk.ext E1) (xk.ext E1) hv .nil .nil h1
  · cases h1
end
/-! ### a lambda by its body -/
def liveB (cs : Cs) : List Nat → Bool
  | [] => true
  | n :: ns => match getO cs.l n with
    | some (.box _) => liveB cs ns
    | _ => false
theorem liveB_ok {cs : Cs} : ∀ {ns : List Nat}, liveB cs ns = true → ∀ n ∈ ns, ∃ od, cs.get n = some (.box od)
  | m :: ns, h, n, hn => by
    unfold liveB at h
    split at h
    · rename_i od q
      rcases List.mem_cons.mp hn with z | z
      · subst z
        exact ⟨od, by show cs.l.lookup n = _; rw [← getO_eq]; exact q⟩
      · exact liveB_ok h n z
    · cases h
def envL (us : List D) (bs : List Nat) (nl : Nat) : Env := us.map some ++ (bs.map (fun n => some (.cel n)) ++ List.replicate nl none)
def runL (np nl : Nat) (m : ME) : Cal → List Nat → List D → Cs → KE → KX → Bool := fun cal bs us cs K x => match lenIs us np && liveB cs bs with
  | true => fList (envL us bs nl) fun e => m cal e cs K x
  | false => false
/-- the text of a lambda: its parameters ps, further names nl -/
structure LamTxt (T : LTxt) (N ps : List Str) (nl : Nat) : Prop where
  sc : NScope N ps T.fr T.scope
  len : N.length = ps.length + T.fr.length + nl
  bind : ∀ (F : LF) (pm ctv : Value) (us : List Value), F.params = T.params → us.length = ps.length → bindArgs (F.fd pm ctv) ⟨us, []⟩ = pure (ps.zip us)
abbrev nfOf (L : LF) : NF := ⟨"<lambda>", L.qual, L.params, [], L.scope, L.cl, L.c⟩
/-- the captured names' values -/
theorem caps_ws {G : Gs} {T : List NTab} {r : Nat → Option Addr} {F B H : Hp} {cs : Cs} {cl : List (Str × Addr)} (R : RC G T noOwn r F B H cs) : ∀ {bs : List Nat} {fr : List Str}, Paired (fun n y => ∃ a, r n = some a ∧ cl.lookup y = some a) bs fr → (∀ n ∈ bs, ∃ od, cs.get n = some (.box od)) →
    ∃ ws : List (Option V), ws.length = fr.length ∧ bs.length = fr.length ∧ ∀ (j : Nat) (y : Str), fr[j]? = some y → ∃ n a ob ou od, bs[j]? = some n ∧ r n = some a ∧ cl.lookup y = some a ∧ B a = some (.frz ob (.own 0)) ∧ ob.data = .cell ou ∧ cs.get n = some (.box od) ∧
      (∀ v, ws[j]? = some (some v) → ∃ u, ou = some u ∧ RelV v u) ∧ ∀ d, od = some d → ∃ v, ws[j]? = some (some v) ∧ Rep G r F v d
  | _, _, .nil, _ => ⟨[], rfl, rfl, fun j y h => by simp at h⟩
  | n :: bs, y :: fr, .cons ⟨a, h1, h2⟩ t, hl => by
    obtain ⟨ws, l1, l2, h⟩ := caps_ws R t fun n hn => hl n (List.mem_cons_of_mem _ hn)
    obtain ⟨od, hod⟩ := hl n List.mem_cons_self
    rcases R.cell n _ hod with ⟨_, _, z⟩ | ⟨a', ob, q1, q2, ou, q3, q4⟩
    · exact z.elim
    · rw [h1] at q1; cases q1
      have : ∃ o : Option V, (∀ v, o = some v → ∃ u, ou = some u ∧ RelV v u) ∧ ∀ d, od = some d → ∃ v, o = some v ∧ Rep G r F v d := by
        cases od with
        | none => exact ⟨none, (fun v z => nomatch z), fun d z => nomatch z⟩
        | some d =>
          obtain ⟨u, v, e1, e2, e3⟩ := q4 d rfl
          exact ⟨some v, fun v' z => by cases z; exact ⟨u, e1, e2⟩, fun d' z => by cases z; exact ⟨v, rfl, e3⟩⟩
      obtain ⟨o, o1, o2⟩ := this
      refine ⟨o :: ws, by simp [l1], by simp [l2], fun j y' hj => ?_⟩
      cases j with
      | zero =>
        simp at hj
        subst hj
        exact ⟨n, a, ob, ou, od, rfl, h1, h2, q2, q3, hod, fun v hv => o1 v (by simpa using hv), fun d hd => by
          obtain ⟨v, e, z⟩ := o2 d hd
          exact ⟨v, by simp [e], z⟩⟩
      | succ j =>
        obtain ⟨n', a', ob', ou', od', z⟩ := h j y' (by simpa using hj)
        exact ⟨n', a', ob', ou', od', by simpa using z⟩
end Ev

set_option Elab.async false
set_option linter.all false
set_option maxRecDepth 100000
set_option maxHeartbeats 2000000
/-! Ev12: a lambda by its body -/
namespace Ev
open PySem PySem.Spec PyProof.Rows L2 LamX NdefX
theorem takes_own {X : Cx} {W : WX} (tk : Takes X W) : Takes X (fun c d σ H => OwnFree X H → W c d σ H) := fun u s' ⟨a, B, sI, pins, σ, H, cls, d, e, I, nb, up, sky, na, os, ag, w⟩ =>
  tk u s' ⟨a, B, sI, pins, σ, H, cls, d, e, I, nb, up, sky, na, os, ag, w (Inv.ownFree I)⟩
/-- the slots of the captured names -/
def capSl (np nf : Nat) : List Nat := (List.range nf).map (np + ·)
theorem mem_capSl {np nf i : Nat} : i ∈ capSl np nf ↔ ∃ j, j < nf ∧ i = np + j := by
  unfold capSl
  simp only [List.mem_map, List.mem_range]
  exact ⟨fun ⟨j, h, e⟩ => ⟨j, h, e.symm⟩, fun ⟨j, h, e⟩ => ⟨j, h, e.symm⟩⟩
theorem lam_ev {P : Program} {w : World} {K : PySem.W.Frag} {mg : Str → Option Value} {base : Heap} {G : Gs} {T : List NTab} {cl : Nat → Value} {cal cal' : Cal} {k : Nat}
    (hGK : G.Kf = K) (hL : ∀ l col t, G.lam l col = some t → ∃ (N ps : List Str) (nl : Nat) (m : ME), LamTxt t N ps nl ∧ (∀ bs us cs K x, cal'.lam l col bs us cs K x = true → runL ps.length nl m cal bs us cs K x = true) ∧
      ∀ (W : WX) (L : LF) (a : Addr) (A : Around) (outer : List PySem.Env) (s : Shared) (H : Hp) (E : XK), L.scope = t.scope → L.qual = t.qual → Bod ⟨G, T, cal, cl, capSl ps.length t.fr.length, W⟩ (ncx (L2.CX P w) P w K mg base N (nfOf L) a A outer s H E) k →
        XE ⟨G, T, cal, cl, capSl ps.length t.fr.length, W⟩ (ncx (L2.CX P w) P w K mg base N (nfOf L) a A outer s H E) t.body m) :
    LamP ⟨G, T, cal', cl, [], fun _ _ _ _ => False⟩ P w K mg base (k + 1) := by
  refine ⟨fun A outer s H a us vs l col bs r F B cs zs Kx xx hr e0 R ha rv hv hm => ?_⟩
  cases ha with
  | @clo _ _ _ _ L t hFa hFc ht hq hd hb =>
  obtain ⟨N, ps, nl, m, tx, hcal, hbody⟩ := hL l col t ht
  have hm := hcal _ _ _ _ _ hm
  unfold runL at hm
  split at hm
  case h_2 => cases hm
  rename_i hlive
  rw [fList_eq] at hm
  obtain ⟨hl1, hl2⟩ := Bool.and_eq_true_iff.mp hlive
  have hl := lenIs_ok hl1
  obtain ⟨ws, w1, w2, hw⟩ := caps_ws R hb (liveB_ok hl2)
  obtain ⟨Lq, Lp, Lb, Ls⟩ := hq
  have lvs : vs.length = ps.length := by rw [hv.length]; exact hl
  have S : NScope N ps t.fr L.scope := by rw [Ls]; exact tx.sc
  have lim : s.heap.NoLimit := e0.mod.nolimit.keeps fun b o e => (e0.bs b o e).1
  have hok := e0.hok
  obtain ⟨od, sl, pm, ctv, ho⟩ := lamO_at hok (R.subF _ _ hFa)
  refine PySem.W.kla_callFunE hr.depth ho rfl S.co S.gen rfl (codeO_at hok (R.subF _ _ hFc)) ?_
  rw [tx.bind L pm ctv us Lp (by rw [← rv.length]; exact lvs)]
  refine wpAny_pure (wpAny_newFunctionEnv S.nocell (fun ⟨n, _⟩ hy => S.par n (List.of_mem_zip hy).1) (fun h₁ hns hsb => ⟨lim.fresh _ hsb, ?_⟩) S.kind)
  show codeAny _ _ (.expr L.body (envF (nfOf L) a s.heap.objs.size)) _ _
  refine PySem.W.kla_codeExpr ?_
  have kp : ∀ b o, s.heap.get? b = some o → h₁.get? b = some o := fun b o e => hsb.extBut b o (Nat.ne_of_lt (Heap.lt_size e)) (Heap.get?_push_of_some _ e)
  -- the captured cells are taken out
  obtain ⟨own, hown⟩ : ∃ own : Addr → Prop, ∀ a, own a ↔ ∃ y, L.cl.lookup y = some a := ⟨_, fun _ => Iff.rfl⟩
  have ownB0 : ∀ b, own b → ∃ ob, B b = some (.frz ob (.own 0)) := fun b q => by
    rw [hown] at q
    obtain ⟨y, hy⟩ := q
    obtain ⟨j, hj⟩ := List.mem_iff_getElem?.mp (hd.1 y b hy)
    obtain ⟨n, a', ob, ou, od', z1, z2, z3, z4, _⟩ := hw j y hj
    rw [hy] at z3; cases z3
    exact ⟨ob, z4⟩
  have nH : ∀ b, H b = none → hideO own H b = none := fun b h => by
    by_cases q : own b
    · exact hideO_own q
    · rw [hideO_not q]; exact h
  have keepH : ∀ b o, H b = some o → (∀ ob, o ≠ .frz ob (.own 0)) → hideO own H b = some o := fun b o h n => by
    rw [hideO_not (fun q => by
      obtain ⟨ob, h1⟩ := ownB0 b q
      rw [R.subB _ _ h1] at h; cases h
      exact n ob rfl)]
    exact h
  have okl : HOk P w (hideO own H) s.heap := fun b o h => by
    obtain ⟨q, h1⟩ := hideO_some h
    exact (hok b o h1).stay (fun _ _ _ z => z) (fun c z => keepH c _ z fun ob e => nomatch e) fun c xs z => keepH c _ z fun ob e => nomatch e
  have e1 : Env0 P w K mg base A outer s (hideO own H) := ⟨e0.frames, e0.mod, fun b o h => ⟨(e0.bs b o h).1, nH b (e0.bs b o h).2⟩, e0.bsz, e0.funs, fun b hb => nH b (e0.frf b hb), okl, e0.bare⟩
  have C : CellsAt (nfOf L).cl t.fr ws s.heap (hideO own H) := by
    refine ⟨w1, fun y b hy => ⟨hideO_own (by rw [hown]; exact ⟨y, hy⟩), ?_⟩, hd.2, fun j y hj => ?_⟩
    · obtain ⟨ob, h1⟩ := ownB0 b (by rw [hown]; exact ⟨y, hy⟩)
      obtain ⟨j, hj⟩ := List.mem_iff_getElem?.mp (hd.1 y b hy)
      obtain ⟨n, a', ob, ou, od', z1, z2, z3, z4, z5, _⟩ := hw j y hj
      have hy' : L.cl.lookup y = some b := hy
      rw [hy'] at z3; cases z3
      exact ⟨ou, ob, (hok b _ (R.subB _ _ z4)).1, z5⟩
    · obtain ⟨n, a', ob, ou, od', z1, z2, z3, z4, z5, z6, z7, _⟩ := hw j y hj
      refine ⟨a', z3, fun v hv => ?_⟩
      obtain ⟨u, e, ru⟩ := z7 v hv
      exact ⟨u, ru, ob, (hok a' _ (R.subB _ _ z4)).1, by rw [z5, e]⟩
  -- what is wished of an exception
  obtain ⟨E', hE'⟩ : ∃ E' : XK, E' = fun cls dd H' => excQ ⟨G, T, cal', cl, [], fun _ _ _ _ => False⟩ r F B xx cls dd (showO own H H') := ⟨_, rfl⟩
  have I : Inv (ncx (L2.CX P w) P w K mg base N (nfOf L) a A outer s (hideO own H) E') [] (startF N vs ws) (hideO own H) { s with heap := h₁, toks := s.toks + (ps.zip us).length } := inv_startN S hr.hd e1 lvs rv C hns kp
  have tkW : Takes (ncx (L2.CX P w) P w K mg base N (nfOf L) a A outer s (hideO own H) E') (fun cls d _ H => E' cls d H) := takes_of rfl rfl rfl rfl
  have tkW := takes_own tkW
  have pasW : PassesOwn (model P w) (ncx (L2.CX P w) P w K mg base N (nfOf L) a A outer s (hideO own H) E').A (ncx (L2.CX P w) P w K mg base N (nfOf L) a A outer s (hideO own H) E').env (ncx (L2.CX P w) P w K mg base N (nfOf L) a A outer s (hideO own H) E').xe := passes_of rfl
  have Nat_ : ∀ j y, t.fr[j]? = some y → N[ps.length + j]? = some y := fun j y hj => by
    have hlt : j < t.fr.length := (List.getElem?_eq_some_iff.mp hj).1
    have q : (ps ++ t.fr)[ps.length + j]? = some y := by rw [List.getElem?_append_right (by omega)]; simpa using hj
    rw [← S.pre, List.getElem?_take_of_lt (by omega)] at q
    exact q
  have bA : ∀ j y, t.fr[j]? = some y → bAddr (ncx (L2.CX P w) P w K mg base N (nfOf L) a A outer s (hideO own H) E') (ps.length + j) = L.cl.lookup y := fun j y hj => by
    unfold bAddr
    have e : (ncx (L2.CX P w) P w K mg base N (nfOf L) a A outer s (hideO own H) E').N[ps.length + j]? = some y := Nat_ j y hj
    rw [e]
    rfl
  have ownEq : ownB (ncx (L2.CX P w) P w K mg base N (nfOf L) a A outer s (hideO own H) E') (capSl ps.length t.fr.length) = own := by
    funext b
    apply propext
    rw [hown]
    constructor
    · rintro ⟨i, hi, h⟩
      obtain ⟨j, hj, e⟩ := mem_capSl.mp hi
      subst e
      obtain ⟨y, hy⟩ : ∃ y, t.fr[j]? = some y := ⟨_, List.getElem?_eq_getElem hj⟩
      rw [bA j y hy] at h
      exact ⟨y, h⟩
    · rintro ⟨y, hy⟩
      obtain ⟨j, hj⟩ := List.mem_iff_getElem?.mp (hd.1 y b hy)
      exact ⟨ps.length + j, mem_capSl.mpr ⟨j, (List.getElem?_eq_some_iff.mp hj).1, rfl⟩, by rw [bA j y hj]; exact hy⟩
  have O : OwnX (ncx (L2.CX P w) P w K mg base N (nfOf L) a A outer s (hideO own H) E') (capSl ps.length t.fr.length) := by
    refine ⟨fun i hi b h => ?_, fun i hi b h z => ?_, fun i hi y hy => ?_⟩
    · obtain ⟨y, _, h⟩ := bAddr_look h
      have h : L.cl.lookup y = some b := h
      cases e : base.get? b with
      | none => exact e
      | some o =>
        obtain ⟨ob, q⟩ := ownB0 b (by rw [hown]; exact ⟨y, h⟩)
        have := (e0.bs b o e).2
        rw [R.subB _ _ q] at this; cases this
    · obtain ⟨y, _, h⟩ := bAddr_look h
      have h : L.cl.lookup y = some b := h
      obtain ⟨ob, q⟩ := ownB0 b (by rw [hown]; exact ⟨y, h⟩)
      have := e0.frf b z
      rw [R.subB _ _ q] at this; cases this
    · obtain ⟨j, hj, e⟩ := mem_capSl.mp hi
      subst e
      obtain ⟨y', hy'⟩ : ∃ y, t.fr[j]? = some y := ⟨_, List.getElem?_eq_getElem hj⟩
      have e2 : N[ps.length + j]? = some y := hy
      rw [Nat_ j y' hy'] at e2
      have e2 := Option.some.inj e2
      subst e2
      exact .inr (S.frk y' (List.mem_of_getElem? hy'))
  have lenN : N.length = ps.length + t.fr.length + nl := tx.len
  have lstF : startF N vs ws = vs.map some ++ (ws ++ List.replicate nl none) := by unfold startF; rw [lenN, lvs, w1]; congr 3; omega
  have R1 : RL G T (ncx (L2.CX P w) P w K mg base N (nfOf L) a A outer s (hideO own H) E') (capSl ps.length t.fr.length) r F (hideO own B) (startF N vs ws) (hideO own H) (envL zs bs nl) cs := by
    refine ⟨by rw [ownEq]; exact R.hide ownB0, fun i d hi h => ?_, fun i hi => ?_, fun i hi j hj b h1 h2 => ?_, ?_, hGK⟩
    · unfold envL at h
      by_cases h1 : i < zs.length
      · rw [List.getElem?_append_left (by simpa using h1), List.getElem?_map] at h
        cases e : zs[i]? with
        | none => rw [e] at h; cases h
        | some d' =>
          rw [e] at h; cases h
          obtain ⟨v, q1, q2⟩ := hv.get e
          refine ⟨v, ?_, q2⟩
          rw [lstF, List.getElem?_append_left (by rw [List.length_map, hv.length]; exact h1), List.getElem?_map, q1]
          rfl
      · rw [List.getElem?_append_right (by simpa using h1), List.length_map] at h
        by_cases h2 : i - zs.length < bs.length
        · exact absurd (mem_capSl.mpr ⟨i - zs.length, by omega, by omega⟩) hi
        · rw [List.getElem?_append_right (by simpa using h2), List.getElem?_replicate] at h
          split at h <;> cases h
    · obtain ⟨j, hj, e⟩ := mem_capSl.mp hi
      subst e
      obtain ⟨y, hy⟩ : ∃ y, t.fr[j]? = some y := ⟨_, List.getElem?_eq_getElem hj⟩
      obtain ⟨n, a', ob, ou, od', z1, z2, z3, z4, z5, z6, z7, z8⟩ := hw j y hy
      refine ⟨n, a', ?_, by rw [bA j y hy]; exact z3, z2, fun m' ce hm' hc => ?_⟩
      · unfold envL
        rw [List.getElem?_append_right (by rw [List.length_map, hl]; omega), List.length_map, hl, List.getElem?_append_left (by rw [List.length_map]; omega), List.getElem?_map, show ps.length + j - ps.length = j from by omega, z1]
        rfl
      · have em : m' = n := R.inj m' n a' hm' z2
        rw [em, z6] at hc; cases hc
        refine ⟨od', rfl, fun d hd' => ?_⟩
        obtain ⟨v, q1, q2⟩ := z8 d hd'
        refine ⟨v, ?_, q2⟩
        rw [lstF, List.getElem?_append_right (by rw [List.length_map, lvs]; omega), List.length_map, lvs, List.getElem?_append_left (by omega), show ps.length + j - ps.length = j from by omega]
        exact q1
    · obtain ⟨i', hi', e1⟩ := mem_capSl.mp hi
      obtain ⟨j', hj', e2⟩ := mem_capSl.mp hj
      subst e1 e2
      obtain ⟨y, hy⟩ : ∃ y, t.fr[i']? = some y := ⟨_, List.getElem?_eq_getElem hi'⟩
      obtain ⟨z, hz⟩ : ∃ y, t.fr[j']? = some y := ⟨_, List.getElem?_eq_getElem hj'⟩
      rw [bA i' y hy] at h1
      rw [bA j' z hz] at h2
      have eyz := hd.2 y z b h1 h2
      subst eyz
      exact nodup_ix S.nd (Nat_ i' y hy) (Nat_ j' y hz)
    · unfold envL
      rw [lstF]
      simp only [List.length_append, List.length_map, List.length_replicate, hv.length, w1, w2]
  have bod : Bod ⟨G, T, cal, cl, capSl ps.length t.fr.length, fun cls d σ H' => OwnFree (ncx (L2.CX P w) P w K mg base N (nfOf L) a A outer s (hideO own H) E') H' → E' cls d H'⟩ (ncx (L2.CX P w) P w K mg base N (nfOf L) a A outer s (hideO own H) E') k :=
    ⟨⟨rfl, S.nd, hr.deeper _, tkW, O⟩, rfl, rfl, pasW⟩
  have hxe := hbody (fun cls d σ H' => OwnFree (ncx (L2.CX P w) P w K mg base N (nfOf L) a A outer s (hideO own H) E') H' → E' cls d H') L a A outer s (hideO own H) E' Ls Lq bod
  rw [← Lb] at hxe
  -- behind the body: the cells come back
  have back : ∀ {σ' : L2.St} {H' : Hp} {r' F' B' cs'}, (∀ y b, L.cl.lookup y = some b → H' b = none) → Ext r F (hideO own B) r' F' B' → RL G T (ncx (L2.CX P w) P w K mg base N (nfOf L) a A outer s (hideO own H) E') (capSl ps.length t.fr.length) r' F' B' σ' H' (envL zs bs nl) cs' →
      σ' = startF N vs ws → Ext r F B r' F' (showO own B B') ∧ RC G T noOwn r' F' (showO own B B') (showO own H H') cs' := fun {σ' H' r' F' B' cs'} hfree E' R' hσ => by
    have rc := R'.rc
    rw [ownEq] at rc
    refine ⟨⟨E'.r, E'.F, fun b o h => ?_⟩, rc.unhide (fun b q => by rw [hown] at q; obtain ⟨y, hy⟩ := q; exact hfree y b hy) (fun b q => ?_) fun n od' hn b hb' q => ?_⟩
    · by_cases q : own b
      · rw [showO_own q]; exact h
      · rw [showO_not q]; exact E'.B b o (by rw [hideO_not q]; exact h)
    · obtain ⟨ob, z⟩ := ownB0 b q
      exact ⟨ob, z, by rw [z]; exact R.subB _ _ z⟩
    · rw [hown] at q
      obtain ⟨y, hy⟩ := q
      obtain ⟨j, hj⟩ := List.mem_iff_getElem?.mp (hd.1 y b hy)
      obtain ⟨n0, a', ob, ou, od0, z1, z2, z3, z4, z5, z6, z7, z8⟩ := hw j y hj
      rw [hy] at z3; cases z3
      refine ⟨ob, z4, ou, z5, fun d hd' => ?_⟩
      have hlt : j < t.fr.length := (List.getElem?_eq_some_iff.mp hj).1
      obtain ⟨n1, a1, y1, y2, y3, y4⟩ := R'.boxs (ps.length + j) (mem_capSl.mpr ⟨j, hlt, rfl⟩)
      rw [bA j y hj, hy] at y2; cases y2
      obtain ⟨od2, e3, e4⟩ := y4 n _ hb' hn
      cases e3
      obtain ⟨v, e5, e6⟩ := e4 d hd'
      have e7 : ws[j]? = some (some v) := by
        rw [hσ, lstF, List.getElem?_append_right (by rw [List.length_map, lvs]; omega), List.length_map, lvs, List.getElem?_append_left (by omega), show ps.length + j - ps.length = j from by omega] at e5
        exact e5
      obtain ⟨u, e8, e9⟩ := z7 v e7
      exact ⟨u, v, e8, e9, e6⟩
  have conv : ∀ (u : Value) (s'' : Shared), L2.CX P w outer (hideO own H) s E' u s'' → L2.CX P w outer H s (excQ ⟨G, T, cal', cl, [], fun _ _ _ _ => False⟩ r F B xx) u s'' := fun u s'' ⟨x, B0, H1, cls, dd, eu, fl, hk1, ub, nx, os, ag, hE⟩ => by
    have kept : ∀ {b ob}, own b → B b = some (.frz ob (.own 0)) → B0.get? b = some ob := fun {b ob} q h =>
      ub.keep b ob (hok b _ (R.subB _ _ h)).1 (hideO_own q) fun z => by
        have := e0.frf b z
        rw [R.subB _ _ h] at this; cases this
    have gone : ∀ {b}, own b → H1 b = none := fun {b} q => by
      obtain ⟨ob, h⟩ := ownB0 b q
      exact ub.free b ob (hok b _ (R.subB _ _ h)).1 (hideO_own q)
    have some' : ∀ {b o}, H1 b = some o → showO own H H1 b = some o := fun {b o} h => by
      rw [showO_not (fun q => by rw [gone q] at h; cases h)]; exact h
    have hE2 : excQ ⟨G, T, cal', cl, [], fun _ _ _ _ => False⟩ r F B xx cls dd (showO own H H1) := by
      rw [hE'] at hE
      exact hE
    refine ⟨x, B0, showO own H H1, cls, dd, eu, fl, fun b o h => ?_, ⟨fun b o h n hb' => ub.keep b o h (nH b n) hb', ub.slot, fun b o h n => ?_, ub.there, fun b xs h => some' (ub.tups b xs (keepH b _ h fun ob e => nomatch e)), fun b o x h => ?_, fun b qs h => ?_⟩, ?_, os, ag, hE2⟩
    · by_cases q : own b
      · rw [showO_own q] at h
        obtain ⟨ob, z⟩ := ownB0 b q
        rw [R.subB _ _ z] at h
        cases h
        exact ⟨kept q z, ob, kept q z⟩
      · rw [showO_not q] at h
        exact (hk1 b o h).stay (fun _ _ _ z => z) (fun c z => some' z) fun c xs z => some' z
    · by_cases q : own b
      · rw [showO_own q]; exact n
      · rw [showO_not q]; exact ub.free b o h (nH b n)
    · by_cases q : own b
      · rw [showO_own q]; exact h
      · rw [showO_not q]; exact ub.frzs b o x (by rw [hideO_not q]; exact h)
    · obtain ⟨more, e⟩ := ub.tbls b qs (keepH b _ h fun ob e => nomatch e)
      exact ⟨more, some' e⟩
    · by_cases q : own x
      · obtain ⟨ob, z⟩ := ownB0 x q
        have z2 := kept q z
        rw [fl.2.1] at z2; cases z2
      · rw [showO_not q]; exact nx
  refine wpAny_mono (hxe.run [] _ (startF N vs ws) _ (fun v H' => ∃ r' F' B' cs' d, Ext r F (hideO own B) r' F' B' ∧ RL G T (ncx (L2.CX P w) P w K mg base N (nfOf L) a A outer s (hideO own H) E') (capSl ps.length t.fr.length) r' F' B' (startF N vs ws) H' (envL zs bs nl) cs' ∧ Rep G r' F' v d ∧ Kx d cs' = true) I
    (tE.of hm R1 (fun r' F' B' H' v d cs' E' R' hv' h' => ⟨r', F', B', cs', d, E', R', hv', h'⟩) fun n fs r' F' B' H' cls dd cs' Ex R' hE h' => ?_)) (fun u s' ⟨v, H', J, ru, r', F', B', cs', d, Ex, R', hv', h'⟩ => ?_) fun e s' hs => wpAny_mono hs (fun _ s'' q => conv e s'' q) fun e' s'' q => conv e' s'' q
  · -- an exception
    intro hof
    have hfree : ∀ y b, L.cl.lookup y = some b → H' b = none := fun y b hy => hof y b hy
    obtain ⟨E2, rc⟩ := back hfree Ex R' rfl
    show E' cls dd H'
    rw [hE']
    exact ⟨n, fs, r', F', _, cs', E2, rc, hE, h'⟩
  · have hfree : ∀ y b, L.cl.lookup y = some b → H' b = none := fun y b hy => J.freeC y b hy
    obtain ⟨E2, rc⟩ := back hfree Ex R' rfl
    have jb := J.base
    have some' : ∀ {b o}, H' b = some o → showO own H H' b = some o := fun {b o} h => by
      rw [showO_not (fun q => by rw [hown] at q; obtain ⟨y, hy⟩ := q; rw [hfree y b hy] at h; cases h)]; exact h
    have kept : ∀ {b ob}, own b → B b = some (.frz ob (.own 0)) → s'.heap.get? b = some ob := fun {b ob} q h => by
      have h1 := (hok b _ (R.subB _ _ h)).1
      exact jb.keep b ob h1 (hideO_own q) (fun z => by
        have := e0.frf b z
        rw [R.subB _ _ h] at this; cases this) (fun z => absurd (show b ∈ ([] : List Addr) from z) (by simp))
    refine ⟨v, showO own H H', J.os, J.bare, ⟨fun b o h n hb' hx => jb.keep b o h (nH b n) hb' hx, fun b o h n hb' hx => jb.slot b o h (nH b n) hb' hx, fun b o h n hx => ?_, jb.there, fun b xs h => some' (jb.tups b xs (keepH b _ h fun ob e => nomatch e)), fun b o x h => ?_, fun b qs h => ?_⟩, fun b o h => ?_, ru, r', F', _, d, cs', E2, rc, hv', h'⟩
    · by_cases q : own b
      · rw [showO_own q]; exact n
      · rw [showO_not q]; exact jb.free b o h (nH b n) hx
    · by_cases q : own b
      · rw [showO_own q]; exact h
      · rw [showO_not q]; exact jb.frzs b o x (by show hideO own H b = _; rw [hideO_not q]; exact h)
    · obtain ⟨more, e⟩ := jb.tbls b qs (keepH b _ h fun ob e => nomatch e)
      exact ⟨more, some' e⟩
    · by_cases q : own b
      · rw [showO_own q] at h
        obtain ⟨ob, z⟩ := ownB0 b q
        rw [R.subB _ _ z] at h
        cases h
        exact ⟨kept q z, ob, kept q z⟩
      · rw [showO_not q] at h
        exact (J.hok b o h).stay (fun _ _ _ z => z) (fun c z => some' z) fun c xs z => some' z
end Ev

set_option Elab.async false
set_option linter.all false
set_option maxRecDepth 100000
set_option maxHeartbeats 4000000
/-! Ev13: an own exception is raised; try with its clauses -/
namespace Ev
open PySem PySem.Spec PyProof.Rows L2 LamX NdefX

/-! ### the class's __init__(self, f): self.f = f -/
def spI (C : Addr) (f : Str) : Sp := fun vs H Q _ => ∃ a y, vs = [.ref a, y] ∧ H a = some (exo a C none) ∧ ∀ dx, H dx = none → dx ≠ a → Q .non (upd (upd H dx (exd dx [(f, y)])) a (exo a C (some dx)))
/-- what is known of an exception's class, number n, field f -/
structure ExcC (c : Cxt) (P : Program) (w : World) (K : PySem.W.Frag) (mg : Str → Option Value) (base : Heap) (x : Str) (n : Nat) (f : Str) : Prop where
  ex : ∃ (C fI : Addr) (fd : FuncData), c.cls n = .ref C ∧ mg x = some (.ref C) ∧ OexC K C ∧ XfC K C ∧ PySem.W.findIn K (.ref C) f = some none ∧ PySem.W.findIn K (.ref C) "__init__" = some (some (.ref fI)) ∧ PySem.W.typeIn K (.ref fI) = some (.type "function") ∧
    FnOk P w K mg base (L2.CX P w) 1 fI fd ["self", f] (spI C f) ∧ Binds K fd ["self", f] []
theorem init_ok {P : Program} {w : World} {K : PySem.W.Frag} {mg : Str → Option Value} {base : Heap} {CX : CXT} {C fI : Addr} {f name qual : Str} {params : Arguments} {scope : Scope} {dV kV doc pm cdv ct oc : Value} {an od : Option Addr} {osl : Array (Option Value)} {p1 p2 p3 p4 : Pos}
    (lk : K.lookup fI = some ⟨oc, od, .func (PySem.W.fnOf name qual params [.Assign [.Attribute (.Name "self" p1) f p2] (.Name f p3) p4] scope dV kV doc pm an cdv ct), osl⟩) (hcd : PySem.W.codeIn K cdv qual = true) (S : FnScope ["self", f] ["self", f] scope)
    (T : OexC K C) (hno : PySem.W.findIn K (.ref C) f = some none) (h0 : scope.names.lookup ("self" : Str) = some .local) (h1 : scope.names.lookup f = some .local) (hd : (f == ("__debug__" : Str)) = false := by decide) (hcd2 : (f == ("__classdict__" : Str)) = false := by decide) :
    FnOk P w K mg base CX 1 fI (PySem.W.fnOf name qual params [.Assign [.Attribute (.Name "self" p1) f p2] (.Name f p3) p4] scope dV kV doc pm an cdv ct) ["self", f] (spI C f) :=
  fn_of lk hcd S (fun vs H Q E h => by obtain ⟨a, y, e, _⟩ := h; rw [e]; rfl) fun A outer s H vs Q E hr h =>
    ⟨_, pss_one (ps_ost (pe_var (i := 0) rfl (.inl h0) rfl rfl) (pe_var (i := 1) rfl (.inl h1) hd hcd2)), by
      obtain ⟨a, y, e, h2, h3⟩ := h
      subst e
      exact ⟨y, rfl, .ref a, rfl, a, C, rfl, T, hno, .inl ⟨h2, fun dx n ne => h3 dx n ne⟩⟩⟩
/-! ### raise -/
section
variable {c : Cxt} {X : Cx} {r : Nat → Option Addr} {F B H : Hp} {σ : L2.St} {ds : Env} {cs : Cs} {p : Addr} {o : HO}
def sRaise (n : Nat) (f : Str) (a : ME) : MS := fun cal e cs _ x => a cal e cs (fun d cs1 => x n [(f, d)] e cs1) fun n fs cs1 => x n fs e cs1
theorem raise_heap {H : Hp} {a dx : Addr} {o1 o2 o3 o4 : HO} (ha : H a = none) (hne : dx ≠ a) : upd (del (upd (upd (upd H a o1) dx o2) a o3) a) dx o4 = upd H dx o4 := by
  funext b
  unfold upd del
  dsimp only
  by_cases e : b = dx
  · rw [if_pos e, if_pos e]
  · rw [if_neg e, if_neg e]
    by_cases e2 : b = a
    · rw [if_pos e2, e2, ha, if_neg (fun z => hne z.symm)]
    · rw [if_neg e2, if_neg e2, if_neg e, if_neg e2]
theorem xs_raise {k n : Nat} {y f : Str} {e : Expr} {m : ME} {pp pos pos2 : Pos} (bd : Bod c X (k + 2)) (T : ExcC c X.prog X.w X.K X.mg X.base y n f) (hg : Gl X y) (ha : XE c X e m) (hdb : (y == ("__debug__" : Str)) = false := by decide)
    (hs : starEach (e :: []) X.env = (false, eval e X.env) :: starEach [] X.env := by rfl) (hpl : (backTo pos (starEach [] X.env)).any (·.1) = false := by rfl) : XS c X (.Raise (some (.Call (.Name y pp) [e] [] pos)) none pos2) (sRaise n f m) := by
  obtain ⟨C, fI, fd, hc, hmg, oex, xfc, hno, iC, tI, F1, hb⟩ := T.ex
  refine ps_imp (ps2_of (ps_raise bd.calm bd.tk (pmk_oex (k := 1) (dvs := []) (ds := []) oex iC tI F1 (bd.room.mono (by omega)) hb .nil (passes_call (takes_none5 (X := X)) fun _ _ _ _ z => z) hg hmg (xa_cons ha xa_nil hs) hdb hs hpl))) fun D σ H ⟨r, F, B, ds, cs, k, x, hm, R, s⟩ => ?_
  refine tA.of (m := mCons m mNil) (K := fun us cs1 => match us with
    | [d] => x n [(f, d)] ds cs1
    | _ => false) (x := fun n fs cs1 => x n fs ds cs1) hm R (fun r' F' B' H' vs us cs' E R' hv h' => ?_) (XSok.at_ s.2.2.2.2 _ _)
  split at h'
  · rename_i d
    cases hv with
    | @cons v vs' _ _ hv t =>
      cases t
      refine ⟨by simp, fun a hn => ⟨a, v, rfl, upd_same, fun dx hdx hne => ⟨rfl, dx, [(f, v)], upd_same, ?_, ?_, ?_⟩⟩⟩
      · rw [upd_ne hne, upd_same]
      · rw [upd_ne hne] at hdx; exact hdx
      · rw [upd_ne hne] at hdx
        rw [raise_heap hn hne]
        obtain ⟨R2, E2⟩ := RL.newF (o := .xd [(f, v)]) R' hdx trivial
        exact s.2.2.2.2 n _ _ _ _ _ _ _ _ _ _ (E.trans E2) R2 ⟨⟨hc.symm, fun z => nomatch z⟩, .inr ⟨dx, _, rfl, upd_same, .cons ⟨rfl, hv.ext E2⟩ .nil⟩⟩ h'
  · cases h'
end
/-! ### try: several clauses, with names or without -/
/-- a clause: its class, the slot of its name, its suite -/
structure Cls where
  cls : Value
  slot : Option Nat
  ts : Addr → Value → Option Addr → TS2
def slotSt (oi : Option Nat) (o : Option V) (σ : L2.St) : L2.St := match oi with
  | some i => σ.set i o
  | none => σ
def slotD (oi : Option Nat) (D : Ends2) : Ends2 := ⟨fun σ H => D.nx (slotSt oi none σ) H, fun v σ H => D.rt v (slotSt oi none σ) H, fun σ H => D.bk (slotSt oi none σ) H, fun σ H => D.ct (slotSt oi none σ) H⟩
def wMany2 (K : PySem.W.Frag) (Wout : WX) (D : Ends2) : List Cls → WX
  | [] => Wout
  | q :: r => fun cls d σ H => ∃ b, PySem.W.exmOne K cls q.cls = some b ∧ (b = true → ∀ a, H a = none → q.ts a cls d (slotD q.slot D) (slotSt q.slot (some (.ref a)) σ) H) ∧ (b = false → wMany2 K Wout D r cls d σ H)
/-- a clause's name stands in its slot -/
def SlotOk (X : Cx) (on : Option Str) (oi : Option Nat) : Prop := (on = none ∧ oi = none) ∨ ∃ n i, on = some n ∧ oi = some i ∧ X.N[i]? = some n ∧ X.env.kindOf n = some .local
inductive HdsOk2 (X : Cx) : List ExceptHandler → List Cls → Prop
  | nil : HdsOk2 X [] []
  | cons {x : Str} {c : Value} {on : Option Str} {oi : Option Nat} {ts : Addr → Value → Option Addr → TS2} {b₀ : Stmt} {suite : List Stmt} {np pos' : Pos} {hds : List ExceptHandler} {l : List Cls} (hc : Names X x c) (ho : SlotOk X on oi)
      (hsu : ∀ (a : Addr) (oe : Obj) (cls : Value) (d : Option Addr) (pn : List (Addr × Obj)), Zc cls d oe → (∃ vs, oe.data = .fields vs) → PSs2 (X.suite a ((a, oe) :: pn)) (b₀ :: suite) (ts a cls d)) (r : HdsOk2 X hds l) :
      HdsOk2 X (.ExceptHandler (some (.Name x np)) on (b₀ :: suite) pos' :: hds) (⟨c, oi, ts⟩ :: l)
section
variable {X : Cx} {body : List Stmt} {h₀ : ExceptHandler} {hds : List ExceptHandler} {l : List Cls} {pos : Pos} {tb : WX → TS2} {Wout : WX}
theorem ps2_try (hs : X.stack = X.env :: X.outer) (hf : X.env.frame = some X.env.locals) (hN : X.N.Nodup) (tk : Takes X Wout)
    (hb : ∀ (W : WX) (pn : List (Addr × Obj)) (xe : Value → Shared → Prop), Takes (X.tr pn xe) W → PassesOwn (model X.prog X.w) X.A X.env xe → PSs2 (X.tr pn xe) body (tb W))
    (hh : HdsOk2 X (h₀ :: hds) l) : PS2 X (.Try body (h₀ :: hds) [] [] pos) (fun D σ H => tb (wMany2 X.K Wout D l) D σ H) := by
  refine ⟨fun pins s σ H D I h => ?_⟩
  have ok := I.ok
  have hfr : X.A.frames = some (X.env :: X.outer) := by rw [ok.frames, hs]
  refine wpAny_Try_except ?_
  refine wpAny_mono ((hb (wMany2 X.K Wout D l) (X.pn ++ pins) (fun e s₁ => wpAny (model X.prog X.w) X.A (noteFrame e X.env) (fun _ s₂ => wpAny (model X.prog X.w) X.A (setFlight e none) (fun _ s₃ =>
    wpAny (model X.prog X.w) X.A (handleBy e X.env (h₀ :: hds)) (SP2 X pins D) X.xe s₃) X.xe s₂) X.xe s₁) (fun u s' xx => ?_) PassesOwn.looking).run [] s σ H D (I.toTry _) h) (fun f s1 hsp => ?_) (fun e s1 he => he)
  · obtain ⟨a, B, sI, pins', σ', H', cls, d, rfl, J', nb, up, sky, na, os, ag, w⟩ := xx
    have J : Inv X pins σ' H' sI := J'.ofTry ok
    have sky' : Sky B (X.env :: X.outer) a (Zc cls d) X.env.locals s'.heap := by rw [← hs]; exact sky
    show wpAny (model X.prog X.w) X.A (noteFrame (.ref a) X.env) _ _ _
    refine Sky.land Zc.steady hfr hf sky' fun h3 fl3 up3 => ?_
    have J3 : Inv X pins σ' H' { s' with heap := h3 } := J.landed nb fl3.1 (up.trans up3) os ag
    obtain ⟨oe3, vs3, he3, hz3, hd3⟩ := fl3.there
    have notFr : ∀ {h : Heap} {o : Obj} {vs : Array Value}, h.FunFrames B (X.env :: X.outer) → h.get? a = some o → o.data = .fields vs → a ∉ frs (X.env :: X.outer) := fun {h o vs} ff e dd hm => by
      obtain ⟨_, o', e', hnf⟩ := ff.mem hm
      rw [e] at e'; cases e'
      exact hnf _ dd
    have nfr := notFr fl3.2.2.1 he3 hd3
    have nL : a ≠ X.env.locals := fun z => nfr (List.mem_filterMap.mpr ⟨X.env, List.mem_cons_self, by rw [hf, z]⟩)
    have nF : a ∉ X.fs := fun hm => by
      obtain ⟨e, he, q⟩ := List.mem_filterMap.mp hm
      exact nfr (List.mem_filterMap.mpr ⟨e, List.mem_cons_of_mem _ he, q⟩)
    have S3 := J3.suite he3 hd3 na nL nF
    have go : ∀ {hds' : List ExceptHandler} {l' : List Cls}, HdsOk2 X hds' l' → wMany2 X.K Wout D l' cls d σ' H' →
        wpAny (model X.prog X.w) X.A (handleBy (.ref a) X.env hds') (SP2 X pins D) X.xe { s' with heap := h3 } := by
      intro hds' l' hk
      induction hk with
      | nil =>
        intro w
        refine wpAny_handleBy_nil ?_
        obtain ⟨k1, k2, k3, oe, vs, T, oT, ts', he, hz, hd, h1, hr⟩ := id fl3
        unfold PySem.passOn
        refine wpAny_bind (wpAny_field he hd h1 ?_)
        rw [if_neg (show ¬ ((Value.ref T == Value.none) = true) from by simp)]
        have fin : wpAny (model X.prog X.w) X.A (setFlight (.ref a) X.env.frame) (fun _ s4 => wpAny (model X.prog X.w) X.A (throw (.ref a) : Sem Flow) (SP2 X pins D) X.xe s4) X.xe { s' with heap := h3 } := by
          rw [hf]
          refine HandSPX.setFlight_upZ fl3 fun h4 hh4 up4 => wpAny_throw (tk _ _ ?_)
          exact ⟨a, B, sI, pins, σ', H', cls, d, rfl, J, nb, (up.trans up3).trans up4, .inr (.inr (by rw [hs]; exact hh4)), na, os, ag, w⟩
        first
          | exact wpAny_bind (wpAny_pure (wpAny_bind fin))
          | exact wpAny_bind fin
      | @cons x c on oi ts b₀ suite np pos' hds2 l2 hc ho hsu r ih =>
        intro w
        obtain ⟨b, hb1, hyes, hno⟩ := w
        refine wpAny_handleBy_cons (codeAny_handlers_test ?_) (by intro q; cases q)
        have LT : PySem.W.Looks (model X.prog X.w) h3 (typeOf (.ref a)) cls := fun A Q E s k q => wpAny_typeOf_ref (k _ _ he3) (by rw [hz3.1]; exact q)
        have LM := PySem.W.exm_one (M := model X.prog X.w) (J3.kIn) LT hb1
        have test : ∀ {Q : Value → Shared → Prop} {E : Value → Shared → Prop}, Q c { s' with heap := h3 } → wpAny (model X.prog X.w) (X.A.mark (some (.ref a))) (eval (.Name x np) X.env) Q E { s' with heap := h3 } := fun {Q E} q => by
          obtain ⟨hg, hdbg, hm | ⟨hm, hv, hnn⟩⟩ := hc
          · exact ld_glob (X := X.suite a ((a, oe3) :: (X.pn ++ pins))) S3 hg hm q hdbg
          · exact ld_blt (X := X.suite a ((a, oe3) :: (X.pn ++ pins))) S3 hg hm hv q hnn hdbg
        refine test (LM.here ?_)
        cases b with
        | true =>
          rcases ho with ⟨e1, e2⟩ | ⟨n, i, e1, e2, hi, hln⟩
          · subst e1 e2
            refine codeAny_handlers_suite ?_
            refine HandSPX.lands_againZ fl3 fun h4 fl4 up4 => ?_
            have J4 : Inv X pins σ' H' { s' with heap := h4 } := J.landed nb fl4.1 ((up.trans up3).trans up4) os ag
            obtain ⟨oe4, vs4, he4, hz4, hd4⟩ := fl4.there
            have S4 := J4.suite he4 hd4 na nL nF
            refine wpAny_mono ((hsu a oe4 cls d (X.pn ++ pins) hz4 ⟨_, hd4⟩).run [] _ _ H' _ S4 (hyes rfl a na)) (fun f s6 hsp => ?_) (fun _ _ z => False.elim z)
            cases f with
            | next =>
              obtain ⟨σ6, H6, S6, q6⟩ := hsp
              exact ⟨_, _, S6.unsuite ok, q6⟩
            | brk =>
              obtain ⟨σ6, H6, S6, q6⟩ := hsp
              exact ⟨_, _, S6.unsuite ok, q6⟩
            | cont =>
              obtain ⟨σ6, H6, S6, q6⟩ := hsp
              exact ⟨_, _, S6.unsuite ok, q6⟩
            | ret u =>
              obtain ⟨v6, σ6, H6, S6, r6, q6⟩ := hsp
              exact ⟨_, _, _, S6.unsuite ok, r6, q6⟩
          · subst e1 e2
            have hloc : Loc X.env.scope n := .inl hln
            refine codeAny_handlers_suite_as ?_
            refine HandSPX.lands_againZ fl3 fun h4 fl4 up4 => ?_
            have J4 : Inv X pins σ' H' { s' with heap := h4 } := J.landed nb fl4.1 ((up.trans up3).trans up4) os ag
            obtain ⟨oe4, vs4, he4, hz4, hd4⟩ := fl4.there
            have S4 := J4.suite he4 hd4 na nL nF
            refine store_ok (X := X.suite a ((a, oe4) :: (X.pn ++ pins))) (v := .ref a) S4 hN hi hloc rfl (fun s5 S5 => ?_) (.inr hln)
            refine wpAny_mono ((hsu a oe4 cls d (X.pn ++ pins) hz4 ⟨_, hd4⟩).run [] s5 _ H' _ S5 (hyes rfl a na)) (fun f s6 hsp => ?_) (fun _ _ z => False.elim z)
            have end_ : ∀ {σ6 : L2.St} {H6 : Hp} {Q : Shared → Prop}, Inv (X.suite a ((a, oe4) :: (X.pn ++ pins))) [] σ6 H6 s6 → (∀ s7, Inv X pins (σ6.set i none) H6 s7 → Q s7) →
                wpAny (model X.prog X.w) X.A (do bindName X.env n .none; unbindBehindTheSuite X.env n pos') (fun _ s7 => Q s7) X.xe s6 := fun {σ6 H6 Q} S6 hq => gone_ok (S6.unsuite ok) hN hi hln hq
            cases f with
            | next =>
              obtain ⟨σ6, H6, S6, q6⟩ := hsp
              exact end_ S6 fun s7 J7 => ⟨_, _, J7, q6⟩
            | brk =>
              obtain ⟨σ6, H6, S6, q6⟩ := hsp
              exact end_ S6 fun s7 J7 => ⟨_, _, J7, q6⟩
            | cont =>
              obtain ⟨σ6, H6, S6, q6⟩ := hsp
              exact end_ S6 fun s7 J7 => ⟨_, _, J7, q6⟩
            | ret u =>
              obtain ⟨v6, σ6, H6, S6, r6, q6⟩ := hsp
              exact end_ S6 fun s7 J7 => ⟨_, _, _, J7, r6, q6⟩
        | false =>
          show wpAny _ X.A (handleBy (.ref a) X.env hds2) _ _ _
          exact ih (hno rfl)
    exact go hh w
  · cases f with
    | next =>
      obtain ⟨σ', H', J', q⟩ := hsp
      exact wpAny_execs_nil ⟨σ', H', J'.ofTry ok, q⟩
    | brk =>
      obtain ⟨σ', H', J', q⟩ := hsp
      exact ⟨σ', H', J'.ofTry ok, q⟩
    | cont =>
      obtain ⟨σ', H', J', q⟩ := hsp
      exact ⟨σ', H', J'.ofTry ok, q⟩
    | ret u =>
      obtain ⟨v, σ', H', J', r, q⟩ := hsp
      exact ⟨v, σ', H', J'.ofTry ok, r, q⟩
end
/-! ### except X as e: return (s, e.f) -/
/-- a clause: its class's number, the text, the field (none: None is told) -/
structure Hd where
  m : Nat
  i : Nat
  s : Str
  f : Option Str
def lookF : List (Str × D) → Str → (D → Bool) → Bool
  | [], _, _ => false
  | (g, d) :: r, f, k => match decide (g = f) with
    | true => k d
    | false => lookF r f k
def hands (n : Nat) (fs : List (Str × D)) (e : Env) (cs : Cs) (k : KS) (x : KXs) : List Hd → Bool
  | [] => x n fs e cs
  | h :: r => match Nat.beq n h.m with
    | true => (match h.f with
      | some f => getE e h.i fun _ => lookF fs f fun d => k.rt (.tup [.str h.s, d]) cs
      | none => k.rt (.tup [.str h.s, .non]) cs)
    | false => hands n fs e cs k x r
def sTry (mb : MS) (hs : List Hd) : MS := fun f e cs k x => mb f e cs k fun n fs e1 cs1 => hands n fs e1 cs1 k x hs
theorem lookF_ok {G : Gs} {r : Nat → Option Addr} {F : Hp} : ∀ {fvs : List (Str × V)} {fs : List (Str × D)} {f : Str} {k : D → Bool}, Paired (fun (p : Str × V) (q : Str × D) => p.1 = q.1 ∧ Rep G r F p.2 q.2) fvs fs → lookF fs f k = true →
    ∃ v d, fvs.lookup f = some v ∧ Rep G r F v d ∧ k d = true
  | _, _, _, _, .nil, h => nomatch h
  | (g, v) :: fvs, (g', d) :: fs, f, k, .cons ⟨e, hv⟩ t, h => by
    unfold lookF at h
    have e : g = g' := e
    subst e
    split at h
    · rename_i q
      have q := of_decide_eq_true q
      subst q
      exact ⟨v, d, by simp [List.lookup], hv, h⟩
    · rename_i q
      have q := of_decide_eq_false q
      obtain ⟨v', d', h1, h2, h3⟩ := lookF_ok t h
      have z : (f == g) = false := by simpa using fun z : f = g => q z.symm
      exact ⟨v', d', by simp only [List.lookup, z]; exact h1, h2, h3⟩
/-- the clauses as they are written -/
inductive HdsX (c : Cxt) (X : Cx) : List ExceptHandler → List Hd → List Cls → Prop
  | nil : HdsX c X [] [] []
  | fld {x n f s : Str} {i m : Nat} {np p1 p2 p3 p4 p5 pos' : Pos} {j1 j2 : Nat} {hds : List ExceptHandler} {hs : List Hd} {l : List Cls} {C : Addr} (hC : c.cls m = .ref C) (hc : Names X x (.ref C)) (hi : X.N[i]? = some n) (hl : X.env.scope.names.lookup n = some .local) (hb : i ∉ c.bx)
      (T : XfC X.K C) (hno : PySem.W.findIn X.K (.ref C) f = some none) (hd : (n == ("__debug__" : Str)) = false) (hd2 : (n == ("__classdict__" : Str)) = false) (r : HdsX c X hds hs l) :
      HdsX c X (.ExceptHandler (some (.Name x np)) (some n) [.Return (some (.Tuple [.Constant (.str s) j1 p1, .Attribute (.Name n p2) f p3] j2 p4)) p5] pos' :: hds) (⟨m, i, s, some f⟩ :: hs)
        (⟨.ref C, some i, fun a cls d => fun D σ H => (tTup (tCons (tC (.str s)) (tCons (tXf a cls d C f (tVar i)) tNil))) σ H fun v H' => D.rt v σ H'⟩ :: l)
  | nun {x s : Str} {m : Nat} {np p1 p2 p3 p4 pos' : Pos} {j1 j2 j3 : Nat} {hds : List ExceptHandler} {hs : List Hd} {l : List Cls} {C : Addr} (hC : c.cls m = .ref C) (hc : Names X x (.ref C)) (r : HdsX c X hds hs l) :
      HdsX c X (.ExceptHandler (some (.Name x np)) none [.Return (some (.Tuple [.Constant (.str s) j1 p1, .Constant .none j3 p2] j2 p3)) p4] pos' :: hds) (⟨m, 0, s, none⟩ :: hs)
        (⟨.ref C, none, fun a cls d => fun D σ H => (tTup (tCons (tC (.str s)) (tCons (tC .non) tNil))) σ H fun v H' => D.rt v σ H'⟩ :: l)
  | nunAs {x n s : Str} {i m : Nat} {np p1 p2 p3 p4 pos' : Pos} {j1 j2 j3 : Nat} {hds : List ExceptHandler} {hs : List Hd} {l : List Cls} {C : Addr} (hC : c.cls m = .ref C) (hc : Names X x (.ref C)) (hi : X.N[i]? = some n) (hl : X.env.scope.names.lookup n = some .local) (hb : i ∉ c.bx) (r : HdsX c X hds hs l) :
      HdsX c X (.ExceptHandler (some (.Name x np)) (some n) [.Return (some (.Tuple [.Constant (.str s) j1 p1, .Constant .none j3 p2] j2 p3)) p4] pos' :: hds) (⟨m, i, s, none⟩ :: hs)
        (⟨.ref C, some i, fun a cls d => fun D σ H => (tTup (tCons (tC (.str s)) (tCons (tC .non) tNil))) σ H fun v H' => D.rt v σ H'⟩ :: l)
section
variable {c : Cxt} {X : Cx} {hds : List ExceptHandler} {hs : List Hd} {l : List Cls}
theorem HdsX.ok (h : HdsX c X hds hs l) : HdsOk2 X hds l := by
  induction h with
  | nil => exact .nil
  | @fld x n f s i m np p1 p2 p3 p4 p5 pos' j1 j2 hds hs l C hC hc hi hl hb T hno hd hd2 r ih =>
    refine .cons hc (.inr ⟨n, i, rfl, rfl, hi, hl⟩) (fun a oe cls d pn hz hf => ?_) ih
    exact pss2_one (ps2_ret (pe_tup (pa_cons pe_str (pa_cons (pe_xf T hno hz hf (pe_var hi (.inl hl) hd hd2)) pa_nil))))
  | nun hC hc r ih => exact .cons hc (.inl ⟨rfl, rfl⟩) (fun a oe cls d pn hz hf => pss2_one (ps2_ret (pe_tup (pa_cons pe_str (pa_cons pe_non pa_nil))))) ih
  | nunAs hC hc hi hl hb r ih => exact .cons hc (.inr ⟨_, _, rfl, rfl, hi, hl⟩) (fun a oe cls d pn hz hf => pss2_one (ps2_ret (pe_tup (pa_cons pe_str (pa_cons pe_non pa_nil))))) ih
/-- no two of the classes are one, none is beneath another -/
def ClsApart (c : Cxt) (X : Cx) : Prop := ∀ n m : Nat, ∀ C : Addr, c.cls m = .ref C → c.cls n ≠ .none → ∃ b, PySem.W.exmOne X.K (c.cls n) (c.cls m) = some b ∧ (b = true ↔ n = m)
theorem RL.slotF {G : Gs} {T : List NTab} {bx : List Nat} {r : Nat → Option Addr} {F B H : Hp} {σ : L2.St} {ds : Env} {cs : Cs} {i : Nat} {o : Option V} (R : RL G T X bx r F B σ H ds cs) (hi : i ∉ bx) : RL G T X bx r F B (σ.set i o) H (ds.set i none) cs := by
  refine ⟨R.rc, fun j d' hj h => ?_, fun j hj => ?_, R.binj, by rw [List.length_set, List.length_set]; exact R.len, R.kf⟩
  · by_cases e : i = j
    · subst e
      by_cases hl : i < ds.length
      · rw [List.getElem?_set_self hl] at h
        cases h
      · rw [List.getElem?_eq_none (by rw [List.length_set]; omega)] at h
        cases h
    · rw [List.getElem?_set_ne e] at h
      rw [List.getElem?_set_ne e]
      exact R.slot j d' hj h
  · have e : i ≠ j := ne_mem hi hj
    obtain ⟨n, cc, h1, h2, h4, h5⟩ := R.boxs j hj
    refine ⟨n, cc, by rw [List.getElem?_set_ne e]; exact h1, h2, h4, fun m ce hm hc => ?_⟩
    rw [List.getElem?_set_ne e]
    exact h5 m ce hm hc
theorem hands_ok {r : Nat → Option Addr} {F B : Hp} {k : KS} {x : KXs} {D : Ends2} (s : Sok c X r F B k x D) (hap : ClsApart c X) (h : HdsX c X hds hs l) :
    ∀ {n fs r' F' B' H' σ' ds' cls dd cs'}, Ext r F B r' F' B' → RS c X r' F' B' σ' H' ds' cs' → ExcOk c r' F' H' n fs cls dd → hands n fs ds' cs' k x hs = true → wMany2 X.K c.W D l cls dd σ' H' := by
  induction h with
  | nil => exact fun {n fs r' F' B' H' σ' ds' cls dd cs'} E R hE hm => s.2.2.2.2 n fs _ _ _ _ _ _ cls dd _ E R hE hm
  | @fld x n f s' i m np p1 p2 p3 p4 p5 pos' j1 j2 hds hs l C hC hc hi hl hb T hno hd hd2 r ih =>
    intro n fs r' F' B' H' σ' ds' cls dd cs' E R hE hm
    obtain ⟨⟨h1, hnn⟩, h2⟩ := id hE
    obtain ⟨b, hb1, hb2⟩ := hap n m C hC (by rw [← h1]; exact hnn)
    refine ⟨b, by rw [h1, ← hC]; exact hb1, fun eb a na => ?_, fun eb => ?_⟩
    · have en := hb2.mp eb
      subst en
      unfold hands at hm
      rw [show Nat.beq n n = true from Nat.beq_refl n] at hm
      dsimp only at hm
      obtain ⟨od, hod, hm⟩ := getE_true hm
      have hilt : i < σ'.length := by rw [← R.len]; exact (List.getElem?_eq_some_iff.mp hod).1
      rcases h2 with ⟨e1, e2⟩ | ⟨dx, fvs, e1, e2, e3⟩
      · subst e1; cases hm
      · obtain ⟨v, d, q1, q2, q3⟩ := lookF_ok e3 hm
        refine ⟨.ref a, ?_, rfl, by rw [h1, hC], dx, fvs, v, e1, R.rc.subF _ _ e2, q1, ?_⟩
        · show (σ'.set i (some (.ref a)))[i]? = _
          rw [List.getElem?_set_self hilt]
        · refine ⟨by show 2 ≤ sizeLine; decide, fun p hp => ?_⟩
          obtain ⟨R2, E2⟩ := RL.newF (o := .tup [.str s', v]) R hp trivial
          show D.rt (.ref p) ((σ'.set i (some (.ref a))).set i none) _
          rw [List.set_set]
          exact s.2.1 _ _ _ _ _ _ _ _ _ (E.trans E2) (RL.slotF R2 hb) (.tup upd_same (.cons (.str s') (.cons (q2.ext E2) .nil))) q3
    · have en : n ≠ m := fun z => by
        rw [hb2.mpr z] at eb; cases eb
      unfold hands at hm
      rw [show Nat.beq n m = false from by
        cases q : Nat.beq n m with
        | false => rfl
        | true => exact absurd (Nat.eq_of_beq_eq_true q) en] at hm
      exact ih E R hE hm
  | @nun x s' m np p1 p2 p3 p4 pos' j1 j2 j3 hds hs l C hC hc r ih =>
    intro n fs r' F' B' H' σ' ds' cls dd cs' E R hE hm
    obtain ⟨⟨h1, hnn⟩, h2⟩ := id hE
    obtain ⟨b, hb1, hb2⟩ := hap n m C hC (by rw [← h1]; exact hnn)
    refine ⟨b, by rw [h1, ← hC]; exact hb1, fun eb a na => ?_, fun eb => ?_⟩
    · have en := hb2.mp eb
      subst en
      unfold hands at hm
      rw [show Nat.beq n n = true from Nat.beq_refl n] at hm
      dsimp only at hm
      refine ⟨by show 2 ≤ sizeLine; decide, fun p hp => ?_⟩
      obtain ⟨R2, E2⟩ := RL.newF (o := .tup [.str s', .non]) R hp trivial
      exact s.2.1 _ _ _ _ _ _ _ _ _ (E.trans E2) R2 (.tup upd_same (.cons (.str s') (.cons .non .nil))) hm
    · have en : n ≠ m := fun z => by
        rw [hb2.mpr z] at eb; cases eb
      unfold hands at hm
      rw [show Nat.beq n m = false from by
        cases q : Nat.beq n m with
        | false => rfl
        | true => exact absurd (Nat.eq_of_beq_eq_true q) en] at hm
      exact ih E R hE hm
  | @nunAs x n0 s' i m np p1 p2 p3 p4 pos' j1 j2 j3 hds hs l C hC hc hi hl hb r ih =>
    intro n fs r' F' B' H' σ' ds' cls dd cs' E R hE hm
    obtain ⟨⟨h1, hnn⟩, h2⟩ := id hE
    obtain ⟨b, hb1, hb2⟩ := hap n m C hC (by rw [← h1]; exact hnn)
    refine ⟨b, by rw [h1, ← hC]; exact hb1, fun eb a na => ?_, fun eb => ?_⟩
    · have en := hb2.mp eb
      subst en
      unfold hands at hm
      rw [show Nat.beq n n = true from Nat.beq_refl n] at hm
      dsimp only at hm
      refine ⟨by show 2 ≤ sizeLine; decide, fun p hp => ?_⟩
      obtain ⟨R2, E2⟩ := RL.newF (o := .tup [.str s', .non]) R hp trivial
      show D.rt (.ref p) ((σ'.set i (some (.ref a))).set i none) _
      rw [List.set_set]
      exact s.2.1 _ _ _ _ _ _ _ _ _ (E.trans E2) (RL.slotF R2 hb) (.tup upd_same (.cons (.str s') (.cons .non .nil))) hm
    · have en : n ≠ m := fun z => by
        rw [hb2.mpr z] at eb; cases eb
      unfold hands at hm
      rw [show Nat.beq n m = false from by
        cases q : Nat.beq n m with
        | false => rfl
        | true => exact absurd (Nat.eq_of_beq_eq_true q) en] at hm
      exact ih E R hE hm
theorem RL.cx {G : Gs} {T : List NTab} {X X' : Cx} {bx : List Nat} {r : Nat → Option Addr} {F B H : Hp} {σ : L2.St} {ds : Env} {cs : Cs} (R : RL G T X bx r F B σ H ds cs) (hk : X'.K = X.K) (hN : X'.N = X.N) (hE : X'.env.cells = X.env.cells) : RL G T X' bx r F B σ H ds cs := by
  have e : ∀ i, bAddr X' i = bAddr X i := fun i => by unfold bAddr; rw [hN, hE]
  have eo : ownB X' bx = ownB X bx := by
    funext a
    apply propext
    exact ⟨fun ⟨i, hi, h⟩ => ⟨i, hi, by rw [← e]; exact h⟩, fun ⟨i, hi, h⟩ => ⟨i, hi, by rw [e]; exact h⟩⟩
  exact ⟨by rw [eo]; exact R.rc, R.slot, fun i hi => by rw [e]; exact R.boxs i hi, fun i hi j hj a h1 h2 => R.binj i hi j hj a (by rw [← e]; exact h1) (by rw [← e]; exact h2), R.len, R.kf.trans hk.symm⟩
theorem tS_cx {c : Cxt} {X X' : Cx} {m : MS} {D : Ends2} {σ : L2.St} {H : Hp} (h : tS c X m D σ H) (hk : X'.K = X.K) (hN : X'.N = X.N) (hE : X'.env.cells = X.env.cells) : tS c X' m D σ H := by
  obtain ⟨r, F, B, ds, cs, k, x, hm, R, s1, s2, s3, s4, s5⟩ := h
  exact ⟨r, F, B, ds, cs, k, x, hm, R.cx hk hN hE, fun r' F' B' H' σ' ds' cs' E R' => s1 r' F' B' H' σ' ds' cs' E (RL.cx R' hk.symm hN.symm hE.symm), fun r' F' B' H' σ' ds' cs' v d E R' => s2 r' F' B' H' σ' ds' cs' v d E (RL.cx R' hk.symm hN.symm hE.symm),
    fun r' F' B' H' σ' ds' cs' E R' => s3 r' F' B' H' σ' ds' cs' E (RL.cx R' hk.symm hN.symm hE.symm), fun r' F' B' H' σ' ds' cs' E R' => s4 r' F' B' H' σ' ds' cs' E (RL.cx R' hk.symm hN.symm hE.symm),
    fun n fs r' F' B' H' σ' ds' cls dd cs' E R' => s5 n fs r' F' B' H' σ' ds' cls dd cs' E (RL.cx R' hk.symm hN.symm hE.symm)⟩
theorem Bod.try_ {k : Nat} {W : WX} {pn : List (Addr × Obj)} {xe : Value → Shared → Prop} (bd : Bod c X k) (tk : Takes (X.tr pn xe) W) (pas : PassesOwn (model X.prog X.w) X.A X.env xe) : Bod { c with W := W } (X.tr pn xe) k :=
  ⟨⟨bd.calm, bd.nd, bd.room, tk, ⟨bd.own.nb, bd.own.nf, bd.own.kb⟩⟩, bd.stk, bd.fr, pas⟩
theorem xs_try {k : Nat} {body : List Stmt} {h₀ : ExceptHandler} {pos : Pos} {mb : MS} (bd : Bod c X k) (hap : ClsApart c X) (hb : ∀ (W : WX) (pn : List (Addr × Obj)) (xe : Value → Shared → Prop), Bod { c with W := W } (X.tr pn xe) k → XSs { c with W := W } (X.tr pn xe) body mb)
    (hh : HdsX c X (h₀ :: hds) hs l) : XS c X (.Try body (h₀ :: hds) [] [] pos) (sTry mb hs) := by
  refine ps_imp (ps2_try (tb := fun W => tS { c with W := W } X mb) bd.stk bd.fr bd.nd bd.tk (fun W pn xe tk pas => ?_) hh.ok) fun D σ H ⟨r, F, B, ds, cs, k, x, hm, R, s⟩ => ?_
  · exact pss_imp (hb W pn xe (bd.try_ tk pas)) fun D σ H h => tS_cx h rfl rfl rfl
  · exact ⟨r, F, B, ds, cs, k, _, hm, R, s.1, s.2.1, s.2.2.1, s.2.2.2.1, fun n fs r' F' B' H' σ' ds' cls dd cs' E R' hE h' => hands_ok s hap hh E R' hE h'⟩
end
end Ev

set_option Elab.async false
set_option linter.all false
set_option maxRecDepth 100000
set_option maxHeartbeats 2000000
/-! Ev14: what a loop walks; for, while -/
namespace Ev
open PySem PySem.Spec PyProof.Rows L2 LamX NdefX

/-- an iterator: items known; the list cell n, from its i-th; numbers; two in step -/
inductive Itr where
  | fz (us : List D)
  | lv (n i : Nat)
  | rg (lo : Int) (n : Nat)
  | zp (a b : Itr)
  | en (i : Nat) (a : Itr)
def nthD : List D → Nat → Bool → (D → Bool) → Bool
  | [], _, s, _ => s
  | d :: _, 0, _, k => k d
  | _ :: r, n + 1, s, k => nthD r n s k
theorem nthD_ok : ∀ {us : List D} {i : Nat} {s : Bool} {k : D → Bool}, nthD us i s k = true → (us.length ≤ i ∧ s = true) ∨ ∃ d, us[i]? = some d ∧ k d = true
  | [], _, _, _, h => .inl ⟨Nat.zero_le _, h⟩
  | d :: _, 0, _, _, h => .inr ⟨d, rfl, h⟩
  | _ :: r, n + 1, s, k, h => by
    rcases nthD_ok (us := r) (i := n) h with ⟨h1, h2⟩ | ⟨d, h1, h2⟩
    · exact .inl ⟨Nat.succ_le_succ h1, h2⟩
    · exact .inr ⟨d, by simpa using h1, h2⟩
def nxI : Itr → Cs → Bool → (D → Itr → Bool) → Bool
  | .fz [], _, s, _ => s
  | .fz (d :: us), _, _, g => g d (.fz us)
  | .lv n i, cs, s, g => getC cs.l n fun q => match q with
    | .lst xs => nthD xs i s fun d => fNat (i + 1) fun j => g d (.lv n j)
    | _ => false
  | .rg lo n, _, s, g => (match n with
    | 0 => s
    | n + 1 => fInt lo fun i => fInt (i + 1) fun j => g (.int i) (.rg j n))
  | .zp a b, cs, s, g => nxI a cs (nxI b cs s fun _ _ => s) fun d a' => nxI b cs s fun d' b' => g (.tup [d, d']) (.zp a' b')
  | .en i a, cs, s, g => nxI a cs s fun d a' => fNat (i + 1) fun j => g (.tup [.int (.ofNat i), d]) (.en j a')
abbrev MI := Cal → Env → Cs → (Itr → Cs → Bool) → KX → Bool
/-- what J walks is what it walks -/
structure Wk (c : Cxt) (J : It) (P : Nat → Itr → (Nat → Option Addr) → Hp → Prop) : Prop where
  step : ∀ i it r F B H cs s g own, P i it r F → RC c.G c.T own r F B H cs → nxI it cs s g = true → (s = true ∧ J.stop i H) ∨ (J.go i H ∧ ∃ d it', g d it' = true ∧ ∀ x H', J.yld i H x H' → ∃ F', (H' = H ∧ F' = F ∨ ∃ p o, H p = none ∧ PlainO o ∧ H' = upd H p o ∧ F' = upd F p o) ∧ Rep c.G r F' x d ∧ P (i + 1) it' r F')
  ext : ∀ i it r F B r' F' B', P i it r F → Ext r F B r' F' B' → P i it r' F'
section
variable (c : Cxt) (X : Cx)
def tI (m : MI) : TI := fun σ H R => ∃ r F B ds cs K x, m c.cal ds cs K x = true ∧ RS c X r F B σ H ds cs ∧
  (∀ r' F' B' H' J P it cs', Ext r F B r' F' B' → RS c X r' F' B' σ H' ds cs' → Wk c J P → P 0 it r' F' → K it cs' = true → R J H') ∧ Xok c X r F B σ ds x
def XI (tg iter : Expr) (m : MI) : Prop := PI X tg iter (tI c X m)
end
section
variable {c : Cxt} {X : Cx} {r : Nat → Option Addr} {F B H : Hp} {σ : L2.St} {ds : Env} {cs : Cs} {tg e : Expr} {m : ME} {pos p : Pos}
theorem RL.step {G : Gs} {T : List NTab} {bx : List Nat} {H' F' : Hp} (R : RL G T X bx r F B σ H ds cs) (h : H' = H ∧ F' = F ∨ ∃ p o, H p = none ∧ PlainO o ∧ H' = upd H p o ∧ F' = upd F p o) : RL G T X bx r F' B σ H' ds cs ∧ Ext r F B r F' B := by
  rcases h with ⟨e1, e2⟩ | ⟨p, o, h1, h2, e1, e2⟩
  · subst e1 e2
    exact ⟨R, Ext.refl _ _ _⟩
  · subst e1 e2
    exact RL.newF R h1 h2
theorem pi_imp {t t' : TI} (h : PI X tg e t) (i : ∀ σ H R, t' σ H R → t σ H R) : PI X tg e t' := ⟨fun pins s σ H R I q => h.run pins s σ H R I (i σ H R q)⟩
/-- a list or a tuple -/
def iSq (K : PySem.W.Frag) (tl : TE) : TI := fun σ H R => tl σ H fun x H1 => ∃ a, x = .ref a ∧ (((∃ xs, SqL K H1 a xs) ∧ R (Itl K a) H1) ∨ ((∃ xs, SqT K H1 a xs) ∧ R (Itt K a) H1))
theorem pi_sq {tl : TE} (hl : PE X e tl) : PI X tg e (iSq X.K tl) := by
  refine ⟨fun pins s σ H R I h => ?_⟩
  refine thn (hl.run pins s σ H _ I h) fun v s1 ⟨x, H1, I1, r1, q1⟩ => ?_
  obtain ⟨a, e, q⟩ := q1
  subst e
  cases r1
  have fp : ∀ b ∈ [s1.heap.objs.size], FpOk X pins H1 b := fun b hb => by
    have e : b = s1.heap.objs.size := by simpa using hb
    subst e
    exact I1.fpOk (Nat.le_refl _) (I1.hok.fresh (Nat.le_refl _))
  rcases q with ⟨⟨xs, hq⟩, q⟩ | ⟨⟨xs, hq⟩, q⟩
  · obtain ⟨its, rv, p, hz⟩ := I1.list hq
    refine wpAny_pyIter_list p.isList ?_
    exact ⟨s1.heap.objs.size, [s1.heap.objs.size], _, _, H1, rfl, I1.kept (t' := s1.toks) fun b o e => Heap.get?_push_of_some _ e, turn_list a _, ⟨_, Heap.get?_push_size _ rfl, rfl, rfl⟩, fp, q⟩
  · obtain ⟨its, rv, p, hz⟩ := I1.tuple hq
    refine wpAny_pyIter_tuple (show s1.heap.IsTuple a its.toArray from p) ?_
    exact ⟨s1.heap.objs.size, [s1.heap.objs.size], _, _, H1, rfl, I1.kept (t' := s1.toks) fun b o e => Heap.get?_push_of_some _ e, turn_tuple a _, ⟨_, Heap.get?_push_size _ rfl, rfl, rfl⟩, fp, q⟩
/-- what stands in a sequence, looked at -/
structure Lk (c : Cxt) (Sq : Hp → List V → Prop) (P : Nat → Itr → (Nat → Option Addr) → Hp → Prop) : Prop where
  look : ∀ i it r F B H cs s g own, P i it r F → RC c.G c.T own r F B H cs → nxI it cs s g = true → ∃ vs, Sq H vs ∧ ((s = true ∧ vs.length ≤ i) ∨ ∃ x d it', vs[i]? = some x ∧ Rep c.G r F x d ∧ g d it' = true ∧ P (i + 1) it' r F)
  ext : ∀ i it r F B r' F' B', P i it r F → Ext r F B r' F' B' → P i it r' F'
theorem lk_fz {Sq : Hp → List V → Prop} {a : Addr} {o : List V → HO} (hs : ∀ H vs, H a = some (o vs) → Sq H vs) : Lk c Sq (fun i it r F => ∃ vs us, F a = some (o vs) ∧ Reps c.G r F vs us ∧ it = .fz (us.drop i)) := by
  refine ⟨fun i it r F B H cs s g own hP R hm => ?_, fun i it r F B r' F' B' hP E => ?_⟩
  · obtain ⟨vs, us, h1, h2, h3⟩ := hP
    subst h3
    refine ⟨vs, hs _ _ (R.subF _ _ h1), ?_⟩
    cases e : us.drop i with
    | nil =>
      rw [e] at hm
      have hl : us.length ≤ i := List.drop_eq_nil_iff.mp e
      exact .inl ⟨hm, by rw [h2.length]; exact hl⟩
    | cons d us' =>
      rw [e] at hm
      have hd : us[i]? = some d := by
        have := congrArg List.head? e
        rw [List.head?_drop] at this
        exact this
      have hr : us.drop (i + 1) = us' := by
        have := congrArg List.tail e
        rw [List.tail_drop] at this
        exact this
      obtain ⟨v, q1, q2⟩ := h2.get hd
      exact .inr ⟨v, d, _, q1, q2, hm, vs, us, h1, h2, by rw [hr]⟩
  · obtain ⟨vs, us, h1, h2, h3⟩ := hP
    exact ⟨vs, us, E.F _ _ h1, h2.ext E, h3⟩
abbrev PL (c : Cxt) (a : Addr) : Nat → Itr → (Nat → Option Addr) → Hp → Prop := fun i it r F => (∃ vs us, F a = some (.lst vs) ∧ Reps c.G r F vs us ∧ it = .fz (us.drop i)) ∨ ∃ n, it = .lv n i ∧ r n = some a
abbrev PT_ (c : Cxt) (a : Addr) : Nat → Itr → (Nat → Option Addr) → Hp → Prop := fun i it r F => ∃ vs us, TAt c.G F a vs ∧ Reps c.G r F vs us ∧ it = .fz (us.drop i)
theorem lk_lst {K : PySem.W.Frag} (a : Addr) : Lk c (fun H vs => SqL K H a vs) (PL c a) := by
  have z := lk_fz (c := c) (Sq := fun H vs => SqL K H a vs) (a := a) (o := .lst) fun _ _ h => SqL.of h
  refine ⟨fun i it r F B H cs s g own hP R hm => ?_, fun i it r F B r' F' B' hP E => ?_⟩
  · rcases hP with hP | ⟨n, h1, h2⟩
    · obtain ⟨vs, q1, q2⟩ := z.look _ _ _ _ _ _ _ _ _ _ hP R hm
      exact ⟨vs, q1, q2.imp id fun ⟨x, d, it', w1, w2, w3, w4⟩ => ⟨x, d, it', w1, w2, w3, .inl w4⟩⟩
    · subst h1
      unfold nxI at hm
      obtain ⟨q, q1, q2⟩ := getC_true hm
      split at q2
      · rename_i xs
        obtain ⟨a', vs, z1, z2, z3, z4⟩ := R.cell _ _ q1
        rw [h2] at z1; cases z1
        refine ⟨vs, SqL.of z3, ?_⟩
        rcases nthD_ok q2 with ⟨w1, w2⟩ | ⟨d, w1, w2⟩
        · exact .inl ⟨w2, by rw [z4.length]; exact w1⟩
        · rw [fNat_eq] at w2
          obtain ⟨v, y1, y2⟩ := z4.get w1
          exact .inr ⟨v, d, _, y1, y2, w2, .inr ⟨n, rfl, h2⟩⟩
      · cases q2
  · rcases hP with hP | ⟨n, h1, h2⟩
    · exact .inl (z.ext _ _ _ _ _ _ _ _ hP E)
    · exact .inr ⟨n, h1, E.r _ _ h2⟩
theorem lk_tup {K : PySem.W.Frag} (hK : c.G.Kf = K) (a : Addr) : Lk c (fun H vs => SqT K H a vs) (PT_ c a) := by
  refine ⟨fun i it r F B H cs s g own hP R hm => ?_, fun i it r F B r' F' B' ⟨vs, us, h1, h2, h3⟩ E => ⟨vs, us, h1.mono E.F, h2.ext E, h3⟩⟩
  obtain ⟨vs, us, h1, h2, h3⟩ := hP
  subst h3
  refine ⟨vs, (h1.mono R.subF).sq hK, ?_⟩
  cases e : us.drop i with
  | nil =>
    rw [e] at hm
    exact .inl ⟨hm, by rw [h2.length]; exact List.drop_eq_nil_iff.mp e⟩
  | cons d us' =>
    rw [e] at hm
    have hd : us[i]? = some d := by
      have := congrArg List.head? e
      rw [List.head?_drop] at this
      exact this
    have hr : us.drop (i + 1) = us' := by
      have := congrArg List.tail e
      rw [List.tail_drop] at this
      exact this
    obtain ⟨v, q1, q2⟩ := h2.get hd
    exact .inr ⟨v, d, _, q1, q2, hm, vs, us, h1, h2, by rw [hr]⟩
theorem wk_lst {K : PySem.W.Frag} (a : Addr) : Wk c (Itl K a) (PL c a) := ⟨fun i it r F B H cs s g own hP R hm => by
  obtain ⟨vs, hs, h⟩ := (lk_lst (K := K) a).look _ _ _ _ _ _ _ _ _ _ hP R hm
  rcases h with ⟨h1, h2⟩ | ⟨x, d, it', h1, h2, h3, h4⟩
  · exact .inl ⟨h1, vs, hs, h2⟩
  · refine .inr ⟨⟨vs, x, hs, h1⟩, d, it', h3, fun y H' hy => ?_⟩
    obtain ⟨e1, e2⟩ := hy
    have := e2 vs hs
    rw [h1] at this; cases this
    exact ⟨F, .inl ⟨e1, rfl⟩, h2, h4⟩, (lk_lst (K := K) a).ext⟩
theorem wk_tup {K : PySem.W.Frag} (hK : c.G.Kf = K) (a : Addr) : Wk c (Itt K a) (PT_ c a) := ⟨fun i it r F B H cs s g own hP R hm => by
  obtain ⟨vs, hs, h⟩ := (lk_tup hK a).look _ _ _ _ _ _ _ _ _ _ hP R hm
  rcases h with ⟨h1, h2⟩ | ⟨x, d, it', h1, h2, h3, h4⟩
  · exact .inl ⟨h1, vs, hs, h2⟩
  · refine .inr ⟨⟨vs, x, hs, h1⟩, d, it', h3, fun y H' hy => ?_⟩
    obtain ⟨e1, e2⟩ := hy
    have := e2 vs hs
    rw [h1] at this; cases this
    exact ⟨F, .inl ⟨e1, rfl⟩, h2, h4⟩, (lk_tup hK a).ext⟩
/-- two in step -/
theorem wk_zip {J : It} {Sa Sb : Hp → List V → Prop} {Pa Pb : Nat → Itr → (Nat → Option Addr) → Hp → Prop} (la : Lk c Sa Pa) (lb : Lk c Sb Pb)
    (hgo : ∀ i H xs ys x y, Sa H xs → Sb H ys → xs[i]? = some x → ys[i]? = some y → J.go i H) (hst : ∀ i H xs ys, Sa H xs → Sb H ys → (xs.length ≤ i ∨ ys.length ≤ i) → J.stop i H)
    (hy : ∀ i H v H' xs ys x y, Sa H xs → Sb H ys → xs[i]? = some x → ys[i]? = some y → J.yld i H v H' → ∃ T, v = .ref T ∧ H T = none ∧ H' = upd H T (.tup [x, y])) :
    Wk c J (fun i it r F => ∃ a b, it = .zp a b ∧ Pa i a r F ∧ Pb i b r F) := by
  refine ⟨fun i it r F B H cs s g own hP R hm => ?_, fun i it r F B r' F' B' ⟨a, b, e, h1, h2⟩ E => ⟨a, b, e, la.ext _ _ _ _ _ _ _ _ h1 E, lb.ext _ _ _ _ _ _ _ _ h2 E⟩⟩
  obtain ⟨a, b, e, h1, h2⟩ := hP
  subst e
  unfold nxI at hm
  obtain ⟨xs, hx, h⟩ := la.look _ _ _ _ _ _ _ _ _ _ h1 R hm
  rcases h with ⟨h3, h4⟩ | ⟨x, d, a', q1, q2, q3, q4⟩
  · obtain ⟨ys, hys, h5⟩ := lb.look _ _ _ _ _ _ _ _ _ _ h2 R h3
    refine .inl ⟨?_, hst i H xs ys hx hys (.inl h4)⟩
    rcases h5 with ⟨z, _⟩ | ⟨_, _, _, _, _, z, _⟩ <;> exact z
  · obtain ⟨ys, hys, h5⟩ := lb.look _ _ _ _ _ _ _ _ _ _ h2 R q3
    rcases h5 with ⟨z1, z2⟩ | ⟨y, d', b', w1, w2, w3, w4⟩
    · exact .inl ⟨z1, hst i H xs ys hx hys (.inr z2)⟩
    · refine .inr ⟨hgo i H xs ys x y hx hys q1 w1, _, _, w3, fun v H' hv => ?_⟩
      obtain ⟨T, e1, e2, e3⟩ := hy i H v H' xs ys x y hx hys q1 w1 hv
      subst e1
      have E := ext_newF (r := r) (F := F) (B := B) (o := .tup [x, y]) (R.freeF e2)
      exact ⟨_, .inr ⟨T, .tup [x, y], e2, trivial, e3, rfl⟩, .tup upd_same (.cons (q2.ext E) (.cons (w2.ext E) .nil)), _, _, rfl, la.ext _ _ _ _ _ _ _ _ q4 E, lb.ext _ _ _ _ _ _ _ _ w4 E⟩
def itOf (d : D) (cs : Cs) (k : Bool → Itr → Bool) : Bool := match d with
  | .lst us => k false (.fz us)
  | .tup us => k true (.fz us)
  | .cel n => getC cs.l n fun q => match q with
    | .lst _ => k false (.lv n 0)
    | _ => false
  | _ => false
theorem itOf_ok {v : V} {d : D} {k : Bool → Itr → Bool} {own : Addr → Prop} (R : RC c.G c.T own r F B H cs) (hv : Rep c.G r F v d) (h : itOf d cs k = true) :
    ∃ a it vs, v = .ref a ∧ ((k false it = true ∧ H a = some (.lst vs) ∧ PL c a 0 it r F) ∨ (k true it = true ∧ TAt c.G H a vs ∧ PT_ c a 0 it r F)) := by
  unfold itOf at h
  split at h
  · cases hv with
    | @lst a vs _ q hs => exact ⟨a, _, vs, rfl, .inl ⟨h, R.subF _ _ q, .inl ⟨vs, _, q, hs, rfl⟩⟩⟩
  · obtain ⟨a, vs, ev, q, hs⟩ := hv.tupI
    exact ⟨a, _, vs, ev, .inr ⟨h, q.mono R.subF, vs, _, q, hs, rfl⟩⟩
  · obtain ⟨q, q1, q2⟩ := getC_true h
    split at q2
    · cases hv with
      | cel hr =>
        obtain ⟨a', vs, z1, z2, z3, z4⟩ := R.cell _ _ q1
        exact ⟨a', _, vs, by rw [hr] at z1; cases z1; rfl, .inl ⟨q2, z3, .inr ⟨_, rfl, z1⟩⟩⟩
    · cases q2
  · cases h
def iSeq (a : ME) : MI := fun f e cs k x => a f e cs (fun d cs1 => itOf d cs1 fun _ it => k it cs1) x
theorem xi_seq (h : XE c X e m) : XI c X tg e (iSeq m) := pi_imp (pi_sq h) fun σ H Rr ⟨r, F, B, ds, cs, K, x, hm, R, k, xk⟩ => by
  refine tE.of hm R (fun r1 F1 B1 H1 v d cs1 E1 R1 hv h1 => ?_) xk
  obtain ⟨a, it, vs, ev, h2⟩ := itOf_ok R1.rc hv h1
  rcases h2 with ⟨h2, h3, h4⟩ | ⟨h2, h3, h4⟩
  · exact ⟨a, ev, .inl ⟨⟨vs, SqL.of h3⟩, k _ _ _ _ _ _ _ _ E1 R1 (wk_lst a) h4 h2⟩⟩
  · exact ⟨a, ev, .inr ⟨⟨vs, h3.sq R1.kf⟩, k _ _ _ _ _ _ _ _ E1 R1 (wk_tup R1.kf a) h4 h2⟩⟩
/-- zip of two lists, of two tuples -/
def iZip (a : MA) : MI := fun f e cs k x => a f e cs (fun us cs1 => match us with
  | [d, d'] => itOf d cs1 fun t it => itOf d' cs1 fun t' it' => (match t, t' with
    | true, true => k (.zp it it') cs1
    | false, false => k (.zp it it') cs1
    | _, _ => false)
  | _ => false) x
theorem xi_zip {e2 : Expr} {ma : MA} {elts : List Expr} {kk : Nat} {tpos : Pos} (hg : Gl X "zip") (hm : X.mg "zip" = none) (ha : XA c X [e, e2] ma)
    (hs : starEach [e, e2] X.env = (false, eval e X.env) :: starEach [e2] X.env := by rfl) (hpl : (backTo pos (starEach [e2] X.env)).any (·.1) = false := by rfl) :
    XI c X (.Tuple elts kk tpos) (.Call (.Name "zip" p) [e, e2] [] pos) (iZip ma) := pi_imp (RZ.pi_zipA hg hm ha hs hpl) fun σ H Rr ⟨r, F, B, ds, cs, K, x, hm, R, k, xk⟩ => by
  refine tA.of hm R (fun r1 F1 B1 H1 vs us cs1 E1 R1 hvs h1 => ?_) xk
  split at h1
  · cases hvs with
    | cons hv1 t => cases t with
      | cons hv2 t =>
        cases t
        obtain ⟨a, it, xs, ev, h2⟩ := itOf_ok R1.rc hv1 h1
        subst ev
        rcases h2 with ⟨h2, h3, h4⟩ | ⟨h2, h3, h4⟩
        · obtain ⟨b, it', ys, ev, h5⟩ := itOf_ok R1.rc hv2 h2
          subst ev
          rcases h5 with ⟨h5, h6, h7⟩ | ⟨h5, h6, h7⟩
          · refine ⟨a, b, xs, ys, rfl, .inl ⟨SqL.of h3, SqL.of h6, k _ _ _ _ _ _ _ _ E1 R1 (wk_zip (lk_lst (K := X.K) a) (lk_lst (K := X.K) b) (fun i H xs ys x y q1 q2 q3 q4 => ⟨xs, ys, x, y, q1, q2, q3, q4⟩) (fun i H xs ys q1 q2 q3 => ⟨xs, ys, q1, q2, q3⟩) fun i H v H' xs ys x y q1 q2 q3 q4 q5 => ?_) ⟨it, it', rfl, h4, h7⟩ h5⟩⟩
            obtain ⟨T, x', y', w1, w2, w3, w4, w5⟩ := q5
            have e1 := w4 xs q1
            have e2 := w5 ys q2
            rw [q3] at e1; rw [q4] at e2
            cases e1; cases e2
            exact ⟨T, w1, w2, w3⟩
          · cases h5
        · obtain ⟨b, it', ys, ev, h5⟩ := itOf_ok R1.rc hv2 h2
          subst ev
          rcases h5 with ⟨h5, h6, h7⟩ | ⟨h5, h6, h7⟩
          · cases h5
          · refine ⟨a, b, xs, ys, rfl, .inr ⟨h3.sq R1.kf, h6.sq R1.kf, k _ _ _ _ _ _ _ _ E1 R1 (wk_zip (lk_tup R1.kf a) (lk_tup R1.kf b) (fun i H xs ys x y q1 q2 q3 q4 => ⟨xs, ys, x, y, q1, q2, q3, q4⟩) (fun i H xs ys q1 q2 q3 => ⟨xs, ys, q1, q2, q3⟩) fun i H v H' xs ys x y q1 q2 q3 q4 q5 => ?_) ⟨it, it', rfl, h4, h7⟩ h5⟩⟩
            obtain ⟨T, x', y', w1, w2, w3, w4, w5⟩ := q5
            have e1 := w4 xs q1
            have e2 := w5 ys q2
            rw [q3] at e1; rw [q4] at e2
            cases e1; cases e2
            exact ⟨T, w1, w2, w3⟩
  · cases h1
/-- enumerate of a list -/
theorem wk_enum {K : PySem.W.Frag} {a : Addr} : Wk c (Ite K a) (fun i it r F => ∃ b, it = .en i b ∧ PL c a i b r F) := by
  refine ⟨fun i it r F B H cs s g own hP R hm => ?_, fun i it r F B r' F' B' ⟨b, e, h⟩ E => ⟨b, e, (lk_lst (K := K) a).ext _ _ _ _ _ _ _ _ h E⟩⟩
  obtain ⟨b, e, h1⟩ := hP
  subst e
  unfold nxI at hm
  obtain ⟨xs, hx, h⟩ := (lk_lst (K := K) a).look _ _ _ _ _ _ _ _ _ _ h1 R hm
  rcases h with ⟨h3, h4⟩ | ⟨x, d, a', q1, q2, q3, q4⟩
  · exact .inl ⟨h3, xs, hx, h4⟩
  · rw [fNat_eq] at q3
    refine .inr ⟨⟨xs, x, hx, q1⟩, _, _, q3, fun v H' hv => ?_⟩
    obtain ⟨T, x', e1, e2, e3, e4⟩ := hv
    have e5 := e4 xs hx
    rw [q1] at e5; cases e5
    subst e1
    have E := ext_newF (r := r) (F := F) (B := B) (o := .tup [.int (i : Nat), x]) (R.freeF e2)
    exact ⟨_, .inr ⟨T, .tup [.int (i : Nat), x], e2, trivial, e3, rfl⟩, .tup upd_same (.cons (.int _) (.cons (q2.ext E) .nil)), _, rfl, (lk_lst (K := K) a).ext _ _ _ _ _ _ _ _ q4 E⟩
def iEnumM (a : MA) : MI := fun f e cs k x => a f e cs (fun us cs1 => match us with
  | [d] => itOf d cs1 fun t it => (match t with
    | true => false
    | false => k (.en 0 it) cs1)
  | _ => false) x
theorem xi_enum {ma : MA} {elts : List Expr} {kk : Nat} {tpos : Pos} (hg : Gl X "enumerate") (hm : X.mg "enumerate" = none) (ha : XA c X [e] ma) (hs : starEach [e] X.env = [(false, eval e X.env)] := by rfl) :
    XI c X (.Tuple elts kk tpos) (.Call (.Name "enumerate" p) [e] [] pos) (iEnumM ma) := pi_imp (pi_enum hg hm ha hs) fun σ H Rr ⟨r, F, B, ds, cs, K, x, hm, R, k, xk⟩ => by
  refine tA.of hm R (fun r1 F1 B1 H1 vs us cs1 E1 R1 hvs h1 => ?_) xk
  split at h1
  · cases hvs with
    | cons hv t =>
      cases t
      obtain ⟨a, it, xs, ev, h2⟩ := itOf_ok R1.rc hv h1
      subst ev
      rcases h2 with ⟨h2, h3, h4⟩ | ⟨h2, h3, h4⟩
      · exact ⟨a, xs, rfl, SqL.of h3, k _ _ _ _ _ _ _ _ E1 R1 wk_enum ⟨it, rfl, h4⟩ h2⟩
      · cases h2
  · cases h1
/-- range(n), range(i, j) -/
theorem wk_rng (lo : Int) (n : Nat) : Wk c (L2.Itr lo n) (fun i it _ _ => i ≤ n ∧ it = .rg (lo + i) (n - i)) := by
  refine ⟨fun i it r F B H cs s g own hP R hm => ?_, fun i it r F B r' F' B' hP E => hP⟩
  obtain ⟨h1, h2⟩ := hP
  subst h2
  unfold nxI at hm
  split at hm
  · rename_i q
    exact .inl ⟨hm, by show n ≤ i; omega⟩
  · rename_i j q
    rw [fInt_eq, fInt_eq] at hm
    refine .inr ⟨by show i < n; omega, _, _, hm, fun x H' hy => ?_⟩
    obtain ⟨e1, e2⟩ := hy
    subst e2
    exact ⟨F, .inl ⟨e1, rfl⟩, .int _, by omega, by rw [show n - (i + 1) = j from by omega, show lo + (↑(i + 1) : Int) = lo + ↑i + 1 from by omega]⟩
def inR (j : Int) : Bool := Nat.ble j.natAbs 1000000
theorem inR_ok {j : Int} (h : inR j = true) : -(2 ^ 62) ≤ j ∧ j < 2 ^ 62 := by
  have h := Nat.le_of_ble_eq_true h
  have : (2 : Int) ^ 62 = 4611686018427387904 := by decide
  omega
def iRange1 (a : MA) : MI := fun f e cs k x => a f e cs (fun us cs1 => match us with
  | [.int j] => (match inR j with
    | true => fNat j.toNat fun n => k (.rg 0 n) cs1
    | false => false)
  | _ => false) x
def iRange2 (a : MA) : MI := fun f e cs k x => a f e cs (fun us cs1 => match us with
  | [.int i, .int j] => (match inR i && inR j with
    | true => fNat (j - i).toNat fun n => k (.rg i n) cs1
    | false => false)
  | _ => false) x
theorem xi_range1 {ma : MA} (hg : Gl X "range") (hm : X.mg "range" = none) (ha : XA c X [e] ma) (hs : starEach [e] X.env = [(false, eval e X.env)] := by rfl) : XI c X tg (.Call (.Name "range" p) [e] [] pos) (iRange1 ma) :=
  pi_imp (pi_range1 hg hm ha hs) fun σ H Rr ⟨r, F, B, ds, cs, K, x, hm, R, k, xk⟩ => by
    refine tA.of hm R (fun r1 F1 B1 H1 vs us cs1 E1 R1 hvs h1 => ?_) xk
    split at h1
    · split at h1
      · rename_i q
        rw [fNat_eq] at h1
        cases hvs with
        | cons hv t =>
          cases t
          obtain ⟨q1, q2⟩ := inR_ok q
          have e := hv.int_inv
          subst e
          exact ⟨_, rfl, q1, q2, k _ _ _ _ _ _ _ _ E1 R1 (wk_rng 0 _) ⟨Nat.zero_le _, by simp⟩ h1⟩
      · cases h1
    · cases h1
theorem xi_range2 {e2 : Expr} {ma : MA} (hg : Gl X "range") (hm : X.mg "range" = none) (ha : XA c X [e, e2] ma) (hs : starEach [e, e2] X.env = [(false, eval e X.env), (false, eval e2 X.env)] := by rfl) (hs2 : starEach [e2] X.env = [(false, eval e2 X.env)] := by rfl) :
    XI c X tg (.Call (.Name "range" p) [e, e2] [] pos) (iRange2 ma) :=
  pi_imp (pi_range2 hg hm ha hs hs2) fun σ H Rr ⟨r, F, B, ds, cs, K, x, hm, R, k, xk⟩ => by
    refine tA.of hm R (fun r1 F1 B1 H1 vs us cs1 E1 R1 hvs h1 => ?_) xk
    split at h1
    · split at h1
      · rename_i q
        obtain ⟨qa, qb⟩ := Bool.and_eq_true_iff.mp q
        rw [fNat_eq] at h1
        cases hvs with
        | cons hv t => cases t with
          | cons hv2 t =>
            cases t
            obtain ⟨q1, q2⟩ := inR_ok qa
            obtain ⟨q3, q4⟩ := inR_ok qb
            have e := hv.int_inv
            subst e
            have e := hv2.int_inv
            subst e
            exact ⟨_, _, rfl, ⟨q1, q2, q3, q4⟩, k _ _ _ _ _ _ _ _ E1 R1 (wk_rng _ _) ⟨Nat.zero_le _, by simp⟩ h1⟩
      · cases h1
    · cases h1
/-! ### for -/
def loopF (g : MG) (b : MS) (f : Cal) (k : KS) (x : KXs) : Nat → Itr → Env → Cs → Bool
  | 0, _, _, _ => false
  | n + 1, it, e, cs => nxI it cs (k.nx e cs) fun d it' => g d f e cs (fun e1 cs1 => b f e1 cs1 ⟨fun e2 cs2 => loopF g b f k x n it' e2 cs2, k.rt, k.nx, fun e2 cs2 => loopF g b f k x n it' e2 cs2⟩ x) fun n fs cs1 => x n fs e cs1
def sFor (fu : Nat) (mi : MI) (g : MG) (b : MS) : MS := fun f e cs k x => mi f e cs (fun it cs1 => loopF g b f k x fu it e cs1) fun n fs cs1 => x n fs e cs1
theorem xs_for {k : Nat} (fu : Nat) {body : List Stmt} {mi : MI} {g : MG} {b : MS} (bd : Bod c X k) (hi : XI c X tg e mi) (hg : XG c X tg g) (hb : XSs c X body b) (hs : ∀ x, foldedSetIterable e X.env x = pure x := by intro _; rfl) :
    XS c X (.For tg e body [] pos) (sFor fu mi g b) := by
  refine ps_imp (ps2_for bd.pas bd.calm hi hg hb hs) fun D σ H ⟨r, F, B, ds, cs, k, x, hm, R, s⟩ => ?_
  refine ⟨r, F, B, ds, cs, _, _, hm, R, fun r1 F1 B1 H1 J P it cs1 E1 R1 wk hP h1 => ?_, XSok.at_ s.2.2.2.2 _ _⟩
  refine ⟨fun i n σ H => ∃ r F B ds cs it, Ext r1 F1 B1 r F B ∧ RS c X r F B σ H ds cs ∧ P i it r F ∧ loopF g b c.cal k x n it ds cs = true, ⟨fu, r1, F1, B1, ds, cs1, it, Ext.refl _ _ _, R1, hP, h1⟩, ?_⟩
  rintro i n σ H ⟨r2, F2, B2, ds2, cs2, it, E2, R2, hP2, h2⟩
  have s2 := Sok.ext s (E1.trans E2)
  cases n with
  | zero => cases h2
  | succ n =>
    unfold loopF at h2
    rcases wk.step i it _ _ _ _ _ _ _ _ hP2 R2.rc h2 with ⟨q1, q2⟩ | ⟨q1, d, it', q2, q3⟩
    · exact .inl ⟨q2, s2.1 _ _ _ _ _ _ _ (Ext.refl _ _ _) R2 q1⟩
    · refine .inr ⟨q1, fun σ' H' => ∃ r F B ds cs, Ext r1 F1 B1 r F B ∧ RS c X r F B σ' H' ds cs ∧ P (i + 1) it' r F ∧ loopF g b c.cal k x n it' ds cs = true, fun σ' H' ⟨r, F, B, ds, cs, a1, a2, a3, a4⟩ => ⟨n, Nat.lt_succ_self _, r, F, B, ds, cs, it', a1, a2, a3, a4⟩, fun v H' hy => ?_⟩
      obtain ⟨F3, hst, hv, hP3⟩ := q3 v H' hy
      obtain ⟨R3, E3⟩ := R2.step hst
      refine ⟨r2, F3, B2, ds2, cs2, d, _, _, q2, R3, hv, fun r4 F4 B4 H4 σ4 ds4 cs4 E4 R4 h4 => ?_, XSok.at_ (XSok.ext s2.2.2.2.2 E3) _ _⟩
      have E34 := E3.trans E4
      refine tS.of h4 R4 ⟨fun r5 F5 B5 H5 σ5 ds5 cs5 E5 R5 h5 => ⟨r5, F5, B5, ds5, cs5, (E2.trans E34).trans E5, R5, wk.ext _ _ _ _ _ _ _ _ hP3 (E4.trans E5), h5⟩, Rok.ext s2.2.1 E34, Nok.ext s2.1 E34,
        fun r5 F5 B5 H5 σ5 ds5 cs5 E5 R5 h5 => ⟨r5, F5, B5, ds5, cs5, (E2.trans E34).trans E5, R5, wk.ext _ _ _ _ _ _ _ _ hP3 (E4.trans E5), h5⟩, XSok.ext s2.2.2.2.2 E34⟩
/-! ### while -/
def loopW (t : MT) (b : MS) (f : Cal) (k : KS) (x : KXs) : Nat → Env → Cs → Bool
  | 0, _, _ => false
  | n + 1, e, cs => t f e cs (fun q cs1 => match q with
    | true => b f e cs1 ⟨fun e2 cs2 => loopW t b f k x n e2 cs2, k.rt, k.nx, fun e2 cs2 => loopW t b f k x n e2 cs2⟩ x
    | false => k.nx e cs1) fun n fs cs1 => x n fs e cs1
def sWhile (fu : Nat) (t : MT) (b : MS) : MS := fun f e cs k x => loopW t b f k x fu e cs
theorem xs_while {k : Nat} (fu : Nat) {t : Expr} {body : List Stmt} {mt : MT} {b : MS} (bd : Bod c X k) (ht : XT c X t mt) (hb : XSs c X body b) : XS c X (.While t body [] pos) (sWhile fu mt b) := by
  refine ps_imp (ps2_while bd.pas ht hb) fun D σ H ⟨r, F, B, ds, cs, k, x, hm, R, s⟩ => ?_
  refine ⟨fun n σ H => ∃ r1 F1 B1 ds cs, Ext r F B r1 F1 B1 ∧ RS c X r1 F1 B1 σ H ds cs ∧ loopW mt b c.cal k x n ds cs = true, ⟨fu, r, F, B, ds, cs, Ext.refl _ _ _, R, hm⟩, ?_⟩
  rintro n σ H ⟨r2, F2, B2, ds2, cs2, E2, R2, h2⟩
  have s2 := Sok.ext s E2
  cases n with
  | zero => cases h2
  | succ n =>
    unfold loopW at h2
    refine tT.of h2 R2 (fun r3 F3 B3 H3 q cs3 E3 R3 h3 => ?_) (XSok.at_ s2.2.2.2.2 _ _)
    cases q with
    | true =>
      rw [if_pos rfl]
      refine ⟨fun σ' H' => ∃ r1 F1 B1 ds cs, Ext r F B r1 F1 B1 ∧ RS c X r1 F1 B1 σ' H' ds cs ∧ loopW mt b c.cal k x n ds cs = true, fun σ' H' q => ⟨n, Nat.lt_succ_self _, q⟩, ?_⟩
      exact tS.of h3 R3 ⟨fun r5 F5 B5 H5 σ5 ds5 cs5 E5 R5 h5 => ⟨r5, F5, B5, ds5, cs5, (E2.trans E3).trans E5, R5, h5⟩, Rok.ext s2.2.1 E3, Nok.ext s2.1 E3,
        fun r5 F5 B5 H5 σ5 ds5 cs5 E5 R5 h5 => ⟨r5, F5, B5, ds5, cs5, (E2.trans E3).trans E5, R5, h5⟩, XSok.ext s2.2.2.2.2 E3⟩
    | false =>
      rw [if_neg Bool.false_ne_true]
      exact s2.1 _ _ _ _ _ _ _ E3 R3 h3
end
end Ev

set_option Elab.async false
set_option linter.all false
set_option maxRecDepth 100000
set_option maxHeartbeats 2000000
/-! Ev15: list comprehensions -/
namespace Ev
open PySem PySem.Spec PyProof.Rows L2 LamX NdefX

def wipeL (e : Env) : List Nat → Env
  | [] => e
  | v :: vs => (wipeL e vs).set v none
def wipeE (e : Env) : List Nat → (Env → Bool) → Bool
  | [], k => k e
  | v :: vs, k => wipeE e vs fun e' => setE e' v none k
theorem wipeE_eq (e : Env) : ∀ (vs : List Nat) (k : Env → Bool), wipeE e vs k = k (wipeL e vs)
  | [], _ => rfl
  | v :: vs, k => by
    unfold wipeE wipeL
    rw [wipeE_eq e vs]
    exact setE_eq _ _ _ _
theorem wipe_set_mem {σ : L2.St} {i : Nat} {o : Option V} : ∀ {vs : List Nat}, i ∈ vs → wipe (σ.set i o) vs = wipe σ vs
  | v :: vs, h => by
    unfold wipe
    by_cases e : i ∈ vs
    · rw [wipe_set_mem e]
    · have ev : i = v := (List.mem_cons.mp h).resolve_right e
      subst ev
      have : ∀ (vs : List Nat) (σ : L2.St), i ∉ vs → wipe (σ.set i o) vs = (wipe σ vs).set i o := fun vs => by
        induction vs with
        | nil => intro σ _; rfl
        | cons w ws ih =>
          intro σ hn
          unfold wipe
          rw [ih σ (fun z => hn (List.mem_cons_of_mem _ z))]
          exact List.set_comm _ _ (fun z => hn (by rw [z]; exact List.mem_cons_self))
      rw [this vs σ e, List.set_set]
section
variable {c : Cxt} {X : Cx} {r r' : Nat → Option Addr} {F B F' B' H H' : Hp} {σ : L2.St} {ds : Env} {cs cs' : Cs} {p : Addr}
theorem RL.wipe {G : Gs} {T : List NTab} (R : RL G T X [] r F B σ H ds cs) : ∀ vs : List Nat, RL G T X [] r F B (L2.wipe σ vs) H (wipeL ds vs) cs
  | [] => R
  | v :: vs => RL.slotF (RL.wipe R vs) (by simp)
theorem RL.nilX {G : Gs} {T : List NTab} {X' : Cx} (hk : X'.K = X.K) (R : RL G T X [] r F B σ H ds cs) : RL G T X' [] r F B σ H ds cs :=
  ⟨by rw [noOwn_nil]; have q := R.rc; rw [noOwn_nil] at q; exact q, R.slot, fun i hi => absurd hi (by simp), fun i hi => absurd hi (by simp), R.len, R.kf.trans hk.symm⟩
/-- a list that grows, known to nobody else -/
theorem RC.newAcc {G : Gs} {T : List NTab} {own : Addr → Prop} (R : RC G T own r F B H cs) (hp : H p = none) (hb : ∀ a, own a → a ≠ p) : RC G T own r F (upd B p (.lst [])) (upd H p (.lst [])) cs := by
  have keep : ∀ b o', H b = some o' → upd H p (.lst []) b = some o' := fun b o' e => by rw [upd_ne (ne_of_none e hp)]; exact e
  have live : ∀ n a, r n = some a → a ≠ p := fun n a h e => by
    rcases R.rng n a h with z | z
    · rw [e] at z; exact z hp
    · exact hb a z e
  have E : Ext r F B r F (upd B p (.lst [])) := ⟨fun _ _ h => h, fun _ _ h => h, fun a o h => by rw [upd_ne (ne_of_none h (R.freeB hp))]; exact h⟩
  refine ⟨fun a o h => keep a o (R.subF a o h), fun a o h => ?_, R.plF, fun a o h => ?_, R.inj, fun n a h => (R.rng n a h).imp (fun z => some_keep keep z) id, R.fresh, R.dec, R.lt, fun n c h => ?_, R.tabs.ext keep, fun a o h => ?_, fun n a vs h => ?_⟩
  · by_cases e : a = p
    · rw [e, upd_same] at h ⊢; exact h
    · rw [upd_ne e] at h; exact keep a o (R.subB a o h)
  · by_cases e : a = p
    · rw [e, upd_same] at h; cases h; exact .inr ⟨[], rfl⟩
    · rw [upd_ne e] at h; exact R.frB a o h
  · exact (R.cell n c h).stay E (fun _ z => z) (fun a h1 h2 vs _ h3 => ⟨⟨h2.1, by rw [upd_ne (ne_of_none h3 hp)]; exact h2.2⟩, keep a _ h3⟩) fun _ z => z
  · by_cases e : a = p
    · rw [e]; exact R.freeF hp
    · rw [upd_ne e] at h; exact R.dj a o h
  · rw [upd_ne (live n a h)]; exact R.rb n a vs h
theorem RC.setAcc {G : Gs} {T : List NTab} {own : Addr → Prop} {vs ws : List V} (R : RC G T own r F B H cs) (hB : B p = some (.lst vs)) : RC G T own r F (upd B p (.lst ws)) (upd H p (.lst ws)) cs := by
  have hH := R.subB _ _ hB
  have hF := R.dj _ _ hB
  have live : ∀ n a, r n = some a → a ≠ p := fun n a h e => by rw [e] at h; exact R.rb n p vs h hB
  refine ⟨fun a o h => ?_, fun a o h => ?_, R.plF, fun a o h => ?_, R.inj, fun n a h => (R.rng n a h).imp (fun z => by rw [upd_ne (live n a h)]; exact z) id, R.fresh, R.dec, R.lt, fun n ce h => ?_, tabs_upd R.tabs hH, fun a o h => ?_, fun n a us h => ?_⟩
  · rw [upd_ne (fun e => by rw [e, hF] at h; cases h)]; exact R.subF a o h
  · by_cases e : a = p
    · rw [e, upd_same] at h ⊢; exact h
    · rw [upd_ne e] at h ⊢; exact R.subB a o h
  · by_cases e : a = p
    · rw [e, upd_same] at h; cases h; exact .inr ⟨_, rfl⟩
    · rw [upd_ne e] at h; exact R.frB a o h
  · have k := R.cell n ce h
    cases ce with
    | lst xs =>
      obtain ⟨a, us, h1, h2, h3, h4⟩ := k
      have e := live n a h1
      exact ⟨a, us, h1, ⟨h2.1, by rw [upd_ne e]; exact h2.2⟩, by rw [upd_ne e]; exact h3, h4⟩
    | raw =>
      obtain ⟨a, ns, h1, h2, h3⟩ := k
      have e := live n a h1
      exact ⟨a, ns, h1, ⟨h2.1, by rw [upd_ne e]; exact h2.2⟩, by rw [upd_ne e]; exact h3⟩
    | strm m j =>
      obtain ⟨a, b, x, y, z, h1, h2, h3, h4, h5⟩ := k
      have e := live n a h1
      exact ⟨a, b, x, y, z, h1, ⟨h2.1, by rw [upd_ne e]; exact h2.2⟩, h3, by rw [upd_ne e]; exact h4, h5⟩
    | kd ys =>
      obtain ⟨a, ks, h1, h2, h3, h4⟩ := k
      have e := live n a h1
      exact ⟨a, ks, h1, ⟨h2.1, by rw [upd_ne e]; exact h2.2⟩, by rw [upd_ne e]; exact h3, h4⟩
    | box od =>
      rcases k with ⟨a, h1, z⟩ | ⟨a, ob, h1, h2, h3⟩
      · exact .inl ⟨a, h1, z⟩
      · exact .inr ⟨a, ob, h1, by rw [upd_ne (live n a h1)]; exact h2, h3⟩
  · by_cases e : a = p
    · rw [e]; exact hF
    · rw [upd_ne e] at h; exact R.dj a o h
  · rw [upd_ne (live n a h)]; exact R.rb n a us h
/-- .. is done: a frozen list -/
theorem RC.accF {G : Gs} {T : List NTab} {own : Addr → Prop} {vs : List V} (R : RC G T own r F (upd B p (.lst vs)) H cs) (hB : B p = none) : RC G T own r (upd F p (.lst vs)) B H cs := by
  have hH := R.subB p _ upd_same
  have sub : ∀ a o, B a = some o → upd B p (.lst vs) a = some o := fun a o h => by rw [upd_ne (ne_of_none h hB)]; exact h
  have live : ∀ n a, r n = some a → a ≠ p := fun n a h e => by rw [e] at h; exact R.rb n p vs h upd_same
  refine ⟨fun a o h => ?_, fun a o h => R.subB a o (sub a o h), fun a o h => ?_, fun a o h => R.frB a o (sub a o h), R.inj, R.rng, R.fresh, R.dec, R.lt, fun n ce h => ?_, R.tabs, fun a o h => ?_, fun n a us h z => R.rb n a us h (sub a _ z)⟩
  · by_cases e : a = p
    · rw [e, upd_same] at h; cases h; rw [e]; exact hH
    · rw [upd_ne e] at h; exact R.subF a o h
  · by_cases e : a = p
    · rw [e, upd_same] at h; cases h; trivial
    · rw [upd_ne e] at h; exact R.plF a o h
  · have E : Ext r F (fun _ => none) r (upd F p (.lst vs)) (fun _ => none) := ext_newF (R.dj p _ upd_same)
    have k := R.cell n ce h
    cases ce with
    | lst xs =>
      obtain ⟨a, us, h1, h2, h3, h4⟩ := k
      have e := live n a h1
      exact ⟨a, us, h1, ⟨by rw [upd_ne e]; exact h2.1, by have := h2.2; rw [upd_ne e] at this; exact this⟩, h3, h4.ext E⟩
    | raw =>
      obtain ⟨a, ns, h1, h2, h3⟩ := k
      have e := live n a h1
      exact ⟨a, ns, h1, ⟨by rw [upd_ne e]; exact h2.1, by have := h2.2; rw [upd_ne e] at this; exact this⟩, h3⟩
    | strm m j =>
      obtain ⟨a, b, x, y, z, h1, h2, h3, h4, h5⟩ := k
      have e := live n a h1
      exact ⟨a, b, x, y, z, h1, ⟨by rw [upd_ne e]; exact h2.1, by have := h2.2; rw [upd_ne e] at this; exact this⟩, h3, h4, h5⟩
    | kd ys =>
      obtain ⟨a, ks, h1, h2, h3, h4⟩ := k
      have e := live n a h1
      exact ⟨a, ks, h1, ⟨by rw [upd_ne e]; exact h2.1, by have := h2.2; rw [upd_ne e] at this; exact this⟩, h3, h4.ext E⟩
    | box od =>
      rcases k with ⟨a, h1, z⟩ | ⟨a, ob, h1, h2, h3⟩
      · exact .inl ⟨a, h1, z⟩
      · exact .inr ⟨a, ob, h1, by rw [upd_ne (live n a h1)] at h2; exact h2, h3.ext E⟩
  · rw [upd_ne (fun e => by rw [e, hB] at h; cases h)]
    exact R.dj a o (sub a o h)
/-- .. is done: a cell -/
theorem RC.accC {G : Gs} {T : List NTab} {own : Addr → Prop} {vs : List V} {xs : List D} (R : RC G T own r F (upd B p (.lst vs)) H cs) (hB : B p = none) (hs : Reps G r F vs xs) :
    RC G T own (updR r cs.nx p) F B H ⟨cs.nx + 1, (cs.nx, .lst xs) :: cs.l⟩ ∧ Ext r F B (updR r cs.nx p) F B := by
  have hH := R.subB p _ upd_same
  have sub : ∀ a o, B a = some o → upd B p (.lst vs) a = some o := fun a o h => by rw [upd_ne (ne_of_none h hB)]; exact h
  have live : ∀ n a, r n = some a → a ≠ p := fun n a h e => by rw [e] at h; exact R.rb n p vs h upd_same
  have E : Ext r F B (updR r cs.nx p) F B := ⟨fun n a h => by rw [updR_ne p (fun e => by rw [e, R.fresh _ (Nat.le_refl _)] at h; cases h)]; exact h, fun _ _ h => h, fun _ _ h => h⟩
  refine ⟨⟨R.subF, fun a o h => R.subB a o (sub a o h), R.plF, fun a o h => R.frB a o (sub a o h), fun n m a h3 h4 => ?_, fun n a h => ?_, fun n h => ?_, ?_, fun n c h => ?_, fun n c h => ?_, R.tabs, fun a o h => R.dj a o (sub a o h), fun n a us h z => ?_⟩, E⟩
  · by_cases en : n = cs.nx
    · by_cases em : m = cs.nx
      · rw [en, em]
      · rw [en, updR_same] at h3; cases h3
        rw [updR_ne p em] at h4
        exact absurd rfl (live m p h4)
    · rw [updR_ne p en] at h3
      by_cases em : m = cs.nx
      · rw [em, updR_same] at h4; cases h4
        exact absurd rfl (live n p h3)
      · rw [updR_ne p em] at h4
        exact R.inj n m a h3 h4
  · by_cases en : n = cs.nx
    · rw [en, updR_same] at h
      cases h
      exact .inl (by rw [hH]; exact fun z => nomatch z)
    · rw [updR_ne p en] at h
      exact R.rng n a h
  · have h : cs.nx + 1 ≤ n := h
    rw [updR_ne p (by omega)]
    exact R.fresh n (by omega)
  · show (cs.nx :: cs.l.map (·.1)).Pairwise (· > ·)
    refine List.pairwise_cons.mpr ⟨fun m hm => ?_, R.dec⟩
    obtain ⟨c', e'⟩ := mem_lookupN hm
    exact R.lt _ _ e'
  · rw [get_cons] at h
    show n < cs.nx + 1
    by_cases en : n = cs.nx
    · omega
    · rw [if_neg en] at h
      have := R.lt n c h
      omega
  · rw [get_cons] at h
    by_cases en : n = cs.nx
    · rw [if_pos en] at h
      cases h
      rw [en]
      exact ⟨p, vs, updR_same _ _, ⟨R.dj p _ upd_same, hB⟩, hH, hs.ext E⟩
    · rw [if_neg en] at h
      have k := R.cell n c h
      cases c with
      | lst xs =>
        obtain ⟨a, us, h1, h2, h3, h4⟩ := k
        have e := live n a h1
        exact ⟨a, us, E.r _ _ h1, ⟨h2.1, by have := h2.2; rw [upd_ne e] at this; exact this⟩, h3, h4.ext E⟩
      | raw =>
        obtain ⟨a, ns, h1, h2, h3⟩ := k
        have e := live n a h1
        exact ⟨a, ns, E.r _ _ h1, ⟨h2.1, by have := h2.2; rw [upd_ne e] at this; exact this⟩, h3⟩
      | strm m j =>
        obtain ⟨a, b, x, y, z, h1, h2, h3, h4, h5, h6⟩ := k
        have e := live n a h1
        exact ⟨a, b, x, y, z, E.r _ _ h1, ⟨h2.1, by have := h2.2; rw [upd_ne e] at this; exact this⟩, E.r _ _ h3, h4, by rw [get_cons, if_neg (fun e => by rw [e] at h5; exact absurd (R.lt _ _ h5) (Nat.lt_irrefl _))]; exact h5, h6⟩
      | kd ys =>
        obtain ⟨a, ks, h1, h2, h3, h4⟩ := k
        have e := live n a h1
        exact ⟨a, ks, E.r _ _ h1, ⟨h2.1, by have := h2.2; rw [upd_ne e] at this; exact this⟩, h3, h4.ext E⟩
      | box od =>
        rcases k with ⟨a, h1, z⟩ | ⟨a, ob, h1, h2, h3⟩
        · exact .inl ⟨a, E.r _ _ h1, z⟩
        · exact .inr ⟨a, ob, E.r _ _ h1, by rw [upd_ne (live n a h1)] at h2; exact h2, h3.ext E⟩
  · by_cases en : n = cs.nx
    · rw [en, updR_same] at h
      cases h
      rw [hB] at z; cases z
    · rw [updR_ne p en] at h
      exact R.rb n a us h (sub a _ z)
end
/-! ### targets of a block: they set nothing but the block's own -/
section
variable (c : Cxt) (X : Cx)
def Nokw (vs : List Nat) (σ : L2.St) (r : Nat → Option Addr) (F B : Hp) (k : Env → Cs → Bool) (Q : L2.St → Hp → Prop) : Prop :=
  ∀ r' F' B' H' σ' ds' cs', Ext r F B r' F' B' → RS c X r' F' B' σ' H' ds' cs' → wipe σ' vs = wipe σ vs → k ds' cs' = true → Q σ' H'
def tGw (vs : List Nat) (m : MG) : TG := fun v σ H Q => ∃ r F B ds cs d k, m d c.cal ds cs k (fun _ _ _ => false) = true ∧ RS c X r F B σ H ds cs ∧ Rep c.G r F v d ∧ Nokw c X vs σ r F B k Q
def XGw (vs : List Nat) (e : Expr) (m : MG) : Prop := PG X e (tGw c X vs m)
def tGsw (vs : List Nat) (m : MGs) : TGs := fun us σ H Q => ∃ r F B ds cs zs k, m zs c.cal ds cs k (fun _ _ _ => false) = true ∧ RS c X r F B σ H ds cs ∧ Reps c.G r F us zs ∧ Nokw c X vs σ r F B k Q
def XGsw (vs : List Nat) (es : List Expr) (m : MGs) : Prop := PGs X es (tGsw c X vs m)
end
section
variable {c : Cxt} {X : Cx} {e : Expr} {pos : Pos} {vs : List Nat}
theorem xgw_var {i : Nat} {y : Str} (hN : X.N.Nodup) (hi : X.N[i]? = some y) (hx : Loc X.env.scope y) (hf : X.fn y = true ∨ X.env.scope.names.lookup y = some .local) (hv : i ∈ vs) (hb : i ∉ c.bx) : XGw c X vs (.Name y pos) (gVar i) :=
  pg_imp (pg_name hN hi hx hf) fun v σ H Q ⟨r, F, B, ds, cs, d, k, hm, R, hr, n⟩ => by
    unfold gVar at hm
    rw [setE_eq] at hm
    exact n _ _ _ _ _ _ _ (Ext.refl _ _ _) (RL.set R hb hr) (wipe_set_mem hv) hm
theorem xgsw_nil : XGsw c X vs [] gsNil := pgs_imp pgs_nil fun us σ H Q ⟨r, F, B, ds, cs, zs, k, hm, R, hv, n⟩ => by
  cases hv with
  | nil => exact ⟨rfl, n _ _ _ _ _ _ _ (Ext.refl _ _ _) R rfl hm⟩
  | cons _ _ => cases hm
theorem xgsw_cons {es : List Expr} {g : MG} {gs : MGs} (h1 : XGw c X vs e g) (h2 : XGsw c X vs es gs) (hs : (assignEach (e :: es) X.env).map (·.2) = assign e X.env :: (assignEach es X.env).map (·.2) := by rfl) : XGsw c X vs (e :: es) (gsCons g gs) :=
  pgs_imp (pgs_cons h1 h2 hs) fun us σ H Q ⟨r, F, B, ds, cs, zs, k, hm, R, hv, n⟩ => by
    cases hv with
    | nil => cases hm
    | cons h t =>
      refine ⟨_, _, rfl, r, F, B, ds, cs, _, _, hm, R, h, fun r' F' B' H' σ' ds' cs' E R' hw h' => ?_⟩
      exact ⟨r', F', B', ds', cs', _, _, h', R', t.ext E, fun r2 F2 B2 H2 σ2 ds2 cs2 E2 R2 hw2 h2 => n _ _ _ _ _ _ _ (E.trans E2) R2 (hw2.trans hw) h2⟩
theorem xgw_tup {es : List Expr} {kk n : Nat} {g : MGs} (hc : X.calm = true) (h : XGsw c X vs es g) (hn : (assignEach es X.env).length = n := by rfl) (hst : (assignEach es X.env).findIdx? (·.1) = none := by rfl) : XGw c X vs (.Tuple es kk pos) (gTupM n g) :=
  pg_imp (pg_tup hc h hn hst) fun v σ H Q ⟨r, F, B, ds, cs, d, k, hm, R, hv, nk⟩ => by
    unfold gTupM at hm
    split at hm
    · split at hm
      · rename_i q
        obtain ⟨a, vs, ev, h1, hs⟩ := hv.tupI
        exact ⟨a, vs, ev, (h1.mono R.rc.subF).sq R.kf, by rw [hs.length]; exact Nat.eq_of_beq_eq_true q, r, F, B, ds, cs, _, k, hm, R, hs, nk⟩
      · cases hm
    · cases hm
end
/-! ### the comprehension -/
def revK : List D → List D → (List D → Bool) → Bool
  | [], r, k => k r
  | d :: ds, r, k => revK ds (d :: r) k
theorem revK_eq : ∀ (xs ys : List D) (k : List D → Bool), revK xs ys k = k (xs.reverse ++ ys)
  | [], _, _ => rfl
  | d :: ds, r, k => by unfold revK; rw [revK_eq ds]; simp
def loopL (g : MG) (t : MT) (a : ME) (f : Cal) (e : Env) (k : List D → Cs → Bool) : Nat → Itr → Cs → List D → Bool
  | 0, _, _, _ => false
  | n + 1, it, cs, acc => nxI it cs (k acc cs) fun d it' => g d f e cs (fun e1 cs1 => t f e1 cs1 (fun q cs2 => match q with
    | true => a f e1 cs2 (fun y cs3 => loopL g t a f e k n it' cs3 (y :: acc)) fun _ _ _ => false
    | false => loopL g t a f e k n it' cs2 acc) fun _ _ _ => false) fun _ _ _ => false
def mLc (pol : Bool) (fu : Nat) (vs : List Nat) (mi : MI) (g : MG) (t : MT) (a : ME) : ME := fun f e cs k x => mi f e cs (fun it cs1 => wipeE e vs fun ew => loopL g t a f ew (fun acc cs2 => revK acc [] fun xs => newL pol xs cs2 k) fu it cs1 []) x
def tYesM : MT := fun _ _ cs k _ => k true cs
/-- the block's own context -/
abbrev Cxt.blk (c : Cxt) : Cxt := { c with W := fun _ _ _ _ => False }
def XTs (c : Cxt) (X : Cx) (ifs : List Expr) (m : MT) : Prop := PTs X ifs (tT c X m)
section
variable {c : Cxt} {X : Cx} {e : Expr} {pos : Pos} {vs : List Nat}
theorem xts_nil : XTs c X [] tYesM := ⟨fun pins s σ H Q I ⟨r, F, B, ds, cs, K, x, hm, R, k, xk⟩ => pts_nil.run pins s σ H Q I (k _ _ _ _ _ _ (Ext.refl _ _ _) R hm)⟩
theorem xts_one {m : MT} (h : XT c X e m) : XTs c X [e] m := pts_one h
theorem lc_read {G : Gs} {r : Nat → Option Addr} {F B H : Hp} {σ : L2.St} {ds : Env} {cs : Cs} {K : KE} {x : KX} {Q : VK} {mi : MI} {g : MG} {t : MT} {a : ME} {pol : Bool} {fu : Nat} {cb : Cxt} {Y : Cx} (hYK : Y.K = X.K) (hbx : c.bx = []) (hcb : cb = c.blk) (hfu : fu ≤ 1000000)
    (hm : mLc pol fu vs mi g t a c.cal ds cs K x = true) (R : RS c X r F B σ H ds cs)
    (kk : ∀ r' F' B' H' v d cs', Ext r F B r' F' B' → RS c X r' F' B' σ H' ds cs' → Rep c.G r' F' v d → K d cs' = true → Q v H') (xk : Xok c X r F B σ ds x) :
    tLc (tI c X mi) (tGw cb Y vs g) (tT cb Y t) (tE cb Y a) vs σ H Q := by
  subst hcb
  refine ⟨r, F, B, ds, cs, _, x, hm, R, fun r1 F1 B1 H1 J P it cs1 E1 R1 wk hP h1 => ?_, xk⟩
  rw [wipeE_eq] at h1
  intro D hD
  have R1' : RL c.G c.T X [] r1 F1 B1 σ H1 ds cs1 := by have q : RL c.G c.T X c.bx r1 F1 B1 σ H1 ds cs1 := R1; rw [hbx] at q; exact q
  have no : ∀ p : Addr, ∀ a, ownB X [] a → a ≠ p := fun p a ⟨i, hi, _⟩ => absurd hi (by simp)
  have BD : B1 D = none := R1.rc.freeB hD
  -- the state at a turn
  refine ⟨fun i n H => ∃ r2 F2 Bm cs2 it acc av, Bm D = none ∧ Ext r1 F1 B1 r2 F2 Bm ∧ RL c.G c.T Y [] r2 F2 (upd Bm D (.lst av)) (wipe σ vs) H (wipeL ds vs) cs2 ∧ Reps c.G r2 F2 av acc.reverse ∧ P i it r2 F2 ∧ acc.length + n ≤ fu ∧
    loopL g t a c.cal (wipeL ds vs) (fun acc cs2 => revK acc [] fun xs => newL pol xs cs2 K) n it cs2 acc = true, ⟨fu, r1, F1, B1, cs1, it, [], [], BD, Ext.refl _ _ _, ?_, .nil, hP, by simp, h1⟩, ?_⟩
  · have w := (RL.nilX (X' := Y) hYK R1').wipe vs
    refine ⟨?_, fun i d hi h => ?_, fun i hi => absurd hi (by simp), fun i hi => absurd hi (by simp), w.len, w.kf⟩
    · rw [noOwn_nil]
      have q := R1'.rc
      rw [noOwn_nil] at q
      exact q.newAcc hD (fun _ z => z.elim)
    · exact w.slot i d hi h
  rintro i n H ⟨r2, F2, Bm, cs2, it, acc, av, hBm, E2, R2, hav, hP2, hlen, h2⟩
  cases n with
  | zero => cases h2
  | succ n =>
    unfold loopL at h2
    rcases wk.step i it _ _ _ _ _ _ _ _ hP2 R2.rc h2 with ⟨q1, q2⟩ | ⟨q1, d, it', q2, q3⟩
    · refine .inl ⟨q2, ?_⟩
      rw [revK_eq, List.append_nil] at q1
      have rc := R2.rc
      rw [noOwn_nil] at rc
      have fin : ∀ {r3 F3 B3 cs3}, Ext r1 F1 B1 r3 F3 B3 → RC c.G c.T noOwn r3 F3 B3 H cs3 → RS c X r3 F3 B3 σ H ds cs3 := fun {r3 F3 B3 cs3} E3 rc3 => by
        show RL c.G c.T X c.bx r3 F3 B3 σ H ds cs3
        rw [hbx]
        exact ⟨by rw [noOwn_nil]; exact rc3, fun i d hi h => by
          obtain ⟨v, w1, w2⟩ := R1'.slot i d hi h
          exact ⟨v, w1, w2.ext E3⟩, fun i hi => absurd hi (by simp), fun i hi => absurd hi (by simp), R1'.len, R1'.kf⟩
      cases pol with
      | false =>
        have rc3 := rc.accF hBm
        have Ef : Ext r2 F2 Bm r2 (upd F2 D (.lst av)) Bm := ext_newF (rc.dj D _ upd_same)
        exact kk _ _ _ _ _ _ _ ((E1.trans E2).trans Ef) (fin (E2.trans Ef) rc3) (.lst upd_same (hav.ext Ef)) q1
      | true =>
        unfold newL at q1
        dsimp only at q1
        rw [fNat_eq] at q1
        obtain ⟨rc3, Ef⟩ := rc.accC hBm hav
        exact kk _ _ _ _ _ _ _ ((E1.trans E2).trans Ef) (fin (E2.trans Ef) rc3) (.cel (updR_same _ _)) q1
    · refine .inr ⟨q1, fun H' => ∃ r2 F2 Bm cs2 acc av, Bm D = none ∧ Ext r1 F1 B1 r2 F2 Bm ∧ RL c.G c.T Y [] r2 F2 (upd Bm D (.lst av)) (wipe σ vs) H' (wipeL ds vs) cs2 ∧ Reps c.G r2 F2 av acc.reverse ∧ P (i + 1) it' r2 F2 ∧ acc.length + n ≤ fu ∧
        loopL g t a c.cal (wipeL ds vs) (fun acc cs2 => revK acc [] fun xs => newL pol xs cs2 K) n it' cs2 acc = true, fun H' ⟨r3, F3, B3, cs3, acc3, av3, z⟩ => ⟨n, Nat.lt_succ_self _, r3, F3, B3, cs3, it', acc3, av3, z⟩, fun v H' hy => ?_⟩
      obtain ⟨F3, hst, hv, hP3⟩ := q3 v H' hy
      obtain ⟨R3, E3⟩ := R2.step hst
      have R3b : RS c.blk Y r2 F3 (upd Bm D (.lst av)) (wipe σ vs) H' (wipeL ds vs) cs2 := by
        show RL c.G c.T Y c.bx _ _ _ _ _ _ _
        rw [hbx]; exact R3
      -- what is known behind the turn's parts
      have next : ∀ {r4 F4 B4 H4 cs4 acc4 av4}, Ext r2 F3 (upd Bm D (.lst av)) r4 F4 B4 → RL c.G c.T Y [] r4 F4 (upd B4 D (.lst av4)) (wipe σ vs) H4 (wipeL ds vs) cs4 → Reps c.G r4 F4 av4 acc4.reverse → acc4.length + n ≤ fu →
          loopL g t a c.cal (wipeL ds vs) (fun acc cs2 => revK acc [] fun xs => newL pol xs cs2 K) n it' cs4 acc4 = true →
          ∃ r2 F2 Bm cs2 acc av, Bm D = none ∧ Ext r1 F1 B1 r2 F2 Bm ∧ RL c.G c.T Y [] r2 F2 (upd Bm D (.lst av)) (wipe σ vs) H4 (wipeL ds vs) cs2 ∧ Reps c.G r2 F2 av acc.reverse ∧ P (i + 1) it' r2 F2 ∧ acc.length + n ≤ fu ∧
            loopL g t a c.cal (wipeL ds vs) (fun acc cs2 => revK acc [] fun xs => newL pol xs cs2 K) n it' cs2 acc = true := fun {r4 F4 B4 H4 cs4 acc4 av4} E4 R4 hr hl hloop => by
        have eB : upd (fun b => if b = D then none else B4 b) D (.lst av4) = upd B4 D (.lst av4) := by
          funext b
          unfold upd
          by_cases e : b = D
          · rw [if_pos e, if_pos e]
          · rw [if_neg e, if_neg e]; exact if_neg e
        refine ⟨r4, F4, fun b => if b = D then none else B4 b, cs4, acc4, av4, if_pos rfl, ⟨fun m b h => E4.r _ _ (E2.r _ _ h), fun b o h => E4.F _ _ (E3.F _ _ (E2.F _ _ h)), fun b o h => ?_⟩, by rw [eB]; exact R4, hr, wk.ext _ _ _ _ _ _ _ _ hP3 E4, hl, hloop⟩
        have ne : b ≠ D := ne_of_none h BD
        show (if b = D then none else B4 b) = some o
        rw [if_neg ne]
        exact E4.B b o (by rw [upd_ne ne]; exact E2.B b o h)
      refine ⟨r2, F3, _, _, cs2, d, _, q2, R3b, hv, fun r4 F4 B4 H4 σ4 ds4 cs4 E4 R4 hw4 h4 => ?_⟩
      have hw4 : wipe σ4 vs = wipe σ vs := by
        have ww : wipe (wipe σ vs) vs = wipe σ vs := by
          have gen : ∀ (us : List Nat), (∀ u ∈ us, u ∈ vs) → wipe (wipe σ vs) us = wipe σ vs := fun us => by
            induction us with
            | nil => intro _; rfl
            | cons u us ih =>
              intro hu
              show (wipe (wipe σ vs) us).set u none = _
              rw [ih fun z hz => hu z (List.mem_cons_of_mem _ hz)]
              have : ∀ (vs : List Nat), u ∈ vs → (wipe σ vs).set u none = wipe σ vs := fun vs => by
                induction vs with
                | nil => intro h; cases h
                | cons w ws ih2 =>
                  intro h
                  show ((wipe σ ws).set w none).set u none = (wipe σ ws).set w none
                  by_cases e : u = w
                  · rw [e, List.set_set]
                  · rw [List.set_comm _ _ (Ne.symm e), ih2 ((List.mem_cons.mp h).resolve_left e)]
              exact this vs (hu u List.mem_cons_self)
          exact gen vs fun _ z => z
        exact hw4.trans ww
      refine ⟨hw4, ?_⟩
      have nox : ∀ {r F B σ ds}, Xok c.blk Y r F B σ ds fun _ _ _ => false := fun {r F B σ ds} => Xok.no
      refine ⟨r4, F4, B4, ds4, cs4, _, _, h4, R4, fun r5 F5 B5 H5 q cs5 E5 R5 h5 => ?_, nox⟩
      have toW : ∀ {r6 F6 B6 H6 cs6}, RS c.blk Y r6 F6 B6 σ4 H6 ds4 cs6 → Ext r2 F3 (upd Bm D (.lst av)) r6 F6 B6 → RL c.G c.T Y [] r6 F6 B6 (wipe σ vs) H6 (wipeL ds vs) cs6 := fun {r6 F6 B6 H6 cs6} R6 E6 => by
        have q : RL c.G c.T Y c.bx r6 F6 B6 σ4 H6 ds4 cs6 := R6
        rw [hbx] at q
        exact ⟨q.rc, fun i d hi h => by
          obtain ⟨v, w1, w2⟩ := R3.slot i d hi h
          exact ⟨v, w1, w2.ext E6⟩, fun i hi => absurd hi (by simp), fun i hi => absurd hi (by simp), R3.len, R3.kf⟩
      cases q with
      | true =>
        dsimp only
        rw [if_pos rfl]
        refine ⟨r5, F5, B5, ds4, cs5, _, _, h5, R5, fun r6 F6 B6 H6 y yd cs6 E6 R6 hy6 h6 => ?_, nox⟩
        have E36 := (E4.trans E5).trans E6
        have hB6 : B6 D = some (.lst av) := E36.B D _ upd_same
        have R6' := toW R6 E36
        refine ⟨av, R6'.rc.subB _ _ hB6, ?_, ?_⟩
        · rw [sizeLine_eq, hav.length, List.length_reverse]; omega
        · refine next (acc4 := yd :: acc) (av4 := av ++ [y]) E36 ⟨R6'.rc.setAcc hB6, R6'.slot, R6'.boxs, R6'.binj, R6'.len, R6'.kf⟩ ?_ (by simp; omega) h6
          rw [List.reverse_cons]
          exact Reps.append (.cons hy6 .nil) ((hav.ext E3).ext E36)
      | false =>
        dsimp only
        rw [if_neg Bool.false_ne_true]
        have E35 := E4.trans E5
        have hB5 : B5 D = some (.lst av) := E35.B D _ upd_same
        have R5' := toW R5 E35
        have eu : upd B5 D (.lst av) = B5 := by
          funext b
          unfold upd
          by_cases e : b = D
          · rw [if_pos e, e, hB5]
          · rw [if_neg e]
        exact next (acc4 := acc) (av4 := av) E35 (by rw [eu]; exact R5') ((hav.ext E3).ext E35) (by omega) h5
end
end Ev

set_option Elab.async false
set_option linter.all false
set_option maxRecDepth 100000
set_option maxHeartbeats 2000000
/-! Ev16: list comprehensions: the rules -/
namespace Ev
open PySem PySem.Spec PyProof.Rows L2 LamX NdefX
section
variable {c : Cxt} {X Y : Cx} {e : Expr} {pos : Pos} {vs : List Nat}
theorem RS.to (hk : Y.K = X.K) {r : Nat → Option Addr} {F B H : Hp} {σ : L2.St} {ds : Env} {cs : Cs} (hb : c.bx = []) (R : RS c X r F B σ H ds cs) : RS c Y r F B σ H ds cs := by
  have q : RL c.G c.T X c.bx r F B σ H ds cs := R
  show RL c.G c.T Y c.bx r F B σ H ds cs
  rw [hb] at q ⊢
  exact RL.nilX hk q
theorem tGw_to (hk : Y.K = X.K) {m : MG} {v : V} {σ : L2.St} {H : Hp} {Q : L2.St → Hp → Prop} (hb : c.bx = []) (h : tGw c X vs m v σ H Q) : tGw c Y vs m v σ H Q := by
  obtain ⟨r, F, B, ds, cs, d, k, hm, R, hv, n⟩ := h
  exact ⟨r, F, B, ds, cs, d, k, hm, RS.to hk hb R, hv, fun r' F' B' H' σ' ds' cs' E R' => n r' F' B' H' σ' ds' cs' E (RS.to hk.symm hb R')⟩
theorem Xok.to (hk : Y.K = X.K) {r : Nat → Option Addr} {F B : Hp} {σ : L2.St} {ds : Env} {x : KX} (hb : c.bx = []) (h : Xok c X r F B σ ds x) : Xok c Y r F B σ ds x := fun n fs r' F' B' H' cls dd cs' E R => h n fs r' F' B' H' cls dd cs' E (RS.to hk.symm hb R)
theorem tE_to (hk : Y.K = X.K) {m : ME} {σ : L2.St} {H : Hp} {Q : VK} (hb : c.bx = []) (h : tE c X m σ H Q) : tE c Y m σ H Q := by
  obtain ⟨r, F, B, ds, cs, K, x, hm, R, k, xk⟩ := h
  exact ⟨r, F, B, ds, cs, K, x, hm, RS.to hk hb R, fun r' F' B' H' v d cs' E R' => k r' F' B' H' v d cs' E (RS.to hk.symm hb R'), Xok.to hk hb xk⟩
theorem tT_to (hk : Y.K = X.K) {m : MT} {σ : L2.St} {H : Hp} {Q : Bool → Hp → Prop} (hb : c.bx = []) (h : tT c X m σ H Q) : tT c Y m σ H Q := by
  obtain ⟨r, F, B, ds, cs, K, x, hm, R, k, xk⟩ := h
  exact ⟨r, F, B, ds, cs, K, x, hm, RS.to hk hb R, fun r' F' B' H' b cs' E R' => k r' F' B' H' b cs' E (RS.to hk.symm hb R'), Xok.to hk hb xk⟩
theorem pts_imp {ifs : List Expr} {t t' : TT} (h : PTs X ifs t) (i : ∀ σ H Q, t' σ H Q → t σ H Q) : PTs X ifs t' := ⟨fun pins s σ H Q I q => h.run pins s σ H Q I (i σ H Q q)⟩
/-- the block's context -/
theorem Bex.blk {k : Nat} {s : Shared} {H : Hp} {scope : Scope} {cenv : PySem.Env} {fp : List Addr} (bd : Bex c X k) (hb : c.bx = []) : Bex c.blk (X.blk s H scope cenv fp) k :=
  ⟨bd.calm, bd.nd, bd.room, takes_none5, ⟨fun i hi => absurd (show i ∈ c.bx from hi) (by rw [hb]; simp), fun i hi => absurd (show i ∈ c.bx from hi) (by rw [hb]; simp), fun i hi => absurd (show i ∈ c.bx from hi) (by rw [hb]; simp)⟩⟩
variable {elt tg iter : Expr} {ifs : List Expr} {scope : Scope} {own : List (Str × Nat)} {mi : MI} {g : MG} {t : MT} {a : ME}
theorem xe_lc {k : Nat} (pol : Bool) (fu : Nat) (bd : Bex c X k) (hbx : c.bx = []) (hfu : fu ≤ 1000000) (hi : XI c X tg iter mi) (ok : BlkOk X.N X.env.scope scope own)
    (hg : ∀ (s : Shared) (H : Hp) (C : Addr) (cl : List (Str × Addr)) (fp : List Addr), XGw c.blk (X.blk s H scope (compEnvC scope cl C X.env) fp) (own.map (·.2)) tg g) (ht : ∀ (s : Shared) (H : Hp) (C : Addr) (cl : List (Str × Addr)) (fp : List Addr), XTs c.blk (X.blk s H scope (compEnvC scope cl C X.env) fp) ifs t)
    (he : ∀ (s : Shared) (H : Hp) (C : Addr) (cl : List (Str × Addr)) (fp : List Addr), XE c.blk (X.blk s H scope (compEnvC scope cl C X.env) fp) elt a) (hs : ∀ x, foldedSetIterable iter X.env x = pure x := by intro _; rfl) :
    XE c X (.ListComp elt [⟨tg, iter, ifs, 0⟩] scope pos) (mLc pol fu (own.map (·.2)) mi g t a) :=
  pe_imp (pe_lc bd.calm bd.nd hi ok (fun s H C cl fp => pg_imp (hg s H C cl fp) fun v σ H Q h => tGw_to (c := c.blk) (X := X) (by rfl) hbx h) (fun s H C cl fp => pts_imp (ht s H C cl fp) fun σ H Q h => tT_to (c := c.blk) (X := X) (by rfl) hbx h)
    (fun s H C cl fp => pe_imp (he s H C cl fp) fun σ H Q h => tE_to (c := c.blk) (X := X) (by rfl) hbx h) hs) fun σ H Q ⟨r, F, B, ds, cs, K, x, hm, R, kk, xk⟩ =>
    lc_read (G := c.G) (cb := c.blk) (Y := X) rfl hbx rfl hfu hm R kk xk
theorem xs_setLc {k : Nat} {i : Nat} {y : Str} {py spos : Pos} (pol : Bool) (fu : Nat) (bd : Bex c X k) (hbx : c.bx = []) (hfu : fu ≤ 1000000) (hy : X.N[i]? = some y) (hyl : X.env.scope.names.lookup y = some .local)
    (hsw : swapsWith (.ListComp elt [⟨tg, iter, ifs, 0⟩] scope pos) (some (.Name y py)) spos.line X.env = pure true) (hi : XI c X tg iter mi) (ok : BlkOk X.N X.env.scope scope own)
    (hg : ∀ (s : Shared) (H : Hp) (C : Addr) (cl : List (Str × Addr)) (fp : List Addr), XGw c.blk (X.blk s H scope (compEnvC scope cl C X.env) fp) (own.map (·.2)) tg g) (ht : ∀ (s : Shared) (H : Hp) (C : Addr) (cl : List (Str × Addr)) (fp : List Addr), XTs c.blk (X.blk s H scope (compEnvC scope cl C X.env) fp) ifs t)
    (he : ∀ (s : Shared) (H : Hp) (C : Addr) (cl : List (Str × Addr)) (fp : List Addr), XE c.blk (X.blk s H scope (compEnvC scope cl C X.env) fp) elt a) (hs : ∀ x, foldedSetIterable iter X.env x = pure x := by intro _; rfl) :
    XS c X (.Assign [.Name y py] (.ListComp elt [⟨tg, iter, ifs, 0⟩] scope pos) spos) (sAsg (mLc pol fu (own.map (·.2)) mi g t a) (gVar i)) := by
  refine ps_imp (ps2_of (ps_setLc bd.calm bd.nd hy hyl hsw hi ok (fun s H C cl fp => pg_imp (hg s H C cl fp) fun v σ H Q h => tGw_to (c := c.blk) (X := X) (by rfl) hbx h) (fun s H C cl fp => pts_imp (ht s H C cl fp) fun σ H Q h => tT_to (c := c.blk) (X := X) (by rfl) hbx h)
    (fun s H C cl fp => pe_imp (he s H C cl fp) fun σ H Q h => tE_to (c := c.blk) (X := X) (by rfl) hbx h) hs)) fun D σ H ⟨r, F, B, ds, cs, k, x, hm, R, s⟩ => ?_
  refine lc_read (G := c.G) (cb := c.blk) (Y := X) rfl hbx rfl hfu hm R (fun r' F' B' H' v d cs' E R' hv h' => ?_) (XSok.at_ s.2.2.2.2 _ _)
  unfold gVar at h'
  rw [setE_eq] at h'
  exact s.1 _ _ _ _ _ _ _ E (RL.set R' (by rw [hbx]; simp) hv) h'
end
end Ev

set_option Elab.async false
set_option linter.all false
set_option maxRecDepth 100000
set_option maxHeartbeats 2000000
/-! Ev17: built-ins -/
namespace Ev
open PySem PySem.Spec PyProof.Rows L2 LamX NdefX
section
variable {c : Cxt} {X : Cx} {e a b : Expr} {es : List Expr} {pos p : Pos} {r : Nat → Option Addr} {F B H H' : Hp} {σ : L2.St} {ds : Env} {cs : Cs} {K : KE} {x : KX} {Q : VK} {m ma mb : ME} {mr : MA} {o : HO}
def mNever : ME := fun _ _ _ _ _ => false
theorem xe_never : XE c X e mNever := ⟨fun _ _ _ _ _ _ ⟨_, _, _, _, _, _, _, h, _⟩ => nomatch h⟩
def tNeverM : MT := fun _ _ _ _ _ => false
theorem xt_never : XT c X e tNeverM := ⟨fun _ _ _ _ _ _ ⟨_, _, _, _, _, _, _, h, _⟩ => nomatch h⟩
/-! ### the heap may hold more -/
theorem RC.mono {G : Gs} {T : List NTab} {own : Addr → Prop} (R : RC G T own r F B H cs) (k : ∀ b o, H b = some o → H' b = some o) : RC G T own r F B H' cs :=
  ⟨fun a o h => k a o (R.subF a o h), fun a o h => k a o (R.subB a o h), R.plF, R.frB, R.inj, fun n a h => (R.rng n a h).imp (fun z => some_keep k z) id, R.fresh, R.dec, R.lt,
    fun n ce h => (R.cell n ce h).stay (Ext.refl _ _ _) (fun _ z => z) (fun a _ h2 vs _ h3 => ⟨h2, k a _ h3⟩) fun _ z => z, R.tabs.ext k, R.dj, R.rb⟩
theorem RL.mono {G : Gs} {T : List NTab} {bx : List Nat} (R : RL G T X bx r F B σ H ds cs) (k : ∀ b o, H b = some o → H' b = some o) : RL G T X bx r F B σ H' ds cs := ⟨R.rc.mono k, R.slot, R.boxs, R.binj, R.len, R.kf⟩
/-- a thing of the larger heap becomes frozen -/
theorem RC.adopt {G : Gs} {T : List NTab} {own : Addr → Prop} {q : Addr} (R : RC G T own r F B H' cs) (hc : ∀ n ce a, cs.get n = some ce → r n = some a → (∀ od, ce ≠ .box od) → a ≠ q) (hF : F q = none) (hB : B q = none) (hq : H' q = some o) (ho : PlainO o) :
    RC G T own r (upd F q o) B H' cs ∧ Ext r F B r (upd F q o) B := by
  have E : Ext r F B r (upd F q o) B := ext_newF hF
  refine ⟨⟨fun a o' h => ?_, R.subB, fun a o' h => ?_, R.frB, R.inj, R.rng, R.fresh, R.dec, R.lt, fun n ce h => ?_, R.tabs, fun a o' h => by rw [upd_ne (ne_of_none h hB)]; exact R.dj a o' h, R.rb⟩, E⟩
  · by_cases e : a = q
    · rw [e, upd_same] at h; cases h; rw [e]; exact hq
    · rw [upd_ne e] at h; exact R.subF a o' h
  · by_cases e : a = q
    · rw [e, upd_same] at h; cases h; exact ho
    · rw [upd_ne e] at h; exact R.plF a o' h
  · have k := R.cell n ce h
    cases ce with
    | lst xs =>
      obtain ⟨a, us, h1, h2, h3, h4⟩ := k
      have e := hc n _ a h h1 (fun od z => nomatch z)
      exact ⟨a, us, h1, ⟨by rw [upd_ne e]; exact h2.1, h2.2⟩, h3, h4.ext E⟩
    | raw =>
      obtain ⟨a, ns, h1, h2, h3⟩ := k
      have e := hc n _ a h h1 (fun od z => nomatch z)
      exact ⟨a, ns, h1, ⟨by rw [upd_ne e]; exact h2.1, h2.2⟩, h3⟩
    | strm m j =>
      obtain ⟨a, b, x, y, z, h1, h2, h3, h4, h5⟩ := k
      have e := hc n _ a h h1 (fun od z => nomatch z)
      exact ⟨a, b, x, y, z, h1, ⟨by rw [upd_ne e]; exact h2.1, h2.2⟩, h3, h4, h5⟩
    | kd ys =>
      obtain ⟨a, ks, h1, h2, h3, h4⟩ := k
      have e := hc n _ a h h1 (fun od z => nomatch z)
      exact ⟨a, ks, h1, ⟨by rw [upd_ne e]; exact h2.1, h2.2⟩, h3, h4.ext E⟩
    | box od =>
      rcases k with ⟨a, h1, z⟩ | ⟨a, ob, h1, h2, h3⟩
      · exact .inl ⟨a, h1, z⟩
      · exact .inr ⟨a, ob, h1, h2, h3.ext E⟩
theorem RL.adopt {G : Gs} {T : List NTab} {bx : List Nat} {q : Addr} (R : RL G T X bx r F B σ H ds cs) (k : ∀ b o, H b = some o → H' b = some o) (hn : H q = none) (hq : H' q = some o) (ho : PlainO o) :
    RL G T X bx r (upd F q o) B σ H' ds cs ∧ Ext r F B r (upd F q o) B := by
  obtain ⟨rc, E⟩ := (R.rc.mono k).adopt (fun n ce a h1 h2 h3 e => by
    have k := R.rc.cell n ce h1
    rcases k.at_ with ⟨od, z⟩ | ⟨a', vs, z1, z2, z3, _⟩
    · exact h3 od z
    · rw [h2] at z1; cases z1
      rw [e, hn] at z3; cases z3) (R.rc.freeF hn) (R.rc.freeB hn) hq ho
  refine ⟨⟨rc, fun i d h1 h2 => ?_, fun i hi => ?_, R.binj, R.len, R.kf⟩, E⟩
  · obtain ⟨v, h3, h4⟩ := R.slot i d h1 h2
    exact ⟨v, h3, h4.ext E⟩
  · obtain ⟨n, a', h1, h2, h4, h5⟩ := R.boxs i hi
    refine ⟨n, a', h1, h2, h4, fun m ce hm hc => ?_⟩
    obtain ⟨od, e1, h6⟩ := h5 m ce hm hc
    refine ⟨od, e1, fun d e => ?_⟩
    obtain ⟨v, q1, q2⟩ := h6 d e
    exact ⟨v, q1, q2.ext E⟩
/-! ### isinstance -/
inductive Ty where
  | non | bl | int | str | lst | tup | dct
def Ty.nm : Ty → String
  | .non => "NoneType" | .bl => "bool" | .int => "int" | .str => "str" | .lst => "list" | .tup => "tuple" | .dct => "dict"
def isT : Ty → Ty → Bool
  | .non, .non => true | .bl, .bl => true | .bl, .int => true | .int, .int => true | .str, .str => true | .lst, .lst => true | .tup, .tup => true | .dct, .dct => true
  | _, _ => false
theorem kit_isT (K : PySem.W.Frag) : ∀ t T : Ty, T.nm ≠ "NoneType" → PySem.W.kitOne K (.type t.nm) (.type T.nm) = some (isT t T) := by
  intro t T h
  cases T <;> first
    | exact absurd rfl h
    | (cases t <;> first | rfl | decide +kernel | (with_unfolding_all rfl))
def isAny (t : Ty) : List Ty → Bool
  | [] => false
  | T :: r => match isT t T with
    | true => true
    | false => isAny t r
theorem kit_isAny (K : PySem.W.Frag) (t : Ty) : ∀ Ts : List Ty, (∀ T ∈ Ts, T.nm ≠ "NoneType") → PySem.W.kitAny K (.type t.nm) (Ts.map fun T => .type T.nm) = some (isAny t Ts)
  | [], _ => rfl
  | T :: r, h => by
    have ih := kit_isAny K t r fun T hT => h T (List.mem_cons_of_mem _ hT)
    rw [List.map_cons]
    unfold PySem.W.kitAny isAny
    rw [kit_isT K t T (h T List.mem_cons_self)]
    cases isT t T with
    | true => rfl
    | false => exact ih
def tyD (d : D) (cs : Cs) (k : Ty → Bool) : Bool := match d with
  | .non => k .non
  | .bl _ => k .bl
  | .int _ => k .int
  | .str _ => k .str
  | .lst _ => k .lst
  | .tup _ => k .tup
  | .dct _ => k .dct
  | .cel n => getC cs.l n fun q => match q with
    | .lst _ => k .lst
    | _ => false
  | _ => false
theorem tyD_ok {G : Gs} {T : List NTab} {own : Addr → Prop} {v : V} {d : D} {k : Ty → Bool} (R : RC G T own r F B H cs) (Kf : PySem.W.Frag) (hK : G.Kf = Kf) (hv : Rep G r F v d) (h : tyD d cs k = true) : ∃ t : Ty, TyX Kf H v (.type t.nm) ∧ k t = true := by
  unfold tyD at h
  cases hv with
  | non => exact ⟨.non, .base .non, h⟩
  | bl b => exact ⟨.bl, .base (.bl b), h⟩
  | int i => exact ⟨.int, .base (.int i), h⟩
  | str s => exact ⟨.str, .base (.str s), h⟩
  | lst h1 hs => exact ⟨.lst, .base (.lst (R.subF _ _ h1)), h⟩
  | tup h1 hs => exact ⟨.tup, .base (.tup (R.subF _ _ h1)), h⟩
  | ktp h1 =>
    subst hK
    obtain ⟨o, e1, e2⟩ := G.kty _ _ h1
    exact ⟨.tup, .kTuple e1 e2, h⟩
  | dct h1 hs => exact ⟨.dct, .base (.dK (R.subF _ _ h1)), h⟩
  | cel hr =>
    dsimp only at h
    obtain ⟨q, q1, q2⟩ := getC_true h
    split at q2
    · obtain ⟨a, vs, z1, z2, z3, z4⟩ := R.cell _ _ q1
      rw [hr] at z1; cases z1
      exact ⟨.lst, .base (.lst z3), q2⟩
    · cases q2
  | clo _ _ _ _ _ _ => cases h
  | fn g => cases h
/-- the name of a built-in type -/
structure TyN (X : Cx) (y : Str) (T : Ty) : Prop where
  hg : Gl X y
  hm : X.mg y = none
  hv : bootBuiltins y = some (.type T.nm)
  hn : y ≠ "__name__"
  hd : (y == ("__debug__" : Str)) = false
  nn : T.nm ≠ "NoneType"
theorem TyN.pe {y : Str} {T : Ty} (t : TyN X y T) : PE X (.Name y pos) (tC (.ty T.nm)) := pe_bltn t.hg t.hm t.hv rfl t.hn t.hd
def mIsi (T : Ty) (a : ME) : ME := fun f e cs k x => a f e cs (fun d cs1 => tyD d cs1 fun t => k (.bl (isT t T)) cs1) x
theorem xe_isi {y : Str} {py : Pos} {T : Ty} (hg : Gl X "isinstance") (hm : X.mg "isinstance" = none) (t : TyN X y T) (ha : XE c X e m)
    (h1 : starEach [e, .Name y py] X.env = (false, eval e X.env) :: starEach [.Name y py] X.env := by rfl) (h2 : starEach [.Name y py] X.env = (false, eval (.Name y py) X.env) :: starEach [] X.env := by rfl) (hpl : (backTo pos (starEach [.Name y py] X.env)).any (·.1) = false := by rfl) :
    XE c X (.Call (.Name "isinstance" p) [e, .Name y py] [] pos) (mIsi T m) :=
  XE.mk (pe_callB call_isi hg hm PyProof.Rows.boot_isinstance (pa_cons ha (pa_cons t.pe pa_nil h2) h1) (by decide) (by decide) h1 hpl) fun r F B σ H ds cs K x Q hm R k xk => by
    refine tE.of hm R (fun r1 F1 B1 H1 v d cs1 E1 R1 hv h1 => ?_) xk
    obtain ⟨ty, h2, h3⟩ := tyD_ok R1.rc X.K R1.kf hv h1
    exact ⟨v, _, _, _, isT ty T, rfl, .ty _, h2, kit_isT X.K ty T t.nn, fun _ => k _ _ _ _ _ _ _ E1 R1 (.bl _) h3⟩
/-- several -/
def XTy (X : Cx) (es : List Expr) (Ts : List Ty) : Prop := PA X es (fun σ H Q => Q (Ts.map fun T => V.ty T.nm) H)
theorem xty_nil : XTy X [] [] := pa_nil
theorem xty_cons {y : Str} {py : Pos} {T : Ty} {Ts : List Ty} (t : TyN X y T) (h : XTy X es Ts) (hs : starEach (.Name y py :: es) X.env = (false, eval (.Name y py) X.env) :: starEach es X.env := by rfl) : XTy X (.Name y py :: es) (T :: Ts) :=
  pa_imp (pa_cons t.pe h hs) fun σ H Q h => h
def mIsiT (Ts : List Ty) (a : ME) : ME := fun f e cs k x => a f e cs (fun d cs1 => tyD d cs1 fun t => k (.bl (isAny t Ts)) cs1) x
theorem cls_all : ∀ Ts : List Ty, Paired ClsV (Ts.map fun T => V.ty T.nm) (Ts.map fun T => Value.type T.nm)
  | [] => .nil
  | T :: r => .cons (.ty _) (cls_all r)
theorem xe_isiT {Ts : List Ty} {kk : Nat} {tp : Pos} (hg : Gl X "isinstance") (hm : X.mg "isinstance" = none) (ht : XTy X es Ts) (nn : ∀ T ∈ Ts, T.nm ≠ "NoneType") (hl : Ts.length ≤ 100) (ha : XE c X e m)
    (h1 : starEach [e, .Tuple es kk tp] X.env = (false, eval e X.env) :: starEach [.Tuple es kk tp] X.env := by rfl) (h2 : starEach [.Tuple es kk tp] X.env = (false, eval (.Tuple es kk tp) X.env) :: starEach [] X.env := by rfl) (hpl : (backTo pos (starEach [.Tuple es kk tp] X.env)).any (·.1) = false := by rfl) :
    XE c X (.Call (.Name "isinstance" p) [e, .Tuple es kk tp] [] pos) (mIsiT Ts m) :=
  XE.mk (pe_callB call_isiT hg hm PyProof.Rows.boot_isinstance (pa_cons ha (pa_cons (pe_tup ht) pa_nil h2) h1) (by decide) (by decide) h1 hpl) fun r F B σ H ds cs K x Q hm R k xk => by
    refine tE.of hm R (fun r1 F1 B1 H1 v d cs1 E1 R1 hv h1 => ?_) xk
    obtain ⟨ty, h2, h3⟩ := tyD_ok R1.rc X.K R1.kf hv h1
    refine ⟨by rw [List.length_map, sizeLine_eq]; omega, fun q hq => ?_⟩
    have keep : ∀ b o', H1 b = some o' → upd H1 q (.tup (Ts.map fun T => V.ty T.nm)) b = some o' := fun b o' e => by rw [upd_ne (ne_of_none e hq)]; exact e
    have R2 := RL.mono R1 keep
    obtain ⟨ty2, h4, h5⟩ := tyD_ok R2.rc X.K R2.kf hv h1
    exact ⟨v, q, _, _, _, isAny ty2 Ts, rfl, upd_same, cls_all Ts, h4, kit_isAny X.K ty2 Ts nn, fun _ => k _ _ _ _ _ _ _ E1 R2 (.bl _) h5⟩
/-! ### len, tuple, list, all, any, int -/
def lenN : List D → Nat → (Nat → Bool) → Bool
  | [], n, k => k n
  | _ :: r, n, k => fNat (n + 1) fun m => lenN r m k
theorem lenN_eq : ∀ (xs : List D) (n : Nat) (k : Nat → Bool), lenN xs n k = k (n + xs.length)
  | [], _, _ => rfl
  | _ :: r, n, k => by unfold lenN; rw [fNat_eq, lenN_eq r]; congr 1; rw [List.length_cons]; omega
def mLen (a : ME) : ME := fun f e cs k x => a f e cs (fun d cs1 => match d with
  | .str s => (match Nat.ble s.length 1000000 with
    | true => fNat s.length fun n => k (.int (.ofNat n)) cs1
    | false => false)
  | _ => rdSeq d cs1 fun _ xs => lenN xs 0 fun n => k (.int (.ofNat n)) cs1) x
theorem xe_len (hg : Gl X "len") (hm : X.mg "len" = none) (ha : XE c X e m) (h1 : starEach [e] X.env = (false, eval e X.env) :: starEach [] X.env := by rfl) (hpl : (backTo pos (starEach [] X.env)).any (·.1) = false := by rfl) :
    XE c X (.Call (.Name "len" p) [e] [] pos) (mLen m) :=
  XE.mk (pe_callB call_len hg hm PyProof.Rows.bootS_len (pa_cons ha pa_nil h1) (by decide) (by decide) h1 hpl) fun r F B σ H ds cs K x Q hm R k xk => by
    refine tE.of hm R (fun r1 F1 B1 H1 v d cs1 E1 R1 hv h1 => ?_) xk
    split at h1
    · rename_i s
      cases hv
      split at h1
      · rename_i q
        rw [fNat_eq] at h1
        exact ⟨_, s.length, rfl, ⟨by rw [sizeLine_eq]; have := Nat.le_of_ble_eq_true q; omega, rfl⟩, fun _ => k _ _ _ _ _ _ _ E1 R1 (.int _) h1⟩
      · cases h1
    · obtain ⟨a, vs, xs, ev, hs, h2⟩ := rdSeq_ok R1.rc hv h1
      subst ev
      rcases h2 with ⟨h2, h3⟩ | ⟨h2, h3⟩
      · rw [lenN_eq, Nat.zero_add] at h2
        exact ⟨_, vs.length, rfl, .inl ⟨vs, SqL.of h3, rfl⟩, fun _ => k _ _ _ _ _ _ _ E1 R1 (.int _) (by rw [hs.length]; exact h2)⟩
      · rw [lenN_eq, Nat.zero_add] at h2
        exact ⟨_, vs.length, rfl, .inr ⟨vs, h3.sq R1.kf, rfl⟩, fun _ => k _ _ _ _ _ _ _ E1 R1 (.int _) (by rw [hs.length]; exact h2)⟩
def mTupOf (a : ME) : ME := fun f e cs k x => a f e cs (fun d cs1 => rdSeq d cs1 fun _ xs => k (.tup xs) cs1) x
theorem xe_tupOf (hg : Gl X "tuple") (hm : X.mg "tuple" = none) (ha : XE c X e m) (h1 : starEach [e] X.env = (false, eval e X.env) :: starEach [] X.env := by rfl) (hpl : (backTo pos (starEach [] X.env)).any (·.1) = false := by rfl) :
    XE c X (.Call (.Name "tuple" p) [e] [] pos) (mTupOf m) :=
  XE.mk (pe_callTy call_tuple_of hg hm PyProof.Rows.boot_tuple (pa_cons ha pa_nil h1) (by decide) (by decide) h1 hpl) fun r F B σ H ds cs K x Q hm R k xk => by
    refine tE.of hm R (fun r1 F1 B1 H1 v d cs1 E1 R1 hv h1 => ?_) xk
    cases d with
    | tup xs =>
      obtain ⟨a, vs, ev, q, hs⟩ := id hv.tupI
      subst ev
      exact ⟨a, vs, rfl, .inr ⟨(q.mono R1.rc.subF).sq R1.kf, fun _ => k _ _ _ _ _ _ _ E1 R1 hv h1⟩⟩
    | lst xs =>
      cases hv with
      | @lst a vs _ q hs => exact ⟨_, vs, rfl, .inl ⟨SqL.of (R1.rc.subF _ _ q), newT_ok R1 (k.ext E1) hs h1⟩⟩
    | cel n =>
      cases hv with
      | cel hr =>
        obtain ⟨q, q1, q2⟩ := getC_true (show getC cs1.l n _ = true from h1)
        split at q2
        · obtain ⟨a', vs', z1, z2, z3, z4⟩ := R1.rc.cell _ _ q1
          rw [hr] at z1; cases z1
          exact ⟨_, vs', rfl, .inl ⟨SqL.of z3, newT_ok R1 (k.ext E1) z4 q2⟩⟩
        · cases q2
    | _ => cases h1
def mLstOf (pol : Bool) (a : ME) : ME := fun f e cs k x => a f e cs (fun d cs1 => rdSeq d cs1 fun _ xs => newL pol xs cs1 k) x
theorem xe_lstOf (pol : Bool) (hg : Gl X "list") (hm : X.mg "list" = none) (ha : XE c X e m) (h1 : starEach [e] X.env = (false, eval e X.env) :: starEach [] X.env := by rfl) (hpl : (backTo pos (starEach [] X.env)).any (·.1) = false := by rfl) :
    XE c X (.Call (.Name "list" p) [e] [] pos) (mLstOf pol m) :=
  XE.mk (pe_callTy call_list_of hg hm PyProof.Rows.boot_list (pa_cons ha pa_nil h1) (by decide) (by decide) h1 hpl) fun r F B σ H ds cs K x Q hm R k xk => by
    refine tE.of hm R (fun r1 F1 B1 H1 v d cs1 E1 R1 hv h1 => ?_) xk
    obtain ⟨a, vs, xs, ev, hs, h2⟩ := rdSeq_ok R1.rc hv h1
    subst ev
    rcases h2 with ⟨h2, h3⟩ | ⟨h2, h3⟩
    · exact ⟨a, vs, rfl, .inl (SqL.of h3), newL_ok R1 (k.ext E1) hs h2⟩
    · exact ⟨a, vs, rfl, .inr (h3.sq R1.kf), newL_ok R1 (k.ext E1) hs h2⟩
def allD (neg : Bool) : List D → (Bool → Bool) → Bool
  | [], k => k (!neg)
  | .bl b :: r, k => match b, neg with
    | true, false => allD neg r k
    | false, false => onlyB r (k false)
    | true, true => onlyB r (k true)
    | false, true => allD neg r k
  | _ :: _, _ => false
where onlyB : List D → Bool → Bool
  | [], q => q
  | .bl _ :: r, q => onlyB r q
  | _ :: _, _ => false
def anyAll (neg : Bool) (bs : List Bool) : Bool := match neg with
  | false => bs.all id
  | true => bs.any id
theorem onlyB_ok {G : Gs} : ∀ {vs : List V} {xs : List D} {q : Bool}, Reps G r F vs xs → allD.onlyB xs q = true → q = true ∧ ∃ bs : List Bool, vs = bs.map V.bl
  | _, _, _, .nil, h => ⟨h, [], rfl⟩
  | _, _, _, .cons hv t, h => by
    unfold allD.onlyB at h
    split at h
    · rename_i heq
      cases heq
    · rename_i heq
      cases heq
      cases hv
      obtain ⟨h1, bs, e⟩ := onlyB_ok t h
      exact ⟨h1, _ :: bs, by rw [e]; rfl⟩
    · cases h
theorem allD_ok {G : Gs} {neg : Bool} : ∀ {vs : List V} {xs : List D} {k : Bool → Bool}, Reps G r F vs xs → allD neg xs k = true → ∃ bs : List Bool, vs = bs.map V.bl ∧ k (anyAll neg bs) = true
  | _, _, k, .nil, h => ⟨[], rfl, by unfold allD at h; cases neg <;> exact h⟩
  | _, _, k, .cons hv t, h => by
    unfold allD at h
    split at h
    · rename_i heq
      cases heq
    · rename_i b r' heq
      cases heq
      cases hv
      cases b <;> cases neg
      · obtain ⟨h1, bs, e⟩ := onlyB_ok t h
        exact ⟨false :: bs, by rw [e]; rfl, h1⟩
      · obtain ⟨bs, e, h1⟩ := allD_ok t h
        exact ⟨false :: bs, by rw [e]; rfl, h1⟩
      · obtain ⟨bs, e, h1⟩ := allD_ok t h
        exact ⟨true :: bs, by rw [e]; rfl, h1⟩
      · obtain ⟨h1, bs, e⟩ := onlyB_ok t h
        exact ⟨true :: bs, by rw [e]; rfl, h1⟩
    · cases h
/-- all([..]), any([..]) of bools, a list -/
def mAll (neg : Bool) (a : ME) : ME := fun f e cs k x => a f e cs (fun d cs1 => rdSeq d cs1 fun t xs => match t with
  | false => allD neg xs fun b => k (.bl b) cs1
  | true => false) x
theorem all_read {neg : Bool} {v : V} {d : D} {cs1 : Cs} {F1 B1 H1 : Hp} {r1 : Nat → Option Addr} (R1 : RS c X r1 F1 B1 σ H1 ds cs1) (hv : Rep c.G r1 F1 v d) (h1 : (rdSeq d cs1 fun t xs => match t with
  | false => allD neg xs fun b => K (.bl b) cs1
  | true => false) = true) : ∃ (a : Addr) (bs : List Bool), v = .ref a ∧ SqL X.K H1 a (bs.map V.bl) ∧ K (.bl (anyAll neg bs)) cs1 = true := by
  obtain ⟨a, vs, xs, ev, hs, h2⟩ := rdSeq_ok R1.rc hv h1
  rcases h2 with ⟨h2, h3⟩ | ⟨h2, h3⟩
  · obtain ⟨bs, e, h4⟩ := allD_ok hs h2
    exact ⟨a, bs, ev, by rw [← e]; exact SqL.of h3, h4⟩
  · cases h2
theorem xe_all (hc : X.calm = true) (hg : Gl X "all") (hm : X.mg "all" = none) (ha : XE c X e m) (hv : bootBuiltins "all" = some (.builtin "all") := by decide +kernel) (h1 : starEach [e] X.env = (false, eval e X.env) :: starEach [] X.env := by rfl) (hpl : (backTo pos (starEach [] X.env)).any (·.1) = false := by rfl) :
    XE c X (.Call (.Name "all" p) [e] [] pos) (mAll false m) :=
  XE.mk (pe_callB (cr_all hc) hg hm hv (pa_cons ha pa_nil h1) (by decide) (by decide) h1 hpl) fun r F B σ H ds cs K x Q hm R k xk => by
    refine tE.of hm R (fun r1 F1 B1 H1 v d cs1 E1 R1 hv h1 => ?_) xk
    obtain ⟨a, bs, e, h2, h3⟩ := all_read R1 hv h1
    exact ⟨a, bs, by rw [e], h2, fun _ => k _ _ _ _ _ _ _ E1 R1 (.bl _) h3⟩
theorem xe_any (hc : X.calm = true) (hg : Gl X "any") (hm : X.mg "any" = none) (ha : XE c X e m) (hv : bootBuiltins "any" = some (.builtin "any") := by decide +kernel) (h1 : starEach [e] X.env = (false, eval e X.env) :: starEach [] X.env := by rfl) (hpl : (backTo pos (starEach [] X.env)).any (·.1) = false := by rfl) :
    XE c X (.Call (.Name "any" p) [e] [] pos) (mAll true m) :=
  XE.mk (pe_callB (cr_any hc) hg hm hv (pa_cons ha pa_nil h1) (by decide) (by decide) h1 hpl) fun r F B σ H ds cs K x Q hm R k xk => by
    refine tE.of hm R (fun r1 F1 B1 H1 v d cs1 E1 R1 hv h1 => ?_) xk
    obtain ⟨a, bs, e, h2, h3⟩ := all_read R1 hv h1
    exact ⟨a, bs, by rw [e], h2, fun _ => k _ _ _ _ _ _ _ E1 R1 (.bl _) h3⟩
/-! ### subscripts -/
def negIx (n m : Nat) : Option Nat := match Nat.ble (m + 1) n with
  | true => some (n - (m + 1))
  | false => none
def ixD (xs : List D) (i : Int) (k : D → Bool) : Bool := match i with
  | .ofNat n => nthD xs n false k
  | .negSucc m => lenN xs 0 fun n => match Nat.ble (m + 1) n with
    | true => fNat (n - (m + 1)) fun j => nthD xs j false k
    | false => false
theorem ixD_ok {G : Gs} {vs : List V} {xs : List D} {i : Int} {k : D → Bool} (hs : Reps G r F vs xs) (h : ixD xs i k = true) : ∃ v d, atI vs i = some v ∧ Rep G r F v d ∧ k d = true := by
  unfold ixD at h
  cases i with
  | ofNat n =>
    rcases nthD_ok h with ⟨_, z⟩ | ⟨d, h1, h2⟩
    · cases z
    · obtain ⟨v, h3, h4⟩ := hs.get h1
      have hn : n < vs.length := (List.getElem?_eq_some_iff.mp h3).1
      refine ⟨v, d, ?_, h4, h2⟩
      unfold atI ixN
      rw [if_pos (by exact Int.natCast_nonneg n), if_pos (by exact Int.ofNat_lt.mpr hn)]
      exact h3
  | negSucc m =>
    dsimp only at h
    rw [lenN_eq, Nat.zero_add] at h
    split at h
    · rename_i q
      rw [fNat_eq] at h
      have q := Nat.le_of_ble_eq_true q
      rcases nthD_ok h with ⟨_, z⟩ | ⟨d, h1, h2⟩
      · cases z
      · obtain ⟨v, h3, h4⟩ := hs.get h1
        refine ⟨v, d, ?_, h4, h2⟩
        have hl := hs.length
        unfold atI ixN
        rw [if_neg (by omega), if_pos (by omega)]
        show vs[(Int.negSucc m + ↑vs.length).toNat]? = some v
        rw [show (Int.negSucc m + ↑vs.length).toNat = xs.length - (m + 1) from by omega]
        exact h3
    · cases h
def oIx : O2 := fun u v cs k => match v with
  | .int i => rdSeq u cs fun _ xs => ixD xs i fun d => k d cs
  | _ => false
theorem xe_ix (ha : XE c X a ma) (hb : XE c X b mb) (hs : PlainIx b := by intro _ _; rfl) : XE c X (.Subscript a b pos) (mOp oIx ma mb) :=
  XE.mk (pe_ix ix_seq ha hb hs) fun r F B σ H ds cs K x Q hm R k xk => by
    refine tE.of hm R (fun r1 F1 B1 H1 v d cs1 E1 R1 hv h1 => ?_) xk
    refine tE.of h1 R1 (fun r2 F2 B2 H2 w d2 cs2 E2 R2 hw h2 => ?_) (xk.ext E1)
    unfold oIx at h2
    split at h2
    · have ew := hw.int_inv
      subst ew
      obtain ⟨q, vs, xs, ev, hs, h3⟩ := rdSeq_ok R2.rc (hv.ext E2) h2
      subst ev
      rcases h3 with ⟨h3, h4⟩ | ⟨h3, h4⟩
      · obtain ⟨z, dz, h5, h6, h7⟩ := ixD_ok hs h3
        exact .inl ⟨_, vs, _, z, rfl, rfl, SqL.of h4, h5, fun _ => k _ _ _ _ _ _ _ (E1.trans E2) R2 h6 h7⟩
      · obtain ⟨z, dz, h5, h6, h7⟩ := ixD_ok hs h3
        exact .inr (.inl ⟨_, vs, _, z, rfl, rfl, h4.sq R2.kf, h5, fun _ => k _ _ _ _ _ _ _ (E1.trans E2) R2 h6 h7⟩)
    · cases h2
/-! ### list + list, list * int, append -/
def listD (d : D) (cs : Cs) (k : List D → Bool) : Bool := rdSeq d cs fun t xs => match t with
  | false => k xs
  | true => false
theorem listD_ok {G : Gs} {T : List NTab} {own : Addr → Prop} {v : V} {d : D} {k : List D → Bool} (R : RC G T own r F B H cs) (hv : Rep G r F v d) (h : listD d cs k = true) : ∃ a vs xs, v = .ref a ∧ Reps G r F vs xs ∧ H a = some (.lst vs) ∧ k xs = true := by
  obtain ⟨a, vs, xs, ev, hs, h2⟩ := rdSeq_ok R hv h
  rcases h2 with ⟨h2, h3⟩ | ⟨h2, h3⟩
  · exact ⟨a, vs, xs, ev, hs, h3, h2⟩
  · cases h2
/-- + of ints, of lists, of tuples, of texts; int + bool -/
def oAdd (pol : Bool) : O2 := fun u v cs k => match u with
  | .int i => (match v with
    | .int j => fInt (i + j) fun z => k (.int z) cs
    | .bl b => (match b with
      | true => fInt (i + 1) fun z => k (.int z) cs
      | false => k (.int i) cs)
    | _ => false)
  | .tup xs => (match v with
    | .tup ys => (match fits xs && fits ys with
      | true => fList (xs ++ ys) fun zs => k (.tup zs) cs
      | false => false)
    | _ => false)
  | _ => listD u cs fun xs => listD v cs fun ys => match fits xs && fits ys with
    | true => fList (xs ++ ys) fun zs => newL pol zs cs k
    | false => false
theorem oAdd_ok (pol : Bool) : O2ok c X (fun x y H Q => ((rI0 fun i j => .int (i + j)) x y H Q ∨ (∃ i k, x = .int i ∧ y = .bl k ∧ Q (.int (i + b2i k)) H)) ∨ (rCatA X.K x y H Q ∨ rCat x y H Q)) (oAdd pol) := by
  intro r F B σ H ds cs K Q v w d e R hv hw h k
  unfold oAdd at h
  split at h
  · rename_i i
    have ev := hv.int_inv
    subst ev
    split at h
    · rename_i j
      have ew := hw.int_inv
      subst ew
      rw [fInt_eq] at h
      exact .inl (.inl ⟨_, _, rfl, rfl, fun _ => k _ _ _ _ _ _ _ (Ext.refl _ _ _) R (.int _) h⟩)
    · rename_i b
      cases hw
      split at h
      · rw [fInt_eq] at h
        exact .inl (.inr ⟨i, true, rfl, rfl, fun _ => k _ _ _ _ _ _ _ (Ext.refl _ _ _) R (.int _) h⟩)
      · exact .inl (.inr ⟨i, false, rfl, rfl, fun _ => k _ _ _ _ _ _ _ (Ext.refl _ _ _) R (.int _) (by show K (.int (i + 0)) cs = true; rw [Int.add_zero]; exact h)⟩)
    · cases h
  · rename_i xs
    split at h
    · rename_i ys
      split at h
      · rename_i q
        rw [fList_eq] at h
        obtain ⟨q1, q2⟩ := Bool.and_eq_true_iff.mp q
        obtain ⟨a, vs, ev, h1, hs⟩ := hv.tupI
        obtain ⟨b, ws, ew, h2, ht⟩ := hw.tupI
        subst ev ew
        have f1 := Nat.le_of_ble_eq_true q1
        have f2 := Nat.le_of_ble_eq_true q2
        refine .inr (.inl ⟨a, b, vs, ws, rfl, rfl, (h1.mono R.rc.subF).sq R.kf, (h2.mono R.rc.subF).sq R.kf, by rw [hs.length, ht.length, sizeLine_eq]; omega, fun e _ => ?_, fun _ e _ => ?_, fun _ _ => newT_ok R k (Reps.append ht hs) h⟩)
        · subst e
          cases hs
          exact k _ _ _ _ _ _ _ (Ext.refl _ _ _) R hw h
        · subst e
          cases ht
          rw [List.append_nil] at h
          exact k _ _ _ _ _ _ _ (Ext.refl _ _ _) R hv h
      · cases h
    · cases h
  · obtain ⟨a, vs, xs, ev, hs, h1, h2⟩ := listD_ok R.rc hv h
    obtain ⟨b, ws, ys, ew, ht, h3, h4⟩ := listD_ok R.rc hw h2
    subst ev ew
    split at h4
    · rename_i q
      rw [fList_eq] at h4
      obtain ⟨q1, q2⟩ := Bool.and_eq_true_iff.mp q
      have f1 := Nat.le_of_ble_eq_true q1
      have f2 := Nat.le_of_ble_eq_true q2
      exact .inr (.inr ⟨a, b, vs, ws, rfl, rfl, h1, h3, by rw [hs.length, ht.length, sizeLine_eq]; omega, newL_ok R k (Reps.append ht hs) h4⟩)
    · cases h4
theorem xe_add (pol : Bool) (ha : XE c X a ma) (hb : XE c X b mb) : XE c X (.BinOp a .Add b pos) (mOp (oAdd pol) ma mb) := xe_op ((op_add.or op_add_ib).or (op_catA.or op_cat)) (oAdd_ok pol) ha hb
def repD : Nat → List D → List D → (List D → Bool) → Bool
  | 0, _, acc, k => k acc
  | n + 1, xs, acc, k => fList (xs ++ acc) fun a => repD n xs a k
theorem repD_eq : ∀ (n : Nat) (xs acc : List D) (k : List D → Bool), repD n xs acc k = k ((List.replicate n xs).flatten ++ acc)
  | 0, _, _, _ => rfl
  | n + 1, xs, acc, k => by
    unfold repD
    rw [fList_eq, repD_eq n, ← List.append_assoc]
    congr 2
    rw [List.replicate_succ', List.flatten_append]
    simp
theorem reps_rep {G : Gs} {vs : List V} {xs : List D} (hs : Reps G r F vs xs) : ∀ n : Nat, Reps G r F (List.replicate n vs).flatten (List.replicate n xs).flatten
  | 0 => .nil
  | n + 1 => by
    rw [List.replicate_succ, List.replicate_succ, List.flatten_cons, List.flatten_cons]
    exact Reps.append (reps_rep hs n) hs
/-- * of ints, list * int -/
def smallI (i : Int) : Bool := Nat.ble i.natAbs 1000000000000
theorem smallI_ok {i : Int} (h : smallI i = true) : -(2 ^ 64) < i ∧ i < 2 ^ 64 := by
  have h := Nat.le_of_ble_eq_true h
  have : (2 : Int) ^ 64 = 18446744073709551616 := by decide
  omega
def oMul (pol : Bool) : O2 := fun u v cs k => match v with
  | .int j => (match u with
    | .int i => (match smallI i || smallI j with
      | true => fInt (i * j) fun z => k (.int z) cs
      | false => false)
    | _ => listD u cs fun xs => match Nat.ble xs.length 1000 && Nat.ble j.natAbs 1000 with
      | true => repD j.toNat xs [] fun zs => newL pol zs cs k
      | false => false)
  | _ => false
theorem oMul_ok (pol : Bool) : O2ok c X (fun x y H Q => (rI CMul fun i j => .int (i * j)) x y H Q ∨ rRep x y H Q) (oMul pol) := by
  intro r F B σ H ds cs K Q v w d e R hv hw h k
  unfold oMul at h
  split at h
  · rename_i j
    have ew := hw.int_inv
    subst ew
    split at h
    · rename_i i
      have ev := hv.int_inv
      subst ev
      split at h
      · rename_i q
        rw [fInt_eq] at h
        refine .inl ⟨i, j, rfl, rfl, ?_, fun _ => k _ _ _ _ _ _ _ (Ext.refl _ _ _) R (.int _) h⟩
        rcases Bool.or_eq_true_iff.mp q with z | z
        · exact .inl (smallI_ok z)
        · exact .inr (smallI_ok z)
      · cases h
    · obtain ⟨a, vs, xs, ev, hs, h1, h2⟩ := listD_ok R.rc hv h
      subst ev
      split at h2
      · rename_i q
        rw [repD_eq, List.append_nil] at h2
        obtain ⟨q1, q2⟩ := Bool.and_eq_true_iff.mp q
        have f1 := Nat.le_of_ble_eq_true q1
        have f2 := Nat.le_of_ble_eq_true q2
        have e63 : (2 : Int) ^ 63 = 9223372036854775808 := by decide
        refine .inr ⟨a, j, vs, rfl, rfl, h1, by omega, by omega, ?_, newL_ok R k (reps_rep hs _) h2⟩
        rw [hs.length, sizeLine_eq]
        have : xs.length * j.toNat ≤ 1000 * 1000 := Nat.mul_le_mul f1 (by omega)
        omega
      · cases h2
  · cases h
theorem xe_mul (pol : Bool) (ha : XE c X a ma) (hb : XE c X b mb) : XE c X (.BinOp a .Mult b pos) (mOp (oMul pol) ma mb) := xe_op (op_mul.or op_rep) (oMul_ok pol) ha hb
theorem xe_sub (ha : XE c X a ma) (hb : XE c X b mb) : XE c X (.BinOp a .Sub b pos) (mOp (oI fun i j => i - j) ma mb) := xe_op op_sub (oI_ok _) ha hb
def mApp (a : ME) (b : ME) : ME := fun f e cs k x => a f e cs (fun d cs1 => match d with
  | .cel n => getC cs1.l n fun q0 => match q0 with
    | .lst _ => b f e cs1 (fun y cs2 => getC cs2.l n fun q => match q with
      | .lst xs => (match fits xs with
        | true => fList (xs ++ [y]) fun ys => setL cs2.l n (.lst ys) fun l => k .non ⟨cs2.nx, l⟩
        | false => false)
      | _ => false) x
    | _ => false
  | _ => false) x
theorem xe_append {apos cpos : Pos} (ha : XE c X a ma) (hb : XE c X b mb) (hbase : attributeBase a "append" X.env (eval a X.env) = eval a X.env := by rfl)
    (hfew : ((backTo cpos (starEach (b :: []) X.env)).all (fun x => !x.1) && (backToKw cpos (keywordEach [] X.env)).all (fun x => x.1.isSome) && decide ((b :: []).length + ([] : List Keyword).length + (if ([] : List Keyword).isEmpty then 0 else 1) < 30)) = true := by rfl)
    (hline : (apos.endLine == cpos.line) = true := by rfl) (hs : starEach (b :: []) X.env = (false, eval b X.env) :: starEach [] X.env := by rfl) (hplain : (backTo cpos (starEach [] X.env)).any (·.1) = false := by rfl) :
    XE c X (.Call (.Attribute a "append" apos) [b] [] cpos) (mApp ma mb) :=
  XE.mk (pe_bm PySem.F.plainAttrs_list PySem.F.slot_list_append PySem.F.type_list_append mt_append ha (pa_cons hb pa_nil hs) hbase hfew hline hs hplain) fun r F B σ H ds cs K x Q hm R k xk => by
    refine tE.of hm R (fun r1 F1 B1 H1 v d cs1 E1 R1 hv h1 => ?_) xk
    split at h1
    · rename_i n
      cases hv with
      | @cel a _ hr =>
        obtain ⟨q0, z0, h1⟩ := getC_true h1
        split at h1
        case h_2 => cases h1
        obtain ⟨a0, vs, w1, _, hl, _⟩ := R1.rc.cell _ _ z0
        rw [hr] at w1; cases w1
        refine ⟨.inl ⟨rfl, vs, SqL.of hl⟩, ?_⟩
        refine tE.of h1 R1 (fun r2 F2 B2 H2 w y cs2 E2 R2 hw h2 => ?_) (xk.ext E1)
        obtain ⟨q, q1, q2⟩ := getC_true h2
        split at q2
        · rename_i xs
          obtain ⟨a', us, z1, z2, z3, z4⟩ := R2.rc.cell _ _ q1
          rw [E2.r _ _ hr] at z1; cases z1
          split at q2
          · rename_i qf
            rw [fList_eq, setL_eq] at q2
            refine ⟨a, us, w, rfl, rfl, z3, (fits_ok qf z4.length).1, fun hf => ?_⟩
            exact k _ _ _ _ _ _ _ (E1.trans E2) (RL.write R2 q1 (E2.r _ _ hr) z3 (Reps.append (.cons hw .nil) z4)) .non q2
          · cases q2
        · cases q2
    · cases h1
end
end Ev

set_option Elab.async false
set_option linter.all false
set_option maxRecDepth 100000
set_option maxHeartbeats 2000000
/-! Ev18: comparisons by operator, slices, the empty dict, a, b = x, y -/
namespace Ev
open PySem PySem.Spec PyProof.Rows L2 LamX NdefX
section
variable {c : Cxt} {X : Cx} {e a b d : Expr} {es : List Expr} {pos p : Pos} {r : Nat → Option Addr} {F B H H' : Hp} {σ : L2.St} {ds : Env} {cs : Cs} {K : KE} {x : KX} {Q : VK} {m ma mb md : ME} {mr : MA} {o : HO} {k : Nat}
/-! ### <, of ints and of tuples of ints -/
def intsD : List D → (List Int → Bool) → Bool
  | [], k => k []
  | .int i :: r, k => intsD r fun ns => k (i :: ns)
  | _ :: _, _ => false
theorem intsD_ok {G : Gs} : ∀ {vs : List V} {xs : List D} {k : List Int → Bool}, Reps G r F vs xs → intsD xs k = true → ∃ ns : List Int, vs = ns.map V.int ∧ k ns = true
  | _, _, k, .nil, h => ⟨[], rfl, h⟩
  | _, _, k, .cons hv t, h => by
    unfold intsD at h
    split at h
    · rename_i heq; cases heq
    · rename_i i r' heq
      cases heq
      have e := hv.int_inv
      subst e
      obtain ⟨ns, e, h2⟩ := intsD_ok t h
      exact ⟨i :: ns, by rw [e]; rfl, h2⟩
    · cases h
def lexB : List Int → List Int → Bool
  | [], [] => false
  | [], _ :: _ => true
  | _ :: _, [] => false
  | x :: xs, y :: ys => match decide (x = y) with
    | true => lexB xs ys
    | false => decide (x < y)
theorem lexB_eq : ∀ xs ys : List Int, lexB xs ys = HT.lexLt xs ys
  | [], [] => rfl
  | [], _ :: _ => rfl
  | _ :: _, [] => rfl
  | x :: xs, y :: ys => by
    unfold lexB HT.lexLt
    by_cases e : x = y
    · rw [decide_eq_true e, if_pos e]; exact lexB_eq xs ys
    · rw [decide_eq_false e, if_neg e]
def bLt : B2 := fun u v cs k => match u, v with
  | .int i, .int j => fBool (decide (i < j)) k
  | .tup xs, .tup ys => intsD xs fun ns => intsD ys fun ms => fBool (lexB ns ms) k
  | _, _ => false
theorem bLt_ok : B2ok c X (fun x y H Q => (rI0 fun i j => .bl (decide (i < j))) x y H Q ∨ rLtT X.K x y H Q) bLt := by
  intro r F B σ H ds cs k v w d e R hv hw h
  unfold bLt at h
  split at h
  · rw [fBool_eq] at h
    exact ⟨_, h, fun Q q => .inl ⟨_, _, hv.int_inv, hw.int_inv, q⟩⟩
  · obtain ⟨a, vs, ev, h1, hs⟩ := hv.tupI
    obtain ⟨b, ws, ew, h2, ht⟩ := hw.tupI
    subst ev ew
    obtain ⟨ns, e1, h3⟩ := intsD_ok hs h
    obtain ⟨ms, e2, h4⟩ := intsD_ok ht h3
    rw [fBool_eq, lexB_eq] at h4
    subst e1 e2
    exact ⟨_, h4, fun Q q => .inr ⟨a, b, ns, ms, rfl, rfl, (h1.mono R.rc.subF).sq R.kf, (h2.mono R.rc.subF).sq R.kf, q⟩⟩
  · cases h
/-- an operator by its name: its rule, its reading -/
structure CmpO (c : Cxt) (X : Cx) (op : CmpOp) (o : B2) : Prop where
  ex : ∃ r2, OpR X (compareOp op) r2 ∧ B2ok c X r2 o
theorem Bex.u128 (bd : Bex c X k) : X.A.units + 128 < cLine := by have := bd.room.un; omega
theorem c_lt (bd : Bex c X k) : CmpO c X .Lt bLt := ⟨_, op_lt.or (op_ltT (by have := bd.u128; omega)), bLt_ok⟩
theorem c_le : CmpO c X .LtE (bI fun i j => decide (i ≤ j)) := ⟨_, op_le, bI_ok _⟩
theorem c_gt : CmpO c X .Gt (bI fun i j => decide (j < i)) := ⟨_, op_gt, bI_ok _⟩
theorem c_ge : CmpO c X .GtE (bI fun i j => decide (j ≤ i)) := ⟨_, op_ge, bI_ok _⟩
theorem c_eq (bd : Bex c X k) : CmpO c X .Eq (bEq false) := ⟨_, op_eqD (by have := bd.u128; omega), bEq_ok⟩
theorem c_ne (bd : Bex c X k) : CmpO c X .NotEq (bEq true) := ⟨_, op_neD (by have := bd.u128; omega), bNe_ok⟩
theorem c_is : CmpO c X .Is (bNone false) := ⟨_, op_isN, bNone_is⟩
theorem c_isnot : CmpO c X .IsNot (bNone true) := ⟨_, op_notN, bNone_not⟩
theorem c_in (bd : Bex c X k) : CmpO c X .In (bIn false) := ⟨_, op_inD bd.u128, bIn_ok false⟩
theorem c_notin (bd : Bex c X k) : CmpO c X .NotIn (bIn true) := ⟨_, op_notInD bd.u128, bIn_ok true⟩
theorem xe_c {op : CmpOp} {o : B2} (h : CmpO c X op o) (ha : XE c X a ma) (hb : XE c X b mb) (hm : behindInMarks op b = false := by rfl) : XE c X (.Compare a [op] [b] pos) (mCmp o ma mb) := by
  obtain ⟨r2, h1, h2⟩ := h.ex
  exact xe_cmpB h1 h2 ha hb hm
theorem xt_c {op : CmpOp} {o : B2} (h : CmpO c X op o) (ha : XE c X a ma) (hb : XE c X b mb) (hm : behindInMarks op b = false := by rfl) : XT c X (.Compare a [op] [b] pos) (tCmpM o ma mb) := by
  obtain ⟨r2, h1, h2⟩ := h.ex
  exact xt_cmpB h1 h2 ha hb hm
theorem xe_ch {op op' : CmpOp} {o o' : B2} (h : CmpO c X op o) (h' : CmpO c X op' o') (ha : XE c X a ma) (hb : XE c X b mb) (hd : XE c X d md) (hm : lastMarks [op, op'] [b, d] = false := by with_unfolding_all rfl) : XE c X (.Compare a [op, op'] [b, d] pos) (mChain o o' ma mb md) := by
  obtain ⟨r2, h1, h2⟩ := h.ex
  obtain ⟨r3, h3, h4⟩ := h'.ex
  exact xe_chain h1 h2 h3 h4 ha hb hd hm
theorem xt_ch {op op' : CmpOp} {o o' : B2} (h : CmpO c X op o) (h' : CmpO c X op' o') (ha : XE c X a ma) (hb : XE c X b mb) (hd : XE c X d md) (hm : lastMarks [op, op'] [b, d] = false := by with_unfolding_all rfl) : XT c X (.Compare a [op, op'] [b, d] pos) (tChainM o o' ma mb md) := by
  obtain ⟨r2, h1, h2⟩ := h.ex
  obtain ⟨r3, h3, h4⟩ := h'.ex
  exact xt_chain h1 h2 h3 h4 ha hb hd hm
/-! ### slices -/
/-- a part of a slice: left out, or an int -/
abbrev MO := Cal → Env → Cs → (Option Int → Cs → Bool) → KX → Bool
def tO (c : Cxt) (X : Cx) (m : MO) : TO := fun σ H Q => ∃ r F B ds cs K x, m c.cal ds cs K x = true ∧ RS c X r F B σ H ds cs ∧
  (∀ r' F' B' H' o cs', Ext r F B r' F' B' → RS c X r' F' B' σ H' ds cs' → K o cs' = true → Q o H') ∧ Xok c X r F B σ ds x
def XO (c : Cxt) (X : Cx) (e : Option Expr) (m : MO) : Prop := PO X e (tO c X m)
def mNoPart : MO := fun _ _ cs k _ => k none cs
def mPart (a : ME) : MO := fun f e cs k x => a f e cs (fun d cs1 => match d with
  | .int i => k (some i) cs1
  | _ => false) x
theorem po_imp {e : Option Expr} {t t' : TO} (h : PO X e t) (i : ∀ σ H Q, t' σ H Q → t σ H Q) : PO X e t' := ⟨fun pins s σ H Q I q => h.run pins s σ H Q I (i σ H Q q)⟩
theorem xo_none : XO c X none mNoPart := po_imp po_none fun σ H Q ⟨r, F, B, ds, cs, K, x, hm, R, k, xk⟩ => k _ _ _ _ _ _ (Ext.refl _ _ _) R hm
theorem xo_some (h : XE c X e m) : XO c X (some e) (mPart m) := po_imp (po_some h) fun σ H Q ⟨r, F, B, ds, cs, K, x, hm, R, k, xk⟩ =>
  tE.of hm R (fun r1 F1 B1 H1 v d cs1 E1 R1 hv h1 => by
    split at h1
    · exact ⟨_, hv.int_inv, k _ _ _ _ _ _ E1 R1 h1⟩
    · cases h1) xk
def sixN (n dflt : Nat) : Option Int → Nat
  | none => dflt
  | some (.ofNat v) => (match Nat.ble v n with
    | true => v
    | false => n)
  | some (.negSucc v) => n - (v + 1)
theorem sixN_eq (n dflt : Nat) : ∀ o : Option Int, sixN n dflt o = HT.sIx n dflt o
  | none => rfl
  | some (.ofNat v) => by
    unfold sixN HT.sIx
    dsimp only
    rw [if_neg (fun z : Int.ofNat v < 0 => absurd (Int.natCast_nonneg v) (Int.not_le.mpr z))]
    show _ = min v n
    cases q : Nat.ble v n with
    | true =>
      have := Nat.le_of_ble_eq_true q
      show v = min v n
      omega
    | false =>
      have : ¬ v ≤ n := fun z => by rw [Nat.ble_eq_true_of_le z] at q; cases q
      show n = min v n
      omega
  | some (.negSucc v) => by
    unfold sixN HT.sIx
    dsimp only
    rw [if_pos (by omega)]
    omega
def dropK : Nat → List D → (List D → Bool) → Bool
  | 0, xs, k => k xs
  | n + 1, xs, k => match xs with
    | [] => k []
    | _ :: r => dropK n r k
theorem dropK_eq : ∀ (n : Nat) (xs : List D) (k : List D → Bool), dropK n xs k = k (xs.drop n)
  | 0, _, _ => rfl
  | n + 1, [], k => by unfold dropK; rfl
  | n + 1, _ :: r, k => by unfold dropK; exact dropK_eq n r k
def takeK : Nat → List D → (List D → Bool) → Bool
  | 0, _, k => k []
  | n + 1, xs, k => match xs with
    | [] => k []
    | y :: r => takeK n r fun ys => k (y :: ys)
theorem takeK_eq : ∀ (n : Nat) (xs : List D) (k : List D → Bool), takeK n xs k = k (xs.take n)
  | 0, _, _ => by unfold takeK; rfl
  | n + 1, [], k => by unfold takeK; rfl
  | n + 1, y :: r, k => by unfold takeK; dsimp only; rw [takeK_eq n r]; rfl
def cutK (xs : List D) (lo hi : Option Int) (k : List D → Bool) : Bool := lenN xs 0 fun n => fNat (sixN n 0 lo) fun i => fNat (sixN n n hi - i) fun j => dropK i xs fun ys => takeK j ys k
theorem cutK_eq (xs : List D) (lo hi : Option Int) (k : List D → Bool) : cutK xs lo hi k = k ((xs.drop (HT.sIx xs.length 0 lo)).take (HT.sIx xs.length xs.length hi - HT.sIx xs.length 0 lo)) := by
  unfold cutK
  rw [lenN_eq, Nat.zero_add, fNat_eq, fNat_eq, dropK_eq, takeK_eq, sixN_eq, sixN_eq]
theorem reps_cut {G : Gs} {vs : List V} {xs : List D} (hs : Reps G r F vs xs) (lo hi : Option Int) : Reps G r F (cutV vs lo hi) ((xs.drop (HT.sIx xs.length 0 lo)).take (HT.sIx xs.length xs.length hi - HT.sIx xs.length 0 lo)) := by
  unfold cutV
  rw [hs.length]
  exact Reps.take _ (Reps.drop _ hs)
def mSlice (pol : Bool) (a : ME) (lo hi : MO) : ME := fun f e cs k x => a f e cs (fun d cs1 => lo f e cs1 (fun l cs2 => hi f e cs2 (fun h cs3 => rdSeq d cs3 fun t xs => cutK xs l h fun ys => match t with
  | true => k (.tup ys) cs3
  | false => newL pol ys cs3 k) x) x) x
theorem xe_slice (pol : Bool) {lo hi : Option Expr} {ml mh : MO} {p2 : Pos} (ha : XE c X a ma) (hl : XO c X lo ml) (hh : XO c X hi mh) : XE c X (.Subscript a (.Slice lo hi none p2) pos) (mSlice pol ma ml mh) :=
  XE.mk (pe_slice (sl_list.or sl_tupA) ha hl hh) fun r F B σ H ds cs K x Q hm R k xk => by
    refine tE.of hm R (fun r1 F1 B1 H1 v d cs1 E1 R1 hv h1 => ?_) xk
    refine ⟨r1, F1, B1, ds, cs1, _, x, h1, R1, fun r2 F2 B2 H2 l cs2 E2 R2 h2 => ?_, xk.ext E1⟩
    refine ⟨r2, F2, B2, ds, cs2, _, x, h2, R2, fun r3 F3 B3 H3 h cs3 E3 R3 h3 => ?_, xk.ext (E1.trans E2)⟩
    have hv3 := hv.ext (E2.trans E3)
    have E13 := E1.trans (E2.trans E3)
    obtain ⟨q, vs, xs, ev, hs, h4⟩ := rdSeq_ok2 R3.rc hv3 h3
    subst ev
    rcases h4 with ⟨h4, h5⟩ | ⟨h4, h5, ed⟩
    · rw [cutK_eq] at h4
      exact .inl ⟨q, vs, rfl, SqL.of h5, newL_ok R3 (k.ext E13) (reps_cut hs l h) h4⟩
    · rw [cutK_eq] at h4
      refine .inr ⟨q, vs, rfl, h5.sq R3.kf, fun ⟨w1, w2⟩ _ => ?_, fun _ => newT_ok R3 (k.ext E13) (reps_cut hs l h) h4⟩
      rw [hs.length] at w1 w2
      rw [w1, w2, List.drop_zero, Nat.sub_zero, List.take_length] at h4
      -- the whole is the tuple itself
      subst ed
      exact k _ _ _ _ _ _ _ E13 R3 hv3 h4
/-! ### the empty dict -/
theorem RL.newD {G : Gs} {T : List NTab} {bx : List Nat} (R : RL G T X bx r F B σ H ds cs) {q : Addr} (hq : H q = none) : RL G T X bx r (upd F q (.dK [])) B σ (upd H q (.dK [])) ds cs ∧ Ext r F B r (upd F q (.dK [])) B := R.newF hq trivial
def mDict0 : ME := fun _ _ cs k _ => k (.dct []) cs
theorem xe_dict0 : XE c X (.Dict [] [] pos) mDict0 := XE.mk pe_dnewK fun r F B σ H ds cs K x Q hm R k xk => fun q hq hf => by
  obtain ⟨R', E⟩ := RL.newD R hq
  exact k _ _ _ _ _ _ _ E R' (.dct upd_same .nil) hm
def mItems0 (a : ME) : ME := fun f e cs k x => a f e cs (fun d cs1 => match d with
  | .dct [] => k (.lst []) cs1
  | _ => false) x
theorem xe_items0 {apos cpos : Pos} (hc : X.calm = true) (ha : XE c X a ma) (hg : Gl X "list") (hm : X.mg "list" = none) (hbase : attributeBase a "items" X.env (eval a X.env) = eval a X.env := by rfl) (hline : (apos.endLine == cpos.line) = true := by rfl)
    (hs : starEach [.Call (.Attribute a "items" apos) [] [] cpos] X.env = (false, eval (.Call (.Attribute a "items" apos) [] [] cpos) X.env) :: starEach [] X.env := by rfl) : XE c X (.Call (.Name "list" p) [.Call (.Attribute a "items" apos) [] [] cpos] [] pos) (mItems0 ma) :=
  XE.mk (LiI.pe_listItems hc ha hg hm PyProof.Rows.boot_list hbase hline hs) fun r F B σ H ds cs K x Q hm R k xk => by
    refine tE.of hm R (fun r1 F1 B1 H1 v d cs1 E1 R1 hv h1 => ?_) xk
    split at h1
    · cases hv with
      | @dct a kvs _ h2 hs =>
        cases hs
        refine ⟨a, [], rfl, R1.rc.subF _ _ h2, fun H' q ts hk hn _ _ hl hp _ => ?_⟩
        cases hp
        obtain ⟨R2, E2⟩ := RL.adopt R1 hk hn hl trivial
        exact k _ _ _ _ _ _ _ (E1.trans E2) R2 (.lst upd_same .nil) h1
    · cases h1
/-! ### a, b = x, y with plain local names -/
def sPar (i j : Nat) (a : MA) : MS := fun f e cs k x => a f e cs (fun us cs1 => match us with
  | [u, v] => setE e i (some u) fun e1 => setE e1 j (some v) fun e2 => k.nx e2 cs1
  | _ => false) fun n fs cs1 => x n fs e cs1
theorem xs_par {i j : Nat} {y z : Str} {ma : MA} {px py pt : Pos} {kt k2 pt2} (bd : Bod c X k) (hi : X.N[i]? = some y) (hj : X.N[j]? = some z) (hij : i ≠ j) (hx : X.env.scope.names.lookup y = some .local) (hy : X.env.scope.names.lookup z = some .local) (hbi : i ∉ c.bx) (hbj : j ∉ c.bx) (ha : XA c X [a, b] ma)
    (hw : swappedStores [.Tuple [.Name y px, .Name z py] kt pt] (.Tuple [a, b] k2 pt2) X.env = pure (some [y, z])) (hs : swapsWithSole [.Tuple [.Name y px, .Name z py] kt pt] (.Tuple [a, b] k2 pt2) pos.line X.env = pure false := by rfl) :
    XS c X (.Assign [.Tuple [.Name y px, .Name z py] kt pt] (.Tuple [a, b] k2 pt2) pos) (sPar i j ma) :=
  ps_imp (ps2_of (ps_par bd.calm bd.nd hi hj hij hx hy ha hw hs)) fun D σ H ⟨r, F, B, ds, cs, k, x, hm, R, s⟩ => tA.of hm R (fun r' F' B' H' vs us cs' E R' hv h' => by
    split at h'
    · cases hv with
      | cons h1 t => cases t with
        | cons h2 t =>
          cases t
          rw [setE_eq, setE_eq] at h'
          exact ⟨_, _, rfl, s.1 _ _ _ _ _ _ _ E (RL.set (RL.set R' hbi h1) hbj h2) h'⟩
    · cases h') (XSok.at_ s.2.2.2.2 _ _)
end
end Ev

set_option Elab.async false
set_option linter.all false
set_option maxRecDepth 100000
set_option maxHeartbeats 4000000
/-! Ev19: facts of the head; the law's own def -/
namespace Ev
open PySem PySem.Spec PyProof.Rows L2 LamX NdefX

/-! ### an exception's class, by looking -/
theorem clsB_ok {K : PySem.W.Frag} {C : Addr} (h : clsB K C = true) : ∃ nm q N bs bm sn sub ab col dd k0 k1 k2 k3 k5, K.lookup C = some (excClassObj nm q C N bs bm true sn sub ab col dd k0 k1 k2 k3 k5 "ValueError.__new__") ∧ PySem.HandSPX.refsVE bm = true := by
  unfold clsB at h
  split at h
  · rename_i c dd nm bs C' bm ns qn sn sub ab col k0 k1 k2 k3 n k5 e
    obtain ⟨h1, h⟩ := Bool.and_eq_true_iff.mp h
    obtain ⟨h2, h⟩ := Bool.and_eq_true_iff.mp h
    obtain ⟨h3, h4⟩ := Bool.and_eq_true_iff.mp h
    have h1 := of_decide_eq_true h1
    have h2 := of_decide_eq_true h2
    have h3 := of_decide_eq_true h3
    subst h1 h2 h3
    exact ⟨_, _, _, _, _, _, _, _, _, _, _, _, _, _, _, e, h4⟩
  · cases h
theorem excC_of {c : Cxt} {P : Program} {w : World} {K : PySem.W.Frag} {mg : Str → Option Value} {base h : Heap} {x f : Str} {n : Nat} {fd : FuncData} (hK : K.In h) (G : h.Ns mainGlobals mg) (hb : excB K x f = true) (hc : c.cls n = .ref (He.ga K x))
    (F : FnOk P w K mg base (L2.CX P w) 1 (He.ma K (He.ga K x) "__init__") fd ["self", f] (spI (He.ga K x) f)) (b : Binds K fd ["self", f] []) : ExcC c P w K mg base x n f := by
  unfold excB at hb
  obtain ⟨h1, hb⟩ := Bool.and_eq_true_iff.mp hb
  obtain ⟨h2, hb⟩ := Bool.and_eq_true_iff.mp hb
  obtain ⟨h3, hb⟩ := Bool.and_eq_true_iff.mp hb
  obtain ⟨h4, hb⟩ := Bool.and_eq_true_iff.mp hb
  obtain ⟨h5, hb⟩ := Bool.and_eq_true_iff.mp hb
  obtain ⟨h6, hb⟩ := Bool.and_eq_true_iff.mp hb
  obtain ⟨h7, hb⟩ := Bool.and_eq_true_iff.mp hb
  obtain ⟨h8, hb⟩ := Bool.and_eq_true_iff.mp hb
  obtain ⟨h9, h10⟩ := Bool.and_eq_true_iff.mp hb
  exact ⟨_, _, _, hc, PySem.W.mg_of hK G (He.eqO_ok h10), ⟨clsB_ok h1, He.eqO_ok h2, of_decide_eq_true h3, of_decide_eq_true h4, h5⟩, xfB_ok h6, He.eqO_ok h7, He.eqO_ok h8, of_decide_eq_true h9, F, b⟩
theorem excB_oex {K : PySem.W.Frag} {x f : Str} (hb : excB K x f = true) : OexC K (He.ga K x) ∧ PySem.W.findIn K (.ref (He.ga K x)) f = some none ∧ XfC K (He.ga K x) := by
  unfold excB at hb
  obtain ⟨h1, hb⟩ := Bool.and_eq_true_iff.mp hb
  obtain ⟨h2, hb⟩ := Bool.and_eq_true_iff.mp hb
  obtain ⟨h3, hb⟩ := Bool.and_eq_true_iff.mp hb
  obtain ⟨h4, hb⟩ := Bool.and_eq_true_iff.mp hb
  obtain ⟨h5, hb⟩ := Bool.and_eq_true_iff.mp hb
  obtain ⟨h6, hb⟩ := Bool.and_eq_true_iff.mp hb
  obtain ⟨h7, hb⟩ := Bool.and_eq_true_iff.mp hb
  exact ⟨⟨clsB_ok h1, He.eqO_ok h2, of_decide_eq_true h3, of_decide_eq_true h4, h5⟩, He.eqO_ok h7, xfB_ok h6⟩
/-- the classes by their numbers -/
def clsN (K : PySem.W.Frag) (xs : List Str) : Nat → Value := fun n => match xs[n]? with
  | some x => .ref (He.ga K x)
  | none => .none
theorem apart_of {c : Cxt} {X : Cx} {xs : List Str} (h : apartB X.K xs = true) (hc : c.cls = clsN X.K xs) : ClsApart c X := by
  intro n m C hm hn
  rw [hc] at hm hn ⊢
  unfold clsN at hm hn ⊢
  cases en : xs[n]? with
  | none => rw [en] at hn; exact absurd rfl hn
  | some x =>
    cases em : xs[m]? with
    | none => rw [em] at hm; cases hm
    | some y =>
      have hn' := (List.getElem?_eq_some_iff.mp en).1
      have hm' := (List.getElem?_eq_some_iff.mp em).1
      have h1 := List.all_eq_true.mp h n (List.mem_range.mpr hn')
      have h2 := List.all_eq_true.mp h1 m (List.mem_range.mpr hm')
      rw [en, em] at h2
      exact ⟨_, of_decide_eq_true h2, by simp⟩
/-- a class that a clause names -/
theorem names_of {X : Cx} {x : Str} {h : Heap} (hg : Gl X x) (hd : (x == ("__debug__" : Str)) = false) (hm : X.mg x = some (.ref (He.ga X.K x))) : Names X x (.ref (He.ga X.K x)) := ⟨hg, hd, .inl hm⟩

/-! ### _law_stream of a law that draws nothing -/
def spS (K : PySem.W.Frag) : Sp := fun vs H Q _ => ∃ (a : Addr) (ns : List Int), vs = [.ref a] ∧ SqL K H a (ns.map V.int) ∧ ∀ v H', (∀ b o, H b = some o → H' b = some o) → Q v H'
theorem stream_body {X : Cx} {p1 p2 p3 p4 p5 p6 p7 p8 : Pos} {j1 j2 j3 : Nat} (hN : X.N[0]? = some ("script" : Str)) (hv : Vis X.env.scope "script") (hg : Gl X "list") (hm : X.mg "list" = none) {a : Addr} {ns : List Int} {H : Hp} {σ : L2.St} {D : Ends} (hs : σ[0]? = some (some (.ref a))) (hq : SqL X.K H a (ns.map V.int))
    (hD : ∀ v H', (∀ b o, H b = some o → H' b = some o) → D.rt v H')
    (h1 : starEach [.Name "script" p2] X.env = (false, eval (.Name "script" p2) X.env) :: starEach [] X.env := by rfl) (hpl : (backTo p3 (starEach [] X.env)).any (·.1) = false := by rfl) :
    ∃ t, PSs X [.Return (some (.List [.Call (.Name "list" p1) [.Name "script" p2] [] p3, .Constant (.int 0) j1 p4, .Constant (.int 0) j2 p5, .Constant (.int 17) j3 p6] p7)) p8] t ∧ t D σ H := by
  refine ⟨_, pss_one (ps_ret (pe_lst (pa_cons (pe_callTy call_list_of hg hm boot_list (pa_cons (pe_var (i := 0) hN hv) pa_nil h1) (by decide) (by decide) h1 hpl) (pa_cons pe_int (pa_cons pe_int (pa_cons pe_int pa_nil)))))), ?_⟩
  refine ⟨_, hs, a, _, rfl, .inl hq, fun l hl => ?_⟩
  refine ⟨by show 4 ≤ sizeLine; decide, fun p hp => hD _ _ fun b o h => ?_⟩
  have e1 : upd H l (.lst (ns.map V.int)) b = some o := by rw [upd_ne (ne_of_none h hl)]; exact h
  rw [upd_ne (ne_of_none e1 hp)]
  exact e1
/-! ### the law's own def -/
theorem pss_of2 {X : Cx} {sts : List Stmt} {t : TS2} (h : PSs2 X sts t) : PSs X sts (fun D σ H => t ⟨D.nx, fun v _ H => D.rt v H, D.bk, D.ct⟩ σ H) := ⟨fun pins s σ H D I q => thn (h.run pins s σ H _ I q) fun f s' z => by
  cases f with
  | next => exact z
  | brk => exact z
  | cont => exact z
  | ret u => exact z⟩
def spLaw (K : PySem.W.Frag) (T : List NTab) : Sp := fun vs H Q _ => ∃ (a : Addr) (ns : List Int), vs = [.ref a] ∧ SqL K H a (ns.map V.int) ∧ TabsN T H ∧ ∀ H', Q (.bl true) H'
def isTrue1 : D → Bool
  | .bl true => true
  | _ => false
/-- the run of the law: its boxes, its names but the first -/
def runLaw (bx : List Nat) (nl i : Nat) (m : MS) (cal : Cal) : Bool := fList (envOf [] (nl + 1)) fun e => enterB bx e ⟨0, []⟩ fun e1 cs => setE e1 i none fun e => m cal e cs ⟨fun _ _ => false, fun d _ => isTrue1 d, fun _ _ => false, fun _ _ => false⟩ fun _ _ _ _ => false
theorem law_ev0 {P : Program} {w : World} {K : PySem.W.Frag} {mg : Str → Option Value} {base : Heap} {G : Gs} {T : List NTab} {cl : Nat → Value} {cal : Cal} {k i : Nat} {f fS : Addr} {fdS : FuncData} {params : Arguments} {rest : List Stmt} {scope : Scope} {kV doc pm cdv ct oc : Value} {an od : Option Addr}
    {osl : Array (Option Value)} {N : List Str} {bx : List Nat} {nl : Nat} {m : MS} {y : Str} {p1 p2 p3 p4 p5 : Pos}
    (hGK : G.Kf = K) (lk : K.lookup f = some ⟨oc, od, .func (fdOf "law" params (.Assign [.Name y p1] (.Call (.Name "_law_stream" p2) [.Name "script" p3] [] p4) p5 :: rest) scope kV doc pm an cdv ct), osl⟩) (hcd : PySem.W.codeIn K cdv "law" = true) (S : FnScope N ["script"] scope) (hnl : N.length = 1 + nl)
    (hN0 : N[0]? = some ("script" : Str)) (hv0 : Vis scope "script") (hNi : N[i]? = some y) (hyi : L2.Loc scope y) (hib : i ∉ bx)
    (FS : FnOk P w K mg base CX0 1 fS fdS ["script"] (spS K)) (hgS : scope.names.lookup ("_law_stream" : Str) = some .globalImplicit) (hmS : mg "_law_stream" = some (.ref fS)) (hkS : PySem.W.keepIn K (.ref fS) = true) (hbS : Binds K fdS ["script"] [])
    (hbx : bx.Nodup) (h0 : 0 ∉ bx) (hk : ∀ i ∈ bx, ∃ y, N[i]? = some y ∧ scope.names.lookup y = some .cell)
    (hbody : ∀ (A : Around) (outer : List PySem.Env) (s : Shared) (H : Hp) (E : XK), Bod ⟨G, T, cal, cl, bx, fun _ _ _ _ => False⟩ (cxOf (L2.CX P w) P w K mg base N "law" scope f cdv A outer s H E) (k + 1) →
      XSs ⟨G, T, cal, cl, bx, fun _ _ _ _ => False⟩ (cxOf (L2.CX P w) P w K mg base N "law" scope f cdv A outer s H E) rest m)
    (hsw : ∀ X : Cx, swapsWith (.Call (.Name "_law_stream" p2) [.Name "script" p3] [] p4) (some (.Name y p1)) p5.line X.env = pure false)
    (hst : ∀ X : Cx, starEach [.Name "script" p3] X.env = (false, eval (.Name "script" p3) X.env) :: starEach [] X.env)
    (hrun : runLaw bx nl i m cal = true) :
    FnOk P w K mg base (L2.CX P w) (k + 2) f (fdOf "law" params (.Assign [.Name y p1] (.Call (.Name "_law_stream" p2) [.Name "script" p3] [] p4) p5 :: rest) scope kV doc pm an cdv ct) ["script"] (spLaw K T) := by
  refine ⟨fun vs H Q E ⟨a, ns, e, _⟩ => by rw [e]; rfl, fun A outer s H args us vs Q E hr e0 hb rv hsp => ?_⟩
  obtain ⟨a, ns, ev, hsq, hT, hQ⟩ := hsp
  subst ev
  have lvs : ([V.ref a] : List V).length = (["script"] : List Str).length := rfl
  have KX : K.In s.heap := e0.mod.kin.keeps fun b o e => (e0.bs b o e).1
  have lim : s.heap.NoLimit := e0.mod.nolimit.keeps fun b o e => (e0.bs b o e).1
  have hkind : ∀ y ∈ (["script"] : List Str).zip us, scope.names.lookup y.1 = some .local ∨ (scope.names.lookup y.1 = some .cell ∧ ((cellsFrom (s.heap.objs.size + 1) scope.names []).lookup y.1).isSome = true) := fun ⟨n, v⟩ hy => by
    rcases S.par n (List.of_mem_zip hy).1 with q | q
    · exact .inl q
    · exact .inr ⟨q, PySem.W.cellsFrom_some _ _ _ (.inl q)⟩
  refine codeAny_call_function hr.depth (KX _ _ lk) rfl S.co S.gen rfl (PySem.W.codeRec_of KX hcd) (hb _ _ _ _ ?_)
  refine wpAny_newFunctionEnv_cells S.kind hkind fun env he s1 x => ?_
  subst he
  refine ⟨lim.keeps x.toInCall.keep, codeAny_func ?_⟩
  have I : Inv (cxOf (L2.CX P w) P w K mg base N "law" scope f cdv A outer s H E) [] (L2.start N [V.ref a]) H s1 := inv_start S hr.hd e0 lvs rv x
  have rest_ := hbody A outer s H E
  generalize hX : cxOf (L2.CX P w) P w K mg base N "law" scope f cdv A outer s H E = X at I rest_
  have XN : X.N = N := by rw [← hX]; rfl
  have Xsc : X.env.scope = scope := by rw [← hX]; rfl
  have Xfn : ∀ x, X.fn x = true := fun x => by rw [← hX]; rfl
  have Xmg : X.mg = mg := by rw [← hX]; rfl
  have XK : X.K = K := by rw [← hX]; rfl
  have Xp : X.prog = P := by rw [← hX]; rfl
  have Xw : X.w = w := by rw [← hX]; rfl
  have Xb : X.base = base := by rw [← hX]; rfl
  have kb : ∀ i ∈ bx, ∀ y, X.N[i]? = some y → X.env.kindOf y = some .cell ∨ X.env.kindOf y = some .free := fun i hi y hy => by
    obtain ⟨y', h1, h2⟩ := hk i hi
    rw [XN, h1] at hy
    have hy := Option.some.inj hy
    rw [← hy]
    exact .inl (by show X.env.scope.names.lookup y' = _; rw [Xsc]; exact h2)
  have O : OwnX X bx := ownX_of I Xfn kb
  have Bx : Boxes X bx H := by
    have at_ : ∀ i ∈ bx, ∃ a, bAddr X i = some a ∧ H a = none := fun i hi => by
      obtain ⟨y, h1, h2⟩ := hk i hi
      obtain ⟨a, ha⟩ := I.ok.has y (.inl (by show X.env.scope.names.lookup y = _; rw [Xsc]; exact h2))
      exact ⟨a, by unfold bAddr; rw [XN, h1]; exact ha, I.freeC y a ha⟩
    refine ⟨hbx, at_, fun i hi j hj a h1 h2 => ?_⟩
    obtain ⟨y, e1, l1⟩ := bAddr_look h1
    obtain ⟨z, e2, l2⟩ := bAddr_look h2
    have := I.ok.inj y z a l1 l2
    subst this
    rw [XN] at e1 e2
    exact nodup_ix S.nd e1 e2
  have st : L2.start N [V.ref a] = some (V.ref a) :: List.replicate nl none := by unfold L2.start; rw [hnl]; simp
  unfold runLaw at hrun
  rw [fList_eq] at hrun
  have RC0 : RC G T noOwn (fun _ => none) (fun _ => none) (fun _ => none) H ⟨0, []⟩ :=
    ⟨fun _ _ h => (nomatch h), fun _ _ h => (nomatch h), fun _ _ h => (nomatch h), fun _ _ h => (nomatch h), fun _ _ _ h => (nomatch h), fun _ _ h => (nomatch h), fun _ _ => rfl, List.Pairwise.nil, fun _ _ h => (nomatch h), fun _ _ h => (nomatch h), hT, fun _ _ h => (nomatch h), fun _ _ _ h => (nomatch h)⟩
  have R0 : RL G T X [] (fun _ => none) (fun _ => none) (fun _ => none) (L2.start N [V.ref a]) H (envOf [] (nl + 1)) ⟨0, []⟩ := by
    refine ⟨by rw [noOwn_nil]; exact RC0, fun i d _ h => ?_, fun i hi => absurd hi (by simp), fun i hi => absurd hi (by simp), ?_, by rw [← hX]; exact hGK⟩
    · rw [envOf_eq, List.map_nil, List.nil_append, List.getElem?_replicate] at h
      split at h <;> cases h
    · rw [envOf_eq, st]; simp
  obtain ⟨r1, e1, cs1, E1, R1, hm1⟩ := enterB_ok (dn := []) (by rw [List.append_nil]; exact Bx) R0 hrun
  rw [List.append_nil] at R1
  have bod : Bod ⟨G, T, cal, cl, bx, fun _ _ _ _ => False⟩ X (k + 1) :=
    ⟨⟨by rw [← hX]; rfl, by rw [XN]; exact S.nd, by rw [← hX]; exact hr.deeper _, takes_none5, O⟩, by rw [← hX]; rfl, by rw [← hX]; rfl, by rw [← hX]; exact passes_of rfl⟩
  have hxs := rest_ bod
  have hr1 : Room 1 X.A := bod.room.mono (by omega)
  have s0 : PS X (.Assign [.Name y p1] (.Call (.Name "_law_stream" p2) [.Name "script" p3] [] p4) p5) (tAsg (tCall (spS K) [] E0 (tCons (tVar 0) tNil)) (gName i)) := by
    refine ps_set bod.nd (by rw [XN]; exact hNi) (by unfold L2.Loc; rw [Xsc]; exact hyi) ?_ (hsw X) (.inl (Xfn y))
    refine pe_call (CX := CX0) (fd := fdS) (ps := ["script"]) (k := 1) (ds := []) (f := fS) (by rw [Xp, Xw, XK, Xmg, Xb]; exact FS) hr1 (by show X.env.scope.names.lookup _ = _; rw [Xsc]; exact hgS) (by rw [Xmg]; exact hmS) (by rw [XK]; exact hkS) (by rw [XK]; exact hbS) .nil pass0
      (pa_cons (pe_var (i := 0) (by rw [XN]; exact hN0) (by unfold Vis; rw [Xsc]; exact hv0)) pa_nil (hst X)) (by decide) (hst X) rfl
  have fin : ∀ {σ' : L2.St} {H' : Hp} {v : V} {u : Value} {s' : Shared}, Inv X [] σ' H' s' → RelV v u → Q v H' → CE outer P w H s Q u s' := fun {σ' H' v u s'} J rv q => by
    have jb := J.base
    have hk := J.hok
    have jo := J.os
    rw [← hX] at jb hk jo
    exact ⟨v, H', jo, J.bare, jb, hk, rv, q⟩
  have run := (pss_cons s0 (pss_of2 hxs)).run [] s1 (L2.start N [V.ref a]) H { nx := fun _ _ => False, rt := fun v _ => v = .bl true } I ?_
  · rw [← hX] at run
    refine wpAny_mono run (fun fl s' hs => ?_) fun e s' hs => hs
    rw [hX] at hs
    cases fl with
    | ret u =>
      obtain ⟨v, σ', H', J, rv', q⟩ := hs
      exact fin J rv' (by rw [q]; exact hQ H')
    | next =>
      obtain ⟨_, _, _, q⟩ := hs
      exact False.elim q
    | brk =>
      obtain ⟨_, _, _, q⟩ := hs
      exact False.elim q
    | cont =>
      obtain ⟨_, _, _, q⟩ := hs
      exact False.elim q
  · refine ⟨V.ref a, by rw [st]; rfl, a, ns, rfl, hsq, fun v H' hk' => ?_⟩
    have R2 := RL.slotF (o := some v) (RL.mono R1 hk') hib
    rw [setE_eq] at hm1
    refine tS.of hm1 R2 ⟨fun _ _ _ _ _ _ _ _ _ h => (nomatch h), fun r' F' B' H2 σ' ds' cs' v2 d2 E' R' hv' h => ?_, fun _ _ _ _ _ _ _ _ _ h => (nomatch h), fun _ _ _ _ _ _ _ _ _ h => (nomatch h), fun _ _ _ _ _ _ _ _ _ _ _ _ _ _ h => (nomatch h)⟩
    have h : isTrue1 d2 = true := h
    unfold isTrue1 at h
    split at h
    · cases hv'; rfl
    · cases h
end Ev

set_option Elab.async false
set_option linter.all false
set_option maxRecDepth 100000
set_option maxHeartbeats 4000000
/-! Ev20: level by level; places in a text -/
namespace Ev
open PySem PySem.Spec PyProof.Rows L2 LamX NdefX

/-! ### places in a text -/
def exD : Expr := .Constant .none 0 ⟨0, 0, 0, 0⟩
def exK : Expr → Nat → Expr
  | .Call f as ks _, n => (match n with
    | 0 => f
    | n + 1 => (as ++ ks.map (·.value)).getD n exD)
  | .List es _, n => es.getD n exD
  | .Tuple es _ _, n => es.getD n exD
  | .BinOp a _ b _, n => (match n with
    | 0 => a
    | _ => b)
  | .BoolOp _ vs _, n => vs.getD n exD
  | .UnaryOp _ a _, _ => a
  | .Compare a _ bs _, n => (match n with
    | 0 => a
    | n + 1 => bs.getD n exD)
  | .IfExp t a b _, n => (match n with
    | 0 => t
    | 1 => a
    | _ => b)
  | .Subscript a b _, n => (match n with
    | 0 => a
    | _ => b)
  | .Attribute a _ _, _ => a
  | .Lambda _ b _ _, _ => b
  | .ListComp b _ _ _, _ => b
  | _, _ => exD
def exP : Expr → List Nat → Expr
  | e, [] => e
  | e, n :: p => exP (exK e n) p
def stE : Stmt → Expr
  | .Assign _ e _ => e
  | .Return (some e) _ => e
  | .Expr e _ => e
  | .If t _ _ _ => t
  | .While t _ _ _ => t
  | .For _ e _ _ _ => e
  | .AugAssign _ _ e _ => e
  | _ => exD
def stB : Stmt → List Stmt
  | .If _ a b _ => a ++ b
  | .For _ _ b _ _ => b
  | .While _ b _ _ => b
  | .FunctionDef _ _ b _ _ _ _ _ _ _ => b
  | .Try b _ _ _ _ => b
  | _ => []
def stP : Stmt → List Nat → Stmt
  | s, [] => s
  | s, n :: p => stP ((stB s).getD n s) p
def lamP : Expr → Arguments
  | .Lambda p _ _ _ => p
  | _ => ⟨[], [], none, [], [], none, []⟩
def lamE : Expr → Expr
  | .Lambda _ b _ _ => b
  | e => e
def lamS : Expr → Scope
  | .Lambda _ _ s _ => s
  | _ => ⟨.function, [], false, false, []⟩

/-! ### from one level to the next -/
abbrev Cxt.at0 (G : Gs) (T : List NTab) (cal : Cal) (cl : Nat → Value) : Cxt := ⟨G, T, cal, cl, [], fun _ _ _ _ => False⟩
theorem CalF.to {G : Gs} {T : List NTab} {cal : Cal} {cl : Nat → Value} {bx bx' : List Nat} {W W' : WX} {P : Program} {w : World} {K : PySem.W.Frag} {mg : Str → Option Value} {base : Heap} {k g : Nat} {x : Str} {ps : List Str} {pa : Arguments}
    (h : CalF ⟨G, T, cal, cl, bx, W⟩ P w K mg base k x g ps pa) : CalF ⟨G, T, cal, cl, bx', W'⟩ P w K mg base k x g ps pa := ⟨h.ex⟩
theorem LamP.to {G : Gs} {T : List NTab} {cal : Cal} {cl : Nat → Value} {bx bx' : List Nat} {W W' : WX} {P : Program} {w : World} {K : PySem.W.Frag} {mg : Str → Option Value} {base : Heap} {k : Nat}
    (h : LamP ⟨G, T, cal, cl, bx, W⟩ P w K mg base k) : LamP ⟨G, T, cal, cl, bx', W'⟩ P w K mg base k := ⟨h.run⟩
theorem ExcC.to {G : Gs} {T : List NTab} {cal cal' : Cal} {cl : Nat → Value} {bx bx' : List Nat} {W W' : WX} {P : Program} {w : World} {K : PySem.W.Frag} {mg : Str → Option Value} {base : Heap} {x f : Str} {n : Nat}
    (h : ExcC ⟨G, T, cal, cl, bx, W⟩ P w K mg base x n f) : ExcC ⟨G, T, cal', cl, bx', W'⟩ P w K mg base x n f := ⟨h.ex⟩
/-- the bottom: nothing is promised -/
def cal0 : Cal := ⟨fun _ _ _ _ _ => false, fun _ _ _ _ _ _ _ => false⟩
section
variable {G : Gs} {T : List NTab} {cl : Nat → Value} {P : Program} {w : World} {K : PySem.W.Frag} {mg : Str → Option Value} {base h : Heap} {k g : Nat} {x : Str} {ps : List Str} {pa : Arguments}
theorem cal_bot {body : List Stmt} {scope : Scope} {f : Addr} {fd : FuncData} (F : FunD K x x pa body scope [] [] f fd) (hmg : mg x = some (.ref f)) : CalF (Cxt.at0 G T cal0 cl) P w K mg base k x g ps pa := by
  obtain ⟨oc, od, dV, kV, doc, pm, an, cdv, ct, osl, rfl, lk, hcd, hD, _⟩ := F.ex
  rcases hD with ⟨_, e⟩ | ⟨e, _⟩
  · subst e
    exact ⟨f, body, scope, kV, doc, pm, an, cdv, ct, ⟨fun vs H Q E ⟨_, _, _, _, _, _, _, _, z, _⟩ => (nomatch z), fun A outer s H args us vs Q E _ _ _ _ ⟨_, _, _, _, _, _, _, _, z, _⟩ => (nomatch z)⟩, hmg, F.kp⟩
  · exact absurd rfl e
theorem lam_bot : LamP (Cxt.at0 G T cal0 cl) P w K mg base k := ⟨fun _ _ _ _ _ _ _ _ _ _ _ _ _ _ _ _ _ _ _ _ _ _ _ z => nomatch z⟩
theorem cal_ev {cal cal' : Cal} {body : List Stmt} {scope : Scope} {fd : FuncData} {N : List Str} {bx : List Nat} {nl : Nat} {tr : Bool} {m : MS} (hGK : G.Kf = K) (F : FunD K x x pa body scope [] [] (He.fAd K (x, none)) fd) (hmg : mg x = some (.ref (He.fAd K (x, none)))) (S : FnScope N ps scope) (hnl : N.length = ps.length + nl)
    (hbx : bx.Nodup) (hk : ∀ i ∈ bx, ∃ y, N[i]? = some y ∧ scope.names.lookup y = some .cell) (hcal : ∀ us cs K x, cal'.fn g us cs K x = true → runF bx nl tr m cal us cs K x = true)
    (hbody : ∀ (cdv : Value) (W : WX) (A : Around) (outer : List PySem.Env) (s : Shared) (H : Hp) (E : XK), cdv = .ref (He.codeOf K (x, none)) → Bod ⟨G, T, cal, cl, bx, W⟩ (cxOf (L2.CX P w) P w K mg base N x scope (He.fAd K (x, none)) cdv A outer s H E) k →
      XSs ⟨G, T, cal, cl, bx, W⟩ (cxOf (L2.CX P w) P w K mg base N x scope (He.fAd K (x, none)) cdv A outer s H E) body m) :
    CalF (Cxt.at0 G T cal' cl) P w K mg base (k + 1) x g ps pa := by
  obtain ⟨oc, od, dV, kV, doc, pm, an, cdv, ct, osl, rfl, lk, hcd, hD, _⟩ := F.ex
  rcases hD with ⟨_, e⟩ | ⟨e, _⟩
  · subst e
    have hcdv : cdv = .ref (He.codeOf K (x, none)) := by
      obtain ⟨c, e⟩ := He.codeIn_ref hcd
      rw [He.codeOf_eq (p := (x, none)) lk e]
      exact e
    exact ⟨_, body, scope, kV, doc, pm, an, cdv, ct, fn_ev hGK lk hcd S hnl hbx hk hcal fun W A outer s H E bd => hbody cdv W A outer s H E hcdv bd, hmg, F.kp⟩
  · exact absurd rfl e
/-- an exception's class, number n -/
theorem exc_ev {c : Cxt} {f : Str} {n : Nat} {params : Arguments} {scope : Scope} {q : Str} {fd : FuncData} {p1 p2 p3 p4 : Pos} (hK : K.In h) (G : h.Ns mainGlobals mg) (hb : excB K x f = true) (hc : c.cls n = .ref (He.ga K x))
    (F : FunD K "__init__" q params [.Assign [.Attribute (.Name "self" p1) f p2] (.Name f p3) p4] scope [] [] (He.fAd K (x, some "__init__")) fd) (S : FnScope ["self", f] ["self", f] scope) (h0 : scope.names.lookup ("self" : Str) = some .local) (h1 : scope.names.lookup f = some .local)
    (hbi : ∀ (kV doc pm : Value) (an : Option Addr) (cdv ct : Value) (us : List Value), us.length = 2 → bindArgs (PySem.W.fnOf "__init__" q params [.Assign [.Attribute (.Name "self" p1) f p2] (.Name f p3) p4] scope .none kV doc pm an cdv ct) ⟨us, []⟩ = pure ((["self", f] : List Str).zip us))
    (hd : (f == ("__debug__" : Str)) = false) (hd2 : (f == ("__classdict__" : Str)) = false) : ExcC c P w K mg base x n f := by
  obtain ⟨o1, o2, o3⟩ := excB_oex hb
  obtain ⟨oc, od, dV, kV, doc, pm, an, cdv, ct, osl, rfl, lk, hcd, hD, _⟩ := F.ex
  rcases hD with ⟨_, e⟩ | ⟨e, _⟩
  · subst e
    exact excC_of hK G hb hc (init_ok lk hcd S o1 o2 h0 h1 hd hd2) (Binds.all fun us hl => hbi kV doc pm an cdv ct us hl)
  · exact absurd rfl e
/-- _law_stream -/
theorem str_ev {f : Addr} {fd : FuncData} {scope : Scope} {N : List Str} {p1 p2 p3 p4 p5 p6 p7 p8 : Pos} {j1 j2 j3 : Nat} (F : FunD K "_law_stream" "_law_stream" pa [.Return (some (.List [.Call (.Name "list" p1) [.Name "script" p2] [] p3, .Constant (.int 0) j1 p4, .Constant (.int 0) j2 p5, .Constant (.int 17) j3 p6] p7)) p8] scope [] [] f fd)
    (S : FnScope ["script"] ["script"] scope) (hv : Vis scope "script") (hg : scope.names.lookup ("list" : Str) = some .globalImplicit) (hm : mg "list" = none)
    (hs : ∀ X : Cx, starEach [.Name "script" p2] X.env = (false, eval (.Name "script" p2) X.env) :: starEach [] X.env) : FnOk P w K mg base CX0 1 f fd ["script"] (spS K) :=
  F.ok S (fun vs H Q E ⟨a, ns, e, _⟩ => by rw [e]; rfl) fun cdv A outer s H vs Q E hr ⟨a, ns, e, hq, hD⟩ => by
    subst e
    exact stream_body (X := cxOf CX0 P w K mg base ["script"] "_law_stream" scope f cdv A outer s H E) rfl hv hg hm rfl hq hD (hs _)
end
theorem isB_ne {T : Ty} : T.nm ≠ "NoneType" ∨ T.nm = "NoneType" := by cases T <;> first | exact .inl (by decide) | exact .inr rfl
end Ev

set_option Elab.async false
set_option linter.all false
set_option maxRecDepth 100000
set_option maxHeartbeats 4000000
/-! Ev21: the rules again, as a printer wants them -/
namespace Ev
open PySem PySem.Spec PyProof.Rows L2 LamX NdefX
def visB (sc : Scope) (x : Str) : Bool := match sc.names.lookup x with
  | some .local => true
  | some .cell => true
  | some .free => true
  | _ => false
def locB (sc : Scope) (x : Str) : Bool := match sc.names.lookup x with
  | some .local => true
  | some .cell => true
  | _ => false
def fnB (X : Cx) (x : Str) : Bool := X.fn x || (match X.env.scope.names.lookup x with
  | some .local => true
  | _ => false)
theorem vis_b {sc : Scope} {x : Str} (h : visB sc x = true) : Vis sc x := by
  unfold visB at h
  split at h
  · exact .inl ‹_›
  · exact .inr (.inl ‹_›)
  · exact .inr (.inr ‹_›)
  · cases h
theorem loc_b {sc : Scope} {x : Str} (h : locB sc x = true) : L2.Loc sc x := by
  unfold locB at h
  split at h
  · exact .inl ‹_›
  · exact .inr ‹_›
  · cases h
theorem fn_b {X : Cx} {x : Str} (h : fnB X x = true) : X.fn x = true ∨ X.env.scope.names.lookup x = some .local := by
  unfold fnB at h
  rcases Bool.or_eq_true_iff.mp h with h | h
  · exact .inl h
  · split at h
    · exact .inr ‹_›
    · cases h
theorem mem_b {i : Nat} {l : List Nat} (h : l.contains i = true) : i ∈ l := by simpa using h
theorem nmem_b {i : Nat} {l : List Nat} (h : l.contains i = false) : i ∉ l := by simpa using h
section
variable {c : Cxt} {X : Cx} {e a b : Expr} {pos pos' : Pos} {k i : Nat} {y : Str} {m : ME} {vs : List Nat}
theorem xe_v (i : Nat) (hN : X.N[i]? = some y := by rfl) (hv : visB X.env.scope y = true := by rfl) (hb : c.bx.contains i = false := by rfl) (hd : (y == ("__debug__" : Str)) = false := by rfl) (hcd : (y == ("__classdict__" : Str)) = false := by rfl) : XE c X (.Name y pos) (mVar i) :=
  xe_var hN (vis_b hv) (nmem_b hb) hd hcd
theorem xe_vB (i : Nat) (hN : X.N[i]? = some y := by rfl) (hv : visB X.env.scope y = true := by rfl) (hb : c.bx.contains i = true := by rfl) (hd : (y == ("__debug__" : Str)) = false := by rfl) (hcd : (y == ("__classdict__" : Str)) = false := by rfl) : XE c X (.Name y pos) (mVarB i) :=
  xe_varB hN (vis_b hv) (mem_b hb) hd hcd
theorem xg_v (bd : Bex c X k) (i : Nat) (hN : X.N[i]? = some y := by rfl) (hv : locB X.env.scope y = true := by rfl) (hf : fnB X y = true := by rfl) (hb : c.bx.contains i = false := by rfl) : XG c X (.Name y pos) (gVar i) :=
  xg_var bd.nd hN (loc_b hv) (fn_b hf) (nmem_b hb)
theorem xg_vB (bd : Bex c X k) (i : Nat) (hN : X.N[i]? = some y := by rfl) (hv : locB X.env.scope y = true := by rfl) (hf : fnB X y = true := by rfl) (hb : c.bx.contains i = true := by rfl) : XG c X (.Name y pos) (gVarB i) :=
  xg_varB bd.nd hN (loc_b hv) (fn_b hf) (mem_b hb)
theorem xgw_v (bd : Bex c X k) (i : Nat) (hN : X.N[i]? = some y := by rfl) (hv : locB X.env.scope y = true := by rfl) (hf : fnB X y = true := by rfl) (hi : vs.contains i = true := by rfl) (hb : c.bx.contains i = false := by rfl) : XGw c X vs (.Name y pos) (gVar i) :=
  xgw_var bd.nd hN (loc_b hv) (fn_b hf) (mem_b hi) (nmem_b hb)
theorem xs_v (bd : Bex c X k) (i : Nat) (he : XE c X e m) (hN : X.N[i]? = some y := by rfl) (hv : locB X.env.scope y = true := by rfl) (hf : fnB X y = true := by rfl) (hb : c.bx.contains i = false := by rfl) (hs : swapsWith e (some (.Name y pos')) pos.line X.env = pure false := by rfl) :
    XS c X (.Assign [.Name y pos'] e pos) (sAsg m (gVar i)) := xs_set bd.nd hN (loc_b hv) (fn_b hf) (nmem_b hb) he hs
theorem xs_vB (bd : Bex c X k) (i : Nat) (he : XE c X e m) (hN : X.N[i]? = some y := by rfl) (hv : locB X.env.scope y = true := by rfl) (hf : fnB X y = true := by rfl) (hb : c.bx.contains i = true := by rfl) (hs : swapsWith e (some (.Name y pos')) pos.line X.env = pure false := by rfl) :
    XS c X (.Assign [.Name y pos'] e pos) (sAsg m (gVarB i)) := xs_setB bd.nd hN (loc_b hv) (fn_b hf) (mem_b hb) he hs
/-- the names of a lambda's list of texts -/
abbrev LTab := List (Nat × Nat × LTxt)
def lamFind : LTab → Nat → Nat → Option LTxt
  | [], _, _ => none
  | (l, c, t) :: r, l', c' => match Nat.beq l l' && Nat.beq c c' with
    | true => some t
    | false => lamFind r l' c'
theorem lamFind_all {P : Nat → Nat → LTxt → Prop} : ∀ {tb : LTab}, (∀ p ∈ tb, P p.1 p.2.1 p.2.2) → ∀ l c t, lamFind tb l c = some t → P l c t
  | [], _, _, _, _, h => nomatch h
  | (l, c, t) :: r, H, l', c', t', h => by
    unfold lamFind at h
    split at h
    · rename_i e
      obtain ⟨e1, e2⟩ := Bool.and_eq_true_iff.mp e
      have e1 := Nat.eq_of_beq_eq_true e1
      have e2 := Nat.eq_of_beq_eq_true e2
      subst e1 e2
      cases h
      exact H _ List.mem_cons_self
    · exact lamFind_all (fun p hp => H p (List.mem_cons_of_mem _ hp)) l' c' t' h
/-- a def that is never called -/
theorem cal_no {G : Gs} {T : List NTab} {cl : Nat → Value} {P : Program} {w : World} {K : PySem.W.Frag} {mg : Str → Option Value} {base : Heap} {k g : Nat} {x : Str} {ps : List Str} {pa : Arguments} {cal : Cal}
    {body : List Stmt} {scope : Scope} {f : Addr} {fd : FuncData} (F : FunD K x x pa body scope [] [] f fd) (hmg : mg x = some (.ref f)) (hn : ∀ us cs Kx xx, cal.fn g us cs Kx xx = false) : CalF (Cxt.at0 G T cal cl) P w K mg base k x g ps pa := by
  obtain ⟨oc, od, dV, kV, doc, pm, an, cdv, ct, osl, rfl, lk, hcd, hD, _⟩ := F.ex
  rcases hD with ⟨_, e⟩ | ⟨e, _⟩
  · subst e
    exact ⟨f, body, scope, kV, doc, pm, an, cdv, ct, ⟨fun vs H Q E ⟨_, _, _, _, _, _, _, _, z, _⟩ => absurd z (by rw [hn]; simp), fun A outer s H args us vs Q E _ _ _ _ ⟨_, _, _, _, _, _, _, _, z, _⟩ => absurd z (by rw [hn]; simp)⟩, hmg, F.kp⟩
  · exact absurd rfl e
/-- a list read by its places -/
theorem get_some {α : Type} {l : List α} {i : Nat} {x : α} (h : l[i]? = some x) : x ∈ l := List.mem_of_getElem? h
theorem tab_uniq {T : List NTab} {P : Addr} {nm : Nat → Nat → Str} (hn : (T.map (·.1)).Nodup) (h : (P, nm) ∈ T) : ∀ p ∈ T, p.1 = P → p.2 = nm := by
  intro p hp e
  induction T with
  | nil => cases h
  | cons q r ih =>
    rw [List.map_cons, List.nodup_cons] at hn
    rcases List.mem_cons.mp h with h1 | h1 <;> rcases List.mem_cons.mp hp with h2 | h2
    · rw [h2, ← h1]
    · exact absurd (List.mem_map.mpr ⟨p, h2, by rw [e, ← h1]⟩) hn.1
    · exact absurd (List.mem_map.mpr ⟨_, h1, by rw [← h2, e]⟩) hn.1
    · exact ih hn.2 h1 h2
end
end Ev

set_option Elab.async false
set_option linter.all false
set_option maxRecDepth 100000
set_option maxHeartbeats 4000000
/-! Ev22: the printer's ends -/
namespace Ev
open PySem PySem.Spec PyProof.Rows L2 LamX NdefX
def hkB (bx : List Nat) (N : List Str) (sc : Scope) : Bool := bx.all fun i => match N[i]? with
  | some y => decide (sc.names.lookup y = some .cell)
  | none => false
theorem hk_of {bx : List Nat} {N : List Str} {sc : Scope} (h : hkB bx N sc = true) : ∀ i ∈ bx, ∃ y, N[i]? = some y ∧ sc.names.lookup y = some .cell := fun i hi => by
  have h1 := List.all_eq_true.mp h i hi
  cases e : N[i]? with
  | none => rw [e] at h1; cases h1
  | some y => rw [e] at h1; exact ⟨y, rfl, of_decide_eq_true h1⟩
section
variable {c : Cxt} {X : Cx}
theorem xe_lamB {nm : Nat → Nat → Str} {cc P : Addr} {params : Arguments} {body : Expr} {scope : Scope} {pos : Pos} {js : List Nat} {fr : List Str} {sc : Scope} (TB : TabB X.base X.mg cc P) (hcode : X.env.code = .ref cc) (hm : (P, nm) ∈ c.T) (hn : nm pos.line pos.col = X.env.qual ++ "<lambda>")
    (hu : (c.T.map (·.1)).Nodup) (hsc : X.env.scope = sc) (hl : lamB sc scope fr = true) (hjs : js.map (fun j => X.N[j]?) = fr.map some) (hjb : (js.all fun j => c.bx.contains j) = true) (hG : c.G.lam pos.line pos.col = some ⟨X.env.qual ++ "<lambda>", params, body, scope, fr⟩)
    (hdef : defaultsOf params X.env = ([], []) := by rfl) : XE c X (.Lambda params body scope pos) (mLam pos.line pos.col js) :=
  xe_lam (q := ("" : Str)) TB hcode hm hn (tab_uniq hu hm) hsc hl hjs (fun j hj => mem_b (List.all_eq_true.mp hjb j hj)) hG hdef
/-- the code object that a def's datum names -/
theorem code_of {K : PySem.W.Frag} {x : Str} {f : Addr} {oc cdv : Value} {od : Option Addr} {fd : FuncData} {osl : Array (Option Value)} {q : Str} (hf : f = He.fAd K (x, none)) (lk : K.lookup f = some ⟨oc, od, .func fd, osl⟩) (hc : fd.code = cdv) (hcd : PySem.W.codeIn K cdv q = true) : cdv = .ref (He.codeOf K (x, none)) := by
  obtain ⟨c, e⟩ := He.codeIn_ref hcd
  subst hf
  rw [He.codeOf_eq (p := (x, none)) lk (hc.trans e)]
  exact e
/-- a law's walk that draws nothing, by its tables -/
theorem lawAt_of {l : PySem.W.OpenLaw} {w : World} {K : PySem.W.Frag} {k n : Nat} {mg : Str → Option Value} {fa : Addr} {h : Heap} {tf : List He.Defn} {T : List NTab} {fd : FuncData} (hT : ∀ p ∈ tf, h.get? (He.cT K p).2 = some { cls := .none, data := .fields #[] }) (nT : ∀ p ∈ tf, K.lookup (He.cT K p).2 = none) (KX : K.In h)
    (C : ∀ p ∈ tf, PySem.W.codeHdIn K (He.cT K p).1 (He.cT K p).2 = true) (hb : ∀ (s : Shared) (u : Value), BindsTo s fd ⟨[u], []⟩ [("script", u)]) (hTT : T.map (·.1) = tf.map (fun p => (He.cT K p).2))
    (F : ∀ base : Heap, K.In base → base.Ns mainGlobals mg → (∀ p ∈ tf, TabB base mg (He.cT K p).1 (He.cT K p).2) → FnOk l.prog w K mg base (L2.CX l.prog w) k fa fd ["script"] (spLaw K T)) : LawAtS l w K (L2.CX l.prog w) k n "script" mg fa h := by
  have tab : ∀ {Q : Addr × Addr → Prop}, (∀ p ∈ tf, Q (He.cT K p)) → ∀ p ∈ tf.map (He.cT K), Q p := fun H p hp => by
    obtain ⟨q, hq, rfl⟩ := List.mem_map.mp hp
    exact H q hq
  refine ⟨fd, tf.map (He.cT K), spLaw K T, tab hT, tab nT, tab (Q := fun p => PySem.W.CodeHd h p.1 p.2) fun p hp => PySem.W.codeHd_of_K KX (C p hp), hb, fun H a ns _ _ hH hS => ⟨a, ns, rfl, hS, fun p hp => ?_, fun _ => rfl⟩, fun base hK hN hB => F base hK hN fun p hp => hB _ (List.mem_map_of_mem hp)⟩
  have : p.1 ∈ T.map (·.1) := List.mem_map_of_mem hp
  rw [hTT] at this
  obtain ⟨q, hq, e⟩ := List.mem_map.mp this
  rw [← e]
  exact TabN.nil (hH _ (List.mem_map_of_mem hq))
end
end Ev

set_option Elab.async false
set_option linter.all false
set_option maxRecDepth 100000
set_option maxHeartbeats 4000000
/-! Ev23: the draw -/
namespace Ev
open PySem PySem.Spec PyProof.Rows L2 LamX NdefX

/-! ### what _law_draw reads as -/
section
variable (K : PySem.W.Frag)
def tIxC (i : Int) : TE := tOp (rIxL K) (tVar 0) (tC (.int i))
def tSetC (i : Int) (te : TE) : TS := tAsg te (gSub (tVar 0) (tC (.int i)) rSetL)
abbrev rAdd : R2 := rI0 fun i j => .int (i + j)
abbrev rMul : R2 := rI CMul fun i j => .int (i * j)
abbrev rModN : R2 := rI (fun _ j => j ≠ 0) fun i j => .int (i.fmod j)
abbrev rPow : R2 := rI CPow fun i j => .int (i ^ j.toNat)
abbrev rDivN : R2 := rI CDivN fun i j => .int (i.fdiv j)
abbrev rAbs1 : List V → Hp → VK → Prop := fun xs H Q => ∃ i, xs = [.int i] ∧ Q (.int (if i < 0 then -i else i)) H
abbrev rInt1 : List V → Hp → VK → Prop := fun xs H Q => (∃ i, xs = [.int i] ∧ Q (.int i) H) ∨ ∃ k, xs = [.bl k] ∧ Q (.int (if k then 1 else 0)) H
abbrev tInt1 (t : TE) : TE := tCB rInt1 (tCons t tNil)
abbrev rGt : R2 := rI0 fun i j => .bl (decide (j < i))
abbrev rGe : R2 := rI0 fun i j => .bl (decide (j ≤ i))
def d_one : TS := tSetC 2 (tOp rAdd (tIxC K 2) (tC (.int 1)))
def d_test : TT := tAnd (tTest (tOp rEq (tIxC K 1) (tC (.int 0)))) (tTest (tOp (rNeD K) (tIxC K 0) (tLst tNil)))
def d_pop : TS := tAsg (tCB rAbs1 (tCons (tBM K "list" rPopAt (tIxC K 0) (tCons (tC (.int 0)) tNil)) tNil)) (gName 2)
def d_mul : TS := tSetC 3 (tOp rModN (tInt1 (tOp rAdd (tOp rAdd (tOp rMul (tIxC K 3) (tC (.int 8191))) (tVar 2)) (tC (.int 3)))) (tC (.int 2147483647)))
def d_put : TS := tSetC 1 (tIf (tTest (tOp rGe (tVar 2) (tOp rPow (tC (.int 10)) (tC (.int 18))))) (tVar 2) (tC (.int 0)))
def d_loop : TS := tWhile (d_test K) (tSeq (d_pop K) (tSeq (d_mul K) d_put))
def d_if : TS := tIfS (tTest (tOp rGt (tIxC K 1) (tC (.int 0)))) (tSeq (tAsg (tOp rModN (tInt1 (tIxC K 1)) (tVar 1)) (gName 3)) (tSeq (tSetC 1 (tOp rDivN (tIxC K 1) (tVar 1))) (tRet (tVar 3)))) tNext
def d_mix : TS := tAsg (tOp rModN (tInt1 (tOp rPow (tOp rAdd (tOp rAdd (tIxC K 3) (tOp rMul (tC (.int 7919)) (tIxC K 2))) (tC (.int 104729))) (tC (.int 5)))) (tC (.int 2147483629))) (gName 4)
def d_end : TS := tRet (tOp rModN (tOp rModN (tInt1 (tOp rPow (tOp rAdd (tOp rAdd (tOp rMul (tVar 4) (tC (.int 48271))) (tOp rMul (tC (.int 30011)) (tIxC K 2))) (tC (.int 29))) (tC (.int 3)))) (tC (.int 1000000007))) (tVar 1))
def t_draw : TS := tSeq (d_one K) (tSeq (d_loop K) (tSeq (d_if K) (tSeq (d_mix K) (d_end K))))
end
/-! ### what it does -/
abbrev L4 (b : Addr) (x y z : Int) : HO := .lst [.ref b, .int x, .int y, .int z]
def KeptOff (a b : Addr) (H H' : Hp) : Prop := ∀ c o, c ≠ a → c ≠ b → H c = some o → H' c = some o
theorem KeptOff.refl {a b : Addr} {H : Hp} : KeptOff a b H H := fun _ _ _ _ h => h
theorem KeptOff.trans {a b : Addr} {H H1 H2 : Hp} (h : KeptOff a b H H1) (k : KeptOff a b H1 H2) : KeptOff a b H H2 := fun c o n m e => k c o n m (h c o n m e)
theorem KeptOff.updA {a b : Addr} {H : Hp} {o : HO} : KeptOff a b H (upd H a o) := fun c o n m e => by rw [upd_ne n]; exact e
theorem KeptOff.updB {a b : Addr} {H : Hp} {o : HO} : KeptOff a b H (upd H b o) := fun c o n m e => by rw [upd_ne m]; exact e
theorem KeptOff.new {a b p : Addr} {H : Hp} {o : HO} (hp : H p = none) : KeptOff a b H (upd H p o) := fun c o n m e => by rw [upd_ne (ne_of_none e hp)]; exact e
structure Strm (a b : Addr) (H : Hp) (ns : List Int) (x y z : Int) : Prop where
  ha : H a = some (L4 b x y z)
  hb : H b = some (.lst (ns.map V.int))
  ne : a ≠ b
  hx : 0 ≤ x
  hz : 0 ≤ z
  zm : z < 2147483647
structure Fr (a : Addr) (n : Int) (σ : L2.St) : Prop where
  s0 : σ[0]? = some (some (.ref a))
  s1 : σ[1]? = some (some (.int n))
  len : σ.length = 5
section
variable {K : PySem.W.Frag} {a b : Addr} {n x y z : Int} {σ : L2.St} {H : Hp} {ns : List Int} {D : Ends} {Q : VK}
theorem Fr.set {i : Nat} {v : Option V} (h : Fr a n σ) (hi : 2 ≤ i) : Fr a n (σ.set i v) :=
  ⟨by rw [List.getElem?_set_ne (by omega)]; exact h.s0, by rw [List.getElem?_set_ne (by omega)]; exact h.s1, by rw [List.length_set]; exact h.len⟩
theorem Fr.got {i : Nat} {v : Option V} (h : Fr a n σ) (hi : i < 5) : (σ.set i v)[i]? = some v := List.getElem?_set_self (by rw [h.len]; exact hi)
theorem tIxC_ok {vs : List V} {i : Int} {v : V} (h0 : σ[0]? = some (some (.ref a))) (ha : H a = some (.lst vs)) (hi : atI vs i = some v) (q : Q v H) : tIxC K i σ H Q := ⟨_, h0, a, vs, i, v, rfl, rfl, SqL.of ha, hi, q⟩
theorem gSub_ok {vs : List V} {i : Int} {j : Nat} {v : V} {Q : L2.St → Hp → Prop} (h0 : σ[0]? = some (some (.ref a))) (ha : H a = some (.lst vs)) (hi : ixN vs.length i = some j) (q : Q σ (upd H a (.lst (vs.set j v)))) : gSub (tVar 0) (tC (.int i)) rSetL v σ H Q :=
  ⟨_, h0, a, vs, i, j, rfl, rfl, ha, hi, q⟩
theorem tVar_ok {i : Nat} {v : V} (h : σ[i]? = some (some v)) (q : Q v H) : tVar i σ H Q := ⟨v, h, q⟩
theorem Strm.setX {x' : Int} (h : Strm a b H ns x y z) (hx : 0 ≤ x') : Strm a b (upd H a (L4 b x' y z)) ns x' y z := ⟨upd_same, by rw [upd_ne (Ne.symm h.ne)]; exact h.hb, h.ne, hx, h.hz, h.zm⟩
theorem Strm.setY {y' : Int} (h : Strm a b H ns x y z) : Strm a b (upd H a (L4 b x y' z)) ns x y' z := ⟨upd_same, by rw [upd_ne (Ne.symm h.ne)]; exact h.hb, h.ne, h.hx, h.hz, h.zm⟩
theorem Strm.setZ {z' : Int} (h : Strm a b H ns x y z) (hz : 0 ≤ z') (hm : z' < 2147483647) : Strm a b (upd H a (L4 b x y z')) ns x y z' := ⟨upd_same, by rw [upd_ne (Ne.symm h.ne)]; exact h.hb, h.ne, h.hx, hz, hm⟩
theorem Strm.new {p : Addr} {o : HO} (h : Strm a b H ns x y z) (hp : H p = none) : Strm a b (upd H p o) ns x y z :=
  ⟨by rw [upd_ne (ne_of_none h.ha hp)]; exact h.ha, by rw [upd_ne (ne_of_none h.hb hp)]; exact h.hb, h.ne, h.hx, h.hz, h.zm⟩
theorem d_one_ok (f : Fr a n σ) (h : Strm a b H ns x y z) (q : ∀ H', Strm a b H' ns x (y + 1) z → KeptOff a b H H' → D.nx σ H') : d_one K D σ H :=
  tIxC_ok f.s0 h.ha rfl ⟨y, 1, rfl, rfl, gSub_ok f.s0 h.ha rfl (q _ h.setY KeptOff.updA)⟩
theorem CMul_r {i j : Int} (h1 : -1000000 < j) (h2 : j < 1000000) : CMul i j := .inr (by
  have : (2 : Int) ^ 64 = 18446744073709551616 := by decide
  omega)
theorem CMul_l {i j : Int} (h1 : -1000000 < i) (h2 : i < 1000000) : CMul i j := .inl (by
  have : (2 : Int) ^ 64 = 18446744073709551616 := by decide
  omega)
theorem fmod_rng {i j : Int} (h : 0 < j) : 0 ≤ i.fmod j ∧ i.fmod j < j := by
  rw [Int.fmod_eq_emod_of_nonneg i (by omega)]
  exact ⟨Int.emod_nonneg _ (by omega), Int.emod_lt_of_pos _ h⟩
def LI (a b : Addr) (n y : Int) (H0 : Hp) (m : Nat) (σ : L2.St) (H : Hp) : Prop := ∃ ns x z, m = ns.length ∧ Fr a n σ ∧ Strm a b H ns x y z ∧ KeptOff a b H0 H
theorem d_loop_ok (f : Fr a n σ) (h : Strm a b H ns x y z) (q : ∀ σ' H' ns' x' z', Fr a n σ' → Strm a b H' ns' x' y z' → KeptOff a b H H' → D.nx σ' H') : d_loop K D σ H := by
  refine ⟨LI a b n y H, ⟨ns.length, ns, x, z, rfl, f, h, KeptOff.refl⟩, fun m σ1 H1 ⟨ns1, x1, z1, em, f1, h1, k1⟩ => ?_⟩
  refine tIxC_ok f1.s0 h1.ha rfl ⟨rfl, _, rfl, ?_⟩
  by_cases ex : x1 = 0
  · subst ex
    rw [if_pos (by decide)]
    refine tIxC_ok f1.s0 h1.ha rfl ⟨by decide, fun p hp => ?_⟩
    have h2 := h1.new (o := .lst []) hp
    have k2 : KeptOff a b H (upd H1 p (.lst [])) := k1.trans (KeptOff.new hp)
    have dp : Dp K (upd H1 p (.lst [])) (.ref b) (.list (ns1.map PyData.int)) := .lst (SqL.of h2.hb) (by
      clear em h1 k1 h2 k2 hp
      induction ns1 with
      | nil => exact .nil
      | cons i r ih => exact .cons (.int i) ih)
    have sh : SeqAt.shaped (.list (ns1.map PyData.int)) = true := by
      unfold SeqAt.shaped
      clear em h1 k1 h2 k2 hp dp
      induction ns1 with
      | nil => rfl
      | cons i r ih => exact ih
    refine ⟨_, _, dp, .lst (SqL.of upd_same) .nil, sh, rfl, _, rfl, ?_⟩
    cases ns1 with
    | nil =>
      rw [if_neg (by decide)]
      exact q _ _ [] 0 z1 f1 h2 k2
    | cons i r =>
      have e1 : (!(PyData.list (List.map PyData.int (i :: r))).eqv (PyData.list [])) = true := by first | rfl | simp [PyData.eqv]
      rw [if_pos e1]
      refine ⟨fun σ' H' => LI a b n y H r.length σ' H', fun σ' H' w => ⟨_, by rw [em]; exact Nat.lt_succ_self _, w⟩, ?_⟩
      -- pop
      refine tIxC_ok f1.s0 h2.ha rfl ⟨.inl ⟨rfl, _, SqL.of h2.hb⟩, b, _, 0, 0, .int i, rfl, rfl, h2.hb, by decide, by decide, by simp [seqIndex?], rfl, ?_⟩
      refine ⟨i, rfl, ?_⟩
      have h3 : Strm a b (upd (upd H1 p (.lst [])) b (.lst (r.map V.int))) r 0 y z1 := ⟨by rw [upd_ne h2.ne]; exact h2.ha, upd_same, h2.ne, h2.hx, h2.hz, h2.zm⟩
      have k3 : KeptOff a b H (upd (upd H1 p (.lst [])) b (.lst (r.map V.int))) := k2.trans KeptOff.updB
      have hc : 0 ≤ (if i < 0 then -i else i) := by split <;> omega
      generalize (if i < 0 then -i else i) = cell at hc ⊢
      have f3 : Fr a n (σ1.set 2 (some (.int cell))) := f1.set (by decide)
      have g3 : (σ1.set 2 (some (V.int cell)))[2]? = some (some (.int cell)) := f1.got (by decide)
      -- the mix
      refine tIxC_ok f3.s0 h3.ha rfl ⟨z1, 8191, rfl, rfl, CMul_r (by decide) (by decide), ?_⟩
      refine tVar_ok g3 ⟨_, _, rfl, rfl, _, _, rfl, rfl, .inl ⟨_, rfl, _, _, rfl, rfl, (show (2147483647 : Int) ≠ 0 by decide), ?_⟩⟩
      have r4 := fmod_rng (i := z1 * 8191 + cell + 3) (j := 2147483647) (by decide)
      have h4 := h3.setZ r4.1 r4.2
      have k4 := k3.trans (KeptOff.updA (o := L4 b 0 y ((z1 * 8191 + cell + 3).fmod 2147483647)))
      refine gSub_ok f3.s0 h3.ha rfl ?_
      simp only [d_put, tSetC, tAsg, tIf, tTest, tOp]
      refine tVar_ok (i := 2) (v := .int cell) g3 ?_
      refine ⟨10, 18, rfl, rfl, ⟨by decide, by decide, by decide⟩, _, _, rfl, rfl, _, rfl, ?_⟩
      split
      · refine tVar_ok g3 (gSub_ok f3.s0 h4.ha rfl ?_)
        exact ⟨r, _, _, rfl, f3, h4.setX hc, k4.trans KeptOff.updA⟩
      · refine gSub_ok f3.s0 h4.ha rfl ?_
        exact ⟨r, _, _, rfl, f3, h4.setX (by decide), k4.trans KeptOff.updA⟩
  · have e : decide (V.int x1 = V.int 0) = false := by
      rw [decide_eq_false_iff_not]
      exact fun e => ex (by injection e)
    rw [e]
    simp only [Bool.false_eq_true, if_false]
    exact q _ _ _ _ _ f1 h1 k1
theorem d_if_ok (f : Fr a n σ) (h : Strm a b H ns x y z) (hn : 0 < n) (hm : n < 1073741824) (q : D.nx σ H)
    (r : ∀ d H' x', 0 ≤ d → d < n → Strm a b H' ns x' y z → KeptOff a b H H' → D.rt (.int d) H') : d_if K D σ H := by
  refine tIxC_ok f.s0 h.ha rfl ⟨x, 0, rfl, rfl, _, rfl, ?_⟩
  dsimp only
  split
  · have r1 := fmod_rng (i := x) hn
    refine tIxC_ok f.s0 h.ha rfl (.inl ⟨_, rfl, tVar_ok f.s1 ⟨_, _, rfl, rfl, by omega, ?_⟩⟩)
    have f2 : Fr a n (σ.set 3 (some (.int (x.fmod n)))) := f.set (by decide)
    refine tIxC_ok f2.s0 h.ha rfl (tVar_ok f2.s1 ⟨_, _, rfl, rfl, ⟨by omega, by omega⟩, ?_⟩)
    have hd : 0 ≤ x.fdiv n := by
      rw [Int.fdiv_eq_ediv_of_nonneg x (by omega)]
      exact Int.ediv_nonneg h.hx (by omega)
    refine gSub_ok f2.s0 h.ha rfl ?_
    exact tVar_ok (f.got (by decide)) (r _ _ _ r1.1 r1.2 (h.setX hd) KeptOff.updA)
  · exact q
theorem d_mix_ok (f : Fr a n σ) (h : Strm a b H ns x y z) (hy : 0 ≤ y) (hy2 : y < 1099511627776) (q : ∀ w : Int, 0 ≤ w → w < 2147483629 → D.nx (σ.set 4 (some (.int w))) H) : d_mix K D σ H := by
  have := h.hz
  have := h.zm
  have e64 : (2 : Nat) ^ 64 = 18446744073709551616 := by decide
  refine tIxC_ok f.s0 h.ha rfl ?_
  refine tIxC_ok f.s0 h.ha rfl ⟨7919, y, rfl, rfl, CMul_l (by decide) (by decide), ?_⟩
  refine ⟨_, _, rfl, rfl, _, _, rfl, rfl, _, _, rfl, rfl, ⟨by decide, by decide, by omega⟩, .inl ⟨_, rfl, _, _, rfl, rfl, (show (2147483629 : Int) ≠ 0 by decide), ?_⟩⟩
  have r1 := fmod_rng (i := (z + 7919 * y + 104729) ^ (5 : Int).toNat) (j := 2147483629) (by decide)
  exact q _ r1.1 r1.2
theorem d_end_ok {w : Int} (f : Fr a n σ) (g : σ[4]? = some (some (.int w))) (h : Strm a b H ns x y z) (hn : 0 < n) (hw : 0 ≤ w) (hw2 : w < 2147483629) (hy : 0 ≤ y) (hy2 : y < 1099511627776) (q : ∀ d, 0 ≤ d → d < n → D.rt (.int d) H) : d_end K D σ H := by
  have e64 : (2 : Nat) ^ 64 = 18446744073709551616 := by decide
  simp only [d_end, tRet, tOp, tInt1, tCB, tCons, tNil]
  refine tVar_ok (i := 4) (v := .int w) g ?_
  refine ⟨w, 48271, rfl, rfl, CMul_r (by decide) (by decide), ?_⟩
  refine tIxC_ok f.s0 h.ha rfl ⟨30011, y, rfl, rfl, CMul_l (by decide) (by decide), ?_⟩
  refine ⟨_, _, rfl, rfl, _, _, rfl, rfl, _, _, rfl, rfl, ⟨by decide, by decide, by omega⟩, .inl ⟨_, rfl, _, _, rfl, rfl, (show (1000000007 : Int) ≠ 0 by decide), ?_⟩⟩
  refine tVar_ok f.s1 ⟨_, _, rfl, rfl, by omega, ?_⟩
  have r1 := fmod_rng (i := ((w * 48271 + 30011 * y + 29) ^ (3 : Int).toNat).fmod 1000000007) hn
  exact q _ r1.1 r1.2
theorem t_draw_ok (f : Fr a n σ) (h : Strm a b H ns x y z) (hn : 0 < n) (hm : n < 1073741824) (hy : 0 ≤ y) (hy2 : y + 1 < 1099511627776)
    (q : ∀ d H' ns' x' z', 0 ≤ d → d < n → Strm a b H' ns' x' (y + 1) z' → KeptOff a b H H' → D.rt (.int d) H') : t_draw K D σ H := by
  refine d_one_ok f h fun H1 h1 k1 => ?_
  refine d_loop_ok f h1 fun σ2 H2 ns2 x2 z2 f2 h2 k2 => ?_
  refine d_if_ok f2 h2 hn hm ?_ fun d H' x' p1 p2 h3 k3 => q d H' _ _ _ p1 p2 h3 (k1.trans (k2.trans k3))
  refine d_mix_ok f2 h2 (by omega) hy2 fun w w1 w2 => ?_
  exact d_end_ok (f2.set (by decide)) (f2.got (by decide)) h2 hn w1 w2 (by omega) hy2 fun d p1 p2 => q d _ _ _ _ p1 p2 h2 (k1.trans k2)
end
end Ev

set_option Elab.async false
set_option linter.all false
set_option maxRecDepth 100000
set_option maxHeartbeats 4000000
/-! Ev24: the draw as a call -/
namespace Ev
open PySem PySem.Spec PyProof.Rows L2 LamX NdefX
/-- for every number below n -/
def brI : Nat → (Nat → Bool) → Bool
  | 0, _ => true
  | n + 1, k => match k n with
    | true => brI n k
    | false => false
theorem brI_ok {k : Nat → Bool} : ∀ {n : Nat}, brI n k = true → ∀ i, i < n → k i = true
  | 0, _, i, h => absurd h (Nat.not_lt_zero i)
  | n + 1, h, i, hi => by
    unfold brI at h
    split at h
    · rename_i q
      by_cases e : i = n
      · rw [e]; exact q
      · exact brI_ok h i (by omega)
    · cases h
/-- _law_draw(stream, many) -/
def drawF (us : List D) (cs : Cs) (K : KE) : Bool := match us with
  | [.cel n, .int (.ofNat many)] => getC cs.l n fun q => match q with
    | .strm m k => (match Nat.ble k 500000000000 && (Nat.ble 1 many && Nat.ble many 536870912) with
      | true => fNat (k + 1) fun k1 => setL cs.l n (.strm m k1) fun l => brI many fun i => K (.int (.ofNat i)) ⟨cs.nx, l⟩
      | false => false)
    | _ => false
  | _ => false
theorem tabs_kept {T : List NTab} {H H' : Hp} {a b : Addr} {o1 o2 : HO} (t : TabsN T H) (h1 : H a = some o1) (h2 : H b = some o2) (l1 : LivO o1) (l2 : LivO o2) (k : KeptOff a b H H') : TabsN T H' := fun q hq => by
  obtain ⟨ps, e1, e2, e3⟩ := t q hq
  have keep : ∀ c o', H c = some o' → o' ≠ o1 → o' ≠ o2 → H' c = some o' := fun c o' e n m => k c o' (fun z => n (by rw [z, h1] at e; exact (Option.some.inj e).symm)) (fun z => m (by rw [z, h2] at e; exact (Option.some.inj e).symm)) e
  refine ⟨ps, keep _ _ e1 (l1.ntbl ps).symm (l2.ntbl ps).symm, e2, fun pos cv hc => ?_⟩
  obtain ⟨c, z1, z2⟩ := e3 pos cv hc
  exact ⟨c, z1, keep _ _ z2 (l1.ncode _ _).symm (l2.ncode _ _).symm⟩
theorem RC.draw {G : Gs} {T : List NTab} {own : Addr → Prop} {r : Nat → Option Addr} {F B H H' : Hp} {cs : Cs} {n m k : Nat} {a b : Addr} {ns : List Int} {x y z : Int} (R : RC G T own r F B H cs) (hn : cs.get n = some (.strm m k)) (hm : cs.get m = some .raw) (lt : m < n) (ha : r n = some a) (hb : r m = some b)
    {o1 o2 : HO} (h1 : H a = some o1) (h2 : H b = some o2) (l1 : LivO o1) (l2 : LivO o2) (fa : F a = none ∧ B a = none) (fb : F b = none ∧ B b = none) (S : Strm a b H' ns x y z) (hy : 0 ≤ y) (hk : y ≤ (k + 1 : Nat)) (kp : KeptOff a b H H') :
    RC G T own r F B H' ⟨cs.nx, putL cs.l n (.strm m (k + 1))⟩ := by
  have is : (cs.get n).isSome = true := by rw [hn]; rfl
  refine ⟨fun c o h => kp c o (fun z => by rw [z, fa.1] at h; cases h) (fun z => by rw [z, fb.1] at h; cases h) (R.subF c o h), fun c o h => kp c o (fun z => by rw [z, fa.2] at h; cases h) (fun z => by rw [z, fb.2] at h; cases h) (R.subB c o h),
    R.plF, R.frB, R.inj, fun p c h => (R.rng p c h).imp (fun q => ?_) id, R.fresh, ?_, fun p d h => ?_, fun p d h => ?_, tabs_kept R.tabs h1 h2 l1 l2 kp, R.dj, R.rb⟩
  · by_cases e : c = a
    · rw [e, S.ha]; exact fun z => nomatch z
    · by_cases e2 : c = b
      · rw [e2, S.hb]; exact fun z => nomatch z
      · cases z : H c with
        | none => exact absurd z q
        | some o => rw [kp c o e e2 z]; exact fun z => nomatch z
  · show ((putL cs.l n _).map (·.1)).Pairwise (· > ·)
    rw [keys_putL]; exact R.dec
  · rw [get_put cs n p _ is] at h
    by_cases e : p = n
    · rw [e]; exact R.lt n _ hn
    · rw [if_neg e] at h; exact R.lt p d h
  · rw [get_put cs n p _ is] at h
    by_cases e : p = n
    · rw [if_pos e] at h
      cases h
      rw [e]
      exact ⟨a, b, x, y, z, ha, fa, hb, S.ha, by rw [get_put cs n m _ is, if_neg (by omega)]; exact hm, lt, S.hx, hy, hk, S.hz, S.zm⟩
    · rw [if_neg e] at h
      by_cases e2 : p = m
      · rw [e2] at h ⊢
        rw [hm] at h
        cases h
        exact ⟨b, ns, hb, fb, S.hb⟩
      · refine (R.cell p d h).stay (Ext.refl _ _ _) (fun _ z => z) (fun c q1 q2 o _ q3 => ⟨q2, kp c o (fun z => e (R.inj p n c q1 (by rw [z]; exact ha))) (fun z => e2 (R.inj p m c q1 (by rw [z]; exact hb))) q3⟩) fun j hj => ?_
        rw [get_put cs n j _ is]
        by_cases e3 : j = n
        · rw [e3, hn] at hj; cases hj
        · rw [if_neg e3]; exact hj
section
variable {G : Gs} {T : List NTab} {cl : Nat → Value} {P : Program} {w : World} {K : PySem.W.Frag} {mg : Str → Option Value} {base : Heap} {k g : Nat} {pa : Arguments}
abbrev drN : List Str := ["stream", "many", "cell", "digit", "mixed"]
theorem draw_ev {cal' : Cal} {body : List Stmt} {scope : Scope} {f : Addr} {fd : FuncData} (F : FunD K "_law_draw" "_law_draw" pa body scope [] [] f fd) (hmg : mg "_law_draw" = some (.ref f)) (S : FnScope drN ["stream", "many"] scope)
    (hcal : ∀ us cs K x, cal'.fn g us cs K x = true → drawF us cs K = true)
    (hbody : ∀ (cdv : Value) (A : Around) (outer : List PySem.Env) (s : Shared) (H : Hp) (E : XK) (k' : Nat), Room k' (A.deeper (envOfC "_law_draw" scope s.heap.objs.size f cdv)) → PSs (cxOf (L2.CX P w) P w K mg base drN "_law_draw" scope f cdv A outer s H E) body (t_draw K)) :
    CalF (Cxt.at0 G T cal' cl) P w K mg base (k + 1) "_law_draw" g ["stream", "many"] pa := by
  obtain ⟨oc, od, dV, kV, doc, pm, an, cdv, ct, osl, rfl, lk, hcd, hD, _⟩ := F.ex
  rcases hD with ⟨_, e⟩ | ⟨e, _⟩
  · subst e
    refine ⟨f, body, scope, kV, doc, pm, an, cdv, ct, ?_, hmg, F.kp⟩
    refine F.ok S (fun vs H Q E ⟨r, F, B, cs, us, K, x, hl, _, _, hv, _⟩ => by rw [hv.length]; exact hl) fun cdv A outer s H vs Q E hr hsp => ?_
    obtain ⟨r, F1, B, cs, us, Kx, x, hl, hm, R, hv, kk, xk⟩ := hsp
    refine ⟨_, hbody cdv A outer s H E k hr, ?_⟩
    have hm := hcal _ _ _ _ hm
    unfold drawF at hm
    split at hm
    case h_2 => cases hm
    rename_i n many _
    obtain ⟨q, q1, q2⟩ := getC_true hm
    have q1 : cs.get _ = some q := q1
    split at q2
    case h_2 => cases q2
    rename_i m j _
    split at q2
    case h_2 => cases q2
    rename_i qb
    obtain ⟨b1, qb⟩ := Bool.and_eq_true_iff.mp qb
    obtain ⟨b2, b3⟩ := Bool.and_eq_true_iff.mp qb
    have b1 := Nat.le_of_ble_eq_true b1
    have b2 := Nat.le_of_ble_eq_true b2
    have b3 := Nat.le_of_ble_eq_true b3
    rw [fNat_eq, setL_eq] at q2
    cases hv with
    | cons hv1 hv2 =>
      cases hv2 with
      | cons hv2 hv3 =>
        cases hv3
        have ev := hv2.int_inv
        subst ev
        cases hv1 with
        | @cel a _ hr' =>
          obtain ⟨a', b, x0, y0, z0, c1, c2, c3, c4, c5, c6, c7, c8, c9, c10, c11⟩ := R.cell n _ q1
          rw [hr'] at c1; cases c1
          obtain ⟨b', ns, d1, d2, d3⟩ := R.cell m _ c5
          rw [c3] at d1; cases d1
          have ne : a ≠ b := fun e => by
            have := R.inj n m a hr' (by rw [e]; exact c3)
            omega
          refine t_draw_ok (a := a) (b := b) (n := many) (y := y0) ⟨rfl, rfl, rfl⟩ ⟨c4, d3, ne, c7, c10, c11⟩ (by omega) (by omega) c8 (by omega) fun d H' ns' x' z' p1 p2 S' kp => ?_
          have R' := R.draw q1 c5 c6 hr' c3 c4 d3 .lst .lst c2 d2 S' (by omega) (by omega) kp
          obtain ⟨i, rfl⟩ := Int.eq_ofNat_of_zero_le p1
          exact kk _ _ _ _ _ _ _ (Ext.refl _ _ _) R' (.int _) (brI_ok q2 i (by omega))
  · exact absurd rfl e
end
end Ev

set_option Elab.async false
set_option linter.all false
set_option maxRecDepth 100000
set_option maxHeartbeats 4000000
/-! Ev25: a law that draws -/
namespace Ev
open PySem PySem.Spec PyProof.Rows L2 LamX NdefX
/-- a new cell of any kind -/
theorem RL.newX {G : Gs} {T : List NTab} {X : Cx} {bx : List Nat} {r : Nat → Option Addr} {F B H : Hp} {σ : L2.St} {ds : Env} {cs : Cs} {p : Addr} {o : HO} {ce : Cell} (R : RL G T X bx r F B σ H ds cs) (hp : H p = none) (hf : ∀ a, ownB X bx a → a ≠ p)
    (new : CellOk G (ownB X bx) (updR r cs.nx p) F B (upd H p o) ⟨cs.nx + 1, (cs.nx, ce) :: cs.l⟩ cs.nx ce) : RL G T X bx (updR r cs.nx p) F B σ (upd H p o) ds ⟨cs.nx + 1, (cs.nx, ce) :: cs.l⟩ ∧ Ext r F B (updR r cs.nx p) F B := by
  obtain ⟨q, E⟩ := R.rc.newCell (own' := ownB X bx) hp hf (fun _ z => z) (fun b o' e => by rw [upd_ne (ne_of_none e hp)]; exact e) (.inl (by rw [upd_same]; exact fun z => nomatch z)) new
  refine ⟨⟨q, fun i d h1 h2 => ?_, fun i hi => ?_, R.binj, R.len, R.kf⟩, E⟩
  · obtain ⟨v, h3, h4⟩ := R.slot i d h1 h2
    exact ⟨v, h3, h4.ext E⟩
  · obtain ⟨n, a', h1, h2, h4, h5⟩ := R.boxs i hi
    refine ⟨n, a', h1, h2, E.r _ _ h4, fun m ce hm hc => ?_⟩
    have nx : m ≠ cs.nx := fun e => by
      rw [e, updR_same] at hm
      cases hm
      exact hf _ ⟨i, hi, h2⟩ rfl
    rw [get_cons, if_neg nx] at hc
    rw [updR_ne p nx] at hm
    obtain ⟨od, e1, h6⟩ := h5 m ce hm hc
    refine ⟨od, e1, fun d e => ?_⟩
    obtain ⟨v, q1, q2⟩ := h6 d e
    exact ⟨v, q1, q2.ext E⟩
/-- _law_stream of a law that draws -/
def spS2 (K : PySem.W.Frag) : Sp := fun vs H Q _ => ∃ (a : Addr) (ns : List Int), vs = [.ref a] ∧ SqL K H a (ns.map V.int) ∧ ∀ l p, H l = none → upd H l (.lst (ns.map V.int)) p = none → Q (.ref p) (upd (upd H l (.lst (ns.map V.int))) p (L4 l 0 0 17))
theorem stream_body2 {X : Cx} {p1 p2 p3 p4 p5 p6 p7 p8 : Pos} {j1 j2 j3 : Nat} (hN : X.N[0]? = some ("script" : Str)) (hv : Vis X.env.scope "script") (hg : Gl X "list") (hm : X.mg "list" = none) {a : Addr} {ns : List Int} {H : Hp} {σ : L2.St} {D : Ends} (hs : σ[0]? = some (some (.ref a))) (hq : SqL X.K H a (ns.map V.int))
    (hD : ∀ l p, H l = none → upd H l (.lst (ns.map V.int)) p = none → D.rt (.ref p) (upd (upd H l (.lst (ns.map V.int))) p (L4 l 0 0 17)))
    (h1 : starEach [.Name "script" p2] X.env = (false, eval (.Name "script" p2) X.env) :: starEach [] X.env := by rfl) (hpl : (backTo p3 (starEach [] X.env)).any (·.1) = false := by rfl) :
    ∃ t, PSs X [.Return (some (.List [.Call (.Name "list" p1) [.Name "script" p2] [] p3, .Constant (.int 0) j1 p4, .Constant (.int 0) j2 p5, .Constant (.int 17) j3 p6] p7)) p8] t ∧ t D σ H := by
  refine ⟨_, pss_one (ps_ret (pe_lst (pa_cons (pe_callTy call_list_of hg hm boot_list (pa_cons (pe_var (i := 0) hN hv) pa_nil h1) (by decide) (by decide) h1 hpl) (pa_cons pe_int (pa_cons pe_int (pa_cons pe_int pa_nil)))))), ?_⟩
  refine ⟨_, hs, a, _, rfl, .inl hq, fun l hl => ?_⟩
  exact ⟨by show 4 ≤ sizeLine; decide, fun p hp => hD l p hl hp⟩

def runLawD (bx : List Nat) (nl i : Nat) (m : MS) (cal : Cal) : Bool := fList (envOf [] (nl + 1)) fun e => enterB bx e ⟨0, []⟩ fun e1 cs => fNat (cs.nx + 1) fun n1 => fNat (n1 + 1) fun n2 => setE e1 i (some (.cel n1)) fun e => m cal e ⟨n2, (n1, .strm cs.nx 0) :: (cs.nx, .raw) :: cs.l⟩ ⟨fun _ _ => false, fun d _ => isTrue1 d, fun _ _ => false, fun _ _ => false⟩ fun _ _ _ _ => false
theorem law_evD {P : Program} {w : World} {K : PySem.W.Frag} {mg : Str → Option Value} {base : Heap} {G : Gs} {T : List NTab} {cl : Nat → Value} {cal : Cal} {k i : Nat} {f fS : Addr} {fdS : FuncData} {params : Arguments} {rest : List Stmt} {scope : Scope} {kV doc pm cdv ct oc : Value} {an od : Option Addr}
    {osl : Array (Option Value)} {N : List Str} {bx : List Nat} {nl : Nat} {m : MS} {y : Str} {p1 p2 p3 p4 p5 : Pos}
    (hGK : G.Kf = K) (lk : K.lookup f = some ⟨oc, od, .func (fdOf "law" params (.Assign [.Name y p1] (.Call (.Name "_law_stream" p2) [.Name "script" p3] [] p4) p5 :: rest) scope kV doc pm an cdv ct), osl⟩) (hcd : PySem.W.codeIn K cdv "law" = true) (S : FnScope N ["script"] scope) (hnl : N.length = 1 + nl)
    (hN0 : N[0]? = some ("script" : Str)) (hv0 : Vis scope "script") (hNi : N[i]? = some y) (hyi : L2.Loc scope y) (hib : i ∉ bx)
    (FS : FnOk P w K mg base CX0 1 fS fdS ["script"] (spS2 K)) (hgS : scope.names.lookup ("_law_stream" : Str) = some .globalImplicit) (hmS : mg "_law_stream" = some (.ref fS)) (hkS : PySem.W.keepIn K (.ref fS) = true) (hbS : Binds K fdS ["script"] [])
    (hbx : bx.Nodup) (h0 : 0 ∉ bx) (hk : ∀ i ∈ bx, ∃ y, N[i]? = some y ∧ scope.names.lookup y = some .cell)
    (hbody : ∀ (A : Around) (outer : List PySem.Env) (s : Shared) (H : Hp) (E : XK), Bod ⟨G, T, cal, cl, bx, fun _ _ _ _ => False⟩ (cxOf (L2.CX P w) P w K mg base N "law" scope f cdv A outer s H E) (k + 1) →
      XSs ⟨G, T, cal, cl, bx, fun _ _ _ _ => False⟩ (cxOf (L2.CX P w) P w K mg base N "law" scope f cdv A outer s H E) rest m)
    (hsw : ∀ X : Cx, swapsWith (.Call (.Name "_law_stream" p2) [.Name "script" p3] [] p4) (some (.Name y p1)) p5.line X.env = pure false)
    (hst : ∀ X : Cx, starEach [.Name "script" p3] X.env = (false, eval (.Name "script" p3) X.env) :: starEach [] X.env)
    (hrun : runLawD bx nl i m cal = true) :
    FnOk P w K mg base (L2.CX P w) (k + 2) f (fdOf "law" params (.Assign [.Name y p1] (.Call (.Name "_law_stream" p2) [.Name "script" p3] [] p4) p5 :: rest) scope kV doc pm an cdv ct) ["script"] (spLaw K T) := by
  refine ⟨fun vs H Q E ⟨a, ns, e, _⟩ => by rw [e]; rfl, fun A outer s H args us vs Q E hr e0 hb rv hsp => ?_⟩
  obtain ⟨a, ns, ev, hsq, hT, hQ⟩ := hsp
  subst ev
  have lvs : ([V.ref a] : List V).length = (["script"] : List Str).length := rfl
  have KX : K.In s.heap := e0.mod.kin.keeps fun b o e => (e0.bs b o e).1
  have lim : s.heap.NoLimit := e0.mod.nolimit.keeps fun b o e => (e0.bs b o e).1
  have hkind : ∀ y ∈ (["script"] : List Str).zip us, scope.names.lookup y.1 = some .local ∨ (scope.names.lookup y.1 = some .cell ∧ ((cellsFrom (s.heap.objs.size + 1) scope.names []).lookup y.1).isSome = true) := fun ⟨n, v⟩ hy => by
    rcases S.par n (List.of_mem_zip hy).1 with q | q
    · exact .inl q
    · exact .inr ⟨q, PySem.W.cellsFrom_some _ _ _ (.inl q)⟩
  refine codeAny_call_function hr.depth (KX _ _ lk) rfl S.co S.gen rfl (PySem.W.codeRec_of KX hcd) (hb _ _ _ _ ?_)
  refine wpAny_newFunctionEnv_cells S.kind hkind fun env he s1 x => ?_
  subst he
  refine ⟨lim.keeps x.toInCall.keep, codeAny_func ?_⟩
  have I : Inv (cxOf (L2.CX P w) P w K mg base N "law" scope f cdv A outer s H E) [] (L2.start N [V.ref a]) H s1 := inv_start S hr.hd e0 lvs rv x
  have rest_ := hbody A outer s H E
  generalize hX : cxOf (L2.CX P w) P w K mg base N "law" scope f cdv A outer s H E = X at I rest_
  have XN : X.N = N := by rw [← hX]; rfl
  have Xsc : X.env.scope = scope := by rw [← hX]; rfl
  have Xfn : ∀ x, X.fn x = true := fun x => by rw [← hX]; rfl
  have Xmg : X.mg = mg := by rw [← hX]; rfl
  have XK : X.K = K := by rw [← hX]; rfl
  have Xp : X.prog = P := by rw [← hX]; rfl
  have Xw : X.w = w := by rw [← hX]; rfl
  have Xb : X.base = base := by rw [← hX]; rfl
  have kb : ∀ i ∈ bx, ∀ y, X.N[i]? = some y → X.env.kindOf y = some .cell ∨ X.env.kindOf y = some .free := fun i hi y hy => by
    obtain ⟨y', h1, h2⟩ := hk i hi
    rw [XN, h1] at hy
    have hy := Option.some.inj hy
    rw [← hy]
    exact .inl (by show X.env.scope.names.lookup y' = _; rw [Xsc]; exact h2)
  have O : OwnX X bx := ownX_of I Xfn kb
  have Bx : Boxes X bx H := by
    have at_ : ∀ i ∈ bx, ∃ a, bAddr X i = some a ∧ H a = none := fun i hi => by
      obtain ⟨y, h1, h2⟩ := hk i hi
      obtain ⟨a, ha⟩ := I.ok.has y (.inl (by show X.env.scope.names.lookup y = _; rw [Xsc]; exact h2))
      exact ⟨a, by unfold bAddr; rw [XN, h1]; exact ha, I.freeC y a ha⟩
    refine ⟨hbx, at_, fun i hi j hj a h1 h2 => ?_⟩
    obtain ⟨y, e1, l1⟩ := bAddr_look h1
    obtain ⟨z, e2, l2⟩ := bAddr_look h2
    have := I.ok.inj y z a l1 l2
    subst this
    rw [XN] at e1 e2
    exact nodup_ix S.nd e1 e2
  have st : L2.start N [V.ref a] = some (V.ref a) :: List.replicate nl none := by unfold L2.start; rw [hnl]; simp
  unfold runLawD at hrun
  rw [fList_eq] at hrun
  have RC0 : RC G T noOwn (fun _ => none) (fun _ => none) (fun _ => none) H ⟨0, []⟩ :=
    ⟨fun _ _ h => (nomatch h), fun _ _ h => (nomatch h), fun _ _ h => (nomatch h), fun _ _ h => (nomatch h), fun _ _ _ h => (nomatch h), fun _ _ h => (nomatch h), fun _ _ => rfl, List.Pairwise.nil, fun _ _ h => (nomatch h), fun _ _ h => (nomatch h), hT, fun _ _ h => (nomatch h), fun _ _ _ h => (nomatch h)⟩
  have R0 : RL G T X [] (fun _ => none) (fun _ => none) (fun _ => none) (L2.start N [V.ref a]) H (envOf [] (nl + 1)) ⟨0, []⟩ := by
    refine ⟨by rw [noOwn_nil]; exact RC0, fun i d _ h => ?_, fun i hi => absurd hi (by simp), fun i hi => absurd hi (by simp), ?_, by rw [← hX]; exact hGK⟩
    · rw [envOf_eq, List.map_nil, List.nil_append, List.getElem?_replicate] at h
      split at h <;> cases h
    · rw [envOf_eq, st]; simp
  obtain ⟨r1, e1, cs1, E1, R1, hm1⟩ := enterB_ok (dn := []) (by rw [List.append_nil]; exact Bx) R0 hrun
  rw [List.append_nil] at R1
  have bod : Bod ⟨G, T, cal, cl, bx, fun _ _ _ _ => False⟩ X (k + 1) :=
    ⟨⟨by rw [← hX]; rfl, by rw [XN]; exact S.nd, by rw [← hX]; exact hr.deeper _, takes_none5, O⟩, by rw [← hX]; rfl, by rw [← hX]; rfl, by rw [← hX]; exact passes_of rfl⟩
  have hxs := rest_ bod
  have hr1 : Room 1 X.A := bod.room.mono (by omega)
  have s0 : PS X (.Assign [.Name y p1] (.Call (.Name "_law_stream" p2) [.Name "script" p3] [] p4) p5) (tAsg (fun σ H Q => tCall (spS2 K) [] E0 (tCons (tVar 0) tNil) σ H (ownQ X Q)) (gName i)) := by
    refine ps_set bod.nd (by rw [XN]; exact hNi) (by unfold L2.Loc; rw [Xsc]; exact hyi) ?_ (hsw X) (.inl (Xfn y))
    refine pe_own ?_
    refine pe_call (CX := CX0) (fd := fdS) (ps := ["script"]) (k := 1) (ds := []) (f := fS) (by rw [Xp, Xw, XK, Xmg, Xb]; exact FS) hr1 (by show X.env.scope.names.lookup _ = _; rw [Xsc]; exact hgS) (by rw [Xmg]; exact hmS) (by rw [XK]; exact hkS) (by rw [XK]; exact hbS) .nil pass0
      (pa_cons (pe_var (i := 0) (by rw [XN]; exact hN0) (by unfold Vis; rw [Xsc]; exact hv0)) pa_nil (hst X)) (by decide) (hst X) rfl
  have fin : ∀ {σ' : L2.St} {H' : Hp} {v : V} {u : Value} {s' : Shared}, Inv X [] σ' H' s' → RelV v u → Q v H' → CE outer P w H s Q u s' := fun {σ' H' v u s'} J rv q => by
    have jb := J.base
    have hk := J.hok
    have jo := J.os
    rw [← hX] at jb hk jo
    exact ⟨v, H', jo, J.bare, jb, hk, rv, q⟩
  have run := (pss_cons s0 (pss_of2 hxs)).run [] s1 (L2.start N [V.ref a]) H { nx := fun _ _ => False, rt := fun v _ => v = .bl true } I ?_
  · rw [← hX] at run
    refine wpAny_mono run (fun fl s' hs => ?_) fun e s' hs => hs
    rw [hX] at hs
    cases fl with
    | ret u =>
      obtain ⟨v, σ', H', J, rv', q⟩ := hs
      exact fin J rv' (by rw [q]; exact hQ H')
    | next =>
      obtain ⟨_, _, _, q⟩ := hs
      exact False.elim q
    | brk =>
      obtain ⟨_, _, _, q⟩ := hs
      exact False.elim q
    | cont =>
      obtain ⟨_, _, _, q⟩ := hs
      exact False.elim q
  · refine ⟨V.ref a, by rw [st]; rfl, a, ns, rfl, hsq, fun l p hl hp hf => ?_⟩
    have of1 : ∀ a, ownB X bx a → a ≠ p := ownne hf
    have of2 : ∀ a, ownB X bx a → a ≠ l := fun a ⟨i, hi, h⟩ e => by
      unfold bAddr at h
      split at h
      · have z := hf _ a h
        rw [e] at z
        by_cases e2 : l = p
        · rw [e2, upd_same] at z; cases z
        · rw [upd_ne e2, upd_same] at z; cases z
      · cases h
    have nlp : l ≠ p := fun e => by rw [← e, upd_same] at hp; cases hp
    obtain ⟨Ra, Ea⟩ := RL.newX (ce := .raw) (o := .lst (ns.map V.int)) R1 hl of2 ⟨l, ns, updR_same _ _, ⟨R1.rc.freeF hl, R1.rc.freeB hl⟩, upd_same⟩
    obtain ⟨Rb, Eb⟩ := RL.newX (ce := .strm cs1.nx 0) (o := L4 l 0 0 17) Ra hp of1 ⟨p, l, 0, 0, 17, updR_same _ _, ⟨Ra.rc.freeF hp, Ra.rc.freeB hp⟩, by rw [updR_ne p (Nat.ne_of_lt (Nat.lt_succ_self _)), updR_same], upd_same, by rw [get_cons, if_neg (Nat.ne_of_lt (Nat.lt_succ_self _)), get_cons, if_pos rfl], Nat.lt_succ_self _, by decide, by decide, by decide, by decide, by decide⟩
    have R2 := RL.set (i := i) Rb hib (.cel (n := cs1.nx + 1) (updR_same _ _))
    rw [fNat_eq, fNat_eq, setE_eq] at hm1
    refine tS.of hm1 R2 ⟨fun _ _ _ _ _ _ _ _ _ h => (nomatch h), fun r' F' B' H2 σ' ds' cs' v2 d2 E' R' hv' h => ?_, fun _ _ _ _ _ _ _ _ _ h => (nomatch h), fun _ _ _ _ _ _ _ _ _ h => (nomatch h), fun _ _ _ _ _ _ _ _ _ _ _ _ _ _ h => (nomatch h)⟩
    have h : isTrue1 d2 = true := h
    unfold isTrue1 at h
    split at h
    · cases hv'; rfl
    · cases h

section
variable {P : Program} {w : World} {K : PySem.W.Frag} {mg : Str → Option Value} {base : Heap} {pa : Arguments}
theorem str_ev2 {f : Addr} {fd : FuncData} {scope : Scope} {N : List Str} {p1 p2 p3 p4 p5 p6 p7 p8 : Pos} {j1 j2 j3 : Nat} (F : FunD K "_law_stream" "_law_stream" pa [.Return (some (.List [.Call (.Name "list" p1) [.Name "script" p2] [] p3, .Constant (.int 0) j1 p4, .Constant (.int 0) j2 p5, .Constant (.int 17) j3 p6] p7)) p8] scope [] [] f fd)
    (S : FnScope ["script"] ["script"] scope) (hv : Vis scope "script") (hg : scope.names.lookup ("list" : Str) = some .globalImplicit) (hm : mg "list" = none)
    (hs : ∀ X : Cx, starEach [.Name "script" p2] X.env = (false, eval (.Name "script" p2) X.env) :: starEach [] X.env) : FnOk P w K mg base CX0 1 f fd ["script"] (spS2 K) :=
  F.ok S (fun vs H Q E ⟨a, ns, e, _⟩ => by rw [e]; rfl) fun cdv A outer s H vs Q E hr ⟨a, ns, e, hq, hD⟩ => by
    subst e
    exact stream_body2 (X := cxOf CX0 P w K mg base ["script"] "_law_stream" scope f cdv A outer s H E) rfl hv hg hm rfl hq hD (hs _)
end
end Ev

set_option Elab.async false
set_option linter.all false
set_option maxRecDepth 100000
set_option maxHeartbeats 4000000
/-! Ev26: more operators, dicts with tuple keys, extend -/
namespace Ev
open PySem PySem.Spec PyProof.Rows L2 LamX NdefX
section
variable {c : Cxt} {X : Cx} {e a b d : Expr} {es : List Expr} {pos p : Pos} {r : Nat → Option Addr} {F B H H' : Hp} {σ : L2.St} {ds : Env} {cs : Cs} {K : KE} {x : KX} {Q : VK} {m ma mb md : ME} {mr : MA} {o : HO} {k : Nat}
/-! ### numbers -/
def nzI : Int → Bool
  | .ofNat 0 => false
  | .ofNat (_ + 1) => true
  | .negSucc _ => true
theorem nzI_ok : ∀ {j : Int}, nzI j = true → j ≠ 0
  | .ofNat 0, h => nomatch h
  | .ofNat (n + 1), _ => fun e => by cases e
  | .negSucc n, _ => fun e => by cases e
def dvI (j : Int) : Bool := match nzI j with
  | true => Nat.ble j.natAbs 1000000000
  | false => false
theorem dvI_ok {j : Int} (h : dvI j = true) : CDivN 0 j := by
  unfold dvI at h
  split at h
  · rename_i q
    have := Nat.le_of_ble_eq_true h
    exact ⟨nzI_ok q, by omega⟩
  · cases h
theorem xe_mod (ha : XE c X a ma) (hb : XE c X b mb) : XE c X (.BinOp a .Mod b pos) (mOp (oIc (fun _ j => nzI j) fun i j => i.fmod j) ma mb) := xe_op op_modN (oIc_ok _ fun _ _ h => nzI_ok h) ha hb
theorem xe_fdiv (ha : XE c X a ma) (hb : XE c X b mb) : XE c X (.BinOp a .FloorDiv b pos) (mOp (oIc (fun _ j => dvI j) fun i j => i.fdiv j) ma mb) := xe_op op_fdivN (oIc_ok _ fun _ _ h => dvI_ok h) ha hb
def absI : Int → Int
  | .ofNat n => .ofNat n
  | .negSucc n => .ofNat (n + 1)
theorem absI_eq : ∀ i : Int, absI i = if i < 0 then -i else i
  | .ofNat n => by rw [if_neg (by exact Int.not_lt.mpr (Int.natCast_nonneg n))]; rfl
  | .negSucc n => by rw [if_pos (Int.negSucc_lt_zero n)]; rfl
def mAbs (a : ME) : ME := fun f e cs k x => a f e cs (fun d cs1 => match d with
  | .int i => fInt (absI i) fun z => k (.int z) cs1
  | _ => false) x
theorem xe_abs (hg : Gl X "abs") (hm : X.mg "abs" = none) (ha : XE c X e m) (h1 : starEach [e] X.env = (false, eval e X.env) :: starEach [] X.env := by rfl) (hpl : (backTo pos (starEach [] X.env)).any (·.1) = false := by rfl) :
    XE c X (.Call (.Name "abs" p) [e] [] pos) (mAbs m) :=
  XE.mk (pe_callB call_abs hg hm PyProof.Rows.boot_abs (pa_cons ha pa_nil h1) (by decide) (by decide) h1 hpl) fun r F B σ H ds cs K x Q hm R k xk => by
    refine tE.of hm R (fun r1 F1 B1 H1 v d cs1 E1 R1 hv h1 => ?_) xk
    split at h1
    · rw [fInt_eq] at h1
      refine ⟨_, by rw [hv.int_inv], fun _ => ?_⟩
      rw [← absI_eq]
      exact k _ _ _ _ _ _ _ E1 R1 (.int _) h1
    · cases h1
def mIntOf (a : ME) : ME := fun f e cs k x => a f e cs (fun d cs1 => match d with
  | .int i => k (.int i) cs1
  | .bl b => (match b with
    | true => k (.int (.ofNat 1)) cs1
    | false => k (.int (.ofNat 0)) cs1)
  | _ => false) x
theorem xe_intOf (hg : Gl X "int") (hm : X.mg "int" = none) (ha : XE c X e m) (h1 : starEach [e] X.env = (false, eval e X.env) :: starEach [] X.env := by rfl) (hpl : (backTo pos (starEach [] X.env)).any (·.1) = false := by rfl) :
    XE c X (.Call (.Name "int" p) [e] [] pos) (mIntOf m) :=
  XE.mk (pe_callTy call_int1 hg hm PyProof.Rows.boot_int (pa_cons ha pa_nil h1) (by decide) (by decide) h1 hpl) fun r F B σ H ds cs K x Q hm R k xk => by
    refine tE.of hm R (fun r1 F1 B1 H1 v d cs1 E1 R1 hv h1 => ?_) xk
    split at h1
    · exact .inl ⟨_, by rw [hv.int_inv], fun _ => k _ _ _ _ _ _ _ E1 R1 (.int _) h1⟩
    · rename_i b
      cases hv
      split at h1
      · exact .inr ⟨true, rfl, fun _ => k _ _ _ _ _ _ _ E1 R1 (.int 1) h1⟩
      · exact .inr ⟨false, rfl, fun _ => k _ _ _ _ _ _ _ E1 R1 (.int 0) h1⟩
    · cases h1
def maxI (lt : Int → Int → Bool) (i j : Int) : Int := match lt i j with
  | true => j
  | false => i
def mMM (lt : Int → Int → Bool) (a : MA) : ME := fun f e cs k x => a f e cs (fun us cs1 => match us with
  | [.int i, .int j] => fInt (maxI lt i j) fun z => k (.int z) cs1
  | _ => false) x
theorem xe_max2 {e2 : Expr} (hc : X.calm = true) (hg : Gl X "max") (hm : X.mg "max" = none) (ha : XA c X [e, e2] mr) (h1 : starEach [e, e2] X.env = (false, eval e X.env) :: starEach [e2] X.env := by rfl) (hpl : (backTo pos (starEach [e2] X.env)).any (·.1) = false := by rfl) :
    XE c X (.Call (.Name "max" p) [e, e2] [] pos) (mMM (fun i j => decide (i < j)) mr) :=
  XE.mk (pe_callB (call_max2 hc) hg hm PyProof.Rows.boot_max ha (by decide) (by decide) h1 hpl) fun r F B σ H ds cs K x Q hm R k xk => by
    refine tA.of hm R (fun r1 F1 B1 H1 vs us cs1 E1 R1 hvs h1 => ?_) xk
    split at h1
    · rename_i i j
      cases hvs with
      | cons hv t => cases t with
        | cons hw t =>
          cases t
          rw [fInt_eq] at h1
          refine ⟨i, j, by rw [hv.int_inv, hw.int_inv], fun _ => ?_⟩
          have e1 : (if j > i then j else i) = maxI (fun i j => decide (i < j)) i j := by
            unfold maxI
            dsimp only
            by_cases q : i < j
            · rw [if_pos q, decide_eq_true q]
            · rw [if_neg q, decide_eq_false q]
          rw [e1]
          exact k _ _ _ _ _ _ _ E1 R1 (.int _) h1
    · cases h1
/-! ### extend -/
def mExt (a b : ME) : ME := fun f e cs k x => a f e cs (fun d cs1 => match d with
  | .cel n => getC cs1.l n fun q0 => match q0 with
    | .lst _ => b f e cs1 (fun y cs2 => getC cs2.l n fun q => match q with
      | .lst xs => listD y cs2 fun ys => (match fits xs && fits ys with
        | true => fList (xs ++ ys) fun zs => setL cs2.l n (.lst zs) fun l => k .non ⟨cs2.nx, l⟩
        | false => false)
      | _ => false) x
    | _ => false
  | _ => false) x
theorem xe_extend {apos cpos : Pos} (ha : XE c X a ma) (hb : XE c X b mb) (hbase : attributeBase a "extend" X.env (eval a X.env) = eval a X.env := by rfl)
    (hfew : ((backTo cpos (starEach (b :: []) X.env)).all (fun x => !x.1) && (backToKw cpos (keywordEach [] X.env)).all (fun x => x.1.isSome) && decide ((b :: []).length + ([] : List Keyword).length + (if ([] : List Keyword).isEmpty then 0 else 1) < 30)) = true := by rfl)
    (hline : (apos.endLine == cpos.line) = true := by rfl) (hs : starEach (b :: []) X.env = (false, eval b X.env) :: starEach [] X.env := by rfl) (hplain : (backTo cpos (starEach [] X.env)).any (·.1) = false := by rfl) :
    XE c X (.Call (.Attribute a "extend" apos) [b] [] cpos) (mExt ma mb) :=
  XE.mk (pe_bm PySem.F.plainAttrs_list PySem.F.slot_list_extend PySem.F.type_list_extend mt_extend ha (pa_cons hb pa_nil hs) hbase hfew hline hs hplain) fun r F B σ H ds cs K x Q hm R k xk => by
    refine tE.of hm R (fun r1 F1 B1 H1 v d cs1 E1 R1 hv h1 => ?_) xk
    split at h1
    · rename_i n
      cases hv with
      | @cel a _ hr =>
        obtain ⟨q0, z0, h1⟩ := getC_true h1
        split at h1
        case h_2 => cases h1
        obtain ⟨a0, vs, w1, _, hl, _⟩ := R1.rc.cell _ _ z0
        rw [hr] at w1; cases w1
        refine ⟨.inl ⟨rfl, vs, SqL.of hl⟩, ?_⟩
        refine tE.of h1 R1 (fun r2 F2 B2 H2 w y cs2 E2 R2 hw h2 => ?_) (xk.ext E1)
        obtain ⟨q, q1, q2⟩ := getC_true h2
        split at q2
        · rename_i xs
          obtain ⟨a', us, z1, z2, z3, z4⟩ := R2.rc.cell _ _ q1
          rw [E2.r _ _ hr] at z1; cases z1
          obtain ⟨b', ws, ys, ew, ht, hb', q3⟩ := listD_ok R2.rc hw q2
          subst ew
          split at q3
          · rename_i qf
            rw [fList_eq, setL_eq] at q3
            obtain ⟨f1, f2⟩ := Bool.and_eq_true_iff.mp qf
            have f1 := Nat.le_of_ble_eq_true f1
            have f2 := Nat.le_of_ble_eq_true f2
            refine ⟨a, b', us, ws, rfl, rfl, z3, hb', by rw [z4.length, ht.length, sizeLine_eq]; omega, fun hf => ?_⟩
            exact k _ _ _ _ _ _ _ (E1.trans E2) (RL.write R2 q1 (E2.r _ _ hr) z3 (Reps.append ht z4)) .non q3
          · cases q3
        · cases q2
    · cases h1
/-! ### dicts with tuple keys -/
def eqL (f : D → D → Bool) : List D → List D → Bool
  | [], [] => true
  | x :: xs, y :: ys => match f x y with
    | true => eqL f xs ys
    | false => false
  | _, _ => false
def eqK0 (d e : D) : Bool := match d, e with
  | .int i, .int j => decide (i = j)
  | .str s, .str t => decide (s = t)
  | .non, .non => true
  | _, _ => false
def eqKn : Nat → D → D → Bool
  | n + 1, .tup a, .tup b => eqL (eqKn n) a b
  | _, d, e => eqK0 d e
theorem eqL_ok {n : Nat} (ih : ∀ d e, okK n d = true → okK n e = true → (eqKn n d e = true ↔ nkD d = nkD e)) : ∀ a b : List D, allL (okK n) a = true → allL (okK n) b = true → (eqL (eqKn n) a b = true ↔ nkDs a = nkDs b)
  | [], [], _, _ => by simp [eqL, nkDs]
  | x :: xs, y :: ys, h1, h2 => by
    unfold allL at h1 h2
    split at h1
    · rename_i q1
      split at h2
      · rename_i q2
        have i1 := ih x y q1 q2
        have i2 := eqL_ok ih xs ys h1 h2
        unfold eqL
        cases q : eqKn n x y with
        | true =>
          simp only [nkDs, List.cons.injEq]
          rw [i2]
          exact ⟨fun z => ⟨i1.mp q, z⟩, fun z => z.2⟩
        | false =>
          simp only [nkDs, List.cons.injEq]
          exact ⟨fun z => (nomatch z), fun z => by rw [i1.mpr z.1] at q; cases q⟩
      · cases h2
    · cases h1
  | [], _ :: _, _, _ => by simp [eqL, nkDs]
  | _ :: _, [], _, _ => by simp [eqL, nkDs]
theorem eqK_ok : ∀ n d e, okK n d = true → okK n e = true → (eqKn n d e = true ↔ nkD d = nkD e) := by
  intro n
  induction n with
  | zero =>
    intro d e h1 h2
    cases d <;> first | (simp [okK] at h1; done) | skip
    all_goals cases e <;> first | (simp [okK] at h2; done) | simp [eqKn, eqK0, nkD]
  | succ n ih =>
    intro d e h1 h2
    cases d <;> first | (simp [okK] at h1; done) | skip
    all_goals cases e <;> first | (simp [okK] at h2; done) | (simp [eqKn, eqK0, nkD]; done) | skip
    rename_i a b
    have := eqL_ok ih a b (by simpa [okK] using h1) (by simpa [okK] using h2)
    simpa [eqKn, nkD] using this
theorem depthAll_ok {n : Nat} (ih : ∀ d, okK n d = true → (nkD d).depth ≤ n) : ∀ a : List D, allL (okK n) a = true → NestedKey.depthAll (nkDs a) ≤ n
  | [], _ => by simp [nkDs, NestedKey.depthAll]
  | x :: xs, h => by
    unfold allL at h
    split at h
    · rename_i q
      simp only [nkDs, NestedKey.depthAll]
      exact Nat.max_le.mpr ⟨ih x q, depthAll_ok ih xs h⟩
    · cases h
theorem depthK_ok : ∀ n d, okK n d = true → (nkD d).depth ≤ n := by
  intro n
  induction n with
  | zero => intro d h; cases d <;> first | (simp [okK] at h; done) | simp [nkD, NestedKey.depth]
  | succ n ih =>
    intro d h
    cases d <;> first | (simp [okK] at h; done) | (simp [nkD, NestedKey.depth]; done) | skip
    rename_i a
    have := depthAll_ok ih a (by simpa [okK] using h)
    simp only [nkD, NestedKey.depth]
    omega
theorem nkDs_get : ∀ (a : List D) (i : Nat) k, (nkDs a)[i]? = some k → ∃ d, a[i]? = some d ∧ k = nkD d
  | [], _, _, h => by simp [nkDs] at h
  | x :: xs, 0, k, h => ⟨x, rfl, by simpa [nkDs] using h.symm⟩
  | x :: xs, i + 1, k, h => nkDs_get xs i k (by simpa [nkDs] using h)
theorem nkDs_len : ∀ a : List D, (nkDs a).length = a.length
  | [] => rfl
  | x :: xs => by simp [nkDs, nkDs_len xs]
theorem allL_get {f : D → Bool} : ∀ {a : List D} {i : Nat} {d : D}, allL f a = true → a[i]? = some d → f d = true
  | [], _, _, _, h => by simp at h
  | x :: xs, i, d, h, q => by
    unfold allL at h
    split at h
    · rename_i z
      cases i with
      | zero => cases q; exact z
      | succ i => exact allL_get (a := xs) (i := i) h (by simpa using q)
    · cases h
theorem nkv_ok {G : Gs} (hK : G.Kf = X.K) (sub : ∀ a o, F a = some o → H a = some o) : ∀ (n : Nat) (d : D) (v : V), okK n d = true → Rep G r F v d → NKv X.K H (nkD d) v := by
  intro n
  induction n with
  | zero =>
    intro d v h hv
    cases d <;> first | (simp [okK] at h; done) | skip
    all_goals cases hv
    · exact .non
    · exact .int _
    · exact .str _
  | succ n ih =>
    intro d v h hv
    cases d <;> first | (simp [okK] at h; done) | skip
    · cases hv; exact .non
    · cases hv; exact .int _
    · cases hv; exact .str _
    · rename_i a
      obtain ⟨q, vs, ev, h1, hs⟩ := hv.tupI
      subst ev
      · have ha : allL (okK n) a = true := by simpa [okK] using h
        refine .cons ((h1.mono sub).sq hK) (by rw [nkDs_len, hs.length]) fun i k v e1 e2 => ?_
        obtain ⟨d, e3, e4⟩ := nkDs_get a i k e1
        obtain ⟨v', e5, e6⟩ := hs.get e3
        rw [e2] at e5; cases e5
        rw [e4]
        exact ih d v (allL_get ha e3) e6
def hasKD : List D → D → (Bool → Bool) → Bool
  | [], _, k => k false
  | e :: r, d, k => match eqKn 8 e d with
    | true => k true
    | false => hasKD r d k
theorem hasKD_ok {G : Gs} : ∀ {xs : List (NestedKey × Addr)} {ks : List D} {d : D} {k : Bool → Bool}, KDk G r F xs ks → okK 8 d = true → hasKD ks d k = k (hasK xs (nkD d))
  | _, _, _, _, .nil, _ => rfl
  | _, _, d, k, .cons (a := y) (b := e) (l₁ := l1) (l₂ := l2) h t, ok => by
    have q := eqK_ok 8 e d h.2.1 ok
    rw [h.1] at q
    unfold hasKD hasK
    rw [List.any_cons]
    cases z : eqKn 8 e d with
    | true => rw [decide_eq_true (q.mp z)]; rfl
    | false =>
      rw [decide_eq_false (fun w => by rw [q.mpr w] at z; cases z)]
      show hasKD l2 d k = k (false || hasK l1 (nkD d))
      rw [Bool.false_or]
      exact hasKD_ok t ok
theorem KDk.keys {G : Gs} {xs : List (NestedKey × Addr)} {ks : List D} (hK : G.Kf = X.K) (h : KDk G r F xs ks) (sub : ∀ a o, F a = some o → H a = some o) : ∀ x ∈ xs, NKv X.K H x.1 (.ref x.2) ∧ x.1.depth ≤ 8 := by
  intro x hx
  induction h with
  | nil => cases hx
  | cons h t ih =>
    rcases List.mem_cons.mp hx with e | e
    · rw [e, ← h.1]
      exact ⟨nkv_ok hK sub 8 _ _ h.2.1 h.2.2, depthK_ok 8 _ h.2.1⟩
    · exact ih e
theorem KDk.len {G : Gs} {xs : List (NestedKey × Addr)} {ks : List D} (h : KDk G r F xs ks) : xs.length = ks.length := by
  induction h with
  | nil => rfl
  | cons _ _ ih => simp [ih]
theorem KDk.snoc {G : Gs} {xs : List (NestedKey × Addr)} {ks : List D} {k : NestedKey} {q : Addr} {d : D} (h : KDk G r F xs ks) (hk : nkD d = k ∧ okK 8 d = true ∧ Rep G r F (.ref q) d) : KDk G r F (xs ++ [(k, q)]) (ks ++ [d]) := by
  induction h with
  | nil => exact .cons hk .nil
  | cons h t ih => exact .cons h ih
/-- a cell is written -/
theorem RC.writeX {G : Gs} {T : List NTab} {own : Addr → Prop} {n : Nat} {a : Addr} {o1 o2 : HO} {ce ce' : Cell} (R : RC G T own r F B H cs) (hn : cs.get n = some ce) (hc : ∀ od, ce ≠ .box od) (hi : ce ≠ .raw) (hr : r n = some a) (ha : H a = some o1) (l1 : LivO o1)
    (new : CellOk G own r F B (upd H a o2) ⟨cs.nx, putL cs.l n ce'⟩ n ce') : RC G T own r F B (upd H a o2) ⟨cs.nx, putL cs.l n ce'⟩ := by
  have fa : F a = none ∧ B a = none := by
    rcases (R.cell n ce hn).at_ with ⟨od, e⟩ | ⟨a', vs', z1, z2, z3⟩
    · exact absurd e (hc od)
    · rw [hr] at z1; cases z1; exact z2
  have is : (cs.get n).isSome = true := by rw [hn]; rfl
  refine ⟨fun b o' h => ?_, fun b o' h => ?_, R.plF, R.frB, R.inj, fun m b h => (R.rng m b h).imp (fun z => ?_) id, R.fresh, ?_, fun m d h => ?_, fun m d h => ?_, tabs_kept R.tabs ha ha l1 l1 (fun c o n _ h => by rw [upd_ne n]; exact h), R.dj, R.rb⟩
  · rw [upd_ne (fun z => by rw [z, fa.1] at h; cases h)]
    exact R.subF b o' h
  · rw [upd_ne (fun z => by rw [z, fa.2] at h; cases h)]
    exact R.subB b o' h
  · by_cases e : b = a
    · rw [e, upd_same]; exact fun z => nomatch z
    · rw [upd_ne e]; exact z
  · show ((putL cs.l n ce').map (·.1)).Pairwise (· > ·)
    rw [keys_putL]; exact R.dec
  · rw [get_put cs n m ce' is] at h
    by_cases e : m = n
    · rw [e]; exact R.lt n ce hn
    · rw [if_neg e] at h; exact R.lt m d h
  · rw [get_put cs n m ce' is] at h
    by_cases e : m = n
    · rw [if_pos e] at h
      cases h
      rw [e]; exact new
    · rw [if_neg e] at h
      refine (R.cell m d h).stay (Ext.refl _ _ _) (fun _ z => z) (fun b h1 h2 us _ h3 => ⟨h2, ?_⟩) fun k hk => ?_
      · rw [upd_ne (fun z => e (R.inj m n b h1 (by rw [z]; exact hr)))]
        exact h3
      · rw [get_put cs n k ce' is]
        by_cases e2 : k = n
        · rw [e2, hn] at hk
          exact absurd (Option.some.inj hk) hi
        · rw [if_neg e2]; exact hk
theorem RL.writeX {G : Gs} {T : List NTab} {bx : List Nat} {n : Nat} {a : Addr} {o1 o2 : HO} {ce ce' : Cell} (R : RL G T X bx r F B σ H ds cs) (hn : cs.get n = some ce) (hc : ∀ od, ce ≠ .box od) (hi : ce ≠ .raw) (hr : r n = some a) (ha : H a = some o1) (l1 : LivO o1)
    (new : CellOk G (ownB X bx) r F B (upd H a o2) ⟨cs.nx, putL cs.l n ce'⟩ n ce') : RL G T X bx r F B σ (upd H a o2) ds ⟨cs.nx, putL cs.l n ce'⟩ := by
  have is : (cs.get n).isSome = true := by rw [hn]; rfl
  refine ⟨R.rc.writeX hn hc hi hr ha l1 new, R.slot, fun i hi => ?_, R.binj, R.len, R.kf⟩
  obtain ⟨n', a', h1, h2, h4, h5⟩ := R.boxs i hi
  refine ⟨n', a', h1, h2, h4, fun m ce2 hm hc2 => ?_⟩
  rw [get_put cs n m _ is, if_neg (fun e => by rw [e] at hm; obtain ⟨od, e1, _⟩ := h5 _ _ hm hn; exact hc od e1)] at hc2
  exact h5 m ce2 hm hc2
/-- {}, to be filled -/
def mDictC : ME := fun _ _ cs k _ => fNat (cs.nx + 1) fun n => k (.cel cs.nx) ⟨n, (cs.nx, .kd []) :: cs.l⟩
theorem xe_dictC (hw : c.G.w = X.w) : XE c X (.Dict [] [] pos) mDictC := XE.mk pe_dnewKD fun r F B σ H ds cs K x Q hm R k xk => fun q hq hf => by
  unfold mDictC at hm
  rw [fNat_eq] at hm
  obtain ⟨R', E⟩ := RL.newX (ce := .kd []) R hq (ownne hf) ⟨q, [], updR_same _ _, ⟨R.rc.freeF hq, R.rc.freeB hq⟩, by rw [hw]; exact upd_same, .nil⟩
  exact k _ _ _ _ _ _ _ E R' (.cel (updR_same _ _)) hm
/-- k in d -/
def bInK (neg : Bool) : B2 := fun u v cs k => match v with
  | .cel n => getC cs.l n fun q => (match q with
    | .kd ks => (match u with
      | .tup us => (match okK 8 (.tup us) with
        | true => hasKD ks (.tup us) fun z => (match neg with | true => k (!z) | false => k z)
        | false => false)
      | _ => false)
    | _ => bIn neg u v cs k)
  | _ => bIn neg u v cs k
theorem bInK_ok (neg : Bool) (hw : c.G.w = X.w) : B2ok c X (fun x y H Q => rInD X.K neg x y H Q ∨ rInKD X.K X.w neg x y H Q) (bInK neg) := by
  intro r F B σ H ds cs k v w d e R hv hw' h
  have old : bIn neg d e cs k = true → ∃ b, k b = true ∧ ∀ Q : VK, Q (.bl b) H → (rInD X.K neg v w H Q ∨ rInKD X.K X.w neg v w H Q) := fun h => by
    obtain ⟨b, h1, h2⟩ := bIn_ok neg r F B σ H ds cs k v w d e R hv hw' h
    exact ⟨b, h1, fun Q q => .inl (h2 Q q)⟩
  unfold bInK at h
  split at h
  · rename_i n
    obtain ⟨q, q1, q2⟩ := getC_true h
    split at q2
    · rename_i ks
      split at q2
      · rename_i us
        split at q2
        · rename_i ok
          obtain ⟨a, xs, z1, z2, z3, z4⟩ := R.rc.cell _ _ q1
          cases hw' with
          | cel hr =>
            rw [hr] at z1; cases z1
            rw [hasKD_ok z4 ok] at q2
            obtain ⟨b, vs, ev, t1, t2⟩ := id hv.tupI
            subst ev
            · refine ⟨if neg then !hasK xs (nkD (.tup us)) else hasK xs (nkD (.tup us)), by cases neg <;> exact q2, fun Q z => .inr ⟨_, b, a, xs, rfl, rfl, nkv_ok R.kf R.rc.subF 8 _ _ ok hv, depthK_ok 8 _ ok, by rw [← hw]; exact z3, KDk.keys R.kf z4 R.rc.subF, z⟩⟩
        · cases q2
      · cases q2
    · exact old q2
  · exact old h
theorem c_inK (bd : Bex c X k) (hw : c.G.w = X.w) : CmpO c X .In (bInK false) := ⟨_, (op_inD bd.u128).or (op_inKD (by have := bd.u128; omega)), bInK_ok false hw⟩
theorem c_notinK (bd : Bex c X k) (hw : c.G.w = X.w) : CmpO c X .NotIn (bInK true) := ⟨_, (op_notInD bd.u128).or (op_notinKD (by have := bd.u128; omega)), bInK_ok true hw⟩
/-- d[k] = True -/
def putKs (ks : List D) (d : D) (k : List D → Bool) : Bool := hasKD ks d fun z => match z with
  | true => k ks
  | false => fList (ks ++ [d]) k
def gSetK (mo mi : ME) : MG := fun v f e cs k x => mo f e cs (fun u cs1 => mi f e cs1 (fun d cs2 => match u with
  | .cel n => getC cs2.l n fun q => (match q with
    | .kd ks => (match d with
      | .tup us => (match okK 8 (.tup us) && fits ks with
        | true => putKs ks (.tup us) fun ks' => setL cs2.l n (.kd ks') fun l => k e ⟨cs2.nx, l⟩
        | false => false)
      | _ => false)
    | _ => false)
  | _ => false) x) x
theorem pg_own {t : TG} (h : PG X e t) : PG X e (fun v σ H Q => t v σ H fun σ H => OwnFree X H → Q σ H) := ⟨fun pins s σ H v u Q I r q =>
  thn (h.run pins s σ H v u _ I r q) fun _ s' ⟨σ', H', I', q'⟩ => ⟨σ', H', I', q' (Inv.ownFree I')⟩⟩
theorem xg_setK (bd : Bex c X k) (hw : c.G.w = X.w) {oe ie : Expr} (ho : XE c X oe ma) (hi : XE c X ie mb)
    (ha : ∀ v, assign (.Subscript oe ie pos) X.env v = (do
      let ov ← holding [v] (eval oe X.env)
      let iv ← holding [v, ov] (eval ie X.env)
      standAt pos
      holding [v, ov, iv] (setItem ov iv v)
      release [v, ov, iv] []) := by intro _; rfl) : XG c X (.Subscript oe ie pos) (gSetK ma mb) :=
  pg_imp (pg_sub ho hi (set_KD (by have := bd.u128; omega)) ha) fun v σ H Q ⟨r, F, B, ds, cs, d, kk, x, hm, R, hv, n, xk⟩ => by
    refine tE.of hm R (fun r1 F1 B1 H1 v1 u cs1 E1 R1 hv1 h1 => ?_) xk
    refine tE.of h1 R1 (fun r2 F2 B2 H2 v2 d2 cs2 E2 R2 hv2 h2 => ?_) (xk.ext E1)
    split at h2
    case h_2 => cases h2
    rename_i m
    obtain ⟨q, q1, q2⟩ := getC_true h2
    have q1 : cs2.get m = some q := q1
    split at q2
    case h_2 => cases q2
    rename_i ks _
    split at q2
    case h_2 => cases q2
    rename_i us
    split at q2
    case h_2 => cases q2
    rename_i okf
    obtain ⟨ok, ff⟩ := Bool.and_eq_true_iff.mp okf
    obtain ⟨a, xs, z1, z2, z3, z4⟩ := R2.rc.cell _ _ q1
    have hr1 := hv1.ext E2
    cases hr1 with
    | cel hr =>
      rw [hr] at z1; cases z1
      · obtain ⟨b, vs, ev, t1, t2⟩ := id hv2.tupI
        subst ev
        · have fl := Nat.le_of_ble_eq_true ff
          refine ⟨a, b, nkD (.tup us), xs, rfl, rfl, nkv_ok R2.kf R2.rc.subF 8 _ _ ok hv2, depthK_ok 8 _ ok, by rw [← hw]; exact z3, KDk.keys R2.kf z4 R2.rc.subF, by rw [z4.len, sizeLine_eq]; omega, ?_⟩
          unfold putKs at q2
          rw [hasKD_ok z4 ok] at q2
          unfold putKD
          split at q2
          · rename_i hk
            rw [if_pos hk]
            dsimp only at q2
            rw [setL_eq] at q2
            exact n _ _ _ _ _ _ _ (E1.trans E2) (RL.writeX (ce' := .kd ks) R2 q1 (fun od z => nomatch z) (fun z => nomatch z) hr z3 .kd ⟨a, xs, hr, z2, by rw [hw]; exact upd_same, z4⟩) q2
          · rename_i hk
            rw [if_neg (by rw [hk]; exact fun z => nomatch z)]
            rw [fList_eq, setL_eq] at q2
            exact n _ _ _ _ _ _ _ (E1.trans E2) (RL.writeX (ce' := .kd (ks ++ [.tup us])) R2 q1 (fun od z => nomatch z) (fun z => nomatch z) hr z3 .kd ⟨a, _, hr, z2, by rw [hw]; exact upd_same, z4.snoc ⟨rfl, ok, hv2⟩⟩) q2
end
end Ev

set_option Elab.async false
set_option linter.all false
set_option maxRecDepth 100000
set_option maxHeartbeats 4000000
/-! Ev27: any of ints, texts and tuples multiplied -/
namespace Ev
open PySem PySem.Spec PyProof.Rows L2 LamX NdefX
def ibB : V → Option Bool
  | .int i => some (i != 0)
  | .bl b => some b
  | .non => some false
  | _ => none
theorem truth_ib {prog : Program} {w : World} {A : Around} {ws : List V} {bs : List Bool} {its : List Value} (rv : Vals ws its) (h : Paired (fun v b => ibB v = some b) ws bs) :
    TruthOf prog w A (fun i v => its.toArray[i]? = some v) (fun i => bs.getD i false) := fun i v s Q E hv hq => by
  have hv' : its[i]? = some v := by simpa using hv
  have gen : ∀ (ws : List V) (bs : List Bool) (its : List Value) (i : Nat), Vals ws its → Paired (fun v b => ibB v = some b) ws bs → its[i]? = some v → ∃ x b, RelV x v ∧ ibB x = some b ∧ bs.getD i false = b := by
    intro ws bs its i rv h
    induction h generalizing its i with
    | nil => intro e; cases rv; simp at e
    | cons h t ih =>
      intro e
      cases rv with
      | cons r rr =>
        cases i with
        | zero => cases e; exact ⟨_, _, r, h, rfl⟩
        | succ i => exact ih _ i rr (by simpa using e)
  obtain ⟨x, b, r, e1, e2⟩ := gen ws bs its i rv h hv'
  have hq : Q (bs.getD i false) s := hq
  rw [e2] at hq
  cases x <;> first | (simp [ibB] at e1; done) | skip
  · cases r
    cases e1
    exact fun _ _ _ => hq
  · cases r
    cases e1
    exact wpAny_truthy_bool hq
  · obtain ⟨t, rfl⟩ := r
    cases e1
    exact truthy_int hq
theorem pl_len {ws : List V} {bs : List Bool} (h : Paired (fun v b => ibB v = some b) ws bs) : ws.length = bs.length := by
  induction h with
  | nil => rfl
  | cons _ _ ih => simp [ih]
def rAnyI (K : PySem.W.Frag) : List V → Hp → VK → Prop := fun vs H Q => ∃ (a : Addr) (ws : List V) (bs : List Bool), vs = [V.ref a] ∧ SqL K H a ws ∧ Paired (fun v b => ibB v = some b) ws bs ∧ Q (.bl (bs.any id)) H
section
variable {X : Cx}
theorem cr_anyI (hc : X.calm = true) : CallR X (.builtin "any") (rAnyI X.K) := by
  intro pins s σ H vs us Q I r h
  obtain ⟨a, ws, bs, rfl, hs, hb, q⟩ := h
  obtain ⟨its, rv, hl, _⟩ := I.list hs
  rw [Vals.ref1 r]
  have hlen : its.length = bs.length := by
    have h1 := rv.length
    have h2 : ws.length = bs.length := pl_len hb
    omega
  refine call_any_walk (iter_any hl.isList fun s₂ e2 st hne => ?_)
  subst e2
  refine ⟨_, _, _, _, _, _, _, rfl, Walks.list (A := X.A.in1) (I.ok.hd hc) _ a hne its.toArray, st, truth_ib rv hb, fun h' tk hk => ?_⟩
  refine ⟨.bl _, H, I.kept fun b o eo => hk b o (fun hmem => ?_) (Heap.get?_push_of_some _ eo), ?_, q⟩
  · rcases List.mem_cons.mp hmem with e1 | hmem
    · exact absurd (e1 ▸ Heap.lt_size eo) (Nat.lt_irrefl _)
    · cases hmem
  · show Value.bool _ = Value.bool _
    rw [← L2.any_range, List.size_toArray, hlen]
def rMulS : R2 := fun x y H Q => ∃ s n, x = .str s ∧ y = .int n ∧ MulOk s n ∧ Q (.str (Txt.mul s n)) H
theorem op_mulS : OpR X (binaryOp .Mult) rMulS := by
  intro pins s σ H x y v u Q I rx ry h
  obtain ⟨z, n, rfl, rfl, ok, q⟩ := h
  obtain ⟨t, rfl⟩ := rx
  obtain ⟨t', rfl⟩ := ry
  exact SB.mul ok fun t' k => ⟨.str _, H, I.tok _, ⟨_, rfl⟩, q⟩
end
section
variable {c : Cxt} {X : Cx} {e a b d : Expr} {es : List Expr} {pos p : Pos} {r : Nat → Option Addr} {F B H H' : Hp} {σ : L2.St} {ds : Env} {cs : Cs} {K : KE} {x : KX} {Q : VK} {m ma mb md : ME} {mr : MA} {o : HO} {k : Nat}
def onlyT : List D → Bool → Bool
  | [], q => q
  | d :: r, q => match d with
    | .bl _ => onlyT r q
    | .int _ => onlyT r q
    | .non => onlyT r q
    | _ => false
def anyD : List D → (Bool → Bool) → Bool
  | [], k => k false
  | d :: r, k => match d with
    | .bl b => (match b with
      | true => onlyT r (k true)
      | false => anyD r k)
    | .int i => (match nzI i with
      | true => onlyT r (k true)
      | false => anyD r k)
    | .non => anyD r k
    | _ => false
theorem onlyT_ok {G : Gs} : ∀ {vs : List V} {xs : List D} {q : Bool}, Reps G r F vs xs → onlyT xs q = true → q = true ∧ ∃ bs : List Bool, Paired (fun v b => ibB v = some b) vs bs
  | _, _, q, .nil, h => ⟨h, [], .nil⟩
  | _, _, q, .cons hv t, h => by
    unfold onlyT at h
    split at h
    · cases hv
      obtain ⟨h1, bs, h2⟩ := onlyT_ok t h
      exact ⟨h1, _ :: bs, .cons rfl h2⟩
    · cases hv
      obtain ⟨h1, bs, h2⟩ := onlyT_ok t h
      exact ⟨h1, _ :: bs, .cons rfl h2⟩
    · cases hv
      obtain ⟨h1, bs, h2⟩ := onlyT_ok t h
      exact ⟨h1, _ :: bs, .cons rfl h2⟩
    · cases h
theorem nzI_eq : ∀ i : Int, nzI i = (i != 0)
  | .ofNat 0 => rfl
  | .ofNat (n + 1) => rfl
  | .negSucc n => rfl
theorem anyD_ok {G : Gs} : ∀ {vs : List V} {xs : List D} {k : Bool → Bool}, Reps G r F vs xs → anyD xs k = true → ∃ bs : List Bool, Paired (fun v b => ibB v = some b) vs bs ∧ k (bs.any id) = true
  | _, _, k, .nil, h => ⟨[], .nil, h⟩
  | _, _, k, .cons hv t, h => by
    unfold anyD at h
    split at h
    · rename_i b
      cases hv
      cases b
      · obtain ⟨bs, h1, h2⟩ := anyD_ok t h
        exact ⟨false :: bs, .cons rfl h1, h2⟩
      · obtain ⟨h1, bs, h2⟩ := onlyT_ok t h
        exact ⟨true :: bs, .cons rfl h2, h1⟩
    · rename_i i
      cases hv
      split at h
      · rename_i q
        obtain ⟨h1, bs, h2⟩ := onlyT_ok t h
        exact ⟨true :: bs, .cons (by show some (i != 0) = _; rw [← nzI_eq, q]) h2, h1⟩
      · rename_i q
        obtain ⟨bs, h1, h2⟩ := anyD_ok t h
        exact ⟨false :: bs, .cons (by show some (i != 0) = _; rw [← nzI_eq, q]) h1, h2⟩
    · cases hv
      obtain ⟨bs, h1, h2⟩ := anyD_ok t h
      exact ⟨false :: bs, .cons rfl h1, h2⟩
    · cases h
def mAnyI (a : ME) : ME := fun f e cs k x => a f e cs (fun d cs1 => rdSeq d cs1 fun t xs => match t with
  | false => anyD xs fun b => k (.bl b) cs1
  | true => false) x
theorem xe_anyI (hc : X.calm = true) (hg : Gl X "any") (hm : X.mg "any" = none) (ha : XE c X e m) (hv : bootBuiltins "any" = some (.builtin "any") := by decide +kernel) (h1 : starEach [e] X.env = (false, eval e X.env) :: starEach [] X.env := by rfl) (hpl : (backTo pos (starEach [] X.env)).any (·.1) = false := by rfl) :
    XE c X (.Call (.Name "any" p) [e] [] pos) (mAnyI m) :=
  XE.mk (pe_callB (cr_anyI hc) hg hm hv (pa_cons ha pa_nil h1) (by decide) (by decide) h1 hpl) fun r F B σ H ds cs K x Q hm R k xk => by
    refine tE.of hm R (fun r1 F1 B1 H1 v d cs1 E1 R1 hv h1 => ?_) xk
    obtain ⟨a, vs, xs, ev, hs, h2⟩ := rdSeq_ok R1.rc hv h1
    rcases h2 with ⟨h2, h3⟩ | ⟨h2, h3⟩
    · obtain ⟨bs, h4, h5⟩ := anyD_ok hs h2
      exact ⟨a, vs, bs, by rw [ev], SqL.of h3, h4, fun _ => k _ _ _ _ _ _ _ E1 R1 (.bl _) h5⟩
    · cases h2
def oMul2 (pol : Bool) : O2 := fun u v cs k => match u with
  | .str s => (match v with
    | .int (.ofNat n) => (match Nat.ble n 1000 && Nat.ble s.length 1000 with
      | true => k (.str (Txt.mul s (.ofNat n))) cs
      | false => false)
    | _ => false)
  | .tup xs => (match v with
    | .int (.ofNat n) => (match Nat.ble 2 n && (Nat.ble n 1000 && (Nat.ble xs.length 1000 && Nat.ble 1 xs.length)) with
      | true => repD n xs [] fun zs => k (.tup zs) cs
      | false => false)
    | _ => false)
  | _ => oMul pol u v cs k
theorem mulOk_of {s : Str} {n : Nat} (h1 : n ≤ 1000) (h2 : s.length ≤ 1000) : MulOk s (Int.ofNat n) := by
  have e63 : (2 : Int) ^ 63 = 9223372036854775808 := by decide
  refine ⟨?_, fun h _ => ?_, fun h _ => ?_⟩
  · rw [Bool.or_eq_false_iff]
    exact ⟨decide_eq_false (by show ¬ ((n : Int) < _); omega), decide_eq_false (by show ¬ ((n : Int) ≥ _); omega)⟩
  · have hn : (0 : Int) < Int.ofNat n := by omega
    have : (1000 : Int) ≤ (2 ^ 63 - 1) / Int.ofNat n := by
      rw [Int.le_ediv_iff_mul_le hn, e63]
      show (1000 : Int) * (n : Int) ≤ _
      omega
    omega
  · have : s.length * n ≤ 1000 * 1000 := Nat.mul_le_mul h2 h1
    exact decide_eq_false (by rw [sizeLine_eq]; show ¬ (s.length * n > _); omega)
theorem oMul2_ok (pol : Bool) : O2ok c X (fun x y H Q => ((rI CMul fun i j => .int (i * j)) x y H Q ∨ rRep x y H Q) ∨ (rMulS x y H Q ∨ rRepT X.K x y H Q)) (oMul2 pol) := by
  intro r F B σ H ds cs K Q v w d e R hv hw h k
  unfold oMul2 at h
  split at h
  · rename_i s
    split at h
    · rename_i n
      split at h
      · rename_i q
        obtain ⟨q1, q2⟩ := Bool.and_eq_true_iff.mp q
        cases hv
        cases hw
        exact .inr (.inl ⟨s, _, rfl, rfl, mulOk_of (Nat.le_of_ble_eq_true q1) (Nat.le_of_ble_eq_true q2), fun _ => k _ _ _ _ _ _ _ (Ext.refl _ _ _) R (.str _) h⟩)
      · cases h
    · cases h
  · rename_i xs
    split at h
    · rename_i n
      split at h
      · rename_i q
        obtain ⟨q1, q⟩ := Bool.and_eq_true_iff.mp q
        obtain ⟨q2, q⟩ := Bool.and_eq_true_iff.mp q
        obtain ⟨q3, q4⟩ := Bool.and_eq_true_iff.mp q
        have q1 := Nat.le_of_ble_eq_true q1
        have q2 := Nat.le_of_ble_eq_true q2
        have q3 := Nat.le_of_ble_eq_true q3
        have q4 := Nat.le_of_ble_eq_true q4
        rw [repD_eq, List.append_nil] at h
        cases hw
        obtain ⟨a, vs, ev, h1, hs⟩ := hv.tupI
        subst ev
        · have hl := hs.length
          refine .inr (.inr ⟨a, _, vs, rfl, rfl, (h1.mono R.rc.subF).sq R.kf, (fun z => by have e : vs.length = 0 := (by rw [z]; rfl); omega), (by show (2 : Int) ≤ (n : Int); omega), (by show (n : Int) ≤ 1000; omega), by omega, newT_ok R k (reps_rep hs n) h⟩)
      · cases h
    · cases h
  · exact .inl (oMul_ok pol r F B σ H ds cs K Q v w d e R hv hw h k)
theorem xe_mul2 (pol : Bool) (ha : XE c X a ma) (hb : XE c X b mb) : XE c X (.BinOp a .Mult b pos) (mOp (oMul2 pol) ma mb) := xe_op ((op_mul.or op_rep).or (op_mulS.or op_repT)) (oMul2_ok pol) ha hb
end
end Ev

set_option Elab.async false
set_option linter.all false
set_option maxRecDepth 100000
set_option maxHeartbeats 4000000
/-! Ev28: a comprehension in a frame with boxes: the block's cells known -/
namespace Ev
open PySem PySem.Spec PyProof.Rows L2 LamX NdefX
/-- the cells of a block that starts at s -/
abbrev blkCl (X : Cx) (scope : Scope) (s : Shared) : List (Str × Addr) := cellsFrom (s.heap.objs.size + 1) scope.names (cloFrom X.env.cells scope.names [])
abbrev blkE (X : Cx) (scope : Scope) (s : Shared) : PySem.Env := compEnvC scope (blkCl X scope s) s.heap.objs.size X.env
abbrev blkX (X : Cx) (scope : Scope) (s : Shared) (H : Hp) (fp : List Addr) : Cx := X.blk s H scope (blkE X scope s) fp
theorem wipe_set (σ : L2.St) (u : Nat) : ∀ vs : List Nat, u ∈ vs → (wipe σ vs).set u none = wipe σ vs
  | w :: ws, h => by
    show ((wipe σ ws).set w none).set u none = (wipe σ ws).set w none
    by_cases e : u = w
    · rw [e, List.set_set]
    · rw [List.set_comm _ _ (Ne.symm e), wipe_set σ u ws ((List.mem_cons.mp h).resolve_left e)]
theorem wipe_twice (σ : L2.St) (vs : List Nat) : wipe (wipe σ vs) vs = wipe σ vs := by
  have gen : ∀ us : List Nat, (∀ u ∈ us, u ∈ vs) → wipe (wipe σ vs) us = wipe σ vs := fun us => by
    induction us with
    | nil => intro _; rfl
    | cons u us ih =>
      intro hu
      show (wipe (wipe σ vs) us).set u none = _
      rw [ih fun z hz => hu z (List.mem_cons_of_mem _ hz)]
      exact wipe_set σ u vs (hu u List.mem_cons_self)
  exact gen vs fun _ z => z
section
variable {X : Cx} {pins : List (Addr × Obj)} {σ : L2.St} {H : Hp} {s : Shared}
/-- a free name's cell is the frame's -/
theorem blk_free {scope : Scope} {y : Str} {c : Addr} (u : ∀ y ∈ scope.names, scope.names.lookup y.1 = some y.2) (hy : scope.names.lookup y = some .free) (hc : X.env.cells.lookup y = some c) : (blkCl X scope s).lookup y = some c := by
  have m0 : (y, NameKind.free) ∈ scope.names := PySem.mem_of_lookup hy
  have m1 := cells_acc (names := scope.names) (n := s.heap.objs.size + 1) (cloFrom_has (cells := X.env.cells) (acc := []) m0)
  obtain ⟨d, hd⟩ := L2.mem_lookup m1
  have m2 := PySem.mem_of_lookup hd
  rw [← Heap.size_push s.heap { cls := .type "dict", data := .dict #[] }] at m2
  have ed : d = c := by
    rcases cells_mem m2 with m3 | ⟨m3, _⟩
    · rcases cloFrom_mem m3 with m4 | ⟨_, m4⟩
      · cases m4
      · rw [hc] at m4; exact m4
    · have q := u _ m3
      rw [hy] at q; cases q
  rw [← ed]; exact hd
/-- what a turn of the block is to do -/
def BlkTurn (Y : Cx) (vs : List Nat) (σ : L2.St) (tg elt : Expr) (D : Addr) (u : Value) (Nx : Hp → Prop) (pp : List (Addr × Obj)) (s : Shared) : Prop :=
  wpAny (model Y.prog Y.w) Y.A (assign tg Y.env u) (fun _ t => ∃ σ1 H1, Inv Y pp σ1 H1 t ∧ wipe σ1 vs = wipe σ vs ∧ wpAny (model Y.prog Y.w) Y.A (eval elt Y.env) (fun z t2 => ∃ v H2 acc, Inv Y pp σ1 H2 t2 ∧ RelV v z ∧ H2 D = some (.lst acc) ∧ acc.length < sizeLine ∧ Nx (upd H2 D (.lst (acc ++ [v])))) (fun _ _ => False) t) (fun _ _ => False) s
/-- the reading -/
def tLcB (X : Cx) (wi : TI) (vs : List Nat) (scope : Scope) (tg elt : Expr) : TE := fun σ H Q => wi σ H fun J H1 => ∀ D s3 fp pins, H1 D = none → Inv X pins σ (upd H1 D (.lst [])) s3 → (∀ b ∈ fp, FpOk X pins (upd H1 D (.lst [])) b ∧ b < s3.heap.objs.size) →
  ∀ s4, Inv (blkX X scope s3 (upd H1 D (.lst [])) fp) [] (wipe σ vs) (upd H1 D (.lst [])) s4 → ∃ W : Nat → Nat → Hp → Prop, (∃ m, W 0 m (upd H1 D (.lst []))) ∧ ∀ i m H2, W i m H2 →
    (J.stop i H2 ∧ ∀ s6, Inv (blkX X scope s3 (upd H1 D (.lst [])) fp) [] (wipe σ vs) H2 s6 → ∃ H6, Un (frs X.stack) fp (upd H1 D (.lst [])) H6 s3.heap s6.heap ∧ HOk X.prog X.w H6 s6.heap ∧ H6 s3.heap.objs.size = none ∧ Q (.ref D) H6) ∨
    (J.go i H2 ∧ ∃ Nx : Hp → Prop, (∀ H', Nx H' → ∃ m', m' < m ∧ W (i + 1) m' H') ∧ ∀ x u H3 pp s7, Inv (blkX X scope s3 (upd H1 D (.lst [])) fp) pp (wipe σ vs) H3 s7 → RelV x u → J.yld i H2 x H3 → BlkTurn (blkX X scope s3 (upd H1 D (.lst [])) fp) vs (wipe σ vs) tg elt D u Nx pp s7)
theorem pe_lcB {elt tg iter : Expr} {scope : Scope} {own : List (Str × Nat)} {pos : Pos} {wi : TI} (hc : X.calm = true) (hN : X.N.Nodup) (hi : PI X tg iter wi) (ok : BlkOk X.N X.env.scope scope own) (hs : ∀ x, foldedSetIterable iter X.env x = pure x) :
    PE X (.ListComp elt [⟨tg, iter, [], 0⟩] scope pos) (tLcB X wi (own.map (·.2)) scope tg elt) := ⟨fun pins s σ H Q I h => by
  rw [eval_ListComp]
  have clo : ∀ y ∈ scope.names, y.2 = .free → ∃ c, X.env.cells.lookup y.1 = some c := fun y hy e => (ok.free y hy e).elim (fun k => I.ok.has _ (.inl k)) fun k => I.ok.has _ (.inr k)
  refine wpAny_comprehension_free (use := none) rfl hs (closure_ok clo) ok.kind (fun y hy e => by rw [ok.uniq y hy, e]) (thn (hi.run pins s σ H _ I h) fun xv s1 hx => thn hx fun itv s2 ⟨it, fp, tn, J, H2, e, I2, T, st2, f2, q⟩ => ?_)
  subst e
  refine wpAny_newObj_type (newEnv_comp ?_) (by show 0 ≤ sizeLine; decide)
  have pushed : ∀ b o, s2.heap.get? b = some o → (s2.heap.push { cls := .type "list", data := .seq ([] : List Value).toArray }).get? b = some o := fun b o e => Heap.get?_push_of_some _ e
  have small : ∀ b ∈ fp, b < s2.heap.objs.size := fun b hb => let ⟨_, e, _⟩ := T.obj _ _ st2 b hb; Heap.lt_size e
  have DN : H2 s2.heap.objs.size = none := I2.hok.fresh (Nat.le_refl _)
  have J3 : Inv X pins σ (upd H2 s2.heap.objs.size (.lst [])) { s2 with heap := s2.heap.push { cls := .type "list", data := .seq ([] : List Value).toArray } } :=
    I2.laid (t' := s2.toks) pushed (Nat.le_refl _) ⟨Nat.zero_le _, [], 0, .nil, Heap.get?_push_size _ rfl⟩
  have F3 : ∀ b ∈ fp, FpOk X pins (upd H2 s2.heap.objs.size (.lst [])) b ∧ b < (s2.heap.push { cls := .type "list", data := .seq ([] : List Value).toArray }).objs.size := fun b hb =>
    ⟨⟨by rw [upd_ne (Nat.ne_of_lt (small b hb))]; exact (f2 b hb).1, (f2 b hb).2⟩, by rw [Heap.size_push]; exact Nat.lt_succ_of_lt (small b hb)⟩
  have J4 := block_start J3 ok hN F3
  have q1 := q _ _ fp pins DN J3 F3 _ J4
  have st4 := T.keep _ _ _ st2 fun b _ o e => pushCells_keeps scope.names _ _ _ (Heap.get?_push_of_some { cls := .type "dict", data := .dict #[] } (pushed b o e))
  obtain ⟨W, ⟨m0, w0⟩, turn⟩ := q1
  -- names for what is fixed from here on
  generalize hD : s2.heap.objs.size = D at *
  generalize h3 : ({ s2 with heap := s2.heap.push { cls := .type "list", data := .seq ([] : List Value).toArray } } : Shared) = s3 at *
  have e3 : s2.heap.push { cls := .type "list", data := .seq ([] : List Value).toArray } = s3.heap := by rw [← h3]
  rw [e3] at F3 st4
  generalize hH : upd H2 D (.lst []) = G3 at *
  have nofp : ∀ b ∈ fp, G3 b = none := fun b hb => (F3 b hb).1.1
  have foot : ∀ {σ' : L2.St} {H' : Hp} {s' : Shared}, Inv (blkX X scope s3 G3 fp) [] σ' H' s' → (∀ b ∈ fp, H' b = none) → ∀ b ∈ fp, FpOk (blkX X scope s3 G3 fp) [] H' b := fun {σ' H' s'} I' hn b hb =>
    ⟨hn b hb, (I'.ok.exf b hb).1, I'.ok.exfs b hb, Or.inl hb, fun x c e => (I'.ok.exf b hb).2 x c e, fun p hp => by cases hp⟩
  generalize h4 : ({ s3 with heap := pushCells (s3.heap.push { cls := .type "dict", data := .dict #[] }) scope.names } : Shared) = s4 at *
  have st5 : tn 0 s4.heap := by rw [← h4]; exact st4
  have fn_ : codeAny (model X.prog X.w) X.A (.compLoop (.ListComp elt [⟨tg, iter, [], 0⟩] scope pos) 0 (.ref it) (.ref D) (blkE X scope s3)) (compPost (model X.prog X.w) X.A X.xe none (EP X pins σ Q) (.ref D) s3.heap.objs.size) s4 := ?_
  · have z := codeAny_compStart_list fn_ (T.self X.A 0 _ _ _ st5 fn_)
    subst h3
    subst hD
    exact z
  refine compLoop_any (fun n t => ∃ i H', Inv (blkX X scope s3 G3 fp) [] (wipe σ (own.map (·.2))) H' t ∧ tn i t.heap ∧ (∀ b ∈ fp, H' b = none) ∧ W i n H') ?_ m0 ⟨0, G3, J4, st5, nofp, w0⟩
  rintro n t ⟨i, H5, I5, st5, n5, w5⟩
  rcases turn i n H5 w5 with ⟨stop, fin⟩ | ⟨go, Nx, less, step⟩
  · refine thnF (T.done (blkX X scope s3 G3 fp) rfl rfl rfl hc i [] t _ H5 (fun _ _ => False) I5 (foot I5 n5) st5 stop) fun r s6 ⟨hr, I6⟩ => ?_
    subst hr
    obtain ⟨H6, un, hk, nC, qq⟩ := fin s6 I6
    have I7 : Inv X pins σ H6 s6 := J3.call' (ch := fp) I6.os un hk I6.bare fun b hb => ⟨(F3 b hb).1.2.2.2.1, (F3 b hb).1.2.1, (F3 b hb).1.2.2.2.2.1, (F3 b hb).1.2.2.2.2.2⟩
    obtain ⟨m, hn, _⟩ := I6.loc
    refine ⟨m, hn, fun h' sb => ?_⟩
    have f := J3.fpOk (Nat.le_refl _) (H := G3) (J3.hok.fresh (Nat.le_refl _))
    obtain ⟨f0, f1, f2', f3, f4, f5⟩ := f
    exact ⟨.ref D, H6, I7.turned (t' := s6.toks) (fun b o hb e => (sb.2 b hb).trans e) nC f1 f3 f4 f5, rfl, qq⟩
  · refine thnF (T.item (blkX X scope s3 G3 fp) rfl rfl rfl hc i [] t _ H5 (fun _ _ => False) I5 (foot I5 n5) st5 go) fun r s6 ⟨u, hr, h6⟩ => ?_
    subst hr
    refine thnF h6 fun _ s7 ⟨x, H7, I7, r7, y7, st7, n7⟩ => ?_
    have P7 := I7.pinned (foot I7 n7) (T.obj _ _ st7)
    refine thnF (step x u H7 _ s7 P7 r7 y7) fun _ s8 ⟨σ8, H8, I8, w8, q8⟩ => wpAny_tests_nil ?_
    show wpAny _ _ _ _ _ _
    refine thnF q8 fun z s9 ⟨v, H9, acc, I9, rv, hacc, hlen, nx⟩ => ?_
    refine app_ok (X := blkX X scope s3 G3 fp) I9 hacc hlen rv fun s10 I10 => ?_
    obtain ⟨m', lt, w'⟩ := less _ nx
    have keep : ∀ b ∈ fp, ∀ o, s7.heap.get? b = some o → s10.heap.get? b = some o ∧ upd H9 D (.lst (acc ++ [v])) b = none := fun b hb o e =>
      let z := I10.pin (b, o) (List.mem_append_right _ (List.mem_append_right _ (mem_pinsAt hb e)))
      ⟨z.1, z.2.1⟩
    refine ⟨m', lt, i + 1, _, (I10.unpinned (pins := [])).weak (by rw [← wipe_length σ8 (own.map (·.2)), w8, wipe_length, wipe_length, wipe_length]) (fun j v' e => ?_), T.keep _ _ _ st7 fun b hb o e => (keep b hb o e).1, fun b hb => ?_, w'⟩
    · have ww : wipe (wipe σ (own.map (·.2))) (own.map (·.2)) = wipe σ (own.map (·.2)) := wipe_twice _ _
      rw [ww] at w8
      rw [← w8] at e
      exact (wipe_some e).1
    · obtain ⟨o, e, _⟩ := T.obj _ _ st7 b hb
      exact (keep b hb o e).2⟩
end
end Ev

set_option Elab.async false
set_option linter.all false
set_option maxRecDepth 100000
set_option maxHeartbeats 4000000
/-! Ev29: a body cut in pieces: the state between them is told -/
namespace Ev
open PySem PySem.Spec PyProof.Rows L2 LamX NdefX
mutual
def sameD : Nat → D → D → Bool
  | _, .non, e => match e with | .non => true | _ => false
  | _, .bl b, e => match e with | .bl c => (match b, c with | true, true => true | false, false => true | _, _ => false) | _ => false
  | _, .int i, e => match e with | .int j => decide (i = j) | _ => false
  | _, .str s, e => match e with | .str t => decide (s = t) | _ => false
  | n + 1, .lst xs, e => match e with | .lst ys => sameL n xs ys | _ => false
  | n + 1, .tup xs, e => match e with | .tup ys => sameL n xs ys | _ => false
  | _, .cel m, e => match e with | .cel j => Nat.beq m j | _ => false
  | _, _, _ => false
def sameL : Nat → List D → List D → Bool
  | _, [], ys => match ys with | [] => true | _ => false
  | n + 1, x :: xs, ys => match ys with | y :: ys => (match sameD n x y with | true => sameL n xs ys | false => false) | [] => false
  | _, _, _ => false
end
mutual
theorem sameD_ok : ∀ (n : Nat) (d e : D), sameD n d e = true → d = e
  | n, .non, e, h => by unfold sameD at h; split at h <;> first | rfl | cases h
  | n, .bl b, e, h => by unfold sameD at h; split at h <;> first | (split at h <;> first | rfl | cases h) | cases h
  | n, .int i, e, h => by unfold sameD at h; split at h <;> first | (rw [of_decide_eq_true h]) | cases h
  | n, .str s, e, h => by unfold sameD at h; split at h <;> first | (rw [of_decide_eq_true h]) | cases h
  | n + 1, .lst xs, e, h => by unfold sameD at h; split at h <;> first | (rw [sameL_ok n _ _ h]) | cases h
  | n + 1, .tup xs, e, h => by unfold sameD at h; split at h <;> first | (rw [sameL_ok n _ _ h]) | cases h
  | n, .cel m, e, h => by unfold sameD at h; split at h <;> first | (rw [Nat.eq_of_beq_eq_true h]) | cases h
  | 0, .lst xs, e, h => by unfold sameD at h; cases h
  | 0, .tup xs, e, h => by unfold sameD at h; cases h
  | 0, .dct xs, e, h => by unfold sameD at h; cases h
  | n + 1, .dct xs, e, h => by unfold sameD at h; cases h
  | 0, .clo _ _ _, e, h => by unfold sameD at h; cases h
  | n + 1, .clo _ _ _, e, h => by unfold sameD at h; cases h
  | 0, .fn _, e, h => by unfold sameD at h; cases h
  | n + 1, .fn _, e, h => by unfold sameD at h; cases h
  | 0, .exc _ _, e, h => by unfold sameD at h; cases h
  | n + 1, .exc _ _, e, h => by unfold sameD at h; cases h
theorem sameL_ok : ∀ (n : Nat) (xs ys : List D), sameL n xs ys = true → xs = ys
  | n, [], ys, h => by unfold sameL at h; split at h <;> first | rfl | cases h
  | n + 1, x :: xs, ys, h => by
    unfold sameL at h
    split at h
    · split at h
      · rename_i q
        rw [sameD_ok n _ _ q, sameL_ok n _ _ h]
      · cases h
    · cases h
  | 0, x :: xs, ys, h => by unfold sameL at h; cases h
end
/-- a state told: slots, the cells' count, cells -/
structure StD where
  e : Env
  cs : Cs
def wkE : Env → Env → Bool
  | [], ys => match ys with | [] => true | _ => false
  | none :: xs, ys => match ys with | _ :: ys => wkE xs ys | [] => false
  | some d :: xs, ys => match ys with | some y :: ys => (match sameD 60 d y with | true => wkE xs ys | false => false) | _ => false
def wkCell : Cell → Cell → Bool
  | .box none, c => match c with | .box _ => true | _ => false
  | .box (some d), c => match c with | .box (some y) => sameD 60 d y | _ => false
  | .raw, c => match c with | .raw => true | _ => false
  | .strm m k, c => match c with | .strm m' k' => Nat.beq m m' && Nat.ble k' k | _ => false
  | .lst xs, c => match c with | .lst ys => sameL 60 xs ys | _ => false
  | .kd _, _ => false
def wkC (l : List (Nat × Cell)) : List (Nat × Cell) → Bool
  | [] => true
  | (n, c) :: r => match getO l n with
    | some c' => (match wkCell c c' with | true => wkC l r | false => false)
    | none => false
def decB : List (Nat × Cell) → Nat → Bool
  | [], _ => true
  | (n, _) :: r, b => match Nat.blt n b with | true => decB r n | false => false
def strmB (l : List (Nat × Cell)) : List (Nat × Cell) → Bool
  | [] => true
  | (_, c) :: r => match c with
    | .strm m _ => (match getO l m with | some .raw => strmB l r | _ => false)
    | _ => strmB l r
def wkSt (S : StD) (e : Env) (cs : Cs) : Bool := wkE S.e e && (wkC cs.l S.cs.l && (Nat.ble cs.nx S.cs.nx && (decB S.cs.l S.cs.nx && strmB S.cs.l S.cs.l)))
theorem wkE_len : ∀ {xs ys : Env}, wkE xs ys = true → ys.length = xs.length
  | [], [], _ => rfl
  | [], _ :: _, h => by cases h
  | none :: xs, [], h => by cases h
  | none :: xs, y :: ys, h => by have h : wkE xs ys = true := h; simp [wkE_len h]
  | some d :: xs, [], h => by cases h
  | some d :: xs, none :: ys, h => by cases h
  | some d :: xs, some y :: ys, h => by
    unfold wkE at h
    dsimp only at h
    split at h
    · simp [wkE_len h]
    · cases h
theorem wkE_get : ∀ {xs ys : Env} {i : Nat} {d : D}, wkE xs ys = true → xs[i]? = some (some d) → ys[i]? = some (some d)
  | [], _, i, d, _, q => by simp at q
  | none :: xs, [], _, _, h, _ => by cases h
  | none :: xs, y :: ys, i, d, h, q => by
    have h : wkE xs ys = true := h
    cases i with
    | zero => cases q
    | succ i => exact wkE_get (i := i) h (by simpa using q)
  | some d' :: xs, [], _, _, h, _ => by cases h
  | some d' :: xs, none :: ys, _, _, h, _ => by cases h
  | some d' :: xs, some y :: ys, i, d, h, q => by
    unfold wkE at h
    dsimp only at h
    split at h
    · rename_i s
      cases i with
      | zero =>
        have e := sameD_ok _ _ _ s
        cases q
        rw [e]; rfl
      | succ i => exact wkE_get (i := i) h (by simpa using q)
    · cases h
theorem wkC_get {l : List (Nat × Cell)} : ∀ {r : List (Nat × Cell)} {n : Nat} {c : Cell}, wkC l r = true → r.lookup n = some c → ∃ c', l.lookup n = some c' ∧ wkCell c c' = true
  | [], _, _, _, q => by cases q
  | (m, d) :: r, n, c, h, q => by
    unfold wkC at h
    split at h
    · rename_i c' e
      split at h
      · rename_i w
        by_cases en : n = m
        · subst en
          have : (n == n) = true := by simp
          rw [List.lookup_cons, this] at q
          cases q
          exact ⟨c', by rw [← getO_eq]; exact e, w⟩
        · have z : (n == m) = false := by simpa using en
          rw [List.lookup_cons, z] at q
          exact wkC_get h q
      · cases h
    · cases h
theorem decB_ok : ∀ {l : List (Nat × Cell)} {b : Nat}, decB l b = true → (l.map (·.1)).Pairwise (· > ·) ∧ ∀ n ∈ l.map (·.1), n < b
  | [], b, _ => ⟨.nil, fun n h => by cases h⟩
  | (m, c) :: r, b, h => by
    unfold decB at h
    split at h
    · rename_i q
      have q : m < b := Nat.le_of_ble_eq_true q
      obtain ⟨h1, h2⟩ := decB_ok h
      refine ⟨List.pairwise_cons.mpr ⟨fun n hn => h2 n hn, h1⟩, fun n hn => ?_⟩
      rcases List.mem_cons.mp hn with e | e
      · rw [e]; exact q
      · exact Nat.lt_trans (h2 n e) q
    · cases h
theorem strmB_ok {l : List (Nat × Cell)} : ∀ {r : List (Nat × Cell)} {n m k : Nat}, strmB l r = true → r.lookup n = some (.strm m k) → l.lookup m = some .raw
  | [], _, _, _, _, q => by cases q
  | (j, c) :: r, n, m, k, h, q => by
    unfold strmB at h
    by_cases en : n = j
    · subst en
      have : (n == n) = true := by simp
      rw [List.lookup_cons, this] at q
      cases q
      dsimp only at h
      split at h
      · rename_i e
        rw [← getO_eq]; exact e
      · cases h
    · have z : (n == j) = false := by simpa using en
      rw [List.lookup_cons, z] at q
      split at h
      · split at h
        · exact strmB_ok h q
        · cases h
      · exact strmB_ok h q
/-- a state told in place of one that is more -/
theorem RL.wk {G : Gs} {T : List NTab} {X : Cx} {bx : List Nat} {r : Nat → Option Addr} {F B H : Hp} {σ : L2.St} {e : Env} {cs : Cs} {S : StD} (R : RL G T X bx r F B σ H e cs) (h : wkSt S e cs = true) (hb : ∀ i ∈ bx, ∃ n, S.e[i]? = some (some (.cel n))) : RL G T X bx r F B σ H S.e S.cs := by
  unfold wkSt at h
  obtain ⟨h1, h⟩ := Bool.and_eq_true_iff.mp h
  obtain ⟨h2, h⟩ := Bool.and_eq_true_iff.mp h
  obtain ⟨h3, h⟩ := Bool.and_eq_true_iff.mp h
  obtain ⟨h4, h5⟩ := Bool.and_eq_true_iff.mp h
  have h3 := Nat.le_of_ble_eq_true h3
  obtain ⟨d1, d2⟩ := decB_ok h4
  refine ⟨⟨R.rc.subF, R.rc.subB, R.rc.plF, R.rc.frB, R.rc.inj, R.rc.rng, fun n hn => R.rc.fresh n (Nat.le_trans h3 hn), d1, fun n c hn => d2 n (lookup_memN hn), fun n c hn => ?_, R.rc.tabs, R.rc.dj, R.rc.rb⟩, fun i d hi q => R.slot i d hi (wkE_get h1 q), fun i hi => ?_, R.binj, by rw [← wkE_len h1]; exact R.len, R.kf⟩
  · obtain ⟨c', q, w⟩ := wkC_get h2 hn
    have k := R.rc.cell n c' q
    cases c with
    | box od =>
      cases od with
      | none =>
        cases c' <;> first | (cases w; done) | skip
        rcases k with ⟨a, k1, k2⟩ | ⟨a, ob, k1, k2, ou, k3, _⟩
        · exact .inl ⟨a, k1, k2⟩
        · exact .inr ⟨a, ob, k1, k2, ou, k3, fun d z => by cases z⟩
      | some d =>
        cases c' <;> first | (cases w; done) | skip
        rename_i od'
        cases od' with
        | none => cases w
        | some y =>
          have e := sameD_ok _ _ _ w
          rw [e]; exact k
    | raw => cases c' <;> first | (cases w; done) | exact k
    | strm m j =>
      cases c' <;> first | (cases w; done) | skip
      rename_i m' j'
      obtain ⟨w1, w2⟩ := Bool.and_eq_true_iff.mp w
      have w1 := Nat.eq_of_beq_eq_true w1
      have w2 := Nat.le_of_ble_eq_true w2
      subst w1
      obtain ⟨a, b, x, y, z, k1, k2, k3, k4, k5, k6, k7, k8, k9, k10⟩ := k
      exact ⟨a, b, x, y, z, k1, k2, k3, k4, strmB_ok h5 hn, k6, k7, k8, by omega, k10⟩
    | lst xs =>
      cases c' <;> first | (cases w; done) | skip
      rename_i ys
      have e := sameL_ok _ _ _ w
      rw [e]; exact k
    | kd ks => cases w
  · obtain ⟨n, a, q1, q2, q3, q4⟩ := R.boxs i hi
    obtain ⟨n', e'⟩ := hb i hi
    have e2 := wkE_get h1 e'
    rw [q1] at e2
    cases e2
    refine ⟨n, a, e', q2, q3, fun m ce hm hc => ?_⟩
    obtain ⟨c', q, w⟩ := wkC_get h2 hc
    obtain ⟨od, e3, e4⟩ := q4 m c' hm q
    subst e3
    cases ce with
    | box od2 =>
      refine ⟨od2, rfl, fun d z => ?_⟩
      subst z
      cases od with
      | none => cases w
      | some y =>
        have e := sameD_ok _ _ _ w
        rw [e]; exact e4 y rfl
    | _ => cases w
def anyS : List StD → Env → Cs → Bool
  | [], _, _ => false
  | S :: r, e, cs => match wkSt S e cs with
    | true => true
    | false => anyS r e cs
def allS : List StD → (StD → Bool) → Bool
  | [], _ => true
  | S :: r, p => match p S with
    | true => allS r p
    | false => false
theorem anyS_ok : ∀ {Ss : List StD} {e : Env} {cs : Cs}, anyS Ss e cs = true → ∃ S ∈ Ss, wkSt S e cs = true
  | [], _, _, h => by cases h
  | S :: r, e, cs, h => by
    unfold anyS at h
    split at h
    · exact ⟨S, List.mem_cons_self, by assumption⟩
    · obtain ⟨S', h1, h2⟩ := anyS_ok h
      exact ⟨S', List.mem_cons_of_mem _ h1, h2⟩
theorem allS_ok : ∀ {Ss : List StD} {p : StD → Bool}, allS Ss p = true → ∀ S ∈ Ss, p S = true
  | [], _, _, _, h => by cases h
  | S :: r, p, h, S', hS => by
    unfold allS at h
    split at h
    · rename_i q
      rcases List.mem_cons.mp hS with e | e
      · rw [e]; exact q
      · exact allS_ok h S' e
    · cases h
theorem allS_nil {p : StD → Bool} : allS [] p = true := rfl
theorem allS_cons {S : StD} {r : List StD} {p : StD → Bool} (h : p S = true) (t : allS r p = true) : allS (S :: r) p = true := by
  unfold allS
  rw [h]; exact t
def celB (bx : List Nat) (S : StD) : Bool := bx.all fun i => match S.e[i]? with
  | some (some (.cel _)) => true
  | _ => false
def sCut (bx : List Nat) (Ss : List StD) (a b : MS) : MS := fun f e cs k x => (a f e cs ⟨fun e1 cs1 => anyS Ss e1 cs1, k.rt, k.bk, k.ct⟩ x) && (allS Ss (celB bx) && allS Ss fun S => b f S.e S.cs k x)
theorem cut_true {bx : List Nat} {Ss : List StD} {a b : MS} {f : Cal} {e : Env} {cs : Cs} {k : KS} {x : KXs} (h1 : a f e cs ⟨fun e1 cs1 => anyS Ss e1 cs1, k.rt, k.bk, k.ct⟩ x = true) (h2 : allS Ss (celB bx) = true) (h3 : (allS Ss fun S => b f S.e S.cs k x) = true) : sCut bx Ss a b f e cs k x = true := by
  unfold sCut
  rw [h1, h2, h3]; rfl
section
variable {c : Cxt} {X : Cx} {st0 : Stmt} {rest : List Stmt} {a b : MS}
theorem celB_ok {bx : List Nat} {S : StD} (h : celB bx S = true) : ∀ i ∈ bx, ∃ n, S.e[i]? = some (some (.cel n)) := fun i hi => by
  have q := List.all_eq_true.mp h i hi
  split at q
  · rename_i n e
    exact ⟨n, e⟩
  · cases q
/-- the cut, behind one statement -/
theorem xss_cut {bx : List Nat} {Ss : List StD} (h1 : XS c X st0 a) (h2 : XSs c X rest b) (hb : bx = c.bx) : XSs c X (st0 :: rest) (sCut bx Ss a b) := pss_imp (pss2_cons h1 h2) fun D σ H ⟨r, F, B, ds, cs, k, x, hm, R, s⟩ => by
  subst hb
  unfold sCut at hm
  obtain ⟨hm1, hm2⟩ := Bool.and_eq_true_iff.mp hm
  obtain ⟨hm2, hm3⟩ := Bool.and_eq_true_iff.mp hm2
  refine tS.of hm1 R ⟨fun r' F' B' H' σ' ds' cs' E R' h => ?_, s.2.1, s.2.2.1, s.2.2.2.1, s.2.2.2.2⟩
  obtain ⟨S, hS, w⟩ := anyS_ok h
  exact tS.of (allS_ok hm3 S hS) (RL.wk R' w (celB_ok (allS_ok hm2 S hS))) (Sok.ext s E)
/-- .. behind more -/
theorem xss_cutS {bx : List Nat} {Ss : List StD} {pre : MS} (h1 : XS c X st0 a) (h2 : XSs c X rest (sCut bx Ss pre b)) : XSs c X (st0 :: rest) (sCut bx Ss (sSeq a pre) b) := pss_imp (pss2_cons h1 h2) fun D σ H ⟨r, F, B, ds, cs, k, x, hm, R, s⟩ => by
  unfold sCut at hm
  obtain ⟨hm1, hm2⟩ := Bool.and_eq_true_iff.mp hm
  refine tS.of (k := ⟨fun e1 cs1 => pre c.cal e1 cs1 ⟨fun e1 cs1 => anyS Ss e1 cs1, k.rt, k.bk, k.ct⟩ x, k.rt, k.bk, k.ct⟩) hm1 R ⟨fun r' F' B' H' σ' ds' cs' E R' h => ?_, s.2.1, s.2.2.1, s.2.2.2.1, s.2.2.2.2⟩
  refine tS.of (k := k) (xs := x) ?_ R' (Sok.ext s E)
  have h : pre c.cal ds' cs' ⟨fun e1 cs1 => anyS Ss e1 cs1, k.rt, k.bk, k.ct⟩ x = true := h
  unfold sCut
  rw [h, hm2]; rfl
end
end Ev

set_option Elab.async false
set_option linter.all false
set_option maxRecDepth 100000
set_option maxHeartbeats 4000000
/-! Ev30: a comprehension in a frame with boxes -/
namespace Ev
open PySem PySem.Spec PyProof.Rows L2 LamX NdefX
theorem RL.toY {G : Gs} {T : List NTab} {X Y : Cx} {bx : List Nat} {r : Nat → Option Addr} {F B H : Hp} {σ : L2.St} {ds : Env} {cs : Cs} (R : RL G T X bx r F B σ H ds cs) (hk : Y.K = X.K) (h : ∀ i ∈ bx, bAddr Y i = bAddr X i) : RL G T Y bx r F B σ H ds cs := by
  have e : ownB Y bx = ownB X bx := by
    funext a
    apply propext
    exact ⟨fun ⟨i, hi, q⟩ => ⟨i, hi, by rw [← h i hi]; exact q⟩, fun ⟨i, hi, q⟩ => ⟨i, hi, by rw [h i hi]; exact q⟩⟩
  refine ⟨by rw [e]; exact R.rc, R.slot, fun i hi => ?_, fun i hi j hj a h1 h2 => R.binj i hi j hj a (by rw [← h i hi]; exact h1) (by rw [← h j hj]; exact h2), R.len, R.kf.trans hk.symm⟩
  obtain ⟨n, a, q1, q2, q3⟩ := R.boxs i hi
  exact ⟨n, a, q1, by rw [h i hi]; exact q2, q3⟩
theorem RL.wipeB {G : Gs} {T : List NTab} {X : Cx} {bx : List Nat} {r : Nat → Option Addr} {F B H : Hp} {σ : L2.St} {ds : Env} {cs : Cs} (R : RL G T X bx r F B σ H ds cs) : ∀ vs : List Nat, (∀ v ∈ vs, v ∉ bx) → RL G T X bx r F B (L2.wipe σ vs) H (wipeL ds vs) cs
  | [], _ => R
  | v :: vs, h => RL.slotF (RL.wipeB R vs fun u hu => h u (List.mem_cons_of_mem _ hu)) (h v List.mem_cons_self)
theorem wipe_get {σ : L2.St} {i : Nat} : ∀ {vs : List Nat}, i ∉ vs → (wipe σ vs)[i]? = σ[i]?
  | [], _ => rfl
  | v :: vs, h => by
    show ((wipe σ vs).set v none)[i]? = _
    rw [List.getElem?_set_ne (fun e => h (by rw [e]; exact List.mem_cons_self))]
    exact wipe_get fun z => h (List.mem_cons_of_mem _ z)
/-- the block's own boxes emptied -/
def clrB : List Nat → Env → Cs → (Cs → Bool) → Bool
  | [], _, cs, k => k cs
  | i :: is, e, cs, k => nthE e i fun d => match d with
    | .cel n => (match getO cs.l n with
      | some (.box (some _)) => setL cs.l n (.box none) fun l => clrB is e ⟨cs.nx, l⟩ k
      | _ => clrB is e cs k)
    | _ => false
theorem clrB_ok {G : Gs} {T : List NTab} {own : Addr → Prop} {r : Nat → Option Addr} {F B H : Hp} {e : Env} : ∀ {is : List Nat} {cs : Cs} {k : Cs → Bool}, RC G T own r F B H cs → (∀ i ∈ is, ∀ n, e[i]? = some (some (.cel n)) → ∃ a, r n = some a ∧ own a) → clrB is e cs k = true →
    ∃ cs', RC G T own r F B H cs' ∧ (∀ m c, cs'.get m = some c → cs.get m = some c ∨ c = .box none) ∧ (∀ i ∈ is, ∀ n, e[i]? = some (some (.cel n)) → ∀ d, cs'.get n ≠ some (.box (some d))) ∧ k cs' = true
  | [], cs, k, R, _, h => ⟨cs, R, fun _ _ z => .inl z, fun _ hi => absurd hi (by simp), h⟩
  | i :: is, cs, k, R, ho, h => by
    unfold clrB at h
    obtain ⟨d, h1, h2⟩ := nthE_true h
    split at h2
    case h_2 => cases h2
    rename_i n
    split at h2
    · rename_i d0 q
      rw [setL_eq] at h2
      have q : cs.get n = some (.box (some d0)) := by rw [getO_eq] at q; exact q
      obtain ⟨a, ha, oa⟩ := ho i List.mem_cons_self n h1
      have R1 := RC.writeB (od' := none) R ha oa q
      obtain ⟨cs', R', p1, p2, p3⟩ := clrB_ok R1 (fun j hj => ho j (List.mem_cons_of_mem _ hj)) h2
      have is' : (cs.get n).isSome = true := by rw [q]; rfl
      refine ⟨cs', R', fun m c z => ?_, fun j hj m hm d z => ?_, p3⟩
      · rcases p1 m c z with w | w
        · rw [get_put cs n m _ is'] at w
          by_cases e : m = n
          · rw [if_pos e] at w; cases w; exact .inr rfl
          · rw [if_neg e] at w; exact .inl w
        · exact .inr w
      · rcases List.mem_cons.mp hj with e | e
        · subst e
          rw [h1] at hm
          cases hm
          rcases p1 _ _ z with w | w
          · rw [get_put cs n n _ is', if_pos rfl] at w; cases w
          · cases w
        · exact p2 j e m hm d z
    · rename_i no
      obtain ⟨cs', R', p1, p2, p3⟩ := clrB_ok R (fun j hj => ho j (List.mem_cons_of_mem _ hj)) h2
      refine ⟨cs', R', p1, fun j hj m hm d z => ?_, p3⟩
      rcases List.mem_cons.mp hj with e | e
      · subst e
        rw [h1] at hm
        cases hm
        rcases p1 _ _ z with w | w
        · exact no d (by rw [getO_eq]; exact w)
        · cases w
      · exact p2 j e m hm d z
/-- a turn's end: back to the turn's begin -/
theorem RL.turnEnd {G : Gs} {T : List NTab} {Y : Cx} {bx ob : List Nat} {r r8 : Nat → Option Addr} {F Bw Hw F8 B8 H8 : Hp} {σw σ8 : L2.St} {ew ds8 : Env} {csw cs8 : Cs} {k : Cs → Bool} (R8 : RL G T Y bx r8 F8 B8 σ8 H8 ds8 cs8) (Rw : RL G T Y bx r F Bw σw Hw ew csw)
    (hr : ∀ n a, r n = some a → r8 n = some a) (hF : ∀ a o, F a = some o → F8 a = some o) (hob : ∀ i ∈ ob, i ∈ bx) (hw : ∀ i ∈ bx, i ∉ ob → σw[i]? = σ8[i]?) (hm : clrB ob ew cs8 k = true) : ∃ cs9, RL G T Y bx r8 F8 B8 σw H8 ew cs9 ∧ k cs9 = true := by
  obtain ⟨cs9, R9, p1, p2, p3⟩ := clrB_ok R8.rc (fun i hi n e => by
    obtain ⟨n', a, q1, q2, q3, _⟩ := Rw.boxs i (hob i hi)
    rw [e] at q1; cases q1
    exact ⟨a, hr _ _ q3, i, hob i hi, q2⟩) hm
  refine ⟨cs9, ⟨R9, fun i d hi h => ?_, fun i hi => ?_, R8.binj, Rw.len, Rw.kf⟩, p3⟩
  · obtain ⟨v, h1, h2⟩ := Rw.slot i d hi h
    exact ⟨v, h1, h2.mono hr hF⟩
  · obtain ⟨n, a, q1, q2, q3, _⟩ := Rw.boxs i hi
    refine ⟨n, a, q1, q2, hr _ _ q3, fun m ce hm hc => ?_⟩
    have em : m = n := R8.rc.inj _ _ _ hm (hr _ _ q3)
    rcases p1 m ce hc with z | z
    · obtain ⟨n8, a8, w1, w2, w3, w4⟩ := R8.boxs i hi
      rw [q2] at w2; cases w2
      obtain ⟨od, e1, e2⟩ := w4 m ce hm z
      refine ⟨od, e1, fun d ed => ?_⟩
      by_cases io : i ∈ ob
      · subst e1 ed
        rw [em] at hc
        exact absurd hc (p2 i io n q1 d)
      · obtain ⟨v, y1, y2⟩ := e2 d ed
        exact ⟨v, by rw [hw i hi io]; exact y1, y2⟩
    · exact ⟨none, z, fun d ed => by cases ed⟩
def loopB (ob : List Nat) (g : MG) (a : ME) (f : Cal) (e : Env) (k : List D → Cs → Bool) : Nat → Itr → Cs → List D → Bool
  | 0, _, _, _ => false
  | n + 1, it, cs, acc => nxI it cs (k acc cs) fun d it' => g d f e cs (fun e1 cs1 => a f e1 cs1 (fun y cs3 => clrB ob e cs3 fun cs4 => loopB ob g a f e k n it' cs4 (y :: acc)) fun _ _ _ => false) fun _ _ _ => false
def mLcB (pol : Bool) (fu : Nat) (vs ob bx : List Nat) (mi : MI) (g : MG) (a : ME) : ME := fun f e cs k x => mi f e cs (fun it cs1 => emptyB cs1 e bx fun ns => wipeE e vs fun ew => enterB ob ew cs1 fun e2 cs2 => loopB ob g a f e2 (fun acc cs3 => match stillE cs3 ns with
  | true => revK acc [] fun xs => newL pol xs cs3 k
  | false => false) fu it cs2 []) x
abbrev Cxt.blkB (c : Cxt) (ob : List Nat) : Cxt := { c with bx := ob ++ c.bx, W := fun _ _ _ _ => False }
/-- names of the scope, of a kind -/
def kdsB (N : List Str) (scope : Scope) (kd : NameKind) (is : List Nat) : Bool := is.all fun i => match N[i]? with
  | some y => decide (scope.names.lookup y = some kd)
  | none => false
theorem kdsB_ok {N : List Str} {scope : Scope} {kd : NameKind} {is : List Nat} (h : kdsB N scope kd is = true) : ∀ i ∈ is, ∃ y, N[i]? = some y ∧ scope.names.lookup y = some kd := fun i hi => by
  have q := List.all_eq_true.mp h i hi
  split at q
  · rename_i y e
    exact ⟨y, e, of_decide_eq_true q⟩
  · cases q
def cellsB (Y : Cx) (is : List Nat) : Bool := is.all fun i => match Y.N[i]? with
  | some y => (match Y.env.scope.names.lookup y with
    | some .cell => true
    | some .free => true
    | _ => false)
  | none => false
theorem cellsB_ok {Y : Cx} {is : List Nat} (h : cellsB Y is = true) : ∀ i ∈ is, ∃ y, Y.N[i]? = some y ∧ (Y.env.kindOf y = some .cell ∨ Y.env.kindOf y = some .free) := fun i hi => by
  have q := List.all_eq_true.mp h i hi
  split at q
  · rename_i y e
    refine ⟨y, e, ?_⟩
    split at q
    · exact .inl (by assumption)
    · exact .inr (by assumption)
    · cases q
  · cases q
section
variable {c : Cxt} {X : Cx} {e : Expr} {pos : Pos} {vs : List Nat} {elt tg iter : Expr} {scope : Scope} {own : List (Str × Nat)} {mi : MI} {g : MG} {a : ME}
theorem xgw_varB {Y : Cx} {i : Nat} {y : Str} (hN : Y.N.Nodup) (hi : Y.N[i]? = some y) (hx : Loc Y.env.scope y) (hf : Y.fn y = true ∨ Y.env.scope.names.lookup y = some .local) (hv : i ∈ vs) (hb : i ∈ c.bx) : XGw c Y vs (.Name y pos) (gVarB i) :=
  pg_imp (pg_name hN hi hx hf) fun v σ H Q ⟨r, F, B, ds, cs, d, k, hm, R, hr, n⟩ => by
    obtain ⟨q, h1, h2⟩ := nthE_true hm
    split at h2
    · obtain ⟨ce, q1, q2⟩ := getC_true h2
      rw [setL_eq] at q2
      exact n _ _ _ _ _ _ _ (Ext.refl _ _ _) (RL.setB R hb h1 q1 hr) (wipe_set_mem hv) q2
    · cases h2
theorem xgw_vB {Y : Cx} {k i : Nat} {y : Str} (bd : Bex c Y k) (hN : Y.N[i]? = some y) (hv : locB Y.env.scope y = true) (hf : fnB Y y = true) (hi : vs.contains i = true) (hb : c.bx.contains i = true) : XGw c Y vs (.Name y pos) (gVarB i) :=
  xgw_varB bd.nd hN (loc_b hv) (fn_b hf) (mem_b hi) (mem_b hb)
theorem xe_lcB {k : Nat} {ob : List Nat} (pol : Bool) (fu : Nat) (bd : Bex c X k) (hfu : fu ≤ 1000000) (hi : XI c X tg iter mi) (ok : BlkOk X.N X.env.scope scope own) (hnd : (ob ++ c.bx).Nodup) (hob : ∀ i ∈ ob, i ∈ own.map (·.2)) (hdis : ∀ i ∈ own.map (·.2), i ∉ c.bx)
    (hfr : kdsB X.N scope .free c.bx = true) (hkb : ∀ (s : Shared) (H : Hp) (fp : List Addr), cellsB (blkX X scope s H fp) (ob ++ c.bx) = true) (hfn : kdsB X.N scope .cell ob = true)
    (hg : ∀ (s : Shared) (H : Hp) (fp : List Addr), Bex (c.blkB ob) (blkX X scope s H fp) k → XGw (c.blkB ob) (blkX X scope s H fp) (own.map (·.2)) tg g)
    (he : ∀ (s : Shared) (H : Hp) (fp : List Addr), Bex (c.blkB ob) (blkX X scope s H fp) k → XE (c.blkB ob) (blkX X scope s H fp) elt a) (hs : ∀ x, foldedSetIterable iter X.env x = pure x) :
    XE c X (.ListComp elt [⟨tg, iter, [], 0⟩] scope pos) (mLcB pol fu (own.map (·.2)) ob c.bx mi g a) := XE.mk (pe_lcB bd.calm bd.nd hi ok hs) fun r F B σ H ds cs K x Q hm R kk xk => by
  generalize hvs : own.map (·.2) = vs at *
  refine ⟨r, F, B, ds, cs, _, x, hm, R, fun r1 F1 B1 H1 J P it cs1 E1 R1 wk hP h1 => ?_, xk⟩
  obtain ⟨ns, h1, hns⟩ := emptyB_ok h1
  rw [wipeE_eq] at h1
  intro D s3 fp pins hD I3 hfp s4 I4
  have dis : ∀ i ∈ c.bx, i ∉ vs := fun i hi hv => hdis i hv hi
  have hba : ∀ i ∈ c.bx, bAddr (blkX X scope s3 (upd H1 D (.lst [])) fp) i = bAddr X i := fun i hi => by
    obtain ⟨y, e1, e2⟩ := kdsB_ok hfr i hi
    obtain ⟨n, p, _, q2, _⟩ := R1.boxs i hi
    obtain ⟨y', e3, e4⟩ := bAddr_look q2
    rw [e1] at e3; cases e3
    rw [q2]
    unfold bAddr
    rw [show (blkX X scope s3 (upd H1 D (.lst [])) fp).N[i]? = some y from e1]
    exact blk_free ok.uniq e2 e4
  have keep3 : ∀ b o, H1 b = some o → upd H1 D (.lst []) b = some o := fun b o e => by rw [upd_ne (ne_of_none e hD)]; exact e
  have own3 : ∀ p, ownB X c.bx p → p ≠ D := fun p o e => by
    have z := own_free I3 o
    rw [e, upd_same] at z; cases z
  have BD : B1 D = none := R1.rc.freeB hD
  have Ra : RL c.G c.T X c.bx r1 F1 (upd B1 D (.lst [])) σ (upd H1 D (.lst [])) ds cs1 := ⟨R1.rc.newAcc hD own3, R1.slot, R1.boxs, R1.binj, R1.len, R1.kf⟩
  have Ry := RL.wipeB (RL.toY (Y := blkX X scope s3 (upd H1 D (.lst [])) fp) Ra rfl hba) vs hdis
  have hcb := cellsB_ok (hkb s3 (upd H1 D (.lst [])) fp)
  have bat : ∀ i ∈ ob ++ c.bx, ∃ p, bAddr (blkX X scope s3 (upd H1 D (.lst [])) fp) i = some p ∧ upd H1 D (.lst []) p = none := fun i hi => by
    obtain ⟨y, e1, e2⟩ := hcb i hi
    obtain ⟨p, hp⟩ := I4.ok.has y e2
    exact ⟨p, by unfold bAddr; rw [e1]; exact hp, I4.freeC y p hp⟩
  have Bx : Boxes (blkX X scope s3 (upd H1 D (.lst [])) fp) (ob ++ c.bx) (upd H1 D (.lst [])) := ⟨hnd, bat, fun i hi j hj p h1 h2 => by
    obtain ⟨y, e1, l1⟩ := bAddr_look h1
    obtain ⟨z, e2, l2⟩ := bAddr_look h2
    have := I4.ok.inj y z p l1 l2
    subst this
    exact nodup_ix bd.nd e1 e2⟩
  obtain ⟨r2, e2, cs2, E2, R2, h2⟩ := enterB_ok Bx Ry h1
  have OY : OwnX (blkX X scope s3 (upd H1 D (.lst [])) fp) (ob ++ c.bx) := by
    have small : ∀ i ∈ ob, ∀ p, bAddr (blkX X scope s3 (upd H1 D (.lst [])) fp) i = some p → s3.heap.objs.size ≤ p := fun i hi p hp => by
      obtain ⟨y, e1, e2⟩ := kdsB_ok hfn i hi
      obtain ⟨y', e3, e4⟩ := bAddr_look hp
      have e3 : X.N[i]? = some y' := e3
      rw [e1] at e3; cases e3
      exact I4.ok.cab y p (by show (scope.names.lookup y == some NameKind.cell) = true; rw [e2]; rfl) e4
    have frs_ : ∀ b ∈ frs X.stack, b < s3.heap.objs.size := fun b hb => by
      rcases List.mem_cons.mp (I3.stkSub b hb) with z | z
      · rw [z]; exact I3.lt
      · exact Nat.lt_of_not_le fun q => I3.nofs q z
    refine ⟨fun i hi p hp => ?_, fun i hi p hp => ?_, fun i hi y hy => ?_⟩
    · rcases List.mem_append.mp hi with z | z
      · cases q : X.base.get? p with
        | none => rfl
        | some o => exact absurd (Nat.lt_of_lt_of_le (Heap.lt_size (I3.bk p o q)) (small i z p hp)) (Nat.lt_irrefl _)
      · rw [hba i z] at hp
        exact bd.own.nb i z p hp
    · show p ∉ frs X.stack
      intro hb
      rcases List.mem_append.mp hi with z | z
      · exact absurd (Nat.lt_of_lt_of_le (frs_ p hb) (small i z p hp)) (Nat.lt_irrefl _)
      · rw [hba i z] at hp
        rcases List.mem_cons.mp (I3.stkSub p hb) with w | w
        · obtain ⟨y, _, l⟩ := bAddr_look hp
          exact I3.cne y p l w
        · exact bd.own.nf i z p hp w
    · obtain ⟨y', e1, e2⟩ := hcb i hi
      rw [hy] at e1; cases e1
      exact e2
  have bdY : Bex (c.blkB ob) (blkX X scope s3 (upd H1 D (.lst [])) fp) k := ⟨bd.calm, bd.nd, bd.room, takes_none5, OY⟩
  have pg := hg s3 (upd H1 D (.lst [])) fp bdY
  have pe := he s3 (upd H1 D (.lst [])) fp bdY
  have ww : wipe (wipe σ vs) vs = wipe σ vs := wipe_twice _ _
  have E12 : Ext r1 F1 B1 r2 F1 B1 := ⟨E2.r, fun _ _ z => z, fun _ _ z => z⟩
  refine ⟨fun i n H' => ∃ r' F' Bm cs' it acc av, Bm D = none ∧ Ext r1 F1 B1 r' F' Bm ∧ (∀ n a, r2 n = some a → r' n = some a) ∧ RL c.G c.T (blkX X scope s3 (upd H1 D (.lst [])) fp) (ob ++ c.bx) r' F' (upd Bm D (.lst av)) (wipe σ vs) H' e2 cs' ∧ Reps c.G r' F' av acc.reverse ∧ P i it r' F' ∧ acc.length + n ≤ fu ∧
    loopB ob g a c.cal e2 (fun acc cs3 => match stillE cs3 ns with
      | true => revK acc [] fun xs => newL pol xs cs3 K
      | false => false) n it cs' acc = true, ⟨fu, r2, F1, B1, cs2, it, [], [], BD, E12, fun _ _ z => z, R2, .nil, wk.ext _ _ _ _ _ _ _ _ hP E12, by simp, h2⟩, ?_⟩
  rintro i n H' ⟨r', F', Bm, cs', it', acc, av, hBm, EE, hr2, R', hav, hP', hlen, hl⟩
  cases n with
  | zero => cases hl
  | succ n =>
    unfold loopB at hl
    rcases wk.step i it' _ _ _ _ _ _ _ _ hP' R'.rc hl with ⟨q1, q2⟩ | ⟨q1, d, itn, q2, q3⟩
    · refine .inl ⟨q2, fun s6 I6 => ?_⟩
      split at q1
      case h_2 => cases q1
      rename_i still
      rw [revK_eq, List.append_nil] at q1
      have HD : H' D = some (.lst av) := R'.rc.subB D _ upd_same
      have nD : ¬ ownB (blkX X scope s3 (upd H1 D (.lst [])) fp) (ob ++ c.bx) D := fun o => by rw [own_free I6 o] at HD; cases HD
      have L := lend_rc (c := c.blkB ob) I6 OY R'
      have eB : lendAt (blkX X scope s3 (upd H1 D (.lst [])) fp) (ob ++ c.bx) s6.heap (upd Bm D (.lst av)) = upd (lendAt (blkX X scope s3 (upd H1 D (.lst [])) fp) (ob ++ c.bx) s6.heap Bm) D (.lst av) := by
        funext b
        by_cases e : b = D
        · rw [e, upd_same, lend_not nD, upd_same]
        · rw [upd_ne e]
          by_cases o : ownB (blkX X scope s3 (upd H1 D (.lst [])) fp) (ob ++ c.bx) b
          · rw [lend_own o, lend_own o]
          · rw [lend_not o, lend_not o, upd_ne e]
      have L : RC c.G c.T noOwn r' F' (lendAt (blkX X scope s3 (upd H1 D (.lst [])) fp) (ob ++ c.bx) s6.heap (upd Bm D (.lst av))) (lendAt (blkX X scope s3 (upd H1 D (.lst [])) fp) (ob ++ c.bx) s6.heap H') cs' := L
      rw [eB] at L
      have nBD : lendAt (blkX X scope s3 (upd H1 D (.lst [])) fp) (ob ++ c.bx) s6.heap Bm D = none := by rw [lend_not nD]; exact hBm
      have sub : ∀ p, ownB X c.bx p → ownB (blkX X scope s3 (upd H1 D (.lst [])) fp) (ob ++ c.bx) p := fun p ⟨i, hi, q⟩ => ⟨i, List.mem_append_right _ hi, by rw [hba i hi]; exact q⟩
      have R1b : RS c X r1 F1 B1 σ (upd H1 D (.lst [])) ds cs1 := RL.mono R1 keep3
      -- the frame's own boxes stand as they stood
      have EL : Ext r1 F1 (lendAt X c.bx s3.heap B1) r' F' (lendAt (blkX X scope s3 (upd H1 D (.lst [])) fp) (ob ++ c.bx) s6.heap Bm) := ⟨EE.r, EE.F, fun p o h => by
        by_cases q : ownB X c.bx p
        · rw [lend_own q] at h
          rw [lend_own (sub p q)]
          obtain ⟨obj, z1, z2⟩ := Option.map_eq_some_iff.mp h
          have z3 := own_free I3 q
          obtain ⟨i, hi, eb⟩ := sub p q
          have z4 : p ∉ fp := fun hb => by
            obtain ⟨j, hj, eb2⟩ := q
            obtain ⟨y, _, l⟩ := bAddr_look eb2
            exact (hfp p hb).1.2.2.2.2.1 y p l rfl
          rw [I6.base.keep p obj z1 z3 (OY.nf i hi p eb) z4]
          rw [← z2]; rfl
        · rw [lend_not q] at h
          have z0 := R1.rc.subB p o h
          have nq : ¬ ownB (blkX X scope s3 (upd H1 D (.lst [])) fp) (ob ++ c.bx) p := fun ⟨i, hi, eb⟩ => by
            obtain ⟨p', e1, e2⟩ := bat i hi
            rw [eb] at e1; cases e1
            rw [keep3 p o z0] at e2; cases e2
          rw [lend_not nq]
          exact EE.B p o h⟩
      have emp : ∀ {csf : Cs}, (∀ m, m ∈ ns → ∀ d, csf.get m ≠ some (.box (some d))) → ∀ i ∈ c.bx, ∀ n, ds[i]? = some (some (.cel n)) → (∀ d, cs1.get n ≠ some (.box (some d))) → ∀ d, csf.get n ≠ some (.box (some d)) := fun {csf} h i hi n e1 e2 => h n (hns i hi n e1 e2)
      have st := stillE_ok still
      -- the heap that the frame sees
      have hide6 : ∀ p, hideB X c.bx (lendAt (blkX X scope s3 (upd H1 D (.lst [])) fp) (ob ++ c.bx) s6.heap H') p = none ∨ (ownB (blkX X scope s3 (upd H1 D (.lst [])) fp) (ob ++ c.bx) p ∧ ∃ obj, s6.heap.get? p = some obj ∧ hideB X c.bx (lendAt (blkX X scope s3 (upd H1 D (.lst [])) fp) (ob ++ c.bx) s6.heap H') p = some (.frz obj (.own 0))) ∨
          hideB X c.bx (lendAt (blkX X scope s3 (upd H1 D (.lst [])) fp) (ob ++ c.bx) s6.heap H') p = H' p := fun p => by
        by_cases q : ownB X c.bx p
        · exact .inl (hide_own q)
        · rw [hide_not q]
          by_cases o : ownB (blkX X scope s3 (upd H1 D (.lst [])) fp) (ob ++ c.bx) p
          · rw [lend_own o]
            cases z : s6.heap.get? p with
            | none => exact .inl rfl
            | some obj => exact .inr (.inl ⟨o, obj, rfl, rfl⟩)
          · exact .inr (.inr (lend_not o))
      have from5 : ∀ p o, H' p = some o → hideB X c.bx (lendAt (blkX X scope s3 (upd H1 D (.lst [])) fp) (ob ++ c.bx) s6.heap H') p = some o := fun p o h => by
        have no : ¬ ownB (blkX X scope s3 (upd H1 D (.lst [])) fp) (ob ++ c.bx) p := fun q => by rw [own_free I6 q] at h; cases h
        rw [hide_not (fun q => no (sub p q)), lend_not no]; exact h
      have un : Un (frs X.stack) fp (upd H1 D (.lst [])) (hideB X c.bx (lendAt (blkX X scope s3 (upd H1 D (.lst [])) fp) (ob ++ c.bx) s6.heap H')) s3.heap s6.heap := by
        have u := I6.base
        refine ⟨u.keep, u.slot, fun p o h1 h2 h3 => ?_, u.there, fun p xs h => from5 _ _ (u.tups p xs h), fun p o w h => from5 _ _ (u.frzs p o w h), fun p ps h => let ⟨more, z⟩ := u.tbls p ps h; ⟨more, from5 _ _ z⟩⟩
        have z := u.free p o h1 h2 h3
        rcases hide6 p with q | ⟨⟨i, hi, eb⟩, obj, q1, q2⟩ | q
        · exact q
        · rcases List.mem_append.mp hi with w | w
          · obtain ⟨y, e1, e2⟩ := kdsB_ok hfn i w
            obtain ⟨y', e3, e4⟩ := bAddr_look eb
            have e3 : X.N[i]? = some y' := e3
            rw [e1] at e3; cases e3
            have := I4.ok.cab y p (by show (scope.names.lookup y == some NameKind.cell) = true; rw [e2]; rfl) e4
            exact absurd (Nat.lt_of_lt_of_le (Heap.lt_size h1) this) (Nat.lt_irrefl _)
          · exact hide_own ⟨i, w, by rw [← hba i w]; exact eb⟩
        · rw [q]; exact z
      have hk : HOk X.prog X.w (hideB X c.bx (lendAt (blkX X scope s3 (upd H1 D (.lst [])) fp) (ob ++ c.bx) s6.heap H')) s6.heap := fun p o h => by
        rcases hide6 p with q | ⟨_, obj, q1, q2⟩ | q
        · rw [q] at h; cases h
        · rw [q2] at h; cases h
          exact ⟨q1, obj, q1⟩
        · rw [q] at h
          exact (I6.hok p o h).stay (fun _ _ _ z => z) (fun b z => from5 _ _ z) fun b xs z => from5 _ _ z
      have nC : hideB X c.bx (lendAt (blkX X scope s3 (upd H1 D (.lst [])) fp) (ob ++ c.bx) s6.heap H') s3.heap.objs.size = none := by
        have nq : ¬ ownB (blkX X scope s3 (upd H1 D (.lst [])) fp) (ob ++ c.bx) s3.heap.objs.size := fun ⟨i, hi, eb⟩ => by
          obtain ⟨y, _, l⟩ := bAddr_look eb
          exact I6.cne y _ l rfl
        rw [hide_not (fun q => nq (sub _ q)), lend_not nq]
        exact I6.free
      refine ⟨_, un, hk, nC, fun _ => ?_⟩
      cases pol with
      | false =>
        have L2_ := L.accF nBD
        have Ef : Ext r' F' (lendAt (blkX X scope s3 (upd H1 D (.lst [])) fp) (ob ++ c.bx) s6.heap Bm) r' (upd F' D (.lst av)) (lendAt (blkX X scope s3 (upd H1 D (.lst [])) fp) (ob ++ c.bx) s6.heap Bm) := ext_newF (L.dj D _ upd_same)
        have EF := EL.trans Ef
        exact kk _ _ _ _ _ _ _ (E1.trans (back_ext I3 R1b EF)) (back_rl I3 bd.own R1b EF L2_ (emp st)) (.lst upd_same (hav.ext Ef)) q1
      | true =>
        unfold newL at q1
        dsimp only at q1
        rw [fNat_eq] at q1
        obtain ⟨L2_, Ef⟩ := L.accC nBD hav
        have EF := EL.trans Ef
        exact kk _ _ _ _ _ _ _ (E1.trans (back_ext I3 R1b EF)) (back_rl I3 bd.own R1b EF L2_ (emp fun m hm d z => by
          rw [get_cons] at z
          by_cases e : m = cs'.nx
          · rw [if_pos e] at z; cases z
          · rw [if_neg e] at z; exact st m hm d z)) (.cel (updR_same _ _)) q1
    · refine .inr ⟨q1, fun H'' => ∃ r5 F5 Bm cs5 acc av, Bm D = none ∧ Ext r1 F1 B1 r5 F5 Bm ∧ (∀ n a, r2 n = some a → r5 n = some a) ∧ RL c.G c.T (blkX X scope s3 (upd H1 D (.lst [])) fp) (ob ++ c.bx) r5 F5 (upd Bm D (.lst av)) (wipe σ vs) H'' e2 cs5 ∧ Reps c.G r5 F5 av acc.reverse ∧ P (i + 1) itn r5 F5 ∧ acc.length + n ≤ fu ∧
        loopB ob g a c.cal e2 (fun acc cs3 => match stillE cs3 ns with
          | true => revK acc [] fun xs => newL pol xs cs3 K
          | false => false) n itn cs5 acc = true, fun H'' ⟨r5, F5, Bm5, cs5, acc5, av5, z⟩ => ⟨n, Nat.lt_succ_self _, r5, F5, Bm5, cs5, itn, acc5, av5, z⟩, fun v u H3 pp s7 I7 ru hy => ?_⟩
      obtain ⟨F3, hst, hv, hP3⟩ := q3 v H3 hy
      obtain ⟨R3, E3⟩ := R'.step hst
      refine wpAny_mono (pg.run pp s7 (wipe σ vs) H3 v u (fun σ1 H4 => wipe σ1 vs = wipe (wipe σ vs) vs ∧ ∃ r4 F4 B4 ds4 cs4, Ext r' F3 (upd Bm D (.lst av)) r4 F4 B4 ∧ RS (c.blkB ob) (blkX X scope s3 (upd H1 D (.lst [])) fp) r4 F4 B4 σ1 H4 ds4 cs4 ∧
        a c.cal ds4 cs4 (fun y cs3 => clrB ob e2 cs3 fun cs4 => loopB ob g a c.cal e2 (fun acc cs3 => match stillE cs3 ns with
          | true => revK acc [] fun xs => newL pol xs cs3 K
          | false => false) n itn cs4 (y :: acc)) (fun _ _ _ => false) = true) I7 ru ⟨r', F3, _, e2, cs', d, _, q2, R3, hv, fun r4 F4 B4 H4 σ4 ds4 cs4 E4 R4 hw4 h4 => ⟨hw4, r4, F4, B4, ds4, cs4, E4, R4, h4⟩⟩) (fun _ t ⟨σ1, H4, I8, hw, r4, F4, B4, ds4, cs4, E4, R4, h4⟩ => ⟨σ1, H4, I8, hw, ?_⟩) fun _ _ z => z
      have hw1 : ∀ i ∈ ob ++ c.bx, i ∉ ob → (wipe σ vs)[i]? = σ1[i]? := fun i hi no => by
        have hc : i ∈ c.bx := (List.mem_append.mp hi).resolve_left no
        rw [← ww, ← hw, wipe_get (dis i hc)]
      refine wpAny_mono (pe.run pp t σ1 H4 (fun y H5 => ∃ acc', H5 D = some (.lst acc') ∧ acc'.length < sizeLine ∧ ∃ r5 F5 Bm cs5 acc av, Bm D = none ∧ Ext r1 F1 B1 r5 F5 Bm ∧ (∀ n a, r2 n = some a → r5 n = some a) ∧ RL c.G c.T (blkX X scope s3 (upd H1 D (.lst [])) fp) (ob ++ c.bx) r5 F5 (upd Bm D (.lst av)) (wipe σ vs) (upd H5 D (.lst (acc' ++ [y]))) e2 cs5 ∧ Reps c.G r5 F5 av acc.reverse ∧ P (i + 1) itn r5 F5 ∧ acc.length + n ≤ fu ∧
        loopB ob g a c.cal e2 (fun acc cs3 => match stillE cs3 ns with
          | true => revK acc [] fun xs => newL pol xs cs3 K
          | false => false) n itn cs5 acc = true) I8 ⟨r4, F4, B4, ds4, cs4, _, _, h4, R4, fun r5 F5 B5 H5 y yd cs5 E5 R5 hy5 h5 => ?_, Xok.no⟩) (fun z t2 ⟨y, H5, I9, ry, acc', z1, z2, z3⟩ => ⟨y, H5, acc', I9, ry, z1, z2, z3⟩) fun _ _ z => z
      have E35 := E4.trans E5
      have hB5 : B5 D = some (.lst av) := E35.B D _ upd_same
      obtain ⟨cs6, R6, h6⟩ := RL.turnEnd (ob := ob) R5 R2 (fun n p z => E35.r _ _ (hr2 n p z)) (fun p o z => E35.F _ _ (E3.F _ _ (EE.F p o z))) (fun i hi => List.mem_append_left _ hi) hw1 h5
      refine ⟨av, R5.rc.subB _ _ hB5, by rw [sizeLine_eq, hav.length, List.length_reverse]; omega, r5, F5, fun b => if b = D then none else B5 b, cs6, yd :: acc, av ++ [y], if_pos rfl, ⟨fun m p z => E35.r _ _ (EE.r _ _ z), fun p o z => E35.F _ _ (E3.F _ _ (EE.F p o z)), fun b o z => ?_⟩, fun n p z => E35.r _ _ (hr2 n p z), ?_, ?_, wk.ext _ _ _ _ _ _ _ _ hP3 E35, by simp; omega, h6⟩
      · have nb : b ≠ D := ne_of_none z BD
        show (if b = D then none else B5 b) = some o
        rw [if_neg nb]
        exact E35.B b o (by rw [upd_ne nb]; exact EE.B b o z)
      · have eB : upd (fun b => if b = D then none else B5 b) D (.lst (av ++ [y])) = upd B5 D (.lst (av ++ [y])) := by
          funext b
          unfold upd
          by_cases e : b = D
          · rw [if_pos e, if_pos e]
          · rw [if_neg e, if_neg e]; exact if_neg e
        rw [eB]
        exact ⟨R6.rc.setAcc hB5, R6.slot, R6.boxs, R6.binj, R6.len, R6.kf⟩
      · rw [List.reverse_cons]
        exact Reps.append (.cons hy5 .nil) ((hav.ext E3).ext E35)
end
end Ev

set_option Elab.async false
set_option linter.all false
set_option maxRecDepth 100000
set_option maxHeartbeats 4000000
/-! Ev31: enumerate of a tuple -/
namespace PySem
open Sem (wp)
open AutoSeq1 (wpAny_loadPart')
theorem evt_new (l : Addr) (items : Array Value) (n : Nat) (dct : Option Addr) (sl : Array (Option Value)) :
    Meets (Builtin.«enumerate.__new__» ⟨[.type "enumerate", .ref l], []⟩) (fun _ R s => s.heap.get? l = some { cls := .type "tuple", dict := dct, data := .seq items n, slots := sl } ∧
      R (.ok (.ret (.ref (s.heap.push { cls := .type "tuple_iterator", data := .fields #[.ref l, .int 0 0] }).objs.size)))
        { s with heap := (s.heap.push { cls := .type "tuple_iterator", data := .fields #[.ref l, .int 0 0] }).push { cls := .type "enumerate", data := .fields #[.none, .bool false, .ref s.heap.objs.size, rawInt 0, .none, .none] } }) :=
  .of_wp fun prog w A R s ⟨hl, h⟩ => by
    obtain ⟨hp, g, d, tk, os⟩ := s
    have hsub := sub_enumerate
    have tp : Heap.IsTuple (Shared.heap ⟨hp, g, d, tk, os⟩) l items := ⟨_, hl, rfl, n, rfl⟩
    wp_walk using wpAny_loadPart' hl
    refine wpAny_stack_any fun st => wpAny_pure ?_
    split
    · rename_i cc _ _ _ _ _
      cases (cc == Value.type "enumerate") <;> (wp_walk using wpAny_loadPart' hl, wpAny_pyIter_tuple tp; exact ⟨_, rfl, h⟩)
    · wp_walk using wpAny_loadPart' hl, wpAny_pyIter_tuple tp
      exact ⟨_, rfl, h⟩
end PySem
namespace Ev
open PySem PySem.Spec PyProof.Rows L2 LamX NdefX
theorem evt_call {prog : Program} {w : World} {A : Around} {E : Value → Shared → Prop} {s : Shared} {l : Addr} {items : Array Value} {Q : Value → Shared → Prop} (tp : s.heap.IsTuple l items)
    (h : ∀ h', IsEnum h' (s.heap.objs.size + 1) s.heap.objs.size 0 .none → h'.IsTupleIter s.heap.objs.size l 0 → (∀ b o, s.heap.get? b = some o → h'.get? b = some o) → Q (.ref (s.heap.objs.size + 1)) { s with heap := h' }) :
    wpAny (model prog w) A (call (.type "enumerate") [.ref l]) Q E s := by
  obtain ⟨⟨kc, dct, dt, sl⟩, hl, hc, n, hd⟩ := tp
  have e1 : kc = .type "tuple" := hc
  have e2 : dt = .seq items n := hd
  subst e1 e2
  refine callType_new F.called_enumerate (by decide) (F.typeCall_enumerate_1 _) (F.newCall_enumerate_1 _) (fun obj => F.args_object_init_2 obj _) F.entry_enumerate_new (evt_new l items n dct sl) ⟨hl, ?_⟩
  have two : (s.heap.push { cls := .type "tuple_iterator", data := .fields #[.ref l, .int 0 0] }).objs.size = s.heap.objs.size + 1 := Heap.size_push ..
  have top := Heap.get?_push_size (s.heap.push { cls := .type "tuple_iterator", data := .fields #[.ref l, .int 0 0] }) (o := { cls := .type "enumerate", data := .fields #[.none, .bool false, .ref s.heap.objs.size, rawInt 0, .none, .none] }) rfl
  rw [two] at top
  show _ ∧ _
  rw [two]
  exact ⟨⟨_, top, rfl⟩, h _ top ⟨_, Heap.get?_push_of_some _ (Heap.get?_push_size _ rfl), rfl, rfl⟩ fun b o x => Heap.get?_push_of_some _ (Heap.get?_push_of_some _ x)⟩
/-- the tuple at a, each item in a new pair -/
def Itu (K : PySem.W.Frag) (a : Addr) : It :=
  ⟨fun i H => ∃ (xs : List V) (x : V), SqT K H a xs ∧ xs[i]? = some x, fun i H v H' => ∃ T x, v = .ref T ∧ H T = none ∧ H' = upd H T (.tup [.int (i : Nat), x]) ∧ ∀ xs, SqT K H a xs → xs[i]? = some x, fun i H => ∃ xs : List V, SqT K H a xs ∧ xs.length ≤ i⟩
theorem turn_enumT {P : Program} {w : World} {K : PySem.W.Frag} {elts : List Expr} {kk : Nat} {tpos : Pos} (a e it : Addr) :
    Turn P w K (.Tuple elts kk tpos) (Itu K a) [e, it] e (fun i h => (∃ old, IsEnum h e it ((i : Nat) : Int) old) ∧ h.IsTupleIter it a i ∧ e ≠ it) where
  mem := by simp
  obj := fun i h st b hb => by
    obtain ⟨⟨old, he⟩, ⟨o, ho, hc, hd⟩, _⟩ := st
    rcases List.mem_cons.mp hb with z | z
    · exact ⟨_, z ▸ he, fun v q => by injection q⟩
    · have z : b = it := by simpa using z
      exact ⟨o, z ▸ ho, fun v q => by rw [hd] at q; injection q⟩
  keep := fun i h h' st k => let ⟨⟨old, he⟩, hi, hne⟩ := st; ⟨⟨old, k e (by simp) _ he⟩, hi.at fun o q => k it (by simp) o q, hne⟩
  item := by
    intro X hP hw hK hc i pins s σ H E I hf st hg
    subst hP hw hK
    obtain ⟨⟨old, he⟩, hit, hne⟩ := st
    obtain ⟨xs, x, hq, hx⟩ := hg
    obtain ⟨its, rv, p, hz⟩ := I.tuple hq
    obtain ⟨u, hu, ru⟩ := rv.get hx
    have tp : s.heap.IsTuple a its.toArray := p
    have hel : e < s.heap.objs.size := Heap.lt_size he
    have hil : it < s.heap.objs.size := let ⟨_, q, _⟩ := hit; Heap.lt_size q
    have nea : e ≠ a := fun z => by
      obtain ⟨o, o1, o2, _⟩ := p
      rw [← z, he] at o1; cases o1; injection o2 with o2; exact absurd o2 (by decide)
    have nia : a ≠ it := fun z => by
      obtain ⟨o, o1, o2, _⟩ := p
      obtain ⟨o', o3, o4, _⟩ := hit
      rw [z, o3] at o1; cases o1; rw [o4] at o2; injection o2 with o2; exact absurd o2 (by decide)
    have D := Draws.tuple (prog := X.prog) (w := X.w) (A := X.A.in1) (I.ok.hd hc) it a nia its.toArray
    have lt : i < its.toArray.size := by
      have := (List.getElem?_eq_some_iff.mp hu).1
      simpa using this
    refine wpAny_pyNext_enum_itemD D he ⟨hit, tp⟩ lt hne (by simp [hne, nea]) fun y h' tk hy ho st' hT hsz hk => ?_
    have ey : y = u := by
      have hy : its.toArray[i]? = some y := hy
      have : its[i]? = some y := by simpa using hy
      rw [hu] at this; exact (Option.some.inj this).symm
    subst ey
    refine ⟨_, rfl, wpAny_letOwnedTupleGo_enum (s := { s with heap := h', toks := tk + 1 }) ho fun h2 he2 sb => ?_⟩
    have g2 : h2.get? s.heap.objs.size = some { cls := .type "tuple", data := .seq #[.int i tk, y] } := (sb.2 _ (Nat.ne_of_gt hel)).trans hT
    have new : ObjOk X.prog X.w (upd H s.heap.objs.size (.tup [.int (i : Nat), x])) h2 s.heap.objs.size (.tup [.int (i : Nat), x]) :=
      ⟨by show 2 ≤ sizeLine; decide, [.int i tk, y], .cons ⟨_, rfl⟩ (.cons ru .nil), ⟨_, g2, rfl, _, rfl⟩⟩
    have I1 : Inv X pins σ (upd H s.heap.objs.size (.tup [.int (i : Nat), x])) { s with heap := h2, toks := tk + 1 } :=
      I.turnedNew (ch := [e, it]) (fun b ob hb q => (sb.2 b (fun z => hb (by simp [z]))).trans (hk b ob (fun z => hb (by simp [z])) (fun z => hb (by simp [z])) q)) hf (Nat.le_refl _) new
    refine ⟨.ref s.heap.objs.size, _, I1, rfl, ⟨_, x, rfl, I.hok.fresh (Nat.le_refl _), rfl, fun ys hys => by rw [I.tuple_inj hys hq]; exact hx⟩, ⟨⟨y, ?_⟩, st'.1.at fun o q => (sb.2 it (Ne.symm hne)).trans q, hne⟩, fun b hb => ?_⟩
    · rw [show ((i + 1 : Nat) : Int) = (i : Int) + 1 from by omega]; exact he2
    · have lb : b < s.heap.objs.size := by
        rcases List.mem_cons.mp hb with z | z
        · rw [z]; exact hel
        · have z : b = it := by simpa using z
          rw [z]; exact hil
      rw [upd_ne (Nat.ne_of_lt lb)]
      exact (hf b hb).1
  done := by
    intro X hP hw hK hc i pins s σ H E I hf st hg
    subst hP hw hK
    obtain ⟨⟨old, he⟩, hit, hne⟩ := st
    obtain ⟨xs, hq, hx⟩ := hg
    obtain ⟨its, rv, p, hz⟩ := I.tuple hq
    have tp : s.heap.IsTuple a its.toArray := p
    obtain ⟨f0, f1, f2, f3, f4, f5⟩ := hf it (by simp)
    have hT : s.TypeIs (.ref e) "enumerate" := ⟨_, he, rfl⟩
    have hl := rv.length
    unfold pyNext
    refine wpAny_bind (wpAny_attempt (wpAny_callSpecial?_slot (name := Str.ofString "__next__") hT F.slot_enumerate_next (wpAny_call_entry F.slot_enumerate_next hT F.entry_enumerate_next ?_ (F.args_enumerate_next_1 _))))
    show wpAny _ _ (field (.ref e) 2 >>= _) _ _ _
    refine wpAny_bind (wpAny_field he rfl (x := .ref it) rfl ?_)
    refine wpAny_bind (wpAny_nextOf_tuple_end (I.ok.hd hc) hit tp (by simp; omega) fun h' y he' hy => ?_)
    obtain ⟨o, ho, hc'⟩ := hy
    refine wpAny_bind (wpAny_isInstance (T := "StopIteration") (b := true) ⟨o, ho, hc'⟩ isSubtype_stop ?_)
    exact wpAny_pure ⟨rfl, I.turned (t' := s.toks) (fun b o hb q => he' b o hb q) f0 f1 f3 f4 f5⟩
  self := fun A i s Q E st h => let ⟨⟨_, he⟩, _⟩ := st; wpAny_pyIter_enum he h
/-- enumerate of a list or of a tuple -/
def iEnum2 (K : PySem.W.Frag) (ta : TA) : TI := fun σ H R => ta σ H fun vs H1 => ∃ a xs, vs = [.ref a] ∧ ((SqL K H1 a xs ∧ R (Ite K a) H1) ∨ (SqT K H1 a xs ∧ R (Itu K a) H1))
theorem pi_enum2 {X : Cx} {e : Expr} {ta : TA} {p pos tpos : Pos} {elts : List Expr} {kk : Nat} (hg : Gl X "enumerate") (hm : X.mg "enumerate" = none) (ha : PA X [e] ta) (hs : starEach [e] X.env = [(false, eval e X.env)]) :
    PI X (.Tuple elts kk tpos) (.Call (.Name "enumerate" p) [e] [] pos) (iEnum2 X.K ta) := ⟨fun pins s σ H R I h => by
  refine Call_ (ld_blt I hg hm boot_enumerate (PyProof.Rows.callWith_type1 (thn (ha.run pos pins s σ H _ I h) fun us s1 ⟨vs, H1, I1, r1, a, xs, ev, q⟩ => ?_) hs rfl))
  subst ev
  cases r1 with
  | cons r0 rr =>
    cases rr
    cases r0
    have fp2 : ∀ b ∈ [s1.heap.objs.size + 1, s1.heap.objs.size], FpOk X pins H1 b := fun b hb => by
      have le : s1.heap.objs.size ≤ b := by
        rcases List.mem_cons.mp hb with z | z
        · rw [z]; exact Nat.le_add_right _ _
        · have z : b = s1.heap.objs.size := by simpa using z
          rw [z]; exact Nat.le_refl _
      exact I1.fpOk le (I1.hok.fresh le)
    rcases q with ⟨hq, q⟩ | ⟨hq, q⟩
    · obtain ⟨its, rv, p', hz⟩ := I1.list hq
      exact call_enumerate_list p'.isList fun h' he hit hsz hk => wpAny_pyIter_enum he ⟨s1.heap.objs.size + 1, [s1.heap.objs.size + 1, s1.heap.objs.size], _, _, H1, rfl, I1.kept (t' := s1.toks) hk, turn_enum a (s1.heap.objs.size + 1) s1.heap.objs.size, ⟨⟨.none, he⟩, hit, Nat.succ_ne_self _⟩, fp2, q⟩
    · obtain ⟨its, rv, p', hz⟩ := I1.tuple hq
      exact evt_call (show s1.heap.IsTuple a its.toArray from p') fun h' he hit hk => wpAny_pyIter_enum he ⟨s1.heap.objs.size + 1, [s1.heap.objs.size + 1, s1.heap.objs.size], _, _, H1, rfl, I1.kept (t' := s1.toks) hk, turn_enumT a (s1.heap.objs.size + 1) s1.heap.objs.size, ⟨⟨.none, he⟩, hit, Nat.succ_ne_self _⟩, fp2, q⟩⟩
section
variable {c : Cxt} {X : Cx} {r : Nat → Option Addr} {F B H : Hp} {σ : L2.St} {ds : Env} {cs : Cs} {tg e : Expr} {pos p : Pos}
theorem wk_enumT {K : PySem.W.Frag} {a : Addr} (hK : c.G.Kf = K) : Wk c (Itu K a) (fun i it r F => ∃ b, it = .en i b ∧ PT_ c a i b r F) := by
  refine ⟨fun i it r F B H cs s g own hP R hm => ?_, fun i it r F B r' F' B' ⟨b, e, h⟩ E => ⟨b, e, (lk_tup hK a).ext _ _ _ _ _ _ _ _ h E⟩⟩
  obtain ⟨b, e, h1⟩ := hP
  subst e
  unfold nxI at hm
  obtain ⟨xs, hx, h⟩ := (lk_tup hK a).look _ _ _ _ _ _ _ _ _ _ h1 R hm
  rcases h with ⟨h3, h4⟩ | ⟨x, d, a', q1, q2, q3, q4⟩
  · exact .inl ⟨h3, xs, hx, h4⟩
  · rw [fNat_eq] at q3
    refine .inr ⟨⟨xs, x, hx, q1⟩, _, _, q3, fun v H' hv => ?_⟩
    obtain ⟨T, x', e1, e2, e3, e4⟩ := hv
    have e5 := e4 xs hx
    rw [q1] at e5; cases e5
    subst e1
    have E := ext_newF (r := r) (F := F) (B := B) (o := .tup [.int (i : Nat), x]) (R.freeF e2)
    exact ⟨_, .inr ⟨T, .tup [.int (i : Nat), x], e2, trivial, e3, rfl⟩, .tup upd_same (.cons (.int _) (.cons (q2.ext E) .nil)), _, rfl, (lk_tup hK a).ext _ _ _ _ _ _ _ _ q4 E⟩
def iEnumN (a : MA) : MI := fun f e cs k x => a f e cs (fun us cs1 => match us with
  | [d] => itOf d cs1 fun _ it => k (.en 0 it) cs1
  | _ => false) x
theorem xi_enum2 {ma : MA} {elts : List Expr} {kk : Nat} {tpos : Pos} (hg : Gl X "enumerate") (hm : X.mg "enumerate" = none) (ha : XA c X [e] ma) (hs : starEach [e] X.env = [(false, eval e X.env)]) :
    XI c X (.Tuple elts kk tpos) (.Call (.Name "enumerate" p) [e] [] pos) (iEnumN ma) := pi_imp (pi_enum2 hg hm ha hs) fun σ H Rr ⟨r, F, B, ds, cs, K, x, hm, R, k, xk⟩ => by
  refine tA.of hm R (fun r1 F1 B1 H1 vs us cs1 E1 R1 hvs h1 => ?_) xk
  split at h1
  · cases hvs with
    | cons hv t =>
      cases t
      obtain ⟨a, it, xs, ev, h2⟩ := itOf_ok R1.rc hv h1
      subst ev
      rcases h2 with ⟨h2, h3, h4⟩ | ⟨h2, h3, h4⟩
      · exact ⟨a, xs, rfl, .inl ⟨SqL.of h3, k _ _ _ _ _ _ _ _ E1 R1 wk_enum ⟨it, rfl, h4⟩ h2⟩⟩
      · exact ⟨a, xs, rfl, .inr ⟨h3.sq R1.kf, k _ _ _ _ _ _ _ _ E1 R1 (wk_enumT R1.kf) ⟨it, rfl, h4⟩ h2⟩⟩
  · cases h1
end
end Ev

set_option Elab.async false
set_option linter.all false
set_option maxRecDepth 100000
set_option maxHeartbeats 4000000
/-! Ev32: a comprehension in a frame with boxes that the block does not see -/
namespace Ev
open PySem PySem.Spec PyProof.Rows L2 LamX NdefX
section
variable {X : Cx} {pins : List (Addr × Obj)} {σ : L2.St} {H : Hp} {s : Shared}
/-- the reading -/
def tLcR (X : Cx) (wi : TI) (vs : List Nat) (scope : Scope) (tg elt : Expr) : TE := fun σ H Q => wi σ H fun J H1 => ∀ D s3 fp pins, H1 D = none → Inv X pins σ (upd H1 D (.lst [])) s3 → (∀ b ∈ fp, FpOk X pins (upd H1 D (.lst [])) b ∧ b < s3.heap.objs.size) →
  ∀ s4, Inv (blkX X scope s3 (upd H1 D (.lst [])) fp) [] (wipe σ vs) (upd H1 D (.lst [])) s4 → ∃ G : Hp, Inv (blkX X scope s3 G fp) [] (wipe σ vs) G s4 ∧ (∀ b ∈ fp, G b = none) ∧ ∃ W : Nat → Nat → Hp → Prop, (∃ m, W 0 m G) ∧ ∀ i m H2, W i m H2 →
    (J.stop i H2 ∧ ∀ s6, Inv (blkX X scope s3 G fp) [] (wipe σ vs) H2 s6 → ∃ H6, Un (frs X.stack) fp (upd H1 D (.lst [])) H6 s3.heap s6.heap ∧ HOk X.prog X.w H6 s6.heap ∧ H6 s3.heap.objs.size = none ∧ Q (.ref D) H6) ∨
    (J.go i H2 ∧ ∃ Nx : Hp → Prop, (∀ H', Nx H' → ∃ m', m' < m ∧ W (i + 1) m' H') ∧ ∀ x u H3 pp s7, Inv (blkX X scope s3 G fp) pp (wipe σ vs) H3 s7 → RelV x u → J.yld i H2 x H3 → BlkTurn (blkX X scope s3 G fp) vs (wipe σ vs) tg elt D u Nx pp s7)
theorem pe_lcR {elt tg iter : Expr} {scope : Scope} {own : List (Str × Nat)} {pos : Pos} {wi : TI} (hc : X.calm = true) (hN : X.N.Nodup) (hi : PI X tg iter wi) (ok : BlkOk X.N X.env.scope scope own) (hs : ∀ x, foldedSetIterable iter X.env x = pure x) :
    PE X (.ListComp elt [⟨tg, iter, [], 0⟩] scope pos) (tLcR X wi (own.map (·.2)) scope tg elt) := ⟨fun pins s σ H Q I h => by
  rw [eval_ListComp]
  have clo : ∀ y ∈ scope.names, y.2 = .free → ∃ c, X.env.cells.lookup y.1 = some c := fun y hy e => (ok.free y hy e).elim (fun k => I.ok.has _ (.inl k)) fun k => I.ok.has _ (.inr k)
  refine wpAny_comprehension_free (use := none) rfl hs (closure_ok clo) ok.kind (fun y hy e => by rw [ok.uniq y hy, e]) (thn (hi.run pins s σ H _ I h) fun xv s1 hx => thn hx fun itv s2 ⟨it, fp, tn, J, H2, e, I2, T, st2, f2, q⟩ => ?_)
  subst e
  refine wpAny_newObj_type (newEnv_comp ?_) (by show 0 ≤ sizeLine; decide)
  have pushed : ∀ b o, s2.heap.get? b = some o → (s2.heap.push { cls := .type "list", data := .seq ([] : List Value).toArray }).get? b = some o := fun b o e => Heap.get?_push_of_some _ e
  have small : ∀ b ∈ fp, b < s2.heap.objs.size := fun b hb => let ⟨_, e, _⟩ := T.obj _ _ st2 b hb; Heap.lt_size e
  have DN : H2 s2.heap.objs.size = none := I2.hok.fresh (Nat.le_refl _)
  have J3 : Inv X pins σ (upd H2 s2.heap.objs.size (.lst [])) { s2 with heap := s2.heap.push { cls := .type "list", data := .seq ([] : List Value).toArray } } :=
    I2.laid (t' := s2.toks) pushed (Nat.le_refl _) ⟨Nat.zero_le _, [], 0, .nil, Heap.get?_push_size _ rfl⟩
  have F3 : ∀ b ∈ fp, FpOk X pins (upd H2 s2.heap.objs.size (.lst [])) b ∧ b < (s2.heap.push { cls := .type "list", data := .seq ([] : List Value).toArray }).objs.size := fun b hb =>
    ⟨⟨by rw [upd_ne (Nat.ne_of_lt (small b hb))]; exact (f2 b hb).1, (f2 b hb).2⟩, by rw [Heap.size_push]; exact Nat.lt_succ_of_lt (small b hb)⟩
  have J4 := block_start J3 ok hN F3
  have q1 := q _ _ fp pins DN J3 F3 _ J4
  have st4 := T.keep _ _ _ st2 fun b _ o e => pushCells_keeps scope.names _ _ _ (Heap.get?_push_of_some { cls := .type "dict", data := .dict #[] } (pushed b o e))
  obtain ⟨G4, K4, nofp, W, ⟨m0, w0⟩, turn⟩ := q1
  -- names for what is fixed from here on
  generalize hD : s2.heap.objs.size = D at *
  generalize h3 : ({ s2 with heap := s2.heap.push { cls := .type "list", data := .seq ([] : List Value).toArray } } : Shared) = s3 at *
  have e3 : s2.heap.push { cls := .type "list", data := .seq ([] : List Value).toArray } = s3.heap := by rw [← h3]
  rw [e3] at F3 st4
  generalize hH : upd H2 D (.lst []) = G3 at *
  have foot : ∀ {σ' : L2.St} {H' : Hp} {s' : Shared}, Inv (blkX X scope s3 G4 fp) [] σ' H' s' → (∀ b ∈ fp, H' b = none) → ∀ b ∈ fp, FpOk (blkX X scope s3 G4 fp) [] H' b := fun {σ' H' s'} I' hn b hb =>
    ⟨hn b hb, (I'.ok.exf b hb).1, I'.ok.exfs b hb, Or.inl hb, fun x c e => (I'.ok.exf b hb).2 x c e, fun p hp => by cases hp⟩
  generalize h4 : ({ s3 with heap := pushCells (s3.heap.push { cls := .type "dict", data := .dict #[] }) scope.names } : Shared) = s4 at *
  have st5 : tn 0 s4.heap := by rw [← h4]; exact st4
  have fn_ : codeAny (model X.prog X.w) X.A (.compLoop (.ListComp elt [⟨tg, iter, [], 0⟩] scope pos) 0 (.ref it) (.ref D) (blkE X scope s3)) (compPost (model X.prog X.w) X.A X.xe none (EP X pins σ Q) (.ref D) s3.heap.objs.size) s4 := ?_
  · have z := codeAny_compStart_list fn_ (T.self X.A 0 _ _ _ st5 fn_)
    subst h3
    subst hD
    exact z
  refine compLoop_any (fun n t => ∃ i H', Inv (blkX X scope s3 G4 fp) [] (wipe σ (own.map (·.2))) H' t ∧ tn i t.heap ∧ (∀ b ∈ fp, H' b = none) ∧ W i n H') ?_ m0 ⟨0, G4, K4, st5, nofp, w0⟩
  rintro n t ⟨i, H5, I5, st5, n5, w5⟩
  rcases turn i n H5 w5 with ⟨stop, fin⟩ | ⟨go, Nx, less, step⟩
  · refine thnF (T.done (blkX X scope s3 G4 fp) rfl rfl rfl hc i [] t _ H5 (fun _ _ => False) I5 (foot I5 n5) st5 stop) fun r s6 ⟨hr, I6⟩ => ?_
    subst hr
    obtain ⟨H6, un, hk, nC, qq⟩ := fin s6 I6
    have I7 : Inv X pins σ H6 s6 := J3.call' (ch := fp) I6.os un hk I6.bare fun b hb => ⟨(F3 b hb).1.2.2.2.1, (F3 b hb).1.2.1, (F3 b hb).1.2.2.2.2.1, (F3 b hb).1.2.2.2.2.2⟩
    obtain ⟨m, hn, _⟩ := I6.loc
    refine ⟨m, hn, fun h' sb => ?_⟩
    have f := J3.fpOk (Nat.le_refl _) (H := G3) (J3.hok.fresh (Nat.le_refl _))
    obtain ⟨f0, f1, f2', f3, f4, f5⟩ := f
    exact ⟨.ref D, H6, I7.turned (t' := s6.toks) (fun b o hb e => (sb.2 b hb).trans e) nC f1 f3 f4 f5, rfl, qq⟩
  · refine thnF (T.item (blkX X scope s3 G4 fp) rfl rfl rfl hc i [] t _ H5 (fun _ _ => False) I5 (foot I5 n5) st5 go) fun r s6 ⟨u, hr, h6⟩ => ?_
    subst hr
    refine thnF h6 fun _ s7 ⟨x, H7, I7, r7, y7, st7, n7⟩ => ?_
    have P7 := I7.pinned (foot I7 n7) (T.obj _ _ st7)
    refine thnF (step x u H7 _ s7 P7 r7 y7) fun _ s8 ⟨σ8, H8, I8, w8, q8⟩ => wpAny_tests_nil ?_
    show wpAny _ _ _ _ _ _
    refine thnF q8 fun z s9 ⟨v, H9, acc, I9, rv, hacc, hlen, nx⟩ => ?_
    refine app_ok (X := blkX X scope s3 G4 fp) I9 hacc hlen rv fun s10 I10 => ?_
    obtain ⟨m', lt, w'⟩ := less _ nx
    have keep : ∀ b ∈ fp, ∀ o, s7.heap.get? b = some o → s10.heap.get? b = some o ∧ upd H9 D (.lst (acc ++ [v])) b = none := fun b hb o e =>
      let z := I10.pin (b, o) (List.mem_append_right _ (List.mem_append_right _ (mem_pinsAt hb e)))
      ⟨z.1, z.2.1⟩
    refine ⟨m', lt, i + 1, _, (I10.unpinned (pins := [])).weak (by rw [← wipe_length σ8 (own.map (·.2)), w8, wipe_length, wipe_length, wipe_length]) (fun j v' e => ?_), T.keep _ _ _ st7 fun b hb o e => (keep b hb o e).1, fun b hb => ?_, w'⟩
    · have ww : wipe (wipe σ (own.map (·.2))) (own.map (·.2)) = wipe σ (own.map (·.2)) := wipe_twice _ _
      rw [ww] at w8
      rw [← w8] at e
      exact (wipe_some e).1
    · obtain ⟨o, e, _⟩ := T.obj _ _ st7 b hb
      exact (keep b hb o e).2⟩
end
end Ev

set_option Elab.async false
set_option linter.all false
set_option maxRecDepth 100000
set_option maxHeartbeats 4000000
/-! Ev33: a comprehension in a frame with boxes, some of which the block does not see -/
namespace Ev
open PySem PySem.Spec PyProof.Rows L2 LamX NdefX
abbrev Cxt.blkR (c : Cxt) (ob capt : List Nat) : Cxt := { c with bx := ob ++ capt, W := fun _ _ _ _ => False }
theorem lend_upd {X : Cx} {bx : List Nat} {h : Heap} {B : Hp} {D : Addr} {o : HO} (n : ¬ ownB X bx D) : lendAt X bx h (upd B D o) = upd (lendAt X bx h B) D o := by
  funext b
  by_cases e : b = D
  · rw [e, upd_same, lend_not n, upd_same]
  · rw [upd_ne e]
    by_cases q : ownB X bx b
    · rw [lend_own q, lend_own q]
    · rw [lend_not q, lend_not q, upd_ne e]
theorem wipeL_len (ds : Env) : ∀ vs : List Nat, (wipeL ds vs).length = ds.length
  | [] => rfl
  | v :: vs => by
    show ((wipeL ds vs).set v none).length = _
    rw [List.length_set, wipeL_len ds vs]
theorem wipeL_get {ds : Env} {i : Nat} : ∀ {vs : List Nat}, i ∉ vs → (wipeL ds vs)[i]? = ds[i]?
  | [], _ => rfl
  | v :: vs, h => by
    show ((wipeL ds vs).set v none)[i]? = _
    rw [List.getElem?_set_ne (fun e => h (by rw [e]; exact List.mem_cons_self))]
    exact wipeL_get fun z => h (List.mem_cons_of_mem _ z)
theorem wipeL_some {ds : Env} {i : Nat} {d : D} : ∀ {vs : List Nat}, (wipeL ds vs)[i]? = some (some d) → ds[i]? = some (some d) ∧ i ∉ vs
  | [], h => ⟨h, by simp⟩
  | v :: vs, h => by
    have h : ((wipeL ds vs).set v none)[i]? = some (some d) := h
    by_cases e : v = i
    · rw [List.getElem?_set] at h
      rw [if_pos e] at h
      split at h <;> cases h
    · rw [List.getElem?_set_ne e] at h
      obtain ⟨h1, h2⟩ := wipeL_some h
      exact ⟨h1, fun z => (List.mem_cons.mp z).elim (fun w => e w.symm) h2⟩
def mLcR (pol : Bool) (fu : Nat) (vs ob bx rest : List Nat) (mi : MI) (g : MG) (a : ME) : ME := fun f e cs k x => mi f e cs (fun it cs1 => emptyB cs1 e bx fun ns => wipeE e rest fun e0 => wipeE e0 vs fun ew => enterB ob ew cs1 fun e2 cs2 => loopB ob g a f e2 (fun acc cs3 => match stillE cs3 ns with
  | true => revK acc [] fun xs => newL pol xs cs3 k
  | false => false) fu it cs2 []) x
section
variable {X : Cx} {pins : List (Addr × Obj)} {σ : L2.St} {H : Hp} {s : Shared}
theorem blk_isFree (I : Inv X pins σ H s) {scope : Scope} {y z : Str} {p : Addr} (hf : ∀ y, scope.names.lookup y = some .free → ∃ c, X.env.cells.lookup y = some c) (u : ∀ y ∈ scope.names, scope.names.lookup y.1 = some y.2) (h : (blkCl X scope s).lookup y = some p) (l : X.env.cells.lookup z = some p) : scope.names.lookup z = some .free := by
  have m : (y, p) ∈ cellsFrom (s.heap.objs.size + 1) scope.names (cloFrom X.env.cells scope.names []) := PySem.mem_of_lookup h
  rw [← Heap.size_push s.heap { cls := .type "dict", data := .dict #[] }] at m
  obtain ⟨v, o, hp, _⟩ := I.cell z p l
  have lt := Heap.lt_size hp
  rcases cells_mem m with m | ⟨_, m, _⟩
  · rcases cloFrom_mem m with m | ⟨m1, m2⟩
    · cases m
    · have q := u _ m1
      cases e : X.env.cells.lookup y with
      | none =>
        rw [e] at m2
        obtain ⟨c', hc'⟩ := hf y q
        rw [e] at hc'; cases hc'
      | some p' =>
        rw [e] at m2
        have m2 : p = p' := m2
        subst m2
        rw [I.ok.inj z y p l e]; exact q
  · rw [Heap.size_push] at m
    exact absurd (Nat.lt_of_lt_of_le lt (Nat.le_of_succ_le m)) (Nat.lt_irrefl _)
theorem lend_part {G : Gs} {T : List NTab} {bx capt rest : List Nat} {r : Nat → Option Addr} {F B : Hp} {ds : Env} {cs : Cs} (I : Inv X pins σ H s) (O : OwnX X bx) (hsp : ∀ i, i ∈ bx ↔ i ∈ capt ∨ i ∈ rest) (hcr : ∀ i ∈ capt, i ∉ rest) (R : RL G T X bx r F B σ H ds cs) :
    RL G T X capt r F (lendAt X rest s.heap B) σ (lendAt X rest s.heap H) (wipeL ds rest) cs := by
  have rb : ∀ p, ownB X rest p → ownB X bx p := fun p ⟨i, hi, q⟩ => ⟨i, (hsp i).mpr (.inr hi), q⟩
  have nH : ∀ a o, H a = some o → ¬ ownB X rest a := fun a o h q => by rw [own_free I (rb a q)] at h; cases h
  have kH : ∀ a o, H a = some o → lendAt X rest s.heap H a = some o := fun a o h => by rw [lend_not (nH a o h)]; exact h
  have kB : ∀ a o, B a = some o → lendAt X rest s.heap B a = some o := fun a o h => by rw [lend_not (nH a o (R.rc.subB a o h))]; exact h
  have E : Ext r F B r F (lendAt X rest s.heap B) := ⟨fun _ _ z => z, fun _ _ z => z, kB⟩
  have objR : ∀ p, ownB X rest p → ∃ ob ou i, i ∈ rest ∧ bAddr X i = some p ∧ s.heap.get? p = some ob ∧ ob.data = .cell ou ∧ ∀ v, σ[i]? = some (some v) → ∃ u, ou = some u ∧ RelV v u := fun p ⟨i, hi, q⟩ => by
    obtain ⟨ob, ou, h1, h2, h3⟩ := own_obj I O ((hsp i).mpr (.inr hi)) q
    exact ⟨ob, ou, i, hi, q, h1, h2, h3⟩
  refine ⟨⟨fun a o h => kH a o (R.rc.subF a o h), fun a o h => ?_, R.rc.plF, fun a o h => ?_, R.rc.inj, fun n a h => ?_, R.rc.fresh, R.rc.dec, R.rc.lt, fun n ce h => ?_, R.rc.tabs.ext kH, fun a o h => ?_, fun n a vs h => ?_⟩, fun i d hi h => ?_, fun i hi => ?_, fun i hi j hj => R.binj i ((hsp i).mpr (.inl hi)) j ((hsp j).mpr (.inl hj)), by rw [wipeL_len]; exact R.len, R.kf⟩
  · by_cases q : ownB X rest a
    · rw [lend_own q] at h ⊢; exact h
    · rw [lend_not q] at h; exact kH a o (R.rc.subB a o h)
  · by_cases q : ownB X rest a
    · rw [lend_own q] at h
      obtain ⟨ob, _, e⟩ := Option.map_eq_some_iff.mp h
      exact .inl ⟨ob, e.symm⟩
    · rw [lend_not q] at h; exact R.rc.frB a o h
  · rcases R.rc.rng n a h with z | ⟨i, hi, q⟩
    · refine .inl ?_
      cases e : H a with
      | none => exact absurd e z
      | some o => rw [kH a o e]; exact fun z => nomatch z
    · rcases (hsp i).mp hi with w | w
      · exact .inr ⟨i, w, q⟩
      · obtain ⟨ob, ou, _, _, _, h1, _⟩ := objR a ⟨i, w, q⟩
        rw [lend_own ⟨i, w, q⟩, h1]
        exact .inl fun z => nomatch z
  · have k := R.rc.cell n ce h
    have plain : (∀ od, ce ≠ .box od) → CellOk G (ownB X capt) r F (lendAt X rest s.heap B) (lendAt X rest s.heap H) cs n ce := fun nb => by
      have k2 := fun (own' : Addr → Prop) (ho : ∀ a, ownB X bx a → own' a) => k.stay (own' := own') E ho (fun a h1 h2 o _ h3 => ⟨⟨h2.1, by rw [lend_not (nH a o h3)]; exact h2.2⟩, kH a _ h3⟩) (cs' := cs) fun _ z => z
      have k2 := k2 (ownB X bx) fun _ z => z
      cases ce with
      | lst xs => exact k2
      | raw => exact k2
      | strm m j => exact k2
      | kd ys => exact k2
      | box od => exact absurd rfl (nb od)
    cases ce with
    | lst xs => exact plain (fun _ z => nomatch z)
    | raw => exact plain (fun _ z => nomatch z)
    | strm m j => exact plain (fun _ z => nomatch z)
    | kd ys => exact plain (fun _ z => nomatch z)
    | box od =>
      rcases k with ⟨a, h1, i, hi, q⟩ | ⟨a, ob, h1, h2, h3⟩
      · rcases (hsp i).mp hi with w | w
        · exact .inl ⟨a, h1, i, w, q⟩
        · obtain ⟨ob, ou, i', hi', q', h2, h3, h4⟩ := objR a ⟨i, w, q⟩
          refine .inr ⟨a, ob, h1, by rw [lend_own ⟨i, w, q⟩, h2]; rfl, ou, h3, fun d ed => ?_⟩
          obtain ⟨n', a', e1, e2, e3, e4⟩ := R.boxs i' ((hsp i').mpr (.inr hi'))
          rw [q'] at e2; cases e2
          obtain ⟨od', e5, e6⟩ := e4 n _ h1 h
          cases e5
          obtain ⟨v, e7, e8⟩ := e6 d ed
          obtain ⟨u, e9, e10⟩ := h4 v e7
          exact ⟨u, v, e9, e10, e8⟩
      · exact .inr ⟨a, ob, h1, kB _ _ h2, h3⟩
  · by_cases q : ownB X rest a
    · exact R.rc.freeF (own_free I (rb a q))
    · rw [lend_not q] at h; exact R.rc.dj a o h
  · by_cases q : ownB X rest a
    · rw [lend_own q]
      cases s.heap.get? a with
      | none => exact fun z => nomatch z
      | some ob => exact fun z => nomatch z
    · rw [lend_not q]; exact R.rc.rb n a vs h
  · obtain ⟨h1, h2⟩ := wipeL_some h
    exact R.slot i d (fun z => ((hsp i).mp z).elim hi h2) h1
  · obtain ⟨n, a, h1, h2, h3, h4⟩ := R.boxs i ((hsp i).mpr (.inl hi))
    exact ⟨n, a, by rw [wipeL_get (hcr i hi)]; exact h1, h2, h3, h4⟩
theorem relend {scope : Scope} {fp : List Addr} {σw : L2.St} {s4 : Shared} {bx rest : List Nat} (I : Inv X pins σ H s) (O : OwnX X bx) (inR : ∀ i ∈ rest, i ∈ bx) (nofree : ∀ i ∈ rest, ∀ y p, (blkCl X scope s).lookup y = some p → bAddr X i ≠ some p)
    (hfp : ∀ b ∈ fp, ∀ x q, X.env.cells.lookup x = some q → q ≠ b) (J : Inv (blkX X scope s H fp) [] σw H s4) : Inv (blkX X scope s (lendAt X rest s.heap H) fp) [] σw (lendAt X rest s.heap H) s4 := by
  have rb : ∀ p, ownB X rest p → ownB X bx p := fun p ⟨i, hi, q⟩ => ⟨i, inR i hi, q⟩
  have nH : ∀ a o, H a = some o → ¬ ownB X rest a := fun a o h q => by rw [own_free I (rb a q)] at h; cases h
  have kH : ∀ a o, H a = some o → lendAt X rest s.heap H a = some o := fun a o h => by rw [lend_not (nH a o h)]; exact h
  have nfr : ∀ b ∈ frs X.stack, ¬ ownB X rest b := fun b hb ⟨i, hi, e⟩ => by
    obtain ⟨y, _, l⟩ := bAddr_look e
    rcases List.mem_cons.mp (I.stkSub b hb) with z | z
    · exact I.cne y b l z
    · exact O.nf i (inR i hi) b e z
  have nfp : ∀ b ∈ fp, ¬ ownB X rest b := fun b hb ⟨i, hi, e⟩ => by
    obtain ⟨y, _, l⟩ := bAddr_look e
    exact hfp b hb y b l rfl
  have hN : ∀ b o, s.heap.get? b = some o → lendAt X rest s.heap H b = none → H b = none := fun b o h z => by
    by_cases q : ownB X rest b
    · rw [lend_own q, h] at z; cases z
    · rw [lend_not q] at z; exact z
  have lt : ∀ p, ownB X rest p → p < s.heap.objs.size := fun p ⟨i, hi, e⟩ => by
    obtain ⟨y, _, l⟩ := bAddr_look e
    obtain ⟨v, o, hp, _⟩ := I.cell y p l
    exact Heap.lt_size hp
  have ok := J.ok
  refine ⟨⟨ok.mod, ok.kind, ok.glob, ok.blt, ok.above, ok.inj, ok.has, ok.cab, ok.hd, ok.frames, ok.stk, ok.exf, fun b o h => ⟨(ok.bs b o h).1, ?_⟩, ok.bsz, ok.noex, ok.exfs, ok.funs, fun b hb => ?_⟩, J.os, J.bare, ⟨fun b o h1 h2 h3 h4 => J.base.keep b o h1 (hN b o h1 h2) h3 h4, fun b o h1 h2 h3 h4 => J.base.slot b o h1 (hN b o h1 h2) h3 h4, fun _ _ _ h _ => h, J.base.there, fun _ _ h => h, fun _ _ _ h => h, fun b ps h => ⟨#[], by simpa using h⟩⟩,
    J.loc, J.cell, ?_, fun y q e => ?_, fun p hp => absurd (show p ∈ ([] : List (Addr × Obj)) ++ [] from hp) (by simp), fun a o h => ?_, J.len⟩
  · show lendAt X rest s.heap H b = none
    rw [lend_not (fun ⟨i, hi, e⟩ => by rw [O.nb i (inR i hi) b e] at h; cases h)]
    exact (ok.bs b o h).2
  · show lendAt X rest s.heap H b = none
    rw [lend_not (nfr b hb)]
    exact ok.frf b hb
  · show lendAt X rest s.heap H s.heap.objs.size = none
    rw [lend_not (fun q => absurd (lt _ q) (Nat.lt_irrefl _))]
    exact J.free
  · show lendAt X rest s.heap H q = none
    rw [lend_not (fun ⟨i, hi, eb⟩ => nofree i hi y q e eb)]
    exact J.freeC y q e
  · by_cases q : ownB X rest a
    · rw [lend_own q] at h
      obtain ⟨ob, h1, e⟩ := Option.map_eq_some_iff.mp h
      subst e
      have k := J.base.keep a ob h1 (own_free I (rb a q)) (fun z => nfr a z q) (fun z => nfp a z q)
      exact ⟨k, ob, k⟩
    · rw [lend_not q] at h
      exact (J.hok a o h).stay (fun _ _ _ z => z) (fun b z => kH _ _ z) fun b xs z => kH _ _ z
end
section
variable {c : Cxt} {X : Cx} {e : Expr} {pos : Pos} {vs : List Nat} {elt tg iter : Expr} {scope : Scope} {own : List (Str × Nat)} {mi : MI} {g : MG} {a : ME}
theorem xe_lcR {k : Nat} {ob capt rest : List Nat} (pol : Bool) (fu : Nat) (bd : Bex c X k) (hfu : fu ≤ 1000000) (hi : XI c X tg iter mi) (ok : BlkOk X.N X.env.scope scope own) (hsp : ∀ i, i ∈ c.bx ↔ i ∈ capt ∨ i ∈ rest) (hcr : ∀ i ∈ capt, i ∉ rest) (hnd : (ob ++ capt).Nodup) (hob : ∀ i ∈ ob, i ∈ own.map (·.2)) (hdis : ∀ i ∈ own.map (·.2), i ∉ c.bx)
    (hfr : kdsB X.N scope .free capt = true) (hnf : rest.all (fun i => match X.N[i]? with | some y => !decide (scope.names.lookup y = some .free) | none => false) = true) (hkb : ∀ (s : Shared) (H : Hp) (fp : List Addr), cellsB (blkX X scope s H fp) (ob ++ capt) = true) (hfn : kdsB X.N scope .cell ob = true)
    (hg : ∀ (s : Shared) (H : Hp) (fp : List Addr), Bex (c.blkR ob capt) (blkX X scope s H fp) k → XGw (c.blkR ob capt) (blkX X scope s H fp) (own.map (·.2)) tg g)
    (he : ∀ (s : Shared) (H : Hp) (fp : List Addr), Bex (c.blkR ob capt) (blkX X scope s H fp) k → XE (c.blkR ob capt) (blkX X scope s H fp) elt a) (hs : ∀ x, foldedSetIterable iter X.env x = pure x) :
    XE c X (.ListComp elt [⟨tg, iter, [], 0⟩] scope pos) (mLcR pol fu (own.map (·.2)) ob c.bx rest mi g a) := XE.mk (pe_lcR bd.calm bd.nd hi ok hs) fun r F B σ H ds cs K x Q hm R kk xk => by
  generalize hvs : own.map (·.2) = vs at *
  refine ⟨r, F, B, ds, cs, _, x, hm, R, fun r1 F1 B1 H1 J P it cs1 E1 R1 wk hP h1 => ?_, xk⟩
  obtain ⟨ns, h1, hns⟩ := emptyB_ok h1
  rw [wipeE_eq, wipeE_eq] at h1
  intro D s3 fp pins hD I3 hfp s4 I4
  have inC : ∀ i ∈ capt, i ∈ c.bx := fun i hi => (hsp i).mpr (.inl hi)
  have inR : ∀ i ∈ rest, i ∈ c.bx := fun i hi => (hsp i).mpr (.inr hi)
  have dis : ∀ i ∈ c.bx, i ∉ vs := fun i hi hv => hdis i hv hi
  have hba : ∀ (G : Hp), ∀ i ∈ capt, bAddr (blkX X scope s3 G fp) i = bAddr X i := fun G i hi => by
    obtain ⟨y, e1, e2⟩ := kdsB_ok hfr i hi
    obtain ⟨n, p, _, q2, _⟩ := R1.boxs i (inC i hi)
    obtain ⟨y', e3, e4⟩ := bAddr_look q2
    rw [e1] at e3; cases e3
    rw [q2]
    unfold bAddr
    rw [show (blkX X scope s3 G fp).N[i]? = some y from e1]
    exact blk_free ok.uniq e2 e4
  have keep3 : ∀ b o, H1 b = some o → upd H1 D (.lst []) b = some o := fun b o e => by rw [upd_ne (ne_of_none e hD)]; exact e
  have own3 : ∀ p, ownB X c.bx p → p ≠ D := fun p o e => by
    have z := own_free I3 o
    rw [e, upd_same] at z; cases z
  have BD : B1 D = none := R1.rc.freeB hD
  have Ra : RL c.G c.T X c.bx r1 F1 (upd B1 D (.lst [])) σ (upd H1 D (.lst [])) ds cs1 := ⟨R1.rc.newAcc hD own3, R1.slot, R1.boxs, R1.binj, R1.len, R1.kf⟩
  have nofree : ∀ i ∈ rest, ∀ y p, (blkCl X scope s3).lookup y = some p → bAddr X i ≠ some p := fun i hi y p hl hb => by
    have q := List.all_eq_true.mp hnf i hi
    obtain ⟨z, e1, l1⟩ := bAddr_look hb
    rw [e1] at q
    have q : decide (scope.names.lookup z = some .free) = false := by simpa using q
    have q := of_decide_eq_false q
    exact q (blk_isFree I3 (fun y hy => (ok.free _ (PySem.mem_of_lookup hy) rfl).elim (fun k => I3.ok.has _ (.inl k)) fun k => I3.ok.has _ (.inr k)) ok.uniq hl l1)
  have I5 := relend I3 bd.own inR nofree (fun b hb => (hfp b hb).1.2.2.2.2.1) I4
  generalize hG : lendAt X rest s3.heap (upd H1 D (.lst [])) = G at *
  have Rl := lend_part I3 bd.own hsp hcr Ra
  rw [hG] at Rl
  have nDr : ¬ ownB X rest D := fun ⟨i, hi, eb⟩ => own3 D ⟨i, inR i hi, eb⟩ rfl
  rw [lend_upd nDr] at Rl
  have Bl0 : ∀ p o, B1 p = some o → lendAt X rest s3.heap B1 p = some o := fun p o z => by
    rw [lend_not (fun ⟨i, hi, eb⟩ => by
      have w := own_free I3 (bx := c.bx) ⟨i, inR i hi, eb⟩
      rw [keep3 p o (R1.rc.subB p o z)] at w; cases w)]
    exact z
  have BD2 : lendAt X rest s3.heap B1 D = none := by rw [lend_not nDr]; exact BD
  generalize hBl : lendAt X rest s3.heap B1 = Bl at *
  have Ry := RL.wipeB (RL.toY (Y := blkX X scope s3 G fp) Rl rfl (hba G)) vs fun v hv z => hdis v hv (inC v z)
  have hcb := cellsB_ok (hkb s3 G fp)
  have bat : ∀ i ∈ ob ++ capt, ∃ p, bAddr (blkX X scope s3 G fp) i = some p ∧ G p = none := fun i hi => by
    obtain ⟨y, e1, e2⟩ := hcb i hi
    obtain ⟨p, hp⟩ := I5.ok.has y e2
    exact ⟨p, by unfold bAddr; rw [e1]; exact hp, I5.freeC y p hp⟩
  have Bx : Boxes (blkX X scope s3 G fp) (ob ++ capt) G := ⟨hnd, bat, fun i hi j hj p h1 h2 => by
    obtain ⟨y, e1, l1⟩ := bAddr_look h1
    obtain ⟨z, e2, l2⟩ := bAddr_look h2
    have := I5.ok.inj y z p l1 l2
    subst this
    exact nodup_ix bd.nd e1 e2⟩
  obtain ⟨r2, e2, cs2, E2, R2, h2⟩ := enterB_ok Bx Ry h1
  have OY : OwnX (blkX X scope s3 G fp) (ob ++ capt) := by
    have small : ∀ i ∈ ob, ∀ p, bAddr (blkX X scope s3 G fp) i = some p → s3.heap.objs.size ≤ p := fun i hi p hp => by
      obtain ⟨y, e1, e2⟩ := kdsB_ok hfn i hi
      obtain ⟨y', e3, e4⟩ := bAddr_look hp
      have e3 : X.N[i]? = some y' := e3
      rw [e1] at e3; cases e3
      exact I5.ok.cab y p (by show (scope.names.lookup y == some NameKind.cell) = true; rw [e2]; rfl) e4
    have frs_ : ∀ b ∈ frs X.stack, b < s3.heap.objs.size := fun b hb => by
      rcases List.mem_cons.mp (I3.stkSub b hb) with z | z
      · rw [z]; exact I3.lt
      · exact Nat.lt_of_not_le fun q => I3.nofs q z
    refine ⟨fun i hi p hp => ?_, fun i hi p hp => ?_, fun i hi y hy => ?_⟩
    · rcases List.mem_append.mp hi with z | z
      · cases q : X.base.get? p with
        | none => rfl
        | some o => exact absurd (Nat.lt_of_lt_of_le (Heap.lt_size (I3.bk p o q)) (small i z p hp)) (Nat.lt_irrefl _)
      · rw [hba G i z] at hp
        exact bd.own.nb i (inC i z) p hp
    · show p ∉ frs X.stack
      intro hb
      rcases List.mem_append.mp hi with z | z
      · exact absurd (Nat.lt_of_lt_of_le (frs_ p hb) (small i z p hp)) (Nat.lt_irrefl _)
      · rw [hba G i z] at hp
        rcases List.mem_cons.mp (I3.stkSub p hb) with w | w
        · obtain ⟨y, _, l⟩ := bAddr_look hp
          exact I3.cne y p l w
        · exact bd.own.nf i (inC i z) p hp w
    · obtain ⟨y', e1, e2⟩ := hcb i hi
      rw [hy] at e1; cases e1
      exact e2
  have bdY : Bex (c.blkR ob capt) (blkX X scope s3 G fp) k := ⟨bd.calm, bd.nd, bd.room, takes_none5, OY⟩
  have pg := hg s3 G fp bdY
  have pe := he s3 G fp bdY
  have ww : wipe (wipe σ vs) vs = wipe σ vs := wipe_twice _ _
  have E12 : Ext r1 F1 Bl r2 F1 Bl := ⟨E2.r, fun _ _ z => z, fun _ _ z => z⟩
  refine ⟨G, I5, fun b hb => ?_, ?_⟩
  · rw [← hG, lend_not (fun ⟨i, hi, eb⟩ => by
      obtain ⟨y, _, l⟩ := bAddr_look eb
      exact (hfp b hb).1.2.2.2.2.1 y b l rfl)]
    exact (hfp b hb).1.1
  refine ⟨fun i n H' => ∃ r' F' Bm cs' it acc av, Bm D = none ∧ Ext r1 F1 Bl r' F' Bm ∧ (∀ n a, r2 n = some a → r' n = some a) ∧ RL c.G c.T (blkX X scope s3 G fp) (ob ++ capt) r' F' (upd Bm D (.lst av)) (wipe σ vs) H' e2 cs' ∧ Reps c.G r' F' av acc.reverse ∧ P i it r' F' ∧ acc.length + n ≤ fu ∧
    loopB ob g a c.cal e2 (fun acc cs3 => match stillE cs3 ns with
      | true => revK acc [] fun xs => newL pol xs cs3 K
      | false => false) n it cs' acc = true, ⟨fu, r2, F1, Bl, cs2, it, [], [], BD2, E12, fun _ _ z => z, R2, .nil, wk.ext _ _ _ _ _ _ _ _ hP E12, by simp, h2⟩, ?_⟩
  rintro i n H' ⟨r', F', Bm, cs', it', acc, av, hBm, EE, hr2, R', hav, hP', hlen, hl⟩
  cases n with
  | zero => cases hl
  | succ n =>
    unfold loopB at hl
    rcases wk.step i it' _ _ _ _ _ _ _ _ hP' R'.rc hl with ⟨q1, q2⟩ | ⟨q1, d, itn, q2, q3⟩
    · refine .inl ⟨q2, fun s6 I6 => ?_⟩
      split at q1
      case h_2 => cases q1
      rename_i still
      rw [revK_eq, List.append_nil] at q1
      have HD : H' D = some (.lst av) := R'.rc.subB D _ upd_same
      have nD : ¬ ownB (blkX X scope s3 G fp) (ob ++ capt) D := fun o => by rw [own_free I6 o] at HD; cases HD
      have L := lend_rc (c := c.blkR ob capt) I6 OY R'
      have L : RC c.G c.T noOwn r' F' (lendAt (blkX X scope s3 G fp) (ob ++ capt) s6.heap (upd Bm D (.lst av))) (lendAt (blkX X scope s3 G fp) (ob ++ capt) s6.heap H') cs' := L
      rw [lend_upd nD] at L
      have nBD : lendAt (blkX X scope s3 G fp) (ob ++ capt) s6.heap Bm D = none := by rw [lend_not nD]; exact hBm
      have R1b : RS c X r1 F1 B1 σ (upd H1 D (.lst [])) ds cs1 := RL.mono R1 keep3
      have captY : ∀ p, ownB X capt p → ownB (blkX X scope s3 G fp) (ob ++ capt) p := fun p ⟨i, hi, q⟩ => ⟨i, List.mem_append_right _ hi, by rw [hba G i hi]; exact q⟩
      have Ynone : ∀ p, ownB (blkX X scope s3 G fp) (ob ++ capt) p → G p = none := fun p ⟨i, hi, eb⟩ => by
        obtain ⟨p', e1, e2⟩ := bat i hi
        rw [eb] at e1; cases e1; exact e2
      have same6 : ∀ p obj, ownB X c.bx p → s3.heap.get? p = some obj → (∀ z, ownB (blkX X scope s3 G fp) (ob ++ capt) z → z = p → s6.heap.get? p = some obj) := fun p obj q z1 z oz ez => by
        rw [ez] at oz
        obtain ⟨i, hi, eb⟩ := id oz
        have z4 : p ∉ fp := fun hb => by
          obtain ⟨j, hj, eb2⟩ := q
          obtain ⟨y, _, l⟩ := bAddr_look eb2
          exact (hfp p hb).1.2.2.2.2.1 y p l rfl
        exact I6.base.keep p obj z1 (Ynone p oz) (OY.nf i hi p eb) z4
      have EL : Ext r1 F1 (lendAt X c.bx s3.heap B1) r' F' (lendAt (blkX X scope s3 G fp) (ob ++ capt) s6.heap Bm) := ⟨EE.r, EE.F, fun p o h => by
        by_cases q : ownB X c.bx p
        · rw [lend_own q] at h
          obtain ⟨obj, z1, z2⟩ := Option.map_eq_some_iff.mp h
          by_cases qc : ownB X capt p
          · rw [lend_own (captY p qc), same6 p obj q z1 p (captY p qc) rfl, ← z2]; rfl
          · have qr : ownB X rest p := by
              obtain ⟨i, hi, eb⟩ := q
              rcases (hsp i).mp hi with w | w
              · exact absurd ⟨i, w, eb⟩ qc
              · exact ⟨i, w, eb⟩
            have gs : G p = some (.frz obj (.own 0)) := by rw [← hG, lend_own qr, z1]; rfl
            have nq : ¬ ownB (blkX X scope s3 G fp) (ob ++ capt) p := fun oy => by rw [Ynone p oy] at gs; cases gs
            rw [lend_not nq]
            refine EE.B p o ?_
            rw [← hBl, lend_own qr, z1]; exact congrArg some z2
        · rw [lend_not q] at h
          have z0 := R1.rc.subB p o h
          have qr : ¬ ownB X rest p := fun ⟨i, hi, eb⟩ => q ⟨i, inR i hi, eb⟩
          have gs : G p = some o := by rw [← hG, lend_not qr]; exact keep3 p o z0
          have nq : ¬ ownB (blkX X scope s3 G fp) (ob ++ capt) p := fun oy => by rw [Ynone p oy] at gs; cases gs
          rw [lend_not nq]
          exact EE.B p o (Bl0 p o h)⟩
      have emp : ∀ {csf : Cs}, (∀ m, m ∈ ns → ∀ d, csf.get m ≠ some (.box (some d))) → ∀ i ∈ c.bx, ∀ n, ds[i]? = some (some (.cel n)) → (∀ d, cs1.get n ≠ some (.box (some d))) → ∀ d, csf.get n ≠ some (.box (some d)) := fun {csf} h i hi n e1 e2 => h n (hns i hi n e1 e2)
      have st := stillE_ok still
      have hide6 : ∀ p, hideB X c.bx (lendAt (blkX X scope s3 G fp) (ob ++ capt) s6.heap H') p = none ∨ (ownB (blkX X scope s3 G fp) (ob ++ capt) p ∧ ∃ obj, s6.heap.get? p = some obj ∧ hideB X c.bx (lendAt (blkX X scope s3 G fp) (ob ++ capt) s6.heap H') p = some (.frz obj (.own 0))) ∨
          (¬ ownB X c.bx p ∧ hideB X c.bx (lendAt (blkX X scope s3 G fp) (ob ++ capt) s6.heap H') p = H' p) := fun p => by
        by_cases q : ownB X c.bx p
        · exact .inl (hide_own q)
        · rw [hide_not q]
          by_cases o : ownB (blkX X scope s3 G fp) (ob ++ capt) p
          · rw [lend_own o]
            cases z : s6.heap.get? p with
            | none => exact .inl rfl
            | some obj => exact .inr (.inl ⟨o, obj, rfl, rfl⟩)
          · exact .inr (.inr ⟨q, lend_not o⟩)
      have from5 : ∀ p o, H' p = some o → ¬ ownB X c.bx p → hideB X c.bx (lendAt (blkX X scope s3 G fp) (ob ++ capt) s6.heap H') p = some o := fun p o h nx => by
        have no : ¬ ownB (blkX X scope s3 G fp) (ob ++ capt) p := fun q => by rw [own_free I6 q] at h; cases h
        rw [hide_not nx, lend_not no]; exact h
      have nx3 : ∀ p o, upd H1 D (.lst []) p = some o → ¬ ownB X c.bx p := fun p o h q => by rw [own_free I3 q] at h; cases h
      have toG : ∀ p o, upd H1 D (.lst []) p = some o → G p = some o := fun p o h => by
        rw [← hG, lend_not (fun ⟨i, hi, eb⟩ => nx3 p o h ⟨i, inR i hi, eb⟩)]; exact h
      -- what the frame itself lent stays lent
      have rest5 : ∀ p o, H' p = some o → ownB X c.bx p → (∃ ob', o = .frz ob' (.own 0)) := fun p o h ⟨i, hi, eb⟩ => by
        rcases (hsp i).mp hi with w | w
        · rw [own_free I6 (captY p ⟨i, w, eb⟩)] at h; cases h
        · obtain ⟨y, _, l⟩ := bAddr_look eb
          obtain ⟨v, ob0, c1, _⟩ := I3.cell y p l
          have g1 : G p = some (.frz ob0 (.own 0)) := by rw [← hG, lend_own ⟨i, w, eb⟩, c1]; rfl
          have := I6.base.frzs p ob0 (.own 0) g1
          rw [h] at this
          exact ⟨ob0, Option.some.inj this⟩
      have un : Un (frs X.stack) fp (upd H1 D (.lst [])) (hideB X c.bx (lendAt (blkX X scope s3 G fp) (ob ++ capt) s6.heap H')) s3.heap s6.heap := by
        have u := I6.base
        have restKeep : ∀ p o, s3.heap.get? p = some o → ownB X c.bx p → s6.heap.get? p = some o := fun p o h ⟨i, hi, eb⟩ => by
          rcases (hsp i).mp hi with w | w
          · exact same6 p o ⟨i, hi, eb⟩ h p (captY p ⟨i, w, eb⟩) rfl
          · have g1 : G p = some (.frz o (.own 0)) := by rw [← hG, lend_own ⟨i, w, eb⟩, h]; rfl
            exact (I6.hok p _ (u.frzs p o (.own 0) g1)).1
        have gnone : ∀ p, upd H1 D (.lst []) p = none → ¬ ownB X c.bx p → G p = none := fun p h nx => by
          rw [← hG, lend_not (fun ⟨i, hi, eb⟩ => nx ⟨i, inR i hi, eb⟩)]; exact h
        refine ⟨fun p o h1 h2 h3 h4 => ?_, fun p o h1 h2 h3 h4 => ?_, fun p o h1 h2 h3 => ?_, u.there, fun p xs h => from5 _ _ (u.tups p xs (toG _ _ h)) (nx3 _ _ h), fun p o w h => from5 _ _ (u.frzs p o w (toG _ _ h)) (nx3 _ _ h), fun p ps h => let ⟨more, z⟩ := u.tbls p ps (toG _ _ h); ⟨more, from5 _ _ z (nx3 _ _ h)⟩⟩
        · by_cases q : ownB X c.bx p
          · exact restKeep p o h1 q
          · exact u.keep p o h1 (gnone p h2 q) h3 h4
        · by_cases q : ownB X c.bx p
          · exact ⟨o.slots, restKeep p o h1 q⟩
          · exact u.slot p o h1 (gnone p h2 q) h3 h4
        · by_cases q : ownB X c.bx p
          · exact hide_own q
          · have z := u.free p o h1 (gnone p h2 q) h3
            rcases hide6 p with w | ⟨⟨i, hi, eb⟩, obj, q1, q2⟩ | ⟨_, w⟩
            · exact w
            · rcases List.mem_append.mp hi with w | w
              · obtain ⟨y, e1, e2⟩ := kdsB_ok hfn i w
                obtain ⟨y', e3, e4⟩ := bAddr_look eb
                have e3 : X.N[i]? = some y' := e3
                rw [e1] at e3; cases e3
                have := I5.ok.cab y p (by show (scope.names.lookup y == some NameKind.cell) = true; rw [e2]; rfl) e4
                exact absurd (Nat.lt_of_lt_of_le (Heap.lt_size h1) this) (Nat.lt_irrefl _)
              · exact absurd ⟨i, inC i w, by rw [← hba G i w]; exact eb⟩ q
            · rw [w]; exact z
      have hk : HOk X.prog X.w (hideB X c.bx (lendAt (blkX X scope s3 G fp) (ob ++ capt) s6.heap H')) s6.heap := fun p o h => by
        rcases hide6 p with q | ⟨_, obj, q1, q2⟩ | ⟨_, q⟩
        · rw [q] at h; cases h
        · rw [q2] at h; cases h
          exact ⟨q1, obj, q1⟩
        · rw [q] at h
          exact (I6.hok p o h).stay (fun _ _ _ z => z) (fun b z => from5 _ _ z fun qo => by obtain ⟨ob', e⟩ := rest5 _ _ z qo; cases e) fun b xs z => from5 _ _ z fun qo => by obtain ⟨ob', e⟩ := rest5 _ _ z qo; cases e
      have nC : hideB X c.bx (lendAt (blkX X scope s3 G fp) (ob ++ capt) s6.heap H') s3.heap.objs.size = none := by
        have nq : ¬ ownB (blkX X scope s3 G fp) (ob ++ capt) s3.heap.objs.size := fun ⟨i, hi, eb⟩ => by
          obtain ⟨y, _, l⟩ := bAddr_look eb
          exact I6.cne y _ l rfl
        by_cases q : ownB X c.bx s3.heap.objs.size
        · exact hide_own q
        · rw [hide_not q, lend_not nq]
          exact I6.free
      refine ⟨_, un, hk, nC, fun _ => ?_⟩
      cases pol with
      | false =>
        have L2_ := L.accF nBD
        have Ef : Ext r' F' (lendAt (blkX X scope s3 G fp) (ob ++ capt) s6.heap Bm) r' (upd F' D (.lst av)) (lendAt (blkX X scope s3 G fp) (ob ++ capt) s6.heap Bm) := ext_newF (L.dj D _ upd_same)
        have EF := EL.trans Ef
        exact kk _ _ _ _ _ _ _ (E1.trans (back_ext I3 R1b EF)) (back_rl I3 bd.own R1b EF L2_ (emp st)) (.lst upd_same (hav.ext Ef)) q1
      | true =>
        unfold newL at q1
        dsimp only at q1
        rw [fNat_eq] at q1
        obtain ⟨L2_, Ef⟩ := L.accC nBD hav
        have EF := EL.trans Ef
        exact kk _ _ _ _ _ _ _ (E1.trans (back_ext I3 R1b EF)) (back_rl I3 bd.own R1b EF L2_ (emp fun m hm d z => by
          rw [get_cons] at z
          by_cases e : m = cs'.nx
          · rw [if_pos e] at z; cases z
          · rw [if_neg e] at z; exact st m hm d z)) (.cel (updR_same _ _)) q1
    · refine .inr ⟨q1, fun H'' => ∃ r5 F5 Bm cs5 acc av, Bm D = none ∧ Ext r1 F1 Bl r5 F5 Bm ∧ (∀ n a, r2 n = some a → r5 n = some a) ∧ RL c.G c.T (blkX X scope s3 G fp) (ob ++ capt) r5 F5 (upd Bm D (.lst av)) (wipe σ vs) H'' e2 cs5 ∧ Reps c.G r5 F5 av acc.reverse ∧ P (i + 1) itn r5 F5 ∧ acc.length + n ≤ fu ∧
        loopB ob g a c.cal e2 (fun acc cs3 => match stillE cs3 ns with
          | true => revK acc [] fun xs => newL pol xs cs3 K
          | false => false) n itn cs5 acc = true, fun H'' ⟨r5, F5, Bm5, cs5, acc5, av5, z⟩ => ⟨n, Nat.lt_succ_self _, r5, F5, Bm5, cs5, itn, acc5, av5, z⟩, fun v u H3 pp s7 I7 ru hy => ?_⟩
      obtain ⟨F3, hst, hv, hP3⟩ := q3 v H3 hy
      obtain ⟨R3, E3⟩ := R'.step hst
      refine wpAny_mono (pg.run pp s7 (wipe σ vs) H3 v u (fun σ1 H4 => wipe σ1 vs = wipe (wipe σ vs) vs ∧ ∃ r4 F4 B4 ds4 cs4, Ext r' F3 (upd Bm D (.lst av)) r4 F4 B4 ∧ RS (c.blkR ob capt) (blkX X scope s3 G fp) r4 F4 B4 σ1 H4 ds4 cs4 ∧
        a c.cal ds4 cs4 (fun y cs3 => clrB ob e2 cs3 fun cs4 => loopB ob g a c.cal e2 (fun acc cs3 => match stillE cs3 ns with
          | true => revK acc [] fun xs => newL pol xs cs3 K
          | false => false) n itn cs4 (y :: acc)) (fun _ _ _ => false) = true) I7 ru ⟨r', F3, _, e2, cs', d, _, q2, R3, hv, fun r4 F4 B4 H4 σ4 ds4 cs4 E4 R4 hw4 h4 => ⟨hw4, r4, F4, B4, ds4, cs4, E4, R4, h4⟩⟩) (fun _ t ⟨σ1, H4, I8, hw, r4, F4, B4, ds4, cs4, E4, R4, h4⟩ => ⟨σ1, H4, I8, hw, ?_⟩) fun _ _ z => z
      have hw1 : ∀ i ∈ ob ++ capt, i ∉ ob → (wipe σ vs)[i]? = σ1[i]? := fun i hi no => by
        have hc : i ∈ capt := (List.mem_append.mp hi).resolve_left no
        rw [← ww, ← hw, wipe_get (dis i (inC i hc))]
      refine wpAny_mono (pe.run pp t σ1 H4 (fun y H5 => ∃ acc', H5 D = some (.lst acc') ∧ acc'.length < sizeLine ∧ ∃ r5 F5 Bm cs5 acc av, Bm D = none ∧ Ext r1 F1 Bl r5 F5 Bm ∧ (∀ n a, r2 n = some a → r5 n = some a) ∧ RL c.G c.T (blkX X scope s3 G fp) (ob ++ capt) r5 F5 (upd Bm D (.lst av)) (wipe σ vs) (upd H5 D (.lst (acc' ++ [y]))) e2 cs5 ∧ Reps c.G r5 F5 av acc.reverse ∧ P (i + 1) itn r5 F5 ∧ acc.length + n ≤ fu ∧
        loopB ob g a c.cal e2 (fun acc cs3 => match stillE cs3 ns with
          | true => revK acc [] fun xs => newL pol xs cs3 K
          | false => false) n itn cs5 acc = true) I8 ⟨r4, F4, B4, ds4, cs4, _, _, h4, R4, fun r5 F5 B5 H5 y yd cs5 E5 R5 hy5 h5 => ?_, Xok.no⟩) (fun z t2 ⟨y, H5, I9, ry, acc', z1, z2, z3⟩ => ⟨y, H5, acc', I9, ry, z1, z2, z3⟩) fun _ _ z => z
      have E35 := E4.trans E5
      have hB5 : B5 D = some (.lst av) := E35.B D _ upd_same
      obtain ⟨cs6, R6, h6⟩ := RL.turnEnd (ob := ob) R5 R2 (fun n p z => E35.r _ _ (hr2 n p z)) (fun p o z => E35.F _ _ (E3.F _ _ (EE.F p o z))) (fun i hi => List.mem_append_left _ hi) hw1 h5
      refine ⟨av, R5.rc.subB _ _ hB5, by rw [sizeLine_eq, hav.length, List.length_reverse]; omega, r5, F5, fun b => if b = D then none else B5 b, cs6, yd :: acc, av ++ [y], if_pos rfl, ⟨fun m p z => E35.r _ _ (EE.r _ _ z), fun p o z => E35.F _ _ (E3.F _ _ (EE.F p o z)), fun b o z => ?_⟩, fun n p z => E35.r _ _ (hr2 n p z), ?_, ?_, wk.ext _ _ _ _ _ _ _ _ hP3 E35, by simp; omega, h6⟩
      · have nb : b ≠ D := ne_of_none z BD2
        show (if b = D then none else B5 b) = some o
        rw [if_neg nb]
        exact E35.B b o (by rw [upd_ne nb]; exact EE.B b o z)
      · have eB : upd (fun b => if b = D then none else B5 b) D (.lst (av ++ [y])) = upd B5 D (.lst (av ++ [y])) := by
          funext b
          unfold upd
          by_cases e : b = D
          · rw [if_pos e, if_pos e]
          · rw [if_neg e, if_neg e]; exact if_neg e
        rw [eB]
        exact ⟨R6.rc.setAcc hB5, R6.slot, R6.boxs, R6.binj, R6.len, R6.kf⟩
      · rw [List.reverse_cons]
        exact Reps.append (.cons hy5 .nil) ((hav.ext E3).ext E35)
end
end Ev

set_option Elab.async false
set_option linter.all false
set_option maxRecDepth 100000
set_option maxHeartbeats 4000000
/-! Ev34: a call whose arguments end it; names of the module; sum -/
namespace Ev
open PySem PySem.Spec PyProof.Rows L2 LamX NdefX
section
variable {c : Cxt} {X : Cx} {e : Expr} {es : List Expr} {pos p : Pos} {m : ME} {ma : MA} {y : Str}
/-- f(e, ..): e, .. raises always -/
def mCallX (a : MA) : ME := fun f e cs _ x => a f e cs (fun _ _ => false) x
theorem xe_callX {f : Addr} (hg : Gl X y) (hm : X.mg y = some (.ref f)) (hk : PySem.W.keepIn X.K (.ref f) = true) (ha : XA c X (e :: es) ma)
    (hdb : (y == ("__debug__" : Str)) = false) (he : starEach (e :: es) X.env = (false, eval e X.env) :: starEach es X.env) (hpl : (backTo pos (starEach es X.env)).any (·.1) = false) :
    XE c X (.Call (.Name y p) (e :: es) [] pos) (mCallX ma) := ⟨fun pins s σ H Q I ⟨r, F, B, ds, cs, K, x, hr, R, k, xk⟩ => by
  refine wpAny_Call_Name_kw (ld_glob I hg hm ?_ hdb)
  refine PySem.W.callWith_K (h₀ := X.base) I.ok.mod.kin hk (thn (ha.run pos pins s σ H (fun _ _ => False) I (tA.of hr R (fun _ _ _ _ _ _ _ _ _ _ h => nomatch h) xk)) fun us s1 ⟨vs, H1, I1, _, q⟩ => q.elim) he hpl⟩
theorem xe_bltX {id : String} (hg : Gl X y) (hm : X.mg y = none) (hv : bootBuiltins y = some (.builtin id)) (ha : XA c X (e :: es) ma) (hn : y ≠ "__name__") (hdb : (y == ("__debug__" : Str)) = false)
    (he : starEach (e :: es) X.env = (false, eval e X.env) :: starEach es X.env) (hpl : (backTo pos (starEach es X.env)).any (·.1) = false) :
    XE c X (.Call (.Name y p) (e :: es) [] pos) (mCallX ma) :=
  pe_imp (pe_callB (r := fun _ _ _ => False) (fun _ _ _ _ _ _ _ _ _ h => h.elim) hg hm hv ha hn hdb he hpl) fun σ H Q ⟨r, F, B, ds, cs, K, x, hr, R, k, xk⟩ => tA.of hr R (fun _ _ _ _ _ _ _ _ _ _ h => nomatch h) xk
end
end Ev

set_option Elab.async false
set_option linter.all false
set_option maxRecDepth 100000
set_option maxHeartbeats 4000000
/-! Ev35: names of the module that hold an int or a tuple of ints -/
namespace Ev
open PySem PySem.Spec PyProof.Rows L2 LamX NdefX
def ktOf (K : PySem.W.Frag) : List (Str × List Int) → Addr → Option (List Int)
  | [], _ => none
  | (x, ns) :: r, a => if He.tupB K x (ns.map He.Dv.int) = true ∧ a = He.ga K x then some ns else ktOf K r a
theorem dv_ints (K : PySem.W.Frag) (ns : List Int) : (ns.map He.Dv.int).map (He.Dv.v K) = ns.map V.int := by rw [List.map_map]; rfl
theorem ktOf_ok (K : PySem.W.Frag) : ∀ (tab : List (Str × List Int)) (a : Addr) (ns : List Int), ktOf K tab a = some ns → ∀ H : Hp, SqT K H a (ns.map V.int)
  | [], _, _, h => nomatch h
  | (x, ms) :: r, a, ns, h => by
    unfold ktOf at h
    split at h
    · rename_i q
      have e := Option.some.inj h
      subst e
      intro H
      rw [q.2, ← dv_ints]
      exact He.tupB_ok q.1 H
    · exact ktOf_ok K r a ns h
theorem ktOf_ty (K : PySem.W.Frag) (tab : List (Str × List Int)) (a : Addr) (ns : List Int) (h : ktOf K tab a = some ns) : ∃ o, K.lookup a = some o ∧ o.cls = .type "tuple" := by
  rcases ktOf_ok K tab a ns h (fun _ => none) with z | ⟨o, its, n, e1, e2, _⟩
  · rcases z with z | ⟨o, z⟩ <;> cases z
  · exact ⟨o, e1, e2⟩
theorem ktOf_at {K : PySem.W.Frag} {x : Str} {ns : List Int} {r : List (Str × List Int)} (h : ktB K ((x, ns) :: r) = true) : ktOf K ((x, ns) :: r) (He.ga K x) = some ns := by
  unfold ktB at h
  rw [List.all_cons] at h
  unfold ktOf
  rw [if_pos ⟨(Bool.and_eq_true_iff.mp h).1, rfl⟩]
section
variable {c : Cxt} {X : Cx} {pos : Pos} {y : Str}
theorem xe_kt {a : Addr} {ns : List Int} (hg : Gl X y) (hm : X.mg y = some (.ref a)) (hk : c.G.kt a = some ns) (hd : (y == ("__debug__" : Str)) = false) : XE c X (.Name y pos) (mC (.tup (ns.map D.int))) := xe_C (C8.pe_gc (v := .ref a) hg ⟨_, hm, rfl⟩ hd) fun r F => .ktp hk
theorem xe_gi {i : Int} (hg : Gl X y) (h : ∃ t, X.mg y = some (.int i t)) (hd : (y == ("__debug__" : Str)) = false) : XE c X (.Name y pos) (mC (.int i)) := by
  obtain ⟨t, h⟩ := h
  exact xe_C (C8.pe_gc (v := .int i) hg ⟨_, h, t, rfl⟩ hd) fun r F => .int i
end
end Ev

set_option Elab.async false
set_option linter.all false
set_option maxRecDepth 100000
set_option maxHeartbeats 4000000
/-! Ev36: range down, xs[::-1], sum, list of a dict with tuple keys -/
namespace Ev
open PySem PySem.Spec PyProof.Rows L2 LamX NdefX
section
variable {c : Cxt} {X : Cx} {e a b d tg : Expr} {es : List Expr} {pos p : Pos} {r : Nat → Option Addr} {F B H H' : Hp} {σ : L2.St} {ds : Env} {cs : Cs} {K : KE} {x : KX} {Q : VK} {m ma mb md : ME} {mr : MA} {o : HO} {k : Nat}
/-! ### range(i, j, -1) -/
def dnL : Int → Nat → List D
  | _, 0 => []
  | i, n + 1 => .int i :: dnL (i - 1) n
def dnK : Int → Nat → (List D → Bool) → Bool
  | _, 0, k => k []
  | i, n + 1, k => fInt (i - 1) fun j => dnK j n fun r => k (.int i :: r)
theorem dnK_eq : ∀ (n : Nat) (i : Int) (k : List D → Bool), dnK i n k = k (dnL i n)
  | 0, _, _ => rfl
  | n + 1, i, k => by
    unfold dnK dnL
    rw [fInt_eq]
    exact dnK_eq n _ _
theorem wk_dn (lo : Int) (n : Nat) : Wk c (L2.Itc lo (-1) n) (fun i it _ _ => i ≤ n ∧ it = .fz (dnL (lo - i) (n - i))) := by
  refine ⟨fun i it r F B H cs s g own hP R hm => ?_, fun i it r F B r' F' B' hP E => hP⟩
  obtain ⟨h1, h2⟩ := hP
  subst h2
  cases q : n - i with
  | zero =>
    rw [q] at hm
    exact .inl ⟨hm, by show n ≤ i; omega⟩
  | succ j =>
    rw [q] at hm
    refine .inr ⟨by show i < n; omega, _, _, hm, fun x H' hy => ?_⟩
    obtain ⟨e1, e2⟩ := hy
    subst e2
    refine ⟨F, .inl ⟨e1, rfl⟩, ?_, by omega, by rw [show n - (i + 1) = j from by omega, show lo - (↑(i + 1) : Int) = lo - ↑i - 1 from by omega]⟩
    rw [show lo + (i : Int) * (-1) = lo - i from by omega]
    exact .int _
def iRange3 (a : MA) : MI := fun f e cs k x => a f e cs (fun us cs1 => match us with
  | [.int i, .int j, .int (.negSucc 0)] => (match inR i && inR j with
    | true => fNat (i - j).toNat fun n => dnK i n fun l => k (.fz l) cs1
    | false => false)
  | _ => false) x
theorem xi_range3 {e2 e3 : Expr} {ma : MA} (hg : Gl X "range") (hm : X.mg "range" = none) (ha : XA c X [e, e2, e3] ma) (hs : starEach [e, e2, e3] X.env = (false, eval e X.env) :: starEach [e2, e3] X.env) (hpl : (backTo pos (starEach [e2, e3] X.env)).any (·.1) = false) :
    XI c X tg (.Call (.Name "range" p) [e, e2, e3] [] pos) (iRange3 ma) :=
  pi_imp (pi_range3 hg hm ha hs hpl) fun σ H Rr ⟨r, F, B, ds, cs, K, x, hm, R, k, xk⟩ => by
    refine tA.of hm R (fun r1 F1 B1 H1 vs us cs1 E1 R1 hvs h1 => ?_) xk
    split at h1
    · split at h1
      · rename_i q
        obtain ⟨qa, qb⟩ := Bool.and_eq_true_iff.mp q
        rw [fNat_eq, dnK_eq] at h1
        cases hvs with
        | cons hv t => cases t with
          | cons hv2 t => cases t with
            | cons hv3 t =>
              cases t
              obtain ⟨q1, q2⟩ := inR_ok qa
              obtain ⟨q3, q4⟩ := inR_ok qb
              have e := hv.int_inv
              subst e
              have e := hv2.int_inv
              subst e
              have e := hv3.int_inv
              subst e
              exact ⟨_, _, _, _, rfl, RgC.neg q1 q2 q3 q4, k _ _ _ _ _ _ _ _ E1 R1 (wk_dn _ _) ⟨Nat.zero_le _, by simp⟩ h1⟩
      · cases h1
    · cases h1
/-! ### xs[::-1] -/
theorem Reps.snocR {G : Gs} {vs : List V} {xs : List D} {v : V} {d : D} (h : Reps G r F vs xs) (hv : Rep G r F v d) : Reps G r F (vs ++ [v]) (xs ++ [d]) := Reps.append (.cons hv .nil) h
theorem reps_rev {G : Gs} : ∀ {vs : List V} {xs : List D}, Reps G r F vs xs → Reps G r F vs.reverse xs.reverse
  | [], [], _ => .nil
  | v :: vs, d :: xs, .cons h t => by
    rw [List.reverse_cons, List.reverse_cons]
    exact (reps_rev t).snocR h
def mRev (pol : Bool) (a : ME) : ME := fun f e cs k x => a f e cs (fun d cs1 => listD d cs1 fun xs => fList xs.reverse fun ys => newL pol ys cs1 k) x
theorem xe_rev (pol : Bool) {j : Nat} {p1 p2 p3 : Pos} (ha : XE c X e m) : XE c X (.Subscript e (.Slice none none (some (.UnaryOp .USub (.Constant (.int 1) j p1) p2)) p3) pos) (mRev pol m) :=
  XE.mk (pe_revL ha) fun r F B σ H ds cs K x Q hm R k xk => by
    refine tE.of hm R (fun r1 F1 B1 H1 v d cs1 E1 R1 hv h1 => ?_) xk
    obtain ⟨a, vs, xs, ev, hs, h2, h3⟩ := listD_ok R1.rc hv h1
    subst ev
    rw [fList_eq] at h3
    exact ⟨a, vs, rfl, SqL.of h2, newL_ok R1 (k.ext E1) (reps_rev hs) h3⟩
/-! ### sum(xs) of ints -/
def sumD : List D → Int → (Int → Bool) → Bool
  | [], s, k => k s
  | .int i :: r, s, k => fInt (s + i) fun z => sumD r z k
  | _ :: _, _, _ => false
theorem sumD_ok {G : Gs} : ∀ {vs : List V} {xs : List D} {s : Int} {k : Int → Bool}, Reps G r F vs xs → sumD xs s k = true → ∃ ns : List Int, vs = ns.map V.int ∧ k (s + ns.sum) = true
  | [], [], s, k, _, h => ⟨[], rfl, by simpa [sumD] using h⟩
  | v :: vs, d :: xs, s, k, .cons hv t, h => by
    cases d <;> first | (simp [sumD] at h; done) | skip
    rename_i i
    have e := hv.int_inv
    subst e
    unfold sumD at h
    rw [fInt_eq] at h
    obtain ⟨ns, e1, e2⟩ := sumD_ok t h
    exact ⟨i :: ns, by rw [e1]; rfl, by rw [List.sum_cons, ← Int.add_assoc]; exact e2⟩
def mSum (a : ME) : ME := fun f e cs k x => a f e cs (fun d cs1 => listD d cs1 fun xs => sumD xs 0 fun s => k (.int s) cs1) x
theorem xe_sum (hc : X.calm = true) (hg : Gl X "sum") (hm : X.mg "sum" = none) (ha : XE c X e m) (hv : bootBuiltins "sum" = some (.builtin "sum") := by decide +kernel) (h1 : starEach [e] X.env = (false, eval e X.env) :: starEach [] X.env := by rfl) (hpl : (backTo pos (starEach [] X.env)).any (·.1) = false := by rfl) :
    XE c X (.Call (.Name "sum" p) [e] [] pos) (mSum m) :=
  XE.mk (pe_callB (cr_sum hc) hg hm hv (pa_cons ha pa_nil h1) (by decide) (by decide) h1 hpl) fun r F B σ H ds cs K x Q hm R k xk => by
    refine tE.of hm R (fun r1 F1 B1 H1 v d cs1 E1 R1 hv h1 => ?_) xk
    obtain ⟨a, vs, xs, ev, hs, h2, h3⟩ := listD_ok R1.rc hv h1
    obtain ⟨ns, e1, e2⟩ := sumD_ok hs h3
    subst ev e1
    rw [Int.zero_add] at e2
    exact ⟨a, ns, rfl, SqL.of h2, fun _ => k _ _ _ _ _ _ _ E1 R1 (.int _) e2⟩
/-! ### list(d), d's keys tuples -/
theorem KDk.reps {G : Gs} {xs : List (NestedKey × Addr)} {ks : List D} (h : KDk G r F xs ks) : Reps G r F (xs.map fun x => V.ref x.2) ks := by
  induction h with
  | nil => exact .nil
  | cons h t ih => exact .cons h.2.2 ih
theorem call_list_KD (hc : X.calm = true) : CallR X (.type "list") (fun xs H Q => ∃ (a : Addr) (ys : List (NestedKey × Addr)), xs = [V.ref a] ∧ H a = some (KDo X.w a ys) ∧ ys.length ≤ sizeLine ∧ ∀ p, H p = none → Q (.ref p) (upd H p (.lst (ys.map fun x => V.ref x.2)))) := by
  intro pins s σ H xs us Q I r h
  obtain ⟨d, ys, rfl, hd, hz, q⟩ := h
  obtain ⟨u, rfl, rx⟩ := r.one
  cases rx
  obtain ⟨⟨o, es, ep, ks, ho, hx, hdt, he, hn, _⟩, hs⟩ := kd_at I hd
  have l0 : ys.length = ks.length := by rw [← hn, kdN_len]
  have l1 : es.size = ks.length := by rw [← Array.length_toList, he, kdEs, List.length_map]
  refine PySem.W.kdl_call (kdl_raw hs hx hdt) (I.ok.hd hc) ho (by omega) fun h' tk acc' c' kp e it => ?_
  have ea : acc'.toList = ks.map fun x => Value.ref x.2.1 := by
    have hl : acc'.toList.length = ks.length := by rw [Array.length_toList, it.1]; exact l1
    apply List.ext_getElem?
    intro j
    rw [List.getElem?_map]
    cases hj : acc'.toList[j]? with
    | none =>
      have h1 := List.getElem?_eq_none_iff.mp hj
      rw [List.getElem?_eq_none (by omega)]
      all_goals rfl
    | some v =>
      obtain ⟨en, hen, hv⟩ := it.2 j v (by rw [← Array.getElem?_toList]; exact hj)
      rw [← Array.getElem?_toList, he, kdEs, List.getElem?_map] at hen
      cases hb : ks[j]? with
      | none => rw [hb] at hen; cases hen
      | some b =>
        rw [hb] at hen
        have e2 := Option.some.inj hen
        rw [hv, ← e2]
        all_goals rfl
  have eb : acc'.toList = (ks.map fun x => x.2.1).map Value.ref := by rw [ea, List.map_map]; all_goals rfl
  have e3 : (ys.map fun x => V.ref x.2) = (ks.map fun x => x.2.1).map V.ref := by rw [← hn, kdN, List.map_map, List.map_map]; rfl
  refine ⟨.ref s.heap.objs.size, _, I.laid (t' := tk) (o := .lst (ys.map fun x => V.ref x.2)) kp (Nat.le_refl _) ?_, rfl, q _ (I.hok.fresh (Nat.le_refl _))⟩
  refine ⟨by rw [List.length_map]; exact hz, acc'.toList, c', ?_, by rw [Array.toArray_toList]; exact e⟩
  rw [e3, eb]
  exact vals_refs _
def mLstK (pol : Bool) (a : ME) : ME := fun f e cs k x => a f e cs (fun d cs1 => match d with
  | .cel n => getC cs1.l n fun q => (match q with
    | .kd ks => (match fits ks with
      | true => newL pol ks cs1 k
      | false => false)
    | _ => rdSeq d cs1 fun _ xs => newL pol xs cs1 k)
  | _ => rdSeq d cs1 fun _ xs => newL pol xs cs1 k) x
theorem xe_lstK (pol : Bool) (hw : c.G.w = X.w) (hc : X.calm = true) (hg : Gl X "list") (hm : X.mg "list" = none) (ha : XE c X e m) (h1 : starEach [e] X.env = (false, eval e X.env) :: starEach [] X.env := by rfl) (hpl : (backTo pos (starEach [] X.env)).any (·.1) = false := by rfl) :
    XE c X (.Call (.Name "list" p) [e] [] pos) (mLstK pol m) :=
  XE.mk (pe_callTy (call_list_of.or (call_list_KD hc)) hg hm PyProof.Rows.boot_list (pa_cons ha pa_nil h1) (by decide) (by decide) h1 hpl) fun r F B σ H ds cs K x Q hm R k xk => by
    refine tE.of hm R (fun r1 F1 B1 H1 v d cs1 E1 R1 hv h1 => ?_) xk
    have old : (rdSeq d cs1 fun _ xs => newL pol xs cs1 K) = true → ((∃ p ys, [v] = [V.ref p] ∧ (SqL X.K H1 p ys ∨ SqT X.K H1 p ys) ∧ ∀ l, H1 l = none → ownQ X Q (.ref l) (upd H1 l (.lst ys))) ∨ (∃ (a : Addr) (ys : List (NestedKey × Addr)), [v] = [V.ref a] ∧ H1 a = some (KDo X.w a ys) ∧ ys.length ≤ sizeLine ∧ ∀ p, H1 p = none → ownQ X Q (.ref p) (upd H1 p (.lst (ys.map fun x => V.ref x.2))))) := fun h1 => by
      obtain ⟨a, vs, xs, ev, hs, h2⟩ := rdSeq_ok R1.rc hv h1
      subst ev
      rcases h2 with ⟨h2, h3⟩ | ⟨h2, h3⟩
      · exact .inl ⟨a, vs, rfl, .inl (SqL.of h3), newL_ok R1 (k.ext E1) hs h2⟩
      · exact .inl ⟨a, vs, rfl, .inr (h3.sq R1.kf), newL_ok R1 (k.ext E1) hs h2⟩
    split at h1
    · rename_i n
      obtain ⟨q, q1, q2⟩ := getC_true h1
      split at q2
      · rename_i ks _
        split at q2
        · rename_i qf
          have fl := Nat.le_of_ble_eq_true qf
          obtain ⟨a, xs, z1, z2, z3, z4⟩ := R1.rc.cell _ _ q1
          cases hv with
          | cel hr =>
            rw [hr] at z1; cases z1
            exact .inr ⟨a, xs, rfl, by rw [← hw]; exact z3, by rw [z4.len, sizeLine_eq]; omega, newL_ok R1 (k.ext E1) z4.reps q2⟩
        · cases q2
      · exact old q2
    · exact old h1
end
end Ev

set_option Elab.async false
set_option linter.all false
set_option maxRecDepth 100000
set_option maxHeartbeats 4000000
/-! Ev37: x[i] = v on lists, [*a, ..], differences of bools -/
namespace Ev
open PySem PySem.Spec PyProof.Rows L2 LamX NdefX
section
variable {c : Cxt} {X : Cx} {e a b d tg : Expr} {es : List Expr} {pos p : Pos} {r : Nat → Option Addr} {F B H H' : Hp} {σ : L2.St} {ds : Env} {cs : Cs} {K : KE} {x : KX} {Q : VK} {m ma mb md : ME} {mr : MA} {o : HO} {k : Nat}
/-! ### differences -/
theorem op_sub_bb : OpR X (binaryOp .Sub) (fun x y H Q => ∃ i k, x = .bl i ∧ y = .bl k ∧ Q (.int (b2i i - b2i k)) H) := by
  intro pins s σ H x y v u Q I rx ry h
  obtain ⟨i, k, rfl, rfl, q⟩ := h
  cases rx
  cases ry
  exact PyProof.Rows.sub_bool ⟨.int (b2i i - b2i k), H, I.tok _, ⟨_, rfl⟩, q⟩
def oSub : O2 := fun u v cs k => match u, v with
  | .int i, .int j => fInt (i - j) fun z => k (.int z) cs
  | .bl a, .bl b => (match a, b with
    | true, false => k (.int 1) cs
    | false, true => k (.int (-1)) cs
    | _, _ => k (.int 0) cs)
  | _, _ => false
theorem oSub_ok : O2ok c X (fun x y H Q => (rI0 fun i j => .int (i - j)) x y H Q ∨ (∃ i k, x = .bl i ∧ y = .bl k ∧ Q (.int (b2i i - b2i k)) H)) oSub := by
  intro r F B σ H ds cs K Q v w d e R hv hw h k
  unfold oSub at h
  split at h
  · have ev := hv.int_inv
    have ew := hw.int_inv
    subst ev ew
    rw [fInt_eq] at h
    exact .inl ⟨_, _, rfl, rfl, fun _ => k _ _ _ _ _ _ _ (Ext.refl _ _ _) R (.int _) h⟩
  · rename_i a b
    cases hv
    cases hw
    refine .inr ⟨a, b, rfl, rfl, fun _ => ?_⟩
    cases a <;> cases b <;> exact k _ _ _ _ _ _ _ (Ext.refl _ _ _) R (.int _) h
  · cases h
theorem xe_sub2 (ha : XE c X a ma) (hb : XE c X b mb) : XE c X (.BinOp a .Sub b pos) (mOp oSub ma mb) := xe_op (op_sub.or op_sub_bb) oSub_ok ha hb
/-! ### [*a, ..] -/
def mStar (a : ME) (b : MA) : MA := fun f e cs k x => a f e cs (fun d cs1 => rdSeq d cs1 fun _ xs => b f e cs1 (fun ys cs2 => fList (xs ++ ys) fun zs => k zs cs2) x) x
theorem xa_star (ha : XE c X e ma) (hr : XA c X es mr) (hs : starEach (.Starred e p :: es) X.env = (true, eval e X.env) :: starEach es X.env) : XA c X (.Starred e p :: es) (mStar ma mr) :=
  pa_imp (StX.pa_star ha hr hs) fun σ H Q ⟨r, F, B, ds, cs, K, x, hm, R, k, xk⟩ => by
    refine tE.of hm R (fun r1 F1 B1 H1 v d cs1 E1 R1 hv h1 => ?_) xk
    obtain ⟨a, vs, xs, ev, hs, h2⟩ := rdSeq_ok R1.rc hv h1
    subst ev
    have fin : ∀ {t : Bool}, (mr c.cal ds cs1 (fun ys cs2 => fList (xs ++ ys) fun zs => K zs cs2) x) = true → tA c X mr σ H1 (fun ys H2 => Q (vs ++ ys) H2) := fun {t} h2 => by
      refine tA.of h2 R1 (fun r2 F2 B2 H2 ws us cs2 E2 R2 hws h3 => ?_) (xk.ext E1)
      rw [fList_eq] at h3
      exact k _ _ _ _ _ _ _ (E1.trans E2) R2 (Reps.append hws (hs.ext E2)) h3
    rcases h2 with ⟨h2, h3⟩ | ⟨h2, h3⟩
    · exact ⟨a, vs, rfl, .inr (SqL.of h3), fin (t := true) h2⟩
    · exact ⟨a, vs, rfl, .inl (h3.sq R1.kf), fin (t := true) h2⟩
/-! ### x[i] = v -/
def ixK (xs : List D) (i : Int) (k : Nat → Bool) : Bool := match i with
  | .ofNat n => lenN xs 0 fun m => (match Nat.ble (n + 1) m with
    | true => k n
    | false => false)
  | .negSucc n => lenN xs 0 fun m => (match Nat.ble (n + 1) m with
    | true => fNat (m - (n + 1)) k
    | false => false)
theorem ixK_ok {xs : List D} {i : Int} {k : Nat → Bool} (h : ixK xs i k = true) : ∃ j, ixN xs.length i = some j ∧ k j = true := by
  unfold ixK at h
  split at h
  · rename_i n
    rw [lenN_eq, Nat.zero_add] at h
    split at h
    · rename_i q
      have q := Nat.le_of_ble_eq_true q
      refine ⟨n, ?_, h⟩
      unfold ixN
      rw [if_pos (show (0 : Int) ≤ Int.ofNat n from Int.natCast_nonneg n), if_pos (show (Int.ofNat n) < (xs.length : Int) by show (n : Int) < _; omega)]
      rfl
    · cases h
  · rename_i n
    rw [lenN_eq, Nat.zero_add] at h
    split at h
    · rename_i q
      have q := Nat.le_of_ble_eq_true q
      rw [fNat_eq] at h
      refine ⟨xs.length - (n + 1), ?_, h⟩
      unfold ixN
      have e : (Int.negSucc n) = -((n : Int) + 1) := Int.negSucc_eq n
      rw [e, if_neg (by omega), if_pos (by omega)]
      congr 1
      omega
    · cases h
def setK : Nat → List D → D → (List D → Bool) → Bool
  | _, [], _, k => k []
  | 0, _ :: r, v, k => k (v :: r)
  | n + 1, x :: r, v, k => setK n r v fun r' => k (x :: r')
theorem setK_eq : ∀ (n : Nat) (xs : List D) (v : D) (k : List D → Bool), setK n xs v k = k (xs.set n v)
  | _, [], _, _ => by simp [setK]
  | 0, _ :: _, _, _ => rfl
  | n + 1, x :: r, v, k => by
    unfold setK
    rw [setK_eq n r]
    rfl
theorem PSet.or {t t' : TSet} (h : PSet X t) (h' : PSet X t') : PSet X (fun o i v H Q => t o i v H Q ∨ t' o i v H Q) := by
  intro pins s σ H o i v ov iv u Q I ro ri rv q
  rcases q with q | q
  · exact h pins s σ H o i v ov iv u Q I ro ri rv q
  · exact h' pins s σ H o i v ov iv u Q I ro ri rv q
def gSetA (mo mi : ME) : MG := fun v f e cs k x => mo f e cs (fun u cs1 => mi f e cs1 (fun d cs2 => match u with
  | .cel n => getC cs2.l n fun q => (match q with
    | .kd ks => (match d with
      | .tup us => (match okK 8 (.tup us) && fits ks with
        | true => putKs ks (.tup us) fun ks' => setL cs2.l n (.kd ks') fun l => k e ⟨cs2.nx, l⟩
        | false => false)
      | _ => false)
    | .lst xs => (match d with
      | .int i => ixK xs i fun j => setK j xs v fun ys => setL cs2.l n (.lst ys) fun l => k e ⟨cs2.nx, l⟩
      | _ => false)
    | _ => false)
  | _ => false) x) x
theorem xg_setA (bd : Bex c X k) (hw : c.G.w = X.w) {oe ie : Expr} (ho : XE c X oe ma) (hi : XE c X ie mb)
    (ha : ∀ v, assign (.Subscript oe ie pos) X.env v = (do
      let ov ← holding [v] (eval oe X.env)
      let iv ← holding [v, ov] (eval ie X.env)
      standAt pos
      holding [v, ov, iv] (setItem ov iv v)
      release [v, ov, iv] [])) : XG c X (.Subscript oe ie pos) (gSetA ma mb) :=
  pg_imp (pg_sub ho hi (PSet.or (set_KD (by have := bd.u128; omega)) set_list) ha) fun v σ H Q ⟨r, F, B, ds, cs, d, kk, x, hm, R, hv, n, xk⟩ => by
    refine tE.of hm R (fun r1 F1 B1 H1 v1 u cs1 E1 R1 hv1 h1 => ?_) xk
    refine tE.of h1 R1 (fun r2 F2 B2 H2 v2 d2 cs2 E2 R2 hv2 h2 => ?_) (xk.ext E1)
    split at h2
    case h_2 => cases h2
    rename_i m
    obtain ⟨q, q1, q2⟩ := getC_true h2
    have q1 : cs2.get m = some q := q1
    have hr1 := hv1.ext E2
    split at q2
    · rename_i ks _
      split at q2
      case h_2 => cases q2
      rename_i us
      split at q2
      case h_2 => cases q2
      rename_i okf
      obtain ⟨ok, ff⟩ := Bool.and_eq_true_iff.mp okf
      obtain ⟨a, xs, z1, z2, z3, z4⟩ := R2.rc.cell _ _ q1
      cases hr1 with
      | cel hr =>
        rw [hr] at z1; cases z1
        obtain ⟨b, vs, ev, t1, t2⟩ := id hv2.tupI
        subst ev
        have fl := Nat.le_of_ble_eq_true ff
        refine .inl ⟨a, b, nkD (.tup us), xs, rfl, rfl, nkv_ok R2.kf R2.rc.subF 8 _ _ ok hv2, depthK_ok 8 _ ok, by rw [← hw]; exact z3, KDk.keys R2.kf z4 R2.rc.subF, by rw [z4.len, sizeLine_eq]; omega, ?_⟩
        unfold putKs at q2
        rw [hasKD_ok z4 ok] at q2
        unfold putKD
        split at q2
        · rename_i hk
          rw [if_pos hk]
          dsimp only at q2
          rw [setL_eq] at q2
          exact n _ _ _ _ _ _ _ (E1.trans E2) (RL.writeX (ce' := .kd ks) R2 q1 (fun od z => nomatch z) (fun z => nomatch z) hr z3 .kd ⟨a, xs, hr, z2, by rw [hw]; exact upd_same, z4⟩) q2
        · rename_i hk
          rw [if_neg (by rw [hk]; exact fun z => nomatch z)]
          rw [fList_eq, setL_eq] at q2
          exact n _ _ _ _ _ _ _ (E1.trans E2) (RL.writeX (ce' := .kd (ks ++ [.tup us])) R2 q1 (fun od z => nomatch z) (fun z => nomatch z) hr z3 .kd ⟨a, _, hr, z2, by rw [hw]; exact upd_same, z4.snoc ⟨rfl, ok, hv2⟩⟩) q2
    · rename_i xs _
      split at q2
      case h_2 => cases q2
      rename_i i
      obtain ⟨j, j1, j2⟩ := ixK_ok q2
      rw [setK_eq, setL_eq] at j2
      obtain ⟨a, vs, z1, z2, z3, z4⟩ := R2.rc.cell _ _ q1
      cases hr1 with
      | cel hr =>
        rw [hr] at z1; cases z1
        have ei := hv2.int_inv
        subst ei
        exact .inr ⟨a, vs, i, j, rfl, rfl, z3, by rw [z4.length]; exact j1, n _ _ _ _ _ _ _ (E1.trans E2) (RL.write R2 q1 hr z3 (Reps.set (hv.ext (E1.trans E2)) j z4)) j2⟩
    · cases q2
end
end Ev

set_option Elab.async false
set_option linter.all false
set_option maxRecDepth 100000
set_option maxHeartbeats 4000000
/-! Ev38: sorted(rows of ints) -/
namespace Ev
open PySem PySem.Spec PyProof.Rows L2 LamX NdefX
/-! ### plain: the sorted list is one -/
def insR : List Int → List (List Int) → List (List Int)
  | a, [] => [a]
  | a, b :: r => match lexB b a with
    | true => b :: insR a r
    | false => a :: b :: r
def isortR : List (List Int) → List (List Int)
  | [] => []
  | a :: r => insR a (isortR r)
theorem lexLt_iff : ∀ a b : List Int, HT.lexLt a b = true ↔ a < b
  | [], [] => by simp [HT.lexLt]
  | [], _ :: _ => by simp [HT.lexLt]
  | _ :: _, [] => by simp [HT.lexLt]
  | x :: xs, y :: ys => by
    rw [HT.lexLt_cons, List.cons_lt_cons_iff]
    by_cases e : x = y
    · rw [if_pos e, lexLt_iff xs ys]
      exact ⟨fun h => .inr ⟨e, h⟩, fun h => h.elim (fun h => absurd h (by rw [e]; exact Int.lt_irrefl _)) (·.2)⟩
    · rw [if_neg e, decide_eq_true_iff]
      exact ⟨fun h => .inl h, fun h => h.elim id fun h => absurd h.1 e⟩
theorem lexB_iff (a b : List Int) : lexB a b = true ↔ a < b := by rw [lexB_eq]; exact lexLt_iff a b
theorem insR_perm (a : List Int) : ∀ l : List (List Int), (insR a l).Perm (a :: l)
  | [] => .refl _
  | b :: r => by
    unfold insR
    cases lexB b a with
    | true => exact ((insR_perm a r).cons b).trans (.swap ..)
    | false => exact .refl _
theorem isortR_perm : ∀ l : List (List Int), (isortR l).Perm l
  | [] => .refl _
  | a :: r => (insR_perm a _).trans ((isortR_perm r).cons a)
theorem insR_sorted (a : List Int) : ∀ l : List (List Int), l.Pairwise (· ≤ ·) → (insR a l).Pairwise (· ≤ ·)
  | [], _ => List.pairwise_singleton _ _
  | b :: r, h => by
    obtain ⟨h1, h2⟩ := List.pairwise_cons.mp h
    unfold insR
    cases q : lexB b a with
    | true =>
      refine List.pairwise_cons.mpr ⟨fun z hz => ?_, insR_sorted a r h2⟩
      rcases List.mem_cons.mp ((insR_perm a r).mem_iff.mp hz) with e | hz
      · rw [e]
        have lt := (lexB_iff b a).mp q
        rcases List.le_total b a with z | z
        · exact z
        · exact absurd lt (List.not_lt.mpr z)
      · exact h1 z hz
    | false =>
      have nl : ¬ b < a := fun z => by rw [(lexB_iff b a).mpr z] at q; cases q
      have ab : a ≤ b := List.not_lt.mp nl
      refine List.pairwise_cons.mpr ⟨fun z hz => ?_, h⟩
      rcases List.mem_cons.mp hz with e | hz
      · rw [e]; exact ab
      · exact List.le_trans ab (h1 z hz)
theorem isortR_sorted : ∀ l : List (List Int), (isortR l).Pairwise (· ≤ ·)
  | [] => .nil
  | a :: r => insR_sorted a _ (isortR_sorted r)
theorem mergeR (l : List (List Int)) : l.mergeSort (fun p q => decide (p ≤ q)) = isortR l := by
  have h1 : (l.mergeSort fun p q => decide (p ≤ q)).Pairwise (fun a b => a ≤ b) := by
    refine (List.pairwise_mergeSort (le := fun p q : List Int => decide (p ≤ q)) (fun a b c h1 h2 => ?_) (fun a b => ?_) l).imp fun h => of_decide_eq_true h
    · exact decide_eq_true (List.le_trans (of_decide_eq_true h1) (of_decide_eq_true h2))
    · rcases List.le_total a b with h | h
      · rw [decide_eq_true h]; rfl
      · rw [decide_eq_true h, Bool.or_true]
  exact List.Perm.eq_of_pairwise (le := fun a b : List Int => a ≤ b) (fun a b _ _ h1 h2 => List.le_antisymm h1 h2) h1 (isortR_sorted l) ((List.mergeSort_perm l _).trans (isortR_perm l).symm)
/-! ### the call -/
def rSortR (K : PySem.W.Frag) : List V → Hp → VK → Prop := fun xs H Q => ∃ (a : Addr) (vs : List V) (bs : List (List Int)) (P : V → List Int → Prop), xs = [V.ref a] ∧ SqL K H a vs ∧ Paired P vs bs ∧
  (∀ x ns, P x ns → ∃ b, x = .ref b ∧ SqL K H b (ns.map V.int)) ∧ ∀ p out, H p = none → Paired P out (isortR bs) → Q (.ref p) (upd H p (.lst out))
section
variable {X : Cx}
theorem reads_ints {h : Heap} {ns : List Int} : ∀ {us : List Value}, Vals (ns.map V.int) us → ReadsAll h us (ns.map PyData.int) [] := by
  induction ns with
  | nil => intro us r; rw [List.map_nil] at r; cases r; exact .nil
  | cons n ns ih =>
    intro us r
    rw [List.map_cons] at r
    cases r with
    | cons r1 r2 =>
      obtain ⟨t, e⟩ := r1
      subst e
      exact ReadsAll.cons (as := []) (bs := []) (.int n t) (ih r2)
theorem each_vals {P : V → List Int → Prop} : ∀ {vs : List V} {us : List Value} {bs : List (List Int)}, Vals vs us → Paired P vs bs → PySem.W.EachIs (fun u ns => ∃ x, RelV x u ∧ P x ns) us bs
  | [], [], [], .nil, .nil => .nil
  | _ :: _, _ :: _, _ :: _, .cons r rr, .cons h t => .cons ⟨_, r, h⟩ (each_vals rr t)
theorem vals_each {P : V → List Int → Prop} : ∀ {us : List Value} {bs : List (List Int)}, PySem.W.EachIs (fun u ns => ∃ x, RelV x u ∧ P x ns) us bs → ∃ vs, Vals vs us ∧ Paired P vs bs
  | [], [], .nil => ⟨[], .nil, .nil⟩
  | _ :: _, _ :: _, .cons ⟨x, r, h⟩ t => by
    obtain ⟨vs, e1, e2⟩ := vals_each t
    exact ⟨x :: vs, .cons r e1, .cons h e2⟩
theorem cr_sortR (hu : X.A.units + 128 < cLine) : CallR X (.builtin "sorted") (rSortR X.K) := by
  intro pins s σ H vs us Q I r h
  obtain ⟨a, xs, bs, P, rfl, hs, hp, hq, q⟩ := h
  obtain ⟨its, rv, hl, hz⟩ := I.list hs
  rw [Vals.ref1 r]
  have hlen : bs.length = its.length := by rw [← hp.length, rv.length]
  have er : PySem.W.EachIs (fun v (b : List Int) => ∃ as, Reads s.heap v (PyData.list (b.map PyData.int)) as) its bs := (each_vals rv hp).mono fun u ns ⟨x, r, h⟩ => by
    obtain ⟨b, e, hb⟩ := hq x ns h
    subst e
    cases r
    obtain ⟨its2, r2, ⟨o, n, ho, hc, hn, hd⟩, _⟩ := I.list hb
    exact ⟨_, .list ho hc hd (by simpa using reads_ints (h := s.heap) r2)⟩
  refine PySem.W.sorted_data (R := fun u ns => ∃ x, RelV x u ∧ P x ns) (enc := fun ns : List Int => PyData.list (ns.map PyData.int)) (bs := bs) hl.isList (each_vals rv hp) er (PySem.W.AllAlike.of fun b b' => by
      show PySem.W.alike (.list _) (.list _) = true
      rw [PySem.W.alike]
      exact PySem.W.alike_ints b b') (PySem.W.Sortable.others fun b => ⟨fun z => (nomatch z), fun xs z => (nomatch z)⟩) (by rw [hlen, ← rv.length]; exact hz) (fun b _ => ?_) fun out hl2 he => ?_
  · show X.A.units + 2 + (PyData.depthAll (b.map PyData.int) + 1) < cLine
    rw [PySem.W.depth_ints]
    omega
  · rw [PySem.W.dataLe_rows, mergeR] at he
    obtain ⟨ws, w1, w2⟩ := vals_each he
    obtain ⟨ep, he'⟩ := PyProof.Rows.sortedAll_at s.heap its out.toArray
    have hz2 : ws.length ≤ sizeLine := by rw [w1.length, hl2, hlen, ← rv.length]; exact hz
    exact ⟨.ref _, upd H (s.heap.objs.size + 1) (.lst ws), I.laid (t' := s.toks) (fun _ _ => PyProof.Rows.sortedAll_old) (Nat.le_succ _) ⟨hz2, out, ep, w1, he'⟩, rfl, q _ ws (I.hok.fresh (Nat.le_succ _)) w2⟩
end
/-! ### the combinator -/
def intsE : List D → (List Int → Bool) → Bool
  | [], k => k []
  | .int i :: r, k => intsE r fun t => k (i :: t)
  | _ :: _, _ => false
theorem intsE_ok : ∀ {xs : List D} {k : List Int → Bool}, intsE xs k = true → ∃ ns, xs = ns.map D.int ∧ k ns = true
  | [], k, h => ⟨[], rfl, h⟩
  | d :: xs, k, h => by
    cases d <;> first | (simp [intsE] at h; done) | skip
    obtain ⟨ns, e1, e2⟩ := intsE_ok (xs := xs) h
    exact ⟨_ :: ns, by rw [e1]; rfl, e2⟩
def rowsE : List D → (List (List Int) → Bool) → Bool
  | [], k => k []
  | .lst r :: xs, k => intsE r fun ns => rowsE xs fun t => k (ns :: t)
  | _ :: _, _ => false
theorem rowsE_ok : ∀ {xs : List D} {k : List (List Int) → Bool}, rowsE xs k = true → ∃ bs : List (List Int), xs = bs.map (fun ns => D.lst (ns.map D.int)) ∧ k bs = true
  | [], k, h => ⟨[], rfl, h⟩
  | d :: xs, k, h => by
    cases d <;> first | (simp [rowsE] at h; done) | skip
    rename_i r
    obtain ⟨ns, e1, e2⟩ := intsE_ok (xs := r) h
    obtain ⟨bs, e3, e4⟩ := rowsE_ok (xs := xs) e2
    exact ⟨ns :: bs, by rw [e1, e3]; rfl, e4⟩
def insK : List Int → List (List Int) → (List (List Int) → Bool) → Bool
  | a, [], k => k [a]
  | a, b :: r, k => match lexB b a with
    | true => insK a r fun t => k (b :: t)
    | false => k (a :: b :: r)
theorem insK_eq (a : List Int) : ∀ (l : List (List Int)) (k : List (List Int) → Bool), insK a l k = k (insR a l)
  | [], _ => rfl
  | b :: r, k => by
    unfold insK insR
    cases lexB b a with
    | true => exact insK_eq a r _
    | false => rfl
def isortK : List (List Int) → (List (List Int) → Bool) → Bool
  | [], k => k []
  | a :: r, k => isortK r fun t => insK a t k
theorem isortK_eq : ∀ (l : List (List Int)) (k : List (List Int) → Bool), isortK l k = k (isortR l)
  | [], _ => rfl
  | a :: r, k => by
    unfold isortK
    rw [isortK_eq r, insK_eq]
    rfl
def backE : List (List Int) → (List D → Bool) → Bool
  | [], k => k []
  | a :: r, k => backE r fun t => k (.lst (a.map D.int) :: t)
theorem backE_eq : ∀ (l : List (List Int)) (k : List D → Bool), backE l k = k (l.map fun ns => D.lst (ns.map D.int))
  | [], _ => rfl
  | a :: r, k => by
    unfold backE
    rw [backE_eq r]
    rfl
def mSortR (pol : Bool) (a : ME) : ME := fun f e cs k x => a f e cs (fun d cs1 => listD d cs1 fun xs => rowsE xs fun bs => isortK bs fun bs' => backE bs' fun ys => newL pol ys cs1 k) x
section
variable {c : Cxt} {X : Cx} {e a b d tg : Expr} {es : List Expr} {pos p : Pos} {r : Nat → Option Addr} {F B H H' : Hp} {σ : L2.St} {ds : Env} {cs : Cs} {K : KE} {x : KX} {Q : VK} {m ma mb md : ME} {mr : MA} {o : HO} {k : Nat}
theorem Rep.rowI {G : Gs} {v : V} {ds : List D} (h : Rep G r F v (.lst ds)) : ∃ a vs, v = .ref a ∧ F a = some (.lst vs) ∧ Reps G r F vs ds := by
  cases h with
  | lst h1 h2 => exact ⟨_, _, rfl, h1, h2⟩
theorem reps_rows {G : Gs} : ∀ {vs : List V} {bs : List (List Int)}, Reps G r F vs (bs.map fun ns => D.lst (ns.map D.int)) ↔ Paired (fun v (ns : List Int) => Rep G r F v (.lst (ns.map D.int))) vs bs
  | [], [] => ⟨fun _ => .nil, fun _ => .nil⟩
  | [], _ :: _ => ⟨fun h => (nomatch h), fun h => (nomatch h)⟩
  | _ :: _, [] => ⟨fun h => (nomatch h), fun h => (nomatch h)⟩
  | _ :: _, _ :: _ => ⟨fun h => by cases h with | cons h t => exact .cons h (reps_rows.mp t), fun h => by cases h with | cons h t => exact .cons h (reps_rows.mpr t)⟩
theorem reps_ints_inv {G : Gs} : ∀ {vs : List V} {ns : List Int}, Reps G r F vs (ns.map D.int) → vs = ns.map V.int
  | [], [], _ => rfl
  | _ :: _, _ :: _, .cons h t => by rw [h.int_inv, reps_ints_inv t]; rfl
theorem xe_sortR (pol : Bool) (bd : Bex c X k) (hg : Gl X "sorted") (hm : X.mg "sorted" = none) (ha : XE c X e m) (hv : bootBuiltins "sorted" = some (.builtin "sorted")) (h1 : starEach [e] X.env = (false, eval e X.env) :: starEach [] X.env) (hpl : (backTo pos (starEach [] X.env)).any (·.1) = false) :
    XE c X (.Call (.Name "sorted" p) [e] [] pos) (mSortR pol m) :=
  XE.mk (pe_callB (cr_sortR bd.u128) hg hm hv (pa_cons ha pa_nil h1) (by decide) (by decide) h1 hpl) fun r F B σ H ds cs K x Q hm R k xk => by
    refine tE.of hm R (fun r1 F1 B1 H1 v d cs1 E1 R1 hv h1 => ?_) xk
    obtain ⟨a, vs, xs, ev, hs, h2, h3⟩ := listD_ok R1.rc hv h1
    obtain ⟨bs, e1, e2⟩ := rowsE_ok h3
    subst ev e1
    rw [isortK_eq, backE_eq] at e2
    refine ⟨a, vs, bs, fun v ns => Rep c.G r1 F1 v (.lst (ns.map D.int)), rfl, SqL.of h2, reps_rows.mp hs, fun x ns h => ?_, fun p out hp ho => ?_⟩
    · obtain ⟨b, ws, e, hF, hr⟩ := h.rowI
      have e3 := reps_ints_inv hr
      subst e3
      exact ⟨b, e, SqL.of (R1.rc.subF _ _ hF)⟩
    · exact newL_ok R1 (k.ext E1) (reps_rows.mpr ho) e2 p hp
end
end Ev

set_option Elab.async false
set_option linter.all false
set_option maxRecDepth 100000
set_option maxHeartbeats 4000000
/-! Ev39: zip of two sequences, lists or tuples -/
namespace Ev
open PySem PySem.Spec PyProof.Rows L2 LamX NdefX
/-- t: a tuple, else a list -/
def SqK (t : Bool) (K : PySem.W.Frag) (H : Hp) (a : Addr) (xs : List V) : Prop := match t with
  | true => SqT K H a xs
  | false => SqL K H a xs
def SIt (t : Bool) (h : Heap) (i a : Addr) (k : Nat) : Prop := match t with
  | true => h.IsTupleIter i a k
  | false => h.IsListIter i a k
def SSq (t : Bool) (h : Heap) (a : Addr) (its : Array Value) : Prop := match t with
  | true => h.IsTuple a its
  | false => h.IsList a its
def itO (t : Bool) (l : Addr) : Obj := match t with
  | true => { cls := .type "tuple_iterator", data := .fields #[.ref l, .int 0 0] }
  | false => { cls := .type "list_iterator", data := .fields #[.ref l, .int 0 0] }
theorem SIt.at {t : Bool} {h h' : Heap} {i a : Addr} {k : Nat} (x : SIt t h i a k) (e : ∀ o, h.get? i = some o → h'.get? i = some o) : SIt t h' i a k := by
  cases t
  · exact Heap.IsListIter.at x e
  · exact Heap.IsTupleIter.at x e
theorem SIt.obj {t : Bool} {h : Heap} {i a : Addr} {k : Nat} (x : SIt t h i a k) : ∃ o, h.get? i = some o ∧ ∀ v, o.data ≠ .cell v := by
  cases t
  · obtain ⟨o, e, _, d⟩ := x
    exact ⟨o, e, fun v q => by rw [d] at q; cases q⟩
  · obtain ⟨o, e, _, d⟩ := x
    exact ⟨o, e, fun v q => by rw [d] at q; cases q⟩
theorem sit_new {t : Bool} {h : Heap} {i a : Addr} (e : h.get? i = some (itO t a)) : SIt t h i a 0 := by
  cases t
  · exact ⟨_, e, rfl, rfl⟩
  · exact ⟨_, e, rfl, rfl⟩
theorem draws_of {prog : Program} {w : World} {A : Around} (t : Bool) (hh : A.handled = none) (it l : Addr) (hne : l ≠ it) (items : Array Value) :
    Draws prog w A it [it, l] items.size (fun i v => items[i]? = some v) (fun i h => SIt t h it l i ∧ SSq t h l items) := by
  cases t
  · exact Draws.list hh it l hne items
  · exact Draws.tuple hh it l hne items
/-- at a place, ended or not -/
theorem draws_at {prog : Program} {w : World} {A : Around} (t : Bool) (hh : A.handled = none) (it l : Addr) (hne : l ≠ it) (items : Array Value) (i : Nat) {h : Heap} (st : SIt t h it l i) (sq : SSq t h l items) :
    ∃ n P St, Draws prog w A it [it, l] n P St ∧ St i h ∧ i ≤ n ∧ (items.size ≤ i → i = n) := by
  by_cases hi : items.size ≤ i
  · have hx : items[i]? = none := by simpa using hi
    refine ⟨i, fun _ _ => False, fun j h => (SIt t h it l j ∧ SSq t h l items) ∧ j = i, ⟨fun j h z => ?_, fun j h h' z k => ?_, fun j s Q E hj z _ => absurd z.2 (by omega), fun s Q E z hE => ?_⟩, ⟨⟨st, sq⟩, rfl⟩, Nat.le_refl _, fun _ => rfl⟩
    · obtain ⟨o, e, _⟩ := z.1.1.obj
      exact ⟨o, e⟩
    · exact ⟨(draws_of (prog := prog) (w := w) t hh it l hne items).frame _ _ _ z.1 k, z.2⟩
    · cases t
      · exact wpAny_nextOf_list_end hh z.1.1 z.1.2 hx hE
      · exact wpAny_nextOf_tuple_end hh z.1.1 z.1.2 hx hE
  · exact ⟨items.size, _, _, draws_of t hh it l hne items, ⟨st, sq⟩, by omega, fun z => absurd z hi⟩
theorem begins_of (t : Bool) (l : Addr) (items : Array Value) : Begins (.ref l) (itO t l) fun h => SSq t h l items := by
  cases t
  · exact begins_list l items
  · exact begins_tuple l items
theorem inv_sqk {X : Cx} {pins : List (Addr × Obj)} {σ : L2.St} {H : Hp} {s : Shared} {t : Bool} {a : Addr} {xs : List V} (I : Inv X pins σ H s) (h : SqK t X.K H a xs) : ∃ its : List Value, Vals xs its ∧ SSq t s.heap a its.toArray ∧ a < s.heap.objs.size := by
  cases t
  · obtain ⟨its, rv, p, _⟩ := I.list h
    exact ⟨its, rv, p.isList, p.lt⟩
  · obtain ⟨its, rv, p, _⟩ := I.tuple h
    obtain ⟨o, ho, _⟩ := id p
    exact ⟨its, rv, (show s.heap.IsTuple a its.toArray from p), Heap.lt_size ho⟩
theorem sqk_inj {X : Cx} {pins : List (Addr × Obj)} {σ : L2.St} {H : Hp} {s : Shared} {t : Bool} {a : Addr} {xs ys : List V} (I : Inv X pins σ H s) (h : SqK t X.K H a xs) (h' : SqK t X.K H a ys) : xs = ys := by
  cases t
  · exact I.list_inj h h'
  · exact I.tuple_inj h h'
/-- two sequences as they stand at each turn -/
def ItzK (t u : Bool) (K : PySem.W.Frag) (a b : Addr) : It :=
  ⟨fun i H => ∃ (xs ys : List V) (x y : V), SqK t K H a xs ∧ SqK u K H b ys ∧ xs[i]? = some x ∧ ys[i]? = some y,
    fun i H v H' => ∃ T x y, v = .ref T ∧ H T = none ∧ H' = upd H T (.tup [x, y]) ∧ (∀ xs, SqK t K H a xs → xs[i]? = some x) ∧ ∀ ys, SqK u K H b ys → ys[i]? = some y,
    fun i H => ∃ xs ys : List V, SqK t K H a xs ∧ SqK u K H b ys ∧ (xs.length ≤ i ∨ ys.length ≤ i)⟩
theorem sep_of {z TI TO i1 i2 a b : Addr} (D : ZipApart z TI TO i1 i2 a b) : ZipSep2 z TI TO i1 i2 [i1, a] [i2, b] where
  TIz := D.TIz
  TOz := D.TOz
  TITO := D.TITO
  TIi1 := D.TIi1
  mem1 := by simp
  zf1 := by simp only [List.mem_cons, List.not_mem_nil, or_false, not_or]; exact ⟨D.i1z.symm, D.l1z.symm⟩
  Tf1 := by simp only [List.mem_cons, List.not_mem_nil, or_false, not_or]; exact ⟨D.TOi1, D.l1TO.symm⟩
  TIi2 := D.TIi2
  mem2 := by simp
  zf2 := by simp only [List.mem_cons, List.not_mem_nil, or_false, not_or]; exact ⟨D.i2z.symm, D.l2z.symm⟩
  Tf2 := by simp only [List.mem_cons, List.not_mem_nil, or_false, not_or]; exact ⟨D.TOi2, D.l2TO.symm⟩
  sep1_2 := by simp only [List.mem_cons, List.not_mem_nil, or_false, not_or]; exact ⟨D.i12, D.l2i1.symm⟩
  sep2_1 := by simp only [List.mem_cons, List.not_mem_nil, or_false, not_or]; exact ⟨D.i12.symm, D.l1i2.symm⟩
theorem turn_zipK {P : Program} {w : World} {K : PySem.W.Frag} {elts : List Expr} {kk : Nat} {tpos : Pos} {t u : Bool} {a b z TI TO i1 i2 : Addr} (D : ZipApart z TI TO i1 i2 a b) :
    Turn P w K (.Tuple elts kk tpos) (ItzK t u K a b) [z, TI, TO, i1, i2] z (fun i h => IsZip h z TI TO .none ∧ IsTupOf2 h TI (.ref i1) (.ref i2) ∧ (∃ x y, IsTupOf2 h TO x y) ∧ SIt t h i1 a i ∧ SIt u h i2 b i) where
  mem := by simp
  obj := fun i h st c hc => by
    obtain ⟨hz, hTI, ⟨x, y, hTO⟩, h1, h2⟩ := st
    have e' : c = z ∨ c = TI ∨ c = TO ∨ c = i1 ∨ c = i2 := by simpa using hc
    rcases e' with q | q | q | q | q
    · rw [q]; exact ⟨_, hz, fun v q => nomatch q⟩
    · rw [q]; exact ⟨_, hTI, fun v q => nomatch q⟩
    · rw [q]; exact ⟨_, hTO, fun v q => nomatch q⟩
    · rw [q]; exact h1.obj
    · rw [q]; exact h2.obj
  keep := fun i h h' st k => by
    obtain ⟨hz, hTI, ⟨x, y, hTO⟩, h1, h2⟩ := st
    exact ⟨k z (by simp) _ hz, k TI (by simp) _ hTI, ⟨x, y, k TO (by simp) _ hTO⟩, h1.at fun o q => k i1 (by simp) o q, h2.at fun o q => k i2 (by simp) o q⟩
  item := by
    intro X hP hw hK hc i pins s σ H E I hf st hg
    subst hP hw hK
    obtain ⟨hz, hTI, ⟨x0, y0, hTO⟩, h1, h2⟩ := st
    obtain ⟨xs, ys, x, y, hqx, hqy, hx, hy⟩ := hg
    obtain ⟨its, rv, p1, _⟩ := inv_sqk I hqx
    obtain ⟨its2, rv2, p2, _⟩ := inv_sqk I hqy
    obtain ⟨v1, hv1, r1⟩ := rv.get hx
    obtain ⟨v2, hv2, r2⟩ := rv2.get hy
    have lt1 : i < its.toArray.size := by rw [List.size_toArray]; exact (List.getElem?_eq_some_iff.mp hv1).1
    have lt2 : i < its2.toArray.size := by rw [List.size_toArray]; exact (List.getElem?_eq_some_iff.mp hv2).1
    have hd : X.A.in1.handled = none := I.ok.hd hc
    refine wpAny_pyNext_zipD2_item (sep_of D) (draws_of t hd i1 a D.l1i1 its.toArray) (draws_of u hd i2 b D.l2i2 its2.toArray) hz hTI hTO ⟨h1, p1⟩ ⟨h2, p2⟩ lt1 lt2 fun x1 x2 h' tk y1 y2 z' TO' q1 q2 hT hsz hk => ?_
    have e1 : x1 = v1 := by
      have y1 : its.toArray[i]? = some x1 := y1
      have : its.toArray[i]? = some v1 := by simpa using hv1
      rw [y1] at this; exact Option.some.inj this
    have e2 : x2 = v2 := by
      have y2 : its2.toArray[i]? = some x2 := y2
      have : its2.toArray[i]? = some v2 := by simpa using hv2
      rw [y2] at this; exact Option.some.inj this
    subst e1 e2
    have hzl : z < s.heap.objs.size := Heap.lt_size hz
    refine ⟨_, rfl, wpAny_letOwnedTupleGo_zip (s := { s with heap := h', toks := tk }) z' fun h'' z'' sb => ?_⟩
    have hT2 : h''.get? s.heap.objs.size = some { cls := .type "tuple", data := .seq #[x1, x2] } := (sb.2 _ (Nat.ne_of_gt hzl)).trans hT
    have new : ObjOk X.prog X.w (upd H s.heap.objs.size (.tup [x, y])) h'' s.heap.objs.size (.tup [x, y]) :=
      ⟨by show 2 ≤ sizeLine; decide, [x1, x2], .cons r1 (.cons r2 .nil), ⟨_, hT2, rfl, _, rfl⟩⟩
    have I1 : Inv X pins σ (upd H s.heap.objs.size (.tup [x, y])) { s with heap := h'', toks := tk } :=
      I.turnedNew (t' := tk) (ch := [z, TI, TO, i1, i2]) (fun c o hb q => (sb.2 c (fun q' => hb (by simp [q']))).trans (hk c o (fun q' => hb (by simp [q'])) (fun q' => hb (by simp [q'])) (fun q' => hb (by simp [q'])) (fun q' => hb (by simp [q'])) q)) hf (Nat.le_refl _) new
    refine ⟨.ref s.heap.objs.size, _, I1, rfl, ⟨_, x, y, rfl, I.hok.fresh (Nat.le_refl _), rfl, fun l hl => by rw [sqk_inj I hl hqx]; exact hx, fun l hl => by rw [sqk_inj I hl hqy]; exact hy⟩, ⟨z'', ?_, ⟨x1, x2, ?_⟩, ?_, ?_⟩, fun c hcm => ?_⟩
    · exact (sb.2 _ D.TIz).trans (hk _ _ D.TIz D.TITO D.TIi1 D.TIi2 hTI)
    · exact (sb.2 _ D.TOz).trans TO'
    · exact q1.1.at fun o q => (sb.2 _ D.i1z).trans q
    · exact q2.1.at fun o q => (sb.2 _ D.i2z).trans q
    · have hlt : c < s.heap.objs.size := by
        have e' : c = z ∨ c = TI ∨ c = TO ∨ c = i1 ∨ c = i2 := by simpa using hcm
        rcases e' with q | q | q | q | q
        · rw [q]; exact hzl
        · rw [q]; exact Heap.lt_size hTI
        · rw [q]; exact Heap.lt_size hTO
        · rw [q]; obtain ⟨_, e1, _⟩ := h1.obj; exact Heap.lt_size e1
        · rw [q]; obtain ⟨_, e2, _⟩ := h2.obj; exact Heap.lt_size e2
      rw [upd_ne (Nat.ne_of_lt hlt)]
      exact (hf c hcm).1
  done := by
    intro X hP hw hK hc i pins s σ H E I hf st hg
    subst hP hw hK
    obtain ⟨hz, hTI, ⟨x0, y0, hTO⟩, h1, h2⟩ := st
    obtain ⟨xs, ys, hqx, hqy, hend⟩ := hg
    obtain ⟨its, rv, p1, _⟩ := inv_sqk I hqx
    obtain ⟨its2, rv2, p2, _⟩ := inv_sqk I hqy
    have m1 : its.toArray.size = xs.length := by rw [List.size_toArray]; exact rv.length.symm
    have m2 : its2.toArray.size = ys.length := by rw [List.size_toArray]; exact rv2.length.symm
    have hd : X.A.in1.handled = none := I.ok.hd hc
    obtain ⟨n1, P1, St1, D1, s1, le1, en1⟩ := draws_at (prog := X.prog) (w := X.w) t hd i1 a D.l1i1 its.toArray i h1 p1
    obtain ⟨n2, P2, St2, D2, s2, le2, en2⟩ := draws_at (prog := X.prog) (w := X.w) u hd i2 b D.l2i2 its2.toArray i h2 p2
    exact wpAny_pyNext_zipD2_end (sep_of D) D1 D2 hz hTI hTO s1 s2 le1 le2 (hend.imp (fun z => en1 (by omega)) fun z => en2 (by omega)) fun h' tk hk =>
      ⟨rfl, I.turnedL (t' := tk) (ch := [z, TI, TO, i1, i2]) (fun c o hb q => hk c o (fun q' => hb (by simp [q'])) (fun q' => hb (by simp [q'])) (fun q' => hb (by simp [q'])) (fun q' => hb (by simp [q'])) q) hf⟩
  self := fun A i s Q E st h => wpAny_pyIter_zip st.1 h
def iZipK (K : PySem.W.Frag) (ta : TA) : TI := fun σ H R => ta σ H fun vs H1 => ∃ a b xs ys t u, vs = [.ref a, .ref b] ∧ SqK t K H1 a xs ∧ SqK u K H1 b ys ∧ R (ItzK t u K a b) H1
theorem pi_zipK {X : Cx} {e e2 : Expr} {ta : TA} {p pos tpos : Pos} {elts : List Expr} {kk : Nat} (hg : Gl X "zip") (hm : X.mg "zip" = none) (ha : PA X [e, e2] ta)
    (hs : starEach [e, e2] X.env = (false, eval e X.env) :: starEach [e2] X.env) (hpl : (backTo pos (starEach [e2] X.env)).any (·.1) = false) :
    PI X (.Tuple elts kk tpos) (.Call (.Name "zip" p) [e, e2] [] pos) (iZipK X.K ta) := by
  refine ⟨fun pins s σ H R I h => ?_⟩
  refine Call_ (ld_blt I hg hm PyProof.Rows.boot_zip (PyProof.Rows.callWith_type1 (thn (ha.run pos pins s σ H _ I h) fun us s1 ⟨vs, H1, I1, r1, q1⟩ => ?_) hs hpl))
  obtain ⟨a, b, xs, ys, t, u, ex, hqx, hqy, q⟩ := q1
  subst ex
  cases r1 with
  | cons r rr =>
    cases rr with
    | cons r' rr =>
      cases rr
      cases r
      cases r'
      obtain ⟨its, rv, p1, la⟩ := inv_sqk I1 hqx
      obtain ⟨its2, rv2, p2, lb⟩ := inv_sqk I1 hqy
      refine zip_begins2 (begins_of t a its.toArray) (begins_of u b its2.toArray) p1 p2 fun h' hz hTI hTO h1 h2 hsz hk => wpAny_pyIter_zip hz ?_
      have I2 : Inv X pins σ H1 { s1 with heap := h' } := I1.kept (t' := s1.toks) hk
      refine ⟨s1.heap.objs.size + 4, [s1.heap.objs.size + 4, s1.heap.objs.size + 2, s1.heap.objs.size + 3, s1.heap.objs.size, s1.heap.objs.size + 1], _, _, H1, rfl, I2, turn_zipK (PySem.W.ktu_apart s1.heap.objs.size a b la lb), ⟨hz, hTI, ⟨_, _, hTO⟩, sit_new h1, sit_new h2⟩, fun c hcm => ?_, q⟩
      have hle : s1.heap.objs.size ≤ c := by
        have e' : c = s1.heap.objs.size + 4 ∨ c = s1.heap.objs.size + 2 ∨ c = s1.heap.objs.size + 3 ∨ c = s1.heap.objs.size ∨ c = s1.heap.objs.size + 1 := by simpa using hcm
        rcases e' with q | q | q | q | q <;> rw [q] <;> first | exact Nat.le_refl _ | exact Nat.le_add_right _ _
      exact I1.fpOk hle (I1.hok.fresh hle)
section
variable {c : Cxt} {X : Cx} {e a b d tg : Expr} {es : List Expr} {pos p : Pos} {r : Nat → Option Addr} {F B H H' : Hp} {σ : L2.St} {ds : Env} {cs : Cs} {K : KE} {x : KX} {Q : VK} {m ma mb md : ME} {mr : MA} {o : HO} {k : Nat}
def PK (c : Cxt) (t : Bool) (a : Addr) : Nat → Itr → (Nat → Option Addr) → Hp → Prop := match t with
  | true => PT_ c a
  | false => PL c a
theorem lk_K {K : PySem.W.Frag} (hK : c.G.Kf = K) (t : Bool) (a : Addr) : Lk c (fun H vs => SqK t K H a vs) (PK c t a) := by
  cases t
  · exact lk_lst a
  · exact lk_tup hK a
theorem itOf_K {v : V} {d : D} {k : Bool → Itr → Bool} {own : Addr → Prop} {KK : PySem.W.Frag} (hK : c.G.Kf = KK) (R : RC c.G c.T own r F B H cs) (hv : Rep c.G r F v d) (h : itOf d cs k = true) :
    ∃ a it vs t, v = .ref a ∧ k t it = true ∧ SqK t KK H a vs ∧ PK c t a 0 it r F := by
  obtain ⟨a, it, vs, ev, h2⟩ := itOf_ok R hv h
  rcases h2 with ⟨h2, h3, h4⟩ | ⟨h2, h3, h4⟩
  · exact ⟨a, it, vs, false, ev, h2, SqL.of h3, h4⟩
  · exact ⟨a, it, vs, true, ev, h2, h3.sq hK, h4⟩
def iZip2 (a : MA) : MI := fun f e cs k x => a f e cs (fun us cs1 => match us with
  | [d, d'] => itOf d cs1 fun _ it => itOf d' cs1 fun _ it' => k (.zp it it') cs1
  | _ => false) x
theorem xi_zip2 {e2 : Expr} {ma : MA} {elts : List Expr} {kk : Nat} {tpos : Pos} (hg : Gl X "zip") (hm : X.mg "zip" = none) (ha : XA c X [e, e2] ma)
    (hs : starEach [e, e2] X.env = (false, eval e X.env) :: starEach [e2] X.env) (hpl : (backTo pos (starEach [e2] X.env)).any (·.1) = false) :
    XI c X (.Tuple elts kk tpos) (.Call (.Name "zip" p) [e, e2] [] pos) (iZip2 ma) := pi_imp (pi_zipK hg hm ha hs hpl) fun σ H Rr ⟨r, F, B, ds, cs, K, x, hm, R, k, xk⟩ => by
  refine tA.of hm R (fun r1 F1 B1 H1 vs us cs1 E1 R1 hvs h1 => ?_) xk
  split at h1
  · cases hvs with
    | cons hv1 t => cases t with
      | cons hv2 t =>
        cases t
        obtain ⟨a, it, xs, t, ev, h2, h3, h4⟩ := itOf_K R1.kf R1.rc hv1 h1
        subst ev
        obtain ⟨b, it', ys, u, ev, h5, h6, h7⟩ := itOf_K R1.kf R1.rc hv2 h2
        subst ev
        refine ⟨a, b, xs, ys, t, u, rfl, h3, h6, k _ _ _ _ _ _ _ _ E1 R1 (wk_zip (lk_K R1.kf t a) (lk_K R1.kf u b) (fun i H xs ys x y q1 q2 q3 q4 => ⟨xs, ys, x, y, q1, q2, q3, q4⟩) (fun i H xs ys q1 q2 q3 => ⟨xs, ys, q1, q2, q3⟩) fun i H v H' xs ys x y q1 q2 q3 q4 q5 => ?_) ⟨it, it', rfl, h4, h7⟩ h5⟩
        obtain ⟨T, x', y', w1, w2, w3, w4, w5⟩ := q5
        have e1 := w4 xs q1
        have e2 := w5 ys q2
        rw [q3] at e1; rw [q4] at e2
        cases e1; cases e2
        exact ⟨T, w1, w2, w3⟩
  · cases h1
end
end Ev

set_option Elab.async false
set_option linter.all false
set_option maxRecDepth 100000
set_option maxHeartbeats 4000000
/-! Ev40: {k: v for ..}, the keys tuples (turned from the walk of the flat ones in HandS.DictComp) -/
namespace Ev
open PySem PySem.Spec PyProof.Rows L2 LamX NdefX
section
variable {X : Cx}
/-- d[k] = v by a comprehension -/
theorem kd_dictSet {pins : List (Addr × Obj)} {σ : L2.St} {H : Hp} {s : Shared} {E : Value → Shared → Prop} {D : Addr} {xs : List (NestedKey × Addr)} {k : NestedKey} {b : Addr} {u r : Value} {Q : Unit → Shared → Prop} (I : Inv X pins σ H s) (hu : X.A.units + 128 < cLine)
    (hD : H D = some (KDo X.w D xs)) (hk : NKv X.K H k (.ref b)) (hd : k.depth ≤ 8) (hs : ∀ x ∈ xs, NKv X.K H x.1 (.ref x.2) ∧ x.1.depth ≤ 8) (hz : xs.length ≤ sizeLine)
    (ry : RelV (.ref b) u) (h : ∀ s', Inv X pins σ (upd H D (KDo X.w D (putKD xs k b))) s' → Q () s') : wpAny (model X.prog X.w) X.A (dictSet D u r) Q E s := by
  cases ry
  have p := kd_at I hD
  have hsm := p.2
  obtain ⟨ys, en, m⟩ := kd_of (P := X.prog) p fun x hx => ⟨(hs x hx).1.is I rfl, (hs x hx).2⟩
  refine wpAny_dictSet_heap (knd := nestedKind X.prog X.w) (k := k) (xs := ys) (hsz := by rw [← kdN_len, en]; exact hz) (by show X.A.units + 8 < cLine; omega) ⟨hk.is I rfl, hd⟩ m fun h' m' sb => ?_
  have p' := kd_to hsm m'
  rw [stored_kd, en] at p'
  have he : ∃ u, h'.get? D = some u := by obtain ⟨⟨o, _, _, _, e, _⟩, _⟩ := p'; exact ⟨o, e⟩
  exact h _ (I.write (e := D) (by rw [hD]; trivial) (.inl rfl) (fun c u hb hu => (sb.2 c hb).trans hu) he (kd_obj p'))
def tDcK (K : PySem.W.Frag) (w : World) (wi : TI) (g : TG) (tt : TT) (tk tv : TE) (vs : List Nat) : TE := fun σ H Q => wi σ H fun J H1 => ∀ D, H1 D = none → ∃ W : Nat → Nat → Hp → Prop, (∃ m, W 0 m (upd H1 D (KDo w D []))) ∧ ∀ i m H, W i m H →
  (J.stop i H ∧ Q (.ref D) H) ∨ (J.go i H ∧ ∃ Nx : Hp → Prop, (∀ H', Nx H' → ∃ m', m' < m ∧ W (i + 1) m' H') ∧ ∀ x H', J.yld i H x H' → g x (wipe σ vs) H' fun σ2 H2 => wipe σ2 vs = wipe σ vs ∧ tt σ2 H2 fun b H3 =>
    if b = true then tk σ2 H3 fun y H4 => tv σ2 H4 fun z H5 => ∃ (b : Addr) (k : NestedKey) (xs : List (NestedKey × Addr)), y = .ref b ∧ NKv K H5 k (.ref b) ∧ k.depth ≤ 8 ∧ H5 D = some (KDo w D xs) ∧ (∀ x ∈ xs, NKv K H5 x.1 (.ref x.2) ∧ x.1.depth ≤ 8) ∧ xs.length ≤ sizeLine ∧ Nx (upd H5 D (KDo w D (putKD xs k b))) else Nx H3)
theorem dcK_core {pins : List (Addr × Obj)} {s : Shared} {σ : L2.St} {H : Hp} {Q : VK} {kx vx tg iter : Expr} {ifs : List Expr} {scope : Scope} {own : List (Str × Nat)} {pos pos' : Pos} {wi : TI} {g : TG} {tt : TT} {tk tv : TE} {use : Option (Value → Sem Unit)} {Qf : Value → Shared → Prop}
    (hu : X.A.units + 128 < cLine) (hc : X.calm = true) (hN : X.N.Nodup) (I : Inv X pins σ H s) (hi : PI X tg iter wi) (ok : BlkOk X.N X.env.scope scope own)
    (hg : ∀ (s : Shared) (H : Hp) (C : Addr) (cl : List (Str × Addr)) (fp : List Addr), PG (X.blk s H scope (compEnvC scope cl C X.env) fp) tg g) (ht : ∀ (s : Shared) (H : Hp) (C : Addr) (cl : List (Str × Addr)) (fp : List Addr), PTs (X.blk s H scope (compEnvC scope cl C X.env) fp) ifs tt)
    (hk : ∀ (s : Shared) (H : Hp) (C : Addr) (cl : List (Str × Addr)) (fp : List Addr), PE (X.blk s H scope (compEnvC scope cl C X.env) fp) kx tk)
    (he : ∀ (s : Shared) (H : Hp) (C : Addr) (cl : List (Str × Addr)) (fp : List Addr), PE (X.blk s H scope (compEnvC scope cl C X.env) fp) vx tv) (hs : ∀ x, foldedSetIterable iter X.env x = pure x)
    (h : tDcK X.K X.w wi g tt tk tv (own.map (·.2)) σ H Q)
    (hRR : ∀ D C s' m H', Inv X pins σ H' s' → Q (.ref D) H' → s'.heap.Ns C m → FpOk X pins H' C → compPost (model X.prog X.w) X.A X.xe use Qf (.ref D) C (.ok .next) s') :
    wpAny (model X.prog X.w) X.A (comprehension (.DictComp kx vx [⟨tg, iter, ifs, 0⟩] scope pos) scope X.env pos' newDict false (eval iter X.env) use) Qf X.xe s := by
  have hfree : ∀ y ∈ scope.names, y.2 = .free → ∃ c, X.env.cells.lookup y.1 = some c := fun y hy e => by
    rcases ok.free y hy e with k | k
    · exact I.ok.has _ (.inl k)
    · exact I.ok.has _ (.inr k)
  refine wpAny_comprehension_free (use := use) rfl hs (closure_ok hfree) ok.kind (fun y hy e => by rw [ok.uniq y hy, e])
    (thn (hi.run pins s σ H _ I h) fun xv s1 hx => thn hx fun itv s2 h2 => ?_)
  obtain ⟨it, fp, tn, J, H2, e, I2, T, st2, f2, q⟩ := h2
  subst e
  refine wpAny_newObj_type (newEnv_comp ?_)
  generalize hD : s2.heap.objs.size = D
  have hDn : H2 D = none := I2.hok.fresh (Nat.le_of_eq hD)
  obtain ⟨W, ⟨m0, w0⟩, turn⟩ := q D hDn
  -- the new list
  generalize hs3 : ({ s2 with heap := s2.heap.push { cls := .type "dict", data := .dict #[] } } : Shared) = s3
  have I3 : Inv X pins σ (upd H2 D (KDo X.w D [])) s3 := by
    rw [← hs3]
    refine I2.laid (t' := s2.toks) (fun b o e => Heap.get?_push_of_some _ e) (Nat.le_of_eq hD) ?_
    rw [← hD]
    exact kd_obj (kd_new s2.heap I2.big)
  have h3 : s3.heap = s2.heap.push { cls := .type "dict", data := .dict #[] } := by rw [← hs3]
  have sz : ∀ b ∈ fp, b < s2.heap.objs.size := fun b hb => by
    obtain ⟨o, e, _⟩ := T.obj _ _ st2 b hb
    exact Heap.lt_size e
  have f3 : ∀ b ∈ fp, FpOk X pins (upd H2 D (KDo X.w D [])) b ∧ b < s3.heap.objs.size := fun b hb => by
    have hlt := sz b hb
    refine ⟨⟨?_, (f2 b hb).2⟩, by rw [h3, Heap.size_push]; exact Nat.lt_succ_of_lt hlt⟩
    rw [upd_ne (by rw [← hD]; exact Nat.ne_of_lt hlt)]
    exact (f2 b hb).1
  have st3 : tn 0 s3.heap := T.keep _ _ _ st2 fun b _ o e => by rw [h3]; exact Heap.get?_push_of_some _ e
  have I4 := block_start I3 ok hN f3
  have pg := hg s3 (upd H2 D (KDo X.w D [])) s3.heap.objs.size (cellsFrom (s3.heap.objs.size + 1) scope.names (cloFrom X.env.cells scope.names [])) fp
  have pt := ht s3 (upd H2 D (KDo X.w D [])) s3.heap.objs.size (cellsFrom (s3.heap.objs.size + 1) scope.names (cloFrom X.env.cells scope.names [])) fp
  have pk := hk s3 (upd H2 D (KDo X.w D [])) s3.heap.objs.size (cellsFrom (s3.heap.objs.size + 1) scope.names (cloFrom X.env.cells scope.names [])) fp
  have pe := he s3 (upd H2 D (KDo X.w D [])) s3.heap.objs.size (cellsFrom (s3.heap.objs.size + 1) scope.names (cloFrom X.env.cells scope.names [])) fp
  show codeAny _ _ (.compStart (.DictComp kx vx [⟨tg, iter, ifs, 0⟩] scope pos) 0 (.ref it) (.ref D) (compEnvC scope (cellsFrom (s3.heap.objs.size + 1) scope.names (cloFrom X.env.cells scope.names [])) s3.heap.objs.size X.env)) (compPost (model X.prog X.w) X.A X.xe use Qf (.ref D) s3.heap.objs.size) { s3 with heap := pushCells (s3.heap.push { cls := .type "dict", data := .dict #[] }) scope.names }
  have nfp : ∀ b ∈ fp, (upd H2 D (KDo X.w D [])) b = none := fun b hb => (f3 b hb).1.1
  generalize hce : compEnvC scope (cellsFrom (s3.heap.objs.size + 1) scope.names (cloFrom X.env.cells scope.names [])) s3.heap.objs.size X.env = ce at I4 pg pt pk pe ⊢
  have cL : ce.locals = s3.heap.objs.size := by subst hce; rfl
  generalize hH3 : upd H2 D (KDo X.w D []) = H3 at I3 I4 pg pt pk pe w0 nfp f3
  generalize hs4 : ({ s3 with heap := pushCells (s3.heap.push { cls := .type "dict", data := .dict #[] }) scope.names } : Shared) = s4 at I4 ⊢
  have st4 : tn 0 s4.heap := T.keep _ _ _ st3 fun b _ o e => by rw [← hs4]; exact pushCells_keeps _ _ _ _ (Heap.get?_push_of_some _ e)
  have stat : ∀ {σ' : L2.St} {H' : Hp} {s' : Shared}, Inv (X.blk s3 H3 scope ce fp) [] σ' H' s' → (∀ b ∈ fp, H' b = none) → ∀ b ∈ fp, FpOk (X.blk s3 H3 scope ce fp) [] H' b := fun {σ' H' s'} I' hn b hb =>
    ⟨hn b hb, (I'.ok.exf b hb).1, I'.ok.exfs b hb, .inl hb, fun x c e => (I'.ok.exf b hb).2 x c e, fun p hp => absurd (show p ∈ ([] : List (Addr × Obj)) ++ [] from hp) (by simp)⟩
  have loop : codeAny (model X.prog X.w) X.A (.compLoop (.DictComp kx vx [⟨tg, iter, ifs, 0⟩] scope pos) 0 (.ref it) (.ref D) ce) (compPost (model X.prog X.w) X.A X.xe use Qf (.ref D) s3.heap.objs.size) s4 := by
    refine compLoop_anyD (fun n s' => ∃ i H', Inv (X.blk s3 H3 scope ce fp) [] (wipe σ (own.map (·.2))) H' s' ∧ tn i s'.heap ∧ (∀ b ∈ fp, H' b = none) ∧ W i n H') ?_ m0 ⟨0, H3, I4, st4, nfp, w0⟩
    rintro n s5 ⟨i, H5, I5, st5, n5, w5⟩
    rcases turn i n H5 w5 with ⟨stop, qq⟩ | ⟨go, Nx, hNx, step⟩
    · have td := T.done (X.blk s3 H3 scope ce fp) rfl rfl rfl hc i [] s5 _ H5 (fun _ _ => False) I5 (stat I5 n5) st5 stop
      refine thnF td fun r s6 ⟨hr, I6⟩ => ?_
      subst hr
      -- back in the def's context
      have I7 : Inv X pins σ H5 s6 := I3.call' (ch := fp) I6.os I6.base I6.hok I6.bare fun b hb => ⟨(f3 b hb).1.2.2.2.1, (f3 b hb).1.2.1, (f3 b hb).1.2.2.2.2.1, (f3 b hb).1.2.2.2.2.2⟩
      have nC : H5 s3.heap.objs.size = none := by
        have z : H5 ce.locals = none := I6.free
        rw [cL] at z
        exact z
      obtain ⟨m, hn, _⟩ := I6.loc
      have hn : s6.heap.Ns ce.locals m := hn
      rw [cL] at hn
      exact hRR D s3.heap.objs.size s6 m H5 I7 qq hn (I3.fpOk (Nat.le_refl _) nC)
    · have ti := T.item (X.blk s3 H3 scope ce fp) rfl rfl rfl hc i [] s5 _ H5 (fun _ _ => False) I5 (stat I5 n5) st5 go
      refine thnF ti fun r s6 ⟨u, hr, h6⟩ => ?_
      subst hr
      refine thnF h6 fun _ s7 ⟨x, H7, I7, r7, y7, st7, n7⟩ => ?_
      have I7' := I7.pinned (stat I7 n7) (T.obj _ _ st7)
      refine thnF (pg.run _ s7 _ H7 x u _ I7' r7 (step x H7 y7)) fun _ s8 ⟨σ8, H8, I8, hw8, q8⟩ => ?_
      refine thnF (pt.run _ s8 σ8 H8 _ I8 q8) fun b s9 ⟨H9, I9, q9⟩ => ?_
      -- the turn's end
      have fin : ∀ {s' : Shared} {H' : Hp}, Inv (X.blk s3 H3 scope ce fp) ([] ++ pinsAt fp s7.heap) σ8 H' s' → Nx H' → ∃ m, m < n ∧ ∃ i H', Inv (X.blk s3 H3 scope ce fp) [] (wipe σ (own.map (·.2))) H' s' ∧ tn i s'.heap ∧ (∀ b ∈ fp, H' b = none) ∧ W i m H' := fun {s' H'} I' nx => by
        obtain ⟨m', hm, w'⟩ := hNx H' nx
        have pin' : ∀ b ∈ fp, ∀ o, s7.heap.get? b = some o → s'.heap.get? b = some o ∧ H' b = none := fun b hb o e =>
          let z := I'.pin (b, o) (List.mem_append_right _ (List.mem_append_right _ (mem_pinsAt hb e)))
          ⟨z.1, z.2.1⟩
        have hl : (wipe σ (own.map (·.2))).length = σ8.length := by rw [← hw8, wipe_length]
        refine ⟨m', hm, i + 1, H', (I'.unpinned (pins := [])).weak hl (fun j v e => ?_), T.keep _ _ _ st7 fun b hb o e => (pin' b hb o e).1, fun b hb => ?_, w'⟩
        · rw [← hw8] at e
          exact (wipe_some e).1
        · obtain ⟨o, e, _⟩ := T.obj _ _ st7 b hb
          exact (pin' b hb o e).2
      cases b with
      | false =>
        simp only [Bool.false_eq_true, if_false] at q9 ⊢
        exact fin I9 q9
      | true =>
        simp only [if_true] at q9 ⊢
        refine thnF (pk.run _ s9 σ8 H9 _ I9 q9) fun z s10 ⟨yk, H10, I10, r10, q10⟩ => ?_
        refine thnF (pe.run _ s10 σ8 H10 _ I10 q10) fun z2 s11 ⟨yv, H11, I11, r11, b, k, xs, ek, hnk, hdp, hD11, hxs, hz11, nx⟩ => ?_
        subst ek
        exact kd_dictSet (X := X.blk s3 H3 scope ce fp) I11 hu hD11 hnk hdp hxs hz11 r10 fun s12 I12 => fin I12 nx
  exact codeAny_compStart_dict loop (T.self X.A 0 _ _ _ st4 loop)
/-- as a value -/
theorem pe_dcK {kx vx tg iter : Expr} {ifs : List Expr} {scope : Scope} {own : List (Str × Nat)} {pos : Pos} {wi : TI} {g : TG} {tt : TT} {tk tv : TE} (hu : X.A.units + 128 < cLine) (hc : X.calm = true) (hN : X.N.Nodup) (hi : PI X tg iter wi) (ok : BlkOk X.N X.env.scope scope own)
    (hg : ∀ (s : Shared) (H : Hp) (C : Addr) (cl : List (Str × Addr)) (fp : List Addr), PG (X.blk s H scope (compEnvC scope cl C X.env) fp) tg g) (ht : ∀ (s : Shared) (H : Hp) (C : Addr) (cl : List (Str × Addr)) (fp : List Addr), PTs (X.blk s H scope (compEnvC scope cl C X.env) fp) ifs tt)
    (hk : ∀ (s : Shared) (H : Hp) (C : Addr) (cl : List (Str × Addr)) (fp : List Addr), PE (X.blk s H scope (compEnvC scope cl C X.env) fp) kx tk)
    (he : ∀ (s : Shared) (H : Hp) (C : Addr) (cl : List (Str × Addr)) (fp : List Addr), PE (X.blk s H scope (compEnvC scope cl C X.env) fp) vx tv) (hs : ∀ x, foldedSetIterable iter X.env x = pure x ) :
    PE X (.DictComp kx vx [⟨tg, iter, ifs, 0⟩] scope pos) (tDcK X.K X.w wi g tt tk tv (own.map (·.2))) := by
  refine ⟨fun pins s σ H Q I h => ?_⟩
  rw [arm_eval_DictComp]
  refine dcK_core hu hc hN I hi ok hg ht hk he hs h fun D C s' m H' I' q hn f => ⟨m, hn, fun h'' sb => ?_⟩
  obtain ⟨f0, f1, f2, f3, f4, f5⟩ := f
  exact ⟨.ref D, H', I'.turned (t' := s'.toks) (fun b o hb e => (sb.2 b hb).trans e) f0 f1 f3 f4 f5, rfl, q⟩
theorem ps_setDcK {i : Nat} {y : Str} {py : Pos} {kx vx tg iter : Expr} {ifs : List Expr} {scope : Scope} {own : List (Str × Nat)} {pos spos : Pos} {wi : TI} {g : TG} {tt : TT} {tk tv : TE} (hu : X.A.units + 128 < cLine) (hc : X.calm = true) (hN : X.N.Nodup) (hy : X.N[i]? = some y) (hyl : X.env.scope.names.lookup y = some .local)
    (hsw : swapsWith (.DictComp kx vx [⟨tg, iter, ifs, 0⟩] scope pos) (some (.Name y py)) spos.line X.env = pure true) (hi : PI X tg iter wi) (ok : BlkOk X.N X.env.scope scope own)
    (hg : ∀ (s : Shared) (H : Hp) (C : Addr) (cl : List (Str × Addr)) (fp : List Addr), PG (X.blk s H scope (compEnvC scope cl C X.env) fp) tg g) (ht : ∀ (s : Shared) (H : Hp) (C : Addr) (cl : List (Str × Addr)) (fp : List Addr), PTs (X.blk s H scope (compEnvC scope cl C X.env) fp) ifs tt)
    (hk : ∀ (s : Shared) (H : Hp) (C : Addr) (cl : List (Str × Addr)) (fp : List Addr), PE (X.blk s H scope (compEnvC scope cl C X.env) fp) kx tk)
    (he : ∀ (s : Shared) (H : Hp) (C : Addr) (cl : List (Str × Addr)) (fp : List Addr), PE (X.blk s H scope (compEnvC scope cl C X.env) fp) vx tv) (hs : ∀ x, foldedSetIterable iter X.env x = pure x) :
    PS X (.Assign [.Name y py] (.DictComp kx vx [⟨tg, iter, ifs, 0⟩] scope pos) spos) (tAsg (tDcK X.K X.w wi g tt tk tv (own.map (·.2))) (gName i)) := by
  refine ⟨fun pins s σ H D I h => ?_⟩
  rw [exec_Assign_Name_used _ _ _ _ hsw]
  refine wpAny_bind (wpAny_standAt (wpAny_bind ?_))
  show wpAny _ X.A (do let _ ← comprehension (.DictComp kx vx [⟨tg, iter, ifs, 0⟩] scope pos) scope X.env (firstIterPos [⟨tg, iter, ifs, 0⟩] pos) newDict false (eval iter X.env) (some (assign (.Name y py) X.env))) _ _ s
  have h : tDcK X.K X.w wi g tt tk tv (own.map (·.2)) σ H (fun x H1 => gName i x σ H1 D.nx) := h
  refine wpAny_bind (thn (dcK_core (Qf := fun _ s' => SP X pins D .next s') hu hc hN I hi ok hg ht hk he hs h fun L C s' m H' I' q hn f => ?_) fun _ s' hq => wpAny_pure (wpAny_pure hq))
  show wpAny _ _ (assign (.Name y py) X.env (.ref L)) _ _ _
  refine wpAny_assign_Name (store_ok2 (v := V.ref L) I' hN hy (.inl hyl) rfl (fun s2 I2 ⟨a, sb, ha⟩ => ?_) (.inr hyl))
  obtain ⟨f0, f1, f2, f3, f4, f5⟩ := f
  have haC : C ≠ a := by
    rcases ha with z | z
    · rw [z]; exact f1
    · exact fun e => f4 y a z e.symm
  refine ⟨m, hn.sameBut sb haC, fun h3 sb3 => ?_⟩
  exact ⟨_, H', I2.turned (t' := s2.toks) (fun b o hb e => (sb3.2 b hb).trans e) f0 f1 f3 f4 f5, q⟩
theorem sw_trueD {kx vx : Expr} {gs : List Comprehension} {scope : Scope} {pos py : Pos} {y : Str} {l : Nat} {env : PySem.Env} (hk : env.scope.kind = .function) (hy : env.scope.names.lookup y = some .local) (hl : (py.line == pos.line) = true)
    (ha : (scope.names.any fun (n, k) => n == y && (k == .local || k == .cell)) = false) : swapsWith (.DictComp kx vx gs scope pos) (some (.Name y py)) l env = pure true := by
  have ky : env.kindOf y = some .local := hy
  have hb : env.blockKind = .function := by unfold Env.blockKind; rw [hk]; rfl
  unfold swapsWith
  simp only [hb, ky, ha, Expr.pos, hl]
  rfl
end
end Ev

set_option Elab.async false
set_option linter.all false
set_option maxRecDepth 100000
set_option maxHeartbeats 4000000
/-! Ev41: {k: v for ..}, the keys tuples: the rule -/
namespace Ev
open PySem PySem.Spec PyProof.Rows L2 LamX NdefX
theorem wipe_mem_self {σ : L2.St} {u : Nat} : ∀ (vs : List Nat), u ∈ vs → (wipe σ vs).set u none = wipe σ vs
  | [], h => nomatch h
  | w :: ws, h => by
    show ((wipe σ ws).set w none).set u none = (wipe σ ws).set w none
    by_cases e : u = w
    · rw [e, List.set_set]
    · rw [List.set_comm _ _ (Ne.symm e), wipe_mem_self ws ((List.mem_cons.mp h).resolve_left e)]
theorem wipe_wipe {σ : L2.St} {vs : List Nat} : wipe (wipe σ vs) vs = wipe σ vs := by
  have gen : ∀ (us : List Nat), (∀ u ∈ us, u ∈ vs) → wipe (wipe σ vs) us = wipe σ vs := fun us => by
    induction us with
    | nil => intro _; rfl
    | cons u us ih =>
      intro hu
      show (wipe (wipe σ vs) us).set u none = _
      rw [ih fun z hz => hu z (List.mem_cons_of_mem _ hz)]
      exact wipe_mem_self vs (hu u List.mem_cons_self)
  exact gen vs fun _ z => z
def loopD (g : MG) (t : MT) (a b : ME) (f : Cal) (e : Env) (n : Nat) (k : Cs → Bool) : Nat → Itr → Cs → Bool
  | 0, _, _ => false
  | fu + 1, it, cs => nxI it cs (k cs) fun d it' => g d f e cs (fun e1 cs1 => t f e1 cs1 (fun q cs2 => match q with
    | true => a f e1 cs2 (fun y cs3 => b f e1 cs3 (fun _ cs4 => getC cs4.l n fun q => match q with
      | .kd ks => (match y with
        | .tup us => (match okK 8 (.tup us) && fits ks with
          | true => putKs ks (.tup us) fun ks' => setL cs4.l n (.kd ks') fun l => loopD g t a b f e n k fu it' ⟨cs4.nx, l⟩
          | false => false)
        | _ => false)
      | _ => false) fun _ _ _ => false) fun _ _ _ => false
    | false => loopD g t a b f e n k fu it' cs2) fun _ _ _ => false) fun _ _ _ => false
def mDcK (fu : Nat) (vs : List Nat) (mi : MI) (g : MG) (t : MT) (a b : ME) : ME := fun f e cs k x => mi f e cs (fun it cs1 => fNat (cs1.nx + 1) fun nx => wipeE e vs fun ew => loopD g t a b f ew cs1.nx (fun cs2 => k (.cel cs1.nx) cs2) fu it ⟨nx, (cs1.nx, .kd []) :: cs1.l⟩) x
section
variable {c : Cxt} {X : Cx} {e : Expr} {pos : Pos} {vs : List Nat}
theorem dcK_read {r : Nat → Option Addr} {F B H : Hp} {σ : L2.St} {ds : Env} {cs : Cs} {K : KE} {x : KX} {Q : VK} {mi : MI} {g : MG} {t : MT} {a b : ME} {fu : Nat} (hbx : c.bx = []) (hw : c.G.w = X.w)
    (hm : mDcK fu vs mi g t a b c.cal ds cs K x = true) (R : RS c X r F B σ H ds cs)
    (kk : ∀ r' F' B' H' v d cs', Ext r F B r' F' B' → RS c X r' F' B' σ H' ds cs' → Rep c.G r' F' v d → K d cs' = true → Q v H') (xk : Xok c X r F B σ ds x) :
    tDcK X.K X.w (tI c X mi) (tGw c.blk X vs g) (tT c.blk X t) (tE c.blk X a) (tE c.blk X b) vs σ H Q := by
  refine ⟨r, F, B, ds, cs, _, x, hm, R, fun r1 F1 B1 H1 J P it cs1 E1 R1 wk hP h1 => ?_, xk⟩
  rw [fNat_eq, wipeE_eq] at h1
  intro D hD
  have R1' : RL c.G c.T X [] r1 F1 B1 σ H1 ds cs1 := by have q : RL c.G c.T X c.bx r1 F1 B1 σ H1 ds cs1 := R1; rw [hbx] at q; exact q
  have no : ∀ a, ownB X [] a → a ≠ D := fun a ⟨i, hi, _⟩ => absurd hi (by simp)
  have R2' := R1'.wipe vs
  obtain ⟨R3', E3⟩ := RL.newX (ce := .kd []) (o := KDo X.w D []) R2' hD no ⟨D, [], updR_same _ _, ⟨R1'.rc.freeF hD, R1'.rc.freeB hD⟩, by rw [hw]; exact upd_same, .nil⟩
  refine ⟨fun i n H => ∃ r2 F2 B2 cs2 it, Ext r1 F1 B1 r2 F2 B2 ∧ RL c.G c.T X [] r2 F2 B2 (wipe σ vs) H (wipeL ds vs) cs2 ∧ r2 cs1.nx = some D ∧ P i it r2 F2 ∧
    loopD g t a b c.cal (wipeL ds vs) cs1.nx (fun cs2 => K (.cel cs1.nx) cs2) n it cs2 = true, ⟨fu, _, F1, B1, _, it, E3, R3', updR_same _ _, wk.ext _ _ _ _ _ _ _ _ hP E3, h1⟩, ?_⟩
  rintro i n H ⟨r2, F2, B2, cs2, it, E2, R2, hr2, hP2, h2⟩
  cases n with
  | zero => cases h2
  | succ n =>
    unfold loopD at h2
    rcases wk.step i it _ _ _ _ _ _ _ _ hP2 R2.rc h2 with ⟨q1, q2⟩ | ⟨q1, d, it', q2, q3⟩
    · refine .inl ⟨q2, ?_⟩
      have fin : RS c X r2 F2 B2 σ H ds cs2 := by
        show RL c.G c.T X c.bx r2 F2 B2 σ H ds cs2
        rw [hbx]
        exact ⟨R2.rc, fun i d hi h => by
          obtain ⟨v, w1, w2⟩ := R1'.slot i d hi h
          exact ⟨v, w1, w2.ext E2⟩, fun i hi => absurd hi (by simp), fun i hi => absurd hi (by simp), R1'.len, R1'.kf⟩
      exact kk _ _ _ _ _ _ _ (E1.trans E2) fin (.cel hr2) q1
    · refine .inr ⟨q1, fun H' => ∃ r2 F2 B2 cs2, Ext r1 F1 B1 r2 F2 B2 ∧ RL c.G c.T X [] r2 F2 B2 (wipe σ vs) H' (wipeL ds vs) cs2 ∧ r2 cs1.nx = some D ∧ P (i + 1) it' r2 F2 ∧
        loopD g t a b c.cal (wipeL ds vs) cs1.nx (fun cs2 => K (.cel cs1.nx) cs2) n it' cs2 = true, fun H' ⟨r3, F3, B3, cs3, z1, z2, z3, z4, z5⟩ => ⟨n, Nat.lt_succ_self _, r3, F3, B3, cs3, it', z1, z2, z3, z4, z5⟩, fun v H' hy => ?_⟩
      obtain ⟨F3, hst, hv, hP3⟩ := q3 v H' hy
      obtain ⟨R3, E3⟩ := R2.step hst
      have R3b : RS c.blk X r2 F3 B2 (wipe σ vs) H' (wipeL ds vs) cs2 := by
        show RL c.G c.T X c.bx _ _ _ _ _ _ _
        rw [hbx]; exact R3
      refine ⟨r2, F3, B2, _, cs2, d, _, q2, R3b, hv, fun r4 F4 B4 H4 σ4 ds4 cs4 E4 R4 hw4 h4 => ?_⟩
      refine ⟨hw4.trans wipe_wipe, ?_⟩
      have nox : ∀ {r F B σ ds}, Xok c.blk X r F B σ ds fun _ _ _ => false := fun {r F B σ ds} => Xok.no
      have toW : ∀ {r6 F6 B6 H6 cs6}, RS c.blk X r6 F6 B6 σ4 H6 ds4 cs6 → Ext r2 F3 B2 r6 F6 B6 → RL c.G c.T X [] r6 F6 B6 (wipe σ vs) H6 (wipeL ds vs) cs6 := fun {r6 F6 B6 H6 cs6} R6 E6 => by
        have q : RL c.G c.T X c.bx r6 F6 B6 σ4 H6 ds4 cs6 := R6
        rw [hbx] at q
        exact ⟨q.rc, fun i d hi h => by
          obtain ⟨v, w1, w2⟩ := R3.slot i d hi h
          exact ⟨v, w1, w2.ext E6⟩, fun i hi => absurd hi (by simp), fun i hi => absurd hi (by simp), R3.len, R3.kf⟩
      refine ⟨r4, F4, B4, ds4, cs4, _, _, h4, R4, fun r5 F5 B5 H5 q cs5 E5 R5 h5 => ?_, nox⟩
      have E25 := E3.trans (E4.trans E5)
      cases q with
      | true =>
        dsimp only
        rw [if_pos rfl]
        refine ⟨r5, F5, B5, ds4, cs5, _, _, h5, R5, fun r6 F6 B6 H6 y yd cs6 E6 R6 hy6 h6 => ?_, nox⟩
        refine ⟨r6, F6, B6, ds4, cs6, _, _, h6, R6, fun r7 F7 B7 H7 z zd cs7 E7 R7 hz7 h7 => ?_, nox⟩
        have E27 := (E25.trans E6).trans E7
        have E37 := ((E4.trans E5).trans E6).trans E7
        have R7' := toW R7 E37
        have hr7 := E27.r _ _ hr2
        have hy7 := hy6.ext E7
        obtain ⟨q, w1, w2⟩ := getC_true h7
        have w1 : cs7.get cs1.nx = some q := w1
        split at w2
        case h_2 => cases w2
        rename_i ks _
        split at w2
        case h_2 => cases w2
        rename_i us
        split at w2
        case h_2 => cases w2
        rename_i okf
        obtain ⟨ok, ff⟩ := Bool.and_eq_true_iff.mp okf
        obtain ⟨a', xs, z1, z2, z3, z4⟩ := R7'.rc.cell _ _ w1
        rw [hr7] at z1; cases z1
        obtain ⟨b', ws, ev, t1, t2⟩ := id hy7.tupI
        subst ev
        have fl := Nat.le_of_ble_eq_true ff
        refine ⟨b', nkD (.tup us), xs, rfl, nkv_ok R7'.kf R7'.rc.subF 8 _ _ ok hy7, depthK_ok 8 _ ok, by rw [← hw]; exact z3, KDk.keys R7'.kf z4 R7'.rc.subF, by rw [z4.len, sizeLine_eq]; omega, ?_⟩
        unfold putKs at w2
        rw [hasKD_ok z4 ok] at w2
        unfold putKD
        split at w2
        · rename_i hk
          rw [if_pos hk]
          dsimp only at w2
          rw [setL_eq] at w2
          exact ⟨r7, F7, B7, _, E2.trans E27, RL.writeX (ce' := .kd ks) R7' w1 (fun od z => nomatch z) (fun z => nomatch z) hr7 z3 .kd ⟨D, xs, hr7, z2, by rw [hw]; exact upd_same, z4⟩, hr7, wk.ext _ _ _ _ _ _ _ _ hP3 E37, w2⟩
        · rename_i hk
          rw [if_neg (by rw [hk]; exact fun z => nomatch z)]
          rw [fList_eq, setL_eq] at w2
          exact ⟨r7, F7, B7, _, E2.trans E27, RL.writeX (ce' := .kd (ks ++ [.tup us])) R7' w1 (fun od z => nomatch z) (fun z => nomatch z) hr7 z3 .kd ⟨D, _, hr7, z2, by rw [hw]; exact upd_same, z4.snoc ⟨rfl, ok, hy7⟩⟩, hr7, wk.ext _ _ _ _ _ _ _ _ hP3 E37, w2⟩
      | false =>
        dsimp only
        rw [if_neg Bool.false_ne_true]
        have R5' := toW R5 (E4.trans E5)
        exact ⟨r5, F5, B5, cs5, E2.trans E25, R5', E25.r _ _ hr2, wk.ext _ _ _ _ _ _ _ _ hP3 (E4.trans E5), h5⟩
variable {kx vx tg iter : Expr} {ifs : List Expr} {scope : Scope} {own : List (Str × Nat)} {mi : MI} {g : MG} {t : MT} {a b : ME}
theorem xe_dcK {k : Nat} (fu : Nat) (bd : Bex c X k) (hbx : c.bx = []) (hw : c.G.w = X.w) (hi : XI c X tg iter mi) (ok : BlkOk X.N X.env.scope scope own)
    (hg : ∀ (s : Shared) (H : Hp) (C : Addr) (cl : List (Str × Addr)) (fp : List Addr), XGw c.blk (X.blk s H scope (compEnvC scope cl C X.env) fp) (own.map (·.2)) tg g) (ht : ∀ (s : Shared) (H : Hp) (C : Addr) (cl : List (Str × Addr)) (fp : List Addr), XTs c.blk (X.blk s H scope (compEnvC scope cl C X.env) fp) ifs t)
    (hk : ∀ (s : Shared) (H : Hp) (C : Addr) (cl : List (Str × Addr)) (fp : List Addr), XE c.blk (X.blk s H scope (compEnvC scope cl C X.env) fp) kx a) (hv : ∀ (s : Shared) (H : Hp) (C : Addr) (cl : List (Str × Addr)) (fp : List Addr), XE c.blk (X.blk s H scope (compEnvC scope cl C X.env) fp) vx b) (hs : ∀ x, foldedSetIterable iter X.env x = pure x) :
    XE c X (.DictComp kx vx [⟨tg, iter, ifs, 0⟩] scope pos) (mDcK fu (own.map (·.2)) mi g t a b) :=
  pe_imp (pe_dcK bd.u128 bd.calm bd.nd hi ok (fun s H C cl fp => pg_imp (hg s H C cl fp) fun v σ H Q h => tGw_to (c := c.blk) (X := X) (by rfl) hbx h) (fun s H C cl fp => pts_imp (ht s H C cl fp) fun σ H Q h => tT_to (c := c.blk) (X := X) (by rfl) hbx h)
    (fun s H C cl fp => pe_imp (hk s H C cl fp) fun σ H Q h => tE_to (c := c.blk) (X := X) (by rfl) hbx h) (fun s H C cl fp => pe_imp (hv s H C cl fp) fun σ H Q h => tE_to (c := c.blk) (X := X) (by rfl) hbx h) hs) fun σ H Q ⟨r, F, B, ds, cs, K, x, hm, R, kk, xk⟩ =>
    dcK_read hbx hw hm R kk xk
theorem xs_setDcK {k : Nat} {i : Nat} {y : Str} {py spos : Pos} (fu : Nat) (bd : Bex c X k) (hbx : c.bx = []) (hw : c.G.w = X.w) (hy : X.N[i]? = some y) (hyl : X.env.scope.names.lookup y = some .local)
    (hsw : swapsWith (.DictComp kx vx [⟨tg, iter, ifs, 0⟩] scope pos) (some (.Name y py)) spos.line X.env = pure true) (hi : XI c X tg iter mi) (ok : BlkOk X.N X.env.scope scope own)
    (hg : ∀ (s : Shared) (H : Hp) (C : Addr) (cl : List (Str × Addr)) (fp : List Addr), XGw c.blk (X.blk s H scope (compEnvC scope cl C X.env) fp) (own.map (·.2)) tg g) (ht : ∀ (s : Shared) (H : Hp) (C : Addr) (cl : List (Str × Addr)) (fp : List Addr), XTs c.blk (X.blk s H scope (compEnvC scope cl C X.env) fp) ifs t)
    (hk : ∀ (s : Shared) (H : Hp) (C : Addr) (cl : List (Str × Addr)) (fp : List Addr), XE c.blk (X.blk s H scope (compEnvC scope cl C X.env) fp) kx a) (hv : ∀ (s : Shared) (H : Hp) (C : Addr) (cl : List (Str × Addr)) (fp : List Addr), XE c.blk (X.blk s H scope (compEnvC scope cl C X.env) fp) vx b) (hs : ∀ x, foldedSetIterable iter X.env x = pure x) :
    XS c X (.Assign [.Name y py] (.DictComp kx vx [⟨tg, iter, ifs, 0⟩] scope pos) spos) (sAsg (mDcK fu (own.map (·.2)) mi g t a b) (gVar i)) := by
  refine ps_imp (ps2_of (ps_setDcK bd.u128 bd.calm bd.nd hy hyl hsw hi ok (fun s H C cl fp => pg_imp (hg s H C cl fp) fun v σ H Q h => tGw_to (c := c.blk) (X := X) (by rfl) hbx h) (fun s H C cl fp => pts_imp (ht s H C cl fp) fun σ H Q h => tT_to (c := c.blk) (X := X) (by rfl) hbx h)
    (fun s H C cl fp => pe_imp (hk s H C cl fp) fun σ H Q h => tE_to (c := c.blk) (X := X) (by rfl) hbx h) (fun s H C cl fp => pe_imp (hv s H C cl fp) fun σ H Q h => tE_to (c := c.blk) (X := X) (by rfl) hbx h) hs)) fun D σ H ⟨r, F, B, ds, cs, k, x, hm, R, s⟩ => ?_
  refine dcK_read hbx hw hm R (fun r' F' B' H' v d cs' E R' hv h' => ?_) (XSok.at_ s.2.2.2.2 _ _)
  unfold gVar at h'
  rw [setE_eq] at h'
  exact s.1 _ _ _ _ _ _ _ E (RL.set R' (by rw [hbx]; simp) hv) h'
end
end Ev

set_option Elab.async false
set_option linter.all false
set_option maxRecDepth 100000
set_option maxHeartbeats 4000000
/-! Ev42: a tuple once is the tuple -/
namespace L2
open PySem PySem.Spec PyProof.Rows
theorem tuple_mulOne (l : Addr) (items : Array Value) (n : Nat) (dd : Option Addr) (sl : Array (Option Value)) (u : Tok) :
    Meets (Builtin.«tuple.__mul__» ⟨[.ref l, .int 1 u], []⟩) (fun _ R s => s.heap.get? l = some { cls := .type "tuple", dict := dd, data := .seq items n, slots := sl } ∧ R (.ok (.ret (.ref l))) s) :=
  .of_wp fun prog w A R s h => by
    obtain ⟨hp, g, d, tk, os⟩ := s
    obtain ⟨hl, h⟩ := h
    have f1 := AutoSeq1.idx_int
    have c0 : (decide ((1 : Int) < -(2 ^ 63)) || decide ((1 : Int) ≥ 2 ^ 63)) = false := by decide
    have c1 : (items.isEmpty || (1 : Int) == 1) = true := by cases items.isEmpty <;> rfl
    wp_walk using wpAny_loadPart' hl
    repeat (first
      | (refine wpAny_ite_false (decide_eq_false (by rw [c0]; exact Bool.false_ne_true)) ?_; wp_walk using wpAny_loadPart' hl)
      | (refine wpAny_ite_true (decide_eq_true (by rw [c1])) ?_; wp_walk using wpAny_loadPart' hl))
    exact ⟨_, rfl, h⟩
/-- t * 1 -/
def rRepT1 (K : PySem.W.Frag) : R2 := fun x y H Q => ∃ l xs, x = .ref l ∧ y = .int 1 ∧ SqT K H l xs ∧ Q (.ref l) H
section
variable {X : Cx}
theorem op_repT1 : OpR X (binaryOp .Mult) (rRepT1 X.K) := by
  intro pins s σ H x y v u Q I rx ry h
  obtain ⟨l, xs, rfl, rfl, hT, q⟩ := h
  cases rx
  obtain ⟨t, rfl⟩ := ry
  obtain ⟨its, r, ⟨⟨cls, dd, data, sl⟩, ho, hc, n, hd⟩, hs⟩ := I.tuple hT
  simp only at hc hd
  subst hc hd
  exact wpAny_binaryOp_repeat_ref (T := "tuple") (U := "int") (by decide) ⟨_, ho, rfl⟩ (fun s' => typeIs_int s' 1 t) noFill_tuple_mul F.fills_int_mul F.slot_int_rmul repeat_tuple F.slot_int_index.lookup
    (call_meets F.slot_int_rmul (typeIs_int s 1 t) F.entry_int_rmul (F.args_int_rmul_2 _ _) (int_rmul_tuple 1 t l its.toArray n dd sl)
      ⟨ho, rfl, ⟨_, ho, rfl⟩, call_meets F.slot_tuple_mul ⟨_, ho, rfl⟩ F.entry_tuple_mul (F.args_tuple_mul_2 _ _) (tuple_mulOne l its.toArray n dd sl t) ⟨ho, ⟨.ref l, H, I, rfl, q⟩⟩⟩)
end
end L2
namespace Ev
open PySem PySem.Spec PyProof.Rows L2 LamX NdefX
section
variable {c : Cxt} {X : Cx} {a b : Expr} {pos : Pos} {ma mb : ME}
def oMul3 (pol : Bool) : O2 := fun u v cs k => match u, v with
  | .tup xs, .int (.ofNat 1) => k (.tup xs) cs
  | _, _ => oMul2 pol u v cs k
theorem oMul3_ok (pol : Bool) : O2ok c X (fun x y H Q => (((rI CMul fun i j => .int (i * j)) x y H Q ∨ rRep x y H Q) ∨ (rMulS x y H Q ∨ rRepT X.K x y H Q)) ∨ rRepT1 X.K x y H Q) (oMul3 pol) := by
  intro r F B σ H ds cs K Q v w d e R hv hw h k
  unfold oMul3 at h
  split at h
  · cases hw
    obtain ⟨a, vs, ev, h1, hs⟩ := id hv.tupI
    subst ev
    exact .inr ⟨a, vs, rfl, rfl, (h1.mono R.rc.subF).sq R.kf, fun _ => k _ _ _ _ _ _ _ (Ext.refl _ _ _) R hv h⟩
  · exact .inl (oMul2_ok pol r F B σ H ds cs K Q v w d e R hv hw h k)
theorem xe_mul3 (pol : Bool) (ha : XE c X a ma) (hb : XE c X b mb) : XE c X (.BinOp a .Mult b pos) (mOp (oMul3 pol) ma mb) := xe_op (((op_mul.or op_rep).or (op_mulS.or op_repT)).or op_repT1) (oMul3_ok pol) ha hb
end
end Ev

namespace Kk76
open PySem PySem.Spec PyProof.Rows L2 LamX NdefX Ev
abbrev N_law : List Str := ["script", "stream", "asks", "odds", "many", "three"]
abbrev N_corners_in_turn : List Str := ["planes", "land", "kept", "row", "corner"]
abbrev N_area : List Str := ["planes", "land", "kept", "row", "corners", "found", "one", "other"]
abbrev N_middle : List Str := ["planes", "land", "kept", "row", "corners", "found", "corner", "one", "other"]
abbrev N_neighbours_in_turn : List Str := ["planes", "land", "kept", "row", "corners", "found", "one", "other", "on", "index", "plane", "end"]
abbrev N__law_all_refused : List Str := ["word", "odds", "asks", "ask", "odd"]
abbrev N_most_lands : List Str := ["many", "count"]
abbrev N_most_bounded : List Str := ["many", "count"]
abbrev N_most_corners : List Str := ["many", "count"]
abbrev N_general_or_lot : List Str := ["many", "planes", "kept", "size", "lot", "index"]
abbrev N_lands_lacking : List Str := ["many", "planes", "kept"]
abbrev N__law_planes_refused : List Str := ["asks", "ask", "odd", "index"]
abbrev N_need_boxed : List Str := ["planes", "land", "kept", "row"]
abbrev N__law_same : List Str := ["found", "due", "mine", "theirs"]
abbrev N__law_met : List Str := ["ask", "e"]
abbrev N__law_is_very : List Str := ["word", "ask", "found", "odd"]
abbrev N_check_count : List Str := ["many", "count"]
abbrev N_need_planes : List Str := ["many", "planes", "index", "one"]
abbrev N__law_odd_planes : List Str := ["odds"]
abbrev N_need_land : List Str := ["many", "planes", "land", "kept", "row"]
abbrev N_check_many : List Str := ["many"]
abbrev N_is_number : List Str := ["thing"]
abbrev N_planes_fault : List Str := ["many", "thing", "seen", "index", "one", "kept"]
abbrev N_kept_plane : List Str := ["many", "thing", "number"]
abbrev N_kept_land : List Str := ["many", "planes", "thing", "row"]
abbrev N_is_whole : List Str := ["thing"]
abbrev N_is_list : List Str := ["thing"]
abbrev N_plain_of : List Str := ["plane", "numbers", "bound", "divisor", "number"]
abbrev N_is_row : List Str := ["thing", "many"]
abbrev N_kept_row : List Str := ["planes", "thing", "words", "side"]
abbrev N_rows_by : List Str := ["many", "planes", "point"]
abbrev N_common_divisor : List Str := ["one", "other"]
abbrev N_points_by : List Str := ["many", "planes", "found", "index", "plane", "ahead", "point", "ways", "one", "cuts", "rows", "way", "step", "number"]
abbrev N_sides : List Str := ["planes", "point", "plane"]
abbrev N_points_of : List Str := ["many", "planes", "rows", "heads", "row", "point", "head", "ways", "free", "way", "column", "place"]
abbrev N_unlike_cuts : List Str := ["planes", "point", "ways", "found", "plane", "cut"]
abbrev N_lifted : List Str := ["point", "ways", "numbers", "found", "way", "by"]
abbrev N_step_for : List Str := ["planes", "point", "way", "found", "plane", "speed", "worth", "most"]
abbrev N_stepped : List Str := ["point", "way", "by", "one", "step"]
abbrev N_minus : List Str := ["one", "other"]
abbrev N_side_of : List Str := ["plane", "point", "above"]
abbrev N_system : List Str := ["planes", "many", "found", "index", "numbers", "bound", "own", "place", "number"]
abbrev N_cut_by : List Str := ["plane", "point", "ways", "numbers", "number", "bound", "below", "put", "way"]
abbrev N_worth_at : List Str := ["plane", "point", "number"]
abbrev N_over : List Str := ["one", "other"]
abbrev N_times : List Str := ["one", "other"]
abbrev N_size_of : List Str := ["number"]
abbrev N_is_under : List Str := ["one", "other"]
abbrev N_plus : List Str := ["one", "other"]
abbrev N_reduced : List Str := ["above", "below", "divisor"]
abbrev N_reduced_rows : List Str := ["rows", "columns", "left", "heads", "column", "index", "picks", "done", "head", "row", "one"]
abbrev N_dot : List Str := ["one", "other", "mine", "theirs"]
abbrev N_total : List Str := ["things", "found", "thing"]
abbrev NL1 : List Str := ["odd", "three"]
def le1 : Expr := exP (stE (stP (top 106) [21])) [0]
def lt1 : LTxt := ⟨(envOfC "law" (defScope (top 106)) 0 0 .none).qual ++ "<lambda>", lamP le1, lamE le1, lamS le1, ["three"]⟩
abbrev NL2 : List Str := ["odd", "three"]
def le2 : Expr := exP (stE (stP (top 106) [22])) [1]
def lt2 : LTxt := ⟨(envOfC "law" (defScope (top 106)) 0 0 .none).qual ++ "<lambda>", lamP le2, lamE le2, lamS le2, ["three"]⟩
abbrev NL3 : List Str := ["odd", "three"]
def le3 : Expr := exP (stE (stP (top 106) [23])) [1]
def lt3 : LTxt := ⟨(envOfC "law" (defScope (top 106)) 0 0 .none).qual ++ "<lambda>", lamP le3, lamE le3, lamS le3, ["three"]⟩
abbrev NL4 : List Str := ["odd", "three"]
def le4 : Expr := exP (stE (stP (top 106) [24])) [1]
def lt4 : LTxt := ⟨(envOfC "law" (defScope (top 106)) 0 0 .none).qual ++ "<lambda>", lamP le4, lamE le4, lamS le4, ["three"]⟩
abbrev NL5 : List Str := ["odd", "many"]
def le5 : Expr := exP (stE (stP (top 106) [15])) [0]
def lt5 : LTxt := ⟨(envOfC "law" (defScope (top 106)) 0 0 .none).qual ++ "<lambda>", lamP le5, lamE le5, lamS le5, ["many"]⟩
abbrev NL6 : List Str := ["odd", "many"]
def le6 : Expr := exP (stE (stP (top 106) [16])) [1]
def lt6 : LTxt := ⟨(envOfC "law" (defScope (top 106)) 0 0 .none).qual ++ "<lambda>", lamP le6, lamE le6, lamS le6, ["many"]⟩
abbrev NL7 : List Str := ["odd", "many"]
def le7 : Expr := exP (stE (stP (top 106) [17])) [1]
def lt7 : LTxt := ⟨(envOfC "law" (defScope (top 106)) 0 0 .none).qual ++ "<lambda>", lamP le7, lamE le7, lamS le7, ["many"]⟩
abbrev NL8 : List Str := ["odd"]
def le8 : Expr := exP (stE (stP (top 106) [7])) [0]
def lt8 : LTxt := ⟨(envOfC "law" (defScope (top 106)) 0 0 .none).qual ++ "<lambda>", lamP le8, lamE le8, lamS le8, []⟩
abbrev NL9 : List Str := ["odd"]
def le9 : Expr := exP (stE (stP (top 106) [8])) [1]
def lt9 : LTxt := ⟨(envOfC "law" (defScope (top 106)) 0 0 .none).qual ++ "<lambda>", lamP le9, lamE le9, lamS le9, []⟩
abbrev NL10 : List Str := ["odd"]
def le10 : Expr := exP (stE (stP (top 106) [9])) [1]
def lt10 : LTxt := ⟨(envOfC "law" (defScope (top 106)) 0 0 .none).qual ++ "<lambda>", lamP le10, lamE le10, lamS le10, []⟩
abbrev NL11 : List Str := ["odd"]
def le11 : Expr := exP (stE (stP (top 106) [10])) [1]
def lt11 : LTxt := ⟨(envOfC "law" (defScope (top 106)) 0 0 .none).qual ++ "<lambda>", lamP le11, lamE le11, lamS le11, []⟩
abbrev NL12 : List Str := ["odd"]
def le12 : Expr := exP (stE (stP (top 106) [11])) [1]
def lt12 : LTxt := ⟨(envOfC "law" (defScope (top 106)) 0 0 .none).qual ++ "<lambda>", lamP le12, lamE le12, lamS le12, []⟩
abbrev NL13 : List Str := ["odd"]
def le13 : Expr := exP (stE (stP (top 106) [12])) [1]
def lt13 : LTxt := ⟨(envOfC "law" (defScope (top 106)) 0 0 .none).qual ++ "<lambda>", lamP le13, lamE le13, lamS le13, []⟩
abbrev NL14 : List Str := ["odd"]
def le14 : Expr := exP (stE (stP (top 106) [1])) [0]
def lt14 : LTxt := ⟨(envOfC "law" (defScope (top 106)) 0 0 .none).qual ++ "<lambda>", lamP le14, lamE le14, lamS le14, []⟩
abbrev NL15 : List Str := ["odd"]
def le15 : Expr := exP (stE (stP (top 106) [2])) [1]
def lt15 : LTxt := ⟨(envOfC "law" (defScope (top 106)) 0 0 .none).qual ++ "<lambda>", lamP le15, lamE le15, lamS le15, []⟩
abbrev NL16 : List Str := ["odd"]
def le16 : Expr := exP (stE (stP (top 106) [3])) [1]
def lt16 : LTxt := ⟨(envOfC "law" (defScope (top 106)) 0 0 .none).qual ++ "<lambda>", lamP le16, lamE le16, lamS le16, []⟩
abbrev NL17 : List Str := ["odd"]
def le17 : Expr := exP (stE (stP (top 106) [4])) [1]
def lt17 : LTxt := ⟨(envOfC "law" (defScope (top 106)) 0 0 .none).qual ++ "<lambda>", lamP le17, lamE le17, lamS le17, []⟩
abbrev NL18 : List Str := ["odd"]
def le18 : Expr := exP (stE (stP (top 106) [5])) [1]
def lt18 : LTxt := ⟨(envOfC "law" (defScope (top 106)) 0 0 .none).qual ++ "<lambda>", lamP le18, lamE le18, lamS le18, []⟩
abbrev NL19 : List Str := ["ask", "odd"]
def le19 : Expr := exP (stE (stP (top 102) [0, 0])) [0, 0, 1, 0, 1, 1]
def lt19 : LTxt := ⟨(envOfC "_law_all_refused" (defScope (top 102)) 0 0 .none).qual ++ "<lambda>", lamP le19, lamE le19, lamS le19, ["ask", "odd"]⟩
abbrev NL20 : List Str := ["ask", "odd"]
def le20 : Expr := exP (stE (stP (top 104) [0, 0])) [0, 1, 0, 1, 1]
def lt20 : LTxt := ⟨(envOfC "_law_planes_refused" (defScope (top 104)) 0 0 .none).qual ++ "<lambda>", lamP le20, lamE le20, lamS le20, ["ask", "odd"]⟩
abbrev NL21 : List Str := ["ask", "odd"]
def le21 : Expr := exP (stE (stP (top 101) [1])) [1]
def lt21 : LTxt := ⟨(envOfC "_law_is_very" (defScope (top 101)) 0 0 .none).qual ++ "<lambda>", lamP le21, lamE le21, lamS le21, ["ask", "odd"]⟩
def ltab : LTab := [(520, 12, lt1), (521, 16, lt2), (522, 16, lt3), (523, 16, lt4), (513, 12, lt5), (514, 16, lt6), (515, 16, lt7), (504, 12, lt8), (505, 16, lt9), (506, 16, lt10), (507, 16, lt11), (508, 16, lt12), (509, 16, lt13), (497, 12, lt14), (498, 16, lt15), (499, 16, lt16), (500, 16, lt17), (501, 16, lt18), (472, 39, lt19), (481, 39, lt20), (467, 21, lt21)]
def GG (w : World) (K : PySem.W.Frag) : Gs := ⟨fun _ => 0, lamFind ltab, w, K, ktOf K ktab, ktOf_ok K ktab, ktOf_ty K ktab⟩
def ST0_0 : StD := ⟨[none, some (.cel 3), none, none, some (.cel 0), some (.cel 1)], ⟨1000000, [(3, .strm 2 0), (2, .raw), (1, .box none), (0, .box none)]⟩⟩
def C0 : List StD := [ST0_0]
def ST1_0 : StD := ⟨[none, some (.cel 3), none, none, some (.cel 0), some (.cel 1)], ⟨2000000, [(3, .strm 2 0), (2, .raw), (1, .box none), (0, .box none)]⟩⟩
def C1 : List StD := [ST1_0]
def ST2_0 : StD := ⟨[none, some (.cel 3), none, none, some (.cel 0), some (.cel 1)], ⟨3000000, [(3, .strm 2 1), (2, .raw), (1, .box none), (0, .box (some (.int 1)))]⟩⟩
def ST2_1 : StD := ⟨[none, some (.cel 3), none, none, some (.cel 0), some (.cel 1)], ⟨3000000, [(3, .strm 2 1), (2, .raw), (1, .box none), (0, .box (some (.int 2)))]⟩⟩
def ST2_2 : StD := ⟨[none, some (.cel 3), none, none, some (.cel 0), some (.cel 1)], ⟨3000000, [(3, .strm 2 1), (2, .raw), (1, .box none), (0, .box (some (.int 3)))]⟩⟩
def ST2_3 : StD := ⟨[none, some (.cel 3), none, none, some (.cel 0), some (.cel 1)], ⟨3000000, [(3, .strm 2 1), (2, .raw), (1, .box none), (0, .box (some (.int 4)))]⟩⟩
def C2 : List StD := [ST2_0, ST2_1, ST2_2, ST2_3]
def ST3_0 : StD := ⟨[none, some (.cel 3), none, none, some (.cel 0), some (.cel 1)], ⟨4000000, [(3, .strm 2 1), (2, .raw), (1, .box none), (0, .box none)]⟩⟩
def C3 : List StD := [ST3_0]
def ST4_0 : StD := ⟨[none, some (.cel 3), none, none, some (.cel 0), some (.cel 1)], ⟨5000000, [(3, .strm 2 2), (2, .raw), (1, .box (some (.lst [(.tup [(.lst [(.int 1), (.int 0)]), (.int 0)]), (.tup [(.lst [(.int 0), (.int 1)]), (.int 0)]), (.tup [(.lst [(.int 1), (.int 1)]), (.int 1)])]))), (0, .box none)]⟩⟩
def ST4_1 : StD := ⟨[none, some (.cel 3), none, none, some (.cel 0), some (.cel 1)], ⟨5000000, [(3, .strm 2 2), (2, .raw), (1, .box (some (.lst [(.tup [(.lst [(.int 1), (.int 0)]), (.int 0)]), (.tup [(.lst [(.int 0), (.int 1)]), (.int 0)]), (.tup [(.lst [(.int 1), (.int 1)]), (.int 2)])]))), (0, .box none)]⟩⟩
def ST4_2 : StD := ⟨[none, some (.cel 3), none, none, some (.cel 0), some (.cel 1)], ⟨5000000, [(3, .strm 2 2), (2, .raw), (1, .box (some (.lst [(.tup [(.lst [(.int 1), (.int 0)]), (.int 0)]), (.tup [(.lst [(.int 0), (.int 1)]), (.int 0)]), (.tup [(.lst [(.int 1), (.int 1)]), (.int 3)])]))), (0, .box none)]⟩⟩
def ST4_3 : StD := ⟨[none, some (.cel 3), none, none, some (.cel 0), some (.cel 1)], ⟨5000000, [(3, .strm 2 2), (2, .raw), (1, .box (some (.lst [(.tup [(.lst [(.int 1), (.int 0)]), (.int 0)]), (.tup [(.lst [(.int 0), (.int 1)]), (.int 0)]), (.tup [(.lst [(.int 1), (.int 1)]), (.int 4)])]))), (0, .box none)]⟩⟩
def ST4_4 : StD := ⟨[none, some (.cel 3), none, none, some (.cel 0), some (.cel 1)], ⟨5000000, [(3, .strm 2 2), (2, .raw), (1, .box (some (.lst [(.tup [(.lst [(.int 1), (.int 0)]), (.int 0)]), (.tup [(.lst [(.int 0), (.int 1)]), (.int 0)]), (.tup [(.lst [(.int 1), (.int 1)]), (.int 5)])]))), (0, .box none)]⟩⟩
def C4 : List StD := [ST4_0, ST4_1, ST4_2, ST4_3, ST4_4]
def ms0 : MS := (sSeq (sAsg (mLst true (mCons (mLam 497 12 []) mNil)) (gVar 2))
  (sSeq (sExpr (mApp (mVar 2) (mLam 498 16 [])))
  (sSeq (sExpr (mApp (mVar 2) (mLam 499 16 [])))
  (sSeq (sExpr (mApp (mVar 2) (mLam 500 16 [])))
  (sSeq (sExpr (mApp (mVar 2) (mLam 501 16 [])))
  (sIf (tNotM (tVal (mCall [4, 5] 5 3 (mCons (mC (.str "many")) (mCons (mLst false (mCons (mC .non) (mCons (mC (.int 0)) (mCons (mC (.int 5)) (mCons (mNeg (mC (.int 1))) (mCons (mC (.str "2")) (mCons (mLst false mNil) (mCons (mC (.bl true)) (mCons mDict0 (mCons (mTup (mCons (mC (.int 2)) mNil)) mNil)))))))))) (mCons (mVar 2) mNil))))))
  sNever
  sNil))))))
def ms1 : MS := (sSeq (sAsg (mLst true (mCons (mLam 504 12 []) mNil)) (gVar 2))
  (sSeq (sExpr (mApp (mVar 2) (mLam 505 16 [])))
  (sSeq (sExpr (mApp (mVar 2) (mLam 506 16 [])))
  (sSeq (sExpr (mApp (mVar 2) (mLam 507 16 [])))
  (sSeq (sExpr (mApp (mVar 2) (mLam 508 16 [])))
  (sSeq (sExpr (mApp (mVar 2) (mLam 509 16 [])))
  (sIf (tNotM (tVal (mCall [4, 5] 12 1 (mCons (mVar 2) mNil))))
  sNever
  sNil)))))))
def ms2 : MS := (sAsg (mOp (oAdd false) (mC (.int 1)) (mCall [4, 5] 6 2 (mCons (mVar 1) (mCons (mC (.int 4)) mNil)))) (gVarB 4))
def ms3 : MS := (sSeq (sAsg (mLst true (mCons (mLam 513 12 [4]) mNil)) (gVar 2))
  (sSeq (sExpr (mApp (mVar 2) (mLam 514 16 [4])))
  (sSeq (sExpr (mApp (mVar 2) (mLam 515 16 [4])))
  (sIf (tNotM (tVal (mCall [4, 5] 5 3 (mCons (mC (.str "count")) (mCons (mLst false (mCons (mC .non) (mCons (mNeg (mC (.int 1))) (mCons (mC (.str "2")) (mCons (mLst false mNil) (mCons (mC (.bl true)) (mCons mDict0 (mCons (mTup (mCons (mC (.int 1)) mNil)) mNil)))))))) (mCons (mVar 2) mNil))))))
  sNever
  sNil))))
def ms4 : MS := (sAsg (mLst false (mCons (mTup (mCons (mLst false (mCons (mC (.int 1)) (mCons (mC (.int 0)) mNil))) (mCons (mC (.int 0)) mNil))) (mCons (mTup (mCons (mLst false (mCons (mC (.int 0)) (mCons (mC (.int 1)) mNil))) (mCons (mC (.int 0)) mNil))) (mCons (mTup (mCons (mLst false (mCons (mC (.int 1)) (mCons (mC (.int 1)) mNil))) (mCons (mOp (oAdd false) (mC (.int 1)) (mCall [4, 5] 6 2 (mCons (mVar 1) (mCons (mC (.int 5)) mNil)))) mNil))) mNil)))) (gVarB 5))
def ms5 : MS := (sSeq (sAsg (mLst false (mCons (mC .non) (mCons (mC (.int 5)) (mCons (mC (.str "ab")) (mCons mDict0 (mCons (mLst false mNil) (mCons (mLst false (mCons (mC (.int 1)) (mCons (mC (.int 1)) mNil))) (mCons (mLst false (mCons (mC (.int 1)) (mCons (mC (.int 1)) (mCons (mC (.int 0)) mNil)))) (mCons (mLst false (mCons (mC (.int 1)) (mCons (mC (.int 1)) (mCons (mC (.int 2)) mNil)))) (mCons (mLst false (mCons (mNeg (mC (.int 1))) (mCons (mNeg (mC (.int 1))) (mCons (mC (.int 1)) mNil)))) (mCons (mLst false (mCons (mC (.int 1)) (mCons (mC (.int 1)) (mCons (mC (.bl true)) mNil)))) (mCons (mLst false (mCons (mC (.int 1)) (mCons (mC (.int 1)) (mCons (mC .non) mNil)))) (mCons (mLst false (mCons (mC (.int 1)) (mCons (mC (.int 1)) (mCons (mC (.int 1)) (mCons (mC (.int 1)) mNil))))) mNil))))))))))))) (gVar 3))
  (sSeq (sAsg (mLst true (mCons (mLam 520 12 [5]) mNil)) (gVar 2))
  (sSeq (sExpr (mApp (mVar 2) (mLam 521 16 [5])))
  (sSeq (sExpr (mApp (mVar 2) (mLam 522 16 [5])))
  (sSeq (sExpr (mApp (mVar 2) (mLam 523 16 [5])))
  (sRet (mCall [4, 5] 5 3 (mCons (mC (.str "land")) (mCons (mVar 3) (mCons (mVar 2) mNil))))))))))
def mr4 : MS := sCut [4, 5] C4 ms4 ms5
def mr3 : MS := sCut [4, 5] C3 ms3 mr4
def mr2 : MS := sCut [4, 5] C2 ms2 mr3
def mr1 : MS := sCut [4, 5] C1 ms1 mr2
def m_law : MS := sCut [4, 5] C0 ms0 mr1
def m_corners_in_turn : MS := (sSeq (sAsg (mCall [] 13 2 (mCons (mVar 0) (mCons (mVar 1) mNil))) (gTupM 2 (gsCons (gVar 2) (gsCons (gVar 3) gsNil))))
  sNever)
def m_area : MS := (sSeq (sAsg (mCall [] 13 2 (mCons (mVar 0) (mCons (mVar 1) mNil))) (gTupM 2 (gsCons (gVar 2) (gsCons (gVar 3) gsNil))))
  sNever)
def m_middle : MS := (sSeq (sAsg (mCall [] 13 2 (mCons (mVar 0) (mCons (mVar 1) mNil))) (gTupM 2 (gsCons (gVar 2) (gsCons (gVar 3) gsNil))))
  sNever)
def m_neighbours_in_turn : MS := (sSeq (sAsg (mCall [] 13 2 (mCons (mVar 0) (mCons (mVar 1) mNil))) (gTupM 2 (gsCons (gVar 2) (gsCons (gVar 3) gsNil))))
  sNever)
def m__law_all_refused : MS := (sSeq (sFor 200 (iSeq (mVar 2)) (gVarB 3) (sIf (tOrM (tNotM (tVal (mAll false (mLcB false 200 [4] [4] [3] (iSeq (mVar 1)) (gVarB 4) (mCall [4, 3] 14 2 (mCons (mCall [4, 3] 15 1 (mCons (mLam 472 39 [3, 4]) mNil)) (mCons (mTup (mCons (mVar 0) (mCons (mVarB 4) mNil))) mNil))))))) (tNotM (tVal (mCall [3] 16 2 (mCons (mVar 0) (mCons (mVarB 3) mNil))))))
  sNever
  sNil))
  (sRet (mC (.bl true))))
def m_most_lands : MS := (sSeq (sExpr (mCall [] 17 2 (mCons (mVar 0) (mCons (mVar 1) mNil))))
  sNever)
def m_most_bounded : MS := (sSeq (sExpr (mCall [] 17 2 (mCons (mVar 0) (mCons (mVar 1) mNil))))
  sNever)
def m_most_corners : MS := (sSeq (sExpr (mCall [] 17 2 (mCons (mVar 0) (mCons (mVar 1) mNil))))
  sNever)
def m_general_or_lot : MS := (sSeq (sAsg (mCall [] 18 2 (mCons (mVar 0) (mCons (mVar 1) mNil))) (gVar 2))
  sNever)
def m_lands_lacking : MS := (sSeq (sAsg (mCall [] 18 2 (mCons (mVar 0) (mCons (mVar 1) mNil))) (gVar 2))
  sNever)
def m__law_planes_refused : MS := (sSeq (sFor 200 (iSeq (mVar 0)) (gVarB 1) (sIf (tNotM (tVal (mAll false (mLcB false 200 [2, 3] [2] [1] (iSeq (mCall [1] 19 0 mNil)) (gTupM 2 (gsCons (gVarB 2) (gsCons (gVar 3) gsNil))) (mCall [2, 1] 14 2 (mCons (mCall [2, 1] 15 1 (mCons (mLam 481 39 [1, 2]) mNil)) (mCons (mTup (mCons (mC (.str "planes")) (mCons (mVar 3) mNil))) mNil)))))))
  sNever
  sNil))
  (sRet (mC (.bl true))))
def m_need_boxed : MS := (sSeq (sAsg (mCall [] 20 3 (mCons (mC (.int 2)) (mCons (mVar 0) (mCons (mVar 1) mNil)))) (gTupM 2 (gsCons (gVar 2) (gsCons (gVar 3) gsNil))))
  sNever)
def m__law_same : MS := (sSeq (sIf (tVal (mIsiT [.lst, .tup] (mVar 1)))
  (sSeq (sIf (tOrM (tCmpM (bEq true) (mIsi .lst (mVar 0)) (mIsi .lst (mVar 1))) (tCmpM (bEq true) (mIsi .tup (mVar 0)) (mIsi .tup (mVar 1))))
  sNever
  sNil)
  (sRet (mAndE (mCmp (bEq false) (mLen (mVar 0)) (mLen (mVar 1))) (mAll false (mLc false 200 [2, 3] (iZip2 (mCons (mVar 0) (mCons (mVar 1) mNil))) (gTupM 2 (gsCons (gVar 2) (gsCons (gVar 3) gsNil))) tYesM (mCall [] 14 2 (mCons (mVar 2) (mCons (mVar 3) mNil))))))))
  sNil)
  (sSeq (sIf (tVal (mIsi .dct (mVar 1)))
  (sRet (mAndE (mIsi .dct (mVar 0)) (mCall [] 14 2 (mCons (mItems0 (mVar 0)) (mCons (mItems0 (mVar 1)) mNil)))))
  sNil)
  (sSeq (sIf (tOrM (tVal (mIsi .bl (mVar 1))) (tVal (mIsi .bl (mVar 0))))
  (sRet (mAndE (mIsi .bl (mVar 1)) (mAndE (mIsi .bl (mVar 0)) (mCmp (bEq false) (mVar 0) (mVar 1)))))
  sNil)
  (sSeq (sIf (tOrM (tCmpM (bNone false) (mVar 1) (mC .non)) (tCmpM (bNone false) (mVar 0) (mC .non)))
  (sRet (mAndE (mCmp (bNone false) (mVar 1) (mC .non)) (mCmp (bNone false) (mVar 0) (mC .non))))
  sNil)
  (sSeq (sIf (tOrM (tCmpM (bEq true) (mIsi .int (mVar 1)) (mIsi .int (mVar 0))) (tCmpM (bEq true) (mIsi .str (mVar 1)) (mIsi .str (mVar 0))))
  sNever
  sNil)
  (sRet (mAndE (mNotE (mIsiT [.lst, .tup, .dct] (mVar 0))) (mCmp (bEq false) (mVar 0) (mVar 1)))))))))
def m__law_met : MS := (sTry (sRet (mTup (mCons (mC (.str "told")) (mCons (mCallV [] (mVar 0) mNil) mNil)))) [⟨3, 1, "count", some "count"⟩, ⟨2, 1, "land", some "land"⟩, ⟨1, 1, "many", some "many"⟩, ⟨0, 1, "planes", some "index"⟩])
def m__law_is_very : MS := (sSeq (sAsg (mLst true (mCons (mC (.str "odd")) mNil)) (gVarB 3))
  (sSeq (sAsg (mCall [1, 3] 15 1 (mCons (mLam 467 21 [1, 3]) mNil)) (gVar 2))
  (sSeq (sExpr (mApp (mVarB 3) (mC (.str "late"))))
  (sRet (mCall [1, 3] 14 2 (mCons (mVar 2) (mCons (mTup (mCons (mVar 0) (mCons (mVarB 3) mNil))) mNil)))))))
def m_check_count : MS := (sSeq (sExpr (mCall [] 21 1 (mCons (mVar 0) mNil)))
  (sIf (tNotM (tVal (mCall [] 22 1 (mCons (mVar 1) mNil))))
  (sRaise 3 "count" (mVar 1))
  sNil))
def m_need_planes : MS := (sSeq (sExpr (mCall [] 21 1 (mCons (mVar 0) mNil)))
  (sSeq (sAsg (mCall [] 23 2 (mCons (mVar 0) (mCons (mVar 1) mNil))) (gVar 2))
  (sSeq (sIf (tCmpM (bNone true) (mVar 2) (mC .non))
  (sRaise 0 "index" (mVar 2))
  sNil)
  (sRet (mLc false 200 [3] (iSeq (mVar 1)) (gVar 3) tYesM (mCall [] 24 2 (mCons (mVar 0) (mCons (mVar 3) mNil))))))))
def m__law_odd_planes : MS := (sSeq (sAsg (mLst true (mCons (mTup (mCons (mC .non) (mCons (mC (.int 0)) mNil))) (mCons (mTup (mCons (mC (.int 5)) (mCons (mC (.int 0)) mNil))) (mCons (mTup (mCons (mC (.str "ab")) (mCons (mC (.int 0)) mNil))) (mCons (mTup (mCons mDict0 (mCons (mC (.int 0)) mNil))) (mCons (mTup (mCons (mLst false (mCons (mC .non) mNil)) (mCons (mC (.int 0)) mNil))) (mCons (mTup (mCons (mLst false (mCons (mTup (mCons (mLst false (mCons (mC (.int 1)) (mCons (mC (.int 0)) mNil))) (mCons (mC (.int 0)) mNil))) (mCons (mC (.int 5)) mNil))) (mCons (mC (.int 1)) mNil))) (mCons (mTup (mCons (mLst false (mCons (mTup (mCons (mLst false (mCons (mC (.int 0)) (mCons (mC (.int 0)) mNil))) (mCons (mC (.int 1)) mNil))) mNil)) (mCons (mC (.int 0)) mNil))) (mCons (mTup (mCons (mLst false (mCons (mTup (mCons (mLst false (mCons (mC (.int 2)) (mCons (mC (.int 0)) mNil))) (mCons (mC (.int 0)) mNil))) mNil)) (mCons (mC (.int 0)) mNil))) (mCons (mTup (mCons (mLst false (mCons (mTup (mCons (mLst false (mCons (mNeg (mC (.int 1))) (mCons (mC (.int 0)) mNil))) (mCons (mC (.int 0)) mNil))) mNil)) (mCons (mC (.int 0)) mNil))) (mCons (mTup (mCons (mLst false (mCons (mTup (mCons (mLst false (mCons (mC (.int 1)) mNil)) (mCons (mC (.int 0)) mNil))) mNil)) (mCons (mC (.int 0)) mNil))) mNil))))))))))) (gVar 0))
  (sSeq (sExpr (mExt (mVar 0) (mLst false (mCons (mTup (mCons (mLst false (mCons (mTup (mCons (mLst false (mCons (mC (.int 1)) (mCons (mC (.int 0)) (mCons (mC (.int 0)) mNil)))) (mCons (mC (.int 0)) mNil))) mNil)) (mCons (mC (.int 0)) mNil))) (mCons (mTup (mCons (mLst false (mCons (mTup (mCons (mLst false (mCons (mC (.int 1)) (mCons (mC (.bl true)) mNil))) (mCons (mC (.int 0)) mNil))) mNil)) (mCons (mC (.int 0)) mNil))) (mCons (mTup (mCons (mLst false (mCons (mTup (mCons (mLst false (mCons (mC (.int 1)) (mCons (mC (.int 0)) mNil))) (mCons (mC .non) mNil))) mNil)) (mCons (mC (.int 0)) mNil))) (mCons (mTup (mCons (mLst false (mCons (mTup (mCons (mLst false (mCons (mC (.int 1)) (mCons (mC (.int 0)) mNil))) (mCons (mC (.int 0)) mNil))) (mCons (mTup (mCons (mLst false (mCons (mC (.int 1)) (mCons (mC (.int 0)) mNil))) (mCons (mC (.int 0)) mNil))) mNil))) (mCons (mC (.int 1)) mNil))) (mCons (mTup (mCons (mLst false (mCons (mTup (mCons (mLst false (mCons (mC (.int 1)) (mCons (mC (.int 0)) mNil))) (mCons (mC (.int 0)) mNil))) (mCons (mTup (mCons (mLst false (mCons (mC (.int 0)) (mCons (mC (.int 1)) mNil))) (mCons (mC (.int 0)) mNil))) (mCons (mTup (mCons (mLst false (mCons (mC (.int 1)) (mCons (mC (.int 0)) (mCons (mC (.int 0)) mNil)))) (mCons (mC (.int 0)) mNil))) mNil)))) (mCons (mC (.int 2)) mNil))) mNil))))))))
  (sRet (mVar 0))))
def m_need_land : MS := (sSeq (sAsg (mCall [] 18 2 (mCons (mVar 0) (mCons (mVar 1) mNil))) (gVar 3))
  (sSeq (sAsg (mCall [] 25 3 (mCons (mVar 0) (mCons (mVar 3) (mCons (mVar 2) mNil)))) (gVar 4))
  (sSeq (sIf (tCmpM (bNone false) (mVar 4) (mC .non))
  (sRaise 2 "land" (mVar 2))
  sNil)
  sNever)))
def m_check_many : MS := (sIf (tOrM (tNotM (tVal (mCall [] 26 1 (mCons (mVar 0) mNil)))) (tNotM (tChainM (bI fun i j => decide (i ≤ j)) (bI fun i j => decide (i ≤ j)) (mC (.int 1)) (mVar 0) (mC (.int 4)))))
  (sRaise 1 "many" (mVar 0))
  sNil)
def m_is_number : MS := (sRet (mAndE (mCall [] 26 1 (mCons (mVar 0) mNil)) (mCmp (bI fun i j => decide (j ≤ i)) (mVar 0) (mC (.int 0)))))
def m_planes_fault : MS := (sSeq (sIf (tNotM (tVal (mCall [] 27 1 (mCons (mVar 1) mNil))))
  (sRet (mC (.int 0)))
  sNil)
  (sSeq (sAsg mDictC (gVar 2))
  (sSeq (sFor 200 (iEnumN (mCons (mVar 1) mNil)) (gTupM 2 (gsCons (gVar 3) (gsCons (gVar 4) gsNil))) (sSeq (sAsg (mCall [] 24 2 (mCons (mVar 0) (mCons (mVar 4) mNil))) (gVar 5))
  (sSeq (sIf (tOrM (tCmpM (bNone false) (mVar 5) (mC .non)) (tOrM (tCmpM (bEq true) (mCall [] 28 1 (mCons (mVar 5) mNil)) (mVar 5)) (tCmpM (bInK false) (mVar 5) (mVar 2))))
  (sRet (mVar 3))
  sNil)
  (sAsg (mC (.bl true)) (gSetA (mVar 2) (mVar 5))))))
  (sRet (mC .non)))))
def m_kept_plane : MS := (sSeq (sIf (tOrM (tNotM (tVal (mCall [] 29 2 (mCons (mVar 1) (mCons (mC (.int 2)) mNil))))) (tOrM (tNotM (tVal (mCall [] 29 2 (mCons (mOp oIx (mVar 1) (mC (.int 0))) (mCons (mVar 0) mNil))))) (tNotM (tVal (mCall [] 26 1 (mCons (mOp oIx (mVar 1) (mC (.int 1))) mNil))))))
  (sRet (mC .non))
  sNil)
  (sSeq (sIf (tOrM (tNotM (tVal (mAll false (mLc false 200 [2] (iSeq (mOp oIx (mVar 1) (mC (.int 0)))) (gVar 2) tYesM (mCall [] 26 1 (mCons (mVar 2) mNil)))))) (tNotM (tVal (mAnyI (mOp oIx (mVar 1) (mC (.int 0)))))))
  (sRet (mC .non))
  sNil)
  (sRet (mTup (mCons (mTupOf (mOp oIx (mVar 1) (mC (.int 0)))) (mCons (mOp oIx (mVar 1) (mC (.int 1))) mNil))))))
def m_kept_land : MS := (sSeq (sAsg (mCall [] 30 3 (mCons (mVar 1) (mCons (mVar 2) (mCons (mTup (mCons (mNeg (mC (.int 1))) (mCons (mC (.int 1)) mNil))) mNil)))) (gVar 3))
  (sRet (mIfE (tAndM (tCmpM (bNone true) (mVar 3) (mC .non)) (tCmpM (bInK false) (mVar 3) (mCall [] 31 2 (mCons (mVar 0) (mCons (mVar 1) mNil))))) (mVar 3) (mC .non))))
def m_is_whole : MS := (sRet (mAndE (mIsi .int (mVar 0)) (mNotE (mIsi .bl (mVar 0)))))
def m_is_list : MS := (sRet (mIsiT [.lst, .tup] (mVar 0)))
def m_plain_of : MS := (sSeq (sAsg (mVar 0) (gTupM 2 (gsCons (gVar 1) (gsCons (gVar 2) gsNil))))
  (sSeq (sAsg (mAbs (mVar 2)) (gVar 3))
  (sSeq (sFor 200 (iSeq (mVar 1)) (gVar 4) (sAsg (mCall [] 32 2 (mCons (mVar 3) (mCons (mVar 4) mNil))) (gVar 3)))
  (sSeq (sIf (tCmpM bLt (mOp oIx (mLc false 200 [4] (iSeq (mVar 1)) (gVar 4) (tVal (mVar 4)) (mVar 4)) (mC (.int 0))) (mC (.int 0)))
  (sAsg (mNeg (mVar 3)) (gVar 3))
  sNil)
  (sRet (mTup (mCons (mTupOf (mLc false 200 [4] (iSeq (mVar 1)) (gVar 4) tYesM (mOp (oIc (fun _ j => dvI j) fun i j => i.fdiv j) (mVar 4) (mVar 3)))) (mCons (mOp (oIc (fun _ j => dvI j) fun i j => i.fdiv j) (mVar 2) (mVar 3)) mNil))))))))
def m_is_row : MS := (sRet (mAndE (mCall [] 27 1 (mCons (mVar 0) mNil)) (mCmp (bEq false) (mLen (mVar 0)) (mVar 1))))
def m_kept_row : MS := (sSeq (sIf (tOrM (tNotM (tVal (mCall [] 29 2 (mCons (mVar 1) (mCons (mLen (mVar 0)) mNil))))) (tNotM (tVal (mAll false (mLc false 200 [3] (iSeq (mVar 1)) (gVar 3) tYesM (mAndE (mCall [] 26 1 (mCons (mVar 3) mNil)) (mCmp (bInK false) (mVar 3) (mVar 2))))))))
  (sRet (mC .non))
  sNil)
  (sRet (mLstK false (mVar 1))))
def m_rows_by : MS := (sRet (mSortR false (mLc false 200 [2] (iSeq (mCall [] 33 2 (mCons (mVar 0) (mCons (mVar 1) mNil)))) (gVar 2) tYesM (mCall [] 34 2 (mCons (mVar 1) (mCons (mVar 2) mNil))))))
def m_common_divisor : MS := (sSeq (sPar 0 1 (mCons (mAbs (mVar 0)) (mCons (mAbs (mVar 1)) mNil)))
  (sSeq (sWhile 200 (tVal (mVar 1)) (sPar 0 1 (mCons (mVar 1) (mCons (mOp (oIc (fun _ j => nzI j) fun i j => i.fmod j) (mVar 0) (mVar 1)) mNil))))
  (sRet (mVar 0))))
def m_points_by : MS := (sSeq (sIf (tCmpM (bEq false) (mVar 0) (mC (.int 0)))
  (sRet (mLst false (mCons (mTup mNil) mNil)))
  sNil)
  (sSeq (sAsg (mLst true (mCons (mOp (oMul3 false) (mTup (mCons (mTup (mCons (mC (.int 0)) (mCons (mC (.int 1)) mNil))) mNil)) (mVar 0)) mNil)) (gVar 2))
  (sSeq (sFor 200 (iEnumN (mCons (mVar 1) mNil)) (gTupM 2 (gsCons (gVar 3) (gsCons (gVar 4) gsNil))) (sSeq (sAsg (mSlice false (mVar 1) mNoPart (mPart (mVar 3))) (gVar 5))
  (sSeq (sAsg (mCall [] 35 2 (mCons (mVar 0) (mCons (mLst false (mCons (mVar 4) mNil)) mNil))) (gTupM 2 (gsCons (gVar 6) (gsCons (gVar 7) gsNil))))
  (sSeq (sAsg (mLc false 200 [8] (iSeq (mCall [] 33 2 (mCons (mOp oSub (mVar 0) (mC (.int 1))) (mCons (mCall [] 36 3 (mCons (mVar 5) (mCons (mVar 6) (mCons (mVar 7) mNil)))) mNil)))) (gVar 8) tYesM (mCall [] 37 3 (mCons (mVar 6) (mCons (mVar 7) (mCons (mVar 8) mNil))))) (gVar 9))
  (sSeq (sAsg (mDcK 200 [8] (iSeq (mVar 9)) (gVar 8) tYesM (mTupOf (mCall [] 34 2 (mCons (mVar 5) (mCons (mVar 8) mNil)))) (mC (.bl true))) (gVar 10))
  (sSeq (sAsg (mLc true 200 [8] (iSeq (mVar 2)) (gVar 8) (tCmpM (bInK true) (mTupOf (mCall [] 34 2 (mCons (mVar 5) (mCons (mVar 8) mNil)))) (mVar 10)) (mVar 8)) (gVar 2))
  (sSeq (sAsg (mLc false 200 [13] (iSeq (mOp oIx (mVar 4) (mC (.int 0)))) (gVar 13) tYesM (mTup (mCons (mVar 13) (mCons (mC (.int 1)) mNil)))) (gVar 11))
  (sFor 200 (iSeq (mVar 9)) (gVar 8) (sSeq (sAsg (mCall [] 38 3 (mCons (mVar 5) (mCons (mVar 8) (mCons (mVar 11) mNil)))) (gVar 12))
  (sExpr (mExt (mVar 2) (mLst false (mCons (mCall [] 39 3 (mCons (mVar 8) (mCons (mVar 11) (mCons (mVar 12) mNil)))) (mCons (mCall [] 39 3 (mCons (mVar 8) (mCons (mVar 11) (mCons (mCall [] 40 2 (mCons (mTup (mCons (mC (.int 0)) (mCons (mC (.int 1)) mNil))) (mCons (mVar 12) mNil))) mNil)))) mNil))))))))))))))
  (sRet (mVar 2)))))
def m_sides : MS := (sRet (mLc false 200 [2] (iSeq (mVar 0)) (gVar 2) tYesM (mCall [] 41 2 (mCons (mVar 2) (mCons (mVar 1) mNil)))))
def m_points_of : MS := (sSeq (sAsg (mCall [] 42 2 (mCons (mVar 1) (mCons (mVar 0) mNil))) (gTupM 2 (gsCons (gVar 2) (gsCons (gVar 3) gsNil))))
  (sSeq (sFor 200 (iSeq (mSlice false (mVar 2) (mPart (mLen (mVar 3))) mNoPart)) (gVar 4) sNever)
  (sSeq (sAsg (mOp (oMul3 true) (mLst false (mCons (mTup (mCons (mC (.int 0)) (mCons (mC (.int 1)) mNil))) mNil)) (mVar 0)) (gVar 5))
  (sSeq (sFor 200 (iZip2 (mCons (mVar 2) (mCons (mVar 3) mNil))) (gTupM 2 (gsCons (gVar 4) (gsCons (gVar 6) gsNil))) (sAsg (mOp oIx (mVar 4) (mVar 0)) (gSetA (mVar 5) (mVar 6))))
  (sSeq (sAsg (mLst true mNil) (gVar 7))
  (sSeq (sFor 200 (iSeq (mLc false 200 [10] (iRange1 (mCons (mVar 0) mNil)) (gVar 10) (tCmpM (bInK true) (mVar 10) (mVar 3)) (mVar 10))) (gVar 8) (sSeq (sAsg (mLc true 200 [11] (iRange1 (mCons (mVar 0) mNil)) (gVar 11) tYesM (mTup (mCons (mIntOf (mCmp (bEq false) (mVar 11) (mVar 8))) (mCons (mC (.int 1)) mNil)))) (gVar 9))
  (sSeq (sFor 200 (iZip2 (mCons (mVar 2) (mCons (mVar 3) mNil))) (gTupM 2 (gsCons (gVar 4) (gsCons (gVar 6) gsNil))) (sAsg (mCall [] 40 2 (mCons (mTup (mCons (mC (.int 0)) (mCons (mC (.int 1)) mNil))) (mCons (mOp oIx (mVar 4) (mVar 8)) mNil))) (gSetA (mVar 9) (mVar 6))))
  (sExpr (mApp (mVar 7) (mVar 9))))))
  (sRet (mTup (mCons (mVar 5) (mCons (mVar 7) mNil))))))))))
def m_unlike_cuts : MS := (sSeq (sAsg mDictC (gVar 3))
  (sSeq (sFor 200 (iSeq (mVar 0)) (gVar 4) (sSeq (sAsg (mCall [] 43 3 (mCons (mVar 4) (mCons (mVar 1) (mCons (mVar 2) mNil)))) (gVar 5))
  (sIf (tCmpM (bNone true) (mVar 5) (mC .non))
  (sAsg (mC (.bl true)) (gSetA (mVar 3) (mVar 5)))
  sNil)))
  (sRet (mLstK false (mVar 3)))))
def m_lifted : MS := (sSeq (sAsg (mTupOf (mVar 0)) (gVar 3))
  (sSeq (sFor 200 (iZip2 (mCons (mVar 1) (mCons (mVar 2) mNil))) (gTupM 2 (gsCons (gVar 4) (gsCons (gVar 5) gsNil))) (sAsg (mCall [] 39 3 (mCons (mVar 3) (mCons (mVar 4) (mCons (mVar 5) mNil)))) (gVar 3)))
  (sRet (mVar 3))))
def m_step_for : MS := (sSeq (sAsg (mTup (mCons (mC (.int 1)) (mCons (mC (.int 1)) mNil))) (gVar 3))
  (sSeq (sFor 200 (iSeq (mVar 0)) (gVar 4) (sSeq (sPar 5 6 (mCons (mCall [] 44 2 (mCons (mTup (mCons (mOp oIx (mVar 4) (mC (.int 0))) (mCons (mC (.int 0)) mNil))) (mCons (mVar 2) mNil))) (mCons (mCall [] 44 2 (mCons (mVar 4) (mCons (mVar 1) mNil))) mNil)))
  (sIf (tVal (mOp oIx (mVar 5) (mC (.int 0))))
  (sSeq (sAsg (mCall [] 45 2 (mCons (mCall [] 46 2 (mCons (mTup (mCons (mC (.int 1)) (mCons (mC (.int 2)) mNil))) (mCons (mCall [] 47 1 (mCons (mVar 6) mNil)) mNil))) (mCons (mCall [] 47 1 (mCons (mVar 5) mNil)) mNil))) (gVar 7))
  (sAsg (mIfE (tVal (mCall [] 48 2 (mCons (mVar 7) (mCons (mVar 3) mNil)))) (mVar 7) (mVar 3)) (gVar 3)))
  sNil)))
  (sRet (mVar 3))))
def m_stepped : MS := (sRet (mTupOf (mLc false 200 [3, 4] (iZip2 (mCons (mVar 0) (mCons (mVar 1) mNil))) (gTupM 2 (gsCons (gVar 3) (gsCons (gVar 4) gsNil))) tYesM (mCall [] 49 2 (mCons (mVar 3) (mCons (mCall [] 46 2 (mCons (mVar 2) (mCons (mVar 4) mNil))) mNil))))))
def m_minus : MS := (sRet (mCall [] 50 2 (mCons (mOp oSub (mOp (oMul3 false) (mOp oIx (mVar 0) (mC (.int 0))) (mOp oIx (mVar 1) (mC (.int 1)))) (mOp (oMul3 false) (mOp oIx (mVar 1) (mC (.int 0))) (mOp oIx (mVar 0) (mC (.int 1))))) (mCons (mOp (oMul3 false) (mOp oIx (mVar 0) (mC (.int 1))) (mOp oIx (mVar 1) (mC (.int 1)))) mNil))))
def m_side_of : MS := (sSeq (sAsg (mOp oIx (mCall [] 44 2 (mCons (mVar 0) (mCons (mVar 1) mNil))) (mC (.int 0))) (gVar 2))
  (sRet (mOp oSub (mCmp (bI fun i j => decide (j < i)) (mVar 2) (mC (.int 0))) (mCmp bLt (mVar 2) (mC (.int 0))))))
def m_system : MS := (sSeq (sAsg (mLst true mNil) (gVar 2))
  (sSeq (sFor 200 (iEnumN (mCons (mVar 0) mNil)) (gTupM 2 (gsCons (gVar 3) (gsCons (gTupM 2 (gsCons (gVar 4) (gsCons (gVar 5) gsNil))) gsNil))) (sSeq (sAsg (mLc false 200 [7] (iRange1 (mCons (mLen (mVar 0)) mNil)) (gVar 7) tYesM (mTup (mCons (mIntOf (mCmp (bEq false) (mVar 7) (mVar 3))) (mCons (mC (.int 1)) mNil)))) (gVar 6))
  (sExpr (mApp (mVar 2) (mLst false (mStar (mLc false 200 [8] (iSeq (mVar 4)) (gVar 8) tYesM (mTup (mCons (mVar 8) (mCons (mC (.int 1)) mNil)))) (mCons (mTup (mCons (mVar 5) (mCons (mC (.int 1)) mNil))) (mStar (mVar 6) mNil))))))))
  (sRet (mCall [] 51 2 (mCons (mVar 2) (mCons (mVar 1) mNil))))))
def m_cut_by : MS := (sSeq (sAsg (mLc false 200 [8] (iSeq (mVar 2)) (gVar 8) tYesM (mCall [] 44 2 (mCons (mTup (mCons (mOp oIx (mVar 0) (mC (.int 0))) (mCons (mC (.int 0)) mNil))) (mCons (mVar 8) mNil)))) (gVar 3))
  (sSeq (sIf (tNotM (tVal (mAnyI (mLc false 200 [4] (iSeq (mVar 3)) (gVar 4) tYesM (mOp oIx (mVar 4) (mC (.int 0)))))))
  (sRet (mC .non))
  sNil)
  (sSeq (sAsg (mCall [] 44 2 (mCons (mVar 0) (mCons (mVar 1) mNil))) (gVar 5))
  (sSeq (sAsg (mOp oIx (mVar 5) (mC (.int 1))) (gVar 6))
  (sSeq (sFor 200 (iSeq (mVar 3)) (gVar 4) (sAsg (mOp (oIc (fun _ j => dvI j) fun i j => i.fdiv j) (mOp (oMul3 false) (mVar 6) (mOp oIx (mVar 4) (mC (.int 1)))) (mCall [] 32 2 (mCons (mVar 6) (mCons (mOp oIx (mVar 4) (mC (.int 1))) mNil)))) (gVar 6)))
  (sSeq (sAsg (mTupOf (mLc false 200 [4] (iSeq (mVar 3)) (gVar 4) tYesM (mOp (oMul3 false) (mOp oIx (mVar 4) (mC (.int 0))) (mOp (oIc (fun _ j => dvI j) fun i j => i.fdiv j) (mVar 6) (mOp oIx (mVar 4) (mC (.int 1))))))) (gVar 7))
  (sRet (mCall [] 28 1 (mCons (mTup (mCons (mVar 7) (mCons (mOp (oMul3 false) (mNeg (mOp oIx (mVar 5) (mC (.int 0)))) (mOp (oIc (fun _ j => dvI j) fun i j => i.fdiv j) (mVar 6) (mOp oIx (mVar 5) (mC (.int 1))))) mNil))) mNil)))))))))
def m_worth_at : MS := (sRet (mCall [] 40 2 (mCons (mCall [] 52 2 (mCons (mLc false 200 [2] (iSeq (mOp oIx (mVar 0) (mC (.int 0)))) (gVar 2) tYesM (mTup (mCons (mVar 2) (mCons (mC (.int 1)) mNil)))) (mCons (mVar 1) mNil))) (mCons (mTup (mCons (mOp oIx (mVar 0) (mC (.int 1))) (mCons (mC (.int 1)) mNil))) mNil))))
def m_over : MS := (sRet (mCall [] 50 2 (mCons (mOp (oMul3 false) (mOp oIx (mVar 0) (mC (.int 0))) (mOp oIx (mVar 1) (mC (.int 1)))) (mCons (mOp (oMul3 false) (mOp oIx (mVar 0) (mC (.int 1))) (mOp oIx (mVar 1) (mC (.int 0)))) mNil))))
def m_times : MS := (sRet (mCall [] 50 2 (mCons (mOp (oMul3 false) (mOp oIx (mVar 0) (mC (.int 0))) (mOp oIx (mVar 1) (mC (.int 0)))) (mCons (mOp (oMul3 false) (mOp oIx (mVar 0) (mC (.int 1))) (mOp oIx (mVar 1) (mC (.int 1)))) mNil))))
def m_size_of : MS := (sRet (mTup (mCons (mAbs (mOp oIx (mVar 0) (mC (.int 0)))) (mCons (mOp oIx (mVar 0) (mC (.int 1))) mNil))))
def m_is_under : MS := (sRet (mCmp bLt (mOp (oMul3 false) (mOp oIx (mVar 0) (mC (.int 0))) (mOp oIx (mVar 1) (mC (.int 1)))) (mOp (oMul3 false) (mOp oIx (mVar 1) (mC (.int 0))) (mOp oIx (mVar 0) (mC (.int 1))))))
def m_plus : MS := (sRet (mCall [] 50 2 (mCons (mOp (oAdd false) (mOp (oMul3 false) (mOp oIx (mVar 0) (mC (.int 0))) (mOp oIx (mVar 1) (mC (.int 1)))) (mOp (oMul3 false) (mOp oIx (mVar 1) (mC (.int 0))) (mOp oIx (mVar 0) (mC (.int 1))))) (mCons (mOp (oMul3 false) (mOp oIx (mVar 0) (mC (.int 1))) (mOp oIx (mVar 1) (mC (.int 1)))) mNil))))
def m_reduced : MS := (sSeq (sAsg (mCall [] 32 2 (mCons (mVar 0) (mCons (mVar 1) mNil))) (gVar 2))
  (sSeq (sIf (tCmpM bLt (mVar 1) (mC (.int 0)))
  sNever
  sNil)
  (sRet (mTup (mCons (mOp (oIc (fun _ j => dvI j) fun i j => i.fdiv j) (mVar 0) (mVar 2)) (mCons (mOp (oIc (fun _ j => dvI j) fun i j => i.fdiv j) (mVar 1) (mVar 2)) mNil))))))
def m_reduced_rows : MS := (sSeq (sAsg (mTup (mCons (mLc true 200 [9] (iSeq (mVar 0)) (gVar 9) tYesM (mLstK false (mVar 9))) (mCons (mLst true mNil) mNil))) (gTupM 2 (gsCons (gVar 2) (gsCons (gVar 3) gsNil))))
  (sSeq (sFor 200 (iRange1 (mCons (mVar 1) mNil)) (gVar 4) (sSeq (sAsg (mLc false 200 [5] (iRange2 (mCons (mLen (mVar 3)) (mCons (mLen (mVar 2)) mNil))) (gVar 5) (tVal (mOp oIx (mOp oIx (mOp oIx (mVar 2) (mVar 5)) (mVar 4)) (mC (.int 0)))) (mVar 5)) (gVar 6))
  (sIf (tVal (mVar 6))
  (sSeq (sAsg (mLen (mVar 3)) (gVar 7))
  (sSeq (sAsg (mTup (mCons (mOp oIx (mVar 2) (mOp oIx (mVar 6) (mC (.int 0)))) (mCons (mOp oIx (mVar 2) (mVar 7)) mNil))) (gTupM 2 (gsCons (gSetA (mVar 2) (mVar 7)) (gsCons (gSetA (mVar 2) (mOp oIx (mVar 6) (mC (.int 0)))) gsNil))))
  (sSeq (sAsg (mOp oIx (mOp oIx (mVar 2) (mVar 7)) (mVar 4)) (gVar 8))
  (sSeq (sAsg (mLc false 200 [10] (iSeq (mOp oIx (mVar 2) (mVar 7))) (gVar 10) tYesM (mCall [] 45 2 (mCons (mVar 10) (mCons (mVar 8) mNil)))) (gSetA (mVar 2) (mVar 7)))
  (sSeq (sFor 200 (iRange1 (mCons (mLen (mVar 2)) mNil)) (gVar 5) (sIf (tAndM (tCmpM (bEq true) (mVar 5) (mVar 7)) (tVal (mOp oIx (mOp oIx (mOp oIx (mVar 2) (mVar 5)) (mVar 4)) (mC (.int 0)))))
  sNever
  sNil))
  (sExpr (mApp (mVar 3) (mVar 4))))))))
  sNil)))
  (sRet (mTup (mCons (mVar 2) (mCons (mVar 3) mNil))))))
def m_dot : MS := (sRet (mCall [] 53 1 (mCons (mLc false 200 [2, 3] (iZip2 (mCons (mVar 0) (mCons (mVar 1) mNil))) (gTupM 2 (gsCons (gVar 2) (gsCons (gVar 3) gsNil))) tYesM (mCall [] 46 2 (mCons (mVar 2) (mCons (mVar 3) mNil)))) mNil)))
def m_total : MS := (sSeq (sAsg (mC (.tup [.int 0, .int 1])) (gVar 1))
  (sSeq (sFor 200 (iSeq (mVar 0)) (gVar 2) (sAsg (mCall [] 49 2 (mCons (mVar 1) (mCons (mVar 2) mNil))) (gVar 1)))
  (sRet (mVar 1))))
def ml_1 : ME := (mCall [1] 1 2 (mCons (mVarB 1) (mCons (mVar 0) mNil)))
def ml_2 : ME := (mCall [1] 2 2 (mCons (mVarB 1) (mCons (mVar 0) mNil)))
def ml_3 : ME := (mCall [1] 3 2 (mCons (mVarB 1) (mCons (mVar 0) mNil)))
def ml_4 : ME := (mCall [1] 4 2 (mCons (mVarB 1) (mCons (mVar 0) mNil)))
def ml_5 : ME := (mCall [1] 7 2 (mCons (mVarB 1) (mCons (mVar 0) mNil)))
def ml_6 : ME := (mCall [1] 8 2 (mCons (mVarB 1) (mCons (mVar 0) mNil)))
def ml_7 : ME := (mCall [1] 9 2 (mCons (mVarB 1) (mCons (mVar 0) mNil)))
def ml_8 : ME := (mCall [] 10 2 (mCons (mC (.int 2)) (mCons (mVar 0) mNil)))
def ml_9 : ME := (mCall [] 11 2 (mCons (mC (.int 2)) (mCons (mVar 0) mNil)))
def ml_10 : ME := (mCall [] 1 2 (mCons (mVar 0) (mCons (mC .non) mNil)))
def ml_11 : ME := (mCall [] 2 2 (mCons (mVar 0) (mCons (mC .non) mNil)))
def ml_12 : ME := (mCallK [] 3 0 2 2 [1, 0] mNil (mCons (mC .non) (mCons (mVar 0) mNil)))
def ml_13 : ME := (mCall [] 4 2 (mCons (mVar 0) (mCons (mC .non) mNil)))
def ml_14 : ME := (mCall [] 10 2 (mCons (mVar 0) (mCons (mC .non) mNil)))
def ml_15 : ME := (mCall [] 7 2 (mCons (mVar 0) (mCons (mC .non) mNil)))
def ml_16 : ME := (mCall [] 8 2 (mCons (mVar 0) (mCons (mC .non) mNil)))
def ml_17 : ME := (mCallK [] 9 0 2 2 [1, 0] mNil (mCons (mC .non) (mCons (mVar 0) mNil)))
def ml_18 : ME := (mCall [] 11 2 (mCons (mVar 0) (mCons (mC .non) mNil)))
def ml_19 : ME := (mCallV [0, 1] (mVarB 0) (mCons (mVarB 1) mNil))
def ml_20 : ME := (mCallV [0, 1] (mVarB 0) (mCons (mVarB 1) mNil))
def ml_21 : ME := (mCallV [0, 1] (mVarB 0) (mCons (mVarB 1) mNil))
def fnT (cal : Cal) (g : Nat) : List D → Cs → KE → KX → Bool := (match Nat.ble g 26 with
  | true => (match Nat.ble g 13 with
  | true => (match Nat.ble g 6 with
  | true => (match Nat.ble g 3 with
  | true => (match Nat.ble g 1 with
  | true => (runF [] 3 false m_corners_in_turn cal)
  | false => (match Nat.ble g 2 with
  | true => (runF [] 6 false m_area cal)
  | false => (runF [] 7 false m_middle cal)))
  | false => (match Nat.ble g 4 with
  | true => (runF [] 10 false m_neighbours_in_turn cal)
  | false => (match Nat.ble g 5 with
  | true => (runF [3] 2 false m__law_all_refused cal)
  | false => (fun us cs K _ => drawF us cs K))))
  | false => (match Nat.ble g 9 with
  | true => (match Nat.ble g 7 with
  | true => (runF [] 0 false m_most_lands cal)
  | false => (match Nat.ble g 8 with
  | true => (runF [] 0 false m_most_bounded cal)
  | false => (runF [] 0 false m_most_corners cal)))
  | false => (match Nat.ble g 11 with
  | true => (match Nat.ble g 10 with
  | true => (runF [] 4 false m_general_or_lot cal)
  | false => (runF [] 1 false m_lands_lacking cal))
  | false => (match Nat.ble g 12 with
  | true => (runF [1] 3 false m__law_planes_refused cal)
  | false => (runF [] 2 false m_need_boxed cal)))))
  | false => (match Nat.ble g 19 with
  | true => (match Nat.ble g 16 with
  | true => (match Nat.ble g 14 with
  | true => (runF [] 2 true m__law_same cal)
  | false => (match Nat.ble g 15 with
  | true => (runF [] 1 true m__law_met cal)
  | false => (runF [1, 3] 2 true m__law_is_very cal)))
  | false => (match Nat.ble g 17 with
  | true => (runF [] 0 false m_check_count cal)
  | false => (match Nat.ble g 18 with
  | true => (runF [] 2 false m_need_planes cal)
  | false => (runF [] 1 false m__law_odd_planes cal))))
  | false => (match Nat.ble g 22 with
  | true => (match Nat.ble g 20 with
  | true => (runF [] 2 false m_need_land cal)
  | false => (match Nat.ble g 21 with
  | true => (runF [] 0 false m_check_many cal)
  | false => (runF [] 0 false m_is_number cal)))
  | false => (match Nat.ble g 24 with
  | true => (match Nat.ble g 23 with
  | true => (runF [] 4 false m_planes_fault cal)
  | false => (runF [] 1 false m_kept_plane cal))
  | false => (match Nat.ble g 25 with
  | true => (runF [] 1 false m_kept_land cal)
  | false => (runF [] 0 false m_is_whole cal))))))
  | false => (match Nat.ble g 39 with
  | true => (match Nat.ble g 32 with
  | true => (match Nat.ble g 29 with
  | true => (match Nat.ble g 27 with
  | true => (runF [] 0 false m_is_list cal)
  | false => (match Nat.ble g 28 with
  | true => (runF [] 4 false m_plain_of cal)
  | false => (runF [] 0 false m_is_row cal)))
  | false => (match Nat.ble g 30 with
  | true => (runF [] 1 false m_kept_row cal)
  | false => (match Nat.ble g 31 with
  | true => (runF [] 1 false m_rows_by cal)
  | false => (runF [] 0 false m_common_divisor cal))))
  | false => (match Nat.ble g 35 with
  | true => (match Nat.ble g 33 with
  | true => (runF [] 12 false m_points_by cal)
  | false => (match Nat.ble g 34 with
  | true => (runF [] 1 false m_sides cal)
  | false => (runF [] 10 false m_points_of cal)))
  | false => (match Nat.ble g 37 with
  | true => (match Nat.ble g 36 with
  | true => (runF [] 3 false m_unlike_cuts cal)
  | false => (runF [] 3 false m_lifted cal))
  | false => (match Nat.ble g 38 with
  | true => (runF [] 5 false m_step_for cal)
  | false => (runF [] 2 false m_stepped cal)))))
  | false => (match Nat.ble g 46 with
  | true => (match Nat.ble g 42 with
  | true => (match Nat.ble g 40 with
  | true => (runF [] 0 false m_minus cal)
  | false => (match Nat.ble g 41 with
  | true => (runF [] 1 false m_side_of cal)
  | false => (runF [] 7 false m_system cal)))
  | false => (match Nat.ble g 44 with
  | true => (match Nat.ble g 43 with
  | true => (runF [] 6 false m_cut_by cal)
  | false => (runF [] 1 false m_worth_at cal))
  | false => (match Nat.ble g 45 with
  | true => (runF [] 0 false m_over cal)
  | false => (runF [] 0 false m_times cal))))
  | false => (match Nat.ble g 49 with
  | true => (match Nat.ble g 47 with
  | true => (runF [] 0 false m_size_of cal)
  | false => (match Nat.ble g 48 with
  | true => (runF [] 0 false m_is_under cal)
  | false => (runF [] 0 false m_plus cal)))
  | false => (match Nat.ble g 51 with
  | true => (match Nat.ble g 50 with
  | true => (runF [] 1 false m_reduced cal)
  | false => (runF [] 9 false m_reduced_rows cal))
  | false => (match Nat.ble g 52 with
  | true => (runF [] 2 false m_dot cal)
  | false => (runF [] 2 false m_total cal)))))))
def lamT (cal : Cal) (l c : Nat) : List Nat → List D → Cs → KE → KX → Bool := (match Nat.ble l 505 with
  | true => (match Nat.ble l 498 with
  | true => (match Nat.ble l 472 with
  | true => (match Nat.ble l 467 with
  | true => (runL 0 0 ml_21 cal)
  | false => (runL 0 0 ml_19 cal))
  | false => (match Nat.ble l 481 with
  | true => (runL 0 0 ml_20 cal)
  | false => (match Nat.ble l 497 with
  | true => (runL 1 0 ml_14 cal)
  | false => (runL 1 0 ml_15 cal))))
  | false => (match Nat.ble l 500 with
  | true => (match Nat.ble l 499 with
  | true => (runL 1 0 ml_16 cal)
  | false => (runL 1 0 ml_17 cal))
  | false => (match Nat.ble l 501 with
  | true => (runL 1 0 ml_18 cal)
  | false => (match Nat.ble l 504 with
  | true => (runL 1 0 ml_8 cal)
  | false => (runL 1 0 ml_9 cal)))))
  | false => (match Nat.ble l 513 with
  | true => (match Nat.ble l 507 with
  | true => (match Nat.ble l 506 with
  | true => (runL 1 0 ml_10 cal)
  | false => (runL 1 0 ml_11 cal))
  | false => (match Nat.ble l 508 with
  | true => (runL 1 0 ml_12 cal)
  | false => (match Nat.ble l 509 with
  | true => (runL 1 0 ml_13 cal)
  | false => (runL 1 0 ml_5 cal))))
  | false => (match Nat.ble l 520 with
  | true => (match Nat.ble l 514 with
  | true => (runL 1 0 ml_6 cal)
  | false => (match Nat.ble l 515 with
  | true => (runL 1 0 ml_7 cal)
  | false => (runL 1 0 ml_1 cal)))
  | false => (match Nat.ble l 521 with
  | true => (runL 1 0 ml_2 cal)
  | false => (match Nat.ble l 522 with
  | true => (runL 1 0 ml_3 cal)
  | false => (runL 1 0 ml_4 cal))))))
def nextC (cal : Cal) : Cal := ⟨fnT cal, lamT cal⟩
def c0 : Cal := cal0
def c1 : Cal := nextC c0
def c2 : Cal := nextC c1
def c3 : Cal := nextC c2
def c4 : Cal := nextC c3
def c5 : Cal := nextC c4
def c6 : Cal := nextC c5
def c7 : Cal := nextC c6
def c8 : Cal := nextC c7
def c9 : Cal := nextC c8
def c10 : Cal := nextC c9
def c11 : Cal := nextC c10
def c12 : Cal := nextC c11
def c13 : Cal := nextC c12
def c14 : Cal := nextC c13
def c15 : Cal := nextC c14
def c16 : Cal := nextC c15
def c17 : Cal := nextC c16
def c18 : Cal := nextC c17
def c19 : Cal := nextC c18
def c20 : Cal := nextC c19
abbrev at_ (w : World) (K : PySem.W.Frag) (cal : Cal) : Cxt := Cxt.at0 (GG w K) (TT K) cal (clsN K cnames)
abbrev fnD (K : PySem.W.Frag) (x : Str) (i : Nat) : Prop := ∃ fd, FunD K x x (defArgs (top i)) (defBody (top i)) (defScope (top i)) [] [] (He.fAd K (x, none)) fd
structure FX (P : Program) (w : World) (K : PySem.W.Frag) (mg : Str → Option Value) (base : Heap) : Prop where
  b_abs : mg "abs" = none
  b_all : mg "all" = none
  b_any : mg "any" = none
  b_bool : mg "bool" = none
  b_dict : mg "dict" = none
  b_enumerate : mg "enumerate" = none
  b_int : mg "int" = none
  b_isinstance : mg "isinstance" = none
  b_len : mg "len" = none
  b_list : mg "list" = none
  b_range : mg "range" = none
  b_sorted : mg "sorted" = none
  b_str : mg "str" = none
  b_tuple : mg "tuple" = none
  b_zip : mg "zip" = none
  d_law : fnD K "law" 106
  d_corners_in_turn : fnD K "corners_in_turn" 81
  d_area : fnD K "area" 82
  d_middle : fnD K "middle" 83
  d_neighbours_in_turn : fnD K "neighbours_in_turn" 84
  d__law_all_refused : fnD K "_law_all_refused" 102
  d__law_draw : fnD K "_law_draw" 99
  d_most_lands : fnD K "most_lands" 93
  d_most_bounded : fnD K "most_bounded" 94
  d_most_corners : fnD K "most_corners" 95
  d_general_or_lot : fnD K "general_or_lot" 88
  d_lands_lacking : fnD K "lands_lacking" 96
  d__law_planes_refused : fnD K "_law_planes_refused" 104
  d_need_boxed : fnD K "need_boxed" 77
  d__law_same : fnD K "_law_same" 100
  d__law_met : fnD K "_law_met" 105
  d__law_is_very : fnD K "_law_is_very" 101
  d_check_count : fnD K "check_count" 90
  d_need_planes : fnD K "need_planes" 30
  d__law_odd_planes : fnD K "_law_odd_planes" 103
  d_need_land : fnD K "need_land" 57
  d_check_many : fnD K "check_many" 26
  d_is_number : fnD K "is_number" 3
  d_planes_fault : fnD K "planes_fault" 29
  d_kept_plane : fnD K "kept_plane" 27
  d_kept_land : fnD K "kept_land" 56
  d_is_whole : fnD K "is_whole" 2
  d_is_list : fnD K "is_list" 1
  d_plain_of : fnD K "plain_of" 28
  d_is_row : fnD K "is_row" 4
  d_kept_row : fnD K "kept_row" 55
  d_rows_by : fnD K "rows_by" 54
  d_common_divisor : fnD K "common_divisor" 13
  d_points_by : fnD K "points_by" 53
  d_sides : fnD K "sides" 33
  d_points_of : fnD K "points_of" 39
  d_unlike_cuts : fnD K "unlike_cuts" 52
  d_lifted : fnD K "lifted" 49
  d_step_for : fnD K "step_for" 50
  d_stepped : fnD K "stepped" 48
  d_minus : fnD K "minus" 16
  d_side_of : fnD K "side_of" 32
  d_system : fnD K "system" 37
  d_cut_by : fnD K "cut_by" 46
  d_worth_at : fnD K "worth_at" 31
  d_over : fnD K "over" 18
  d_times : fnD K "times" 17
  d_size_of : fnD K "size_of" 51
  d_is_under : fnD K "is_under" 19
  d_plus : fnD K "plus" 15
  d_reduced : fnD K "reduced" 14
  d_reduced_rows : fnD K "reduced_rows" 36
  d_dot : fnD K "dot" 21
  d_total : fnD K "total" 20
  g_law : mg "law" = some (.ref (He.fAd K ("law", none)))
  g_corners_in_turn : mg "corners_in_turn" = some (.ref (He.fAd K ("corners_in_turn", none)))
  g_area : mg "area" = some (.ref (He.fAd K ("area", none)))
  g_middle : mg "middle" = some (.ref (He.fAd K ("middle", none)))
  g_neighbours_in_turn : mg "neighbours_in_turn" = some (.ref (He.fAd K ("neighbours_in_turn", none)))
  g__law_all_refused : mg "_law_all_refused" = some (.ref (He.fAd K ("_law_all_refused", none)))
  g__law_draw : mg "_law_draw" = some (.ref (He.fAd K ("_law_draw", none)))
  g_most_lands : mg "most_lands" = some (.ref (He.fAd K ("most_lands", none)))
  g_most_bounded : mg "most_bounded" = some (.ref (He.fAd K ("most_bounded", none)))
  g_most_corners : mg "most_corners" = some (.ref (He.fAd K ("most_corners", none)))
  g_general_or_lot : mg "general_or_lot" = some (.ref (He.fAd K ("general_or_lot", none)))
  g_lands_lacking : mg "lands_lacking" = some (.ref (He.fAd K ("lands_lacking", none)))
  g__law_planes_refused : mg "_law_planes_refused" = some (.ref (He.fAd K ("_law_planes_refused", none)))
  g_need_boxed : mg "need_boxed" = some (.ref (He.fAd K ("need_boxed", none)))
  g__law_same : mg "_law_same" = some (.ref (He.fAd K ("_law_same", none)))
  g__law_met : mg "_law_met" = some (.ref (He.fAd K ("_law_met", none)))
  g__law_is_very : mg "_law_is_very" = some (.ref (He.fAd K ("_law_is_very", none)))
  g_check_count : mg "check_count" = some (.ref (He.fAd K ("check_count", none)))
  g_need_planes : mg "need_planes" = some (.ref (He.fAd K ("need_planes", none)))
  g__law_odd_planes : mg "_law_odd_planes" = some (.ref (He.fAd K ("_law_odd_planes", none)))
  g_need_land : mg "need_land" = some (.ref (He.fAd K ("need_land", none)))
  g_check_many : mg "check_many" = some (.ref (He.fAd K ("check_many", none)))
  g_is_number : mg "is_number" = some (.ref (He.fAd K ("is_number", none)))
  g_planes_fault : mg "planes_fault" = some (.ref (He.fAd K ("planes_fault", none)))
  g_kept_plane : mg "kept_plane" = some (.ref (He.fAd K ("kept_plane", none)))
  g_kept_land : mg "kept_land" = some (.ref (He.fAd K ("kept_land", none)))
  g_is_whole : mg "is_whole" = some (.ref (He.fAd K ("is_whole", none)))
  g_is_list : mg "is_list" = some (.ref (He.fAd K ("is_list", none)))
  g_plain_of : mg "plain_of" = some (.ref (He.fAd K ("plain_of", none)))
  g_is_row : mg "is_row" = some (.ref (He.fAd K ("is_row", none)))
  g_kept_row : mg "kept_row" = some (.ref (He.fAd K ("kept_row", none)))
  g_rows_by : mg "rows_by" = some (.ref (He.fAd K ("rows_by", none)))
  g_common_divisor : mg "common_divisor" = some (.ref (He.fAd K ("common_divisor", none)))
  g_points_by : mg "points_by" = some (.ref (He.fAd K ("points_by", none)))
  g_sides : mg "sides" = some (.ref (He.fAd K ("sides", none)))
  g_points_of : mg "points_of" = some (.ref (He.fAd K ("points_of", none)))
  g_unlike_cuts : mg "unlike_cuts" = some (.ref (He.fAd K ("unlike_cuts", none)))
  g_lifted : mg "lifted" = some (.ref (He.fAd K ("lifted", none)))
  g_step_for : mg "step_for" = some (.ref (He.fAd K ("step_for", none)))
  g_stepped : mg "stepped" = some (.ref (He.fAd K ("stepped", none)))
  g_minus : mg "minus" = some (.ref (He.fAd K ("minus", none)))
  g_side_of : mg "side_of" = some (.ref (He.fAd K ("side_of", none)))
  g_system : mg "system" = some (.ref (He.fAd K ("system", none)))
  g_cut_by : mg "cut_by" = some (.ref (He.fAd K ("cut_by", none)))
  g_worth_at : mg "worth_at" = some (.ref (He.fAd K ("worth_at", none)))
  g_over : mg "over" = some (.ref (He.fAd K ("over", none)))
  g_times : mg "times" = some (.ref (He.fAd K ("times", none)))
  g_size_of : mg "size_of" = some (.ref (He.fAd K ("size_of", none)))
  g_is_under : mg "is_under" = some (.ref (He.fAd K ("is_under", none)))
  g_plus : mg "plus" = some (.ref (He.fAd K ("plus", none)))
  g_reduced : mg "reduced" = some (.ref (He.fAd K ("reduced", none)))
  g_reduced_rows : mg "reduced_rows" = some (.ref (He.fAd K ("reduced_rows", none)))
  g_dot : mg "dot" = some (.ref (He.fAd K ("dot", none)))
  g_total : mg "total" = some (.ref (He.fAd K ("total", none)))
  d__law_stream : fnD K "_law_stream" 98
  g__law_stream : mg "_law_stream" = some (.ref (He.fAd K ("_law_stream", none)))
  e_BadPlanes : excB K "BadPlanes" "index" = true
  n_BadPlanes : mg "BadPlanes" = some (.ref (He.ga K "BadPlanes"))
  x_BadPlanes : ExcC (at_ w K cal0) P w K mg base "BadPlanes" 0 "index"
  e_BadMany : excB K "BadMany" "many" = true
  n_BadMany : mg "BadMany" = some (.ref (He.ga K "BadMany"))
  x_BadMany : ExcC (at_ w K cal0) P w K mg base "BadMany" 1 "many"
  e_BadLand : excB K "BadLand" "land" = true
  n_BadLand : mg "BadLand" = some (.ref (He.ga K "BadLand"))
  x_BadLand : ExcC (at_ w K cal0) P w K mg base "BadLand" 2 "land"
  e_BadCount : excB K "BadCount" "count" = true
  n_BadCount : mg "BadCount" = some (.ref (He.ga K "BadCount"))
  x_BadCount : ExcC (at_ w K cal0) P w K mg base "BadCount" 3 "count"
  kt_NOUGHT : (ktOf K ktab) (He.ga K "NOUGHT") = some [(0 : Int), (1 : Int)]
  kg_NOUGHT : mg "NOUGHT" = some (.ref (He.ga K "NOUGHT"))
  ap : apartB K cnames = true
  tb_law : TabB base mg (He.cT K ("law", none)).1 (He.cT K ("law", none)).2
  tb__law_all_refused : TabB base mg (He.cT K ("_law_all_refused", none)).1 (He.cT K ("_law_all_refused", none)).2
  tb__law_planes_refused : TabB base mg (He.cT K ("_law_planes_refused", none)).1 (He.cT K ("_law_planes_refused", none)).2
  tb__law_is_very : TabB base mg (He.cT K ("_law_is_very", none)).1 (He.cT K ("_law_is_very", none)).2
  tn : ((TT K).map (·.1)).Nodup
theorem FX.nm_BadPlanes {P : Program} {w : World} {K : PySem.W.Frag} {mg : Str → Option Value} {base : Heap} {X : Cx} (fx : FX P w K mg base) (hg : Gl X "BadPlanes") (hm : X.mg = mg := by rfl) (hk : X.K = K := by rfl) : Names X "BadPlanes" (.ref (He.ga K "BadPlanes")) := by subst hm hk; exact names_of (h := base) hg rfl fx.n_BadPlanes
theorem FX.nm_BadMany {P : Program} {w : World} {K : PySem.W.Frag} {mg : Str → Option Value} {base : Heap} {X : Cx} (fx : FX P w K mg base) (hg : Gl X "BadMany") (hm : X.mg = mg := by rfl) (hk : X.K = K := by rfl) : Names X "BadMany" (.ref (He.ga K "BadMany")) := by subst hm hk; exact names_of (h := base) hg rfl fx.n_BadMany
theorem FX.nm_BadLand {P : Program} {w : World} {K : PySem.W.Frag} {mg : Str → Option Value} {base : Heap} {X : Cx} (fx : FX P w K mg base) (hg : Gl X "BadLand") (hm : X.mg = mg := by rfl) (hk : X.K = K := by rfl) : Names X "BadLand" (.ref (He.ga K "BadLand")) := by subst hm hk; exact names_of (h := base) hg rfl fx.n_BadLand
theorem FX.nm_BadCount {P : Program} {w : World} {K : PySem.W.Frag} {mg : Str → Option Value} {base : Heap} {X : Cx} (fx : FX P w K mg base) (hg : Gl X "BadCount") (hm : X.mg = mg := by rfl) (hk : X.K = K := by rfl) : Names X "BadCount" (.ref (He.ga K "BadCount")) := by subst hm hk; exact names_of (h := base) hg rfl fx.n_BadCount
structure HH (P : Program) (w : World) (K : PySem.W.Frag) (mg : Str → Option Value) (base : Heap) (k : Nat) (cal : Cal) : Prop where
  f1 : CalF (at_ w K cal) P w K mg base k "corners_in_turn" 1 ["planes", "land"] (defArgs (top 81))
  f2 : CalF (at_ w K cal) P w K mg base k "area" 2 ["planes", "land"] (defArgs (top 82))
  f3 : CalF (at_ w K cal) P w K mg base k "middle" 3 ["planes", "land"] (defArgs (top 83))
  f4 : CalF (at_ w K cal) P w K mg base k "neighbours_in_turn" 4 ["planes", "land"] (defArgs (top 84))
  f5 : CalF (at_ w K cal) P w K mg base k "_law_all_refused" 5 ["word", "odds", "asks"] (defArgs (top 102))
  f6 : CalF (at_ w K cal) P w K mg base k "_law_draw" 6 ["stream", "many"] (defArgs (top 99))
  f7 : CalF (at_ w K cal) P w K mg base k "most_lands" 7 ["many", "count"] (defArgs (top 93))
  f8 : CalF (at_ w K cal) P w K mg base k "most_bounded" 8 ["many", "count"] (defArgs (top 94))
  f9 : CalF (at_ w K cal) P w K mg base k "most_corners" 9 ["many", "count"] (defArgs (top 95))
  f10 : CalF (at_ w K cal) P w K mg base k "general_or_lot" 10 ["many", "planes"] (defArgs (top 88))
  f11 : CalF (at_ w K cal) P w K mg base k "lands_lacking" 11 ["many", "planes"] (defArgs (top 96))
  f12 : CalF (at_ w K cal) P w K mg base k "_law_planes_refused" 12 ["asks"] (defArgs (top 104))
  f13 : CalF (at_ w K cal) P w K mg base k "need_boxed" 13 ["planes", "land"] (defArgs (top 77))
  f14 : CalF (at_ w K cal) P w K mg base k "_law_same" 14 ["found", "due"] (defArgs (top 100))
  f15 : CalF (at_ w K cal) P w K mg base k "_law_met" 15 ["ask"] (defArgs (top 105))
  f16 : CalF (at_ w K cal) P w K mg base k "_law_is_very" 16 ["word", "ask"] (defArgs (top 101))
  f17 : CalF (at_ w K cal) P w K mg base k "check_count" 17 ["many", "count"] (defArgs (top 90))
  f18 : CalF (at_ w K cal) P w K mg base k "need_planes" 18 ["many", "planes"] (defArgs (top 30))
  f19 : CalF (at_ w K cal) P w K mg base k "_law_odd_planes" 19 [] (defArgs (top 103))
  f20 : CalF (at_ w K cal) P w K mg base k "need_land" 20 ["many", "planes", "land"] (defArgs (top 57))
  f21 : CalF (at_ w K cal) P w K mg base k "check_many" 21 ["many"] (defArgs (top 26))
  f22 : CalF (at_ w K cal) P w K mg base k "is_number" 22 ["thing"] (defArgs (top 3))
  f23 : CalF (at_ w K cal) P w K mg base k "planes_fault" 23 ["many", "thing"] (defArgs (top 29))
  f24 : CalF (at_ w K cal) P w K mg base k "kept_plane" 24 ["many", "thing"] (defArgs (top 27))
  f25 : CalF (at_ w K cal) P w K mg base k "kept_land" 25 ["many", "planes", "thing"] (defArgs (top 56))
  f26 : CalF (at_ w K cal) P w K mg base k "is_whole" 26 ["thing"] (defArgs (top 2))
  f27 : CalF (at_ w K cal) P w K mg base k "is_list" 27 ["thing"] (defArgs (top 1))
  f28 : CalF (at_ w K cal) P w K mg base k "plain_of" 28 ["plane"] (defArgs (top 28))
  f29 : CalF (at_ w K cal) P w K mg base k "is_row" 29 ["thing", "many"] (defArgs (top 4))
  f30 : CalF (at_ w K cal) P w K mg base k "kept_row" 30 ["planes", "thing", "words"] (defArgs (top 55))
  f31 : CalF (at_ w K cal) P w K mg base k "rows_by" 31 ["many", "planes"] (defArgs (top 54))
  f32 : CalF (at_ w K cal) P w K mg base k "common_divisor" 32 ["one", "other"] (defArgs (top 13))
  f33 : CalF (at_ w K cal) P w K mg base k "points_by" 33 ["many", "planes"] (defArgs (top 53))
  f34 : CalF (at_ w K cal) P w K mg base k "sides" 34 ["planes", "point"] (defArgs (top 33))
  f35 : CalF (at_ w K cal) P w K mg base k "points_of" 35 ["many", "planes"] (defArgs (top 39))
  f36 : CalF (at_ w K cal) P w K mg base k "unlike_cuts" 36 ["planes", "point", "ways"] (defArgs (top 52))
  f37 : CalF (at_ w K cal) P w K mg base k "lifted" 37 ["point", "ways", "numbers"] (defArgs (top 49))
  f38 : CalF (at_ w K cal) P w K mg base k "step_for" 38 ["planes", "point", "way"] (defArgs (top 50))
  f39 : CalF (at_ w K cal) P w K mg base k "stepped" 39 ["point", "way", "by"] (defArgs (top 48))
  f40 : CalF (at_ w K cal) P w K mg base k "minus" 40 ["one", "other"] (defArgs (top 16))
  f41 : CalF (at_ w K cal) P w K mg base k "side_of" 41 ["plane", "point"] (defArgs (top 32))
  f42 : CalF (at_ w K cal) P w K mg base k "system" 42 ["planes", "many"] (defArgs (top 37))
  f43 : CalF (at_ w K cal) P w K mg base k "cut_by" 43 ["plane", "point", "ways"] (defArgs (top 46))
  f44 : CalF (at_ w K cal) P w K mg base k "worth_at" 44 ["plane", "point"] (defArgs (top 31))
  f45 : CalF (at_ w K cal) P w K mg base k "over" 45 ["one", "other"] (defArgs (top 18))
  f46 : CalF (at_ w K cal) P w K mg base k "times" 46 ["one", "other"] (defArgs (top 17))
  f47 : CalF (at_ w K cal) P w K mg base k "size_of" 47 ["number"] (defArgs (top 51))
  f48 : CalF (at_ w K cal) P w K mg base k "is_under" 48 ["one", "other"] (defArgs (top 19))
  f49 : CalF (at_ w K cal) P w K mg base k "plus" 49 ["one", "other"] (defArgs (top 15))
  f50 : CalF (at_ w K cal) P w K mg base k "reduced" 50 ["above", "below"] (defArgs (top 14))
  f51 : CalF (at_ w K cal) P w K mg base k "reduced_rows" 51 ["rows", "columns"] (defArgs (top 36))
  f52 : CalF (at_ w K cal) P w K mg base k "dot" 52 ["one", "other"] (defArgs (top 21))
  f53 : CalF (at_ w K cal) P w K mg base k "total" 53 ["things"] (defArgs (top 20))
  lp : LamP (at_ w K cal) P w K mg base k
theorem bn1 : ∀ (body : List Stmt) (scope : Scope) (kV doc pm : Value) (an : Option Addr) (cdv ct : Value) (us : List Value), us.length = (["planes", "land"] : List Str).length → bindArgs (fdOf "corners_in_turn" (defArgs (top 81)) body scope kV doc pm an cdv ct) ⟨us, []⟩ = pure ((["planes", "land"] : List Str).zip us) := fun _ _ _ _ _ _ _ _ us hl => match us, hl with | [a0, a1], _ => rfl
theorem bn2 : ∀ (body : List Stmt) (scope : Scope) (kV doc pm : Value) (an : Option Addr) (cdv ct : Value) (us : List Value), us.length = (["planes", "land"] : List Str).length → bindArgs (fdOf "area" (defArgs (top 82)) body scope kV doc pm an cdv ct) ⟨us, []⟩ = pure ((["planes", "land"] : List Str).zip us) := fun _ _ _ _ _ _ _ _ us hl => match us, hl with | [a0, a1], _ => rfl
theorem bn3 : ∀ (body : List Stmt) (scope : Scope) (kV doc pm : Value) (an : Option Addr) (cdv ct : Value) (us : List Value), us.length = (["planes", "land"] : List Str).length → bindArgs (fdOf "middle" (defArgs (top 83)) body scope kV doc pm an cdv ct) ⟨us, []⟩ = pure ((["planes", "land"] : List Str).zip us) := fun _ _ _ _ _ _ _ _ us hl => match us, hl with | [a0, a1], _ => rfl
theorem bn4 : ∀ (body : List Stmt) (scope : Scope) (kV doc pm : Value) (an : Option Addr) (cdv ct : Value) (us : List Value), us.length = (["planes", "land"] : List Str).length → bindArgs (fdOf "neighbours_in_turn" (defArgs (top 84)) body scope kV doc pm an cdv ct) ⟨us, []⟩ = pure ((["planes", "land"] : List Str).zip us) := fun _ _ _ _ _ _ _ _ us hl => match us, hl with | [a0, a1], _ => rfl
theorem bn5 : ∀ (body : List Stmt) (scope : Scope) (kV doc pm : Value) (an : Option Addr) (cdv ct : Value) (us : List Value), us.length = (["word", "odds", "asks"] : List Str).length → bindArgs (fdOf "_law_all_refused" (defArgs (top 102)) body scope kV doc pm an cdv ct) ⟨us, []⟩ = pure ((["word", "odds", "asks"] : List Str).zip us) := fun _ _ _ _ _ _ _ _ us hl => match us, hl with | [a0, a1, a2], _ => rfl
theorem bn6 : ∀ (body : List Stmt) (scope : Scope) (kV doc pm : Value) (an : Option Addr) (cdv ct : Value) (us : List Value), us.length = (["stream", "many"] : List Str).length → bindArgs (fdOf "_law_draw" (defArgs (top 99)) body scope kV doc pm an cdv ct) ⟨us, []⟩ = pure ((["stream", "many"] : List Str).zip us) := fun _ _ _ _ _ _ _ _ us hl => match us, hl with | [a0, a1], _ => rfl
theorem bn7 : ∀ (body : List Stmt) (scope : Scope) (kV doc pm : Value) (an : Option Addr) (cdv ct : Value) (us : List Value), us.length = (["many", "count"] : List Str).length → bindArgs (fdOf "most_lands" (defArgs (top 93)) body scope kV doc pm an cdv ct) ⟨us, []⟩ = pure ((["many", "count"] : List Str).zip us) := fun _ _ _ _ _ _ _ _ us hl => match us, hl with | [a0, a1], _ => rfl
theorem bn8 : ∀ (body : List Stmt) (scope : Scope) (kV doc pm : Value) (an : Option Addr) (cdv ct : Value) (us : List Value), us.length = (["many", "count"] : List Str).length → bindArgs (fdOf "most_bounded" (defArgs (top 94)) body scope kV doc pm an cdv ct) ⟨us, []⟩ = pure ((["many", "count"] : List Str).zip us) := fun _ _ _ _ _ _ _ _ us hl => match us, hl with | [a0, a1], _ => rfl
theorem bn9 : ∀ (body : List Stmt) (scope : Scope) (kV doc pm : Value) (an : Option Addr) (cdv ct : Value) (us : List Value), us.length = (["many", "count"] : List Str).length → bindArgs (fdOf "most_corners" (defArgs (top 95)) body scope kV doc pm an cdv ct) ⟨us, []⟩ = pure ((["many", "count"] : List Str).zip us) := fun _ _ _ _ _ _ _ _ us hl => match us, hl with | [a0, a1], _ => rfl
theorem bn10 : ∀ (body : List Stmt) (scope : Scope) (kV doc pm : Value) (an : Option Addr) (cdv ct : Value) (us : List Value), us.length = (["many", "planes"] : List Str).length → bindArgs (fdOf "general_or_lot" (defArgs (top 88)) body scope kV doc pm an cdv ct) ⟨us, []⟩ = pure ((["many", "planes"] : List Str).zip us) := fun _ _ _ _ _ _ _ _ us hl => match us, hl with | [a0, a1], _ => rfl
theorem bn11 : ∀ (body : List Stmt) (scope : Scope) (kV doc pm : Value) (an : Option Addr) (cdv ct : Value) (us : List Value), us.length = (["many", "planes"] : List Str).length → bindArgs (fdOf "lands_lacking" (defArgs (top 96)) body scope kV doc pm an cdv ct) ⟨us, []⟩ = pure ((["many", "planes"] : List Str).zip us) := fun _ _ _ _ _ _ _ _ us hl => match us, hl with | [a0, a1], _ => rfl
theorem bn12 : ∀ (body : List Stmt) (scope : Scope) (kV doc pm : Value) (an : Option Addr) (cdv ct : Value) (us : List Value), us.length = (["asks"] : List Str).length → bindArgs (fdOf "_law_planes_refused" (defArgs (top 104)) body scope kV doc pm an cdv ct) ⟨us, []⟩ = pure ((["asks"] : List Str).zip us) := fun _ _ _ _ _ _ _ _ us hl => match us, hl with | [a0], _ => rfl
theorem bn13 : ∀ (body : List Stmt) (scope : Scope) (kV doc pm : Value) (an : Option Addr) (cdv ct : Value) (us : List Value), us.length = (["planes", "land"] : List Str).length → bindArgs (fdOf "need_boxed" (defArgs (top 77)) body scope kV doc pm an cdv ct) ⟨us, []⟩ = pure ((["planes", "land"] : List Str).zip us) := fun _ _ _ _ _ _ _ _ us hl => match us, hl with | [a0, a1], _ => rfl
theorem bn14 : ∀ (body : List Stmt) (scope : Scope) (kV doc pm : Value) (an : Option Addr) (cdv ct : Value) (us : List Value), us.length = (["found", "due"] : List Str).length → bindArgs (fdOf "_law_same" (defArgs (top 100)) body scope kV doc pm an cdv ct) ⟨us, []⟩ = pure ((["found", "due"] : List Str).zip us) := fun _ _ _ _ _ _ _ _ us hl => match us, hl with | [a0, a1], _ => rfl
theorem bn15 : ∀ (body : List Stmt) (scope : Scope) (kV doc pm : Value) (an : Option Addr) (cdv ct : Value) (us : List Value), us.length = (["ask"] : List Str).length → bindArgs (fdOf "_law_met" (defArgs (top 105)) body scope kV doc pm an cdv ct) ⟨us, []⟩ = pure ((["ask"] : List Str).zip us) := fun _ _ _ _ _ _ _ _ us hl => match us, hl with | [a0], _ => rfl
theorem bn16 : ∀ (body : List Stmt) (scope : Scope) (kV doc pm : Value) (an : Option Addr) (cdv ct : Value) (us : List Value), us.length = (["word", "ask"] : List Str).length → bindArgs (fdOf "_law_is_very" (defArgs (top 101)) body scope kV doc pm an cdv ct) ⟨us, []⟩ = pure ((["word", "ask"] : List Str).zip us) := fun _ _ _ _ _ _ _ _ us hl => match us, hl with | [a0, a1], _ => rfl
theorem bn17 : ∀ (body : List Stmt) (scope : Scope) (kV doc pm : Value) (an : Option Addr) (cdv ct : Value) (us : List Value), us.length = (["many", "count"] : List Str).length → bindArgs (fdOf "check_count" (defArgs (top 90)) body scope kV doc pm an cdv ct) ⟨us, []⟩ = pure ((["many", "count"] : List Str).zip us) := fun _ _ _ _ _ _ _ _ us hl => match us, hl with | [a0, a1], _ => rfl
theorem bn18 : ∀ (body : List Stmt) (scope : Scope) (kV doc pm : Value) (an : Option Addr) (cdv ct : Value) (us : List Value), us.length = (["many", "planes"] : List Str).length → bindArgs (fdOf "need_planes" (defArgs (top 30)) body scope kV doc pm an cdv ct) ⟨us, []⟩ = pure ((["many", "planes"] : List Str).zip us) := fun _ _ _ _ _ _ _ _ us hl => match us, hl with | [a0, a1], _ => rfl
theorem bn19 : ∀ (body : List Stmt) (scope : Scope) (kV doc pm : Value) (an : Option Addr) (cdv ct : Value), bindArgs (fdOf "_law_odd_planes" (defArgs (top 103)) body scope kV doc pm an cdv ct) ⟨[], []⟩ = pure [] := fun _ _ _ _ _ _ _ _ => rfl
theorem bn20 : ∀ (body : List Stmt) (scope : Scope) (kV doc pm : Value) (an : Option Addr) (cdv ct : Value) (us : List Value), us.length = (["many", "planes", "land"] : List Str).length → bindArgs (fdOf "need_land" (defArgs (top 57)) body scope kV doc pm an cdv ct) ⟨us, []⟩ = pure ((["many", "planes", "land"] : List Str).zip us) := fun _ _ _ _ _ _ _ _ us hl => match us, hl with | [a0, a1, a2], _ => rfl
theorem bn21 : ∀ (body : List Stmt) (scope : Scope) (kV doc pm : Value) (an : Option Addr) (cdv ct : Value) (us : List Value), us.length = (["many"] : List Str).length → bindArgs (fdOf "check_many" (defArgs (top 26)) body scope kV doc pm an cdv ct) ⟨us, []⟩ = pure ((["many"] : List Str).zip us) := fun _ _ _ _ _ _ _ _ us hl => match us, hl with | [a0], _ => rfl
theorem bn22 : ∀ (body : List Stmt) (scope : Scope) (kV doc pm : Value) (an : Option Addr) (cdv ct : Value) (us : List Value), us.length = (["thing"] : List Str).length → bindArgs (fdOf "is_number" (defArgs (top 3)) body scope kV doc pm an cdv ct) ⟨us, []⟩ = pure ((["thing"] : List Str).zip us) := fun _ _ _ _ _ _ _ _ us hl => match us, hl with | [a0], _ => rfl
theorem bn23 : ∀ (body : List Stmt) (scope : Scope) (kV doc pm : Value) (an : Option Addr) (cdv ct : Value) (us : List Value), us.length = (["many", "thing"] : List Str).length → bindArgs (fdOf "planes_fault" (defArgs (top 29)) body scope kV doc pm an cdv ct) ⟨us, []⟩ = pure ((["many", "thing"] : List Str).zip us) := fun _ _ _ _ _ _ _ _ us hl => match us, hl with | [a0, a1], _ => rfl
theorem bn24 : ∀ (body : List Stmt) (scope : Scope) (kV doc pm : Value) (an : Option Addr) (cdv ct : Value) (us : List Value), us.length = (["many", "thing"] : List Str).length → bindArgs (fdOf "kept_plane" (defArgs (top 27)) body scope kV doc pm an cdv ct) ⟨us, []⟩ = pure ((["many", "thing"] : List Str).zip us) := fun _ _ _ _ _ _ _ _ us hl => match us, hl with | [a0, a1], _ => rfl
theorem bn25 : ∀ (body : List Stmt) (scope : Scope) (kV doc pm : Value) (an : Option Addr) (cdv ct : Value) (us : List Value), us.length = (["many", "planes", "thing"] : List Str).length → bindArgs (fdOf "kept_land" (defArgs (top 56)) body scope kV doc pm an cdv ct) ⟨us, []⟩ = pure ((["many", "planes", "thing"] : List Str).zip us) := fun _ _ _ _ _ _ _ _ us hl => match us, hl with | [a0, a1, a2], _ => rfl
theorem bn26 : ∀ (body : List Stmt) (scope : Scope) (kV doc pm : Value) (an : Option Addr) (cdv ct : Value) (us : List Value), us.length = (["thing"] : List Str).length → bindArgs (fdOf "is_whole" (defArgs (top 2)) body scope kV doc pm an cdv ct) ⟨us, []⟩ = pure ((["thing"] : List Str).zip us) := fun _ _ _ _ _ _ _ _ us hl => match us, hl with | [a0], _ => rfl
theorem bn27 : ∀ (body : List Stmt) (scope : Scope) (kV doc pm : Value) (an : Option Addr) (cdv ct : Value) (us : List Value), us.length = (["thing"] : List Str).length → bindArgs (fdOf "is_list" (defArgs (top 1)) body scope kV doc pm an cdv ct) ⟨us, []⟩ = pure ((["thing"] : List Str).zip us) := fun _ _ _ _ _ _ _ _ us hl => match us, hl with | [a0], _ => rfl
theorem bn28 : ∀ (body : List Stmt) (scope : Scope) (kV doc pm : Value) (an : Option Addr) (cdv ct : Value) (us : List Value), us.length = (["plane"] : List Str).length → bindArgs (fdOf "plain_of" (defArgs (top 28)) body scope kV doc pm an cdv ct) ⟨us, []⟩ = pure ((["plane"] : List Str).zip us) := fun _ _ _ _ _ _ _ _ us hl => match us, hl with | [a0], _ => rfl
theorem bn29 : ∀ (body : List Stmt) (scope : Scope) (kV doc pm : Value) (an : Option Addr) (cdv ct : Value) (us : List Value), us.length = (["thing", "many"] : List Str).length → bindArgs (fdOf "is_row" (defArgs (top 4)) body scope kV doc pm an cdv ct) ⟨us, []⟩ = pure ((["thing", "many"] : List Str).zip us) := fun _ _ _ _ _ _ _ _ us hl => match us, hl with | [a0, a1], _ => rfl
theorem bn30 : ∀ (body : List Stmt) (scope : Scope) (kV doc pm : Value) (an : Option Addr) (cdv ct : Value) (us : List Value), us.length = (["planes", "thing", "words"] : List Str).length → bindArgs (fdOf "kept_row" (defArgs (top 55)) body scope kV doc pm an cdv ct) ⟨us, []⟩ = pure ((["planes", "thing", "words"] : List Str).zip us) := fun _ _ _ _ _ _ _ _ us hl => match us, hl with | [a0, a1, a2], _ => rfl
theorem bn31 : ∀ (body : List Stmt) (scope : Scope) (kV doc pm : Value) (an : Option Addr) (cdv ct : Value) (us : List Value), us.length = (["many", "planes"] : List Str).length → bindArgs (fdOf "rows_by" (defArgs (top 54)) body scope kV doc pm an cdv ct) ⟨us, []⟩ = pure ((["many", "planes"] : List Str).zip us) := fun _ _ _ _ _ _ _ _ us hl => match us, hl with | [a0, a1], _ => rfl
theorem bn32 : ∀ (body : List Stmt) (scope : Scope) (kV doc pm : Value) (an : Option Addr) (cdv ct : Value) (us : List Value), us.length = (["one", "other"] : List Str).length → bindArgs (fdOf "common_divisor" (defArgs (top 13)) body scope kV doc pm an cdv ct) ⟨us, []⟩ = pure ((["one", "other"] : List Str).zip us) := fun _ _ _ _ _ _ _ _ us hl => match us, hl with | [a0, a1], _ => rfl
theorem bn33 : ∀ (body : List Stmt) (scope : Scope) (kV doc pm : Value) (an : Option Addr) (cdv ct : Value) (us : List Value), us.length = (["many", "planes"] : List Str).length → bindArgs (fdOf "points_by" (defArgs (top 53)) body scope kV doc pm an cdv ct) ⟨us, []⟩ = pure ((["many", "planes"] : List Str).zip us) := fun _ _ _ _ _ _ _ _ us hl => match us, hl with | [a0, a1], _ => rfl
theorem bn34 : ∀ (body : List Stmt) (scope : Scope) (kV doc pm : Value) (an : Option Addr) (cdv ct : Value) (us : List Value), us.length = (["planes", "point"] : List Str).length → bindArgs (fdOf "sides" (defArgs (top 33)) body scope kV doc pm an cdv ct) ⟨us, []⟩ = pure ((["planes", "point"] : List Str).zip us) := fun _ _ _ _ _ _ _ _ us hl => match us, hl with | [a0, a1], _ => rfl
theorem bn35 : ∀ (body : List Stmt) (scope : Scope) (kV doc pm : Value) (an : Option Addr) (cdv ct : Value) (us : List Value), us.length = (["many", "planes"] : List Str).length → bindArgs (fdOf "points_of" (defArgs (top 39)) body scope kV doc pm an cdv ct) ⟨us, []⟩ = pure ((["many", "planes"] : List Str).zip us) := fun _ _ _ _ _ _ _ _ us hl => match us, hl with | [a0, a1], _ => rfl
theorem bn36 : ∀ (body : List Stmt) (scope : Scope) (kV doc pm : Value) (an : Option Addr) (cdv ct : Value) (us : List Value), us.length = (["planes", "point", "ways"] : List Str).length → bindArgs (fdOf "unlike_cuts" (defArgs (top 52)) body scope kV doc pm an cdv ct) ⟨us, []⟩ = pure ((["planes", "point", "ways"] : List Str).zip us) := fun _ _ _ _ _ _ _ _ us hl => match us, hl with | [a0, a1, a2], _ => rfl
theorem bn37 : ∀ (body : List Stmt) (scope : Scope) (kV doc pm : Value) (an : Option Addr) (cdv ct : Value) (us : List Value), us.length = (["point", "ways", "numbers"] : List Str).length → bindArgs (fdOf "lifted" (defArgs (top 49)) body scope kV doc pm an cdv ct) ⟨us, []⟩ = pure ((["point", "ways", "numbers"] : List Str).zip us) := fun _ _ _ _ _ _ _ _ us hl => match us, hl with | [a0, a1, a2], _ => rfl
theorem bn38 : ∀ (body : List Stmt) (scope : Scope) (kV doc pm : Value) (an : Option Addr) (cdv ct : Value) (us : List Value), us.length = (["planes", "point", "way"] : List Str).length → bindArgs (fdOf "step_for" (defArgs (top 50)) body scope kV doc pm an cdv ct) ⟨us, []⟩ = pure ((["planes", "point", "way"] : List Str).zip us) := fun _ _ _ _ _ _ _ _ us hl => match us, hl with | [a0, a1, a2], _ => rfl
theorem bn39 : ∀ (body : List Stmt) (scope : Scope) (kV doc pm : Value) (an : Option Addr) (cdv ct : Value) (us : List Value), us.length = (["point", "way", "by"] : List Str).length → bindArgs (fdOf "stepped" (defArgs (top 48)) body scope kV doc pm an cdv ct) ⟨us, []⟩ = pure ((["point", "way", "by"] : List Str).zip us) := fun _ _ _ _ _ _ _ _ us hl => match us, hl with | [a0, a1, a2], _ => rfl
theorem bn40 : ∀ (body : List Stmt) (scope : Scope) (kV doc pm : Value) (an : Option Addr) (cdv ct : Value) (us : List Value), us.length = (["one", "other"] : List Str).length → bindArgs (fdOf "minus" (defArgs (top 16)) body scope kV doc pm an cdv ct) ⟨us, []⟩ = pure ((["one", "other"] : List Str).zip us) := fun _ _ _ _ _ _ _ _ us hl => match us, hl with | [a0, a1], _ => rfl
theorem bn41 : ∀ (body : List Stmt) (scope : Scope) (kV doc pm : Value) (an : Option Addr) (cdv ct : Value) (us : List Value), us.length = (["plane", "point"] : List Str).length → bindArgs (fdOf "side_of" (defArgs (top 32)) body scope kV doc pm an cdv ct) ⟨us, []⟩ = pure ((["plane", "point"] : List Str).zip us) := fun _ _ _ _ _ _ _ _ us hl => match us, hl with | [a0, a1], _ => rfl
theorem bn42 : ∀ (body : List Stmt) (scope : Scope) (kV doc pm : Value) (an : Option Addr) (cdv ct : Value) (us : List Value), us.length = (["planes", "many"] : List Str).length → bindArgs (fdOf "system" (defArgs (top 37)) body scope kV doc pm an cdv ct) ⟨us, []⟩ = pure ((["planes", "many"] : List Str).zip us) := fun _ _ _ _ _ _ _ _ us hl => match us, hl with | [a0, a1], _ => rfl
theorem bn43 : ∀ (body : List Stmt) (scope : Scope) (kV doc pm : Value) (an : Option Addr) (cdv ct : Value) (us : List Value), us.length = (["plane", "point", "ways"] : List Str).length → bindArgs (fdOf "cut_by" (defArgs (top 46)) body scope kV doc pm an cdv ct) ⟨us, []⟩ = pure ((["plane", "point", "ways"] : List Str).zip us) := fun _ _ _ _ _ _ _ _ us hl => match us, hl with | [a0, a1, a2], _ => rfl
theorem bn44 : ∀ (body : List Stmt) (scope : Scope) (kV doc pm : Value) (an : Option Addr) (cdv ct : Value) (us : List Value), us.length = (["plane", "point"] : List Str).length → bindArgs (fdOf "worth_at" (defArgs (top 31)) body scope kV doc pm an cdv ct) ⟨us, []⟩ = pure ((["plane", "point"] : List Str).zip us) := fun _ _ _ _ _ _ _ _ us hl => match us, hl with | [a0, a1], _ => rfl
theorem bn45 : ∀ (body : List Stmt) (scope : Scope) (kV doc pm : Value) (an : Option Addr) (cdv ct : Value) (us : List Value), us.length = (["one", "other"] : List Str).length → bindArgs (fdOf "over" (defArgs (top 18)) body scope kV doc pm an cdv ct) ⟨us, []⟩ = pure ((["one", "other"] : List Str).zip us) := fun _ _ _ _ _ _ _ _ us hl => match us, hl with | [a0, a1], _ => rfl
theorem bn46 : ∀ (body : List Stmt) (scope : Scope) (kV doc pm : Value) (an : Option Addr) (cdv ct : Value) (us : List Value), us.length = (["one", "other"] : List Str).length → bindArgs (fdOf "times" (defArgs (top 17)) body scope kV doc pm an cdv ct) ⟨us, []⟩ = pure ((["one", "other"] : List Str).zip us) := fun _ _ _ _ _ _ _ _ us hl => match us, hl with | [a0, a1], _ => rfl
theorem bn47 : ∀ (body : List Stmt) (scope : Scope) (kV doc pm : Value) (an : Option Addr) (cdv ct : Value) (us : List Value), us.length = (["number"] : List Str).length → bindArgs (fdOf "size_of" (defArgs (top 51)) body scope kV doc pm an cdv ct) ⟨us, []⟩ = pure ((["number"] : List Str).zip us) := fun _ _ _ _ _ _ _ _ us hl => match us, hl with | [a0], _ => rfl
theorem bn48 : ∀ (body : List Stmt) (scope : Scope) (kV doc pm : Value) (an : Option Addr) (cdv ct : Value) (us : List Value), us.length = (["one", "other"] : List Str).length → bindArgs (fdOf "is_under" (defArgs (top 19)) body scope kV doc pm an cdv ct) ⟨us, []⟩ = pure ((["one", "other"] : List Str).zip us) := fun _ _ _ _ _ _ _ _ us hl => match us, hl with | [a0, a1], _ => rfl
theorem bn49 : ∀ (body : List Stmt) (scope : Scope) (kV doc pm : Value) (an : Option Addr) (cdv ct : Value) (us : List Value), us.length = (["one", "other"] : List Str).length → bindArgs (fdOf "plus" (defArgs (top 15)) body scope kV doc pm an cdv ct) ⟨us, []⟩ = pure ((["one", "other"] : List Str).zip us) := fun _ _ _ _ _ _ _ _ us hl => match us, hl with | [a0, a1], _ => rfl
theorem bn50 : ∀ (body : List Stmt) (scope : Scope) (kV doc pm : Value) (an : Option Addr) (cdv ct : Value) (us : List Value), us.length = (["above", "below"] : List Str).length → bindArgs (fdOf "reduced" (defArgs (top 14)) body scope kV doc pm an cdv ct) ⟨us, []⟩ = pure ((["above", "below"] : List Str).zip us) := fun _ _ _ _ _ _ _ _ us hl => match us, hl with | [a0, a1], _ => rfl
theorem bn51 : ∀ (body : List Stmt) (scope : Scope) (kV doc pm : Value) (an : Option Addr) (cdv ct : Value) (us : List Value), us.length = (["rows", "columns"] : List Str).length → bindArgs (fdOf "reduced_rows" (defArgs (top 36)) body scope kV doc pm an cdv ct) ⟨us, []⟩ = pure ((["rows", "columns"] : List Str).zip us) := fun _ _ _ _ _ _ _ _ us hl => match us, hl with | [a0, a1], _ => rfl
theorem bn52 : ∀ (body : List Stmt) (scope : Scope) (kV doc pm : Value) (an : Option Addr) (cdv ct : Value) (us : List Value), us.length = (["one", "other"] : List Str).length → bindArgs (fdOf "dot" (defArgs (top 21)) body scope kV doc pm an cdv ct) ⟨us, []⟩ = pure ((["one", "other"] : List Str).zip us) := fun _ _ _ _ _ _ _ _ us hl => match us, hl with | [a0, a1], _ => rfl
theorem bn53 : ∀ (body : List Stmt) (scope : Scope) (kV doc pm : Value) (an : Option Addr) (cdv ct : Value) (us : List Value), us.length = (["things"] : List Str).length → bindArgs (fdOf "total" (defArgs (top 20)) body scope kV doc pm an cdv ct) ⟨us, []⟩ = pure ((["things"] : List Str).zip us) := fun _ _ _ _ _ _ _ _ us hl => match us, hl with | [a0], _ => rfl
theorem bk1 : BindK "middle" (defArgs (top 83)) ["planes", "land"] 0 ["land", "planes"] [1, 0] := fun _ _ _ _ _ _ _ _ us ws h1 h2 => match us, h1, ws, h2 with | [], _, [a0, a1], _ => rfl
theorem bk2 : BindK "most_corners" (defArgs (top 95)) ["many", "count"] 0 ["count", "many"] [1, 0] := fun _ _ _ _ _ _ _ _ us ws h1 h2 => match us, h1, ws, h2 with | [], _, [a0, a1], _ => rfl
section
variable {P : Program} {w : World} {K : PySem.W.Frag} {mg : Str → Option Value} {base : Heap} {k : Nat} {cal : Cal} {W : WX} {A : Around} {outer : List PySem.Env} {s : Shared} {H : Hp} {E : XK} {f : Addr} {cdv : Value}
theorem b_law (fx : FX P w K mg base) (hh : HH P w K mg base (k + 2) cal) (hc : cdv = .ref (He.codeOf K ("law", none))) (bd : Bod ⟨GG w K, TT K, cal, clsN K cnames, [4, 5], W⟩ (cxOf (L2.CX P w) P w K mg base N_law "law" (defScope (top 106)) f cdv A outer s H E) (k + 2)) : XSs ⟨GG w K, TT K, cal, clsN K cnames, [4, 5], W⟩ (cxOf (L2.CX P w) P w K mg base N_law "law" (defScope (top 106)) f cdv A outer s H E) ((defBody (top 106)).tail) m_law :=
  by
 refine xss_cutS ?_ ?_
 exact (xs_v bd.toBex 2 (xe_lst true (xa_cons (xe_lamB (sc := (defScope (top 106))) (fr := []) fx.tb_law hc (List.Mem.head _) rfl fx.tn rfl (by decide +kernel) rfl rfl rfl rfl) xa_nil rfl)) rfl rfl rfl rfl rfl)
 refine xss_cutS ?_ ?_
 exact (xs_expr (xe_append (xe_v 2 rfl rfl rfl rfl rfl) (xe_lamB (sc := (defScope (top 106))) (fr := []) fx.tb_law hc (List.Mem.head _) rfl fx.tn rfl (by decide +kernel) rfl rfl rfl rfl) rfl rfl rfl rfl rfl) rfl)
 refine xss_cutS ?_ ?_
 exact (xs_expr (xe_append (xe_v 2 rfl rfl rfl rfl rfl) (xe_lamB (sc := (defScope (top 106))) (fr := []) fx.tb_law hc (List.Mem.head _) rfl fx.tn rfl (by decide +kernel) rfl rfl rfl rfl) rfl rfl rfl rfl rfl) rfl)
 refine xss_cutS ?_ ?_
 exact (xs_expr (xe_append (xe_v 2 rfl rfl rfl rfl rfl) (xe_lamB (sc := (defScope (top 106))) (fr := []) fx.tb_law hc (List.Mem.head _) rfl fx.tn rfl (by decide +kernel) rfl rfl rfl rfl) rfl rfl rfl rfl rfl) rfl)
 refine xss_cutS ?_ ?_
 exact (xs_expr (xe_append (xe_v 2 rfl rfl rfl rfl rfl) (xe_lamB (sc := (defScope (top 106))) (fr := []) fx.tb_law hc (List.Mem.head _) rfl fx.tn rfl (by decide +kernel) rfl rfl rfl rfl) rfl rfl rfl rfl rfl) rfl)
 refine xss_cut ?_ ?_ rfl
 exact (xs_if (xt_not (xt_val (xe_call (ps := ["word", "odds", "asks"]) hh.f5.to bd.toBex.room bd.toBex.own bd.toBex.tk rfl bn5 (xa_cons xe_str (xa_cons (xe_lst false (xa_cons xe_non (xa_cons xe_int (xa_cons xe_int (xa_cons (xe_neg xe_int) (xa_cons xe_str (xa_cons (xe_lst false xa_nil) (xa_cons xe_bl (xa_cons xe_dict0 (xa_cons (xe_tup (xa_cons xe_int xa_nil rfl)) xa_nil rfl) rfl) rfl) rfl) rfl) rfl) rfl) rfl) rfl)) (xa_cons (xe_v 2 rfl rfl rfl rfl rfl) xa_nil rfl) rfl) rfl) rfl rfl rfl) (fun _ => rfl)))
  xss_never
  xss_nil)
 refine xss_cutS ?_ ?_
 exact (xs_v bd.toBex 2 (xe_lst true (xa_cons (xe_lamB (sc := (defScope (top 106))) (fr := []) fx.tb_law hc (List.Mem.head _) rfl fx.tn rfl (by decide +kernel) rfl rfl rfl rfl) xa_nil rfl)) rfl rfl rfl rfl rfl)
 refine xss_cutS ?_ ?_
 exact (xs_expr (xe_append (xe_v 2 rfl rfl rfl rfl rfl) (xe_lamB (sc := (defScope (top 106))) (fr := []) fx.tb_law hc (List.Mem.head _) rfl fx.tn rfl (by decide +kernel) rfl rfl rfl rfl) rfl rfl rfl rfl rfl) rfl)
 refine xss_cutS ?_ ?_
 exact (xs_expr (xe_append (xe_v 2 rfl rfl rfl rfl rfl) (xe_lamB (sc := (defScope (top 106))) (fr := []) fx.tb_law hc (List.Mem.head _) rfl fx.tn rfl (by decide +kernel) rfl rfl rfl rfl) rfl rfl rfl rfl rfl) rfl)
 refine xss_cutS ?_ ?_
 exact (xs_expr (xe_append (xe_v 2 rfl rfl rfl rfl rfl) (xe_lamB (sc := (defScope (top 106))) (fr := []) fx.tb_law hc (List.Mem.head _) rfl fx.tn rfl (by decide +kernel) rfl rfl rfl rfl) rfl rfl rfl rfl rfl) rfl)
 refine xss_cutS ?_ ?_
 exact (xs_expr (xe_append (xe_v 2 rfl rfl rfl rfl rfl) (xe_lamB (sc := (defScope (top 106))) (fr := []) fx.tb_law hc (List.Mem.head _) rfl fx.tn rfl (by decide +kernel) rfl rfl rfl rfl) rfl rfl rfl rfl rfl) rfl)
 refine xss_cutS ?_ ?_
 exact (xs_expr (xe_append (xe_v 2 rfl rfl rfl rfl rfl) (xe_lamB (sc := (defScope (top 106))) (fr := []) fx.tb_law hc (List.Mem.head _) rfl fx.tn rfl (by decide +kernel) rfl rfl rfl rfl) rfl rfl rfl rfl rfl) rfl)
 refine xss_cut ?_ ?_ rfl
 exact (xs_if (xt_not (xt_val (xe_call (ps := ["asks"]) hh.f12.to bd.toBex.room bd.toBex.own bd.toBex.tk rfl bn12 (xa_cons (xe_v 2 rfl rfl rfl rfl rfl) xa_nil rfl) rfl rfl rfl) (fun _ => rfl)))
  xss_never
  xss_nil)
 refine xss_cut ?_ ?_ rfl
 exact (xs_vB bd.toBex 4 (xe_add false xe_int (xe_call (ps := ["stream", "many"]) hh.f6.to bd.toBex.room bd.toBex.own bd.toBex.tk rfl bn6 (xa_cons (xe_v 1 rfl rfl rfl rfl rfl) (xa_cons xe_int xa_nil rfl) rfl) rfl rfl rfl)) rfl rfl rfl rfl rfl)
 refine xss_cutS ?_ ?_
 exact (xs_v bd.toBex 2 (xe_lst true (xa_cons (xe_lamB (sc := (defScope (top 106))) (fr := ["many"]) fx.tb_law hc (List.Mem.head _) rfl fx.tn rfl (by decide +kernel) rfl rfl rfl rfl) xa_nil rfl)) rfl rfl rfl rfl rfl)
 refine xss_cutS ?_ ?_
 exact (xs_expr (xe_append (xe_v 2 rfl rfl rfl rfl rfl) (xe_lamB (sc := (defScope (top 106))) (fr := ["many"]) fx.tb_law hc (List.Mem.head _) rfl fx.tn rfl (by decide +kernel) rfl rfl rfl rfl) rfl rfl rfl rfl rfl) rfl)
 refine xss_cutS ?_ ?_
 exact (xs_expr (xe_append (xe_v 2 rfl rfl rfl rfl rfl) (xe_lamB (sc := (defScope (top 106))) (fr := ["many"]) fx.tb_law hc (List.Mem.head _) rfl fx.tn rfl (by decide +kernel) rfl rfl rfl rfl) rfl rfl rfl rfl rfl) rfl)
 refine xss_cut ?_ ?_ rfl
 exact (xs_if (xt_not (xt_val (xe_call (ps := ["word", "odds", "asks"]) hh.f5.to bd.toBex.room bd.toBex.own bd.toBex.tk rfl bn5 (xa_cons xe_str (xa_cons (xe_lst false (xa_cons xe_non (xa_cons (xe_neg xe_int) (xa_cons xe_str (xa_cons (xe_lst false xa_nil) (xa_cons xe_bl (xa_cons xe_dict0 (xa_cons (xe_tup (xa_cons xe_int xa_nil rfl)) xa_nil rfl) rfl) rfl) rfl) rfl) rfl) rfl)) (xa_cons (xe_v 2 rfl rfl rfl rfl rfl) xa_nil rfl) rfl) rfl) rfl rfl rfl) (fun _ => rfl)))
  xss_never
  xss_nil)
 refine xss_cut ?_ ?_ rfl
 exact (xs_vB bd.toBex 5 (xe_lst false (xa_cons (xe_tup (xa_cons (xe_lst false (xa_cons xe_int (xa_cons xe_int xa_nil rfl) rfl)) (xa_cons xe_int xa_nil rfl) rfl)) (xa_cons (xe_tup (xa_cons (xe_lst false (xa_cons xe_int (xa_cons xe_int xa_nil rfl) rfl)) (xa_cons xe_int xa_nil rfl) rfl)) (xa_cons (xe_tup (xa_cons (xe_lst false (xa_cons xe_int (xa_cons xe_int xa_nil rfl) rfl)) (xa_cons (xe_add false xe_int (xe_call (ps := ["stream", "many"]) hh.f6.to bd.toBex.room bd.toBex.own bd.toBex.tk rfl bn6 (xa_cons (xe_v 1 rfl rfl rfl rfl rfl) (xa_cons xe_int xa_nil rfl) rfl) rfl rfl rfl)) xa_nil rfl) rfl)) xa_nil rfl) rfl) rfl)) rfl rfl rfl rfl rfl)
 exact (xss_cons (xs_v bd.toBex 3 (xe_lst false (xa_cons xe_non (xa_cons xe_int (xa_cons xe_str (xa_cons xe_dict0 (xa_cons (xe_lst false xa_nil) (xa_cons (xe_lst false (xa_cons xe_int (xa_cons xe_int xa_nil rfl) rfl)) (xa_cons (xe_lst false (xa_cons xe_int (xa_cons xe_int (xa_cons xe_int xa_nil rfl) rfl) rfl)) (xa_cons (xe_lst false (xa_cons xe_int (xa_cons xe_int (xa_cons xe_int xa_nil rfl) rfl) rfl)) (xa_cons (xe_lst false (xa_cons (xe_neg xe_int) (xa_cons (xe_neg xe_int) (xa_cons xe_int xa_nil rfl) rfl) rfl)) (xa_cons (xe_lst false (xa_cons xe_int (xa_cons xe_int (xa_cons xe_bl xa_nil rfl) rfl) rfl)) (xa_cons (xe_lst false (xa_cons xe_int (xa_cons xe_int (xa_cons xe_non xa_nil rfl) rfl) rfl)) (xa_cons (xe_lst false (xa_cons xe_int (xa_cons xe_int (xa_cons xe_int (xa_cons xe_int xa_nil rfl) rfl) rfl) rfl)) xa_nil rfl) rfl) rfl) rfl) rfl) rfl) rfl) rfl) rfl) rfl) rfl) rfl)) rfl rfl rfl rfl rfl)
  (xss_cons (xs_v bd.toBex 2 (xe_lst true (xa_cons (xe_lamB (sc := (defScope (top 106))) (fr := ["three"]) fx.tb_law hc (List.Mem.head _) rfl fx.tn rfl (by decide +kernel) rfl rfl rfl rfl) xa_nil rfl)) rfl rfl rfl rfl rfl)
  (xss_cons (xs_expr (xe_append (xe_v 2 rfl rfl rfl rfl rfl) (xe_lamB (sc := (defScope (top 106))) (fr := ["three"]) fx.tb_law hc (List.Mem.head _) rfl fx.tn rfl (by decide +kernel) rfl rfl rfl rfl) rfl rfl rfl rfl rfl) rfl)
  (xss_cons (xs_expr (xe_append (xe_v 2 rfl rfl rfl rfl rfl) (xe_lamB (sc := (defScope (top 106))) (fr := ["three"]) fx.tb_law hc (List.Mem.head _) rfl fx.tn rfl (by decide +kernel) rfl rfl rfl rfl) rfl rfl rfl rfl rfl) rfl)
  (xss_cons (xs_expr (xe_append (xe_v 2 rfl rfl rfl rfl rfl) (xe_lamB (sc := (defScope (top 106))) (fr := ["three"]) fx.tb_law hc (List.Mem.head _) rfl fx.tn rfl (by decide +kernel) rfl rfl rfl rfl) rfl rfl rfl rfl rfl) rfl)
  (xss_one (xs_ret (xe_call (ps := ["word", "odds", "asks"]) hh.f5.to bd.toBex.room bd.toBex.own bd.toBex.tk rfl bn5 (xa_cons xe_str (xa_cons (xe_v 3 rfl rfl rfl rfl rfl) (xa_cons (xe_v 2 rfl rfl rfl rfl rfl) xa_nil rfl) rfl) rfl) rfl rfl rfl))))))))
theorem b_corners_in_turn (fx : FX P w K mg base) (hh : HH P w K mg base (k + 2) cal) (hc : cdv = .ref (He.codeOf K ("corners_in_turn", none))) (bd : Bod ⟨GG w K, TT K, cal, clsN K cnames, [], W⟩ (cxOf (L2.CX P w) P w K mg base N_corners_in_turn "corners_in_turn" (defScope (top 81)) f cdv A outer s H E) (k + 2)) : XSs ⟨GG w K, TT K, cal, clsN K cnames, [], W⟩ (cxOf (L2.CX P w) P w K mg base N_corners_in_turn "corners_in_turn" (defScope (top 81)) f cdv A outer s H E) (defBody (top 81)) m_corners_in_turn :=
  (xss_cons (xs_asg (xe_call (ps := ["planes", "land"]) hh.f13.to bd.toBex.room bd.toBex.own bd.toBex.tk rfl bn13 (xa_cons (xe_v 0 rfl rfl rfl rfl rfl) (xa_cons (xe_v 1 rfl rfl rfl rfl rfl) xa_nil rfl) rfl) rfl rfl rfl) (xg_tup rfl (xgs_cons (xg_v bd.toBex 2 rfl rfl rfl rfl) (xgs_cons (xg_v bd.toBex 3 rfl rfl rfl rfl) xgs_nil rfl) rfl) rfl rfl) rfl rfl rfl)
  xss_never)
theorem b_area (fx : FX P w K mg base) (hh : HH P w K mg base (k + 2) cal) (hc : cdv = .ref (He.codeOf K ("area", none))) (bd : Bod ⟨GG w K, TT K, cal, clsN K cnames, [], W⟩ (cxOf (L2.CX P w) P w K mg base N_area "area" (defScope (top 82)) f cdv A outer s H E) (k + 2)) : XSs ⟨GG w K, TT K, cal, clsN K cnames, [], W⟩ (cxOf (L2.CX P w) P w K mg base N_area "area" (defScope (top 82)) f cdv A outer s H E) (defBody (top 82)) m_area :=
  (xss_cons (xs_asg (xe_call (ps := ["planes", "land"]) hh.f13.to bd.toBex.room bd.toBex.own bd.toBex.tk rfl bn13 (xa_cons (xe_v 0 rfl rfl rfl rfl rfl) (xa_cons (xe_v 1 rfl rfl rfl rfl rfl) xa_nil rfl) rfl) rfl rfl rfl) (xg_tup rfl (xgs_cons (xg_v bd.toBex 2 rfl rfl rfl rfl) (xgs_cons (xg_v bd.toBex 3 rfl rfl rfl rfl) xgs_nil rfl) rfl) rfl rfl) rfl rfl rfl)
  xss_never)
theorem b_middle (fx : FX P w K mg base) (hh : HH P w K mg base (k + 2) cal) (hc : cdv = .ref (He.codeOf K ("middle", none))) (bd : Bod ⟨GG w K, TT K, cal, clsN K cnames, [], W⟩ (cxOf (L2.CX P w) P w K mg base N_middle "middle" (defScope (top 83)) f cdv A outer s H E) (k + 2)) : XSs ⟨GG w K, TT K, cal, clsN K cnames, [], W⟩ (cxOf (L2.CX P w) P w K mg base N_middle "middle" (defScope (top 83)) f cdv A outer s H E) (defBody (top 83)) m_middle :=
  (xss_cons (xs_asg (xe_call (ps := ["planes", "land"]) hh.f13.to bd.toBex.room bd.toBex.own bd.toBex.tk rfl bn13 (xa_cons (xe_v 0 rfl rfl rfl rfl rfl) (xa_cons (xe_v 1 rfl rfl rfl rfl rfl) xa_nil rfl) rfl) rfl rfl rfl) (xg_tup rfl (xgs_cons (xg_v bd.toBex 2 rfl rfl rfl rfl) (xgs_cons (xg_v bd.toBex 3 rfl rfl rfl rfl) xgs_nil rfl) rfl) rfl rfl) rfl rfl rfl)
  xss_never)
theorem b_neighbours_in_turn (fx : FX P w K mg base) (hh : HH P w K mg base (k + 2) cal) (hc : cdv = .ref (He.codeOf K ("neighbours_in_turn", none))) (bd : Bod ⟨GG w K, TT K, cal, clsN K cnames, [], W⟩ (cxOf (L2.CX P w) P w K mg base N_neighbours_in_turn "neighbours_in_turn" (defScope (top 84)) f cdv A outer s H E) (k + 2)) : XSs ⟨GG w K, TT K, cal, clsN K cnames, [], W⟩ (cxOf (L2.CX P w) P w K mg base N_neighbours_in_turn "neighbours_in_turn" (defScope (top 84)) f cdv A outer s H E) (defBody (top 84)) m_neighbours_in_turn :=
  (xss_cons (xs_asg (xe_call (ps := ["planes", "land"]) hh.f13.to bd.toBex.room bd.toBex.own bd.toBex.tk rfl bn13 (xa_cons (xe_v 0 rfl rfl rfl rfl rfl) (xa_cons (xe_v 1 rfl rfl rfl rfl rfl) xa_nil rfl) rfl) rfl rfl rfl) (xg_tup rfl (xgs_cons (xg_v bd.toBex 2 rfl rfl rfl rfl) (xgs_cons (xg_v bd.toBex 3 rfl rfl rfl rfl) xgs_nil rfl) rfl) rfl rfl) rfl rfl rfl)
  xss_never)
theorem b__law_all_refused (fx : FX P w K mg base) (hh : HH P w K mg base (k + 2) cal) (hc : cdv = .ref (He.codeOf K ("_law_all_refused", none))) (bd : Bod ⟨GG w K, TT K, cal, clsN K cnames, [3], W⟩ (cxOf (L2.CX P w) P w K mg base N__law_all_refused "_law_all_refused" (defScope (top 102)) f cdv A outer s H E) (k + 2)) : XSs ⟨GG w K, TT K, cal, clsN K cnames, [3], W⟩ (cxOf (L2.CX P w) P w K mg base N__law_all_refused "_law_all_refused" (defScope (top 102)) f cdv A outer s H E) (defBody (top 102)) m__law_all_refused :=
  (xss_cons (xs_for 200 bd (xi_seq (xe_v 2 rfl rfl rfl rfl rfl)) (xg_vB bd.toBex 3 rfl rfl rfl rfl) (xss_one (xs_if (xt_w (xw_or (xt_not (xt_val (xe_all rfl rfl fx.b_all (xe_lcB (own := [("odd", 4)]) (ob := [4]) false 200 bd.toBex (by decide) (xi_seq (xe_v 1 rfl rfl rfl rfl rfl)) (blkOk_by (own := [("odd", 4)]) (N := N__law_all_refused) (sc := (defScope (top 102))) (by decide +kernel)) (show ([4, 3] : List Nat).Nodup by decide) (by decide) (show ∀ i ∈ ([4] : List Nat), i ∉ ([3] : List Nat) by decide) rfl (fun _ _ _ => rfl) rfl (fun _ _ _ bdB => (xgw_vB (i := 4) bdB rfl rfl rfl rfl rfl)) (fun _ _ _ bdB => (xe_call (ps := ["found", "due"]) hh.f14.to bdB.room bdB.own bdB.tk rfl bn14 (xa_cons (xe_call (ps := ["ask"]) hh.f15.to bdB.room bdB.own bdB.tk rfl bn15 (xa_cons (xe_lamB (sc := _) (fr := ["ask", "odd"]) fx.tb__law_all_refused hc (List.Mem.tail _ (List.Mem.head _)) rfl fx.tn rfl rfl rfl rfl rfl rfl) xa_nil rfl) rfl rfl rfl) (xa_cons (xe_tup (xa_cons (xe_v 0 rfl rfl rfl rfl rfl) (xa_cons (xe_vB 4 rfl rfl rfl rfl rfl) xa_nil rfl) rfl)) xa_nil rfl) rfl) rfl rfl rfl)) (fun _ => rfl)) (by decide +kernel) rfl rfl) (fun _ => rfl))) (xw_or1 (xt_not (xt_val (xe_call (ps := ["word", "ask"]) hh.f16.to bd.toBex.room bd.toBex.own bd.toBex.tk rfl bn16 (xa_cons (xe_v 0 rfl rfl rfl rfl rfl) (xa_cons (xe_vB 3 rfl rfl rfl rfl rfl) xa_nil rfl) rfl) rfl rfl rfl) (fun _ => rfl))))))
  xss_never
  xss_nil)) (fun _ => rfl))
  (xss_one (xs_ret xe_bl)))
theorem b_most_lands (fx : FX P w K mg base) (hh : HH P w K mg base (k + 2) cal) (hc : cdv = .ref (He.codeOf K ("most_lands", none))) (bd : Bod ⟨GG w K, TT K, cal, clsN K cnames, [], W⟩ (cxOf (L2.CX P w) P w K mg base N_most_lands "most_lands" (defScope (top 93)) f cdv A outer s H E) (k + 2)) : XSs ⟨GG w K, TT K, cal, clsN K cnames, [], W⟩ (cxOf (L2.CX P w) P w K mg base N_most_lands "most_lands" (defScope (top 93)) f cdv A outer s H E) (defBody (top 93)) m_most_lands :=
  (xss_cons (xs_expr (xe_call (ps := ["many", "count"]) hh.f17.to bd.toBex.room bd.toBex.own bd.toBex.tk rfl bn17 (xa_cons (xe_v 0 rfl rfl rfl rfl rfl) (xa_cons (xe_v 1 rfl rfl rfl rfl rfl) xa_nil rfl) rfl) rfl rfl rfl) rfl)
  xss_never)
theorem b_most_bounded (fx : FX P w K mg base) (hh : HH P w K mg base (k + 2) cal) (hc : cdv = .ref (He.codeOf K ("most_bounded", none))) (bd : Bod ⟨GG w K, TT K, cal, clsN K cnames, [], W⟩ (cxOf (L2.CX P w) P w K mg base N_most_bounded "most_bounded" (defScope (top 94)) f cdv A outer s H E) (k + 2)) : XSs ⟨GG w K, TT K, cal, clsN K cnames, [], W⟩ (cxOf (L2.CX P w) P w K mg base N_most_bounded "most_bounded" (defScope (top 94)) f cdv A outer s H E) (defBody (top 94)) m_most_bounded :=
  (xss_cons (xs_expr (xe_call (ps := ["many", "count"]) hh.f17.to bd.toBex.room bd.toBex.own bd.toBex.tk rfl bn17 (xa_cons (xe_v 0 rfl rfl rfl rfl rfl) (xa_cons (xe_v 1 rfl rfl rfl rfl rfl) xa_nil rfl) rfl) rfl rfl rfl) rfl)
  xss_never)
theorem b_most_corners (fx : FX P w K mg base) (hh : HH P w K mg base (k + 2) cal) (hc : cdv = .ref (He.codeOf K ("most_corners", none))) (bd : Bod ⟨GG w K, TT K, cal, clsN K cnames, [], W⟩ (cxOf (L2.CX P w) P w K mg base N_most_corners "most_corners" (defScope (top 95)) f cdv A outer s H E) (k + 2)) : XSs ⟨GG w K, TT K, cal, clsN K cnames, [], W⟩ (cxOf (L2.CX P w) P w K mg base N_most_corners "most_corners" (defScope (top 95)) f cdv A outer s H E) (defBody (top 95)) m_most_corners :=
  (xss_cons (xs_expr (xe_call (ps := ["many", "count"]) hh.f17.to bd.toBex.room bd.toBex.own bd.toBex.tk rfl bn17 (xa_cons (xe_v 0 rfl rfl rfl rfl rfl) (xa_cons (xe_v 1 rfl rfl rfl rfl rfl) xa_nil rfl) rfl) rfl rfl rfl) rfl)
  xss_never)
theorem b_general_or_lot (fx : FX P w K mg base) (hh : HH P w K mg base (k + 2) cal) (hc : cdv = .ref (He.codeOf K ("general_or_lot", none))) (bd : Bod ⟨GG w K, TT K, cal, clsN K cnames, [], W⟩ (cxOf (L2.CX P w) P w K mg base N_general_or_lot "general_or_lot" (defScope (top 88)) f cdv A outer s H E) (k + 2)) : XSs ⟨GG w K, TT K, cal, clsN K cnames, [], W⟩ (cxOf (L2.CX P w) P w K mg base N_general_or_lot "general_or_lot" (defScope (top 88)) f cdv A outer s H E) (defBody (top 88)) m_general_or_lot :=
  (xss_cons (xs_v bd.toBex 2 (xe_call (ps := ["many", "planes"]) hh.f18.to bd.toBex.room bd.toBex.own bd.toBex.tk rfl bn18 (xa_cons (xe_v 0 rfl rfl rfl rfl rfl) (xa_cons (xe_v 1 rfl rfl rfl rfl rfl) xa_nil rfl) rfl) rfl rfl rfl) rfl rfl rfl rfl rfl)
  xss_never)
theorem b_lands_lacking (fx : FX P w K mg base) (hh : HH P w K mg base (k + 2) cal) (hc : cdv = .ref (He.codeOf K ("lands_lacking", none))) (bd : Bod ⟨GG w K, TT K, cal, clsN K cnames, [], W⟩ (cxOf (L2.CX P w) P w K mg base N_lands_lacking "lands_lacking" (defScope (top 96)) f cdv A outer s H E) (k + 2)) : XSs ⟨GG w K, TT K, cal, clsN K cnames, [], W⟩ (cxOf (L2.CX P w) P w K mg base N_lands_lacking "lands_lacking" (defScope (top 96)) f cdv A outer s H E) (defBody (top 96)) m_lands_lacking :=
  (xss_cons (xs_v bd.toBex 2 (xe_call (ps := ["many", "planes"]) hh.f18.to bd.toBex.room bd.toBex.own bd.toBex.tk rfl bn18 (xa_cons (xe_v 0 rfl rfl rfl rfl rfl) (xa_cons (xe_v 1 rfl rfl rfl rfl rfl) xa_nil rfl) rfl) rfl rfl rfl) rfl rfl rfl rfl rfl)
  xss_never)
theorem b__law_planes_refused (fx : FX P w K mg base) (hh : HH P w K mg base (k + 2) cal) (hc : cdv = .ref (He.codeOf K ("_law_planes_refused", none))) (bd : Bod ⟨GG w K, TT K, cal, clsN K cnames, [1], W⟩ (cxOf (L2.CX P w) P w K mg base N__law_planes_refused "_law_planes_refused" (defScope (top 104)) f cdv A outer s H E) (k + 2)) : XSs ⟨GG w K, TT K, cal, clsN K cnames, [1], W⟩ (cxOf (L2.CX P w) P w K mg base N__law_planes_refused "_law_planes_refused" (defScope (top 104)) f cdv A outer s H E) (defBody (top 104)) m__law_planes_refused :=
  (xss_cons (xs_for 200 bd (xi_seq (xe_v 0 rfl rfl rfl rfl rfl)) (xg_vB bd.toBex 1 rfl rfl rfl rfl) (xss_one (xs_if (xt_not (xt_val (xe_all rfl rfl fx.b_all (xe_lcB (own := [("odd", 2), ("index", 3)]) (ob := [2]) false 200 bd.toBex (by decide) (xi_seq (xe_call0 hh.f19.to bd.toBex.room bd.toBex.own bd.toBex.tk rfl bn19 rfl)) (blkOk_by (own := [("odd", 2), ("index", 3)]) (N := N__law_planes_refused) (sc := (defScope (top 104))) (by decide +kernel)) (show ([2, 1] : List Nat).Nodup by decide) (by decide) (show ∀ i ∈ ([2, 3] : List Nat), i ∉ ([1] : List Nat) by decide) rfl (fun _ _ _ => rfl) rfl (fun _ _ _ bdB => (xgw_tup rfl (xgsw_cons (xgw_vB (i := 2) bdB rfl rfl rfl rfl rfl) (xgsw_cons (xgw_v bdB 3 rfl rfl rfl rfl rfl) xgsw_nil rfl) rfl) rfl rfl)) (fun _ _ _ bdB => (xe_call (ps := ["found", "due"]) hh.f14.to bdB.room bdB.own bdB.tk rfl bn14 (xa_cons (xe_call (ps := ["ask"]) hh.f15.to bdB.room bdB.own bdB.tk rfl bn15 (xa_cons (xe_lamB (sc := _) (fr := ["ask", "odd"]) fx.tb__law_planes_refused hc (List.Mem.tail _ (List.Mem.tail _ (List.Mem.head _))) rfl fx.tn rfl rfl rfl rfl rfl rfl) xa_nil rfl) rfl rfl rfl) (xa_cons (xe_tup (xa_cons xe_str (xa_cons (xe_v 3 rfl rfl rfl rfl rfl) xa_nil rfl) rfl)) xa_nil rfl) rfl) rfl rfl rfl)) (fun _ => rfl)) (by decide +kernel) rfl rfl) (fun _ => rfl)))
  xss_never
  xss_nil)) (fun _ => rfl))
  (xss_one (xs_ret xe_bl)))
theorem b_need_boxed (fx : FX P w K mg base) (hh : HH P w K mg base (k + 2) cal) (hc : cdv = .ref (He.codeOf K ("need_boxed", none))) (bd : Bod ⟨GG w K, TT K, cal, clsN K cnames, [], W⟩ (cxOf (L2.CX P w) P w K mg base N_need_boxed "need_boxed" (defScope (top 77)) f cdv A outer s H E) (k + 2)) : XSs ⟨GG w K, TT K, cal, clsN K cnames, [], W⟩ (cxOf (L2.CX P w) P w K mg base N_need_boxed "need_boxed" (defScope (top 77)) f cdv A outer s H E) (defBody (top 77)) m_need_boxed :=
  (xss_cons (xs_asg (xe_call (ps := ["many", "planes", "land"]) hh.f20.to bd.toBex.room bd.toBex.own bd.toBex.tk rfl bn20 (xa_cons xe_int (xa_cons (xe_v 0 rfl rfl rfl rfl rfl) (xa_cons (xe_v 1 rfl rfl rfl rfl rfl) xa_nil rfl) rfl) rfl) rfl rfl rfl) (xg_tup rfl (xgs_cons (xg_v bd.toBex 2 rfl rfl rfl rfl) (xgs_cons (xg_v bd.toBex 3 rfl rfl rfl rfl) xgs_nil rfl) rfl) rfl rfl) rfl rfl rfl)
  xss_never)
theorem b__law_same (fx : FX P w K mg base) (hh : HH P w K mg base (k + 2) cal) (hc : cdv = .ref (He.codeOf K ("_law_same", none))) (bd : Bod ⟨GG w K, TT K, cal, clsN K cnames, [], W⟩ (cxOf (L2.CX P w) P w K mg base N__law_same "_law_same" (defScope (top 100)) f cdv A outer s H E) (k + 2)) : XSs ⟨GG w K, TT K, cal, clsN K cnames, [], W⟩ (cxOf (L2.CX P w) P w K mg base N__law_same "_law_same" (defScope (top 100)) f cdv A outer s H E) (defBody (top 100)) m__law_same :=
  (xss_cons (xs_if (xt_val (xe_isiT rfl fx.b_isinstance (xty_cons (T := .lst) ⟨rfl, fx.b_list, by decide +kernel, by decide, by decide, by decide⟩ (xty_cons (T := .tup) ⟨rfl, fx.b_tuple, by decide +kernel, by decide, by decide, by decide⟩ xty_nil rfl) rfl) (by decide) (by decide) (xe_v 1 rfl rfl rfl rfl rfl) rfl rfl rfl) (fun _ => rfl))
  (xss_cons (xs_if (xt_w (xw_or (xt_c (c_ne bd.toBex) (xe_isi (T := .lst) rfl fx.b_isinstance ⟨rfl, fx.b_list, by decide +kernel, by decide, by decide, by decide⟩ (xe_v 0 rfl rfl rfl rfl rfl) rfl rfl rfl) (xe_isi (T := .lst) rfl fx.b_isinstance ⟨rfl, fx.b_list, by decide +kernel, by decide, by decide, by decide⟩ (xe_v 1 rfl rfl rfl rfl rfl) rfl rfl rfl) rfl) (xw_or1 (xt_c (c_ne bd.toBex) (xe_isi (T := .tup) rfl fx.b_isinstance ⟨rfl, fx.b_tuple, by decide +kernel, by decide, by decide, by decide⟩ (xe_v 0 rfl rfl rfl rfl rfl) rfl rfl rfl) (xe_isi (T := .tup) rfl fx.b_isinstance ⟨rfl, fx.b_tuple, by decide +kernel, by decide, by decide, by decide⟩ (xe_v 1 rfl rfl rfl rfl rfl) rfl rfl rfl) rfl))))
  xss_never
  xss_nil)
  (xss_one (xs_ret (xe_and (xe_c (c_eq bd.toBex) (xe_len  rfl fx.b_len (xe_v 0 rfl rfl rfl rfl rfl) rfl rfl) (xe_len  rfl fx.b_len (xe_v 1 rfl rfl rfl rfl rfl) rfl rfl) rfl) (xe_one (xe_all rfl rfl fx.b_all (xe_lc (own := [("mine", 2), ("theirs", 3)]) false 200 bd.toBex rfl (by decide) (xi_zip2 rfl fx.b_zip (xa_cons (xe_v 0 rfl rfl rfl rfl rfl) (xa_cons (xe_v 1 rfl rfl rfl rfl rfl) xa_nil rfl) rfl) rfl rfl) (blkOk_by (own := [("mine", 2), ("theirs", 3)]) (N := N__law_same) (sc := (defScope (top 100))) (by decide +kernel)) (fun _ _ _ _ _ => (xgw_tup rfl (xgsw_cons (xgw_v (bd.toBex.blk rfl) 2 rfl rfl rfl rfl rfl) (xgsw_cons (xgw_v (bd.toBex.blk rfl) 3 rfl rfl rfl rfl rfl) xgsw_nil rfl) rfl) rfl rfl)) (fun _ _ _ _ _ => xts_nil) (fun _ _ _ _ _ => (xe_call (ps := ["found", "due"]) hh.f14.to (bd.toBex.blk rfl).room (bd.toBex.blk rfl).own (bd.toBex.blk rfl).tk rfl bn14 (xa_cons (xe_v 2 rfl rfl rfl rfl rfl) (xa_cons (xe_v 3 rfl rfl rfl rfl rfl) xa_nil rfl) rfl) rfl rfl rfl)) (fun _ => rfl)) (by decide +kernel) rfl rfl))))))
  xss_nil)
  (xss_cons (xs_if (xt_val (xe_isi (T := .dct) rfl fx.b_isinstance ⟨rfl, fx.b_dict, by decide +kernel, by decide, by decide, by decide⟩ (xe_v 1 rfl rfl rfl rfl rfl) rfl rfl rfl) (fun _ => rfl))
  (xss_one (xs_ret (xe_and (xe_isi (T := .dct) rfl fx.b_isinstance ⟨rfl, fx.b_dict, by decide +kernel, by decide, by decide, by decide⟩ (xe_v 0 rfl rfl rfl rfl rfl) rfl rfl rfl) (xe_one (xe_call (ps := ["found", "due"]) hh.f14.to bd.toBex.room bd.toBex.own bd.toBex.tk rfl bn14 (xa_cons (xe_items0 rfl (xe_v 0 rfl rfl rfl rfl rfl) rfl fx.b_list rfl rfl rfl) (xa_cons (xe_items0 rfl (xe_v 1 rfl rfl rfl rfl rfl) rfl fx.b_list rfl rfl rfl) xa_nil rfl) rfl) rfl rfl rfl)))))
  xss_nil)
  (xss_cons (xs_if (xt_w (xw_or (xt_val (xe_isi (T := .bl) rfl fx.b_isinstance ⟨rfl, fx.b_bool, by decide +kernel, by decide, by decide, by decide⟩ (xe_v 1 rfl rfl rfl rfl rfl) rfl rfl rfl) (fun _ => rfl)) (xw_or1 (xt_val (xe_isi (T := .bl) rfl fx.b_isinstance ⟨rfl, fx.b_bool, by decide +kernel, by decide, by decide, by decide⟩ (xe_v 0 rfl rfl rfl rfl rfl) rfl rfl rfl) (fun _ => rfl)))))
  (xss_one (xs_ret (xe_and (xe_isi (T := .bl) rfl fx.b_isinstance ⟨rfl, fx.b_bool, by decide +kernel, by decide, by decide, by decide⟩ (xe_v 1 rfl rfl rfl rfl rfl) rfl rfl rfl) (xe_and (xe_isi (T := .bl) rfl fx.b_isinstance ⟨rfl, fx.b_bool, by decide +kernel, by decide, by decide, by decide⟩ (xe_v 0 rfl rfl rfl rfl rfl) rfl rfl rfl) (xe_one (xe_c (c_eq bd.toBex) (xe_v 0 rfl rfl rfl rfl rfl) (xe_v 1 rfl rfl rfl rfl rfl) rfl))))))
  xss_nil)
  (xss_cons (xs_if (xt_w (xw_or (xt_c c_is (xe_v 1 rfl rfl rfl rfl rfl) xe_non rfl) (xw_or1 (xt_c c_is (xe_v 0 rfl rfl rfl rfl rfl) xe_non rfl))))
  (xss_one (xs_ret (xe_and (xe_c c_is (xe_v 1 rfl rfl rfl rfl rfl) xe_non rfl) (xe_one (xe_c c_is (xe_v 0 rfl rfl rfl rfl rfl) xe_non rfl)))))
  xss_nil)
  (xss_cons (xs_if (xt_w (xw_or (xt_c (c_ne bd.toBex) (xe_isi (T := .int) rfl fx.b_isinstance ⟨rfl, fx.b_int, by decide +kernel, by decide, by decide, by decide⟩ (xe_v 1 rfl rfl rfl rfl rfl) rfl rfl rfl) (xe_isi (T := .int) rfl fx.b_isinstance ⟨rfl, fx.b_int, by decide +kernel, by decide, by decide, by decide⟩ (xe_v 0 rfl rfl rfl rfl rfl) rfl rfl rfl) rfl) (xw_or1 (xt_c (c_ne bd.toBex) (xe_isi (T := .str) rfl fx.b_isinstance ⟨rfl, fx.b_str, by decide +kernel, by decide, by decide, by decide⟩ (xe_v 1 rfl rfl rfl rfl rfl) rfl rfl rfl) (xe_isi (T := .str) rfl fx.b_isinstance ⟨rfl, fx.b_str, by decide +kernel, by decide, by decide, by decide⟩ (xe_v 0 rfl rfl rfl rfl rfl) rfl rfl rfl) rfl))))
  xss_never
  xss_nil)
  (xss_one (xs_ret (xe_and (xe_not (xe_isiT rfl fx.b_isinstance (xty_cons (T := .lst) ⟨rfl, fx.b_list, by decide +kernel, by decide, by decide, by decide⟩ (xty_cons (T := .tup) ⟨rfl, fx.b_tuple, by decide +kernel, by decide, by decide, by decide⟩ (xty_cons (T := .dct) ⟨rfl, fx.b_dict, by decide +kernel, by decide, by decide, by decide⟩ xty_nil rfl) rfl) rfl) (by decide) (by decide) (xe_v 0 rfl rfl rfl rfl rfl) rfl rfl rfl)) (xe_one (xe_c (c_eq bd.toBex) (xe_v 0 rfl rfl rfl rfl rfl) (xe_v 1 rfl rfl rfl rfl rfl) rfl))))))))))
theorem b__law_met (fx : FX P w K mg base) (hh : HH P w K mg base (k + 2) cal) (hc : cdv = .ref (He.codeOf K ("_law_met", none))) (bd : Bod ⟨GG w K, TT K, cal, clsN K cnames, [], W⟩ (cxOf (L2.CX P w) P w K mg base N__law_met "_law_met" (defScope (top 105)) f cdv A outer s H E) (k + 2)) : XSs ⟨GG w K, TT K, cal, clsN K cnames, [], W⟩ (cxOf (L2.CX P w) P w K mg base N__law_met "_law_met" (defScope (top 105)) f cdv A outer s H E) (defBody (top 105)) m__law_met :=
  (xss_one (xs_try bd (apart_of fx.ap rfl) (fun W pn xe bd => (xss_one (xs_ret (xe_tup (xa_cons xe_str (xa_cons (xe_callV0 hh.lp.to bd.toBex.room bd.toBex.own bd.toBex.tk (xe_v 0 rfl rfl rfl rfl rfl)) xa_nil rfl) rfl))))) (.fld (i := 1) (m := 3) rfl (fx.nm_BadCount rfl) rfl rfl (nmem_b rfl) (excB_oex fx.e_BadCount).2.2 (excB_oex fx.e_BadCount).2.1 rfl rfl (.fld (i := 1) (m := 2) rfl (fx.nm_BadLand rfl) rfl rfl (nmem_b rfl) (excB_oex fx.e_BadLand).2.2 (excB_oex fx.e_BadLand).2.1 rfl rfl (.fld (i := 1) (m := 1) rfl (fx.nm_BadMany rfl) rfl rfl (nmem_b rfl) (excB_oex fx.e_BadMany).2.2 (excB_oex fx.e_BadMany).2.1 rfl rfl (.fld (i := 1) (m := 0) rfl (fx.nm_BadPlanes rfl) rfl rfl (nmem_b rfl) (excB_oex fx.e_BadPlanes).2.2 (excB_oex fx.e_BadPlanes).2.1 rfl rfl .nil))))))
theorem b__law_is_very (fx : FX P w K mg base) (hh : HH P w K mg base (k + 2) cal) (hc : cdv = .ref (He.codeOf K ("_law_is_very", none))) (bd : Bod ⟨GG w K, TT K, cal, clsN K cnames, [1, 3], W⟩ (cxOf (L2.CX P w) P w K mg base N__law_is_very "_law_is_very" (defScope (top 101)) f cdv A outer s H E) (k + 2)) : XSs ⟨GG w K, TT K, cal, clsN K cnames, [1, 3], W⟩ (cxOf (L2.CX P w) P w K mg base N__law_is_very "_law_is_very" (defScope (top 101)) f cdv A outer s H E) (defBody (top 101)) m__law_is_very :=
  (xss_cons (xs_vB bd.toBex 3 (xe_lst true (xa_cons xe_str xa_nil rfl)) rfl rfl rfl rfl rfl)
  (xss_cons (xs_v bd.toBex 2 (xe_call (ps := ["ask"]) hh.f15.to bd.toBex.room bd.toBex.own bd.toBex.tk rfl bn15 (xa_cons (xe_lamB (sc := (defScope (top 101))) (fr := ["ask", "odd"]) fx.tb__law_is_very hc (List.Mem.tail _ (List.Mem.tail _ (List.Mem.tail _ (List.Mem.head _)))) rfl fx.tn rfl (by decide +kernel) rfl rfl rfl rfl) xa_nil rfl) rfl rfl rfl) rfl rfl rfl rfl rfl)
  (xss_cons (xs_expr (xe_append (xe_vB 3 rfl rfl rfl rfl rfl) xe_str rfl rfl rfl rfl rfl) rfl)
  (xss_one (xs_ret (xe_call (ps := ["found", "due"]) hh.f14.to bd.toBex.room bd.toBex.own bd.toBex.tk rfl bn14 (xa_cons (xe_v 2 rfl rfl rfl rfl rfl) (xa_cons (xe_tup (xa_cons (xe_v 0 rfl rfl rfl rfl rfl) (xa_cons (xe_vB 3 rfl rfl rfl rfl rfl) xa_nil rfl) rfl)) xa_nil rfl) rfl) rfl rfl rfl))))))
theorem b_check_count (fx : FX P w K mg base) (hh : HH P w K mg base (k + 2) cal) (hc : cdv = .ref (He.codeOf K ("check_count", none))) (bd : Bod ⟨GG w K, TT K, cal, clsN K cnames, [], W⟩ (cxOf (L2.CX P w) P w K mg base N_check_count "check_count" (defScope (top 90)) f cdv A outer s H E) (k + 2)) : XSs ⟨GG w K, TT K, cal, clsN K cnames, [], W⟩ (cxOf (L2.CX P w) P w K mg base N_check_count "check_count" (defScope (top 90)) f cdv A outer s H E) (defBody (top 90)) m_check_count :=
  (xss_cons (xs_expr (xe_call (ps := ["many"]) hh.f21.to bd.toBex.room bd.toBex.own bd.toBex.tk rfl bn21 (xa_cons (xe_v 0 rfl rfl rfl rfl rfl) xa_nil rfl) rfl rfl rfl) rfl)
  (xss_one (xs_if (xt_not (xt_val (xe_call (ps := ["thing"]) hh.f22.to bd.toBex.room bd.toBex.own bd.toBex.tk rfl bn22 (xa_cons (xe_v 1 rfl rfl rfl rfl rfl) xa_nil rfl) rfl rfl rfl) (fun _ => rfl)))
  (xss_one (xs_raise bd fx.x_BadCount.to rfl (xe_v 1 rfl rfl rfl rfl rfl) rfl rfl rfl))
  xss_nil)))
theorem b_need_planes (fx : FX P w K mg base) (hh : HH P w K mg base (k + 2) cal) (hc : cdv = .ref (He.codeOf K ("need_planes", none))) (bd : Bod ⟨GG w K, TT K, cal, clsN K cnames, [], W⟩ (cxOf (L2.CX P w) P w K mg base N_need_planes "need_planes" (defScope (top 30)) f cdv A outer s H E) (k + 2)) : XSs ⟨GG w K, TT K, cal, clsN K cnames, [], W⟩ (cxOf (L2.CX P w) P w K mg base N_need_planes "need_planes" (defScope (top 30)) f cdv A outer s H E) (defBody (top 30)) m_need_planes :=
  (xss_cons (xs_expr (xe_call (ps := ["many"]) hh.f21.to bd.toBex.room bd.toBex.own bd.toBex.tk rfl bn21 (xa_cons (xe_v 0 rfl rfl rfl rfl rfl) xa_nil rfl) rfl rfl rfl) rfl)
  (xss_cons (xs_v bd.toBex 2 (xe_call (ps := ["many", "thing"]) hh.f23.to bd.toBex.room bd.toBex.own bd.toBex.tk rfl bn23 (xa_cons (xe_v 0 rfl rfl rfl rfl rfl) (xa_cons (xe_v 1 rfl rfl rfl rfl rfl) xa_nil rfl) rfl) rfl rfl rfl) rfl rfl rfl rfl rfl)
  (xss_cons (xs_if (xt_c c_isnot (xe_v 2 rfl rfl rfl rfl rfl) xe_non rfl)
  (xss_one (xs_raise bd fx.x_BadPlanes.to rfl (xe_v 2 rfl rfl rfl rfl rfl) rfl rfl rfl))
  xss_nil)
  (xss_one (xs_ret (xe_lc (own := [("one", 3)]) false 200 bd.toBex rfl (by decide) (xi_seq (xe_v 1 rfl rfl rfl rfl rfl)) (blkOk_by (own := [("one", 3)]) (N := N_need_planes) (sc := (defScope (top 30))) (by decide +kernel)) (fun _ _ _ _ _ => (xgw_v (bd.toBex.blk rfl) 3 rfl rfl rfl rfl rfl)) (fun _ _ _ _ _ => xts_nil) (fun _ _ _ _ _ => (xe_call (ps := ["many", "thing"]) hh.f24.to (bd.toBex.blk rfl).room (bd.toBex.blk rfl).own (bd.toBex.blk rfl).tk rfl bn24 (xa_cons (xe_v 0 rfl rfl rfl rfl rfl) (xa_cons (xe_v 3 rfl rfl rfl rfl rfl) xa_nil rfl) rfl) rfl rfl rfl)) (fun _ => rfl)))))))
theorem b__law_odd_planes (fx : FX P w K mg base) (hh : HH P w K mg base (k + 2) cal) (hc : cdv = .ref (He.codeOf K ("_law_odd_planes", none))) (bd : Bod ⟨GG w K, TT K, cal, clsN K cnames, [], W⟩ (cxOf (L2.CX P w) P w K mg base N__law_odd_planes "_law_odd_planes" (defScope (top 103)) f cdv A outer s H E) (k + 2)) : XSs ⟨GG w K, TT K, cal, clsN K cnames, [], W⟩ (cxOf (L2.CX P w) P w K mg base N__law_odd_planes "_law_odd_planes" (defScope (top 103)) f cdv A outer s H E) (defBody (top 103)) m__law_odd_planes :=
  (xss_cons (xs_v bd.toBex 0 (xe_lst true (xa_cons (xe_tup (xa_cons xe_non (xa_cons xe_int xa_nil rfl) rfl)) (xa_cons (xe_tup (xa_cons xe_int (xa_cons xe_int xa_nil rfl) rfl)) (xa_cons (xe_tup (xa_cons xe_str (xa_cons xe_int xa_nil rfl) rfl)) (xa_cons (xe_tup (xa_cons xe_dict0 (xa_cons xe_int xa_nil rfl) rfl)) (xa_cons (xe_tup (xa_cons (xe_lst false (xa_cons xe_non xa_nil rfl)) (xa_cons xe_int xa_nil rfl) rfl)) (xa_cons (xe_tup (xa_cons (xe_lst false (xa_cons (xe_tup (xa_cons (xe_lst false (xa_cons xe_int (xa_cons xe_int xa_nil rfl) rfl)) (xa_cons xe_int xa_nil rfl) rfl)) (xa_cons xe_int xa_nil rfl) rfl)) (xa_cons xe_int xa_nil rfl) rfl)) (xa_cons (xe_tup (xa_cons (xe_lst false (xa_cons (xe_tup (xa_cons (xe_lst false (xa_cons xe_int (xa_cons xe_int xa_nil rfl) rfl)) (xa_cons xe_int xa_nil rfl) rfl)) xa_nil rfl)) (xa_cons xe_int xa_nil rfl) rfl)) (xa_cons (xe_tup (xa_cons (xe_lst false (xa_cons (xe_tup (xa_cons (xe_lst false (xa_cons xe_int (xa_cons xe_int xa_nil rfl) rfl)) (xa_cons xe_int xa_nil rfl) rfl)) xa_nil rfl)) (xa_cons xe_int xa_nil rfl) rfl)) (xa_cons (xe_tup (xa_cons (xe_lst false (xa_cons (xe_tup (xa_cons (xe_lst false (xa_cons (xe_neg xe_int) (xa_cons xe_int xa_nil rfl) rfl)) (xa_cons xe_int xa_nil rfl) rfl)) xa_nil rfl)) (xa_cons xe_int xa_nil rfl) rfl)) (xa_cons (xe_tup (xa_cons (xe_lst false (xa_cons (xe_tup (xa_cons (xe_lst false (xa_cons xe_int xa_nil rfl)) (xa_cons xe_int xa_nil rfl) rfl)) xa_nil rfl)) (xa_cons xe_int xa_nil rfl) rfl)) xa_nil rfl) rfl) rfl) rfl) rfl) rfl) rfl) rfl) rfl) rfl)) rfl rfl rfl rfl rfl)
  (xss_cons (xs_expr (xe_extend (xe_v 0 rfl rfl rfl rfl rfl) (xe_lst false (xa_cons (xe_tup (xa_cons (xe_lst false (xa_cons (xe_tup (xa_cons (xe_lst false (xa_cons xe_int (xa_cons xe_int (xa_cons xe_int xa_nil rfl) rfl) rfl)) (xa_cons xe_int xa_nil rfl) rfl)) xa_nil rfl)) (xa_cons xe_int xa_nil rfl) rfl)) (xa_cons (xe_tup (xa_cons (xe_lst false (xa_cons (xe_tup (xa_cons (xe_lst false (xa_cons xe_int (xa_cons xe_bl xa_nil rfl) rfl)) (xa_cons xe_int xa_nil rfl) rfl)) xa_nil rfl)) (xa_cons xe_int xa_nil rfl) rfl)) (xa_cons (xe_tup (xa_cons (xe_lst false (xa_cons (xe_tup (xa_cons (xe_lst false (xa_cons xe_int (xa_cons xe_int xa_nil rfl) rfl)) (xa_cons xe_non xa_nil rfl) rfl)) xa_nil rfl)) (xa_cons xe_int xa_nil rfl) rfl)) (xa_cons (xe_tup (xa_cons (xe_lst false (xa_cons (xe_tup (xa_cons (xe_lst false (xa_cons xe_int (xa_cons xe_int xa_nil rfl) rfl)) (xa_cons xe_int xa_nil rfl) rfl)) (xa_cons (xe_tup (xa_cons (xe_lst false (xa_cons xe_int (xa_cons xe_int xa_nil rfl) rfl)) (xa_cons xe_int xa_nil rfl) rfl)) xa_nil rfl) rfl)) (xa_cons xe_int xa_nil rfl) rfl)) (xa_cons (xe_tup (xa_cons (xe_lst false (xa_cons (xe_tup (xa_cons (xe_lst false (xa_cons xe_int (xa_cons xe_int xa_nil rfl) rfl)) (xa_cons xe_int xa_nil rfl) rfl)) (xa_cons (xe_tup (xa_cons (xe_lst false (xa_cons xe_int (xa_cons xe_int xa_nil rfl) rfl)) (xa_cons xe_int xa_nil rfl) rfl)) (xa_cons (xe_tup (xa_cons (xe_lst false (xa_cons xe_int (xa_cons xe_int (xa_cons xe_int xa_nil rfl) rfl) rfl)) (xa_cons xe_int xa_nil rfl) rfl)) xa_nil rfl) rfl) rfl)) (xa_cons xe_int xa_nil rfl) rfl)) xa_nil rfl) rfl) rfl) rfl) rfl)) rfl rfl rfl rfl rfl) rfl)
  (xss_one (xs_ret (xe_v 0 rfl rfl rfl rfl rfl)))))
theorem b_need_land (fx : FX P w K mg base) (hh : HH P w K mg base (k + 2) cal) (hc : cdv = .ref (He.codeOf K ("need_land", none))) (bd : Bod ⟨GG w K, TT K, cal, clsN K cnames, [], W⟩ (cxOf (L2.CX P w) P w K mg base N_need_land "need_land" (defScope (top 57)) f cdv A outer s H E) (k + 2)) : XSs ⟨GG w K, TT K, cal, clsN K cnames, [], W⟩ (cxOf (L2.CX P w) P w K mg base N_need_land "need_land" (defScope (top 57)) f cdv A outer s H E) (defBody (top 57)) m_need_land :=
  (xss_cons (xs_v bd.toBex 3 (xe_call (ps := ["many", "planes"]) hh.f18.to bd.toBex.room bd.toBex.own bd.toBex.tk rfl bn18 (xa_cons (xe_v 0 rfl rfl rfl rfl rfl) (xa_cons (xe_v 1 rfl rfl rfl rfl rfl) xa_nil rfl) rfl) rfl rfl rfl) rfl rfl rfl rfl rfl)
  (xss_cons (xs_v bd.toBex 4 (xe_call (ps := ["many", "planes", "thing"]) hh.f25.to bd.toBex.room bd.toBex.own bd.toBex.tk rfl bn25 (xa_cons (xe_v 0 rfl rfl rfl rfl rfl) (xa_cons (xe_v 3 rfl rfl rfl rfl rfl) (xa_cons (xe_v 2 rfl rfl rfl rfl rfl) xa_nil rfl) rfl) rfl) rfl rfl rfl) rfl rfl rfl rfl rfl)
  (xss_cons (xs_if (xt_c c_is (xe_v 4 rfl rfl rfl rfl rfl) xe_non rfl)
  (xss_one (xs_raise bd fx.x_BadLand.to rfl (xe_v 2 rfl rfl rfl rfl rfl) rfl rfl rfl))
  xss_nil)
  xss_never)))
theorem b_check_many (fx : FX P w K mg base) (hh : HH P w K mg base (k + 2) cal) (hc : cdv = .ref (He.codeOf K ("check_many", none))) (bd : Bod ⟨GG w K, TT K, cal, clsN K cnames, [], W⟩ (cxOf (L2.CX P w) P w K mg base N_check_many "check_many" (defScope (top 26)) f cdv A outer s H E) (k + 2)) : XSs ⟨GG w K, TT K, cal, clsN K cnames, [], W⟩ (cxOf (L2.CX P w) P w K mg base N_check_many "check_many" (defScope (top 26)) f cdv A outer s H E) (defBody (top 26)) m_check_many :=
  (xss_one (xs_if (xt_w (xw_or (xt_not (xt_val (xe_call (ps := ["thing"]) hh.f26.to bd.toBex.room bd.toBex.own bd.toBex.tk rfl bn26 (xa_cons (xe_v 0 rfl rfl rfl rfl rfl) xa_nil rfl) rfl rfl rfl) (fun _ => rfl))) (xw_or1 (xt_not (xt_ch c_le c_le xe_int (xe_v 0 rfl rfl rfl rfl rfl) xe_int (by with_unfolding_all rfl))))))
  (xss_one (xs_raise bd fx.x_BadMany.to rfl (xe_v 0 rfl rfl rfl rfl rfl) rfl rfl rfl))
  xss_nil))
theorem b_is_number (fx : FX P w K mg base) (hh : HH P w K mg base (k + 2) cal) (hc : cdv = .ref (He.codeOf K ("is_number", none))) (bd : Bod ⟨GG w K, TT K, cal, clsN K cnames, [], W⟩ (cxOf (L2.CX P w) P w K mg base N_is_number "is_number" (defScope (top 3)) f cdv A outer s H E) (k + 2)) : XSs ⟨GG w K, TT K, cal, clsN K cnames, [], W⟩ (cxOf (L2.CX P w) P w K mg base N_is_number "is_number" (defScope (top 3)) f cdv A outer s H E) (defBody (top 3)) m_is_number :=
  (xss_one (xs_ret (xe_and (xe_call (ps := ["thing"]) hh.f26.to bd.toBex.room bd.toBex.own bd.toBex.tk rfl bn26 (xa_cons (xe_v 0 rfl rfl rfl rfl rfl) xa_nil rfl) rfl rfl rfl) (xe_one (xe_c c_ge (xe_v 0 rfl rfl rfl rfl rfl) xe_int rfl)))))
theorem b_planes_fault (fx : FX P w K mg base) (hh : HH P w K mg base (k + 2) cal) (hc : cdv = .ref (He.codeOf K ("planes_fault", none))) (bd : Bod ⟨GG w K, TT K, cal, clsN K cnames, [], W⟩ (cxOf (L2.CX P w) P w K mg base N_planes_fault "planes_fault" (defScope (top 29)) f cdv A outer s H E) (k + 2)) : XSs ⟨GG w K, TT K, cal, clsN K cnames, [], W⟩ (cxOf (L2.CX P w) P w K mg base N_planes_fault "planes_fault" (defScope (top 29)) f cdv A outer s H E) (defBody (top 29)) m_planes_fault :=
  (xss_cons (xs_if (xt_not (xt_val (xe_call (ps := ["thing"]) hh.f27.to bd.toBex.room bd.toBex.own bd.toBex.tk rfl bn27 (xa_cons (xe_v 1 rfl rfl rfl rfl rfl) xa_nil rfl) rfl rfl rfl) (fun _ => rfl)))
  (xss_one (xs_ret xe_int))
  xss_nil)
  (xss_cons (xs_v bd.toBex 2 (xe_dictC rfl) rfl rfl rfl rfl rfl)
  (xss_cons (xs_for 200 bd (xi_enum2 rfl fx.b_enumerate (xa_cons (xe_v 1 rfl rfl rfl rfl rfl) xa_nil rfl) rfl) (xg_tup rfl (xgs_cons (xg_v bd.toBex 3 rfl rfl rfl rfl) (xgs_cons (xg_v bd.toBex 4 rfl rfl rfl rfl) xgs_nil rfl) rfl) rfl rfl) (xss_cons (xs_v bd.toBex 5 (xe_call (ps := ["many", "thing"]) hh.f24.to bd.toBex.room bd.toBex.own bd.toBex.tk rfl bn24 (xa_cons (xe_v 0 rfl rfl rfl rfl rfl) (xa_cons (xe_v 4 rfl rfl rfl rfl rfl) xa_nil rfl) rfl) rfl rfl rfl) rfl rfl rfl rfl rfl)
  (xss_cons (xs_if (xt_w (xw_or (xt_c c_is (xe_v 5 rfl rfl rfl rfl rfl) xe_non rfl) (xw_or (xt_c (c_ne bd.toBex) (xe_call (ps := ["plane"]) hh.f28.to bd.toBex.room bd.toBex.own bd.toBex.tk rfl bn28 (xa_cons (xe_v 5 rfl rfl rfl rfl rfl) xa_nil rfl) rfl rfl rfl) (xe_v 5 rfl rfl rfl rfl rfl) rfl) (xw_or1 (xt_c (c_inK bd.toBex rfl) (xe_v 5 rfl rfl rfl rfl rfl) (xe_v 2 rfl rfl rfl rfl rfl) rfl)))))
  (xss_one (xs_ret (xe_v 3 rfl rfl rfl rfl rfl)))
  xss_nil)
  (xss_one (xs_asg xe_bl (xg_setA bd.toBex rfl (xe_v 2 rfl rfl rfl rfl rfl) (xe_v 5 rfl rfl rfl rfl rfl) (fun _ => rfl)) rfl rfl rfl)))) (fun _ => rfl))
  (xss_one (xs_ret xe_non)))))
theorem b_kept_plane (fx : FX P w K mg base) (hh : HH P w K mg base (k + 2) cal) (hc : cdv = .ref (He.codeOf K ("kept_plane", none))) (bd : Bod ⟨GG w K, TT K, cal, clsN K cnames, [], W⟩ (cxOf (L2.CX P w) P w K mg base N_kept_plane "kept_plane" (defScope (top 27)) f cdv A outer s H E) (k + 2)) : XSs ⟨GG w K, TT K, cal, clsN K cnames, [], W⟩ (cxOf (L2.CX P w) P w K mg base N_kept_plane "kept_plane" (defScope (top 27)) f cdv A outer s H E) (defBody (top 27)) m_kept_plane :=
  (xss_cons (xs_if (xt_w (xw_or (xt_not (xt_val (xe_call (ps := ["thing", "many"]) hh.f29.to bd.toBex.room bd.toBex.own bd.toBex.tk rfl bn29 (xa_cons (xe_v 1 rfl rfl rfl rfl rfl) (xa_cons xe_int xa_nil rfl) rfl) rfl rfl rfl) (fun _ => rfl))) (xw_or (xt_not (xt_val (xe_call (ps := ["thing", "many"]) hh.f29.to bd.toBex.room bd.toBex.own bd.toBex.tk rfl bn29 (xa_cons (xe_ix (xe_v 1 rfl rfl rfl rfl rfl) xe_int (fun _ _ => rfl)) (xa_cons (xe_v 0 rfl rfl rfl rfl rfl) xa_nil rfl) rfl) rfl rfl rfl) (fun _ => rfl))) (xw_or1 (xt_not (xt_val (xe_call (ps := ["thing"]) hh.f26.to bd.toBex.room bd.toBex.own bd.toBex.tk rfl bn26 (xa_cons (xe_ix (xe_v 1 rfl rfl rfl rfl rfl) xe_int (fun _ _ => rfl)) xa_nil rfl) rfl rfl rfl) (fun _ => rfl)))))))
  (xss_one (xs_ret xe_non))
  xss_nil)
  (xss_cons (xs_if (xt_w (xw_or (xt_not (xt_val (xe_all rfl rfl fx.b_all (xe_lc (own := [("number", 2)]) false 200 bd.toBex rfl (by decide) (xi_seq (xe_ix (xe_v 1 rfl rfl rfl rfl rfl) xe_int (fun _ _ => rfl))) (blkOk_by (own := [("number", 2)]) (N := N_kept_plane) (sc := (defScope (top 27))) (by decide +kernel)) (fun _ _ _ _ _ => (xgw_v (bd.toBex.blk rfl) 2 rfl rfl rfl rfl rfl)) (fun _ _ _ _ _ => xts_nil) (fun _ _ _ _ _ => (xe_call (ps := ["thing"]) hh.f26.to (bd.toBex.blk rfl).room (bd.toBex.blk rfl).own (bd.toBex.blk rfl).tk rfl bn26 (xa_cons (xe_v 2 rfl rfl rfl rfl rfl) xa_nil rfl) rfl rfl rfl)) (fun _ => rfl)) (by decide +kernel) rfl rfl) (fun _ => rfl))) (xw_or1 (xt_not (xt_val (xe_anyI rfl rfl fx.b_any (xe_ix (xe_v 1 rfl rfl rfl rfl rfl) xe_int (fun _ _ => rfl)) (by decide +kernel) rfl rfl) (fun _ => rfl))))))
  (xss_one (xs_ret xe_non))
  xss_nil)
  (xss_one (xs_ret (xe_tup (xa_cons (xe_tupOf  rfl fx.b_tuple (xe_ix (xe_v 1 rfl rfl rfl rfl rfl) xe_int (fun _ _ => rfl)) rfl rfl) (xa_cons (xe_ix (xe_v 1 rfl rfl rfl rfl rfl) xe_int (fun _ _ => rfl)) xa_nil rfl) rfl))))))
theorem b_kept_land (fx : FX P w K mg base) (hh : HH P w K mg base (k + 2) cal) (hc : cdv = .ref (He.codeOf K ("kept_land", none))) (bd : Bod ⟨GG w K, TT K, cal, clsN K cnames, [], W⟩ (cxOf (L2.CX P w) P w K mg base N_kept_land "kept_land" (defScope (top 56)) f cdv A outer s H E) (k + 2)) : XSs ⟨GG w K, TT K, cal, clsN K cnames, [], W⟩ (cxOf (L2.CX P w) P w K mg base N_kept_land "kept_land" (defScope (top 56)) f cdv A outer s H E) (defBody (top 56)) m_kept_land :=
  (xss_cons (xs_v bd.toBex 3 (xe_call (ps := ["planes", "thing", "words"]) hh.f30.to bd.toBex.room bd.toBex.own bd.toBex.tk rfl bn30 (xa_cons (xe_v 1 rfl rfl rfl rfl rfl) (xa_cons (xe_v 2 rfl rfl rfl rfl rfl) (xa_cons (xe_tup (xa_cons (xe_neg xe_int) (xa_cons xe_int xa_nil rfl) rfl)) xa_nil rfl) rfl) rfl) rfl rfl rfl) rfl rfl rfl rfl rfl)
  (xss_one (xs_ret (xe_if (xt_w (xw_and (xt_c c_isnot (xe_v 3 rfl rfl rfl rfl rfl) xe_non rfl) (xw_and1 (xt_c (c_inK bd.toBex rfl) (xe_v 3 rfl rfl rfl rfl rfl) (xe_call (ps := ["many", "planes"]) hh.f31.to bd.toBex.room bd.toBex.own bd.toBex.tk rfl bn31 (xa_cons (xe_v 0 rfl rfl rfl rfl rfl) (xa_cons (xe_v 1 rfl rfl rfl rfl rfl) xa_nil rfl) rfl) rfl rfl rfl) rfl)))) (xe_v 3 rfl rfl rfl rfl rfl) xe_non))))
theorem b_is_whole (fx : FX P w K mg base) (hh : HH P w K mg base (k + 2) cal) (hc : cdv = .ref (He.codeOf K ("is_whole", none))) (bd : Bod ⟨GG w K, TT K, cal, clsN K cnames, [], W⟩ (cxOf (L2.CX P w) P w K mg base N_is_whole "is_whole" (defScope (top 2)) f cdv A outer s H E) (k + 2)) : XSs ⟨GG w K, TT K, cal, clsN K cnames, [], W⟩ (cxOf (L2.CX P w) P w K mg base N_is_whole "is_whole" (defScope (top 2)) f cdv A outer s H E) (defBody (top 2)) m_is_whole :=
  (xss_one (xs_ret (xe_and (xe_isi (T := .int) rfl fx.b_isinstance ⟨rfl, fx.b_int, by decide +kernel, by decide, by decide, by decide⟩ (xe_v 0 rfl rfl rfl rfl rfl) rfl rfl rfl) (xe_one (xe_not (xe_isi (T := .bl) rfl fx.b_isinstance ⟨rfl, fx.b_bool, by decide +kernel, by decide, by decide, by decide⟩ (xe_v 0 rfl rfl rfl rfl rfl) rfl rfl rfl))))))
theorem b_is_list (fx : FX P w K mg base) (hh : HH P w K mg base (k + 2) cal) (hc : cdv = .ref (He.codeOf K ("is_list", none))) (bd : Bod ⟨GG w K, TT K, cal, clsN K cnames, [], W⟩ (cxOf (L2.CX P w) P w K mg base N_is_list "is_list" (defScope (top 1)) f cdv A outer s H E) (k + 2)) : XSs ⟨GG w K, TT K, cal, clsN K cnames, [], W⟩ (cxOf (L2.CX P w) P w K mg base N_is_list "is_list" (defScope (top 1)) f cdv A outer s H E) (defBody (top 1)) m_is_list :=
  (xss_one (xs_ret (xe_isiT rfl fx.b_isinstance (xty_cons (T := .lst) ⟨rfl, fx.b_list, by decide +kernel, by decide, by decide, by decide⟩ (xty_cons (T := .tup) ⟨rfl, fx.b_tuple, by decide +kernel, by decide, by decide, by decide⟩ xty_nil rfl) rfl) (by decide) (by decide) (xe_v 0 rfl rfl rfl rfl rfl) rfl rfl rfl)))
theorem b_plain_of (fx : FX P w K mg base) (hh : HH P w K mg base (k + 2) cal) (hc : cdv = .ref (He.codeOf K ("plain_of", none))) (bd : Bod ⟨GG w K, TT K, cal, clsN K cnames, [], W⟩ (cxOf (L2.CX P w) P w K mg base N_plain_of "plain_of" (defScope (top 28)) f cdv A outer s H E) (k + 2)) : XSs ⟨GG w K, TT K, cal, clsN K cnames, [], W⟩ (cxOf (L2.CX P w) P w K mg base N_plain_of "plain_of" (defScope (top 28)) f cdv A outer s H E) (defBody (top 28)) m_plain_of :=
  (xss_cons (xs_asg (xe_v 0 rfl rfl rfl rfl rfl) (xg_tup rfl (xgs_cons (xg_v bd.toBex 1 rfl rfl rfl rfl) (xgs_cons (xg_v bd.toBex 2 rfl rfl rfl rfl) xgs_nil rfl) rfl) rfl rfl) rfl rfl rfl)
  (xss_cons (xs_v bd.toBex 3 (xe_abs  rfl fx.b_abs (xe_v 2 rfl rfl rfl rfl rfl) rfl rfl) rfl rfl rfl rfl rfl)
  (xss_cons (xs_for 200 bd (xi_seq (xe_v 1 rfl rfl rfl rfl rfl)) (xg_v bd.toBex 4 rfl rfl rfl rfl) (xss_one (xs_v bd.toBex 3 (xe_call (ps := ["one", "other"]) hh.f32.to bd.toBex.room bd.toBex.own bd.toBex.tk rfl bn32 (xa_cons (xe_v 3 rfl rfl rfl rfl rfl) (xa_cons (xe_v 4 rfl rfl rfl rfl rfl) xa_nil rfl) rfl) rfl rfl rfl) rfl rfl rfl rfl rfl)) (fun _ => rfl))
  (xss_cons (xs_if (xt_c (c_lt bd.toBex) (xe_ix (xe_lc (own := [("number", 4)]) false 200 bd.toBex rfl (by decide) (xi_seq (xe_v 1 rfl rfl rfl rfl rfl)) (blkOk_by (own := [("number", 4)]) (N := N_plain_of) (sc := (defScope (top 28))) (by decide +kernel)) (fun _ _ _ _ _ => (xgw_v (bd.toBex.blk rfl) 4 rfl rfl rfl rfl rfl)) (fun _ _ _ _ _ => (xts_one (xt_val (xe_v 4 rfl rfl rfl rfl rfl) (fun _ => rfl)))) (fun _ _ _ _ _ => (xe_v 4 rfl rfl rfl rfl rfl)) (fun _ => rfl)) xe_int (fun _ _ => rfl)) xe_int rfl)
  (xss_one (xs_v bd.toBex 3 (xe_neg (xe_v 3 rfl rfl rfl rfl rfl)) rfl rfl rfl rfl rfl))
  xss_nil)
  (xss_one (xs_ret (xe_tup (xa_cons (xe_tupOf  rfl fx.b_tuple (xe_lc (own := [("number", 4)]) false 200 bd.toBex rfl (by decide) (xi_seq (xe_v 1 rfl rfl rfl rfl rfl)) (blkOk_by (own := [("number", 4)]) (N := N_plain_of) (sc := (defScope (top 28))) (by decide +kernel)) (fun _ _ _ _ _ => (xgw_v (bd.toBex.blk rfl) 4 rfl rfl rfl rfl rfl)) (fun _ _ _ _ _ => xts_nil) (fun _ _ _ _ _ => (xe_fdiv (xe_v 4 rfl rfl rfl rfl rfl) (xe_v 3 rfl rfl rfl rfl rfl))) (fun _ => rfl)) rfl rfl) (xa_cons (xe_fdiv (xe_v 2 rfl rfl rfl rfl rfl) (xe_v 3 rfl rfl rfl rfl rfl)) xa_nil rfl) rfl))))))))
theorem b_is_row (fx : FX P w K mg base) (hh : HH P w K mg base (k + 2) cal) (hc : cdv = .ref (He.codeOf K ("is_row", none))) (bd : Bod ⟨GG w K, TT K, cal, clsN K cnames, [], W⟩ (cxOf (L2.CX P w) P w K mg base N_is_row "is_row" (defScope (top 4)) f cdv A outer s H E) (k + 2)) : XSs ⟨GG w K, TT K, cal, clsN K cnames, [], W⟩ (cxOf (L2.CX P w) P w K mg base N_is_row "is_row" (defScope (top 4)) f cdv A outer s H E) (defBody (top 4)) m_is_row :=
  (xss_one (xs_ret (xe_and (xe_call (ps := ["thing"]) hh.f27.to bd.toBex.room bd.toBex.own bd.toBex.tk rfl bn27 (xa_cons (xe_v 0 rfl rfl rfl rfl rfl) xa_nil rfl) rfl rfl rfl) (xe_one (xe_c (c_eq bd.toBex) (xe_len  rfl fx.b_len (xe_v 0 rfl rfl rfl rfl rfl) rfl rfl) (xe_v 1 rfl rfl rfl rfl rfl) rfl)))))
theorem b_kept_row (fx : FX P w K mg base) (hh : HH P w K mg base (k + 2) cal) (hc : cdv = .ref (He.codeOf K ("kept_row", none))) (bd : Bod ⟨GG w K, TT K, cal, clsN K cnames, [], W⟩ (cxOf (L2.CX P w) P w K mg base N_kept_row "kept_row" (defScope (top 55)) f cdv A outer s H E) (k + 2)) : XSs ⟨GG w K, TT K, cal, clsN K cnames, [], W⟩ (cxOf (L2.CX P w) P w K mg base N_kept_row "kept_row" (defScope (top 55)) f cdv A outer s H E) (defBody (top 55)) m_kept_row :=
  (xss_cons (xs_if (xt_w (xw_or (xt_not (xt_val (xe_call (ps := ["thing", "many"]) hh.f29.to bd.toBex.room bd.toBex.own bd.toBex.tk rfl bn29 (xa_cons (xe_v 1 rfl rfl rfl rfl rfl) (xa_cons (xe_len  rfl fx.b_len (xe_v 0 rfl rfl rfl rfl rfl) rfl rfl) xa_nil rfl) rfl) rfl rfl rfl) (fun _ => rfl))) (xw_or1 (xt_not (xt_val (xe_all rfl rfl fx.b_all (xe_lc (own := [("side", 3)]) false 200 bd.toBex rfl (by decide) (xi_seq (xe_v 1 rfl rfl rfl rfl rfl)) (blkOk_by (own := [("side", 3)]) (N := N_kept_row) (sc := (defScope (top 55))) (by decide +kernel)) (fun _ _ _ _ _ => (xgw_v (bd.toBex.blk rfl) 3 rfl rfl rfl rfl rfl)) (fun _ _ _ _ _ => xts_nil) (fun _ _ _ _ _ => (xe_and (xe_call (ps := ["thing"]) hh.f26.to (bd.toBex.blk rfl).room (bd.toBex.blk rfl).own (bd.toBex.blk rfl).tk rfl bn26 (xa_cons (xe_v 3 rfl rfl rfl rfl rfl) xa_nil rfl) rfl rfl rfl) (xe_one (xe_c (c_inK (bd.toBex.blk rfl) rfl) (xe_v 3 rfl rfl rfl rfl rfl) (xe_v 2 rfl rfl rfl rfl rfl) rfl)))) (fun _ => rfl)) (by decide +kernel) rfl rfl) (fun _ => rfl))))))
  (xss_one (xs_ret xe_non))
  xss_nil)
  (xss_one (xs_ret (xe_lstK false rfl rfl  rfl fx.b_list (xe_v 1 rfl rfl rfl rfl rfl) rfl rfl))))
theorem b_rows_by (fx : FX P w K mg base) (hh : HH P w K mg base (k + 2) cal) (hc : cdv = .ref (He.codeOf K ("rows_by", none))) (bd : Bod ⟨GG w K, TT K, cal, clsN K cnames, [], W⟩ (cxOf (L2.CX P w) P w K mg base N_rows_by "rows_by" (defScope (top 54)) f cdv A outer s H E) (k + 2)) : XSs ⟨GG w K, TT K, cal, clsN K cnames, [], W⟩ (cxOf (L2.CX P w) P w K mg base N_rows_by "rows_by" (defScope (top 54)) f cdv A outer s H E) (defBody (top 54)) m_rows_by :=
  (xss_one (xs_ret (xe_sortR false bd.toBex rfl fx.b_sorted (xe_lc (own := [("point", 2)]) false 200 bd.toBex rfl (by decide) (xi_seq (xe_call (ps := ["many", "planes"]) hh.f33.to bd.toBex.room bd.toBex.own bd.toBex.tk rfl bn33 (xa_cons (xe_v 0 rfl rfl rfl rfl rfl) (xa_cons (xe_v 1 rfl rfl rfl rfl rfl) xa_nil rfl) rfl) rfl rfl rfl)) (blkOk_by (own := [("point", 2)]) (N := N_rows_by) (sc := (defScope (top 54))) (by decide +kernel)) (fun _ _ _ _ _ => (xgw_v (bd.toBex.blk rfl) 2 rfl rfl rfl rfl rfl)) (fun _ _ _ _ _ => xts_nil) (fun _ _ _ _ _ => (xe_call (ps := ["planes", "point"]) hh.f34.to (bd.toBex.blk rfl).room (bd.toBex.blk rfl).own (bd.toBex.blk rfl).tk rfl bn34 (xa_cons (xe_v 1 rfl rfl rfl rfl rfl) (xa_cons (xe_v 2 rfl rfl rfl rfl rfl) xa_nil rfl) rfl) rfl rfl rfl)) (fun _ => rfl)) (by decide +kernel) rfl rfl)))
theorem b_common_divisor (fx : FX P w K mg base) (hh : HH P w K mg base (k + 2) cal) (hc : cdv = .ref (He.codeOf K ("common_divisor", none))) (bd : Bod ⟨GG w K, TT K, cal, clsN K cnames, [], W⟩ (cxOf (L2.CX P w) P w K mg base N_common_divisor "common_divisor" (defScope (top 13)) f cdv A outer s H E) (k + 2)) : XSs ⟨GG w K, TT K, cal, clsN K cnames, [], W⟩ (cxOf (L2.CX P w) P w K mg base N_common_divisor "common_divisor" (defScope (top 13)) f cdv A outer s H E) (defBody (top 13)) m_common_divisor :=
  (xss_cons (xs_par (i := 0) (j := 1) bd rfl rfl (by decide) rfl rfl (nmem_b rfl) (nmem_b rfl) (xa_cons (xe_abs  rfl fx.b_abs (xe_v 0 rfl rfl rfl rfl rfl) rfl rfl) (xa_cons (xe_abs  rfl fx.b_abs (xe_v 1 rfl rfl rfl rfl rfl) rfl rfl) xa_nil rfl) rfl) rfl rfl)
  (xss_cons (xs_while 200 bd (xt_val (xe_v 1 rfl rfl rfl rfl rfl) (fun _ => rfl)) (xss_one (xs_par (i := 0) (j := 1) bd rfl rfl (by decide) rfl rfl (nmem_b rfl) (nmem_b rfl) (xa_cons (xe_v 1 rfl rfl rfl rfl rfl) (xa_cons (xe_mod (xe_v 0 rfl rfl rfl rfl rfl) (xe_v 1 rfl rfl rfl rfl rfl)) xa_nil rfl) rfl) rfl rfl)))
  (xss_one (xs_ret (xe_v 0 rfl rfl rfl rfl rfl)))))
theorem b_points_by (fx : FX P w K mg base) (hh : HH P w K mg base (k + 2) cal) (hc : cdv = .ref (He.codeOf K ("points_by", none))) (bd : Bod ⟨GG w K, TT K, cal, clsN K cnames, [], W⟩ (cxOf (L2.CX P w) P w K mg base N_points_by "points_by" (defScope (top 53)) f cdv A outer s H E) (k + 2)) : XSs ⟨GG w K, TT K, cal, clsN K cnames, [], W⟩ (cxOf (L2.CX P w) P w K mg base N_points_by "points_by" (defScope (top 53)) f cdv A outer s H E) (defBody (top 53)) m_points_by :=
  (xss_cons (xs_if (xt_c (c_eq bd.toBex) (xe_v 0 rfl rfl rfl rfl rfl) xe_int rfl)
  (xss_one (xs_ret (xe_lst false (xa_cons (xe_tup xa_nil) xa_nil rfl))))
  xss_nil)
  (xss_cons (xs_v bd.toBex 2 (xe_lst true (xa_cons (xe_mul3 false (xe_tup (xa_cons (xe_tup (xa_cons xe_int (xa_cons xe_int xa_nil rfl) rfl)) xa_nil rfl)) (xe_v 0 rfl rfl rfl rfl rfl)) xa_nil rfl)) rfl rfl rfl rfl rfl)
  (xss_cons (xs_for 200 bd (xi_enum2 rfl fx.b_enumerate (xa_cons (xe_v 1 rfl rfl rfl rfl rfl) xa_nil rfl) rfl) (xg_tup rfl (xgs_cons (xg_v bd.toBex 3 rfl rfl rfl rfl) (xgs_cons (xg_v bd.toBex 4 rfl rfl rfl rfl) xgs_nil rfl) rfl) rfl rfl) (xss_cons (xs_v bd.toBex 5 (xe_slice false (xe_v 1 rfl rfl rfl rfl rfl) xo_none (xo_some (xe_v 3 rfl rfl rfl rfl rfl))) rfl rfl rfl rfl rfl)
  (xss_cons (xs_asg (xe_call (ps := ["many", "planes"]) hh.f35.to bd.toBex.room bd.toBex.own bd.toBex.tk rfl bn35 (xa_cons (xe_v 0 rfl rfl rfl rfl rfl) (xa_cons (xe_lst false (xa_cons (xe_v 4 rfl rfl rfl rfl rfl) xa_nil rfl)) xa_nil rfl) rfl) rfl rfl rfl) (xg_tup rfl (xgs_cons (xg_v bd.toBex 6 rfl rfl rfl rfl) (xgs_cons (xg_v bd.toBex 7 rfl rfl rfl rfl) xgs_nil rfl) rfl) rfl rfl) rfl rfl rfl)
  (xss_cons (xs_setLc (i := 9) (own := [("one", 8)]) false 200 bd.toBex rfl (by decide) rfl rfl (sw_true rfl rfl rfl (by decide +kernel)) (xi_seq (xe_call (ps := ["many", "planes"]) hh.f33.to bd.toBex.room bd.toBex.own bd.toBex.tk rfl bn33 (xa_cons (xe_sub2 (xe_v 0 rfl rfl rfl rfl rfl) xe_int) (xa_cons (xe_call (ps := ["planes", "point", "ways"]) hh.f36.to bd.toBex.room bd.toBex.own bd.toBex.tk rfl bn36 (xa_cons (xe_v 5 rfl rfl rfl rfl rfl) (xa_cons (xe_v 6 rfl rfl rfl rfl rfl) (xa_cons (xe_v 7 rfl rfl rfl rfl rfl) xa_nil rfl) rfl) rfl) rfl rfl rfl) xa_nil rfl) rfl) rfl rfl rfl)) (blkOk_by (own := [("one", 8)]) (N := N_points_by) (sc := (defScope (top 53))) (by decide +kernel)) (fun _ _ _ _ _ => (xgw_v (bd.toBex.blk rfl) 8 rfl rfl rfl rfl rfl)) (fun _ _ _ _ _ => xts_nil) (fun _ _ _ _ _ => (xe_call (ps := ["point", "ways", "numbers"]) hh.f37.to (bd.toBex.blk rfl).room (bd.toBex.blk rfl).own (bd.toBex.blk rfl).tk rfl bn37 (xa_cons (xe_v 6 rfl rfl rfl rfl rfl) (xa_cons (xe_v 7 rfl rfl rfl rfl rfl) (xa_cons (xe_v 8 rfl rfl rfl rfl rfl) xa_nil rfl) rfl) rfl) rfl rfl rfl)) (fun _ => rfl))
  (xss_cons (xs_v bd.toBex 10 (xe_dcK (own := [("one", 8)]) 200 bd.toBex rfl rfl (xi_seq (xe_v 9 rfl rfl rfl rfl rfl)) (blkOk_by (own := [("one", 8)]) (N := N_points_by) (sc := (defScope (top 53))) (by decide +kernel)) (fun _ _ _ _ _ => (xgw_v (bd.toBex.blk rfl) 8 rfl rfl rfl rfl rfl)) (fun _ _ _ _ _ => xts_nil) (fun _ _ _ _ _ => (xe_tupOf  rfl fx.b_tuple (xe_call (ps := ["planes", "point"]) hh.f34.to (bd.toBex.blk rfl).room (bd.toBex.blk rfl).own (bd.toBex.blk rfl).tk rfl bn34 (xa_cons (xe_v 5 rfl rfl rfl rfl rfl) (xa_cons (xe_v 8 rfl rfl rfl rfl rfl) xa_nil rfl) rfl) rfl rfl rfl) rfl rfl)) (fun _ _ _ _ _ => xe_bl) (fun _ => rfl)) rfl rfl rfl rfl rfl)
  (xss_cons (xs_setLc (i := 2) (own := [("one", 8)]) true 200 bd.toBex rfl (by decide) rfl rfl (sw_true rfl rfl rfl (by decide +kernel)) (xi_seq (xe_v 2 rfl rfl rfl rfl rfl)) (blkOk_by (own := [("one", 8)]) (N := N_points_by) (sc := (defScope (top 53))) (by decide +kernel)) (fun _ _ _ _ _ => (xgw_v (bd.toBex.blk rfl) 8 rfl rfl rfl rfl rfl)) (fun _ _ _ _ _ => (xts_one (xt_c (c_notinK (bd.toBex.blk rfl) rfl) (xe_tupOf  rfl fx.b_tuple (xe_call (ps := ["planes", "point"]) hh.f34.to (bd.toBex.blk rfl).room (bd.toBex.blk rfl).own (bd.toBex.blk rfl).tk rfl bn34 (xa_cons (xe_v 5 rfl rfl rfl rfl rfl) (xa_cons (xe_v 8 rfl rfl rfl rfl rfl) xa_nil rfl) rfl) rfl rfl rfl) rfl rfl) (xe_v 10 rfl rfl rfl rfl rfl) rfl))) (fun _ _ _ _ _ => (xe_v 8 rfl rfl rfl rfl rfl)) (fun _ => rfl))
  (xss_cons (xs_setLc (i := 11) (own := [("number", 13)]) false 200 bd.toBex rfl (by decide) rfl rfl (sw_true rfl rfl rfl (by decide +kernel)) (xi_seq (xe_ix (xe_v 4 rfl rfl rfl rfl rfl) xe_int (fun _ _ => rfl))) (blkOk_by (own := [("number", 13)]) (N := N_points_by) (sc := (defScope (top 53))) (by decide +kernel)) (fun _ _ _ _ _ => (xgw_v (bd.toBex.blk rfl) 13 rfl rfl rfl rfl rfl)) (fun _ _ _ _ _ => xts_nil) (fun _ _ _ _ _ => (xe_tup (xa_cons (xe_v 13 rfl rfl rfl rfl rfl) (xa_cons xe_int xa_nil rfl) rfl))) (fun _ => rfl))
  (xss_one (xs_for 200 bd (xi_seq (xe_v 9 rfl rfl rfl rfl rfl)) (xg_v bd.toBex 8 rfl rfl rfl rfl) (xss_cons (xs_v bd.toBex 12 (xe_call (ps := ["planes", "point", "way"]) hh.f38.to bd.toBex.room bd.toBex.own bd.toBex.tk rfl bn38 (xa_cons (xe_v 5 rfl rfl rfl rfl rfl) (xa_cons (xe_v 8 rfl rfl rfl rfl rfl) (xa_cons (xe_v 11 rfl rfl rfl rfl rfl) xa_nil rfl) rfl) rfl) rfl rfl rfl) rfl rfl rfl rfl rfl)
  (xss_one (xs_expr (xe_extend (xe_v 2 rfl rfl rfl rfl rfl) (xe_lst false (xa_cons (xe_call (ps := ["point", "way", "by"]) hh.f39.to bd.toBex.room bd.toBex.own bd.toBex.tk rfl bn39 (xa_cons (xe_v 8 rfl rfl rfl rfl rfl) (xa_cons (xe_v 11 rfl rfl rfl rfl rfl) (xa_cons (xe_v 12 rfl rfl rfl rfl rfl) xa_nil rfl) rfl) rfl) rfl rfl rfl) (xa_cons (xe_call (ps := ["point", "way", "by"]) hh.f39.to bd.toBex.room bd.toBex.own bd.toBex.tk rfl bn39 (xa_cons (xe_v 8 rfl rfl rfl rfl rfl) (xa_cons (xe_v 11 rfl rfl rfl rfl rfl) (xa_cons (xe_call (ps := ["one", "other"]) hh.f40.to bd.toBex.room bd.toBex.own bd.toBex.tk rfl bn40 (xa_cons (xe_tup (xa_cons xe_int (xa_cons xe_int xa_nil rfl) rfl)) (xa_cons (xe_v 12 rfl rfl rfl rfl rfl) xa_nil rfl) rfl) rfl rfl rfl) xa_nil rfl) rfl) rfl) rfl rfl rfl) xa_nil rfl) rfl)) rfl rfl rfl rfl rfl) rfl))) (fun _ => rfl))))))))) (fun _ => rfl))
  (xss_one (xs_ret (xe_v 2 rfl rfl rfl rfl rfl))))))
theorem b_sides (fx : FX P w K mg base) (hh : HH P w K mg base (k + 2) cal) (hc : cdv = .ref (He.codeOf K ("sides", none))) (bd : Bod ⟨GG w K, TT K, cal, clsN K cnames, [], W⟩ (cxOf (L2.CX P w) P w K mg base N_sides "sides" (defScope (top 33)) f cdv A outer s H E) (k + 2)) : XSs ⟨GG w K, TT K, cal, clsN K cnames, [], W⟩ (cxOf (L2.CX P w) P w K mg base N_sides "sides" (defScope (top 33)) f cdv A outer s H E) (defBody (top 33)) m_sides :=
  (xss_one (xs_ret (xe_lc (own := [("plane", 2)]) false 200 bd.toBex rfl (by decide) (xi_seq (xe_v 0 rfl rfl rfl rfl rfl)) (blkOk_by (own := [("plane", 2)]) (N := N_sides) (sc := (defScope (top 33))) (by decide +kernel)) (fun _ _ _ _ _ => (xgw_v (bd.toBex.blk rfl) 2 rfl rfl rfl rfl rfl)) (fun _ _ _ _ _ => xts_nil) (fun _ _ _ _ _ => (xe_call (ps := ["plane", "point"]) hh.f41.to (bd.toBex.blk rfl).room (bd.toBex.blk rfl).own (bd.toBex.blk rfl).tk rfl bn41 (xa_cons (xe_v 2 rfl rfl rfl rfl rfl) (xa_cons (xe_v 1 rfl rfl rfl rfl rfl) xa_nil rfl) rfl) rfl rfl rfl)) (fun _ => rfl))))
theorem b_points_of (fx : FX P w K mg base) (hh : HH P w K mg base (k + 2) cal) (hc : cdv = .ref (He.codeOf K ("points_of", none))) (bd : Bod ⟨GG w K, TT K, cal, clsN K cnames, [], W⟩ (cxOf (L2.CX P w) P w K mg base N_points_of "points_of" (defScope (top 39)) f cdv A outer s H E) (k + 2)) : XSs ⟨GG w K, TT K, cal, clsN K cnames, [], W⟩ (cxOf (L2.CX P w) P w K mg base N_points_of "points_of" (defScope (top 39)) f cdv A outer s H E) (defBody (top 39)) m_points_of :=
  (xss_cons (xs_asg (xe_call (ps := ["planes", "many"]) hh.f42.to bd.toBex.room bd.toBex.own bd.toBex.tk rfl bn42 (xa_cons (xe_v 1 rfl rfl rfl rfl rfl) (xa_cons (xe_v 0 rfl rfl rfl rfl rfl) xa_nil rfl) rfl) rfl rfl rfl) (xg_tup rfl (xgs_cons (xg_v bd.toBex 2 rfl rfl rfl rfl) (xgs_cons (xg_v bd.toBex 3 rfl rfl rfl rfl) xgs_nil rfl) rfl) rfl rfl) rfl rfl rfl)
  (xss_cons (xs_for 200 bd (xi_seq (xe_slice false (xe_v 2 rfl rfl rfl rfl rfl) (xo_some (xe_len  rfl fx.b_len (xe_v 3 rfl rfl rfl rfl rfl) rfl rfl)) xo_none)) (xg_v bd.toBex 4 rfl rfl rfl rfl) xss_never (fun _ => rfl))
  (xss_cons (xs_v bd.toBex 5 (xe_mul3 true (xe_lst false (xa_cons (xe_tup (xa_cons xe_int (xa_cons xe_int xa_nil rfl) rfl)) xa_nil rfl)) (xe_v 0 rfl rfl rfl rfl rfl)) rfl rfl rfl rfl rfl)
  (xss_cons (xs_for 200 bd (xi_zip2 rfl fx.b_zip (xa_cons (xe_v 2 rfl rfl rfl rfl rfl) (xa_cons (xe_v 3 rfl rfl rfl rfl rfl) xa_nil rfl) rfl) rfl rfl) (xg_tup rfl (xgs_cons (xg_v bd.toBex 4 rfl rfl rfl rfl) (xgs_cons (xg_v bd.toBex 6 rfl rfl rfl rfl) xgs_nil rfl) rfl) rfl rfl) (xss_one (xs_asg (xe_ix (xe_v 4 rfl rfl rfl rfl rfl) (xe_v 0 rfl rfl rfl rfl rfl) (fun _ _ => rfl)) (xg_setA bd.toBex rfl (xe_v 5 rfl rfl rfl rfl rfl) (xe_v 6 rfl rfl rfl rfl rfl) (fun _ => rfl)) rfl rfl rfl)) (fun _ => rfl))
  (xss_cons (xs_v bd.toBex 7 (xe_lst true xa_nil) rfl rfl rfl rfl rfl)
  (xss_cons (xs_for 200 bd (xi_seq (xe_lc (own := [("column", 10)]) false 200 bd.toBex rfl (by decide) (xi_range1 rfl fx.b_range (xa_cons (xe_v 0 rfl rfl rfl rfl rfl) xa_nil rfl) rfl) (blkOk_by (own := [("column", 10)]) (N := N_points_of) (sc := (defScope (top 39))) (by decide +kernel)) (fun _ _ _ _ _ => (xgw_v (bd.toBex.blk rfl) 10 rfl rfl rfl rfl rfl)) (fun _ _ _ _ _ => (xts_one (xt_c (c_notinK (bd.toBex.blk rfl) rfl) (xe_v 10 rfl rfl rfl rfl rfl) (xe_v 3 rfl rfl rfl rfl rfl) rfl))) (fun _ _ _ _ _ => (xe_v 10 rfl rfl rfl rfl rfl)) (fun _ => rfl))) (xg_v bd.toBex 8 rfl rfl rfl rfl) (xss_cons (xs_setLc (i := 9) (own := [("place", 11)]) true 200 bd.toBex rfl (by decide) rfl rfl (sw_true rfl rfl rfl (by decide +kernel)) (xi_range1 rfl fx.b_range (xa_cons (xe_v 0 rfl rfl rfl rfl rfl) xa_nil rfl) rfl) (blkOk_by (own := [("place", 11)]) (N := N_points_of) (sc := (defScope (top 39))) (by decide +kernel)) (fun _ _ _ _ _ => (xgw_v (bd.toBex.blk rfl) 11 rfl rfl rfl rfl rfl)) (fun _ _ _ _ _ => xts_nil) (fun _ _ _ _ _ => (xe_tup (xa_cons (xe_intOf  rfl fx.b_int (xe_c (c_eq (bd.toBex.blk rfl)) (xe_v 11 rfl rfl rfl rfl rfl) (xe_v 8 rfl rfl rfl rfl rfl) rfl) rfl rfl) (xa_cons xe_int xa_nil rfl) rfl))) (fun _ => rfl))
  (xss_cons (xs_for 200 bd (xi_zip2 rfl fx.b_zip (xa_cons (xe_v 2 rfl rfl rfl rfl rfl) (xa_cons (xe_v 3 rfl rfl rfl rfl rfl) xa_nil rfl) rfl) rfl rfl) (xg_tup rfl (xgs_cons (xg_v bd.toBex 4 rfl rfl rfl rfl) (xgs_cons (xg_v bd.toBex 6 rfl rfl rfl rfl) xgs_nil rfl) rfl) rfl rfl) (xss_one (xs_asg (xe_call (ps := ["one", "other"]) hh.f40.to bd.toBex.room bd.toBex.own bd.toBex.tk rfl bn40 (xa_cons (xe_tup (xa_cons xe_int (xa_cons xe_int xa_nil rfl) rfl)) (xa_cons (xe_ix (xe_v 4 rfl rfl rfl rfl rfl) (xe_v 8 rfl rfl rfl rfl rfl) (fun _ _ => rfl)) xa_nil rfl) rfl) rfl rfl rfl) (xg_setA bd.toBex rfl (xe_v 9 rfl rfl rfl rfl rfl) (xe_v 6 rfl rfl rfl rfl rfl) (fun _ => rfl)) rfl rfl rfl)) (fun _ => rfl))
  (xss_one (xs_expr (xe_append (xe_v 7 rfl rfl rfl rfl rfl) (xe_v 9 rfl rfl rfl rfl rfl) rfl rfl rfl rfl rfl) rfl)))) (fun _ => rfl))
  (xss_one (xs_ret (xe_tup (xa_cons (xe_v 5 rfl rfl rfl rfl rfl) (xa_cons (xe_v 7 rfl rfl rfl rfl rfl) xa_nil rfl) rfl))))))))))
theorem b_unlike_cuts (fx : FX P w K mg base) (hh : HH P w K mg base (k + 2) cal) (hc : cdv = .ref (He.codeOf K ("unlike_cuts", none))) (bd : Bod ⟨GG w K, TT K, cal, clsN K cnames, [], W⟩ (cxOf (L2.CX P w) P w K mg base N_unlike_cuts "unlike_cuts" (defScope (top 52)) f cdv A outer s H E) (k + 2)) : XSs ⟨GG w K, TT K, cal, clsN K cnames, [], W⟩ (cxOf (L2.CX P w) P w K mg base N_unlike_cuts "unlike_cuts" (defScope (top 52)) f cdv A outer s H E) (defBody (top 52)) m_unlike_cuts :=
  (xss_cons (xs_v bd.toBex 3 (xe_dictC rfl) rfl rfl rfl rfl rfl)
  (xss_cons (xs_for 200 bd (xi_seq (xe_v 0 rfl rfl rfl rfl rfl)) (xg_v bd.toBex 4 rfl rfl rfl rfl) (xss_cons (xs_v bd.toBex 5 (xe_call (ps := ["plane", "point", "ways"]) hh.f43.to bd.toBex.room bd.toBex.own bd.toBex.tk rfl bn43 (xa_cons (xe_v 4 rfl rfl rfl rfl rfl) (xa_cons (xe_v 1 rfl rfl rfl rfl rfl) (xa_cons (xe_v 2 rfl rfl rfl rfl rfl) xa_nil rfl) rfl) rfl) rfl rfl rfl) rfl rfl rfl rfl rfl)
  (xss_one (xs_if (xt_c c_isnot (xe_v 5 rfl rfl rfl rfl rfl) xe_non rfl)
  (xss_one (xs_asg xe_bl (xg_setA bd.toBex rfl (xe_v 3 rfl rfl rfl rfl rfl) (xe_v 5 rfl rfl rfl rfl rfl) (fun _ => rfl)) rfl rfl rfl))
  xss_nil))) (fun _ => rfl))
  (xss_one (xs_ret (xe_lstK false rfl rfl  rfl fx.b_list (xe_v 3 rfl rfl rfl rfl rfl) rfl rfl)))))
theorem b_lifted (fx : FX P w K mg base) (hh : HH P w K mg base (k + 2) cal) (hc : cdv = .ref (He.codeOf K ("lifted", none))) (bd : Bod ⟨GG w K, TT K, cal, clsN K cnames, [], W⟩ (cxOf (L2.CX P w) P w K mg base N_lifted "lifted" (defScope (top 49)) f cdv A outer s H E) (k + 2)) : XSs ⟨GG w K, TT K, cal, clsN K cnames, [], W⟩ (cxOf (L2.CX P w) P w K mg base N_lifted "lifted" (defScope (top 49)) f cdv A outer s H E) (defBody (top 49)) m_lifted :=
  (xss_cons (xs_v bd.toBex 3 (xe_tupOf  rfl fx.b_tuple (xe_v 0 rfl rfl rfl rfl rfl) rfl rfl) rfl rfl rfl rfl rfl)
  (xss_cons (xs_for 200 bd (xi_zip2 rfl fx.b_zip (xa_cons (xe_v 1 rfl rfl rfl rfl rfl) (xa_cons (xe_v 2 rfl rfl rfl rfl rfl) xa_nil rfl) rfl) rfl rfl) (xg_tup rfl (xgs_cons (xg_v bd.toBex 4 rfl rfl rfl rfl) (xgs_cons (xg_v bd.toBex 5 rfl rfl rfl rfl) xgs_nil rfl) rfl) rfl rfl) (xss_one (xs_v bd.toBex 3 (xe_call (ps := ["point", "way", "by"]) hh.f39.to bd.toBex.room bd.toBex.own bd.toBex.tk rfl bn39 (xa_cons (xe_v 3 rfl rfl rfl rfl rfl) (xa_cons (xe_v 4 rfl rfl rfl rfl rfl) (xa_cons (xe_v 5 rfl rfl rfl rfl rfl) xa_nil rfl) rfl) rfl) rfl rfl rfl) rfl rfl rfl rfl rfl)) (fun _ => rfl))
  (xss_one (xs_ret (xe_v 3 rfl rfl rfl rfl rfl)))))
theorem b_step_for (fx : FX P w K mg base) (hh : HH P w K mg base (k + 2) cal) (hc : cdv = .ref (He.codeOf K ("step_for", none))) (bd : Bod ⟨GG w K, TT K, cal, clsN K cnames, [], W⟩ (cxOf (L2.CX P w) P w K mg base N_step_for "step_for" (defScope (top 50)) f cdv A outer s H E) (k + 2)) : XSs ⟨GG w K, TT K, cal, clsN K cnames, [], W⟩ (cxOf (L2.CX P w) P w K mg base N_step_for "step_for" (defScope (top 50)) f cdv A outer s H E) (defBody (top 50)) m_step_for :=
  (xss_cons (xs_v bd.toBex 3 (xe_tup (xa_cons xe_int (xa_cons xe_int xa_nil rfl) rfl)) rfl rfl rfl rfl rfl)
  (xss_cons (xs_for 200 bd (xi_seq (xe_v 0 rfl rfl rfl rfl rfl)) (xg_v bd.toBex 4 rfl rfl rfl rfl) (xss_cons (xs_par (i := 5) (j := 6) bd rfl rfl (by decide) rfl rfl (nmem_b rfl) (nmem_b rfl) (xa_cons (xe_call (ps := ["plane", "point"]) hh.f44.to bd.toBex.room bd.toBex.own bd.toBex.tk rfl bn44 (xa_cons (xe_tup (xa_cons (xe_ix (xe_v 4 rfl rfl rfl rfl rfl) xe_int (fun _ _ => rfl)) (xa_cons xe_int xa_nil rfl) rfl)) (xa_cons (xe_v 2 rfl rfl rfl rfl rfl) xa_nil rfl) rfl) rfl rfl rfl) (xa_cons (xe_call (ps := ["plane", "point"]) hh.f44.to bd.toBex.room bd.toBex.own bd.toBex.tk rfl bn44 (xa_cons (xe_v 4 rfl rfl rfl rfl rfl) (xa_cons (xe_v 1 rfl rfl rfl rfl rfl) xa_nil rfl) rfl) rfl rfl rfl) xa_nil rfl) rfl) rfl rfl)
  (xss_one (xs_if (xt_val (xe_ix (xe_v 5 rfl rfl rfl rfl rfl) xe_int (fun _ _ => rfl)) (fun _ => rfl))
  (xss_cons (xs_v bd.toBex 7 (xe_call (ps := ["one", "other"]) hh.f45.to bd.toBex.room bd.toBex.own bd.toBex.tk rfl bn45 (xa_cons (xe_call (ps := ["one", "other"]) hh.f46.to bd.toBex.room bd.toBex.own bd.toBex.tk rfl bn46 (xa_cons (xe_tup (xa_cons xe_int (xa_cons xe_int xa_nil rfl) rfl)) (xa_cons (xe_call (ps := ["number"]) hh.f47.to bd.toBex.room bd.toBex.own bd.toBex.tk rfl bn47 (xa_cons (xe_v 6 rfl rfl rfl rfl rfl) xa_nil rfl) rfl rfl rfl) xa_nil rfl) rfl) rfl rfl rfl) (xa_cons (xe_call (ps := ["number"]) hh.f47.to bd.toBex.room bd.toBex.own bd.toBex.tk rfl bn47 (xa_cons (xe_v 5 rfl rfl rfl rfl rfl) xa_nil rfl) rfl rfl rfl) xa_nil rfl) rfl) rfl rfl rfl) rfl rfl rfl rfl rfl)
  (xss_one (xs_v bd.toBex 3 (xe_if (xt_val (xe_call (ps := ["one", "other"]) hh.f48.to bd.toBex.room bd.toBex.own bd.toBex.tk rfl bn48 (xa_cons (xe_v 7 rfl rfl rfl rfl rfl) (xa_cons (xe_v 3 rfl rfl rfl rfl rfl) xa_nil rfl) rfl) rfl rfl rfl) (fun _ => rfl)) (xe_v 7 rfl rfl rfl rfl rfl) (xe_v 3 rfl rfl rfl rfl rfl)) rfl rfl rfl rfl rfl)))
  xss_nil))) (fun _ => rfl))
  (xss_one (xs_ret (xe_v 3 rfl rfl rfl rfl rfl)))))
theorem b_stepped (fx : FX P w K mg base) (hh : HH P w K mg base (k + 2) cal) (hc : cdv = .ref (He.codeOf K ("stepped", none))) (bd : Bod ⟨GG w K, TT K, cal, clsN K cnames, [], W⟩ (cxOf (L2.CX P w) P w K mg base N_stepped "stepped" (defScope (top 48)) f cdv A outer s H E) (k + 2)) : XSs ⟨GG w K, TT K, cal, clsN K cnames, [], W⟩ (cxOf (L2.CX P w) P w K mg base N_stepped "stepped" (defScope (top 48)) f cdv A outer s H E) (defBody (top 48)) m_stepped :=
  (xss_one (xs_ret (xe_tupOf  rfl fx.b_tuple (xe_lc (own := [("one", 3), ("step", 4)]) false 200 bd.toBex rfl (by decide) (xi_zip2 rfl fx.b_zip (xa_cons (xe_v 0 rfl rfl rfl rfl rfl) (xa_cons (xe_v 1 rfl rfl rfl rfl rfl) xa_nil rfl) rfl) rfl rfl) (blkOk_by (own := [("one", 3), ("step", 4)]) (N := N_stepped) (sc := (defScope (top 48))) (by decide +kernel)) (fun _ _ _ _ _ => (xgw_tup rfl (xgsw_cons (xgw_v (bd.toBex.blk rfl) 3 rfl rfl rfl rfl rfl) (xgsw_cons (xgw_v (bd.toBex.blk rfl) 4 rfl rfl rfl rfl rfl) xgsw_nil rfl) rfl) rfl rfl)) (fun _ _ _ _ _ => xts_nil) (fun _ _ _ _ _ => (xe_call (ps := ["one", "other"]) hh.f49.to (bd.toBex.blk rfl).room (bd.toBex.blk rfl).own (bd.toBex.blk rfl).tk rfl bn49 (xa_cons (xe_v 3 rfl rfl rfl rfl rfl) (xa_cons (xe_call (ps := ["one", "other"]) hh.f46.to (bd.toBex.blk rfl).room (bd.toBex.blk rfl).own (bd.toBex.blk rfl).tk rfl bn46 (xa_cons (xe_v 2 rfl rfl rfl rfl rfl) (xa_cons (xe_v 4 rfl rfl rfl rfl rfl) xa_nil rfl) rfl) rfl rfl rfl) xa_nil rfl) rfl) rfl rfl rfl)) (fun _ => rfl)) rfl rfl)))
theorem b_minus (fx : FX P w K mg base) (hh : HH P w K mg base (k + 2) cal) (hc : cdv = .ref (He.codeOf K ("minus", none))) (bd : Bod ⟨GG w K, TT K, cal, clsN K cnames, [], W⟩ (cxOf (L2.CX P w) P w K mg base N_minus "minus" (defScope (top 16)) f cdv A outer s H E) (k + 2)) : XSs ⟨GG w K, TT K, cal, clsN K cnames, [], W⟩ (cxOf (L2.CX P w) P w K mg base N_minus "minus" (defScope (top 16)) f cdv A outer s H E) (defBody (top 16)) m_minus :=
  (xss_one (xs_ret (xe_call (ps := ["above", "below"]) hh.f50.to bd.toBex.room bd.toBex.own bd.toBex.tk rfl bn50 (xa_cons (xe_sub2 (xe_mul3 false (xe_ix (xe_v 0 rfl rfl rfl rfl rfl) xe_int (fun _ _ => rfl)) (xe_ix (xe_v 1 rfl rfl rfl rfl rfl) xe_int (fun _ _ => rfl))) (xe_mul3 false (xe_ix (xe_v 1 rfl rfl rfl rfl rfl) xe_int (fun _ _ => rfl)) (xe_ix (xe_v 0 rfl rfl rfl rfl rfl) xe_int (fun _ _ => rfl)))) (xa_cons (xe_mul3 false (xe_ix (xe_v 0 rfl rfl rfl rfl rfl) xe_int (fun _ _ => rfl)) (xe_ix (xe_v 1 rfl rfl rfl rfl rfl) xe_int (fun _ _ => rfl))) xa_nil rfl) rfl) rfl rfl rfl)))
theorem b_side_of (fx : FX P w K mg base) (hh : HH P w K mg base (k + 2) cal) (hc : cdv = .ref (He.codeOf K ("side_of", none))) (bd : Bod ⟨GG w K, TT K, cal, clsN K cnames, [], W⟩ (cxOf (L2.CX P w) P w K mg base N_side_of "side_of" (defScope (top 32)) f cdv A outer s H E) (k + 2)) : XSs ⟨GG w K, TT K, cal, clsN K cnames, [], W⟩ (cxOf (L2.CX P w) P w K mg base N_side_of "side_of" (defScope (top 32)) f cdv A outer s H E) (defBody (top 32)) m_side_of :=
  (xss_cons (xs_v bd.toBex 2 (xe_ix (xe_call (ps := ["plane", "point"]) hh.f44.to bd.toBex.room bd.toBex.own bd.toBex.tk rfl bn44 (xa_cons (xe_v 0 rfl rfl rfl rfl rfl) (xa_cons (xe_v 1 rfl rfl rfl rfl rfl) xa_nil rfl) rfl) rfl rfl rfl) xe_int (fun _ _ => rfl)) rfl rfl rfl rfl rfl)
  (xss_one (xs_ret (xe_sub2 (xe_c c_gt (xe_v 2 rfl rfl rfl rfl rfl) xe_int rfl) (xe_c (c_lt bd.toBex) (xe_v 2 rfl rfl rfl rfl rfl) xe_int rfl)))))
theorem b_system (fx : FX P w K mg base) (hh : HH P w K mg base (k + 2) cal) (hc : cdv = .ref (He.codeOf K ("system", none))) (bd : Bod ⟨GG w K, TT K, cal, clsN K cnames, [], W⟩ (cxOf (L2.CX P w) P w K mg base N_system "system" (defScope (top 37)) f cdv A outer s H E) (k + 2)) : XSs ⟨GG w K, TT K, cal, clsN K cnames, [], W⟩ (cxOf (L2.CX P w) P w K mg base N_system "system" (defScope (top 37)) f cdv A outer s H E) (defBody (top 37)) m_system :=
  (xss_cons (xs_v bd.toBex 2 (xe_lst true xa_nil) rfl rfl rfl rfl rfl)
  (xss_cons (xs_for 200 bd (xi_enum2 rfl fx.b_enumerate (xa_cons (xe_v 0 rfl rfl rfl rfl rfl) xa_nil rfl) rfl) (xg_tup rfl (xgs_cons (xg_v bd.toBex 3 rfl rfl rfl rfl) (xgs_cons (xg_tup rfl (xgs_cons (xg_v bd.toBex 4 rfl rfl rfl rfl) (xgs_cons (xg_v bd.toBex 5 rfl rfl rfl rfl) xgs_nil rfl) rfl) rfl rfl) xgs_nil rfl) rfl) rfl rfl) (xss_cons (xs_setLc (i := 6) (own := [("place", 7)]) false 200 bd.toBex rfl (by decide) rfl rfl (sw_true rfl rfl rfl (by decide +kernel)) (xi_range1 rfl fx.b_range (xa_cons (xe_len  rfl fx.b_len (xe_v 0 rfl rfl rfl rfl rfl) rfl rfl) xa_nil rfl) rfl) (blkOk_by (own := [("place", 7)]) (N := N_system) (sc := (defScope (top 37))) (by decide +kernel)) (fun _ _ _ _ _ => (xgw_v (bd.toBex.blk rfl) 7 rfl rfl rfl rfl rfl)) (fun _ _ _ _ _ => xts_nil) (fun _ _ _ _ _ => (xe_tup (xa_cons (xe_intOf  rfl fx.b_int (xe_c (c_eq (bd.toBex.blk rfl)) (xe_v 7 rfl rfl rfl rfl rfl) (xe_v 3 rfl rfl rfl rfl rfl) rfl) rfl rfl) (xa_cons xe_int xa_nil rfl) rfl))) (fun _ => rfl))
  (xss_one (xs_expr (xe_append (xe_v 2 rfl rfl rfl rfl rfl) (xe_lst false (xa_star (xe_lc (own := [("number", 8)]) false 200 bd.toBex rfl (by decide) (xi_seq (xe_v 4 rfl rfl rfl rfl rfl)) (blkOk_by (own := [("number", 8)]) (N := N_system) (sc := (defScope (top 37))) (by decide +kernel)) (fun _ _ _ _ _ => (xgw_v (bd.toBex.blk rfl) 8 rfl rfl rfl rfl rfl)) (fun _ _ _ _ _ => xts_nil) (fun _ _ _ _ _ => (xe_tup (xa_cons (xe_v 8 rfl rfl rfl rfl rfl) (xa_cons xe_int xa_nil rfl) rfl))) (fun _ => rfl)) (xa_cons (xe_tup (xa_cons (xe_v 5 rfl rfl rfl rfl rfl) (xa_cons xe_int xa_nil rfl) rfl)) (xa_star (xe_v 6 rfl rfl rfl rfl rfl) xa_nil rfl) rfl) rfl)) rfl rfl rfl rfl rfl) rfl))) (fun _ => rfl))
  (xss_one (xs_ret (xe_call (ps := ["rows", "columns"]) hh.f51.to bd.toBex.room bd.toBex.own bd.toBex.tk rfl bn51 (xa_cons (xe_v 2 rfl rfl rfl rfl rfl) (xa_cons (xe_v 1 rfl rfl rfl rfl rfl) xa_nil rfl) rfl) rfl rfl rfl)))))
theorem b_cut_by (fx : FX P w K mg base) (hh : HH P w K mg base (k + 2) cal) (hc : cdv = .ref (He.codeOf K ("cut_by", none))) (bd : Bod ⟨GG w K, TT K, cal, clsN K cnames, [], W⟩ (cxOf (L2.CX P w) P w K mg base N_cut_by "cut_by" (defScope (top 46)) f cdv A outer s H E) (k + 2)) : XSs ⟨GG w K, TT K, cal, clsN K cnames, [], W⟩ (cxOf (L2.CX P w) P w K mg base N_cut_by "cut_by" (defScope (top 46)) f cdv A outer s H E) (defBody (top 46)) m_cut_by :=
  (xss_cons (xs_setLc (i := 3) (own := [("way", 8)]) false 200 bd.toBex rfl (by decide) rfl rfl (sw_true rfl rfl rfl (by decide +kernel)) (xi_seq (xe_v 2 rfl rfl rfl rfl rfl)) (blkOk_by (own := [("way", 8)]) (N := N_cut_by) (sc := (defScope (top 46))) (by decide +kernel)) (fun _ _ _ _ _ => (xgw_v (bd.toBex.blk rfl) 8 rfl rfl rfl rfl rfl)) (fun _ _ _ _ _ => xts_nil) (fun _ _ _ _ _ => (xe_call (ps := ["plane", "point"]) hh.f44.to (bd.toBex.blk rfl).room (bd.toBex.blk rfl).own (bd.toBex.blk rfl).tk rfl bn44 (xa_cons (xe_tup (xa_cons (xe_ix (xe_v 0 rfl rfl rfl rfl rfl) xe_int (fun _ _ => rfl)) (xa_cons xe_int xa_nil rfl) rfl)) (xa_cons (xe_v 8 rfl rfl rfl rfl rfl) xa_nil rfl) rfl) rfl rfl rfl)) (fun _ => rfl))
  (xss_cons (xs_if (xt_not (xt_val (xe_anyI rfl rfl fx.b_any (xe_lc (own := [("number", 4)]) false 200 bd.toBex rfl (by decide) (xi_seq (xe_v 3 rfl rfl rfl rfl rfl)) (blkOk_by (own := [("number", 4)]) (N := N_cut_by) (sc := (defScope (top 46))) (by decide +kernel)) (fun _ _ _ _ _ => (xgw_v (bd.toBex.blk rfl) 4 rfl rfl rfl rfl rfl)) (fun _ _ _ _ _ => xts_nil) (fun _ _ _ _ _ => (xe_ix (xe_v 4 rfl rfl rfl rfl rfl) xe_int (fun _ _ => rfl))) (fun _ => rfl)) (by decide +kernel) rfl rfl) (fun _ => rfl)))
  (xss_one (xs_ret xe_non))
  xss_nil)
  (xss_cons (xs_v bd.toBex 5 (xe_call (ps := ["plane", "point"]) hh.f44.to bd.toBex.room bd.toBex.own bd.toBex.tk rfl bn44 (xa_cons (xe_v 0 rfl rfl rfl rfl rfl) (xa_cons (xe_v 1 rfl rfl rfl rfl rfl) xa_nil rfl) rfl) rfl rfl rfl) rfl rfl rfl rfl rfl)
  (xss_cons (xs_v bd.toBex 6 (xe_ix (xe_v 5 rfl rfl rfl rfl rfl) xe_int (fun _ _ => rfl)) rfl rfl rfl rfl rfl)
  (xss_cons (xs_for 200 bd (xi_seq (xe_v 3 rfl rfl rfl rfl rfl)) (xg_v bd.toBex 4 rfl rfl rfl rfl) (xss_one (xs_v bd.toBex 6 (xe_fdiv (xe_mul3 false (xe_v 6 rfl rfl rfl rfl rfl) (xe_ix (xe_v 4 rfl rfl rfl rfl rfl) xe_int (fun _ _ => rfl))) (xe_call (ps := ["one", "other"]) hh.f32.to bd.toBex.room bd.toBex.own bd.toBex.tk rfl bn32 (xa_cons (xe_v 6 rfl rfl rfl rfl rfl) (xa_cons (xe_ix (xe_v 4 rfl rfl rfl rfl rfl) xe_int (fun _ _ => rfl)) xa_nil rfl) rfl) rfl rfl rfl)) rfl rfl rfl rfl rfl)) (fun _ => rfl))
  (xss_cons (xs_v bd.toBex 7 (xe_tupOf  rfl fx.b_tuple (xe_lc (own := [("number", 4)]) false 200 bd.toBex rfl (by decide) (xi_seq (xe_v 3 rfl rfl rfl rfl rfl)) (blkOk_by (own := [("number", 4)]) (N := N_cut_by) (sc := (defScope (top 46))) (by decide +kernel)) (fun _ _ _ _ _ => (xgw_v (bd.toBex.blk rfl) 4 rfl rfl rfl rfl rfl)) (fun _ _ _ _ _ => xts_nil) (fun _ _ _ _ _ => (xe_mul3 false (xe_ix (xe_v 4 rfl rfl rfl rfl rfl) xe_int (fun _ _ => rfl)) (xe_fdiv (xe_v 6 rfl rfl rfl rfl rfl) (xe_ix (xe_v 4 rfl rfl rfl rfl rfl) xe_int (fun _ _ => rfl))))) (fun _ => rfl)) rfl rfl) rfl rfl rfl rfl rfl)
  (xss_one (xs_ret (xe_call (ps := ["plane"]) hh.f28.to bd.toBex.room bd.toBex.own bd.toBex.tk rfl bn28 (xa_cons (xe_tup (xa_cons (xe_v 7 rfl rfl rfl rfl rfl) (xa_cons (xe_mul3 false (xe_neg (xe_ix (xe_v 5 rfl rfl rfl rfl rfl) xe_int (fun _ _ => rfl))) (xe_fdiv (xe_v 6 rfl rfl rfl rfl rfl) (xe_ix (xe_v 5 rfl rfl rfl rfl rfl) xe_int (fun _ _ => rfl)))) xa_nil rfl) rfl)) xa_nil rfl) rfl rfl rfl)))))))))
theorem b_worth_at (fx : FX P w K mg base) (hh : HH P w K mg base (k + 2) cal) (hc : cdv = .ref (He.codeOf K ("worth_at", none))) (bd : Bod ⟨GG w K, TT K, cal, clsN K cnames, [], W⟩ (cxOf (L2.CX P w) P w K mg base N_worth_at "worth_at" (defScope (top 31)) f cdv A outer s H E) (k + 2)) : XSs ⟨GG w K, TT K, cal, clsN K cnames, [], W⟩ (cxOf (L2.CX P w) P w K mg base N_worth_at "worth_at" (defScope (top 31)) f cdv A outer s H E) (defBody (top 31)) m_worth_at :=
  (xss_one (xs_ret (xe_call (ps := ["one", "other"]) hh.f40.to bd.toBex.room bd.toBex.own bd.toBex.tk rfl bn40 (xa_cons (xe_call (ps := ["one", "other"]) hh.f52.to bd.toBex.room bd.toBex.own bd.toBex.tk rfl bn52 (xa_cons (xe_lc (own := [("number", 2)]) false 200 bd.toBex rfl (by decide) (xi_seq (xe_ix (xe_v 0 rfl rfl rfl rfl rfl) xe_int (fun _ _ => rfl))) (blkOk_by (own := [("number", 2)]) (N := N_worth_at) (sc := (defScope (top 31))) (by decide +kernel)) (fun _ _ _ _ _ => (xgw_v (bd.toBex.blk rfl) 2 rfl rfl rfl rfl rfl)) (fun _ _ _ _ _ => xts_nil) (fun _ _ _ _ _ => (xe_tup (xa_cons (xe_v 2 rfl rfl rfl rfl rfl) (xa_cons xe_int xa_nil rfl) rfl))) (fun _ => rfl)) (xa_cons (xe_v 1 rfl rfl rfl rfl rfl) xa_nil rfl) rfl) rfl rfl rfl) (xa_cons (xe_tup (xa_cons (xe_ix (xe_v 0 rfl rfl rfl rfl rfl) xe_int (fun _ _ => rfl)) (xa_cons xe_int xa_nil rfl) rfl)) xa_nil rfl) rfl) rfl rfl rfl)))
theorem b_over (fx : FX P w K mg base) (hh : HH P w K mg base (k + 2) cal) (hc : cdv = .ref (He.codeOf K ("over", none))) (bd : Bod ⟨GG w K, TT K, cal, clsN K cnames, [], W⟩ (cxOf (L2.CX P w) P w K mg base N_over "over" (defScope (top 18)) f cdv A outer s H E) (k + 2)) : XSs ⟨GG w K, TT K, cal, clsN K cnames, [], W⟩ (cxOf (L2.CX P w) P w K mg base N_over "over" (defScope (top 18)) f cdv A outer s H E) (defBody (top 18)) m_over :=
  (xss_one (xs_ret (xe_call (ps := ["above", "below"]) hh.f50.to bd.toBex.room bd.toBex.own bd.toBex.tk rfl bn50 (xa_cons (xe_mul3 false (xe_ix (xe_v 0 rfl rfl rfl rfl rfl) xe_int (fun _ _ => rfl)) (xe_ix (xe_v 1 rfl rfl rfl rfl rfl) xe_int (fun _ _ => rfl))) (xa_cons (xe_mul3 false (xe_ix (xe_v 0 rfl rfl rfl rfl rfl) xe_int (fun _ _ => rfl)) (xe_ix (xe_v 1 rfl rfl rfl rfl rfl) xe_int (fun _ _ => rfl))) xa_nil rfl) rfl) rfl rfl rfl)))
theorem b_times (fx : FX P w K mg base) (hh : HH P w K mg base (k + 2) cal) (hc : cdv = .ref (He.codeOf K ("times", none))) (bd : Bod ⟨GG w K, TT K, cal, clsN K cnames, [], W⟩ (cxOf (L2.CX P w) P w K mg base N_times "times" (defScope (top 17)) f cdv A outer s H E) (k + 2)) : XSs ⟨GG w K, TT K, cal, clsN K cnames, [], W⟩ (cxOf (L2.CX P w) P w K mg base N_times "times" (defScope (top 17)) f cdv A outer s H E) (defBody (top 17)) m_times :=
  (xss_one (xs_ret (xe_call (ps := ["above", "below"]) hh.f50.to bd.toBex.room bd.toBex.own bd.toBex.tk rfl bn50 (xa_cons (xe_mul3 false (xe_ix (xe_v 0 rfl rfl rfl rfl rfl) xe_int (fun _ _ => rfl)) (xe_ix (xe_v 1 rfl rfl rfl rfl rfl) xe_int (fun _ _ => rfl))) (xa_cons (xe_mul3 false (xe_ix (xe_v 0 rfl rfl rfl rfl rfl) xe_int (fun _ _ => rfl)) (xe_ix (xe_v 1 rfl rfl rfl rfl rfl) xe_int (fun _ _ => rfl))) xa_nil rfl) rfl) rfl rfl rfl)))
theorem b_size_of (fx : FX P w K mg base) (hh : HH P w K mg base (k + 2) cal) (hc : cdv = .ref (He.codeOf K ("size_of", none))) (bd : Bod ⟨GG w K, TT K, cal, clsN K cnames, [], W⟩ (cxOf (L2.CX P w) P w K mg base N_size_of "size_of" (defScope (top 51)) f cdv A outer s H E) (k + 2)) : XSs ⟨GG w K, TT K, cal, clsN K cnames, [], W⟩ (cxOf (L2.CX P w) P w K mg base N_size_of "size_of" (defScope (top 51)) f cdv A outer s H E) (defBody (top 51)) m_size_of :=
  (xss_one (xs_ret (xe_tup (xa_cons (xe_abs  rfl fx.b_abs (xe_ix (xe_v 0 rfl rfl rfl rfl rfl) xe_int (fun _ _ => rfl)) rfl rfl) (xa_cons (xe_ix (xe_v 0 rfl rfl rfl rfl rfl) xe_int (fun _ _ => rfl)) xa_nil rfl) rfl))))
theorem b_is_under (fx : FX P w K mg base) (hh : HH P w K mg base (k + 2) cal) (hc : cdv = .ref (He.codeOf K ("is_under", none))) (bd : Bod ⟨GG w K, TT K, cal, clsN K cnames, [], W⟩ (cxOf (L2.CX P w) P w K mg base N_is_under "is_under" (defScope (top 19)) f cdv A outer s H E) (k + 2)) : XSs ⟨GG w K, TT K, cal, clsN K cnames, [], W⟩ (cxOf (L2.CX P w) P w K mg base N_is_under "is_under" (defScope (top 19)) f cdv A outer s H E) (defBody (top 19)) m_is_under :=
  (xss_one (xs_ret (xe_c (c_lt bd.toBex) (xe_mul3 false (xe_ix (xe_v 0 rfl rfl rfl rfl rfl) xe_int (fun _ _ => rfl)) (xe_ix (xe_v 1 rfl rfl rfl rfl rfl) xe_int (fun _ _ => rfl))) (xe_mul3 false (xe_ix (xe_v 1 rfl rfl rfl rfl rfl) xe_int (fun _ _ => rfl)) (xe_ix (xe_v 0 rfl rfl rfl rfl rfl) xe_int (fun _ _ => rfl))) rfl)))
theorem b_plus (fx : FX P w K mg base) (hh : HH P w K mg base (k + 2) cal) (hc : cdv = .ref (He.codeOf K ("plus", none))) (bd : Bod ⟨GG w K, TT K, cal, clsN K cnames, [], W⟩ (cxOf (L2.CX P w) P w K mg base N_plus "plus" (defScope (top 15)) f cdv A outer s H E) (k + 2)) : XSs ⟨GG w K, TT K, cal, clsN K cnames, [], W⟩ (cxOf (L2.CX P w) P w K mg base N_plus "plus" (defScope (top 15)) f cdv A outer s H E) (defBody (top 15)) m_plus :=
  (xss_one (xs_ret (xe_call (ps := ["above", "below"]) hh.f50.to bd.toBex.room bd.toBex.own bd.toBex.tk rfl bn50 (xa_cons (xe_add false (xe_mul3 false (xe_ix (xe_v 0 rfl rfl rfl rfl rfl) xe_int (fun _ _ => rfl)) (xe_ix (xe_v 1 rfl rfl rfl rfl rfl) xe_int (fun _ _ => rfl))) (xe_mul3 false (xe_ix (xe_v 1 rfl rfl rfl rfl rfl) xe_int (fun _ _ => rfl)) (xe_ix (xe_v 0 rfl rfl rfl rfl rfl) xe_int (fun _ _ => rfl)))) (xa_cons (xe_mul3 false (xe_ix (xe_v 0 rfl rfl rfl rfl rfl) xe_int (fun _ _ => rfl)) (xe_ix (xe_v 1 rfl rfl rfl rfl rfl) xe_int (fun _ _ => rfl))) xa_nil rfl) rfl) rfl rfl rfl)))
theorem b_reduced (fx : FX P w K mg base) (hh : HH P w K mg base (k + 2) cal) (hc : cdv = .ref (He.codeOf K ("reduced", none))) (bd : Bod ⟨GG w K, TT K, cal, clsN K cnames, [], W⟩ (cxOf (L2.CX P w) P w K mg base N_reduced "reduced" (defScope (top 14)) f cdv A outer s H E) (k + 2)) : XSs ⟨GG w K, TT K, cal, clsN K cnames, [], W⟩ (cxOf (L2.CX P w) P w K mg base N_reduced "reduced" (defScope (top 14)) f cdv A outer s H E) (defBody (top 14)) m_reduced :=
  (xss_cons (xs_v bd.toBex 2 (xe_call (ps := ["one", "other"]) hh.f32.to bd.toBex.room bd.toBex.own bd.toBex.tk rfl bn32 (xa_cons (xe_v 0 rfl rfl rfl rfl rfl) (xa_cons (xe_v 1 rfl rfl rfl rfl rfl) xa_nil rfl) rfl) rfl rfl rfl) rfl rfl rfl rfl rfl)
  (xss_cons (xs_if (xt_c (c_lt bd.toBex) (xe_v 1 rfl rfl rfl rfl rfl) xe_int rfl)
  xss_never
  xss_nil)
  (xss_one (xs_ret (xe_tup (xa_cons (xe_fdiv (xe_v 0 rfl rfl rfl rfl rfl) (xe_v 2 rfl rfl rfl rfl rfl)) (xa_cons (xe_fdiv (xe_v 1 rfl rfl rfl rfl rfl) (xe_v 2 rfl rfl rfl rfl rfl)) xa_nil rfl) rfl))))))
theorem b_reduced_rows (fx : FX P w K mg base) (hh : HH P w K mg base (k + 2) cal) (hc : cdv = .ref (He.codeOf K ("reduced_rows", none))) (bd : Bod ⟨GG w K, TT K, cal, clsN K cnames, [], W⟩ (cxOf (L2.CX P w) P w K mg base N_reduced_rows "reduced_rows" (defScope (top 36)) f cdv A outer s H E) (k + 2)) : XSs ⟨GG w K, TT K, cal, clsN K cnames, [], W⟩ (cxOf (L2.CX P w) P w K mg base N_reduced_rows "reduced_rows" (defScope (top 36)) f cdv A outer s H E) (defBody (top 36)) m_reduced_rows :=
  (xss_cons (xs_asg (xe_tup (xa_cons (xe_lc (own := [("row", 9)]) true 200 bd.toBex rfl (by decide) (xi_seq (xe_v 0 rfl rfl rfl rfl rfl)) (blkOk_by (own := [("row", 9)]) (N := N_reduced_rows) (sc := (defScope (top 36))) (by decide +kernel)) (fun _ _ _ _ _ => (xgw_v (bd.toBex.blk rfl) 9 rfl rfl rfl rfl rfl)) (fun _ _ _ _ _ => xts_nil) (fun _ _ _ _ _ => (xe_lstK false rfl rfl  rfl fx.b_list (xe_v 9 rfl rfl rfl rfl rfl) rfl rfl)) (fun _ => rfl)) (xa_cons (xe_lst true xa_nil) xa_nil rfl) rfl)) (xg_tup rfl (xgs_cons (xg_v bd.toBex 2 rfl rfl rfl rfl) (xgs_cons (xg_v bd.toBex 3 rfl rfl rfl rfl) xgs_nil rfl) rfl) rfl rfl) rfl rfl rfl)
  (xss_cons (xs_for 200 bd (xi_range1 rfl fx.b_range (xa_cons (xe_v 1 rfl rfl rfl rfl rfl) xa_nil rfl) rfl) (xg_v bd.toBex 4 rfl rfl rfl rfl) (xss_cons (xs_setLc (i := 6) (own := [("index", 5)]) false 200 bd.toBex rfl (by decide) rfl rfl (sw_true rfl rfl rfl (by decide +kernel)) (xi_range2 rfl fx.b_range (xa_cons (xe_len  rfl fx.b_len (xe_v 3 rfl rfl rfl rfl rfl) rfl rfl) (xa_cons (xe_len  rfl fx.b_len (xe_v 2 rfl rfl rfl rfl rfl) rfl rfl) xa_nil rfl) rfl) rfl rfl) (blkOk_by (own := [("index", 5)]) (N := N_reduced_rows) (sc := (defScope (top 36))) (by decide +kernel)) (fun _ _ _ _ _ => (xgw_v (bd.toBex.blk rfl) 5 rfl rfl rfl rfl rfl)) (fun _ _ _ _ _ => (xts_one (xt_val (xe_ix (xe_ix (xe_ix (xe_v 2 rfl rfl rfl rfl rfl) (xe_v 5 rfl rfl rfl rfl rfl) (fun _ _ => rfl)) (xe_v 4 rfl rfl rfl rfl rfl) (fun _ _ => rfl)) xe_int (fun _ _ => rfl)) (fun _ => rfl)))) (fun _ _ _ _ _ => (xe_v 5 rfl rfl rfl rfl rfl)) (fun _ => rfl))
  (xss_one (xs_if (xt_val (xe_v 6 rfl rfl rfl rfl rfl) (fun _ => rfl))
  (xss_cons (xs_v bd.toBex 7 (xe_len  rfl fx.b_len (xe_v 3 rfl rfl rfl rfl rfl) rfl rfl) rfl rfl rfl rfl rfl)
  (xss_cons (xs_asg (xe_tup (xa_cons (xe_ix (xe_v 2 rfl rfl rfl rfl rfl) (xe_ix (xe_v 6 rfl rfl rfl rfl rfl) xe_int (fun _ _ => rfl)) (fun _ _ => rfl)) (xa_cons (xe_ix (xe_v 2 rfl rfl rfl rfl rfl) (xe_v 7 rfl rfl rfl rfl rfl) (fun _ _ => rfl)) xa_nil rfl) rfl)) (xg_tup rfl (xgs_cons (xg_setA bd.toBex rfl (xe_v 2 rfl rfl rfl rfl rfl) (xe_v 7 rfl rfl rfl rfl rfl) (fun _ => rfl)) (xgs_cons (xg_setA bd.toBex rfl (xe_v 2 rfl rfl rfl rfl rfl) (xe_ix (xe_v 6 rfl rfl rfl rfl rfl) xe_int (fun _ _ => rfl)) (fun _ => rfl)) xgs_nil rfl) rfl) rfl rfl) rfl rfl rfl)
  (xss_cons (xs_v bd.toBex 8 (xe_ix (xe_ix (xe_v 2 rfl rfl rfl rfl rfl) (xe_v 7 rfl rfl rfl rfl rfl) (fun _ _ => rfl)) (xe_v 4 rfl rfl rfl rfl rfl) (fun _ _ => rfl)) rfl rfl rfl rfl rfl)
  (xss_cons (xs_asg (xe_lc (own := [("one", 10)]) false 200 bd.toBex rfl (by decide) (xi_seq (xe_ix (xe_v 2 rfl rfl rfl rfl rfl) (xe_v 7 rfl rfl rfl rfl rfl) (fun _ _ => rfl))) (blkOk_by (own := [("one", 10)]) (N := N_reduced_rows) (sc := (defScope (top 36))) (by decide +kernel)) (fun _ _ _ _ _ => (xgw_v (bd.toBex.blk rfl) 10 rfl rfl rfl rfl rfl)) (fun _ _ _ _ _ => xts_nil) (fun _ _ _ _ _ => (xe_call (ps := ["one", "other"]) hh.f45.to (bd.toBex.blk rfl).room (bd.toBex.blk rfl).own (bd.toBex.blk rfl).tk rfl bn45 (xa_cons (xe_v 10 rfl rfl rfl rfl rfl) (xa_cons (xe_v 8 rfl rfl rfl rfl rfl) xa_nil rfl) rfl) rfl rfl rfl)) (fun _ => rfl)) (xg_setA bd.toBex rfl (xe_v 2 rfl rfl rfl rfl rfl) (xe_v 7 rfl rfl rfl rfl rfl) (fun _ => rfl)) rfl rfl rfl)
  (xss_cons (xs_for 200 bd (xi_range1 rfl fx.b_range (xa_cons (xe_len  rfl fx.b_len (xe_v 2 rfl rfl rfl rfl rfl) rfl rfl) xa_nil rfl) rfl) (xg_v bd.toBex 5 rfl rfl rfl rfl) (xss_one (xs_if (xt_w (xw_and (xt_c (c_ne bd.toBex) (xe_v 5 rfl rfl rfl rfl rfl) (xe_v 7 rfl rfl rfl rfl rfl) rfl) (xw_and1 (xt_val (xe_ix (xe_ix (xe_ix (xe_v 2 rfl rfl rfl rfl rfl) (xe_v 5 rfl rfl rfl rfl rfl) (fun _ _ => rfl)) (xe_v 4 rfl rfl rfl rfl rfl) (fun _ _ => rfl)) xe_int (fun _ _ => rfl)) (fun _ => rfl)))))
  xss_never
  xss_nil)) (fun _ => rfl))
  (xss_one (xs_expr (xe_append (xe_v 3 rfl rfl rfl rfl rfl) (xe_v 4 rfl rfl rfl rfl rfl) rfl rfl rfl rfl rfl) rfl)))))))
  xss_nil))) (fun _ => rfl))
  (xss_one (xs_ret (xe_tup (xa_cons (xe_v 2 rfl rfl rfl rfl rfl) (xa_cons (xe_v 3 rfl rfl rfl rfl rfl) xa_nil rfl) rfl))))))
theorem b_dot (fx : FX P w K mg base) (hh : HH P w K mg base (k + 2) cal) (hc : cdv = .ref (He.codeOf K ("dot", none))) (bd : Bod ⟨GG w K, TT K, cal, clsN K cnames, [], W⟩ (cxOf (L2.CX P w) P w K mg base N_dot "dot" (defScope (top 21)) f cdv A outer s H E) (k + 2)) : XSs ⟨GG w K, TT K, cal, clsN K cnames, [], W⟩ (cxOf (L2.CX P w) P w K mg base N_dot "dot" (defScope (top 21)) f cdv A outer s H E) (defBody (top 21)) m_dot :=
  (xss_one (xs_ret (xe_call (ps := ["things"]) hh.f53.to bd.toBex.room bd.toBex.own bd.toBex.tk rfl bn53 (xa_cons (xe_lc (own := [("mine", 2), ("theirs", 3)]) false 200 bd.toBex rfl (by decide) (xi_zip2 rfl fx.b_zip (xa_cons (xe_v 0 rfl rfl rfl rfl rfl) (xa_cons (xe_v 1 rfl rfl rfl rfl rfl) xa_nil rfl) rfl) rfl rfl) (blkOk_by (own := [("mine", 2), ("theirs", 3)]) (N := N_dot) (sc := (defScope (top 21))) (by decide +kernel)) (fun _ _ _ _ _ => (xgw_tup rfl (xgsw_cons (xgw_v (bd.toBex.blk rfl) 2 rfl rfl rfl rfl rfl) (xgsw_cons (xgw_v (bd.toBex.blk rfl) 3 rfl rfl rfl rfl rfl) xgsw_nil rfl) rfl) rfl rfl)) (fun _ _ _ _ _ => xts_nil) (fun _ _ _ _ _ => (xe_call (ps := ["one", "other"]) hh.f46.to (bd.toBex.blk rfl).room (bd.toBex.blk rfl).own (bd.toBex.blk rfl).tk rfl bn46 (xa_cons (xe_v 2 rfl rfl rfl rfl rfl) (xa_cons (xe_v 3 rfl rfl rfl rfl rfl) xa_nil rfl) rfl) rfl rfl rfl)) (fun _ => rfl)) xa_nil rfl) rfl rfl rfl)))
theorem b_total (fx : FX P w K mg base) (hh : HH P w K mg base (k + 2) cal) (hc : cdv = .ref (He.codeOf K ("total", none))) (bd : Bod ⟨GG w K, TT K, cal, clsN K cnames, [], W⟩ (cxOf (L2.CX P w) P w K mg base N_total "total" (defScope (top 20)) f cdv A outer s H E) (k + 2)) : XSs ⟨GG w K, TT K, cal, clsN K cnames, [], W⟩ (cxOf (L2.CX P w) P w K mg base N_total "total" (defScope (top 20)) f cdv A outer s H E) (defBody (top 20)) m_total :=
  (xss_cons (xs_v bd.toBex 1 (xe_kt (ns := [0, 1]) (a := He.ga K "NOUGHT") (y := "NOUGHT") (by rfl) fx.kg_NOUGHT fx.kt_NOUGHT rfl) rfl rfl rfl rfl rfl)
  (xss_cons (xs_for 200 bd (xi_seq (xe_v 0 rfl rfl rfl rfl rfl)) (xg_v bd.toBex 2 rfl rfl rfl rfl) (xss_one (xs_v bd.toBex 1 (xe_call (ps := ["one", "other"]) hh.f49.to bd.toBex.room bd.toBex.own bd.toBex.tk rfl bn49 (xa_cons (xe_v 1 rfl rfl rfl rfl rfl) (xa_cons (xe_v 2 rfl rfl rfl rfl rfl) xa_nil rfl) rfl) rfl rfl rfl) rfl rfl rfl rfl rfl)) (fun _ => rfl))
  (xss_one (xs_ret (xe_v 1 rfl rfl rfl rfl rfl)))))
theorem bl_1 {LL : LF} (fx : FX P w K mg base) (hh : HH P w K mg base (k + 2) cal) (hs : LL.scope = lt1.scope) (bd : Bod ⟨GG w K, TT K, cal, clsN K cnames, capSl 1 1, W⟩ (ncx (L2.CX P w) P w K mg base NL1 (nfOf LL) f A outer s H E) (k + 2)) : XE ⟨GG w K, TT K, cal, clsN K cnames, capSl 1 1, W⟩ (ncx (L2.CX P w) P w K mg base NL1 (nfOf LL) f A outer s H E) lt1.body ml_1 := by
  obtain ⟨qq, pp, bb, sc, clo, co⟩ := LL
  have hs : sc = lt1.scope := hs
  subst hs
  exact (xe_call (ps := ["planes", "land"]) hh.f1.to bd.toBex.room bd.toBex.own bd.toBex.tk rfl bn1 (xa_cons (xe_vB 1 rfl rfl rfl rfl rfl) (xa_cons (xe_v 0 rfl rfl rfl rfl rfl) xa_nil rfl) rfl) rfl rfl rfl)
theorem bl_2 {LL : LF} (fx : FX P w K mg base) (hh : HH P w K mg base (k + 2) cal) (hs : LL.scope = lt2.scope) (bd : Bod ⟨GG w K, TT K, cal, clsN K cnames, capSl 1 1, W⟩ (ncx (L2.CX P w) P w K mg base NL2 (nfOf LL) f A outer s H E) (k + 2)) : XE ⟨GG w K, TT K, cal, clsN K cnames, capSl 1 1, W⟩ (ncx (L2.CX P w) P w K mg base NL2 (nfOf LL) f A outer s H E) lt2.body ml_2 := by
  obtain ⟨qq, pp, bb, sc, clo, co⟩ := LL
  have hs : sc = lt2.scope := hs
  subst hs
  exact (xe_call (ps := ["planes", "land"]) hh.f2.to bd.toBex.room bd.toBex.own bd.toBex.tk rfl bn2 (xa_cons (xe_vB 1 rfl rfl rfl rfl rfl) (xa_cons (xe_v 0 rfl rfl rfl rfl rfl) xa_nil rfl) rfl) rfl rfl rfl)
theorem bl_3 {LL : LF} (fx : FX P w K mg base) (hh : HH P w K mg base (k + 2) cal) (hs : LL.scope = lt3.scope) (bd : Bod ⟨GG w K, TT K, cal, clsN K cnames, capSl 1 1, W⟩ (ncx (L2.CX P w) P w K mg base NL3 (nfOf LL) f A outer s H E) (k + 2)) : XE ⟨GG w K, TT K, cal, clsN K cnames, capSl 1 1, W⟩ (ncx (L2.CX P w) P w K mg base NL3 (nfOf LL) f A outer s H E) lt3.body ml_3 := by
  obtain ⟨qq, pp, bb, sc, clo, co⟩ := LL
  have hs : sc = lt3.scope := hs
  subst hs
  exact (xe_call (ps := ["planes", "land"]) hh.f3.to bd.toBex.room bd.toBex.own bd.toBex.tk rfl bn3 (xa_cons (xe_vB 1 rfl rfl rfl rfl rfl) (xa_cons (xe_v 0 rfl rfl rfl rfl rfl) xa_nil rfl) rfl) rfl rfl rfl)
theorem bl_4 {LL : LF} (fx : FX P w K mg base) (hh : HH P w K mg base (k + 2) cal) (hs : LL.scope = lt4.scope) (bd : Bod ⟨GG w K, TT K, cal, clsN K cnames, capSl 1 1, W⟩ (ncx (L2.CX P w) P w K mg base NL4 (nfOf LL) f A outer s H E) (k + 2)) : XE ⟨GG w K, TT K, cal, clsN K cnames, capSl 1 1, W⟩ (ncx (L2.CX P w) P w K mg base NL4 (nfOf LL) f A outer s H E) lt4.body ml_4 := by
  obtain ⟨qq, pp, bb, sc, clo, co⟩ := LL
  have hs : sc = lt4.scope := hs
  subst hs
  exact (xe_call (ps := ["planes", "land"]) hh.f4.to bd.toBex.room bd.toBex.own bd.toBex.tk rfl bn4 (xa_cons (xe_vB 1 rfl rfl rfl rfl rfl) (xa_cons (xe_v 0 rfl rfl rfl rfl rfl) xa_nil rfl) rfl) rfl rfl rfl)
theorem bl_5 {LL : LF} (fx : FX P w K mg base) (hh : HH P w K mg base (k + 2) cal) (hs : LL.scope = lt5.scope) (bd : Bod ⟨GG w K, TT K, cal, clsN K cnames, capSl 1 1, W⟩ (ncx (L2.CX P w) P w K mg base NL5 (nfOf LL) f A outer s H E) (k + 2)) : XE ⟨GG w K, TT K, cal, clsN K cnames, capSl 1 1, W⟩ (ncx (L2.CX P w) P w K mg base NL5 (nfOf LL) f A outer s H E) lt5.body ml_5 := by
  obtain ⟨qq, pp, bb, sc, clo, co⟩ := LL
  have hs : sc = lt5.scope := hs
  subst hs
  exact (xe_call (ps := ["many", "count"]) hh.f7.to bd.toBex.room bd.toBex.own bd.toBex.tk rfl bn7 (xa_cons (xe_vB 1 rfl rfl rfl rfl rfl) (xa_cons (xe_v 0 rfl rfl rfl rfl rfl) xa_nil rfl) rfl) rfl rfl rfl)
theorem bl_6 {LL : LF} (fx : FX P w K mg base) (hh : HH P w K mg base (k + 2) cal) (hs : LL.scope = lt6.scope) (bd : Bod ⟨GG w K, TT K, cal, clsN K cnames, capSl 1 1, W⟩ (ncx (L2.CX P w) P w K mg base NL6 (nfOf LL) f A outer s H E) (k + 2)) : XE ⟨GG w K, TT K, cal, clsN K cnames, capSl 1 1, W⟩ (ncx (L2.CX P w) P w K mg base NL6 (nfOf LL) f A outer s H E) lt6.body ml_6 := by
  obtain ⟨qq, pp, bb, sc, clo, co⟩ := LL
  have hs : sc = lt6.scope := hs
  subst hs
  exact (xe_call (ps := ["many", "count"]) hh.f8.to bd.toBex.room bd.toBex.own bd.toBex.tk rfl bn8 (xa_cons (xe_vB 1 rfl rfl rfl rfl rfl) (xa_cons (xe_v 0 rfl rfl rfl rfl rfl) xa_nil rfl) rfl) rfl rfl rfl)
theorem bl_7 {LL : LF} (fx : FX P w K mg base) (hh : HH P w K mg base (k + 2) cal) (hs : LL.scope = lt7.scope) (bd : Bod ⟨GG w K, TT K, cal, clsN K cnames, capSl 1 1, W⟩ (ncx (L2.CX P w) P w K mg base NL7 (nfOf LL) f A outer s H E) (k + 2)) : XE ⟨GG w K, TT K, cal, clsN K cnames, capSl 1 1, W⟩ (ncx (L2.CX P w) P w K mg base NL7 (nfOf LL) f A outer s H E) lt7.body ml_7 := by
  obtain ⟨qq, pp, bb, sc, clo, co⟩ := LL
  have hs : sc = lt7.scope := hs
  subst hs
  exact (xe_call (ps := ["many", "count"]) hh.f9.to bd.toBex.room bd.toBex.own bd.toBex.tk rfl bn9 (xa_cons (xe_vB 1 rfl rfl rfl rfl rfl) (xa_cons (xe_v 0 rfl rfl rfl rfl rfl) xa_nil rfl) rfl) rfl rfl rfl)
theorem bl_8 {LL : LF} (fx : FX P w K mg base) (hh : HH P w K mg base (k + 2) cal) (hs : LL.scope = lt8.scope) (bd : Bod ⟨GG w K, TT K, cal, clsN K cnames, capSl 1 0, W⟩ (ncx (L2.CX P w) P w K mg base NL8 (nfOf LL) f A outer s H E) (k + 2)) : XE ⟨GG w K, TT K, cal, clsN K cnames, capSl 1 0, W⟩ (ncx (L2.CX P w) P w K mg base NL8 (nfOf LL) f A outer s H E) lt8.body ml_8 := by
  obtain ⟨qq, pp, bb, sc, clo, co⟩ := LL
  have hs : sc = lt8.scope := hs
  subst hs
  exact (xe_call (ps := ["many", "planes"]) hh.f10.to bd.toBex.room bd.toBex.own bd.toBex.tk rfl bn10 (xa_cons xe_int (xa_cons (xe_v 0 rfl rfl rfl rfl rfl) xa_nil rfl) rfl) rfl rfl rfl)
theorem bl_9 {LL : LF} (fx : FX P w K mg base) (hh : HH P w K mg base (k + 2) cal) (hs : LL.scope = lt9.scope) (bd : Bod ⟨GG w K, TT K, cal, clsN K cnames, capSl 1 0, W⟩ (ncx (L2.CX P w) P w K mg base NL9 (nfOf LL) f A outer s H E) (k + 2)) : XE ⟨GG w K, TT K, cal, clsN K cnames, capSl 1 0, W⟩ (ncx (L2.CX P w) P w K mg base NL9 (nfOf LL) f A outer s H E) lt9.body ml_9 := by
  obtain ⟨qq, pp, bb, sc, clo, co⟩ := LL
  have hs : sc = lt9.scope := hs
  subst hs
  exact (xe_call (ps := ["many", "planes"]) hh.f11.to bd.toBex.room bd.toBex.own bd.toBex.tk rfl bn11 (xa_cons xe_int (xa_cons (xe_v 0 rfl rfl rfl rfl rfl) xa_nil rfl) rfl) rfl rfl rfl)
theorem bl_10 {LL : LF} (fx : FX P w K mg base) (hh : HH P w K mg base (k + 2) cal) (hs : LL.scope = lt10.scope) (bd : Bod ⟨GG w K, TT K, cal, clsN K cnames, capSl 1 0, W⟩ (ncx (L2.CX P w) P w K mg base NL10 (nfOf LL) f A outer s H E) (k + 2)) : XE ⟨GG w K, TT K, cal, clsN K cnames, capSl 1 0, W⟩ (ncx (L2.CX P w) P w K mg base NL10 (nfOf LL) f A outer s H E) lt10.body ml_10 := by
  obtain ⟨qq, pp, bb, sc, clo, co⟩ := LL
  have hs : sc = lt10.scope := hs
  subst hs
  exact (xe_call (ps := ["planes", "land"]) hh.f1.to bd.toBex.room bd.toBex.own bd.toBex.tk rfl bn1 (xa_cons (xe_v 0 rfl rfl rfl rfl rfl) (xa_cons xe_non xa_nil rfl) rfl) rfl rfl rfl)
theorem bl_11 {LL : LF} (fx : FX P w K mg base) (hh : HH P w K mg base (k + 2) cal) (hs : LL.scope = lt11.scope) (bd : Bod ⟨GG w K, TT K, cal, clsN K cnames, capSl 1 0, W⟩ (ncx (L2.CX P w) P w K mg base NL11 (nfOf LL) f A outer s H E) (k + 2)) : XE ⟨GG w K, TT K, cal, clsN K cnames, capSl 1 0, W⟩ (ncx (L2.CX P w) P w K mg base NL11 (nfOf LL) f A outer s H E) lt11.body ml_11 := by
  obtain ⟨qq, pp, bb, sc, clo, co⟩ := LL
  have hs : sc = lt11.scope := hs
  subst hs
  exact (xe_call (ps := ["planes", "land"]) hh.f2.to bd.toBex.room bd.toBex.own bd.toBex.tk rfl bn2 (xa_cons (xe_v 0 rfl rfl rfl rfl rfl) (xa_cons xe_non xa_nil rfl) rfl) rfl rfl rfl)
theorem bl_12 {LL : LF} (fx : FX P w K mg base) (hh : HH P w K mg base (k + 2) cal) (hs : LL.scope = lt12.scope) (bd : Bod ⟨GG w K, TT K, cal, clsN K cnames, capSl 1 0, W⟩ (ncx (L2.CX P w) P w K mg base NL12 (nfOf LL) f A outer s H E) (k + 2)) : XE ⟨GG w K, TT K, cal, clsN K cnames, capSl 1 0, W⟩ (ncx (L2.CX P w) P w K mg base NL12 (nfOf LL) f A outer s H E) lt12.body ml_12 := by
  obtain ⟨qq, pp, bb, sc, clo, co⟩ := LL
  have hs : sc = lt12.scope := hs
  subst hs
  exact (xe_callK0 (ps := ["planes", "land"]) (ks := ["land", "planes"]) hh.f3.to bd.toBex.room bd.toBex.own bd.toBex.tk rfl bk1 (xk_cons xe_non (xk_cons (xe_v 0 rfl rfl rfl rfl rfl) xk_nil)) rfl rfl rfl rfl)
theorem bl_13 {LL : LF} (fx : FX P w K mg base) (hh : HH P w K mg base (k + 2) cal) (hs : LL.scope = lt13.scope) (bd : Bod ⟨GG w K, TT K, cal, clsN K cnames, capSl 1 0, W⟩ (ncx (L2.CX P w) P w K mg base NL13 (nfOf LL) f A outer s H E) (k + 2)) : XE ⟨GG w K, TT K, cal, clsN K cnames, capSl 1 0, W⟩ (ncx (L2.CX P w) P w K mg base NL13 (nfOf LL) f A outer s H E) lt13.body ml_13 := by
  obtain ⟨qq, pp, bb, sc, clo, co⟩ := LL
  have hs : sc = lt13.scope := hs
  subst hs
  exact (xe_call (ps := ["planes", "land"]) hh.f4.to bd.toBex.room bd.toBex.own bd.toBex.tk rfl bn4 (xa_cons (xe_v 0 rfl rfl rfl rfl rfl) (xa_cons xe_non xa_nil rfl) rfl) rfl rfl rfl)
theorem bl_14 {LL : LF} (fx : FX P w K mg base) (hh : HH P w K mg base (k + 2) cal) (hs : LL.scope = lt14.scope) (bd : Bod ⟨GG w K, TT K, cal, clsN K cnames, capSl 1 0, W⟩ (ncx (L2.CX P w) P w K mg base NL14 (nfOf LL) f A outer s H E) (k + 2)) : XE ⟨GG w K, TT K, cal, clsN K cnames, capSl 1 0, W⟩ (ncx (L2.CX P w) P w K mg base NL14 (nfOf LL) f A outer s H E) lt14.body ml_14 := by
  obtain ⟨qq, pp, bb, sc, clo, co⟩ := LL
  have hs : sc = lt14.scope := hs
  subst hs
  exact (xe_call (ps := ["many", "planes"]) hh.f10.to bd.toBex.room bd.toBex.own bd.toBex.tk rfl bn10 (xa_cons (xe_v 0 rfl rfl rfl rfl rfl) (xa_cons xe_non xa_nil rfl) rfl) rfl rfl rfl)
theorem bl_15 {LL : LF} (fx : FX P w K mg base) (hh : HH P w K mg base (k + 2) cal) (hs : LL.scope = lt15.scope) (bd : Bod ⟨GG w K, TT K, cal, clsN K cnames, capSl 1 0, W⟩ (ncx (L2.CX P w) P w K mg base NL15 (nfOf LL) f A outer s H E) (k + 2)) : XE ⟨GG w K, TT K, cal, clsN K cnames, capSl 1 0, W⟩ (ncx (L2.CX P w) P w K mg base NL15 (nfOf LL) f A outer s H E) lt15.body ml_15 := by
  obtain ⟨qq, pp, bb, sc, clo, co⟩ := LL
  have hs : sc = lt15.scope := hs
  subst hs
  exact (xe_call (ps := ["many", "count"]) hh.f7.to bd.toBex.room bd.toBex.own bd.toBex.tk rfl bn7 (xa_cons (xe_v 0 rfl rfl rfl rfl rfl) (xa_cons xe_non xa_nil rfl) rfl) rfl rfl rfl)
theorem bl_16 {LL : LF} (fx : FX P w K mg base) (hh : HH P w K mg base (k + 2) cal) (hs : LL.scope = lt16.scope) (bd : Bod ⟨GG w K, TT K, cal, clsN K cnames, capSl 1 0, W⟩ (ncx (L2.CX P w) P w K mg base NL16 (nfOf LL) f A outer s H E) (k + 2)) : XE ⟨GG w K, TT K, cal, clsN K cnames, capSl 1 0, W⟩ (ncx (L2.CX P w) P w K mg base NL16 (nfOf LL) f A outer s H E) lt16.body ml_16 := by
  obtain ⟨qq, pp, bb, sc, clo, co⟩ := LL
  have hs : sc = lt16.scope := hs
  subst hs
  exact (xe_call (ps := ["many", "count"]) hh.f8.to bd.toBex.room bd.toBex.own bd.toBex.tk rfl bn8 (xa_cons (xe_v 0 rfl rfl rfl rfl rfl) (xa_cons xe_non xa_nil rfl) rfl) rfl rfl rfl)
theorem bl_17 {LL : LF} (fx : FX P w K mg base) (hh : HH P w K mg base (k + 2) cal) (hs : LL.scope = lt17.scope) (bd : Bod ⟨GG w K, TT K, cal, clsN K cnames, capSl 1 0, W⟩ (ncx (L2.CX P w) P w K mg base NL17 (nfOf LL) f A outer s H E) (k + 2)) : XE ⟨GG w K, TT K, cal, clsN K cnames, capSl 1 0, W⟩ (ncx (L2.CX P w) P w K mg base NL17 (nfOf LL) f A outer s H E) lt17.body ml_17 := by
  obtain ⟨qq, pp, bb, sc, clo, co⟩ := LL
  have hs : sc = lt17.scope := hs
  subst hs
  exact (xe_callK0 (ps := ["many", "count"]) (ks := ["count", "many"]) hh.f9.to bd.toBex.room bd.toBex.own bd.toBex.tk rfl bk2 (xk_cons xe_non (xk_cons (xe_v 0 rfl rfl rfl rfl rfl) xk_nil)) rfl rfl rfl rfl)
theorem bl_18 {LL : LF} (fx : FX P w K mg base) (hh : HH P w K mg base (k + 2) cal) (hs : LL.scope = lt18.scope) (bd : Bod ⟨GG w K, TT K, cal, clsN K cnames, capSl 1 0, W⟩ (ncx (L2.CX P w) P w K mg base NL18 (nfOf LL) f A outer s H E) (k + 2)) : XE ⟨GG w K, TT K, cal, clsN K cnames, capSl 1 0, W⟩ (ncx (L2.CX P w) P w K mg base NL18 (nfOf LL) f A outer s H E) lt18.body ml_18 := by
  obtain ⟨qq, pp, bb, sc, clo, co⟩ := LL
  have hs : sc = lt18.scope := hs
  subst hs
  exact (xe_call (ps := ["many", "planes"]) hh.f11.to bd.toBex.room bd.toBex.own bd.toBex.tk rfl bn11 (xa_cons (xe_v 0 rfl rfl rfl rfl rfl) (xa_cons xe_non xa_nil rfl) rfl) rfl rfl rfl)
theorem bl_19 {LL : LF} (fx : FX P w K mg base) (hh : HH P w K mg base (k + 2) cal) (hs : LL.scope = lt19.scope) (bd : Bod ⟨GG w K, TT K, cal, clsN K cnames, capSl 0 2, W⟩ (ncx (L2.CX P w) P w K mg base NL19 (nfOf LL) f A outer s H E) (k + 2)) : XE ⟨GG w K, TT K, cal, clsN K cnames, capSl 0 2, W⟩ (ncx (L2.CX P w) P w K mg base NL19 (nfOf LL) f A outer s H E) lt19.body ml_19 := by
  obtain ⟨qq, pp, bb, sc, clo, co⟩ := LL
  have hs : sc = lt19.scope := hs
  subst hs
  exact (xe_callV hh.lp.to bd.toBex.room bd.toBex.own bd.toBex.tk (xe_vB 0 rfl rfl rfl rfl rfl) (xa_cons (xe_vB 1 rfl rfl rfl rfl rfl) xa_nil rfl) rfl rfl)
theorem bl_20 {LL : LF} (fx : FX P w K mg base) (hh : HH P w K mg base (k + 2) cal) (hs : LL.scope = lt20.scope) (bd : Bod ⟨GG w K, TT K, cal, clsN K cnames, capSl 0 2, W⟩ (ncx (L2.CX P w) P w K mg base NL20 (nfOf LL) f A outer s H E) (k + 2)) : XE ⟨GG w K, TT K, cal, clsN K cnames, capSl 0 2, W⟩ (ncx (L2.CX P w) P w K mg base NL20 (nfOf LL) f A outer s H E) lt20.body ml_20 := by
  obtain ⟨qq, pp, bb, sc, clo, co⟩ := LL
  have hs : sc = lt20.scope := hs
  subst hs
  exact (xe_callV hh.lp.to bd.toBex.room bd.toBex.own bd.toBex.tk (xe_vB 0 rfl rfl rfl rfl rfl) (xa_cons (xe_vB 1 rfl rfl rfl rfl rfl) xa_nil rfl) rfl rfl)
theorem bl_21 {LL : LF} (fx : FX P w K mg base) (hh : HH P w K mg base (k + 2) cal) (hs : LL.scope = lt21.scope) (bd : Bod ⟨GG w K, TT K, cal, clsN K cnames, capSl 0 2, W⟩ (ncx (L2.CX P w) P w K mg base NL21 (nfOf LL) f A outer s H E) (k + 2)) : XE ⟨GG w K, TT K, cal, clsN K cnames, capSl 0 2, W⟩ (ncx (L2.CX P w) P w K mg base NL21 (nfOf LL) f A outer s H E) lt21.body ml_21 := by
  obtain ⟨qq, pp, bb, sc, clo, co⟩ := LL
  have hs : sc = lt21.scope := hs
  subst hs
  exact (xe_callV hh.lp.to bd.toBex.room bd.toBex.own bd.toBex.tk (xe_vB 0 rfl rfl rfl rfl rfl) (xa_cons (xe_vB 1 rfl rfl rfl rfl rfl) xa_nil rfl) rfl rfl)
theorem tx_1 : LamTxt lt1 NL1 ["odd"] 0 := ⟨nscope_by (by decide +kernel), rfl, fun F pm ctv us e hl => by
  obtain ⟨qq, pp, bb, sc, clo, co⟩ := F
  have e : pp = lt1.params := e
  subst e
  exact match us, hl with | [a0], _ => rfl⟩
theorem tx_2 : LamTxt lt2 NL2 ["odd"] 0 := ⟨nscope_by (by decide +kernel), rfl, fun F pm ctv us e hl => by
  obtain ⟨qq, pp, bb, sc, clo, co⟩ := F
  have e : pp = lt2.params := e
  subst e
  exact match us, hl with | [a0], _ => rfl⟩
theorem tx_3 : LamTxt lt3 NL3 ["odd"] 0 := ⟨nscope_by (by decide +kernel), rfl, fun F pm ctv us e hl => by
  obtain ⟨qq, pp, bb, sc, clo, co⟩ := F
  have e : pp = lt3.params := e
  subst e
  exact match us, hl with | [a0], _ => rfl⟩
theorem tx_4 : LamTxt lt4 NL4 ["odd"] 0 := ⟨nscope_by (by decide +kernel), rfl, fun F pm ctv us e hl => by
  obtain ⟨qq, pp, bb, sc, clo, co⟩ := F
  have e : pp = lt4.params := e
  subst e
  exact match us, hl with | [a0], _ => rfl⟩
theorem tx_5 : LamTxt lt5 NL5 ["odd"] 0 := ⟨nscope_by (by decide +kernel), rfl, fun F pm ctv us e hl => by
  obtain ⟨qq, pp, bb, sc, clo, co⟩ := F
  have e : pp = lt5.params := e
  subst e
  exact match us, hl with | [a0], _ => rfl⟩
theorem tx_6 : LamTxt lt6 NL6 ["odd"] 0 := ⟨nscope_by (by decide +kernel), rfl, fun F pm ctv us e hl => by
  obtain ⟨qq, pp, bb, sc, clo, co⟩ := F
  have e : pp = lt6.params := e
  subst e
  exact match us, hl with | [a0], _ => rfl⟩
theorem tx_7 : LamTxt lt7 NL7 ["odd"] 0 := ⟨nscope_by (by decide +kernel), rfl, fun F pm ctv us e hl => by
  obtain ⟨qq, pp, bb, sc, clo, co⟩ := F
  have e : pp = lt7.params := e
  subst e
  exact match us, hl with | [a0], _ => rfl⟩
theorem tx_8 : LamTxt lt8 NL8 ["odd"] 0 := ⟨nscope_by (by decide +kernel), rfl, fun F pm ctv us e hl => by
  obtain ⟨qq, pp, bb, sc, clo, co⟩ := F
  have e : pp = lt8.params := e
  subst e
  exact match us, hl with | [a0], _ => rfl⟩
theorem tx_9 : LamTxt lt9 NL9 ["odd"] 0 := ⟨nscope_by (by decide +kernel), rfl, fun F pm ctv us e hl => by
  obtain ⟨qq, pp, bb, sc, clo, co⟩ := F
  have e : pp = lt9.params := e
  subst e
  exact match us, hl with | [a0], _ => rfl⟩
theorem tx_10 : LamTxt lt10 NL10 ["odd"] 0 := ⟨nscope_by (by decide +kernel), rfl, fun F pm ctv us e hl => by
  obtain ⟨qq, pp, bb, sc, clo, co⟩ := F
  have e : pp = lt10.params := e
  subst e
  exact match us, hl with | [a0], _ => rfl⟩
theorem tx_11 : LamTxt lt11 NL11 ["odd"] 0 := ⟨nscope_by (by decide +kernel), rfl, fun F pm ctv us e hl => by
  obtain ⟨qq, pp, bb, sc, clo, co⟩ := F
  have e : pp = lt11.params := e
  subst e
  exact match us, hl with | [a0], _ => rfl⟩
theorem tx_12 : LamTxt lt12 NL12 ["odd"] 0 := ⟨nscope_by (by decide +kernel), rfl, fun F pm ctv us e hl => by
  obtain ⟨qq, pp, bb, sc, clo, co⟩ := F
  have e : pp = lt12.params := e
  subst e
  exact match us, hl with | [a0], _ => rfl⟩
theorem tx_13 : LamTxt lt13 NL13 ["odd"] 0 := ⟨nscope_by (by decide +kernel), rfl, fun F pm ctv us e hl => by
  obtain ⟨qq, pp, bb, sc, clo, co⟩ := F
  have e : pp = lt13.params := e
  subst e
  exact match us, hl with | [a0], _ => rfl⟩
theorem tx_14 : LamTxt lt14 NL14 ["odd"] 0 := ⟨nscope_by (by decide +kernel), rfl, fun F pm ctv us e hl => by
  obtain ⟨qq, pp, bb, sc, clo, co⟩ := F
  have e : pp = lt14.params := e
  subst e
  exact match us, hl with | [a0], _ => rfl⟩
theorem tx_15 : LamTxt lt15 NL15 ["odd"] 0 := ⟨nscope_by (by decide +kernel), rfl, fun F pm ctv us e hl => by
  obtain ⟨qq, pp, bb, sc, clo, co⟩ := F
  have e : pp = lt15.params := e
  subst e
  exact match us, hl with | [a0], _ => rfl⟩
theorem tx_16 : LamTxt lt16 NL16 ["odd"] 0 := ⟨nscope_by (by decide +kernel), rfl, fun F pm ctv us e hl => by
  obtain ⟨qq, pp, bb, sc, clo, co⟩ := F
  have e : pp = lt16.params := e
  subst e
  exact match us, hl with | [a0], _ => rfl⟩
theorem tx_17 : LamTxt lt17 NL17 ["odd"] 0 := ⟨nscope_by (by decide +kernel), rfl, fun F pm ctv us e hl => by
  obtain ⟨qq, pp, bb, sc, clo, co⟩ := F
  have e : pp = lt17.params := e
  subst e
  exact match us, hl with | [a0], _ => rfl⟩
theorem tx_18 : LamTxt lt18 NL18 ["odd"] 0 := ⟨nscope_by (by decide +kernel), rfl, fun F pm ctv us e hl => by
  obtain ⟨qq, pp, bb, sc, clo, co⟩ := F
  have e : pp = lt18.params := e
  subst e
  exact match us, hl with | [a0], _ => rfl⟩
theorem tx_19 : LamTxt lt19 NL19 [] 0 := ⟨nscope_by (by decide +kernel), rfl, fun F pm ctv us e hl => by
  obtain ⟨qq, pp, bb, sc, clo, co⟩ := F
  have e : pp = lt19.params := e
  subst e
  exact match us, hl with | [], _ => rfl⟩
theorem tx_20 : LamTxt lt20 NL20 [] 0 := ⟨nscope_by (by decide +kernel), rfl, fun F pm ctv us e hl => by
  obtain ⟨qq, pp, bb, sc, clo, co⟩ := F
  have e : pp = lt20.params := e
  subst e
  exact match us, hl with | [], _ => rfl⟩
theorem tx_21 : LamTxt lt21 NL21 [] 0 := ⟨nscope_by (by decide +kernel), rfl, fun F pm ctv us e hl => by
  obtain ⟨qq, pp, bb, sc, clo, co⟩ := F
  have e : pp = lt21.params := e
  subst e
  exact match us, hl with | [], _ => rfl⟩
theorem w_draw (fx : FX P w K mg base) {k2 : Nat} (hr : Room k2 (A.deeper (envOfC "_law_draw" (defScope (top 99)) s.heap.objs.size f cdv))) : PSs (cxOf (L2.CX P w) P w K mg base drN "_law_draw" (defScope (top 99)) f cdv A outer s H E) (defBody (top 99)) (t_draw K) := by
  have hu : ((cxOf (L2.CX P w) P w K mg base drN "_law_draw" (defScope (top 99)) f cdv A outer s H E)).A.units + 64 < cLine := by have := hr.un; show (A.deeper (envOfC "_law_draw" (defScope (top 99)) s.heap.objs.size f cdv)).units + 64 < cLine; omega
  exact pss_cons (ps_asg (pe_op op_add (pe_ix ix_list (pe_var (i := 0) rfl (vis_b rfl) rfl rfl) pe_int (fun _ _ => rfl)) pe_int) (pg_sub (pe_var (i := 0) rfl (vis_b rfl) rfl rfl) pe_int set_list (fun _ => rfl)) rfl rfl rfl)
    (pss_cons (ps_while (passes_of rfl) (PW.pt (pw_and (pt_cmpR op_eq (pe_ix ix_list (pe_var (i := 0) rfl (vis_b rfl) rfl rfl) pe_int (fun _ _ => rfl)) pe_int rfl) (pw_and1 (pt_cmpR (op_neD hu) (pe_ix ix_list (pe_var (i := 0) rfl (vis_b rfl) rfl rfl) pe_int (fun _ _ => rfl)) (pe_lst pa_nil) rfl)))) (pss_cons (ps_set (i := 2) (show drN.Nodup by decide) rfl (loc_b rfl) (pe_callB call_abs rfl fx.b_abs PyProof.Rows.boot_abs (pa_cons (pe_bm PySem.F.plainAttrs_list PySem.F.slot_list_pop PySem.F.type_list_pop mt_popAt (pe_ix ix_list (pe_var (i := 0) rfl (vis_b rfl) rfl rfl) pe_int (fun _ _ => rfl)) (pa_cons pe_int pa_nil rfl) rfl rfl rfl rfl rfl) pa_nil rfl) (by decide) rfl rfl rfl) rfl (.inl rfl)) (pss_cons (ps_asg (pe_op op_modN (pe_callTy call_int1 rfl fx.b_int PyProof.Rows.boot_int (pa_cons (pe_op op_add (pe_op op_add (pe_op op_mul (pe_ix ix_list (pe_var (i := 0) rfl (vis_b rfl) rfl rfl) pe_int (fun _ _ => rfl)) pe_int) (pe_var (i := 2) rfl (vis_b rfl) rfl rfl)) pe_int) pa_nil rfl) (by decide) rfl rfl rfl) pe_int) (pg_sub (pe_var (i := 0) rfl (vis_b rfl) rfl rfl) pe_int set_list (fun _ => rfl)) rfl rfl rfl) (pss_one (ps_asg (pe_ifExp (pt_cmpR op_ge (pe_var (i := 2) rfl (vis_b rfl) rfl rfl) (pe_op op_pow pe_int pe_int) rfl) (pe_var (i := 2) rfl (vis_b rfl) rfl rfl) pe_int) (pg_sub (pe_var (i := 0) rfl (vis_b rfl) rfl rfl) pe_int set_list (fun _ => rfl)) rfl rfl rfl)))))
    (pss_cons (ps_if (pt_cmpR op_gt (pe_ix ix_list (pe_var (i := 0) rfl (vis_b rfl) rfl rfl) pe_int (fun _ _ => rfl)) pe_int rfl) (pss_cons (ps_set (i := 3) (show drN.Nodup by decide) rfl (loc_b rfl) (pe_op op_modN (pe_callTy call_int1 rfl fx.b_int PyProof.Rows.boot_int (pa_cons (pe_ix ix_list (pe_var (i := 0) rfl (vis_b rfl) rfl rfl) pe_int (fun _ _ => rfl)) pa_nil rfl) (by decide) rfl rfl rfl) (pe_var (i := 1) rfl (vis_b rfl) rfl rfl)) rfl (.inl rfl)) (pss_cons (ps_asg (pe_op op_fdivN (pe_ix ix_list (pe_var (i := 0) rfl (vis_b rfl) rfl rfl) pe_int (fun _ _ => rfl)) (pe_var (i := 1) rfl (vis_b rfl) rfl rfl)) (pg_sub (pe_var (i := 0) rfl (vis_b rfl) rfl rfl) pe_int set_list (fun _ => rfl)) rfl rfl rfl) (pss_one (ps_ret (pe_var (i := 3) rfl (vis_b rfl) rfl rfl))))) pss_nil)
    (pss_cons (ps_set (i := 4) (show drN.Nodup by decide) rfl (loc_b rfl) (pe_op op_modN (pe_callTy call_int1 rfl fx.b_int PyProof.Rows.boot_int (pa_cons (pe_op op_pow (pe_op op_add (pe_op op_add (pe_ix ix_list (pe_var (i := 0) rfl (vis_b rfl) rfl rfl) pe_int (fun _ _ => rfl)) (pe_op op_mul pe_int (pe_ix ix_list (pe_var (i := 0) rfl (vis_b rfl) rfl rfl) pe_int (fun _ _ => rfl)))) pe_int) pe_int) pa_nil rfl) (by decide) rfl rfl rfl) pe_int) rfl (.inl rfl))
    (pss_one (ps_ret (pe_op op_modN (pe_op op_modN (pe_callTy call_int1 rfl fx.b_int PyProof.Rows.boot_int (pa_cons (pe_op op_pow (pe_op op_add (pe_op op_add (pe_op op_mul (pe_var (i := 4) rfl (vis_b rfl) rfl rfl) pe_int) (pe_op op_mul pe_int (pe_ix ix_list (pe_var (i := 0) rfl (vis_b rfl) rfl rfl) pe_int (fun _ _ => rfl)))) pe_int) pe_int) pa_nil rfl) (by decide) rfl rfl rfl) pe_int) (pe_var (i := 1) rfl (vis_b rfl) rfl rfl)))))))
theorem HH.zero (fx : FX P w K mg base) : HH P w K mg base (0 + 2) c0 where
  f1 := by obtain ⟨fd, F⟩ := fx.d_corners_in_turn; exact cal_bot F fx.g_corners_in_turn
  f2 := by obtain ⟨fd, F⟩ := fx.d_area; exact cal_bot F fx.g_area
  f3 := by obtain ⟨fd, F⟩ := fx.d_middle; exact cal_bot F fx.g_middle
  f4 := by obtain ⟨fd, F⟩ := fx.d_neighbours_in_turn; exact cal_bot F fx.g_neighbours_in_turn
  f5 := by obtain ⟨fd, F⟩ := fx.d__law_all_refused; exact cal_bot F fx.g__law_all_refused
  f6 := by obtain ⟨fd, F⟩ := fx.d__law_draw; exact cal_bot F fx.g__law_draw
  f7 := by obtain ⟨fd, F⟩ := fx.d_most_lands; exact cal_bot F fx.g_most_lands
  f8 := by obtain ⟨fd, F⟩ := fx.d_most_bounded; exact cal_bot F fx.g_most_bounded
  f9 := by obtain ⟨fd, F⟩ := fx.d_most_corners; exact cal_bot F fx.g_most_corners
  f10 := by obtain ⟨fd, F⟩ := fx.d_general_or_lot; exact cal_bot F fx.g_general_or_lot
  f11 := by obtain ⟨fd, F⟩ := fx.d_lands_lacking; exact cal_bot F fx.g_lands_lacking
  f12 := by obtain ⟨fd, F⟩ := fx.d__law_planes_refused; exact cal_bot F fx.g__law_planes_refused
  f13 := by obtain ⟨fd, F⟩ := fx.d_need_boxed; exact cal_bot F fx.g_need_boxed
  f14 := by obtain ⟨fd, F⟩ := fx.d__law_same; exact cal_bot F fx.g__law_same
  f15 := by obtain ⟨fd, F⟩ := fx.d__law_met; exact cal_bot F fx.g__law_met
  f16 := by obtain ⟨fd, F⟩ := fx.d__law_is_very; exact cal_bot F fx.g__law_is_very
  f17 := by obtain ⟨fd, F⟩ := fx.d_check_count; exact cal_bot F fx.g_check_count
  f18 := by obtain ⟨fd, F⟩ := fx.d_need_planes; exact cal_bot F fx.g_need_planes
  f19 := by obtain ⟨fd, F⟩ := fx.d__law_odd_planes; exact cal_bot F fx.g__law_odd_planes
  f20 := by obtain ⟨fd, F⟩ := fx.d_need_land; exact cal_bot F fx.g_need_land
  f21 := by obtain ⟨fd, F⟩ := fx.d_check_many; exact cal_bot F fx.g_check_many
  f22 := by obtain ⟨fd, F⟩ := fx.d_is_number; exact cal_bot F fx.g_is_number
  f23 := by obtain ⟨fd, F⟩ := fx.d_planes_fault; exact cal_bot F fx.g_planes_fault
  f24 := by obtain ⟨fd, F⟩ := fx.d_kept_plane; exact cal_bot F fx.g_kept_plane
  f25 := by obtain ⟨fd, F⟩ := fx.d_kept_land; exact cal_bot F fx.g_kept_land
  f26 := by obtain ⟨fd, F⟩ := fx.d_is_whole; exact cal_bot F fx.g_is_whole
  f27 := by obtain ⟨fd, F⟩ := fx.d_is_list; exact cal_bot F fx.g_is_list
  f28 := by obtain ⟨fd, F⟩ := fx.d_plain_of; exact cal_bot F fx.g_plain_of
  f29 := by obtain ⟨fd, F⟩ := fx.d_is_row; exact cal_bot F fx.g_is_row
  f30 := by obtain ⟨fd, F⟩ := fx.d_kept_row; exact cal_bot F fx.g_kept_row
  f31 := by obtain ⟨fd, F⟩ := fx.d_rows_by; exact cal_bot F fx.g_rows_by
  f32 := by obtain ⟨fd, F⟩ := fx.d_common_divisor; exact cal_bot F fx.g_common_divisor
  f33 := by obtain ⟨fd, F⟩ := fx.d_points_by; exact cal_bot F fx.g_points_by
  f34 := by obtain ⟨fd, F⟩ := fx.d_sides; exact cal_bot F fx.g_sides
  f35 := by obtain ⟨fd, F⟩ := fx.d_points_of; exact cal_bot F fx.g_points_of
  f36 := by obtain ⟨fd, F⟩ := fx.d_unlike_cuts; exact cal_bot F fx.g_unlike_cuts
  f37 := by obtain ⟨fd, F⟩ := fx.d_lifted; exact cal_bot F fx.g_lifted
  f38 := by obtain ⟨fd, F⟩ := fx.d_step_for; exact cal_bot F fx.g_step_for
  f39 := by obtain ⟨fd, F⟩ := fx.d_stepped; exact cal_bot F fx.g_stepped
  f40 := by obtain ⟨fd, F⟩ := fx.d_minus; exact cal_bot F fx.g_minus
  f41 := by obtain ⟨fd, F⟩ := fx.d_side_of; exact cal_bot F fx.g_side_of
  f42 := by obtain ⟨fd, F⟩ := fx.d_system; exact cal_bot F fx.g_system
  f43 := by obtain ⟨fd, F⟩ := fx.d_cut_by; exact cal_bot F fx.g_cut_by
  f44 := by obtain ⟨fd, F⟩ := fx.d_worth_at; exact cal_bot F fx.g_worth_at
  f45 := by obtain ⟨fd, F⟩ := fx.d_over; exact cal_bot F fx.g_over
  f46 := by obtain ⟨fd, F⟩ := fx.d_times; exact cal_bot F fx.g_times
  f47 := by obtain ⟨fd, F⟩ := fx.d_size_of; exact cal_bot F fx.g_size_of
  f48 := by obtain ⟨fd, F⟩ := fx.d_is_under; exact cal_bot F fx.g_is_under
  f49 := by obtain ⟨fd, F⟩ := fx.d_plus; exact cal_bot F fx.g_plus
  f50 := by obtain ⟨fd, F⟩ := fx.d_reduced; exact cal_bot F fx.g_reduced
  f51 := by obtain ⟨fd, F⟩ := fx.d_reduced_rows; exact cal_bot F fx.g_reduced_rows
  f52 := by obtain ⟨fd, F⟩ := fx.d_dot; exact cal_bot F fx.g_dot
  f53 := by obtain ⟨fd, F⟩ := fx.d_total; exact cal_bot F fx.g_total
  lp := lam_bot
theorem HH.succ (fx : FX P w K mg base) (hh : HH P w K mg base (k + 2) cal) : HH P w K mg base ((k + 1) + 2) (nextC cal) where
  f1 := by obtain ⟨fd, F⟩ := fx.d_corners_in_turn; exact cal_ev (cal := cal) (N := N_corners_in_turn) (bx := []) (nl := 3) (tr := false) (m := m_corners_in_turn) rfl F fx.g_corners_in_turn (C8.fnScope_by (by decide +kernel)) rfl (by decide) (hk_of (by decide +kernel)) (fun _ _ _ _ z => z) (fun cdv W A outer s H E hc bd => b_corners_in_turn fx hh hc bd)
  f2 := by obtain ⟨fd, F⟩ := fx.d_area; exact cal_ev (cal := cal) (N := N_area) (bx := []) (nl := 6) (tr := false) (m := m_area) rfl F fx.g_area (C8.fnScope_by (by decide +kernel)) rfl (by decide) (hk_of (by decide +kernel)) (fun _ _ _ _ z => z) (fun cdv W A outer s H E hc bd => b_area fx hh hc bd)
  f3 := by obtain ⟨fd, F⟩ := fx.d_middle; exact cal_ev (cal := cal) (N := N_middle) (bx := []) (nl := 7) (tr := false) (m := m_middle) rfl F fx.g_middle (C8.fnScope_by (by decide +kernel)) rfl (by decide) (hk_of (by decide +kernel)) (fun _ _ _ _ z => z) (fun cdv W A outer s H E hc bd => b_middle fx hh hc bd)
  f4 := by obtain ⟨fd, F⟩ := fx.d_neighbours_in_turn; exact cal_ev (cal := cal) (N := N_neighbours_in_turn) (bx := []) (nl := 10) (tr := false) (m := m_neighbours_in_turn) rfl F fx.g_neighbours_in_turn (C8.fnScope_by (by decide +kernel)) rfl (by decide) (hk_of (by decide +kernel)) (fun _ _ _ _ z => z) (fun cdv W A outer s H E hc bd => b_neighbours_in_turn fx hh hc bd)
  f5 := by obtain ⟨fd, F⟩ := fx.d__law_all_refused; exact cal_ev (cal := cal) (N := N__law_all_refused) (bx := [3]) (nl := 2) (tr := false) (m := m__law_all_refused) rfl F fx.g__law_all_refused (C8.fnScope_by (by decide +kernel)) rfl (by decide) (hk_of (by decide +kernel)) (fun _ _ _ _ z => z) (fun cdv W A outer s H E hc bd => b__law_all_refused fx hh hc bd)
  f6 := by obtain ⟨fd, F⟩ := fx.d__law_draw; exact draw_ev F fx.g__law_draw (C8.fnScope_by (by decide +kernel)) (fun _ _ _ _ z => z) (fun cdv A outer s H E k2 hr => w_draw fx hr)
  f7 := by obtain ⟨fd, F⟩ := fx.d_most_lands; exact cal_ev (cal := cal) (N := N_most_lands) (bx := []) (nl := 0) (tr := false) (m := m_most_lands) rfl F fx.g_most_lands (C8.fnScope_by (by decide +kernel)) rfl (by decide) (hk_of (by decide +kernel)) (fun _ _ _ _ z => z) (fun cdv W A outer s H E hc bd => b_most_lands fx hh hc bd)
  f8 := by obtain ⟨fd, F⟩ := fx.d_most_bounded; exact cal_ev (cal := cal) (N := N_most_bounded) (bx := []) (nl := 0) (tr := false) (m := m_most_bounded) rfl F fx.g_most_bounded (C8.fnScope_by (by decide +kernel)) rfl (by decide) (hk_of (by decide +kernel)) (fun _ _ _ _ z => z) (fun cdv W A outer s H E hc bd => b_most_bounded fx hh hc bd)
  f9 := by obtain ⟨fd, F⟩ := fx.d_most_corners; exact cal_ev (cal := cal) (N := N_most_corners) (bx := []) (nl := 0) (tr := false) (m := m_most_corners) rfl F fx.g_most_corners (C8.fnScope_by (by decide +kernel)) rfl (by decide) (hk_of (by decide +kernel)) (fun _ _ _ _ z => z) (fun cdv W A outer s H E hc bd => b_most_corners fx hh hc bd)
  f10 := by obtain ⟨fd, F⟩ := fx.d_general_or_lot; exact cal_ev (cal := cal) (N := N_general_or_lot) (bx := []) (nl := 4) (tr := false) (m := m_general_or_lot) rfl F fx.g_general_or_lot (C8.fnScope_by (by decide +kernel)) rfl (by decide) (hk_of (by decide +kernel)) (fun _ _ _ _ z => z) (fun cdv W A outer s H E hc bd => b_general_or_lot fx hh hc bd)
  f11 := by obtain ⟨fd, F⟩ := fx.d_lands_lacking; exact cal_ev (cal := cal) (N := N_lands_lacking) (bx := []) (nl := 1) (tr := false) (m := m_lands_lacking) rfl F fx.g_lands_lacking (C8.fnScope_by (by decide +kernel)) rfl (by decide) (hk_of (by decide +kernel)) (fun _ _ _ _ z => z) (fun cdv W A outer s H E hc bd => b_lands_lacking fx hh hc bd)
  f12 := by obtain ⟨fd, F⟩ := fx.d__law_planes_refused; exact cal_ev (cal := cal) (N := N__law_planes_refused) (bx := [1]) (nl := 3) (tr := false) (m := m__law_planes_refused) rfl F fx.g__law_planes_refused (C8.fnScope_by (by decide +kernel)) rfl (by decide) (hk_of (by decide +kernel)) (fun _ _ _ _ z => z) (fun cdv W A outer s H E hc bd => b__law_planes_refused fx hh hc bd)
  f13 := by obtain ⟨fd, F⟩ := fx.d_need_boxed; exact cal_ev (cal := cal) (N := N_need_boxed) (bx := []) (nl := 2) (tr := false) (m := m_need_boxed) rfl F fx.g_need_boxed (C8.fnScope_by (by decide +kernel)) rfl (by decide) (hk_of (by decide +kernel)) (fun _ _ _ _ z => z) (fun cdv W A outer s H E hc bd => b_need_boxed fx hh hc bd)
  f14 := by obtain ⟨fd, F⟩ := fx.d__law_same; exact cal_ev (cal := cal) (N := N__law_same) (bx := []) (nl := 2) (tr := true) (m := m__law_same) rfl F fx.g__law_same (C8.fnScope_by (by decide +kernel)) rfl (by decide) (hk_of (by decide +kernel)) (fun _ _ _ _ z => z) (fun cdv W A outer s H E hc bd => b__law_same fx hh hc bd)
  f15 := by obtain ⟨fd, F⟩ := fx.d__law_met; exact cal_ev (cal := cal) (N := N__law_met) (bx := []) (nl := 1) (tr := true) (m := m__law_met) rfl F fx.g__law_met (C8.fnScope_by (by decide +kernel)) rfl (by decide) (hk_of (by decide +kernel)) (fun _ _ _ _ z => z) (fun cdv W A outer s H E hc bd => b__law_met fx hh hc bd)
  f16 := by obtain ⟨fd, F⟩ := fx.d__law_is_very; exact cal_ev (cal := cal) (N := N__law_is_very) (bx := [1, 3]) (nl := 2) (tr := true) (m := m__law_is_very) rfl F fx.g__law_is_very (C8.fnScope_by (by decide +kernel)) rfl (by decide) (hk_of (by decide +kernel)) (fun _ _ _ _ z => z) (fun cdv W A outer s H E hc bd => b__law_is_very fx hh hc bd)
  f17 := by obtain ⟨fd, F⟩ := fx.d_check_count; exact cal_ev (cal := cal) (N := N_check_count) (bx := []) (nl := 0) (tr := false) (m := m_check_count) rfl F fx.g_check_count (C8.fnScope_by (by decide +kernel)) rfl (by decide) (hk_of (by decide +kernel)) (fun _ _ _ _ z => z) (fun cdv W A outer s H E hc bd => b_check_count fx hh hc bd)
  f18 := by obtain ⟨fd, F⟩ := fx.d_need_planes; exact cal_ev (cal := cal) (N := N_need_planes) (bx := []) (nl := 2) (tr := false) (m := m_need_planes) rfl F fx.g_need_planes (C8.fnScope_by (by decide +kernel)) rfl (by decide) (hk_of (by decide +kernel)) (fun _ _ _ _ z => z) (fun cdv W A outer s H E hc bd => b_need_planes fx hh hc bd)
  f19 := by obtain ⟨fd, F⟩ := fx.d__law_odd_planes; exact cal_ev (cal := cal) (N := N__law_odd_planes) (bx := []) (nl := 1) (tr := false) (m := m__law_odd_planes) rfl F fx.g__law_odd_planes (C8.fnScope_by (by decide +kernel)) rfl (by decide) (hk_of (by decide +kernel)) (fun _ _ _ _ z => z) (fun cdv W A outer s H E hc bd => b__law_odd_planes fx hh hc bd)
  f20 := by obtain ⟨fd, F⟩ := fx.d_need_land; exact cal_ev (cal := cal) (N := N_need_land) (bx := []) (nl := 2) (tr := false) (m := m_need_land) rfl F fx.g_need_land (C8.fnScope_by (by decide +kernel)) rfl (by decide) (hk_of (by decide +kernel)) (fun _ _ _ _ z => z) (fun cdv W A outer s H E hc bd => b_need_land fx hh hc bd)
  f21 := by obtain ⟨fd, F⟩ := fx.d_check_many; exact cal_ev (cal := cal) (N := N_check_many) (bx := []) (nl := 0) (tr := false) (m := m_check_many) rfl F fx.g_check_many (C8.fnScope_by (by decide +kernel)) rfl (by decide) (hk_of (by decide +kernel)) (fun _ _ _ _ z => z) (fun cdv W A outer s H E hc bd => b_check_many fx hh hc bd)
  f22 := by obtain ⟨fd, F⟩ := fx.d_is_number; exact cal_ev (cal := cal) (N := N_is_number) (bx := []) (nl := 0) (tr := false) (m := m_is_number) rfl F fx.g_is_number (C8.fnScope_by (by decide +kernel)) rfl (by decide) (hk_of (by decide +kernel)) (fun _ _ _ _ z => z) (fun cdv W A outer s H E hc bd => b_is_number fx hh hc bd)
  f23 := by obtain ⟨fd, F⟩ := fx.d_planes_fault; exact cal_ev (cal := cal) (N := N_planes_fault) (bx := []) (nl := 4) (tr := false) (m := m_planes_fault) rfl F fx.g_planes_fault (C8.fnScope_by (by decide +kernel)) rfl (by decide) (hk_of (by decide +kernel)) (fun _ _ _ _ z => z) (fun cdv W A outer s H E hc bd => b_planes_fault fx hh hc bd)
  f24 := by obtain ⟨fd, F⟩ := fx.d_kept_plane; exact cal_ev (cal := cal) (N := N_kept_plane) (bx := []) (nl := 1) (tr := false) (m := m_kept_plane) rfl F fx.g_kept_plane (C8.fnScope_by (by decide +kernel)) rfl (by decide) (hk_of (by decide +kernel)) (fun _ _ _ _ z => z) (fun cdv W A outer s H E hc bd => b_kept_plane fx hh hc bd)
  f25 := by obtain ⟨fd, F⟩ := fx.d_kept_land; exact cal_ev (cal := cal) (N := N_kept_land) (bx := []) (nl := 1) (tr := false) (m := m_kept_land) rfl F fx.g_kept_land (C8.fnScope_by (by decide +kernel)) rfl (by decide) (hk_of (by decide +kernel)) (fun _ _ _ _ z => z) (fun cdv W A outer s H E hc bd => b_kept_land fx hh hc bd)
  f26 := by obtain ⟨fd, F⟩ := fx.d_is_whole; exact cal_ev (cal := cal) (N := N_is_whole) (bx := []) (nl := 0) (tr := false) (m := m_is_whole) rfl F fx.g_is_whole (C8.fnScope_by (by decide +kernel)) rfl (by decide) (hk_of (by decide +kernel)) (fun _ _ _ _ z => z) (fun cdv W A outer s H E hc bd => b_is_whole fx hh hc bd)
  f27 := by obtain ⟨fd, F⟩ := fx.d_is_list; exact cal_ev (cal := cal) (N := N_is_list) (bx := []) (nl := 0) (tr := false) (m := m_is_list) rfl F fx.g_is_list (C8.fnScope_by (by decide +kernel)) rfl (by decide) (hk_of (by decide +kernel)) (fun _ _ _ _ z => z) (fun cdv W A outer s H E hc bd => b_is_list fx hh hc bd)
  f28 := by obtain ⟨fd, F⟩ := fx.d_plain_of; exact cal_ev (cal := cal) (N := N_plain_of) (bx := []) (nl := 4) (tr := false) (m := m_plain_of) rfl F fx.g_plain_of (C8.fnScope_by (by decide +kernel)) rfl (by decide) (hk_of (by decide +kernel)) (fun _ _ _ _ z => z) (fun cdv W A outer s H E hc bd => b_plain_of fx hh hc bd)
  f29 := by obtain ⟨fd, F⟩ := fx.d_is_row; exact cal_ev (cal := cal) (N := N_is_row) (bx := []) (nl := 0) (tr := false) (m := m_is_row) rfl F fx.g_is_row (C8.fnScope_by (by decide +kernel)) rfl (by decide) (hk_of (by decide +kernel)) (fun _ _ _ _ z => z) (fun cdv W A outer s H E hc bd => b_is_row fx hh hc bd)
  f30 := by obtain ⟨fd, F⟩ := fx.d_kept_row; exact cal_ev (cal := cal) (N := N_kept_row) (bx := []) (nl := 1) (tr := false) (m := m_kept_row) rfl F fx.g_kept_row (C8.fnScope_by (by decide +kernel)) rfl (by decide) (hk_of (by decide +kernel)) (fun _ _ _ _ z => z) (fun cdv W A outer s H E hc bd => b_kept_row fx hh hc bd)
  f31 := by obtain ⟨fd, F⟩ := fx.d_rows_by; exact cal_ev (cal := cal) (N := N_rows_by) (bx := []) (nl := 1) (tr := false) (m := m_rows_by) rfl F fx.g_rows_by (C8.fnScope_by (by decide +kernel)) rfl (by decide) (hk_of (by decide +kernel)) (fun _ _ _ _ z => z) (fun cdv W A outer s H E hc bd => b_rows_by fx hh hc bd)
  f32 := by obtain ⟨fd, F⟩ := fx.d_common_divisor; exact cal_ev (cal := cal) (N := N_common_divisor) (bx := []) (nl := 0) (tr := false) (m := m_common_divisor) rfl F fx.g_common_divisor (C8.fnScope_by (by decide +kernel)) rfl (by decide) (hk_of (by decide +kernel)) (fun _ _ _ _ z => z) (fun cdv W A outer s H E hc bd => b_common_divisor fx hh hc bd)
  f33 := by obtain ⟨fd, F⟩ := fx.d_points_by; exact cal_ev (cal := cal) (N := N_points_by) (bx := []) (nl := 12) (tr := false) (m := m_points_by) rfl F fx.g_points_by (C8.fnScope_by (by decide +kernel)) rfl (by decide) (hk_of (by decide +kernel)) (fun _ _ _ _ z => z) (fun cdv W A outer s H E hc bd => b_points_by fx hh hc bd)
  f34 := by obtain ⟨fd, F⟩ := fx.d_sides; exact cal_ev (cal := cal) (N := N_sides) (bx := []) (nl := 1) (tr := false) (m := m_sides) rfl F fx.g_sides (C8.fnScope_by (by decide +kernel)) rfl (by decide) (hk_of (by decide +kernel)) (fun _ _ _ _ z => z) (fun cdv W A outer s H E hc bd => b_sides fx hh hc bd)
  f35 := by obtain ⟨fd, F⟩ := fx.d_points_of; exact cal_ev (cal := cal) (N := N_points_of) (bx := []) (nl := 10) (tr := false) (m := m_points_of) rfl F fx.g_points_of (C8.fnScope_by (by decide +kernel)) rfl (by decide) (hk_of (by decide +kernel)) (fun _ _ _ _ z => z) (fun cdv W A outer s H E hc bd => b_points_of fx hh hc bd)
  f36 := by obtain ⟨fd, F⟩ := fx.d_unlike_cuts; exact cal_ev (cal := cal) (N := N_unlike_cuts) (bx := []) (nl := 3) (tr := false) (m := m_unlike_cuts) rfl F fx.g_unlike_cuts (C8.fnScope_by (by decide +kernel)) rfl (by decide) (hk_of (by decide +kernel)) (fun _ _ _ _ z => z) (fun cdv W A outer s H E hc bd => b_unlike_cuts fx hh hc bd)
  f37 := by obtain ⟨fd, F⟩ := fx.d_lifted; exact cal_ev (cal := cal) (N := N_lifted) (bx := []) (nl := 3) (tr := false) (m := m_lifted) rfl F fx.g_lifted (C8.fnScope_by (by decide +kernel)) rfl (by decide) (hk_of (by decide +kernel)) (fun _ _ _ _ z => z) (fun cdv W A outer s H E hc bd => b_lifted fx hh hc bd)
  f38 := by obtain ⟨fd, F⟩ := fx.d_step_for; exact cal_ev (cal := cal) (N := N_step_for) (bx := []) (nl := 5) (tr := false) (m := m_step_for) rfl F fx.g_step_for (C8.fnScope_by (by decide +kernel)) rfl (by decide) (hk_of (by decide +kernel)) (fun _ _ _ _ z => z) (fun cdv W A outer s H E hc bd => b_step_for fx hh hc bd)
  f39 := by obtain ⟨fd, F⟩ := fx.d_stepped; exact cal_ev (cal := cal) (N := N_stepped) (bx := []) (nl := 2) (tr := false) (m := m_stepped) rfl F fx.g_stepped (C8.fnScope_by (by decide +kernel)) rfl (by decide) (hk_of (by decide +kernel)) (fun _ _ _ _ z => z) (fun cdv W A outer s H E hc bd => b_stepped fx hh hc bd)
  f40 := by obtain ⟨fd, F⟩ := fx.d_minus; exact cal_ev (cal := cal) (N := N_minus) (bx := []) (nl := 0) (tr := false) (m := m_minus) rfl F fx.g_minus (C8.fnScope_by (by decide +kernel)) rfl (by decide) (hk_of (by decide +kernel)) (fun _ _ _ _ z => z) (fun cdv W A outer s H E hc bd => b_minus fx hh hc bd)
  f41 := by obtain ⟨fd, F⟩ := fx.d_side_of; exact cal_ev (cal := cal) (N := N_side_of) (bx := []) (nl := 1) (tr := false) (m := m_side_of) rfl F fx.g_side_of (C8.fnScope_by (by decide +kernel)) rfl (by decide) (hk_of (by decide +kernel)) (fun _ _ _ _ z => z) (fun cdv W A outer s H E hc bd => b_side_of fx hh hc bd)
  f42 := by obtain ⟨fd, F⟩ := fx.d_system; exact cal_ev (cal := cal) (N := N_system) (bx := []) (nl := 7) (tr := false) (m := m_system) rfl F fx.g_system (C8.fnScope_by (by decide +kernel)) rfl (by decide) (hk_of (by decide +kernel)) (fun _ _ _ _ z => z) (fun cdv W A outer s H E hc bd => b_system fx hh hc bd)
  f43 := by obtain ⟨fd, F⟩ := fx.d_cut_by; exact cal_ev (cal := cal) (N := N_cut_by) (bx := []) (nl := 6) (tr := false) (m := m_cut_by) rfl F fx.g_cut_by (C8.fnScope_by (by decide +kernel)) rfl (by decide) (hk_of (by decide +kernel)) (fun _ _ _ _ z => z) (fun cdv W A outer s H E hc bd => b_cut_by fx hh hc bd)
  f44 := by obtain ⟨fd, F⟩ := fx.d_worth_at; exact cal_ev (cal := cal) (N := N_worth_at) (bx := []) (nl := 1) (tr := false) (m := m_worth_at) rfl F fx.g_worth_at (C8.fnScope_by (by decide +kernel)) rfl (by decide) (hk_of (by decide +kernel)) (fun _ _ _ _ z => z) (fun cdv W A outer s H E hc bd => b_worth_at fx hh hc bd)
  f45 := by obtain ⟨fd, F⟩ := fx.d_over; exact cal_ev (cal := cal) (N := N_over) (bx := []) (nl := 0) (tr := false) (m := m_over) rfl F fx.g_over (C8.fnScope_by (by decide +kernel)) rfl (by decide) (hk_of (by decide +kernel)) (fun _ _ _ _ z => z) (fun cdv W A outer s H E hc bd => b_over fx hh hc bd)
  f46 := by obtain ⟨fd, F⟩ := fx.d_times; exact cal_ev (cal := cal) (N := N_times) (bx := []) (nl := 0) (tr := false) (m := m_times) rfl F fx.g_times (C8.fnScope_by (by decide +kernel)) rfl (by decide) (hk_of (by decide +kernel)) (fun _ _ _ _ z => z) (fun cdv W A outer s H E hc bd => b_times fx hh hc bd)
  f47 := by obtain ⟨fd, F⟩ := fx.d_size_of; exact cal_ev (cal := cal) (N := N_size_of) (bx := []) (nl := 0) (tr := false) (m := m_size_of) rfl F fx.g_size_of (C8.fnScope_by (by decide +kernel)) rfl (by decide) (hk_of (by decide +kernel)) (fun _ _ _ _ z => z) (fun cdv W A outer s H E hc bd => b_size_of fx hh hc bd)
  f48 := by obtain ⟨fd, F⟩ := fx.d_is_under; exact cal_ev (cal := cal) (N := N_is_under) (bx := []) (nl := 0) (tr := false) (m := m_is_under) rfl F fx.g_is_under (C8.fnScope_by (by decide +kernel)) rfl (by decide) (hk_of (by decide +kernel)) (fun _ _ _ _ z => z) (fun cdv W A outer s H E hc bd => b_is_under fx hh hc bd)
  f49 := by obtain ⟨fd, F⟩ := fx.d_plus; exact cal_ev (cal := cal) (N := N_plus) (bx := []) (nl := 0) (tr := false) (m := m_plus) rfl F fx.g_plus (C8.fnScope_by (by decide +kernel)) rfl (by decide) (hk_of (by decide +kernel)) (fun _ _ _ _ z => z) (fun cdv W A outer s H E hc bd => b_plus fx hh hc bd)
  f50 := by obtain ⟨fd, F⟩ := fx.d_reduced; exact cal_ev (cal := cal) (N := N_reduced) (bx := []) (nl := 1) (tr := false) (m := m_reduced) rfl F fx.g_reduced (C8.fnScope_by (by decide +kernel)) rfl (by decide) (hk_of (by decide +kernel)) (fun _ _ _ _ z => z) (fun cdv W A outer s H E hc bd => b_reduced fx hh hc bd)
  f51 := by obtain ⟨fd, F⟩ := fx.d_reduced_rows; exact cal_ev (cal := cal) (N := N_reduced_rows) (bx := []) (nl := 9) (tr := false) (m := m_reduced_rows) rfl F fx.g_reduced_rows (C8.fnScope_by (by decide +kernel)) rfl (by decide) (hk_of (by decide +kernel)) (fun _ _ _ _ z => z) (fun cdv W A outer s H E hc bd => b_reduced_rows fx hh hc bd)
  f52 := by obtain ⟨fd, F⟩ := fx.d_dot; exact cal_ev (cal := cal) (N := N_dot) (bx := []) (nl := 2) (tr := false) (m := m_dot) rfl F fx.g_dot (C8.fnScope_by (by decide +kernel)) rfl (by decide) (hk_of (by decide +kernel)) (fun _ _ _ _ z => z) (fun cdv W A outer s H E hc bd => b_dot fx hh hc bd)
  f53 := by obtain ⟨fd, F⟩ := fx.d_total; exact cal_ev (cal := cal) (N := N_total) (bx := []) (nl := 2) (tr := false) (m := m_total) rfl F fx.g_total (C8.fnScope_by (by decide +kernel)) rfl (by decide) (hk_of (by decide +kernel)) (fun _ _ _ _ z => z) (fun cdv W A outer s H E hc bd => b_total fx hh hc bd)
  lp := lam_ev (cal := cal) rfl (lamFind_all (tb := ltab) (by
    intro p hp
    simp only [ltab, List.mem_cons, List.not_mem_nil, or_false] at hp
    rcases hp with rfl | rfl | rfl | rfl | rfl | rfl | rfl | rfl | rfl | rfl | rfl | rfl | rfl | rfl | rfl | rfl | rfl | rfl | rfl | rfl | rfl
    · exact ⟨NL1, ["odd"], 0, ml_1, tx_1, fun _ _ _ _ _ z => z, fun W L a A outer s H E e1 e2 bd => bl_1 fx hh e1 bd⟩
    · exact ⟨NL2, ["odd"], 0, ml_2, tx_2, fun _ _ _ _ _ z => z, fun W L a A outer s H E e1 e2 bd => bl_2 fx hh e1 bd⟩
    · exact ⟨NL3, ["odd"], 0, ml_3, tx_3, fun _ _ _ _ _ z => z, fun W L a A outer s H E e1 e2 bd => bl_3 fx hh e1 bd⟩
    · exact ⟨NL4, ["odd"], 0, ml_4, tx_4, fun _ _ _ _ _ z => z, fun W L a A outer s H E e1 e2 bd => bl_4 fx hh e1 bd⟩
    · exact ⟨NL5, ["odd"], 0, ml_5, tx_5, fun _ _ _ _ _ z => z, fun W L a A outer s H E e1 e2 bd => bl_5 fx hh e1 bd⟩
    · exact ⟨NL6, ["odd"], 0, ml_6, tx_6, fun _ _ _ _ _ z => z, fun W L a A outer s H E e1 e2 bd => bl_6 fx hh e1 bd⟩
    · exact ⟨NL7, ["odd"], 0, ml_7, tx_7, fun _ _ _ _ _ z => z, fun W L a A outer s H E e1 e2 bd => bl_7 fx hh e1 bd⟩
    · exact ⟨NL8, ["odd"], 0, ml_8, tx_8, fun _ _ _ _ _ z => z, fun W L a A outer s H E e1 e2 bd => bl_8 fx hh e1 bd⟩
    · exact ⟨NL9, ["odd"], 0, ml_9, tx_9, fun _ _ _ _ _ z => z, fun W L a A outer s H E e1 e2 bd => bl_9 fx hh e1 bd⟩
    · exact ⟨NL10, ["odd"], 0, ml_10, tx_10, fun _ _ _ _ _ z => z, fun W L a A outer s H E e1 e2 bd => bl_10 fx hh e1 bd⟩
    · exact ⟨NL11, ["odd"], 0, ml_11, tx_11, fun _ _ _ _ _ z => z, fun W L a A outer s H E e1 e2 bd => bl_11 fx hh e1 bd⟩
    · exact ⟨NL12, ["odd"], 0, ml_12, tx_12, fun _ _ _ _ _ z => z, fun W L a A outer s H E e1 e2 bd => bl_12 fx hh e1 bd⟩
    · exact ⟨NL13, ["odd"], 0, ml_13, tx_13, fun _ _ _ _ _ z => z, fun W L a A outer s H E e1 e2 bd => bl_13 fx hh e1 bd⟩
    · exact ⟨NL14, ["odd"], 0, ml_14, tx_14, fun _ _ _ _ _ z => z, fun W L a A outer s H E e1 e2 bd => bl_14 fx hh e1 bd⟩
    · exact ⟨NL15, ["odd"], 0, ml_15, tx_15, fun _ _ _ _ _ z => z, fun W L a A outer s H E e1 e2 bd => bl_15 fx hh e1 bd⟩
    · exact ⟨NL16, ["odd"], 0, ml_16, tx_16, fun _ _ _ _ _ z => z, fun W L a A outer s H E e1 e2 bd => bl_16 fx hh e1 bd⟩
    · exact ⟨NL17, ["odd"], 0, ml_17, tx_17, fun _ _ _ _ _ z => z, fun W L a A outer s H E e1 e2 bd => bl_17 fx hh e1 bd⟩
    · exact ⟨NL18, ["odd"], 0, ml_18, tx_18, fun _ _ _ _ _ z => z, fun W L a A outer s H E e1 e2 bd => bl_18 fx hh e1 bd⟩
    · exact ⟨NL19, [], 0, ml_19, tx_19, fun _ _ _ _ _ z => z, fun W L a A outer s H E e1 e2 bd => bl_19 fx hh e1 bd⟩
    · exact ⟨NL20, [], 0, ml_20, tx_20, fun _ _ _ _ _ z => z, fun W L a A outer s H E e1 e2 bd => bl_20 fx hh e1 bd⟩
    · exact ⟨NL21, [], 0, ml_21, tx_21, fun _ _ _ _ _ z => z, fun W L a A outer s H E e1 e2 bd => bl_21 fx hh e1 bd⟩
  ))
theorem hh0 (fx : FX P w K mg base) : HH P w K mg base (0 + 2) c0 := HH.zero fx
theorem hh1 (fx : FX P w K mg base) : HH P w K mg base (1 + 2) c1 := HH.succ fx (hh0 fx)
theorem hh2 (fx : FX P w K mg base) : HH P w K mg base (2 + 2) c2 := HH.succ fx (hh1 fx)
theorem hh3 (fx : FX P w K mg base) : HH P w K mg base (3 + 2) c3 := HH.succ fx (hh2 fx)
theorem hh4 (fx : FX P w K mg base) : HH P w K mg base (4 + 2) c4 := HH.succ fx (hh3 fx)
theorem hh5 (fx : FX P w K mg base) : HH P w K mg base (5 + 2) c5 := HH.succ fx (hh4 fx)
theorem hh6 (fx : FX P w K mg base) : HH P w K mg base (6 + 2) c6 := HH.succ fx (hh5 fx)
theorem hh7 (fx : FX P w K mg base) : HH P w K mg base (7 + 2) c7 := HH.succ fx (hh6 fx)
theorem hh8 (fx : FX P w K mg base) : HH P w K mg base (8 + 2) c8 := HH.succ fx (hh7 fx)
theorem hh9 (fx : FX P w K mg base) : HH P w K mg base (9 + 2) c9 := HH.succ fx (hh8 fx)
theorem hh10 (fx : FX P w K mg base) : HH P w K mg base (10 + 2) c10 := HH.succ fx (hh9 fx)
theorem hh11 (fx : FX P w K mg base) : HH P w K mg base (11 + 2) c11 := HH.succ fx (hh10 fx)
theorem hh12 (fx : FX P w K mg base) : HH P w K mg base (12 + 2) c12 := HH.succ fx (hh11 fx)
theorem hh13 (fx : FX P w K mg base) : HH P w K mg base (13 + 2) c13 := HH.succ fx (hh12 fx)
theorem hh14 (fx : FX P w K mg base) : HH P w K mg base (14 + 2) c14 := HH.succ fx (hh13 fx)
theorem hh15 (fx : FX P w K mg base) : HH P w K mg base (15 + 2) c15 := HH.succ fx (hh14 fx)
theorem hh16 (fx : FX P w K mg base) : HH P w K mg base (16 + 2) c16 := HH.succ fx (hh15 fx)
theorem hh17 (fx : FX P w K mg base) : HH P w K mg base (17 + 2) c17 := HH.succ fx (hh16 fx)
theorem hh18 (fx : FX P w K mg base) : HH P w K mg base (18 + 2) c18 := HH.succ fx (hh17 fx)
theorem hh19 (fx : FX P w K mg base) : HH P w K mg base (19 + 2) c19 := HH.succ fx (hh18 fx)
theorem hh20 (fx : FX P w K mg base) : HH P w K mg base (20 + 2) c20 := HH.succ fx (hh19 fx)
end
def S0 : StD := ⟨[none, some (.cel 3), none, none, some (.cel 0), some (.cel 1)], ⟨4, [(3, .strm 2 0), (2, .raw), (1, .box none), (0, .box none)]⟩⟩
def KS0 : KS := ⟨fun _ _ => false, fun d _ => isTrue1 d, fun _ _ => false, fun _ _ => false⟩
def X0 : KXs := fun _ _ _ _ => false
theorem run_eq (m : MS) : runLawD [4, 5] 5 1 m c20 = m c20 S0.e S0.cs KS0 X0 := rfl
theorem r0_0 : ms0 c20 S0.e S0.cs ⟨fun e1 cs1 => anyS C0 e1 cs1, KS0.rt, KS0.bk, KS0.ct⟩ X0 = true := by decide +kernel
theorem r1_0 : ms1 c20 ST0_0.e ST0_0.cs ⟨fun e1 cs1 => anyS C1 e1 cs1, KS0.rt, KS0.bk, KS0.ct⟩ X0 = true := by decide +kernel
theorem r2_0 : ms2 c20 ST1_0.e ST1_0.cs ⟨fun e1 cs1 => anyS C2 e1 cs1, KS0.rt, KS0.bk, KS0.ct⟩ X0 = true := by decide +kernel
theorem r3_0 : ms3 c20 ST2_0.e ST2_0.cs ⟨fun e1 cs1 => anyS C3 e1 cs1, KS0.rt, KS0.bk, KS0.ct⟩ X0 = true := by decide +kernel
theorem r3_1 : ms3 c20 ST2_1.e ST2_1.cs ⟨fun e1 cs1 => anyS C3 e1 cs1, KS0.rt, KS0.bk, KS0.ct⟩ X0 = true := by decide +kernel
theorem r3_2 : ms3 c20 ST2_2.e ST2_2.cs ⟨fun e1 cs1 => anyS C3 e1 cs1, KS0.rt, KS0.bk, KS0.ct⟩ X0 = true := by decide +kernel
theorem r3_3 : ms3 c20 ST2_3.e ST2_3.cs ⟨fun e1 cs1 => anyS C3 e1 cs1, KS0.rt, KS0.bk, KS0.ct⟩ X0 = true := by decide +kernel
theorem r4_0 : ms4 c20 ST3_0.e ST3_0.cs ⟨fun e1 cs1 => anyS C4 e1 cs1, KS0.rt, KS0.bk, KS0.ct⟩ X0 = true := by decide +kernel
theorem r5_0 : ms5 c20 ST4_0.e ST4_0.cs KS0 X0 = true := by decide +kernel
theorem r5_1 : ms5 c20 ST4_1.e ST4_1.cs KS0 X0 = true := by decide +kernel
theorem r5_2 : ms5 c20 ST4_2.e ST4_2.cs KS0 X0 = true := by decide +kernel
theorem r5_3 : ms5 c20 ST4_3.e ST4_3.cs KS0 X0 = true := by decide +kernel
theorem r5_4 : ms5 c20 ST4_4.e ST4_4.cs KS0 X0 = true := by decide +kernel
theorem q5 : (allS C4 fun S => ms5 c20 S.e S.cs KS0 X0) = true := (allS_cons r5_0 (allS_cons r5_1 (allS_cons r5_2 (allS_cons r5_3 (allS_cons r5_4 allS_nil)))))
theorem q4 : (allS C3 fun S => mr4 c20 S.e S.cs KS0 X0) = true := (allS_cons (cut_true (a := ms4) (b := ms5) r4_0 rfl q5) allS_nil)
theorem q3 : (allS C2 fun S => mr3 c20 S.e S.cs KS0 X0) = true := (allS_cons (cut_true (a := ms3) (b := mr4) r3_0 rfl q4) (allS_cons (cut_true (a := ms3) (b := mr4) r3_1 rfl q4) (allS_cons (cut_true (a := ms3) (b := mr4) r3_2 rfl q4) (allS_cons (cut_true (a := ms3) (b := mr4) r3_3 rfl q4) allS_nil))))
theorem q2 : (allS C1 fun S => mr2 c20 S.e S.cs KS0 X0) = true := (allS_cons (cut_true (a := ms2) (b := mr3) r2_0 rfl q3) allS_nil)
theorem q1 : (allS C0 fun S => mr1 c20 S.e S.cs KS0 X0) = true := (allS_cons (cut_true (a := ms1) (b := mr2) r1_0 rfl q2) allS_nil)
theorem runs : runLawD [4, 5] 5 1 m_law c20 = true := (run_eq m_law).trans (cut_true (bx := [4, 5]) (Ss := C0) (a := ms0) (b := mr1) r0_0 rfl q1)
section
variable {P : Program} {w : World} {K : PySem.W.Frag} {mg : Str → Option Value} {base : Heap}
theorem fx_of (KX : K.In base) (G : base.Ns mainGlobals mg) (c : He.SaysD fa fn K) (hx : ex K = true) (tb : ∀ p ∈ tf, TabB base mg (He.cT K p).1 (He.cT K p).2) : FX P w K mg base := by
  unfold ex at hx
  obtain ⟨e_kt, hx⟩ := Bool.and_eq_true_iff.mp hx
  obtain ⟨e_BadPlanes, hx⟩ := Bool.and_eq_true_iff.mp hx
  obtain ⟨e_BadMany, hx⟩ := Bool.and_eq_true_iff.mp hx
  obtain ⟨e_BadLand, hx⟩ := Bool.and_eq_true_iff.mp hx
  obtain ⟨e_BadCount, hx⟩ := Bool.and_eq_true_iff.mp hx
  obtain ⟨ap, hx⟩ := Bool.and_eq_true_iff.mp hx
  obtain ⟨fi_BadPlanes, F_BadPlanes⟩ := c.defs (d := DI_BadPlanes) (get_some (i := 55) rfl)
  obtain ⟨fi_BadMany, F_BadMany⟩ := c.defs (d := DI_BadMany) (get_some (i := 56) rfl)
  obtain ⟨fi_BadLand, F_BadLand⟩ := c.defs (d := DI_BadLand) (get_some (i := 57) rfl)
  obtain ⟨fi_BadCount, F_BadCount⟩ := c.defs (d := DI_BadCount) (get_some (i := 58) rfl)
  exact {
    b_abs := He.free_ok KX G (c.fact 0 (f := .free "abs") rfl)
    b_all := He.free_ok KX G (c.fact 1 (f := .free "all") rfl)
    b_any := He.free_ok KX G (c.fact 2 (f := .free "any") rfl)
    b_bool := He.free_ok KX G (c.fact 3 (f := .free "bool") rfl)
    b_dict := He.free_ok KX G (c.fact 4 (f := .free "dict") rfl)
    b_enumerate := He.free_ok KX G (c.fact 5 (f := .free "enumerate") rfl)
    b_int := He.free_ok KX G (c.fact 6 (f := .free "int") rfl)
    b_isinstance := He.free_ok KX G (c.fact 7 (f := .free "isinstance") rfl)
    b_len := He.free_ok KX G (c.fact 8 (f := .free "len") rfl)
    b_list := He.free_ok KX G (c.fact 9 (f := .free "list") rfl)
    b_range := He.free_ok KX G (c.fact 10 (f := .free "range") rfl)
    b_sorted := He.free_ok KX G (c.fact 11 (f := .free "sorted") rfl)
    b_str := He.free_ok KX G (c.fact 12 (f := .free "str") rfl)
    b_tuple := He.free_ok KX G (c.fact 13 (f := .free "tuple") rfl)
    b_zip := He.free_ok KX G (c.fact 14 (f := .free "zip") rfl)
    d_law := c.def_ 0 (d := D_law) rfl
    g_law := He.glo_ok KX G (c.fact 15 (f := .glo "law") rfl)
    d_corners_in_turn := c.def_ 1 (d := D_corners_in_turn) rfl
    g_corners_in_turn := He.glo_ok KX G (c.fact 16 (f := .glo "corners_in_turn") rfl)
    d_area := c.def_ 2 (d := D_area) rfl
    g_area := He.glo_ok KX G (c.fact 17 (f := .glo "area") rfl)
    d_middle := c.def_ 3 (d := D_middle) rfl
    g_middle := He.glo_ok KX G (c.fact 18 (f := .glo "middle") rfl)
    d_neighbours_in_turn := c.def_ 4 (d := D_neighbours_in_turn) rfl
    g_neighbours_in_turn := He.glo_ok KX G (c.fact 19 (f := .glo "neighbours_in_turn") rfl)
    d__law_all_refused := c.def_ 5 (d := D__law_all_refused) rfl
    g__law_all_refused := He.glo_ok KX G (c.fact 20 (f := .glo "_law_all_refused") rfl)
    d__law_draw := c.def_ 6 (d := D__law_draw) rfl
    g__law_draw := He.glo_ok KX G (c.fact 21 (f := .glo "_law_draw") rfl)
    d_most_lands := c.def_ 7 (d := D_most_lands) rfl
    g_most_lands := He.glo_ok KX G (c.fact 22 (f := .glo "most_lands") rfl)
    d_most_bounded := c.def_ 8 (d := D_most_bounded) rfl
    g_most_bounded := He.glo_ok KX G (c.fact 23 (f := .glo "most_bounded") rfl)
    d_most_corners := c.def_ 9 (d := D_most_corners) rfl
    g_most_corners := He.glo_ok KX G (c.fact 24 (f := .glo "most_corners") rfl)
    d_general_or_lot := c.def_ 10 (d := D_general_or_lot) rfl
    g_general_or_lot := He.glo_ok KX G (c.fact 25 (f := .glo "general_or_lot") rfl)
    d_lands_lacking := c.def_ 11 (d := D_lands_lacking) rfl
    g_lands_lacking := He.glo_ok KX G (c.fact 26 (f := .glo "lands_lacking") rfl)
    d__law_planes_refused := c.def_ 12 (d := D__law_planes_refused) rfl
    g__law_planes_refused := He.glo_ok KX G (c.fact 27 (f := .glo "_law_planes_refused") rfl)
    d_need_boxed := c.def_ 13 (d := D_need_boxed) rfl
    g_need_boxed := He.glo_ok KX G (c.fact 28 (f := .glo "need_boxed") rfl)
    d__law_same := c.def_ 14 (d := D__law_same) rfl
    g__law_same := He.glo_ok KX G (c.fact 29 (f := .glo "_law_same") rfl)
    d__law_met := c.def_ 15 (d := D__law_met) rfl
    g__law_met := He.glo_ok KX G (c.fact 30 (f := .glo "_law_met") rfl)
    d__law_is_very := c.def_ 16 (d := D__law_is_very) rfl
    g__law_is_very := He.glo_ok KX G (c.fact 31 (f := .glo "_law_is_very") rfl)
    d_check_count := c.def_ 17 (d := D_check_count) rfl
    g_check_count := He.glo_ok KX G (c.fact 32 (f := .glo "check_count") rfl)
    d_need_planes := c.def_ 18 (d := D_need_planes) rfl
    g_need_planes := He.glo_ok KX G (c.fact 33 (f := .glo "need_planes") rfl)
    d__law_odd_planes := c.def_ 19 (d := D__law_odd_planes) rfl
    g__law_odd_planes := He.glo_ok KX G (c.fact 34 (f := .glo "_law_odd_planes") rfl)
    d_need_land := c.def_ 20 (d := D_need_land) rfl
    g_need_land := He.glo_ok KX G (c.fact 35 (f := .glo "need_land") rfl)
    d_check_many := c.def_ 21 (d := D_check_many) rfl
    g_check_many := He.glo_ok KX G (c.fact 36 (f := .glo "check_many") rfl)
    d_is_number := c.def_ 22 (d := D_is_number) rfl
    g_is_number := He.glo_ok KX G (c.fact 37 (f := .glo "is_number") rfl)
    d_planes_fault := c.def_ 23 (d := D_planes_fault) rfl
    g_planes_fault := He.glo_ok KX G (c.fact 38 (f := .glo "planes_fault") rfl)
    d_kept_plane := c.def_ 24 (d := D_kept_plane) rfl
    g_kept_plane := He.glo_ok KX G (c.fact 39 (f := .glo "kept_plane") rfl)
    d_kept_land := c.def_ 25 (d := D_kept_land) rfl
    g_kept_land := He.glo_ok KX G (c.fact 40 (f := .glo "kept_land") rfl)
    d_is_whole := c.def_ 26 (d := D_is_whole) rfl
    g_is_whole := He.glo_ok KX G (c.fact 41 (f := .glo "is_whole") rfl)
    d_is_list := c.def_ 27 (d := D_is_list) rfl
    g_is_list := He.glo_ok KX G (c.fact 42 (f := .glo "is_list") rfl)
    d_plain_of := c.def_ 28 (d := D_plain_of) rfl
    g_plain_of := He.glo_ok KX G (c.fact 43 (f := .glo "plain_of") rfl)
    d_is_row := c.def_ 29 (d := D_is_row) rfl
    g_is_row := He.glo_ok KX G (c.fact 44 (f := .glo "is_row") rfl)
    d_kept_row := c.def_ 30 (d := D_kept_row) rfl
    g_kept_row := He.glo_ok KX G (c.fact 45 (f := .glo "kept_row") rfl)
    d_rows_by := c.def_ 31 (d := D_rows_by) rfl
    g_rows_by := He.glo_ok KX G (c.fact 46 (f := .glo "rows_by") rfl)
    d_common_divisor := c.def_ 32 (d := D_common_divisor) rfl
    g_common_divisor := He.glo_ok KX G (c.fact 47 (f := .glo "common_divisor") rfl)
    d_points_by := c.def_ 33 (d := D_points_by) rfl
    g_points_by := He.glo_ok KX G (c.fact 48 (f := .glo "points_by") rfl)
    d_sides := c.def_ 34 (d := D_sides) rfl
    g_sides := He.glo_ok KX G (c.fact 49 (f := .glo "sides") rfl)
    d_points_of := c.def_ 35 (d := D_points_of) rfl
    g_points_of := He.glo_ok KX G (c.fact 50 (f := .glo "points_of") rfl)
    d_unlike_cuts := c.def_ 36 (d := D_unlike_cuts) rfl
    g_unlike_cuts := He.glo_ok KX G (c.fact 51 (f := .glo "unlike_cuts") rfl)
    d_lifted := c.def_ 37 (d := D_lifted) rfl
    g_lifted := He.glo_ok KX G (c.fact 52 (f := .glo "lifted") rfl)
    d_step_for := c.def_ 38 (d := D_step_for) rfl
    g_step_for := He.glo_ok KX G (c.fact 53 (f := .glo "step_for") rfl)
    d_stepped := c.def_ 39 (d := D_stepped) rfl
    g_stepped := He.glo_ok KX G (c.fact 54 (f := .glo "stepped") rfl)
    d_minus := c.def_ 40 (d := D_minus) rfl
    g_minus := He.glo_ok KX G (c.fact 55 (f := .glo "minus") rfl)
    d_side_of := c.def_ 41 (d := D_side_of) rfl
    g_side_of := He.glo_ok KX G (c.fact 56 (f := .glo "side_of") rfl)
    d_system := c.def_ 42 (d := D_system) rfl
    g_system := He.glo_ok KX G (c.fact 57 (f := .glo "system") rfl)
    d_cut_by := c.def_ 43 (d := D_cut_by) rfl
    g_cut_by := He.glo_ok KX G (c.fact 58 (f := .glo "cut_by") rfl)
    d_worth_at := c.def_ 44 (d := D_worth_at) rfl
    g_worth_at := He.glo_ok KX G (c.fact 59 (f := .glo "worth_at") rfl)
    d_over := c.def_ 45 (d := D_over) rfl
    g_over := He.glo_ok KX G (c.fact 60 (f := .glo "over") rfl)
    d_times := c.def_ 46 (d := D_times) rfl
    g_times := He.glo_ok KX G (c.fact 61 (f := .glo "times") rfl)
    d_size_of := c.def_ 47 (d := D_size_of) rfl
    g_size_of := He.glo_ok KX G (c.fact 62 (f := .glo "size_of") rfl)
    d_is_under := c.def_ 48 (d := D_is_under) rfl
    g_is_under := He.glo_ok KX G (c.fact 63 (f := .glo "is_under") rfl)
    d_plus := c.def_ 49 (d := D_plus) rfl
    g_plus := He.glo_ok KX G (c.fact 64 (f := .glo "plus") rfl)
    d_reduced := c.def_ 50 (d := D_reduced) rfl
    g_reduced := He.glo_ok KX G (c.fact 65 (f := .glo "reduced") rfl)
    d_reduced_rows := c.def_ 51 (d := D_reduced_rows) rfl
    g_reduced_rows := He.glo_ok KX G (c.fact 66 (f := .glo "reduced_rows") rfl)
    d_dot := c.def_ 52 (d := D_dot) rfl
    g_dot := He.glo_ok KX G (c.fact 67 (f := .glo "dot") rfl)
    d_total := c.def_ 53 (d := D_total) rfl
    g_total := He.glo_ok KX G (c.fact 68 (f := .glo "total") rfl)
    d__law_stream := c.def_ 54 (d := D__law_stream) rfl
    g__law_stream := He.glo_ok KX G (c.fact 69 (f := .glo "_law_stream") rfl)
    e_BadPlanes := e_BadPlanes
    n_BadPlanes := He.glo_ok KX G (c.fact 70 (f := .glo "BadPlanes") rfl)
    x_BadPlanes := exc_ev KX G e_BadPlanes rfl F_BadPlanes (C8.fnScope_by (by decide +kernel)) rfl rfl (fun _ _ _ _ _ _ us hl => match us, hl with | [_, _], _ => rfl) rfl rfl
    e_BadMany := e_BadMany
    n_BadMany := He.glo_ok KX G (c.fact 71 (f := .glo "BadMany") rfl)
    x_BadMany := exc_ev KX G e_BadMany rfl F_BadMany (C8.fnScope_by (by decide +kernel)) rfl rfl (fun _ _ _ _ _ _ us hl => match us, hl with | [_, _], _ => rfl) rfl rfl
    e_BadLand := e_BadLand
    n_BadLand := He.glo_ok KX G (c.fact 72 (f := .glo "BadLand") rfl)
    x_BadLand := exc_ev KX G e_BadLand rfl F_BadLand (C8.fnScope_by (by decide +kernel)) rfl rfl (fun _ _ _ _ _ _ us hl => match us, hl with | [_, _], _ => rfl) rfl rfl
    e_BadCount := e_BadCount
    n_BadCount := He.glo_ok KX G (c.fact 73 (f := .glo "BadCount") rfl)
    x_BadCount := exc_ev KX G e_BadCount rfl F_BadCount (C8.fnScope_by (by decide +kernel)) rfl rfl (fun _ _ _ _ _ _ us hl => match us, hl with | [_, _], _ => rfl) rfl rfl
    kt_NOUGHT := ktOf_at e_kt
    kg_NOUGHT := He.glo_ok KX G (c.fact 74 (f := .glo "NOUGHT") rfl)
    ap := ap
    tb_law := tb _ (get_some (i := 0) rfl)
    tb__law_all_refused := tb _ (get_some (i := 1) rfl)
    tb__law_planes_refused := tb _ (get_some (i := 2) rfl)
    tb__law_is_very := tb _ (get_some (i := 3) rfl)
    tn := of_decide_eq_true hx }
theorem law_ok {fd : FuncData} (F : FunD K "law" "law" (defArgs (top 106)) (defBody (top 106)) (defScope (top 106)) [] [] (He.fAd K ("law", none)) fd) (fx : FX P w K mg base) : FnOk P w K mg base (L2.CX P w) 23 (He.fAd K ("law", none)) fd ["script"] (spLaw K (TT K)) := by
  obtain ⟨oc, od, dV, kV, doc, pm, an, cdv, ct, osl, rfl, lk, hcd, hD, _⟩ := F.ex
  rcases hD with ⟨_, e⟩ | ⟨e, _⟩
  · subst e
    obtain ⟨fdS, FS⟩ := fx.d__law_stream
    have hc : cdv = .ref (He.codeOf K ("law", none)) := code_of rfl lk rfl hcd
    exact law_evD (T := TT K) (k := 21) (N := N_law) (bx := [4, 5]) (nl := 5) (m := m_law) (cal := c20) (G := GG w K) (cl := clsN K cnames) (i := 1) (y := "stream") rfl lk hcd (C8.fnScope_by (by decide +kernel)) rfl rfl (vis_b rfl) rfl (loc_b rfl) (nmem_b rfl)
      (str_ev2 (N := ["script"]) FS (C8.fnScope_by (by decide +kernel)) (vis_b rfl) rfl fx.b_list (fun _ => rfl)) rfl fx.g__law_stream FS.kp (FS.bindsN fun _ _ _ _ _ _ us hl => match us, hl with | [_], _ => rfl) (by decide) (nmem_b rfl) (hk_of (by decide +kernel))
      (fun A outer s H E bd => b_law (k := 20) fx (hh20 fx) hc bd) (fun _ => rfl) (fun _ => rfl) runs
  · exact absurd rfl e
end
theorem facts {w : World} {K : PySem.W.Frag} {mg : Str → Option Value} {h : Heap} {f : Addr} (KX : K.In h) (G : h.Ns mainGlobals mg) (hg : mg ("law" : Str) = some (.ref f)) (c : He.SaysX fa fn [] tf ex w h K) : LawAtS PySem.Challenge.rw_landscounted_k76_general_position_refuse w K (L2.CX (PySem.Challenge.rw_landscounted_k76_general_position_refuse).prog w) 23 63 "script" mg f h := by
  obtain ⟨fd, F⟩ := c.t.d.def_ 0 (d := D_law) rfl
  have e := hg.symm.trans (He.glo_ok KX G (c.t.d.fact 15 (f := .glo "law") rfl))
  cases e
  exact lawAt_of (T := TT K) c.empty c.out KX c.hd (fun s u => FunD.bindsA (ps := ["script"]) F (fun _ _ _ _ _ _ us hl => match us, hl with | [_], _ => rfl) s [u] rfl) rfl fun base hK hN hB => law_ok F (fx_of hK hN c.t.d c.more hB)
end Kk76
open PySem PySem.W PySem.Calls PyProof.Rows
theorem PySem.Challenge.cw_landscounted_k76_general_position_refuse_holds : PySem.Challenge.rw_landscounted_k76_general_position_refuse.Holds := by
  w_on; o_law
  refine HandSHeadRun.head_any (r := OpenLaw.row PySem.Challenge.rw_landscounted_k76_general_position_refuse) (q := view (OpenLaw.row PySem.Challenge.rw_landscounted_k76_general_position_refuse).prog [106]) (H := Kk76.hk) (ob := Kk76.ob) (M := 4500) (loose := Kk76.loose) (d := HandSHeadRun.topDef (OpenLaw.row PySem.Challenge.rw_landscounted_k76_general_position_refuse).prog 106) (kwd := []) Kk76.ob_eq
    (by kernel_rfl) (fun s => by kernel_rfl) Kk76.run (by kernel_rfl) (by kernel_rfl) (by kernel_rfl) (by rfl) (by first | assumption | decide +kernel) (by decide +kernel) ⟨rfl, rfl, rfl, rfl, rfl, by decide +kernel⟩ ?hw ?hc
  case hw => w_witness2
  case hc =>
    refine LamX.walk_ofTsE (l := PySem.Challenge.rw_landscounted_k76_general_position_refuse) (n := 63) (k := 23) (x := "script") (CX := fun w => L2.CX (PySem.Challenge.rw_landscounted_k76_general_position_refuse).prog w) rfl (by decide) (by kernel_rfl) ⟨rfl, by decide, by decide⟩ ?F (fun w H s e s' z => by obtain ⟨_, _, _, _, _, _, _, _, _, _, _, _, z⟩ := z; exact z)
    intro w mg fa h Y G hmg0
    obtain ⟨K, KX, c⟩ := Y
    have hmg : mg ("law" : PySem.Str) = some (.ref fa) := by
      have e : (HandSHeadRun.topDef (OpenLaw.row PySem.Challenge.rw_landscounted_k76_general_position_refuse).prog 106).name = ("law" : PySem.Str) := by kernel_rfl
      rw [← e]
      exact hmg0
    exact ⟨K, KX, Kk76.facts KX G hmg c⟩
