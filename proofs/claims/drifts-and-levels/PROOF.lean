import PyProof.Rows.All
import Wide.All
import OpenK.AllK
import Wide.FinOn
import HandS.ForMost
import HandS.Defaults
import PySem.Challenge.RW_purseahead_k10_whole_drifts_and_levels
import KE.KStateDown
import Lean
import HandS.Base
import HandS.Call
import HandS.Ends
import HandS.More
import HandS.Words
import HandS.WordsExc
import HandS.Head0
import HandS.Head1
import HandS.Head2
import HandS.HeadEnd
import HandS.HeadHook1
import HandS.HeadHook2
import HandS.EndBits
import HandS.ExcInit
import HandS.ExcIs
import HandS.ExcField
import HandS.IsInst
import HandS.TupAny
import HandS.Style
import HandS.Wide
import HandS.Walk
import HandS.RevRange
import HandS.SortInts
import HandS.Exc
import HandS.TryOnly
import HandS.ExcOwn
import HandS.Steps
import HandS.Conv
import KE.GoesEnum
import KE.SortData
import KE.KExcIs
import HandS.OwnEq
set_option Elab.async false
set_option linter.all false
set_option maxRecDepth 100000
namespace Pa
open PySem L2
def top (i : Nat) : Stmt := PySem.Challenge.pw_purseahead_k10_whole_drifts_and_levels.main.body.getD i (.Pass ⟨0, 0, 0, 0⟩)
abbrev S_Drifting_init : Stmt := inClass (top 9) 0
abbrev S_is_whole : Stmt := top 11
abbrev S_is_row : Stmt := top 12
abbrev S_check_place : Stmt := top 14
abbrev S_check_arrow : Stmt := top 15
abbrev S_reached_places : Stmt := top 16
abbrev S_Chart_init : Stmt := inClass (top 17) 0
abbrev S_Chart_outs : Stmt := inClass (top 17) 2
abbrev S_behind_places : Stmt := top 19
abbrev S_part_of : Stmt := top 20
abbrev S_parts_of : Stmt := top 21
abbrev S_within_part : Stmt := top 22
abbrev S_Drift_init : Stmt := inClass (top 24) 0
abbrev S_Drift_eq : Stmt := inClass (top 24) 1
abbrev S_arrow_gain : Stmt := top 25
abbrev S_rest_rows : Stmt := top 26
abbrev S_can_drift : Stmt := top 27
abbrev S_least_ring : Stmt := top 28
abbrev S_first_drift : Stmt := top 29
abbrev S_find_drift : Stmt := top 30
abbrev S_find_fall : Stmt := top 31
abbrev S_find_rise : Stmt := top 32
abbrev S_part_levels : Stmt := top 33
abbrev S_spread_levels : Stmt := top 34
abbrev S_is_number_row : Stmt := top 35
abbrev S_levels_fault : Stmt := top 36
abbrev S_Meter_init : Stmt := inClass (top 39) 0
abbrev S_law_mix : Stmt := top 41
abbrev S_law_hand : Stmt := top 42
abbrev S_law_draw : Stmt := top 43
abbrev S_law_exact : Stmt := top 44
abbrev S_law_take : Stmt := top 45
abbrev S_law_cost : Stmt := top 46
abbrev S_law_order : Stmt := top 47
abbrev S_law_chart : Stmt := top 48
abbrev S_law_behind : Stmt := top 49
abbrev S_law_inner : Stmt := top 50
abbrev S_law_even_row : Stmt := top 51
abbrev S_law_meter : Stmt := top 52
abbrev S_law_made : Stmt := top 53
abbrev S_law_gain : Stmt := top 54
abbrev S_law_sum : Stmt := top 55
abbrev S_law_walks : Stmt := top 56
abbrev S_law_rings : Stmt := top 57
abbrev S_law_first_ring : Stmt := top 58
abbrev S_law_couple : Stmt := top 59
abbrev S_law_levels : Stmt := top 60
abbrev S_law_fault : Stmt := top 61
abbrev S_law_told_levels : Stmt := top 62
abbrev S_law_odd_levels : Stmt := top 63
abbrev S_law_judged : Stmt := top 64
abbrev S_law : Stmt := top 65
abbrev FnP (K : PySem.W.Frag) (x q : Str) (st : Stmt) (f : Addr) (fd : FuncData) : Prop := FunD K x q (defArgs st) (defBody st) (defScope st) [] [] f fd
end Pa
set_option Elab.async false
set_option linter.all false
set_option maxRecDepth 100000
set_option maxHeartbeats 0
namespace Pa
open PySem PySem.Spec PyProof.Rows L2
def D_Drifting_init : He.DefD := ⟨("Drifting", some "__init__"), "__init__", "Drifting.__init__", defArgs S_Drifting_init, defBody S_Drifting_init, defScope S_Drifting_init, [], []⟩
def D_is_whole : He.DefD := ⟨("is_whole", none), "is_whole", "is_whole", defArgs S_is_whole, defBody S_is_whole, defScope S_is_whole, [], []⟩
def D_is_row : He.DefD := ⟨("is_row", none), "is_row", "is_row", defArgs S_is_row, defBody S_is_row, defScope S_is_row, [], []⟩
def D_check_place : He.DefD := ⟨("check_place", none), "check_place", "check_place", defArgs S_check_place, defBody S_check_place, defScope S_check_place, [], []⟩
def D_check_arrow : He.DefD := ⟨("check_arrow", none), "check_arrow", "check_arrow", defArgs S_check_arrow, defBody S_check_arrow, defScope S_check_arrow, [], []⟩
def D_reached_places : He.DefD := ⟨("reached_places", none), "reached_places", "reached_places", defArgs S_reached_places, defBody S_reached_places, defScope S_reached_places, [], []⟩
def D_Chart_init : He.DefD := ⟨("Chart", some "__init__"), "__init__", "Chart.__init__", defArgs S_Chart_init, defBody S_Chart_init, defScope S_Chart_init, [], []⟩
def D_Chart_outs : He.DefD := ⟨("Chart", some "outs"), "outs", "Chart.outs", defArgs S_Chart_outs, defBody S_Chart_outs, defScope S_Chart_outs, [], []⟩
def D_behind_places : He.DefD := ⟨("behind_places", none), "behind_places", "behind_places", defArgs S_behind_places, defBody S_behind_places, defScope S_behind_places, [], []⟩
def D_part_of : He.DefD := ⟨("part_of", none), "part_of", "part_of", defArgs S_part_of, defBody S_part_of, defScope S_part_of, [], []⟩
def D_parts_of : He.DefD := ⟨("parts_of", none), "parts_of", "parts_of", defArgs S_parts_of, defBody S_parts_of, defScope S_parts_of, [], []⟩
def D_within_part : He.DefD := ⟨("within_part", none), "within_part", "within_part", defArgs S_within_part, defBody S_within_part, defScope S_within_part, [], []⟩
def D_Drift_init : He.DefD := ⟨("Drift", some "__init__"), "__init__", "Drift.__init__", defArgs S_Drift_init, defBody S_Drift_init, defScope S_Drift_init, [], []⟩
def D_Drift_eq : He.DefD := ⟨("Drift", some "__eq__"), "__eq__", "Drift.__eq__", defArgs S_Drift_eq, defBody S_Drift_eq, defScope S_Drift_eq, [], []⟩
def D_arrow_gain : He.DefD := ⟨("arrow_gain", none), "arrow_gain", "arrow_gain", defArgs S_arrow_gain, defBody S_arrow_gain, defScope S_arrow_gain, [], []⟩
def D_rest_rows : He.DefD := ⟨("rest_rows", none), "rest_rows", "rest_rows", defArgs S_rest_rows, defBody S_rest_rows, defScope S_rest_rows, [], []⟩
def D_can_drift : He.DefD := ⟨("can_drift", none), "can_drift", "can_drift", defArgs S_can_drift, defBody S_can_drift, defScope S_can_drift, [], []⟩
def D_least_ring : He.DefD := ⟨("least_ring", none), "least_ring", "least_ring", defArgs S_least_ring, defBody S_least_ring, defScope S_least_ring, [], []⟩
def D_first_drift : He.DefD := ⟨("first_drift", none), "first_drift", "first_drift", defArgs S_first_drift, defBody S_first_drift, defScope S_first_drift, [], []⟩
def D_find_drift : He.DefD := ⟨("find_drift", none), "find_drift", "find_drift", defArgs S_find_drift, defBody S_find_drift, defScope S_find_drift, [], []⟩
def D_find_fall : He.DefD := ⟨("find_fall", none), "find_fall", "find_fall", defArgs S_find_fall, defBody S_find_fall, defScope S_find_fall, [], []⟩
def D_find_rise : He.DefD := ⟨("find_rise", none), "find_rise", "find_rise", defArgs S_find_rise, defBody S_find_rise, defScope S_find_rise, [], []⟩
def D_part_levels : He.DefD := ⟨("part_levels", none), "part_levels", "part_levels", defArgs S_part_levels, defBody S_part_levels, defScope S_part_levels, [], []⟩
def D_spread_levels : He.DefD := ⟨("spread_levels", none), "spread_levels", "spread_levels", defArgs S_spread_levels, defBody S_spread_levels, defScope S_spread_levels, [], []⟩
def D_is_number_row : He.DefD := ⟨("is_number_row", none), "is_number_row", "is_number_row", defArgs S_is_number_row, defBody S_is_number_row, defScope S_is_number_row, [], []⟩
def D_levels_fault : He.DefD := ⟨("levels_fault", none), "levels_fault", "levels_fault", defArgs S_levels_fault, defBody S_levels_fault, defScope S_levels_fault, [], []⟩
def D_Meter_init : He.DefD := ⟨("Meter", some "__init__"), "__init__", "Meter.__init__", defArgs S_Meter_init, defBody S_Meter_init, defScope S_Meter_init, [], []⟩
def D_law_mix : He.DefD := ⟨("_law_mix", none), "_law_mix", "_law_mix", defArgs S_law_mix, defBody S_law_mix, defScope S_law_mix, [], []⟩
def D_law_hand : He.DefD := ⟨("_law_hand", none), "_law_hand", "_law_hand", defArgs S_law_hand, defBody S_law_hand, defScope S_law_hand, [], []⟩
def D_law_draw : He.DefD := ⟨("_law_draw", none), "_law_draw", "_law_draw", defArgs S_law_draw, defBody S_law_draw, defScope S_law_draw, [], []⟩
def D_law_exact : He.DefD := ⟨("_law_exact", none), "_law_exact", "_law_exact", defArgs S_law_exact, defBody S_law_exact, defScope S_law_exact, [], []⟩
def D_law_take : He.DefD := ⟨("_law_take", none), "_law_take", "_law_take", defArgs S_law_take, defBody S_law_take, defScope S_law_take, [], []⟩
def D_law_cost : He.DefD := ⟨("_law_cost", none), "_law_cost", "_law_cost", defArgs S_law_cost, defBody S_law_cost, defScope S_law_cost, [], []⟩
def D_law_order : He.DefD := ⟨("_law_order", none), "_law_order", "_law_order", defArgs S_law_order, defBody S_law_order, defScope S_law_order, [], []⟩
def D_law_chart : He.DefD := ⟨("_law_chart", none), "_law_chart", "_law_chart", defArgs S_law_chart, defBody S_law_chart, defScope S_law_chart, [], []⟩
def D_law_behind : He.DefD := ⟨("_law_behind", none), "_law_behind", "_law_behind", defArgs S_law_behind, defBody S_law_behind, defScope S_law_behind, [], []⟩
def D_law_inner : He.DefD := ⟨("_law_inner", none), "_law_inner", "_law_inner", defArgs S_law_inner, defBody S_law_inner, defScope S_law_inner, [], []⟩
def D_law_even_row : He.DefD := ⟨("_law_even_row", none), "_law_even_row", "_law_even_row", defArgs S_law_even_row, defBody S_law_even_row, defScope S_law_even_row, [], []⟩
def D_law_meter : He.DefD := ⟨("_law_meter", none), "_law_meter", "_law_meter", defArgs S_law_meter, defBody S_law_meter, defScope S_law_meter, [], []⟩
def D_law_made : He.DefD := ⟨("_law_made", none), "_law_made", "_law_made", defArgs S_law_made, defBody S_law_made, defScope S_law_made, [], []⟩
def D_law_gain : He.DefD := ⟨("_law_gain", none), "_law_gain", "_law_gain", defArgs S_law_gain, defBody S_law_gain, defScope S_law_gain, [], []⟩
def D_law_sum : He.DefD := ⟨("_law_sum", none), "_law_sum", "_law_sum", defArgs S_law_sum, defBody S_law_sum, defScope S_law_sum, [], []⟩
def D_law_walks : He.DefD := ⟨("_law_walks", none), "_law_walks", "_law_walks", defArgs S_law_walks, defBody S_law_walks, defScope S_law_walks, [], []⟩
def D_law_rings : He.DefD := ⟨("_law_rings", none), "_law_rings", "_law_rings", defArgs S_law_rings, defBody S_law_rings, defScope S_law_rings, [], []⟩
def D_law_first_ring : He.DefD := ⟨("_law_first_ring", none), "_law_first_ring", "_law_first_ring", defArgs S_law_first_ring, defBody S_law_first_ring, defScope S_law_first_ring, [], []⟩
def D_law_couple : He.DefD := ⟨("_law_couple", none), "_law_couple", "_law_couple", defArgs S_law_couple, defBody S_law_couple, defScope S_law_couple, [], []⟩
def D_law_levels : He.DefD := ⟨("_law_levels", none), "_law_levels", "_law_levels", defArgs S_law_levels, defBody S_law_levels, defScope S_law_levels, [], []⟩
def D_law_fault : He.DefD := ⟨("_law_fault", none), "_law_fault", "_law_fault", defArgs S_law_fault, defBody S_law_fault, defScope S_law_fault, [], []⟩
def D_law_told_levels : He.DefD := ⟨("_law_told_levels", none), "_law_told_levels", "_law_told_levels", defArgs S_law_told_levels, defBody S_law_told_levels, defScope S_law_told_levels, [], []⟩
def D_law_odd_levels : He.DefD := ⟨("_law_odd_levels", none), "_law_odd_levels", "_law_odd_levels", defArgs S_law_odd_levels, defBody S_law_odd_levels, defScope S_law_odd_levels, [], []⟩
def D_law_judged : He.DefD := ⟨("_law_judged", none), "_law_judged", "_law_judged", defArgs S_law_judged, defBody S_law_judged, defScope S_law_judged, [], []⟩
def D_law : He.DefD := ⟨("law", none), "law", "law", defArgs S_law, defBody S_law, defScope S_law, [], []⟩
def fn0 : List He.DefD := [D_Drifting_init, D_is_whole, D_is_row, D_check_place, D_check_arrow, D_reached_places, D_Chart_init, D_Chart_outs, D_behind_places, D_part_of, D_parts_of, D_within_part, D_Drift_init, D_Drift_eq, D_arrow_gain, D_rest_rows, D_can_drift, D_least_ring, D_first_drift, D_find_drift]
def fn1 : List He.DefD := [D_find_fall, D_find_rise, D_part_levels, D_spread_levels, D_is_number_row, D_levels_fault, D_Meter_init, D_law_mix, D_law_hand, D_law_draw, D_law_exact, D_law_take, D_law_cost, D_law_order, D_law_chart, D_law_behind, D_law_inner, D_law_even_row, D_law_meter, D_law_made]
def fn2 : List He.DefD := [D_law_gain, D_law_sum, D_law_walks, D_law_rings, D_law_first_ring, D_law_couple, D_law_levels, D_law_fault, D_law_told_levels, D_law_odd_levels, D_law_judged, D_law]
def fn : List He.DefD := fn0 ++ fn1 ++ fn2
def fa0 : List He.Fa := [.glo "MeterError", .glo "BadChart", .glo "BadPlace", .glo "BadArrow", .glo "BadRing", .glo "BadMeter", .glo "Unlike", .glo "Drifting", .glo "is_whole", .glo "is_row", .glo "check_place", .glo "check_arrow", .glo "reached_places", .glo "Chart", .glo "behind_places", .glo "part_of", .glo "parts_of", .glo "within_part", .glo "Drift", .glo "arrow_gain"]
def fa1 : List He.Fa := [.glo "rest_rows", .glo "can_drift", .glo "least_ring", .glo "first_drift", .glo "find_drift", .glo "find_fall", .glo "find_rise", .glo "part_levels", .glo "spread_levels", .glo "is_number_row", .glo "levels_fault", .glo "Meter", .glo "_law_mix", .glo "_law_hand", .glo "_law_draw", .glo "_law_exact", .glo "_law_take", .glo "_law_cost", .glo "_law_order", .glo "_law_chart"]
def fa2 : List He.Fa := [.glo "_law_behind", .glo "_law_inner", .glo "_law_even_row", .glo "_law_meter", .glo "_law_made", .glo "_law_gain", .glo "_law_sum", .glo "_law_walks", .glo "_law_rings", .glo "_law_first_ring", .glo "_law_couple", .glo "_law_levels", .glo "_law_fault", .glo "_law_told_levels", .glo "_law_odd_levels", .glo "_law_judged", .glo "law", .free "isinstance", .free "int", .free "bool"]
def fa3 : List He.Fa := [.free "list", .free "tuple", .free "str", .free "len", .free "range", .free "enumerate", .free "sorted", .free "reversed", .free "sum", .free "all", .free "min", .free "max", .free "abs", .int "MOST_CHARGE" 1000000000000, .cls "Chart", .mkr "Chart", .noat "Chart" "costs", .noat "Chart" "arrows", .cls "Meter", .mkr "Meter"]
def fa4 : List He.Fa := [.noat "Meter" "chart", .noat "Meter" "first", .noat "Meter" "charges", .cls "Drift", .mkr "Drift", .noat "Drift" "ring", .noat "Drift" "by", .meth "Chart" "outs", .meth "Drift" "__eq__", .keep "Drifting", .exm "Drifting" "MeterError" true, .noat "Drifting" "ring", .noat "Drifting" "by"]
def fa : List He.Fa := fa0 ++ fa1 ++ fa2 ++ fa3 ++ fa4
def loose0 : List PySem.Str := ["_wall", "MeterError", "BadChart", "BadPlace", "BadArrow", "BadRing", "BadMeter", "Unlike", "Drifting", "is_whole", "is_row", "check_place", "check_arrow", "reached_places", "Chart", "behind_places", "part_of", "parts_of", "within_part", "Drift"]
def loose1 : List PySem.Str := ["arrow_gain", "rest_rows", "can_drift", "least_ring", "first_drift", "find_drift", "find_fall", "find_rise", "part_levels", "spread_levels", "is_number_row", "levels_fault", "MOST_CHARGE", "Meter", "_law_mix", "_law_hand", "_law_draw", "_law_exact", "_law_take", "_law_cost"]
def loose2 : List PySem.Str := ["_law_order", "_law_chart", "_law_behind", "_law_inner", "_law_even_row", "_law_meter", "_law_made", "_law_gain", "_law_sum", "_law_walks", "_law_rings", "_law_first_ring", "_law_couple", "_law_levels", "_law_fault", "_law_told_levels", "_law_odd_levels", "_law_judged"]
def loose : List PySem.Str := loose0 ++ loose1 ++ loose2
/-- what isinstance, except and the fields ask of the classes -/
def clsFacts (K : PySem.W.Frag) (D : Addr) : Bool :=
  decide (PySem.W.findIn K (.ref D) "__class__" = some (some (.builtin "object.__class__"))) &&
  (decide (PySem.W.specialIn K (.builtin "object.__class__") "__get__" = some (some (.builtin "getset_descriptor.__get__"))) &&
  (decide (PySem.W.takesIn K (.builtin "object.__class__") = some true) && decide (PySem.W.mroIn K D (.type "object") = some true)))
def oexShape (K : PySem.W.Frag) (C : Addr) : Bool := match K.lookup C with
  | some ⟨.type "type", _, .cls cd, sl⟩ => (match cd.mro, sl.toList with
    | .ref C' :: bm, [_, _, _, _, some (.builtin n), _] => C' == C && (n == "ValueError.__new__" && (!cd.hasDel && (cd.hasDict && PySem.HandSPX.refsVE bm)))
    | _, _ => false)
  | _ => false
def oexB (K : PySem.W.Frag) (C : Addr) : Bool := oexShape K C && (decide (PySem.W.findIn K (.ref C) "__setattr__" = some (some (.builtin "object.__setattr__"))) && (decide (PySem.W.typeIn K (.ref C) = some (.type "type")) &&
  (decide (PySem.W.findIn K (.ref C) "__init__" = some (some (.ref (He.fAd K ("Drifting", some "__init__"))))) && (decide (PySem.W.typeIn K (.ref (He.fAd K ("Drifting", some "__init__"))) = some (.type "function")) && (PySem.W.clsIn K C).isSome))))
def xB (K : PySem.W.Frag) : Bool :=
  clsFacts K (He.ga K "Drift") && (clsFacts K (He.ga K "Drifting") &&
  (decide (PySem.W.kitOne K (.ref (He.ga K "Drifting")) (.ref (He.ga K "Drifting")) = some true) &&
  (decide (PySem.W.kitOne K (.ref (He.ga K "Drifting")) (.ref (He.ga K "BadRing")) = some false) &&
  (decide (PySem.W.kitOne K (.ref (He.ga K "Drift")) (.ref (He.ga K "Drift")) = some true) &&
  (xfB K (He.ga K "Drifting") && oexB K (He.ga K "Drifting"))))))
abbrev AlX : Type := He.AlD × Bool
def obsX (n : Nat) (g : Addr → Option Obj) : AlX := (He.obsDG n fa fn g, xB (He.frG g (He.asD g n)))
def hookX (n : Nat) : PySem.W.Hook where
  α := AlX
  obs := fun s => obsX n s.heap.get?
  val := fun _ => (He.valD fn, true)
  says := fun _ h => ∃ K : PySem.W.Frag, K.In h ∧ He.SaysD fa fn K ∧ xB K = true
  of := fun _ _ e => ⟨_, He.frG_in, congrArg Prod.fst e, congrArg Prod.snd e⟩
  keeps := fun _ _ _ ⟨K, hK, c, d⟩ k => ⟨K, PySem.W.Frag.In.keeps hK k, c, d⟩
abbrev R : PySem.W.OpenRow := PySem.W.OpenLaw.row PySem.Challenge.rw_purseahead_k10_whole_drifts_and_levels
abbrev hk : PySem.W.Hook := hookX 5
def ob (s : PySem.W.SharedT) : AlX := obsX 5 (HandSHeadRun.getT s)
theorem ob_eq (s : PySem.W.SharedT) : ob s = hk.obs s.abs := by
  have e : HandSHeadRun.getT s = s.abs.heap.get? := funext fun a => HandSHeadRun.getT_eq s a
  unfold ob
  rw [e]
  rfl
theorem run (w : World) : HandSHeadRun.RunEq R (PySem.W.view R.prog [65]) hk ob 8000 loose w := by
  intro os
  kernel_rfl
end Pa

set_option Elab.async false
set_option linter.all false
set_option maxRecDepth 100000
set_option maxHeartbeats 4000000
/-! THE LAYER: an immutable known part I, a list M of what may change; rules by single steps -/
namespace Pa
open PySem L2
abbrev Mu := List (Addr × HO)
/-- the heap H: what I knows stands; M is what may change, apart from I and from each other -/
structure Mem (I : Hp) (M : Mu) (H : Hp) : Prop where
  ex : Same I H
  im : ∀ p ∈ M, I p.1 = none
  mu : ∀ p ∈ M, H p.1 = some p.2
  nd : (M.map (·.1)).Nodup
theorem Same.sqt {K : PySem.W.Frag} {H H' : Hp} {a : Addr} {xs : List V} (e : Same H H') (h : SqT K H a xs) : SqT K H' a xs := by
  rcases h with (h | ⟨o, h⟩) | h
  · exact .inl (.inl (e _ _ h))
  · exact .inl (.inr ⟨o, e _ _ h⟩)
  · exact .inr h
theorem Same.new {H : Hp} {p : Addr} {o : HO} (h : H p = none) : Same H (upd H p o) := fun a u e => by
  rw [upd_ne (ne_of_none e h)]
  exact e
section
variable {K : PySem.W.Frag} {I N H : Hp} {M : Mu} {p l : Addr} {o u : HO} {xs : List V}
theorem Mem.sql (m : Mem I M H) (h : SqL K I p xs) : SqL K H p xs := m.ex.seq h
theorem Mem.sqt (m : Mem I M H) (h : SqT K I p xs) : SqT K H p xs := Same.sqt m.ex h
theorem Mem.at (m : Mem I M H) {j : Nat} (h : M[j]? = some (l, o)) : H l = some o := m.mu (l, o) (List.mem_of_getElem? h)
theorem Mem.free (m : Mem I M H) (h : H p = none) : I p = none := m.ex.free h
theorem Mem.back (e : Same I N) (m : Mem N M H) : Mem I M H := ⟨e.trans m.ex, fun q hq => e.free (m.im q hq), m.mu, m.nd⟩
theorem Mem.notin (m : Mem I M H) (h : H p = none) : p ∉ M.map (·.1) := fun hq => by
  obtain ⟨q, hq, e⟩ := List.mem_map.mp hq
  have := m.mu q hq
  rw [e, h] at this
  cases this
theorem Mem.tmp (m : Mem I M H) (h : H p = none) : Mem I M (upd H p o) :=
  ⟨m.ex.trans (Same.new h), m.im, fun q hq => by rw [upd_ne (ne_of_none (m.mu q hq) h)]; exact m.mu q hq, m.nd⟩
theorem Mem.imm (m : Mem I M H) (h : H p = none) : Mem (upd I p o) M (upd H p o) := by
  refine ⟨fun a u e => ?_, fun q hq => ?_, fun q hq => by rw [upd_ne (ne_of_none (m.mu q hq) h)]; exact m.mu q hq, m.nd⟩
  · by_cases hb : a = p
    · subst hb
      rw [upd_same] at e ⊢
      exact e
    · rw [upd_ne hb] at e ⊢
      exact m.ex a u e
  · rw [upd_ne (ne_of_none (m.mu q hq) h)]
    exact m.im q hq
theorem Mem.new (m : Mem I M H) (h : H p = none) : Mem I ((p, o) :: M) (upd H p o) := by
  refine ⟨m.ex.trans (Same.new h), fun q hq => ?_, fun q hq => ?_, List.nodup_cons.mpr ⟨m.notin h, m.nd⟩⟩
  · rcases List.mem_cons.mp hq with e | hq
    · subst e
      exact m.free h
    · exact m.im q hq
  · rcases List.mem_cons.mp hq with e | hq
    · subst e
      exact upd_same
    · rw [upd_ne (ne_of_none (m.mu q hq) h)]
      exact m.mu q hq
theorem mem_set_ne {M : Mu} {j : Nat} (nd : (M.map (·.1)).Nodup) (h : M[j]? = some (l, u)) {q : Addr × HO} (hq : q ∈ M.set j (l, o)) : q = (l, o) ∨ (q ∈ M ∧ q.1 ≠ l) := by
  obtain ⟨i, hi⟩ := List.mem_iff_getElem?.mp hq
  rw [List.getElem?_set] at hi
  by_cases hj : j = i
  · rw [if_pos hj] at hi
    split at hi
    · exact .inl (Option.some.inj hi).symm
    · cases hi
  · rw [if_neg hj] at hi
    refine .inr ⟨List.mem_of_getElem? hi, fun e => hj ?_⟩
    have h1 : (M.map (·.1))[j]? = some l := by rw [List.getElem?_map, h]; rfl
    have h2 : (M.map (·.1))[i]? = some l := by rw [List.getElem?_map, hi, ← e]; rfl
    exact nd_ix nd h1 h2
theorem Mem.set (m : Mem I M H) {j : Nat} (h : M[j]? = some (l, u)) : Mem I (M.set j (l, o)) (upd H l o) := by
  have hl : I l = none := m.im _ (List.mem_of_getElem? h)
  refine ⟨fun a v e => ?_, fun q hq => ?_, fun q hq => ?_, ?_⟩
  · rw [upd_ne (ne_of_none e hl)]
    exact m.ex a v e
  · rcases mem_set_ne m.nd h hq with e | ⟨hq, _⟩
    · subst e
      exact hl
    · exact m.im q hq
  · rcases mem_set_ne m.nd h hq with e | ⟨hq, ne⟩
    · subst e
      exact upd_same
    · rw [upd_ne ne]
      exact m.mu q hq
  · have e : (M.set j (l, o)).map (·.1) = M.map (·.1) := by
      rw [List.map_set]
      refine List.ext_getElem? fun i => ?_
      rw [List.getElem?_set]
      by_cases hj : j = i
      · subst hj
        rw [if_pos rfl]
        have h1 : (M.map (·.1))[j]? = some l := by rw [List.getElem?_map, h]; rfl
        rw [h1]
        obtain ⟨hlt, _⟩ := List.getElem?_eq_some_iff.mp h1
        rw [if_pos hlt]
      · rw [if_neg hj]
    rw [e]
    exact m.nd
theorem Mem.frz (m : Mem I ((p, o) :: M) H) : Mem (upd I p o) M H := by
  have nd := List.nodup_cons.mp (show (p :: M.map (·.1)).Nodup from m.nd)
  have ne : ∀ q ∈ M, q.1 ≠ p := fun q hq e => nd.1 (e ▸ List.mem_map.mpr ⟨q, hq, rfl⟩)
  refine ⟨fun a v e => ?_, fun q hq => by rw [upd_ne (ne q hq)]; exact m.im q (.tail _ hq), fun q hq => m.mu q (.tail _ hq), nd.2⟩
  by_cases hb : a = p
  · subst hb
    rw [upd_same] at e
    rw [← e]
    exact m.mu (a, o) (.head _)
  · rw [upd_ne hb] at e
    exact m.ex a v e
theorem Mem.frz_same (m : Mem I ((p, o) :: M) H) : Same I (upd I p o) := Same.new (m.im (p, o) (.head _))
theorem Mem.sub {M' : Mu} (m : Mem I M H) (h : M'.Sublist M) : Mem I M' H := ⟨m.ex, fun q hq => m.im q (h.subset hq), fun q hq => m.mu q (h.subset hq), (h.map _).nodup m.nd⟩
theorem Mem.drop (m : Mem I ((p, o) :: M) H) : Mem I M H := m.sub (List.sublist_cons_self _ _)
theorem Mem.perm {M' : Mu} (m : Mem I M H) (h : M.Perm M') : Mem I M' H := ⟨m.ex, fun q hq => m.im q (h.mem_iff.mpr hq), fun q hq => m.mu q (h.mem_iff.mpr hq), ((h.map _).nodup_iff).mp m.nd⟩
theorem Mem.swap {a b : Addr × HO} (m : Mem I (a :: b :: M) H) : Mem I (b :: a :: M) H := m.perm (List.Perm.swap b a M)
end
/-- a def's promise: I what is known, M what may change (the frame within), R what is handed back -/
def spM (Pre : List V → Hp → Mu → (V → Hp → Mu → Prop) → Prop) : Sp := fun vs H Q _ => ∃ I M R, Pre vs I M R ∧ Mem I M H ∧ ∀ v N M' H', Same I N → Mem N M' H' → R v N M' → Q v H'
/-- nothing changes, a value that is no new object -/
def spV (Pre : List V → Hp → V → Prop) : Sp := fun vs H Q _ => ∃ I M v, Pre vs I v ∧ Mem I M H ∧ ∀ H', Mem I M H' → Q v H'
/-- nothing changes; a new object may be handed back -/
def spN (Pre : List V → Hp → (V → Hp → Prop) → Prop) : Sp := fun vs H Q _ => ∃ I M R, Pre vs I R ∧ Mem I M H ∧ ∀ v N H', Same I N → Mem N M H' → R v N → Q v H'
/-- a def by its global name -/
def FnAt (P : Program) (w : World) (K : PySem.W.Frag) (mg : Str → Option Value) (base : Heap) (x : Str) (k : Nat) (ps : List Str) (sp : Sp) : Prop :=
  ∃ (f : Addr) (fd : FuncData), mg x = some (.ref f) ∧ PySem.W.keepIn K (.ref f) = true ∧ Binds K fd ps [] ∧ FnOk P w K mg base CX0 k f fd ps sp
section
variable {X : Cx} {t : TA} {x : Str} {p pos : Pos} {k : Nat} {ps : List Str} {sp : Sp} {e : Expr} {es : List Expr}
theorem pe_fn (G : FnAt X.prog X.w X.K X.mg X.base x k ps sp) (hr : Room k X.A) (ha : PA X (e :: es) t) (hg : Gl X x := by rfl)
    (hdb : (x == ("__debug__" : Str)) = false := by decide) (he : starEach (e :: es) X.env = (false, eval e X.env) :: starEach es X.env := by rfl) (hpl : (backTo pos (starEach es X.env)).any (·.1) = false := by rfl) :
    PE X (.Call (.Name x p) (e :: es) [] pos) (tCall sp [] E0 t) := by
  obtain ⟨f, fd, h1, h2, h3, h4⟩ := G
  exact pe_call h4 hr hg h1 h2 h3 .nil pass0 ha hdb he hpl
theorem pe_globI {i : Int} (h : ∃ t, X.mg x = some (.int i t)) (hg : Gl X x := by rfl) (hd : (x == ("__debug__" : Str)) = false := by decide) : PE X (.Name x pos) (tC (.int i)) := by
  obtain ⟨u, h⟩ := h
  exact pe_glob hg h ⟨u, rfl⟩ hd
end
end Pa

set_option Elab.async false
set_option linter.all false
set_option maxRecDepth 100000
set_option maxHeartbeats 4000000
namespace Pa
open PySem L2
/-! ### one thing of M, found -/
def Foc (M : Mu) (l : Addr) (u : HO) (f : HO → Mu) : Prop := ∃ j, M[j]? = some (l, u) ∧ ∀ o, f o = M.set j (l, o)
theorem foc0 {l : Addr} {u : HO} {M : Mu} : Foc ((l, u) :: M) l u (fun o => (l, o) :: M) := ⟨0, rfl, fun _ => rfl⟩
theorem focS {a : Addr × HO} {l : Addr} {u : HO} {M : Mu} {f : HO → Mu} (h : Foc M l u f) : Foc (a :: M) l u (fun o => a :: f o) := by
  obtain ⟨j, h1, h2⟩ := h
  exact ⟨j + 1, h1, fun o => by show a :: f o = a :: M.set j (l, o); rw [h2]⟩
theorem Foc.at {I H : Hp} {M : Mu} {l : Addr} {u : HO} {f : HO → Mu} (h : Foc M l u f) (m : Mem I M H) : H l = some u := by
  obtain ⟨j, h1, _⟩ := h
  exact m.at h1
theorem Foc.set {I H : Hp} {M : Mu} {l : Addr} {u o : HO} {f : HO → Mu} (h : Foc M l u f) (m : Mem I M H) : Mem I (f o) (upd H l o) := by
  obtain ⟨j, h1, h2⟩ := h
  rw [h2]
  exact m.set h1
theorem Foc.none {I H : Hp} {M : Mu} {l : Addr} {u : HO} {f : HO → Mu} (h : Foc M l u f) (m : Mem I M H) : I l = none := by
  obtain ⟨j, h1, _⟩ := h
  exact m.im _ (List.mem_of_getElem? h1)
/-- a list or a tuple -/
def SqE (K : PySem.W.Frag) (H : Hp) (a : Addr) (xs : List V) : Prop := SqL K H a xs ∨ SqT K H a xs
theorem Same.sqe {K : PySem.W.Frag} {H H' : Hp} {a : Addr} {xs : List V} (e : Same H H') (h : SqE K H a xs) : SqE K H' a xs := h.elim (fun h => .inl (e.seq h)) fun h => .inr (Same.sqt e h)
local macro_rules | `(tactic| walk_at "fo") => `(tactic| first | exact foc0 | exact focS (by walk_at "fo"))
local macro_rules | `(tactic| walk_at "sq") => `(tactic| first
  | assumption
  | exact SqL.of (by assumption)
  | exact SqT.of (by assumption)
  | exact Or.inl (by assumption)
  | exact Or.inr (by assumption)
  | exact Or.inl (SqL.of (by assumption))
  | exact Or.inr (SqT.of (by assumption))
  | (refine Same.seq (by assumption) ?_; walk_at "sq")
  | (refine Same.sqt (by assumption) ?_; walk_at "sq")
  | (refine Same.sqe (by assumption) ?_; walk_at "sq")
  | (refine (by assumption : Same _ _) _ _ ?_; walk_at "sq"))
section
variable {K : PySem.W.Frag} {I N H : Hp} {M : Mu} {p l a : Addr} {o u : HO} {xs ys : List V} {σ : St} {ta tb te tc : TE} {t : TA} {tt tu : TT} {D : Ends} {s1 s2 : TS} {g : TG} {gs : TGs} {x y v : V} {i j : Int} {Q : VK} {QB : Bool → Hp → Prop} {QA : List V → Hp → Prop} {QS : St → Hp → Prop}
/-! ### statements -/
theorem w_seq (h : s1 { D with nx := s2 D } σ H) : tSeq s1 s2 D σ H := h
theorem w_next (h : D.nx σ H) : tNext D σ H := h
theorem w_brk (h : D.bk σ H) : tBreak D σ H := h
theorem w_asg (h : te σ H fun x H1 => g x σ H1 D.nx) : tAsg te g D σ H := h
theorem w_ret (h : te σ H D.rt) : tRet te D σ H := h
theorem w_drop (h : te σ H fun _ H1 => D.nx σ H1) : tDrop te D σ H := h
theorem w_if (h : tt σ H fun b H1 => if b = true then s1 D σ H1 else s2 D σ H1) : tIfS tt s1 s2 D σ H := h
theorem w_gname {n : Nat} (h : QS (σ.set n (some v)) H) : gName n v σ H QS := h
theorem w_gsub {t3 : TSet} (h : ta σ H fun o H1 => tb σ H1 fun i H2 => t3 o i v H2 fun H3 => QS σ H3) : gSub ta tb t3 v σ H QS := h
theorem w_gnil (h : QS σ H) : gNil [] σ H QS := ⟨rfl, h⟩
theorem w_gcons {r : List V} (h : g v σ H fun σ' H' => gs r σ' H' QS) : gCons g gs (v :: r) σ H QS := ⟨v, r, rfl, h⟩
theorem w_gtup {n : Nat} (h : SqT K H a xs) (hl : xs.length = n) (q : gs xs σ H QS) : gTup K n gs (.ref a) σ H QS := ⟨a, xs, rfl, h, hl, q⟩
theorem w_aug {n : Nat} {ti : TIp} (hx : σ[n]? = some (some x)) (h : te σ H fun y H1 => ti x y H1 fun z H2 => D.nx (σ.set n (some z)) H2) : tAug n te ti D σ H := ⟨x, hx, h⟩
theorem w_ipI {f : Int → Int → Int} (q : Q (.int (f i j)) H) : ipI f (.int i) (.int j) H Q := ⟨i, j, rfl, rfl, q⟩
/-! ### values -/
theorem w_var {n : Nat} (h : σ[n]? = some (some v)) (q : Q v H) : tVar n σ H Q := ⟨v, h, q⟩
theorem w_c (q : Q v H) : tC v σ H Q := q
theorem w_op {r : R2} (h : ta σ H fun x H1 => tb σ H1 fun y H2 => r x y H2 Q) : tOp r ta tb σ H Q := h
theorem w_un {r : V → Hp → VK → Prop} (h : ta σ H fun x H1 => r x H1 Q) : tUn r ta σ H Q := h
theorem w_I0 {f : Int → Int → V} (q : Q (f i j) H) : rI0 f (.int i) (.int j) H Q := ⟨i, j, rfl, rfl, q⟩
theorem w_I {C : Int → Int → Prop} {f : Int → Int → V} (hc : C i j) (q : Q (f i j) H) : rI C f (.int i) (.int j) H Q := ⟨i, j, rfl, rfl, hc, q⟩
theorem w_U {f : Int → V} (q : Q (f i) H) : rU f (.int i) H Q := ⟨i, rfl, q⟩
theorem w_eq (hs : scal x y = true) (q : Q (.bl (decide (x = y))) H) : rEq x y H Q := ⟨hs, q⟩
theorem w_ne (hs : scal x y = true) (q : Q (.bl (!decide (x = y))) H) : rNe x y H Q := ⟨hs, q⟩
theorem w_eqI (q : Q (.bl (decide (i = j))) H) : rEq (.int i) (.int j) H Q := by
  refine ⟨rfl, ?_⟩
  have e : decide (V.int i = V.int j) = decide (i = j) := by
    by_cases h : i = j
    · subst h
      simp
    · rw [decide_eq_false h, decide_eq_false fun z => h (V.int.inj z)]
  rw [e]
  exact q
theorem w_neI (q : Q (.bl (!decide (i = j))) H) : rNe (.int i) (.int j) H Q := by
  refine ⟨rfl, ?_⟩
  have e : decide (V.int i = V.int j) = decide (i = j) := by
    by_cases h : i = j
    · subst h
      simp
    · rw [decide_eq_false h, decide_eq_false fun z => h (V.int.inj z)]
  rw [e]
  exact q
theorem w_isN (q : Q (.bl (decide (x = .non))) H) : rIsN x .non H Q := ⟨rfl, q⟩
theorem w_notN (q : Q (.bl (!decide (x = .non))) H) : rNotN x .non H Q := ⟨rfl, q⟩
theorem w_isB {b c : Bool} (q : Q (.bl (decide (b = c))) H) : rIsB (.bl b) (.bl c) H Q := ⟨b, c, rfl, rfl, q⟩
theorem w_cons {tr : TA} (h : ta σ H fun x H1 => tr σ H1 fun xs H2 => QA (x :: xs) H2) : tCons ta tr σ H QA := h
theorem w_nil (h : QA [] H) : tNil σ H QA := h
theorem w_cb {r : List V → Hp → VK → Prop} (h : t σ H fun vs H1 => r vs H1 Q) : tCB r t σ H Q := h
theorem w_call {sp : Sp} {E : XK} (h : t σ H fun vs H1 => sp (vs ++ []) H1 Q E) : tCall sp [] E t σ H Q := h
theorem w_andV (h : ta σ H fun x H1 => ∃ c, x = .bl c ∧ if c = true then tb σ H1 Q else Q (.bl false) H1) : tAndV ta tb σ H Q := h
theorem w_orV (h : ta σ H fun x H1 => ∃ c, x = .bl c ∧ if c = true then Q (.bl true) H1 else tb σ H1 Q) : tOrV ta tb σ H Q := h
theorem w_notV (h : ta σ H fun x H1 => ∃ c, x = .bl c ∧ Q (.bl (!c)) H1) : tNotV ta σ H Q := h
theorem w_bl {b : Bool} {P : Bool → Prop} (q : P b) : ∃ c, V.bl b = .bl c ∧ P c := ⟨b, rfl, q⟩
theorem w_ifE (h : tt σ H fun c H1 => if c = true then ta σ H1 Q else tb σ H1 Q) : tIf tt ta tb σ H Q := h
theorem w_chain {r r' : R2} (h : ta σ H fun x H1 => tb σ H1 fun y H2 => r x y H2 fun z H3 => ∃ k, z = .bl k ∧ (if k = true then tc σ H3 fun w' H4 => r' y w' H4 Q else Q (.bl false) H3)) : tChain r r' ta tb tc σ H Q := h
/-! ### tests -/
theorem w_test (h : te σ H fun x H' => ∃ k, x = .bl k ∧ QB k H') : tTest te σ H QB := h
theorem w_B (h : te σ H fun x H' => ∃ k, x = .bl k ∧ QB k H') : tB te σ H QB := h
theorem w_and (h : tt σ H fun c H1 => if c = true then tu σ H1 QB else QB false H1) : tAnd tt tu σ H QB := h
theorem w_or (h : tt σ H fun c H1 => if c = true then QB true H1 else tu σ H1 QB) : tOr tt tu σ H QB := h
theorem w_not (h : tt σ H fun c H1 => QB (!c) H1) : tNot tt σ H QB := h
theorem w_ite {c A B : Prop} [Decidable c] (h1 : c → A) (h2 : ¬ c → B) : if decide c = true then A else B := by
  by_cases h : c
  · rw [decide_eq_true h]
    exact iteT (h1 h)
  · rw [decide_eq_false h]
    exact iteF (h2 h)
theorem w_iteN {c A B : Prop} [Decidable c] (h1 : ¬ c → A) (h2 : c → B) : if (!decide c) = true then A else B := by
  by_cases h : c
  · rw [decide_eq_true h]
    exact iteF (h2 h)
  · rw [decide_eq_false h]
    exact iteT (h1 h)
theorem w_iteB {b : Bool} {A B : Prop} (h1 : b = true → A) (h2 : b = false → B) : if b = true then A else B := by
  cases b with
  | true => exact iteT (h1 rfl)
  | false => exact iteF (h2 rfl)
theorem w_iteNB {b : Bool} {A B : Prop} (h1 : b = false → A) (h2 : b = true → B) : if (!b) = true then A else B := by
  cases b with
  | true => exact iteF (h2 rfl)
  | false => exact iteT (h1 rfl)
/-! ### the heap read -/
theorem w_ixL (hm : Mem I M H) (h : SqL K I p xs) (ha : atI xs i = some v) (q : Q v H) : rIxL K (.ref p) (.int i) H Q := ⟨p, xs, i, v, rfl, rfl, hm.sql h, ha, q⟩
theorem w_ixT (hm : Mem I M H) (h : SqT K I p xs) (ha : atI xs i = some v) (q : Q v H) : rIxT K (.ref p) (.int i) H Q := ⟨p, xs, i, v, rfl, rfl, hm.sqt h, ha, q⟩
theorem w_ixE (hm : Mem I M H) (h : SqE K I p xs) (ha : atI xs i = some v) (q : Q v H) : rIx K (.ref p) (.int i) H Q :=
  h.elim (fun h => .inl (w_ixL hm h ha q)) fun h => .inr (.inl (w_ixT hm h ha q))
theorem w_ixM {f : HO → Mu} (hm : Mem I M H) (hf : Foc M p (.lst xs) f) (ha : atI xs i = some v) (q : Q v H) : rIxL K (.ref p) (.int i) H Q := ⟨p, xs, i, v, rfl, rfl, SqL.of (hf.at hm), ha, q⟩
def rAt (K : PySem.W.Frag) (f : Str) : V → Hp → VK → Prop := fun x H Q => ∃ a C dx fs v, x = .ref a ∧ H a = some (.ins C dx fs) ∧ Cls K C ∧ NoAttr K C f ∧ fs.lookup f = some v ∧ Q v H
theorem w_fld {f : Str} (h : ta σ H fun x H1 => rAt K f x H1 Q) : tFld K ta f σ H Q := h
theorem w_ins {C dx : Addr} {fs : List (Str × V)} {f : Str} (hm : Mem I M H) (h : I a = some (.ins C dx fs)) (hc : Cls K C) (hn : NoAttr K C f) (hl : fs.lookup f = some v) (q : Q v H) : rAt K f (.ref a) H Q := ⟨a, C, dx, fs, v, rfl, hm.ex _ _ h, hc, hn, hl, q⟩
theorem w_insM {C dx : Addr} {fs : List (Str × V)} {f : Str} {F : HO → Mu} (hm : Mem I M H) (h : Foc M a (.ins C dx fs) F) (hc : Cls K C) (hn : NoAttr K C f) (hl : fs.lookup f = some v) (q : Q v H) : rAt K f (.ref a) H Q := ⟨a, C, dx, fs, v, rfl, h.at hm, hc, hn, hl, q⟩
theorem w_in {neg : Bool} (hm : Mem I M H) (h : SqE K I p xs) (hx : flatV x = true) (hf : xs.all flatV = true) (q : Q (.bl (if neg then !inV x xs else inV x xs)) H) : rIn K neg x (.ref p) H Q :=
  ⟨p, xs, rfl, h.elim (fun h => .inl (hm.sql h)) (fun h => .inr (hm.sqt h)), hx, hf, q⟩
theorem w_inM {neg : Bool} {f : HO → Mu} (hm : Mem I M H) (h : Foc M p (.lst xs) f) (hx : flatV x = true) (hf : xs.all flatV = true) (q : Q (.bl (if neg then !inV x xs else inV x xs)) H) : rIn K neg x (.ref p) H Q :=
  ⟨p, xs, rfl, .inl (SqL.of (h.at hm)), hx, hf, q⟩
def rLen1 (K : PySem.W.Frag) : List V → Hp → VK → Prop := fun xs H Q => ∃ p ys, xs = [.ref p] ∧ (SqL K H p ys ∨ SqT K H p ys) ∧ Q (.int ys.length) H
theorem w_len (hm : Mem I M H) (h : SqE K I p xs) (q : Q (.int xs.length) H) : rLen1 K [.ref p] H Q := ⟨p, xs, rfl, h.elim (fun h => .inl (hm.sql h)) (fun h => .inr (hm.sqt h)), q⟩
theorem w_lenM {f : HO → Mu} (hm : Mem I M H) (h : Foc M p (.lst xs) f) (q : Q (.int xs.length) H) : rLen1 K [.ref p] H Q := ⟨p, xs, rfl, .inl (SqL.of (h.at hm)), q⟩
def rAbs1 : List V → Hp → VK → Prop := fun xs H Q => ∃ i, xs = [.int i] ∧ Q (.int (if i < 0 then -i else i)) H
theorem w_abs (q : Q (.int (if i < 0 then -i else i)) H) : rAbs1 [.int i] H Q := ⟨i, rfl, q⟩
def rMaxB : List V → Hp → VK → Prop := fun xs H Q => ∃ i j, xs = [.int i, .int j] ∧ Q (.int (if j > i then j else i)) H
def rMinB : List V → Hp → VK → Prop := fun xs H Q => ∃ i j, xs = [.int i, .int j] ∧ Q (.int (if j < i then j else i)) H
theorem w_maxB (q : Q (.int (if j > i then j else i)) H) : rMaxB [.int i, .int j] H Q := ⟨i, j, rfl, q⟩
theorem w_minB (q : Q (.int (if j < i then j else i)) H) : rMinB [.int i, .int j] H Q := ⟨i, j, rfl, q⟩
def rInt1 : List V → Hp → VK → Prop := fun xs H Q => (∃ i, xs = [.int i] ∧ Q (.int i) H) ∨ ∃ k, xs = [.bl k] ∧ Q (.int (if k then 1 else 0)) H
theorem w_int (q : Q (.int i) H) : rInt1 [.int i] H Q := .inl ⟨i, rfl, q⟩
def rTruB (K : PySem.W.Frag) : V → Hp → (Bool → Hp → Prop) → Prop := fun x H Q => ∃ k, TruV K x H k ∧ Q k H
theorem w_tru (h : ta σ H fun x H' => rTruB K x H' QB) : tTru K ta σ H QB := h
theorem w_truM {f : HO → Mu} (hm : Mem I M H) (h : Foc M p (.lst xs) f) (q : QB (!xs.isEmpty) H) : rTruB K (.ref p) H QB := ⟨_, .inl ⟨xs, SqL.of (h.at hm), rfl⟩, q⟩
theorem w_truL (hm : Mem I M H) (h : SqL K I p xs) (q : QB (!xs.isEmpty) H) : rTruB K (.ref p) H QB := ⟨_, .inl ⟨xs, hm.sql h, rfl⟩, q⟩
theorem w_sum {ns : List Int} (hm : Mem I M H) (h : SqL K I p (ns.map V.int)) (q : Q (.int ns.sum) H) : rSum K [.ref p] H Q := ⟨p, ns, rfl, hm.sql h, q⟩
theorem w_sumM {ns : List Int} {f : HO → Mu} (hm : Mem I M H) (h : Foc M p (.lst (ns.map V.int)) f) (q : Q (.int ns.sum) H) : rSum K [.ref p] H Q := ⟨p, ns, rfl, SqL.of (h.at hm), q⟩
theorem w_allM {bs : List Bool} {f : HO → Mu} (hm : Mem I M H) (h : Foc M p (.lst (bs.map V.bl)) f) (q : Q (.bl (bs.all id)) H) : rAll K [.ref p] H Q := ⟨p, bs, rfl, SqL.of (h.at hm), q⟩
/-! ### the heap written -/
def rTup : List V → Hp → VK → Prop := fun xs H Q => xs.length ≤ sizeLine ∧ ∀ p, H p = none → Q (.ref p) (upd H p (.tup xs))
def rLst : List V → Hp → VK → Prop := fun xs H Q => xs.length ≤ sizeLine ∧ ∀ p, H p = none → Q (.ref p) (upd H p (.lst xs))
theorem w_tupE (h : t σ H fun xs H1 => rTup xs H1 Q) : tTup t σ H Q := h
theorem w_lstE (h : t σ H fun xs H1 => rLst xs H1 Q) : tLst t σ H Q := h
theorem w_tup (hm : Mem I M H) (hl : xs.length ≤ sizeLine) (q : ∀ p N H', Same I N → N p = some (.tup xs) → Mem N M H' → Q (.ref p) H') : rTup xs H Q :=
  ⟨hl, fun p hp => q p _ _ (Same.new (hm.free hp)) upd_same (hm.imm hp)⟩
theorem w_lst (hm : Mem I M H) (hl : xs.length ≤ sizeLine) (q : ∀ p H', Mem I ((p, .lst xs) :: M) H' → Q (.ref p) H') : rLst xs H Q := ⟨hl, fun p hp => q p _ (hm.new hp)⟩
theorem w_lstI (hm : Mem I M H) (hl : xs.length ≤ sizeLine) (q : ∀ p N H', Same I N → N p = some (.lst xs) → Mem N M H' → Q (.ref p) H') : rLst xs H Q :=
  ⟨hl, fun p hp => q p _ _ (Same.new (hm.free hp)) upd_same (hm.imm hp)⟩
theorem w_slL {lo hi : Option Int} (hm : Mem I M H) (h : SqL K I a xs) (q : ∀ p H', Mem I ((p, .lst (cutV xs lo hi)) :: M) H' → Q (.ref p) H') : rSlL K (.ref a) lo hi H Q := ⟨a, xs, rfl, hm.sql h, fun p hp => q p _ (hm.new hp)⟩
theorem w_slM {lo hi : Option Int} {f : HO → Mu} (hm : Mem I M H) (h : Foc M a (.lst xs) f) (q : ∀ p H', Mem I ((p, .lst (cutV xs lo hi)) :: M) H' → Q (.ref p) H') : rSlL K (.ref a) lo hi H Q := ⟨a, xs, rfl, SqL.of (h.at hm), fun p hp => q p _ (hm.new hp)⟩
theorem w_frz {o : HO} {P : Prop} (hm : Mem I ((p, o) :: M) H) (q : ∀ N, Same I N → N p = some o → Mem N M H → P) : P := q _ hm.frz_same upd_same hm.frz
theorem w_bm {T : String} {r : V → List V → Hp → VK → Prop} (h : ta σ H fun x H1 => tyV K T x H1 ∧ t σ H1 fun xs H2 => r x xs H2 Q) : tBM K T r ta t σ H Q := h
theorem w_bm0 {T : String} {r : V → List V → Hp → VK → Prop} (h : ta σ H fun x H1 => tyV K T x H1 ∧ r x [] H1 Q) : tBM0 K T r ta σ H Q := h
theorem w_tyL {f : HO → Mu} {P : Prop} (hm : Mem I M H) (hf : Foc M l (.lst xs) f) (q : P) : tyV K "list" (.ref l) H ∧ P := ⟨.inl ⟨rfl, _, SqL.of (hf.at hm)⟩, q⟩
theorem w_app {f : HO → Mu} (hm : Mem I M H) (hf : Foc M l (.lst xs) f) (hz : xs.length < sizeLine) (q : ∀ H', Mem I (f (.lst (xs ++ [y]))) H' → Q .non H') : rAppend (.ref l) [y] H Q :=
  ⟨l, xs, y, rfl, rfl, hf.at hm, hz, q _ (hf.set hm)⟩
theorem w_pop {f : HO → Mu} (hm : Mem I M H) (hf : Foc M l (.lst xs) f) (hy : xs[xs.length - 1]? = some y) (q : ∀ H', Mem I (f (.lst xs.dropLast)) H' → Q y H') : rPop (.ref l) [] H Q :=
  ⟨l, xs, y, rfl, rfl, hf.at hm, hy, q _ (hf.set hm)⟩
theorem w_popAt {f : HO → Mu} {k : Nat} (hm : Mem I M H) (hf : Foc M l (.lst xs) f) (h1 : -(2 ^ 63) ≤ i) (h2 : i < 2 ^ 63) (hk : seqIndex? i xs.length = some k) (hy : xs[k]? = some y) (q : ∀ H', Mem I (f (.lst (xs.eraseIdx k))) H' → Q y H') :
    rPopAt (.ref l) [.int i] H Q := ⟨l, xs, i, k, y, rfl, rfl, hf.at hm, h1, h2, hk, hy, q _ (hf.set hm)⟩
theorem w_setL {f : HO → Mu} {k : Nat} {QH : Hp → Prop} (hm : Mem I M H) (hf : Foc M l (.lst xs) f) (hk : ixN xs.length i = some k) (q : ∀ H', Mem I (f (.lst (xs.set k v))) H' → QH H') : rSetL (.ref l) (.int i) v H QH :=
  ⟨l, xs, i, k, rfl, rfl, hf.at hm, hk, q _ (hf.set hm)⟩
theorem w_rep {k : Int} (hm : Mem I M H) {f : HO → Mu} (hf : Foc M l (.lst xs) f) (h1 : -(2 ^ 63) ≤ k) (h2 : k < 2 ^ 63) (hz : xs.length * k.toNat ≤ sizeLine) (q : ∀ p H', Mem I ((p, .lst (List.replicate k.toNat xs).flatten) :: M) H' → Q (.ref p) H') : rRep (.ref l) (.int k) H Q :=
  ⟨l, k, xs, rfl, rfl, hf.at hm, h1, h2, hz, fun p hp => q p _ (hm.new hp)⟩
theorem w_cat (hm : Mem I M H) (h1 : H a = some (.lst xs)) (h2 : H p = some (.lst ys)) (hz : xs.length + ys.length ≤ sizeLine) (q : ∀ p H', Mem I ((p, .lst (xs ++ ys)) :: M) H' → Q (.ref p) H') : rCat (.ref a) (.ref p) H Q :=
  ⟨a, p, xs, ys, rfl, rfl, h1, h2, hz, fun p hp => q p _ (hm.new hp)⟩
theorem w_catA (hm : Mem I M H) (h1 : SqT K I a xs) (h2 : SqT K I p ys) (hz : xs.length + ys.length ≤ sizeLine) (q : ∀ p N H', Same I N → SqT K N p (xs ++ ys) → Mem N M H' → Q (.ref p) H') : rCatA K (.ref a) (.ref p) H Q :=
  ⟨a, p, xs, ys, rfl, rfl, hm.sqt h1, hm.sqt h2, hz, fun e => by subst e; exact q p I H (Same.refl I) (by simpa using h2) hm, fun _ e => by subst e; exact q a I H (Same.refl I) (by simpa using h1) hm, fun _ _ p hp => q p _ _ (Same.new (hm.free hp)) (SqT.of upd_same) (hm.imm hp)⟩
def rListOf (K : PySem.W.Frag) : List V → Hp → VK → Prop := fun xs H Q => ∃ p ys, xs = [.ref p] ∧ (SqL K H p ys ∨ SqT K H p ys) ∧ ∀ l, H l = none → Q (.ref l) (upd H l (.lst ys))
def rTupOf (K : PySem.W.Frag) : List V → Hp → VK → Prop := fun xs H Q => ∃ p ys, xs = [.ref p] ∧ ((SqL K H p ys ∧ ∀ l, H l = none → Q (.ref l) (upd H l (.tup ys))) ∨ (SqT K H p ys ∧ Q (.ref p) H))
theorem w_listOf (hm : Mem I M H) (h : SqE K I p xs) (q : ∀ l H', Mem I ((l, .lst xs) :: M) H' → Q (.ref l) H') : rListOf K [.ref p] H Q := ⟨p, xs, rfl, h.elim (fun h => .inl (hm.sql h)) (fun h => .inr (hm.sqt h)), fun l hl => q l _ (hm.new hl)⟩
theorem w_tupOf (hm : Mem I M H) (h : SqE K I p xs) (q : ∀ l N H', Same I N → SqT K N l xs → Mem N M H' → Q (.ref l) H') : rTupOf K [.ref p] H Q :=
  ⟨p, xs, rfl, h.elim (fun h => .inl ⟨hm.sql h, fun l hl => q l _ _ (Same.new (hm.free hl)) (SqT.of upd_same) (hm.imm hl)⟩) fun h => .inr ⟨hm.sqt h, q p I H (Same.refl I) h hm⟩⟩
theorem w_tupOfM {f : HO → Mu} (hm : Mem I M H) (h : Foc M p (.lst xs) f) (q : ∀ l N H', Same I N → SqT K N l xs → Mem N M H' → Q (.ref l) H') : rTupOf K [.ref p] H Q :=
  ⟨p, xs, rfl, .inl ⟨SqL.of (h.at hm), fun l hl => q l _ _ (Same.new (hm.free hl)) (SqT.of upd_same) (hm.imm hl)⟩⟩
def rPut (K : PySem.W.Frag) (f : Str) (D : Ends) (σ : St) : V → V → Hp → Prop := fun x y H => ∃ a C dx fs, x = .ref a ∧ H a = some (.ins C dx fs) ∧ Cls K C ∧ NoAttr K C f ∧ fs.length < 1000 ∧ D.nx σ (upd H a (.ins C dx (putF f y fs)))
theorem w_fldS {f : Str} (h : te σ H fun y H1 => ta σ H1 fun x H2 => rPut K f D σ x y H2) : sFld K ta te f D σ H := h
theorem w_put {C dx : Addr} {fs : List (Str × V)} {f : Str} {F : HO → Mu} (hm : Mem I M H) (h : Foc M a (.ins C dx fs) F) (hc : Cls K C) (hn : NoAttr K C f) (hl : fs.length < 1000) (q : ∀ H', Mem I (F (.ins C dx (putF f y fs))) H' → D.nx σ H') :
    rPut K f D σ (.ref a) y H := ⟨a, C, dx, fs, rfl, h.at hm, hc, hn, hl, q _ (h.set hm)⟩
end
section
variable {X : Cx}
theorem cl_len : CallR X (.builtin "len") (rLen1 X.K) := call_len_seq
theorem cl_abs : CallR X (.builtin "abs") rAbs1 := call_abs
theorem cl_max (hc : X.calm = true) : CallR X (.builtin "max") rMaxB := call_max2 hc
theorem cl_min (hc : X.calm = true) : CallR X (.builtin "min") rMinB := call_min2 hc
theorem cl_int : CallR X (.type "int") rInt1 := call_int1
theorem cl_list : CallR X (.type "list") (rListOf X.K) := call_list_of
theorem cl_tuple : CallR X (.type "tuple") (rTupOf X.K) := call_tuple_of
theorem pt_tru {e : Expr} {ta : TE} (ha : PE X e ta) (he : ∀ whole, isTrue e X.env whole = (do let v ← whole; standAt e.pos; holding [v] (truthy v)) := by intro _; rfl) : PT X e (tTru X.K ta) := pt_truth ha he
end
/-! ### indices -/
theorem ati_nat {xs : List V} {k : Nat} {v : V} (h : xs[k]? = some v) : atI xs ((k : Nat) : Int) = some v := atI_nat h
theorem ati_ints {ns : List Int} {k : Nat} (h : k < ns.length) : atI (ns.map V.int) ((k : Nat) : Int) = some (.int (ns.getD k 0)) := by
  refine atI_nat ?_
  rw [List.getElem?_map, List.getElem?_eq_getElem h, List.getD_eq_getElem?_getD, List.getElem?_eq_getElem h]
  rfl
theorem ati_refs {ns : List Addr} {k : Nat} (h : k < ns.length) : atI (ns.map V.ref) ((k : Nat) : Int) = some (.ref (ns.getD k 0)) := by
  refine atI_nat ?_
  rw [List.getElem?_map, List.getElem?_eq_getElem h, List.getD_eq_getElem?_getD, List.getElem?_eq_getElem h]
  rfl
theorem ixn_nat {n k : Nat} (h : k < n) : ixN n ((k : Nat) : Int) = some k := by
  unfold ixN
  rw [if_pos (Int.natCast_nonneg k), if_pos (by omega)]
  rfl
/-! ### loops -/
def rFor (g : TG) (tb : TS) (D : Ends) (σ : St) : It → Hp → Prop := fun J H => ∃ W : Nat → Nat → St → Hp → Prop, (∃ m, W 0 m σ H) ∧ ∀ i m σ H, W i m σ H →
      (J.stop i H ∧ D.nx σ H) ∨ (J.go i H ∧ ∃ N : St → Hp → Prop, (∀ σ' H', N σ' H' → ∃ m', m' < m ∧ W (i + 1) m' σ' H') ∧ ∀ x H', J.yld i H x H' → g x σ H' fun σ2 H2 => tb { D with nx := N, ct := N, bk := D.nx } σ2 H2)
theorem w_for0 {wi : TI} {g : TG} {tb : TS} {D : Ends} {σ : St} {H : Hp} (h : wi σ H fun J H1 => rFor g tb D σ J H1) : tFor wi g tb D σ H := h
/-- what stands between two turns -/
def LI (I : Hp) (Pv : St → Hp → Mu → Prop) (σ : St) (H : Hp) : Prop := ∃ N M, Same I N ∧ Pv σ N M ∧ Mem N M H
section
variable {K : PySem.W.Frag} {I N H : Hp} {M : Mu} {σ : St} {J : It} {n : Nat} {D : Ends} {g : TG} {tb : TS} {xs : List V} {a : Addr}
abbrev YA (I : Hp) (xs : List V) (J : It) : Prop := Walk J xs.length (fun H => Same I H) (YAt xs)
theorem ya_list (h : SqL K I a xs) : YA I xs (Itl K a) := walk_list.mono (fun H e => e.seq h) fun _ _ _ _ _ _ y => y
theorem ya_tup (h : SqT K I a xs) : YA I xs (Itt K a) := walk_tup.mono (fun H e => Same.sqt e h) fun _ _ _ _ _ _ y => y
theorem w_for (wk : YA I xs J) (hm : Mem I M H) (Pv : Nat → St → Hp → Mu → Prop) (h0 : Pv 0 σ I M)
    (hs : ∀ i x σ' N M' H', i < xs.length → xs[i]? = some x → Same I N → Pv i σ' N M' → Mem N M' H' → g x σ' H' fun σ2 H2 => tb { D with nx := LI I (Pv (i + 1)), ct := LI I (Pv (i + 1)), bk := D.nx } σ2 H2)
    (hd : ∀ σ' N M' H', Same I N → Pv xs.length σ' N M' → Mem N M' H' → D.nx σ' H') :
    rFor g tb D σ J H :=
  for_it wk (fun i => LI I (Pv i)) ⟨I, M, Same.refl I, h0, hm⟩ (fun i σ H _ ⟨N, M, e, _, m⟩ => e.trans m.ex)
    (fun i x σ H H' hi ⟨N, M, e, p, m⟩ ⟨e1, e2⟩ => by subst e1; exact hs i x σ N M _ hi e2 e p m) fun σ H ⟨N, M, e, p, m⟩ => hd σ N M H e p m
abbrev YR (I : Hp) (lo : Int) (n : Nat) (J : It) : Prop := Walk J n (fun H => Same I H) (YFn fun i => .int (lo + i))
theorem yr_range {lo : Int} : YR I lo n (Itr lo n) := walk_range.mono (fun _ _ => trivial) fun _ _ _ _ _ _ y => y
theorem w_forR {lo : Int} (wk : YR I lo n J) (hm : Mem I M H) (Pv : Nat → St → Hp → Mu → Prop) (h0 : Pv 0 σ I M)
    (hs : ∀ i σ' N M' H', i < n → Same I N → Pv i σ' N M' → Mem N M' H' → g (.int (lo + (i : Nat))) σ' H' fun σ2 H2 => tb { D with nx := LI I (Pv (i + 1)), ct := LI I (Pv (i + 1)), bk := D.nx } σ2 H2)
    (hd : ∀ σ' N M' H', Same I N → Pv n σ' N M' → Mem N M' H' → D.nx σ' H') :
    rFor g tb D σ J H :=
  for_it wk (fun i => LI I (Pv i)) ⟨I, M, Same.refl I, h0, hm⟩ (fun i σ H _ ⟨N, M, e, _, m⟩ => e.trans m.ex)
    (fun i x σ H H' hi ⟨N, M, e, p, m⟩ ⟨e1, e2⟩ => by subst e1 e2; exact hs i σ N M _ hi e p m) fun σ H ⟨N, M, e, p, m⟩ => hd σ N M H e p m
abbrev YE (I : Hp) (xs : List V) (J : It) : Prop := Walk J xs.length (fun H => Same I H) (YPair (fun i => some (.int (i : Nat))) (fun i => xs[i]?))
theorem w_forE (wk : YE I xs J) (hm : Mem I M H) (Pv : Nat → St → Hp → Mu → Prop) (h0 : Pv 0 σ I M)
    (hs : ∀ i x T σ' N M' H', i < xs.length → xs[i]? = some x → Same I N → N T = some (.tup [.int (i : Nat), x]) → Pv i σ' N M' → Mem N M' H' → g (.ref T) σ' H' fun σ2 H2 => tb { D with nx := LI I (Pv (i + 1)), ct := LI I (Pv (i + 1)), bk := D.nx } σ2 H2)
    (hN : ∀ i σ N N' M', Same N N' → Pv i σ N M' → Pv i σ N' M')
    (hd : ∀ σ' N M' H', Same I N → Pv xs.length σ' N M' → Mem N M' H' → D.nx σ' H') :
    rFor g tb D σ J H :=
  for_it wk (fun i => LI I (Pv i)) ⟨I, M, Same.refl I, h0, hm⟩ (fun i σ H _ ⟨N, M, e, _, m⟩ => e.trans m.ex)
    (fun i x σ H H' hi ⟨N, M, e, p, m⟩ y => by
      obtain ⟨T, v, z, e1, hT, e2, e3, e4⟩ := y
      subst e1 e2
      cases e3
      exact hs i z T σ _ M _ hi e4 (e.trans (Same.new (m.free hT))) upd_same (hN i σ N _ M (Same.new (m.free hT)) p) (m.imm hT)) fun σ H ⟨N, M, e, p, m⟩ => hd σ N M H e p m
/-- while: a measure -/
def LW (I : Hp) (Pv : Nat → St → Hp → Mu → Prop) (m : Nat) (σ : St) (H : Hp) : Prop := ∃ m', m' < m ∧ LI I (Pv m') σ H
theorem w_wbody {Pv : Nat → St → Hp → Mu → Prop} {m : Nat} {B : (St → Hp → Prop) → Prop} (h : B (LW I Pv m)) : ∃ N : St → Hp → Prop, (∀ σ' H', N σ' H' → ∃ m', m' < m ∧ LI I (Pv m') σ' H') ∧ B N := ⟨_, fun _ _ z => z, h⟩
theorem w_while {tc : TT} (hm : Mem I M H) (Pv : Nat → St → Hp → Mu → Prop) (m0 : Nat) (h0 : Pv m0 σ I M)
    (hs : ∀ m σ' N M' H', Same I N → Pv m σ' N M' → Mem N M' H' → tc σ' H' fun b H1 => if b = true then (∃ N : St → Hp → Prop, (∀ σ' H', N σ' H' → ∃ m', m' < m ∧ LI I (Pv m') σ' H') ∧ tb { D with nx := N, ct := N, bk := D.nx } σ' H1) else D.nx σ' H1) : tWhile tc tb D σ H :=
  ⟨fun m => LI I (Pv m), ⟨m0, I, M, Same.refl I, h0, hm⟩, fun m σ' H' ⟨N, M', e, p, mm⟩ => hs m σ' N M' H' e p mm⟩
/-! ### comprehensions -/
def rLc (g : TG) (tt : TT) (te : TE) (vs : List Nat) (σ : St) (Q : VK) : It → Hp → Prop := fun J H => ∀ D, H D = none → ∃ W : Nat → Nat → Hp → Prop, (∃ m, W 0 m (upd H D (.lst []))) ∧ ∀ i m H, W i m H →
      (J.stop i H ∧ Q (.ref D) H) ∨ (J.go i H ∧ ∃ Nx : Hp → Prop, (∀ H', Nx H' → ∃ m', m' < m ∧ W (i + 1) m' H') ∧ ∀ x H', J.yld i H x H' → g x (wipe σ vs) H' fun σ2 H2 => wipe σ2 vs = wipe σ vs ∧ tt σ2 H2 fun b H3 =>
        if b = true then te σ2 H3 fun y H4 => ∃ acc, H4 D = some (.lst acc) ∧ acc.length < sizeLine ∧ Nx (upd H4 D (.lst (acc ++ [y]))) else Nx H3)
theorem w_lc0 {wi : TI} {g : TG} {tt : TT} {te : TE} {vs : List Nat} {σ : St} {H : Hp} {Q : VK} (h : wi σ H fun J H1 => rLc g tt te vs σ Q J H1) : tLc wi g tt te vs σ H Q := h
theorem w_lcF {Y : Nat → Hp → V → Hp → Prop} {vs : List Nat} {tt : TT} {te : TE} {Q : VK} (wk : Walk J n (fun H => Same I H) Y) (hm : Mem I M H) (f : Nat → V) (pr : Nat → Bool) (hz : n ≤ 100000)
    (hs : ∀ i x D acc H' H'' (Yes : V → Hp → Prop) (No : Hp → Prop), i < n → Mem I ((D, .lst acc) :: M) H' → Y i H' x H'' → (pr i = true → ∀ H4, Mem I ((D, .lst acc) :: M) H4 → Yes (f i) H4) → (pr i = false → ∀ H4, Mem I ((D, .lst acc) :: M) H4 → No H4) →
      g x (wipe σ vs) H'' fun σ2 H2 => wipe σ2 vs = wipe σ vs ∧ tt σ2 H2 fun b H3 => if b = true then te σ2 H3 Yes else No H3)
    (hd : ∀ D H', Mem I ((D, .lst (((List.range n).filter pr).map f)) :: M) H' → Q (.ref D) H') :
    rLc g tt te vs σ Q J H := fun D hD => by
  have hlen : ∀ i, i ≤ n → (((List.range i).filter pr).map f).length < sizeLine + 1 := fun i hi => by
    rw [List.length_map]
    have h1 := List.length_filter_le pr (List.range i)
    rw [List.length_range] at h1
    have h2 : 100000 ≤ sizeLine := by decide
    omega
  refine lc_it wk (fun i H => Mem I ((D, .lst (((List.range i).filter pr).map f)) :: M) H) (hm.new hD) (fun i H _ m => m.ex) (fun i x H1 H2 hi m y => ?_) fun H m => hd D H m
  refine hs i x D _ H1 H2 _ _ hi m y (fun hp H4 m4 => ⟨_, m4.at (j := 0) rfl, ?_, ?_⟩) fun hp H4 m4 => ?_
  · rw [List.length_map]
    have h1 := List.length_filter_le pr (List.range i)
    rw [List.length_range] at h1
    have h2 : 100000 ≤ sizeLine := by decide
    omega
  · have e : ((List.range (i + 1)).filter pr).map f = ((List.range i).filter pr).map f ++ [f i] := by
      rw [List.range_succ, List.filter_append, List.map_append, List.filter_cons, if_pos hp]
      rfl
    rw [e]
    exact m4.set (j := 0) rfl
  · have e : ((List.range (i + 1)).filter pr).map f = ((List.range i).filter pr).map f := by
      rw [List.range_succ, List.filter_append, List.map_append, List.filter_cons, if_neg (by rw [hp]; decide)]
      exact List.append_nil _
    rw [e]
    exact m4
theorem w_lcA {vs : List Nat} {tt : TT} {te : TE} {Q : VK} (wk : YA I xs J) (hm : Mem I M H) (f : Nat → V) (pr : Nat → Bool) (hz : xs.length ≤ 100000)
    (hs : ∀ i x D acc H' (Yes : V → Hp → Prop) (No : Hp → Prop), i < xs.length → xs[i]? = some x → Mem I ((D, .lst acc) :: M) H' → (pr i = true → ∀ H4, Mem I ((D, .lst acc) :: M) H4 → Yes (f i) H4) → (pr i = false → ∀ H4, Mem I ((D, .lst acc) :: M) H4 → No H4) →
      g x (wipe σ vs) H' fun σ2 H2 => wipe σ2 vs = wipe σ vs ∧ tt σ2 H2 fun b H3 => if b = true then te σ2 H3 Yes else No H3)
    (hd : ∀ D H', Mem I ((D, .lst (((List.range xs.length).filter pr).map f)) :: M) H' → Q (.ref D) H') : rLc g tt te vs σ Q J H :=
  w_lcF wk hm f pr hz (fun i x D acc H1 H2 Yes No hi m y hy hn => by
    obtain ⟨e1, e2⟩ := y
    subst e1
    exact hs i x D acc _ Yes No hi e2 m hy hn) hd
theorem w_lcR {vs : List Nat} {tt : TT} {te : TE} {Q : VK} (wk : ∀ I, YR I 0 n J) (hm : Mem I M H) (f : Nat → V) (pr : Nat → Bool) (hz : n ≤ 100000)
    (hs : ∀ i D acc H' (Yes : V → Hp → Prop) (No : Hp → Prop), i < n → Mem I ((D, .lst acc) :: M) H' → (pr i = true → ∀ H4, Mem I ((D, .lst acc) :: M) H4 → Yes (f i) H4) → (pr i = false → ∀ H4, Mem I ((D, .lst acc) :: M) H4 → No H4) →
      g (.int (i : Int)) (wipe σ vs) H' fun σ2 H2 => wipe σ2 vs = wipe σ vs ∧ tt σ2 H2 fun b H3 => if b = true then te σ2 H3 Yes else No H3)
    (hd : ∀ D H', Mem I ((D, .lst (((List.range n).filter pr).map f)) :: M) H' → Q (.ref D) H') : rLc g tt te vs σ Q J H :=
  w_lcF (wk I) hm f pr hz (fun i x D acc H1 H2 Yes No hi m y hy hn => by
    obtain ⟨e1, e2⟩ := y
    have e3 : x = .int (i : Int) := e2.trans (congrArg V.int (Int.zero_add _))
    subst e1 e3
    exact hs i D acc _ Yes No hi m hy hn) hd
theorem w_lcE {vs : List Nat} {tt : TT} {te : TE} {Q : VK} (wk : YE I xs J) (hm : Mem I M H) (f : Nat → V) (pr : Nat → Bool) (hz : xs.length ≤ 100000)
    (hs : ∀ i x T N D acc H' (Yes : V → Hp → Prop) (No : Hp → Prop), i < xs.length → xs[i]? = some x → Same I N → N T = some (.tup [.int (i : Int), x]) → Mem N ((D, .lst acc) :: M) H' → (pr i = true → ∀ H4, Mem I ((D, .lst acc) :: M) H4 → Yes (f i) H4) → (pr i = false → ∀ H4, Mem I ((D, .lst acc) :: M) H4 → No H4) →
      g (.ref T) (wipe σ vs) H' fun σ2 H2 => wipe σ2 vs = wipe σ vs ∧ tt σ2 H2 fun b H3 => if b = true then te σ2 H3 Yes else No H3)
    (hd : ∀ D H', Mem I ((D, .lst (((List.range xs.length).filter pr).map f)) :: M) H' → Q (.ref D) H') : rLc g tt te vs σ Q J H :=
  w_lcF wk hm f pr hz (fun i x D acc H1 H2 Yes No hi m y hy hn => by
    obtain ⟨T, v, z, e1, hT, e2, e3, e4⟩ := y
    subst e1 e2
    cases e3
    exact hs i z T _ D acc _ Yes No hi e4 (Same.new (m.free hT)) upd_same (m.imm hT) hy hn) hd
theorem w_forZ (wk : ∀ I, YR I 0 n J) (hm : Mem I M H) (Pv : Nat → St → Hp → Mu → Prop) (h0 : Pv 0 σ I M)
    (hs : ∀ i σ' N M' H', i < n → Same I N → Pv i σ' N M' → Mem N M' H' → g (.int (i : Int)) σ' H' fun σ2 H2 => tb { D with nx := LI I (Pv (i + 1)), ct := LI I (Pv (i + 1)), bk := D.nx } σ2 H2)
    (hd : ∀ σ' N M' H', Same I N → Pv n σ' N M' → Mem N M' H' → D.nx σ' H') : rFor g tb D σ J H :=
  w_forR (wk I) hm Pv h0 (fun i σ' N M' H' hi e p m => by rw [Int.zero_add]; exact hs i σ' N M' H' hi e p m) hd
/-- the elements may change things -/
theorem w_lcG {Y : Nat → Hp → V → Hp → Prop} {vs : List Nat} {tt : TT} {te : TE} {Q : VK} (wk : Walk J n (fun H => Same I H) Y) (hm : Mem I M H) (Pv : Nat → List V → Hp → Mu → Prop) (h0 : Pv 0 [] I M)
    (hs : ∀ i x D acc N M' H' H'' (Yes : V → Hp → Prop) (No : Hp → Prop), i < n → Same I N → Pv i acc N M' → Mem N ((D, .lst acc) :: M') H' → Y i H' x H'' →
      (∀ y N2 M2 H4, Same I N2 → Pv (i + 1) (acc ++ [y]) N2 M2 → acc.length < sizeLine → Mem N2 ((D, .lst acc) :: M2) H4 → Yes y H4) → (∀ N2 M2 H4, Same I N2 → Pv (i + 1) acc N2 M2 → Mem N2 ((D, .lst acc) :: M2) H4 → No H4) →
      g x (wipe σ vs) H'' fun σ2 H2 => wipe σ2 vs = wipe σ vs ∧ tt σ2 H2 fun b H3 => if b = true then te σ2 H3 Yes else No H3)
    (hd : ∀ D acc N M' H', Same I N → Pv n acc N M' → Mem N ((D, .lst acc) :: M') H' → Q (.ref D) H') :
    rLc g tt te vs σ Q J H := fun D hD => by
  refine lc_it wk (fun i H => ∃ acc N M', Same I N ∧ Pv i acc N M' ∧ Mem N ((D, .lst acc) :: M') H) ⟨[], I, M, Same.refl I, h0, hm.new hD⟩ (fun i H _ ⟨_, N, _, e, _, m⟩ => e.trans m.ex) (fun i x H1 H2 hi ⟨acc, N, M', e, p, m⟩ y => ?_) fun H ⟨acc, N, M', e, p, m⟩ => hd D acc N M' H e p m
  exact hs i x D acc N M' H1 H2 _ _ hi e p m y (fun y N2 M2 H4 e2 p2 hl m4 => ⟨acc, m4.at (j := 0) rfl, hl, acc ++ [y], N2, M2, e2, p2, m4.set (j := 0) rfl⟩) fun N2 M2 H4 e2 p2 m4 => ⟨acc, N2, M2, e2, p2, m4⟩
end
theorem w_spV {Pre : List V → Hp → V → Prop} {vs : List V} {I H : Hp} {M : Mu} {v : V} {Q : VK} {E : XK} (hm : Mem I M H) (hp : Pre vs I v) (q : ∀ H', Mem I M H' → Q v H') : spV Pre vs H Q E := ⟨I, M, v, hp, hm, q⟩
theorem w_spN {Pre : List V → Hp → (V → Hp → Prop) → Prop} {vs : List V} {I H : Hp} {M : Mu} {R : V → Hp → Prop} {Q : VK} {E : XK} (hm : Mem I M H) (hp : Pre vs I R) (q : ∀ v N H', Same I N → Mem N M H' → R v N → Q v H') : spN Pre vs H Q E := ⟨I, M, R, hp, hm, q⟩
theorem w_spM {Pre : List V → Hp → Mu → (V → Hp → Mu → Prop) → Prop} {vs : List V} {I H : Hp} {M : Mu} {R : V → Hp → Mu → Prop} {Q : VK} {E : XK} (hm : Mem I M H) (hp : Pre vs I M R) (q : ∀ v N M' H', Same I N → Mem N M' H' → R v N M' → Q v H') : spM Pre vs H Q E := ⟨I, M, R, hp, hm, q⟩
def rMt (C : Addr) (m : Str) (P : Prop) : V → Hp → Prop := fun x H => ∃ a dx fs, x = .ref a ∧ H a = some (.ins C dx fs) ∧ fs.lookup m = none ∧ P
theorem w_mth {C : Addr} {m : Str} {sp : Sp} {ta : TE} {t : TA} {σ : St} {H : Hp} {Q : VK} {E : XK} (h : ta σ H fun x H1 => rMt C m (t σ H1 fun vs H2 => sp (x :: (vs ++ [])) H2 Q E) x H1) : tMeth C m sp [] E ta t σ H Q := h
theorem w_mthI {C a dx : Addr} {fs : List (Str × V)} {m : Str} {I H : Hp} {M : Mu} {P : Prop} (hm : Mem I M H) (h : I a = some (.ins C dx fs)) (hl : fs.lookup m = none) (q : P) : rMt C m P (.ref a) H := ⟨a, dx, fs, rfl, hm.ex _ _ h, hl, q⟩
/-! ### what is walked -/
def riL (K : PySem.W.Frag) (R : It → Hp → Prop) : V → Hp → Prop := fun x H => ∃ a, x = .ref a ∧ (∃ xs, SqL K H a xs) ∧ R (Itl K a) H
def riT (K : PySem.W.Frag) (R : It → Hp → Prop) : V → Hp → Prop := fun x H => ∃ a, x = .ref a ∧ (∃ xs, SqT K H a xs) ∧ R (Itt K a) H
def riR1 (R : It → Hp → Prop) : List V → Hp → Prop := fun vs H => ∃ j : Int, vs = [.int j] ∧ -(2 ^ 62) ≤ j ∧ j < 2 ^ 62 ∧ R (Itr 0 j.toNat) H
def riR2 (R : It → Hp → Prop) : List V → Hp → Prop := fun vs H => ∃ i j : Int, vs = [.int i, .int j] ∧ (-(2 ^ 62) ≤ i ∧ i < 2 ^ 62 ∧ -(2 ^ 62) ≤ j ∧ j < 2 ^ 62) ∧ R (Itr i (j - i).toNat) H
theorem w_il {K : PySem.W.Frag} {tl : TE} {σ : St} {H : Hp} {R : It → Hp → Prop} (h : tl σ H fun x H1 => riL K R x H1) : iList K tl σ H R := h
theorem w_it {K : PySem.W.Frag} {tl : TE} {σ : St} {H : Hp} {R : It → Hp → Prop} (h : tl σ H fun x H1 => riT K R x H1) : iTup K tl σ H R := h
theorem w_ir1 {ta : TA} {σ : St} {H : Hp} {R : It → Hp → Prop} (h : ta σ H fun vs H1 => riR1 R vs H1) : iRng1 ta σ H R := h
theorem w_ir2 {ta : TA} {σ : St} {H : Hp} {R : It → Hp → Prop} (h : ta σ H fun vs H1 => riR2 R vs H1) : iRng2 ta σ H R := h
theorem w_ill {K : PySem.W.Frag} {a : Addr} {I H : Hp} {M : Mu} {xs : List V} {R : It → Hp → Prop} (hm : Mem I M H) (h : SqL K I a xs) (q : ∀ J, YA I xs J → R J H) : riL K R (.ref a) H := ⟨a, rfl, ⟨xs, hm.sql h⟩, q _ (ya_list h)⟩
theorem w_itt {K : PySem.W.Frag} {a : Addr} {I H : Hp} {M : Mu} {xs : List V} {R : It → Hp → Prop} (hm : Mem I M H) (h : SqT K I a xs) (q : ∀ J, YA I xs J → R J H) : riT K R (.ref a) H := ⟨a, rfl, ⟨xs, hm.sqt h⟩, q _ (ya_tup h)⟩
theorem w_irr1 {H : Hp} {n : Nat} {R : It → Hp → Prop} (hn : n ≤ 1000000) (q : ∀ J, (∀ I, YR I 0 n J) → R J H) : riR1 R [V.int ((n : Nat) : Int)] H := ⟨n, rfl, by omega, by omega, q _ fun I => yr_range⟩
theorem w_irr2 {H : Hp} {lo hi : Int} {n : Nat} {R : It → Hp → Prop} (h1 : 0 ≤ lo) (hn : hi = lo + n) (h2 : hi ≤ 1000000) (q : ∀ J, (∀ I, YR I lo n J) → R J H) : riR2 R [V.int lo, V.int hi] H := by
  refine ⟨lo, hi, rfl, by omega, ?_⟩
  have e : (hi - lo).toNat = n := by omega
  rw [e]
  exact q _ fun I => yr_range
end Pa

set_option Elab.async false
set_option linter.all false
set_option maxRecDepth 100000
set_option maxHeartbeats 4000000
/-! RULES OF OUR OWN: enumerate of a list or a tuple, sorted of nested data, methods and classes by promise, an own ==, isinstance of an error with fields -/
namespace PySem
open Sem (wp)
open AutoSeq1 (wpAny_loadPart')
/-- enumerate(v), one argument -/
theorem pa_meetsEnum {v : Value} {o : Obj} {G : Heap → Prop} (B : Begins v o G) :
    Meets (Builtin.«enumerate.__new__» ⟨[.type "enumerate", v], []⟩) (fun _ R s => G s.heap ∧
      R (.ok (.ret (.ref (s.heap.push o).objs.size)))
        { s with heap := (s.heap.push o).push { cls := .type "enumerate", data := .fields #[.none, .bool false, .ref s.heap.objs.size, rawInt 0, .none, .none] } }) :=
  .of_wp fun prog w A R s hh => by
    obtain ⟨hp, gg, dd, kk, oo⟩ := s
    obtain ⟨hG, hR⟩ := hh
    have subE := sub_enumerate
    have iterV : ∀ {A1 : Around} {E1 : Value → Shared → Prop} {Q1 : Value → Shared → Prop}, Q1 (.ref hp.objs.size) ⟨hp.push o, gg, dd, kk, oo⟩ → wpAny (model prog w) A1 (pyIter v) Q1 E1 ⟨hp, gg, dd, kk, oo⟩ :=
      fun z => B.iter prog w _ _ ⟨hp, gg, dd, kk, oo⟩ _ hG z
    wp_walk using iterV
    refine wpAny_stack_any fun stk => wpAny_pure ?_
    split
    · rename_i cc _ _ _ _ _
      cases (cc == Value.type "enumerate") <;> (wp_walk using iterV; exact ⟨_, rfl, hR⟩)
    · (wp_walk using iterV; exact ⟨_, rfl, hR⟩)
theorem pa_callEnum {prog : Program} {w : World} {A : Around} {E : Value → Shared → Prop} {s : Shared} {v : Value} {o : Obj} {G : Heap → Prop} {Q : Value → Shared → Prop} (B : Begins v o G) (hG : G s.heap)
    (k : ∀ h', IsEnum h' (s.heap.objs.size + 1) s.heap.objs.size 0 .none → h'.get? s.heap.objs.size = some o → (∀ b u, s.heap.get? b = some u → h'.get? b = some u) → Q (.ref (s.heap.objs.size + 1)) { s with heap := h' }) :
    wpAny (model prog w) A (call (.type "enumerate") [v]) Q E s := by
  refine callType_new F.called_enumerate (by decide) (F.typeCall_enumerate_1 _) (F.newCall_enumerate_1 _) (fun ob => F.args_object_init_2 ob _) F.entry_enumerate_new (pa_meetsEnum B) ⟨hG, ?_⟩
  have sz : (s.heap.push o).objs.size = s.heap.objs.size + 1 := Heap.size_push ..
  have en : IsEnum ((s.heap.push o).push { cls := .type "enumerate", data := .fields #[.none, .bool false, .ref s.heap.objs.size, rawInt 0, .none, .none] }) (s.heap.objs.size + 1) s.heap.objs.size 0 .none := by
    have z := Heap.get?_push_size (s.heap.push o) (o := { cls := .type "enumerate", data := .fields #[.none, .bool false, .ref s.heap.objs.size, rawInt 0, .none, .none] }) rfl
    rw [sz] at z
    exact z
  show _ ∧ _
  rw [sz]
  exact ⟨⟨_, en, rfl⟩, k _ en (Heap.get?_push_of_some _ (Heap.get?_push_size _ B.free)) fun b u z => Heap.get?_push_of_some _ (Heap.get?_push_of_some _ z)⟩
end PySem
namespace Pa
open PySem PySem.Spec PyProof.Rows L2
/-! ### a list or a tuple, walked -/
def iSeq (K : PySem.W.Frag) (tl : TE) : TI := fun σ H R => tl σ H fun x H1 => ∃ a, x = .ref a ∧ (((∃ xs, SqL K H1 a xs) ∧ R (Itl K a) H1) ∨ ((∃ xs, SqT K H1 a xs) ∧ R (Itt K a) H1))
theorem pi_seq {X : Cx} {tg l : Expr} {tl : TE} (hl : PE X l tl) : PI X tg l (iSeq X.K tl) := by
  refine ⟨fun pins s σ H R I h => thn (hl.run pins s σ H _ I h) fun v s1 ⟨x, H1, I1, r1, q1⟩ => ?_⟩
  obtain ⟨a, e, q⟩ := q1
  subst e
  cases r1
  have fresh : ∀ b ∈ [s1.heap.objs.size], FpOk X pins H1 b := fun b hb => by
    obtain rfl : b = s1.heap.objs.size := by simpa using hb
    exact I1.fpOk (Nat.le_refl _) (I1.hok.fresh (Nat.le_refl _))
  rcases q with ⟨⟨xs, hq⟩, q⟩ | ⟨⟨xs, hq⟩, q⟩
  · obtain ⟨its, rv, p, _⟩ := I1.list hq
    exact wpAny_pyIter_list p.isList ⟨_, [s1.heap.objs.size], _, _, H1, rfl, I1.kept (t' := s1.toks) fun b o z => Heap.get?_push_of_some _ z, turn_list a _, ⟨_, Heap.get?_push_size _ rfl, rfl, rfl⟩, fresh, q⟩
  · obtain ⟨its, rv, p, _⟩ := I1.tuple hq
    exact wpAny_pyIter_tuple (show s1.heap.IsTuple a its.toArray from p) ⟨_, [s1.heap.objs.size], _, _, H1, rfl, I1.kept (t' := s1.toks) fun b o z => Heap.get?_push_of_some _ z, turn_tuple a _, ⟨_, Heap.get?_push_size _ rfl, rfl, rfl⟩, fresh, q⟩
/-! ### enumerate of a tuple -/
def Iut (K : PySem.W.Frag) (a : Addr) : It where
  go := fun i H => ∃ xs x, SqT K H a xs ∧ xs[i]? = some x
  yld := fun i H v H' => ∃ T x, v = .ref T ∧ H T = none ∧ H' = upd H T (.tup [.int (i : Nat), x]) ∧ ∀ xs, SqT K H a xs → xs[i]? = some x
  stop := fun i H => ∃ xs, SqT K H a xs ∧ xs.length ≤ i
theorem turn_ut {P : Program} {w : World} {K : PySem.W.Frag} {elts : List Expr} {kk : Nat} {tpos : Pos} (a e it : Addr) :
    Turn P w K (.Tuple elts kk tpos) (Iut K a) [e, it] e (fun i h => (∃ old, IsEnum h e it ((i : Nat) : Int) old) ∧ h.IsTupleIter it a i ∧ e ≠ it) where
  mem := List.mem_cons_self
  obj := fun i h st b hb => by
    obtain ⟨⟨old, hE⟩, ⟨ot, hot, hct, hdt⟩, _⟩ := st
    rcases List.mem_cons.mp hb with z | z
    · exact ⟨_, z ▸ hE, fun v q => by cases q⟩
    · obtain rfl := List.mem_singleton.mp z
      exact ⟨ot, hot, fun v q => by rw [hdt] at q; cases q⟩
  keep := fun i h h' st k => by
    obtain ⟨⟨old, hE⟩, hI, hn⟩ := st
    exact ⟨⟨old, k e List.mem_cons_self _ hE⟩, hI.at fun o q => k it (List.mem_cons_of_mem _ List.mem_cons_self) o q, hn⟩
  item := by
    intro X eP eW eK hc i pins s σ H E I hf st hg
    subst eP eW eK
    obtain ⟨⟨old, hE⟩, hI, hn⟩ := st
    obtain ⟨xs, x, hq, hx⟩ := hg
    obtain ⟨its, rv, p, _⟩ := I.tuple hq
    have pT : s.heap.IsTuple a its.toArray := p
    obtain ⟨u, hu, ru⟩ := rv.get hx
    have le : e < s.heap.objs.size := Heap.lt_size hE
    have li : it < s.heap.objs.size := by
      obtain ⟨_, z, _⟩ := hI
      exact Heap.lt_size z
    have ae : a ≠ e := fun z => by
      obtain ⟨o, ho, hcl, _⟩ := pT
      rw [z, hE] at ho
      cases ho
      exact absurd (Value.type.inj hcl) (by decide)
    have ai : a ≠ it := fun z => by
      obtain ⟨o, ho, hcl, _⟩ := pT
      obtain ⟨o2, ho2, hcl2, _⟩ := hI
      rw [z, ho2] at ho
      cases ho
      rw [hcl2] at hcl
      exact absurd (Value.type.inj hcl) (by decide)
    have hlt : i < its.toArray.size := by
      rw [List.size_toArray]
      exact (List.getElem?_eq_some_iff.mp hu).1
    have hh : X.A.in1.handled = none := I.ok.hd hc
    refine wpAny_pyNext_enum_itemD (Draws.tuple (prog := X.prog) (w := X.w) hh it a ai its.toArray) hE ⟨hI, pT⟩ hlt hn (fun z => ?_) fun z h1 tk hz hO hS hT hsz hk => ?_
    · rcases List.mem_cons.mp z with z | z
      · exact hn z
      · exact ae (List.mem_singleton.mp z).symm
    · have ez : z = u := by
        have q : its.toArray[i]? = some u := by simpa using hu
        rw [q] at hz
        exact (Option.some.inj hz).symm
      subst ez
      refine ⟨_, rfl, wpAny_letOwnedTupleGo_enum (s := { s with heap := h1, toks := tk + 1 }) hO fun h2 hE2 sb => ?_⟩
      have t2 : h2.get? s.heap.objs.size = some { cls := .type "tuple", data := .seq #[.int i tk, z] } := (sb.2 _ (Nat.ne_of_gt le)).trans hT
      have ok2 : ObjOk X.prog X.w (upd H s.heap.objs.size (.tup [.int (i : Nat), x])) h2 s.heap.objs.size (.tup [.int (i : Nat), x]) :=
        ⟨by show 2 ≤ sizeLine; decide, [.int i tk, z], .cons ⟨_, rfl⟩ (.cons ru .nil), ⟨_, t2, rfl, _, rfl⟩⟩
      have J : Inv X pins σ (upd H s.heap.objs.size (.tup [.int (i : Nat), x])) { s with heap := h2, toks := tk + 1 } :=
        I.turnedNew (ch := [e, it]) (fun b ob hb q => by
          have n1 : b ≠ e := fun y => hb (y ▸ List.mem_cons_self)
          have n2 : b ≠ it := fun y => hb (y ▸ List.mem_cons_of_mem _ List.mem_cons_self)
          exact (sb.2 b n1).trans (hk b ob n1 n2 q)) hf (Nat.le_refl _) ok2
      refine ⟨.ref s.heap.objs.size, _, J, rfl, ⟨_, x, rfl, I.hok.fresh (Nat.le_refl _), rfl, fun ys hy => by rw [I.tuple_inj hy hq]; exact hx⟩, ⟨⟨z, ?_⟩, hS.1.at fun o q => (sb.2 it (Ne.symm hn)).trans q, hn⟩, fun b hb => ?_⟩
      · have e1 : ((i + 1 : Nat) : Int) = (i : Int) + 1 := by omega
        rw [e1]
        exact hE2
      · have lb : b < s.heap.objs.size := by
          rcases List.mem_cons.mp hb with y | y
          · rw [y]
            exact le
          · rw [List.mem_singleton.mp y]
            exact li
        rw [upd_ne (Nat.ne_of_lt lb)]
        exact (hf b hb).1
  done := by
    intro X eP eW eK hc i pins s σ H E I hf st hg
    subst eP eW eK
    obtain ⟨⟨old, hE⟩, hI, hn⟩ := st
    obtain ⟨xs, hq, hx⟩ := hg
    obtain ⟨its, rv, p, _⟩ := I.tuple hq
    have pT : s.heap.IsTuple a its.toArray := p
    have ai : a ≠ it := fun z => by
      obtain ⟨o, ho, hcl, _⟩ := pT
      obtain ⟨o2, ho2, hcl2, _⟩ := hI
      rw [z, ho2] at ho
      cases ho
      rw [hcl2] at hcl
      exact absurd (Value.type.inj hcl) (by decide)
    obtain ⟨f0, f1, f2, f3, f4, f5⟩ := hf it (List.mem_cons_of_mem _ List.mem_cons_self)
    have hl := rv.length
    have hh : X.A.in1.handled = none := I.ok.hd hc
    have D : Draws X.prog X.w X.A.in1 it [it, a] i (fun _ _ => False) (fun j h => j = i ∧ h.IsTupleIter it a i ∧ h.IsTuple a its.toArray) :=
      { live := fun _ h st => by
          obtain ⟨_, ⟨o, ho, _⟩, _⟩ := st
          exact ⟨o, ho⟩
        frame := fun _ _ _ st hk => ⟨st.1, st.2.1.at fun o q => hk it List.mem_cons_self o q, st.2.2.at fun o q => hk a (List.mem_cons_of_mem _ List.mem_cons_self) o q⟩
        item := fun j s2 Q2 E2 hj st _ => absurd hj (by rw [st.1]; exact Nat.lt_irrefl _)
        done := fun s2 Q2 E2 st hE2 => wpAny_nextOf_tuple_end hh st.2.1 st.2.2 (by simp; omega) hE2 }
    exact wpAny_pyNext_enum_endD D hE ⟨rfl, hI, pT⟩ fun h' eb => ⟨rfl, I.turned (t' := s.toks) (fun b o hb z => eb b o hb z) f0 f1 f3 f4 f5⟩
  self := fun A i s Q E st hQ => by
    obtain ⟨⟨_, hE⟩, _⟩ := st
    exact wpAny_pyIter_enum hE hQ
theorem ye_tup {K : PySem.W.Frag} {I : Hp} {a : Addr} {xs : List V} (h : SqT K I a xs) : YE I xs (Iut K a) where
  goes := fun i H hi e => ⟨xs, xs[i], Same.sqt e h, List.getElem?_eq_getElem hi⟩
  stops := fun H e => ⟨xs, Same.sqt e h, Nat.le_refl _⟩
  yields := fun i H v H' _ e y => by
    obtain ⟨T, x, h1, h2, h3, h4⟩ := y
    exact ⟨T, .int (i : Nat), x, h1, h2, h3, rfl, h4 xs (Same.sqt e h)⟩
theorem ye_list {K : PySem.W.Frag} {I : Hp} {a : Addr} {xs : List V} (h : SqL K I a xs) : YE I xs (Ite K a) := walk_enum.mono (fun H e => e.seq h) fun _ _ _ _ _ _ y => y
def iEnumS (K : PySem.W.Frag) (ta : TA) : TI := fun σ H R => ta σ H fun vs H1 => ∃ a, vs = [.ref a] ∧ (((∃ xs, SqL K H1 a xs) ∧ R (Ite K a) H1) ∨ ((∃ xs, SqT K H1 a xs) ∧ R (Iut K a) H1))
theorem pi_enumS {X : Cx} {e : Expr} {ta : TA} {p pos tpos : Pos} {elts : List Expr} {kk : Nat} (hg : Gl X "enumerate") (hm : X.mg "enumerate" = none) (ha : PA X [e] ta) (hs : starEach [e] X.env = [(false, eval e X.env)] := by rfl) :
    PI X (.Tuple elts kk tpos) (.Call (.Name "enumerate" p) [e] [] pos) (iEnumS X.K ta) := by
  refine ⟨fun pins s σ H R I h => Call_ (ld_blt I hg hm boot_enumerate (PyProof.Rows.callWith_type1 (thn (ha.run pos pins s σ H _ I h) fun us s1 ⟨vs, H1, I1, r1, q1⟩ => ?_) hs rfl))⟩
  obtain ⟨a, ev, q⟩ := q1
  subst ev
  obtain ⟨u, rfl, ru⟩ := vals1 r1
  cases ru
  have fresh : ∀ b ∈ [s1.heap.objs.size + 1, s1.heap.objs.size], FpOk X pins H1 b := fun b hb => by
    have lb : s1.heap.objs.size ≤ b := by
      rcases List.mem_cons.mp hb with y | y
      · rw [y]
        exact Nat.le_succ _
      · rw [List.mem_singleton.mp y]
        exact Nat.le_refl _
    exact I1.fpOk lb (I1.hok.fresh lb)
  rcases q with ⟨⟨xs, hq⟩, q⟩ | ⟨⟨xs, hq⟩, q⟩
  · obtain ⟨its, rv, pl, _⟩ := I1.list hq
    refine pa_callEnum (begins_list a its.toArray) pl.isList fun h' hE hI hk => wpAny_pyIter_enum hE ?_
    exact ⟨_, _, _, _, H1, rfl, I1.kept (t' := s1.toks) hk, turn_enum a (s1.heap.objs.size + 1) s1.heap.objs.size, ⟨⟨.none, hE⟩, ⟨_, hI, rfl, rfl⟩, Nat.succ_ne_self _⟩, fresh, q⟩
  · obtain ⟨its, rv, pt, _⟩ := I1.tuple hq
    refine pa_callEnum (begins_tuple a its.toArray) (show s1.heap.IsTuple a its.toArray from pt) fun h' hE hI hk => wpAny_pyIter_enum hE ?_
    exact ⟨_, _, _, _, H1, rfl, I1.kept (t' := s1.toks) hk, turn_ut a (s1.heap.objs.size + 1) s1.heap.objs.size, ⟨⟨.none, hE⟩, ⟨_, hI, rfl, rfl⟩, Nat.succ_ne_self _⟩, fresh, q⟩
def riS (K : PySem.W.Frag) (R : It → Hp → Prop) : V → Hp → Prop := fun x H => ∃ a, x = .ref a ∧ (((∃ xs, SqL K H a xs) ∧ R (Itl K a) H) ∨ ((∃ xs, SqT K H a xs) ∧ R (Itt K a) H))
theorem w_is {K : PySem.W.Frag} {tl : TE} {σ : L2.St} {H : Hp} {R : It → Hp → Prop} (h : tl σ H fun x H1 => riS K R x H1) : iSeq K tl σ H R := h
theorem w_iseq {K : PySem.W.Frag} {a : Addr} {I H : Hp} {M : Mu} {xs : List V} {R : It → Hp → Prop} (hm : Mem I M H) (h : SqE K I a xs) (q : ∀ J, YA I xs J → R J H) : riS K R (.ref a) H :=
  ⟨a, rfl, h.elim (fun h => .inl ⟨⟨xs, hm.sql h⟩, q _ (ya_list h)⟩) fun h => .inr ⟨⟨xs, hm.sqt h⟩, q _ (ya_tup h)⟩⟩
def riE (K : PySem.W.Frag) (R : It → Hp → Prop) : List V → Hp → Prop := fun vs H => ∃ a, vs = [.ref a] ∧ (((∃ xs, SqL K H a xs) ∧ R (Ite K a) H) ∨ ((∃ xs, SqT K H a xs) ∧ R (Iut K a) H))
theorem w_ie {K : PySem.W.Frag} {ta : TA} {σ : L2.St} {H : Hp} {R : It → Hp → Prop} (h : ta σ H fun vs H1 => riE K R vs H1) : iEnumS K ta σ H R := h
theorem w_ienum {K : PySem.W.Frag} {a : Addr} {I H : Hp} {M : Mu} {xs : List V} {R : It → Hp → Prop} (hm : Mem I M H) (h : SqE K I a xs) (q : ∀ J, YE I xs J → R J H) : riE K R [.ref a] H :=
  ⟨a, rfl, h.elim (fun h => .inl ⟨⟨xs, hm.sql h⟩, q _ (ye_list h)⟩) fun h => .inr ⟨⟨xs, hm.sqt h⟩, q _ (ye_tup h)⟩⟩
def riV (R : It → Hp → Prop) : Int → Int → Hp → Prop := fun a b H => -(2 ^ 62) ≤ a ∧ a < 2 ^ 62 ∧ -(2 ^ 62) ≤ b ∧ b < 2 ^ 62 ∧ R (Itc (a + (((b - a).toNat : Nat) : Int) - 1) (-1) (b - a).toNat) H
theorem w_irv {tr : L2.St → Hp → (Int → Int → Hp → Prop) → Prop} {σ : L2.St} {H : Hp} {R : It → Hp → Prop} (h : tr σ H fun a b H1 => riV R a b H1) : iRevR tr σ H R := h
abbrev YD (I : Hp) (n : Nat) (J : It) : Prop := Walk J n (fun H => Same I H) (YFn fun i => .int ((n : Int) - 1 - (i : Nat)))
theorem w_irvv {H : Hp} {n : Nat} {R : It → Hp → Prop} (hn : n ≤ 1000000) (q : ∀ J, (∀ I, YD I n J) → R J H) : riV R 0 ((n : Nat) : Int) H := by
  refine ⟨by omega, by omega, by omega, by omega, q _ fun I => ?_⟩
  have e : (((n : Nat) : Int) - 0).toNat = n := by omega
  rw [e]
  refine walk_rangeC.mono (fun _ _ => trivial) fun i H x H' _ _ y => ⟨y.1, y.2.trans (congrArg V.int ?_)⟩
  omega
/-! ### sorted of nested data -/
def rSortedD (K : PySem.W.Frag) : List V → Hp → VK → Prop := fun vs H Q => ∃ (a : Addr) (xs : List V) (bs : List (V × PyData)), vs = [V.ref a] ∧ SqL K H a xs ∧ xs = bs.map (·.1) ∧ (∀ b ∈ bs, Dp K H b.1 b.2) ∧
  PySem.W.AllAlike (bs.map (·.2)) ∧ PySem.W.Sortable (bs.map (·.2)) ∧ (∀ b ∈ bs, b.2.depth ≤ 60) ∧ ∀ p, H p = none → Q (.ref p) (upd H p (.lst ((bs.mergeSort (PySem.W.dataLe false (·.2))).map (·.1))))
theorem cr_sortedD {X : Cx} {k : Nat} (hr : Room k X.A) : CallR X (.builtin "sorted") (rSortedD X.K) := by
  intro pins s σ H vs us Q I r h
  obtain ⟨a, xs, bs, rfl, hs, ex, hD, hA, hS, hdep, q⟩ := h
  obtain ⟨its, rv, hl, hz⟩ := I.list hs
  rw [Vals.ref1 r]
  have each : ∀ {bs : List (V × PyData)} {us : List Value}, Vals (bs.map (·.1)) us → PySem.W.EachIs (fun u (b : V × PyData) => RelV b.1 u) us bs := by
    intro bs
    induction bs with
    | nil =>
      intro us r
      cases r
      exact .nil
    | cons b bs ih =>
      intro us r
      cases r with
      | cons r1 r2 => exact .cons r1 (ih r2)
  have eachR : ∀ {bs : List (V × PyData)} {us : List Value}, (∀ b ∈ bs, Dp X.K H b.1 b.2) → Vals (bs.map (·.1)) us → PySem.W.EachIs (fun u (b : V × PyData) => ∃ as, Reads s.heap u b.2 as) us bs := by
    intro bs
    induction bs with
    | nil =>
      intro us _ r
      cases r
      exact .nil
    | cons b bs ih =>
      intro us hd r
      cases r with
      | cons r1 r2 => exact .cons (Dp.reads I b.2 b.1 _ (hd b List.mem_cons_self) r1) (ih (fun c hc => hd c (List.mem_cons_of_mem _ hc)) r2)
  have back : ∀ {bs : List (V × PyData)} {us : List Value}, PySem.W.EachIs (fun u (b : V × PyData) => RelV b.1 u) us bs → Vals (bs.map (·.1)) us := by
    intro bs us e
    induction e with
    | nil => exact .nil
    | cons r1 _ ih => exact .cons r1 ih
  rw [ex] at rv
  have hlen : bs.length ≤ sizeLine := by
    rw [ex, List.length_map] at hz
    exact hz
  refine PySem.W.sorted_data (R := fun u (b : V × PyData) => RelV b.1 u) (enc := fun b => b.2) hl.isList (each rv) (eachR hD rv) hA hS hlen (fun b hb => ?_) fun out ho eo => ?_
  · have h1 := hdep b hb
    have h2 := hr.un
    omega
  · obtain ⟨ep, hat⟩ := PyProof.Rows.sortedAll_at s.heap its (List.toArray out)
    refine ⟨.ref _, _, I.laid (t' := s.toks) (a := s.heap.objs.size + 1) (o := .lst ((bs.mergeSort (PySem.W.dataLe false (·.2))).map (·.1))) (fun _ _ => PyProof.Rows.sortedAll_old) (Nat.le_succ _) ⟨?_, out, ep, back eo, hat⟩, rfl, q _ (I.hok.fresh (Nat.le_succ _))⟩
    rw [List.length_map, List.length_mergeSort]
    exact hlen
/-! ### methods, classes -/
def MtAt (P : Program) (w : World) (K : PySem.W.Frag) (mg : Str → Option Value) (base : Heap) (C : Addr) (m : Str) (k : Nat) (ps : List Str) (sp : Sp) : Prop :=
  ∃ (f : Addr) (fd : FuncData), Cls K C ∧ Meth K C m f ∧ Binds K fd ps [] ∧ FnOk P w K mg base CX0 k f fd ps sp
def MkAt (P : Program) (w : World) (K : PySem.W.Frag) (mg : Str → Option Value) (base : Heap) (x : Str) (C : Addr) (k : Nat) (ps : List Str) (sp : Sp) : Prop :=
  ∃ (f : Addr) (fd : FuncData), Mk K C f ∧ mg x = some (.ref C) ∧ Binds K fd ps [] ∧ FnOk P w K mg base CX0 k f fd ps sp
section
variable {X : Cx} {t : TA} {ta : TE} {x m : Str} {p apos pos : Pos} {k : Nat} {ps : List Str} {sp : Sp} {o e : Expr} {es : List Expr} {C : Addr}
theorem pe_mth {pl : Sem Bool} (G : MtAt X.prog X.w X.K X.mg X.base C m k ps sp) (hr : Room k X.A) (ho : PE X o ta) (ha : PA X (e :: es) t)
    (he : starEach (e :: es) X.env = (false, eval e X.env) :: starEach es X.env := by rfl) (hpl : (backTo pos (starEach es X.env)).any (·.1) = false := by rfl)
    (hc : eval (.Call (.Attribute o m apos) (e :: es) [] pos) X.env = (do
      let ov ← eval o X.env
      standAt apos.atName
      let (f, first) ← holding [ov] (getMethod ov m pl)
      callWith pos f first (backTo pos (starEach (e :: es) X.env)) (backToKw pos (keywordEach [] X.env))) := by rfl) :
    PE X (.Call (.Attribute o m apos) (e :: es) [] pos) (tMeth C m sp [] E0 ta t) := by
  obtain ⟨f, fd, h1, h2, h3, h4⟩ := G
  exact pe_meth ho h1 h2 h4 hr h3 .nil pass0 ha he hpl hc
theorem pe_mk (G : MkAt X.prog X.w X.K X.mg X.base x C k ps sp) (hr : Room (k + 1) X.A) (ha : PA X (e :: es) t) (hg : Gl X x := by rfl)
    (hdb : (x == ("__debug__" : Str)) = false := by decide) (he : starEach (e :: es) X.env = (false, eval e X.env) :: starEach es X.env := by rfl) (hpl : (backTo pos (starEach es X.env)).any (·.1) = false := by rfl) :
    PE X (.Call (.Name x p) (e :: es) [] pos) (tMake C sp [] E0 t) := by
  obtain ⟨f, fd, h1, h2, h3, h4⟩ := G
  exact pe_make h1 h4 hr hg h2 h3 .nil pass0 ha hdb he hpl
end
end Pa

set_option Elab.async false
set_option linter.all false
set_option maxRecDepth 100000
set_option maxHeartbeats 4000000
namespace Pa
open PySem PySem.Spec PyProof.Rows L2
/-! ### == by an own __eq__ -/
def rEqOwn (C : Addr) (sp : Sp) : R2 := fun x y H Q => ∃ a b dx dy fs gs, x = .ref a ∧ y = .ref b ∧ H a = some (.ins C dx fs) ∧ H b = some (.ins C dy gs) ∧ sp [x, y] H (fun v H' => ∃ k, v = .bl k ∧ Q (.bl k) H') E0
theorem op_eqOwn {X : Cx} {C : Addr} {k : Nat} {ps : List Str} {sp : Sp} (G : MtAt X.prog X.w X.K X.mg X.base C "__eq__" k ps sp) (hr : Room k X.A) : OpR X (compareOp .Eq) (rEqOwn C sp) := by
  obtain ⟨f, fd, hC, hM, hB, hF⟩ := G
  intro pins s σ H x y v u Q I rx ry h
  obtain ⟨a, b, dx, dy, fs, gs, rfl, rfl, ha, hb, hsp⟩ := h
  cases rx
  cases ry
  show wpAny (model X.prog X.w) X.A (richCompare .Eq (.ref a) (.ref b)) (EP X pins σ Q) X.xe s
  obtain ⟨mA, ja, _⟩ := ins_get I.hok ha
  obtain ⟨mB, jb, _⟩ := ins_get I.hok hb
  obtain ⟨od, ja, _⟩ := ja.look
  obtain ⟨ob, jb, _⟩ := jb.look
  obtain ⟨m, fr⟩ := I.fr
  refine PySem.W.cmp_K (op := .Eq) (tb := .ref C) hr.units0 fr I.ok.mod.kin ja jb.type (by simp [PySem.W.notFirst]) hM.at_ hM.fn ?_
  have r2 : Vals [V.ref a, V.ref b] [Value.ref a, Value.ref b] := .cons rfl (.cons rfl .nil)
  refine wpAny_call (codeAny_mono (hF.run X.A X.stack s H ⟨[.ref a, .ref b], []⟩ [.ref a, .ref b] [.ref a, .ref b] _ E0 hr I.env0 ?_ r2 hsp) fun r s' hq => ?_)
  · have z := hB s [.ref a, .ref b] I.kIn (by simpa using hF.len _ _ _ _ hsp)
    simpa using z
  · cases r with
    | error e => exact (show False from hq).elim
    | ok fl =>
      cases fl with
      | ret w =>
        obtain ⟨z, H', I', rz, kk, ez, q⟩ := I.after hq
        subst ez
        cases rz
        exact ⟨.bl kk, H', I', rfl, q⟩
      | next => exact False.elim hq
      | brk => exact False.elim hq
      | cont => exact False.elim hq
theorem same_at {H H' : Hp} {a : Addr} {o : HO} (e : Same H H') (h : H a = some o) : H' a = some o := e a o h
theorem small_sz {n : Nat} (h : n ≤ 100000) : n ≤ sizeLine := Nat.le_trans h (by decide)
theorem small_sl {n : Nat} (h : n ≤ 100000) : n < sizeLine := Nat.lt_of_le_of_lt h (by decide)
/-! ### fields by name -/
theorem lk_nil {f : Str} : ([] : List (Str × V)).lookup f = none := rfl
theorem lk_hd {f : Str} {v : V} {fs : List (Str × V)} : (putF f v fs).lookup f = some v := by rw [lookup_putF, if_pos rfl]
theorem lk_tl {f g : Str} {v : V} {o : Option V} {fs : List (Str × V)} (h : ¬ f = g) (q : fs.lookup f = o) : (putF g v fs).lookup f = o := by rw [lookup_putF, if_neg h, q]
theorem putF_len {g : Str} {v : V} : ∀ {fs : List (Str × V)}, (putF g v fs).length ≤ fs.length + 1
  | [] => Nat.le_refl _
  | (f, u) :: r => by
    unfold putF
    split
    · exact Nat.le_succ _
    · exact Nat.succ_le_succ putF_len
theorem putF_lt {g : Str} {v : V} {n : Nat} {fs : List (Str × V)} (h : fs.length < n) : (putF g v fs).length < n + 1 := Nat.lt_of_le_of_lt putF_len (Nat.succ_lt_succ h)
section
variable {X : Cx}
theorem pe_typ {x : Str} {n : String} {pos : Pos} (hm : X.mg x = none) (hv : bootBuiltins x = some (.type n)) (hg : Gl X x := by rfl) (hn : x ≠ "__name__" := by decide) (hd : (x == ("__debug__" : Str)) = false := by decide) : PE X (.Name x pos) (tC (.ty n)) := pe_bltn hg hm hv rfl hn hd
theorem pe_cls {x : Str} {a : Addr} {pos : Pos} (hm : X.mg x = some (.ref a)) (hg : Gl X x := by rfl) (hd : (x == ("__debug__" : Str)) = false := by decide) : PE X (.Name x pos) (tC (.ref a)) := pe_glob hg hm rfl hd
theorem w_isi {K : PySem.W.Frag} {x c : V} {t u : Value} {b : Bool} {H : Hp} {Q : VK} (hc : ClsV c u) (ht : TyX K H x t) (hk : PySem.W.kitOne K t u = some b) (q : Q (.bl b) H) : rIsi K [x, c] H Q := ⟨x, c, t, u, b, rfl, hc, ht, hk, q⟩
end
/-! ### isinstance -/
theorem tyx_tup {K : PySem.W.Frag} {H : Hp} {a : Addr} {xs : List V} (h : SqT K H a xs) : TyX K H (.ref a) (.type "tuple") := by
  rcases h with (h | ⟨o, h⟩) | ⟨o, its, n, h, hc, _⟩
  · exact .base (.tup h)
  · exact .fTuple h
  · exact .kTuple h hc
theorem tyx_list {K : PySem.W.Frag} {H : Hp} {a : Addr} {xs : List V} (h : SqL K H a xs) : TyX K H (.ref a) (.type "list") := by
  rcases h with (h | ⟨o, h⟩) | ⟨o, its, n, h, hc, _⟩
  · exact .base (.lst h)
  · exact .base (.frz h)
  · exact .kList h hc
section
variable {K : PySem.W.Frag} {H : Hp} {Q : VK}
theorem w_is_int_int {i : Int} (q : Q (.bl true) H) : rIsi K [V.int i, .ty "int"] H Q := w_isi (b := true) (.ty _) (.base (.int i)) (kit_ty (by decide +kernel)) q
theorem w_is_int_bool {i : Int} (q : Q (.bl false) H) : rIsi K [V.int i, .ty "bool"] H Q := w_isi (b := false) (.ty _) (.base (.int i)) (kit_ty (by decide +kernel)) q
theorem w_is_int_str {i : Int} (q : Q (.bl false) H) : rIsi K [V.int i, .ty "str"] H Q := w_isi (b := false) (.ty _) (.base (.int i)) (kit_ty (by decide +kernel)) q
theorem w_is_int_tuple {i : Int} (q : Q (.bl false) H) : rIsi K [V.int i, .ty "tuple"] H Q := w_isi (b := false) (.ty _) (.base (.int i)) (kit_ty (by decide +kernel)) q
theorem w_is_bl_int {b : Bool} (q : Q (.bl true) H) : rIsi K [V.bl b, .ty "int"] H Q := w_isi (b := true) (.ty _) (.base (.bl b)) (kit_ty (by decide +kernel)) q
theorem w_is_bl_bool {b : Bool} (q : Q (.bl true) H) : rIsi K [V.bl b, .ty "bool"] H Q := w_isi (b := true) (.ty _) (.base (.bl b)) (kit_ty (by decide +kernel)) q
theorem w_is_bl_str {b : Bool} (q : Q (.bl false) H) : rIsi K [V.bl b, .ty "str"] H Q := w_isi (b := false) (.ty _) (.base (.bl b)) (kit_ty (by decide +kernel)) q
theorem w_is_bl_tuple {b : Bool} (q : Q (.bl false) H) : rIsi K [V.bl b, .ty "tuple"] H Q := w_isi (b := false) (.ty _) (.base (.bl b)) (kit_ty (by decide +kernel)) q
theorem w_is_non_int  (q : Q (.bl false) H) : rIsi K [V.non, .ty "int"] H Q := w_isi (b := false) (.ty _) (.base .non) (kit_ty (by decide +kernel)) q
theorem w_is_non_bool  (q : Q (.bl false) H) : rIsi K [V.non, .ty "bool"] H Q := w_isi (b := false) (.ty _) (.base .non) (kit_ty (by decide +kernel)) q
theorem w_is_non_str  (q : Q (.bl false) H) : rIsi K [V.non, .ty "str"] H Q := w_isi (b := false) (.ty _) (.base .non) (kit_ty (by decide +kernel)) q
theorem w_is_non_tuple  (q : Q (.bl false) H) : rIsi K [V.non, .ty "tuple"] H Q := w_isi (b := false) (.ty _) (.base .non) (kit_ty (by decide +kernel)) q
theorem w_is_str_int {z : Str} (q : Q (.bl false) H) : rIsi K [V.str z, .ty "int"] H Q := w_isi (b := false) (.ty _) (.base (.str z)) (kit_ty (by decide +kernel)) q
theorem w_is_str_bool {z : Str} (q : Q (.bl false) H) : rIsi K [V.str z, .ty "bool"] H Q := w_isi (b := false) (.ty _) (.base (.str z)) (kit_ty (by decide +kernel)) q
theorem w_is_str_str {z : Str} (q : Q (.bl true) H) : rIsi K [V.str z, .ty "str"] H Q := w_isi (b := true) (.ty _) (.base (.str z)) (kit_ty (by decide +kernel)) q
theorem w_is_str_tuple {z : Str} (q : Q (.bl false) H) : rIsi K [V.str z, .ty "tuple"] H Q := w_isi (b := false) (.ty _) (.base (.str z)) (kit_ty (by decide +kernel)) q
theorem w_is_tup_int {I : Hp} {M : Mu} {a : Addr} {xs : List V} (hm : Mem I M H) (h : SqT K I a xs) (q : Q (.bl false) H) : rIsi K [V.ref a, .ty "int"] H Q := w_isi (b := false) (.ty _) (tyx_tup (hm.sqt h)) (kit_ty (by decide +kernel)) q
theorem w_is_tup_bool {I : Hp} {M : Mu} {a : Addr} {xs : List V} (hm : Mem I M H) (h : SqT K I a xs) (q : Q (.bl false) H) : rIsi K [V.ref a, .ty "bool"] H Q := w_isi (b := false) (.ty _) (tyx_tup (hm.sqt h)) (kit_ty (by decide +kernel)) q
theorem w_is_tup_str {I : Hp} {M : Mu} {a : Addr} {xs : List V} (hm : Mem I M H) (h : SqT K I a xs) (q : Q (.bl false) H) : rIsi K [V.ref a, .ty "str"] H Q := w_isi (b := false) (.ty _) (tyx_tup (hm.sqt h)) (kit_ty (by decide +kernel)) q
theorem w_is_tup_tuple {I : Hp} {M : Mu} {a : Addr} {xs : List V} (hm : Mem I M H) (h : SqT K I a xs) (q : Q (.bl true) H) : rIsi K [V.ref a, .ty "tuple"] H Q := w_isi (b := true) (.ty _) (tyx_tup (hm.sqt h)) (kit_ty (by decide +kernel)) q
end
/-! ### what the top has written -/
/-- the classes' addresses -/
structure Ad where
  ch : Addr
  me : Addr
  dr : Addr
  dg : Addr
  br : Addr
  er : Addr
/-- what isinstance asks of an own class -/
structure IsC (K : PySem.W.Frag) (C : Addr) : Prop where
  ha : PySem.W.findIn K (.ref C) "__class__" = some (some (.builtin "object.__class__"))
  hn : PySem.W.specialIn K (.builtin "object.__class__") "__get__" = some (some (.builtin "getset_descriptor.__get__"))
  ht : PySem.W.takesIn K (.builtin "object.__class__") = some true
  hm : PySem.W.mroIn K C (.type "object") = some true
structure Txt (K : PySem.W.Frag) (mg : Str → Option Value) (A : Ad) : Prop where
  b_isinstance : mg "isinstance" = none
  b_int : mg "int" = none
  b_bool : mg "bool" = none
  b_list : mg "list" = none
  b_tuple : mg "tuple" = none
  b_str : mg "str" = none
  b_len : mg "len" = none
  b_range : mg "range" = none
  b_enumerate : mg "enumerate" = none
  b_sorted : mg "sorted" = none
  b_reversed : mg "reversed" = none
  b_sum : mg "sum" = none
  b_all : mg "all" = none
  b_min : mg "min" = none
  b_max : mg "max" = none
  b_abs : mg "abs" = none
  most : ∃ t, mg "MOST_CHARGE" = some (.int 1000000000000 t)
  c_Drift : mg "Drift" = some (.ref A.dr)
  c_Drifting : mg "Drifting" = some (.ref A.dg)
  c_BadRing : mg "BadRing" = some (.ref A.br)
  c_MeterError : mg "MeterError" = some (.ref A.er)
  clCh : Cls K A.ch
  clMe : Cls K A.me
  clDr : Cls K A.dr
  n_costs : NoAttr K A.ch "costs"
  n_arrows : NoAttr K A.ch "arrows"
  n_chart : NoAttr K A.me "chart"
  n_first : NoAttr K A.me "first"
  n_charges : NoAttr K A.me "charges"
  n_ring : NoAttr K A.dr "ring"
  n_by : NoAttr K A.dr "by"
  isDr : IsC K A.dr
  kitDr : PySem.W.kitOne K (.ref A.dr) (.ref A.dr) = some true
end Pa

set_option Elab.async false
set_option linter.all false
set_option maxRecDepth 100000
set_option maxHeartbeats 4000000
/-! MORE STEPS: ranges as arguments, made instances, == of tuples -/
namespace Pa
open PySem L2
def rRg1 (R : Int → Int → Hp → Prop) : V → Hp → Prop := fun x H => ∃ n, x = .int n ∧ R 0 n H
theorem w_rg1 {ta : TE} {σ : St} {H : Hp} {R : Int → Int → Hp → Prop} (h : ta σ H fun x H1 => rRg1 R x H1) : tRg1 ta σ H R := h
theorem w_rg1v {n : Int} {H : Hp} {R : Int → Int → Hp → Prop} (h : R 0 n H) : rRg1 R (.int n) H := ⟨n, rfl, h⟩
theorem w_forD {I H : Hp} {M : Mu} {σ : St} {J : It} {n : Nat} {D : Ends} {g : TG} {tb : TS} (wk : ∀ I, YD I n J) (hm : Mem I M H) (Pv : Nat → St → Hp → Mu → Prop) (h0 : Pv 0 σ I M)
    (hs : ∀ i σ' N M' H', i < n → Same I N → Pv i σ' N M' → Mem N M' H' → g (.int ((n - (i + 1) : Nat) : Int)) σ' H' fun σ2 H2 => tb { D with nx := LI I (Pv (i + 1)), ct := LI I (Pv (i + 1)), bk := D.nx } σ2 H2)
    (hd : ∀ σ' N M' H', Same I N → Pv n σ' N M' → Mem N M' H' → D.nx σ' H') :
    rFor g tb D σ J H :=
  for_it (wk I) (fun i => LI I (Pv i)) ⟨I, M, Same.refl I, h0, hm⟩ (fun i σ H _ ⟨N, M, e, _, m⟩ => e.trans m.ex)
    (fun i x σ H H' hi ⟨N, M, e, p, m⟩ ⟨e1, e2⟩ => by
      have e3 : x = .int ((n - (i + 1) : Nat) : Int) := e2.trans (congrArg V.int (by omega))
      subst e1 e3
      exact hs i σ N M _ hi e p m) fun σ H ⟨N, M, e, p, m⟩ => hd σ N M H e p m
/-- list(range(n)) -/
def rLrg (Q : VK) : Int → Int → Hp → Prop := fun a b H => RgOk a b ∧ ∀ q, H q = none → Q (.ref q) (upd H q (.lst (rgV a b)))
theorem w_lrg {te : St → Hp → (Int → Int → Hp → Prop) → Prop} {σ : St} {H : Hp} {Q : VK} (h : te σ H fun a b H1 => rLrg Q a b H1) : tLstRg te σ H Q := h
theorem w_lrgv {I H : Hp} {M : Mu} {n : Nat} {Q : VK} (hm : Mem I M H) (hn : n ≤ 1000000) (q : ∀ p H', Mem I ((p, .lst ((List.range n).map fun (x : Nat) => V.int (x : Int))) :: M) H' → Q (.ref p) H') : rLrg Q 0 ((n : Nat) : Int) H := by
  refine ⟨RgOk.of_le (by omega) (by omega) (by omega) (by omega), fun p hp => q p _ ?_⟩
  have e : rgV 0 ((n : Nat) : Int) = (List.range n).map fun (x : Nat) => V.int (x : Int) := by
    unfold rgV
    have e1 : (((n : Nat) : Int) - 0).toNat = n := by omega
    rw [e1]
    refine congrArg (fun f => (List.range n).map f) (funext fun i => ?_)
    rw [Int.zero_add]
  rw [e]
  exact hm.new hp
/-- an instance is made -/
def rMk (C : Addr) (sp : Sp) : List V → Hp → VK → Prop := fun vs H Q => ∀ x dx, H x = none → H dx = none → dx ≠ x → sp (.ref x :: (vs ++ [])) (upd (upd H dx (.own x)) x (.ins C dx [])) (fun v H2 => v = .non ∧ Q (.ref x) H2) E0
theorem w_make {C : Addr} {sp : Sp} {t : TA} {σ : St} {H : Hp} {Q : VK} (h : t σ H fun vs H1 => rMk C sp vs H1 Q) : tMake C sp [] E0 t σ H Q := h
theorem w_mk {Pre : List V → Hp → Mu → (V → Hp → Mu → Prop) → Prop} {C : Addr} {vs : List V} {I H : Hp} {M : Mu} {Q : VK} (hm : Mem I M H)
    (q : ∀ x dx N, Same I N → ∃ R, Pre (.ref x :: vs) N ((x, .ins C dx []) :: M) R ∧ ∀ v N2 M' H', Same N N2 → Mem N2 M' H' → R v N2 M' → v = .non ∧ Q (.ref x) H') : rMk C (spM Pre) vs H Q := fun x dx hx hdx hne => by
  have hx2 : (upd H dx (.own x)) x = none := by rw [upd_ne (Ne.symm hne)]; exact hx
  obtain ⟨R, h1, h2⟩ := q x dx _ (Same.new (hm.free hdx))
  rw [List.append_nil]
  exact ⟨_, _, R, h1, (hm.imm hdx).new hx2, h2⟩
end Pa
namespace Pa
open PySem L2
/-! ### data -/
theorem dp_nats {K : PySem.W.Frag} {H : Hp} : ∀ (l : List Nat), DpAll K H (l.map fun (x : Nat) => V.int (x : Int)) (l.map fun (x : Nat) => PyData.int (x : Int))
  | [] => .nil
  | x :: r => .cons (.int _) (dp_nats r)
theorem eqv_nats : ∀ (l m : List Nat), PyData.eqvAll (l.map fun (x : Nat) => PyData.int (x : Int)) (m.map fun (x : Nat) => PyData.int (x : Int)) = decide (l = m)
  | [], [] => by simp only [List.map_nil, PyData.eqvAll]; rfl
  | [], b :: s => by simp only [List.map_nil, List.map_cons, PyData.eqvAll]; rfl
  | a :: r, [] => by simp only [List.map_nil, List.map_cons, PyData.eqvAll]; rfl
  | a :: r, b :: s => by
    simp only [List.map_cons, PyData.eqvAll, PyData.eqv]
    rw [eqv_nats r s]
    by_cases h : a = b
    · subst h
      simp
    · have : ¬ ((a : Int) = (b : Int)) := by omega
      simp [h, this]
theorem lay_nats : ∀ (l : List Nat), PyData.canLayAll0 (l.map fun (x : Nat) => PyData.int (x : Int)) = true ∧ PyData.depthAll (l.map fun (x : Nat) => PyData.int (x : Int)) ≤ 1
  | [] => ⟨rfl, by simp [PyData.depthAll]⟩
  | a :: r => by
    have ih := lay_nats r
    simp only [List.map_cons, PyData.canLayAll0, PyData.canLay0, PyData.depthAll, PyData.depth, ih.1, Bool.and_self, true_and]
    omega
theorem shaped_nats (l : List Nat) : SeqAt.shaped (.tuple (l.map fun (x : Nat) => PyData.int (x : Int))) = true := by
  unfold SeqAt.shaped
  have h := (lay_nats l).2
  have e : PyData.depth (.tuple (l.map fun (x : Nat) => PyData.int (x : Int))) ≤ 64 := by
    simp only [PyData.depth]
    omega
  rw [decide_eq_true e, Bool.and_true]
  simp only [PyData.canLay0]
  exact (lay_nats l).1
theorem w_eqDN {K : PySem.W.Frag} {I H : Hp} {M : Mu} {a b : Addr} {l m : List Nat} {Q : VK} (hm : Mem I M H) (ha : SqT K I a (l.map fun (x : Nat) => V.int (x : Int))) (hb : SqT K I b (m.map fun (x : Nat) => V.int (x : Int))) (q : Q (.bl (decide (l = m))) H) :
    rEqD K (.ref a) (.ref b) H Q := by
  refine ⟨.tuple (l.map fun (x : Nat) => PyData.int (x : Int)), .tuple (m.map fun (x : Nat) => PyData.int (x : Int)), .tup (hm.sqt ha) (dp_nats l), .tup (hm.sqt hb) (dp_nats m), shaped_nats l, shaped_nats m, ?_⟩
  simp only [PyData.eqv]
  rw [eqv_nats]
  exact q
end Pa
namespace Pa
open PySem L2
section
variable {K : PySem.W.Frag} {I H : Hp} {M : Mu} {σ : St} {J : It} {n : Nat} {g : TG} {xs : List V} {vs : List Nat} {tt : TT} {te : TE} {Q : VK}
/-- the elements may make new things: over a list or a tuple -/
theorem w_lcGA (wk : YA I xs J) (hm : Mem I M H) (Pv : Nat → List V → Hp → Mu → Prop) (h0 : Pv 0 [] I M)
    (hs : ∀ i x D acc N M' H' (Yes : V → Hp → Prop) (No : Hp → Prop), i < xs.length → xs[i]? = some x → Same I N → Pv i acc N M' → Mem N ((D, .lst acc) :: M') H' →
      (∀ y N2 M2 H4, Same I N2 → Pv (i + 1) (acc ++ [y]) N2 M2 → acc.length < sizeLine → Mem N2 ((D, .lst acc) :: M2) H4 → Yes y H4) → (∀ N2 M2 H4, Same I N2 → Pv (i + 1) acc N2 M2 → Mem N2 ((D, .lst acc) :: M2) H4 → No H4) →
      g x (wipe σ vs) H' fun σ2 H2 => wipe σ2 vs = wipe σ vs ∧ tt σ2 H2 fun b H3 => if b = true then te σ2 H3 Yes else No H3)
    (hd : ∀ D acc N M' H', Same I N → Pv xs.length acc N M' → Mem N ((D, .lst acc) :: M') H' → Q (.ref D) H') :
    rLc g tt te vs σ Q J H :=
  w_lcG wk hm Pv h0 (fun i x D acc N M' H1 H2 Yes No hi e p m ⟨e1, e2⟩ hy hn => by subst e1; exact hs i x D acc N M' _ Yes No hi e2 e p m hy hn) hd
/-- over a range -/
theorem w_lcGR (wk : ∀ I, YR I 0 n J) (hm : Mem I M H) (Pv : Nat → List V → Hp → Mu → Prop) (h0 : Pv 0 [] I M)
    (hs : ∀ i D acc N M' H' (Yes : V → Hp → Prop) (No : Hp → Prop), i < n → Same I N → Pv i acc N M' → Mem N ((D, .lst acc) :: M') H' →
      (∀ y N2 M2 H4, Same I N2 → Pv (i + 1) (acc ++ [y]) N2 M2 → acc.length < sizeLine → Mem N2 ((D, .lst acc) :: M2) H4 → Yes y H4) → (∀ N2 M2 H4, Same I N2 → Pv (i + 1) acc N2 M2 → Mem N2 ((D, .lst acc) :: M2) H4 → No H4) →
      g (.int ((i : Nat) : Int)) (wipe σ vs) H' fun σ2 H2 => wipe σ2 vs = wipe σ vs ∧ tt σ2 H2 fun b H3 => if b = true then te σ2 H3 Yes else No H3)
    (hd : ∀ D acc N M' H', Same I N → Pv n acc N M' → Mem N ((D, .lst acc) :: M') H' → Q (.ref D) H') :
    rLc g tt te vs σ Q J H :=
  w_lcG (wk I) hm Pv h0 (fun i x D acc N M' H1 H2 Yes No hi e p m ⟨e1, e2⟩ hy hn => by
    have e3 : x = .int ((i : Nat) : Int) := e2.trans (congrArg V.int (Int.zero_add _))
    subst e1 e3
    exact hs i D acc N M' _ Yes No hi e p m hy hn) hd
end
end Pa
namespace Pa
open PySem L2
/-! ### sorted of tuples of numbers -/
abbrev li (l : List Nat) : List Int := l.map fun (x : Nat) => (x : Int)
theorem alike_nats : ∀ (l m : List Nat), PySem.W.alikeAll (l.map fun (x : Nat) => PyData.int (x : Int)) (m.map fun (x : Nat) => PyData.int (x : Int)) = true
  | [], [] => by simp [PySem.W.alikeAll]
  | [], b :: s => by simp [PySem.W.alikeAll]
  | a :: r, [] => by simp [PySem.W.alikeAll]
  | a :: r, b :: s => by
    simp only [List.map_cons, PySem.W.alikeAll, PySem.W.alike, Bool.true_and]
    exact alike_nats r s
theorem map_li (l : List Nat) : (l.map fun (x : Nat) => PyData.int (x : Int)) = (li l).map PyData.int := by rw [List.map_map]; rfl
theorem lt_nats (l m : List Nat) : PySem.W.dataLt (.tuple (l.map fun (x : Nat) => PyData.int (x : Int))) (.tuple (m.map fun (x : Nat) => PyData.int (x : Int))) = decide (li l < li m) := by
  rw [PySem.W.dataLt_tuple, map_li, map_li]
  exact PySem.W.dataLt_ints _ _
theorem le_nats (l m : List Nat) : (!PySem.W.dataLt (.tuple (m.map fun (x : Nat) => PyData.int (x : Int))) (.tuple (l.map fun (x : Nat) => PyData.int (x : Int)))) = decide (li l ≤ li m) := by
  rw [lt_nats]
  by_cases h : li m < li l
  · have h' : ¬ li l ≤ li m := fun r => List.not_lt.mpr r h
    simp [h, h']
  · have h' : li l ≤ li m := List.not_lt.mp h
    simp [h, h']
end Pa
namespace Pa
open PySem L2
theorem w_yes {σ : St} {H : Hp} {Q : Bool → Hp → Prop} (h : Q true H) : tYes σ H Q := h
theorem w_tt {A B : Prop} (h : A) : if true = true then A else B := iteT h
theorem w_ff {A B : Prop} (h : B) : if false = true then A else B := iteF h
theorem w_nt {A B : Prop} (h : B) : if (!true) = true then A else B := iteF h
theorem w_nf {A B : Prop} (h : A) : if (!false) = true then A else B := iteT h
end Pa

set_option Elab.async false
set_option linter.all false
set_option maxRecDepth 100000
set_option maxHeartbeats 4000000
/-! ERRORS WITH FIELDS -/
namespace Pa
open PySem PySem.Spec PyProof.Rows L2
/-- what the top says of Drifting -/
structure DrgC (K : PySem.W.Frag) (mg : Str → Option Value) (A : Ad) (fI : Addr) : Prop where
  oex : OexC K A.dg
  nr : NoAttr K A.dg "ring"
  nb : NoAttr K A.dg "by"
  ini : PySem.W.findIn K (.ref A.dg) "__init__" = some (some (.ref fI))
  ity : PySem.W.typeIn K (.ref fI) = some (.type "function")
  xf : XfC K A.dg
  cls : (PySem.W.clsIn K A.dg).isSome = true
  is : IsC K A.dg
  k1 : PySem.W.kitOne K (.ref A.dg) (.ref A.dg) = some true
  k2 : PySem.W.kitOne K (.ref A.dg) (.ref A.br) = some false
  ex : PySem.W.exmOne K (.ref A.dg) (.ref A.er) = some true
/-! ### self.f = e in the __init__ of an error -/
def rOst (K : PySem.W.Frag) (f : Str) (D : Ends) (σ : L2.St) : V → V → Hp → Prop := fun y x H2 => ∃ a C : Addr, x = .ref a ∧ OexC K C ∧ PySem.W.findIn K (.ref C) f = some none ∧
  ((H2 a = some (exo a C none) ∧ ∀ dx, H2 dx = none → dx ≠ a → D.nx σ (upd (upd H2 dx (exd dx [(f, y)])) a (exo a C (some dx)))) ∨
    ∃ (dx : Addr) (fs : List (Str × V)), H2 a = some (exo a C (some dx)) ∧ H2 dx = some (exd dx fs) ∧ fs.length ≤ 900 ∧ D.nx σ (upd H2 dx (exd dx ((f, y) :: fs))))
theorem w_ost {K : PySem.W.Frag} {f : Str} {to te : TE} {D : Ends} {σ : L2.St} {H : Hp} (h : te σ H fun y H1 => to σ H1 fun x H2 => rOst K f D σ y x H2) : tOst K f to te D σ H := h
section
variable {K : PySem.W.Frag} {I H : Hp} {M : Mu} {f : Str} {D : Ends} {σ : L2.St} {y : V} {a C dx : Addr} {fs : List (Str × V)}
theorem w_ost1 (hm : Mem I ((a, exo a C none) :: M) H) (T : OexC K C) (hn : NoAttr K C f) (q : ∀ dx H', Mem I ((a, exo a C (some dx)) :: (dx, exd dx [(f, y)]) :: M) H' → D.nx σ H') : rOst K f D σ y (.ref a) H := by
  refine ⟨a, C, rfl, T, hn, .inl ⟨hm.at (j := 0) rfl, fun dx hd hne => q dx _ ?_⟩⟩
  exact ((hm.new (o := exd dx [(f, y)]) hd).swap).set (j := 0) rfl
theorem w_ost2 (hm : Mem I ((a, exo a C (some dx)) :: (dx, exd dx fs) :: M) H) (T : OexC K C) (hn : NoAttr K C f) (hl : fs.length ≤ 900) (q : ∀ H', Mem I ((a, exo a C (some dx)) :: (dx, exd dx ((f, y) :: fs)) :: M) H' → D.nx σ H') : rOst K f D σ y (.ref a) H :=
  ⟨a, C, rfl, T, hn, .inr ⟨dx, fs, hm.at (j := 0) rfl, hm.at (j := 1) rfl, hl, q _ (hm.set (j := 1) rfl)⟩⟩
end
/-! ### raise C(..), C's own __init__ walked -/
def rMkO (C : Addr) (sp : Sp) (Q : XK) : List V → Hp → Prop := fun vs H1 => vs.length ≤ 1000 ∧ ∀ a, H1 a = none → sp (.ref a :: (vs ++ [])) (upd H1 a (exo a C none))
  (fun v H2 => v = .non ∧ ∃ (d : Addr) (fs : List (Str × V)), H2 a = some (exo a C (some d)) ∧ H2 d = some (exd d fs) ∧ H1 d = none ∧ Q (.ref C) (some d) (upd (del H2 a) d (.xd fs))) (fun _ _ _ => False)
theorem w_mkoE {C : Addr} {sp : Sp} {ta : TA} {σ : L2.St} {H : Hp} {Q : XK} (h : ta σ H fun vs H1 => rMkO C sp Q vs H1) : tMkO C sp [] ta σ H Q := h
theorem Mem.full {I H : Hp} {M : Mu} (hm : Mem I M H) : ∃ N, Same I N ∧ Mem N M H ∧ ∀ b, N b = none → b ∉ M.map (·.1) → H b = none := by
  refine ⟨fun b => if b ∈ M.map (·.1) then none else H b, fun a u e => ?_, ⟨fun a u e => ?_, fun p hp => ?_, hm.mu, hm.nd⟩, fun b hb hn => ?_⟩
  · have : a ∉ M.map (·.1) := fun hq => by
      obtain ⟨p, hp, rfl⟩ := List.mem_map.mp hq
      rw [hm.im p hp] at e
      cases e
    show (if a ∈ M.map (·.1) then none else H a) = some u
    rw [if_neg this]
    exact hm.ex a u e
  · have e : (if a ∈ M.map (·.1) then none else H a) = some u := e
    by_cases h : a ∈ M.map (·.1)
    · rw [if_pos h] at e
      cases e
    · rw [if_neg h] at e
      exact e
  · show (if p.1 ∈ M.map (·.1) then none else H p.1) = none
    rw [if_pos (List.mem_map.mpr ⟨p, hp, rfl⟩)]
  · have e : (if b ∈ M.map (·.1) then none else H b) = none := hb
    rw [if_neg hn] at e
    exact e
theorem w_mko {Pre : List V → Hp → Mu → (V → Hp → Mu → Prop) → Prop} {C : Addr} {vs : List V} {I H : Hp} {M : Mu} {Q : XK} (hm : Mem I M H) (hl : vs.length ≤ 1000)
    (q : ∀ a N0, Same I N0 → ∃ R, Pre (.ref a :: vs) N0 ((a, exo a C none) :: M) R ∧ ∀ v N M', Same N0 N → R v N M' → v = .non ∧ ∃ d fs, M' = (a, exo a C (some d)) :: (d, exd d fs) :: M ∧ ∀ H', Mem N ((d, .xd fs) :: M) H' → Q (.ref C) (some d) H') : rMkO C (spM Pre) Q vs H := by
  refine ⟨hl, fun a ha => ?_⟩
  obtain ⟨N0, e0, hm0, hN⟩ := hm.full
  obtain ⟨R, h1, h2⟩ := q a N0 e0
  rw [List.append_nil]
  refine ⟨N0, (a, exo a C none) :: M, R, h1, hm0.new ha, fun v N M' H' e hm' hR => ?_⟩
  obtain ⟨hv, d, fs, rfl, hq⟩ := h2 v N M' e hR
  have nd1 := List.nodup_cons.mp (show (a :: d :: M.map (·.1)).Nodup from hm'.nd)
  have nd2 := List.nodup_cons.mp nd1.2
  have had : a ≠ d := fun z => nd1.1 (by rw [z]; exact List.mem_cons_self)
  refine ⟨hv, d, fs, hm'.at (j := 0) rfl, hm'.at (j := 1) rfl, ?_, hq _ ?_⟩
  · exact hN d (e.free (hm'.im (d, exd d fs) (.tail _ (.head _)))) nd2.1
  · refine ⟨fun b u hb => ?_, fun p hp => ?_, fun p hp => ?_, nd1.2⟩
    · have h1 : b ≠ d := ne_of_none hb (hm'.im (d, exd d fs) (.tail _ (.head _)))
      have h2 : b ≠ a := ne_of_none hb (hm'.im (a, exo a C (some d)) (.head _))
      rw [upd_ne h1, del_ne h2]
      exact hm'.ex b u hb
    · rcases List.mem_cons.mp hp with z | hp
      · subst z
        exact hm'.im (d, exd d fs) (.tail _ (.head _))
      · exact hm'.im p (.tail _ (.tail _ hp))
    · rcases List.mem_cons.mp hp with z | hp
      · subst z
        exact upd_same
      · have h1 : p.1 ≠ d := fun z => nd2.1 (by rw [← z]; exact List.mem_map.mpr ⟨p, hp, rfl⟩)
        have h2 : p.1 ≠ a := fun z => nd1.1 (by rw [← z]; exact List.mem_cons_of_mem _ (List.mem_map.mpr ⟨p, hp, rfl⟩))
        rw [upd_ne h1, del_ne h2]
        exact hm'.mu p (.tail _ (.tail _ hp))
end Pa
namespace Pa
open PySem PySem.Spec PyProof.Rows L2
/-- isinstance(e, c), e the error with fields that the suite holds -/
def rIsX (K : PySem.W.Frag) (a : Addr) (cls : Value) (d : Option Addr) (D : Addr) : List V → Hp → VK → Prop := fun xs H Q => ∃ (c : V) (cv : Value) (b : Bool) (dd : Addr) (fs : List (Str × V)), xs = [.ref a, c] ∧ ClsV c cv ∧ cls = .ref D ∧ d = some dd ∧ H dd = some (.xd fs) ∧ PySem.W.kitOne K (.ref D) cv = some b ∧ Q (.bl b) H
theorem call_isX {X : Cx} {a D : Addr} {oe : Obj} {cls : Value} {d : Option Addr} {pn : List (Addr × Obj)} (T : XfC X.K D) (hcl : (PySem.W.clsIn X.K D).isSome = true) (hi : IsC X.K D) (hz : Zc cls d oe) (hf : ∃ vs, oe.data = .fields vs) :
    CallR (X.suite a ((a, oe) :: pn)) (.builtin "isinstance") (rIsX X.K a cls d D) := by
  intro pins s σ H xs us Q I r h
  obtain ⟨c, cv, b, dd, fs, rfl, hcv, ec, ed, ea, ek, q⟩ := h
  obtain ⟨u1, u2, rfl, r1, r2⟩ := vals2 r
  cases r1
  have e2 := hcv.eq r2
  subst e2
  subst ec
  subst ed
  obtain ⟨hget, _⟩ := I.pin (a, oe) (List.mem_append.mpr (.inl List.mem_cons_self))
  obtain ⟨vs, hd⟩ := hf
  have hx : ObjOk X.prog X.w H s.heap dd (.xd fs) := I.hok dd _ ea
  obtain ⟨mA, hns, hr⟩ := hx
  obtain ⟨od, ho, hl⟩ := lookIn_ns hns
  have J : PySem.W.InstAt s.heap a oe D (some od) := ⟨hget, hz.1, by unfold PySem.W.notCls; rw [hd] <;> rfl, by rw [hz.2]; exact ho⟩
  exact PySem.W.kia_one (PySem.W.kitx_exc hcl T.ga T.gg T.exC hi.ha hi.hn hi.ht hi.hm) I.kIn J ek (fun z => nomatch z) fun tk => ⟨.bl b, H, I.kept (t' := tk) fun _ _ z => z, rfl, q⟩
end Pa

set_option Elab.async false
set_option linter.all false
set_option maxRecDepth 100000
set_option maxHeartbeats 4000000
-- NOMAC
namespace Pa
/-! ### plain data -/
/-- a chart: costs; arrows (tail, head) -/
structure Ch where
  cs : List Int
  ar : List (Nat × Nat)
def Ch.tl (c : Ch) (k : Nat) : Nat := (c.ar.getD k (0, 0)).1
def Ch.hd (c : Ch) (k : Nat) : Nat := (c.ar.getD k (0, 0)).2
abbrev Ch.n (c : Ch) : Nat := c.cs.length
abbrev Ch.m (c : Ch) : Nat := c.ar.length
structure Ch.Ok (c : Ch) : Prop where
  n1 : 1 ≤ c.cs.length
  n16 : c.cs.length ≤ 16
  m32 : c.ar.length ≤ 32
  tl : ∀ k, k < c.ar.length → c.tl k < c.cs.length
  hd : ∀ k, k < c.ar.length → c.hd k < c.cs.length
/-- a meter: its chart, first charge, charges -/
structure Me where
  ch : Ch
  fi : Int
  cg : List Int
structure Me.Ok (e : Me) : Prop where
  ch : e.ch.Ok
  cg : e.cg.length = e.ch.ar.length
/-- by how much the lead grows along arrow k -/
def Me.gain (e : Me) (k : Nat) : Int := e.cg.getD k 0 - e.ch.cs.getD (e.ch.tl k) 0
/-- the arrows out of a place -/
def Ch.outs (c : Ch) (v : Nat) : List Nat := (List.range c.ar.length).filter fun k => decide (c.tl k = v)
theorem Ch.mem_outs {c : Ch} {v k : Nat} : k ∈ c.outs v ↔ k < c.ar.length ∧ c.tl k = v := by
  unfold Ch.outs
  rw [List.mem_filter, List.mem_range, decide_eq_true_iff]
end Pa
namespace Pa
theorem nodup_len : ∀ (n : Nat) (l : List Nat), l.Nodup → (∀ x ∈ l, x < n) → l.length ≤ n
  | 0, l, _, h => by
    cases l with
    | nil => exact Nat.le_refl _
    | cons a r => exact absurd (h a List.mem_cons_self) (Nat.not_lt_zero _)
  | n + 1, l, hn, h => by
    have h2 := nodup_len n (l.erase n) (hn.erase n) fun x hx => by
      have h3 := (hn.mem_erase_iff).mp hx
      have := h x h3.2
      have := h3.1
      omega
    by_cases hm : n ∈ l
    · rw [List.length_erase_of_mem hm] at h2
      omega
    · rw [List.erase_of_not_mem hm] at h2
      omega
/-- w is come to from v along one arrow or more -/
inductive Ch.Reach (c : Ch) : Nat → Nat → Prop where
  | one {k : Nat} (h : k < c.ar.length) : c.Reach (c.tl k) (c.hd k)
  | step {v : Nat} {k : Nat} (r : c.Reach v (c.tl k)) (h : k < c.ar.length) : c.Reach v (c.hd k)
theorem Ch.Reach.lt {c : Ch} (ok : c.Ok) {v w : Nat} (r : c.Reach v w) : w < c.cs.length := by
  cases r with
  | one h => exact ok.hd _ h
  | step _ h => exact ok.hd _ h
theorem Ch.Reach.lt1 {c : Ch} (ok : c.Ok) {v w : Nat} (r : c.Reach v w) : v < c.cs.length := by
  induction r with
  | one h => exact ok.tl _ h
  | step _ _ ih => exact ih
theorem Ch.Reach.trans {c : Ch} {u v w : Nat} (a : c.Reach u v) (b : c.Reach v w) : c.Reach u w := by
  induction b with
  | one h => exact .step a h
  | step _ h ih => exact .step (ih a) h
/-- what is closed under the arrows holds all that is come to -/
theorem Ch.Reach.closed {c : Ch} {p : Nat} {S : Nat → Prop} (h : ∀ k, k < c.ar.length → c.tl k = p ∨ S (c.tl k) → S (c.hd k)) {w : Nat} (r : c.Reach p w) : S w := by
  induction r with
  | one hk => exact h _ hk (.inl rfl)
  | step _ hk ih => exact h _ hk (.inr (ih h))
end Pa
namespace Pa
/-- whether w is come to from v -/
noncomputable def Ch.rch (c : Ch) (v w : Nat) : Bool := @decide (c.Reach v w) (Classical.propDecidable _)
theorem Ch.rch_iff {c : Ch} {v w : Nat} : c.rch v w = true ↔ c.Reach v w := @decide_eq_true_iff _ (Classical.propDecidable _)
theorem Ch.rch_no {c : Ch} {v w : Nat} : c.rch v w = false ↔ ¬ c.Reach v w := @decide_eq_false_iff_not _ (Classical.propDecidable _)
/-- the part of a place, ascending -/
noncomputable def Ch.part (c : Ch) (p : Nat) : List Nat := (List.range c.cs.length).filter fun x => c.rch p x && c.rch x p
theorem Ch.mem_part {c : Ch} (ok : c.Ok) {p x : Nat} : x ∈ c.part p ↔ c.Reach p x ∧ c.Reach x p := by
  unfold Ch.part
  rw [List.mem_filter, List.mem_range, Bool.and_eq_true, Ch.rch_iff, Ch.rch_iff]
  exact ⟨fun h => h.2, fun h => ⟨h.1.lt ok, h⟩⟩
theorem lt_ext : ∀ {l1 l2 : List Nat}, l1.Pairwise (· < ·) → l2.Pairwise (· < ·) → (∀ x, x ∈ l1 ↔ x ∈ l2) → l1 = l2
  | [], [], _, _, _ => rfl
  | [], b :: r, _, _, h => absurd ((h b).mpr List.mem_cons_self) (by simp)
  | a :: r, [], _, _, h => absurd ((h a).mp List.mem_cons_self) (by simp)
  | a :: r, b :: s, h1, h2, h => by
    have p1 := List.pairwise_cons.mp h1
    have p2 := List.pairwise_cons.mp h2
    have e : a = b := by
      rcases List.mem_cons.mp ((h a).mp List.mem_cons_self) with e | m1
      · exact e
      · rcases List.mem_cons.mp ((h b).mpr List.mem_cons_self) with e | m2
        · exact e.symm
        · have q1 := p2.1 a m1
          have q2 := p1.1 b m2
          omega
    subst e
    rw [lt_ext p1.2 p2.2 fun x => ?_]
    constructor
    · intro hx
      rcases List.mem_cons.mp ((h x).mp (List.mem_cons_of_mem _ hx)) with e | m
      · have := p1.1 x hx
        omega
      · exact m
    · intro hx
      rcases List.mem_cons.mp ((h x).mpr (List.mem_cons_of_mem _ hx)) with e | m
      · have := p2.1 x hx
        omega
      · exact m
theorem range_lt (n : Nat) : (List.range n).Pairwise (· < ·) := List.pairwise_lt_range
/-- a sorted list of the same places -/
theorem sorted_nats {l : List Nat} {ns : List Int} (hp : ns.Perm (l.map fun (x : Nat) => (x : Int))) (hs : ns.Pairwise (· ≤ ·)) (hn : l.Nodup) : ∃ l' : List Nat, ns = l'.map (fun (x : Nat) => (x : Int)) ∧ l'.Pairwise (· < ·) ∧ ∀ x, x ∈ l' ↔ x ∈ l := by
  have e : ns = (ns.map Int.toNat).map (fun (x : Nat) => (x : Int)) := by
    rw [List.map_map]
    have : ∀ x ∈ ns, (((fun (x : Nat) => (x : Int)) ∘ Int.toNat) x) = x := fun x hx => by
      obtain ⟨y, _, rfl⟩ := List.mem_map.mp (hp.mem_iff.mp hx)
      rfl
    rw [List.map_congr_left this, List.map_id']
  have hp2 : (ns.map Int.toNat).Perm l := by
    have := hp.map Int.toNat
    rw [List.map_map] at this
    have e2 : l.map (Int.toNat ∘ fun (x : Nat) => (x : Int)) = l := by
      have : ∀ x ∈ l, ((Int.toNat ∘ fun (x : Nat) => (x : Int)) x) = x := fun x _ => rfl
      rw [List.map_congr_left this, List.map_id']
    rw [e2] at this
    exact this
  refine ⟨ns.map Int.toNat, e, ?_, fun x => hp2.mem_iff⟩
  have nd : (ns.map Int.toNat).Nodup := hp2.nodup_iff.mpr hn
  have h1 : (ns.map Int.toNat).Pairwise (fun a b => a ≤ b) := by
    rw [e] at hs
    exact (List.pairwise_map.mp hs).imp fun {a b} h => by
      have h : (a : Int) ≤ (b : Int) := h
      omega
  exact (h1.and nd).imp fun {a b} h => Nat.lt_of_le_of_ne h.1 h.2
theorem range_filter_map {α : Type} (l : List Nat) (q : Nat → Bool) (f : Nat → α) : ((List.range l.length).filter fun i => q (l.getD i 0)).map (fun i => f (l.getD i 0)) = (l.filter q).map f := by
  have e : l = (List.range l.length).map fun i => l.getD i 0 := by
    refine List.ext_getElem? fun i => ?_
    rw [List.getElem?_map]
    by_cases h : i < l.length
    · rw [List.getElem?_range h, List.getElem?_eq_getElem h]
      simp [List.getD_eq_getElem?_getD, List.getElem?_eq_getElem h]
    · rw [List.getElem?_eq_none (by omega), List.getElem?_eq_none (by rw [List.length_range]; omega)]
      rfl
  have e2 : (l.filter q).map f = ((((List.range l.length).map fun i => l.getD i 0)).filter q).map f := by rw [← e]
  rw [e2, List.filter_map, List.map_map]
  rfl
end Pa
namespace Pa
/-- the least places of the parts below i -/
noncomputable def Ch.leads (c : Ch) (i : Nat) : List Nat := (List.range i).filter fun p => c.rch p p && decide ((c.part p).getD 0 0 = p)
theorem Ch.leads_succ {c : Ch} {i : Nat} : c.leads (i + 1) = if (c.rch i i && decide ((c.part i).getD 0 0 = i)) = true then c.leads i ++ [i] else c.leads i := by
  unfold Ch.leads
  rw [List.range_succ, List.filter_append, List.filter_cons]
  split
  · rfl
  · exact List.append_nil _
end Pa

set_option Elab.async false
set_option linter.all false
set_option maxRecDepth 100000
set_option maxHeartbeats 4000000
namespace Pa
open PySem L2
local macro_rules | `(tactic| walk_at "lt") => `(tactic| first
  | assumption
  | omega
  | (simp only [List.length_map, List.length_range, List.length_cons, List.length_nil, List.length_append, List.length_replicate] at *; omega))
local macro_rules | `(tactic| walk_at "fo") => `(tactic| first | exact foc0 | (refine' focS ?k1; (case k1 => walk_at "fo")))
local macro_rules | `(tactic| walk_at "sq") => `(tactic| first
  | assumption
  | (refine' SqL.of ?k1; (case k1 => assumption))
  | (refine' SqT.of ?k1; (case k1 => assumption))
  | (refine' Or.inl ?k1; (case k1 => walk_at "sq"))
  | (refine' Or.inr ?k1; (case k1 => walk_at "sq"))
  | (refine' Same.seq ?k1 ?k2; (case k1 => assumption); (case k2 => walk_at "sq"))
  | (refine' Same.sqt ?k1 ?k2; (case k1 => assumption); (case k2 => walk_at "sq"))
  | (refine' Same.sqe ?k1 ?k2; (case k1 => assumption); (case k2 => walk_at "sq"))
  | (refine' same_at ?k1 ?k2; (case k1 => assumption); (case k2 => walk_at "sq")))
local macro_rules | `(tactic| walk_at "ai") => `(tactic| first
  | assumption
  | (refine' ati_ints ?k1; (case k1 => walk_at "lt"))
  | (refine' ati_refs ?k1; (case k1 => walk_at "lt"))
  | (refine' ati_nat ?k1; (case k1 => assumption))
  | k_dflt rfl)
local macro_rules | `(tactic| walk_at "lk") => `(tactic| first
  | assumption
  | exact lk_hd
  | (refine' lk_tl ?k1 ?k2; (case k1 => decide +kernel); (case k2 => walk_at "lk"))
  | exact lk_nil)
local macro_rules | `(tactic| walk_at "sz") => `(tactic| first
  | exact small_sz (by simp only [List.length_cons, List.length_nil, List.length_append, List.length_map, List.length_range, List.length_set, List.length_replicate]; omega))
local macro_rules | `(tactic| walk_at "cc") => `(tactic| first
  | (show (0 : Int) < _; first | decide | omega)
  | exact Or.inl ⟨by omega, by omega⟩
  | exact Or.inr ⟨by omega, by omega⟩
  | exact ⟨by decide, by decide, by decide⟩
  | exact ⟨by decide, by decide⟩)
local macro_rules | `(tactic| walk_at "st") => `(tactic| first
  | with_reducible refine w_seq ?_
  | with_reducible refine w_asg ?_
  | ((with_reducible refine' w_var ?k1 ?_); (case k1 => k_dflt rfl))
  | with_reducible refine w_c ?_
  | with_reducible refine w_op ?_
  | with_reducible refine w_cons ?_
  | with_reducible refine w_nil ?_
  | with_reducible refine w_gname ?_
  | with_reducible refine w_I0 ?_
  | with_reducible refine w_fld ?_
  | ((with_reducible refine' w_ins ?k1 ?k2 ?k3 ?k4 ?k5 ?_); (case k1 => assumption); (case k2 => walk_at "sq"); (case k3 => assumption); (case k4 => assumption); (case k5 => walk_at "lk"))
  | ((with_reducible refine' w_ixT ?k1 ?k2 ?k3 ?_); (case k1 => assumption); (case k2 => walk_at "sq"); (case k3 => walk_at "ai"))
  | ((with_reducible refine' w_ixL ?k1 ?k2 ?k3 ?_); (case k1 => assumption); (case k2 => walk_at "sq"); (case k3 => walk_at "ai"))
  | ((with_reducible refine' w_ixM ?k1 ?k2 ?k3 ?_); (case k1 => assumption); (case k2 => walk_at "fo"); (case k3 => walk_at "ai"))
  | with_reducible refine w_cb ?_
  | with_reducible refine w_test ?_
  | with_reducible refine w_if ?_
  | with_reducible refine w_B ?_
  | with_reducible refine w_not ?_
  | with_reducible refine w_and ?_
  | with_reducible refine w_or ?_
  | with_reducible refine w_eqI ?_
  | with_reducible refine w_neI ?_
  | with_reducible refine w_isN ?_
  | with_reducible refine w_notN ?_
  | with_reducible refine w_isB ?_
  | with_reducible refine w_bl ?_
  | with_reducible refine w_ret ?_
  | with_reducible refine w_next ?_
  | with_reducible refine w_brk ?_
  | with_reducible refine w_drop ?_
  | with_reducible refine w_call ?_
  | with_reducible refine w_un ?_
  | with_reducible refine w_U ?_
  | with_reducible refine w_andV ?_
  | with_reducible refine w_orV ?_
  | with_reducible refine w_notV ?_
  | with_reducible refine w_ifE ?_
  | with_reducible refine w_chain ?_
  | with_reducible refine w_gsub ?_
  | with_reducible refine w_gnil ?_
  | with_reducible refine w_gcons ?_
  | with_reducible refine w_ipI ?_
  | with_reducible refine w_fldS ?_
  | with_reducible refine w_tru ?_
  | with_reducible refine w_abs ?_
  | with_reducible refine w_maxB ?_
  | with_reducible refine w_minB ?_
  | with_reducible refine w_int ?_
  | with_reducible refine w_tupE ?_
  | with_reducible refine w_lstE ?_
  | with_reducible refine w_bm ?_
  | with_reducible refine w_bm0 ?_
  | with_reducible refine w_mth ?_
  | with_reducible refine w_for0 ?_
  | with_reducible refine w_lc0 ?_
  | with_reducible refine w_il ?_
  | with_reducible refine w_it ?_
  | with_reducible refine w_is ?_
  | with_reducible refine w_ie ?_
  | with_reducible refine w_ir1 ?_
  | with_reducible refine w_ir2 ?_
  | with_reducible refine w_irv ?_
  | with_reducible refine w_rg1 ?_
  | with_reducible refine w_rg1v ?_
  | with_reducible refine w_lrg ?_
  | with_reducible refine w_make ?_
  | with_reducible refine w_yes ?_
  | with_reducible refine w_ost ?_
  | with_reducible refine w_mkoE ?_
  | with_reducible refine w_is_int_int ?_
  | with_reducible refine w_is_int_bool ?_
  | with_reducible refine w_is_int_str ?_
  | with_reducible refine w_is_int_tuple ?_
  | with_reducible refine w_is_bl_int ?_
  | with_reducible refine w_is_bl_bool ?_
  | with_reducible refine w_is_bl_str ?_
  | with_reducible refine w_is_bl_tuple ?_
  | with_reducible refine w_is_non_int ?_
  | with_reducible refine w_is_non_bool ?_
  | with_reducible refine w_is_non_str ?_
  | with_reducible refine w_is_non_tuple ?_
  | with_reducible refine w_is_str_int ?_
  | with_reducible refine w_is_str_bool ?_
  | with_reducible refine w_is_str_str ?_
  | with_reducible refine w_is_str_tuple ?_
  | ((with_reducible refine' w_insM ?k1 ?k2 ?k3 ?k4 ?k5 ?_); (case k1 => assumption); (case k2 => walk_at "fo"); (case k3 => assumption); (case k4 => assumption); (case k5 => walk_at "lk"))
  | ((with_reducible refine' w_ixE ?k1 ?k2 ?k3 ?_); (case k1 => assumption); (case k2 => walk_at "sq"); (case k3 => walk_at "ai"))
  | ((with_reducible refine' w_len ?k1 ?k2 ?_); (case k1 => assumption); (case k2 => walk_at "sq"))
  | ((with_reducible refine' w_lenM ?k1 ?k2 ?_); (case k1 => assumption); (case k2 => walk_at "fo"))
  | ((with_reducible refine' w_I ?k1 ?_); (case k1 => walk_at "cc"))
  | ((with_reducible refine' w_gtup ?k1 ?k2 ?_); (case k1 => refine' Mem.sqt ?m0 ?h0; (case m0 => assumption); (case h0 => walk_at "sq")); (case k2 => k_dflt rfl))
  | ((with_reducible refine' w_aug ?k1 ?_); (case k1 => k_dflt rfl))
  | ((with_reducible refine' w_truM ?k1 ?k2 ?_); (case k1 => assumption); (case k2 => walk_at "fo"))
  | ((with_reducible refine' w_truL ?k1 ?k2 ?_); (case k1 => assumption); (case k2 => walk_at "sq"))
  | ((with_reducible refine' w_tyL ?k1 ?k2 ?_); (case k1 => assumption); (case k2 => walk_at "fo"))
  | ((with_reducible refine' w_mthI ?k1 ?k2 ?k3 ?_); (case k1 => assumption); (case k2 => walk_at "sq"); (case k3 => walk_at "lk"))
  | ((with_reducible refine' w_sumM ?k1 ?k2 ?_); (case k1 => assumption); (case k2 => walk_at "fo"))
  | ((with_reducible refine' w_eqDN ?k1 ?k2 ?k3 ?_); (case k1 => assumption); (case k2 => walk_at "sq"); (case k3 => walk_at "sq"))
  | ((with_reducible refine' w_is_tup_int ?k1 ?k2 ?_); (case k1 => assumption); (case k2 => walk_at "sq"))
  | ((with_reducible refine' w_is_tup_bool ?k1 ?k2 ?_); (case k1 => assumption); (case k2 => walk_at "sq"))
  | ((with_reducible refine' w_is_tup_str ?k1 ?k2 ?_); (case k1 => assumption); (case k2 => walk_at "sq"))
  | ((with_reducible refine' w_is_tup_tuple ?k1 ?k2 ?_); (case k1 => assumption); (case k2 => walk_at "sq"))
  | dsimp only)
local macro_rules | `(tactic| walk_at "go") => `(tactic| repeat (walk_at "st"))
/-! ### the data on the heap -/
section
variable {K : PySem.W.Frag} {C : Ad} {I N : Hp}
abbrev chF (p r : Addr) : List (Str × V) := putF "arrows" (.ref r) (putF "costs" (.ref p) [])
abbrev meF (c : Addr) (fi : Int) (q : Addr) : List (Str × V) := putF "charges" (.ref q) (putF "first" (.int fi) (putF "chart" (.ref c) []))
abbrev drF (r : Addr) (b : Int) : List (Str × V) := putF "by" (.int b) (putF "ring" (.ref r) [])
/-- a list of addresses where tuples of two ints stand -/
def PrsAt (K : PySem.W.Frag) (I : Hp) (as : List Addr) (ar : List (Nat × Nat)) : Prop :=
  as.length = ar.length ∧ ∀ k, k < ar.length → SqT K I (as.getD k 0) [.int (((ar.getD k (0, 0)).1 : Nat) : Int), .int (((ar.getD k (0, 0)).2 : Nat) : Int)]
/-- an instance of Chart -/
def ChAt (K : PySem.W.Frag) (C : Ad) (I : Hp) (a : Addr) (c : Ch) : Prop :=
  ∃ dx p r as, I a = some (.ins C.ch dx (chF p r)) ∧ SqT K I p (c.cs.map V.int) ∧ SqT K I r (as.map V.ref) ∧ PrsAt K I as c.ar
/-- an instance of Meter -/
def MeAt (K : PySem.W.Frag) (C : Ad) (I : Hp) (a : Addr) (e : Me) : Prop :=
  ∃ dx c q, I a = some (.ins C.me dx (meF c e.fi q)) ∧ ChAt K C I c e.ch ∧ SqT K I q (e.cg.map V.int)
/-- a tuple of numbers that are not negative -/
abbrev TupN (K : PySem.W.Frag) (I : Hp) (a : Addr) (l : List Nat) : Prop := SqT K I a (l.map fun (k : Nat) => V.int (k : Int))
/-- an instance of Drift -/
def DrAt (K : PySem.W.Frag) (C : Ad) (I : Hp) (a : Addr) (l : List Nat) (b : Int) : Prop := ∃ dx r, I a = some (.ins C.dr dx (drF r b)) ∧ TupN K I r l
theorem PrsAt.mono {as : List Addr} {ar : List (Nat × Nat)} (h : PrsAt K I as ar) (e : Same I N) : PrsAt K N as ar := ⟨h.1, fun k hk => Same.sqt e (h.2 k hk)⟩
theorem ChAt.mono {a : Addr} {c : Ch} (h : ChAt K C I a c) (e : Same I N) : ChAt K C N a c := by
  obtain ⟨dx, p, r, as, h1, h2, h3, h4⟩ := h
  exact ⟨dx, p, r, as, e _ _ h1, Same.sqt e h2, Same.sqt e h3, h4.mono e⟩
theorem MeAt.mono {a : Addr} {m : Me} (h : MeAt K C I a m) (e : Same I N) : MeAt K C N a m := by
  obtain ⟨dx, c, q, h1, h2, h3⟩ := h
  exact ⟨dx, c, q, e _ _ h1, h2.mono e, Same.sqt e h3⟩
theorem DrAt.mono {a : Addr} {l : List Nat} {b : Int} (h : DrAt K C I a l b) (e : Same I N) : DrAt K C N a l b := by
  obtain ⟨dx, r, h1, h2⟩ := h
  exact ⟨dx, r, e _ _ h1, Same.sqt e h2⟩
theorem ati_nats {ns : List Nat} {k : Nat} (h : k < ns.length) : atI (ns.map fun (x : Nat) => V.int (x : Int)) ((k : Nat) : Int) = some (.int ((ns.getD k 0 : Nat) : Int)) := by
  refine atI_nat ?_
  rw [List.getElem?_map, List.getElem?_eq_getElem h, List.getD_eq_getElem?_getD, List.getElem?_eq_getElem h]
  rfl
theorem flat_nats (l : List Nat) : (l.map fun (x : Nat) => V.int (x : Int)).all flatV = true := by
  rw [List.all_map]
  exact List.all_eq_true.mpr fun _ _ => rfl
theorem flat_ints (l : List Int) : (l.map V.int).all flatV = true := by
  rw [List.all_map]
  exact List.all_eq_true.mpr fun _ _ => rfl
theorem inV_nats (v : Nat) (l : List Nat) : inV (.int (v : Int)) (l.map fun (x : Nat) => V.int (x : Int)) = decide (v ∈ l) := by
  unfold inV
  rw [List.any_map]
  by_cases h : v ∈ l
  · rw [decide_eq_true h]
    refine List.any_eq_true.mpr ⟨v, h, ?_⟩
    show eqV (.int (v : Int)) (.int (v : Int)) = true
    simp [eqV]
  · rw [decide_eq_false h]
    refine List.any_eq_false.mpr fun x hx => ?_
    show ¬ eqV (.int (x : Int)) (.int (v : Int)) = true
    intro z
    have : (x : Int) = (v : Int) := by simpa [eqV] using z
    exact h (by have : x = v := by omega
                rw [← this]; exact hx)
end

end Pa

set_option Elab.async false
set_option linter.all false
set_option maxRecDepth 100000
set_option maxHeartbeats 4000000
namespace Pa
open PySem L2
local macro_rules | `(tactic| walk_at "lt") => `(tactic| first
  | assumption
  | omega
  | (simp only [List.length_map, List.length_range, List.length_cons, List.length_nil, List.length_append, List.length_replicate] at *; omega))
local macro_rules | `(tactic| walk_at "fo") => `(tactic| first | exact foc0 | (refine' focS ?k1; (case k1 => walk_at "fo")))
local macro_rules | `(tactic| walk_at "sq") => `(tactic| first
  | assumption
  | (refine' SqL.of ?k1; (case k1 => assumption))
  | (refine' SqT.of ?k1; (case k1 => assumption))
  | (refine' Or.inl ?k1; (case k1 => walk_at "sq"))
  | (refine' Or.inr ?k1; (case k1 => walk_at "sq"))
  | (refine' Same.seq ?k1 ?k2; (case k1 => assumption); (case k2 => walk_at "sq"))
  | (refine' Same.sqt ?k1 ?k2; (case k1 => assumption); (case k2 => walk_at "sq"))
  | (refine' Same.sqe ?k1 ?k2; (case k1 => assumption); (case k2 => walk_at "sq"))
  | (refine' same_at ?k1 ?k2; (case k1 => assumption); (case k2 => walk_at "sq")))
local macro_rules | `(tactic| walk_at "ai") => `(tactic| first
  | assumption
  | (refine' ati_ints ?k1; (case k1 => walk_at "lt"))
  | (refine' ati_refs ?k1; (case k1 => walk_at "lt"))
  | (refine' ati_nat ?k1; (case k1 => assumption))
  | k_dflt rfl)
local macro_rules | `(tactic| walk_at "lk") => `(tactic| first
  | assumption
  | exact lk_hd
  | (refine' lk_tl ?k1 ?k2; (case k1 => decide +kernel); (case k2 => walk_at "lk"))
  | exact lk_nil)
local macro_rules | `(tactic| walk_at "sz") => `(tactic| first
  | exact small_sz (by simp only [List.length_cons, List.length_nil, List.length_append, List.length_map, List.length_range, List.length_set, List.length_replicate]; omega))
local macro_rules | `(tactic| walk_at "cc") => `(tactic| first
  | (show (0 : Int) < _; first | decide | omega)
  | exact Or.inl ⟨by omega, by omega⟩
  | exact Or.inr ⟨by omega, by omega⟩
  | exact ⟨by decide, by decide, by decide⟩
  | exact ⟨by decide, by decide⟩)
local macro_rules | `(tactic| walk_at "st") => `(tactic| first
  | with_reducible refine w_seq ?_
  | with_reducible refine w_asg ?_
  | ((with_reducible refine' w_var ?k1 ?_); (case k1 => k_dflt rfl))
  | with_reducible refine w_c ?_
  | with_reducible refine w_op ?_
  | with_reducible refine w_cons ?_
  | with_reducible refine w_nil ?_
  | with_reducible refine w_gname ?_
  | with_reducible refine w_I0 ?_
  | with_reducible refine w_fld ?_
  | ((with_reducible refine' w_ins ?k1 ?k2 ?k3 ?k4 ?k5 ?_); (case k1 => assumption); (case k2 => walk_at "sq"); (case k3 => assumption); (case k4 => assumption); (case k5 => walk_at "lk"))
  | ((with_reducible refine' w_ixT ?k1 ?k2 ?k3 ?_); (case k1 => assumption); (case k2 => walk_at "sq"); (case k3 => walk_at "ai"))
  | ((with_reducible refine' w_ixL ?k1 ?k2 ?k3 ?_); (case k1 => assumption); (case k2 => walk_at "sq"); (case k3 => walk_at "ai"))
  | ((with_reducible refine' w_ixM ?k1 ?k2 ?k3 ?_); (case k1 => assumption); (case k2 => walk_at "fo"); (case k3 => walk_at "ai"))
  | with_reducible refine w_cb ?_
  | with_reducible refine w_test ?_
  | with_reducible refine w_if ?_
  | with_reducible refine w_B ?_
  | with_reducible refine w_not ?_
  | with_reducible refine w_and ?_
  | with_reducible refine w_or ?_
  | with_reducible refine w_eqI ?_
  | with_reducible refine w_neI ?_
  | with_reducible refine w_isN ?_
  | with_reducible refine w_notN ?_
  | with_reducible refine w_isB ?_
  | with_reducible refine w_bl ?_
  | with_reducible refine w_ret ?_
  | with_reducible refine w_next ?_
  | with_reducible refine w_brk ?_
  | with_reducible refine w_drop ?_
  | with_reducible refine w_call ?_
  | with_reducible refine w_un ?_
  | with_reducible refine w_U ?_
  | with_reducible refine w_andV ?_
  | with_reducible refine w_orV ?_
  | with_reducible refine w_notV ?_
  | with_reducible refine w_ifE ?_
  | with_reducible refine w_chain ?_
  | with_reducible refine w_gsub ?_
  | with_reducible refine w_gnil ?_
  | with_reducible refine w_gcons ?_
  | with_reducible refine w_ipI ?_
  | with_reducible refine w_fldS ?_
  | with_reducible refine w_tru ?_
  | with_reducible refine w_abs ?_
  | with_reducible refine w_maxB ?_
  | with_reducible refine w_minB ?_
  | with_reducible refine w_int ?_
  | with_reducible refine w_tupE ?_
  | with_reducible refine w_lstE ?_
  | with_reducible refine w_bm ?_
  | with_reducible refine w_bm0 ?_
  | with_reducible refine w_mth ?_
  | with_reducible refine w_for0 ?_
  | with_reducible refine w_lc0 ?_
  | with_reducible refine w_il ?_
  | with_reducible refine w_it ?_
  | with_reducible refine w_is ?_
  | with_reducible refine w_ie ?_
  | with_reducible refine w_ir1 ?_
  | with_reducible refine w_ir2 ?_
  | with_reducible refine w_irv ?_
  | with_reducible refine w_rg1 ?_
  | with_reducible refine w_rg1v ?_
  | with_reducible refine w_lrg ?_
  | with_reducible refine w_make ?_
  | with_reducible refine w_yes ?_
  | with_reducible refine w_ost ?_
  | with_reducible refine w_mkoE ?_
  | with_reducible refine w_is_int_int ?_
  | with_reducible refine w_is_int_bool ?_
  | with_reducible refine w_is_int_str ?_
  | with_reducible refine w_is_int_tuple ?_
  | with_reducible refine w_is_bl_int ?_
  | with_reducible refine w_is_bl_bool ?_
  | with_reducible refine w_is_bl_str ?_
  | with_reducible refine w_is_bl_tuple ?_
  | with_reducible refine w_is_non_int ?_
  | with_reducible refine w_is_non_bool ?_
  | with_reducible refine w_is_non_str ?_
  | with_reducible refine w_is_non_tuple ?_
  | with_reducible refine w_is_str_int ?_
  | with_reducible refine w_is_str_bool ?_
  | with_reducible refine w_is_str_str ?_
  | with_reducible refine w_is_str_tuple ?_
  | ((with_reducible refine' w_insM ?k1 ?k2 ?k3 ?k4 ?k5 ?_); (case k1 => assumption); (case k2 => walk_at "fo"); (case k3 => assumption); (case k4 => assumption); (case k5 => walk_at "lk"))
  | ((with_reducible refine' w_ixE ?k1 ?k2 ?k3 ?_); (case k1 => assumption); (case k2 => walk_at "sq"); (case k3 => walk_at "ai"))
  | ((with_reducible refine' w_len ?k1 ?k2 ?_); (case k1 => assumption); (case k2 => walk_at "sq"))
  | ((with_reducible refine' w_lenM ?k1 ?k2 ?_); (case k1 => assumption); (case k2 => walk_at "fo"))
  | ((with_reducible refine' w_I ?k1 ?_); (case k1 => walk_at "cc"))
  | ((with_reducible refine' w_gtup ?k1 ?k2 ?_); (case k1 => refine' Mem.sqt ?m0 ?h0; (case m0 => assumption); (case h0 => walk_at "sq")); (case k2 => k_dflt rfl))
  | ((with_reducible refine' w_aug ?k1 ?_); (case k1 => k_dflt rfl))
  | ((with_reducible refine' w_truM ?k1 ?k2 ?_); (case k1 => assumption); (case k2 => walk_at "fo"))
  | ((with_reducible refine' w_truL ?k1 ?k2 ?_); (case k1 => assumption); (case k2 => walk_at "sq"))
  | ((with_reducible refine' w_tyL ?k1 ?k2 ?_); (case k1 => assumption); (case k2 => walk_at "fo"))
  | ((with_reducible refine' w_mthI ?k1 ?k2 ?k3 ?_); (case k1 => assumption); (case k2 => walk_at "sq"); (case k3 => walk_at "lk"))
  | ((with_reducible refine' w_sumM ?k1 ?k2 ?_); (case k1 => assumption); (case k2 => walk_at "fo"))
  | ((with_reducible refine' w_eqDN ?k1 ?k2 ?k3 ?_); (case k1 => assumption); (case k2 => walk_at "sq"); (case k3 => walk_at "sq"))
  | ((with_reducible refine' w_is_tup_int ?k1 ?k2 ?_); (case k1 => assumption); (case k2 => walk_at "sq"))
  | ((with_reducible refine' w_is_tup_bool ?k1 ?k2 ?_); (case k1 => assumption); (case k2 => walk_at "sq"))
  | ((with_reducible refine' w_is_tup_str ?k1 ?k2 ?_); (case k1 => assumption); (case k2 => walk_at "sq"))
  | ((with_reducible refine' w_is_tup_tuple ?k1 ?k2 ?_); (case k1 => assumption); (case k2 => walk_at "sq"))
  | dsimp only)
local macro_rules | `(tactic| walk_at "go") => `(tactic| repeat (walk_at "st"))
section
variable {P : Program} {w : World} {K : PySem.W.Frag} {mg : Str → Option Value} {base : Heap} {C : Ad}
abbrev N_is_whole : List Str := ["thing", "low", "high"]
abbrev P_is_whole : List Str := ["thing", "low", "high"]
theorem sc_is_whole : FnScope N_is_whole P_is_whole (defScope S_is_whole) := ⟨rfl, rfl, rfl, by decide +kernel, rfl, by decide +kernel, by decide +kernel⟩
-- slots: 0 thing, 1 low, 2 high
def spWhole : Sp := spV fun vs _ v => ∃ x lo hi : Int, vs = [.int x, .int lo, .int hi] ∧ v = .bl (decide (lo ≤ x) && decide (x ≤ hi))
theorem ok_is_whole {f : Addr} {fd : FuncData} (F : FnP K "is_whole" "is_whole" S_is_whole f fd) (T : Txt K mg C) : FnOk P w K mg base CX0 1 f fd P_is_whole spWhole := by
  have nd := sc_is_whole.nd
  refine F.ok sc_is_whole (fun vs H Q E h => ?_) (fun cdv A outer s H vs Q E hr h => ?_)
  · obtain ⟨I, M, v, ⟨x, lo, hi, rfl, _⟩, _⟩ := h
    rfl
  obtain ⟨I, M, v, ⟨x, lo, hi, rfl, rfl⟩, hm, k⟩ := h
  refine ⟨_, PSs.nox (pss_one (ps_ret (pe_and (pe_callB call_isi (by rfl) T.b_isinstance PyProof.Rows.boot_isinstance (pa_cons (pv 0) (pa_cons (pe_typ T.b_int PyProof.Rows.boot_int) pa_nil))) (pe_and (pe_not (pe_callB call_isi (by rfl) T.b_isinstance PyProof.Rows.boot_isinstance (pa_cons (pv 0) (pa_cons (pe_typ T.b_bool PyProof.Rows.boot_bool) pa_nil)))) (pe_one (pe_chain op_le op_le (pv 1) (pv 0) (pv 2))))))), ?_⟩
  try dsimp only [cxOf, Cx.nox, Cx.wish]
  walk_at "go"
  refine iteT ?_
  walk_at "go"
  refine iteT ?_
  walk_at "go"
  refine w_ite (fun h1 => ?_) fun h1 => ?_
  · walk_at "go"
    have e : (decide (lo ≤ x) && decide (x ≤ hi)) = decide (x ≤ hi) := by rw [decide_eq_true h1, Bool.true_and]
    rw [e] at k
    exact k _ hm
  · have e : (decide (lo ≤ x) && decide (x ≤ hi)) = false := by rw [decide_eq_false h1, Bool.false_and]
    rw [e] at k
    exact k _ hm
end

end Pa

set_option Elab.async false
set_option linter.all false
set_option maxRecDepth 100000
set_option maxHeartbeats 4000000
namespace Pa
open PySem L2
local macro_rules | `(tactic| walk_at "lt") => `(tactic| first
  | assumption
  | omega
  | (simp only [List.length_map, List.length_range, List.length_cons, List.length_nil, List.length_append, List.length_replicate] at *; omega))
local macro_rules | `(tactic| walk_at "fo") => `(tactic| first | exact foc0 | (refine' focS ?k1; (case k1 => walk_at "fo")))
local macro_rules | `(tactic| walk_at "sq") => `(tactic| first
  | assumption
  | (refine' SqL.of ?k1; (case k1 => assumption))
  | (refine' SqT.of ?k1; (case k1 => assumption))
  | (refine' Or.inl ?k1; (case k1 => walk_at "sq"))
  | (refine' Or.inr ?k1; (case k1 => walk_at "sq"))
  | (refine' Same.seq ?k1 ?k2; (case k1 => assumption); (case k2 => walk_at "sq"))
  | (refine' Same.sqt ?k1 ?k2; (case k1 => assumption); (case k2 => walk_at "sq"))
  | (refine' Same.sqe ?k1 ?k2; (case k1 => assumption); (case k2 => walk_at "sq"))
  | (refine' same_at ?k1 ?k2; (case k1 => assumption); (case k2 => walk_at "sq")))
local macro_rules | `(tactic| walk_at "ai") => `(tactic| first
  | assumption
  | (refine' ati_ints ?k1; (case k1 => walk_at "lt"))
  | (refine' ati_refs ?k1; (case k1 => walk_at "lt"))
  | (refine' ati_nat ?k1; (case k1 => assumption))
  | k_dflt rfl)
local macro_rules | `(tactic| walk_at "lk") => `(tactic| first
  | assumption
  | exact lk_hd
  | (refine' lk_tl ?k1 ?k2; (case k1 => decide +kernel); (case k2 => walk_at "lk"))
  | exact lk_nil)
local macro_rules | `(tactic| walk_at "sz") => `(tactic| first
  | exact small_sz (by simp only [List.length_cons, List.length_nil, List.length_append, List.length_map, List.length_range, List.length_set, List.length_replicate]; omega))
local macro_rules | `(tactic| walk_at "cc") => `(tactic| first
  | (show (0 : Int) < _; first | decide | omega)
  | exact Or.inl ⟨by omega, by omega⟩
  | exact Or.inr ⟨by omega, by omega⟩
  | exact ⟨by decide, by decide, by decide⟩
  | exact ⟨by decide, by decide⟩)
local macro_rules | `(tactic| walk_at "st") => `(tactic| first
  | with_reducible refine w_seq ?_
  | with_reducible refine w_asg ?_
  | ((with_reducible refine' w_var ?k1 ?_); (case k1 => k_dflt rfl))
  | with_reducible refine w_c ?_
  | with_reducible refine w_op ?_
  | with_reducible refine w_cons ?_
  | with_reducible refine w_nil ?_
  | with_reducible refine w_gname ?_
  | with_reducible refine w_I0 ?_
  | with_reducible refine w_fld ?_
  | ((with_reducible refine' w_ins ?k1 ?k2 ?k3 ?k4 ?k5 ?_); (case k1 => assumption); (case k2 => walk_at "sq"); (case k3 => assumption); (case k4 => assumption); (case k5 => walk_at "lk"))
  | ((with_reducible refine' w_ixT ?k1 ?k2 ?k3 ?_); (case k1 => assumption); (case k2 => walk_at "sq"); (case k3 => walk_at "ai"))
  | ((with_reducible refine' w_ixL ?k1 ?k2 ?k3 ?_); (case k1 => assumption); (case k2 => walk_at "sq"); (case k3 => walk_at "ai"))
  | ((with_reducible refine' w_ixM ?k1 ?k2 ?k3 ?_); (case k1 => assumption); (case k2 => walk_at "fo"); (case k3 => walk_at "ai"))
  | with_reducible refine w_cb ?_
  | with_reducible refine w_test ?_
  | with_reducible refine w_if ?_
  | with_reducible refine w_B ?_
  | with_reducible refine w_not ?_
  | with_reducible refine w_and ?_
  | with_reducible refine w_or ?_
  | with_reducible refine w_eqI ?_
  | with_reducible refine w_neI ?_
  | with_reducible refine w_isN ?_
  | with_reducible refine w_notN ?_
  | with_reducible refine w_isB ?_
  | with_reducible refine w_bl ?_
  | with_reducible refine w_ret ?_
  | with_reducible refine w_next ?_
  | with_reducible refine w_brk ?_
  | with_reducible refine w_drop ?_
  | with_reducible refine w_call ?_
  | with_reducible refine w_un ?_
  | with_reducible refine w_U ?_
  | with_reducible refine w_andV ?_
  | with_reducible refine w_orV ?_
  | with_reducible refine w_notV ?_
  | with_reducible refine w_ifE ?_
  | with_reducible refine w_chain ?_
  | with_reducible refine w_gsub ?_
  | with_reducible refine w_gnil ?_
  | with_reducible refine w_gcons ?_
  | with_reducible refine w_ipI ?_
  | with_reducible refine w_fldS ?_
  | with_reducible refine w_tru ?_
  | with_reducible refine w_abs ?_
  | with_reducible refine w_maxB ?_
  | with_reducible refine w_minB ?_
  | with_reducible refine w_int ?_
  | with_reducible refine w_tupE ?_
  | with_reducible refine w_lstE ?_
  | with_reducible refine w_bm ?_
  | with_reducible refine w_bm0 ?_
  | with_reducible refine w_mth ?_
  | with_reducible refine w_for0 ?_
  | with_reducible refine w_lc0 ?_
  | with_reducible refine w_il ?_
  | with_reducible refine w_it ?_
  | with_reducible refine w_is ?_
  | with_reducible refine w_ie ?_
  | with_reducible refine w_ir1 ?_
  | with_reducible refine w_ir2 ?_
  | with_reducible refine w_irv ?_
  | with_reducible refine w_rg1 ?_
  | with_reducible refine w_rg1v ?_
  | with_reducible refine w_lrg ?_
  | with_reducible refine w_make ?_
  | with_reducible refine w_yes ?_
  | with_reducible refine w_ost ?_
  | with_reducible refine w_mkoE ?_
  | with_reducible refine w_is_int_int ?_
  | with_reducible refine w_is_int_bool ?_
  | with_reducible refine w_is_int_str ?_
  | with_reducible refine w_is_int_tuple ?_
  | with_reducible refine w_is_bl_int ?_
  | with_reducible refine w_is_bl_bool ?_
  | with_reducible refine w_is_bl_str ?_
  | with_reducible refine w_is_bl_tuple ?_
  | with_reducible refine w_is_non_int ?_
  | with_reducible refine w_is_non_bool ?_
  | with_reducible refine w_is_non_str ?_
  | with_reducible refine w_is_non_tuple ?_
  | with_reducible refine w_is_str_int ?_
  | with_reducible refine w_is_str_bool ?_
  | with_reducible refine w_is_str_str ?_
  | with_reducible refine w_is_str_tuple ?_
  | ((with_reducible refine' w_insM ?k1 ?k2 ?k3 ?k4 ?k5 ?_); (case k1 => assumption); (case k2 => walk_at "fo"); (case k3 => assumption); (case k4 => assumption); (case k5 => walk_at "lk"))
  | ((with_reducible refine' w_ixE ?k1 ?k2 ?k3 ?_); (case k1 => assumption); (case k2 => walk_at "sq"); (case k3 => walk_at "ai"))
  | ((with_reducible refine' w_len ?k1 ?k2 ?_); (case k1 => assumption); (case k2 => walk_at "sq"))
  | ((with_reducible refine' w_lenM ?k1 ?k2 ?_); (case k1 => assumption); (case k2 => walk_at "fo"))
  | ((with_reducible refine' w_I ?k1 ?_); (case k1 => walk_at "cc"))
  | ((with_reducible refine' w_gtup ?k1 ?k2 ?_); (case k1 => refine' Mem.sqt ?m0 ?h0; (case m0 => assumption); (case h0 => walk_at "sq")); (case k2 => k_dflt rfl))
  | ((with_reducible refine' w_aug ?k1 ?_); (case k1 => k_dflt rfl))
  | ((with_reducible refine' w_truM ?k1 ?k2 ?_); (case k1 => assumption); (case k2 => walk_at "fo"))
  | ((with_reducible refine' w_truL ?k1 ?k2 ?_); (case k1 => assumption); (case k2 => walk_at "sq"))
  | ((with_reducible refine' w_tyL ?k1 ?k2 ?_); (case k1 => assumption); (case k2 => walk_at "fo"))
  | ((with_reducible refine' w_mthI ?k1 ?k2 ?k3 ?_); (case k1 => assumption); (case k2 => walk_at "sq"); (case k3 => walk_at "lk"))
  | ((with_reducible refine' w_sumM ?k1 ?k2 ?_); (case k1 => assumption); (case k2 => walk_at "fo"))
  | ((with_reducible refine' w_eqDN ?k1 ?k2 ?k3 ?_); (case k1 => assumption); (case k2 => walk_at "sq"); (case k3 => walk_at "sq"))
  | ((with_reducible refine' w_is_tup_int ?k1 ?k2 ?_); (case k1 => assumption); (case k2 => walk_at "sq"))
  | ((with_reducible refine' w_is_tup_bool ?k1 ?k2 ?_); (case k1 => assumption); (case k2 => walk_at "sq"))
  | ((with_reducible refine' w_is_tup_str ?k1 ?k2 ?_); (case k1 => assumption); (case k2 => walk_at "sq"))
  | ((with_reducible refine' w_is_tup_tuple ?k1 ?k2 ?_); (case k1 => assumption); (case k2 => walk_at "sq"))
  | dsimp only)
local macro_rules | `(tactic| walk_at "go") => `(tactic| repeat (walk_at "st"))
section
variable {P : Program} {w : World} {K : PySem.W.Frag} {mg : Str → Option Value} {base : Heap} {C : Ad}
abbrev N_is_row : List Str := ["thing", "least", "most"]
abbrev P_is_row : List Str := ["thing", "least", "most"]
theorem sc_is_row : FnScope N_is_row P_is_row (defScope S_is_row) := ⟨rfl, rfl, rfl, by decide +kernel, rfl, by decide +kernel, by decide +kernel⟩
-- slots: 0 thing, 1 least, 2 most
def spRow (K : PySem.W.Frag) : Sp := spV fun vs I v => ∃ (x : V) (lo hi : Int), vs = [x, .int lo, .int hi] ∧
  ((∃ a xs, x = .ref a ∧ SqE K I a xs ∧ v = .bl (decide (lo ≤ (xs.length : Int)) && decide ((xs.length : Int) ≤ hi))) ∨ ((x = .non ∨ ∃ i, x = .int i) ∧ v = .bl false))
theorem w_isiT {x : V} {tp : Addr} {cs : List V} {t : Value} {us : List Value} {b : Bool} {I H : Hp} {M : Mu} {Q : VK} (hm : Mem I M H) (hT : I tp = some (.tup cs)) (hc : Paired ClsV cs us) (ht : TyX K H x t) (hk : PySem.W.kitAny K t us = some b) (q : Q (.bl b) H) : rIsiT K [x, .ref tp] H Q :=
  ⟨x, tp, cs, t, us, b, rfl, hm.ex _ _ hT, hc, ht, hk, q⟩
theorem ok_is_row {f : Addr} {fd : FuncData} (F : FnP K "is_row" "is_row" S_is_row f fd) (T : Txt K mg C) : FnOk P w K mg base CX0 1 f fd P_is_row (spRow K) := by
  have nd := sc_is_row.nd
  refine F.ok sc_is_row (fun vs H Q E h => ?_) (fun cdv A outer s H vs Q E hr h => ?_)
  · obtain ⟨I, M, v, ⟨x, lo, hi, rfl, _⟩, _⟩ := h
    rfl
  obtain ⟨I, M, v, ⟨x, lo, hi, rfl, hx⟩, hm, k⟩ := h
  refine ⟨_, PSs.nox (pss_one (ps_ret (pe_and (pe_callB call_isiT (by rfl) T.b_isinstance PyProof.Rows.boot_isinstance (pa_cons (pv 0) (pa_cons (pe_tup (pa_cons (pe_typ T.b_list PyProof.Rows.boot_list) (pa_cons (pe_typ T.b_tuple PyProof.Rows.boot_tuple) pa_nil))) pa_nil))) (pe_one (pe_chain op_le op_le (pv 1) (pe_callB cl_len (by rfl) T.b_len PySem.boot_len (pa_cons (pv 0) pa_nil)) (pv 2)))))), ?_⟩
  try dsimp only [cxOf, Cx.nox, Cx.wish]
  walk_at "go"
  refine w_tup hm (by show 2 ≤ sizeLine; decide) fun p N H1 eN hp hm1 => ?_
  walk_at "go"
  have fin : ∀ (xs : List V) (H2 : Hp), Mem N M H2 → (∀ H', Mem I M H' → Q (.bl (decide (lo ≤ (xs.length : Int)) && decide ((xs.length : Int) ≤ hi))) H') →
      if decide (lo ≤ (xs.length : Int)) = true then tVar 2 (L2.start N_is_row [x, V.int lo, V.int hi]) H2 fun w' H4 => rI0 (fun i j => V.bl (decide (i ≤ j))) (.int (xs.length : Int)) w' H4 Q else Q (.bl false) H2 := fun xs H2 hm2 k => by
    refine w_ite (fun h1 => ?_) fun h1 => ?_
    · walk_at "go"
      have e : (decide (lo ≤ (xs.length : Int)) && decide ((xs.length : Int) ≤ hi)) = decide ((xs.length : Int) ≤ hi) := by rw [decide_eq_true h1, Bool.true_and]
      rw [e] at k
      exact k _ (hm2.back eN)
    · have e : (decide (lo ≤ (xs.length : Int)) && decide ((xs.length : Int) ≤ hi)) = false := by rw [decide_eq_false h1, Bool.false_and]
      rw [e] at k
      exact k _ (hm2.back eN)
  rcases hx with ⟨a, xs, rfl, hx | hx, rfl⟩ | ⟨rfl | ⟨i, rfl⟩, rfl⟩
  · refine w_isiT (us := [.type "list", .type "tuple"]) (b := true) hm1 hp (.cons (.ty _) (.cons (.ty _) .nil)) (tyx_list (hm1.sql (eN.seq hx))) (kitAny_cons (b := true) (kit_ty (by decide +kernel)) (fun z => by cases z) fun _ => rfl) ?_
    walk_at "go"
    refine iteT ?_
    walk_at "go"
    exact fin xs _ hm1 k
  · refine w_isiT (us := [.type "list", .type "tuple"]) (b := true) hm1 hp (.cons (.ty _) (.cons (.ty _) .nil)) (tyx_tup (hm1.sqt (Same.sqt eN hx))) (kitAny_cons (b := false) (kit_ty (by decide +kernel)) (fun _ => kitAny_cons (b := true) (kit_ty (by decide +kernel)) (fun z => by cases z) fun _ => rfl) fun _ => rfl) ?_
    walk_at "go"
    refine iteT ?_
    walk_at "go"
    exact fin xs _ hm1 k
  · refine w_isiT (us := [.type "list", .type "tuple"]) (b := false) hm1 hp (.cons (.ty _) (.cons (.ty _) .nil)) (.base .non) (kitAny_cons (b := false) (kit_ty (by decide +kernel)) (fun _ => kitAny_cons (b := false) (kit_ty (by decide +kernel)) (fun _ => kitAny_nil) fun z => by cases z) fun z => by cases z) ?_
    walk_at "go"
    refine iteF ?_
    exact k _ (hm1.back eN)
  · refine w_isiT (us := [.type "list", .type "tuple"]) (b := false) hm1 hp (.cons (.ty _) (.cons (.ty _) .nil)) (.base (.int i)) (kitAny_cons (b := false) (kit_ty (by decide +kernel)) (fun _ => kitAny_cons (b := false) (kit_ty (by decide +kernel)) (fun _ => kitAny_nil) fun z => by cases z) fun z => by cases z) ?_
    walk_at "go"
    refine iteF ?_
    exact k _ (hm1.back eN)
end

end Pa

set_option Elab.async false
set_option linter.all false
set_option maxRecDepth 100000
set_option maxHeartbeats 4000000
namespace Pa
open PySem L2
local macro_rules | `(tactic| walk_at "lt") => `(tactic| first
  | assumption
  | omega
  | (simp only [List.length_map, List.length_range, List.length_cons, List.length_nil, List.length_append, List.length_replicate] at *; omega))
local macro_rules | `(tactic| walk_at "fo") => `(tactic| first | exact foc0 | (refine' focS ?k1; (case k1 => walk_at "fo")))
local macro_rules | `(tactic| walk_at "sq") => `(tactic| first
  | assumption
  | (refine' SqL.of ?k1; (case k1 => assumption))
  | (refine' SqT.of ?k1; (case k1 => assumption))
  | (refine' Or.inl ?k1; (case k1 => walk_at "sq"))
  | (refine' Or.inr ?k1; (case k1 => walk_at "sq"))
  | (refine' Same.seq ?k1 ?k2; (case k1 => assumption); (case k2 => walk_at "sq"))
  | (refine' Same.sqt ?k1 ?k2; (case k1 => assumption); (case k2 => walk_at "sq"))
  | (refine' Same.sqe ?k1 ?k2; (case k1 => assumption); (case k2 => walk_at "sq"))
  | (refine' same_at ?k1 ?k2; (case k1 => assumption); (case k2 => walk_at "sq")))
local macro_rules | `(tactic| walk_at "ai") => `(tactic| first
  | assumption
  | (refine' ati_ints ?k1; (case k1 => walk_at "lt"))
  | (refine' ati_refs ?k1; (case k1 => walk_at "lt"))
  | (refine' ati_nat ?k1; (case k1 => assumption))
  | k_dflt rfl)
local macro_rules | `(tactic| walk_at "lk") => `(tactic| first
  | assumption
  | exact lk_hd
  | (refine' lk_tl ?k1 ?k2; (case k1 => decide +kernel); (case k2 => walk_at "lk"))
  | exact lk_nil)
local macro_rules | `(tactic| walk_at "sz") => `(tactic| first
  | exact small_sz (by simp only [List.length_cons, List.length_nil, List.length_append, List.length_map, List.length_range, List.length_set, List.length_replicate]; omega))
local macro_rules | `(tactic| walk_at "cc") => `(tactic| first
  | (show (0 : Int) < _; first | decide | omega)
  | exact Or.inl ⟨by omega, by omega⟩
  | exact Or.inr ⟨by omega, by omega⟩
  | exact ⟨by decide, by decide, by decide⟩
  | exact ⟨by decide, by decide⟩)
local macro_rules | `(tactic| walk_at "st") => `(tactic| first
  | with_reducible refine w_seq ?_
  | with_reducible refine w_asg ?_
  | ((with_reducible refine' w_var ?k1 ?_); (case k1 => k_dflt rfl))
  | with_reducible refine w_c ?_
  | with_reducible refine w_op ?_
  | with_reducible refine w_cons ?_
  | with_reducible refine w_nil ?_
  | with_reducible refine w_gname ?_
  | with_reducible refine w_I0 ?_
  | with_reducible refine w_fld ?_
  | ((with_reducible refine' w_ins ?k1 ?k2 ?k3 ?k4 ?k5 ?_); (case k1 => assumption); (case k2 => walk_at "sq"); (case k3 => assumption); (case k4 => assumption); (case k5 => walk_at "lk"))
  | ((with_reducible refine' w_ixT ?k1 ?k2 ?k3 ?_); (case k1 => assumption); (case k2 => walk_at "sq"); (case k3 => walk_at "ai"))
  | ((with_reducible refine' w_ixL ?k1 ?k2 ?k3 ?_); (case k1 => assumption); (case k2 => walk_at "sq"); (case k3 => walk_at "ai"))
  | ((with_reducible refine' w_ixM ?k1 ?k2 ?k3 ?_); (case k1 => assumption); (case k2 => walk_at "fo"); (case k3 => walk_at "ai"))
  | with_reducible refine w_cb ?_
  | with_reducible refine w_test ?_
  | with_reducible refine w_if ?_
  | with_reducible refine w_B ?_
  | with_reducible refine w_not ?_
  | with_reducible refine w_and ?_
  | with_reducible refine w_or ?_
  | with_reducible refine w_eqI ?_
  | with_reducible refine w_neI ?_
  | with_reducible refine w_isN ?_
  | with_reducible refine w_notN ?_
  | with_reducible refine w_isB ?_
  | with_reducible refine w_bl ?_
  | with_reducible refine w_ret ?_
  | with_reducible refine w_next ?_
  | with_reducible refine w_brk ?_
  | with_reducible refine w_drop ?_
  | with_reducible refine w_call ?_
  | with_reducible refine w_un ?_
  | with_reducible refine w_U ?_
  | with_reducible refine w_andV ?_
  | with_reducible refine w_orV ?_
  | with_reducible refine w_notV ?_
  | with_reducible refine w_ifE ?_
  | with_reducible refine w_chain ?_
  | with_reducible refine w_gsub ?_
  | with_reducible refine w_gnil ?_
  | with_reducible refine w_gcons ?_
  | with_reducible refine w_ipI ?_
  | with_reducible refine w_fldS ?_
  | with_reducible refine w_tru ?_
  | with_reducible refine w_abs ?_
  | with_reducible refine w_maxB ?_
  | with_reducible refine w_minB ?_
  | with_reducible refine w_int ?_
  | with_reducible refine w_tupE ?_
  | with_reducible refine w_lstE ?_
  | with_reducible refine w_bm ?_
  | with_reducible refine w_bm0 ?_
  | with_reducible refine w_mth ?_
  | with_reducible refine w_for0 ?_
  | with_reducible refine w_lc0 ?_
  | with_reducible refine w_il ?_
  | with_reducible refine w_it ?_
  | with_reducible refine w_is ?_
  | with_reducible refine w_ie ?_
  | with_reducible refine w_ir1 ?_
  | with_reducible refine w_ir2 ?_
  | with_reducible refine w_irv ?_
  | with_reducible refine w_rg1 ?_
  | with_reducible refine w_rg1v ?_
  | with_reducible refine w_lrg ?_
  | with_reducible refine w_make ?_
  | with_reducible refine w_yes ?_
  | with_reducible refine w_ost ?_
  | with_reducible refine w_mkoE ?_
  | with_reducible refine w_is_int_int ?_
  | with_reducible refine w_is_int_bool ?_
  | with_reducible refine w_is_int_str ?_
  | with_reducible refine w_is_int_tuple ?_
  | with_reducible refine w_is_bl_int ?_
  | with_reducible refine w_is_bl_bool ?_
  | with_reducible refine w_is_bl_str ?_
  | with_reducible refine w_is_bl_tuple ?_
  | with_reducible refine w_is_non_int ?_
  | with_reducible refine w_is_non_bool ?_
  | with_reducible refine w_is_non_str ?_
  | with_reducible refine w_is_non_tuple ?_
  | with_reducible refine w_is_str_int ?_
  | with_reducible refine w_is_str_bool ?_
  | with_reducible refine w_is_str_str ?_
  | with_reducible refine w_is_str_tuple ?_
  | ((with_reducible refine' w_insM ?k1 ?k2 ?k3 ?k4 ?k5 ?_); (case k1 => assumption); (case k2 => walk_at "fo"); (case k3 => assumption); (case k4 => assumption); (case k5 => walk_at "lk"))
  | ((with_reducible refine' w_ixE ?k1 ?k2 ?k3 ?_); (case k1 => assumption); (case k2 => walk_at "sq"); (case k3 => walk_at "ai"))
  | ((with_reducible refine' w_len ?k1 ?k2 ?_); (case k1 => assumption); (case k2 => walk_at "sq"))
  | ((with_reducible refine' w_lenM ?k1 ?k2 ?_); (case k1 => assumption); (case k2 => walk_at "fo"))
  | ((with_reducible refine' w_I ?k1 ?_); (case k1 => walk_at "cc"))
  | ((with_reducible refine' w_gtup ?k1 ?k2 ?_); (case k1 => refine' Mem.sqt ?m0 ?h0; (case m0 => assumption); (case h0 => walk_at "sq")); (case k2 => k_dflt rfl))
  | ((with_reducible refine' w_aug ?k1 ?_); (case k1 => k_dflt rfl))
  | ((with_reducible refine' w_truM ?k1 ?k2 ?_); (case k1 => assumption); (case k2 => walk_at "fo"))
  | ((with_reducible refine' w_truL ?k1 ?k2 ?_); (case k1 => assumption); (case k2 => walk_at "sq"))
  | ((with_reducible refine' w_tyL ?k1 ?k2 ?_); (case k1 => assumption); (case k2 => walk_at "fo"))
  | ((with_reducible refine' w_mthI ?k1 ?k2 ?k3 ?_); (case k1 => assumption); (case k2 => walk_at "sq"); (case k3 => walk_at "lk"))
  | ((with_reducible refine' w_sumM ?k1 ?k2 ?_); (case k1 => assumption); (case k2 => walk_at "fo"))
  | ((with_reducible refine' w_eqDN ?k1 ?k2 ?k3 ?_); (case k1 => assumption); (case k2 => walk_at "sq"); (case k3 => walk_at "sq"))
  | ((with_reducible refine' w_is_tup_int ?k1 ?k2 ?_); (case k1 => assumption); (case k2 => walk_at "sq"))
  | ((with_reducible refine' w_is_tup_bool ?k1 ?k2 ?_); (case k1 => assumption); (case k2 => walk_at "sq"))
  | ((with_reducible refine' w_is_tup_str ?k1 ?k2 ?_); (case k1 => assumption); (case k2 => walk_at "sq"))
  | ((with_reducible refine' w_is_tup_tuple ?k1 ?k2 ?_); (case k1 => assumption); (case k2 => walk_at "sq"))
  | dsimp only)
local macro_rules | `(tactic| walk_at "go") => `(tactic| repeat (walk_at "st"))
section
variable {P : Program} {w : World} {K : PySem.W.Frag} {mg : Str → Option Value} {base : Heap} {C : Ad}
abbrev N_check_place : List Str := ["chart", "place"]
abbrev P_check_place : List Str := ["chart", "place"]
theorem sc_check_place : FnScope N_check_place P_check_place (defScope S_check_place) := ⟨rfl, rfl, rfl, by decide +kernel, rfl, by decide +kernel, by decide +kernel⟩
-- slots: 0 chart, 1 place
def spChkPlace (K : PySem.W.Frag) (C : Ad) : Sp := spV fun vs I v => ∃ (a : Addr) (c : Ch) (p : Nat), vs = [.ref a, .int (p : Int)] ∧ ChAt K C I a c ∧ p < c.cs.length ∧ v = .int (p : Int)
theorem ok_check_place {f : Addr} {fd : FuncData} (F : FnP K "check_place" "check_place" S_check_place f fd) (T : Txt K mg C) (G_is_whole : FnAt P w K mg base "is_whole" 1 P_is_whole spWhole) : FnOk P w K mg base CX0 2 f fd P_check_place (spChkPlace K C) := by
  have nd := sc_check_place.nd
  refine F.ok sc_check_place (fun vs H Q E h => ?_) (fun cdv A outer s H vs Q E hr h => ?_)
  · obtain ⟨I, M, v, ⟨a, c, p, rfl, _⟩, _⟩ := h
    rfl
  obtain ⟨I, M, v, ⟨a, c, p, rfl, ⟨dx, q, r, as, h1, h2, h3, h4⟩, hp, rfl⟩, hm, k⟩ := h
  have n1 := T.n_costs
  have n2 := T.clCh
  refine ⟨_, PSs.nox (pss_cons (ps_if (pt_not (pt_val (pe_fn G_is_whole (hr.mono (by decide)) (pa_cons (pv 1) (pa_cons pe_int (pa_cons (pe_op op_sub (pe_callB cl_len (by rfl) T.b_len PySem.boot_len (pa_cons (pe_fld (pv 0) rfl) pa_nil)) pe_int) pa_nil))))))
      (pss_one ps_never)
      pss_nil)
    (pss_one (ps_ret (pv 1)))), ?_⟩
  try dsimp only [cxOf, Cx.nox, Cx.wish]
  walk_at "go"
  refine w_spV hm ⟨_, _, _, rfl, rfl⟩ fun H1 hm1 => ?_
  walk_at "go"
  have e : (decide ((0 : Int) ≤ (p : Int)) && decide ((p : Int) ≤ (((c.cs.map V.int).length : Nat) : Int) - 1)) = true := by
    rw [List.length_map, decide_eq_true (by omega), decide_eq_true (by omega)]
    rfl
  rw [e]
  refine iteF ?_
  walk_at "go"
  exact k _ hm1
abbrev N_check_arrow : List Str := ["chart", "arrow"]
abbrev P_check_arrow : List Str := ["chart", "arrow"]
theorem sc_check_arrow : FnScope N_check_arrow P_check_arrow (defScope S_check_arrow) := ⟨rfl, rfl, rfl, by decide +kernel, rfl, by decide +kernel, by decide +kernel⟩
-- slots: 0 chart, 1 arrow
def spChkArrow (K : PySem.W.Frag) (C : Ad) : Sp := spV fun vs I v => ∃ (a : Addr) (c : Ch) (p : Nat), vs = [.ref a, .int (p : Int)] ∧ ChAt K C I a c ∧ p < c.ar.length ∧ v = .int (p : Int)
theorem ok_check_arrow {f : Addr} {fd : FuncData} (F : FnP K "check_arrow" "check_arrow" S_check_arrow f fd) (T : Txt K mg C) (G_is_whole : FnAt P w K mg base "is_whole" 1 P_is_whole spWhole) : FnOk P w K mg base CX0 2 f fd P_check_arrow (spChkArrow K C) := by
  have nd := sc_check_arrow.nd
  refine F.ok sc_check_arrow (fun vs H Q E h => ?_) (fun cdv A outer s H vs Q E hr h => ?_)
  · obtain ⟨I, M, v, ⟨a, c, p, rfl, _⟩, _⟩ := h
    rfl
  obtain ⟨I, M, v, ⟨a, c, p, rfl, ⟨dx, q, r, as, h1, h2, h3, h4⟩, hp, rfl⟩, hm, k⟩ := h
  have n1 := T.n_arrows
  have n2 := T.clCh
  refine ⟨_, PSs.nox (pss_cons (ps_if (pt_not (pt_val (pe_fn G_is_whole (hr.mono (by decide)) (pa_cons (pv 1) (pa_cons pe_int (pa_cons (pe_op op_sub (pe_callB cl_len (by rfl) T.b_len PySem.boot_len (pa_cons (pe_fld (pv 0) rfl) pa_nil)) pe_int) pa_nil))))))
      (pss_one ps_never)
      pss_nil)
    (pss_one (ps_ret (pv 1)))), ?_⟩
  try dsimp only [cxOf, Cx.nox, Cx.wish]
  walk_at "go"
  refine w_spV hm ⟨_, _, _, rfl, rfl⟩ fun H1 hm1 => ?_
  walk_at "go"
  have e : (decide ((0 : Int) ≤ (p : Int)) && decide ((p : Int) ≤ (((as.map V.ref).length : Nat) : Int) - 1)) = true := by
    rw [List.length_map, h4.1, decide_eq_true (by omega), decide_eq_true (by omega)]
    rfl
  rw [e]
  refine iteF ?_
  walk_at "go"
  exact k _ hm1
abbrev N_arrow_gain : List Str := ["meter", "arrow"]
abbrev P_arrow_gain : List Str := ["meter", "arrow"]
theorem sc_arrow_gain : FnScope N_arrow_gain P_arrow_gain (defScope S_arrow_gain) := ⟨rfl, rfl, rfl, by decide +kernel, rfl, by decide +kernel, by decide +kernel⟩
-- slots: 0 meter, 1 arrow
def spGain (K : PySem.W.Frag) (C : Ad) : Sp := spV fun vs I v => ∃ (a : Addr) (e : Me) (k : Nat), vs = [.ref a, .int (k : Int)] ∧ MeAt K C I a e ∧ e.Ok ∧ k < e.ch.ar.length ∧ v = .int (e.gain k)
theorem ok_arrow_gain {f : Addr} {fd : FuncData} (F : FnP K "arrow_gain" "arrow_gain" S_arrow_gain f fd) (T : Txt K mg C) : FnOk P w K mg base CX0 1 f fd P_arrow_gain (spGain K C) := by
  have nd := sc_arrow_gain.nd
  refine F.ok sc_arrow_gain (fun vs H Q E h => ?_) (fun cdv A outer s H vs Q E hr h => ?_)
  · obtain ⟨I, M, v, ⟨a, c, p, rfl, _⟩, _⟩ := h
    rfl
  obtain ⟨I, M, v, ⟨a, e, j, rfl, ⟨dx, ca, qa, hI, ⟨dx2, p, r, as, h1, h2, h3, h4⟩, h5⟩, ok, hj, rfl⟩, hm, k⟩ := h
  have n1 := T.n_costs
  have n2 := T.clCh
  have n3 := T.n_arrows
  have n4 := T.n_charges
  have n5 := T.clMe
  have n6 := T.n_chart
  have j1 : j < e.cg.length := by rw [ok.cg]; exact hj
  have j2 : j < as.length := by rw [h4.1]; exact hj
  have j3 := h4.2 j hj
  have j4 : (e.ch.ar.getD j (0, 0)).1 < e.ch.cs.length := ok.ch.tl j hj
  refine ⟨_, PSs.nox (pss_one (ps_ret (pe_op op_sub (pe_ix ix_tup (pe_fld (pv 0) rfl) (pv 1) (fun _ _ => rfl)) (pe_ix ix_tup (pe_fld (pe_fld (pv 0) rfl) rfl) (pe_ix ix_tup (pe_ix ix_tup (pe_fld (pe_fld (pv 0) rfl) rfl) (pv 1) (fun _ _ => rfl)) pe_int (fun _ _ => rfl)) (fun _ _ => rfl))))), ?_⟩
  try dsimp only [cxOf, Cx.nox, Cx.wish]
  walk_at "go"
  exact k _ hm
abbrev N_Chart_outs : List Str := ["self", "place", "number", "arrow"]
abbrev P_Chart_outs : List Str := ["self", "place"]
theorem sc_Chart_outs : FnScope N_Chart_outs P_Chart_outs (defScope S_Chart_outs) := ⟨rfl, rfl, rfl, by decide +kernel, rfl, by decide +kernel, by decide +kernel⟩
-- slots: 0 self, 1 place (cell), 2 number, 3 arrow
def spOuts (K : PySem.W.Frag) (C : Ad) : Sp := spN fun vs I R => ∃ (a : Addr) (c : Ch) (p : Nat), vs = [.ref a, .int (p : Int)] ∧ ChAt K C I a c ∧ c.Ok ∧ p < c.cs.length ∧ R = fun v N => ∃ t, v = .ref t ∧ TupN K N t (c.outs p)
theorem ok_Chart_outs {f : Addr} {fd : FuncData} (F : FnP K "outs" "Chart.outs" S_Chart_outs f fd) (T : Txt K mg C) (G_check_place : FnAt P w K mg base "check_place" 2 P_check_place (spChkPlace K C)) : FnOk P w K mg base CX0 3 f fd P_Chart_outs (spOuts K C) := by
  have nd := sc_Chart_outs.nd
  refine F.ok sc_Chart_outs (fun vs H Q E h => ?_) (fun cdv A outer s H vs Q E hr h => ?_)
  · obtain ⟨I, M, v, ⟨a, c, p, rfl, _⟩, _⟩ := h
    rfl
  obtain ⟨I, M, R, ⟨a, c, p, rfl, hc, ok, hp, rfl⟩, hm, k⟩ := h
  have hc2 := hc
  obtain ⟨dx, q, r, as, h1, h2, h3, h4⟩ := hc
  have n1 := T.n_arrows
  have n2 := T.clCh
  refine ⟨_, PSs.nox (pss_cons (ps_expr (pe_fn G_check_place (hr.mono (by decide)) (pa_cons (pv 0) (pa_cons (pv 1) pa_nil))))
    (pss_one (ps_ret (pe_callTy cl_tuple (by rfl) T.b_tuple PyProof.Rows.boot_tuple (pa_cons (pe_lc (own := [("number", 2), ("arrow", 3)]) (g := (gTup K 2 (gCons (gName 2) (gCons (gName 3) gNil)))) (tt := (tTest (tOp rEq (tOp (rIxT K) (tVar 3) (tC (.int 0))) (tVar 1)))) (te := (tVar 2)) rfl nd (pi_enumS rfl T.b_enumerate (pa_cons (pe_fld (pv 0) rfl) pa_nil)) (blkOk_by (N := N_Chart_outs) (sc := defScope S_Chart_outs) (by decide +kernel)) (fun _ _ _ _ _ => (pg_tup rfl (pgs_cons (pg_name (i := 2) nd rfl (Or.inl rfl)) (pgs_cons (pg_name (i := 3) nd rfl (Or.inl rfl)) pgs_nil)))) (fun _ _ _ _ _ => (pts_one (pt_cmpR op_eq (pe_ix ix_tup (pv 3) pe_int (fun _ _ => rfl)) (pv 1) (nomark _)))) (fun _ _ _ _ _ => (pv 2))) pa_nil))))), ?_⟩
  try dsimp only [cxOf, Cx.nox, Cx.wish]
  walk_at "go"
  refine w_spV hm ⟨_, _, _, rfl, hc2, hp, rfl⟩ fun H1 hm1 => ?_
  walk_at "go"
  refine w_ienum hm1 (.inr h3) fun J wk => ?_
  refine w_lcE wk hm1 (fun i => .int (i : Int)) (fun i => decide (c.tl i = p)) (by rw [List.length_map, h4.1]; exact Nat.le_trans ok.m32 (by decide)) (fun i x T N D acc H' Yes No hi hx eN hT hm' hyes hno => ?_) fun D H' hm' => ?_
  · rw [List.length_map] at hi
    have hi2 : i < c.ar.length := by rw [← h4.1]; exact hi
    have hx2 : x = .ref (as.getD i 0) := by
      rw [List.getElem?_map, List.getElem?_eq_getElem hi] at hx
      rw [List.getD_eq_getElem?_getD, List.getElem?_eq_getElem hi]
      exact (Option.some.inj hx).symm
    subst hx2
    have h6 := h4.2 i hi2
    walk_at "go"
    refine ⟨rfl, ?_⟩
    walk_at "go"
    refine w_ite (fun h => ?_) fun h => ?_
    · walk_at "go"
      exact hyes (decide_eq_true (by have : ((c.tl i : Nat) : Int) = (p : Int) := h
                                     omega)) _ (hm'.back eN)
    · exact hno (decide_eq_false fun e => h (congrArg (Nat.cast (R := Int)) e)) _ (hm'.back eN)
  · walk_at "go"
    refine w_tupOfM hm' foc0 fun l N H2 eN hl hm2 => ?_
    refine k _ _ _ eN hm2.drop ⟨l, rfl, ?_⟩
    have e : ((List.range (as.map V.ref).length).filter fun i => decide (c.tl i = p)).map (fun (i : Nat) => V.int (i : Int)) = (c.outs p).map fun (i : Nat) => V.int (i : Int) := by
      unfold Ch.outs
      rw [List.length_map, h4.1]
    rw [e] at hl
    exact hl
end

end Pa

set_option Elab.async false
set_option linter.all false
set_option maxRecDepth 100000
set_option maxHeartbeats 4000000
namespace Pa
open PySem L2
local macro_rules | `(tactic| walk_at "lt") => `(tactic| first
  | assumption
  | omega
  | (simp only [List.length_map, List.length_range, List.length_cons, List.length_nil, List.length_append, List.length_replicate] at *; omega))
local macro_rules | `(tactic| walk_at "fo") => `(tactic| first | exact foc0 | (refine' focS ?k1; (case k1 => walk_at "fo")))
local macro_rules | `(tactic| walk_at "sq") => `(tactic| first
  | assumption
  | (refine' SqL.of ?k1; (case k1 => assumption))
  | (refine' SqT.of ?k1; (case k1 => assumption))
  | (refine' Or.inl ?k1; (case k1 => walk_at "sq"))
  | (refine' Or.inr ?k1; (case k1 => walk_at "sq"))
  | (refine' Same.seq ?k1 ?k2; (case k1 => assumption); (case k2 => walk_at "sq"))
  | (refine' Same.sqt ?k1 ?k2; (case k1 => assumption); (case k2 => walk_at "sq"))
  | (refine' Same.sqe ?k1 ?k2; (case k1 => assumption); (case k2 => walk_at "sq"))
  | (refine' same_at ?k1 ?k2; (case k1 => assumption); (case k2 => walk_at "sq")))
local macro_rules | `(tactic| walk_at "ai") => `(tactic| first
  | assumption
  | (refine' ati_ints ?k1; (case k1 => walk_at "lt"))
  | (refine' ati_refs ?k1; (case k1 => walk_at "lt"))
  | (refine' ati_nat ?k1; (case k1 => assumption))
  | k_dflt rfl)
local macro_rules | `(tactic| walk_at "lk") => `(tactic| first
  | assumption
  | exact lk_hd
  | (refine' lk_tl ?k1 ?k2; (case k1 => decide +kernel); (case k2 => walk_at "lk"))
  | exact lk_nil)
local macro_rules | `(tactic| walk_at "sz") => `(tactic| first
  | exact small_sz (by simp only [List.length_cons, List.length_nil, List.length_append, List.length_map, List.length_range, List.length_set, List.length_replicate]; omega))
local macro_rules | `(tactic| walk_at "cc") => `(tactic| first
  | (show (0 : Int) < _; first | decide | omega)
  | exact Or.inl ⟨by omega, by omega⟩
  | exact Or.inr ⟨by omega, by omega⟩
  | exact ⟨by decide, by decide, by decide⟩
  | exact ⟨by decide, by decide⟩)
local macro_rules | `(tactic| walk_at "st") => `(tactic| first
  | with_reducible refine w_seq ?_
  | with_reducible refine w_asg ?_
  | ((with_reducible refine' w_var ?k1 ?_); (case k1 => k_dflt rfl))
  | with_reducible refine w_c ?_
  | with_reducible refine w_op ?_
  | with_reducible refine w_cons ?_
  | with_reducible refine w_nil ?_
  | with_reducible refine w_gname ?_
  | with_reducible refine w_I0 ?_
  | with_reducible refine w_fld ?_
  | ((with_reducible refine' w_ins ?k1 ?k2 ?k3 ?k4 ?k5 ?_); (case k1 => assumption); (case k2 => walk_at "sq"); (case k3 => assumption); (case k4 => assumption); (case k5 => walk_at "lk"))
  | ((with_reducible refine' w_ixT ?k1 ?k2 ?k3 ?_); (case k1 => assumption); (case k2 => walk_at "sq"); (case k3 => walk_at "ai"))
  | ((with_reducible refine' w_ixL ?k1 ?k2 ?k3 ?_); (case k1 => assumption); (case k2 => walk_at "sq"); (case k3 => walk_at "ai"))
  | ((with_reducible refine' w_ixM ?k1 ?k2 ?k3 ?_); (case k1 => assumption); (case k2 => walk_at "fo"); (case k3 => walk_at "ai"))
  | with_reducible refine w_cb ?_
  | with_reducible refine w_test ?_
  | with_reducible refine w_if ?_
  | with_reducible refine w_B ?_
  | with_reducible refine w_not ?_
  | with_reducible refine w_and ?_
  | with_reducible refine w_or ?_
  | with_reducible refine w_eqI ?_
  | with_reducible refine w_neI ?_
  | with_reducible refine w_isN ?_
  | with_reducible refine w_notN ?_
  | with_reducible refine w_isB ?_
  | with_reducible refine w_bl ?_
  | with_reducible refine w_ret ?_
  | with_reducible refine w_next ?_
  | with_reducible refine w_brk ?_
  | with_reducible refine w_drop ?_
  | with_reducible refine w_call ?_
  | with_reducible refine w_un ?_
  | with_reducible refine w_U ?_
  | with_reducible refine w_andV ?_
  | with_reducible refine w_orV ?_
  | with_reducible refine w_notV ?_
  | with_reducible refine w_ifE ?_
  | with_reducible refine w_chain ?_
  | with_reducible refine w_gsub ?_
  | with_reducible refine w_gnil ?_
  | with_reducible refine w_gcons ?_
  | with_reducible refine w_ipI ?_
  | with_reducible refine w_fldS ?_
  | with_reducible refine w_tru ?_
  | with_reducible refine w_abs ?_
  | with_reducible refine w_maxB ?_
  | with_reducible refine w_minB ?_
  | with_reducible refine w_int ?_
  | with_reducible refine w_tupE ?_
  | with_reducible refine w_lstE ?_
  | with_reducible refine w_bm ?_
  | with_reducible refine w_bm0 ?_
  | with_reducible refine w_mth ?_
  | with_reducible refine w_for0 ?_
  | with_reducible refine w_lc0 ?_
  | with_reducible refine w_il ?_
  | with_reducible refine w_it ?_
  | with_reducible refine w_is ?_
  | with_reducible refine w_ie ?_
  | with_reducible refine w_ir1 ?_
  | with_reducible refine w_ir2 ?_
  | with_reducible refine w_irv ?_
  | with_reducible refine w_rg1 ?_
  | with_reducible refine w_rg1v ?_
  | with_reducible refine w_lrg ?_
  | with_reducible refine w_make ?_
  | with_reducible refine w_yes ?_
  | with_reducible refine w_ost ?_
  | with_reducible refine w_mkoE ?_
  | with_reducible refine w_is_int_int ?_
  | with_reducible refine w_is_int_bool ?_
  | with_reducible refine w_is_int_str ?_
  | with_reducible refine w_is_int_tuple ?_
  | with_reducible refine w_is_bl_int ?_
  | with_reducible refine w_is_bl_bool ?_
  | with_reducible refine w_is_bl_str ?_
  | with_reducible refine w_is_bl_tuple ?_
  | with_reducible refine w_is_non_int ?_
  | with_reducible refine w_is_non_bool ?_
  | with_reducible refine w_is_non_str ?_
  | with_reducible refine w_is_non_tuple ?_
  | with_reducible refine w_is_str_int ?_
  | with_reducible refine w_is_str_bool ?_
  | with_reducible refine w_is_str_str ?_
  | with_reducible refine w_is_str_tuple ?_
  | ((with_reducible refine' w_insM ?k1 ?k2 ?k3 ?k4 ?k5 ?_); (case k1 => assumption); (case k2 => walk_at "fo"); (case k3 => assumption); (case k4 => assumption); (case k5 => walk_at "lk"))
  | ((with_reducible refine' w_ixE ?k1 ?k2 ?k3 ?_); (case k1 => assumption); (case k2 => walk_at "sq"); (case k3 => walk_at "ai"))
  | ((with_reducible refine' w_len ?k1 ?k2 ?_); (case k1 => assumption); (case k2 => walk_at "sq"))
  | ((with_reducible refine' w_lenM ?k1 ?k2 ?_); (case k1 => assumption); (case k2 => walk_at "fo"))
  | ((with_reducible refine' w_I ?k1 ?_); (case k1 => walk_at "cc"))
  | ((with_reducible refine' w_gtup ?k1 ?k2 ?_); (case k1 => refine' Mem.sqt ?m0 ?h0; (case m0 => assumption); (case h0 => walk_at "sq")); (case k2 => k_dflt rfl))
  | ((with_reducible refine' w_aug ?k1 ?_); (case k1 => k_dflt rfl))
  | ((with_reducible refine' w_truM ?k1 ?k2 ?_); (case k1 => assumption); (case k2 => walk_at "fo"))
  | ((with_reducible refine' w_truL ?k1 ?k2 ?_); (case k1 => assumption); (case k2 => walk_at "sq"))
  | ((with_reducible refine' w_tyL ?k1 ?k2 ?_); (case k1 => assumption); (case k2 => walk_at "fo"))
  | ((with_reducible refine' w_mthI ?k1 ?k2 ?k3 ?_); (case k1 => assumption); (case k2 => walk_at "sq"); (case k3 => walk_at "lk"))
  | ((with_reducible refine' w_sumM ?k1 ?k2 ?_); (case k1 => assumption); (case k2 => walk_at "fo"))
  | ((with_reducible refine' w_eqDN ?k1 ?k2 ?k3 ?_); (case k1 => assumption); (case k2 => walk_at "sq"); (case k3 => walk_at "sq"))
  | ((with_reducible refine' w_is_tup_int ?k1 ?k2 ?_); (case k1 => assumption); (case k2 => walk_at "sq"))
  | ((with_reducible refine' w_is_tup_bool ?k1 ?k2 ?_); (case k1 => assumption); (case k2 => walk_at "sq"))
  | ((with_reducible refine' w_is_tup_str ?k1 ?k2 ?_); (case k1 => assumption); (case k2 => walk_at "sq"))
  | ((with_reducible refine' w_is_tup_tuple ?k1 ?k2 ?_); (case k1 => assumption); (case k2 => walk_at "sq"))
  | dsimp only)
local macro_rules | `(tactic| walk_at "go") => `(tactic| repeat (walk_at "st"))
abbrev nv (l : List Nat) : List V := l.map fun (x : Nat) => V.int (x : Int)
theorem nv_app (l : List Nat) (x : Nat) : nv l ++ [V.int (x : Int)] = nv (l ++ [x]) := by
  rw [nv, nv, List.map_append]
  rfl
theorem nv_get {l : List Nat} {i : Nat} {v : V} (h : (nv l)[i]? = some v) : ∃ x, l[i]? = some x ∧ v = .int (x : Int) := by
  rw [List.getElem?_map] at h
  cases e : l[i]? with
  | none =>
    rw [e] at h
    cases h
  | some x =>
    rw [e] at h
    exact ⟨x, rfl, (Option.some.inj h).symm⟩
/-- the list behind a -/
abbrev LstN (K : PySem.W.Frag) (I : Hp) (a : Addr) (l : List Nat) : Prop := SqL K I a (nv l)
theorem w_popL {I H : Hp} {M : Mu} {l : Addr} {xs : List V} {y : V} {Q : VK} {f : HO → Mu} (hm : Mem I M H) (hf : Foc M l (.lst (xs ++ [y])) f) (q : ∀ H', Mem I (f (.lst xs)) H' → Q y H') : rPop (.ref l) [] H Q := by
  refine w_pop hm hf ?_ fun H' m => q H' (by rw [List.dropLast_concat] at m; exact m)
  rw [List.length_append, List.length_singleton, Nat.add_sub_cancel, List.getElem?_append_right (Nat.le_refl _), Nat.sub_self]
  rfl
theorem nv_snoc {W : List Nat} (h : (!(nv W).isEmpty) = true) : ∃ W' t, W = W' ++ [t] := by
  rcases List.eq_nil_or_concat W with e | ⟨W', t, e⟩
  · rw [e] at h
    cases h
  · exact ⟨W', t, by rw [e, List.concat_eq_append]⟩
theorem nv_nil {W : List Nat} (h : (!(nv W).isEmpty) = false) : W = [] := by
  cases W with
  | nil => rfl
  | cons a r => cases h
section
variable {P : Program} {w : World} {K : PySem.W.Frag} {mg : Str → Option Value} {base : Heap} {C : Ad}
abbrev N_behind_places : List Str := ["chart", "place", "found", "waiting", "tail", "arrow", "head"]
abbrev P_behind_places : List Str := ["chart", "place"]
theorem sc_behind_places : FnScope N_behind_places P_behind_places (defScope S_behind_places) := ⟨rfl, rfl, rfl, by decide +kernel, rfl, by decide +kernel, by decide +kernel⟩
-- slots: 0 chart, 1 place, 2 found, 3 waiting, 4 tail, 5 arrow, 6 head
def spBehind (K : PySem.W.Frag) (C : Ad) : Sp := spN fun vs I R => ∃ (a : Addr) (c : Ch) (p : Nat), vs = [.ref a, .int (p : Int)] ∧ ChAt K C I a c ∧ c.Ok ∧ p < c.cs.length ∧
  R = fun v N => ∃ t l, v = .ref t ∧ LstN K N t l ∧ l.Nodup ∧ ∀ x, x ∈ l ↔ c.Reach p x
theorem ok_behind_places {f : Addr} {fd : FuncData} (F : FnP K "behind_places" "behind_places" S_behind_places f fd) (T : Txt K mg C) (G_outs : MtAt P w K mg base C.ch "outs" 3 P_Chart_outs (spOuts K C)) : FnOk P w K mg base CX0 4 f fd P_behind_places (spBehind K C) := by
  have nd := sc_behind_places.nd
  refine F.ok sc_behind_places (fun vs H Q E h => ?_) (fun cdv A outer s H vs Q E hr h => ?_)
  · obtain ⟨I, M, v, ⟨a, c, p, rfl, _⟩, _⟩ := h
    rfl
  obtain ⟨I, M, R, ⟨a, c, p, rfl, hc, ok, hp, rfl⟩, hm, k⟩ := h
  have hc2 := hc
  obtain ⟨dx, q, r, as, h1, h2, h3, h4⟩ := hc
  have n1 := T.n_arrows
  have n2 := T.clCh
  refine ⟨_, PSs.nox (pss_cons (ps_set (i := 2) nd rfl (Or.inl rfl) (pe_lst pa_nil))
    (pss_cons (ps_set (i := 3) nd rfl (Or.inl rfl) (pe_lst (pa_cons (pv 1) pa_nil)))
    (pss_cons (ps_while PassesOwn.never (pt_tru (pv 3))
      (pss_cons (ps_set (i := 4) nd rfl (Or.inl rfl) (pe_bm0 PySem.F.plainAttrs_list PySem.F.slot_list_pop PySem.F.type_list_pop mt_pop (pv 3)))
      (pss_one (ps_for PassesOwn.never rfl (pi_tup (pe_mth G_outs (hr.mono (by decide)) (pv 0) (pa_cons (pv 4) pa_nil))) (pg_name (i := 5) nd rfl (Or.inl rfl))
        (pss_cons (ps_set (i := 6) nd rfl (Or.inl rfl) (pe_ix ix_tup (pe_ix ix_tup (pe_fld (pv 0) rfl) (pv 5) (fun _ _ => rfl)) pe_int (fun _ _ => rfl)))
        (pss_one (ps_if (pt_cmpR op_notIn_seq (pv 6) (pv 2) (by rfl))
          (pss_cons (ps_expr (pe_bm PySem.F.plainAttrs_list PySem.F.slot_list_append PySem.F.type_list_append mt_append (pv 2) (pa_cons (pv 6) pa_nil)))
          (pss_one (ps_expr (pe_bm PySem.F.plainAttrs_list PySem.F.slot_list_append PySem.F.type_list_append mt_append (pv 3) (pa_cons (pv 6) pa_nil)))))
          pss_nil)))))))
    (pss_one (ps_ret (pv 2)))))), ?_⟩
  try dsimp only [cxOf, Cx.nox, Cx.wish]
  walk_at "go"
  refine w_lst hm (by walk_at "sz") fun lf H1 hm1 => ?_
  walk_at "go"
  refine w_lst hm1 (by walk_at "sz") fun lw H2 hm2 => ?_
  walk_at "go"
  refine w_while hm2 (fun m σ N M' => ∃ F W tv av hv, σ = [some (.ref a), some (.int p), some (.ref lf), some (.ref lw), tv, av, hv] ∧ M' = (lw, .lst (nv W)) :: (lf, .lst (nv F)) :: M ∧ F.Nodup ∧ (∀ x ∈ F, c.Reach p x) ∧ (∀ x ∈ W, x = p ∨ x ∈ F) ∧
    (∀ k, k < c.ar.length → c.tl k = p ∨ c.tl k ∈ F → c.tl k ∉ W → c.hd k ∈ F) ∧ m = 2 * (c.cs.length - F.length) + W.length ∧ m ≤ 2 * c.cs.length + 1) _ ⟨[], [p], none, none, none, rfl, rfl, List.nodup_nil, (fun x hx => by cases hx), (fun x hx => .inl (List.mem_singleton.mp hx)), (fun k _ h1 h2 => by
      rcases h1 with h1 | h1
      · exact absurd (List.mem_singleton.mpr h1) h2
      · cases h1), rfl, by show 2 * (c.cs.length - 0) + 1 ≤ _; omega⟩ ?_
  rintro m _ N _ H3 eN ⟨F, W, tv, av, hv, rfl, rfl, nF, rF, wF, cF, rfl, mB⟩ hm3
  walk_at "go"
  refine w_iteB (fun hb => w_wbody ?_) fun hb => ?_
  · obtain ⟨W, t, rfl⟩ := nv_snoc hb
    walk_at "go"
    rw [← nv_app] at hm3
    have ht : t < c.cs.length := by
      rcases wF t (List.mem_append_right _ List.mem_cons_self) with e | e
      · rw [e]
        exact hp
      · exact (rF t e).lt ok
    refine w_popL hm3 foc0 fun H4 hm4 => ?_
    walk_at "go"
    refine w_spN hm4 ⟨_, _, _, rfl, hc2.mono eN, ok, ht, rfl⟩ fun v N2 H5 eN2 hm5 hR => ?_
    obtain ⟨t2, rfl, ho⟩ := hR
    walk_at "go"
    refine w_itt hm5 ho fun J wk => ?_
    refine w_for wk hm5 (fun i σ N M' => ∃ F2 W2 av hv, σ = [some (.ref a), some (.int p), some (.ref lf), some (.ref lw), some (.int t), av, hv] ∧ M' = (lw, .lst (nv W2)) :: (lf, .lst (nv F2)) :: M ∧ F2.Nodup ∧ (∀ x ∈ F2, c.Reach p x) ∧ (∀ x ∈ W2, x = p ∨ x ∈ F2) ∧
      (∀ k, k < c.ar.length → c.tl k = p ∨ c.tl k ∈ F2 → c.tl k ∉ W2 → c.tl k = t ∨ c.hd k ∈ F2) ∧ (∀ j x, j < i → (c.outs t)[j]? = some x → c.hd x ∈ F2) ∧ (t = p ∨ t ∈ F2) ∧ 2 * (c.cs.length - F2.length) + W2.length < 2 * (c.cs.length - F.length) + (W ++ [t]).length)
      ⟨F, W, av, hv, rfl, rfl, nF, rF, fun x hx => wF x (List.mem_append_left _ hx), ?_, fun j x hj => absurd hj (Nat.not_lt_zero _), wF t (List.mem_append_right _ List.mem_cons_self), ?_⟩ ?_ ?_
    · intro k hk h1 h2
      by_cases e : c.tl k = t
      · exact .inl e
      · refine .inr (cF k hk h1 fun z => ?_)
        rcases List.mem_append.mp z with z | z
        · exact h2 z
        · exact e (List.mem_singleton.mp z)
    · rw [List.length_append, List.length_singleton]
      omega
    · rintro i _ _ N3 _ H6 hi hx eN3 ⟨F2, W2, av, hv, rfl, rfl, nF2, rF2, wF2, cF2, dF2, tF2, me⟩ hm6
      obtain ⟨j, hj, rfl⟩ := nv_get hx
      obtain ⟨hj1, hj2⟩ := Ch.mem_outs.mp (List.mem_of_getElem? hj)
      have j2 : j < as.length := by rw [h4.1]; exact hj1
      have j3 := h4.2 j hj1
      have eN3' := eN3
      have eI := eN.trans (eN2.trans eN3)
      clear eN eN2 eN3
      walk_at "go"
      refine w_inM hm6 (focS foc0) rfl (flat_nats _) ?_
      rw [inV_nats]
      walk_at "go"
      have hh : (c.ar.getD j (0, 0)).2 = c.hd j := rfl
      rw [hh]
      have rh : c.Reach p (c.hd j) := by
        rcases tF2 with e | e
        · have := Ch.Reach.one hj1
          rw [hj2, e] at this
          exact this
        · have := rF2 t e
          rw [← hj2] at this
          exact .step this hj1
      refine w_iteNB (fun hb => ?_) fun hb => ?_
      · have hn : c.hd j ∉ F2 := of_decide_eq_false hb
        have lF : F2.length ≤ c.cs.length := nodup_len _ _ nF2 fun x hx => (rF2 x hx).lt ok
        have lF3 : (F2 ++ [c.hd j]).length ≤ c.cs.length := nodup_len _ _ (List.nodup_append.mpr ⟨nF2, by simp, fun x hx y hy e => hn (by rw [← List.mem_singleton.mp hy, ← e]; exact hx)⟩) fun x hx => by
          rcases List.mem_append.mp hx with hx | hx
          · exact (rF2 x hx).lt ok
          · rw [List.mem_singleton.mp hx]
            exact rh.lt ok
        have n16 := ok.n16
        rw [List.length_append, List.length_singleton] at lF3
        walk_at "go"
        refine w_app hm6 (focS foc0) (small_sl (by rw [List.length_map]; omega)) fun H7 hm7 => ?_
        rw [nv_app] at hm7
        walk_at "go"
        refine w_app hm7 foc0 (small_sl (by rw [List.length_map]; rw [List.length_append, List.length_singleton] at me mB; omega)) fun H8 hm8 => ?_
        rw [nv_app] at hm8
        walk_at "go"
        refine ⟨_, _, eN3', ⟨F2 ++ [c.hd j], W2 ++ [c.hd j], _, _, rfl, rfl, List.nodup_append.mpr ⟨nF2, by simp, fun x hx y hy e => hn (by rw [← List.mem_singleton.mp hy, ← e]; exact hx)⟩, ?_, ?_, ?_, ?_, ?_, ?_⟩, hm8⟩
        · intro x hx
          rcases List.mem_append.mp hx with hx | hx
          · exact rF2 x hx
          · rw [List.mem_singleton.mp hx]
            exact rh
        · intro x hx
          rcases List.mem_append.mp hx with hx | hx
          · rcases wF2 x hx with z | z
            · exact .inl z
            · exact .inr (List.mem_append_left _ z)
          · exact .inr (List.mem_append_right _ hx)
        · intro k hk z1 z2
          have z3 : c.tl k ∉ W2 := fun z => z2 (List.mem_append_left _ z)
          have z4 : c.tl k ≠ c.hd j := fun z => z2 (List.mem_append_right _ (by rw [z]; exact List.mem_cons_self))
          rcases z1 with z1 | z1
          · exact (cF2 k hk (.inl z1) z3).imp id fun z => List.mem_append_left _ z
          · rcases List.mem_append.mp z1 with z1 | z1
            · exact (cF2 k hk (.inr z1) z3).imp id fun z => List.mem_append_left _ z
            · exact absurd (List.mem_singleton.mp z1) z4
        · intro l x hl hxx
          by_cases e : l = i
          · subst e
            rw [hj] at hxx
            rw [← Option.some.inj hxx]
            exact List.mem_append_right _ List.mem_cons_self
          · exact List.mem_append_left _ (dF2 l x (by omega) hxx)
        · exact tF2.imp id fun z => List.mem_append_left _ z
        · rw [List.length_append, List.length_append, List.length_singleton]
          omega
      · have hn : c.hd j ∈ F2 := of_decide_eq_true hb
        walk_at "go"
        refine ⟨_, _, eN3', ⟨F2, W2, _, _, rfl, rfl, nF2, rF2, wF2, cF2, ?_, tF2, me⟩, hm6⟩
        intro l x hl hxx
        by_cases e : l = i
        · subst e
          rw [hj] at hxx
          rw [← Option.some.inj hxx]
          exact hn
        · exact dF2 l x (by omega) hxx
    · rintro _ N3 _ H6 eN3 ⟨F2, W2, av, hv, rfl, rfl, nF2, rF2, wF2, cF2, dF2, tF2, me⟩ hm6
      refine ⟨_, me, _, _, eN.trans (eN2.trans eN3), ⟨F2, W2, _, _, _, rfl, rfl, nF2, rF2, wF2, fun k hk h1 h2 => ?_, rfl, by omega⟩, hm6⟩
      rcases cF2 k hk h1 h2 with e | e
      · obtain ⟨l, hl⟩ := List.mem_iff_getElem?.mp (Ch.mem_outs.mpr ⟨hk, e⟩)
        refine dF2 l k ?_ hl
        rw [List.length_map]
        exact (List.getElem?_eq_some_iff.mp hl).1
      · exact e
  · have e := nv_nil hb
    subst e
    walk_at "go"
    refine w_frz hm3.swap fun N2 eN2 hp2 hm4 => ?_
    refine k _ _ _ (eN.trans eN2) hm4.drop ⟨lf, F, rfl, SqL.of hp2, nF, fun x => ⟨fun hx => rF x hx, fun hr => ?_⟩⟩
    exact hr.closed (S := fun x => x ∈ F) fun k hk z => cF k hk z (by simp)
end

end Pa

set_option Elab.async false
set_option linter.all false
set_option maxRecDepth 100000
set_option maxHeartbeats 4000000
namespace Pa
open PySem L2
local macro_rules | `(tactic| walk_at "lt") => `(tactic| first
  | assumption
  | omega
  | (simp only [List.length_map, List.length_range, List.length_cons, List.length_nil, List.length_append, List.length_replicate] at *; omega))
local macro_rules | `(tactic| walk_at "fo") => `(tactic| first | exact foc0 | (refine' focS ?k1; (case k1 => walk_at "fo")))
local macro_rules | `(tactic| walk_at "sq") => `(tactic| first
  | assumption
  | (refine' SqL.of ?k1; (case k1 => assumption))
  | (refine' SqT.of ?k1; (case k1 => assumption))
  | (refine' Or.inl ?k1; (case k1 => walk_at "sq"))
  | (refine' Or.inr ?k1; (case k1 => walk_at "sq"))
  | (refine' Same.seq ?k1 ?k2; (case k1 => assumption); (case k2 => walk_at "sq"))
  | (refine' Same.sqt ?k1 ?k2; (case k1 => assumption); (case k2 => walk_at "sq"))
  | (refine' Same.sqe ?k1 ?k2; (case k1 => assumption); (case k2 => walk_at "sq"))
  | (refine' same_at ?k1 ?k2; (case k1 => assumption); (case k2 => walk_at "sq")))
local macro_rules | `(tactic| walk_at "ai") => `(tactic| first
  | assumption
  | (refine' ati_ints ?k1; (case k1 => walk_at "lt"))
  | (refine' ati_refs ?k1; (case k1 => walk_at "lt"))
  | (refine' ati_nat ?k1; (case k1 => assumption))
  | k_dflt rfl)
local macro_rules | `(tactic| walk_at "lk") => `(tactic| first
  | assumption
  | exact lk_hd
  | (refine' lk_tl ?k1 ?k2; (case k1 => decide +kernel); (case k2 => walk_at "lk"))
  | exact lk_nil)
local macro_rules | `(tactic| walk_at "sz") => `(tactic| first
  | exact small_sz (by simp only [List.length_cons, List.length_nil, List.length_append, List.length_map, List.length_range, List.length_set, List.length_replicate]; omega))
local macro_rules | `(tactic| walk_at "cc") => `(tactic| first
  | (show (0 : Int) < _; first | decide | omega)
  | exact Or.inl ⟨by omega, by omega⟩
  | exact Or.inr ⟨by omega, by omega⟩
  | exact ⟨by decide, by decide, by decide⟩
  | exact ⟨by decide, by decide⟩)
local macro_rules | `(tactic| walk_at "st") => `(tactic| first
  | with_reducible refine w_seq ?_
  | with_reducible refine w_asg ?_
  | ((with_reducible refine' w_var ?k1 ?_); (case k1 => k_dflt rfl))
  | with_reducible refine w_c ?_
  | with_reducible refine w_op ?_
  | with_reducible refine w_cons ?_
  | with_reducible refine w_nil ?_
  | with_reducible refine w_gname ?_
  | with_reducible refine w_I0 ?_
  | with_reducible refine w_fld ?_
  | ((with_reducible refine' w_ins ?k1 ?k2 ?k3 ?k4 ?k5 ?_); (case k1 => assumption); (case k2 => walk_at "sq"); (case k3 => assumption); (case k4 => assumption); (case k5 => walk_at "lk"))
  | ((with_reducible refine' w_ixT ?k1 ?k2 ?k3 ?_); (case k1 => assumption); (case k2 => walk_at "sq"); (case k3 => walk_at "ai"))
  | ((with_reducible refine' w_ixL ?k1 ?k2 ?k3 ?_); (case k1 => assumption); (case k2 => walk_at "sq"); (case k3 => walk_at "ai"))
  | ((with_reducible refine' w_ixM ?k1 ?k2 ?k3 ?_); (case k1 => assumption); (case k2 => walk_at "fo"); (case k3 => walk_at "ai"))
  | with_reducible refine w_cb ?_
  | with_reducible refine w_test ?_
  | with_reducible refine w_if ?_
  | with_reducible refine w_B ?_
  | with_reducible refine w_not ?_
  | with_reducible refine w_and ?_
  | with_reducible refine w_or ?_
  | with_reducible refine w_eqI ?_
  | with_reducible refine w_neI ?_
  | with_reducible refine w_isN ?_
  | with_reducible refine w_notN ?_
  | with_reducible refine w_isB ?_
  | with_reducible refine w_bl ?_
  | with_reducible refine w_ret ?_
  | with_reducible refine w_next ?_
  | with_reducible refine w_brk ?_
  | with_reducible refine w_drop ?_
  | with_reducible refine w_call ?_
  | with_reducible refine w_un ?_
  | with_reducible refine w_U ?_
  | with_reducible refine w_andV ?_
  | with_reducible refine w_orV ?_
  | with_reducible refine w_notV ?_
  | with_reducible refine w_ifE ?_
  | with_reducible refine w_chain ?_
  | with_reducible refine w_gsub ?_
  | with_reducible refine w_gnil ?_
  | with_reducible refine w_gcons ?_
  | with_reducible refine w_ipI ?_
  | with_reducible refine w_fldS ?_
  | with_reducible refine w_tru ?_
  | with_reducible refine w_abs ?_
  | with_reducible refine w_maxB ?_
  | with_reducible refine w_minB ?_
  | with_reducible refine w_int ?_
  | with_reducible refine w_tupE ?_
  | with_reducible refine w_lstE ?_
  | with_reducible refine w_bm ?_
  | with_reducible refine w_bm0 ?_
  | with_reducible refine w_mth ?_
  | with_reducible refine w_for0 ?_
  | with_reducible refine w_lc0 ?_
  | with_reducible refine w_il ?_
  | with_reducible refine w_it ?_
  | with_reducible refine w_is ?_
  | with_reducible refine w_ie ?_
  | with_reducible refine w_ir1 ?_
  | with_reducible refine w_ir2 ?_
  | with_reducible refine w_irv ?_
  | with_reducible refine w_rg1 ?_
  | with_reducible refine w_rg1v ?_
  | with_reducible refine w_lrg ?_
  | with_reducible refine w_make ?_
  | with_reducible refine w_yes ?_
  | with_reducible refine w_ost ?_
  | with_reducible refine w_mkoE ?_
  | with_reducible refine w_is_int_int ?_
  | with_reducible refine w_is_int_bool ?_
  | with_reducible refine w_is_int_str ?_
  | with_reducible refine w_is_int_tuple ?_
  | with_reducible refine w_is_bl_int ?_
  | with_reducible refine w_is_bl_bool ?_
  | with_reducible refine w_is_bl_str ?_
  | with_reducible refine w_is_bl_tuple ?_
  | with_reducible refine w_is_non_int ?_
  | with_reducible refine w_is_non_bool ?_
  | with_reducible refine w_is_non_str ?_
  | with_reducible refine w_is_non_tuple ?_
  | with_reducible refine w_is_str_int ?_
  | with_reducible refine w_is_str_bool ?_
  | with_reducible refine w_is_str_str ?_
  | with_reducible refine w_is_str_tuple ?_
  | ((with_reducible refine' w_insM ?k1 ?k2 ?k3 ?k4 ?k5 ?_); (case k1 => assumption); (case k2 => walk_at "fo"); (case k3 => assumption); (case k4 => assumption); (case k5 => walk_at "lk"))
  | ((with_reducible refine' w_ixE ?k1 ?k2 ?k3 ?_); (case k1 => assumption); (case k2 => walk_at "sq"); (case k3 => walk_at "ai"))
  | ((with_reducible refine' w_len ?k1 ?k2 ?_); (case k1 => assumption); (case k2 => walk_at "sq"))
  | ((with_reducible refine' w_lenM ?k1 ?k2 ?_); (case k1 => assumption); (case k2 => walk_at "fo"))
  | ((with_reducible refine' w_I ?k1 ?_); (case k1 => walk_at "cc"))
  | ((with_reducible refine' w_gtup ?k1 ?k2 ?_); (case k1 => refine' Mem.sqt ?m0 ?h0; (case m0 => assumption); (case h0 => walk_at "sq")); (case k2 => k_dflt rfl))
  | ((with_reducible refine' w_aug ?k1 ?_); (case k1 => k_dflt rfl))
  | ((with_reducible refine' w_truM ?k1 ?k2 ?_); (case k1 => assumption); (case k2 => walk_at "fo"))
  | ((with_reducible refine' w_truL ?k1 ?k2 ?_); (case k1 => assumption); (case k2 => walk_at "sq"))
  | ((with_reducible refine' w_tyL ?k1 ?k2 ?_); (case k1 => assumption); (case k2 => walk_at "fo"))
  | ((with_reducible refine' w_mthI ?k1 ?k2 ?k3 ?_); (case k1 => assumption); (case k2 => walk_at "sq"); (case k3 => walk_at "lk"))
  | ((with_reducible refine' w_sumM ?k1 ?k2 ?_); (case k1 => assumption); (case k2 => walk_at "fo"))
  | ((with_reducible refine' w_eqDN ?k1 ?k2 ?k3 ?_); (case k1 => assumption); (case k2 => walk_at "sq"); (case k3 => walk_at "sq"))
  | ((with_reducible refine' w_is_tup_int ?k1 ?k2 ?_); (case k1 => assumption); (case k2 => walk_at "sq"))
  | ((with_reducible refine' w_is_tup_bool ?k1 ?k2 ?_); (case k1 => assumption); (case k2 => walk_at "sq"))
  | ((with_reducible refine' w_is_tup_str ?k1 ?k2 ?_); (case k1 => assumption); (case k2 => walk_at "sq"))
  | ((with_reducible refine' w_is_tup_tuple ?k1 ?k2 ?_); (case k1 => assumption); (case k2 => walk_at "sq"))
  | dsimp only)
local macro_rules | `(tactic| walk_at "go") => `(tactic| repeat (walk_at "st"))
section
variable {P : Program} {w : World} {K : PySem.W.Frag} {mg : Str → Option Value} {base : Heap} {C : Ad}
theorem w_sortedI {I H : Hp} {M : Mu} {a : Addr} {ns : List Int} {Q : VK} (hm : Mem I M H) (h : SqL K I a (ns.map V.int)) (q : ∀ (ns' : List Int) p N H', ns'.Perm ns → ns'.Pairwise (· ≤ ·) → Same I N → N p = some (.lst (ns'.map V.int)) → Mem N M H' → Q (.ref p) H') : rSortedI K [.ref a] H Q :=
  ⟨a, ns, rfl, hm.sql h, fun ns' p h1 h2 hp => q ns' p _ _ h1 h2 (Same.new (hm.free hp)) upd_same (hm.imm hp)⟩
theorem nv_ints (l : List Nat) : nv l = (l.map fun (x : Nat) => (x : Int)).map V.int := by
  rw [nv, List.map_map]
  rfl
abbrev N_part_of : List Str := ["chart", "place", "found", "other"]
abbrev P_part_of : List Str := ["chart", "place"]
theorem sc_part_of : FnScope N_part_of P_part_of (defScope S_part_of) := ⟨rfl, rfl, rfl, by decide +kernel, rfl, by decide +kernel, by decide +kernel⟩
-- slots: 0 chart (cell), 1 place (cell), 2 found, 3 other
def spPart (K : PySem.W.Frag) (C : Ad) : Sp := spN fun vs I R => ∃ (a : Addr) (c : Ch) (p : Nat), vs = [.ref a, .int (p : Int)] ∧ ChAt K C I a c ∧ c.Ok ∧ p < c.cs.length ∧
  R = fun v N => (c.rch p p = false ∧ v = .non) ∨ (c.rch p p = true ∧ ∃ t, v = .ref t ∧ TupN K N t (c.part p))
theorem ok_part_of {f : Addr} {fd : FuncData} (F : FnP K "part_of" "part_of" S_part_of f fd) (T : Txt K mg C) (G_check_place : FnAt P w K mg base "check_place" 2 P_check_place (spChkPlace K C)) (G_behind_places : FnAt P w K mg base "behind_places" 4 P_behind_places (spBehind K C)) : FnOk P w K mg base CX0 5 f fd P_part_of (spPart K C) := by
  have nd := sc_part_of.nd
  refine F.ok sc_part_of (fun vs H Q E h => ?_) (fun cdv A outer s H vs Q E hr h => ?_)
  · obtain ⟨I, M, v, ⟨a, c, p, rfl, _⟩, _⟩ := h
    rfl
  obtain ⟨I, M, R, ⟨a, c, p, rfl, hc, ok, hp, rfl⟩, hm, k⟩ := h
  have hc2 := hc
  refine ⟨_, PSs.nox (pss_cons (ps_expr (pe_fn G_check_place (hr.mono (by decide)) (pa_cons (pv 0) (pa_cons (pv 1) pa_nil))))
    (pss_cons (ps_set (i := 2) nd rfl (Or.inl rfl) (pe_fn G_behind_places (hr.mono (by decide)) (pa_cons (pv 0) (pa_cons (pv 1) pa_nil))))
    (pss_cons (ps_if (pt_cmpR op_notIn_seq (pv 1) (pv 2) (by rfl))
      (pss_one (ps_ret pe_non))
      pss_nil)
    (pss_one (ps_ret (pe_callTy cl_tuple (by rfl) T.b_tuple PyProof.Rows.boot_tuple (pa_cons (pe_lc (own := [("other", 3)]) (g := (gName 3)) (tt := (tTest (tOp (rIn K false) (tVar 1) (tCall (spBehind K C) [] E0 (tCons (tVar 0) (tCons (tVar 3) tNil)))))) (te := (tVar 3)) rfl nd (pi_list (pe_callB cr_sortedI (by rfl) T.b_sorted PyProof.Rows.boot_sorted (pa_cons (pv 2) pa_nil))) (blkOk_by (N := N_part_of) (sc := defScope S_part_of) (by decide +kernel)) (fun _ _ _ _ _ => (pg_name (i := 3) nd rfl (Or.inl rfl))) (fun _ _ _ _ _ => (pts_one (pt_cmpR op_in_seq (pv 1) (pe_fn G_behind_places (hr.mono (by decide)) (pa_cons (pv 0) (pa_cons (pv 3) pa_nil))) (by rfl)))) (fun _ _ _ _ _ => (pv 3))) pa_nil))))))), ?_⟩
  try dsimp only [cxOf, Cx.nox, Cx.wish]
  walk_at "go"
  refine w_spV hm ⟨_, _, _, rfl, hc2, hp, rfl⟩ fun H1 hm1 => ?_
  walk_at "go"
  refine w_spN hm1 ⟨_, _, _, rfl, hc2, ok, hp, rfl⟩ fun v N H2 eN hm2 hR => ?_
  obtain ⟨t, l, rfl, hl, nl, ml⟩ := hR
  walk_at "go"
  refine w_in hm2 (.inl hl) rfl (flat_nats _) ?_
  rw [inV_nats]
  walk_at "go"
  refine w_iteNB (fun hb => ?_) fun hb => ?_
  · walk_at "go"
    have : c.rch p p = false := Ch.rch_no.mpr fun z => of_decide_eq_false hb ((ml p).mpr z)
    exact k _ _ _ eN hm2 (.inl ⟨this, rfl⟩)
  · have hpp : c.rch p p = true := Ch.rch_iff.mpr ((ml p).mp (of_decide_eq_true hb))
    walk_at "go"
    have hl : SqL K N t (nv l) := hl
    rw [nv_ints] at hl
    refine w_sortedI hm2 hl fun ns' q N3 H3 hpm hsr eN3 hq hm3 => ?_
    obtain ⟨l', rfl, hlt, hml⟩ := sorted_nats hpm hsr nl
    rw [← nv_ints] at hq
    walk_at "go"
    refine w_ill hm3 (SqL.of hq) fun J wk => ?_
    refine w_lcA wk hm3 (fun i => .int ((l'.getD i 0 : Nat) : Int)) (fun i => c.rch (l'.getD i 0) p) ?_ (fun i x D acc H' Yes No hi hx hm' hyes hno => ?_) fun D H' hm' => ?_
    · rw [List.length_map]
      have : l'.length ≤ c.cs.length := nodup_len _ _ (hlt.imp fun h => Nat.ne_of_lt h) fun x hx => ((ml x).mp ((hml x).mp hx)).lt ok
      have := ok.n16
      omega
    · obtain ⟨z, hz, rfl⟩ := nv_get hx
      have ez : l'.getD i 0 = z := by rw [List.getD_eq_getElem?_getD, hz]; rfl
      rw [ez] at hyes hno
      have hzl : z < c.cs.length := ((ml z).mp ((hml z).mp (List.mem_of_getElem? hz))).lt ok
      walk_at "go"
      refine ⟨rfl, ?_⟩
      walk_at "go"
      refine w_spN hm' ⟨_, _, _, rfl, hc2.mono (eN.trans eN3), ok, hzl, rfl⟩ fun v N4 H4 eN4 hm4 hR => ?_
      obtain ⟨t4, l4, rfl, hl4, nl4, ml4⟩ := hR
      walk_at "go"
      refine w_in hm4 (.inl hl4) rfl (flat_nats _) ?_
      rw [inV_nats]
      walk_at "go"
      refine w_iteB (fun hb => ?_) fun hb => ?_
      · walk_at "go"
        exact hyes (Ch.rch_iff.mpr ((ml4 p).mp (of_decide_eq_true hb))) _ (hm4.back eN4)
      · exact hno (Ch.rch_no.mpr fun y => of_decide_eq_false hb ((ml4 p).mpr y)) _ (hm4.back eN4)
    · walk_at "go"
      refine w_tupOfM hm' foc0 fun u N5 H5 eN5 hu hm5 => ?_
      refine k _ _ _ (eN.trans (eN3.trans eN5)) hm5.drop (.inr ⟨hpp, u, rfl, ?_⟩)
      have e : ((List.range (nv l').length).filter fun i => c.rch (l'.getD i 0) p).map (fun i => V.int ((l'.getD i 0 : Nat) : Int)) = nv (c.part p) := by
        rw [List.length_map, range_filter_map l' (fun x => c.rch x p) (fun (x : Nat) => V.int (x : Int))]
        refine congrArg nv (lt_ext (hlt.filter _) ((range_lt _).filter _) fun x => ?_)
        rw [List.mem_filter, hml, ml, Ch.rch_iff]
        exact (Ch.mem_part ok).symm
      rw [e] at hu
      exact hu
abbrev N_within_part : List Str := ["chart", "arrow", "tail", "head"]
abbrev P_within_part : List Str := ["chart", "arrow"]
theorem sc_within_part : FnScope N_within_part P_within_part (defScope S_within_part) := ⟨rfl, rfl, rfl, by decide +kernel, rfl, by decide +kernel, by decide +kernel⟩
-- slots: 0 chart, 1 arrow, 2 tail, 3 head
def spWithin (K : PySem.W.Frag) (C : Ad) : Sp := spV fun vs I v => ∃ (a : Addr) (c : Ch) (j : Nat), vs = [.ref a, .int (j : Int)] ∧ ChAt K C I a c ∧ c.Ok ∧ j < c.ar.length ∧ v = .bl (c.rch (c.hd j) (c.tl j))
theorem ok_within_part {f : Addr} {fd : FuncData} (F : FnP K "within_part" "within_part" S_within_part f fd) (T : Txt K mg C) (G_check_arrow : FnAt P w K mg base "check_arrow" 2 P_check_arrow (spChkArrow K C)) (G_behind_places : FnAt P w K mg base "behind_places" 4 P_behind_places (spBehind K C)) : FnOk P w K mg base CX0 5 f fd P_within_part (spWithin K C) := by
  have nd := sc_within_part.nd
  refine F.ok sc_within_part (fun vs H Q E h => ?_) (fun cdv A outer s H vs Q E hr h => ?_)
  · obtain ⟨I, M, v, ⟨a, c, p, rfl, _⟩, _⟩ := h
    rfl
  obtain ⟨I, M, R, ⟨a, c, j, rfl, hc, ok, hj, rfl⟩, hm, k⟩ := h
  have hc2 := hc
  obtain ⟨dx, q, r, as, h1, h2, h3, h4⟩ := hc
  have n1 := T.n_arrows
  have n2 := T.clCh
  have j2 : j < as.length := by rw [h4.1]; exact hj
  have j3 := h4.2 j hj
  refine ⟨_, PSs.nox (pss_cons (ps_expr (pe_fn G_check_arrow (hr.mono (by decide)) (pa_cons (pv 0) (pa_cons (pv 1) pa_nil))))
    (pss_cons (ps_asg (pe_ix ix_tup (pe_fld (pv 0) rfl) (pv 1) (fun _ _ => rfl)) (pg_tup rfl (pgs_cons (pg_name (i := 2) nd rfl (Or.inl rfl)) (pgs_cons (pg_name (i := 3) nd rfl (Or.inl rfl)) pgs_nil))))
    (pss_one (ps_ret (pe_or (pe_cmpR op_in_seq (pv 2) (pe_fn G_behind_places (hr.mono (by decide)) (pa_cons (pv 0) (pa_cons (pv 3) pa_nil))) (by rfl)) (pe_one (pe_cmpR op_eq (pv 2) (pv 3) (nomark _)))))))), ?_⟩
  try dsimp only [cxOf, Cx.nox, Cx.wish]
  walk_at "go"
  refine w_spV hm ⟨_, _, _, rfl, hc2, hj, rfl⟩ fun H1 hm1 => ?_
  walk_at "go"
  have e1 : (c.ar.getD j (0, 0)).1 = c.tl j := rfl
  have e2 : (c.ar.getD j (0, 0)).2 = c.hd j := rfl
  rw [e1, e2]
  refine w_spN hm1 ⟨_, _, _, rfl, hc2, ok, ok.hd j hj, rfl⟩ fun v N H2 eN hm2 hR => ?_
  obtain ⟨t, l, rfl, hl, nl, ml⟩ := hR
  walk_at "go"
  refine w_in hm2 (.inl hl) rfl (flat_nats _) ?_
  rw [inV_nats]
  walk_at "go"
  refine w_iteB (fun hb => ?_) fun hb => ?_
  · have := Ch.rch_iff.mpr ((ml _).mp (of_decide_eq_true hb))
    rw [this] at k
    exact k _ (hm2.back eN)
  · walk_at "go"
    have : ¬ c.Reach (c.hd j) (c.tl j) := fun y => of_decide_eq_false hb ((ml _).mpr y)
    have e3 : decide (((c.tl j : Nat) : Int) = ((c.hd j : Nat) : Int)) = c.rch (c.hd j) (c.tl j) := by
      rw [Ch.rch_no.mpr this]
      refine decide_eq_false fun z => this ?_
      have z2 : c.tl j = c.hd j := by omega
      have := Ch.Reach.one hj
      rw [z2] at this ⊢
      exact this
    rw [e3]
    exact k _ (hm2.back eN)
end

end Pa

set_option Elab.async false
set_option linter.all false
set_option maxRecDepth 100000
set_option maxHeartbeats 4000000
namespace Pa
open PySem L2
local macro_rules | `(tactic| walk_at "lt") => `(tactic| first
  | assumption
  | omega
  | (simp only [List.length_map, List.length_range, List.length_cons, List.length_nil, List.length_append, List.length_replicate] at *; omega))
local macro_rules | `(tactic| walk_at "fo") => `(tactic| first | exact foc0 | (refine' focS ?k1; (case k1 => walk_at "fo")))
local macro_rules | `(tactic| walk_at "sq") => `(tactic| first
  | assumption
  | (refine' SqL.of ?k1; (case k1 => assumption))
  | (refine' SqT.of ?k1; (case k1 => assumption))
  | (refine' Or.inl ?k1; (case k1 => walk_at "sq"))
  | (refine' Or.inr ?k1; (case k1 => walk_at "sq"))
  | (refine' Same.seq ?k1 ?k2; (case k1 => assumption); (case k2 => walk_at "sq"))
  | (refine' Same.sqt ?k1 ?k2; (case k1 => assumption); (case k2 => walk_at "sq"))
  | (refine' Same.sqe ?k1 ?k2; (case k1 => assumption); (case k2 => walk_at "sq"))
  | (refine' same_at ?k1 ?k2; (case k1 => assumption); (case k2 => walk_at "sq")))
local macro_rules | `(tactic| walk_at "ai") => `(tactic| first
  | assumption
  | (refine' ati_ints ?k1; (case k1 => walk_at "lt"))
  | (refine' ati_refs ?k1; (case k1 => walk_at "lt"))
  | (refine' ati_nat ?k1; (case k1 => assumption))
  | k_dflt rfl)
local macro_rules | `(tactic| walk_at "lk") => `(tactic| first
  | assumption
  | exact lk_hd
  | (refine' lk_tl ?k1 ?k2; (case k1 => decide +kernel); (case k2 => walk_at "lk"))
  | exact lk_nil)
local macro_rules | `(tactic| walk_at "sz") => `(tactic| first
  | exact small_sz (by simp only [List.length_cons, List.length_nil, List.length_append, List.length_map, List.length_range, List.length_set, List.length_replicate]; omega))
local macro_rules | `(tactic| walk_at "cc") => `(tactic| first
  | (show (0 : Int) < _; first | decide | omega)
  | exact Or.inl ⟨by omega, by omega⟩
  | exact Or.inr ⟨by omega, by omega⟩
  | exact ⟨by decide, by decide, by decide⟩
  | exact ⟨by decide, by decide⟩)
local macro_rules | `(tactic| walk_at "st") => `(tactic| first
  | with_reducible refine w_seq ?_
  | with_reducible refine w_asg ?_
  | ((with_reducible refine' w_var ?k1 ?_); (case k1 => k_dflt rfl))
  | with_reducible refine w_c ?_
  | with_reducible refine w_op ?_
  | with_reducible refine w_cons ?_
  | with_reducible refine w_nil ?_
  | with_reducible refine w_gname ?_
  | with_reducible refine w_I0 ?_
  | with_reducible refine w_fld ?_
  | ((with_reducible refine' w_ins ?k1 ?k2 ?k3 ?k4 ?k5 ?_); (case k1 => assumption); (case k2 => walk_at "sq"); (case k3 => assumption); (case k4 => assumption); (case k5 => walk_at "lk"))
  | ((with_reducible refine' w_ixT ?k1 ?k2 ?k3 ?_); (case k1 => assumption); (case k2 => walk_at "sq"); (case k3 => walk_at "ai"))
  | ((with_reducible refine' w_ixL ?k1 ?k2 ?k3 ?_); (case k1 => assumption); (case k2 => walk_at "sq"); (case k3 => walk_at "ai"))
  | ((with_reducible refine' w_ixM ?k1 ?k2 ?k3 ?_); (case k1 => assumption); (case k2 => walk_at "fo"); (case k3 => walk_at "ai"))
  | with_reducible refine w_cb ?_
  | with_reducible refine w_test ?_
  | with_reducible refine w_if ?_
  | with_reducible refine w_B ?_
  | with_reducible refine w_not ?_
  | with_reducible refine w_and ?_
  | with_reducible refine w_or ?_
  | with_reducible refine w_eqI ?_
  | with_reducible refine w_neI ?_
  | with_reducible refine w_isN ?_
  | with_reducible refine w_notN ?_
  | with_reducible refine w_isB ?_
  | with_reducible refine w_bl ?_
  | with_reducible refine w_ret ?_
  | with_reducible refine w_next ?_
  | with_reducible refine w_brk ?_
  | with_reducible refine w_drop ?_
  | with_reducible refine w_call ?_
  | with_reducible refine w_un ?_
  | with_reducible refine w_U ?_
  | with_reducible refine w_andV ?_
  | with_reducible refine w_orV ?_
  | with_reducible refine w_notV ?_
  | with_reducible refine w_ifE ?_
  | with_reducible refine w_chain ?_
  | with_reducible refine w_gsub ?_
  | with_reducible refine w_gnil ?_
  | with_reducible refine w_gcons ?_
  | with_reducible refine w_ipI ?_
  | with_reducible refine w_fldS ?_
  | with_reducible refine w_tru ?_
  | with_reducible refine w_abs ?_
  | with_reducible refine w_maxB ?_
  | with_reducible refine w_minB ?_
  | with_reducible refine w_int ?_
  | with_reducible refine w_tupE ?_
  | with_reducible refine w_lstE ?_
  | with_reducible refine w_bm ?_
  | with_reducible refine w_bm0 ?_
  | with_reducible refine w_mth ?_
  | with_reducible refine w_for0 ?_
  | with_reducible refine w_lc0 ?_
  | with_reducible refine w_il ?_
  | with_reducible refine w_it ?_
  | with_reducible refine w_is ?_
  | with_reducible refine w_ie ?_
  | with_reducible refine w_ir1 ?_
  | with_reducible refine w_ir2 ?_
  | with_reducible refine w_irv ?_
  | with_reducible refine w_rg1 ?_
  | with_reducible refine w_rg1v ?_
  | with_reducible refine w_lrg ?_
  | with_reducible refine w_make ?_
  | with_reducible refine w_yes ?_
  | with_reducible refine w_ost ?_
  | with_reducible refine w_mkoE ?_
  | with_reducible refine w_is_int_int ?_
  | with_reducible refine w_is_int_bool ?_
  | with_reducible refine w_is_int_str ?_
  | with_reducible refine w_is_int_tuple ?_
  | with_reducible refine w_is_bl_int ?_
  | with_reducible refine w_is_bl_bool ?_
  | with_reducible refine w_is_bl_str ?_
  | with_reducible refine w_is_bl_tuple ?_
  | with_reducible refine w_is_non_int ?_
  | with_reducible refine w_is_non_bool ?_
  | with_reducible refine w_is_non_str ?_
  | with_reducible refine w_is_non_tuple ?_
  | with_reducible refine w_is_str_int ?_
  | with_reducible refine w_is_str_bool ?_
  | with_reducible refine w_is_str_str ?_
  | with_reducible refine w_is_str_tuple ?_
  | ((with_reducible refine' w_insM ?k1 ?k2 ?k3 ?k4 ?k5 ?_); (case k1 => assumption); (case k2 => walk_at "fo"); (case k3 => assumption); (case k4 => assumption); (case k5 => walk_at "lk"))
  | ((with_reducible refine' w_ixE ?k1 ?k2 ?k3 ?_); (case k1 => assumption); (case k2 => walk_at "sq"); (case k3 => walk_at "ai"))
  | ((with_reducible refine' w_len ?k1 ?k2 ?_); (case k1 => assumption); (case k2 => walk_at "sq"))
  | ((with_reducible refine' w_lenM ?k1 ?k2 ?_); (case k1 => assumption); (case k2 => walk_at "fo"))
  | ((with_reducible refine' w_I ?k1 ?_); (case k1 => walk_at "cc"))
  | ((with_reducible refine' w_gtup ?k1 ?k2 ?_); (case k1 => refine' Mem.sqt ?m0 ?h0; (case m0 => assumption); (case h0 => walk_at "sq")); (case k2 => k_dflt rfl))
  | ((with_reducible refine' w_aug ?k1 ?_); (case k1 => k_dflt rfl))
  | ((with_reducible refine' w_truM ?k1 ?k2 ?_); (case k1 => assumption); (case k2 => walk_at "fo"))
  | ((with_reducible refine' w_truL ?k1 ?k2 ?_); (case k1 => assumption); (case k2 => walk_at "sq"))
  | ((with_reducible refine' w_tyL ?k1 ?k2 ?_); (case k1 => assumption); (case k2 => walk_at "fo"))
  | ((with_reducible refine' w_mthI ?k1 ?k2 ?k3 ?_); (case k1 => assumption); (case k2 => walk_at "sq"); (case k3 => walk_at "lk"))
  | ((with_reducible refine' w_sumM ?k1 ?k2 ?_); (case k1 => assumption); (case k2 => walk_at "fo"))
  | ((with_reducible refine' w_eqDN ?k1 ?k2 ?k3 ?_); (case k1 => assumption); (case k2 => walk_at "sq"); (case k3 => walk_at "sq"))
  | ((with_reducible refine' w_is_tup_int ?k1 ?k2 ?_); (case k1 => assumption); (case k2 => walk_at "sq"))
  | ((with_reducible refine' w_is_tup_bool ?k1 ?k2 ?_); (case k1 => assumption); (case k2 => walk_at "sq"))
  | ((with_reducible refine' w_is_tup_str ?k1 ?k2 ?_); (case k1 => assumption); (case k2 => walk_at "sq"))
  | ((with_reducible refine' w_is_tup_tuple ?k1 ?k2 ?_); (case k1 => assumption); (case k2 => walk_at "sq"))
  | dsimp only)
local macro_rules | `(tactic| walk_at "go") => `(tactic| repeat (walk_at "st"))
/-- addresses, one for each item of a list -/
def AllAt {α : Type} (R : Addr → α → Prop) (ts : List Addr) (ls : List α) : Prop := ts.length = ls.length ∧ ∀ (j : Nat) t l, ts[j]? = some t → ls[j]? = some l → R t l
theorem AllAt.nil {α : Type} {R : Addr → α → Prop} : AllAt R [] ([] : List α) := ⟨rfl, fun j t l h => by simp at h⟩
theorem AllAt.snoc {α : Type} {R : Addr → α → Prop} {ts : List Addr} {ls : List α} {t : Addr} {l : α} (h : AllAt R ts ls) (r : R t l) : AllAt R (ts ++ [t]) (ls ++ [l]) := by
  refine ⟨by rw [List.length_append, List.length_append, h.1]; rfl, fun j u x h1 h2 => ?_⟩
  by_cases hj : j < ts.length
  · rw [List.getElem?_append_left hj] at h1
    rw [List.getElem?_append_left (by rw [← h.1]; exact hj)] at h2
    exact h.2 j u x h1 h2
  · have e : j = ts.length := by
      have := (List.getElem?_eq_some_iff.mp h1).1
      rw [List.length_append, List.length_singleton] at this
      omega
    subst e
    rw [List.getElem?_append_right (Nat.le_refl _), Nat.sub_self] at h1
    rw [List.getElem?_append_right (by rw [h.1]; exact Nat.le_refl _), h.1, Nat.sub_self] at h2
    rw [← Option.some.inj h1, ← Option.some.inj h2]
    exact r
theorem AllAt.mono {α : Type} {R R' : Addr → α → Prop} {ts : List Addr} {ls : List α} (h : AllAt R ts ls) (m : ∀ t l, R t l → R' t l) : AllAt R' ts ls := ⟨h.1, fun j t l h1 h2 => m t l (h.2 j t l h1 h2)⟩
theorem refs_get {ts : List Addr} {i : Nat} {v : V} (h : (ts.map V.ref)[i]? = some v) : ∃ t, ts[i]? = some t ∧ v = .ref t := by
  rw [List.getElem?_map] at h
  cases e : ts[i]? with
  | none =>
    rw [e] at h
    cases h
  | some x =>
    rw [e] at h
    exact ⟨x, rfl, (Option.some.inj h).symm⟩
theorem AllAt.get {α : Type} {R : Addr → α → Prop} {ts : List Addr} {ls : List α} (h : AllAt R ts ls) {j : Nat} {t : Addr} (ht : ts[j]? = some t) : ∃ l, ls[j]? = some l ∧ R t l := by
  have hj : j < ls.length := by rw [← h.1]; exact (List.getElem?_eq_some_iff.mp ht).1
  exact ⟨ls[j], List.getElem?_eq_getElem hj, h.2 j t _ ht (List.getElem?_eq_getElem hj)⟩
section
variable {P : Program} {w : World} {K : PySem.W.Frag} {mg : Str → Option Value} {base : Heap} {C : Ad}
abbrev N_parts_of : List Str := ["chart", "found", "place", "part"]
abbrev P_parts_of : List Str := ["chart"]
theorem sc_parts_of : FnScope N_parts_of P_parts_of (defScope S_parts_of) := ⟨rfl, rfl, rfl, by decide +kernel, rfl, by decide +kernel, by decide +kernel⟩
-- slots: 0 chart, 1 found, 2 place, 3 part
def spParts (K : PySem.W.Frag) (C : Ad) : Sp := spN fun vs I R => ∃ (a : Addr) (c : Ch), vs = [.ref a] ∧ ChAt K C I a c ∧ c.Ok ∧
  R = fun v N => ∃ t ts, v = .ref t ∧ SqT K N t (ts.map V.ref) ∧ AllAt (fun t p => TupN K N t (c.part p)) ts (c.leads c.cs.length)
theorem ok_parts_of {f : Addr} {fd : FuncData} (F : FnP K "parts_of" "parts_of" S_parts_of f fd) (T : Txt K mg C) (G_part_of : FnAt P w K mg base "part_of" 5 P_part_of (spPart K C)) : FnOk P w K mg base CX0 6 f fd P_parts_of (spParts K C) := by
  have nd := sc_parts_of.nd
  refine F.ok sc_parts_of (fun vs H Q E h => ?_) (fun cdv A outer s H vs Q E hr h => ?_)
  · obtain ⟨I, M, v, ⟨a, c, rfl, _⟩, _⟩ := h
    rfl
  obtain ⟨I, M, R, ⟨a, c, rfl, hc, ok, rfl⟩, hm, k⟩ := h
  have hc2 := hc
  obtain ⟨dx, q, r, as, h1, h2, h3, h4⟩ := hc
  have n1 := T.n_costs
  have n2 := T.clCh
  refine ⟨_, PSs.nox (pss_cons (ps_set (i := 1) nd rfl (Or.inl rfl) (pe_lst pa_nil))
    (pss_cons (ps_for PassesOwn.never rfl (pi_range1 rfl T.b_range (pa_cons (pe_callB cl_len (by rfl) T.b_len PySem.boot_len (pa_cons (pe_fld (pv 0) rfl) pa_nil)) pa_nil)) (pg_name (i := 2) nd rfl (Or.inl rfl))
      (pss_cons (ps_set (i := 3) nd rfl (Or.inl rfl) (pe_fn G_part_of (hr.mono (by decide)) (pa_cons (pv 0) (pa_cons (pv 2) pa_nil))))
      (pss_one (ps_if (PW.pt (pw_and (pt_cmpR op_notN1 (pv 3) pe_non (nomark _)) (pw_and1 (pt_cmpR op_eq (pe_ix ix_tup (pv 3) pe_int (fun _ _ => rfl)) (pv 2) (nomark _)))))
        (pss_one (ps_expr (pe_bm PySem.F.plainAttrs_list PySem.F.slot_list_append PySem.F.type_list_append mt_append (pv 1) (pa_cons (pv 3) pa_nil))))
        pss_nil))))
    (pss_one (ps_ret (pe_callTy cl_tuple (by rfl) T.b_tuple PyProof.Rows.boot_tuple (pa_cons (pv 1) pa_nil)))))), ?_⟩
  try dsimp only [cxOf, Cx.nox, Cx.wish]
  walk_at "go"
  refine w_lst hm (by walk_at "sz") fun lf H1 hm1 => ?_
  walk_at "go"
  rw [List.length_map]
  refine w_irr1 (by have := ok.n16; omega) fun J wk => ?_
  refine w_forZ wk hm1 (fun i σ N M' => ∃ ts pl pt, σ = [some (.ref a), some (.ref lf), pl, pt] ∧ M' = (lf, .lst (ts.map V.ref)) :: M ∧ AllAt (fun t p => TupN K N t (c.part p)) ts (c.leads i))
    ⟨[], none, none, rfl, rfl, AllAt.nil⟩ ?_ ?_
  · rintro i _ N _ H2 hi eN ⟨ts, pl, pt, rfl, rfl, hts⟩ hm2
    have llen : ts.length ≤ i := by
      rw [hts.1]
      unfold Ch.leads
      have := List.length_filter_le (fun p => c.rch p p && decide ((c.part p).getD 0 0 = p)) (List.range i)
      rw [List.length_range] at this
      exact this
    have := ok.n16
    walk_at "go"
    refine w_spN hm2 ⟨_, _, _, rfl, hc2.mono eN, ok, hi, rfl⟩ fun v N2 H3 eN2 hm3 hR => ?_
    rcases hR with ⟨hb, rfl⟩ | ⟨hb, t, rfl, ht⟩
    · walk_at "go"
      refine w_iteN (fun h => absurd rfl h) fun _ => ?_
      refine iteF ?_
      walk_at "go"
      refine ⟨_, _, eN.trans eN2, ⟨ts, _, _, rfl, rfl, ?_⟩, hm3⟩
      rw [Ch.leads_succ, if_neg (by rw [hb]; simp)]
      exact hts.mono fun t p h => Same.sqt eN2 h
    · walk_at "go"
      refine w_iteN (fun _ => ?_) fun h => by cases h
      have hin : i ∈ c.part i := (Ch.mem_part ok).mpr ⟨Ch.rch_iff.mp hb, Ch.rch_iff.mp hb⟩
      have hpl : 0 < (c.part i).length := List.length_pos_of_mem hin
      walk_at "go"
      refine w_ixT hm3 ht (ati_nats (k := 0) hpl) ?_
      walk_at "go"
      refine w_ite (fun h => ?_) fun h => ?_
      · have h : (((c.part i).getD 0 0 : Nat) : Int) = (i : Int) := h
        walk_at "go"
        refine w_app hm3 foc0 (small_sl (by rw [List.length_map]; omega)) fun H4 hm4 => ?_
        walk_at "go"
        refine ⟨_, _, eN.trans eN2, ⟨ts ++ [t], _, _, rfl, by rw [List.map_append]; rfl, ?_⟩, hm4⟩
        rw [Ch.leads_succ, if_pos (by rw [hb, Bool.true_and]; exact decide_eq_true (by omega))]
        exact (hts.mono fun t p h => Same.sqt eN2 h).snoc ht
      · have h : ¬ (((c.part i).getD 0 0 : Nat) : Int) = (i : Int) := h
        walk_at "go"
        refine ⟨_, _, eN.trans eN2, ⟨ts, _, _, rfl, rfl, ?_⟩, hm3⟩
        rw [Ch.leads_succ, if_neg (by rw [hb, Bool.true_and]; intro z; exact h (by rw [of_decide_eq_true z]))]
        exact hts.mono fun t p h => Same.sqt eN2 h
  · rintro _ N _ H2 eN ⟨ts, pl, pt, rfl, rfl, hts⟩ hm2
    walk_at "go"
    refine w_tupOfM hm2 foc0 fun l N2 H3 eN2 hl hm3 => ?_
    exact k _ _ _ (eN.trans eN2) hm3.drop ⟨l, ts, rfl, hl, hts.mono fun t p h => Same.sqt eN2 h⟩
end

end Pa

set_option Elab.async false
set_option linter.all false
set_option maxRecDepth 100000
set_option maxHeartbeats 4000000
-- NOMAC
namespace Pa
/-! ### walks of arrows that end at st, all tails at least st -/
def Wk (c : Ch) (st : Nat) : Nat → List Nat → Prop
  | v, [] => v = st
  | v, k :: p => k < c.ar.length ∧ c.tl k = v ∧ st ≤ v ∧ Wk c st (c.hd k) p
def Me.sum (e : Me) (p : List Nat) : Int := (p.map e.gain).sum
theorem Me.sum_cons (e : Me) (k : Nat) (p : List Nat) : e.sum (k :: p) = e.gain k + e.sum p := by
  unfold Me.sum
  rw [List.map_cons, List.sum_cons]
theorem Me.sum_nil (e : Me) : e.sum [] = 0 := rfl
theorem Me.sum_app (e : Me) (p q : List Nat) : e.sum (p ++ q) = e.sum p + e.sum q := by
  unfold Me.sum
  rw [List.map_append, List.sum_append]
/-- the greatest worth of the walks of k arrows from v -/
def Best (e : Me) (st : Nat) (s : Int) (k v : Nat) : Option Int → Prop
  | none => ∀ p, p.length = k → ¬ Wk e.ch st v p
  | some r => (∃ p, p.length = k ∧ Wk e.ch st v p ∧ s * e.sum p = r) ∧ ∀ p, p.length = k → Wk e.ch st v p → s * e.sum p ≤ r
/-- the same, behind the arrows below i, over a row for one arrow less -/
def Part (e : Me) (st : Nat) (s : Int) (row : List (Option Int)) (i v : Nat) : Option Int → Prop
  | none => ∀ j, j < i → e.ch.tl j = v → st ≤ v → row.getD (e.ch.hd j) none = none
  | some r => (∃ j r', j < i ∧ e.ch.tl j = v ∧ st ≤ v ∧ row.getD (e.ch.hd j) none = some r' ∧ r = r' + s * e.gain j) ∧
      ∀ j r', j < i → e.ch.tl j = v → st ≤ v → row.getD (e.ch.hd j) none = some r' → r' + s * e.gain j ≤ r
theorem part_zero {e : Me} {st : Nat} {s : Int} {row : List (Option Int)} {v : Nat} : Part e st s row 0 v none := fun j h => absurd h (Nat.not_lt_zero _)
theorem part_skip {e : Me} {st : Nat} {s : Int} {row : List (Option Int)} {i v : Nat} {o : Option Int} (h : Part e st s row i v o) (n : ¬ (e.ch.tl i = v ∧ st ≤ v ∧ row.getD (e.ch.hd i) none ≠ none)) : Part e st s row (i + 1) v o := by
  cases o with
  | none =>
    intro j hj h1 h2
    by_cases e1 : j = i
    · subst e1
      cases q : row.getD (e.ch.hd j) none with
      | none => rfl
      | some r => exact absurd ⟨h1, h2, by rw [q]; simp⟩ n
    · exact h j (by omega) h1 h2
  | some r =>
    obtain ⟨⟨j, r', h1, h2⟩, h3⟩ := h
    refine ⟨⟨j, r', by omega, h2⟩, fun j r' hj h4 h5 h6 => ?_⟩
    by_cases e1 : j = i
    · subst e1
      exact absurd ⟨h4, h5, by rw [h6]; simp⟩ n
    · exact h3 j r' (by omega) h4 h5 h6
theorem part_put {e : Me} {st : Nat} {s : Int} {row : List (Option Int)} {i v : Nat} {o : Option Int} {r' : Int} (h : Part e st s row i v o) (h1 : e.ch.tl i = v) (h2 : st ≤ v) (h3 : row.getD (e.ch.hd i) none = some r')
    (hn : ∀ r, o = some r → r < r' + s * e.gain i) : Part e st s row (i + 1) v (some (r' + s * e.gain i)) := by
  refine ⟨⟨i, r', Nat.lt_succ_self _, h1, h2, h3, rfl⟩, fun j q hj h4 h5 h6 => ?_⟩
  by_cases e1 : j = i
  · subst e1
    rw [h3] at h6
    rw [Option.some.inj h6]
    exact Int.le_refl _
  · cases o with
    | none =>
      have := h j (by omega) h4 h5
      rw [this] at h6
      cases h6
    | some r =>
      have a := h.2 j q (by omega) h4 h5 h6
      have b := hn r rfl
      omega
theorem part_keep {e : Me} {st : Nat} {s : Int} {row : List (Option Int)} {i v : Nat} {r r' : Int} (h : Part e st s row i v (some r)) (h3 : row.getD (e.ch.hd i) none = some r')
    (hn : ¬ r < r' + s * e.gain i) : Part e st s row (i + 1) v (some r) := by
  obtain ⟨⟨j, q, h1, h2⟩, h4⟩ := h
  refine ⟨⟨j, q, by omega, h2⟩, fun j q hj h5 h6 h7 => ?_⟩
  by_cases e1 : j = i
  · subst e1
    rw [h3] at h7
    rw [← Option.some.inj h7]
    omega
  · exact h4 j q (by omega) h5 h6 h7
theorem best_zero {e : Me} {st : Nat} {s : Int} {v : Nat} : Best e st s 0 v (if v = st then some 0 else none) := by
  by_cases h : v = st
  · rw [if_pos h]
    refine ⟨⟨[], rfl, h, by rw [Me.sum_nil, Int.mul_zero]⟩, fun p hp _ => ?_⟩
    rw [List.length_eq_zero_iff.mp hp, Me.sum_nil, Int.mul_zero]
    exact Int.le_refl _
  · rw [if_neg h]
    intro p hp hw
    rw [List.length_eq_zero_iff.mp hp] at hw
    exact h hw
theorem best_succ {e : Me} {st : Nat} {s : Int} {k : Nat} {row : List (Option Int)} (hd : ∀ j, j < e.ch.ar.length → e.ch.hd j < e.ch.cs.length) (h : ∀ v, v < e.ch.cs.length → Best e st s k v (row.getD v none)) {v : Nat} {o : Option Int}
    (hp : Part e st s row e.ch.ar.length v o) : Best e st s (k + 1) v o := by
  cases o with
  | none =>
    intro p hl hw
    cases p with
    | nil => cases hl
    | cons j p =>
      obtain ⟨h1, h2, h3, h4⟩ := hw
      have a := hp j h1 h2 h3
      have b := h _ (hd j h1)
      rw [a] at b
      exact b p (Nat.succ.inj hl) h4
  | some r =>
    obtain ⟨⟨j, r', h1, h2, h3, h4, h5⟩, h6⟩ := hp
    have b := h _ (hd j h1)
    rw [h4] at b
    obtain ⟨⟨p, h7, h8, h9⟩, _⟩ := b
    refine ⟨⟨j :: p, by rw [List.length_cons, h7], ⟨h1, h2, h3, h8⟩, ?_⟩, fun q hl hw => ?_⟩
    · rw [Me.sum_cons, Int.mul_add, h9, h5]
      omega
    · cases q with
      | nil => cases hl
      | cons i q =>
        obtain ⟨k1, k2, k3, k4⟩ := hw
        have b2 := h _ (hd i k1)
        cases q2 : row.getD (e.ch.hd i) none with
        | none =>
          rw [q2] at b2
          exact absurd k4 (b2 q (Nat.succ.inj hl))
        | some r2 =>
          rw [q2] at b2
          have a := b2.2 q (Nat.succ.inj hl) k4
          have b3 := h6 i r2 k1 k2 k3 q2
          rw [Me.sum_cons, Int.mul_add]
          omega
/-- some walk of that many arrows from v ends with a drift -/
def Can (e : Me) (st : Nat) (ss : List Int) (v left : Nat) (g : Int) : Prop := ∃ s ∈ ss, ∃ p, p.length = left ∧ Wk e.ch st v p ∧ 0 < s * (g + e.sum p)
theorem can_of {e : Me} {st : Nat} {s : Int} {v left : Nat} {g : Int} {o : Option Int} (h : Best e st s left v o) : (∃ p, p.length = left ∧ Wk e.ch st v p ∧ 0 < s * (g + e.sum p)) ↔ ∃ r, o = some r ∧ 0 < s * g + r := by
  cases o with
  | none => exact ⟨fun ⟨p, h1, h2, _⟩ => absurd h2 (h p h1), fun ⟨r, z, _⟩ => by cases z⟩
  | some r =>
    constructor
    · rintro ⟨p, h1, h2, h3⟩
      have := h.2 p h1 h2
      rw [Int.mul_add] at h3
      exact ⟨r, rfl, by omega⟩
    · rintro ⟨r', z, h1⟩
      obtain ⟨p, h2, h3, h4⟩ := h.1
      rw [← Option.some.inj z] at h1
      exact ⟨p, h2, h3, by rw [Int.mul_add]; omega⟩
end Pa

set_option Elab.async false
set_option linter.all false
set_option maxRecDepth 100000
set_option maxHeartbeats 4000000
namespace Pa
open PySem L2
local macro_rules | `(tactic| walk_at "lt") => `(tactic| first
  | assumption
  | omega
  | (simp only [List.length_map, List.length_range, List.length_cons, List.length_nil, List.length_append, List.length_replicate] at *; omega))
local macro_rules | `(tactic| walk_at "fo") => `(tactic| first | exact foc0 | (refine' focS ?k1; (case k1 => walk_at "fo")))
local macro_rules | `(tactic| walk_at "sq") => `(tactic| first
  | assumption
  | (refine' SqL.of ?k1; (case k1 => assumption))
  | (refine' SqT.of ?k1; (case k1 => assumption))
  | (refine' Or.inl ?k1; (case k1 => walk_at "sq"))
  | (refine' Or.inr ?k1; (case k1 => walk_at "sq"))
  | (refine' Same.seq ?k1 ?k2; (case k1 => assumption); (case k2 => walk_at "sq"))
  | (refine' Same.sqt ?k1 ?k2; (case k1 => assumption); (case k2 => walk_at "sq"))
  | (refine' Same.sqe ?k1 ?k2; (case k1 => assumption); (case k2 => walk_at "sq"))
  | (refine' same_at ?k1 ?k2; (case k1 => assumption); (case k2 => walk_at "sq")))
local macro_rules | `(tactic| walk_at "ai") => `(tactic| first
  | assumption
  | (refine' ati_ints ?k1; (case k1 => walk_at "lt"))
  | (refine' ati_refs ?k1; (case k1 => walk_at "lt"))
  | (refine' ati_nat ?k1; (case k1 => assumption))
  | k_dflt rfl)
local macro_rules | `(tactic| walk_at "lk") => `(tactic| first
  | assumption
  | exact lk_hd
  | (refine' lk_tl ?k1 ?k2; (case k1 => decide +kernel); (case k2 => walk_at "lk"))
  | exact lk_nil)
local macro_rules | `(tactic| walk_at "sz") => `(tactic| first
  | exact small_sz (by simp only [List.length_cons, List.length_nil, List.length_append, List.length_map, List.length_range, List.length_set, List.length_replicate]; omega))
local macro_rules | `(tactic| walk_at "cc") => `(tactic| first
  | (show (0 : Int) < _; first | decide | omega)
  | exact Or.inl ⟨by omega, by omega⟩
  | exact Or.inr ⟨by omega, by omega⟩
  | exact ⟨by decide, by decide, by decide⟩)
local macro_rules | `(tactic| walk_at "st") => `(tactic| first
  | with_reducible refine w_seq ?_
  | with_reducible refine w_asg ?_
  | ((with_reducible refine' w_var ?k1 ?_); (case k1 => k_dflt rfl))
  | with_reducible refine w_c ?_
  | with_reducible refine w_op ?_
  | with_reducible refine w_cons ?_
  | with_reducible refine w_nil ?_
  | with_reducible refine w_gname ?_
  | with_reducible refine w_I0 ?_
  | with_reducible refine w_fld ?_
  | ((with_reducible refine' w_ins ?k1 ?k2 ?k3 ?k4 ?k5 ?_); (case k1 => assumption); (case k2 => walk_at "sq"); (case k3 => assumption); (case k4 => assumption); (case k5 => walk_at "lk"))
  | ((with_reducible refine' w_ixT ?k1 ?k2 ?k3 ?_); (case k1 => assumption); (case k2 => walk_at "sq"); (case k3 => walk_at "ai"))
  | ((with_reducible refine' w_ixL ?k1 ?k2 ?k3 ?_); (case k1 => assumption); (case k2 => walk_at "sq"); (case k3 => walk_at "ai"))
  | ((with_reducible refine' w_ixM ?k1 ?k2 ?k3 ?_); (case k1 => assumption); (case k2 => walk_at "fo"); (case k3 => walk_at "ai"))
  | with_reducible refine w_cb ?_
  | with_reducible refine w_test ?_
  | with_reducible refine w_if ?_
  | with_reducible refine w_B ?_
  | with_reducible refine w_not ?_
  | with_reducible refine w_and ?_
  | with_reducible refine w_or ?_
  | with_reducible refine w_eqI ?_
  | with_reducible refine w_neI ?_
  | with_reducible refine w_isN ?_
  | with_reducible refine w_notN ?_
  | with_reducible refine w_isB ?_
  | with_reducible refine w_bl ?_
  | with_reducible refine w_ret ?_
  | with_reducible refine w_next ?_
  | with_reducible refine w_brk ?_
  | with_reducible refine w_drop ?_
  | with_reducible refine w_call ?_
  | with_reducible refine w_un ?_
  | with_reducible refine w_U ?_
  | with_reducible refine w_andV ?_
  | with_reducible refine w_orV ?_
  | with_reducible refine w_notV ?_
  | with_reducible refine w_ifE ?_
  | with_reducible refine w_chain ?_
  | with_reducible refine w_gsub ?_
  | with_reducible refine w_gnil ?_
  | with_reducible refine w_gcons ?_
  | with_reducible refine w_ipI ?_
  | with_reducible refine w_fldS ?_
  | with_reducible refine w_tru ?_
  | with_reducible refine w_abs ?_
  | with_reducible refine w_maxB ?_
  | with_reducible refine w_minB ?_
  | with_reducible refine w_int ?_
  | with_reducible refine w_tupE ?_
  | with_reducible refine w_lstE ?_
  | with_reducible refine w_bm ?_
  | with_reducible refine w_bm0 ?_
  | with_reducible refine w_mth ?_
  | with_reducible refine w_for0 ?_
  | with_reducible refine w_lc0 ?_
  | with_reducible refine w_il ?_
  | with_reducible refine w_it ?_
  | with_reducible refine w_is ?_
  | with_reducible refine w_ie ?_
  | with_reducible refine w_ir1 ?_
  | with_reducible refine w_ir2 ?_
  | with_reducible refine w_irv ?_
  | with_reducible refine w_rg1 ?_
  | with_reducible refine w_rg1v ?_
  | with_reducible refine w_lrg ?_
  | with_reducible refine w_make ?_
  | with_reducible refine w_yes ?_
  | with_reducible refine w_ost ?_
  | with_reducible refine w_mkoE ?_
  | with_reducible refine w_is_int_int ?_
  | with_reducible refine w_is_int_bool ?_
  | with_reducible refine w_is_int_str ?_
  | with_reducible refine w_is_int_tuple ?_
  | with_reducible refine w_is_bl_int ?_
  | with_reducible refine w_is_bl_bool ?_
  | with_reducible refine w_is_bl_str ?_
  | with_reducible refine w_is_bl_tuple ?_
  | with_reducible refine w_is_non_int ?_
  | with_reducible refine w_is_non_bool ?_
  | with_reducible refine w_is_non_str ?_
  | with_reducible refine w_is_non_tuple ?_
  | with_reducible refine w_is_str_int ?_
  | with_reducible refine w_is_str_bool ?_
  | with_reducible refine w_is_str_str ?_
  | with_reducible refine w_is_str_tuple ?_
  | ((with_reducible refine' w_insM ?k1 ?k2 ?k3 ?k4 ?k5 ?_); (case k1 => assumption); (case k2 => walk_at "fo"); (case k3 => assumption); (case k4 => assumption); (case k5 => walk_at "lk"))
  | ((with_reducible refine' w_ixE ?k1 ?k2 ?k3 ?_); (case k1 => assumption); (case k2 => walk_at "sq"); (case k3 => walk_at "ai"))
  | ((with_reducible refine' w_len ?k1 ?k2 ?_); (case k1 => assumption); (case k2 => walk_at "sq"))
  | ((with_reducible refine' w_lenM ?k1 ?k2 ?_); (case k1 => assumption); (case k2 => walk_at "fo"))
  | ((with_reducible refine' w_I ?k1 ?_); (case k1 => walk_at "cc"))
  | ((with_reducible refine' w_gtup ?k1 ?k2 ?_); (case k1 => refine' Mem.sqt ?m0 ?h0; (case m0 => assumption); (case h0 => walk_at "sq")); (case k2 => k_dflt rfl))
  | ((with_reducible refine' w_aug ?k1 ?_); (case k1 => k_dflt rfl))
  | ((with_reducible refine' w_truM ?k1 ?k2 ?_); (case k1 => assumption); (case k2 => walk_at "fo"))
  | ((with_reducible refine' w_truL ?k1 ?k2 ?_); (case k1 => assumption); (case k2 => walk_at "sq"))
  | ((with_reducible refine' w_tyL ?k1 ?k2 ?_); (case k1 => assumption); (case k2 => walk_at "fo"))
  | ((with_reducible refine' w_mthI ?k1 ?k2 ?k3 ?_); (case k1 => assumption); (case k2 => walk_at "sq"); (case k3 => walk_at "lk"))
  | ((with_reducible refine' w_sumM ?k1 ?k2 ?_); (case k1 => assumption); (case k2 => walk_at "fo"))
  | ((with_reducible refine' w_eqDN ?k1 ?k2 ?k3 ?_); (case k1 => assumption); (case k2 => walk_at "sq"); (case k3 => walk_at "sq"))
  | ((with_reducible refine' w_is_tup_int ?k1 ?k2 ?_); (case k1 => assumption); (case k2 => walk_at "sq"))
  | ((with_reducible refine' w_is_tup_bool ?k1 ?k2 ?_); (case k1 => assumption); (case k2 => walk_at "sq"))
  | ((with_reducible refine' w_is_tup_str ?k1 ?k2 ?_); (case k1 => assumption); (case k2 => walk_at "sq"))
  | ((with_reducible refine' w_is_tup_tuple ?k1 ?k2 ?_); (case k1 => assumption); (case k2 => walk_at "sq"))
  | dsimp only)
local macro_rules | `(tactic| walk_at "go") => `(tactic| repeat (walk_at "st"))
abbrev oV : Option Int → V
  | none => .non
  | some r => .int r
abbrev ovs (l : List (Option Int)) : List V := l.map oV
abbrev LstO (K : PySem.W.Frag) (I : Hp) (a : Addr) (l : List (Option Int)) : Prop := SqL K I a (ovs l)
theorem ovs_rep (n : Nat) : (List.replicate n [V.non]).flatten = ovs (List.replicate n none) := by
  induction n with
  | zero => rfl
  | succ n ih =>
    rw [List.replicate_succ, List.replicate_succ, List.flatten_cons, ih]
    rfl
theorem ati_ov {l : List (Option Int)} {k : Nat} (h : k < l.length) : atI (ovs l) ((k : Nat) : Int) = some (oV (l.getD k none)) := by
  refine atI_nat ?_
  rw [List.getElem?_map, List.getElem?_eq_getElem h, List.getD_eq_getElem?_getD, List.getElem?_eq_getElem h]
  rfl
theorem ovs_set {l : List (Option Int)} {k : Nat} {r : Int} : (ovs l).set k (.int r) = ovs (l.set k (some r)) := by
  rw [ovs, ovs, List.map_set]
theorem getD_set {α : Type} {l : List α} {k j : Nat} {a d : α} (h : k < l.length) : (l.set k a).getD j d = if j = k then a else l.getD j d := by
  rw [List.getD_eq_getElem?_getD, List.getElem?_set]
  by_cases e : k = j
  · subst e
    rw [if_pos rfl, if_pos h, if_pos rfl]
    rfl
  · rw [if_neg e, if_neg (fun z => e z.symm), List.getD_eq_getElem?_getD]
/-- the tables of one start and one sense -/
def RowsOk (e : Me) (lo : Nat) (s : Int) (rows : List (List (Option Int))) : Prop := ∀ k r, rows[k]? = some r → r.length = e.ch.cs.length ∧ ∀ v, v < e.ch.cs.length → Best e lo s k v (r.getD v none)
theorem RowsOk.snoc {e : Me} {lo : Nat} {s : Int} {rows : List (List (Option Int))} {r : List (Option Int)} (h : RowsOk e lo s rows) (h1 : r.length = e.ch.cs.length) (h2 : ∀ v, v < e.ch.cs.length → Best e lo s rows.length v (r.getD v none)) : RowsOk e lo s (rows ++ [r]) := by
  intro k x hx
  by_cases hk : k < rows.length
  · rw [List.getElem?_append_left hk] at hx
    exact h k x hx
  · have e1 : k = rows.length := by
      have := (List.getElem?_eq_some_iff.mp hx).1
      rw [List.length_append, List.length_singleton] at this
      omega
    subst e1
    rw [List.getElem?_append_right (Nat.le_refl _), Nat.sub_self] at hx
    rw [← Option.some.inj hx]
    exact ⟨h1, h2⟩
/-- a list of lists -/
def RowsAt (K : PySem.W.Frag) (I : Hp) (a : Addr) (rows : List (List (Option Int))) : Prop := ∃ ts, SqL K I a (ts.map V.ref) ∧ AllAt (LstO K I) ts rows
theorem RowsAt.mono {K : PySem.W.Frag} {I N : Hp} {a : Addr} {rows : List (List (Option Int))} (e : Same I N) (h : RowsAt K I a rows) : RowsAt K N a rows := by
  obtain ⟨ts, h1, h2⟩ := h
  exact ⟨ts, e.seq h1, h2.mono fun t p h => e.seq h⟩
section
variable {P : Program} {w : World} {K : PySem.W.Frag} {mg : Str → Option Value} {base : Heap} {C : Ad}
abbrev N_rest_rows : List Str := ["meter", "last_row", "lowest", "length", "sense", "rows", "k", "row", "arrow", "tail", "head", "worth"]
abbrev P_rest_rows : List Str := ["meter", "last_row", "lowest", "length", "sense"]
theorem sc_rest_rows : FnScope N_rest_rows P_rest_rows (defScope S_rest_rows) := ⟨rfl, rfl, rfl, by decide +kernel, rfl, by decide +kernel, by decide +kernel⟩
-- slots: 0 meter, 1 last_row, 2 lowest, 3 length, 4 sense, 5 rows, 6 k, 7 row, 8 arrow, 9 tail, 10 head, 11 worth
def spRest (K : PySem.W.Frag) (C : Ad) : Sp := spN fun vs I R => ∃ (a lr : Addr) (e : Me) (row0 : List (Option Int)) (lo len : Nat) (s : Int), vs = [.ref a, .ref lr, .int (lo : Int), .int (len : Int), .int s] ∧ MeAt K C I a e ∧ e.Ok ∧ LstO K I lr row0 ∧ row0.length = e.ch.cs.length ∧
  (∀ v, v < e.ch.cs.length → Best e lo s 0 v (row0.getD v none)) ∧ len ≤ 16 ∧ (s = 1 ∨ s = -1) ∧
  R = fun v N => ∃ l rows, v = .ref l ∧ RowsAt K N l rows ∧ rows.length = len + 1 ∧ RowsOk e lo s rows
theorem ok_rest_rows {f : Addr} {fd : FuncData} (F : FnP K "rest_rows" "rest_rows" S_rest_rows f fd) (T : Txt K mg C) (G_arrow_gain : FnAt P w K mg base "arrow_gain" 1 P_arrow_gain (spGain K C)) : FnOk P w K mg base CX0 2 f fd P_rest_rows (spRest K C) := by
  have nd := sc_rest_rows.nd
  refine F.ok sc_rest_rows (fun vs H Q E h => ?_) (fun cdv A outer s H vs Q E hr h => ?_)
  · obtain ⟨I, M, v, ⟨a, lr, e, row0, lo, len, s, rfl, _⟩, _⟩ := h
    rfl
  obtain ⟨I, M, R, ⟨a, lr, e, row0, lo, len, s, rfl, hMe, ok, h0, hl0, hb0, hlen, hs, rfl⟩, hm, k⟩ := h
  have hMe2 := hMe
  obtain ⟨dx, ca, qa, hI, ⟨dx2, p, r, as, h1, h2, h3, h4⟩, h5⟩ := hMe
  have n2 := T.clCh
  have n3 := T.n_arrows
  have n5 := T.clMe
  have n6 := T.n_chart
  refine ⟨_, PSs.nox (pss_cons (ps_set (i := 5) nd rfl (Or.inl rfl) (pe_lst (pa_cons (pv 1) pa_nil)))
    (pss_cons (ps_for PassesOwn.never rfl (pi_range1 rfl T.b_range (pa_cons (pv 3) pa_nil)) (pg_name (i := 6) nd rfl (Or.inl rfl))
      (pss_cons (ps_set (i := 7) nd rfl (Or.inl rfl) (pe_op op_rep (pe_lst (pa_cons pe_non pa_nil)) (pe_callB cl_len (by rfl) T.b_len PySem.boot_len (pa_cons (pv 1) pa_nil))))
      (pss_cons (ps_for PassesOwn.never rfl (pi_enumS rfl T.b_enumerate (pa_cons (pe_fld (pe_fld (pv 0) rfl) rfl) pa_nil)) (pg_tup rfl (pgs_cons (pg_name (i := 8) nd rfl (Or.inl rfl)) (pgs_cons (pg_tup rfl (pgs_cons (pg_name (i := 9) nd rfl (Or.inl rfl)) (pgs_cons (pg_name (i := 10) nd rfl (Or.inl rfl)) pgs_nil))) pgs_nil)))
        (pss_one (ps_if (PW.pt (pw_and (pt_cmpR op_ge (pv 9) (pv 2) (nomark _)) (pw_and1 (pt_cmpR op_notN1 (pe_ix ix_list (pe_ix ix_list (pv 5) (pv 6) (fun _ _ => rfl)) (pv 10) (fun _ _ => rfl)) pe_non (nomark _)))))
          (pss_cons (ps_set (i := 11) nd rfl (Or.inl rfl) (pe_op op_add (pe_ix ix_list (pe_ix ix_list (pv 5) (pv 6) (fun _ _ => rfl)) (pv 10) (fun _ _ => rfl)) (pe_op op_mul (pv 4) (pe_fn G_arrow_gain (hr.mono (by decide)) (pa_cons (pv 0) (pa_cons (pv 8) pa_nil))))))
          (pss_one (ps_if (PW.pt (pw_or (pt_cmpR op_isN1 (pe_ix ix_list (pv 7) (pv 9) (fun _ _ => rfl)) pe_non (nomark _)) (pw_or1 (pt_cmpR op_gt (pv 11) (pe_ix ix_list (pv 7) (pv 9) (fun _ _ => rfl)) (nomark _)))))
            (pss_one (ps_asg (pv 11) (pg_sub (pv 7) (pv 9) set_list)))
            pss_nil)))
          pss_nil)))
      (pss_one (ps_expr (pe_bm PySem.F.plainAttrs_list PySem.F.slot_list_append PySem.F.type_list_append mt_append (pv 5) (pa_cons (pv 7) pa_nil)))))))
    (pss_one (ps_ret (pv 5))))), ?_⟩
  try dsimp only [cxOf, Cx.nox, Cx.wish]
  walk_at "go"
  refine w_lst hm (by walk_at "sz") fun pr H1 hm1 => ?_
  walk_at "go"
  refine w_irr1 (by omega) fun J wk => ?_
  refine w_forZ wk hm1 (fun i σ N M' => ∃ ts rows kv rv av tv hv wv, σ = [some (.ref a), some (.ref lr), some (.int lo), some (.int len), some (.int s), some (.ref pr), kv, rv, av, tv, hv, wv] ∧ M' = (pr, .lst (ts.map V.ref)) :: M ∧ AllAt (LstO K N) ts rows ∧ rows.length = i + 1 ∧ RowsOk e lo s rows)
    ⟨[lr], [row0], none, none, none, none, none, none, rfl, rfl, AllAt.nil.snoc h0, rfl, ?_⟩ ?_ ?_
  · exact RowsOk.snoc (rows := []) (fun k r h => by simp at h) hl0 hb0
  · rintro i _ N _ H2 hi eN ⟨ts, rows, kv, rv, av, tv, hv, wv, rfl, rfl, hts, hrl, hok⟩ hm2
    have tl : ts.length = i + 1 := hts.1.trans hrl
    have hti : ts[i]? = some (ts.getD i 0) := by
      rw [List.getD_eq_getElem?_getD, List.getElem?_eq_getElem (by omega)]
      rfl
    obtain ⟨rk, hrk, hrat⟩ := hts.get hti
    obtain ⟨hrkl, hrkb⟩ := hok i rk hrk
    have h3' : SqT K N r (as.map V.ref) := Same.sqt eN h3
    have n16 := ok.ch.n16
    walk_at "go"
    refine w_lst hm2 (by walk_at "sz") fun p0 H3 hm3 => ?_
    walk_at "go"
    refine w_rep hm3 foc0 (by omega) (by simp only [List.length_map]; omega) (by simp only [List.length_map]; exact small_sz (by rw [List.length_singleton]; omega)) fun pw H4 hm4 => ?_
    have hm4 := hm4.swap.drop
    walk_at "go"
    rw [ovs_rep, List.length_map, Int.toNat_natCast] at hm4
    refine w_ienum hm4 (.inr h3') fun J wk => ?_
    refine w_forE wk hm4 (fun j σ N M' => ∃ row av tv hv wv, σ = [some (.ref a), some (.ref lr), some (.int lo), some (.int len), some (.int s), some (.ref pr), some (.int i), some (.ref pw), av, tv, hv, wv] ∧ M' = (pw, .lst (ovs row)) :: (pr, .lst (ts.map V.ref)) :: M ∧ row.length = e.ch.cs.length ∧ ∀ v, v < e.ch.cs.length → Part e lo s rk j v (row.getD v none))
      ⟨_, av, tv, hv, wv, rfl, rfl, by rw [List.length_replicate, hl0], fun v hv => ?_⟩ ?_ (fun _ _ _ _ _ _ h => h) ?_
    · rw [List.getD_eq_getElem?_getD, List.getElem?_replicate]
      have : (if v < row0.length then some none else none : Option (Option Int)).getD none = none := by
        split <;> rfl
      rw [this]
      exact part_zero
    · rintro j x t _ N3 _ H5 hj hx eN3 hT ⟨row, av, tv, hv, wv, rfl, rfl, hrw, hpart⟩ hm5
      rw [List.length_map] at hj
      have hj2 : j < e.ch.ar.length := by rw [← h4.1]; exact hj
      have ej : x = .ref (as.getD j 0) := by
        obtain ⟨t, ht, rfl⟩ := refs_get hx
        rw [List.getD_eq_getElem?_getD, ht]
        rfl
      subst ej
      have eN4 := eN3
      have hrat3 : SqL K N3 (ts.getD i 0) (ovs rk) := eN3.seq hrat
      clear hrat
      have eI := eN.trans eN3
      clear eN3 eN
      have j3 := h4.2 j hj2
      have hMe3 := hMe2.mono eI
      have htl := ok.ch.tl j hj2
      have hhd := ok.ch.hd j hj2
      have ai1 : atI (ovs rk) ((e.ch.hd j : Nat) : Int) = some (oV (rk.getD (e.ch.hd j) none)) := ati_ov (by rw [hrkl]; exact hhd)
      have ai2 : atI (ovs row) ((e.ch.tl j : Nat) : Int) = some (oV (row.getD (e.ch.tl j) none)) := ati_ov (by rw [hrw]; exact htl)
      have e1 : (e.ch.ar.getD j (0, 0)).1 = e.ch.tl j := rfl
      have e2 : (e.ch.ar.getD j (0, 0)).2 = e.ch.hd j := rfl
      rw [e1, e2] at j3
      walk_at "go"
      refine w_ite (fun hlo => ?_) fun hlo => ?_
      · walk_at "go"
        cases hq : rk.getD (e.ch.hd j) none with
        | none =>
          walk_at "go"
          refine w_iteN (fun h => absurd rfl h) fun _ => ?_
          walk_at "go"
          refine ⟨_, _, eN4, ⟨row, _, _, _, _, rfl, rfl, hrw, fun v hv => part_skip (hpart v hv) fun z => z.2.2 hq⟩, hm5⟩
        | some r' =>
          rw [hq] at ai1
          walk_at "go"
          refine w_iteN (fun _ => ?_) fun h => by cases h
          walk_at "go"
          refine w_spV hm5 ⟨_, _, _, rfl, hMe3, ok, hj2, rfl⟩ fun H6 hm6 => ?_
          walk_at "go"
          have put : ∀ v, v < e.ch.cs.length → (∀ r, row.getD (e.ch.tl j) none = some r → r < r' + s * e.gain j) → Part e lo s rk (j + 1) v ((row.set (e.ch.tl j) (some (r' + s * e.gain j))).getD v none) := fun v hv hn => by
            rw [getD_set (by rw [hrw]; exact htl)]
            by_cases ev : v = e.ch.tl j
            · rw [if_pos ev]
              subst ev
              exact part_put (hpart _ hv) rfl (by omega) hq hn
            · rw [if_neg ev]
              exact part_skip (hpart v hv) fun z => ev z.1.symm
          have put2 : ∀ H, Mem N3 ((pw, .lst ((ovs row).set (e.ch.tl j) (.int (r' + s * e.gain j)))) :: (pr, .lst (ts.map V.ref)) :: M) H → Mem N3 ((pw, .lst (ovs (row.set (e.ch.tl j) (some (r' + s * e.gain j))))) :: (pr, .lst (ts.map V.ref)) :: M) H := fun H h => by
            rw [ovs_set] at h
            exact h
          cases hq2 : row.getD (e.ch.tl j) none with
          | none =>
            rw [hq2] at ai2
            walk_at "go"
            refine w_ite (fun _ => ?_) fun h => absurd rfl h
            refine iteT ?_
            walk_at "go"
            refine w_setL hm6 foc0 (ixn_nat (by rw [List.length_map, hrw]; exact htl)) fun H7 hm7 => ?_
            walk_at "go"
            exact ⟨_, _, eN4, ⟨_, _, _, _, _, rfl, rfl, by rw [List.length_set, hrw], fun v hv => put v hv fun r hr => by rw [hq2] at hr; cases hr⟩, put2 _ hm7⟩
          | some q =>
            rw [hq2] at ai2
            walk_at "go"
            refine w_ite (fun h => by cases h) fun _ => ?_
            walk_at "go"
            refine w_ite (fun hlt => ?_) fun hlt => ?_
            · walk_at "go"
              refine w_setL hm6 foc0 (ixn_nat (by rw [List.length_map, hrw]; exact htl)) fun H7 hm7 => ?_
              walk_at "go"
              exact ⟨_, _, eN4, ⟨_, _, _, _, _, rfl, rfl, by rw [List.length_set, hrw], fun v hv => put v hv fun r hr => by rw [hq2] at hr; rw [← Option.some.inj hr]; exact hlt⟩, put2 _ hm7⟩
            · walk_at "go"
              refine ⟨_, _, eN4, ⟨row, _, _, _, _, rfl, rfl, hrw, fun v hv => ?_⟩, hm6⟩
              by_cases ev : v = e.ch.tl j
              · subst ev
                have := hpart _ hv
                rw [hq2] at this ⊢
                exact part_keep this hq hlt
              · exact part_skip (hpart v hv) fun z => ev z.1.symm
      · walk_at "go"
        refine ⟨_, _, eN4, ⟨row, _, _, _, _, rfl, rfl, hrw, fun v hv => part_skip (hpart v hv) fun z => hlo (by rw [z.1]; omega)⟩, hm5⟩
    · rintro _ N3 _ H5 eN3 ⟨row, av, tv, hv, wv, rfl, rfl, hrw, hpart⟩ hm5
      walk_at "go"
      refine w_frz hm5 fun N4 eN4 hp4 hm6 => ?_
      refine w_app hm6 foc0 (small_sl (by rw [List.length_map]; omega)) fun H7 hm7 => ?_
      walk_at "go"
      refine ⟨_, _, eN.trans (eN3.trans eN4), ⟨ts ++ [pw], rows ++ [row], _, _, _, _, _, _, rfl, by rw [List.map_append]; rfl, (hts.mono fun t p h => (eN3.trans eN4).seq h).snoc (SqL.of hp4), by rw [List.length_append, hrl]; rfl, hok.snoc hrw fun v hv => ?_⟩, hm7⟩
      rw [hrl]
      have := hpart v hv
      rw [List.length_map, h4.1] at this
      exact best_succ ok.ch.hd hrkb this
  · rintro _ N _ H2 eN ⟨ts, rows, kv, rv, av, tv, hv, wv, rfl, rfl, hts, hrl, hok⟩ hm2
    walk_at "go"
    refine w_frz hm2 fun N2 eN2 hp2 hm3 => ?_
    exact k _ _ _ (eN.trans eN2) hm3 ⟨_, rows, rfl, ⟨ts, SqL.of hp2, hts.mono fun t p h => eN2.seq h⟩, hrl, hok⟩
/-- a sense and its tables -/
def TabAt (K : PySem.W.Frag) (I : Hp) (e : Me) (lo len : Nat) (u : Addr) (s : Int) : Prop := ∃ l rows, SqT K I u [.int s, .ref l] ∧ RowsAt K I l rows ∧ rows.length = len + 1 ∧ RowsOk e lo s rows
def TabsAt (K : PySem.W.Frag) (I : Hp) (e : Me) (lo len : Nat) (tb : Addr) (ss : List Int) : Prop := ∃ us, SqL K I tb (us.map V.ref) ∧ AllAt (TabAt K I e lo len) us ss
theorem TabAt.mono {K : PySem.W.Frag} {I N : Hp} {e : Me} {lo len : Nat} {u : Addr} {s : Int} (h : TabAt K I e lo len u s) (q : Same I N) : TabAt K N e lo len u s := by
  obtain ⟨l, rows, h1, h2, h3⟩ := h
  exact ⟨l, rows, Same.sqt q h1, RowsAt.mono q h2, h3⟩
theorem TabsAt.mono {K : PySem.W.Frag} {I N : Hp} {e : Me} {lo len : Nat} {u : Addr} {ss : List Int} (h : TabsAt K I e lo len u ss) (q : Same I N) : TabsAt K N e lo len u ss := by
  obtain ⟨us, h1, h2⟩ := h
  exact ⟨us, q.seq h1, h2.mono fun t p h => h.mono q⟩
noncomputable def can (e : Me) (st : Nat) (ss : List Int) (v left : Nat) (g : Int) : Bool := @decide (Can e st ss v left g) (Classical.propDecidable _)
theorem can_iff {e : Me} {st : Nat} {ss : List Int} {v left : Nat} {g : Int} : can e st ss v left g = true ↔ Can e st ss v left g := @decide_eq_true_iff _ (Classical.propDecidable _)
theorem can_no {e : Me} {st : Nat} {ss : List Int} {v left : Nat} {g : Int} : can e st ss v left g = false ↔ ¬ Can e st ss v left g := @decide_eq_false_iff_not _ (Classical.propDecidable _)
abbrev N_can_drift : List Str := ["tables", "place", "left", "gained", "sense", "rows", "rest"]
abbrev P_can_drift : List Str := ["tables", "place", "left", "gained"]
theorem sc_can_drift : FnScope N_can_drift P_can_drift (defScope S_can_drift) := ⟨rfl, rfl, rfl, by decide +kernel, rfl, by decide +kernel, by decide +kernel⟩
-- slots: 0 tables, 1 place, 2 left, 3 gained, 4 sense, 5 rows, 6 rest
def spCan (K : PySem.W.Frag) (C : Ad) : Sp := spV fun vs I v => ∃ (tb : Addr) (e : Me) (lo len pl left : Nat) (g : Int) (ss : List Int), vs = [.ref tb, .int (pl : Int), .int (left : Int), .int g] ∧ TabsAt K I e lo len tb ss ∧ pl < e.ch.cs.length ∧ left ≤ len ∧ (∀ s ∈ ss, s = 1 ∨ s = -1) ∧
  v = .bl (can e lo ss pl left g)
theorem ok_can_drift {f : Addr} {fd : FuncData} (F : FnP K "can_drift" "can_drift" S_can_drift f fd) (T : Txt K mg C) : FnOk P w K mg base CX0 1 f fd P_can_drift (spCan K C) := by
  have nd := sc_can_drift.nd
  refine F.ok sc_can_drift (fun vs H Q E h => ?_) (fun cdv A outer s H vs Q E hr h => ?_)
  · obtain ⟨I, M, v, ⟨tb, e, lo, len, pl, left, g, ss, rfl, _⟩, _⟩ := h
    rfl
  obtain ⟨I, M, R, ⟨tb, e, lo, len, pl, left, g, ss, rfl, ⟨us, htb, hus⟩, hpl, hlf, hss, rfl⟩, hm, k⟩ := h
  refine ⟨_, PSs.nox (pss_cons (ps_for PassesOwn.never rfl (pi_list (pv 0)) (pg_tup rfl (pgs_cons (pg_name (i := 4) nd rfl (Or.inl rfl)) (pgs_cons (pg_name (i := 5) nd rfl (Or.inl rfl)) pgs_nil)))
      (pss_cons (ps_set (i := 6) nd rfl (Or.inl rfl) (pe_ix ix_list (pe_ix ix_list (pv 5) (pv 2) (fun _ _ => rfl)) (pv 1) (fun _ _ => rfl)))
      (pss_one (ps_if (PW.pt (pw_and (pt_cmpR op_notN1 (pv 6) pe_non (nomark _)) (pw_and1 (pt_cmpR op_gt (pe_op op_add (pe_op op_mul (pv 4) (pv 3)) (pv 6)) pe_int (nomark _)))))
        (pss_one (ps_ret pe_bl))
        pss_nil))))
    (pss_one (ps_ret pe_bl))), ?_⟩
  try dsimp only [cxOf, Cx.nox, Cx.wish]
  walk_at "go"
  refine w_ill hm htb fun J wk => ?_
  refine w_for wk hm (fun i σ N M' => ∃ a1 a2 a3, σ = [some (.ref tb), some (.int pl), some (.int left), some (.int g), a1, a2, a3] ∧ M' = M ∧ ∀ j s, j < i → ss[j]? = some s → ¬ ∃ p, p.length = left ∧ Wk e.ch lo pl p ∧ 0 < s * (g + e.sum p))
    ⟨_, _, _, rfl, rfl, fun j s h => absurd h (Nat.not_lt_zero _)⟩ ?_ ?_
  · rintro i x _ N _ H2 hi hx eN ⟨a1, a2, a3, rfl, rfl, hno⟩ hm2
    obtain ⟨u, hu, rfl⟩ := refs_get hx
    obtain ⟨s, hsi, l, rows, h1, ⟨ts, h2, h3⟩, h4, h5⟩ := hus.get hu
    have hs1 := hss s (List.mem_of_getElem? hsi)
    have ht : ts[left]? = some (ts.getD left 0) := by
      rw [List.getD_eq_getElem?_getD, List.getElem?_eq_getElem (by rw [h3.1]; omega)]
      rfl
    obtain ⟨rk, hrk, hrat⟩ := h3.get ht
    obtain ⟨hrl, hrb⟩ := h5 left rk hrk
    have ai1 : atI (ovs rk) ((pl : Nat) : Int) = some (oV (rk.getD pl none)) := ati_ov (by rw [hrl]; exact hpl)
    have tl : left < ts.length := by rw [h3.1]; omega
    have hiff := can_of (g := g) (hrb pl hpl)
    walk_at "go"
    cases hq : rk.getD pl none with
    | none =>
      rw [hq] at ai1
      walk_at "go"
      refine w_iteN (fun h => absurd rfl h) fun _ => ?_
      refine iteF ?_
      walk_at "go"
      refine ⟨_, _, eN, ⟨_, _, _, rfl, rfl, fun j s' hj hs' => ?_⟩, hm2⟩
      by_cases ej : j = i
      · subst ej
        rw [hsi] at hs'
        rw [← Option.some.inj hs']
        intro z
        obtain ⟨r, z, _⟩ := hiff.mp z
        rw [hq] at z
        cases z
      · exact hno j s' (by omega) hs'
    | some r =>
      rw [hq] at ai1
      walk_at "go"
      refine w_iteN (fun _ => ?_) fun h => by cases h
      walk_at "go"
      refine w_ite (fun hb => ?_) fun hb => ?_
      · walk_at "go"
        rw [can_iff.mpr ⟨s, List.mem_of_getElem? hsi, hiff.mpr ⟨r, hq, hb⟩⟩] at k
        exact k _ (hm2.back eN)
      · walk_at "go"
        refine ⟨_, _, eN, ⟨_, _, _, rfl, rfl, fun j s' hj hs' => ?_⟩, hm2⟩
        by_cases ej : j = i
        · subst ej
          rw [hsi] at hs'
          rw [← Option.some.inj hs']
          intro z
          obtain ⟨r', z, z2⟩ := hiff.mp z
          rw [hq] at z
          rw [← Option.some.inj z] at z2
          exact hb z2
        · exact hno j s' (by omega) hs'
  · rintro _ N _ H2 eN ⟨a1, a2, a3, rfl, rfl, hno⟩ hm2
    walk_at "go"
    have : ¬ Can e lo ss pl left g := fun ⟨s, hs, z⟩ => by
      obtain ⟨j, hj⟩ := List.mem_iff_getElem?.mp hs
      refine hno j s ?_ hj z
      rw [List.length_map, hus.1]
      exact (List.getElem?_eq_some_iff.mp hj).1
    rw [can_no.mpr this] at k
    exact k _ (hm2.back eN)
end

end Pa

set_option Elab.async false
set_option linter.all false
set_option maxRecDepth 100000
set_option maxHeartbeats 4000000
-- NOMAC
namespace Pa
/-! ### the least ring of a length from a place -/
def Sat (e : Me) (ss : List Int) (p : List Nat) : Prop := ∃ s ∈ ss, 0 < s * e.sum p
/-- smaller at the first place where they differ -/
def Ls : List Nat → List Nat → Prop
  | a :: r, b :: s => a < b ∨ (a = b ∧ Ls r s)
  | _, _ => False
theorem Ls.app : ∀ {a b x y : List Nat}, Ls a b → Ls (a ++ x) (b ++ y)
  | a :: r, b :: s, x, y, h => h.imp id fun z => ⟨z.1, z.2.app⟩
theorem Ls.put {a b : Nat} (h : a < b) : ∀ {W x y : List Nat}, Ls (W ++ a :: x) (W ++ b :: y)
  | [], _, _ => .inl h
  | _ :: _, _, _ => .inr ⟨rfl, Ls.put h⟩
theorem Wk.end_ {c : Ch} {st v : Nat} (h : Wk c st v []) : v = st := h
theorem Wk.ar {c : Ch} {st : Nat} : ∀ {p : List Nat} {v : Nat}, Wk c st v p → ∀ x ∈ p, x < c.ar.length
  | [], _, _, x, hx => nomatch hx
  | k :: p, v, h, x, hx => by
    rcases List.mem_cons.mp hx with e | hx
    · rw [e]
      exact h.1
    · exact h.2.2.2.ar x hx
def IsLeast (e : Me) (lo len : Nat) (ss : List Int) (r : List Nat) : Prop := r.length = len ∧ Wk e.ch lo lo r ∧ Sat e ss r ∧ ∀ q, q.length = len → Wk e.ch lo lo q → Sat e ss q → q = r ∨ Ls r q
structure LR (e : Me) (lo len : Nat) (ss : List Int) (W : List Nat) (pl : Nat) : Prop where
  wk : ∀ p, Wk e.ch lo lo (W ++ p) ↔ Wk e.ch lo pl p
  cn : Can e lo ss pl (len - W.length) (e.sum W)
  mn : ∀ q, q.length = len → Wk e.ch lo lo q → Sat e ss q → q.take W.length = W ∨ Ls W (q.take W.length)
section
variable {e : Me} {lo len : Nat} {ss : List Int} {W : List Nat} {pl : Nat}
theorem LR.init (h : Can e lo ss lo len 0) : LR e lo len ss [] lo where
  wk := fun p => Iff.rfl
  cn := h
  mn := fun q _ _ _ => .inl rfl
theorem LR.ex (h : LR e lo len ss W pl) (hl : W.length < len) : lo ≤ pl ∧ ∃ k ∈ e.ch.outs pl, Can e lo ss (e.ch.hd k) (len - (W.length + 1)) (e.sum W + e.gain k) := by
  obtain ⟨s, hs, p, h1, h2, h3⟩ := h.cn
  cases p with
  | nil =>
    rw [List.length_nil] at h1
    omega
  | cons k p =>
    obtain ⟨h4, h5, h6, h7⟩ := h2
    refine ⟨h6, k, Ch.mem_outs.mpr ⟨h4, h5⟩, s, hs, p, ?_, h7, ?_⟩
    · rw [List.length_cons] at h1
      omega
    · rw [Me.sum_cons] at h3
      rw [Int.add_assoc]
      exact h3
theorem LR.step (h : LR e lo len ss W pl) (hl : W.length < len) {k : Nat} (hk : k ∈ e.ch.outs pl) (hc : Can e lo ss (e.ch.hd k) (len - (W.length + 1)) (e.sum W + e.gain k))
    (hn : ∀ j, j ∈ e.ch.outs pl → j < k → ¬ Can e lo ss (e.ch.hd j) (len - (W.length + 1)) (e.sum W + e.gain j)) : LR e lo len ss (W ++ [k]) (e.ch.hd k) := by
  have lo' := (h.ex hl).1
  obtain ⟨k1, k2⟩ := Ch.mem_outs.mp hk
  have l1 : (W ++ [k]).length = W.length + 1 := by rw [List.length_append, List.length_singleton]
  have e1 : ∀ j, e.sum W + e.gain j = e.sum (W ++ [j]) := fun j => by rw [Me.sum_app, Me.sum_cons, Me.sum_nil, Int.add_zero]
  refine ⟨fun p => ?_, by rw [l1, ← e1]; exact hc, fun q q1 q2 q3 => ?_⟩
  · rw [List.append_assoc, h.wk]
    exact ⟨fun z => z.2.2.2, fun z => ⟨k1, k2, lo', z⟩⟩
  · rw [l1]
    have q0 : W.length < q.length := by omega
    have et : q.take (W.length + 1) = q.take W.length ++ [q[W.length]] := by rw [List.take_add_one, List.getElem?_eq_getElem q0]; rfl
    rcases h.mn q q1 q2 q3 with z | z
    · have eq2 : q = W ++ (q[W.length] :: q.drop (W.length + 1)) := by
        rw [List.getElem_cons_drop, ← z, List.length_take, Nat.min_eq_left (by omega)]
        exact (List.take_append_drop _ _).symm
      have w2 := (h.wk _).mp (by rw [← eq2]; exact q2)
      obtain ⟨w3, w4, w5, w6⟩ := w2
      have hj : ¬ q[W.length] < k := fun lt => hn _ (Ch.mem_outs.mpr ⟨w3, w4⟩) lt (by
        obtain ⟨s, hs, h0⟩ := q3
        refine ⟨s, hs, q.drop (W.length + 1), by rw [List.length_drop, q1], w6, ?_⟩
        rw [e1, ← Me.sum_app, List.append_assoc]
        have : W ++ ([q[W.length]] ++ q.drop (W.length + 1)) = q := eq2.symm
        rw [this]
        exact h0)
      rw [et, z]
      by_cases ek : q[W.length] = k
      · exact .inl (by rw [ek])
      · exact .inr (Ls.put (x := []) (y := []) (by omega))
    · exact .inr (by rw [et]; exact z.app)
theorem LR.fin (h : LR e lo len ss W pl) (hl : W.length = len) : IsLeast e lo len ss W := by
  obtain ⟨s, hs, p, h1, h2, h3⟩ := h.cn
  rw [hl, Nat.sub_self] at h1
  have := List.length_eq_zero_iff.mp h1
  subst this
  refine ⟨hl, by have := (h.wk []).mpr h2; rw [List.append_nil] at this; exact this, ⟨s, hs, by rw [Me.sum_nil, Int.add_zero] at h3; exact h3⟩, fun q q1 q2 q3 => ?_⟩
  have := h.mn q q1 q2 q3
  rw [List.take_of_length_le (by omega)] at this
  exact this
end
theorem Ch.outs_lt (c : Ch) (v : Nat) : (c.outs v).Pairwise (· < ·) := (range_lt _).filter _
theorem pw_ix {l : List Nat} (h : l.Pairwise (· < ·)) {i j x y : Nat} (hi : l[i]? = some x) (hj : l[j]? = some y) (hx : x < y) : i < j := by
  obtain ⟨i1, i2⟩ := List.getElem?_eq_some_iff.mp hi
  obtain ⟨j1, j2⟩ := List.getElem?_eq_some_iff.mp hj
  refine Nat.lt_of_not_le fun z => ?_
  rcases Nat.lt_or_eq_of_le z with z | z
  · have := List.pairwise_iff_getElem.mp h j i j1 i1 z
    omega
  · subst z
    omega
end Pa

set_option Elab.async false
set_option linter.all false
set_option maxRecDepth 100000
set_option maxHeartbeats 4000000
namespace Pa
open PySem L2
local macro_rules | `(tactic| walk_at "lt") => `(tactic| first
  | assumption
  | omega
  | (simp only [List.length_map, List.length_range, List.length_cons, List.length_nil, List.length_append, List.length_replicate] at *; omega))
local macro_rules | `(tactic| walk_at "fo") => `(tactic| first | exact foc0 | (refine' focS ?k1; (case k1 => walk_at "fo")))
local macro_rules | `(tactic| walk_at "sq") => `(tactic| first
  | assumption
  | (refine' SqL.of ?k1; (case k1 => assumption))
  | (refine' SqT.of ?k1; (case k1 => assumption))
  | (refine' Or.inl ?k1; (case k1 => walk_at "sq"))
  | (refine' Or.inr ?k1; (case k1 => walk_at "sq"))
  | (refine' Same.seq ?k1 ?k2; (case k1 => assumption); (case k2 => walk_at "sq"))
  | (refine' Same.sqt ?k1 ?k2; (case k1 => assumption); (case k2 => walk_at "sq"))
  | (refine' Same.sqe ?k1 ?k2; (case k1 => assumption); (case k2 => walk_at "sq"))
  | (refine' same_at ?k1 ?k2; (case k1 => assumption); (case k2 => walk_at "sq")))
local macro_rules | `(tactic| walk_at "ai") => `(tactic| first
  | assumption
  | (refine' ati_ints ?k1; (case k1 => walk_at "lt"))
  | (refine' ati_refs ?k1; (case k1 => walk_at "lt"))
  | (refine' ati_nat ?k1; (case k1 => assumption))
  | k_dflt rfl)
local macro_rules | `(tactic| walk_at "lk") => `(tactic| first
  | assumption
  | exact lk_hd
  | (refine' lk_tl ?k1 ?k2; (case k1 => decide +kernel); (case k2 => walk_at "lk"))
  | exact lk_nil)
local macro_rules | `(tactic| walk_at "sz") => `(tactic| first
  | exact small_sz (by simp only [List.length_cons, List.length_nil, List.length_append, List.length_map, List.length_range, List.length_set, List.length_replicate]; omega))
local macro_rules | `(tactic| walk_at "cc") => `(tactic| first
  | (show (0 : Int) < _; first | decide | omega)
  | exact Or.inl ⟨by omega, by omega⟩
  | exact Or.inr ⟨by omega, by omega⟩
  | exact ⟨by decide, by decide, by decide⟩)
local macro_rules | `(tactic| walk_at "st") => `(tactic| first
  | with_reducible refine w_seq ?_
  | with_reducible refine w_asg ?_
  | ((with_reducible refine' w_var ?k1 ?_); (case k1 => k_dflt rfl))
  | with_reducible refine w_c ?_
  | with_reducible refine w_op ?_
  | with_reducible refine w_cons ?_
  | with_reducible refine w_nil ?_
  | with_reducible refine w_gname ?_
  | with_reducible refine w_I0 ?_
  | with_reducible refine w_fld ?_
  | ((with_reducible refine' w_ins ?k1 ?k2 ?k3 ?k4 ?k5 ?_); (case k1 => assumption); (case k2 => walk_at "sq"); (case k3 => assumption); (case k4 => assumption); (case k5 => walk_at "lk"))
  | ((with_reducible refine' w_ixT ?k1 ?k2 ?k3 ?_); (case k1 => assumption); (case k2 => walk_at "sq"); (case k3 => walk_at "ai"))
  | ((with_reducible refine' w_ixL ?k1 ?k2 ?k3 ?_); (case k1 => assumption); (case k2 => walk_at "sq"); (case k3 => walk_at "ai"))
  | ((with_reducible refine' w_ixM ?k1 ?k2 ?k3 ?_); (case k1 => assumption); (case k2 => walk_at "fo"); (case k3 => walk_at "ai"))
  | with_reducible refine w_cb ?_
  | with_reducible refine w_test ?_
  | with_reducible refine w_if ?_
  | with_reducible refine w_B ?_
  | with_reducible refine w_not ?_
  | with_reducible refine w_and ?_
  | with_reducible refine w_or ?_
  | with_reducible refine w_eqI ?_
  | with_reducible refine w_neI ?_
  | with_reducible refine w_isN ?_
  | with_reducible refine w_notN ?_
  | with_reducible refine w_isB ?_
  | with_reducible refine w_bl ?_
  | with_reducible refine w_ret ?_
  | with_reducible refine w_next ?_
  | with_reducible refine w_brk ?_
  | with_reducible refine w_drop ?_
  | with_reducible refine w_call ?_
  | with_reducible refine w_un ?_
  | with_reducible refine w_U ?_
  | with_reducible refine w_andV ?_
  | with_reducible refine w_orV ?_
  | with_reducible refine w_notV ?_
  | with_reducible refine w_ifE ?_
  | with_reducible refine w_chain ?_
  | with_reducible refine w_gsub ?_
  | with_reducible refine w_gnil ?_
  | with_reducible refine w_gcons ?_
  | with_reducible refine w_ipI ?_
  | with_reducible refine w_fldS ?_
  | with_reducible refine w_tru ?_
  | with_reducible refine w_abs ?_
  | with_reducible refine w_maxB ?_
  | with_reducible refine w_minB ?_
  | with_reducible refine w_int ?_
  | with_reducible refine w_tupE ?_
  | with_reducible refine w_lstE ?_
  | with_reducible refine w_bm ?_
  | with_reducible refine w_bm0 ?_
  | with_reducible refine w_mth ?_
  | with_reducible refine w_for0 ?_
  | with_reducible refine w_lc0 ?_
  | with_reducible refine w_il ?_
  | with_reducible refine w_it ?_
  | with_reducible refine w_is ?_
  | with_reducible refine w_ie ?_
  | with_reducible refine w_ir1 ?_
  | with_reducible refine w_ir2 ?_
  | with_reducible refine w_irv ?_
  | with_reducible refine w_rg1 ?_
  | with_reducible refine w_rg1v ?_
  | with_reducible refine w_lrg ?_
  | with_reducible refine w_make ?_
  | with_reducible refine w_yes ?_
  | with_reducible refine w_ost ?_
  | with_reducible refine w_mkoE ?_
  | with_reducible refine w_is_int_int ?_
  | with_reducible refine w_is_int_bool ?_
  | with_reducible refine w_is_int_str ?_
  | with_reducible refine w_is_int_tuple ?_
  | with_reducible refine w_is_bl_int ?_
  | with_reducible refine w_is_bl_bool ?_
  | with_reducible refine w_is_bl_str ?_
  | with_reducible refine w_is_bl_tuple ?_
  | with_reducible refine w_is_non_int ?_
  | with_reducible refine w_is_non_bool ?_
  | with_reducible refine w_is_non_str ?_
  | with_reducible refine w_is_non_tuple ?_
  | with_reducible refine w_is_str_int ?_
  | with_reducible refine w_is_str_bool ?_
  | with_reducible refine w_is_str_str ?_
  | with_reducible refine w_is_str_tuple ?_
  | ((with_reducible refine' w_insM ?k1 ?k2 ?k3 ?k4 ?k5 ?_); (case k1 => assumption); (case k2 => walk_at "fo"); (case k3 => assumption); (case k4 => assumption); (case k5 => walk_at "lk"))
  | ((with_reducible refine' w_ixE ?k1 ?k2 ?k3 ?_); (case k1 => assumption); (case k2 => walk_at "sq"); (case k3 => walk_at "ai"))
  | ((with_reducible refine' w_len ?k1 ?k2 ?_); (case k1 => assumption); (case k2 => walk_at "sq"))
  | ((with_reducible refine' w_lenM ?k1 ?k2 ?_); (case k1 => assumption); (case k2 => walk_at "fo"))
  | ((with_reducible refine' w_I ?k1 ?_); (case k1 => walk_at "cc"))
  | ((with_reducible refine' w_gtup ?k1 ?k2 ?_); (case k1 => refine' Mem.sqt ?m0 ?h0; (case m0 => assumption); (case h0 => walk_at "sq")); (case k2 => k_dflt rfl))
  | ((with_reducible refine' w_aug ?k1 ?_); (case k1 => k_dflt rfl))
  | ((with_reducible refine' w_truM ?k1 ?k2 ?_); (case k1 => assumption); (case k2 => walk_at "fo"))
  | ((with_reducible refine' w_truL ?k1 ?k2 ?_); (case k1 => assumption); (case k2 => walk_at "sq"))
  | ((with_reducible refine' w_tyL ?k1 ?k2 ?_); (case k1 => assumption); (case k2 => walk_at "fo"))
  | ((with_reducible refine' w_mthI ?k1 ?k2 ?k3 ?_); (case k1 => assumption); (case k2 => walk_at "sq"); (case k3 => walk_at "lk"))
  | ((with_reducible refine' w_sumM ?k1 ?k2 ?_); (case k1 => assumption); (case k2 => walk_at "fo"))
  | ((with_reducible refine' w_eqDN ?k1 ?k2 ?k3 ?_); (case k1 => assumption); (case k2 => walk_at "sq"); (case k3 => walk_at "sq"))
  | ((with_reducible refine' w_is_tup_int ?k1 ?k2 ?_); (case k1 => assumption); (case k2 => walk_at "sq"))
  | ((with_reducible refine' w_is_tup_bool ?k1 ?k2 ?_); (case k1 => assumption); (case k2 => walk_at "sq"))
  | ((with_reducible refine' w_is_tup_str ?k1 ?k2 ?_); (case k1 => assumption); (case k2 => walk_at "sq"))
  | ((with_reducible refine' w_is_tup_tuple ?k1 ?k2 ?_); (case k1 => assumption); (case k2 => walk_at "sq"))
  | dsimp only)
local macro_rules | `(tactic| walk_at "go") => `(tactic| repeat (walk_at "st"))
section
variable {P : Program} {w : World} {K : PySem.W.Frag} {mg : Str → Option Value} {base : Heap} {C : Ad}
abbrev N_least_ring : List Str := ["meter", "tables", "start", "length", "ring", "place", "gained", "left", "arrow", "head"]
abbrev P_least_ring : List Str := ["meter", "tables", "start", "length"]
theorem sc_least_ring : FnScope N_least_ring P_least_ring (defScope S_least_ring) := ⟨rfl, rfl, rfl, by decide +kernel, rfl, by decide +kernel, by decide +kernel⟩
-- slots: 0 meter, 1 tables, 2 start, 3 length, 4 ring, 5 place, 6 gained, 7 left, 8 arrow, 9 head
def spLeast (K : PySem.W.Frag) (C : Ad) : Sp := spN fun vs I R => ∃ (a tb : Addr) (e : Me) (lo len tl : Nat) (ss : List Int), vs = [.ref a, .ref tb, .int (lo : Int), .int (len : Int)] ∧ MeAt K C I a e ∧ e.Ok ∧ TabsAt K I e lo tl tb ss ∧ lo < e.ch.cs.length ∧ len ≤ tl ∧ tl ≤ 16 ∧ (∀ s ∈ ss, s = 1 ∨ s = -1) ∧
  R = fun v N => (¬ Can e lo ss lo len 0 ∧ v = .non) ∨ (∃ t r, v = .ref t ∧ TupN K N t r ∧ IsLeast e lo len ss r)
theorem ok_least_ring {f : Addr} {fd : FuncData} (F : FnP K "least_ring" "least_ring" S_least_ring f fd) (T : Txt K mg C) (G_arrow_gain : FnAt P w K mg base "arrow_gain" 1 P_arrow_gain (spGain K C)) (G_outs : MtAt P w K mg base C.ch "outs" 3 P_Chart_outs (spOuts K C)) (G_can_drift : FnAt P w K mg base "can_drift" 1 P_can_drift (spCan K C)) : FnOk P w K mg base CX0 4 f fd P_least_ring (spLeast K C) := by
  have nd := sc_least_ring.nd
  refine F.ok sc_least_ring (fun vs H Q E h => ?_) (fun cdv A outer s H vs Q E hr h => ?_)
  · obtain ⟨I, M, v, ⟨a, tb, e, lo, len, tl, ss, rfl, _⟩, _⟩ := h
    rfl
  obtain ⟨I, M, R, ⟨a, tb, e, lo, len, tl, ss, rfl, hMe, ok, htb, hlo, hlen, htl, hss, rfl⟩, hm, k⟩ := h
  have hMe2 := hMe
  obtain ⟨dx, ca, qa, hI, hCh, h5⟩ := hMe
  have hCh2 := hCh
  obtain ⟨dx2, p, r, as, h1, h2, h3, h4⟩ := hCh
  have n2 := T.clCh
  have n3 := T.n_arrows
  have n5 := T.clMe
  have n6 := T.n_chart
  refine ⟨_, PSs.nox (pss_cons (ps_if (pt_not (pt_val (pe_fn G_can_drift (hr.mono (by decide)) (pa_cons (pv 1) (pa_cons (pv 2) (pa_cons (pv 3) (pa_cons pe_int pa_nil)))))))
      (pss_one (ps_ret pe_non))
      pss_nil)
    (pss_cons (ps_set (i := 4) nd rfl (Or.inl rfl) (pe_lst pa_nil))
    (pss_cons (ps_set (i := 5) nd rfl (Or.inl rfl) (pv 2))
    (pss_cons (ps_set (i := 6) nd rfl (Or.inl rfl) pe_int)
    (pss_cons (ps_for PassesOwn.never rfl (pi_revR rfl T.b_reversed (prg_1 rfl T.b_range (pv 3))) (pg_name (i := 7) nd rfl (Or.inl rfl))
      (pss_one (ps_for PassesOwn.never rfl (pi_tup (pe_mth G_outs (hr.mono (by decide)) (pe_fld (pv 0) rfl) (pa_cons (pv 5) pa_nil))) (pg_name (i := 8) nd rfl (Or.inl rfl))
        (pss_cons (ps_set (i := 9) nd rfl (Or.inl rfl) (pe_ix ix_tup (pe_ix ix_tup (pe_fld (pe_fld (pv 0) rfl) rfl) (pv 8) (fun _ _ => rfl)) pe_int (fun _ _ => rfl)))
        (pss_one (ps_if (pt_val (pe_fn G_can_drift (hr.mono (by decide)) (pa_cons (pv 1) (pa_cons (pv 9) (pa_cons (pv 7) (pa_cons (pe_op op_add (pv 6) (pe_fn G_arrow_gain (hr.mono (by decide)) (pa_cons (pv 0) (pa_cons (pv 8) pa_nil)))) pa_nil))))))
          (pss_cons (ps_expr (pe_bm PySem.F.plainAttrs_list PySem.F.slot_list_append PySem.F.type_list_append mt_append (pv 4) (pa_cons (pv 8) pa_nil)))
          (pss_cons (ps_aug (i := 6) nd rfl (Or.inl rfl) (pe_fn G_arrow_gain (hr.mono (by decide)) (pa_cons (pv 0) (pa_cons (pv 8) pa_nil))) ip_add)
          (pss_cons (ps_set (i := 5) nd rfl (Or.inl rfl) (pv 9))
          (pss_one ps_break))))
          pss_nil))))))
    (pss_one (ps_ret (pe_callTy cl_tuple (by rfl) T.b_tuple PyProof.Rows.boot_tuple (pa_cons (pv 4) pa_nil))))))))), ?_⟩
  try dsimp only [cxOf, Cx.nox, Cx.wish]
  walk_at "go"
  refine w_spV hm ⟨tb, e, lo, tl, lo, len, 0, ss, rfl, htb, hlo, hlen, hss, rfl⟩ fun H1 hm1 => ?_
  walk_at "go"
  refine w_iteNB (fun hb => ?_) fun hb => ?_
  · walk_at "go"
    exact k _ _ _ (Same.refl _) hm1 (.inl ⟨can_no.mp hb, rfl⟩)
  · have hc := can_iff.mp hb
    walk_at "go"
    refine w_lst hm1 (by walk_at "sz") fun pr H2 hm2 => ?_
    walk_at "go"
    refine w_irvv (n := len) (by omega) fun J wk => ?_
    refine w_forD wk hm2 (fun i σ N M' => ∃ W pl a1 a2 a3, σ = [some (.ref a), some (.ref tb), some (.int lo), some (.int len), some (.ref pr), some (.int ((pl : Nat) : Int)), some (.int (e.sum W)), a1, a2, a3] ∧ M' = (pr, .lst (nv W)) :: M ∧ W.length = i ∧ pl < e.ch.cs.length ∧ LR e lo len ss W pl)
      ⟨[], lo, none, none, none, rfl, rfl, rfl, hlo, LR.init hc⟩ ?_ ?_
    · rintro i _ N _ H3 hi eN ⟨W, pl, a1, a2, a3, rfl, rfl, hW, hpl, hLR⟩ hm3
      have eN2 := eN
      walk_at "go"
      refine w_spN hm3 ⟨_, _, _, rfl, hCh2.mono eN, ok.ch, hpl, rfl⟩ fun v N2 H4 eM hm4 hR => ?_
      obtain ⟨t, rfl, ht⟩ := hR
      walk_at "go"
      refine w_itt hm4 ht fun J2 wk2 => ?_
      have hex := hLR.ex (by omega)
      rw [hW] at hex
      refine w_for wk2 hm4 (fun j σ N M' => ∃ a2 a3, σ = [some (.ref a), some (.ref tb), some (.int lo), some (.int len), some (.ref pr), some (.int ((pl : Nat) : Int)), some (.int (e.sum W)), some (.int ((len - (i + 1) : Nat) : Int)), a2, a3] ∧ M' = (pr, .lst (nv W)) :: M ∧
        ∀ l x, l < j → (e.ch.outs pl)[l]? = some x → ¬ Can e lo ss (e.ch.hd x) (len - (i + 1)) (e.sum W + e.gain x)) ⟨a2, a3, rfl, rfl, fun l x h => absurd h (Nat.not_lt_zero _)⟩ ?_ ?_
      · rintro j x _ N3 _ H5 hj hx eN3 ⟨a2, a3, rfl, rfl, hno⟩ hm5
        obtain ⟨q, hq, rfl⟩ := nv_get hx
        have hqo := List.mem_of_getElem? hq
        obtain ⟨q1, q2⟩ := Ch.mem_outs.mp hqo
        have q3 : q < as.length := by rw [h4.1]; exact q1
        have q4 := h4.2 q q1
        have q5 := ok.ch.hd q q1
        have eN4 := eN3
        have eI := eN.trans (eM.trans eN3)
        have hMe3 := hMe2.mono eI
        have htb3 := htb.mono eI
        have eM3 := eM.trans eN3
        clear eN eM eN3
        have eI2 := eI
        clear eI
        walk_at "go"
        have e1 : (e.ch.ar.getD q (0, 0)).2 = e.ch.hd q := rfl
        rw [e1]
        refine w_spV hm5 ⟨_, _, _, rfl, hMe3, ok, q1, rfl⟩ fun H6 hm6 => ?_
        walk_at "go"
        refine w_spV hm6 ⟨tb, e, lo, tl, e.ch.hd q, len - (i + 1), _, ss, rfl, htb3, q5, by omega, hss, rfl⟩ fun H7 hm7 => ?_
        walk_at "go"
        refine w_iteB (fun hb => ?_) fun hb => ?_
        · walk_at "go"
          refine w_app hm7 foc0 (small_sl (by rw [List.length_map]; omega)) fun H8 hm8 => ?_
          rw [nv_app] at hm8
          walk_at "go"
          refine w_spV hm8 ⟨_, _, _, rfl, hMe3, ok, q1, rfl⟩ fun H9 hm9 => ?_
          walk_at "go"
          have es : e.sum W + e.gain q = e.sum (W ++ [q]) := by rw [Me.sum_app, Me.sum_cons, Me.sum_nil, Int.add_zero]
          rw [es]
          refine ⟨_, _, eI2, ⟨W ++ [q], e.ch.hd q, _, _, _, rfl, rfl, by rw [List.length_append, hW]; rfl, q5, hLR.step (by omega) hqo (by rw [hW]; exact can_iff.mp hb) fun z hz lz => ?_⟩, hm9⟩
          obtain ⟨l, hl⟩ := List.mem_iff_getElem?.mp hz
          rw [hW]
          exact hno l z (pw_ix (Ch.outs_lt _ _) hl hq lz) hl
        · walk_at "go"
          refine ⟨_, _, eN4, ⟨_, _, rfl, rfl, fun l x hl hxx => ?_⟩, hm7⟩
          by_cases el : l = j
          · subst el
            rw [hq] at hxx
            rw [← Option.some.inj hxx]
            exact can_no.mp hb
          · exact hno l x (by omega) hxx
      · rintro _ N3 _ H5 eN3 ⟨a2, a3, rfl, rfl, hno⟩ hm5
        exfalso
        obtain ⟨_, z, hz, hz2⟩ := hex
        obtain ⟨l, hl⟩ := List.mem_iff_getElem?.mp hz
        refine hno l z ?_ hl hz2
        rw [List.length_map]
        exact (List.getElem?_eq_some_iff.mp hl).1
    · rintro _ N _ H3 eN ⟨W, pl, a1, a2, a3, rfl, rfl, hW, hpl, hLR⟩ hm3
      walk_at "go"
      refine w_tupOfM hm3 foc0 fun l N2 H4 eN2 hl hm4 => ?_
      exact k _ _ _ (eN.trans eN2) hm4.drop (.inr ⟨l, W, rfl, hl, hLR.fin hW⟩)
end

end Pa

set_option Elab.async false
set_option linter.all false
set_option maxRecDepth 100000
set_option maxHeartbeats 4000000
-- NOMAC
namespace Pa
theorem le_li : ∀ {l m : List Nat}, l.length = m.length → li l ≤ li m → l = m ∨ Ls l m
  | [], [], _, _ => .inl rfl
  | [], b :: s, h, _ => by cases h
  | a :: r, [], h, _ => by cases h
  | a :: r, b :: s, h, q => by
    rw [li, li, List.map_cons, List.map_cons, List.cons_le_cons_iff] at q
    rcases q with q | ⟨q1, q2⟩
    · exact .inr (.inl (by omega))
    · have e : a = b := by omega
      subst e
      rcases le_li (Nat.succ.inj h) q2 with e | e
      · exact .inl (by rw [e])
      · exact .inr (.inr ⟨rfl, e⟩)
/-- no ring drifts -/
def NoneD (e : Me) (ss : List Int) : Prop := ∀ L, 1 ≤ L → L ≤ e.ch.cs.length → ∀ st, st < e.ch.cs.length + 1 - L → ¬ Can e st ss st L 0
/-- the first ring that drifts -/
def FirstD (e : Me) (ss : List Int) (r : List Nat) : Prop := ∃ L st, 1 ≤ L ∧ L ≤ e.ch.cs.length ∧ st < e.ch.cs.length + 1 - L ∧ IsLeast e st L ss r ∧
  (∀ L', 1 ≤ L' → L' < L → ∀ st', st' < e.ch.cs.length + 1 - L' → ¬ Can e st' ss st' L' 0) ∧ ∀ st', st' < e.ch.cs.length + 1 - L → ∀ r', IsLeast e st' L ss r' → r = r' ∨ Ls r r'
theorem IsLeast.can {e : Me} {st L : Nat} {ss : List Int} {r : List Nat} (h : IsLeast e st L ss r) : Can e st ss st L 0 := by
  obtain ⟨h1, h2, ⟨s, hs, h3⟩, _⟩ := h
  exact ⟨s, hs, r, h1, h2, by rw [Int.zero_add]; exact h3⟩
theorem IsLeast.one {e : Me} {st L : Nat} {ss : List Int} {r r' : List Nat} (h : IsLeast e st L ss r) (h' : IsLeast e st L ss r') : r = r' := by
  have no : ∀ (a b : List Nat), Ls a b → Ls b a → False := by
    intro a
    induction a with
    | nil => exact fun b h _ => h
    | cons x a ih =>
      intro b h1 h2
      cases b with
      | nil => exact h1
      | cons y b =>
        rcases h1 with h1 | ⟨h1, h3⟩ <;> rcases h2 with h2 | ⟨h2, h4⟩
        · omega
        · omega
        · omega
        · exact ih b h3 h4
  rcases h.2.2.2 r' h'.1 h'.2.1 h'.2.2.1 with e1 | e1
  · exact e1.symm
  · rcases h'.2.2.2 r h.1 h.2.1 h.2.2.1 with e2 | e2
    · exact e2
    · exact (no _ _ e1 e2).elim
/-- the rings found below a start, at a length -/
structure Fnd (e : Me) (ss : List Int) (L i : Nat) (rs : List (List Nat)) : Prop where
  hi : ∀ r ∈ rs, ∃ st, st < i ∧ IsLeast e st L ss r
  lo : ∀ st, st < i → Can e st ss st L 0 → ∃ r ∈ rs, IsLeast e st L ss r
  ln : rs.length ≤ i
theorem Fnd.nil {e : Me} {ss : List Int} {L : Nat} : Fnd e ss L 0 [] := ⟨(fun r h => nomatch h), fun st h => absurd h (Nat.not_lt_zero _), Nat.le_refl _⟩
theorem Fnd.no {e : Me} {ss : List Int} {L i : Nat} {rs : List (List Nat)} (h : Fnd e ss L i rs) (n : ¬ Can e i ss i L 0) : Fnd e ss L (i + 1) rs := by
  refine ⟨fun r hr => ?_, fun st hs hc => ?_, ?_⟩
  · obtain ⟨st, h1, h2⟩ := h.hi r hr
    exact ⟨st, by omega, h2⟩
  · by_cases e1 : st = i
    · subst e1
      exact absurd hc n
    · exact h.lo st (by omega) hc
  · have := h.ln
    omega
theorem Fnd.yes {e : Me} {ss : List Int} {L i : Nat} {rs : List (List Nat)} (h : Fnd e ss L i rs) {r : List Nat} (hr : IsLeast e i L ss r) : Fnd e ss L (i + 1) (rs ++ [r]) := by
  refine ⟨fun q hq => ?_, fun st hs hc => ?_, by rw [List.length_append, List.length_singleton]; have := h.ln; omega⟩
  · rcases List.mem_append.mp hq with hq | hq
    · obtain ⟨st, h1, h2⟩ := h.hi q hq
      exact ⟨st, by omega, h2⟩
    · rw [List.mem_singleton.mp hq]
      exact ⟨i, Nat.lt_succ_self _, hr⟩
  · by_cases e1 : st = i
    · subst e1
      exact ⟨r, List.mem_append_right _ List.mem_cons_self, hr⟩
    · obtain ⟨q, h1, h2⟩ := h.lo st (by omega) hc
      exact ⟨q, List.mem_append_left _ h1, h2⟩
theorem Fnd.first {e : Me} {ss : List Int} {L : Nat} {rs rs' : List (List Nat)} (h : Fnd e ss L (e.ch.cs.length + 1 - L) rs) (l1 : 1 ≤ L) (l2 : L ≤ e.ch.cs.length) (hp : rs'.Perm rs) (hs : rs'.Pairwise fun a b => li a ≤ li b)
    (hb : ∀ L', 1 ≤ L' → L' < L → ∀ st', st' < e.ch.cs.length + 1 - L' → ¬ Can e st' ss st' L' 0) {r : List Nat} (h0 : rs'[0]? = some r) : FirstD e ss r := by
  have hr : r ∈ rs' := List.mem_of_getElem? h0
  obtain ⟨st, h1, h2⟩ := h.hi r (hp.mem_iff.mp hr)
  refine ⟨L, st, l1, l2, h1, h2, hb, fun st' h3 r' h4 => ?_⟩
  obtain ⟨q, h5, h6⟩ := h.lo st' h3 h4.can
  have := h6.one h4
  subst this
  have h7 : q ∈ rs' := hp.mem_iff.mpr h5
  cases rs' with
  | nil => cases hr
  | cons a t =>
    have ea : a = r := Option.some.inj h0
    subst ea
    rcases List.mem_cons.mp h7 with e | h7
    · exact .inl e.symm
    · exact le_li (h2.1.trans h6.1.symm) ((List.pairwise_cons.mp hs).1 q h7)
end Pa

set_option Elab.async false
set_option linter.all false
set_option maxRecDepth 100000
set_option maxHeartbeats 4000000
namespace Pa
open PySem L2
local macro_rules | `(tactic| walk_at "lt") => `(tactic| first
  | assumption
  | omega
  | (simp only [List.length_map, List.length_range, List.length_cons, List.length_nil, List.length_append, List.length_replicate] at *; omega))
local macro_rules | `(tactic| walk_at "fo") => `(tactic| first | exact foc0 | (refine' focS ?k1; (case k1 => walk_at "fo")))
local macro_rules | `(tactic| walk_at "sq") => `(tactic| first
  | assumption
  | (refine' SqL.of ?k1; (case k1 => assumption))
  | (refine' SqT.of ?k1; (case k1 => assumption))
  | (refine' Or.inl ?k1; (case k1 => walk_at "sq"))
  | (refine' Or.inr ?k1; (case k1 => walk_at "sq"))
  | (refine' Same.seq ?k1 ?k2; (case k1 => assumption); (case k2 => walk_at "sq"))
  | (refine' Same.sqt ?k1 ?k2; (case k1 => assumption); (case k2 => walk_at "sq"))
  | (refine' Same.sqe ?k1 ?k2; (case k1 => assumption); (case k2 => walk_at "sq"))
  | (refine' same_at ?k1 ?k2; (case k1 => assumption); (case k2 => walk_at "sq")))
local macro_rules | `(tactic| walk_at "ai") => `(tactic| first
  | assumption
  | (refine' ati_ints ?k1; (case k1 => walk_at "lt"))
  | (refine' ati_refs ?k1; (case k1 => walk_at "lt"))
  | (refine' ati_nat ?k1; (case k1 => assumption))
  | k_dflt rfl)
local macro_rules | `(tactic| walk_at "lk") => `(tactic| first
  | assumption
  | exact lk_hd
  | (refine' lk_tl ?k1 ?k2; (case k1 => decide +kernel); (case k2 => walk_at "lk"))
  | exact lk_nil)
local macro_rules | `(tactic| walk_at "sz") => `(tactic| first
  | exact small_sz (by simp only [List.length_cons, List.length_nil, List.length_append, List.length_map, List.length_range, List.length_set, List.length_replicate]; omega))
local macro_rules | `(tactic| walk_at "cc") => `(tactic| first
  | (show (0 : Int) < _; first | decide | omega)
  | exact Or.inl ⟨by omega, by omega⟩
  | exact Or.inr ⟨by omega, by omega⟩
  | exact ⟨by decide, by decide, by decide⟩)
local macro_rules | `(tactic| walk_at "st") => `(tactic| first
  | with_reducible refine w_seq ?_
  | with_reducible refine w_asg ?_
  | ((with_reducible refine' w_var ?k1 ?_); (case k1 => k_dflt rfl))
  | with_reducible refine w_c ?_
  | with_reducible refine w_op ?_
  | with_reducible refine w_cons ?_
  | with_reducible refine w_nil ?_
  | with_reducible refine w_gname ?_
  | with_reducible refine w_I0 ?_
  | with_reducible refine w_fld ?_
  | ((with_reducible refine' w_ins ?k1 ?k2 ?k3 ?k4 ?k5 ?_); (case k1 => assumption); (case k2 => walk_at "sq"); (case k3 => assumption); (case k4 => assumption); (case k5 => walk_at "lk"))
  | ((with_reducible refine' w_ixT ?k1 ?k2 ?k3 ?_); (case k1 => assumption); (case k2 => walk_at "sq"); (case k3 => walk_at "ai"))
  | ((with_reducible refine' w_ixL ?k1 ?k2 ?k3 ?_); (case k1 => assumption); (case k2 => walk_at "sq"); (case k3 => walk_at "ai"))
  | ((with_reducible refine' w_ixM ?k1 ?k2 ?k3 ?_); (case k1 => assumption); (case k2 => walk_at "fo"); (case k3 => walk_at "ai"))
  | with_reducible refine w_cb ?_
  | with_reducible refine w_test ?_
  | with_reducible refine w_if ?_
  | with_reducible refine w_B ?_
  | with_reducible refine w_not ?_
  | with_reducible refine w_and ?_
  | with_reducible refine w_or ?_
  | with_reducible refine w_eqI ?_
  | with_reducible refine w_neI ?_
  | with_reducible refine w_isN ?_
  | with_reducible refine w_notN ?_
  | with_reducible refine w_isB ?_
  | with_reducible refine w_bl ?_
  | with_reducible refine w_ret ?_
  | with_reducible refine w_next ?_
  | with_reducible refine w_brk ?_
  | with_reducible refine w_drop ?_
  | with_reducible refine w_call ?_
  | with_reducible refine w_un ?_
  | with_reducible refine w_U ?_
  | with_reducible refine w_andV ?_
  | with_reducible refine w_orV ?_
  | with_reducible refine w_notV ?_
  | with_reducible refine w_ifE ?_
  | with_reducible refine w_chain ?_
  | with_reducible refine w_gsub ?_
  | with_reducible refine w_gnil ?_
  | with_reducible refine w_gcons ?_
  | with_reducible refine w_ipI ?_
  | with_reducible refine w_fldS ?_
  | with_reducible refine w_tru ?_
  | with_reducible refine w_abs ?_
  | with_reducible refine w_maxB ?_
  | with_reducible refine w_minB ?_
  | with_reducible refine w_int ?_
  | with_reducible refine w_tupE ?_
  | with_reducible refine w_lstE ?_
  | with_reducible refine w_bm ?_
  | with_reducible refine w_bm0 ?_
  | with_reducible refine w_mth ?_
  | with_reducible refine w_for0 ?_
  | with_reducible refine w_lc0 ?_
  | with_reducible refine w_il ?_
  | with_reducible refine w_it ?_
  | with_reducible refine w_is ?_
  | with_reducible refine w_ie ?_
  | with_reducible refine w_ir1 ?_
  | with_reducible refine w_ir2 ?_
  | with_reducible refine w_irv ?_
  | with_reducible refine w_rg1 ?_
  | with_reducible refine w_rg1v ?_
  | with_reducible refine w_lrg ?_
  | with_reducible refine w_make ?_
  | with_reducible refine w_yes ?_
  | with_reducible refine w_ost ?_
  | with_reducible refine w_mkoE ?_
  | with_reducible refine w_is_int_int ?_
  | with_reducible refine w_is_int_bool ?_
  | with_reducible refine w_is_int_str ?_
  | with_reducible refine w_is_int_tuple ?_
  | with_reducible refine w_is_bl_int ?_
  | with_reducible refine w_is_bl_bool ?_
  | with_reducible refine w_is_bl_str ?_
  | with_reducible refine w_is_bl_tuple ?_
  | with_reducible refine w_is_non_int ?_
  | with_reducible refine w_is_non_bool ?_
  | with_reducible refine w_is_non_str ?_
  | with_reducible refine w_is_non_tuple ?_
  | with_reducible refine w_is_str_int ?_
  | with_reducible refine w_is_str_bool ?_
  | with_reducible refine w_is_str_str ?_
  | with_reducible refine w_is_str_tuple ?_
  | ((with_reducible refine' w_insM ?k1 ?k2 ?k3 ?k4 ?k5 ?_); (case k1 => assumption); (case k2 => walk_at "fo"); (case k3 => assumption); (case k4 => assumption); (case k5 => walk_at "lk"))
  | ((with_reducible refine' w_ixE ?k1 ?k2 ?k3 ?_); (case k1 => assumption); (case k2 => walk_at "sq"); (case k3 => walk_at "ai"))
  | ((with_reducible refine' w_len ?k1 ?k2 ?_); (case k1 => assumption); (case k2 => walk_at "sq"))
  | ((with_reducible refine' w_lenM ?k1 ?k2 ?_); (case k1 => assumption); (case k2 => walk_at "fo"))
  | ((with_reducible refine' w_I ?k1 ?_); (case k1 => walk_at "cc"))
  | ((with_reducible refine' w_gtup ?k1 ?k2 ?_); (case k1 => refine' Mem.sqt ?m0 ?h0; (case m0 => assumption); (case h0 => walk_at "sq")); (case k2 => k_dflt rfl))
  | ((with_reducible refine' w_aug ?k1 ?_); (case k1 => k_dflt rfl))
  | ((with_reducible refine' w_truM ?k1 ?k2 ?_); (case k1 => assumption); (case k2 => walk_at "fo"))
  | ((with_reducible refine' w_truL ?k1 ?k2 ?_); (case k1 => assumption); (case k2 => walk_at "sq"))
  | ((with_reducible refine' w_tyL ?k1 ?k2 ?_); (case k1 => assumption); (case k2 => walk_at "fo"))
  | ((with_reducible refine' w_mthI ?k1 ?k2 ?k3 ?_); (case k1 => assumption); (case k2 => walk_at "sq"); (case k3 => walk_at "lk"))
  | ((with_reducible refine' w_sumM ?k1 ?k2 ?_); (case k1 => assumption); (case k2 => walk_at "fo"))
  | ((with_reducible refine' w_eqDN ?k1 ?k2 ?k3 ?_); (case k1 => assumption); (case k2 => walk_at "sq"); (case k3 => walk_at "sq"))
  | ((with_reducible refine' w_is_tup_int ?k1 ?k2 ?_); (case k1 => assumption); (case k2 => walk_at "sq"))
  | ((with_reducible refine' w_is_tup_bool ?k1 ?k2 ?_); (case k1 => assumption); (case k2 => walk_at "sq"))
  | ((with_reducible refine' w_is_tup_str ?k1 ?k2 ?_); (case k1 => assumption); (case k2 => walk_at "sq"))
  | ((with_reducible refine' w_is_tup_tuple ?k1 ?k2 ?_); (case k1 => assumption); (case k2 => walk_at "sq"))
  | dsimp only)
local macro_rules | `(tactic| walk_at "go") => `(tactic| repeat (walk_at "st"))
section
variable {P : Program} {w : World} {K : PySem.W.Frag} {mg : Str → Option Value} {base : Heap} {C : Ad}
abbrev N_Drift_init : List Str := ["self", "ring", "by"]
abbrev P_Drift_init : List Str := ["self", "ring", "by"]
theorem sc_Drift_init : FnScope N_Drift_init P_Drift_init (defScope S_Drift_init) := ⟨rfl, rfl, rfl, by decide +kernel, rfl, by decide +kernel, by decide +kernel⟩
-- slots: 0 self, 1 ring, 2 by
def spDriftInit (K : PySem.W.Frag) (C : Ad) : Sp := spM fun vs I M R => ∃ (x dx t : Addr) (M0 : Mu) (l : List Nat) (b : Int), vs = [.ref x, .ref t, .int b] ∧ M = (x, .ins C.dr dx []) :: M0 ∧ TupN K I t l ∧
  R = fun v N M' => v = .non ∧ ∃ r, M' = (x, .ins C.dr dx (drF r b)) :: M0 ∧ TupN K N r l
theorem ok_Drift_init {f : Addr} {fd : FuncData} (F : FnP K "__init__" "Drift.__init__" S_Drift_init f fd) (T : Txt K mg C) : FnOk P w K mg base CX0 1 f fd P_Drift_init (spDriftInit K C) := by
  have nd := sc_Drift_init.nd
  refine F.ok sc_Drift_init (fun vs H Q E h => ?_) (fun cdv A outer s H vs Q E hr h => ?_)
  · obtain ⟨I, M, R, ⟨x, dx, t, M0, l, b, rfl, _⟩, _⟩ := h
    rfl
  obtain ⟨I, M, R, ⟨x, dx, t, M0, l, b, rfl, rfl, ht, rfl⟩, hm, k⟩ := h
  have n1 := T.n_ring
  have n2 := T.n_by
  have n3 := T.clDr
  refine ⟨_, PSs.nox (pss_cons (ps_fld (pv 0) (pe_callTy cl_tuple (by rfl) T.b_tuple PyProof.Rows.boot_tuple (pa_cons (pv 1) pa_nil)) rfl)
    (pss_one (ps_fld (pv 0) (pv 2) rfl))), ?_⟩
  try dsimp only [cxOf, Cx.nox, Cx.wish]
  walk_at "go"
  refine w_tupOf hm (.inr ht) fun r N H1 eN hr2 hm1 => ?_
  walk_at "go"
  refine w_put hm1 foc0 n3 n1 (by decide) fun H2 hm2 => ?_
  walk_at "go"
  refine w_put hm2 foc0 n3 n2 (Nat.lt_trans (putF_lt (n := 1) (by decide)) (by decide)) fun H3 hm3 => ?_
  exact k _ _ _ _ eN hm3 ⟨rfl, r, rfl, hr2⟩
theorem w_isiI {I H : Hp} {M : Mu} {a D dx : Addr} {fs : List (Str × V)} {Q : VK} (hm : Mem I M H) (h : I a = some (.ins D dx fs)) (hc : Cls K D) (hi : IsC K D) (hk : PySem.W.kitOne K (.ref D) (.ref D) = some true) (q : Q (.bl true) H) : rIsi K [.ref a, .ref D] H Q :=
  w_isi (.own D) (.base (.ins (hm.ex _ _ h) hc hi.ha hi.hn hi.ht hi.hm)) hk q
abbrev N_Drift_eq : List Str := ["self", "other"]
abbrev P_Drift_eq : List Str := ["self", "other"]
theorem sc_Drift_eq : FnScope N_Drift_eq P_Drift_eq (defScope S_Drift_eq) := ⟨rfl, rfl, rfl, by decide +kernel, rfl, by decide +kernel, by decide +kernel⟩
-- slots: 0 self, 1 other
def spDriftEq (K : PySem.W.Frag) (C : Ad) : Sp := spV fun vs I v => ∃ (a b : Addr) (l m : List Nat) (s t : Int), vs = [.ref a, .ref b] ∧ DrAt K C I a l s ∧ DrAt K C I b m t ∧ v = .bl (decide (l = m) && decide (s = t))
theorem ok_Drift_eq {f : Addr} {fd : FuncData} (F : FnP K "__eq__" "Drift.__eq__" S_Drift_eq f fd) (T : Txt K mg C) : FnOk P w K mg base CX0 1 f fd P_Drift_eq (spDriftEq K C) := by
  have nd := sc_Drift_eq.nd
  refine F.ok sc_Drift_eq (fun vs H Q E h => ?_) (fun cdv A outer s H vs Q E hr h => ?_)
  · obtain ⟨I, M, v, ⟨a, b, l, m, s, t, rfl, _⟩, _⟩ := h
    rfl
  obtain ⟨I, M, v, ⟨a, b, l, m, s, t, rfl, ⟨da, ra, ha, ha2⟩, ⟨db, rb, hb, hb2⟩, rfl⟩, hm, k⟩ := h
  have n1 := T.n_ring
  have n2 := T.n_by
  have n3 := T.clDr
  refine ⟨_, PSs.nox (pss_one (ps_ret (pe_and (pe_callB call_isi (by rfl) T.b_isinstance PyProof.Rows.boot_isinstance (pa_cons (pv 1) (pa_cons (pe_cls T.c_Drift) pa_nil))) (pe_and (pe_cmpR (op_eqD hr.units) (pe_fld (pv 0) rfl) (pe_fld (pv 1) rfl) (nomark _)) (pe_one (pe_cmpR op_eq (pe_fld (pv 0) rfl) (pe_fld (pv 1) rfl) (nomark _))))))), ?_⟩
  try dsimp only [cxOf, Cx.nox, Cx.wish]
  walk_at "go"
  refine w_isiI hm hb n3 T.isDr T.kitDr ?_
  walk_at "go"
  refine iteT ?_
  walk_at "go"
  refine w_ite (fun h1 => ?_) fun h1 => ?_
  · rw [decide_eq_true h1, Bool.true_and] at k
    walk_at "go"
    exact k _ hm
  · rw [decide_eq_false h1, Bool.false_and] at k
    exact k _ hm
/-- what sorted gives of tuples of numbers -/
theorem dpv_nats {K : PySem.W.Frag} {H : Hp} {t : Addr} {l : List Nat} (h : TupN K H t l) : Dp K H (.ref t) (.tuple (l.map fun (x : Nat) => PyData.int (x : Int))) := .tup h (dp_nats l)
theorem tup_depth (l : List Nat) : PyData.depth (.tuple (l.map fun (x : Nat) => PyData.int (x : Int))) ≤ 60 := by
  have h := (lay_nats l).2
  simp only [PyData.depth]
  omega
abbrev zV (z : Addr × List Nat) : V × PyData := (.ref z.1, .tuple (z.2.map fun (x : Nat) => PyData.int (x : Int)))
theorem AllAt.zip {R : Addr → List Nat → Prop} {ts : List Addr} {ls : List (List Nat)} (h : AllAt R ts ls) : ∀ z ∈ ts.zip ls, R z.1 z.2 := fun z hz => by
  obtain ⟨j, hj⟩ := List.mem_iff_getElem?.mp hz
  rw [List.getElem?_zip_eq_some] at hj
  exact h.2 j _ _ hj.1 hj.2
theorem AllAt.unzip {α : Type} {R : Addr → α → Prop} {zs : List (Addr × α)} (h : ∀ z ∈ zs, R z.1 z.2) : AllAt R (zs.map (·.1)) (zs.map (·.2)) := by
  refine ⟨by rw [List.length_map, List.length_map], fun j t l h1 h2 => ?_⟩
  rw [List.getElem?_map] at h1 h2
  cases e : zs[j]? with
  | none =>
    rw [e] at h1
    cases h1
  | some z =>
    rw [e] at h1 h2
    rw [← Option.some.inj h1, ← Option.some.inj h2]
    exact h z (List.mem_of_getElem? e)
theorem w_sortedT {I H : Hp} {M : Mu} {a : Addr} {f : HO → Mu} {ts : List Addr} {ls : List (List Nat)} {Q : VK} (hm : Mem I M H) (hf : Foc M a (.lst (ts.map V.ref)) f) (hts : AllAt (TupN K I) ts ls) (hne : ∀ l ∈ ls, l ≠ [])
    (q : ∀ ts' ls' p N H', AllAt (TupN K I) ts' ls' → ls'.Perm ls → ls'.Pairwise (fun a b => li a ≤ li b) → Same I N → N p = some (.lst (ts'.map V.ref)) → Mem N M H' → Q (.ref p) H') : rSortedD K [.ref a] H Q := by
  have e1 : (ts.zip ls).map (·.1) = ts := by rw [List.map_fst_zip]; exact Nat.le_of_eq hts.1
  have e2 : (ts.zip ls).map (·.2) = ls := by rw [List.map_snd_zip]; exact Nat.le_of_eq hts.1.symm
  refine ⟨a, ts.map V.ref, (ts.zip ls).map zV, rfl, SqL.of (hf.at hm), ?_, ?_, ?_, ?_, ?_, fun p hp => ?_⟩
  · rw [List.map_map]
    show _ = (ts.zip ls).map (V.ref ∘ (·.1))
    rw [← List.map_map, e1]
  · intro b hb
    obtain ⟨z, hz, rfl⟩ := List.mem_map.mp hb
    exact dpv_nats (hm.sqt (hts.zip z hz))
  · intro d hd d' hd'
    rw [List.map_map] at hd hd'
    obtain ⟨z, hz, rfl⟩ := List.mem_map.mp hd
    obtain ⟨z', hz', rfl⟩ := List.mem_map.mp hd'
    show PySem.W.alike (.tuple _) (.tuple _) = true
    simp only [PySem.W.alike]
    exact alike_nats _ _
  · refine .inl fun d hd => ?_
    rw [List.map_map] at hd
    obtain ⟨z, hz, rfl⟩ := List.mem_map.mp hd
    have hl : z.2 ∈ ls := by rw [← e2]; exact List.mem_map.mpr ⟨z, hz, rfl⟩
    cases ez : z.2 with
    | nil => exact absurd ez (hne _ hl)
    | cons x r =>
      refine ⟨.int (x : Int), r.map fun (x : Nat) => PyData.int (x : Int), ?_⟩
      show PyData.tuple (z.2.map _) = _
      rw [ez]
      rfl
  · intro b hb
    obtain ⟨z, hz, rfl⟩ := List.mem_map.mp hb
    exact tup_depth _
  · have le : ∀ x y : Addr × List Nat, PySem.W.dataLe false (·.2) (zV x) (zV y) = decide (li x.2 ≤ li y.2) := fun x y => by
      rw [PySem.W.dataLe_eq]
      exact le_nats _ _
    have e3 : ((ts.zip ls).map zV).mergeSort (PySem.W.dataLe false (·.2)) = ((ts.zip ls).mergeSort fun x y => decide (li x.2 ≤ li y.2)).map zV := by
      rw [← List.map_mergeSort]
      exact fun x _ y _ => (le x y).symm
    have e4 : (((ts.zip ls).mergeSort fun x y => decide (li x.2 ≤ li y.2)).map zV).map (·.1) = (((ts.zip ls).mergeSort fun x y => decide (li x.2 ≤ li y.2)).map (·.1)).map V.ref := by
      rw [List.map_map, List.map_map]
      rfl
    rw [e3, e4]
    have hpm := List.mergeSort_perm (ts.zip ls) fun x y => decide (li x.2 ≤ li y.2)
    refine q (((ts.zip ls).mergeSort fun x y => decide (li x.2 ≤ li y.2)).map (·.1)) (((ts.zip ls).mergeSort fun x y => decide (li x.2 ≤ li y.2)).map (·.2)) p _ _ (AllAt.unzip fun z hz => hts.zip z (hpm.mem_iff.mp hz)) ?_ ?_ (Same.new (hm.free hp)) upd_same ?_
    · have := hpm.map (·.2)
      rw [e2] at this
      exact this
    · refine List.pairwise_map.mpr ((List.pairwise_mergeSort (fun a b c h1 h2 => ?_) (fun a b => ?_) (ts.zip ls)).imp fun h => of_decide_eq_true h)
      · exact decide_eq_true (List.le_trans (of_decide_eq_true h1) (of_decide_eq_true h2))
      · rw [Bool.or_eq_true, decide_eq_true_iff, decide_eq_true_iff]
        exact List.le_total _ _
    · exact hm.imm hp
end

end Pa

set_option Elab.async false
set_option linter.all false
set_option maxRecDepth 100000
set_option maxHeartbeats 4000000
namespace Pa
open PySem L2
local macro_rules | `(tactic| walk_at "lt") => `(tactic| first
  | assumption
  | omega
  | (simp only [List.length_map, List.length_range, List.length_cons, List.length_nil, List.length_append, List.length_replicate] at *; omega))
local macro_rules | `(tactic| walk_at "fo") => `(tactic| first | exact foc0 | (refine' focS ?k1; (case k1 => walk_at "fo")))
local macro_rules | `(tactic| walk_at "sq") => `(tactic| first
  | assumption
  | (refine' SqL.of ?k1; (case k1 => assumption))
  | (refine' SqT.of ?k1; (case k1 => assumption))
  | (refine' Or.inl ?k1; (case k1 => walk_at "sq"))
  | (refine' Or.inr ?k1; (case k1 => walk_at "sq"))
  | (refine' Same.seq ?k1 ?k2; (case k1 => assumption); (case k2 => walk_at "sq"))
  | (refine' Same.sqt ?k1 ?k2; (case k1 => assumption); (case k2 => walk_at "sq"))
  | (refine' Same.sqe ?k1 ?k2; (case k1 => assumption); (case k2 => walk_at "sq"))
  | (refine' same_at ?k1 ?k2; (case k1 => assumption); (case k2 => walk_at "sq")))
local macro_rules | `(tactic| walk_at "ai") => `(tactic| first
  | assumption
  | (refine' ati_ints ?k1; (case k1 => walk_at "lt"))
  | (refine' ati_refs ?k1; (case k1 => walk_at "lt"))
  | (refine' ati_nat ?k1; (case k1 => assumption))
  | k_dflt rfl)
local macro_rules | `(tactic| walk_at "lk") => `(tactic| first
  | assumption
  | exact lk_hd
  | (refine' lk_tl ?k1 ?k2; (case k1 => decide +kernel); (case k2 => walk_at "lk"))
  | exact lk_nil)
local macro_rules | `(tactic| walk_at "sz") => `(tactic| first
  | exact small_sz (by simp only [List.length_cons, List.length_nil, List.length_append, List.length_map, List.length_range, List.length_set, List.length_replicate]; omega))
local macro_rules | `(tactic| walk_at "cc") => `(tactic| first
  | (show (0 : Int) < _; first | decide | omega)
  | exact Or.inl ⟨by omega, by omega⟩
  | exact Or.inr ⟨by omega, by omega⟩
  | exact ⟨by decide, by decide, by decide⟩)
local macro_rules | `(tactic| walk_at "st") => `(tactic| first
  | with_reducible refine w_seq ?_
  | with_reducible refine w_asg ?_
  | ((with_reducible refine' w_var ?k1 ?_); (case k1 => k_dflt rfl))
  | with_reducible refine w_c ?_
  | with_reducible refine w_op ?_
  | with_reducible refine w_cons ?_
  | with_reducible refine w_nil ?_
  | with_reducible refine w_gname ?_
  | with_reducible refine w_I0 ?_
  | with_reducible refine w_fld ?_
  | ((with_reducible refine' w_ins ?k1 ?k2 ?k3 ?k4 ?k5 ?_); (case k1 => assumption); (case k2 => walk_at "sq"); (case k3 => assumption); (case k4 => assumption); (case k5 => walk_at "lk"))
  | ((with_reducible refine' w_ixT ?k1 ?k2 ?k3 ?_); (case k1 => assumption); (case k2 => walk_at "sq"); (case k3 => walk_at "ai"))
  | ((with_reducible refine' w_ixL ?k1 ?k2 ?k3 ?_); (case k1 => assumption); (case k2 => walk_at "sq"); (case k3 => walk_at "ai"))
  | ((with_reducible refine' w_ixM ?k1 ?k2 ?k3 ?_); (case k1 => assumption); (case k2 => walk_at "fo"); (case k3 => walk_at "ai"))
  | with_reducible refine w_cb ?_
  | with_reducible refine w_test ?_
  | with_reducible refine w_if ?_
  | with_reducible refine w_B ?_
  | with_reducible refine w_not ?_
  | with_reducible refine w_and ?_
  | with_reducible refine w_or ?_
  | with_reducible refine w_eqI ?_
  | with_reducible refine w_neI ?_
  | with_reducible refine w_isN ?_
  | with_reducible refine w_notN ?_
  | with_reducible refine w_isB ?_
  | with_reducible refine w_bl ?_
  | with_reducible refine w_ret ?_
  | with_reducible refine w_next ?_
  | with_reducible refine w_brk ?_
  | with_reducible refine w_drop ?_
  | with_reducible refine w_call ?_
  | with_reducible refine w_un ?_
  | with_reducible refine w_U ?_
  | with_reducible refine w_andV ?_
  | with_reducible refine w_orV ?_
  | with_reducible refine w_notV ?_
  | with_reducible refine w_ifE ?_
  | with_reducible refine w_chain ?_
  | with_reducible refine w_gsub ?_
  | with_reducible refine w_gnil ?_
  | with_reducible refine w_gcons ?_
  | with_reducible refine w_ipI ?_
  | with_reducible refine w_fldS ?_
  | with_reducible refine w_tru ?_
  | with_reducible refine w_abs ?_
  | with_reducible refine w_maxB ?_
  | with_reducible refine w_minB ?_
  | with_reducible refine w_int ?_
  | with_reducible refine w_tupE ?_
  | with_reducible refine w_lstE ?_
  | with_reducible refine w_bm ?_
  | with_reducible refine w_bm0 ?_
  | with_reducible refine w_mth ?_
  | with_reducible refine w_for0 ?_
  | with_reducible refine w_lc0 ?_
  | with_reducible refine w_il ?_
  | with_reducible refine w_it ?_
  | with_reducible refine w_is ?_
  | with_reducible refine w_ie ?_
  | with_reducible refine w_ir1 ?_
  | with_reducible refine w_ir2 ?_
  | with_reducible refine w_irv ?_
  | with_reducible refine w_rg1 ?_
  | with_reducible refine w_rg1v ?_
  | with_reducible refine w_lrg ?_
  | with_reducible refine w_make ?_
  | with_reducible refine w_yes ?_
  | with_reducible refine w_ost ?_
  | with_reducible refine w_mkoE ?_
  | with_reducible refine w_is_int_int ?_
  | with_reducible refine w_is_int_bool ?_
  | with_reducible refine w_is_int_str ?_
  | with_reducible refine w_is_int_tuple ?_
  | with_reducible refine w_is_bl_int ?_
  | with_reducible refine w_is_bl_bool ?_
  | with_reducible refine w_is_bl_str ?_
  | with_reducible refine w_is_bl_tuple ?_
  | with_reducible refine w_is_non_int ?_
  | with_reducible refine w_is_non_bool ?_
  | with_reducible refine w_is_non_str ?_
  | with_reducible refine w_is_non_tuple ?_
  | with_reducible refine w_is_str_int ?_
  | with_reducible refine w_is_str_bool ?_
  | with_reducible refine w_is_str_str ?_
  | with_reducible refine w_is_str_tuple ?_
  | ((with_reducible refine' w_insM ?k1 ?k2 ?k3 ?k4 ?k5 ?_); (case k1 => assumption); (case k2 => walk_at "fo"); (case k3 => assumption); (case k4 => assumption); (case k5 => walk_at "lk"))
  | ((with_reducible refine' w_ixE ?k1 ?k2 ?k3 ?_); (case k1 => assumption); (case k2 => walk_at "sq"); (case k3 => walk_at "ai"))
  | ((with_reducible refine' w_len ?k1 ?k2 ?_); (case k1 => assumption); (case k2 => walk_at "sq"))
  | ((with_reducible refine' w_lenM ?k1 ?k2 ?_); (case k1 => assumption); (case k2 => walk_at "fo"))
  | ((with_reducible refine' w_I ?k1 ?_); (case k1 => walk_at "cc"))
  | ((with_reducible refine' w_gtup ?k1 ?k2 ?_); (case k1 => refine' Mem.sqt ?m0 ?h0; (case m0 => assumption); (case h0 => walk_at "sq")); (case k2 => k_dflt rfl))
  | ((with_reducible refine' w_aug ?k1 ?_); (case k1 => k_dflt rfl))
  | ((with_reducible refine' w_truM ?k1 ?k2 ?_); (case k1 => assumption); (case k2 => walk_at "fo"))
  | ((with_reducible refine' w_truL ?k1 ?k2 ?_); (case k1 => assumption); (case k2 => walk_at "sq"))
  | ((with_reducible refine' w_tyL ?k1 ?k2 ?_); (case k1 => assumption); (case k2 => walk_at "fo"))
  | ((with_reducible refine' w_mthI ?k1 ?k2 ?k3 ?_); (case k1 => assumption); (case k2 => walk_at "sq"); (case k3 => walk_at "lk"))
  | ((with_reducible refine' w_sumM ?k1 ?k2 ?_); (case k1 => assumption); (case k2 => walk_at "fo"))
  | ((with_reducible refine' w_eqDN ?k1 ?k2 ?k3 ?_); (case k1 => assumption); (case k2 => walk_at "sq"); (case k3 => walk_at "sq"))
  | ((with_reducible refine' w_is_tup_int ?k1 ?k2 ?_); (case k1 => assumption); (case k2 => walk_at "sq"))
  | ((with_reducible refine' w_is_tup_bool ?k1 ?k2 ?_); (case k1 => assumption); (case k2 => walk_at "sq"))
  | ((with_reducible refine' w_is_tup_str ?k1 ?k2 ?_); (case k1 => assumption); (case k2 => walk_at "sq"))
  | ((with_reducible refine' w_is_tup_tuple ?k1 ?k2 ?_); (case k1 => assumption); (case k2 => walk_at "sq"))
  | dsimp only)
local macro_rules | `(tactic| walk_at "go") => `(tactic| repeat (walk_at "st"))
section
variable {P : Program} {w : World} {K : PySem.W.Frag} {mg : Str → Option Value} {base : Heap} {C : Ad}
theorem iv_get {l : List Int} {i : Nat} {v : V} (h : (l.map V.int)[i]? = some v) : ∃ x, l[i]? = some x ∧ v = .int x := by
  rw [List.getElem?_map] at h
  cases e : l[i]? with
  | none =>
    rw [e] at h
    cases h
  | some x =>
    rw [e] at h
    exact ⟨x, rfl, (Option.some.inj h).symm⟩
abbrev N_first_drift : List Str := ["meter", "senses", "many", "tables", "start", "last_row", "length", "found", "ring", "place", "sense", "arrow"]
abbrev P_first_drift : List Str := ["meter", "senses"]
theorem sc_first_drift : FnScope N_first_drift P_first_drift (defScope S_first_drift) := ⟨rfl, rfl, rfl, by decide +kernel, rfl, by decide +kernel, by decide +kernel⟩
-- slots: 0 meter (cell), 1 senses, 2 many (cell), 3 tables, 4 start (cell), 5 last_row (cell), 6 length, 7 found, 8 ring, 9 place, 10 sense, 11 arrow
def spFirst (K : PySem.W.Frag) (C : Ad) : Sp := spN fun vs I R => ∃ (a sn : Addr) (e : Me) (ss : List Int), vs = [.ref a, .ref sn] ∧ MeAt K C I a e ∧ e.Ok ∧ SqT K I sn (ss.map V.int) ∧ ss.length ≤ 2 ∧ (∀ s ∈ ss, s = 1 ∨ s = -1) ∧
  R = fun v N => (NoneD e ss ∧ v = .non) ∨ (∃ t r, v = .ref t ∧ DrAt K C N t r (e.sum r) ∧ FirstD e ss r)
theorem ok_first_drift {f : Addr} {fd : FuncData} (F : FnP K "first_drift" "first_drift" S_first_drift f fd) (T : Txt K mg C) (G_arrow_gain : FnAt P w K mg base "arrow_gain" 1 P_arrow_gain (spGain K C)) (G_rest_rows : FnAt P w K mg base "rest_rows" 2 P_rest_rows (spRest K C)) (G_least_ring : FnAt P w K mg base "least_ring" 4 P_least_ring (spLeast K C)) (G_Drift : MkAt P w K mg base "Drift" C.dr 1 P_Drift_init (spDriftInit K C)) : FnOk P w K mg base CX0 5 f fd P_first_drift (spFirst K C) := by
  have nd := sc_first_drift.nd
  refine F.ok sc_first_drift (fun vs H Q E h => ?_) (fun cdv A outer s H vs Q E hr h => ?_)
  · obtain ⟨I, M, R, ⟨a, sn, e, ss, rfl, _⟩, _⟩ := h
    rfl
  obtain ⟨I, M, R, ⟨a, sn, e, ss, rfl, hMe, ok, hsn, hsl, hss, rfl⟩, hm, k⟩ := h
  have hMe2 := hMe
  obtain ⟨dx, ca, qa, hI, hCh, h5⟩ := hMe
  obtain ⟨dx2, p, r, as, h1, h2, h3, h4⟩ := hCh
  have n1 := T.n_costs
  have n2 := T.clCh
  have n3 := T.n_arrows
  have n5 := T.clMe
  have n6 := T.n_chart
  have n16 := ok.ch.n16
  refine ⟨_, PSs.nox (pss_cons (ps_set (i := 2) nd rfl (Or.inr rfl) (pe_callB cl_len (by rfl) T.b_len PySem.boot_len (pa_cons (pe_fld (pe_fld (pv 0) rfl) rfl) pa_nil)))
    (pss_cons (ps_set (i := 3) nd rfl (Or.inl rfl) (pe_lst pa_nil))
    (pss_cons (ps_for PassesOwn.never rfl (pi_range1 rfl T.b_range (pa_cons (pv 2) pa_nil)) (pg_name (i := 4) nd rfl (Or.inr rfl))
      (pss_cons (ps_set (i := 5) nd rfl (Or.inr rfl) (pe_lc (own := [("place", 9)]) (g := (gName 9)) (tt := tYes) (te := (tIf (tTest (tOp rEq (tVar 9) (tVar 4))) (tC (.int 0)) (tC .non))) rfl nd (pi_range1 rfl T.b_range (pa_cons (pv 2) pa_nil)) (blkOk_by (N := N_first_drift) (sc := defScope S_first_drift) (by decide +kernel)) (fun _ _ _ _ _ => (pg_name (i := 9) nd rfl (Or.inl rfl))) (fun _ _ _ _ _ => pts_nil) (fun _ _ _ _ _ => (pe_ifExp (pt_cmpR op_eq (pv 9) (pv 4) (nomark _)) pe_int pe_non))))
      (pss_one (ps_expr (pe_bm PySem.F.plainAttrs_list PySem.F.slot_list_append PySem.F.type_list_append mt_append (pv 3) (pa_cons (pe_lc (own := [("sense", 10)]) (g := (gName 10)) (tt := tYes) (te := (tTup (tCons (tVar 10) (tCons (tCall (spRest K C) [] E0 (tCons (tVar 0) (tCons (tVar 5) (tCons (tVar 4) (tCons (tOp (rI0 fun i j => .int (i - j)) (tVar 2) (tVar 4)) (tCons (tVar 10) tNil)))))) tNil)))) rfl nd (pi_tup (pv 1)) (blkOk_by (N := N_first_drift) (sc := defScope S_first_drift) (by decide +kernel)) (fun _ _ _ _ _ => (pg_name (i := 10) nd rfl (Or.inl rfl))) (fun _ _ _ _ _ => pts_nil) (fun _ _ _ _ _ => (pe_tup (pa_cons (pv 10) (pa_cons (pe_fn G_rest_rows (hr.mono (by decide)) (pa_cons (pv 0) (pa_cons (pv 5) (pa_cons (pv 4) (pa_cons (pe_op op_sub (pv 2) (pv 4)) (pa_cons (pv 10) pa_nil)))))) pa_nil))))) pa_nil))))))
    (pss_cons (ps_for PassesOwn.never rfl (pi_range2 rfl T.b_range (pa_cons pe_int (pa_cons (pe_op op_add (pv 2) pe_int) pa_nil))) (pg_name (i := 6) nd rfl (Or.inl rfl))
      (pss_cons (ps_set (i := 7) nd rfl (Or.inl rfl) (pe_lst pa_nil))
      (pss_cons (ps_for PassesOwn.never rfl (pi_range1 rfl T.b_range (pa_cons (pe_op op_sub (pe_op op_add (pv 2) pe_int) (pv 6)) pa_nil)) (pg_name (i := 4) nd rfl (Or.inr rfl))
        (pss_cons (ps_set (i := 8) nd rfl (Or.inl rfl) (pe_fn G_least_ring (hr.mono (by decide)) (pa_cons (pv 0) (pa_cons (pe_ix ix_list (pv 3) (pv 4) (fun _ _ => rfl)) (pa_cons (pv 4) (pa_cons (pv 6) pa_nil))))))
        (pss_one (ps_if (pt_cmpR op_notN1 (pv 8) pe_non (nomark _))
          (pss_one (ps_expr (pe_bm PySem.F.plainAttrs_list PySem.F.slot_list_append PySem.F.type_list_append mt_append (pv 7) (pa_cons (pv 8) pa_nil))))
          pss_nil))))
      (pss_one (ps_if (pt_tru (pv 7))
        (pss_cons (ps_set (i := 8) nd rfl (Or.inl rfl) (pe_ix ix_list (pe_callB (cr_sortedD hr) (by rfl) T.b_sorted PyProof.Rows.boot_sorted (pa_cons (pv 7) pa_nil)) pe_int (fun _ _ => rfl)))
        (pss_one (ps_ret (pe_mk G_Drift (hr.mono (by decide)) (pa_cons (pv 8) (pa_cons (pe_callB (cr_sum rfl) (by rfl) T.b_sum PyProof.Rows.boot_sum (pa_cons (pe_lc (own := [("arrow", 11)]) (g := (gName 11)) (tt := tYes) (te := (tCall (spGain K C) [] E0 (tCons (tVar 0) (tCons (tVar 11) tNil)))) rfl nd (pi_tup (pv 8)) (blkOk_by (N := N_first_drift) (sc := defScope S_first_drift) (by decide +kernel)) (fun _ _ _ _ _ => (pg_name (i := 11) nd rfl (Or.inl rfl))) (fun _ _ _ _ _ => pts_nil) (fun _ _ _ _ _ => (pe_fn G_arrow_gain (hr.mono (by decide)) (pa_cons (pv 0) (pa_cons (pv 11) pa_nil))))) pa_nil)) pa_nil))))))
        pss_nil)))))
    (pss_one (ps_ret pe_non)))))), ?_⟩
  try dsimp only [cxOf, Cx.nox, Cx.wish]
  walk_at "go"
  refine w_lst hm (by walk_at "sz") fun pt H1 hm1 => ?_
  walk_at "go"
  rw [List.length_map]
  refine w_irr1 (by omega) fun J wk => ?_
  refine w_forZ wk hm1 (fun i σ N M' => ∃ tbs b4 b5 b6 b7 b8 b9 b10 b11, σ = [some (.ref a), some (.ref sn), some (.int (e.ch.cs.length : Int)), some (.ref pt), b4, b5, b6, b7, b8, b9, b10, b11] ∧ M' = (pt, .lst (tbs.map V.ref)) :: M ∧
      AllAt (fun t st => TabsAt K N e st (e.ch.cs.length - st) t ss) tbs (List.range i))
    ⟨[], none, none, none, none, none, none, none, none, rfl, rfl, AllAt.nil⟩ ?_ ?_
  · rintro i _ N _ H2 hi eN ⟨tbs, b4, b5, b6, b7, b8, b9, b10, b11, rfl, rfl, hts⟩ hm2
    walk_at "go"
    refine w_irr1 (by omega) fun J2 wk2 => ?_
    refine w_lcR wk2 hm2 (fun j => if j = i then .int 0 else .non) (fun _ => true) (by omega) (fun j D acc H' Yes No hj hm' hyes hno => ?_) fun D H' hm' => ?_
    · walk_at "go"
      refine ⟨rfl, ?_⟩
      walk_at "go"
      refine iteT ?_
      walk_at "go"
      refine w_ite (fun h => ?_) fun h => ?_
      · walk_at "go"
        have hy := hyes rfl _ hm'
        rw [if_pos (by omega)] at hy
        exact hy
      · walk_at "go"
        have hy := hyes rfl _ hm'
        rw [if_neg (by omega)] at hy
        exact hy
    · walk_at "go"
      have ez : ((List.range e.ch.cs.length).filter fun _ => true).map (fun j => if j = i then V.int 0 else V.non) = ovs ((List.range e.ch.cs.length).map fun j => if j = i then some 0 else none) := by
        rw [List.filter_eq_self.mpr fun _ _ => rfl, ovs, List.map_map]
        refine List.map_congr_left fun j _ => ?_
        by_cases h : j = i
        · rw [if_pos h]
          simp only [Function.comp_apply, if_pos h]
        · rw [if_neg h]
          simp only [Function.comp_apply, if_neg h]
      rw [ez] at hm'
      refine w_frz hm' fun N2 eN2 hD hm3 => ?_
      have eI := eN.trans eN2
      have hsn2 : SqT K N2 sn (ss.map V.int) := Same.sqt eI hsn
      have hMe3 := hMe2.mono eI
      have hts2 := hts.mono fun t st (h : TabsAt K N e st (e.ch.cs.length - st) t ss) => h.mono eN2
      clear hts eN eN2
      refine w_itt hm3 hsn2 fun J3 wk3 => ?_
      refine w_lcGA wk3 hm3 (fun j acc N M' => ∃ us, acc = us.map V.ref ∧ M' = (pt, .lst (tbs.map V.ref)) :: M ∧ AllAt (TabAt K N e i (e.ch.cs.length - i)) us (ss.take j)) ⟨[], rfl, rfl, AllAt.nil⟩ (fun j x D2 acc N3 M' H3 Yes No hj hx eN3 hPv hm4 hyes hno => ?_) fun D2 acc N3 M' H3 eN3 hPv hm4 => ?_
      · obtain ⟨us, rfl, rfl, hus⟩ := hPv
        obtain ⟨s, hs, rfl⟩ := iv_get hx
        have e1 : ((e.ch.cs.length : Int) - (i : Int)) = ((e.ch.cs.length - i : Nat) : Int) := by omega
        walk_at "go"
        refine ⟨rfl, ?_⟩
        walk_at "go"
        refine iteT ?_
        walk_at "go"
        rw [e1]
        refine w_spN hm4 ⟨a, D, e, _, i, e.ch.cs.length - i, s, rfl, hMe3.mono eN3, ok, SqL.of (eN3 _ _ hD), by rw [List.length_map, List.length_range], fun v hv => ?_, by omega, hss s (List.mem_of_getElem? hs), rfl⟩ fun v N4 H4 eN4 hm5 hR => ?_
        · have er : ((List.range e.ch.cs.length).map fun j => if j = i then some (0 : Int) else none).getD v none = if v = i then some 0 else none := by
            rw [List.getD_eq_getElem?_getD, List.getElem?_map, List.getElem?_range hv]
            rfl
          rw [er]
          exact best_zero
        · obtain ⟨l, rows, rfl, hr1, hr2, hr3⟩ := hR
          walk_at "go"
          refine w_tup hm5 (by walk_at "sz") fun tq N5 H5 eN5 htq hm6 => ?_
          refine hyes _ _ _ _ (eN3.trans (eN4.trans eN5)) ⟨us ++ [tq], by rw [List.map_append]; rfl, rfl, ?_⟩ ?_ hm6
          · have et : ss.take (j + 1) = ss.take j ++ [s] := by rw [List.take_add_one, hs]; rfl
            rw [et]
            exact (hus.mono fun t q h => (h.mono eN4).mono eN5).snoc ⟨l, rows, SqT.of htq, hr1.mono eN5, hr2, hr3⟩
          · exact small_sl (by rw [List.length_map, hus.1, List.length_take]; omega)
      · obtain ⟨us, rfl, rfl, hus⟩ := hPv
        rw [List.length_map, List.take_of_length_le (Nat.le_refl _)] at hus
        walk_at "go"
        refine w_frz hm4 fun N4 eN4 hD2 hm5 => ?_
        refine w_app hm5 foc0 (small_sl (by rw [List.length_map, hts2.1, List.length_range]; omega)) fun H5 hm6 => ?_
        walk_at "go"
        refine ⟨_, _, eI.trans (eN3.trans eN4), ⟨tbs ++ [D2], _, _, _, _, _, _, _, _, rfl, by rw [List.map_append]; rfl, ?_⟩, hm6⟩
        rw [List.range_succ]
        exact (hts2.mono fun t st h => h.mono (eN3.trans eN4)).snoc ⟨us, SqL.of hD2, hus.mono fun t s h => h.mono eN4⟩
  · rintro _ N _ H2 eN ⟨tbs, b4, b5, b6, b7, b8, b9, b10, b11, rfl, rfl, hts⟩ hm2
    walk_at "go"
    refine w_frz hm2 fun N0 eN0 hpt hm3 => ?_
    have hts0 := hts.mono fun t st (h : TabsAt K N e st (e.ch.cs.length - st) t ss) => h.mono eN0
    have eI := eN.trans eN0
    clear hts eN eN0
    have tlen : tbs.length = e.ch.cs.length := by rw [hts0.1, List.length_range]
    refine w_irr2 (n := e.ch.cs.length) (by omega) (by omega) (by omega) fun J wk => ?_
    refine w_forR (wk N0) hm3 (fun i σ N M' => ∃ b4 b5 b6 b7 b8 b9 b10 b11, σ = [some (.ref a), some (.ref sn), some (.int (e.ch.cs.length : Int)), some (.ref pt), b4, b5, b6, b7, b8, b9, b10, b11] ∧ M = M' ∧
      ∀ L', 1 ≤ L' → L' < i + 1 → ∀ st', st' < e.ch.cs.length + 1 - L' → ¬ Can e st' ss st' L' 0)
      ⟨_, _, _, _, _, _, _, _, rfl, rfl, fun L' h1 h2 => by omega⟩ ?_ ?_
    · rintro i _ N1 _ H3 hi eN1 ⟨b4, b5, b6, b7, b8, b9, b10, b11, rfl, rfl, hno⟩ hm4
      have ei : (1 : Int) + ((i : Nat) : Int) = ((i + 1 : Nat) : Int) := by omega
      rw [ei]
      walk_at "go"
      refine w_lst hm4 (by walk_at "sz") fun pf H4 hm5 => ?_
      walk_at "go"
      have ej : ((e.ch.cs.length : Int) + 1 - ((i + 1 : Nat) : Int)) = ((e.ch.cs.length + 1 - (i + 1) : Nat) : Int) := by omega
      rw [ej]
      refine w_irr1 (by omega) fun J2 wk2 => ?_
      refine w_forZ wk2 hm5 (fun j σ N M' => ∃ b4 b8 ts rs, σ = [some (.ref a), some (.ref sn), some (.int (e.ch.cs.length : Int)), some (.ref pt), b4, b5, some (.int ((i + 1 : Nat) : Int)), some (.ref pf), b8, b9, b10, b11] ∧ M' = (pf, .lst (ts.map V.ref)) :: M ∧
        AllAt (TupN K N) ts rs ∧ Fnd e ss (i + 1) j rs)
        ⟨_, _, [], [], rfl, rfl, AllAt.nil, Fnd.nil⟩ ?_ ?_
      · rintro j _ N2 _ H5 hj eN2 ⟨b4, b8, ts, rs, rfl, rfl, hrs, hF⟩ hm6
        have eK := eN1.trans eN2
        have jt : j < tbs.length := by omega
        have htj : tbs[j]? = some (tbs.getD j 0) := by
          rw [List.getD_eq_getElem?_getD, List.getElem?_eq_getElem jt]
          rfl
        obtain ⟨st, hst, hTj⟩ := hts0.get htj
        have est : st = j := by
          rw [List.getElem?_range (by omega)] at hst
          exact (Option.some.inj hst).symm
        subst est
        have hTj2 := hTj.mono eK
        have hMe3 := hMe2.mono (eI.trans eK)
        have eR := eN2
        have hpt2 : SqL K N2 pt (tbs.map V.ref) := SqL.of (eK _ _ hpt)
        clear eN2
        walk_at "go"
        refine w_spN hm6 ⟨a, _, e, st, i + 1, e.ch.cs.length - st, ss, rfl, hMe3, ok, hTj2, by omega, by omega, by omega, hss, rfl⟩ fun v N3 H6 eN3 hm7 hR => ?_
        rcases hR with ⟨hn, rfl⟩ | ⟨t, r, rfl, hr1, hr2⟩
        · walk_at "go"
          refine w_iteN (fun h => absurd rfl h) fun _ => ?_
          walk_at "go"
          exact ⟨_, _, eR.trans eN3, ⟨_, _, ts, rs, rfl, rfl, hrs.mono fun t l h => Same.sqt eN3 h, hF.no hn⟩, hm7⟩
        · walk_at "go"
          refine w_iteN (fun _ => ?_) fun h => by cases h
          walk_at "go"
          refine w_app hm7 foc0 (small_sl (by rw [List.length_map, hrs.1]; have := hF.ln; omega)) fun H7 hm8 => ?_
          walk_at "go"
          exact ⟨_, _, eR.trans eN3, ⟨_, _, ts ++ [t], rs ++ [r], rfl, by rw [List.map_append]; rfl, (hrs.mono fun t l h => Same.sqt eN3 h).snoc hr1, hF.yes hr2⟩, hm8⟩
      · rintro _ N2 _ H5 eN2 ⟨b4, b8, ts, rs, rfl, rfl, hrs, hF⟩ hm6
        walk_at "go"
        refine w_iteB (fun hb => ?_) fun hb => ?_
        · walk_at "go"
          refine w_sortedT hm6 foc0 hrs (fun l hl => ?_) fun ts' rs' q N3 H6 hrs' hpm hpw eN3 hq hm7 => ?_
          · obtain ⟨st, _, hL, _⟩ := hF.hi l hl
            intro z
            rw [z] at hL
            cases hL
          · have l0 : 0 < ts'.length := by
              rw [hrs'.1, hpm.length_eq, ← hrs.1]
              cases ts with
              | nil => cases hb
              | cons _ _ => exact Nat.succ_pos _
            walk_at "go"
            have ht0 : ts'[0]? = some (ts'.getD 0 0) := by
              rw [List.getD_eq_getElem?_getD, List.getElem?_eq_getElem l0]
              rfl
            obtain ⟨r, hr0, hr⟩ := hrs'.get ht0
            have hr : TupN K N3 (ts'.getD 0 0) r := Same.sqt eN3 hr
            have hFD : FirstD e ss r := hF.first (by omega) (by omega) hpm hpw (fun L' h1 h2 => hno L' h1 (by omega)) hr0
            have ⟨L, st, l1, l2, l3, hL, _⟩ := hFD
            have hr16 := hL.2.1.ar
            have hrl : r.length ≤ 16 := by rw [hL.1]; omega
            refine w_itt hm7 hr fun J3 wk3 => ?_
            refine w_lcA wk3 hm7 (fun j => .int (e.gain (r.getD j 0))) (fun _ => true) (by rw [List.length_map]; omega) (fun j x D acc H8 Yes No hj hx hm8 hyes hno => ?_) fun D H8 hm8 => ?_
            · obtain ⟨y, hy, rfl⟩ := nv_get hx
              have ey : r.getD j 0 = y := by rw [List.getD_eq_getElem?_getD, hy]; rfl
              rw [ey] at hyes
              walk_at "go"
              refine ⟨rfl, ?_⟩
              walk_at "go"
              refine iteT ?_
              walk_at "go"
              refine w_spV hm8 ⟨_, _, _, rfl, hMe2.mono (eI.trans (eN1.trans (eN2.trans eN3))), ok, hr16 y (List.mem_of_getElem? hy), rfl⟩ fun H9 hm9 => ?_
              exact hyes rfl _ hm9
            · have eD : (((List.range (nv r).length).filter fun _ => true).map fun j => V.int (e.gain (r.getD j 0))) = (r.map e.gain).map V.int := by
                have z := range_filter_map r (fun _ => true) fun x => V.int (e.gain x)
                rw [List.length_map]
                rw [z, List.filter_eq_self.mpr fun _ _ => rfl, List.map_map]
                rfl
              rw [eD] at hm8
              walk_at "go"
              refine w_mk hm8 fun x dx N4 eN4 => ⟨_, ⟨x, dx, _, _, r, _, rfl, rfl, Same.sqt eN4 hr, rfl⟩, fun v N5 M' H9 eN5 hm9 hR => ?_⟩
              obtain ⟨rfl, r', rfl, hr'⟩ := hR
              refine ⟨rfl, ?_⟩
              refine w_frz hm9 fun N6 eN6 hx6 hm10 => ?_
              exact k _ _ _ (eI.trans (eN1.trans (eN2.trans (eN3.trans (eN4.trans (eN5.trans eN6)))))) hm10.drop.drop (.inr ⟨x, r, rfl, ⟨dx, r', hx6, Same.sqt eN6 hr'⟩, hFD⟩)
        · walk_at "go"
          refine ⟨_, _, eN1.trans eN2, ⟨_, _, _, _, _, _, _, _, rfl, rfl, fun L' q1 q2 st' q3 hc => ?_⟩, hm6.drop⟩
          by_cases q4 : L' = i + 1
          · subst q4
            obtain ⟨r, hr, _⟩ := hF.lo st' q3 hc
            cases ts with
            | nil =>
              have := hrs.1
              rw [List.length_nil] at this
              rw [List.length_eq_zero_iff.mp this.symm] at hr
              cases hr
            | cons _ _ => cases hb
          · exact hno L' q1 (by omega) st' q3 hc
    · rintro _ N1 _ H3 eN1 ⟨b4, b5, b6, b7, b8, b9, b10, b11, rfl, rfl, hno⟩ hm4
      walk_at "go"
      exact k _ _ _ (eI.trans eN1) hm4 (.inl ⟨fun L q1 q2 => hno L q1 (by omega), rfl⟩)
end

end Pa

set_option Elab.async false
set_option linter.all false
set_option maxRecDepth 100000
set_option maxHeartbeats 4000000
namespace Pa
open PySem L2
local macro_rules | `(tactic| walk_at "lt") => `(tactic| first
  | assumption
  | omega
  | (simp only [List.length_map, List.length_range, List.length_cons, List.length_nil, List.length_append, List.length_replicate] at *; omega))
local macro_rules | `(tactic| walk_at "fo") => `(tactic| first | exact foc0 | (refine' focS ?k1; (case k1 => walk_at "fo")))
local macro_rules | `(tactic| walk_at "sq") => `(tactic| first
  | assumption
  | (refine' SqL.of ?k1; (case k1 => assumption))
  | (refine' SqT.of ?k1; (case k1 => assumption))
  | (refine' Or.inl ?k1; (case k1 => walk_at "sq"))
  | (refine' Or.inr ?k1; (case k1 => walk_at "sq"))
  | (refine' Same.seq ?k1 ?k2; (case k1 => assumption); (case k2 => walk_at "sq"))
  | (refine' Same.sqt ?k1 ?k2; (case k1 => assumption); (case k2 => walk_at "sq"))
  | (refine' Same.sqe ?k1 ?k2; (case k1 => assumption); (case k2 => walk_at "sq"))
  | (refine' same_at ?k1 ?k2; (case k1 => assumption); (case k2 => walk_at "sq")))
local macro_rules | `(tactic| walk_at "ai") => `(tactic| first
  | assumption
  | (refine' ati_ints ?k1; (case k1 => walk_at "lt"))
  | (refine' ati_refs ?k1; (case k1 => walk_at "lt"))
  | (refine' ati_nat ?k1; (case k1 => assumption))
  | k_dflt rfl)
local macro_rules | `(tactic| walk_at "lk") => `(tactic| first
  | assumption
  | exact lk_hd
  | (refine' lk_tl ?k1 ?k2; (case k1 => decide +kernel); (case k2 => walk_at "lk"))
  | exact lk_nil)
local macro_rules | `(tactic| walk_at "sz") => `(tactic| first
  | exact small_sz (by simp only [List.length_cons, List.length_nil, List.length_append, List.length_map, List.length_range, List.length_set, List.length_replicate]; omega))
local macro_rules | `(tactic| walk_at "cc") => `(tactic| first
  | (show (0 : Int) < _; first | decide | omega)
  | exact Or.inl ⟨by omega, by omega⟩
  | exact Or.inr ⟨by omega, by omega⟩
  | exact ⟨by decide, by decide, by decide⟩)
local macro_rules | `(tactic| walk_at "st") => `(tactic| first
  | with_reducible refine w_seq ?_
  | with_reducible refine w_asg ?_
  | ((with_reducible refine' w_var ?k1 ?_); (case k1 => k_dflt rfl))
  | with_reducible refine w_c ?_
  | with_reducible refine w_op ?_
  | with_reducible refine w_cons ?_
  | with_reducible refine w_nil ?_
  | with_reducible refine w_gname ?_
  | with_reducible refine w_I0 ?_
  | with_reducible refine w_fld ?_
  | ((with_reducible refine' w_ins ?k1 ?k2 ?k3 ?k4 ?k5 ?_); (case k1 => assumption); (case k2 => walk_at "sq"); (case k3 => assumption); (case k4 => assumption); (case k5 => walk_at "lk"))
  | ((with_reducible refine' w_ixT ?k1 ?k2 ?k3 ?_); (case k1 => assumption); (case k2 => walk_at "sq"); (case k3 => walk_at "ai"))
  | ((with_reducible refine' w_ixL ?k1 ?k2 ?k3 ?_); (case k1 => assumption); (case k2 => walk_at "sq"); (case k3 => walk_at "ai"))
  | ((with_reducible refine' w_ixM ?k1 ?k2 ?k3 ?_); (case k1 => assumption); (case k2 => walk_at "fo"); (case k3 => walk_at "ai"))
  | with_reducible refine w_cb ?_
  | with_reducible refine w_test ?_
  | with_reducible refine w_if ?_
  | with_reducible refine w_B ?_
  | with_reducible refine w_not ?_
  | with_reducible refine w_and ?_
  | with_reducible refine w_or ?_
  | with_reducible refine w_eqI ?_
  | with_reducible refine w_neI ?_
  | with_reducible refine w_isN ?_
  | with_reducible refine w_notN ?_
  | with_reducible refine w_isB ?_
  | with_reducible refine w_bl ?_
  | with_reducible refine w_ret ?_
  | with_reducible refine w_next ?_
  | with_reducible refine w_brk ?_
  | with_reducible refine w_drop ?_
  | with_reducible refine w_call ?_
  | with_reducible refine w_un ?_
  | with_reducible refine w_U ?_
  | with_reducible refine w_andV ?_
  | with_reducible refine w_orV ?_
  | with_reducible refine w_notV ?_
  | with_reducible refine w_ifE ?_
  | with_reducible refine w_chain ?_
  | with_reducible refine w_gsub ?_
  | with_reducible refine w_gnil ?_
  | with_reducible refine w_gcons ?_
  | with_reducible refine w_ipI ?_
  | with_reducible refine w_fldS ?_
  | with_reducible refine w_tru ?_
  | with_reducible refine w_abs ?_
  | with_reducible refine w_maxB ?_
  | with_reducible refine w_minB ?_
  | with_reducible refine w_int ?_
  | with_reducible refine w_tupE ?_
  | with_reducible refine w_lstE ?_
  | with_reducible refine w_bm ?_
  | with_reducible refine w_bm0 ?_
  | with_reducible refine w_mth ?_
  | with_reducible refine w_for0 ?_
  | with_reducible refine w_lc0 ?_
  | with_reducible refine w_il ?_
  | with_reducible refine w_it ?_
  | with_reducible refine w_is ?_
  | with_reducible refine w_ie ?_
  | with_reducible refine w_ir1 ?_
  | with_reducible refine w_ir2 ?_
  | with_reducible refine w_irv ?_
  | with_reducible refine w_rg1 ?_
  | with_reducible refine w_rg1v ?_
  | with_reducible refine w_lrg ?_
  | with_reducible refine w_make ?_
  | with_reducible refine w_yes ?_
  | with_reducible refine w_ost ?_
  | with_reducible refine w_mkoE ?_
  | with_reducible refine w_is_int_int ?_
  | with_reducible refine w_is_int_bool ?_
  | with_reducible refine w_is_int_str ?_
  | with_reducible refine w_is_int_tuple ?_
  | with_reducible refine w_is_bl_int ?_
  | with_reducible refine w_is_bl_bool ?_
  | with_reducible refine w_is_bl_str ?_
  | with_reducible refine w_is_bl_tuple ?_
  | with_reducible refine w_is_non_int ?_
  | with_reducible refine w_is_non_bool ?_
  | with_reducible refine w_is_non_str ?_
  | with_reducible refine w_is_non_tuple ?_
  | with_reducible refine w_is_str_int ?_
  | with_reducible refine w_is_str_bool ?_
  | with_reducible refine w_is_str_str ?_
  | with_reducible refine w_is_str_tuple ?_
  | ((with_reducible refine' w_insM ?k1 ?k2 ?k3 ?k4 ?k5 ?_); (case k1 => assumption); (case k2 => walk_at "fo"); (case k3 => assumption); (case k4 => assumption); (case k5 => walk_at "lk"))
  | ((with_reducible refine' w_ixE ?k1 ?k2 ?k3 ?_); (case k1 => assumption); (case k2 => walk_at "sq"); (case k3 => walk_at "ai"))
  | ((with_reducible refine' w_len ?k1 ?k2 ?_); (case k1 => assumption); (case k2 => walk_at "sq"))
  | ((with_reducible refine' w_lenM ?k1 ?k2 ?_); (case k1 => assumption); (case k2 => walk_at "fo"))
  | ((with_reducible refine' w_I ?k1 ?_); (case k1 => walk_at "cc"))
  | ((with_reducible refine' w_gtup ?k1 ?k2 ?_); (case k1 => refine' Mem.sqt ?m0 ?h0; (case m0 => assumption); (case h0 => walk_at "sq")); (case k2 => k_dflt rfl))
  | ((with_reducible refine' w_aug ?k1 ?_); (case k1 => k_dflt rfl))
  | ((with_reducible refine' w_truM ?k1 ?k2 ?_); (case k1 => assumption); (case k2 => walk_at "fo"))
  | ((with_reducible refine' w_truL ?k1 ?k2 ?_); (case k1 => assumption); (case k2 => walk_at "sq"))
  | ((with_reducible refine' w_tyL ?k1 ?k2 ?_); (case k1 => assumption); (case k2 => walk_at "fo"))
  | ((with_reducible refine' w_mthI ?k1 ?k2 ?k3 ?_); (case k1 => assumption); (case k2 => walk_at "sq"); (case k3 => walk_at "lk"))
  | ((with_reducible refine' w_sumM ?k1 ?k2 ?_); (case k1 => assumption); (case k2 => walk_at "fo"))
  | ((with_reducible refine' w_eqDN ?k1 ?k2 ?k3 ?_); (case k1 => assumption); (case k2 => walk_at "sq"); (case k3 => walk_at "sq"))
  | ((with_reducible refine' w_is_tup_int ?k1 ?k2 ?_); (case k1 => assumption); (case k2 => walk_at "sq"))
  | ((with_reducible refine' w_is_tup_bool ?k1 ?k2 ?_); (case k1 => assumption); (case k2 => walk_at "sq"))
  | ((with_reducible refine' w_is_tup_str ?k1 ?k2 ?_); (case k1 => assumption); (case k2 => walk_at "sq"))
  | ((with_reducible refine' w_is_tup_tuple ?k1 ?k2 ?_); (case k1 => assumption); (case k2 => walk_at "sq"))
  | dsimp only)
local macro_rules | `(tactic| walk_at "go") => `(tactic| repeat (walk_at "st"))
def spFind (ss : List Int) (K : PySem.W.Frag) (C : Ad) : Sp := spN fun vs I R => ∃ (a : Addr) (e : Me), vs = [.ref a] ∧ MeAt K C I a e ∧ e.Ok ∧
  R = fun v N => (NoneD e ss ∧ v = .non) ∨ (∃ t r, v = .ref t ∧ DrAt K C N t r (e.sum r) ∧ FirstD e ss r)
section
variable {P : Program} {w : World} {K : PySem.W.Frag} {mg : Str → Option Value} {base : Heap} {C : Ad}
abbrev N_find_drift : List Str := ["meter"]
abbrev P_find_drift : List Str := ["meter"]
theorem sc_find_drift : FnScope N_find_drift P_find_drift (defScope S_find_drift) := ⟨rfl, rfl, rfl, by decide +kernel, rfl, by decide +kernel, by decide +kernel⟩
-- slots: 0 meter
theorem ok_find_drift {f : Addr} {fd : FuncData} (F : FnP K "find_drift" "find_drift" S_find_drift f fd) (T : Txt K mg C) (G_first_drift : FnAt P w K mg base "first_drift" 5 P_first_drift (spFirst K C)) : FnOk P w K mg base CX0 6 f fd P_find_drift (spFind [1,-1] K C) := by
  have nd := sc_find_drift.nd
  refine F.ok sc_find_drift (fun vs H Q E h => ?_) (fun cdv A outer s H vs Q E hr h => ?_)
  · obtain ⟨I, M, R, ⟨a, e, rfl, _⟩, _⟩ := h
    rfl
  obtain ⟨I, M, R, ⟨a, e, rfl, hMe, ok, rfl⟩, hm, k⟩ := h
  refine ⟨_, PSs.nox (pss_one (ps_ret (pe_fn G_first_drift (hr.mono (by decide)) (pa_cons (pv 0) (pa_cons (pe_tup (pa_cons pe_int (pa_cons (pe_un un_neg pe_int) pa_nil))) pa_nil))))), ?_⟩
  try dsimp only [cxOf, Cx.nox, Cx.wish]
  walk_at "go"
  refine w_tup hm (by walk_at "sz") fun q N H1 eN hq hm1 => ?_
  walk_at "go"
  refine w_spN hm1 ⟨a, q, e, [1, -1], rfl, hMe.mono eN, ok, SqT.of hq, by decide, by decide, rfl⟩ fun v N2 H2 eN2 hm2 hR => ?_
  exact k _ _ _ (eN.trans eN2) hm2 hR
abbrev N_find_fall : List Str := ["meter"]
abbrev P_find_fall : List Str := ["meter"]
theorem sc_find_fall : FnScope N_find_fall P_find_fall (defScope S_find_fall) := ⟨rfl, rfl, rfl, by decide +kernel, rfl, by decide +kernel, by decide +kernel⟩
-- slots: 0 meter
theorem ok_find_fall {f : Addr} {fd : FuncData} (F : FnP K "find_fall" "find_fall" S_find_fall f fd) (T : Txt K mg C) (G_first_drift : FnAt P w K mg base "first_drift" 5 P_first_drift (spFirst K C)) : FnOk P w K mg base CX0 6 f fd P_find_fall (spFind [-1] K C) := by
  have nd := sc_find_fall.nd
  refine F.ok sc_find_fall (fun vs H Q E h => ?_) (fun cdv A outer s H vs Q E hr h => ?_)
  · obtain ⟨I, M, R, ⟨a, e, rfl, _⟩, _⟩ := h
    rfl
  obtain ⟨I, M, R, ⟨a, e, rfl, hMe, ok, rfl⟩, hm, k⟩ := h
  refine ⟨_, PSs.nox (pss_one (ps_ret (pe_fn G_first_drift (hr.mono (by decide)) (pa_cons (pv 0) (pa_cons (pe_tup (pa_cons (pe_un un_neg pe_int) pa_nil)) pa_nil))))), ?_⟩
  try dsimp only [cxOf, Cx.nox, Cx.wish]
  walk_at "go"
  refine w_tup hm (by walk_at "sz") fun q N H1 eN hq hm1 => ?_
  walk_at "go"
  refine w_spN hm1 ⟨a, q, e, [-1], rfl, hMe.mono eN, ok, SqT.of hq, by decide, by decide, rfl⟩ fun v N2 H2 eN2 hm2 hR => ?_
  exact k _ _ _ (eN.trans eN2) hm2 hR
abbrev N_find_rise : List Str := ["meter"]
abbrev P_find_rise : List Str := ["meter"]
theorem sc_find_rise : FnScope N_find_rise P_find_rise (defScope S_find_rise) := ⟨rfl, rfl, rfl, by decide +kernel, rfl, by decide +kernel, by decide +kernel⟩
-- slots: 0 meter
theorem ok_find_rise {f : Addr} {fd : FuncData} (F : FnP K "find_rise" "find_rise" S_find_rise f fd) (T : Txt K mg C) (G_first_drift : FnAt P w K mg base "first_drift" 5 P_first_drift (spFirst K C)) : FnOk P w K mg base CX0 6 f fd P_find_rise (spFind [1] K C) := by
  have nd := sc_find_rise.nd
  refine F.ok sc_find_rise (fun vs H Q E h => ?_) (fun cdv A outer s H vs Q E hr h => ?_)
  · obtain ⟨I, M, R, ⟨a, e, rfl, _⟩, _⟩ := h
    rfl
  obtain ⟨I, M, R, ⟨a, e, rfl, hMe, ok, rfl⟩, hm, k⟩ := h
  refine ⟨_, PSs.nox (pss_one (ps_ret (pe_fn G_first_drift (hr.mono (by decide)) (pa_cons (pv 0) (pa_cons (pe_tup (pa_cons pe_int pa_nil)) pa_nil))))), ?_⟩
  try dsimp only [cxOf, Cx.nox, Cx.wish]
  walk_at "go"
  refine w_tup hm (by walk_at "sz") fun q N H1 eN hq hm1 => ?_
  walk_at "go"
  refine w_spN hm1 ⟨a, q, e, [1], rfl, hMe.mono eN, ok, SqT.of hq, by decide, by decide, rfl⟩ fun v N2 H2 eN2 hm2 hR => ?_
  exact k _ _ _ (eN.trans eN2) hm2 hR
end

end Pa

set_option Elab.async false
set_option linter.all false
set_option maxRecDepth 100000
set_option maxHeartbeats 4000000
-- NOMAC
namespace Pa
/-! ### paths, levels -/
def Pt (c : Ch) : Nat → Nat → List Nat → Prop
  | v, w, [] => v = w
  | v, w, k :: p => k < c.ar.length ∧ c.tl k = v ∧ Pt c (c.hd k) w p
theorem Pt.app {c : Ch} {u v w : Nat} : ∀ {p q : List Nat}, Pt c u v p → Pt c v w q → Pt c u w (p ++ q)
  | [], q, h1, h2 => by
    have e : _ = _ := h1
    subst e
    exact h2
  | k :: p, q, h1, h2 => ⟨h1.1, h1.2.1, h1.2.2.app h2⟩
theorem Pt.one {c : Ch} {k : Nat} (h : k < c.ar.length) : Pt c (c.tl k) (c.hd k) [k] := ⟨h, rfl, rfl⟩
theorem Pt.snoc {c : Ch} {v k : Nat} {p : List Nat} (h1 : Pt c v (c.tl k) p) (h : k < c.ar.length) : Pt c v (c.hd k) (p ++ [k]) := h1.app (Pt.one h)
theorem Ch.Reach.pt {c : Ch} {v w : Nat} (r : c.Reach v w) : ∃ p, p ≠ [] ∧ Pt c v w p := by
  induction r with
  | one h => exact ⟨_, by simp, Pt.one h⟩
  | step _ h ih =>
    obtain ⟨p, _, h2⟩ := ih
    exact ⟨_, by simp, h2.snoc h⟩
theorem Pt.reach {c : Ch} {w : Nat} : ∀ {p : List Nat} {v : Nat}, Pt c v w p → p ≠ [] → c.Reach v w
  | [], _, _, n => absurd rfl n
  | [k], v, ⟨h1, h2, h3⟩, _ => by
    have h3 : c.hd k = w := h3
    subst h2 h3
    exact .one h1
  | k :: k2 :: p, v, ⟨h1, h2, h3⟩, _ => by
    have := Pt.reach h3 (by simp)
    subst h2
    exact (Ch.Reach.one h1).trans this
/-- the part's places have levels: those in W, by paths from q -/
def PathS (e : Me) (q x : Nat) (t : Int) : Prop := ∃ p, Pt e.ch q x p ∧ e.sum p = t
structure SpI (e : Me) (q : Nat) (W : List Nat) (L0 : List Int) (F : List Nat) (L : List Int) : Prop where
  nd : F.Nodup
  dis : ∀ x ∈ F, x ∉ W ∧ x ∈ e.ch.part q
  len : L.length = e.ch.cs.length
  agr : ∀ x, x ∉ F → L.getD x 0 = L0.getD x 0
  pth : ∀ x ∈ F, PathS e q x (L.getD x 0)
theorem getD_set' {l : List Int} {k j : Nat} {a d : Int} (h : k < l.length) : (l.set k a).getD j d = if j = k then a else l.getD j d := by
  rw [List.getD_eq_getElem?_getD, List.getElem?_set]
  by_cases e : k = j
  · subst e
    rw [if_pos rfl, if_pos h, if_pos rfl]
    rfl
  · rw [if_neg e, if_neg (fun z => e z.symm), List.getD_eq_getElem?_getD]
theorem SpI.put {e : Me} {q : Nat} {W : List Nat} {L0 : List Int} {F : List Nat} {L : List Int} (h : SpI e q W L0 F L) {x k : Nat} (hx : x ∈ W) (hW : ∀ x ∈ W, PathS e q x (L0.getD x 0)) (hk : k < e.ch.ar.length) (ht : e.ch.tl k = x)
    (h1 : e.ch.hd k ∈ e.ch.part q) (h2 : e.ch.hd k ∉ W) (h3 : e.ch.hd k ∉ F) (h4 : e.ch.hd k < e.ch.cs.length) : SpI e q W L0 (F ++ [e.ch.hd k]) (L.set (e.ch.hd k) (L.getD x 0 + e.gain k)) := by
  have hl : e.ch.hd k < L.length := by rw [h.len]; exact h4
  refine ⟨List.nodup_append.mpr ⟨h.nd, by simp, fun a ha b hb z => h3 (by rw [← List.mem_singleton.mp hb, ← z]; exact ha)⟩, fun y hy => ?_, by rw [List.length_set, h.len], fun y hy => ?_, fun y hy => ?_⟩
  · rcases List.mem_append.mp hy with hy | hy
    · exact h.dis y hy
    · rw [List.mem_singleton.mp hy]
      exact ⟨h2, h1⟩
  · rw [getD_set' hl, if_neg (fun z => hy (List.mem_append_right _ (by rw [z]; exact List.mem_cons_self)))]
    exact h.agr y fun z => hy (List.mem_append_left _ z)
  · rw [getD_set' hl]
    by_cases ey : y = e.ch.hd k
    · rw [if_pos ey]
      subst ey
      have xF : x ∉ F := fun z => (h.dis x z).1 hx
      obtain ⟨p, p1, p2⟩ := hW x hx
      subst ht
      refine ⟨p ++ [k], p1.snoc hk, ?_⟩
      rw [Me.sum_app, p2, Me.sum_cons, Me.sum_nil, h.agr _ xF, Int.add_zero]
    · rw [if_neg ey]
      rcases List.mem_append.mp hy with hy | hy
      · exact h.pth y hy
      · exact absurd (List.mem_singleton.mp hy) ey
end Pa

set_option Elab.async false
set_option linter.all false
set_option maxRecDepth 100000
set_option maxHeartbeats 4000000
-- NOMAC
namespace Pa
theorem nodup_sub : ∀ (l m : List Nat), l.Nodup → (∀ x ∈ l, x ∈ m) → l.length ≤ m.length
  | [], m, _, _ => Nat.zero_le _
  | a :: r, m, hn, hs => by
    have ha := hs a List.mem_cons_self
    have h2 := List.nodup_cons.mp hn
    have := nodup_sub r (m.erase a) h2.2 fun x hx => (List.mem_erase_of_ne (fun e => h2.1 (by rw [← e]; exact hx))).mpr (hs x (List.mem_cons_of_mem _ hx))
    rw [List.length_erase_of_mem ha] at this
    have := List.length_pos_of_mem ha
    rw [List.length_cons]
    omega
theorem Ch.part_eq {c : Ch} (ok : c.Ok) {p x : Nat} (h : x ∈ c.part p) : c.part x = c.part p := by
  have h := (Ch.mem_part ok).mp h
  refine lt_ext ((range_lt _).filter _) ((range_lt _).filter _) fun y => ?_
  rw [Ch.mem_part ok, Ch.mem_part ok]
  exact ⟨fun z => ⟨h.1.trans z.1, z.2.trans h.2⟩, fun z => ⟨h.2.trans z.1, z.2.trans h.1⟩⟩
structure KnI (e : Me) (q : Nat) (L0 : List Int) (W : List Nat) (L : List Int) (i : Nat) : Prop where
  sub : ∀ x ∈ W, x ∈ e.ch.part q ∧ PathS e q x (L.getD x 0)
  nd : W.Nodup
  len : L.length = e.ch.cs.length
  agr : ∀ x, x ∉ e.ch.part q → L.getD x 0 = L0.getD x 0
  gr : i < W.length ∨ ∀ x ∈ W, ∀ k ∈ e.ch.outs x, e.ch.hd k ∈ e.ch.part q → e.ch.hd k ∈ W
  q : q ∈ W
theorem closed_all {c : Ch} (ok : c.Ok) {q : Nat} {W : List Nat} (hq : q ∈ W) (h : ∀ x ∈ W, ∀ k ∈ c.outs x, c.hd k ∈ c.part q → c.hd k ∈ W) {x : Nat} (hx : x ∈ c.part q) : x ∈ W := by
  refine (((Ch.mem_part ok).mp hx).1.closed (S := fun w => c.Reach q w ∧ (w ∈ c.part q → w ∈ W)) fun k hk z => ?_).2 hx
  rcases z with z | ⟨z1, z2⟩
  · subst z
    exact ⟨.one hk, fun y => h _ hq k (Ch.mem_outs.mpr ⟨hk, rfl⟩) y⟩
  · refine ⟨.step z1 hk, fun y => h _ (z2 ?_) k (Ch.mem_outs.mpr ⟨hk, rfl⟩) y⟩
    exact (Ch.mem_part ok).mpr ⟨z1, (Ch.Reach.one hk).trans ((Ch.mem_part ok).mp y).2⟩
theorem KnI.init {e : Me} {q : Nat} {L0 : List Int} (h1 : q ∈ e.ch.part q) (h2 : L0.length = e.ch.cs.length) (h3 : L0.getD q 0 = 0) : KnI e q L0 [q] L0 0 :=
  ⟨fun x hx => by rw [List.mem_singleton.mp hx, h3]; exact ⟨h1, [], rfl, rfl⟩, by simp, h2, fun _ _ => rfl, .inl (Nat.zero_lt_one), List.mem_cons_self⟩
theorem KnI.round {e : Me} {q : Nat} {L0 L L' : List Int} {W F : List Nat} {i : Nat} (ok : e.ch.Ok) (h : KnI e q L0 W L i) (s : SpI e q W L F L') (c : ∀ x ∈ W, ∀ k ∈ e.ch.outs x, e.ch.hd k ∈ e.ch.part q → e.ch.hd k ∈ W ∨ e.ch.hd k ∈ F) : KnI e q L0 (W ++ F) L' (i + 1) := by
  refine ⟨fun x hx => ?_, List.nodup_append.mpr ⟨h.nd, s.nd, fun a ha b hb z => (s.dis b hb).1 (by rw [← z]; exact ha)⟩, s.len, fun x hx => ?_, ?_, List.mem_append_left _ h.q⟩
  · by_cases z : x ∈ F
    · exact ⟨(s.dis x z).2, s.pth x z⟩
    · rcases List.mem_append.mp hx with hx | hx
      · rw [s.agr x z]
        exact h.sub x hx
      · exact absurd hx z
  · rw [s.agr x fun z => hx (s.dis x z).2]
    exact h.agr x hx
  · cases F with
    | nil =>
      rw [List.append_nil]
      exact .inr fun x hx k hk hp => (c x hx k hk hp).elim id fun z => nomatch z
    | cons f F =>
      rcases h.gr with g | g
      · left
        rw [List.length_append, List.length_cons]
        omega
      · exact absurd (closed_all ok h.q g (s.dis f List.mem_cons_self).2) (s.dis f List.mem_cons_self).1
theorem KnI.fin {e : Me} {q : Nat} {L0 L : List Int} {W : List Nat} (ok : e.ch.Ok) (h : KnI e q L0 W L (e.ch.part q).length) : ∀ x ∈ e.ch.part q, PathS e q x (L.getD x 0) := by
  rcases h.gr with g | g
  · have := nodup_sub W _ h.nd fun x hx => (h.sub x hx).1
    omega
  · exact fun x hx => (h.sub x (closed_all ok h.q g hx)).2
/-- the levels of a meter without a drift -/
def IsLv (e : Me) (L : List Int) : Prop := L.length = e.ch.cs.length ∧ ∀ x, x < e.ch.cs.length → (e.ch.Reach x x → PathS e ((e.ch.part x).getD 0 0) x (L.getD x 0)) ∧ (¬ e.ch.Reach x x → L.getD x 0 = 0)
/-- the same, for some of the parts -/
def LvI (e : Me) (ps : List Nat) (L : List Int) : Prop := L.length = e.ch.cs.length ∧ (∀ p ∈ ps, ∀ x ∈ e.ch.part p, PathS e p x (L.getD x 0)) ∧ ∀ x, (∀ p ∈ ps, x ∉ e.ch.part p) → L.getD x 0 = 0
theorem Ch.mem_leads {c : Ch} {p n : Nat} : p ∈ c.leads n ↔ p < n ∧ c.Reach p p ∧ (c.part p).getD 0 0 = p := by
  unfold Ch.leads
  rw [List.mem_filter, List.mem_range, Bool.and_eq_true, Ch.rch_iff, decide_eq_true_iff]
theorem Ch.lead_eq {c : Ch} (ok : c.Ok) {p q x n : Nat} (hp : p ∈ c.leads n) (hq : q ∈ c.leads n) (h1 : x ∈ c.part p) (h2 : x ∈ c.part q) : p = q := by
  rw [← (Ch.mem_leads.mp hp).2.2, ← Ch.part_eq ok h1, Ch.part_eq ok h2]
  exact (Ch.mem_leads.mp hq).2.2
theorem LvI.step {e : Me} (ok : e.ch.Ok) {ps : List Nat} {q : Nat} {L0 L : List Int} {W : List Nat} (h0 : LvI e ps L0) (hps : ∀ p ∈ ps, p ∈ e.ch.leads e.ch.cs.length) (hq : q ∈ e.ch.leads e.ch.cs.length) (h : KnI e q L0 W L (e.ch.part q).length) : LvI e (ps ++ [q]) L := by
  refine ⟨h.len, fun p hp x hx => ?_, fun x hx => ?_⟩
  · by_cases z : x ∈ e.ch.part q
    · have hp' : p ∈ e.ch.leads e.ch.cs.length := by
        rcases List.mem_append.mp hp with hp | hp
        · exact hps p hp
        · rw [List.mem_singleton.mp hp]
          exact hq
      rw [Ch.lead_eq ok hp' hq hx z]
      exact h.fin ok x z
    · rcases List.mem_append.mp hp with hp | hp
      · rw [h.agr x z]
        exact h0.2.1 p hp x hx
      · rw [List.mem_singleton.mp hp] at hx
        exact absurd hx z
  · rw [h.agr x (hx q (List.mem_append_right _ List.mem_cons_self))]
    exact h0.2.2 x fun p hp => hx p (List.mem_append_left _ hp)
theorem LvI.fin {e : Me} (ok : e.ch.Ok) {L : List Int} (h : LvI e (e.ch.leads e.ch.cs.length) L) : IsLv e L := by
  refine ⟨h.1, fun x hx => ⟨fun r => ?_, fun r => ?_⟩⟩
  · have hxx : x ∈ e.ch.part x := (Ch.mem_part ok).mpr ⟨r, r⟩
    have l0 : 0 < (e.ch.part x).length := List.length_pos_of_mem hxx
    have hm : (e.ch.part x).getD 0 0 ∈ e.ch.part x := by
      rw [List.getD_eq_getElem?_getD, List.getElem?_eq_getElem l0]
      exact List.getElem_mem l0
    have hpp := (Ch.mem_part ok).mp hm
    refine h.2.1 _ (Ch.mem_leads.mpr ⟨hpp.1.lt ok, hpp.2.trans hpp.1, by rw [Ch.part_eq ok hm]⟩) x ?_
    rw [Ch.part_eq ok hm]
    exact hxx
  · refine h.2.2 x fun p _ hx => r ?_
    have := (Ch.mem_part ok).mp hx
    exact this.2.trans this.1
end Pa

set_option Elab.async false
set_option linter.all false
set_option maxRecDepth 100000
set_option maxHeartbeats 4000000
namespace Pa
open PySem L2
local macro_rules | `(tactic| walk_at "lt") => `(tactic| first
  | assumption
  | omega
  | (simp only [List.length_map, List.length_range, List.length_cons, List.length_nil, List.length_append, List.length_replicate] at *; omega))
local macro_rules | `(tactic| walk_at "fo") => `(tactic| first | exact foc0 | (refine' focS ?k1; (case k1 => walk_at "fo")))
local macro_rules | `(tactic| walk_at "sq") => `(tactic| first
  | assumption
  | (refine' SqL.of ?k1; (case k1 => assumption))
  | (refine' SqT.of ?k1; (case k1 => assumption))
  | (refine' Or.inl ?k1; (case k1 => walk_at "sq"))
  | (refine' Or.inr ?k1; (case k1 => walk_at "sq"))
  | (refine' Same.seq ?k1 ?k2; (case k1 => assumption); (case k2 => walk_at "sq"))
  | (refine' Same.sqt ?k1 ?k2; (case k1 => assumption); (case k2 => walk_at "sq"))
  | (refine' Same.sqe ?k1 ?k2; (case k1 => assumption); (case k2 => walk_at "sq"))
  | (refine' same_at ?k1 ?k2; (case k1 => assumption); (case k2 => walk_at "sq")))
local macro_rules | `(tactic| walk_at "ai") => `(tactic| first
  | assumption
  | (refine' ati_ints ?k1; (case k1 => walk_at "lt"))
  | (refine' ati_refs ?k1; (case k1 => walk_at "lt"))
  | (refine' ati_nat ?k1; (case k1 => assumption))
  | k_dflt rfl)
local macro_rules | `(tactic| walk_at "lk") => `(tactic| first
  | assumption
  | exact lk_hd
  | (refine' lk_tl ?k1 ?k2; (case k1 => decide +kernel); (case k2 => walk_at "lk"))
  | exact lk_nil)
local macro_rules | `(tactic| walk_at "sz") => `(tactic| first
  | exact small_sz (by simp only [List.length_cons, List.length_nil, List.length_append, List.length_map, List.length_range, List.length_set, List.length_replicate]; omega))
local macro_rules | `(tactic| walk_at "cc") => `(tactic| first
  | (show (0 : Int) < _; first | decide | omega)
  | exact Or.inl ⟨by omega, by omega⟩
  | exact Or.inr ⟨by omega, by omega⟩
  | exact ⟨by decide, by decide, by decide⟩)
local macro_rules | `(tactic| walk_at "st") => `(tactic| first
  | with_reducible refine w_seq ?_
  | with_reducible refine w_asg ?_
  | ((with_reducible refine' w_var ?k1 ?_); (case k1 => k_dflt rfl))
  | with_reducible refine w_c ?_
  | with_reducible refine w_op ?_
  | with_reducible refine w_cons ?_
  | with_reducible refine w_nil ?_
  | with_reducible refine w_gname ?_
  | with_reducible refine w_I0 ?_
  | with_reducible refine w_fld ?_
  | ((with_reducible refine' w_ins ?k1 ?k2 ?k3 ?k4 ?k5 ?_); (case k1 => assumption); (case k2 => walk_at "sq"); (case k3 => assumption); (case k4 => assumption); (case k5 => walk_at "lk"))
  | ((with_reducible refine' w_ixT ?k1 ?k2 ?k3 ?_); (case k1 => assumption); (case k2 => walk_at "sq"); (case k3 => walk_at "ai"))
  | ((with_reducible refine' w_ixL ?k1 ?k2 ?k3 ?_); (case k1 => assumption); (case k2 => walk_at "sq"); (case k3 => walk_at "ai"))
  | ((with_reducible refine' w_ixM ?k1 ?k2 ?k3 ?_); (case k1 => assumption); (case k2 => walk_at "fo"); (case k3 => walk_at "ai"))
  | with_reducible refine w_cb ?_
  | with_reducible refine w_test ?_
  | with_reducible refine w_if ?_
  | with_reducible refine w_B ?_
  | with_reducible refine w_not ?_
  | with_reducible refine w_and ?_
  | with_reducible refine w_or ?_
  | with_reducible refine w_eqI ?_
  | with_reducible refine w_neI ?_
  | with_reducible refine w_isN ?_
  | with_reducible refine w_notN ?_
  | with_reducible refine w_isB ?_
  | with_reducible refine w_bl ?_
  | with_reducible refine w_ret ?_
  | with_reducible refine w_next ?_
  | with_reducible refine w_brk ?_
  | with_reducible refine w_drop ?_
  | with_reducible refine w_call ?_
  | with_reducible refine w_un ?_
  | with_reducible refine w_U ?_
  | with_reducible refine w_andV ?_
  | with_reducible refine w_orV ?_
  | with_reducible refine w_notV ?_
  | with_reducible refine w_ifE ?_
  | with_reducible refine w_chain ?_
  | with_reducible refine w_gsub ?_
  | with_reducible refine w_gnil ?_
  | with_reducible refine w_gcons ?_
  | with_reducible refine w_ipI ?_
  | with_reducible refine w_fldS ?_
  | with_reducible refine w_tru ?_
  | with_reducible refine w_abs ?_
  | with_reducible refine w_maxB ?_
  | with_reducible refine w_minB ?_
  | with_reducible refine w_int ?_
  | with_reducible refine w_tupE ?_
  | with_reducible refine w_lstE ?_
  | with_reducible refine w_bm ?_
  | with_reducible refine w_bm0 ?_
  | with_reducible refine w_mth ?_
  | with_reducible refine w_for0 ?_
  | with_reducible refine w_lc0 ?_
  | with_reducible refine w_il ?_
  | with_reducible refine w_it ?_
  | with_reducible refine w_is ?_
  | with_reducible refine w_ie ?_
  | with_reducible refine w_ir1 ?_
  | with_reducible refine w_ir2 ?_
  | with_reducible refine w_irv ?_
  | with_reducible refine w_rg1 ?_
  | with_reducible refine w_rg1v ?_
  | with_reducible refine w_lrg ?_
  | with_reducible refine w_make ?_
  | with_reducible refine w_yes ?_
  | with_reducible refine w_ost ?_
  | with_reducible refine w_mkoE ?_
  | with_reducible refine w_is_int_int ?_
  | with_reducible refine w_is_int_bool ?_
  | with_reducible refine w_is_int_str ?_
  | with_reducible refine w_is_int_tuple ?_
  | with_reducible refine w_is_bl_int ?_
  | with_reducible refine w_is_bl_bool ?_
  | with_reducible refine w_is_bl_str ?_
  | with_reducible refine w_is_bl_tuple ?_
  | with_reducible refine w_is_non_int ?_
  | with_reducible refine w_is_non_bool ?_
  | with_reducible refine w_is_non_str ?_
  | with_reducible refine w_is_non_tuple ?_
  | with_reducible refine w_is_str_int ?_
  | with_reducible refine w_is_str_bool ?_
  | with_reducible refine w_is_str_str ?_
  | with_reducible refine w_is_str_tuple ?_
  | ((with_reducible refine' w_insM ?k1 ?k2 ?k3 ?k4 ?k5 ?_); (case k1 => assumption); (case k2 => walk_at "fo"); (case k3 => assumption); (case k4 => assumption); (case k5 => walk_at "lk"))
  | ((with_reducible refine' w_ixE ?k1 ?k2 ?k3 ?_); (case k1 => assumption); (case k2 => walk_at "sq"); (case k3 => walk_at "ai"))
  | ((with_reducible refine' w_len ?k1 ?k2 ?_); (case k1 => assumption); (case k2 => walk_at "sq"))
  | ((with_reducible refine' w_lenM ?k1 ?k2 ?_); (case k1 => assumption); (case k2 => walk_at "fo"))
  | ((with_reducible refine' w_I ?k1 ?_); (case k1 => walk_at "cc"))
  | ((with_reducible refine' w_gtup ?k1 ?k2 ?_); (case k1 => refine' Mem.sqt ?m0 ?h0; (case m0 => assumption); (case h0 => walk_at "sq")); (case k2 => k_dflt rfl))
  | ((with_reducible refine' w_aug ?k1 ?_); (case k1 => k_dflt rfl))
  | ((with_reducible refine' w_truM ?k1 ?k2 ?_); (case k1 => assumption); (case k2 => walk_at "fo"))
  | ((with_reducible refine' w_truL ?k1 ?k2 ?_); (case k1 => assumption); (case k2 => walk_at "sq"))
  | ((with_reducible refine' w_tyL ?k1 ?k2 ?_); (case k1 => assumption); (case k2 => walk_at "fo"))
  | ((with_reducible refine' w_mthI ?k1 ?k2 ?k3 ?_); (case k1 => assumption); (case k2 => walk_at "sq"); (case k3 => walk_at "lk"))
  | ((with_reducible refine' w_sumM ?k1 ?k2 ?_); (case k1 => assumption); (case k2 => walk_at "fo"))
  | ((with_reducible refine' w_eqDN ?k1 ?k2 ?k3 ?_); (case k1 => assumption); (case k2 => walk_at "sq"); (case k3 => walk_at "sq"))
  | ((with_reducible refine' w_is_tup_int ?k1 ?k2 ?_); (case k1 => assumption); (case k2 => walk_at "sq"))
  | ((with_reducible refine' w_is_tup_bool ?k1 ?k2 ?_); (case k1 => assumption); (case k2 => walk_at "sq"))
  | ((with_reducible refine' w_is_tup_str ?k1 ?k2 ?_); (case k1 => assumption); (case k2 => walk_at "sq"))
  | ((with_reducible refine' w_is_tup_tuple ?k1 ?k2 ?_); (case k1 => assumption); (case k2 => walk_at "sq"))
  | dsimp only)
local macro_rules | `(tactic| walk_at "go") => `(tactic| repeat (walk_at "st"))
abbrev iv (l : List Int) : List V := l.map V.int
theorem iv_set {l : List Int} {k : Nat} {r : Int} : (iv l).set k (.int r) = iv (l.set k r) := by rw [iv, iv, List.map_set]
theorem Ch.mem_part_lt {c : Ch} (ok : c.Ok) {p x : Nat} (h : x ∈ c.part p) : x < c.cs.length := ((Ch.mem_part ok).mp h).1.lt ok
section
variable {P : Program} {w : World} {K : PySem.W.Frag} {mg : Str → Option Value} {base : Heap} {C : Ad}
abbrev N_spread_levels : List Str := ["meter", "part", "known", "levels", "found", "place", "arrow", "head"]
abbrev P_spread_levels : List Str := ["meter", "part", "known", "levels"]
theorem sc_spread_levels : FnScope N_spread_levels P_spread_levels (defScope S_spread_levels) := ⟨rfl, rfl, rfl, by decide +kernel, rfl, by decide +kernel, by decide +kernel⟩
-- slots: 0 meter, 1 part, 2 known, 3 levels, 4 found, 5 place, 6 arrow, 7 head
def spSpread (K : PySem.W.Frag) (C : Ad) : Sp := spM fun vs I M R => ∃ (a pa kn lv : Addr) (e : Me) (q : Nat) (W : List Nat) (L0 : List Int) (M0 : Mu), vs = [.ref a, .ref pa, .ref kn, .ref lv] ∧ M = (lv, .lst (iv L0)) :: M0 ∧ MeAt K C I a e ∧ e.Ok ∧ TupN K I pa (e.ch.part q) ∧
  LstN K I kn W ∧ (∀ x ∈ W, x ∈ e.ch.part q ∧ PathS e q x (L0.getD x 0)) ∧ W.length ≤ 16 ∧ L0.length = e.ch.cs.length ∧
  R = fun v N M' => ∃ f F L, v = .ref f ∧ N f = some (.lst (nv F)) ∧ M' = (lv, .lst (iv L)) :: M0 ∧ SpI e q W L0 F L ∧ ∀ x ∈ W, ∀ k ∈ e.ch.outs x, e.ch.hd k ∈ e.ch.part q → e.ch.hd k ∈ W ∨ e.ch.hd k ∈ F
theorem ok_spread_levels {f : Addr} {fd : FuncData} (F : FnP K "spread_levels" "spread_levels" S_spread_levels f fd) (T : Txt K mg C) (G_arrow_gain : FnAt P w K mg base "arrow_gain" 1 P_arrow_gain (spGain K C)) (G_outs : MtAt P w K mg base C.ch "outs" 3 P_Chart_outs (spOuts K C)) : FnOk P w K mg base CX0 4 f fd P_spread_levels (spSpread K C) := by
  have nd := sc_spread_levels.nd
  refine F.ok sc_spread_levels (fun vs H Q E h => ?_) (fun cdv A outer s H vs Q E hr h => ?_)
  · obtain ⟨I, M, R, ⟨a, pa, kn, lv, e, q, W, L0, M0, rfl, _⟩, _⟩ := h
    rfl
  obtain ⟨I, M, R, ⟨a, pa, kn, lv, e, q, W, L0, M0, rfl, rfl, hMe, ok, hpa, hkn, hW, hW16, hL0, rfl⟩, hm, k⟩ := h
  have hMe2 := hMe
  obtain ⟨dx, ca, qa, hI, hCh, h5⟩ := hMe
  have hCh2 := hCh
  obtain ⟨dx2, p, r, as, h1, h2, h3, h4⟩ := hCh
  have n2 := T.clCh
  have n3 := T.n_arrows
  have n5 := T.clMe
  have n6 := T.n_chart
  have n16 := ok.ch.n16
  refine ⟨_, PSs.nox (pss_cons (ps_set (i := 4) nd rfl (Or.inl rfl) (pe_lst pa_nil))
    (pss_cons (ps_for PassesOwn.never rfl (pi_list (pv 2)) (pg_name (i := 5) nd rfl (Or.inl rfl))
      (pss_one (ps_for PassesOwn.never rfl (pi_tup (pe_mth G_outs (hr.mono (by decide)) (pe_fld (pv 0) rfl) (pa_cons (pv 5) pa_nil))) (pg_name (i := 6) nd rfl (Or.inl rfl))
        (pss_cons (ps_set (i := 7) nd rfl (Or.inl rfl) (pe_ix ix_tup (pe_ix ix_tup (pe_fld (pe_fld (pv 0) rfl) rfl) (pv 6) (fun _ _ => rfl)) pe_int (fun _ _ => rfl)))
        (pss_one (ps_if (PW.pt (pw_and (pt_cmpR op_in_seq (pv 7) (pv 1) (by rfl)) (pw_and (pt_cmpR op_notIn_seq (pv 7) (pv 2) (by rfl)) (pw_and1 (pt_cmpR op_notIn_seq (pv 7) (pv 4) (by rfl))))))
          (pss_cons (ps_asg (pe_op op_add (pe_ix ix_list (pv 3) (pv 5) (fun _ _ => rfl)) (pe_fn G_arrow_gain (hr.mono (by decide)) (pa_cons (pv 0) (pa_cons (pv 6) pa_nil)))) (pg_sub (pv 3) (pv 7) set_list))
          (pss_one (ps_expr (pe_bm PySem.F.plainAttrs_list PySem.F.slot_list_append PySem.F.type_list_append mt_append (pv 4) (pa_cons (pv 7) pa_nil)))))
          pss_nil))))))
    (pss_one (ps_ret (pv 4))))), ?_⟩
  try dsimp only [cxOf, Cx.nox, Cx.wish]
  walk_at "go"
  refine w_lst hm (by walk_at "sz") fun pf H1 hm1 => ?_
  walk_at "go"
  refine w_ill hm1 hkn fun J wk => ?_
  refine w_for wk hm1 (fun i σ N M' => ∃ F L s5 s6 s7, σ = [some (.ref a), some (.ref pa), some (.ref kn), some (.ref lv), some (.ref pf), s5, s6, s7] ∧ M' = (pf, .lst (nv F)) :: (lv, .lst (iv L)) :: M0 ∧ SpI e q W L0 F L ∧
      ∀ j x, j < i → W[j]? = some x → ∀ k ∈ e.ch.outs x, e.ch.hd k ∈ e.ch.part q → e.ch.hd k ∈ W ∨ e.ch.hd k ∈ F)
    ⟨[], L0, none, none, none, rfl, rfl, ⟨List.nodup_nil, (fun x h => nomatch h), hL0, (fun _ _ => rfl), (fun x h => nomatch h)⟩, fun j x h => absurd h (Nat.not_lt_zero _)⟩ ?_ ?_
  · rintro i y _ N _ H2 hi hy eN ⟨F, L, s5, s6, s7, rfl, rfl, hS, hD⟩ hm2
    obtain ⟨x, hx, rfl⟩ := nv_get hy
    have hxW : x ∈ W := List.mem_of_getElem? hx
    have hxn := Ch.mem_part_lt ok.ch (hW x hxW).1
    have hCh3 := hCh2.mono eN
    walk_at "go"
    refine w_spN hm2 ⟨_, _, _, rfl, hCh3, ok.ch, hxn, rfl⟩ fun v N2 H3 eN2 hm3 hR => ?_
    obtain ⟨t, rfl, ht⟩ := hR
    walk_at "go"
    refine w_itt hm3 ht fun J2 wk2 => ?_
    refine w_for wk2 hm3 (fun j σ N M' => ∃ F L s6 s7, σ = [some (.ref a), some (.ref pa), some (.ref kn), some (.ref lv), some (.ref pf), some (.int (x : Int)), s6, s7] ∧ M' = (pf, .lst (nv F)) :: (lv, .lst (iv L)) :: M0 ∧ SpI e q W L0 F L ∧
        (∀ j x, j < i → W[j]? = some x → ∀ k ∈ e.ch.outs x, e.ch.hd k ∈ e.ch.part q → e.ch.hd k ∈ W ∨ e.ch.hd k ∈ F) ∧ ∀ l k, l < j → (e.ch.outs x)[l]? = some k → e.ch.hd k ∈ e.ch.part q → e.ch.hd k ∈ W ∨ e.ch.hd k ∈ F)
      ⟨F, L, _, _, rfl, rfl, hS, hD, fun l k h => absurd h (Nat.not_lt_zero _)⟩ ?_ ?_
    · rintro j z _ N3 _ H4 hj hz eN3 ⟨F, L, s6, s7, rfl, rfl, hS, hD, hE⟩ hm4
      obtain ⟨b, hb, rfl⟩ := nv_get hz
      obtain ⟨b1, b2⟩ := Ch.mem_outs.mp (List.mem_of_getElem? hb)
      have b3 : b < as.length := by rw [h4.1]; exact b1
      have b4 := h4.2 b b1
      have b5 := ok.ch.hd b b1
      have eR := eN3
      have eI := eN.trans (eN2.trans eN3)
      have hMe3 := hMe2.mono eI
      clear eN eN2 eN3
      have eI2 := eI
      walk_at "go"
      have e1 : (e.ch.ar.getD b (0, 0)).2 = e.ch.hd b := rfl
      rw [e1]
      refine w_in hm4 (.inr (Same.sqt eI hpa)) rfl (flat_nats _) ?_
      rw [inV_nats]
      walk_at "go"
      have skip : (e.ch.hd b ∈ e.ch.part q → e.ch.hd b ∈ W ∨ e.ch.hd b ∈ F) → ∀ l k, l < j + 1 → (e.ch.outs x)[l]? = some k → e.ch.hd k ∈ e.ch.part q → e.ch.hd k ∈ W ∨ e.ch.hd k ∈ F := fun z l k hl hk => by
        by_cases el : l = j
        · subst el
          rw [hb] at hk
          rw [← Option.some.inj hk]
          exact z
        · exact hE l k (by omega) hk
      refine w_iteB (fun q1 => ?_) fun q1 => ?_
      · have q1 := of_decide_eq_true q1
        walk_at "go"
        refine w_in hm4 (.inl (eI.seq hkn)) rfl (flat_nats _) ?_
        rw [inV_nats]
        walk_at "go"
        refine w_iteNB (fun q2 => ?_) fun q2 => ?_
        · have q2 : e.ch.hd b ∉ W := of_decide_eq_false q2
          walk_at "go"
          refine w_inM hm4 foc0 rfl (flat_nats _) ?_
          rw [inV_nats]
          walk_at "go"
          refine w_iteNB (fun q3 => ?_) fun q3 => ?_
          · have q3 : e.ch.hd b ∉ F := of_decide_eq_false q3
            have hxL : x < L.length := by rw [hS.len]; exact hxn
            walk_at "go"
            refine w_spV hm4 ⟨_, _, _, rfl, hMe3, ok, b1, rfl⟩ fun H5 hm5 => ?_
            walk_at "go"
            refine w_setL hm5 (focS foc0) (ixn_nat (by rw [List.length_map, hS.len]; exact b5)) fun H6 hm6 => ?_
            rw [iv_set] at hm6
            walk_at "go"
            refine w_app hm6 foc0 (small_sl ?_) fun H7 hm7 => ?_
            · rw [List.length_map]
              have := nodup_len _ F hS.nd fun y hy => Ch.mem_part_lt ok.ch (hS.dis y hy).2
              omega
            · rw [nv_app] at hm7
              refine ⟨_, _, eR, ⟨F ++ [e.ch.hd b], _, _, _, rfl, rfl, hS.put hxW (fun y hy => (hW y hy).2) b1 b2 q1 q2 q3 b5, fun j' x' hj' hx' k' hk' hp' => (hD j' x' hj' hx' k' hk' hp').imp id fun z => List.mem_append_left _ z, fun l k' hl hk' hp' => ?_⟩, hm7⟩
              by_cases el : l = j
              · subst el
                rw [hb] at hk'
                rw [← Option.some.inj hk']
                exact .inr (List.mem_append_right _ List.mem_cons_self)
              · exact (hE l k' (by omega) hk' hp').imp id fun z => List.mem_append_left _ z
          · walk_at "go"
            exact ⟨_, _, eR, ⟨F, L, _, _, rfl, rfl, hS, hD, skip fun _ => .inr (of_decide_eq_true q3)⟩, hm4⟩
        · walk_at "go"
          exact ⟨_, _, eR, ⟨F, L, _, _, rfl, rfl, hS, hD, skip fun _ => .inl (of_decide_eq_true q2)⟩, hm4⟩
      · walk_at "go"
        exact ⟨_, _, eR, ⟨F, L, _, _, rfl, rfl, hS, hD, skip fun z => absurd z (of_decide_eq_false q1)⟩, hm4⟩
    · rintro _ N3 _ H4 eN3 ⟨F, L, s6, s7, rfl, rfl, hS, hD, hE⟩ hm4
      walk_at "go"
      refine ⟨_, _, eN.trans (eN2.trans eN3), ⟨F, L, _, _, _, rfl, rfl, hS, fun j' x' hj' hx' k' hk' hp' => ?_⟩, hm4⟩
      by_cases el : j' = i
      · subst el
        rw [hx] at hx'
        rw [← Option.some.inj hx'] at hk'
        obtain ⟨l, hl⟩ := List.mem_iff_getElem?.mp hk'
        refine hE l k' ?_ hl hp'
        rw [List.length_map]
        exact (List.getElem?_eq_some_iff.mp hl).1
      · exact hD j' x' (by omega) hx' k' hk' hp'
  · rintro _ N _ H2 eN ⟨F, L, s5, s6, s7, rfl, rfl, hS, hD⟩ hm2
    walk_at "go"
    refine w_frz hm2 fun N2 eN2 hf hm3 => ?_
    refine k _ _ _ _ (eN.trans eN2) hm3 ⟨pf, F, L, rfl, hf, rfl, hS, fun x hx k' hk' hp' => ?_⟩
    obtain ⟨j, hj⟩ := List.mem_iff_getElem?.mp hx
    refine hD j x ?_ hj k' hk' hp'
    rw [List.length_map]
    exact (List.getElem?_eq_some_iff.mp hj).1
end

end Pa

set_option Elab.async false
set_option linter.all false
set_option maxRecDepth 100000
set_option maxHeartbeats 4000000
namespace Pa
open PySem L2
local macro_rules | `(tactic| walk_at "lt") => `(tactic| first
  | assumption
  | omega
  | (simp only [List.length_map, List.length_range, List.length_cons, List.length_nil, List.length_append, List.length_replicate] at *; omega))
local macro_rules | `(tactic| walk_at "fo") => `(tactic| first | exact foc0 | (refine' focS ?k1; (case k1 => walk_at "fo")))
local macro_rules | `(tactic| walk_at "sq") => `(tactic| first
  | assumption
  | (refine' SqL.of ?k1; (case k1 => assumption))
  | (refine' SqT.of ?k1; (case k1 => assumption))
  | (refine' Or.inl ?k1; (case k1 => walk_at "sq"))
  | (refine' Or.inr ?k1; (case k1 => walk_at "sq"))
  | (refine' Same.seq ?k1 ?k2; (case k1 => assumption); (case k2 => walk_at "sq"))
  | (refine' Same.sqt ?k1 ?k2; (case k1 => assumption); (case k2 => walk_at "sq"))
  | (refine' Same.sqe ?k1 ?k2; (case k1 => assumption); (case k2 => walk_at "sq"))
  | (refine' same_at ?k1 ?k2; (case k1 => assumption); (case k2 => walk_at "sq")))
local macro_rules | `(tactic| walk_at "ai") => `(tactic| first
  | assumption
  | (refine' ati_ints ?k1; (case k1 => walk_at "lt"))
  | (refine' ati_refs ?k1; (case k1 => walk_at "lt"))
  | (refine' ati_nat ?k1; (case k1 => assumption))
  | k_dflt rfl)
local macro_rules | `(tactic| walk_at "lk") => `(tactic| first
  | assumption
  | exact lk_hd
  | (refine' lk_tl ?k1 ?k2; (case k1 => decide +kernel); (case k2 => walk_at "lk"))
  | exact lk_nil)
local macro_rules | `(tactic| walk_at "sz") => `(tactic| first
  | exact small_sz (by simp only [List.length_cons, List.length_nil, List.length_append, List.length_map, List.length_range, List.length_set, List.length_replicate]; omega))
local macro_rules | `(tactic| walk_at "cc") => `(tactic| first
  | (show (0 : Int) < _; first | decide | omega)
  | exact Or.inl ⟨by omega, by omega⟩
  | exact Or.inr ⟨by omega, by omega⟩
  | exact ⟨by decide, by decide, by decide⟩)
local macro_rules | `(tactic| walk_at "st") => `(tactic| first
  | with_reducible refine w_seq ?_
  | with_reducible refine w_asg ?_
  | ((with_reducible refine' w_var ?k1 ?_); (case k1 => k_dflt rfl))
  | with_reducible refine w_c ?_
  | with_reducible refine w_op ?_
  | with_reducible refine w_cons ?_
  | with_reducible refine w_nil ?_
  | with_reducible refine w_gname ?_
  | with_reducible refine w_I0 ?_
  | with_reducible refine w_fld ?_
  | ((with_reducible refine' w_ins ?k1 ?k2 ?k3 ?k4 ?k5 ?_); (case k1 => assumption); (case k2 => walk_at "sq"); (case k3 => assumption); (case k4 => assumption); (case k5 => walk_at "lk"))
  | ((with_reducible refine' w_ixT ?k1 ?k2 ?k3 ?_); (case k1 => assumption); (case k2 => walk_at "sq"); (case k3 => walk_at "ai"))
  | ((with_reducible refine' w_ixL ?k1 ?k2 ?k3 ?_); (case k1 => assumption); (case k2 => walk_at "sq"); (case k3 => walk_at "ai"))
  | ((with_reducible refine' w_ixM ?k1 ?k2 ?k3 ?_); (case k1 => assumption); (case k2 => walk_at "fo"); (case k3 => walk_at "ai"))
  | with_reducible refine w_cb ?_
  | with_reducible refine w_test ?_
  | with_reducible refine w_if ?_
  | with_reducible refine w_B ?_
  | with_reducible refine w_not ?_
  | with_reducible refine w_and ?_
  | with_reducible refine w_or ?_
  | with_reducible refine w_eqI ?_
  | with_reducible refine w_neI ?_
  | with_reducible refine w_isN ?_
  | with_reducible refine w_notN ?_
  | with_reducible refine w_isB ?_
  | with_reducible refine w_bl ?_
  | with_reducible refine w_ret ?_
  | with_reducible refine w_next ?_
  | with_reducible refine w_brk ?_
  | with_reducible refine w_drop ?_
  | with_reducible refine w_call ?_
  | with_reducible refine w_un ?_
  | with_reducible refine w_U ?_
  | with_reducible refine w_andV ?_
  | with_reducible refine w_orV ?_
  | with_reducible refine w_notV ?_
  | with_reducible refine w_ifE ?_
  | with_reducible refine w_chain ?_
  | with_reducible refine w_gsub ?_
  | with_reducible refine w_gnil ?_
  | with_reducible refine w_gcons ?_
  | with_reducible refine w_ipI ?_
  | with_reducible refine w_fldS ?_
  | with_reducible refine w_tru ?_
  | with_reducible refine w_abs ?_
  | with_reducible refine w_maxB ?_
  | with_reducible refine w_minB ?_
  | with_reducible refine w_int ?_
  | with_reducible refine w_tupE ?_
  | with_reducible refine w_lstE ?_
  | with_reducible refine w_bm ?_
  | with_reducible refine w_bm0 ?_
  | with_reducible refine w_mth ?_
  | with_reducible refine w_for0 ?_
  | with_reducible refine w_lc0 ?_
  | with_reducible refine w_il ?_
  | with_reducible refine w_it ?_
  | with_reducible refine w_is ?_
  | with_reducible refine w_ie ?_
  | with_reducible refine w_ir1 ?_
  | with_reducible refine w_ir2 ?_
  | with_reducible refine w_irv ?_
  | with_reducible refine w_rg1 ?_
  | with_reducible refine w_rg1v ?_
  | with_reducible refine w_lrg ?_
  | with_reducible refine w_make ?_
  | with_reducible refine w_yes ?_
  | with_reducible refine w_ost ?_
  | with_reducible refine w_mkoE ?_
  | with_reducible refine w_is_int_int ?_
  | with_reducible refine w_is_int_bool ?_
  | with_reducible refine w_is_int_str ?_
  | with_reducible refine w_is_int_tuple ?_
  | with_reducible refine w_is_bl_int ?_
  | with_reducible refine w_is_bl_bool ?_
  | with_reducible refine w_is_bl_str ?_
  | with_reducible refine w_is_bl_tuple ?_
  | with_reducible refine w_is_non_int ?_
  | with_reducible refine w_is_non_bool ?_
  | with_reducible refine w_is_non_str ?_
  | with_reducible refine w_is_non_tuple ?_
  | with_reducible refine w_is_str_int ?_
  | with_reducible refine w_is_str_bool ?_
  | with_reducible refine w_is_str_str ?_
  | with_reducible refine w_is_str_tuple ?_
  | ((with_reducible refine' w_insM ?k1 ?k2 ?k3 ?k4 ?k5 ?_); (case k1 => assumption); (case k2 => walk_at "fo"); (case k3 => assumption); (case k4 => assumption); (case k5 => walk_at "lk"))
  | ((with_reducible refine' w_ixE ?k1 ?k2 ?k3 ?_); (case k1 => assumption); (case k2 => walk_at "sq"); (case k3 => walk_at "ai"))
  | ((with_reducible refine' w_len ?k1 ?k2 ?_); (case k1 => assumption); (case k2 => walk_at "sq"))
  | ((with_reducible refine' w_lenM ?k1 ?k2 ?_); (case k1 => assumption); (case k2 => walk_at "fo"))
  | ((with_reducible refine' w_I ?k1 ?_); (case k1 => walk_at "cc"))
  | ((with_reducible refine' w_gtup ?k1 ?k2 ?_); (case k1 => refine' Mem.sqt ?m0 ?h0; (case m0 => assumption); (case h0 => walk_at "sq")); (case k2 => k_dflt rfl))
  | ((with_reducible refine' w_aug ?k1 ?_); (case k1 => k_dflt rfl))
  | ((with_reducible refine' w_truM ?k1 ?k2 ?_); (case k1 => assumption); (case k2 => walk_at "fo"))
  | ((with_reducible refine' w_truL ?k1 ?k2 ?_); (case k1 => assumption); (case k2 => walk_at "sq"))
  | ((with_reducible refine' w_tyL ?k1 ?k2 ?_); (case k1 => assumption); (case k2 => walk_at "fo"))
  | ((with_reducible refine' w_mthI ?k1 ?k2 ?k3 ?_); (case k1 => assumption); (case k2 => walk_at "sq"); (case k3 => walk_at "lk"))
  | ((with_reducible refine' w_sumM ?k1 ?k2 ?_); (case k1 => assumption); (case k2 => walk_at "fo"))
  | ((with_reducible refine' w_eqDN ?k1 ?k2 ?k3 ?_); (case k1 => assumption); (case k2 => walk_at "sq"); (case k3 => walk_at "sq"))
  | ((with_reducible refine' w_is_tup_int ?k1 ?k2 ?_); (case k1 => assumption); (case k2 => walk_at "sq"))
  | ((with_reducible refine' w_is_tup_bool ?k1 ?k2 ?_); (case k1 => assumption); (case k2 => walk_at "sq"))
  | ((with_reducible refine' w_is_tup_str ?k1 ?k2 ?_); (case k1 => assumption); (case k2 => walk_at "sq"))
  | ((with_reducible refine' w_is_tup_tuple ?k1 ?k2 ?_); (case k1 => assumption); (case k2 => walk_at "sq"))
  | dsimp only)
local macro_rules | `(tactic| walk_at "go") => `(tactic| repeat (walk_at "st"))
theorem iv_rep (n : Nat) : (List.replicate n [V.int 0]).flatten = iv (List.replicate n 0) := by
  induction n with
  | zero => rfl
  | succ n ih =>
    rw [List.replicate_succ, List.replicate_succ, List.flatten_cons, ih]
    rfl
theorem Ch.leads_nd {c : Ch} {n i j q : Nat} (hi : (c.leads n)[i]? = some q) (hj : (c.leads n)[j]? = some q) : i = j := by
  have pw : (c.leads n).Pairwise (· < ·) := (range_lt _).filter _
  obtain ⟨i1, i2⟩ := List.getElem?_eq_some_iff.mp hi
  obtain ⟨j1, j2⟩ := List.getElem?_eq_some_iff.mp hj
  rcases Nat.lt_trichotomy i j with h | h | h
  · have := List.pairwise_iff_getElem.mp pw i j i1 j1 h
    omega
  · exact h
  · have := List.pairwise_iff_getElem.mp pw j i j1 i1 h
    omega
section
variable {P : Program} {w : World} {K : PySem.W.Frag} {mg : Str → Option Value} {base : Heap} {C : Ad} {fI : Addr}
abbrev N_Drifting_init : List Str := ["self", "ring", "by"]
abbrev P_Drifting_init : List Str := ["self", "ring", "by"]
theorem sc_Drifting_init : FnScope N_Drifting_init P_Drifting_init (defScope S_Drifting_init) := ⟨rfl, rfl, rfl, by decide +kernel, rfl, by decide +kernel, by decide +kernel⟩
-- slots: 0 self, 1 ring, 2 by
def spDrgInit (K : PySem.W.Frag) (C : Ad) : Sp := spM fun vs I M R => ∃ (x t : Addr) (M0 : Mu) (b : Int), vs = [.ref x, .ref t, .int b] ∧ M = (x, exo x C.dg none) :: M0 ∧
  R = fun v N M' => v = .non ∧ ∃ d, M' = (x, exo x C.dg (some d)) :: (d, exd d [("by", .int b), ("ring", .ref t)]) :: M0
theorem ok_Drifting_init {f : Addr} {fd : FuncData} (F : FnP K "__init__" "Drifting.__init__" S_Drifting_init f fd) (T : Txt K mg C) (G_DG : DrgC K mg C fI) : FnOk P w K mg base CX0 1 f fd P_Drifting_init (spDrgInit K C) := by
  have nd := sc_Drifting_init.nd
  refine F.ok sc_Drifting_init (fun vs H Q E h => ?_) (fun cdv A outer s H vs Q E hr h => ?_)
  · obtain ⟨I, M, R, ⟨x, t, M0, b, rfl, _⟩, _⟩ := h
    rfl
  obtain ⟨I, M, R, ⟨x, t, M0, b, rfl, rfl, rfl⟩, hm, k⟩ := h
  refine ⟨_, PSs.nox (pss_cons (ps_ost (pv 0) (pv 1))
    (pss_one (ps_ost (pv 0) (pv 2)))), ?_⟩
  try dsimp only [cxOf, Cx.nox, Cx.wish]
  walk_at "go"
  refine w_ost1 hm G_DG.oex G_DG.nr fun d H1 hm1 => ?_
  walk_at "go"
  refine w_ost2 hm1 G_DG.oex G_DG.nb (Nat.le_of_ble_eq_true rfl) fun H2 hm2 => ?_
  exact k _ _ _ _ (Same.refl _) hm2 ⟨rfl, d, rfl⟩
abbrev N_part_levels : List Str := ["meter", "drift", "levels", "part", "known", "_"]
abbrev P_part_levels : List Str := ["meter"]
theorem sc_part_levels : FnScope N_part_levels P_part_levels (defScope S_part_levels) := ⟨rfl, rfl, rfl, by decide +kernel, rfl, by decide +kernel, by decide +kernel⟩
-- slots: 0 meter, 1 drift, 2 levels, 3 part, 4 known, 5 _
def spLevels (K : PySem.W.Frag) (C : Ad) : Sp := fun vs H Q E => ∃ (I : Hp) (M : Mu) (a : Addr) (e : Me), vs = [.ref a] ∧ MeAt K C I a e ∧ e.Ok ∧ Mem I M H ∧
  (∀ t L N H', NoneD e [1, -1] → Same I N → Mem N M H' → SqT K N t (iv L) → IsLv e L → Q (.ref t) H') ∧
  ∀ r t d N H', FirstD e [1, -1] r → Same I N → Mem N ((d, .xd [("by", .int (e.sum r)), ("ring", .ref t)]) :: M) H' → TupN K N t r → E (.ref C.dg) (some d) H'
theorem ok_part_levels {f : Addr} {fd : FuncData} (F : FnP K "part_levels" "part_levels" S_part_levels f fd) (T : Txt K mg C) (G_DG : DrgC K mg C fI) (G_Di : ∃ fd, Binds K fd P_Drifting_init [] ∧ FnOk P w K mg base CX0 1 fI fd P_Drifting_init (spDrgInit K C)) (G_find_drift : FnAt P w K mg base "find_drift" 6 P_find_drift (spFind [1,-1] K C)) (G_parts_of : FnAt P w K mg base "parts_of" 6 P_parts_of (spParts K C)) (G_spread_levels : FnAt P w K mg base "spread_levels" 4 P_spread_levels (spSpread K C)) : FnOk P w K mg base (L2.CX P w) 7 f fd P_part_levels (spLevels K C) := by
  have nd := sc_part_levels.nd
  refine F.ok sc_part_levels (fun vs H Q E h => ?_) (fun cdv A outer s H vs Q E hr h => ?_)
  · obtain ⟨I, M, a, e, rfl, _⟩ := h
    rfl
  obtain ⟨I, M, a, e, rfl, hMe, ok, hm, k, kx⟩ := h
  obtain ⟨fdI, hbI, okI⟩ := G_Di
  have hMe2 := hMe
  obtain ⟨dx, ca, qa, hI, hCh, h5⟩ := hMe
  have hCh2 := hCh
  obtain ⟨dx2, p, r, as, h1, h2, h3, h4⟩ := hCh
  have n1 := T.n_costs
  have n2 := T.clCh
  have n5 := T.clMe
  have n6 := T.n_chart
  have n7 := T.n_ring
  have n8 := T.n_by
  have n9 := T.clDr
  have n16 := ok.ch.n16
  refine ⟨_, (pss_cons (ps_set (i := 1) nd rfl (Or.inl rfl) (pe_fn G_find_drift (hr.mono (by decide)) (pa_cons (pv 0) pa_nil)))
    (pss_cons (ps_if (pt_cmpR op_notN1 (pv 1) pe_non (nomark _))
      (pss_one (ps_raise rfl (takes_of rfl rfl rfl rfl) (pmk_oex G_DG.oex G_DG.ini G_DG.ity okI (hr.mono (by decide)) hbI .nil pass0 rfl T.c_Drifting (pa_cons (pe_fld (pv 1) rfl) (pa_cons (pe_fld (pv 1) rfl) pa_nil)))))
      pss_nil)
    (pss_cons (ps_set (i := 2) nd rfl (Or.inl rfl) (pe_op op_rep (pe_lst (pa_cons pe_int pa_nil)) (pe_callB cl_len (by rfl) T.b_len PySem.boot_len (pa_cons (pe_fld (pe_fld (pv 0) rfl) rfl) pa_nil))))
    (pss_cons (ps_for (passes_of rfl) rfl (pi_tup (pe_fn G_parts_of (hr.mono (by decide)) (pa_cons (pe_fld (pv 0) rfl) pa_nil))) (pg_name (i := 3) nd rfl (Or.inl rfl))
      (pss_cons (ps_set (i := 4) nd rfl (Or.inl rfl) (pe_lst (pa_cons (pe_ix ix_tup (pv 3) pe_int (fun _ _ => rfl)) pa_nil)))
      (pss_one (ps_for (passes_of rfl) rfl (pi_tup (pv 3)) (pg_name (i := 5) nd rfl (Or.inl rfl))
        (pss_one (ps_set (i := 4) nd rfl (Or.inl rfl) (pe_op op_cat (pv 4) (pe_fn G_spread_levels (hr.mono (by decide)) (pa_cons (pv 0) (pa_cons (pv 3) (pa_cons (pv 4) (pa_cons (pv 2) pa_nil))))))))))))
    (pss_one (ps_ret (pe_callTy cl_tuple (by rfl) T.b_tuple PyProof.Rows.boot_tuple (pa_cons (pv 2) pa_nil)))))))), ?_⟩
  try dsimp only [cxOf, Cx.nox, Cx.wish]
  walk_at "go"
  refine w_spN hm ⟨a, e, rfl, hMe2, ok, rfl⟩ fun v N H1 eN hm1 hR => ?_
  rcases hR with ⟨hno, rfl⟩ | ⟨t, r, rfl, ⟨dd, rr, ht, hrr⟩, hF⟩
  · walk_at "go"
    refine w_iteN (fun h => absurd rfl h) fun _ => ?_
    walk_at "go"
    refine w_lst hm1 (by walk_at "sz") fun p0 H2 hm2 => ?_
    walk_at "go"
    refine w_rep hm2 foc0 (by omega) (by simp only [List.length_map]; omega) (by simp only [List.length_map]; exact small_sz (by rw [List.length_singleton]; omega)) fun lv H3 hm3 => ?_
    have hm3 := hm3.swap.drop
    rw [iv_rep, List.length_map, Int.toNat_natCast] at hm3
    walk_at "go"
    refine w_spN hm3 ⟨_, _, rfl, hCh2.mono eN, ok.ch, rfl⟩ fun v N2 H4 eN2 hm4 hR => ?_
    obtain ⟨tp, ts, rfl, htp, hts⟩ := hR
    walk_at "go"
    refine w_itt hm4 htp fun J wk => ?_
    refine w_for wk hm4 (fun i σ N M' => ∃ L s3 s4 s5, σ = [some (.ref a), some .non, some (.ref lv), s3, s4, s5] ∧ M' = (lv, .lst (iv L)) :: M ∧ LvI e ((e.ch.leads e.ch.cs.length).take i) L)
      ⟨_, none, none, none, rfl, rfl, ?_⟩ ?_ ?_
    · refine ⟨List.length_replicate, (fun p hp => nomatch hp), fun x _ => ?_⟩
      rw [List.getD_eq_getElem?_getD, List.getElem?_replicate]
      split <;> rfl
    · rintro i x _ N3 _ H5 hi hx eN3 ⟨L, s3, s4, s5, rfl, rfl, hL⟩ hm5
      obtain ⟨t, ht, rfl⟩ := refs_get hx
      obtain ⟨q, hq, htq⟩ := hts.get ht
      have hqm := List.mem_of_getElem? hq
      obtain ⟨q1, q2, q3⟩ := Ch.mem_leads.mp hqm
      have hqp : q ∈ e.ch.part q := (Ch.mem_part ok.ch).mpr ⟨q2, q2⟩
      have l0 : 0 < (e.ch.part q).length := List.length_pos_of_mem hqp
      have htq3 : TupN K N3 t (e.ch.part q) := Same.sqt eN3 htq
      have l16 : (e.ch.part q).length ≤ 16 := by
        have := nodup_len e.ch.cs.length (e.ch.part q) (((range_lt _).filter _).imp fun h => Nat.ne_of_lt h) fun x hx => Ch.mem_part_lt ok.ch hx
        omega
      have hLq : L.getD q 0 = 0 := hL.2.2 q fun p hp hx => by
        have hpm := List.mem_of_mem_take hp
        have := Ch.lead_eq ok.ch hpm hqm hx hqp
        subst this
        obtain ⟨j, hj⟩ := List.mem_iff_getElem?.mp hp
        rw [List.getElem?_take] at hj
        split at hj
        · rename_i hji
          exact absurd (Ch.leads_nd hj hq) (by omega)
        · cases hj
      walk_at "go"
      refine w_ixT hm5 htq3 (ati_nats (k := 0) l0) ?_
      rw [q3]
      walk_at "go"
      refine w_lstI hm5 (by walk_at "sz") fun kn N4 H6 eN4 hkn hm6 => ?_
      walk_at "go"
      refine w_itt hm6 (Same.sqt eN4 htq3) fun J2 wk2 => ?_
      refine w_for wk2 hm6 (fun j σ N M' => ∃ kn W L' s5, σ = [some (.ref a), some .non, some (.ref lv), some (.ref t), some (.ref kn), s5] ∧ M' = (lv, .lst (iv L')) :: M ∧ N kn = some (.lst (nv W)) ∧ KnI e q L W L' j)
        ⟨kn, [q], L, s5, rfl, rfl, hkn, KnI.init hqp hL.1 hLq⟩ ?_ ?_
      · rintro j x2 _ N5 _ H7 hj hx2 eN5 ⟨kn, W, L', s5, rfl, rfl, hkn, hK⟩ hm7
        have hWl : W.length ≤ 16 := by
          have := nodup_sub W _ hK.nd fun x hx => (hK.sub x hx).1
          omega
        walk_at "go"
        refine w_spM hm7 ⟨a, t, kn, lv, e, q, W, L', M, rfl, rfl, hMe2.mono (eN.trans (eN2.trans (eN3.trans (eN4.trans eN5)))), ok, Same.sqt (eN4.trans eN5) htq3, SqL.of hkn, hK.sub, hWl, hK.len, rfl⟩ fun v N6 M' H8 eN6 hm8 hR => ?_
        obtain ⟨f, F, L2, rfl, hf, rfl, hS, hC⟩ := hR
        walk_at "go"
        refine w_cat hm8 (hm8.ex _ _ (eN6 _ _ hkn)) (hm8.ex _ _ hf) ?_ fun kn2 H9 hm9 => ?_
        · have := nodup_len e.ch.cs.length F hS.nd fun y hy => Ch.mem_part_lt ok.ch (hS.dis y hy).2
          rw [List.length_map, List.length_map]
          exact small_sz (by omega)
        · walk_at "go"
          refine w_frz hm9 fun N7 eN7 hk7 hm10 => ?_
          refine ⟨_, _, eN5.trans (eN6.trans eN7), ⟨kn2, W ++ F, L2, _, rfl, rfl, ?_, hK.round ok.ch hS hC⟩, hm10⟩
          rw [hk7, nv, nv, nv, List.map_append]
      · rintro _ N5 _ H7 eN5 ⟨kn, W, L', s5, rfl, rfl, hkn, hK⟩ hm7
        walk_at "go"
        refine ⟨_, _, eN3.trans (eN4.trans eN5), ⟨L', _, _, _, rfl, rfl, ?_⟩, hm7⟩
        rw [List.length_map] at hK
        rw [List.take_add_one, hq]
        exact hL.step ok.ch (fun p hp => List.mem_of_mem_take hp) hqm hK
    · rintro _ N3 _ H5 eN3 ⟨L, s3, s4, s5, rfl, rfl, hL⟩ hm5
      rw [List.length_map, hts.1, List.take_of_length_le (Nat.le_refl _)] at hL
      walk_at "go"
      refine w_tupOfM hm5 foc0 fun u N4 H6 eN4 hu hm6 => ?_
      exact k _ _ _ _ hno (eN.trans (eN2.trans (eN3.trans eN4))) hm6.drop hu (hL.fin ok.ch)
  · walk_at "go"
    refine w_iteN (fun _ => ?_) fun h => by cases h
    walk_at "go"
    refine w_mko hm1 (Nat.le_of_ble_eq_true rfl) fun a2 N0 eN0 => ⟨_, ⟨a2, rr, _, e.sum r, rfl, rfl, rfl⟩, fun v N2 M' eN2 hR => ?_⟩
    obtain ⟨rfl, d, rfl⟩ := hR
    refine ⟨rfl, d, _, rfl, fun H' hm2 => ?_⟩
    exact kx r rr d _ _ hF (eN.trans (eN0.trans eN2)) hm2 (Same.sqt (eN0.trans eN2) hrr)
end

end Pa

set_option Elab.async false
set_option linter.all false
set_option maxRecDepth 100000
set_option maxHeartbeats 4000000
namespace Pa
open PySem L2
local macro_rules | `(tactic| walk_at "lt") => `(tactic| first
  | assumption
  | omega
  | (simp only [List.length_map, List.length_range, List.length_cons, List.length_nil, List.length_append, List.length_replicate] at *; omega))
local macro_rules | `(tactic| walk_at "fo") => `(tactic| first | exact foc0 | (refine' focS ?k1; (case k1 => walk_at "fo")))
local macro_rules | `(tactic| walk_at "sq") => `(tactic| first
  | assumption
  | (refine' SqL.of ?k1; (case k1 => assumption))
  | (refine' SqT.of ?k1; (case k1 => assumption))
  | (refine' Or.inl ?k1; (case k1 => walk_at "sq"))
  | (refine' Or.inr ?k1; (case k1 => walk_at "sq"))
  | (refine' Same.seq ?k1 ?k2; (case k1 => assumption); (case k2 => walk_at "sq"))
  | (refine' Same.sqt ?k1 ?k2; (case k1 => assumption); (case k2 => walk_at "sq"))
  | (refine' Same.sqe ?k1 ?k2; (case k1 => assumption); (case k2 => walk_at "sq"))
  | (refine' same_at ?k1 ?k2; (case k1 => assumption); (case k2 => walk_at "sq")))
local macro_rules | `(tactic| walk_at "ai") => `(tactic| first
  | assumption
  | (refine' ati_ints ?k1; (case k1 => walk_at "lt"))
  | (refine' ati_refs ?k1; (case k1 => walk_at "lt"))
  | (refine' ati_nat ?k1; (case k1 => assumption))
  | k_dflt rfl)
local macro_rules | `(tactic| walk_at "lk") => `(tactic| first
  | assumption
  | exact lk_hd
  | (refine' lk_tl ?k1 ?k2; (case k1 => decide +kernel); (case k2 => walk_at "lk"))
  | exact lk_nil)
local macro_rules | `(tactic| walk_at "sz") => `(tactic| first
  | exact small_sz (by simp only [List.length_cons, List.length_nil, List.length_append, List.length_map, List.length_range, List.length_set, List.length_replicate]; omega))
local macro_rules | `(tactic| walk_at "cc") => `(tactic| first
  | (show (0 : Int) < _; first | decide | omega)
  | exact Or.inl ⟨by omega, by omega⟩
  | exact Or.inr ⟨by omega, by omega⟩
  | exact ⟨by decide, by decide, by decide⟩)
local macro_rules | `(tactic| walk_at "st") => `(tactic| first
  | with_reducible refine w_seq ?_
  | with_reducible refine w_asg ?_
  | ((with_reducible refine' w_var ?k1 ?_); (case k1 => k_dflt rfl))
  | with_reducible refine w_c ?_
  | with_reducible refine w_op ?_
  | with_reducible refine w_cons ?_
  | with_reducible refine w_nil ?_
  | with_reducible refine w_gname ?_
  | with_reducible refine w_I0 ?_
  | with_reducible refine w_fld ?_
  | ((with_reducible refine' w_ins ?k1 ?k2 ?k3 ?k4 ?k5 ?_); (case k1 => assumption); (case k2 => walk_at "sq"); (case k3 => assumption); (case k4 => assumption); (case k5 => walk_at "lk"))
  | ((with_reducible refine' w_ixT ?k1 ?k2 ?k3 ?_); (case k1 => assumption); (case k2 => walk_at "sq"); (case k3 => walk_at "ai"))
  | ((with_reducible refine' w_ixL ?k1 ?k2 ?k3 ?_); (case k1 => assumption); (case k2 => walk_at "sq"); (case k3 => walk_at "ai"))
  | ((with_reducible refine' w_ixM ?k1 ?k2 ?k3 ?_); (case k1 => assumption); (case k2 => walk_at "fo"); (case k3 => walk_at "ai"))
  | with_reducible refine w_cb ?_
  | with_reducible refine w_test ?_
  | with_reducible refine w_if ?_
  | with_reducible refine w_B ?_
  | with_reducible refine w_not ?_
  | with_reducible refine w_and ?_
  | with_reducible refine w_or ?_
  | with_reducible refine w_eqI ?_
  | with_reducible refine w_neI ?_
  | with_reducible refine w_isN ?_
  | with_reducible refine w_notN ?_
  | with_reducible refine w_isB ?_
  | with_reducible refine w_bl ?_
  | with_reducible refine w_ret ?_
  | with_reducible refine w_next ?_
  | with_reducible refine w_brk ?_
  | with_reducible refine w_drop ?_
  | with_reducible refine w_call ?_
  | with_reducible refine w_un ?_
  | with_reducible refine w_U ?_
  | with_reducible refine w_andV ?_
  | with_reducible refine w_orV ?_
  | with_reducible refine w_notV ?_
  | with_reducible refine w_ifE ?_
  | with_reducible refine w_chain ?_
  | with_reducible refine w_gsub ?_
  | with_reducible refine w_gnil ?_
  | with_reducible refine w_gcons ?_
  | with_reducible refine w_ipI ?_
  | with_reducible refine w_fldS ?_
  | with_reducible refine w_tru ?_
  | with_reducible refine w_abs ?_
  | with_reducible refine w_maxB ?_
  | with_reducible refine w_minB ?_
  | with_reducible refine w_int ?_
  | with_reducible refine w_tupE ?_
  | with_reducible refine w_lstE ?_
  | with_reducible refine w_bm ?_
  | with_reducible refine w_bm0 ?_
  | with_reducible refine w_mth ?_
  | with_reducible refine w_for0 ?_
  | with_reducible refine w_lc0 ?_
  | with_reducible refine w_il ?_
  | with_reducible refine w_it ?_
  | with_reducible refine w_is ?_
  | with_reducible refine w_ie ?_
  | with_reducible refine w_ir1 ?_
  | with_reducible refine w_ir2 ?_
  | with_reducible refine w_irv ?_
  | with_reducible refine w_rg1 ?_
  | with_reducible refine w_rg1v ?_
  | with_reducible refine w_lrg ?_
  | with_reducible refine w_make ?_
  | with_reducible refine w_yes ?_
  | with_reducible refine w_ost ?_
  | with_reducible refine w_mkoE ?_
  | with_reducible refine w_is_int_int ?_
  | with_reducible refine w_is_int_bool ?_
  | with_reducible refine w_is_int_str ?_
  | with_reducible refine w_is_int_tuple ?_
  | with_reducible refine w_is_bl_int ?_
  | with_reducible refine w_is_bl_bool ?_
  | with_reducible refine w_is_bl_str ?_
  | with_reducible refine w_is_bl_tuple ?_
  | with_reducible refine w_is_non_int ?_
  | with_reducible refine w_is_non_bool ?_
  | with_reducible refine w_is_non_str ?_
  | with_reducible refine w_is_non_tuple ?_
  | with_reducible refine w_is_str_int ?_
  | with_reducible refine w_is_str_bool ?_
  | with_reducible refine w_is_str_str ?_
  | with_reducible refine w_is_str_tuple ?_
  | ((with_reducible refine' w_insM ?k1 ?k2 ?k3 ?k4 ?k5 ?_); (case k1 => assumption); (case k2 => walk_at "fo"); (case k3 => assumption); (case k4 => assumption); (case k5 => walk_at "lk"))
  | ((with_reducible refine' w_ixE ?k1 ?k2 ?k3 ?_); (case k1 => assumption); (case k2 => walk_at "sq"); (case k3 => walk_at "ai"))
  | ((with_reducible refine' w_len ?k1 ?k2 ?_); (case k1 => assumption); (case k2 => walk_at "sq"))
  | ((with_reducible refine' w_lenM ?k1 ?k2 ?_); (case k1 => assumption); (case k2 => walk_at "fo"))
  | ((with_reducible refine' w_I ?k1 ?_); (case k1 => walk_at "cc"))
  | ((with_reducible refine' w_gtup ?k1 ?k2 ?_); (case k1 => refine' Mem.sqt ?m0 ?h0; (case m0 => assumption); (case h0 => walk_at "sq")); (case k2 => k_dflt rfl))
  | ((with_reducible refine' w_aug ?k1 ?_); (case k1 => k_dflt rfl))
  | ((with_reducible refine' w_truM ?k1 ?k2 ?_); (case k1 => assumption); (case k2 => walk_at "fo"))
  | ((with_reducible refine' w_truL ?k1 ?k2 ?_); (case k1 => assumption); (case k2 => walk_at "sq"))
  | ((with_reducible refine' w_tyL ?k1 ?k2 ?_); (case k1 => assumption); (case k2 => walk_at "fo"))
  | ((with_reducible refine' w_mthI ?k1 ?k2 ?k3 ?_); (case k1 => assumption); (case k2 => walk_at "sq"); (case k3 => walk_at "lk"))
  | ((with_reducible refine' w_sumM ?k1 ?k2 ?_); (case k1 => assumption); (case k2 => walk_at "fo"))
  | ((with_reducible refine' w_eqDN ?k1 ?k2 ?k3 ?_); (case k1 => assumption); (case k2 => walk_at "sq"); (case k3 => walk_at "sq"))
  | ((with_reducible refine' w_is_tup_int ?k1 ?k2 ?_); (case k1 => assumption); (case k2 => walk_at "sq"))
  | ((with_reducible refine' w_is_tup_bool ?k1 ?k2 ?_); (case k1 => assumption); (case k2 => walk_at "sq"))
  | ((with_reducible refine' w_is_tup_str ?k1 ?k2 ?_); (case k1 => assumption); (case k2 => walk_at "sq"))
  | ((with_reducible refine' w_is_tup_tuple ?k1 ?k2 ?_); (case k1 => assumption); (case k2 => walk_at "sq"))
  | dsimp only)
local macro_rules | `(tactic| walk_at "go") => `(tactic| repeat (walk_at "st"))
abbrev bv (l : List Bool) : List V := l.map V.bl
theorem bv_set {l : List Bool} {k : Nat} {b : Bool} : (bv l).set k (.bl b) = bv (l.set k b) := by rw [bv, bv, List.map_set]
theorem ati_bv {l : List Bool} {k : Nat} (h : k < l.length) : atI (bv l) ((k : Nat) : Int) = some (.bl (l.getD k false)) := by
  refine atI_nat ?_
  rw [List.getElem?_map, List.getElem?_eq_getElem h, List.getD_eq_getElem?_getD, List.getElem?_eq_getElem h]
  rfl
/-- all places are come to from the first -/
def Ch.Conn (c : Ch) : Prop := ∀ v, v < c.cs.length → v = 0 ∨ c.Reach 0 v
theorem bset {l : List Bool} {k : Nat} (h : k < l.length) (hf : l.getD k false = false) : (l.set k true).count false + 1 = l.count false := by
  rw [List.getD_eq_getElem?_getD, List.getElem?_eq_getElem h] at hf
  have hf : l[k] = false := hf
  have h1 := List.count_set (a := true) (b := false) h
  rw [h1, hf]
  have : 0 < l.count false := List.count_pos_iff.mpr (by rw [← hf]; exact List.getElem_mem h)
  simp
  omega
section
variable {P : Program} {w : World} {K : PySem.W.Frag} {mg : Str → Option Value} {base : Heap} {C : Ad}
abbrev N_reached_places : List Str := ["many", "arrows", "reached", "found", "place", "tail", "head"]
abbrev P_reached_places : List Str := ["many", "arrows"]
theorem sc_reached_places : FnScope N_reached_places P_reached_places (defScope S_reached_places) := ⟨rfl, rfl, rfl, by decide +kernel, rfl, by decide +kernel, by decide +kernel⟩
-- slots: 0 many, 1 arrows, 2 reached, 3 found, 4 place, 5 tail, 6 head
def spReached (K : PySem.W.Frag) (C : Ad) : Sp := spN fun vs I R => ∃ (ar : Addr) (as : List Addr) (c : Ch), vs = [.int (c.cs.length : Int), .ref ar] ∧ SqE K I ar (as.map V.ref) ∧ PrsAt K I as c.ar ∧ c.Ok ∧ c.Conn ∧
  R = fun v N => ∃ t, v = .ref t ∧ SqL K N t (bv (List.replicate c.cs.length true))
theorem ok_reached_places {f : Addr} {fd : FuncData} (F : FnP K "reached_places" "reached_places" S_reached_places f fd) (T : Txt K mg C) : FnOk P w K mg base CX0 2 f fd P_reached_places (spReached K C) := by
  have nd := sc_reached_places.nd
  refine F.ok sc_reached_places (fun vs H Q E h => ?_) (fun cdv A outer s H vs Q E hr h => ?_)
  · obtain ⟨I, M, R, ⟨ar, as, c, rfl, _⟩, _⟩ := h
    rfl
  obtain ⟨I, M, R, ⟨ar, as, c, rfl, har, hp, ok, hcn, rfl⟩, hm, k⟩ := h
  have n16 := ok.n16
  have n1 := ok.n1
  refine ⟨_, PSs.nox (pss_cons (ps_setLc (i := 2) (own := [("place", 4)]) (g := (gName 4)) (tt := tYes) (te := (tOp rEq (tVar 4) (tC (.int 0)))) rfl nd rfl rfl (sw_true rfl rfl rfl (by decide +kernel)) (pi_range1 rfl T.b_range (pa_cons (pv 0) pa_nil)) (blkOk_by (N := N_reached_places) (sc := defScope S_reached_places) (by decide +kernel)) (fun _ _ _ _ _ => (pg_name (i := 4) nd rfl (Or.inl rfl))) (fun _ _ _ _ _ => pts_nil) (fun _ _ _ _ _ => (pe_cmpR op_eq (pv 4) pe_int (nomark _))))
    (pss_cons (ps_set (i := 3) nd rfl (Or.inl rfl) (pe_lst (pa_cons pe_int pa_nil)))
    (pss_cons (ps_while PassesOwn.never (pt_tru (pv 3))
      (pss_cons (ps_set (i := 4) nd rfl (Or.inl rfl) (pe_bm0 PySem.F.plainAttrs_list PySem.F.slot_list_pop PySem.F.type_list_pop mt_pop (pv 3)))
      (pss_one (ps_for PassesOwn.never rfl (pi_seq (pv 1)) (pg_tup rfl (pgs_cons (pg_name (i := 5) nd rfl (Or.inl rfl)) (pgs_cons (pg_name (i := 6) nd rfl (Or.inl rfl)) pgs_nil)))
        (pss_one (ps_if (PW.pt (pw_and (pt_cmpR op_eq (pv 5) (pv 4) (nomark _)) (pw_and1 (pt_not (pt_val (pe_ix ix_list (pv 2) (pv 6) (fun _ _ => rfl)))))))
          (pss_cons (ps_asg pe_bl (pg_sub (pv 2) (pv 6) set_list))
          (pss_one (ps_expr (pe_bm PySem.F.plainAttrs_list PySem.F.slot_list_append PySem.F.type_list_append mt_append (pv 3) (pa_cons (pv 6) pa_nil)))))
          pss_nil))))))
    (pss_one (ps_ret (pv 2)))))), ?_⟩
  try dsimp only [cxOf, Cx.nox, Cx.wish]
  walk_at "go"
  refine w_irr1 (by omega) fun J wk => ?_
  refine w_lcR wk hm (fun j => .bl (decide (((j : Nat) : Int) = 0))) (fun _ => true) (by omega) (fun j D acc H' Yes No hj hm' hyes hno => ?_) fun lr H1 hm1 => ?_
  · walk_at "go"
    refine ⟨rfl, ?_⟩
    walk_at "go"
    refine iteT ?_
    walk_at "go"
    exact hyes rfl _ hm'
  · have e0 : (((List.range c.cs.length).filter fun _ => true).map fun j => V.bl (decide (((j : Nat) : Int) = 0))) = bv ((List.range c.cs.length).map fun j => decide (((j : Nat) : Int) = 0)) := by
      rw [List.filter_eq_self.mpr fun _ _ => rfl, bv, List.map_map]
      rfl
    rw [e0] at hm1
    walk_at "go"
    refine w_lst hm1 (by walk_at "sz") fun lw H2 hm2 => ?_
    walk_at "go"
    refine w_while hm2 (fun m σ N M' => ∃ B W s4 s5 s6, σ = [some (.int (c.cs.length : Int)), some (.ref ar), some (.ref lr), some (.ref lw), s4, s5, s6] ∧ M' = (lw, .lst (nv W)) :: (lr, .lst (bv B)) :: M ∧ B.length = c.cs.length ∧ B.getD 0 false = true ∧
        (∀ x ∈ W, x < c.cs.length) ∧ (∀ k, k < c.ar.length → B.getD (c.tl k) false = true → c.tl k ∉ W → B.getD (c.hd k) false = true) ∧ m = 2 * B.count false + W.length ∧ m ≤ 1000)
      _ ⟨_, [0], none, none, none, rfl, rfl, by rw [List.length_map, List.length_range], ?_, (fun x hx => by rw [List.mem_singleton.mp hx]; exact n1), ?_, rfl, ?_⟩ ?_
    · rw [List.getD_eq_getElem?_getD, List.getElem?_map, List.getElem?_range n1]
      rfl
    · intro k hk h1 h2
      exfalso
      rw [List.getD_eq_getElem?_getD, List.getElem?_map, List.getElem?_range (ok.tl k hk)] at h1
      have h1 : decide (((c.tl k : Nat) : Int) = 0) = true := h1
      have h1 := of_decide_eq_true h1
      exact h2 (List.mem_singleton.mpr (by omega))
    · have := List.count_le_length (a := false) (l := (List.range c.cs.length).map fun j => decide (((j : Nat) : Int) = 0))
      rw [List.length_map, List.length_range] at this
      rw [List.length_singleton]
      omega
    · rintro m _ N _ H3 eN ⟨B, W, s4, s5, s6, rfl, rfl, hB, hB0, hW, hC, rfl, hmm⟩ hm3
      walk_at "go"
      refine w_iteB (fun hb => w_wbody ?_) fun hb => ?_
      · obtain ⟨W, t, rfl⟩ := nv_snoc hb
        walk_at "go"
        rw [← nv_app] at hm3
        refine w_popL hm3 foc0 fun H4 hm4 => ?_
        walk_at "go"
        refine w_iseq hm4 (Same.sqe eN har) fun J wk => ?_
        refine w_for wk hm4 (fun i σ N M' => ∃ B2 W2 s5 s6, σ = [some (.int (c.cs.length : Int)), some (.ref ar), some (.ref lr), some (.ref lw), some (.int (t : Int)), s5, s6] ∧ M' = (lw, .lst (nv W2)) :: (lr, .lst (bv B2)) :: M ∧ B2.length = c.cs.length ∧ B2.getD 0 false = true ∧
            (∀ x ∈ W2, x < c.cs.length) ∧ (∀ k, k < c.ar.length → B2.getD (c.tl k) false = true → c.tl k ∉ W2 → (c.tl k = t ∧ i ≤ k) ∨ B2.getD (c.hd k) false = true) ∧ 2 * B2.count false + W2.length < 2 * B.count false + (W ++ [t]).length)
          ⟨B, W, s5, s6, rfl, rfl, hB, hB0, fun x hx => hW x (List.mem_append_left _ hx), fun k hk h1 h2 => ?_, by rw [List.length_append, List.length_singleton]; omega⟩ ?_ ?_
        · by_cases e : c.tl k = t
          · exact .inl ⟨e, Nat.zero_le _⟩
          · refine .inr (hC k hk h1 fun z => ?_)
            rcases List.mem_append.mp z with z | z
            · exact h2 z
            · exact e (List.mem_singleton.mp z)
        · rintro i x _ N2 _ H5 hi hx eN2 ⟨B2, W2, s5, s6, rfl, rfl, hB2, hB20, hW2, hC2, hms⟩ hm5
          rw [List.length_map] at hi
          have hi2 : i < c.ar.length := by rw [← hp.1]; exact hi
          have ex : x = .ref (as.getD i 0) := by
            obtain ⟨t, ht, rfl⟩ := refs_get hx
            rw [List.getD_eq_getElem?_getD, ht]
            rfl
          subst ex
          have hpi := hp.2 i hi2
          have eR := eN2
          have eI := eN.trans eN2
          clear eN eN2
          have e1 : (c.ar.getD i (0, 0)).1 = c.tl i := rfl
          have e2 : (c.ar.getD i (0, 0)).2 = c.hd i := rfl
          rw [e1, e2] at hpi
          have hh : c.hd i < B2.length := by rw [hB2]; exact ok.hd i hi2
          have ai := ati_bv hh
          have keep : (c.tl i = t → B2.getD (c.hd i) false = true) → ∀ k, k < c.ar.length → B2.getD (c.tl k) false = true → c.tl k ∉ W2 → (c.tl k = t ∧ i + 1 ≤ k) ∨ B2.getD (c.hd k) false = true := fun z k hk h1 h2 => by
            rcases hC2 k hk h1 h2 with ⟨h3, h4⟩ | h3
            · by_cases ek : k = i
              · subst ek
                exact .inr (z h3)
              · exact .inl ⟨h3, by omega⟩
            · exact .inr h3
          walk_at "go"
          refine w_ite (fun q1 => ?_) fun q1 => ?_
          · have q1 : c.tl i = t := by omega
            walk_at "go"
            refine w_iteNB (fun q2 => ?_) fun q2 => ?_
            · walk_at "go"
              refine w_setL hm5 (focS foc0) (ixn_nat (by rw [List.length_map]; exact hh)) fun H6 hm6 => ?_
              rw [bv_set] at hm6
              walk_at "go"
              have hcnt := bset hh q2
              refine w_app hm6 foc0 (small_sl (by rw [List.length_map]; rw [List.length_append, List.length_singleton] at hms hmm; omega)) fun H7 hm7 => ?_
              rw [nv_app] at hm7
              refine ⟨_, _, eR, ⟨B2.set (c.hd i) true, W2 ++ [c.hd i], _, _, rfl, rfl, by rw [List.length_set, hB2], ?_, fun x hx => ?_, fun k hk h1 h2 => ?_, ?_⟩, hm7⟩
              · rw [getD_set hh]
                split
                · rfl
                · exact hB20
              · rcases List.mem_append.mp hx with hx | hx
                · exact hW2 x hx
                · rw [List.mem_singleton.mp hx]
                  exact ok.hd i hi2
              · rw [getD_set hh] at h1 ⊢
                by_cases e3 : c.tl k = c.hd i
                · exact absurd (List.mem_append_right _ (by rw [e3]; exact List.mem_cons_self)) h2
                · rw [if_neg e3] at h1
                  by_cases e4 : c.hd k = c.hd i
                  · exact .inr (by rw [if_pos e4])
                  · rw [if_neg e4]
                    rcases hC2 k hk h1 (fun z => h2 (List.mem_append_left _ z)) with ⟨h3, h4⟩ | h3
                    · refine .inl ⟨h3, ?_⟩
                      have : k ≠ i := fun z => e4 (by rw [z])
                      omega
                    · exact .inr h3
              · rw [List.length_append, List.length_singleton]
                omega
            · walk_at "go"
              exact ⟨_, _, eR, ⟨B2, W2, _, _, rfl, rfl, hB2, hB20, hW2, keep fun _ => q2, hms⟩, hm5⟩
          · walk_at "go"
            exact ⟨_, _, eR, ⟨B2, W2, _, _, rfl, rfl, hB2, hB20, hW2, keep fun z => absurd (congrArg (Nat.cast (R := Int)) z) q1, hms⟩, hm5⟩
        · rintro _ N2 _ H5 eN2 ⟨B2, W2, s5, s6, rfl, rfl, hB2, hB20, hW2, hC2, hms⟩ hm5
          refine ⟨_, hms, _, _, eN.trans eN2, ⟨B2, W2, _, _, _, rfl, rfl, hB2, hB20, hW2, fun k hk h1 h2 => ?_, rfl, by omega⟩, hm5⟩
          rcases hC2 k hk h1 h2 with ⟨h3, h4⟩ | h3
          · rw [List.length_map, hp.1] at h4
            omega
          · exact h3
      · have e := nv_nil hb
        subst e
        walk_at "go"
        refine w_frz hm3.drop fun N2 eN2 hl hm4 => ?_
        refine k _ _ _ (eN.trans eN2) hm4 ⟨lr, rfl, ?_⟩
        have eB : B = List.replicate c.cs.length true := by
          refine List.eq_replicate_iff.mpr ⟨hB, fun b hb => ?_⟩
          obtain ⟨j, hj⟩ := List.mem_iff_getElem?.mp hb
          have hjl := (List.getElem?_eq_some_iff.mp hj).1
          have hjB : B.getD j false = b := by rw [List.getD_eq_getElem?_getD, hj]; rfl
          rw [← hjB]
          rcases hcn j (by omega) with z | z
          · rw [z]
            exact hB0
          · refine z.closed (S := fun x => B.getD x false = true) fun k hk y => ?_
            refine hC k hk ?_ (by simp)
            rcases y with y | y
            · rw [y]
              exact hB0
            · exact y
        rw [← eB]
        exact SqL.of hl
abbrev N_Chart_init : List Str := ["self", "costs", "arrows", "index", "cost", "last", "arrow", "place", "reached"]
abbrev P_Chart_init : List Str := ["self", "costs", "arrows"]
theorem sc_Chart_init : FnScope N_Chart_init P_Chart_init (defScope S_Chart_init) := ⟨rfl, rfl, rfl, by decide +kernel, rfl, by decide +kernel, by decide +kernel⟩
-- slots: 0 self, 1 costs, 2 arrows, 3 index, 4 cost, 5 last, 6 arrow, 7 place, 8 reached
/-- costs and arrows as Chart takes them -/
structure Ch.Fit (c : Ch) : Prop where
  ok : c.Ok
  cn : c.Conn
  cs : ∀ x ∈ c.cs, 0 ≤ x ∧ x ≤ 1000000000
def spChartInit (K : PySem.W.Frag) (C : Ad) : Sp := spM fun vs I M R => ∃ (x dx cs ar : Addr) (as : List Addr) (M0 : Mu) (c : Ch), vs = [.ref x, .ref cs, .ref ar] ∧ M = (x, .ins C.ch dx []) :: M0 ∧ SqE K I cs (iv c.cs) ∧ SqE K I ar (as.map V.ref) ∧ PrsAt K I as c.ar ∧ c.Fit ∧
  R = fun v N M' => v = .non ∧ ∃ p r as', M' = (x, .ins C.ch dx (chF p r)) :: M0 ∧ SqT K N p (iv c.cs) ∧ SqT K N r (as'.map V.ref) ∧ PrsAt K N as' c.ar
theorem ok_Chart_init {f : Addr} {fd : FuncData} (F : FnP K "__init__" "Chart.__init__" S_Chart_init f fd) (T : Txt K mg C) (G_is_whole : FnAt P w K mg base "is_whole" 1 P_is_whole spWhole) (G_is_row : FnAt P w K mg base "is_row" 1 P_is_row (spRow K)) (G_reached_places : FnAt P w K mg base "reached_places" 2 P_reached_places (spReached K C)) : FnOk P w K mg base CX0 3 f fd P_Chart_init (spChartInit K C) := by
  have nd := sc_Chart_init.nd
  refine F.ok sc_Chart_init (fun vs H Q E h => ?_) (fun cdv A outer s H vs Q E hr h => ?_)
  · obtain ⟨I, M, R, ⟨x, dx, cs, ar, as, M0, c, rfl, _⟩, _⟩ := h
    rfl
  obtain ⟨I, M, R, ⟨x, dx, cs, ar, as, M0, c, rfl, rfl, hcs, har, hp, fit, rfl⟩, hm, k⟩ := h
  have ok := fit.ok
  have n16 := ok.n16
  have n1 := ok.n1
  have m32 := ok.m32
  have cl := T.clCh
  have na1 := T.n_costs
  have na2 := T.n_arrows
  have lcs : (iv c.cs).length = c.cs.length := List.length_map _
  refine ⟨_, PSs.nox (pss_cons (ps_if (pt_not (pt_val (pe_fn G_is_row (hr.mono (by decide)) (pa_cons (pv 1) (pa_cons pe_int (pa_cons pe_int pa_nil))))))
      (pss_one ps_never)
      pss_nil)
    (pss_cons (ps_for PassesOwn.never rfl (pi_enumS rfl T.b_enumerate (pa_cons (pv 1) pa_nil)) (pg_tup rfl (pgs_cons (pg_name (i := 3) nd rfl (Or.inl rfl)) (pgs_cons (pg_name (i := 4) nd rfl (Or.inl rfl)) pgs_nil)))
      (pss_one (ps_if (pt_not (pt_val (pe_fn G_is_whole (hr.mono (by decide)) (pa_cons (pv 4) (pa_cons pe_int (pa_cons (pe_op op_pow pe_int pe_int) pa_nil))))))
        (pss_one ps_never)
        pss_nil)))
    (pss_cons (ps_if (pt_not (pt_val (pe_fn G_is_row (hr.mono (by decide)) (pa_cons (pv 2) (pa_cons pe_int (pa_cons pe_int pa_nil))))))
      (pss_one ps_never)
      pss_nil)
    (pss_cons (ps_set (i := 5) nd rfl (Or.inl rfl) (pe_op op_sub (pe_callB cl_len (by rfl) T.b_len PySem.boot_len (pa_cons (pv 1) pa_nil)) pe_int))
    (pss_cons (ps_for PassesOwn.never rfl (pi_enumS rfl T.b_enumerate (pa_cons (pv 2) pa_nil)) (pg_tup rfl (pgs_cons (pg_name (i := 3) nd rfl (Or.inl rfl)) (pgs_cons (pg_name (i := 6) nd rfl (Or.inl rfl)) pgs_nil)))
      (pss_one (ps_if (PW.pt (pw_or (pt_not (pt_val (pe_fn G_is_row (hr.mono (by decide)) (pa_cons (pv 6) (pa_cons pe_int (pa_cons pe_int pa_nil)))))) (pw_or (pt_not (pt_val (pe_fn G_is_whole (hr.mono (by decide)) (pa_cons (pe_ix ix_tup (pv 6) pe_int (fun _ _ => rfl)) (pa_cons pe_int (pa_cons (pv 5) pa_nil)))))) (pw_or1 (pt_not (pt_val (pe_fn G_is_whole (hr.mono (by decide)) (pa_cons (pe_ix ix_tup (pv 6) pe_int (fun _ _ => rfl)) (pa_cons pe_int (pa_cons (pv 5) pa_nil))))))))))
        (pss_one ps_never)
        pss_nil)))
    (pss_cons (ps_for PassesOwn.never rfl (pi_enumS rfl T.b_enumerate (pa_cons (pe_fn G_reached_places (hr.mono (by decide)) (pa_cons (pe_callB cl_len (by rfl) T.b_len PySem.boot_len (pa_cons (pv 1) pa_nil)) (pa_cons (pv 2) pa_nil))) pa_nil)) (pg_tup rfl (pgs_cons (pg_name (i := 7) nd rfl (Or.inl rfl)) (pgs_cons (pg_name (i := 8) nd rfl (Or.inl rfl)) pgs_nil)))
      (pss_one (ps_if (pt_not (pt_val (pv 8)))
        (pss_one ps_never)
        pss_nil)))
    (pss_cons (ps_fld (pv 0) (pe_callTy cl_tuple (by rfl) T.b_tuple PyProof.Rows.boot_tuple (pa_cons (pv 1) pa_nil)) rfl)
    (pss_one (ps_fld (pv 0) (pe_callTy cl_tuple (by rfl) T.b_tuple PyProof.Rows.boot_tuple (pa_cons (pe_lc (own := [("arrow", 6)]) (g := (gName 6)) (tt := tYes) (te := (tCB (rTupOf K) (tCons (tVar 6) tNil))) rfl nd (pi_seq (pv 2)) (blkOk_by (N := N_Chart_init) (sc := defScope S_Chart_init) (by decide +kernel)) (fun _ _ _ _ _ => (pg_name (i := 6) nd rfl (Or.inl rfl))) (fun _ _ _ _ _ => pts_nil) (fun _ _ _ _ _ => (pe_callTy cl_tuple (by rfl) T.b_tuple PyProof.Rows.boot_tuple (pa_cons (pv 6) pa_nil)))) pa_nil)) rfl))))))))), ?_⟩
  try dsimp only [cxOf, Cx.nox, Cx.wish]
  walk_at "go"
  refine w_spV hm ⟨.ref cs, 1, 16, rfl, .inl ⟨cs, _, rfl, hcs, rfl⟩⟩ fun H1 hm1 => ?_
  walk_at "go"
  rw [lcs, decide_eq_true (by omega), decide_eq_true (by omega)]
  refine w_iteNB (fun h => by cases h) fun _ => ?_
  walk_at "go"
  refine w_ienum hm1 hcs fun J wk => ?_
  refine w_forE wk hm1 (fun i σ N M' => ∃ s3 s4, σ = [some (.ref x), some (.ref cs), some (.ref ar), s3, s4, none, none, none, none] ∧ M' = (x, .ins C.ch dx []) :: M0) ⟨none, none, rfl, rfl⟩ ?_ (fun _ _ _ _ _ _ h => h) ?_
  · rintro i y t _ N _ H2 hi hy eN hT ⟨s3, s4, rfl, rfl⟩ hm2
    obtain ⟨z, hz, rfl⟩ := iv_get hy
    have hzb := fit.cs z (List.mem_of_getElem? hz)
    have eR := eN
    clear eN
    walk_at "go"
    refine w_spV hm2 ⟨_, _, _, rfl, rfl⟩ fun H3 hm3 => ?_
    walk_at "go"
    have e9 : (10 : Int) ^ (9 : Int).toNat = 1000000000 := by decide
    rw [e9, decide_eq_true hzb.1, decide_eq_true hzb.2]
    refine w_iteNB (fun h => by cases h) fun _ => ?_
    walk_at "go"
    exact ⟨_, _, eR, ⟨_, _, rfl, rfl⟩, hm3⟩
  · rintro _ N _ H2 eN ⟨s3, s4, rfl, rfl⟩ hm2
    walk_at "go"
    have eR := eN
    have hcs2 : SqE K N cs (iv c.cs) := Same.sqe eN hcs
    have har2 : SqE K N ar (as.map V.ref) := Same.sqe eN har
    have hp2 := hp.mono eN
    clear eN hcs har hp
    refine w_spV hm2 ⟨.ref ar, 0, 32, rfl, .inl ⟨ar, _, rfl, har2, rfl⟩⟩ fun H3 hm3 => ?_
    walk_at "go"
    rw [List.length_map, hp2.1, decide_eq_true (by omega), decide_eq_true (by omega)]
    refine w_iteNB (fun h => by cases h) fun _ => ?_
    walk_at "go"
    rw [lcs]
    refine w_ienum hm3 har2 fun J wk => ?_
    refine w_forE wk hm3 (fun i σ N M' => ∃ s3 s4 s6, σ = [some (.ref x), some (.ref cs), some (.ref ar), s3, s4, some (.int ((c.cs.length : Int) - 1)), s6, none, none] ∧ M' = (x, .ins C.ch dx []) :: M0) ⟨s3, s4, none, rfl, rfl⟩ ?_ (fun _ _ _ _ _ _ h => h) ?_
    · rintro i y t _ N2 _ H4 hi hy eN hT ⟨s3, s4, s6, rfl, rfl⟩ hm4
      obtain ⟨q, hq, rfl⟩ := refs_get hy
      have hil : i < as.length := (List.getElem?_eq_some_iff.mp hq).1
      have hi2 : i < c.ar.length := by rw [← hp2.1]; exact hil
      have eq : as.getD i 0 = q := by rw [List.getD_eq_getElem?_getD, hq]; rfl
      have hpi : SqT K N2 q [V.int ((c.tl i : Nat) : Int), V.int ((c.hd i : Nat) : Int)] := by
        have := (hp2.mono eN).2 i hi2
        rw [eq] at this
        exact this
      have b1 := ok.tl i hi2
      have b2 := ok.hd i hi2
      have eR2 := eN
      clear eN
      walk_at "go"
      refine w_spV hm4 ⟨.ref q, 2, 2, rfl, .inl ⟨q, _, rfl, .inr hpi, rfl⟩⟩ fun H5 hm5 => ?_
      walk_at "go"
      refine w_nt ?_
      walk_at "go"
      refine w_spV hm5 ⟨_, _, _, rfl, rfl⟩ fun H6 hm6 => ?_
      walk_at "go"
      rw [decide_eq_true (show (0 : Int) ≤ ((c.tl i : Nat) : Int) by omega), decide_eq_true (show ((c.tl i : Nat) : Int) ≤ (c.cs.length : Int) - 1 by omega)]
      refine w_nt ?_
      walk_at "go"
      refine w_spV hm6 ⟨_, _, _, rfl, rfl⟩ fun H7 hm7 => ?_
      walk_at "go"
      rw [decide_eq_true (show (0 : Int) ≤ ((c.hd i : Nat) : Int) by omega), decide_eq_true (show ((c.hd i : Nat) : Int) ≤ (c.cs.length : Int) - 1 by omega)]
      refine w_nt ?_
      walk_at "go"
      exact ⟨_, _, eR2, ⟨_, _, _, rfl, rfl⟩, hm7⟩
    · rintro _ N2 _ H4 eN ⟨s3, s4, s6, rfl, rfl⟩ hm4
      walk_at "go"
      rw [lcs]
      refine w_spN hm4 ⟨ar, as, c, rfl, Same.sqe eN har2, hp2.mono eN, ok, fit.cn, rfl⟩ fun v N3 H5 eN3 hm5 hR => ?_
      obtain ⟨t, rfl, ht⟩ := hR
      have eR2 := eN.trans eN3
      have hcs3 : SqE K N3 cs (iv c.cs) := Same.sqe eR2 hcs2
      have har3 : SqE K N3 ar (as.map V.ref) := Same.sqe eR2 har2
      have hp3 := hp2.mono eR2
      have eR3 := eR.trans eR2
      clear eN eN3 eR eR2 hcs2 har2 hp2
      walk_at "go"
      refine w_ienum hm5 (.inl ht) fun J wk => ?_
      refine w_forE wk hm5 (fun i σ N M' => ∃ s3 s4 s6 s7 s8, σ = [some (.ref x), some (.ref cs), some (.ref ar), s3, s4, some (.int ((c.cs.length : Int) - 1)), s6, s7, s8] ∧ M' = (x, .ins C.ch dx []) :: M0) ⟨s3, s4, s6, none, none, rfl, rfl⟩ ?_ (fun _ _ _ _ _ _ h => h) ?_
      · rintro i y t2 _ N4 _ H6 hi hy eN hT ⟨s3, s4, s6, s7, s8, rfl, rfl⟩ hm6
        have ey : y = .bl true := by
          have := List.mem_of_getElem? hy
          obtain ⟨b, hb, rfl⟩ := List.mem_map.mp this
          rw [List.eq_of_mem_replicate hb]
        subst ey
        have eR4 := eN
        clear eN
        walk_at "go"
        refine w_nt ?_
        walk_at "go"
        exact ⟨_, _, eR4, ⟨_, _, _, _, _, rfl, rfl⟩, hm6⟩
      · rintro _ N4 _ H6 eN ⟨s3, s4, s6, s7, s8, rfl, rfl⟩ hm6
        walk_at "go"
        refine w_tupOf hm6 (Same.sqe eN hcs3) fun pq N5 H7 eN5 hpq hm7 => ?_
        walk_at "go"
        refine w_put hm7 foc0 cl na1 (by decide) fun H8 hm8 => ?_
        walk_at "go"
        refine w_iseq hm8 (Same.sqe (eN.trans eN5) har3) fun J wk => ?_
        refine w_lcGA wk hm8 (fun j acc N M' => ∃ us, acc = us.map V.ref ∧ M' = (x, .ins C.ch dx (putF "costs" (.ref pq) [])) :: M0 ∧ us.length = j ∧ ∀ l, l < j → SqT K N (us.getD l 0) [V.int ((c.tl l : Nat) : Int), V.int ((c.hd l : Nat) : Int)])
          ⟨[], rfl, rfl, rfl, fun l h => absurd h (Nat.not_lt_zero _)⟩ (fun j y D acc N6 M' H9 Yes No hj hy eN6 hPv hm9 hyes hno => ?_) fun D acc N6 M' H9 eN6 hPv hm9 => ?_
        · obtain ⟨us, rfl, rfl, hul, hus⟩ := hPv
          obtain ⟨q, hq, rfl⟩ := refs_get hy
          have hil : j < as.length := (List.getElem?_eq_some_iff.mp hq).1
          have hi2 : j < c.ar.length := by rw [← hp3.1]; exact hil
          have eq : as.getD j 0 = q := by rw [List.getD_eq_getElem?_getD, hq]; rfl
          have hpi : SqT K N6 q [V.int ((c.tl j : Nat) : Int), V.int ((c.hd j : Nat) : Int)] := by
            have := (hp3.mono (eN.trans (eN5.trans eN6))).2 j hi2
            rw [eq] at this
            exact this
          walk_at "go"
          refine ⟨rfl, ?_⟩
          walk_at "go"
          refine iteT ?_
          walk_at "go"
          refine w_tupOf hm9 (.inr hpi) fun u N7 H10 eN7 hu hm10 => ?_
          refine hyes _ _ _ _ (eN6.trans eN7) ⟨us ++ [u], by rw [List.map_append]; rfl, rfl, by rw [List.length_append, hul]; rfl, fun l hl => ?_⟩ (small_sl (by rw [List.length_map]; omega)) hm10
          rw [List.getD_eq_getElem?_getD]
          by_cases el : l = j
          · subst el
            rw [List.getElem?_append_right (by omega), hul, Nat.sub_self]
            exact hu
          · rw [List.getElem?_append_left (by omega)]
            have := Same.sqt eN7 (hus l (by omega))
            rw [List.getD_eq_getElem?_getD] at this
            exact this
        · obtain ⟨us, rfl, rfl, hul, hus⟩ := hPv
          rw [List.length_map, hp3.1] at hul hus
          walk_at "go"
          refine w_tupOfM hm9 foc0 fun r N7 H10 eN7 hr7 hm10 => ?_
          walk_at "go"
          refine w_put hm10.drop foc0 cl na2 (Nat.lt_trans (putF_lt (n := 1) (by decide)) (by decide)) fun H11 hm11 => ?_
          refine k _ _ _ _ (eR3.trans (eN.trans (eN5.trans (eN6.trans eN7)))) hm11 ⟨rfl, pq, r, us, rfl, Same.sqt (eN6.trans eN7) hpq, hr7, hul, fun l hl => Same.sqt eN7 (hus l hl)⟩
end

end Pa

set_option Elab.async false
set_option linter.all false
set_option maxRecDepth 100000
set_option maxHeartbeats 4000000
namespace Pa
open PySem L2
local macro_rules | `(tactic| walk_at "lt") => `(tactic| first
  | assumption
  | omega
  | (simp only [List.length_map, List.length_range, List.length_cons, List.length_nil, List.length_append, List.length_replicate] at *; omega))
local macro_rules | `(tactic| walk_at "fo") => `(tactic| first | exact foc0 | (refine' focS ?k1; (case k1 => walk_at "fo")))
local macro_rules | `(tactic| walk_at "sq") => `(tactic| first
  | assumption
  | (refine' SqL.of ?k1; (case k1 => assumption))
  | (refine' SqT.of ?k1; (case k1 => assumption))
  | (refine' Or.inl ?k1; (case k1 => walk_at "sq"))
  | (refine' Or.inr ?k1; (case k1 => walk_at "sq"))
  | (refine' Same.seq ?k1 ?k2; (case k1 => assumption); (case k2 => walk_at "sq"))
  | (refine' Same.sqt ?k1 ?k2; (case k1 => assumption); (case k2 => walk_at "sq"))
  | (refine' Same.sqe ?k1 ?k2; (case k1 => assumption); (case k2 => walk_at "sq"))
  | (refine' same_at ?k1 ?k2; (case k1 => assumption); (case k2 => walk_at "sq")))
local macro_rules | `(tactic| walk_at "ai") => `(tactic| first
  | assumption
  | (refine' ati_ints ?k1; (case k1 => walk_at "lt"))
  | (refine' ati_refs ?k1; (case k1 => walk_at "lt"))
  | (refine' ati_nat ?k1; (case k1 => assumption))
  | k_dflt rfl)
local macro_rules | `(tactic| walk_at "lk") => `(tactic| first
  | assumption
  | exact lk_hd
  | (refine' lk_tl ?k1 ?k2; (case k1 => decide +kernel); (case k2 => walk_at "lk"))
  | exact lk_nil)
local macro_rules | `(tactic| walk_at "sz") => `(tactic| first
  | exact small_sz (by simp only [List.length_cons, List.length_nil, List.length_append, List.length_map, List.length_range, List.length_set, List.length_replicate]; omega))
local macro_rules | `(tactic| walk_at "cc") => `(tactic| first
  | (show (0 : Int) < _; first | decide | omega)
  | exact Or.inl ⟨by omega, by omega⟩
  | exact Or.inr ⟨by omega, by omega⟩
  | exact ⟨by decide, by decide, by decide⟩)
local macro_rules | `(tactic| walk_at "st") => `(tactic| first
  | with_reducible refine w_seq ?_
  | with_reducible refine w_asg ?_
  | ((with_reducible refine' w_var ?k1 ?_); (case k1 => k_dflt rfl))
  | with_reducible refine w_c ?_
  | with_reducible refine w_op ?_
  | with_reducible refine w_cons ?_
  | with_reducible refine w_nil ?_
  | with_reducible refine w_gname ?_
  | with_reducible refine w_I0 ?_
  | with_reducible refine w_fld ?_
  | ((with_reducible refine' w_ins ?k1 ?k2 ?k3 ?k4 ?k5 ?_); (case k1 => assumption); (case k2 => walk_at "sq"); (case k3 => assumption); (case k4 => assumption); (case k5 => walk_at "lk"))
  | ((with_reducible refine' w_ixT ?k1 ?k2 ?k3 ?_); (case k1 => assumption); (case k2 => walk_at "sq"); (case k3 => walk_at "ai"))
  | ((with_reducible refine' w_ixL ?k1 ?k2 ?k3 ?_); (case k1 => assumption); (case k2 => walk_at "sq"); (case k3 => walk_at "ai"))
  | ((with_reducible refine' w_ixM ?k1 ?k2 ?k3 ?_); (case k1 => assumption); (case k2 => walk_at "fo"); (case k3 => walk_at "ai"))
  | with_reducible refine w_cb ?_
  | with_reducible refine w_test ?_
  | with_reducible refine w_if ?_
  | with_reducible refine w_B ?_
  | with_reducible refine w_not ?_
  | with_reducible refine w_and ?_
  | with_reducible refine w_or ?_
  | with_reducible refine w_eqI ?_
  | with_reducible refine w_neI ?_
  | with_reducible refine w_isN ?_
  | with_reducible refine w_notN ?_
  | with_reducible refine w_isB ?_
  | with_reducible refine w_bl ?_
  | with_reducible refine w_ret ?_
  | with_reducible refine w_next ?_
  | with_reducible refine w_brk ?_
  | with_reducible refine w_drop ?_
  | with_reducible refine w_call ?_
  | with_reducible refine w_un ?_
  | with_reducible refine w_U ?_
  | with_reducible refine w_andV ?_
  | with_reducible refine w_orV ?_
  | with_reducible refine w_notV ?_
  | with_reducible refine w_ifE ?_
  | with_reducible refine w_chain ?_
  | with_reducible refine w_gsub ?_
  | with_reducible refine w_gnil ?_
  | with_reducible refine w_gcons ?_
  | with_reducible refine w_ipI ?_
  | with_reducible refine w_fldS ?_
  | with_reducible refine w_tru ?_
  | with_reducible refine w_abs ?_
  | with_reducible refine w_maxB ?_
  | with_reducible refine w_minB ?_
  | with_reducible refine w_int ?_
  | with_reducible refine w_tupE ?_
  | with_reducible refine w_lstE ?_
  | with_reducible refine w_bm ?_
  | with_reducible refine w_bm0 ?_
  | with_reducible refine w_mth ?_
  | with_reducible refine w_for0 ?_
  | with_reducible refine w_lc0 ?_
  | with_reducible refine w_il ?_
  | with_reducible refine w_it ?_
  | with_reducible refine w_is ?_
  | with_reducible refine w_ie ?_
  | with_reducible refine w_ir1 ?_
  | with_reducible refine w_ir2 ?_
  | with_reducible refine w_irv ?_
  | with_reducible refine w_rg1 ?_
  | with_reducible refine w_rg1v ?_
  | with_reducible refine w_lrg ?_
  | with_reducible refine w_make ?_
  | with_reducible refine w_yes ?_
  | with_reducible refine w_ost ?_
  | with_reducible refine w_mkoE ?_
  | with_reducible refine w_is_int_int ?_
  | with_reducible refine w_is_int_bool ?_
  | with_reducible refine w_is_int_str ?_
  | with_reducible refine w_is_int_tuple ?_
  | with_reducible refine w_is_bl_int ?_
  | with_reducible refine w_is_bl_bool ?_
  | with_reducible refine w_is_bl_str ?_
  | with_reducible refine w_is_bl_tuple ?_
  | with_reducible refine w_is_non_int ?_
  | with_reducible refine w_is_non_bool ?_
  | with_reducible refine w_is_non_str ?_
  | with_reducible refine w_is_non_tuple ?_
  | with_reducible refine w_is_str_int ?_
  | with_reducible refine w_is_str_bool ?_
  | with_reducible refine w_is_str_str ?_
  | with_reducible refine w_is_str_tuple ?_
  | ((with_reducible refine' w_insM ?k1 ?k2 ?k3 ?k4 ?k5 ?_); (case k1 => assumption); (case k2 => walk_at "fo"); (case k3 => assumption); (case k4 => assumption); (case k5 => walk_at "lk"))
  | ((with_reducible refine' w_ixE ?k1 ?k2 ?k3 ?_); (case k1 => assumption); (case k2 => walk_at "sq"); (case k3 => walk_at "ai"))
  | ((with_reducible refine' w_len ?k1 ?k2 ?_); (case k1 => assumption); (case k2 => walk_at "sq"))
  | ((with_reducible refine' w_lenM ?k1 ?k2 ?_); (case k1 => assumption); (case k2 => walk_at "fo"))
  | ((with_reducible refine' w_I ?k1 ?_); (case k1 => walk_at "cc"))
  | ((with_reducible refine' w_gtup ?k1 ?k2 ?_); (case k1 => refine' Mem.sqt ?m0 ?h0; (case m0 => assumption); (case h0 => walk_at "sq")); (case k2 => k_dflt rfl))
  | ((with_reducible refine' w_aug ?k1 ?_); (case k1 => k_dflt rfl))
  | ((with_reducible refine' w_truM ?k1 ?k2 ?_); (case k1 => assumption); (case k2 => walk_at "fo"))
  | ((with_reducible refine' w_truL ?k1 ?k2 ?_); (case k1 => assumption); (case k2 => walk_at "sq"))
  | ((with_reducible refine' w_tyL ?k1 ?k2 ?_); (case k1 => assumption); (case k2 => walk_at "fo"))
  | ((with_reducible refine' w_mthI ?k1 ?k2 ?k3 ?_); (case k1 => assumption); (case k2 => walk_at "sq"); (case k3 => walk_at "lk"))
  | ((with_reducible refine' w_sumM ?k1 ?k2 ?_); (case k1 => assumption); (case k2 => walk_at "fo"))
  | ((with_reducible refine' w_eqDN ?k1 ?k2 ?k3 ?_); (case k1 => assumption); (case k2 => walk_at "sq"); (case k3 => walk_at "sq"))
  | ((with_reducible refine' w_is_tup_int ?k1 ?k2 ?_); (case k1 => assumption); (case k2 => walk_at "sq"))
  | ((with_reducible refine' w_is_tup_bool ?k1 ?k2 ?_); (case k1 => assumption); (case k2 => walk_at "sq"))
  | ((with_reducible refine' w_is_tup_str ?k1 ?k2 ?_); (case k1 => assumption); (case k2 => walk_at "sq"))
  | ((with_reducible refine' w_is_tup_tuple ?k1 ?k2 ?_); (case k1 => assumption); (case k2 => walk_at "sq"))
  | dsimp only)
local macro_rules | `(tactic| walk_at "go") => `(tactic| repeat (walk_at "st"))
section
variable {P : Program} {w : World} {K : PySem.W.Frag} {mg : Str → Option Value} {base : Heap} {C : Ad}
abbrev N_Meter_init : List Str := ["self", "chart", "first", "charges", "arrow", "charge"]
abbrev P_Meter_init : List Str := ["self", "chart", "first", "charges"]
theorem sc_Meter_init : FnScope N_Meter_init P_Meter_init (defScope S_Meter_init) := ⟨rfl, rfl, rfl, by decide +kernel, rfl, by decide +kernel, by decide +kernel⟩
-- slots: 0 self, 1 chart, 2 first, 3 charges, 4 arrow, 5 charge
def spMeterInit (K : PySem.W.Frag) (C : Ad) : Sp := spM fun vs I M R => ∃ (x dx ca ch : Addr) (M0 : Mu) (c : Ch) (fi : Int) (cg : List Int), vs = [.ref x, .ref ca, .int fi, .ref ch] ∧ M = (x, .ins C.me dx []) :: M0 ∧ ChAt K C I ca c ∧ SqE K I ch (iv cg) ∧ cg.length = c.ar.length ∧ c.ar.length ≤ 32 ∧
  (0 ≤ fi ∧ fi ≤ 1000000000000) ∧ (∀ y ∈ cg, 0 ≤ y ∧ y ≤ 1000000000000) ∧
  R = fun v N M' => v = .non ∧ ∃ q, M' = (x, .ins C.me dx (meF ca fi q)) :: M0 ∧ SqT K N q (iv cg)
theorem ok_Meter_init {f : Addr} {fd : FuncData} (F : FnP K "__init__" "Meter.__init__" S_Meter_init f fd) (T : Txt K mg C) (G_is_whole : FnAt P w K mg base "is_whole" 1 P_is_whole spWhole) (G_is_row : FnAt P w K mg base "is_row" 1 P_is_row (spRow K)) : FnOk P w K mg base CX0 2 f fd P_Meter_init (spMeterInit K C) := by
  have nd := sc_Meter_init.nd
  refine F.ok sc_Meter_init (fun vs H Q E h => ?_) (fun cdv A outer s H vs Q E hr h => ?_)
  · obtain ⟨I, M, R, ⟨x, dx, ca, ch, M0, c, fi, cg, rfl, _⟩, _⟩ := h
    rfl
  obtain ⟨I, M, R, ⟨x, dx, ca, ch, M0, c, fi, cg, rfl, rfl, hCh, hch, hl, hl2, hfi, hcg, rfl⟩, hm, k⟩ := h
  obtain ⟨dx2, p, r, as, h1, h2, h3, h4⟩ := hCh
  have cl := T.clMe
  have cl2 := T.clCh
  have na1 := T.n_chart
  have na2 := T.n_first
  have na3 := T.n_charges
  have na4 := T.n_arrows
  have lcg : (iv cg).length = c.ar.length := by rw [List.length_map, hl]
  refine ⟨_, PSs.nox (pss_cons (ps_if (pt_not (pt_val (pe_fn G_is_whole (hr.mono (by decide)) (pa_cons (pv 2) (pa_cons pe_int (pa_cons (pe_globI T.most) pa_nil))))))
      (pss_one ps_never)
      pss_nil)
    (pss_cons (ps_if (pt_not (pt_val (pe_fn G_is_row (hr.mono (by decide)) (pa_cons (pv 3) (pa_cons (pe_callB cl_len (by rfl) T.b_len PySem.boot_len (pa_cons (pe_fld (pv 1) rfl) pa_nil)) (pa_cons (pe_callB cl_len (by rfl) T.b_len PySem.boot_len (pa_cons (pe_fld (pv 1) rfl) pa_nil)) pa_nil))))))
      (pss_one ps_never)
      pss_nil)
    (pss_cons (ps_for PassesOwn.never rfl (pi_enumS rfl T.b_enumerate (pa_cons (pv 3) pa_nil)) (pg_tup rfl (pgs_cons (pg_name (i := 4) nd rfl (Or.inl rfl)) (pgs_cons (pg_name (i := 5) nd rfl (Or.inl rfl)) pgs_nil)))
      (pss_one (ps_if (pt_not (pt_val (pe_fn G_is_whole (hr.mono (by decide)) (pa_cons (pv 5) (pa_cons pe_int (pa_cons (pe_globI T.most) pa_nil))))))
        (pss_one ps_never)
        pss_nil)))
    (pss_cons (ps_fld (pv 0) (pv 1) rfl)
    (pss_cons (ps_fld (pv 0) (pv 2) rfl)
    (pss_one (ps_fld (pv 0) (pe_callTy cl_tuple (by rfl) T.b_tuple PyProof.Rows.boot_tuple (pa_cons (pv 3) pa_nil)) rfl))))))), ?_⟩
  try dsimp only [cxOf, Cx.nox, Cx.wish]
  walk_at "go"
  refine w_spV hm ⟨_, _, _, rfl, rfl⟩ fun H1 hm1 => ?_
  rw [decide_eq_true hfi.1, decide_eq_true hfi.2]
  walk_at "go"
  refine w_nt ?_
  walk_at "go"
  rw [List.length_map, h4.1]
  refine w_spV hm1 ⟨.ref ch, (c.ar.length : Int), (c.ar.length : Int), rfl, .inl ⟨ch, _, rfl, hch, rfl⟩⟩ fun H2 hm2 => ?_
  rw [lcg, decide_eq_true (Int.le_refl _)]
  walk_at "go"
  refine w_nt ?_
  walk_at "go"
  refine w_ienum hm2 hch fun J wk => ?_
  refine w_forE wk hm2 (fun i σ N M' => ∃ s4 s5, σ = [some (.ref x), some (.ref ca), some (.int fi), some (.ref ch), s4, s5] ∧ M' = (x, .ins C.me dx []) :: M0) ⟨none, none, rfl, rfl⟩ ?_ (fun _ _ _ _ _ _ h => h) ?_
  · rintro i y t _ N _ H3 hi hy eN hT ⟨s4, s5, rfl, rfl⟩ hm3
    obtain ⟨z, hz, rfl⟩ := iv_get hy
    have hzb := hcg z (List.mem_of_getElem? hz)
    have eR := eN
    clear eN
    walk_at "go"
    refine w_spV hm3 ⟨_, _, _, rfl, rfl⟩ fun H4 hm4 => ?_
    rw [decide_eq_true hzb.1, decide_eq_true hzb.2]
    walk_at "go"
    refine w_nt ?_
    walk_at "go"
    exact ⟨_, _, eR, ⟨_, _, rfl, rfl⟩, hm4⟩
  · rintro _ N _ H3 eN ⟨s4, s5, rfl, rfl⟩ hm3
    have hch2 : SqE K N ch (iv cg) := Same.sqe eN hch
    walk_at "go"
    refine w_put hm3 foc0 cl na1 (by decide) fun H4 hm4 => ?_
    walk_at "go"
    refine w_put hm4 foc0 cl na2 (Nat.lt_trans (putF_lt (n := 1) (by decide)) (by decide)) fun H5 hm5 => ?_
    walk_at "go"
    refine w_tupOf hm5 hch2 fun q N2 H6 eN2 hq hm6 => ?_
    walk_at "go"
    refine w_put hm6 foc0 cl na3 (Nat.lt_trans (putF_lt (n := 2) (putF_lt (n := 1) (by decide))) (by decide)) fun H7 hm7 => ?_
    exact k _ _ _ _ (eN.trans eN2) hm7 ⟨rfl, q, rfl, hq⟩
end

end Pa

set_option Elab.async false
set_option linter.all false
set_option maxRecDepth 100000
set_option maxHeartbeats 4000000
namespace Pa
open PySem L2
local macro_rules | `(tactic| walk_at "lt") => `(tactic| first
  | assumption
  | omega
  | (simp only [List.length_map, List.length_range, List.length_cons, List.length_nil, List.length_append, List.length_replicate] at *; omega))
local macro_rules | `(tactic| walk_at "fo") => `(tactic| first | exact foc0 | (refine' focS ?k1; (case k1 => walk_at "fo")))
local macro_rules | `(tactic| walk_at "sq") => `(tactic| first
  | assumption
  | (refine' SqL.of ?k1; (case k1 => assumption))
  | (refine' SqT.of ?k1; (case k1 => assumption))
  | (refine' Or.inl ?k1; (case k1 => walk_at "sq"))
  | (refine' Or.inr ?k1; (case k1 => walk_at "sq"))
  | (refine' Same.seq ?k1 ?k2; (case k1 => assumption); (case k2 => walk_at "sq"))
  | (refine' Same.sqt ?k1 ?k2; (case k1 => assumption); (case k2 => walk_at "sq"))
  | (refine' Same.sqe ?k1 ?k2; (case k1 => assumption); (case k2 => walk_at "sq"))
  | (refine' same_at ?k1 ?k2; (case k1 => assumption); (case k2 => walk_at "sq")))
local macro_rules | `(tactic| walk_at "ai") => `(tactic| first
  | assumption
  | (refine' ati_ints ?k1; (case k1 => walk_at "lt"))
  | (refine' ati_refs ?k1; (case k1 => walk_at "lt"))
  | (refine' ati_nat ?k1; (case k1 => assumption))
  | k_dflt rfl)
local macro_rules | `(tactic| walk_at "lk") => `(tactic| first
  | assumption
  | exact lk_hd
  | (refine' lk_tl ?k1 ?k2; (case k1 => decide +kernel); (case k2 => walk_at "lk"))
  | exact lk_nil)
local macro_rules | `(tactic| walk_at "sz") => `(tactic| first
  | exact small_sz (by simp only [List.length_cons, List.length_nil, List.length_append, List.length_map, List.length_range, List.length_set, List.length_replicate]; omega))
local macro_rules | `(tactic| walk_at "cc") => `(tactic| first
  | (show (0 : Int) < _; first | decide | omega)
  | exact Or.inl ⟨by omega, by omega⟩
  | exact Or.inr ⟨by omega, by omega⟩
  | exact ⟨by decide, by decide, by decide⟩)
local macro_rules | `(tactic| walk_at "st") => `(tactic| first
  | with_reducible refine w_seq ?_
  | with_reducible refine w_asg ?_
  | ((with_reducible refine' w_var ?k1 ?_); (case k1 => k_dflt rfl))
  | with_reducible refine w_c ?_
  | with_reducible refine w_op ?_
  | with_reducible refine w_cons ?_
  | with_reducible refine w_nil ?_
  | with_reducible refine w_gname ?_
  | with_reducible refine w_I0 ?_
  | with_reducible refine w_fld ?_
  | ((with_reducible refine' w_ins ?k1 ?k2 ?k3 ?k4 ?k5 ?_); (case k1 => assumption); (case k2 => walk_at "sq"); (case k3 => assumption); (case k4 => assumption); (case k5 => walk_at "lk"))
  | ((with_reducible refine' w_ixT ?k1 ?k2 ?k3 ?_); (case k1 => assumption); (case k2 => walk_at "sq"); (case k3 => walk_at "ai"))
  | ((with_reducible refine' w_ixL ?k1 ?k2 ?k3 ?_); (case k1 => assumption); (case k2 => walk_at "sq"); (case k3 => walk_at "ai"))
  | ((with_reducible refine' w_ixM ?k1 ?k2 ?k3 ?_); (case k1 => assumption); (case k2 => walk_at "fo"); (case k3 => walk_at "ai"))
  | with_reducible refine w_cb ?_
  | with_reducible refine w_test ?_
  | with_reducible refine w_if ?_
  | with_reducible refine w_B ?_
  | with_reducible refine w_not ?_
  | with_reducible refine w_and ?_
  | with_reducible refine w_or ?_
  | with_reducible refine w_eqI ?_
  | with_reducible refine w_neI ?_
  | with_reducible refine w_isN ?_
  | with_reducible refine w_notN ?_
  | with_reducible refine w_isB ?_
  | with_reducible refine w_bl ?_
  | with_reducible refine w_ret ?_
  | with_reducible refine w_next ?_
  | with_reducible refine w_brk ?_
  | with_reducible refine w_drop ?_
  | with_reducible refine w_call ?_
  | with_reducible refine w_un ?_
  | with_reducible refine w_U ?_
  | with_reducible refine w_andV ?_
  | with_reducible refine w_orV ?_
  | with_reducible refine w_notV ?_
  | with_reducible refine w_ifE ?_
  | with_reducible refine w_chain ?_
  | with_reducible refine w_gsub ?_
  | with_reducible refine w_gnil ?_
  | with_reducible refine w_gcons ?_
  | with_reducible refine w_ipI ?_
  | with_reducible refine w_fldS ?_
  | with_reducible refine w_tru ?_
  | with_reducible refine w_abs ?_
  | with_reducible refine w_maxB ?_
  | with_reducible refine w_minB ?_
  | with_reducible refine w_int ?_
  | with_reducible refine w_tupE ?_
  | with_reducible refine w_lstE ?_
  | with_reducible refine w_bm ?_
  | with_reducible refine w_bm0 ?_
  | with_reducible refine w_mth ?_
  | with_reducible refine w_for0 ?_
  | with_reducible refine w_lc0 ?_
  | with_reducible refine w_il ?_
  | with_reducible refine w_it ?_
  | with_reducible refine w_is ?_
  | with_reducible refine w_ie ?_
  | with_reducible refine w_ir1 ?_
  | with_reducible refine w_ir2 ?_
  | with_reducible refine w_irv ?_
  | with_reducible refine w_rg1 ?_
  | with_reducible refine w_rg1v ?_
  | with_reducible refine w_lrg ?_
  | with_reducible refine w_make ?_
  | with_reducible refine w_yes ?_
  | with_reducible refine w_ost ?_
  | with_reducible refine w_mkoE ?_
  | with_reducible refine w_is_int_int ?_
  | with_reducible refine w_is_int_bool ?_
  | with_reducible refine w_is_int_str ?_
  | with_reducible refine w_is_int_tuple ?_
  | with_reducible refine w_is_bl_int ?_
  | with_reducible refine w_is_bl_bool ?_
  | with_reducible refine w_is_bl_str ?_
  | with_reducible refine w_is_bl_tuple ?_
  | with_reducible refine w_is_non_int ?_
  | with_reducible refine w_is_non_bool ?_
  | with_reducible refine w_is_non_str ?_
  | with_reducible refine w_is_non_tuple ?_
  | with_reducible refine w_is_str_int ?_
  | with_reducible refine w_is_str_bool ?_
  | with_reducible refine w_is_str_str ?_
  | with_reducible refine w_is_str_tuple ?_
  | ((with_reducible refine' w_insM ?k1 ?k2 ?k3 ?k4 ?k5 ?_); (case k1 => assumption); (case k2 => walk_at "fo"); (case k3 => assumption); (case k4 => assumption); (case k5 => walk_at "lk"))
  | ((with_reducible refine' w_ixE ?k1 ?k2 ?k3 ?_); (case k1 => assumption); (case k2 => walk_at "sq"); (case k3 => walk_at "ai"))
  | ((with_reducible refine' w_len ?k1 ?k2 ?_); (case k1 => assumption); (case k2 => walk_at "sq"))
  | ((with_reducible refine' w_lenM ?k1 ?k2 ?_); (case k1 => assumption); (case k2 => walk_at "fo"))
  | ((with_reducible refine' w_I ?k1 ?_); (case k1 => walk_at "cc"))
  | ((with_reducible refine' w_gtup ?k1 ?k2 ?_); (case k1 => refine' Mem.sqt ?m0 ?h0; (case m0 => assumption); (case h0 => walk_at "sq")); (case k2 => k_dflt rfl))
  | ((with_reducible refine' w_aug ?k1 ?_); (case k1 => k_dflt rfl))
  | ((with_reducible refine' w_truM ?k1 ?k2 ?_); (case k1 => assumption); (case k2 => walk_at "fo"))
  | ((with_reducible refine' w_truL ?k1 ?k2 ?_); (case k1 => assumption); (case k2 => walk_at "sq"))
  | ((with_reducible refine' w_tyL ?k1 ?k2 ?_); (case k1 => assumption); (case k2 => walk_at "fo"))
  | ((with_reducible refine' w_mthI ?k1 ?k2 ?k3 ?_); (case k1 => assumption); (case k2 => walk_at "sq"); (case k3 => walk_at "lk"))
  | ((with_reducible refine' w_sumM ?k1 ?k2 ?_); (case k1 => assumption); (case k2 => walk_at "fo"))
  | ((with_reducible refine' w_eqDN ?k1 ?k2 ?k3 ?_); (case k1 => assumption); (case k2 => walk_at "sq"); (case k3 => walk_at "sq"))
  | ((with_reducible refine' w_is_tup_int ?k1 ?k2 ?_); (case k1 => assumption); (case k2 => walk_at "sq"))
  | ((with_reducible refine' w_is_tup_bool ?k1 ?k2 ?_); (case k1 => assumption); (case k2 => walk_at "sq"))
  | ((with_reducible refine' w_is_tup_str ?k1 ?k2 ?_); (case k1 => assumption); (case k2 => walk_at "sq"))
  | ((with_reducible refine' w_is_tup_tuple ?k1 ?k2 ?_); (case k1 => assumption); (case k2 => walk_at "sq"))
  | dsimp only)
local macro_rules | `(tactic| walk_at "go") => `(tactic| repeat (walk_at "st"))
def isI : V → Bool
  | .int _ => true
  | _ => false
inductive Simp : V → Prop
  | int (i : Int) : Simp (.int i)
  | bl (b : Bool) : Simp (.bl b)
  | non : Simp .non
  | str (s : Str) : Simp (.str s)
/-- the row fits -/
def OkF (e : Me) (L : List Int) : Prop := ∀ k, k < e.ch.ar.length → e.ch.rch (e.ch.hd k) (e.ch.tl k) = true → L.getD (e.ch.hd k) 0 = L.getD (e.ch.tl k) 0 + e.gain k
noncomputable def okF (e : Me) (L : List Int) : Bool := @decide (OkF e L) (Classical.propDecidable _)
theorem okF_iff {e : Me} {L : List Int} : okF e L = true ↔ OkF e L := @decide_eq_true_iff _ (Classical.propDecidable _)
theorem okF_no {e : Me} {L : List Int} : okF e L = false ↔ ¬ OkF e L := @decide_eq_false_iff_not _ (Classical.propDecidable _)
abbrev fltV (b : Bool) : V := if b then .non else .str "arrow"
theorem isI_iv (L : List Int) : (iv L).all isI = true := by
  rw [List.all_map]
  exact List.all_eq_true.mpr fun _ _ => rfl
section
variable {P : Program} {w : World} {K : PySem.W.Frag} {mg : Str → Option Value} {base : Heap} {C : Ad}
abbrev N_is_number_row : List Str := ["meter", "numbers", "many", "number"]
abbrev P_is_number_row : List Str := ["meter", "numbers"]
theorem sc_is_number_row : FnScope N_is_number_row P_is_number_row (defScope S_is_number_row) := ⟨rfl, rfl, rfl, by decide +kernel, rfl, by decide +kernel, by decide +kernel⟩
-- slots: 0 meter, 1 numbers, 2 many, 3 number
def spNumRow (K : PySem.W.Frag) (C : Ad) : Sp := spV fun vs I v => ∃ (a : Addr) (e : Me) (x : V), vs = [.ref a, x] ∧ MeAt K C I a e ∧ ((∃ l xs, x = .ref l ∧ SqE K I l xs ∧ xs.length ≤ 1000 ∧ (∀ y ∈ xs, Simp y) ∧ v = .bl (decide (xs.length = e.ch.cs.length) && xs.all isI)) ∨ ((x = .non ∨ ∃ i, x = .int i) ∧ v = .bl false))
theorem ok_is_number_row {f : Addr} {fd : FuncData} (F : FnP K "is_number_row" "is_number_row" S_is_number_row f fd) (T : Txt K mg C) (G_is_row : FnAt P w K mg base "is_row" 1 P_is_row (spRow K)) : FnOk P w K mg base CX0 2 f fd P_is_number_row (spNumRow K C) := by
  have nd := sc_is_number_row.nd
  refine F.ok sc_is_number_row (fun vs H Q E h => ?_) (fun cdv A outer s H vs Q E hr h => ?_)
  · obtain ⟨I, M, v, ⟨a, e, x, rfl, _⟩, _⟩ := h
    rfl
  obtain ⟨I, M, v, ⟨a, e, x, rfl, hMe, hx⟩, hm, k⟩ := h
  obtain ⟨dx, ca, qa, hI, hCh, h5⟩ := hMe
  obtain ⟨dx2, p, r, as, h1, h2, h3, h4⟩ := hCh
  have n1 := T.n_costs
  have n2 := T.clCh
  have n5 := T.clMe
  have n6 := T.n_chart
  refine ⟨_, PSs.nox (pss_cons (ps_set (i := 2) nd rfl (Or.inl rfl) (pe_callB cl_len (by rfl) T.b_len PySem.boot_len (pa_cons (pe_fld (pe_fld (pv 0) rfl) rfl) pa_nil)))
    (pss_cons (ps_if (pt_not (pt_val (pe_fn G_is_row (hr.mono (by decide)) (pa_cons (pv 1) (pa_cons (pv 2) (pa_cons (pv 2) pa_nil))))))
      (pss_one (ps_ret pe_bl))
      pss_nil)
    (pss_one (ps_ret (pe_callB (cr_all rfl) (by rfl) T.b_all PyProof.Rows.boot_all (pa_cons (pe_lc (own := [("number", 3)]) (g := (gName 3)) (tt := tYes) (te := (tAndV (tCB (rIsi K) (tCons (tVar 3) (tCons (tC (.ty "int")) tNil))) (tNotV (tCB (rIsi K) (tCons (tVar 3) (tCons (tC (.ty "bool")) tNil)))))) rfl nd (pi_seq (pv 1)) (blkOk_by (N := N_is_number_row) (sc := defScope S_is_number_row) (by decide +kernel)) (fun _ _ _ _ _ => (pg_name (i := 3) nd rfl (Or.inl rfl))) (fun _ _ _ _ _ => pts_nil) (fun _ _ _ _ _ => (pe_and (pe_callB call_isi (by rfl) T.b_isinstance PyProof.Rows.boot_isinstance (pa_cons (pv 3) (pa_cons (pe_typ T.b_int PyProof.Rows.boot_int) pa_nil))) (pe_one (pe_not (pe_callB call_isi (by rfl) T.b_isinstance PyProof.Rows.boot_isinstance (pa_cons (pv 3) (pa_cons (pe_typ T.b_bool PyProof.Rows.boot_bool) pa_nil)))))))) pa_nil)))))), ?_⟩
  try dsimp only [cxOf, Cx.nox, Cx.wish]
  walk_at "go"
  rw [List.length_map]
  rcases hx with ⟨l, xs, rfl, hl, hxl, hxs, rfl⟩ | ⟨hx, rfl⟩
  · refine w_spV hm ⟨.ref l, (e.ch.cs.length : Int), (e.ch.cs.length : Int), rfl, .inl ⟨l, xs, rfl, hl, rfl⟩⟩ fun H1 hm1 => ?_
    walk_at "go"
    have e1 : (decide ((e.ch.cs.length : Int) ≤ (xs.length : Int)) && decide ((xs.length : Int) ≤ (e.ch.cs.length : Int))) = decide (xs.length = e.ch.cs.length) := by
      by_cases h : xs.length = e.ch.cs.length
      · rw [decide_eq_true h, h, decide_eq_true (Int.le_refl _)]
        rfl
      · rw [decide_eq_false h]
        by_cases h2 : (e.ch.cs.length : Int) ≤ (xs.length : Int)
        · rw [decide_eq_true h2, decide_eq_false (by omega)]
          rfl
        · rw [decide_eq_false h2]
          rfl
    rw [e1]
    refine w_iteN (fun hn => ?_) fun hn => ?_
    · walk_at "go"
      rw [decide_eq_false hn, Bool.false_and] at k
      exact k _ hm1
    · rw [decide_eq_true hn, Bool.true_and] at k
      walk_at "go"
      refine w_iseq hm1 hl fun J wk => ?_
      refine w_lcA wk hm1 (fun j => .bl (isI (xs.getD j .non))) (fun _ => true) (by omega) (fun j y D acc H' Yes No hj hy hm' hyes hno => ?_) fun D H' hm' => ?_
      · have hs := hxs y (List.mem_of_getElem? hy)
        have ey : xs.getD j .non = y := by rw [List.getD_eq_getElem?_getD, hy]; rfl
        rw [ey] at hyes
        walk_at "go"
        refine ⟨rfl, ?_⟩
        walk_at "go"
        refine iteT ?_
        cases hs with
        | int i =>
          walk_at "go"
          refine w_tt ?_
          walk_at "go"
          exact hyes rfl _ hm'
        | bl b =>
          walk_at "go"
          refine w_tt ?_
          walk_at "go"
          exact hyes rfl _ hm'
        | non =>
          walk_at "go"
          refine w_ff ?_
          exact hyes rfl _ hm'
        | str s =>
          walk_at "go"
          refine w_ff ?_
          exact hyes rfl _ hm'
      · have e2 : (((List.range xs.length).filter fun _ => true).map fun j => V.bl (isI (xs.getD j .non))) = (xs.map isI).map V.bl := by
          rw [List.filter_eq_self.mpr fun _ _ => rfl, List.map_map]
          refine List.ext_getElem? fun i => ?_
          rw [List.getElem?_map, List.getElem?_map]
          by_cases h : i < xs.length
          · rw [List.getElem?_range h, List.getElem?_eq_getElem h]
            simp [List.getD_eq_getElem?_getD, List.getElem?_eq_getElem h]
          · rw [List.getElem?_eq_none (by rw [List.length_range]; omega), List.getElem?_eq_none (by omega)]
            rfl
        rw [e2] at hm'
        walk_at "go"
        refine w_allM hm' foc0 ?_
        have e3 : (xs.map isI).all id = xs.all isI := by rw [List.all_map]; rfl
        rw [e3]
        exact k _ hm'.drop
  · refine w_spV hm ⟨x, (e.ch.cs.length : Int), (e.ch.cs.length : Int), rfl, .inr ⟨hx, rfl⟩⟩ fun H1 hm1 => ?_
    walk_at "go"
    refine w_nf ?_
    walk_at "go"
    exact k _ hm1
abbrev N_levels_fault : List Str := ["meter", "levels", "arrow", "tail", "head"]
abbrev P_levels_fault : List Str := ["meter", "levels"]
theorem sc_levels_fault : FnScope N_levels_fault P_levels_fault (defScope S_levels_fault) := ⟨rfl, rfl, rfl, by decide +kernel, rfl, by decide +kernel, by decide +kernel⟩
-- slots: 0 meter, 1 levels, 2 arrow, 3 tail, 4 head
def spFault (K : PySem.W.Frag) (C : Ad) : Sp := spV fun vs I v => ∃ (a : Addr) (e : Me) (x : V), vs = [.ref a, x] ∧ MeAt K C I a e ∧ e.Ok ∧ ((∃ l L, x = .ref l ∧ SqE K I l (iv L) ∧ L.length = e.ch.cs.length ∧ v = fltV (okF e L)) ∨
  (∃ l xs, x = .ref l ∧ SqE K I l xs ∧ xs.length ≤ 1000 ∧ (∀ y ∈ xs, Simp y) ∧ (decide (xs.length = e.ch.cs.length) && xs.all isI) = false ∧ v = .str "form") ∨ ((x = .non ∨ ∃ i, x = .int i) ∧ v = .str "form"))
theorem ok_levels_fault {f : Addr} {fd : FuncData} (F : FnP K "levels_fault" "levels_fault" S_levels_fault f fd) (T : Txt K mg C) (G_is_number_row : FnAt P w K mg base "is_number_row" 2 P_is_number_row (spNumRow K C)) (G_within_part : FnAt P w K mg base "within_part" 5 P_within_part (spWithin K C)) (G_arrow_gain : FnAt P w K mg base "arrow_gain" 1 P_arrow_gain (spGain K C)) : FnOk P w K mg base CX0 6 f fd P_levels_fault (spFault K C) := by
  have nd := sc_levels_fault.nd
  refine F.ok sc_levels_fault (fun vs H Q E h => ?_) (fun cdv A outer s H vs Q E hr h => ?_)
  · obtain ⟨I, M, v, ⟨a, e, x, rfl, _⟩, _⟩ := h
    rfl
  obtain ⟨I, M, v, ⟨a, e, x, rfl, hMe, ok, hx⟩, hm, k⟩ := h
  have hMe2 := hMe
  obtain ⟨dx, ca, qa, hI, hCh, h5⟩ := hMe
  have hCh2 := hCh
  obtain ⟨dx2, p, r, as, h1, h2, h3, h4⟩ := hCh
  have n2 := T.clCh
  have n3 := T.n_arrows
  have n5 := T.clMe
  have n6 := T.n_chart
  refine ⟨_, PSs.nox (pss_cons (ps_if (pt_not (pt_val (pe_fn G_is_number_row (hr.mono (by decide)) (pa_cons (pv 0) (pa_cons (pv 1) pa_nil)))))
      (pss_one (ps_ret pe_str))
      pss_nil)
    (pss_cons (ps_for PassesOwn.never rfl (pi_enumS rfl T.b_enumerate (pa_cons (pe_fld (pe_fld (pv 0) rfl) rfl) pa_nil)) (pg_tup rfl (pgs_cons (pg_name (i := 2) nd rfl (Or.inl rfl)) (pgs_cons (pg_tup rfl (pgs_cons (pg_name (i := 3) nd rfl (Or.inl rfl)) (pgs_cons (pg_name (i := 4) nd rfl (Or.inl rfl)) pgs_nil))) pgs_nil)))
      (pss_one (ps_if (PW.pt (pw_and (pt_val (pe_fn G_within_part (hr.mono (by decide)) (pa_cons (pe_fld (pv 0) rfl) (pa_cons (pv 2) pa_nil)))) (pw_and1 (pt_cmpR op_ne (pe_ix ix_seq (pv 1) (pv 4) (fun _ _ => rfl)) (pe_op op_add (pe_ix ix_seq (pv 1) (pv 3) (fun _ _ => rfl)) (pe_fn G_arrow_gain (hr.mono (by decide)) (pa_cons (pv 0) (pa_cons (pv 2) pa_nil)))) (nomark _)))))
        (pss_one (ps_ret pe_str))
        pss_nil)))
    (pss_one (ps_ret pe_non)))), ?_⟩
  try dsimp only [cxOf, Cx.nox, Cx.wish]
  walk_at "go"
  rcases hx with ⟨l, L, rfl, hl, hL, rfl⟩ | ⟨l, xs, rfl, hl, hxl, hxs, hf, rfl⟩ | ⟨hx, rfl⟩
  · have n16 := ok.ch.n16
    refine w_spV hm ⟨a, e, .ref l, rfl, hMe2, .inl ⟨l, iv L, rfl, hl, by rw [List.length_map]; omega, fun y hy => ?_, rfl⟩⟩ fun H1 hm1 => ?_
    · obtain ⟨i, _, rfl⟩ := List.mem_map.mp hy
      exact .int i
    · rw [isI_iv, List.length_map, decide_eq_true hL]
      walk_at "go"
      refine w_nt ?_
      walk_at "go"
      refine w_ienum hm1 (.inr h3) fun J wk => ?_
      refine w_forE wk hm1 (fun i σ N M' => ∃ s2 s3 s4, σ = [some (.ref a), some (.ref l), s2, s3, s4] ∧ M = M' ∧ ∀ k, k < i → e.ch.rch (e.ch.hd k) (e.ch.tl k) = true → L.getD (e.ch.hd k) 0 = L.getD (e.ch.tl k) 0 + e.gain k)
        ⟨none, none, none, rfl, rfl, fun k h => absurd h (Nat.not_lt_zero _)⟩ ?_ (fun _ _ _ _ _ _ h => h) ?_
      · rintro i y t _ N _ H2 hi hy eN hT ⟨s2, s3, s4, rfl, rfl, hall⟩ hm2
        rw [List.length_map] at hi
        have hi2 : i < e.ch.ar.length := by rw [← h4.1]; exact hi
        have ey : y = .ref (as.getD i 0) := by
          obtain ⟨t, ht, rfl⟩ := refs_get hy
          rw [List.getD_eq_getElem?_getD, ht]
          rfl
        subst ey
        have hpi := (h4.mono eN).2 i hi2
        have e1 : (e.ch.ar.getD i (0, 0)).1 = e.ch.tl i := rfl
        have e2 : (e.ch.ar.getD i (0, 0)).2 = e.ch.hd i := rfl
        rw [e1, e2] at hpi
        have hl2 : SqE K N l (iv L) := Same.sqe eN hl
        have b1 := ok.ch.tl i hi2
        have b2 := ok.ch.hd i hi2
        have ai1 : atI (iv L) ((e.ch.tl i : Nat) : Int) = some (.int (L.getD (e.ch.tl i) 0)) := ati_ints (by omega)
        have ai2 : atI (iv L) ((e.ch.hd i : Nat) : Int) = some (.int (L.getD (e.ch.hd i) 0)) := ati_ints (by omega)
        walk_at "go"
        refine w_spV hm2 ⟨_, _, _, rfl, hCh2.mono eN, ok.ch, hi2, rfl⟩ fun H3 hm3 => ?_
        walk_at "go"
        have next : (e.ch.rch (e.ch.hd i) (e.ch.tl i) = true → L.getD (e.ch.hd i) 0 = L.getD (e.ch.tl i) 0 + e.gain i) → ∀ k, k < i + 1 → e.ch.rch (e.ch.hd k) (e.ch.tl k) = true → L.getD (e.ch.hd k) 0 = L.getD (e.ch.tl k) 0 + e.gain k := fun z k hk hr => by
          by_cases ek : k = i
          · subst ek
            exact z hr
          · exact hall k (by omega) hr
        refine w_iteB (fun hr => ?_) fun hr => ?_
        · walk_at "go"
          refine w_spV hm3 ⟨_, _, _, rfl, hMe2.mono eN, ok, hi2, rfl⟩ fun H4 hm4 => ?_
          walk_at "go"
          refine w_iteN (fun hne => ?_) fun heq => ?_
          · walk_at "go"
            have : okF e L = false := okF_no.mpr fun z => hne (z i hi2 hr)
            rw [this] at k
            exact k _ (hm4.back eN)
          · walk_at "go"
            exact ⟨_, _, eN, ⟨_, _, _, rfl, rfl, next fun _ => heq⟩, hm4⟩
        · walk_at "go"
          exact ⟨_, _, eN, ⟨_, _, _, rfl, rfl, next fun z => by rw [hr] at z; cases z⟩, hm3⟩
      · rintro _ N _ H2 eN ⟨s2, s3, s4, rfl, rfl, hall⟩ hm2
        rw [List.length_map, h4.1] at hall
        walk_at "go"
        have : okF e L = true := okF_iff.mpr hall
        rw [this] at k
        exact k _ (hm2.back eN)
  · refine w_spV hm ⟨a, e, .ref l, rfl, hMe2, .inl ⟨l, xs, rfl, hl, hxl, hxs, rfl⟩⟩ fun H1 hm1 => ?_
    rw [hf]
    walk_at "go"
    refine w_nf ?_
    walk_at "go"
    exact k _ hm1
  · refine w_spV hm ⟨a, e, x, rfl, hMe2, .inr ⟨hx, rfl⟩⟩ fun H1 hm1 => ?_
    walk_at "go"
    refine w_nf ?_
    walk_at "go"
    exact k _ hm1
end

end Pa

set_option Elab.async false
set_option linter.all false
set_option maxRecDepth 100000
set_option maxHeartbeats 4000000
-- NOMAC
namespace Pa
/-! ### charts as the law makes them -/
abbrev prD (l : List (Nat × Nat)) (i : Nat) : Nat × Nat := l.getD i (0, 0)
structure Tree (n k : Nat) (nm : List Nat) (ps : List (Nat × Nat)) : Prop where
  bd : ∀ p ∈ ps, p.1 < n ∧ p.2 < n
  tr : ∀ i, 1 ≤ i → i < k → ∃ j, j < i ∧ (nm.getD j 0, nm.getD i 0) ∈ ps
theorem Tree.put {n k : Nat} {nm : List Nat} {ps : List (Nat × Nat)} (h : Tree n k nm ps) {p : Nat × Nat} (b : p.1 < n ∧ p.2 < n) : Tree n k nm (ps ++ [p]) := by
  refine ⟨fun q hq => ?_, fun i h1 h2 => ?_⟩
  · rcases List.mem_append.mp hq with hq | hq
    · exact h.bd q hq
    · rw [List.mem_singleton.mp hq]
      exact b
  · obtain ⟨j, h3, h4⟩ := h.tr i h1 h2
    exact ⟨j, h3, List.mem_append_left _ h4⟩
theorem Tree.grow {n k : Nat} {nm : List Nat} {ps : List (Nat × Nat)} (h : Tree n k nm ps) {j : Nat} (hj : j < k) (hn : ∀ i, i ≤ k → nm.getD i 0 < n) : Tree n (k + 1) nm (ps ++ [(nm.getD j 0, nm.getD k 0)]) := by
  have h1 := h.put (p := (nm.getD j 0, nm.getD k 0)) ⟨hn j (by omega), hn k (Nat.le_refl _)⟩
  refine ⟨h1.bd, fun i h2 h3 => ?_⟩
  by_cases e : i = k
  · subst e
    exact ⟨j, hj, List.mem_append_right _ List.mem_cons_self⟩
  · exact h1.tr i h2 (by omega)
/-- the names of the places: 0, then the others in some order -/
structure Names (n : Nat) (nm : List Nat) : Prop where
  len : nm.length = n
  lt : ∀ x ∈ nm, x < n
  all : ∀ v, v < n → v ∈ nm
  zero : nm.getD 0 0 = 0
theorem Names.of {n : Nat} {l : List Nat} (h : l.Perm (List.range n)) : Names (n + 1) (0 :: l.map (1 + ·)) := by
  refine ⟨by rw [List.length_cons, List.length_map, h.length_eq, List.length_range], fun x hx => ?_, fun v hv => ?_, rfl⟩
  · rcases List.mem_cons.mp hx with e | hx
    · omega
    · obtain ⟨y, hy, rfl⟩ := List.mem_map.mp hx
      have := List.mem_range.mp (h.mem_iff.mp hy)
      omega
  · cases v with
    | zero => exact List.mem_cons_self
    | succ v => exact List.mem_cons_of_mem _ (List.mem_map.mpr ⟨v, h.mem_iff.mpr (List.mem_range.mpr (by omega)), by omega⟩)
theorem Names.get {n : Nat} {nm : List Nat} (h : Names n nm) {i : Nat} (hi : i < n) : nm.getD i 0 < n := by
  have : i < nm.length := by rw [h.len]; exact hi
  rw [List.getD_eq_getElem?_getD, List.getElem?_eq_getElem this]
  exact h.lt _ (List.getElem_mem this)
/-- arrows that hold a tree come to every place -/
theorem Tree.conn {n : Nat} {nm : List Nat} {ps : List (Nat × Nat)} (h : Tree n n nm ps) (hn : Names n nm) {c : Ch} (hc : c.cs.length = n) (ha : ∀ p, p ∈ ps → p ∈ c.ar) : ∀ v, v < c.cs.length → v = 0 ∨ c.Reach 0 v := by
  have key : ∀ i, i < n → nm.getD i 0 = 0 ∨ c.Reach 0 (nm.getD i 0) := by
    intro i
    induction i using Nat.strongRecOn with
    | _ i ih =>
      intro hi
      by_cases e : i = 0
      · subst e
        exact .inl hn.zero
      · obtain ⟨j, h1, h2⟩ := h.tr i (by omega) hi
        obtain ⟨k, hk⟩ := List.mem_iff_getElem?.mp (ha _ h2)
        have hk1 := (List.getElem?_eq_some_iff.mp hk).1
        have ek : c.ar.getD k (0, 0) = (nm.getD j 0, nm.getD i 0) := by rw [List.getD_eq_getElem?_getD, hk]; rfl
        have e1 : c.tl k = nm.getD j 0 := by unfold Ch.tl; rw [ek]
        have e2 : c.hd k = nm.getD i 0 := by unfold Ch.hd; rw [ek]
        right
        rw [← e2]
        rcases ih j h1 (by omega) with z | z
        · have := Ch.Reach.one hk1
          rw [e1, z] at this
          exact this
        · rw [← e1] at z
          exact .step z hk1
  intro v hv
  rw [hc] at hv
  obtain ⟨i, hi⟩ := List.mem_iff_getElem?.mp (hn.all v hv)
  have h1 := (List.getElem?_eq_some_iff.mp hi).1
  have e : nm.getD i 0 = v := by rw [List.getD_eq_getElem?_getD, hi]; rfl
  have := key i (by rw [← hn.len]; exact h1)
  rw [e] at this
  exact this
end Pa

set_option Elab.async false
set_option linter.all false
set_option maxRecDepth 100000
set_option maxHeartbeats 4000000
namespace Pa
open PySem L2
local macro_rules | `(tactic| walk_at "lt") => `(tactic| first
  | assumption
  | omega
  | (simp only [List.length_map, List.length_range, List.length_cons, List.length_nil, List.length_append, List.length_replicate] at *; omega))
local macro_rules | `(tactic| walk_at "fo") => `(tactic| first | exact foc0 | (refine' focS ?k1; (case k1 => walk_at "fo")))
local macro_rules | `(tactic| walk_at "sq") => `(tactic| first
  | assumption
  | (refine' SqL.of ?k1; (case k1 => assumption))
  | (refine' SqT.of ?k1; (case k1 => assumption))
  | (refine' Or.inl ?k1; (case k1 => walk_at "sq"))
  | (refine' Or.inr ?k1; (case k1 => walk_at "sq"))
  | (refine' Same.seq ?k1 ?k2; (case k1 => assumption); (case k2 => walk_at "sq"))
  | (refine' Same.sqt ?k1 ?k2; (case k1 => assumption); (case k2 => walk_at "sq"))
  | (refine' Same.sqe ?k1 ?k2; (case k1 => assumption); (case k2 => walk_at "sq"))
  | (refine' same_at ?k1 ?k2; (case k1 => assumption); (case k2 => walk_at "sq")))
local macro_rules | `(tactic| walk_at "ai") => `(tactic| first
  | assumption
  | (refine' ati_ints ?k1; (case k1 => walk_at "lt"))
  | (refine' ati_refs ?k1; (case k1 => walk_at "lt"))
  | (refine' ati_nat ?k1; (case k1 => assumption))
  | k_dflt rfl)
local macro_rules | `(tactic| walk_at "lk") => `(tactic| first
  | assumption
  | exact lk_hd
  | (refine' lk_tl ?k1 ?k2; (case k1 => decide +kernel); (case k2 => walk_at "lk"))
  | exact lk_nil)
local macro_rules | `(tactic| walk_at "sz") => `(tactic| first
  | exact small_sz (by simp only [List.length_cons, List.length_nil, List.length_append, List.length_map, List.length_range, List.length_set, List.length_replicate]; omega))
local macro_rules | `(tactic| walk_at "cc") => `(tactic| first
  | (show (0 : Int) < _; first | decide | omega)
  | exact Or.inl ⟨by omega, by omega⟩
  | exact Or.inr ⟨by omega, by omega⟩
  | exact ⟨by decide, by decide, by decide⟩
  | exact ⟨by decide, by decide⟩)
local macro_rules | `(tactic| walk_at "st") => `(tactic| first
  | with_reducible refine w_seq ?_
  | with_reducible refine w_asg ?_
  | ((with_reducible refine' w_var ?k1 ?_); (case k1 => k_dflt rfl))
  | with_reducible refine w_c ?_
  | with_reducible refine w_op ?_
  | with_reducible refine w_cons ?_
  | with_reducible refine w_nil ?_
  | with_reducible refine w_gname ?_
  | with_reducible refine w_I0 ?_
  | with_reducible refine w_fld ?_
  | ((with_reducible refine' w_ins ?k1 ?k2 ?k3 ?k4 ?k5 ?_); (case k1 => assumption); (case k2 => walk_at "sq"); (case k3 => assumption); (case k4 => assumption); (case k5 => walk_at "lk"))
  | ((with_reducible refine' w_ixT ?k1 ?k2 ?k3 ?_); (case k1 => assumption); (case k2 => walk_at "sq"); (case k3 => walk_at "ai"))
  | ((with_reducible refine' w_ixL ?k1 ?k2 ?k3 ?_); (case k1 => assumption); (case k2 => walk_at "sq"); (case k3 => walk_at "ai"))
  | ((with_reducible refine' w_ixM ?k1 ?k2 ?k3 ?_); (case k1 => assumption); (case k2 => walk_at "fo"); (case k3 => walk_at "ai"))
  | with_reducible refine w_cb ?_
  | with_reducible refine w_test ?_
  | with_reducible refine w_if ?_
  | with_reducible refine w_B ?_
  | with_reducible refine w_not ?_
  | with_reducible refine w_and ?_
  | with_reducible refine w_or ?_
  | with_reducible refine w_eqI ?_
  | with_reducible refine w_neI ?_
  | with_reducible refine w_isN ?_
  | with_reducible refine w_notN ?_
  | with_reducible refine w_isB ?_
  | with_reducible refine w_bl ?_
  | with_reducible refine w_ret ?_
  | with_reducible refine w_next ?_
  | with_reducible refine w_brk ?_
  | with_reducible refine w_drop ?_
  | with_reducible refine w_call ?_
  | with_reducible refine w_un ?_
  | with_reducible refine w_U ?_
  | with_reducible refine w_andV ?_
  | with_reducible refine w_orV ?_
  | with_reducible refine w_notV ?_
  | with_reducible refine w_ifE ?_
  | with_reducible refine w_chain ?_
  | with_reducible refine w_gsub ?_
  | with_reducible refine w_gnil ?_
  | with_reducible refine w_gcons ?_
  | with_reducible refine w_ipI ?_
  | with_reducible refine w_fldS ?_
  | with_reducible refine w_tru ?_
  | with_reducible refine w_abs ?_
  | with_reducible refine w_maxB ?_
  | with_reducible refine w_minB ?_
  | with_reducible refine w_int ?_
  | with_reducible refine w_tupE ?_
  | with_reducible refine w_lstE ?_
  | with_reducible refine w_bm ?_
  | with_reducible refine w_bm0 ?_
  | with_reducible refine w_mth ?_
  | with_reducible refine w_for0 ?_
  | with_reducible refine w_lc0 ?_
  | with_reducible refine w_il ?_
  | with_reducible refine w_it ?_
  | with_reducible refine w_is ?_
  | with_reducible refine w_ie ?_
  | with_reducible refine w_ir1 ?_
  | with_reducible refine w_ir2 ?_
  | with_reducible refine w_irv ?_
  | with_reducible refine w_rg1 ?_
  | with_reducible refine w_rg1v ?_
  | with_reducible refine w_lrg ?_
  | with_reducible refine w_make ?_
  | with_reducible refine w_yes ?_
  | with_reducible refine w_ost ?_
  | with_reducible refine w_mkoE ?_
  | with_reducible refine w_is_int_int ?_
  | with_reducible refine w_is_int_bool ?_
  | with_reducible refine w_is_int_str ?_
  | with_reducible refine w_is_int_tuple ?_
  | with_reducible refine w_is_bl_int ?_
  | with_reducible refine w_is_bl_bool ?_
  | with_reducible refine w_is_bl_str ?_
  | with_reducible refine w_is_bl_tuple ?_
  | with_reducible refine w_is_non_int ?_
  | with_reducible refine w_is_non_bool ?_
  | with_reducible refine w_is_non_str ?_
  | with_reducible refine w_is_non_tuple ?_
  | with_reducible refine w_is_str_int ?_
  | with_reducible refine w_is_str_bool ?_
  | with_reducible refine w_is_str_str ?_
  | with_reducible refine w_is_str_tuple ?_
  | ((with_reducible refine' w_insM ?k1 ?k2 ?k3 ?k4 ?k5 ?_); (case k1 => assumption); (case k2 => walk_at "fo"); (case k3 => assumption); (case k4 => assumption); (case k5 => walk_at "lk"))
  | ((with_reducible refine' w_ixE ?k1 ?k2 ?k3 ?_); (case k1 => assumption); (case k2 => walk_at "sq"); (case k3 => walk_at "ai"))
  | ((with_reducible refine' w_len ?k1 ?k2 ?_); (case k1 => assumption); (case k2 => walk_at "sq"))
  | ((with_reducible refine' w_lenM ?k1 ?k2 ?_); (case k1 => assumption); (case k2 => walk_at "fo"))
  | ((with_reducible refine' w_I ?k1 ?_); (case k1 => walk_at "cc"))
  | ((with_reducible refine' w_gtup ?k1 ?k2 ?_); (case k1 => refine' Mem.sqt ?m0 ?h0; (case m0 => assumption); (case h0 => walk_at "sq")); (case k2 => k_dflt rfl))
  | ((with_reducible refine' w_aug ?k1 ?_); (case k1 => k_dflt rfl))
  | ((with_reducible refine' w_truM ?k1 ?k2 ?_); (case k1 => assumption); (case k2 => walk_at "fo"))
  | ((with_reducible refine' w_truL ?k1 ?k2 ?_); (case k1 => assumption); (case k2 => walk_at "sq"))
  | ((with_reducible refine' w_tyL ?k1 ?k2 ?_); (case k1 => assumption); (case k2 => walk_at "fo"))
  | ((with_reducible refine' w_mthI ?k1 ?k2 ?k3 ?_); (case k1 => assumption); (case k2 => walk_at "sq"); (case k3 => walk_at "lk"))
  | ((with_reducible refine' w_sumM ?k1 ?k2 ?_); (case k1 => assumption); (case k2 => walk_at "fo"))
  | ((with_reducible refine' w_eqDN ?k1 ?k2 ?k3 ?_); (case k1 => assumption); (case k2 => walk_at "sq"); (case k3 => walk_at "sq"))
  | ((with_reducible refine' w_is_tup_int ?k1 ?k2 ?_); (case k1 => assumption); (case k2 => walk_at "sq"))
  | ((with_reducible refine' w_is_tup_bool ?k1 ?k2 ?_); (case k1 => assumption); (case k2 => walk_at "sq"))
  | ((with_reducible refine' w_is_tup_str ?k1 ?k2 ?_); (case k1 => assumption); (case k2 => walk_at "sq"))
  | ((with_reducible refine' w_is_tup_tuple ?k1 ?k2 ?_); (case k1 => assumption); (case k2 => walk_at "sq"))
  | dsimp only)
local macro_rules | `(tactic| walk_at "go") => `(tactic| repeat (walk_at "st"))
section
variable {P : Program} {w : World} {K : PySem.W.Frag} {mg : Str → Option Value} {base : Heap} {C : Ad}
abbrev N_law_mix : List Str := ["_law_number", "_law_turn", "_law_once", "_law_twice"]
abbrev P_law_mix : List Str := ["_law_number", "_law_turn"]
theorem sc_law_mix : FnScope N_law_mix P_law_mix (defScope S_law_mix) := ⟨rfl, rfl, rfl, by decide +kernel, rfl, by decide +kernel, by decide +kernel⟩
-- slots: 0 _law_number, 1 _law_turn, 2 _law_once, 3 _law_twice
def spMix : Sp := spN fun vs I R => ∃ a b : Int, vs = [.int a, .int b] ∧ R = fun v N => ∃ r : Nat, v = .int r
theorem ok_law_mix {f : Addr} {fd : FuncData} (F : FnP K "_law_mix" "_law_mix" S_law_mix f fd) (T : Txt K mg C) : FnOk P w K mg base CX0 1 f fd P_law_mix spMix := by
  have nd := sc_law_mix.nd
  refine F.ok sc_law_mix (fun vs H Q E h => ?_) (fun cdv A outer s H vs Q E hr h => ?_)
  · obtain ⟨I, M, R, ⟨a, b, rfl, _⟩, _⟩ := h
    rfl
  obtain ⟨I, M, R, ⟨a, b, rfl, rfl⟩, hm, k⟩ := h
  refine ⟨_, PSs.nox (pss_cons (ps_set (i := 2) nd rfl (Or.inl rfl) (pe_op op_mod (pe_callTy cl_int (by rfl) T.b_int PyProof.Rows.boot_int (pa_cons (pe_op op_add (pe_op op_add (pe_op op_mul (pv 0) pe_int) (pe_op op_mul (pv 1) pe_int)) pe_int) pa_nil)) pe_int))
    (pss_cons (ps_set (i := 3) nd rfl (Or.inl rfl) (pe_op op_mod (pe_callTy cl_int (by rfl) T.b_int PyProof.Rows.boot_int (pa_cons (pe_op op_add (pe_op op_add (pe_op op_mul (pv 2) (pv 2)) (pe_op op_mul (pe_op op_fdivW (pv 2) pe_int) pe_int)) (pe_op op_mul (pv 1) pe_int)) pa_nil)) pe_int))
    (pss_one (ps_ret (pe_op op_fdivW (pe_op op_mod (pe_callTy cl_int (by rfl) T.b_int PyProof.Rows.boot_int (pa_cons (pe_op op_add (pe_op op_fdivW (pe_op op_mul (pv 3) (pv 3)) pe_int) (pv 2)) pa_nil)) pe_int) pe_int))))), ?_⟩
  try dsimp only [cxOf, Cx.nox, Cx.wish]
  walk_at "go"
  obtain ⟨n, hn⟩ := Int.eq_ofNat_of_zero_le (a := ((((a * 48271 + b * 16807 + 29) % 2147483647 * ((a * 48271 + b * 16807 + 29) % 2147483647) + (a * 48271 + b * 16807 + 29) % 2147483647 / 131 * 40692 + b * 69621) % 2147483399 *
    (((a * 48271 + b * 16807 + 29) % 2147483647 * ((a * 48271 + b * 16807 + 29) % 2147483647) + (a * 48271 + b * 16807 + 29) % 2147483647 / 131 * 40692 + b * 69621) % 2147483399) / 1013 + (a * 48271 + b * 16807 + 29) % 2147483647) % 2147483563 / 16)) (by omega)
  rw [hn]
  exact k _ _ _ (Same.refl _) hm ⟨n, rfl⟩
/-- a hand -/
def Hand (K : PySem.W.Frag) (I : Hp) (o : HO) : Prop := ∃ (cl : Addr) (cells : List Int) (t1 : Nat) (b t : Int), o = .lst [.ref cl, .int (t1 : Int), .int b, .int t] ∧ SqL K I cl (iv cells) ∧ (∀ c ∈ cells, 0 ≤ c) ∧ 0 ≤ b
theorem Hand.mono {K : PySem.W.Frag} {I N : Hp} {o : HO} (h : Hand K I o) (e : Same I N) : Hand K N o := by
  obtain ⟨cl, cells, t1, b, t, h1, h2, h3⟩ := h
  exact ⟨cl, cells, t1, b, t, h1, e.seq h2, h3⟩
abbrev N_law_draw : List Str := ["_law_hand_here", "_law_many", "_law_cell", "_law_rest"]
abbrev P_law_draw : List Str := ["_law_hand_here", "_law_many"]
theorem sc_law_draw : FnScope N_law_draw P_law_draw (defScope S_law_draw) := ⟨rfl, rfl, rfl, by decide +kernel, rfl, by decide +kernel, by decide +kernel⟩
-- slots: 0 _law_hand_here, 1 _law_many, 2 _law_cell, 3 _law_rest
def spDraw (K : PySem.W.Frag) : Sp := spM fun vs I M R => ∃ (h : Addr) (o : HO) (M0 : Mu) (n : Nat), vs = [.ref h, .int (n : Int)] ∧ M = (h, o) :: M0 ∧ Hand K I o ∧ 1 ≤ n ∧ n ≤ 4000000000000 ∧
  R = fun v N M' => ∃ (d : Nat) (o' : HO), v = .int (d : Int) ∧ d < n ∧ M' = (h, o') :: M0 ∧ Hand K N o'
theorem ok_law_draw {f : Addr} {fd : FuncData} (F : FnP K "_law_draw" "_law_draw" S_law_draw f fd) (T : Txt K mg C) (G_law_mix : FnAt P w K mg base "_law_mix" 1 P_law_mix spMix) : FnOk P w K mg base CX0 2 f fd P_law_draw (spDraw K) := by
  have nd := sc_law_draw.nd
  refine F.ok sc_law_draw (fun vs H Q E h => ?_) (fun cdv A outer s H vs Q E hr h => ?_)
  · obtain ⟨I, M, R, ⟨h, o, M0, n, rfl, _⟩, _⟩ := h
    rfl
  obtain ⟨I, M, R, ⟨h, o, M0, n, rfl, rfl, ⟨cl, cells, t1, b, t, rfl, hcl, hc, hb⟩, hn1, hn2, rfl⟩, hm, k⟩ := h
  have hdiv : ∀ z : Int, CDivW z (n : Int) := fun z => ⟨by omega, by
    have : n.log2 < 63 := (Nat.log2_lt (by omega)).mpr (Nat.lt_of_le_of_lt hn2 (by decide))
    show n.log2 < 9000
    omega⟩
  have hmod : ∀ z : Int, ∃ d : Nat, z % (n : Int) = (d : Int) ∧ d < n := fun z => by
    obtain ⟨d, hd⟩ := Int.eq_ofNat_of_zero_le (Int.emod_nonneg z (by omega : (n : Int) ≠ 0))
    have := Int.emod_lt_of_pos z (by omega : (0 : Int) < (n : Int))
    exact ⟨d, hd, by omega⟩
  refine ⟨_, PSs.nox (pss_cons (ps_if (PW.pt (pw_and (pt_cmpR op_eq (pe_ix ix_list (pv 0) pe_int (fun _ _ => rfl)) pe_int (nomark _)) (pw_and1 (pt_cmpR op_lt (pe_ix ix_list (pv 0) pe_int (fun _ _ => rfl)) (pe_callB cl_len (by rfl) T.b_len PySem.boot_len (pa_cons (pe_ix ix_list (pv 0) pe_int (fun _ _ => rfl)) pa_nil)) (nomark _)))))
      (pss_cons (ps_set (i := 2) nd rfl (Or.inl rfl) (pe_ix ix_list (pe_ix ix_list (pv 0) pe_int (fun _ _ => rfl)) (pe_ix ix_list (pv 0) pe_int (fun _ _ => rfl)) (fun _ _ => rfl)))
      (pss_cons (ps_asg (pe_op op_add (pe_ix ix_list (pv 0) pe_int (fun _ _ => rfl)) pe_int) (pg_sub (pv 0) pe_int set_list))
      (pss_cons (ps_if (pt_cmpR op_lt (pv 2) (pe_op op_pow pe_int pe_int) (nomark _))
        (pss_one (ps_ret (pe_op op_mod (pe_callTy cl_int (by rfl) T.b_int PyProof.Rows.boot_int (pa_cons (pe_fn G_law_mix (hr.mono (by decide)) (pa_cons (pe_op op_mod (pe_callTy cl_int (by rfl) T.b_int PyProof.Rows.boot_int (pa_cons (pv 2) pa_nil)) pe_int) (pa_cons (pe_ix ix_list (pv 0) pe_int (fun _ _ => rfl)) pa_nil))) pa_nil)) (pv 1))))
        pss_nil)
      (pss_one (ps_asg (pv 2) (pg_sub (pv 0) pe_int set_list))))))
      pss_nil)
    (pss_cons (ps_if (pt_cmpR op_gt (pe_ix ix_list (pv 0) pe_int (fun _ _ => rfl)) pe_int (nomark _))
      (pss_cons (ps_set (i := 3) nd rfl (Or.inl rfl) (pe_ix ix_list (pv 0) pe_int (fun _ _ => rfl)))
      (pss_cons (ps_asg (pe_op op_fdivW (pv 3) (pv 1)) (pg_sub (pv 0) pe_int set_list))
      (pss_one (ps_ret (pe_op op_mod (pe_callTy cl_int (by rfl) T.b_int PyProof.Rows.boot_int (pa_cons (pv 3) pa_nil)) (pv 1))))))
      pss_nil)
    (pss_cons (ps_asg (pe_op op_mod (pe_callTy cl_int (by rfl) T.b_int PyProof.Rows.boot_int (pa_cons (pe_op op_add (pe_ix ix_list (pv 0) pe_int (fun _ _ => rfl)) pe_int) pa_nil)) pe_int) (pg_sub (pv 0) pe_int set_list))
    (pss_one (ps_ret (pe_op op_mod (pe_callTy cl_int (by rfl) T.b_int PyProof.Rows.boot_int (pa_cons (pe_fn G_law_mix (hr.mono (by decide)) (pa_cons (pe_ix ix_list (pv 0) pe_int (fun _ _ => rfl)) (pa_cons (pe_ix ix_list (pv 0) pe_int (fun _ _ => rfl)) pa_nil))) pa_nil)) (pv 1))))))), ?_⟩
  try dsimp only [cxOf, Cx.nox, Cx.wish]
  walk_at "go"
  refine w_ite (fun h0 => ?_) fun h0 => ?_
  · walk_at "go"
    refine w_ite (fun h1 => ?_) fun h1 => ?_
    · have h1 : t1 < cells.length := by
        rw [List.length_map] at h1
        omega
      have h2 := hc _ (List.getElem_mem h1)
      have ai : atI (iv cells) ((t1 : Nat) : Int) = some (.int (cells[t1])) := atI_nat (by rw [List.getElem?_map, List.getElem?_eq_getElem h1]; rfl)
      walk_at "go"
      have e1 : (t1 : Int) + 1 = ((t1 + 1 : Nat) : Int) := by omega
      rw [e1]
      refine w_setL hm foc0 (k := 1) rfl fun H2 hm2 => ?_
      walk_at "go"
      refine w_ite (fun h3 => ?_) fun h3 => ?_
      · walk_at "go"
        refine w_spN hm2 ⟨_, _, rfl, rfl⟩ fun v N3 H3 eN3 hm3 hR => ?_
        obtain ⟨r, rfl⟩ := hR
        walk_at "go"
        obtain ⟨d, hd, hd2⟩ := hmod r
        rw [hd]
        exact k _ _ _ _ eN3 hm3 ⟨d, _, rfl, hd2, rfl, cl, cells, t1 + 1, _, _, rfl, eN3.seq hcl, hc, hb⟩
      · walk_at "go"
        refine w_setL hm2 foc0 (k := 2) rfl fun H3 hm3 => ?_
        walk_at "go"
        refine w_ite (fun hp => ?_) fun hp => ?_
        · walk_at "go"
          refine w_I (hdiv (cells[t1])) ?_
          walk_at "go"
          refine w_setL hm3 foc0 (k := 2) rfl fun H7 hm7 => ?_
          walk_at "go"
          obtain ⟨d, hd, hd2⟩ := hmod (cells[t1])
          rw [hd]
          exact k _ _ _ _ (Same.refl _) hm7 ⟨d, _, rfl, hd2, rfl, cl, cells, t1 + 1, _, t, rfl, hcl, hc, Int.ediv_nonneg h2 (by omega)⟩
        · walk_at "go"
          refine w_setL hm3 foc0 (k := 3) rfl fun H7 hm7 => ?_
          walk_at "go"
          refine w_spN hm7 ⟨_, _, rfl, rfl⟩ fun v N8 H8 eN8 hm8 hR => ?_
          obtain ⟨r, rfl⟩ := hR
          walk_at "go"
          obtain ⟨d, hd, hd2⟩ := hmod r
          rw [hd]
          exact k _ _ _ _ eN8 hm8 ⟨d, _, rfl, hd2, rfl, cl, cells, t1 + 1, _, _, rfl, eN8.seq hcl, hc, h2⟩
    · walk_at "go"
      refine w_ite (fun hp => ?_) fun hp => ?_
      · walk_at "go"
        refine w_I (hdiv b) ?_
        walk_at "go"
        refine w_setL hm foc0 (k := 2) rfl fun H7 hm7 => ?_
        walk_at "go"
        obtain ⟨d, hd, hd2⟩ := hmod b
        rw [hd]
        exact k _ _ _ _ (Same.refl _) hm7 ⟨d, _, rfl, hd2, rfl, cl, cells, t1, _, t, rfl, hcl, hc, Int.ediv_nonneg hb (by omega)⟩
      · walk_at "go"
        refine w_setL hm foc0 (k := 3) rfl fun H7 hm7 => ?_
        walk_at "go"
        refine w_spN hm7 ⟨_, _, rfl, rfl⟩ fun v N8 H8 eN8 hm8 hR => ?_
        obtain ⟨r, rfl⟩ := hR
        walk_at "go"
        obtain ⟨d, hd, hd2⟩ := hmod r
        rw [hd]
        exact k _ _ _ _ eN8 hm8 ⟨d, _, rfl, hd2, rfl, cl, cells, t1, _, _, rfl, eN8.seq hcl, hc, hb⟩
  · refine w_ff ?_
    walk_at "go"
    refine w_ite (fun hp => ?_) fun hp => ?_
    · walk_at "go"
      refine w_I (hdiv b) ?_
      walk_at "go"
      refine w_setL hm foc0 (k := 2) rfl fun H7 hm7 => ?_
      walk_at "go"
      obtain ⟨d, hd, hd2⟩ := hmod b
      rw [hd]
      exact k _ _ _ _ (Same.refl _) hm7 ⟨d, _, rfl, hd2, rfl, cl, cells, t1, _, t, rfl, hcl, hc, Int.ediv_nonneg hb (by omega)⟩
    · walk_at "go"
      refine w_setL hm foc0 (k := 3) rfl fun H7 hm7 => ?_
      walk_at "go"
      refine w_spN hm7 ⟨_, _, rfl, rfl⟩ fun v N8 H8 eN8 hm8 hR => ?_
      obtain ⟨r, rfl⟩ := hR
      walk_at "go"
      obtain ⟨d, hd, hd2⟩ := hmod r
      rw [hd]
      exact k _ _ _ _ eN8 hm8 ⟨d, _, rfl, hd2, rfl, cl, cells, t1, _, _, rfl, eN8.seq hcl, hc, hb⟩
end

end Pa

set_option Elab.async false
set_option linter.all false
set_option maxRecDepth 100000
set_option maxHeartbeats 4000000
namespace Pa
open PySem L2
local macro_rules | `(tactic| walk_at "lt") => `(tactic| first
  | assumption
  | omega
  | (simp only [List.length_map, List.length_range, List.length_cons, List.length_nil, List.length_append, List.length_replicate] at *; omega))
local macro_rules | `(tactic| walk_at "fo") => `(tactic| first | exact foc0 | (refine' focS ?k1; (case k1 => walk_at "fo")))
local macro_rules | `(tactic| walk_at "sq") => `(tactic| first
  | assumption
  | (refine' SqL.of ?k1; (case k1 => assumption))
  | (refine' SqT.of ?k1; (case k1 => assumption))
  | (refine' Or.inl ?k1; (case k1 => walk_at "sq"))
  | (refine' Or.inr ?k1; (case k1 => walk_at "sq"))
  | (refine' Same.seq ?k1 ?k2; (case k1 => assumption); (case k2 => walk_at "sq"))
  | (refine' Same.sqt ?k1 ?k2; (case k1 => assumption); (case k2 => walk_at "sq"))
  | (refine' Same.sqe ?k1 ?k2; (case k1 => assumption); (case k2 => walk_at "sq"))
  | (refine' same_at ?k1 ?k2; (case k1 => assumption); (case k2 => walk_at "sq")))
local macro_rules | `(tactic| walk_at "ai") => `(tactic| first
  | assumption
  | (refine' ati_ints ?k1; (case k1 => walk_at "lt"))
  | (refine' ati_refs ?k1; (case k1 => walk_at "lt"))
  | (refine' ati_nat ?k1; (case k1 => assumption))
  | k_dflt rfl)
local macro_rules | `(tactic| walk_at "lk") => `(tactic| first
  | assumption
  | exact lk_hd
  | (refine' lk_tl ?k1 ?k2; (case k1 => decide +kernel); (case k2 => walk_at "lk"))
  | exact lk_nil)
local macro_rules | `(tactic| walk_at "sz") => `(tactic| first
  | exact small_sz (by simp only [List.length_cons, List.length_nil, List.length_append, List.length_map, List.length_range, List.length_set, List.length_replicate]; omega))
local macro_rules | `(tactic| walk_at "cc") => `(tactic| first
  | (show (0 : Int) < _; first | decide | omega)
  | exact Or.inl ⟨by omega, by omega⟩
  | exact Or.inr ⟨by omega, by omega⟩
  | exact ⟨by decide, by decide, by decide⟩
  | exact ⟨by decide, by decide⟩)
local macro_rules | `(tactic| walk_at "st") => `(tactic| first
  | with_reducible refine w_seq ?_
  | with_reducible refine w_asg ?_
  | ((with_reducible refine' w_var ?k1 ?_); (case k1 => k_dflt rfl))
  | with_reducible refine w_c ?_
  | with_reducible refine w_op ?_
  | with_reducible refine w_cons ?_
  | with_reducible refine w_nil ?_
  | with_reducible refine w_gname ?_
  | with_reducible refine w_I0 ?_
  | with_reducible refine w_fld ?_
  | ((with_reducible refine' w_ins ?k1 ?k2 ?k3 ?k4 ?k5 ?_); (case k1 => assumption); (case k2 => walk_at "sq"); (case k3 => assumption); (case k4 => assumption); (case k5 => walk_at "lk"))
  | ((with_reducible refine' w_ixT ?k1 ?k2 ?k3 ?_); (case k1 => assumption); (case k2 => walk_at "sq"); (case k3 => walk_at "ai"))
  | ((with_reducible refine' w_ixL ?k1 ?k2 ?k3 ?_); (case k1 => assumption); (case k2 => walk_at "sq"); (case k3 => walk_at "ai"))
  | ((with_reducible refine' w_ixM ?k1 ?k2 ?k3 ?_); (case k1 => assumption); (case k2 => walk_at "fo"); (case k3 => walk_at "ai"))
  | with_reducible refine w_cb ?_
  | with_reducible refine w_test ?_
  | with_reducible refine w_if ?_
  | with_reducible refine w_B ?_
  | with_reducible refine w_not ?_
  | with_reducible refine w_and ?_
  | with_reducible refine w_or ?_
  | with_reducible refine w_eqI ?_
  | with_reducible refine w_neI ?_
  | with_reducible refine w_isN ?_
  | with_reducible refine w_notN ?_
  | with_reducible refine w_isB ?_
  | with_reducible refine w_bl ?_
  | with_reducible refine w_ret ?_
  | with_reducible refine w_next ?_
  | with_reducible refine w_brk ?_
  | with_reducible refine w_drop ?_
  | with_reducible refine w_call ?_
  | with_reducible refine w_un ?_
  | with_reducible refine w_U ?_
  | with_reducible refine w_andV ?_
  | with_reducible refine w_orV ?_
  | with_reducible refine w_notV ?_
  | with_reducible refine w_ifE ?_
  | with_reducible refine w_chain ?_
  | with_reducible refine w_gsub ?_
  | with_reducible refine w_gnil ?_
  | with_reducible refine w_gcons ?_
  | with_reducible refine w_ipI ?_
  | with_reducible refine w_fldS ?_
  | with_reducible refine w_tru ?_
  | with_reducible refine w_abs ?_
  | with_reducible refine w_maxB ?_
  | with_reducible refine w_minB ?_
  | with_reducible refine w_int ?_
  | with_reducible refine w_tupE ?_
  | with_reducible refine w_lstE ?_
  | with_reducible refine w_bm ?_
  | with_reducible refine w_bm0 ?_
  | with_reducible refine w_mth ?_
  | with_reducible refine w_for0 ?_
  | with_reducible refine w_lc0 ?_
  | with_reducible refine w_il ?_
  | with_reducible refine w_it ?_
  | with_reducible refine w_is ?_
  | with_reducible refine w_ie ?_
  | with_reducible refine w_ir1 ?_
  | with_reducible refine w_ir2 ?_
  | with_reducible refine w_irv ?_
  | with_reducible refine w_rg1 ?_
  | with_reducible refine w_rg1v ?_
  | with_reducible refine w_lrg ?_
  | with_reducible refine w_make ?_
  | with_reducible refine w_yes ?_
  | with_reducible refine w_ost ?_
  | with_reducible refine w_mkoE ?_
  | with_reducible refine w_is_int_int ?_
  | with_reducible refine w_is_int_bool ?_
  | with_reducible refine w_is_int_str ?_
  | with_reducible refine w_is_int_tuple ?_
  | with_reducible refine w_is_bl_int ?_
  | with_reducible refine w_is_bl_bool ?_
  | with_reducible refine w_is_bl_str ?_
  | with_reducible refine w_is_bl_tuple ?_
  | with_reducible refine w_is_non_int ?_
  | with_reducible refine w_is_non_bool ?_
  | with_reducible refine w_is_non_str ?_
  | with_reducible refine w_is_non_tuple ?_
  | with_reducible refine w_is_str_int ?_
  | with_reducible refine w_is_str_bool ?_
  | with_reducible refine w_is_str_str ?_
  | with_reducible refine w_is_str_tuple ?_
  | ((with_reducible refine' w_insM ?k1 ?k2 ?k3 ?k4 ?k5 ?_); (case k1 => assumption); (case k2 => walk_at "fo"); (case k3 => assumption); (case k4 => assumption); (case k5 => walk_at "lk"))
  | ((with_reducible refine' w_ixE ?k1 ?k2 ?k3 ?_); (case k1 => assumption); (case k2 => walk_at "sq"); (case k3 => walk_at "ai"))
  | ((with_reducible refine' w_len ?k1 ?k2 ?_); (case k1 => assumption); (case k2 => walk_at "sq"))
  | ((with_reducible refine' w_lenM ?k1 ?k2 ?_); (case k1 => assumption); (case k2 => walk_at "fo"))
  | ((with_reducible refine' w_I ?k1 ?_); (case k1 => walk_at "cc"))
  | ((with_reducible refine' w_gtup ?k1 ?k2 ?_); (case k1 => refine' Mem.sqt ?m0 ?h0; (case m0 => assumption); (case h0 => walk_at "sq")); (case k2 => k_dflt rfl))
  | ((with_reducible refine' w_aug ?k1 ?_); (case k1 => k_dflt rfl))
  | ((with_reducible refine' w_truM ?k1 ?k2 ?_); (case k1 => assumption); (case k2 => walk_at "fo"))
  | ((with_reducible refine' w_truL ?k1 ?k2 ?_); (case k1 => assumption); (case k2 => walk_at "sq"))
  | ((with_reducible refine' w_tyL ?k1 ?k2 ?_); (case k1 => assumption); (case k2 => walk_at "fo"))
  | ((with_reducible refine' w_mthI ?k1 ?k2 ?k3 ?_); (case k1 => assumption); (case k2 => walk_at "sq"); (case k3 => walk_at "lk"))
  | ((with_reducible refine' w_sumM ?k1 ?k2 ?_); (case k1 => assumption); (case k2 => walk_at "fo"))
  | ((with_reducible refine' w_eqDN ?k1 ?k2 ?k3 ?_); (case k1 => assumption); (case k2 => walk_at "sq"); (case k3 => walk_at "sq"))
  | ((with_reducible refine' w_is_tup_int ?k1 ?k2 ?_); (case k1 => assumption); (case k2 => walk_at "sq"))
  | ((with_reducible refine' w_is_tup_bool ?k1 ?k2 ?_); (case k1 => assumption); (case k2 => walk_at "sq"))
  | ((with_reducible refine' w_is_tup_str ?k1 ?k2 ?_); (case k1 => assumption); (case k2 => walk_at "sq"))
  | ((with_reducible refine' w_is_tup_tuple ?k1 ?k2 ?_); (case k1 => assumption); (case k2 => walk_at "sq"))
  | dsimp only)
local macro_rules | `(tactic| walk_at "go") => `(tactic| repeat (walk_at "st"))
theorem lit_get {P : Int → Prop} {xs : List Int} (h : ∀ x ∈ xs, P x) {d : Nat} (hd : d < xs.length) : P (xs.getD d 0) := by
  rw [List.getD_eq_getElem?_getD, List.getElem?_eq_getElem hd]
  exact h _ (List.getElem_mem hd)
theorem seqix_nat {d n : Nat} (h : d < n) : seqIndex? ((d : Nat) : Int) n = some d := by
  have h0 : ¬ ((d : Int) < 0) := by omega
  have h1 : (decide ((0 : Int) ≤ (d : Int)) && decide ((d : Int) < (n : Int))) = true := by
    rw [decide_eq_true (by omega), decide_eq_true (by omega)]
    rfl
  unfold seqIndex?
  simp only [if_neg h0]
  rw [if_pos h1]
  rfl
theorem nv_erase {l : List Nat} {d : Nat} : (nv l).eraseIdx d = nv (l.eraseIdx d) := by
  rw [List.eraseIdx_eq_take_drop_succ, List.eraseIdx_eq_take_drop_succ, nv, nv, List.map_append, List.map_take, List.map_drop]
theorem erase_perm {l : List Nat} {d : Nat} (h : d < l.length) : (l[d] :: l.eraseIdx d).Perm l := by
  rw [List.eraseIdx_eq_take_drop_succ]
  have e : l = l.take d ++ l[d] :: l.drop (d + 1) := by rw [List.getElem_cons_drop, List.take_append_drop]
  refine List.Perm.trans ?_ (List.Perm.of_eq e.symm)
  exact List.perm_middle.symm
section
variable {P : Program} {w : World} {K : PySem.W.Frag} {mg : Str → Option Value} {base : Heap} {C : Ad}
abbrev N_law_hand : List Str := ["_law_script", "_law_total", "_law_k", "_law_cell"]
abbrev P_law_hand : List Str := ["_law_script"]
theorem sc_law_hand : FnScope N_law_hand P_law_hand (defScope S_law_hand) := ⟨rfl, rfl, rfl, by decide +kernel, rfl, by decide +kernel, by decide +kernel⟩
-- slots: 0 _law_script, 1 _law_total, 2 _law_k, 3 _law_cell
def spHand (K : PySem.W.Frag) : Sp := spM fun vs I M R => ∃ (s : Addr) (ns : List Int), vs = [.ref s] ∧ SqL K I s (iv ns) ∧ ns.length ≤ 63 ∧ R = fun v N M' => ∃ h o, v = .ref h ∧ M' = (h, o) :: M ∧ Hand K N o
theorem ok_law_hand {f : Addr} {fd : FuncData} (F : FnP K "_law_hand" "_law_hand" S_law_hand f fd) (T : Txt K mg C) : FnOk P w K mg base CX0 1 f fd P_law_hand (spHand K) := by
  have nd := sc_law_hand.nd
  refine F.ok sc_law_hand (fun vs H Q E h => ?_) (fun cdv A outer s H vs Q E hr h => ?_)
  · obtain ⟨I, M, R, ⟨s, ns, rfl, _⟩, _⟩ := h
    rfl
  obtain ⟨I, M, R, ⟨s, ns, rfl, hs, hn, rfl⟩, hm, k⟩ := h
  refine ⟨_, PSs.nox (pss_cons (ps_set (i := 1) nd rfl (Or.inl rfl) pe_int)
    (pss_cons (ps_for PassesOwn.never rfl (pi_enumS rfl T.b_enumerate (pa_cons (pv 0) pa_nil)) (pg_tup rfl (pgs_cons (pg_name (i := 2) nd rfl (Or.inl rfl)) (pgs_cons (pg_name (i := 3) nd rfl (Or.inl rfl)) pgs_nil)))
      (pss_one (ps_set (i := 1) nd rfl (Or.inl rfl) (pe_op op_mod (pe_callTy cl_int (by rfl) T.b_int PyProof.Rows.boot_int (pa_cons (pe_op op_add (pe_op op_mul (pv 1) pe_int) (pe_op op_mul (pe_callTy cl_int (by rfl) T.b_int PyProof.Rows.boot_int (pa_cons (pv 3) pa_nil)) (pe_op op_add (pv 2) pe_int))) pa_nil)) pe_int))))
    (pss_one (ps_ret (pe_lst (pa_cons (pe_lc (own := [("_law_cell", 3)]) (g := (gName 3)) (tt := tYes) (te := (tCB rAbs1 (tCons (tCB rInt1 (tCons (tVar 3) tNil)) tNil))) rfl nd (pi_list (pv 0)) (blkOk_by (N := N_law_hand) (sc := defScope S_law_hand) (by decide +kernel)) (fun _ _ _ _ _ => (pg_name (i := 3) nd rfl (Or.inl rfl))) (fun _ _ _ _ _ => pts_nil) (fun _ _ _ _ _ => (pe_callB cl_abs (by rfl) T.b_abs PyProof.Rows.boot_abs (pa_cons (pe_callTy cl_int (by rfl) T.b_int PyProof.Rows.boot_int (pa_cons (pv 3) pa_nil)) pa_nil)))) (pa_cons pe_int (pa_cons pe_int (pa_cons (pv 1) pa_nil))))))))), ?_⟩
  try dsimp only [cxOf, Cx.nox, Cx.wish]
  walk_at "go"
  refine w_ienum hm (.inl hs) fun J wk => ?_
  refine w_forE wk hm (fun i σ N M' => ∃ t s2 s3, σ = [some (.ref s), some (.int t), s2, s3] ∧ M = M') ⟨0, none, none, rfl, rfl⟩ ?_ (fun _ _ _ _ _ _ h => h) ?_
  · rintro i x t _ N _ H1 hi hx eN hT ⟨tt, s2, s3, rfl, rfl⟩ hm1
    obtain ⟨z, hz, rfl⟩ := iv_get hx
    have eR := eN
    clear eN
    rw [List.length_map] at hi
    walk_at "go"
    exact ⟨_, _, eR, ⟨_, _, _, rfl, rfl⟩, hm1⟩
  · rintro _ N _ H1 eN ⟨tt, s2, s3, rfl, rfl⟩ hm1
    walk_at "go"
    refine w_ill hm1 (eN.seq hs) fun J wk => ?_
    refine w_lcA wk hm1 (fun i => .int (if ns.getD i 0 < 0 then -ns.getD i 0 else ns.getD i 0)) (fun _ => true) (by rw [List.length_map]; omega) (fun j x D acc H' Yes No hj hx hm' hyes hno => ?_) fun D H' hm' => ?_
    · obtain ⟨z, hz, rfl⟩ := iv_get hx
      have ez : ns.getD j 0 = z := by rw [List.getD_eq_getElem?_getD, hz]; rfl
      rw [ez] at hyes
      walk_at "go"
      refine ⟨rfl, ?_⟩
      walk_at "go"
      refine iteT ?_
      walk_at "go"
      exact hyes rfl _ hm'
    · have e1 : (((List.range (iv ns).length).filter fun _ => true).map fun i => V.int (if ns.getD i 0 < 0 then -ns.getD i 0 else ns.getD i 0)) = iv ((List.range ns.length).map fun i => if ns.getD i 0 < 0 then -ns.getD i 0 else ns.getD i 0) := by
        rw [List.filter_eq_self.mpr fun _ _ => rfl, List.length_map]
        exact (List.map_map).symm
      rw [e1] at hm'
      refine w_frz hm' fun N2 eN2 hD hm2 => ?_
      walk_at "go"
      refine w_lst hm2 (by walk_at "sz") fun h H2 hm3 => ?_
      walk_at "go"
      refine k _ _ _ _ (eN.trans eN2) hm3 ⟨h, _, rfl, rfl, D, _, 0, 0, tt, rfl, SqL.of hD, fun c hc => ?_, Int.le_refl _⟩
      obtain ⟨j, _, rfl⟩ := List.mem_map.mp hc
      split <;> omega
abbrev N_law_take : List Str := ["_law_hand_here", "_law_row"]
abbrev P_law_take : List Str := ["_law_hand_here", "_law_row"]
theorem sc_law_take : FnScope N_law_take P_law_take (defScope S_law_take) := ⟨rfl, rfl, rfl, by decide +kernel, rfl, by decide +kernel, by decide +kernel⟩
-- slots: 0 _law_hand_here, 1 _law_row
def spTake (K : PySem.W.Frag) : Sp := spM fun vs I M R => ∃ (h r : Addr) (o : HO) (M0 : Mu) (xs : List V), vs = [.ref h, .ref r] ∧ M = (h, o) :: M0 ∧ Hand K I o ∧ SqE K I r xs ∧ R = fun v N M' => ∃ t o', v = .ref t ∧ SqE K N t xs ∧ M' = (h, o') :: M0 ∧ Hand K N o'
theorem ok_law_take {f : Addr} {fd : FuncData} (F : FnP K "_law_take" "_law_take" S_law_take f fd) (T : Txt K mg C) (G_law_draw : FnAt P w K mg base "_law_draw" 2 P_law_draw (spDraw K)) : FnOk P w K mg base CX0 3 f fd P_law_take (spTake K) := by
  have nd := sc_law_take.nd
  refine F.ok sc_law_take (fun vs H Q E h => ?_) (fun cdv A outer s H vs Q E hr h => ?_)
  · obtain ⟨I, M, R, ⟨h, r, o, M0, xs, rfl, _⟩, _⟩ := h
    rfl
  obtain ⟨I, M, R, ⟨h, r, o, M0, xs, rfl, rfl, ho, hr2, rfl⟩, hm, k⟩ := h
  refine ⟨_, PSs.nox (pss_one (ps_ret (pe_ifExp (pt_cmpR op_eq (pe_fn G_law_draw (hr.mono (by decide)) (pa_cons (pv 0) (pa_cons pe_int pa_nil))) pe_int (nomark _)) (pe_callTy cl_list (by rfl) T.b_list PyProof.Rows.boot_list (pa_cons (pv 1) pa_nil)) (pe_callTy cl_tuple (by rfl) T.b_tuple PyProof.Rows.boot_tuple (pa_cons (pv 1) pa_nil))))), ?_⟩
  try dsimp only [cxOf, Cx.nox, Cx.wish]
  walk_at "go"
  refine w_spM hm ⟨h, o, M0, 2, rfl, rfl, ho, by decide, by decide, rfl⟩ fun v N M' H1 eN hm1 hR => ?_
  obtain ⟨d, o', rfl, hd, rfl, ho'⟩ := hR
  walk_at "go"
  refine w_ite (fun _ => ?_) fun _ => ?_
  · walk_at "go"
    refine w_listOf hm1 (Same.sqe eN hr2) fun l H2 hm2 => ?_
    refine w_frz hm2 fun N2 eN2 hl hm3 => ?_
    exact k _ _ _ _ (eN.trans eN2) hm3 ⟨l, o', rfl, .inl (SqL.of hl), rfl, ho'.mono eN2⟩
  · walk_at "go"
    refine w_tupOf hm1 (Same.sqe eN hr2) fun l N2 H2 eN2 hl hm2 => ?_
    exact k _ _ _ _ (eN.trans eN2) hm2 ⟨l, o', rfl, .inr hl, rfl, ho'.mono eN2⟩
abbrev N_law_cost : List Str := ["_law_hand_here", "_law_small"]
abbrev P_law_cost : List Str := ["_law_hand_here", "_law_small"]
theorem sc_law_cost : FnScope N_law_cost P_law_cost (defScope S_law_cost) := ⟨rfl, rfl, rfl, by decide +kernel, rfl, by decide +kernel, by decide +kernel⟩
-- slots: 0 _law_hand_here, 1 _law_small
def spCost (K : PySem.W.Frag) : Sp := spM fun vs I M R => ∃ (h : Addr) (b : Bool) (o : HO) (M0 : Mu), vs = [.ref h, .bl b] ∧ M = (h, o) :: M0 ∧ Hand K I o ∧ R = fun v N M' => ∃ (c : Int) (o' : HO), v = .int c ∧ 0 ≤ c ∧ c ≤ 1000000000 ∧ M' = (h, o') :: M0 ∧ Hand K N o'
theorem ok_law_cost {f : Addr} {fd : FuncData} (F : FnP K "_law_cost" "_law_cost" S_law_cost f fd) (T : Txt K mg C) (G_law_draw : FnAt P w K mg base "_law_draw" 2 P_law_draw (spDraw K)) : FnOk P w K mg base CX0 3 f fd P_law_cost (spCost K) := by
  have nd := sc_law_cost.nd
  refine F.ok sc_law_cost (fun vs H Q E h => ?_) (fun cdv A outer s H vs Q E hr h => ?_)
  · obtain ⟨I, M, R, ⟨h, b, o, M0, rfl, _⟩, _⟩ := h
    rfl
  obtain ⟨I, M, R, ⟨h, b, o, M0, rfl, rfl, ho, rfl⟩, hm, k⟩ := h
  refine ⟨_, PSs.nox (pss_cons (ps_if (PW.pt (pw_or (pt_val (pv 1)) (pw_or1 (pt_cmpR op_eq (pe_fn G_law_draw (hr.mono (by decide)) (pa_cons (pv 0) (pa_cons pe_int pa_nil))) pe_int (nomark _)))))
      (pss_one (ps_ret (pe_ix ix_list (pe_lst (pa_cons pe_int (pa_cons pe_int (pa_cons pe_int (pa_cons pe_int (pa_cons pe_int (pa_cons pe_int pa_nil))))))) (pe_fn G_law_draw (hr.mono (by decide)) (pa_cons (pv 0) (pa_cons pe_int pa_nil))) (fun _ _ => rfl))))
      pss_nil)
    (pss_one (ps_ret (pe_ifExp (pt_cmpR op_gt (pe_fn G_law_draw (hr.mono (by decide)) (pa_cons (pv 0) (pa_cons pe_int pa_nil))) pe_int (nomark _)) (pe_fn G_law_draw (hr.mono (by decide)) (pa_cons (pv 0) (pa_cons (pe_op op_add (pe_op op_pow pe_int pe_int) pe_int) pa_nil))) (pe_op op_sub (pe_op op_pow pe_int pe_int) (pe_fn G_law_draw (hr.mono (by decide)) (pa_cons (pv 0) (pa_cons pe_int pa_nil)))))))), ?_⟩
  try dsimp only [cxOf, Cx.nox, Cx.wish]
  walk_at "go"
  refine w_iteB (fun hb => ?_) fun hb => ?_
  · refine iteT ?_
    walk_at "go"
    refine w_lstI hm (by walk_at "sz") fun p N1 H1 eN1 hp hm1 => ?_
    walk_at "go"
    refine w_spM hm1 ⟨h, o, M0, 6, rfl, rfl, ho.mono eN1, by decide, by decide, rfl⟩ fun v N2 M' H2 eN2 hm2 hR => ?_
    obtain ⟨d, o2, rfl, hd, rfl, ho2⟩ := hR
    have ai : atI [V.int 0, .int 1, .int 2, .int 3, .int 4, .int 6] ((d : Nat) : Int) = some (.int (([0, 1, 2, 3, 4, 6] : List Int).getD d 0)) := ati_ints (ns := [0, 1, 2, 3, 4, 6]) hd
    walk_at "go"
    have hb := lit_get (P := fun c : Int => 0 ≤ c ∧ c ≤ 1000000000) (xs := [0, 1, 2, 3, 4, 6]) (by decide) hd
    exact k _ _ _ _ ((eN1.trans eN2)) hm2 ⟨_, o2, rfl, hb.1, hb.2, rfl, ho2⟩
  · walk_at "go"
    refine w_spM hm ⟨h, o, M0, 3, rfl, rfl, ho, by decide, by decide, rfl⟩ fun v N0 M' H0 eN0 hm0 hR => ?_
    obtain ⟨d, o0, rfl, hd, rfl, ho0⟩ := hR
    walk_at "go"
    refine w_ite (fun hz => ?_) fun hz => ?_
    · walk_at "go"
      refine w_lstI hm0 (by walk_at "sz") fun p N1 H1 eN1 hp hm1 => ?_
      walk_at "go"
      refine w_spM hm1 ⟨h, o0, M0, 6, rfl, rfl, ho0.mono eN1, by decide, by decide, rfl⟩ fun v N2 M' H2 eN2 hm2 hR => ?_
      obtain ⟨d, o2, rfl, hd, rfl, ho2⟩ := hR
      have ai : atI [V.int 0, .int 1, .int 2, .int 3, .int 4, .int 6] ((d : Nat) : Int) = some (.int (([0, 1, 2, 3, 4, 6] : List Int).getD d 0)) := ati_ints (ns := [0, 1, 2, 3, 4, 6]) hd
      walk_at "go"
      have hb := lit_get (P := fun c : Int => 0 ≤ c ∧ c ≤ 1000000000) (xs := [0, 1, 2, 3, 4, 6]) (by decide) hd
      exact k _ _ _ _ (eN0.trans (eN1.trans eN2)) hm2 ⟨_, o2, rfl, hb.1, hb.2, rfl, ho2⟩
    · walk_at "go"
      refine w_spM hm0 ⟨h, o0, M0, 4, rfl, rfl, ho0, by decide, by decide, rfl⟩ fun v N1 M' H1 eN1 hm1 hR => ?_
      obtain ⟨d1, o1, rfl, hd1, rfl, ho1⟩ := hR
      walk_at "go"
      refine w_ite (fun hz1 => ?_) fun hz1 => ?_
      · walk_at "go"
        have e9 : (10 : Int) ^ (9 : Int).toNat + 1 = ((1000000001 : Nat) : Int) := by decide
        rw [e9]
        refine w_spM hm1 ⟨h, o1, M0, 1000000001, rfl, rfl, ho1, by decide, by decide, rfl⟩ fun v N2 M' H2 eN2 hm2 hR => ?_
        obtain ⟨d2, o2, rfl, hd2, rfl, ho2⟩ := hR
        exact k _ _ _ _ (eN0.trans (eN1.trans eN2)) hm2 ⟨_, o2, rfl, by omega, by omega, rfl, ho2⟩
      · walk_at "go"
        refine w_spM hm1 ⟨h, o1, M0, 2, rfl, rfl, ho1, by decide, by decide, rfl⟩ fun v N2 M' H2 eN2 hm2 hR => ?_
        obtain ⟨d2, o2, rfl, hd2, rfl, ho2⟩ := hR
        walk_at "go"
        have e9 : (10 : Int) ^ (9 : Int).toNat = 1000000000 := by decide
        rw [e9]
        exact k _ _ _ _ (eN0.trans (eN1.trans eN2)) hm2 ⟨_, o2, rfl, by omega, by omega, rfl, ho2⟩
abbrev N_law_order : List Str := ["_law_hand_here", "_law_many", "_law_left", "_law_told", "_law_k"]
abbrev P_law_order : List Str := ["_law_hand_here", "_law_many"]
theorem sc_law_order : FnScope N_law_order P_law_order (defScope S_law_order) := ⟨rfl, rfl, rfl, by decide +kernel, rfl, by decide +kernel, by decide +kernel⟩
-- slots: 0 _law_hand_here, 1 _law_many, 2 _law_left, 3 _law_told, 4 _law_k
def spOrder (K : PySem.W.Frag) : Sp := spM fun vs I M R => ∃ (h : Addr) (o : HO) (M0 : Mu) (n : Nat), vs = [.ref h, .int (n : Int)] ∧ M = (h, o) :: M0 ∧ Hand K I o ∧ n ≤ 100 ∧ R = fun v N M' => ∃ t l o', v = .ref t ∧ N t = some (.lst (nv l)) ∧ l.Perm (List.range n) ∧ M' = (h, o') :: M0 ∧ Hand K N o'
theorem ok_law_order {f : Addr} {fd : FuncData} (F : FnP K "_law_order" "_law_order" S_law_order f fd) (T : Txt K mg C) (G_law_draw : FnAt P w K mg base "_law_draw" 2 P_law_draw (spDraw K)) : FnOk P w K mg base CX0 3 f fd P_law_order (spOrder K) := by
  have nd := sc_law_order.nd
  refine F.ok sc_law_order (fun vs H Q E h => ?_) (fun cdv A outer s H vs Q E hr h => ?_)
  · obtain ⟨I, M, R, ⟨h, o, M0, n, rfl, _⟩, _⟩ := h
    rfl
  obtain ⟨I, M, R, ⟨h, o, M0, n, rfl, rfl, ho, hn, rfl⟩, hm, k⟩ := h
  refine ⟨_, PSs.nox (pss_cons (ps_set (i := 2) nd rfl (Or.inl rfl) (pe_listRg rfl rfl T.b_list (prg_1 rfl T.b_range (pv 1))))
    (pss_cons (ps_set (i := 3) nd rfl (Or.inl rfl) (pe_lst pa_nil))
    (pss_cons (ps_for PassesOwn.never rfl (pi_range1 rfl T.b_range (pa_cons (pv 1) pa_nil)) (pg_name (i := 4) nd rfl (Or.inl rfl))
      (pss_one (ps_expr (pe_bm PySem.F.plainAttrs_list PySem.F.slot_list_append PySem.F.type_list_append mt_append (pv 3) (pa_cons (pe_bm PySem.F.plainAttrs_list PySem.F.slot_list_pop PySem.F.type_list_pop mt_popAt (pv 2) (pa_cons (pe_fn G_law_draw (hr.mono (by decide)) (pa_cons (pv 0) (pa_cons (pe_callB cl_len (by rfl) T.b_len PySem.boot_len (pa_cons (pv 2) pa_nil)) pa_nil))) pa_nil)) pa_nil)))))
    (pss_one (ps_ret (pv 3)))))), ?_⟩
  try dsimp only [cxOf, Cx.nox, Cx.wish]
  walk_at "go"
  refine w_lrgv hm (by omega) fun pl H1 hm1 => ?_
  walk_at "go"
  refine w_lst hm1.swap (by walk_at "sz") fun pt H2 hm2 => ?_
  have hm2 := hm2.swap
  walk_at "go"
  refine w_irr1 (by omega) fun J wk => ?_
  refine w_forZ wk hm2 (fun i σ N M' => ∃ o left told s4, σ = [some (.ref h), some (.int (n : Int)), some (.ref pl), some (.ref pt), s4] ∧ M' = (h, o) :: (pt, .lst (nv told)) :: (pl, .lst (nv left)) :: M0 ∧ Hand K N o ∧ (told ++ left).Perm (List.range n) ∧ told.length = i)
    ⟨o, List.range n, [], none, rfl, rfl, ho, List.Perm.refl _, rfl⟩ ?_ ?_
  · rintro i _ N _ H3 hi eN ⟨o, left, told, s4, rfl, rfl, ho, hp, hl⟩ hm3
    have hll : told.length + left.length = n := by
      have := hp.length_eq
      rw [List.length_append, List.length_range] at this
      exact this
    walk_at "go"
    rw [List.length_map]
    refine w_spM hm3 ⟨h, o, _, left.length, rfl, rfl, ho, by omega, by omega, rfl⟩ fun v N2 M' H4 eN2 hm4 hR => ?_
    obtain ⟨d, o', rfl, hd, rfl, ho'⟩ := hR
    walk_at "go"
    refine w_popAt hm4 (focS (focS foc0)) (k := d) (by omega) (by omega) (seqix_nat (by rw [List.length_map]; exact hd)) (by rw [List.getElem?_map, List.getElem?_eq_getElem hd]; rfl) fun H5 hm5 => ?_
    walk_at "go"
    refine w_app hm5 (focS foc0) (small_sl (by rw [List.length_map]; omega)) fun H6 hm6 => ?_
    rw [nv_app, nv_erase] at hm6
    walk_at "go"
    refine ⟨_, _, eN.trans eN2, ⟨o', left.eraseIdx d, told ++ [left[d]], _, rfl, rfl, ho', ?_, by rw [List.length_append, hl]; rfl⟩, hm6⟩
    rw [List.append_assoc]
    exact (List.Perm.append_left told (erase_perm hd)).trans hp
  · rintro _ N _ H3 eN ⟨o, left, told, s4, rfl, rfl, ho, hp, hl⟩ hm3
    have hll : told.length + left.length = n := by
      have := hp.length_eq
      rw [List.length_append, List.length_range] at this
      exact this
    have e : left = [] := List.length_eq_zero_iff.mp (by omega)
    subst e
    rw [List.append_nil] at hp
    walk_at "go"
    refine w_frz hm3.swap fun N2 eN2 ht hm4 => ?_
    exact k _ _ _ _ (eN.trans eN2) (hm4.swap.drop) ⟨pt, told, o, rfl, ht, hp, rfl, ho.mono eN2⟩
end

end Pa

set_option Elab.async false
set_option linter.all false
set_option maxRecDepth 100000
set_option maxHeartbeats 4000000
namespace Pa
open PySem L2
local macro_rules | `(tactic| walk_at "lt") => `(tactic| first
  | assumption
  | omega
  | (simp only [List.length_map, List.length_range, List.length_cons, List.length_nil, List.length_append, List.length_replicate] at *; omega))
local macro_rules | `(tactic| walk_at "fo") => `(tactic| first | exact foc0 | (refine' focS ?k1; (case k1 => walk_at "fo")))
local macro_rules | `(tactic| walk_at "sq") => `(tactic| first
  | assumption
  | (refine' SqL.of ?k1; (case k1 => assumption))
  | (refine' SqT.of ?k1; (case k1 => assumption))
  | (refine' Or.inl ?k1; (case k1 => walk_at "sq"))
  | (refine' Or.inr ?k1; (case k1 => walk_at "sq"))
  | (refine' Same.seq ?k1 ?k2; (case k1 => assumption); (case k2 => walk_at "sq"))
  | (refine' Same.sqt ?k1 ?k2; (case k1 => assumption); (case k2 => walk_at "sq"))
  | (refine' Same.sqe ?k1 ?k2; (case k1 => assumption); (case k2 => walk_at "sq"))
  | (refine' same_at ?k1 ?k2; (case k1 => assumption); (case k2 => walk_at "sq")))
local macro_rules | `(tactic| walk_at "ai") => `(tactic| first
  | assumption
  | (refine' ati_ints ?k1; (case k1 => walk_at "lt"))
  | (refine' ati_refs ?k1; (case k1 => walk_at "lt"))
  | (refine' ati_nat ?k1; (case k1 => assumption))
  | k_dflt rfl)
local macro_rules | `(tactic| walk_at "lk") => `(tactic| first
  | assumption
  | exact lk_hd
  | (refine' lk_tl ?k1 ?k2; (case k1 => decide +kernel); (case k2 => walk_at "lk"))
  | exact lk_nil)
local macro_rules | `(tactic| walk_at "sz") => `(tactic| first
  | exact small_sz (by simp only [List.length_cons, List.length_nil, List.length_append, List.length_map, List.length_range, List.length_set, List.length_replicate]; omega))
local macro_rules | `(tactic| walk_at "cc") => `(tactic| first
  | (show (0 : Int) < _; first | decide | omega)
  | exact Or.inl ⟨by omega, by omega⟩
  | exact Or.inr ⟨by omega, by omega⟩
  | exact ⟨by decide, by decide, by decide⟩
  | exact ⟨by decide, by decide⟩)
local macro_rules | `(tactic| walk_at "st") => `(tactic| first
  | with_reducible refine w_seq ?_
  | with_reducible refine w_asg ?_
  | ((with_reducible refine' w_var ?k1 ?_); (case k1 => k_dflt rfl))
  | with_reducible refine w_c ?_
  | with_reducible refine w_op ?_
  | with_reducible refine w_cons ?_
  | with_reducible refine w_nil ?_
  | with_reducible refine w_gname ?_
  | with_reducible refine w_I0 ?_
  | with_reducible refine w_fld ?_
  | ((with_reducible refine' w_ins ?k1 ?k2 ?k3 ?k4 ?k5 ?_); (case k1 => assumption); (case k2 => walk_at "sq"); (case k3 => assumption); (case k4 => assumption); (case k5 => walk_at "lk"))
  | ((with_reducible refine' w_ixT ?k1 ?k2 ?k3 ?_); (case k1 => assumption); (case k2 => walk_at "sq"); (case k3 => walk_at "ai"))
  | ((with_reducible refine' w_ixL ?k1 ?k2 ?k3 ?_); (case k1 => assumption); (case k2 => walk_at "sq"); (case k3 => walk_at "ai"))
  | ((with_reducible refine' w_ixM ?k1 ?k2 ?k3 ?_); (case k1 => assumption); (case k2 => walk_at "fo"); (case k3 => walk_at "ai"))
  | with_reducible refine w_cb ?_
  | with_reducible refine w_test ?_
  | with_reducible refine w_if ?_
  | with_reducible refine w_B ?_
  | with_reducible refine w_not ?_
  | with_reducible refine w_and ?_
  | with_reducible refine w_or ?_
  | with_reducible refine w_eqI ?_
  | with_reducible refine w_neI ?_
  | with_reducible refine w_isN ?_
  | with_reducible refine w_notN ?_
  | with_reducible refine w_isB ?_
  | with_reducible refine w_bl ?_
  | with_reducible refine w_ret ?_
  | with_reducible refine w_next ?_
  | with_reducible refine w_brk ?_
  | with_reducible refine w_drop ?_
  | with_reducible refine w_call ?_
  | with_reducible refine w_un ?_
  | with_reducible refine w_U ?_
  | with_reducible refine w_andV ?_
  | with_reducible refine w_orV ?_
  | with_reducible refine w_notV ?_
  | with_reducible refine w_ifE ?_
  | with_reducible refine w_chain ?_
  | with_reducible refine w_gsub ?_
  | with_reducible refine w_gnil ?_
  | with_reducible refine w_gcons ?_
  | with_reducible refine w_ipI ?_
  | with_reducible refine w_fldS ?_
  | with_reducible refine w_tru ?_
  | with_reducible refine w_abs ?_
  | with_reducible refine w_maxB ?_
  | with_reducible refine w_minB ?_
  | with_reducible refine w_int ?_
  | with_reducible refine w_tupE ?_
  | with_reducible refine w_lstE ?_
  | with_reducible refine w_bm ?_
  | with_reducible refine w_bm0 ?_
  | with_reducible refine w_mth ?_
  | with_reducible refine w_for0 ?_
  | with_reducible refine w_lc0 ?_
  | with_reducible refine w_il ?_
  | with_reducible refine w_it ?_
  | with_reducible refine w_is ?_
  | with_reducible refine w_ie ?_
  | with_reducible refine w_ir1 ?_
  | with_reducible refine w_ir2 ?_
  | with_reducible refine w_irv ?_
  | with_reducible refine w_rg1 ?_
  | with_reducible refine w_rg1v ?_
  | with_reducible refine w_lrg ?_
  | with_reducible refine w_make ?_
  | with_reducible refine w_yes ?_
  | with_reducible refine w_ost ?_
  | with_reducible refine w_mkoE ?_
  | with_reducible refine w_is_int_int ?_
  | with_reducible refine w_is_int_bool ?_
  | with_reducible refine w_is_int_str ?_
  | with_reducible refine w_is_int_tuple ?_
  | with_reducible refine w_is_bl_int ?_
  | with_reducible refine w_is_bl_bool ?_
  | with_reducible refine w_is_bl_str ?_
  | with_reducible refine w_is_bl_tuple ?_
  | with_reducible refine w_is_non_int ?_
  | with_reducible refine w_is_non_bool ?_
  | with_reducible refine w_is_non_str ?_
  | with_reducible refine w_is_non_tuple ?_
  | with_reducible refine w_is_str_int ?_
  | with_reducible refine w_is_str_bool ?_
  | with_reducible refine w_is_str_str ?_
  | with_reducible refine w_is_str_tuple ?_
  | ((with_reducible refine' w_insM ?k1 ?k2 ?k3 ?k4 ?k5 ?_); (case k1 => assumption); (case k2 => walk_at "fo"); (case k3 => assumption); (case k4 => assumption); (case k5 => walk_at "lk"))
  | ((with_reducible refine' w_ixE ?k1 ?k2 ?k3 ?_); (case k1 => assumption); (case k2 => walk_at "sq"); (case k3 => walk_at "ai"))
  | ((with_reducible refine' w_len ?k1 ?k2 ?_); (case k1 => assumption); (case k2 => walk_at "sq"))
  | ((with_reducible refine' w_lenM ?k1 ?k2 ?_); (case k1 => assumption); (case k2 => walk_at "fo"))
  | ((with_reducible refine' w_I ?k1 ?_); (case k1 => walk_at "cc"))
  | ((with_reducible refine' w_gtup ?k1 ?k2 ?_); (case k1 => refine' Mem.sqt ?m0 ?h0; (case m0 => assumption); (case h0 => walk_at "sq")); (case k2 => k_dflt rfl))
  | ((with_reducible refine' w_aug ?k1 ?_); (case k1 => k_dflt rfl))
  | ((with_reducible refine' w_truM ?k1 ?k2 ?_); (case k1 => assumption); (case k2 => walk_at "fo"))
  | ((with_reducible refine' w_truL ?k1 ?k2 ?_); (case k1 => assumption); (case k2 => walk_at "sq"))
  | ((with_reducible refine' w_tyL ?k1 ?k2 ?_); (case k1 => assumption); (case k2 => walk_at "fo"))
  | ((with_reducible refine' w_mthI ?k1 ?k2 ?k3 ?_); (case k1 => assumption); (case k2 => walk_at "sq"); (case k3 => walk_at "lk"))
  | ((with_reducible refine' w_sumM ?k1 ?k2 ?_); (case k1 => assumption); (case k2 => walk_at "fo"))
  | ((with_reducible refine' w_eqDN ?k1 ?k2 ?k3 ?_); (case k1 => assumption); (case k2 => walk_at "sq"); (case k3 => walk_at "sq"))
  | ((with_reducible refine' w_is_tup_int ?k1 ?k2 ?_); (case k1 => assumption); (case k2 => walk_at "sq"))
  | ((with_reducible refine' w_is_tup_bool ?k1 ?k2 ?_); (case k1 => assumption); (case k2 => walk_at "sq"))
  | ((with_reducible refine' w_is_tup_str ?k1 ?k2 ?_); (case k1 => assumption); (case k2 => walk_at "sq"))
  | ((with_reducible refine' w_is_tup_tuple ?k1 ?k2 ?_); (case k1 => assumption); (case k2 => walk_at "sq"))
  | dsimp only)
local macro_rules | `(tactic| walk_at "go") => `(tactic| repeat (walk_at "st"))
/-- two values of equal data, of no more than that many levels -/
inductive Eqv (K : PySem.W.Frag) (I : Hp) : Nat → V → V → Prop
  | non {n : Nat} : Eqv K I (n + 1) .non .non
  | int {n : Nat} (i : Int) : Eqv K I (n + 1) (.int i) (.int i)
  | str {n : Nat} (s : Str) : Eqv K I (n + 1) (.str s) (.str s)
  | tup {n : Nat} {a b : Addr} {xs ys : List V} (h1 : SqT K I a xs) (h2 : SqT K I b ys) (hl : xs.length = ys.length) (hz : ys.length ≤ 1000) (h : ∀ (j : Nat) (x y : V), xs[j]? = some x → ys[j]? = some y → Eqv K I n x y) : Eqv K I (n + 1) (.ref a) (.ref b)
theorem w_eqNil {K : PySem.W.Frag} {I H : Hp} {M : Mu} {a b : Addr} {f g : HO → Mu} {Q : VK} (hm : Mem I M H) (ha : Foc M a (.lst []) f) (hb : Foc M b (.lst []) g) (q : Q (.bl true) H) : rEqD K (.ref a) (.ref b) H Q := by
  refine ⟨.list [], .list [], .lst (SqL.of (ha.at hm)) .nil, .lst (SqL.of (hb.at hm)) .nil, by decide, by decide, ?_⟩
  have e : PyData.eqv (.list []) (.list []) = true := by simp only [PyData.eqv, PyData.eqvAll]
  rw [e]
  exact q
section
variable {P : Program} {w : World} {K : PySem.W.Frag} {mg : Str → Option Value} {base : Heap} {C : Ad}
abbrev N_law_exact : List Str := ["_law_told", "_law_due", "_law_k"]
abbrev P_law_exact : List Str := ["_law_told", "_law_due"]
theorem sc_law_exact : FnScope N_law_exact P_law_exact (defScope S_law_exact) := ⟨rfl, rfl, rfl, by decide +kernel, rfl, by decide +kernel, by decide +kernel⟩
-- slots: 0 _law_told (cell), 1 _law_due (cell), 2 _law_k
def spExact (n : Nat) (K : PySem.W.Frag) : Sp := spV fun vs I v => ∃ x y : V, vs = [x, y] ∧ Eqv K I n x y ∧ v = .bl true
theorem ok_law_exact {n : Nat} {f : Addr} {fd : FuncData} (F : FnP K "_law_exact" "_law_exact" S_law_exact f fd) (T : Txt K mg C) (G_law_exact : FnAt P w K mg base "_law_exact" n P_law_exact (spExact n K)) : FnOk P w K mg base CX0 (n + 1) f fd P_law_exact (spExact (n + 1) K) := by
  have nd := sc_law_exact.nd
  refine F.ok sc_law_exact (fun vs H Q E h => ?_) (fun cdv A outer s H vs Q E hr h => ?_)
  · obtain ⟨I, M, v, ⟨x, y, rfl, _⟩, _⟩ := h
    rfl
  obtain ⟨I, M, v, ⟨x, y, rfl, hE, rfl⟩, hm, k⟩ := h
  refine ⟨_, PSs.nox (pss_cons (ps_if (pt_val (pe_callB call_isi (by rfl) T.b_isinstance PyProof.Rows.boot_isinstance (pa_cons (pv 1) (pa_cons (pe_typ T.b_tuple PyProof.Rows.boot_tuple) pa_nil))))
      (pss_cons (ps_if (PW.pt (pw_or (pt_not (pt_val (pe_callB call_isi (by rfl) T.b_isinstance PyProof.Rows.boot_isinstance (pa_cons (pv 0) (pa_cons (pe_typ T.b_tuple PyProof.Rows.boot_tuple) pa_nil))))) (pw_or1 (pt_cmpR op_ne (pe_callB cl_len (by rfl) T.b_len PySem.boot_len (pa_cons (pv 0) pa_nil)) (pe_callB cl_len (by rfl) T.b_len PySem.boot_len (pa_cons (pv 1) pa_nil)) (nomark _)))))
        (pss_one (ps_ret pe_bl))
        pss_nil)
      (pss_one (ps_ret (pe_cmpR (op_eqD hr.units) (pe_lc (own := [("_law_k", 2)]) (g := (gName 2)) (tt := (tNot (tB (tCall (spExact n K) [] E0 (tCons (tOp (rIxT K) (tVar 0) (tVar 2)) (tCons (tOp (rIxT K) (tVar 1) (tVar 2)) tNil)))))) (te := (tVar 2)) rfl nd (pi_range1 rfl T.b_range (pa_cons (pe_callB cl_len (by rfl) T.b_len PySem.boot_len (pa_cons (pv 1) pa_nil)) pa_nil)) (blkOk_by (N := N_law_exact) (sc := defScope S_law_exact) (by decide +kernel)) (fun _ _ _ _ _ => (pg_name (i := 2) nd rfl (Or.inl rfl))) (fun _ _ _ _ _ => (pts_one (pt_not (pt_val (pe_fn G_law_exact (hr.mono (Nat.le_refl _)) (pa_cons (pe_ix ix_tup (pv 0) (pv 2) (fun _ _ => rfl)) (pa_cons (pe_ix ix_tup (pv 1) (pv 2) (fun _ _ => rfl)) pa_nil))))))) (fun _ _ _ _ _ => (pv 2))) (pe_lst pa_nil) (nomark _)))))
      pss_nil)
    (pss_cons (ps_if (pt_cmpR op_isN1 (pv 1) pe_non (nomark _))
      (pss_one (ps_ret (pe_cmpR op_isN1 (pv 0) pe_non (nomark _))))
      pss_nil)
    (pss_cons (ps_if (pt_val (pe_callB call_isi (by rfl) T.b_isinstance PyProof.Rows.boot_isinstance (pa_cons (pv 1) (pa_cons (pe_typ T.b_bool PyProof.Rows.boot_bool) pa_nil))))
      (pss_one (ps_ret (pe_ifExp (pt_tru (pv 1)) (pe_cmpR op_isBl (pv 0) pe_bl (nomark _)) (pe_cmpR op_isBl (pv 0) pe_bl (nomark _)))))
      pss_nil)
    (pss_cons (ps_if (pt_val (pe_callB call_isi (by rfl) T.b_isinstance PyProof.Rows.boot_isinstance (pa_cons (pv 1) (pa_cons (pe_typ T.b_str PyProof.Rows.boot_str) pa_nil))))
      (pss_one (ps_ret (pe_and (pe_callB call_isi (by rfl) T.b_isinstance PyProof.Rows.boot_isinstance (pa_cons (pv 0) (pa_cons (pe_typ T.b_str PyProof.Rows.boot_str) pa_nil))) (pe_one (pe_cmpR op_eq (pv 0) (pv 1) (nomark _))))))
      pss_nil)
    (pss_one (ps_ret (pe_and (pe_callB call_isi (by rfl) T.b_isinstance PyProof.Rows.boot_isinstance (pa_cons (pv 0) (pa_cons (pe_typ T.b_int PyProof.Rows.boot_int) pa_nil))) (pe_and (pe_not (pe_callB call_isi (by rfl) T.b_isinstance PyProof.Rows.boot_isinstance (pa_cons (pv 0) (pa_cons (pe_typ T.b_bool PyProof.Rows.boot_bool) pa_nil)))) (pe_one (pe_cmpR op_eq (pv 0) (pv 1) (nomark _))))))))))), ?_⟩
  try dsimp only [cxOf, Cx.nox, Cx.wish]
  cases hE with
  | non =>
    walk_at "go"
    refine w_ff ?_
    walk_at "go"
    refine w_ite (fun _ => ?_) fun h => absurd rfl h
    walk_at "go"
    exact k _ hm
  | int i =>
    walk_at "go"
    refine w_ff ?_
    walk_at "go"
    refine w_ite (fun h => by cases h) fun _ => ?_
    walk_at "go"
    refine w_ff ?_
    walk_at "go"
    refine w_ff ?_
    walk_at "go"
    refine w_tt ?_
    walk_at "go"
    refine w_tt ?_
    walk_at "go"
    rw [decide_eq_true rfl]
    exact k _ hm
  | str z =>
    walk_at "go"
    refine w_ff ?_
    walk_at "go"
    refine w_ite (fun h => by cases h) fun _ => ?_
    walk_at "go"
    refine w_ff ?_
    walk_at "go"
    refine w_tt ?_
    walk_at "go"
    refine w_tt ?_
    walk_at "go"
    refine w_eq rfl ?_
    rw [decide_eq_true rfl]
    exact k _ hm
  | @tup _ a b xs ys h1 h2 hl hz h =>
    walk_at "go"
    refine w_tt ?_
    walk_at "go"
    refine w_nt ?_
    walk_at "go"
    rw [hl]
    refine w_iteN (fun h => absurd rfl h) fun _ => ?_
    walk_at "go"
    refine w_irr1 (by omega) fun J wk => ?_
    refine w_lcR wk hm (fun j => .int (j : Int)) (fun _ => false) (by omega) (fun j D acc H' Yes No hj hm' hyes hno => ?_) fun D H' hm' => ?_
    · have j1 : j < xs.length := by omega
      have ai1 : atI xs ((j : Nat) : Int) = some xs[j] := atI_nat (List.getElem?_eq_getElem j1)
      have ai2 : atI ys ((j : Nat) : Int) = some ys[j] := atI_nat (List.getElem?_eq_getElem hj)
      walk_at "go"
      refine ⟨rfl, ?_⟩
      walk_at "go"
      refine w_spV hm' ⟨_, _, rfl, h j _ _ (List.getElem?_eq_getElem j1) (List.getElem?_eq_getElem hj), rfl⟩ fun H2 hm2 => ?_
      walk_at "go"
      refine w_nt ?_
      exact hno rfl _ hm2
    · have e : ((List.range ys.length).filter fun _ => false).map (fun j => V.int ((j : Nat) : Int)) = [] := by
        rw [List.filter_eq_nil_iff.mpr (fun _ _ => Bool.false_ne_true)]
        rfl
      rw [e] at hm'
      walk_at "go"
      refine w_lst hm' (by walk_at "sz") fun q H2 hm2 => ?_
      refine w_eqNil hm2 (focS foc0) foc0 ?_
      exact k _ hm2.drop.drop
end

end Pa

set_option Elab.async false
set_option linter.all false
set_option maxRecDepth 100000
set_option maxHeartbeats 4000000
namespace Pa
open PySem L2
local macro_rules | `(tactic| walk_at "lt") => `(tactic| first
  | assumption
  | omega
  | (simp only [List.length_map, List.length_range, List.length_cons, List.length_nil, List.length_append, List.length_replicate] at *; omega))
local macro_rules | `(tactic| walk_at "fo") => `(tactic| first | exact foc0 | (refine' focS ?k1; (case k1 => walk_at "fo")))
local macro_rules | `(tactic| walk_at "sq") => `(tactic| first
  | assumption
  | (refine' SqL.of ?k1; (case k1 => assumption))
  | (refine' SqT.of ?k1; (case k1 => assumption))
  | (refine' Or.inl ?k1; (case k1 => walk_at "sq"))
  | (refine' Or.inr ?k1; (case k1 => walk_at "sq"))
  | (refine' Same.seq ?k1 ?k2; (case k1 => assumption); (case k2 => walk_at "sq"))
  | (refine' Same.sqt ?k1 ?k2; (case k1 => assumption); (case k2 => walk_at "sq"))
  | (refine' Same.sqe ?k1 ?k2; (case k1 => assumption); (case k2 => walk_at "sq"))
  | (refine' same_at ?k1 ?k2; (case k1 => assumption); (case k2 => walk_at "sq")))
local macro_rules | `(tactic| walk_at "ai") => `(tactic| first
  | assumption
  | (refine' ati_ints ?k1; (case k1 => walk_at "lt"))
  | (refine' ati_refs ?k1; (case k1 => walk_at "lt"))
  | (refine' ati_nat ?k1; (case k1 => assumption))
  | k_dflt rfl)
local macro_rules | `(tactic| walk_at "lk") => `(tactic| first
  | assumption
  | exact lk_hd
  | (refine' lk_tl ?k1 ?k2; (case k1 => decide +kernel); (case k2 => walk_at "lk"))
  | exact lk_nil)
local macro_rules | `(tactic| walk_at "sz") => `(tactic| first
  | exact small_sz (by simp only [List.length_cons, List.length_nil, List.length_append, List.length_map, List.length_range, List.length_set, List.length_replicate]; omega))
local macro_rules | `(tactic| walk_at "cc") => `(tactic| first
  | (show (0 : Int) < _; first | decide | omega)
  | exact Or.inl ⟨by omega, by omega⟩
  | exact Or.inr ⟨by omega, by omega⟩
  | exact ⟨by decide, by decide, by decide⟩
  | exact ⟨by decide, by decide⟩)
local macro_rules | `(tactic| walk_at "st") => `(tactic| first
  | with_reducible refine w_seq ?_
  | with_reducible refine w_asg ?_
  | ((with_reducible refine' w_var ?k1 ?_); (case k1 => k_dflt rfl))
  | with_reducible refine w_c ?_
  | with_reducible refine w_op ?_
  | with_reducible refine w_cons ?_
  | with_reducible refine w_nil ?_
  | with_reducible refine w_gname ?_
  | with_reducible refine w_I0 ?_
  | with_reducible refine w_fld ?_
  | ((with_reducible refine' w_ins ?k1 ?k2 ?k3 ?k4 ?k5 ?_); (case k1 => assumption); (case k2 => walk_at "sq"); (case k3 => assumption); (case k4 => assumption); (case k5 => walk_at "lk"))
  | ((with_reducible refine' w_ixT ?k1 ?k2 ?k3 ?_); (case k1 => assumption); (case k2 => walk_at "sq"); (case k3 => walk_at "ai"))
  | ((with_reducible refine' w_ixL ?k1 ?k2 ?k3 ?_); (case k1 => assumption); (case k2 => walk_at "sq"); (case k3 => walk_at "ai"))
  | ((with_reducible refine' w_ixM ?k1 ?k2 ?k3 ?_); (case k1 => assumption); (case k2 => walk_at "fo"); (case k3 => walk_at "ai"))
  | with_reducible refine w_cb ?_
  | with_reducible refine w_test ?_
  | with_reducible refine w_if ?_
  | with_reducible refine w_B ?_
  | with_reducible refine w_not ?_
  | with_reducible refine w_and ?_
  | with_reducible refine w_or ?_
  | with_reducible refine w_eqI ?_
  | with_reducible refine w_neI ?_
  | with_reducible refine w_isN ?_
  | with_reducible refine w_notN ?_
  | with_reducible refine w_isB ?_
  | with_reducible refine w_bl ?_
  | with_reducible refine w_ret ?_
  | with_reducible refine w_next ?_
  | with_reducible refine w_brk ?_
  | with_reducible refine w_drop ?_
  | with_reducible refine w_call ?_
  | with_reducible refine w_un ?_
  | with_reducible refine w_U ?_
  | with_reducible refine w_andV ?_
  | with_reducible refine w_orV ?_
  | with_reducible refine w_notV ?_
  | with_reducible refine w_ifE ?_
  | with_reducible refine w_chain ?_
  | with_reducible refine w_gsub ?_
  | with_reducible refine w_gnil ?_
  | with_reducible refine w_gcons ?_
  | with_reducible refine w_ipI ?_
  | with_reducible refine w_fldS ?_
  | with_reducible refine w_tru ?_
  | with_reducible refine w_abs ?_
  | with_reducible refine w_maxB ?_
  | with_reducible refine w_minB ?_
  | with_reducible refine w_int ?_
  | with_reducible refine w_tupE ?_
  | with_reducible refine w_lstE ?_
  | with_reducible refine w_bm ?_
  | with_reducible refine w_bm0 ?_
  | with_reducible refine w_mth ?_
  | with_reducible refine w_for0 ?_
  | with_reducible refine w_lc0 ?_
  | with_reducible refine w_il ?_
  | with_reducible refine w_it ?_
  | with_reducible refine w_is ?_
  | with_reducible refine w_ie ?_
  | with_reducible refine w_ir1 ?_
  | with_reducible refine w_ir2 ?_
  | with_reducible refine w_irv ?_
  | with_reducible refine w_rg1 ?_
  | with_reducible refine w_rg1v ?_
  | with_reducible refine w_lrg ?_
  | with_reducible refine w_make ?_
  | with_reducible refine w_yes ?_
  | with_reducible refine w_ost ?_
  | with_reducible refine w_mkoE ?_
  | with_reducible refine w_is_int_int ?_
  | with_reducible refine w_is_int_bool ?_
  | with_reducible refine w_is_int_str ?_
  | with_reducible refine w_is_int_tuple ?_
  | with_reducible refine w_is_bl_int ?_
  | with_reducible refine w_is_bl_bool ?_
  | with_reducible refine w_is_bl_str ?_
  | with_reducible refine w_is_bl_tuple ?_
  | with_reducible refine w_is_non_int ?_
  | with_reducible refine w_is_non_bool ?_
  | with_reducible refine w_is_non_str ?_
  | with_reducible refine w_is_non_tuple ?_
  | with_reducible refine w_is_str_int ?_
  | with_reducible refine w_is_str_bool ?_
  | with_reducible refine w_is_str_str ?_
  | with_reducible refine w_is_str_tuple ?_
  | ((with_reducible refine' w_insM ?k1 ?k2 ?k3 ?k4 ?k5 ?_); (case k1 => assumption); (case k2 => walk_at "fo"); (case k3 => assumption); (case k4 => assumption); (case k5 => walk_at "lk"))
  | ((with_reducible refine' w_ixE ?k1 ?k2 ?k3 ?_); (case k1 => assumption); (case k2 => walk_at "sq"); (case k3 => walk_at "ai"))
  | ((with_reducible refine' w_len ?k1 ?k2 ?_); (case k1 => assumption); (case k2 => walk_at "sq"))
  | ((with_reducible refine' w_lenM ?k1 ?k2 ?_); (case k1 => assumption); (case k2 => walk_at "fo"))
  | ((with_reducible refine' w_I ?k1 ?_); (case k1 => walk_at "cc"))
  | ((with_reducible refine' w_gtup ?k1 ?k2 ?_); (case k1 => refine' Mem.sqt ?m0 ?h0; (case m0 => assumption); (case h0 => walk_at "sq")); (case k2 => k_dflt rfl))
  | ((with_reducible refine' w_aug ?k1 ?_); (case k1 => k_dflt rfl))
  | ((with_reducible refine' w_truM ?k1 ?k2 ?_); (case k1 => assumption); (case k2 => walk_at "fo"))
  | ((with_reducible refine' w_truL ?k1 ?k2 ?_); (case k1 => assumption); (case k2 => walk_at "sq"))
  | ((with_reducible refine' w_tyL ?k1 ?k2 ?_); (case k1 => assumption); (case k2 => walk_at "fo"))
  | ((with_reducible refine' w_mthI ?k1 ?k2 ?k3 ?_); (case k1 => assumption); (case k2 => walk_at "sq"); (case k3 => walk_at "lk"))
  | ((with_reducible refine' w_sumM ?k1 ?k2 ?_); (case k1 => assumption); (case k2 => walk_at "fo"))
  | ((with_reducible refine' w_eqDN ?k1 ?k2 ?k3 ?_); (case k1 => assumption); (case k2 => walk_at "sq"); (case k3 => walk_at "sq"))
  | ((with_reducible refine' w_is_tup_int ?k1 ?k2 ?_); (case k1 => assumption); (case k2 => walk_at "sq"))
  | ((with_reducible refine' w_is_tup_bool ?k1 ?k2 ?_); (case k1 => assumption); (case k2 => walk_at "sq"))
  | ((with_reducible refine' w_is_tup_str ?k1 ?k2 ?_); (case k1 => assumption); (case k2 => walk_at "sq"))
  | ((with_reducible refine' w_is_tup_tuple ?k1 ?k2 ?_); (case k1 => assumption); (case k2 => walk_at "sq"))
  | dsimp only)
local macro_rules | `(tactic| walk_at "go") => `(tactic| repeat (walk_at "st"))
/-- a chart as the law holds it -/
def CtAt (K : PySem.W.Frag) (I : Hp) (a : Addr) (c : Ch) : Prop := ∃ p r as, SqL K I a [.ref p, .ref r] ∧ SqT K I p (iv c.cs) ∧ SqT K I r (as.map V.ref) ∧ PrsAt K I as c.ar
theorem CtAt.mono {K : PySem.W.Frag} {I N : Hp} {a : Addr} {c : Ch} (h : CtAt K I a c) (e : Same I N) : CtAt K N a c := by
  obtain ⟨p, r, as, h1, h2, h3, h4⟩ := h
  exact ⟨p, r, as, e.seq h1, Same.sqt e h2, Same.sqt e h3, h4.mono e⟩
abbrev PrAt (K : PySem.W.Frag) (I : Hp) (t : Addr) (p : Nat × Nat) : Prop := SqT K I t [.int ((p.1 : Nat) : Int), .int ((p.2 : Nat) : Int)]
theorem PrAt.mono {K : PySem.W.Frag} {I N : Hp} {ts : List Addr} {ps : List (Nat × Nat)} (h : AllAt (PrAt K I) ts ps) (e : Same I N) : AllAt (PrAt K N) ts ps := AllAt.mono h fun t p h => Same.sqt e h
theorem prs_of {K : PySem.W.Frag} {I : Hp} {ts : List Addr} {ps : List (Nat × Nat)} (h : AllAt (PrAt K I) ts ps) : PrsAt K I ts ps := by
  refine ⟨h.1, fun k hk => ?_⟩
  have h1 : k < ts.length := by rw [h.1]; exact hk
  rw [List.getD_eq_getElem?_getD, List.getD_eq_getElem?_getD, List.getElem?_eq_getElem h1, List.getElem?_eq_getElem hk]
  exact h.2 k _ _ (List.getElem?_eq_getElem h1) (List.getElem?_eq_getElem hk)
theorem w_iteS {c : Prop} [Decidable c] {D : Ends} {σ : L2.St} {H : Hp} {i n0 : Nat} (h : ∀ n : Nat, n = n0 ∨ n = 1 → D.nx (σ.set i (some (.int (n : Int)))) H) :
    if decide c = true then tAsg (tC (.int 1)) (gName i) D (σ.set i (some (.int (n0 : Int)))) H else tNext D (σ.set i (some (.int (n0 : Int)))) H := by
  refine w_ite (fun _ => ?_) fun _ => h n0 (.inl rfl)
  have := h 1 (.inr rfl)
  show D.nx ((σ.set i (some (.int (n0 : Int)))).set i (some (.int 1))) H
  rw [List.set_set]
  exact this
theorem nlit_get {P : Nat → Prop} {xs : List Nat} (h : ∀ x ∈ xs, P x) {d : Nat} (hd : d < xs.length) : P (xs.getD d 0) := by
  rw [List.getD_eq_getElem?_getD, List.getElem?_eq_getElem hd]
  exact h _ (List.getElem_mem hd)
section
variable {P : Program} {w : World} {K : PySem.W.Frag} {mg : Str → Option Value} {base : Heap} {C : Ad}
abbrev N_law_chart : List Str := ["_law_hand_here", "_law_many", "_law_names", "_law_small", "_law_pairs", "_law_k", "_law_way", "_law_one", "_law_two", "_law_arrows"]
abbrev P_law_chart : List Str := ["_law_hand_here"]
theorem sc_law_chart : FnScope N_law_chart P_law_chart (defScope S_law_chart) := ⟨rfl, rfl, rfl, by decide +kernel, rfl, by decide +kernel, by decide +kernel⟩
-- slots: 0 _law_hand_here (cell), 1 _law_many, 2 _law_names, 3 _law_small (cell), 4 _law_pairs (cell), 5 _law_k, 6 _law_way, 7 _law_one, 8 _law_two, 9 _law_arrows
def spChart (K : PySem.W.Frag) : Sp := spM fun vs I M R => ∃ (h : Addr) (o : HO) (M0 : Mu), vs = [.ref h] ∧ M = (h, o) :: M0 ∧ Hand K I o ∧
  R = fun v N M' => ∃ t c o', v = .ref t ∧ CtAt K N t c ∧ c.Fit ∧ c.cs.length ≤ 9 ∧ c.ar.length ≤ c.cs.length + 4 ∧ M' = (h, o') :: M0 ∧ Hand K N o'
theorem ok_law_chart {f : Addr} {fd : FuncData} (F : FnP K "_law_chart" "_law_chart" S_law_chart f fd) (T : Txt K mg C) (G_law_draw : FnAt P w K mg base "_law_draw" 2 P_law_draw (spDraw K)) (G_law_order : FnAt P w K mg base "_law_order" 3 P_law_order (spOrder K)) (G_law_cost : FnAt P w K mg base "_law_cost" 3 P_law_cost (spCost K)) : FnOk P w K mg base CX0 4 f fd P_law_chart (spChart K) := by
  have nd := sc_law_chart.nd
  refine F.ok sc_law_chart (fun vs H Q E h => ?_) (fun cdv A outer s H vs Q E hr h => ?_)
  · obtain ⟨I, M, R, ⟨h, o, M0, rfl, _⟩, _⟩ := h
    rfl
  obtain ⟨I, M, R, ⟨h, o, M0, rfl, rfl, ho, rfl⟩, hm, k⟩ := h
  refine ⟨_, PSs.nox (pss_cons (ps_set (i := 1) nd rfl (Or.inl rfl) (pe_ix ix_list (pe_lst (pa_cons pe_int (pa_cons pe_int (pa_cons pe_int (pa_cons pe_int (pa_cons pe_int (pa_cons pe_int (pa_cons pe_int (pa_cons pe_int pa_nil))))))))) (pe_fn G_law_draw (hr.mono (by decide)) (pa_cons (pv 0) (pa_cons pe_int pa_nil))) (fun _ _ => rfl)))
    (pss_cons (ps_if (pt_cmpR op_eq (pe_fn G_law_draw (hr.mono (by decide)) (pa_cons (pv 0) (pa_cons pe_int pa_nil))) pe_int (nomark _))
      (pss_one (ps_set (i := 1) nd rfl (Or.inl rfl) pe_int))
      pss_nil)
    (pss_cons (ps_set (i := 2) nd rfl (Or.inl rfl) (pe_op op_cat (pe_lst (pa_cons pe_int pa_nil)) (pe_lc (own := [("_law_k", 5)]) (g := (gName 5)) (tt := tYes) (te := (tOp (rI0 fun i j => .int (i + j)) (tC (.int 1)) (tVar 5))) rfl nd (pi_list (pe_fn G_law_order (hr.mono (by decide)) (pa_cons (pv 0) (pa_cons (pe_op op_sub (pv 1) pe_int) pa_nil)))) (blkOk_by (N := N_law_chart) (sc := defScope S_law_chart) (by decide +kernel)) (fun _ _ _ _ _ => (pg_name (i := 5) nd rfl (Or.inl rfl))) (fun _ _ _ _ _ => pts_nil) (fun _ _ _ _ _ => (pe_op op_add pe_int (pv 5))))))
    (pss_cons (ps_set (i := 3) nd rfl (Or.inr rfl) (pe_cmpR op_eq (pe_fn G_law_draw (hr.mono (by decide)) (pa_cons (pv 0) (pa_cons pe_int pa_nil))) pe_int (nomark _)))
    (pss_cons (ps_set (i := 4) nd rfl (Or.inr rfl) (pe_lst pa_nil))
    (pss_cons (ps_for PassesOwn.never rfl (pi_range2 rfl T.b_range (pa_cons pe_int (pa_cons (pv 1) pa_nil))) (pg_name (i := 5) nd rfl (Or.inl rfl))
      (pss_one (ps_expr (pe_bm PySem.F.plainAttrs_list PySem.F.slot_list_append PySem.F.type_list_append mt_append (pv 4) (pa_cons (pe_tup (pa_cons (pe_ix ix_list (pv 2) (pe_ifExp (pt_cmpR op_gt (pe_fn G_law_draw (hr.mono (by decide)) (pa_cons (pv 0) (pa_cons pe_int pa_nil))) pe_int (nomark _)) (pe_op op_sub (pv 5) pe_int) (pe_fn G_law_draw (hr.mono (by decide)) (pa_cons (pv 0) (pa_cons (pv 5) pa_nil)))) (fun _ _ => rfl)) (pa_cons (pe_ix ix_list (pv 2) (pv 5) (fun _ _ => rfl)) pa_nil))) pa_nil)))))
    (pss_cons (ps_set (i := 6) nd rfl (Or.inl rfl) (pe_fn G_law_draw (hr.mono (by decide)) (pa_cons (pv 0) (pa_cons pe_int pa_nil))))
    (pss_cons (ps_for PassesOwn.never rfl (pi_range1 rfl T.b_range (pa_cons (pe_ix ix_list (pe_lst (pa_cons pe_int (pa_cons pe_int (pa_cons pe_int (pa_cons pe_int (pa_cons pe_int (pa_cons pe_int (pa_cons pe_int (pa_cons pe_int pa_nil))))))))) (pe_fn G_law_draw (hr.mono (by decide)) (pa_cons (pv 0) (pa_cons pe_int pa_nil))) (fun _ _ => rfl)) pa_nil)) (pg_name (i := 5) nd rfl (Or.inl rfl))
      (pss_cons (ps_set (i := 7) nd rfl (Or.inl rfl) (pe_fn G_law_draw (hr.mono (by decide)) (pa_cons (pv 0) (pa_cons (pv 1) pa_nil))))
      (pss_cons (ps_set (i := 8) nd rfl (Or.inl rfl) (pe_fn G_law_draw (hr.mono (by decide)) (pa_cons (pv 0) (pa_cons (pv 1) pa_nil))))
      (pss_one (ps_if (PW.pt (pw_or (PW.pt (pw_and (pt_cmpR op_eq (pv 6) pe_int (nomark _)) (pw_and1 (pt_cmpR op_lt (pv 7) (pv 8) (nomark _))))) (pw_or1 (pt_cmpR op_gt (pv 6) pe_int (nomark _)))))
        (pss_one (ps_expr (pe_bm PySem.F.plainAttrs_list PySem.F.slot_list_append PySem.F.type_list_append mt_append (pv 4) (pa_cons (pe_tup (pa_cons (pe_ix ix_list (pv 2) (pv 7) (fun _ _ => rfl)) (pa_cons (pe_ix ix_list (pv 2) (pv 8) (fun _ _ => rfl)) pa_nil))) pa_nil))))
        (pss_one (ps_if (pt_cmpR op_ne (pv 7) (pv 8) (nomark _))
          (pss_one (ps_expr (pe_bm PySem.F.plainAttrs_list PySem.F.slot_list_append PySem.F.type_list_append mt_append (pv 4) (pa_cons (pe_tup (pa_cons (pe_ix ix_list (pv 2) (pv 8) (fun _ _ => rfl)) (pa_cons (pe_ix ix_list (pv 2) (pv 7) (fun _ _ => rfl)) pa_nil))) pa_nil))))
          (pss_one (ps_if (pt_tru (pv 4))
            (pss_one (ps_expr (pe_bm PySem.F.plainAttrs_list PySem.F.slot_list_append PySem.F.type_list_append mt_append (pv 4) (pa_cons (pe_ix ix_list (pv 4) pe_int (fun _ _ => rfl)) pa_nil))))
            pss_nil)))))))))
    (pss_cons (ps_setLc (i := 9) (own := [("_law_k", 5)]) (g := (gName 5)) (tt := tYes) (te := (tOp (rIxL K) (tVar 4) (tVar 5))) rfl nd rfl rfl (sw_true rfl rfl rfl (by decide +kernel)) (pi_list (pe_fn G_law_order (hr.mono (by decide)) (pa_cons (pv 0) (pa_cons (pe_callB cl_len (by rfl) T.b_len PySem.boot_len (pa_cons (pv 4) pa_nil)) pa_nil)))) (blkOk_by (N := N_law_chart) (sc := defScope S_law_chart) (by decide +kernel)) (fun _ _ _ _ _ => (pg_name (i := 5) nd rfl (Or.inl rfl))) (fun _ _ _ _ _ => pts_nil) (fun _ _ _ _ _ => (pe_ix ix_list (pv 4) (pv 5) (fun _ _ => rfl))))
    (pss_one (ps_ret (pe_lst (pa_cons (pe_callTy cl_tuple (by rfl) T.b_tuple PyProof.Rows.boot_tuple (pa_cons (pe_lc (own := [("_law_k", 5)]) (g := (gName 5)) (tt := tYes) (te := (tCall (spCost K) [] E0 (tCons (tVar 0) (tCons (tVar 3) tNil)))) rfl nd (pi_range1 rfl T.b_range (pa_cons (pv 1) pa_nil)) (blkOk_by (N := N_law_chart) (sc := defScope S_law_chart) (by decide +kernel)) (fun _ _ _ _ _ => (pg_name (i := 5) nd rfl (Or.inl rfl))) (fun _ _ _ _ _ => pts_nil) (fun _ _ _ _ _ => (pe_fn G_law_cost (hr.mono (by decide)) (pa_cons (pv 0) (pa_cons (pv 3) pa_nil))))) pa_nil)) (pa_cons (pe_callTy cl_tuple (by rfl) T.b_tuple PyProof.Rows.boot_tuple (pa_cons (pv 9) pa_nil)) pa_nil)))))))))))))), ?_⟩
  try dsimp only [cxOf, Cx.nox, Cx.wish]
  walk_at "go"
  refine w_lstI hm (by walk_at "sz") fun p1 N1 H1 eN1 hp1 hm1 => ?_
  walk_at "go"
  refine w_spM hm1 ⟨h, o, M0, 8, rfl, rfl, ho.mono eN1, by decide, by decide, rfl⟩ fun v N2 M' H2 eN2 hm2 hR => ?_
  obtain ⟨d, o2, rfl, hd, rfl, ho2⟩ := hR
  have ai : atI [V.int 2, .int 3, .int 4, .int 3, .int 4, .int 5, .int 6, .int 9] ((d : Nat) : Int) = some (.int ((([2, 3, 4, 3, 4, 5, 6, 9] : List Nat).getD d 0 : Nat) : Int)) := ati_nats (ns := [2, 3, 4, 3, 4, 5, 6, 9]) hd
  have hb := nlit_get (P := fun c : Nat => 1 ≤ c ∧ c ≤ 9) (xs := [2, 3, 4, 3, 4, 5, 6, 9]) (by decide) hd
  generalize ([2, 3, 4, 3, 4, 5, 6, 9] : List Nat).getD d 0 = n0 at ai hb
  walk_at "go"
  have eI2 := eN1.trans eN2
  clear ai hp1 eN1
  refine w_spM hm2 ⟨h, o2, M0, 20, rfl, rfl, ho2, by decide, by decide, rfl⟩ fun v N3 M' H3 eN3 hm3 hR => ?_
  obtain ⟨d3, o3, rfl, hd3, rfl, ho3⟩ := hR
  walk_at "go"
  have eI3 := eI2.trans eN3
  clear eI2 eN2 eN3 ho ho2 hm hm1 hm2 hd hd3
  refine w_iteS fun n hn => ?_
  have hn : 1 ≤ n ∧ n ≤ 9 := by rcases hn with e | e <;> omega
  clear hb
  walk_at "go"
  refine w_lst hm3 (by walk_at "sz") fun a0 H4 hm4 => ?_
  have hm4 := hm4.swap
  walk_at "go"
  have en1 : (n : Int) - 1 = ((n - 1 : Nat) : Int) := by omega
  rw [en1]
  refine w_spM hm4 ⟨h, o3, _, n - 1, rfl, rfl, ho3, by omega, rfl⟩ fun v N4 M' H5 eN4 hm5 hR => ?_
  obtain ⟨t4, l4, o4, rfl, ht4, hl4, rfl, ho4⟩ := hR
  walk_at "go"
  refine w_ill hm5 (SqL.of ht4) fun J wk => ?_
  have hll := hl4.length_eq
  rw [List.length_range] at hll
  refine w_lcA wk hm5 (fun i => .int (((1 + l4.getD i 0 : Nat)) : Int)) (fun _ => true) (by rw [List.length_map]; omega) (fun j x D acc H' Yes No hj hx hm' hyes hno => ?_) fun D H6 hm6 => ?_
  · obtain ⟨z, hz, rfl⟩ := nv_get hx
    have ez : l4.getD j 0 = z := by rw [List.getD_eq_getElem?_getD, hz]; rfl
    rw [ez] at hyes
    walk_at "go"
    refine ⟨rfl, ?_⟩
    walk_at "go"
    refine iteT ?_
    walk_at "go"
    have e1 : (1 : Int) + (z : Int) = ((1 + z : Nat) : Int) := by omega
    rw [e1]
    exact hyes rfl _ hm'
  have e6 : (((List.range (nv l4).length).filter fun _ => true).map fun i => V.int (((1 + l4.getD i 0 : Nat)) : Int)) = nv (l4.map (1 + ·)) := by
    have z := range_filter_map l4 (fun _ => true) fun x => V.int (((1 + x : Nat)) : Int)
    rw [List.length_map]
    rw [z, List.filter_eq_self.mpr fun _ _ => rfl, nv, List.map_map]
    rfl
  rw [e6] at hm6
  have hNm := Names.of hl4
  have en2 : n - 1 + 1 = n := by omega
  rw [en2] at hNm
  refine w_cat hm6 ((focS (focS foc0)).at hm6) (foc0.at hm6) (small_sz (by rw [List.length_map, List.length_map, List.length_singleton]; omega)) fun nmr H7 hm7 => ?_
  refine w_frz hm7 fun N5 eN5 hnm hm8 => ?_
  have hnm : N5 nmr = some (.lst (nv (0 :: l4.map (1 + ·)))) := hnm
  generalize (0 :: l4.map (1 + ·)) = nm at hNm hnm
  have hm8 := hm8.drop.swap.drop
  have ho5 := ho4.mono eN5
  have eI5 := eI3.trans (eN4.trans eN5)
  clear hm7 hm6 hm5 hm4 hm3 ho3 ho4 eI3 eN4 eN5 hl4 ht4 e6 hll
  walk_at "go"
  refine w_spM hm8 ⟨h, o4, M0, 2, rfl, rfl, ho5, by decide, by decide, rfl⟩ fun v N6 M' H8 eN6 hm9 hR => ?_
  obtain ⟨d6, o6, rfl, hd6, rfl, ho6⟩ := hR
  have hnm6 : N6 nmr = some (.lst (nv nm)) := eN6 _ _ hnm
  have eI6 := eI5.trans eN6
  clear hm8 ho5 hnm eI5 eN6 hd6
  walk_at "go"
  generalize decide ((d6 : Int) = 0) = sm
  refine w_lst hm9 (by walk_at "sz") fun pp H9 hm10 => ?_
  have hm10 := hm10.swap
  clear hm9
  walk_at "go"
  refine w_irr2 (n := n - 1) (by omega) (by omega) (by omega) fun J wk => ?_
  refine w_forR (wk N6) hm10 (fun i σ N M' => ∃ o ts ps s5, σ = [some (.ref h), some (.int (n : Int)), some (.ref nmr), some (.bl sm), some (.ref pp), s5, none, none, none, none] ∧ M' = (h, o) :: (pp, .lst (ts.map V.ref)) :: M0 ∧ Hand K N o ∧ AllAt (PrAt K N) ts ps ∧ Tree n (i + 1) nm ps ∧ ps.length = i)
    ⟨o6, [], [], none, rfl, rfl, ho6, AllAt.nil, ⟨fun p hp => (nomatch hp), fun i h1 h2 => by omega⟩, rfl⟩ ?_ ?_
  · rintro i _ N7 _ H10 hi eN7 ⟨o, ts, ps, s5, rfl, rfl, ho, hts, hT, hpl⟩ hm11
    have ei : (1 : Int) + ((i : Nat) : Int) = ((i + 1 : Nat) : Int) := by omega
    rw [ei]
    walk_at "go"
    refine w_spM hm11 ⟨h, o, _, 3, rfl, rfl, ho, by decide, by decide, rfl⟩ fun v N8 M' H11 eN8 hm12 hR => ?_
    obtain ⟨d8, o8, rfl, hd8, rfl, ho8⟩ := hR
    have hts8 := PrAt.mono hts eN8
    have tl : ts.length = i := hts.1.trans hpl
    have hnl := hNm.len
    have ai1 : atI (nv nm) (((i + 1 : Nat) : Nat) : Int) = some (.int ((nm.getD (i + 1) 0 : Nat) : Int)) := ati_nats (by omega)
    walk_at "go"
    refine w_ite (fun hz => ?_) fun hz => ?_
    · have ai2 : atI (nv nm) ((i : Nat) : Int) = some (.int ((nm.getD i 0 : Nat) : Int)) := ati_nats (by omega)
      walk_at "go"
      have ek : ((i + 1 : Nat) : Int) - 1 = ((i : Nat) : Int) := by omega
      rw [ek]
      have eR := eN7.trans eN8
      clear eN7 eN8
      walk_at "go"
      refine w_tup hm12 (by walk_at "sz") fun tq N9 H12 eN9 htq hm13 => ?_
      walk_at "go"
      refine w_app hm13 (focS foc0) (small_sl (by rw [List.length_map]; omega)) fun H13 hm14 => ?_
      refine ⟨_, _, eR.trans eN9, ⟨o8, ts ++ [tq], ps ++ [(nm.getD i 0, nm.getD (i + 1) 0)], _, rfl, by rw [List.map_append]; rfl, ho8.mono eN9, (PrAt.mono hts8 eN9).snoc (SqT.of htq), hT.grow (Nat.lt_succ_self _) fun q hq => hNm.get (by omega), by rw [List.length_append, hpl]; rfl⟩, hm14⟩
    · walk_at "go"
      refine w_spM hm12 ⟨h, o8, _, i + 1, rfl, rfl, ho8, by omega, by omega, rfl⟩ fun v N9 M' H12 eN9 hm13 hR => ?_
      obtain ⟨d9, o9, rfl, hd9, rfl, ho9⟩ := hR
      have ai2 : atI (nv nm) ((d9 : Nat) : Int) = some (.int ((nm.getD d9 0 : Nat) : Int)) := ati_nats (by omega)
      have eR := eN7.trans (eN8.trans eN9)
      have hts9 := PrAt.mono hts8 eN9
      clear eN7 eN8 eN9
      walk_at "go"
      refine w_tup hm13 (by walk_at "sz") fun tq N10 H13 eN10 htq hm14 => ?_
      walk_at "go"
      refine w_app hm14 (focS foc0) (small_sl (by rw [List.length_map]; omega)) fun H14 hm15 => ?_
      refine ⟨_, _, eR.trans eN10, ⟨o9, ts ++ [tq], ps ++ [(nm.getD d9 0, nm.getD (i + 1) 0)], _, rfl, by rw [List.map_append]; rfl, ho9.mono eN10, (PrAt.mono hts9 eN10).snoc (SqT.of htq), hT.grow hd9 fun q hq => hNm.get (by omega), by rw [List.length_append, hpl]; rfl⟩, hm15⟩
  · rintro _ N7 _ H10 eN7 ⟨o, ts, ps, s5, rfl, rfl, ho, hts, hT, hpl⟩ hm11
    rw [en2] at hT
    walk_at "go"
    refine w_spM hm11 ⟨h, o, _, 4, rfl, rfl, ho, by decide, by decide, rfl⟩ fun v N8 M' H11 eN8 hm12 hR => ?_
    obtain ⟨wy, o8, rfl, hd8, rfl, ho8⟩ := hR
    have hts8 := PrAt.mono hts eN8
    have hnm8 : N8 nmr = some (.lst (nv nm)) := eN8 _ _ (eN7 _ _ hnm6)
    have eI8 := eI6.trans (eN7.trans eN8)
    clear hts ho eI6 eN7 eN8 hnm6 hm10 hm11 ho6
    walk_at "go"
    refine w_lstI hm12 (by walk_at "sz") fun p2 N9 H12 eN9 hp2 hm13 => ?_
    walk_at "go"
    refine w_spM hm13 ⟨h, o8, _, 8, rfl, rfl, ho8.mono eN9, by decide, by decide, rfl⟩ fun v N10 M' H13 eN10 hm14 hR => ?_
    obtain ⟨d10, o10, rfl, hd10, rfl, ho10⟩ := hR
    have ai : atI [V.int 0, .int 1, .int 2, .int 3, .int 4, .int 4, .int 5, .int 5] ((d10 : Nat) : Int) = some (.int ((([0, 1, 2, 3, 4, 4, 5, 5] : List Nat).getD d10 0 : Nat) : Int)) := ati_nats (ns := [0, 1, 2, 3, 4, 4, 5, 5]) hd10
    have hb := nlit_get (P := fun c : Nat => c ≤ 5) (xs := [0, 1, 2, 3, 4, 4, 5, 5]) (by decide) hd10
    generalize ([0, 1, 2, 3, 4, 4, 5, 5] : List Nat).getD d10 0 = mo at ai hb
    walk_at "go"
    have hts10 := PrAt.mono (PrAt.mono hts8 eN9) eN10
    have hnm10 : N10 nmr = some (.lst (nv nm)) := eN10 _ _ (eN9 _ _ hnm8)
    have eI10 := eI8.trans (eN9.trans eN10)
    clear ai hp2 eN9 eN10 hts8 hnm8 eI8 hm12 hm13
    refine w_irr1 (by omega) fun J wk => ?_
    refine w_forZ wk hm14 (fun i σ N M' => ∃ o ts ps s5 s7 s8, σ = [some (.ref h), some (.int (n : Int)), some (.ref nmr), some (.bl sm), some (.ref pp), s5, some (.int (wy : Int)), s7, s8, none] ∧ M' = (h, o) :: (pp, .lst (ts.map V.ref)) :: M0 ∧ Hand K N o ∧ AllAt (PrAt K N) ts ps ∧ Tree n n nm ps ∧ ps.length ≤ n - 1 + i)
      ⟨o10, ts, ps, _, _, _, rfl, rfl, ho10, hts10, hT, by omega⟩ ?_ ?_
    · rintro i _ N11 _ H14 hi eN11 ⟨o, ts, ps, s5, s7, s8, rfl, rfl, ho, hts, hT, hpl⟩ hm15
      walk_at "go"
      refine w_spM hm15 ⟨h, o, _, n, rfl, rfl, ho, by omega, by omega, rfl⟩ fun v N12 M' H15 eN12 hm16 hR => ?_
      obtain ⟨a1, o12, rfl, ha1, rfl, ho12⟩ := hR
      walk_at "go"
      refine w_spM hm16 ⟨h, o12, _, n, rfl, rfl, ho12, by omega, by omega, rfl⟩ fun v N13 M' H16 eN13 hm17 hR => ?_
      obtain ⟨a2, o13, rfl, ha2, rfl, ho13⟩ := hR
      have hts13 := PrAt.mono (PrAt.mono hts eN12) eN13
      have eR := eN11.trans (eN12.trans eN13)
      have hnl := hNm.len
      have ai1 : atI (nv nm) ((a1 : Nat) : Int) = some (.int ((nm.getD a1 0 : Nat) : Int)) := ati_nats (by omega)
      have ai2 : atI (nv nm) ((a2 : Nat) : Int) = some (.int ((nm.getD a2 0 : Nat) : Int)) := ati_nats (by omega)
      have b1 := hNm.get ha1
      have b2 := hNm.get ha2
      have tl := hts.1
      clear hm15 hm16 ho ho12 hts eN11 eN12 eN13
      walk_at "go"
      refine w_ite (fun hw => ?_) fun hw => ?_
      · walk_at "go"
        refine w_ite (fun hlt => ?_) fun hlt => ?_
        · refine w_tt ?_
          walk_at "go"
          refine w_tup hm17 (by walk_at "sz") fun tq N14 H17 eN14 htq hm18 => ?_
          walk_at "go"
          refine w_app hm18 (focS foc0) (small_sl (by rw [List.length_map]; omega)) fun H18 hm19 => ?_
          refine ⟨_, _, eR.trans eN14, ⟨o13, ts ++ [tq], ps ++ [(nm.getD a1 0, nm.getD a2 0)], _, _, _, rfl, by rw [List.map_append]; rfl, ho13.mono eN14, (PrAt.mono hts13 eN14).snoc (SqT.of htq), hT.put ⟨b1, b2⟩, by rw [List.length_append, List.length_singleton]; omega⟩, hm19⟩
        · walk_at "go"
          refine w_ite (fun hw2 => by omega) fun hw2 => ?_
          walk_at "go"
          refine w_iteN (fun hne => ?_) fun heq => ?_
          · walk_at "go"
            refine w_tup hm17 (by walk_at "sz") fun tq N14 H17 eN14 htq hm18 => ?_
            walk_at "go"
            refine w_app hm18 (focS foc0) (small_sl (by rw [List.length_map]; omega)) fun H18 hm19 => ?_
            refine ⟨_, _, eR.trans eN14, ⟨o13, ts ++ [tq], ps ++ [(nm.getD a2 0, nm.getD a1 0)], _, _, _, rfl, by rw [List.map_append]; rfl, ho13.mono eN14, (PrAt.mono hts13 eN14).snoc (SqT.of htq), hT.put ⟨b2, b1⟩, by rw [List.length_append, List.length_singleton]; omega⟩, hm19⟩
          · walk_at "go"
            refine w_iteB (fun hb => ?_) fun hb => ?_
            · have l0 : 0 < ts.length := by
                cases ts with
                | nil => cases hb
                | cons _ _ => exact Nat.succ_pos _
              have ht0 : ts[0]? = some (ts.getD 0 0) := by
                rw [List.getD_eq_getElem?_getD, List.getElem?_eq_getElem l0]
                rfl
              obtain ⟨p0, hp0, hpt⟩ := hts13.get ht0
              walk_at "go"
              refine w_app hm17 (focS foc0) (small_sl (by rw [List.length_map]; omega)) fun H18 hm19 => ?_
              refine ⟨_, _, eR, ⟨o13, ts ++ [ts.getD 0 0], ps ++ [p0], _, _, _, rfl, by rw [List.map_append]; rfl, ho13, hts13.snoc hpt, hT.put (hT.bd p0 (List.mem_of_getElem? hp0)), by rw [List.length_append, List.length_singleton]; omega⟩, hm19⟩
            · walk_at "go"
              exact ⟨_, _, eR, ⟨o13, ts, ps, _, _, _, rfl, rfl, ho13, hts13, hT, by omega⟩, hm17⟩
      · refine w_ff ?_
        walk_at "go"
        refine w_ite (fun hw2 => ?_) fun hw2 => by omega
        walk_at "go"
        refine w_tup hm17 (by walk_at "sz") fun tq N14 H17 eN14 htq hm18 => ?_
        walk_at "go"
        refine w_app hm18 (focS foc0) (small_sl (by rw [List.length_map]; omega)) fun H18 hm19 => ?_
        refine ⟨_, _, eR.trans eN14, ⟨o13, ts ++ [tq], ps ++ [(nm.getD a1 0, nm.getD a2 0)], _, _, _, rfl, by rw [List.map_append]; rfl, ho13.mono eN14, (PrAt.mono hts13 eN14).snoc (SqT.of htq), hT.put ⟨b1, b2⟩, by rw [List.length_append, List.length_singleton]; omega⟩, hm19⟩
    · rintro _ N11 _ H14 eN11 ⟨o, ts, ps, s5, s7, s8, rfl, rfl, ho, hts, hT, hpl⟩ hm15
      have tl := hts.1
      have eI11 := eI10.trans eN11
      clear hm14 ho10 hts10 hnm10 eI10 eN11
      walk_at "go"
      rw [List.length_map]
      refine w_spM hm15 ⟨h, o, _, ts.length, rfl, rfl, ho, by omega, rfl⟩ fun v N12 M' H15 eN12 hm16 hR => ?_
      obtain ⟨t12, l12, o12, rfl, ht12, hl12, rfl, ho12⟩ := hR
      walk_at "go"
      refine w_ill hm16 (SqL.of ht12) fun J wk => ?_
      have hll := hl12.length_eq
      rw [List.length_range] at hll
      have hlt : ∀ x ∈ l12, x < ts.length := fun x hx => List.mem_range.mp (hl12.mem_iff.mp hx)
      refine w_lcA wk hm16 (fun i => .ref (ts.getD (l12.getD i 0) 0)) (fun _ => true) (by rw [List.length_map]; omega) (fun j x D acc H' Yes No hj hx hm' hyes hno => ?_) fun D H16 hm17 => ?_
      · obtain ⟨z, hz, rfl⟩ := nv_get hx
        have ez : l12.getD j 0 = z := by rw [List.getD_eq_getElem?_getD, hz]; rfl
        have hzl := hlt z (List.mem_of_getElem? hz)
        rw [ez] at hyes
        walk_at "go"
        refine ⟨rfl, ?_⟩
        walk_at "go"
        refine iteT ?_
        walk_at "go"
        exact hyes rfl _ hm'
      · have e7 : (((List.range (nv l12).length).filter fun _ => true).map fun i => V.ref (ts.getD (l12.getD i 0) 0)) = (l12.map fun x => ts.getD x 0).map V.ref := by
          have z := range_filter_map l12 (fun _ => true) fun x => V.ref (ts.getD x 0)
          rw [List.length_map]
          rw [z, List.filter_eq_self.mpr fun _ _ => rfl, List.map_map]
          rfl
        rw [e7] at hm17
        have hm17 := hm17.swap
        walk_at "go"
        refine w_irr1 (by omega) fun J2 wk2 => ?_
        refine w_lcGR wk2 hm17 (fun j acc N M' => ∃ o cs, acc = iv cs ∧ cs.length = j ∧ (∀ x ∈ cs, 0 ≤ x ∧ x ≤ 1000000000) ∧ M' = (h, o) :: (D, .lst ((l12.map fun x => ts.getD x 0).map V.ref)) :: (pp, .lst (ts.map V.ref)) :: M0 ∧ Hand K N o)
          ⟨o12, [], rfl, rfl, (fun x hx => nomatch hx), rfl, ho12⟩ (fun j D2 acc N13 M' H17 Yes No hj eN13 hPv hm18 hyes hno => ?_) fun D2 acc N13 M' H17 eN13 hPv hm18 => ?_
        · obtain ⟨o13, cs, rfl, hcl, hcb, rfl, ho13⟩ := hPv
          walk_at "go"
          refine ⟨rfl, ?_⟩
          walk_at "go"
          refine iteT ?_
          walk_at "go"
          refine w_spM hm18.swap ⟨h, sm, o13, _, rfl, rfl, ho13, rfl⟩ fun v N14 M' H18 eN14 hm19 hR => ?_
          obtain ⟨cc, o14, rfl, hc1, hc2, rfl, ho14⟩ := hR
          refine hyes _ _ _ _ (eN13.trans eN14) ⟨o14, cs ++ [cc], by rw [iv, iv, List.map_append]; rfl, by rw [List.length_append, hcl]; rfl, fun x hx => ?_, rfl, ho14⟩ (small_sl (by rw [List.length_map]; omega)) hm19.swap
          rcases List.mem_append.mp hx with hx | hx
          · exact hcb x hx
          · rw [List.mem_singleton.mp hx]
            exact ⟨hc1, hc2⟩
        · obtain ⟨o13, cs, rfl, hcl, hcb, rfl, ho13⟩ := hPv
          walk_at "go"
          refine w_tupOfM hm18 foc0 fun cq N14 H18 eN14 hcq hm19 => ?_
          walk_at "go"
          refine w_tupOfM hm19.drop (focS foc0) fun rq N15 H19 eN15 hrq hm20 => ?_
          walk_at "go"
          refine w_lst hm20 (by walk_at "sz") fun res H20 hm21 => ?_
          refine w_frz hm21 fun N16 eN16 hres hm22 => ?_
          have hm23 := hm22.swap.drop.swap.drop
          have eT := eN13.trans (eN14.trans (eN15.trans eN16))
          have har : AllAt (PrAt K N16) (l12.map fun x => ts.getD x 0) (l12.map fun x => prD ps x) := by
            have hts16 := PrAt.mono hts (eN12.trans eT)
            refine ⟨by rw [List.length_map, List.length_map], fun q t p h1 h2 => ?_⟩
            rw [List.getElem?_map] at h1 h2
            cases e : l12[q]? with
            | none =>
              rw [e] at h1
              cases h1
            | some z =>
              rw [e] at h1 h2
              have hz := hlt z (List.mem_of_getElem? e)
              rw [← Option.some.inj h1, ← Option.some.inj h2]
              have hz2 : z < ps.length := by rw [← tl]; exact hz
              show PrAt K N16 (ts.getD z 0) (ps.getD z (0, 0))
              rw [List.getD_eq_getElem?_getD, List.getD_eq_getElem?_getD, List.getElem?_eq_getElem hz, List.getElem?_eq_getElem hz2]
              exact hts16.2 z _ _ (List.getElem?_eq_getElem hz) (List.getElem?_eq_getElem hz2)
          have hsub : ∀ q, q ∈ ps → q ∈ (l12.map fun x => prD ps x) := fun q hq => by
            obtain ⟨z, hz⟩ := List.mem_iff_getElem?.mp hq
            have hzl := (List.getElem?_eq_some_iff.mp hz).1
            refine List.mem_map.mpr ⟨z, hl12.mem_iff.mpr (List.mem_range.mpr (by rw [tl]; exact hzl)), ?_⟩
            rw [prD, List.getD_eq_getElem?_getD, hz]
            rfl
          have hbd : ∀ q, q ∈ (l12.map fun x => prD ps x) → q.1 < n ∧ q.2 < n := fun q hq => by
            obtain ⟨z, hz, rfl⟩ := List.mem_map.mp hq
            have hz2 : z < ps.length := by rw [← tl]; exact hlt z hz
            rw [prD, List.getD_eq_getElem?_getD, List.getElem?_eq_getElem hz2]
            exact hT.bd _ (List.getElem_mem hz2)
          have hget : ∀ q, q < (l12.map fun x => prD ps x).length → ((l12.map fun x => prD ps x).getD q (0, 0)).1 < n ∧ ((l12.map fun x => prD ps x).getD q (0, 0)).2 < n := fun q hq => by
            rw [List.getD_eq_getElem?_getD, List.getElem?_eq_getElem hq]
            exact hbd _ (List.getElem_mem hq)
          have hml : (l12.map fun x => prD ps x).length ≤ n + 4 := by
            rw [List.length_map, hll]
            omega
          refine k _ _ _ _ (eI11.trans (eN12.trans eT)) hm23 ⟨res, ⟨cs, l12.map fun x => prD ps x⟩, o13, rfl, ⟨cq, rq, _, SqL.of hres, Same.sqt (eN15.trans eN16) hcq, Same.sqt eN16 hrq, prs_of har⟩, ⟨⟨?_, ?_, ?_, ?_, ?_⟩, hT.conn hNm hcl hsub, hcb⟩, ?_, ?_, rfl, ho13.mono (eN14.trans (eN15.trans eN16))⟩
          · show 1 ≤ cs.length
            omega
          · show cs.length ≤ 16
            omega
          · show (l12.map fun x => prD ps x).length ≤ 32
            omega
          · intro q hq
            rw [hcl]
            exact (hget q hq).1
          · intro q hq
            rw [hcl]
            exact (hget q hq).2
          · show cs.length ≤ 9
            omega
          · show (l12.map fun x => prD ps x).length ≤ cs.length + 4
            omega
end

end Pa

set_option Elab.async false
set_option linter.all false
set_option maxRecDepth 100000
set_option maxHeartbeats 4000000
namespace Pa
open PySem L2
local macro_rules | `(tactic| walk_at "lt") => `(tactic| first
  | assumption
  | omega
  | (simp only [List.length_map, List.length_range, List.length_cons, List.length_nil, List.length_append, List.length_replicate] at *; omega))
local macro_rules | `(tactic| walk_at "fo") => `(tactic| first | exact foc0 | (refine' focS ?k1; (case k1 => walk_at "fo")))
local macro_rules | `(tactic| walk_at "sq") => `(tactic| first
  | assumption
  | (refine' SqL.of ?k1; (case k1 => assumption))
  | (refine' SqT.of ?k1; (case k1 => assumption))
  | (refine' Or.inl ?k1; (case k1 => walk_at "sq"))
  | (refine' Or.inr ?k1; (case k1 => walk_at "sq"))
  | (refine' Same.seq ?k1 ?k2; (case k1 => assumption); (case k2 => walk_at "sq"))
  | (refine' Same.sqt ?k1 ?k2; (case k1 => assumption); (case k2 => walk_at "sq"))
  | (refine' Same.sqe ?k1 ?k2; (case k1 => assumption); (case k2 => walk_at "sq"))
  | (refine' same_at ?k1 ?k2; (case k1 => assumption); (case k2 => walk_at "sq")))
local macro_rules | `(tactic| walk_at "ai") => `(tactic| first
  | assumption
  | (refine' ati_ints ?k1; (case k1 => walk_at "lt"))
  | (refine' ati_refs ?k1; (case k1 => walk_at "lt"))
  | (refine' ati_nat ?k1; (case k1 => assumption))
  | k_dflt rfl)
local macro_rules | `(tactic| walk_at "lk") => `(tactic| first
  | assumption
  | exact lk_hd
  | (refine' lk_tl ?k1 ?k2; (case k1 => decide +kernel); (case k2 => walk_at "lk"))
  | exact lk_nil)
local macro_rules | `(tactic| walk_at "sz") => `(tactic| first
  | exact small_sz (by simp only [List.length_cons, List.length_nil, List.length_append, List.length_map, List.length_range, List.length_set, List.length_replicate]; omega))
local macro_rules | `(tactic| walk_at "cc") => `(tactic| first
  | (show (0 : Int) < _; first | decide | omega)
  | exact Or.inl ⟨by omega, by omega⟩
  | exact Or.inr ⟨by omega, by omega⟩
  | exact ⟨by decide, by decide, by decide⟩
  | exact ⟨by decide, by decide⟩)
local macro_rules | `(tactic| walk_at "st") => `(tactic| first
  | with_reducible refine w_seq ?_
  | with_reducible refine w_asg ?_
  | ((with_reducible refine' w_var ?k1 ?_); (case k1 => k_dflt rfl))
  | with_reducible refine w_c ?_
  | with_reducible refine w_op ?_
  | with_reducible refine w_cons ?_
  | with_reducible refine w_nil ?_
  | with_reducible refine w_gname ?_
  | with_reducible refine w_I0 ?_
  | with_reducible refine w_fld ?_
  | ((with_reducible refine' w_ins ?k1 ?k2 ?k3 ?k4 ?k5 ?_); (case k1 => assumption); (case k2 => walk_at "sq"); (case k3 => assumption); (case k4 => assumption); (case k5 => walk_at "lk"))
  | ((with_reducible refine' w_ixT ?k1 ?k2 ?k3 ?_); (case k1 => assumption); (case k2 => walk_at "sq"); (case k3 => walk_at "ai"))
  | ((with_reducible refine' w_ixL ?k1 ?k2 ?k3 ?_); (case k1 => assumption); (case k2 => walk_at "sq"); (case k3 => walk_at "ai"))
  | ((with_reducible refine' w_ixM ?k1 ?k2 ?k3 ?_); (case k1 => assumption); (case k2 => walk_at "fo"); (case k3 => walk_at "ai"))
  | with_reducible refine w_cb ?_
  | with_reducible refine w_test ?_
  | with_reducible refine w_if ?_
  | with_reducible refine w_B ?_
  | with_reducible refine w_not ?_
  | with_reducible refine w_and ?_
  | with_reducible refine w_or ?_
  | with_reducible refine w_eqI ?_
  | with_reducible refine w_neI ?_
  | with_reducible refine w_isN ?_
  | with_reducible refine w_notN ?_
  | with_reducible refine w_isB ?_
  | with_reducible refine w_bl ?_
  | with_reducible refine w_ret ?_
  | with_reducible refine w_next ?_
  | with_reducible refine w_brk ?_
  | with_reducible refine w_drop ?_
  | with_reducible refine w_call ?_
  | with_reducible refine w_un ?_
  | with_reducible refine w_U ?_
  | with_reducible refine w_andV ?_
  | with_reducible refine w_orV ?_
  | with_reducible refine w_notV ?_
  | with_reducible refine w_ifE ?_
  | with_reducible refine w_chain ?_
  | with_reducible refine w_gsub ?_
  | with_reducible refine w_gnil ?_
  | with_reducible refine w_gcons ?_
  | with_reducible refine w_ipI ?_
  | with_reducible refine w_fldS ?_
  | with_reducible refine w_tru ?_
  | with_reducible refine w_abs ?_
  | with_reducible refine w_maxB ?_
  | with_reducible refine w_minB ?_
  | with_reducible refine w_int ?_
  | with_reducible refine w_tupE ?_
  | with_reducible refine w_lstE ?_
  | with_reducible refine w_bm ?_
  | with_reducible refine w_bm0 ?_
  | with_reducible refine w_mth ?_
  | with_reducible refine w_for0 ?_
  | with_reducible refine w_lc0 ?_
  | with_reducible refine w_il ?_
  | with_reducible refine w_it ?_
  | with_reducible refine w_is ?_
  | with_reducible refine w_ie ?_
  | with_reducible refine w_ir1 ?_
  | with_reducible refine w_ir2 ?_
  | with_reducible refine w_irv ?_
  | with_reducible refine w_rg1 ?_
  | with_reducible refine w_rg1v ?_
  | with_reducible refine w_lrg ?_
  | with_reducible refine w_make ?_
  | with_reducible refine w_yes ?_
  | with_reducible refine w_ost ?_
  | with_reducible refine w_mkoE ?_
  | with_reducible refine w_is_int_int ?_
  | with_reducible refine w_is_int_bool ?_
  | with_reducible refine w_is_int_str ?_
  | with_reducible refine w_is_int_tuple ?_
  | with_reducible refine w_is_bl_int ?_
  | with_reducible refine w_is_bl_bool ?_
  | with_reducible refine w_is_bl_str ?_
  | with_reducible refine w_is_bl_tuple ?_
  | with_reducible refine w_is_non_int ?_
  | with_reducible refine w_is_non_bool ?_
  | with_reducible refine w_is_non_str ?_
  | with_reducible refine w_is_non_tuple ?_
  | with_reducible refine w_is_str_int ?_
  | with_reducible refine w_is_str_bool ?_
  | with_reducible refine w_is_str_str ?_
  | with_reducible refine w_is_str_tuple ?_
  | ((with_reducible refine' w_insM ?k1 ?k2 ?k3 ?k4 ?k5 ?_); (case k1 => assumption); (case k2 => walk_at "fo"); (case k3 => assumption); (case k4 => assumption); (case k5 => walk_at "lk"))
  | ((with_reducible refine' w_ixE ?k1 ?k2 ?k3 ?_); (case k1 => assumption); (case k2 => walk_at "sq"); (case k3 => walk_at "ai"))
  | ((with_reducible refine' w_len ?k1 ?k2 ?_); (case k1 => assumption); (case k2 => walk_at "sq"))
  | ((with_reducible refine' w_lenM ?k1 ?k2 ?_); (case k1 => assumption); (case k2 => walk_at "fo"))
  | ((with_reducible refine' w_I ?k1 ?_); (case k1 => walk_at "cc"))
  | ((with_reducible refine' w_gtup ?k1 ?k2 ?_); (case k1 => refine' Mem.sqt ?m0 ?h0; (case m0 => assumption); (case h0 => walk_at "sq")); (case k2 => k_dflt rfl))
  | ((with_reducible refine' w_aug ?k1 ?_); (case k1 => k_dflt rfl))
  | ((with_reducible refine' w_truM ?k1 ?k2 ?_); (case k1 => assumption); (case k2 => walk_at "fo"))
  | ((with_reducible refine' w_truL ?k1 ?k2 ?_); (case k1 => assumption); (case k2 => walk_at "sq"))
  | ((with_reducible refine' w_tyL ?k1 ?k2 ?_); (case k1 => assumption); (case k2 => walk_at "fo"))
  | ((with_reducible refine' w_mthI ?k1 ?k2 ?k3 ?_); (case k1 => assumption); (case k2 => walk_at "sq"); (case k3 => walk_at "lk"))
  | ((with_reducible refine' w_sumM ?k1 ?k2 ?_); (case k1 => assumption); (case k2 => walk_at "fo"))
  | ((with_reducible refine' w_eqDN ?k1 ?k2 ?k3 ?_); (case k1 => assumption); (case k2 => walk_at "sq"); (case k3 => walk_at "sq"))
  | ((with_reducible refine' w_is_tup_int ?k1 ?k2 ?_); (case k1 => assumption); (case k2 => walk_at "sq"))
  | ((with_reducible refine' w_is_tup_bool ?k1 ?k2 ?_); (case k1 => assumption); (case k2 => walk_at "sq"))
  | ((with_reducible refine' w_is_tup_str ?k1 ?k2 ?_); (case k1 => assumption); (case k2 => walk_at "sq"))
  | ((with_reducible refine' w_is_tup_tuple ?k1 ?k2 ?_); (case k1 => assumption); (case k2 => walk_at "sq"))
  | dsimp only)
local macro_rules | `(tactic| walk_at "go") => `(tactic| repeat (walk_at "st"))
/-- nothing more is come to -/
def Closed (c : Ch) (p : Nat) (l : List Nat) : Prop := ∀ k, k < c.ar.length → c.tl k = p ∨ c.tl k ∈ l → c.hd k ∈ l
theorem full_closed {c : Ch} (ok : c.Ok) {p : Nat} {l : List Nat} (h1 : l.Nodup) (h2 : ∀ x ∈ l, x < c.cs.length) (h3 : c.cs.length ≤ l.length) : Closed c p l := fun k hk _ => by
  by_cases h : c.hd k ∈ l
  · exact h
  · have := nodup_len c.cs.length (c.hd k :: l) (List.nodup_cons.mpr ⟨h, h1⟩) fun x hx => by
      rcases List.mem_cons.mp hx with e | hx
      · rw [e]
        exact ok.hd k hk
      · exact h2 x hx
    rw [List.length_cons] at this
    omega
noncomputable def innerL (c : Ch) : List Bool := (List.range c.ar.length).map fun k => c.rch (c.hd k) (c.tl k)
section
variable {P : Program} {w : World} {K : PySem.W.Frag} {mg : Str → Option Value} {base : Heap} {C : Ad}
abbrev N_law_behind : List Str := ["_law_chart_here", "_law_place", "_law_told", "_law_turn", "_law_arrow"]
abbrev P_law_behind : List Str := ["_law_chart_here", "_law_place"]
theorem sc_law_behind : FnScope N_law_behind P_law_behind (defScope S_law_behind) := ⟨rfl, rfl, rfl, by decide +kernel, rfl, by decide +kernel, by decide +kernel⟩
-- slots: 0 _law_chart_here, 1 _law_place, 2 _law_told, 3 _law_turn, 4 _law_arrow
def spBehindL (K : PySem.W.Frag) : Sp := spN fun vs I R => ∃ (a : Addr) (c : Ch) (p : Nat), vs = [.ref a, .int (p : Int)] ∧ CtAt K I a c ∧ c.Ok ∧ p < c.cs.length ∧ R = fun v N => ∃ t l, v = .ref t ∧ N t = some (.lst (nv l)) ∧ l.Nodup ∧ ∀ x, x ∈ l ↔ c.Reach p x
theorem ok_law_behind {f : Addr} {fd : FuncData} (F : FnP K "_law_behind" "_law_behind" S_law_behind f fd) (T : Txt K mg C) : FnOk P w K mg base CX0 1 f fd P_law_behind (spBehindL K) := by
  have nd := sc_law_behind.nd
  refine F.ok sc_law_behind (fun vs H Q E h => ?_) (fun cdv A outer s H vs Q E hr h => ?_)
  · obtain ⟨I, M, R, ⟨a, c, p, rfl, _⟩, _⟩ := h
    rfl
  obtain ⟨I, M, R, ⟨a, c, p, rfl, ⟨pa, ra, as, h1, h2, h3, h4⟩, ok, hp, rfl⟩, hm, k⟩ := h
  have n16 := ok.n16
  refine ⟨_, PSs.nox (pss_cons (ps_set (i := 2) nd rfl (Or.inl rfl) (pe_lst pa_nil))
    (pss_cons (ps_for PassesOwn.never rfl (pi_range1 rfl T.b_range (pa_cons (pe_callB cl_len (by rfl) T.b_len PySem.boot_len (pa_cons (pe_ix ix_list (pv 0) pe_int (fun _ _ => rfl)) pa_nil)) pa_nil)) (pg_name (i := 3) nd rfl (Or.inl rfl))
      (pss_one (ps_for PassesOwn.never rfl (pi_tup (pe_ix ix_list (pv 0) pe_int (fun _ _ => rfl))) (pg_name (i := 4) nd rfl (Or.inl rfl))
        (pss_one (ps_if (PW.pt (pw_and (PW.pt (pw_or (pt_cmpR op_eq (pe_ix ix_tup (pv 4) pe_int (fun _ _ => rfl)) (pv 1) (nomark _)) (pw_or1 (pt_cmpR op_in_seq (pe_ix ix_tup (pv 4) pe_int (fun _ _ => rfl)) (pv 2) (by rfl))))) (pw_and1 (pt_cmpR op_notIn_seq (pe_ix ix_tup (pv 4) pe_int (fun _ _ => rfl)) (pv 2) (by rfl)))))
          (pss_one (ps_expr (pe_bm PySem.F.plainAttrs_list PySem.F.slot_list_append PySem.F.type_list_append mt_append (pv 2) (pa_cons (pe_ix ix_tup (pv 4) pe_int (fun _ _ => rfl)) pa_nil))))
          pss_nil)))))
    (pss_one (ps_ret (pv 2))))), ?_⟩
  try dsimp only [cxOf, Cx.nox, Cx.wish]
  walk_at "go"
  refine w_lst hm (by walk_at "sz") fun pt H1 hm1 => ?_
  walk_at "go"
  rw [List.length_map]
  refine w_irr1 (by omega) fun J wk => ?_
  refine w_forZ wk hm1 (fun i σ N M' => ∃ l s3 s4, σ = [some (.ref a), some (.int (p : Int)), some (.ref pt), s3, s4] ∧ M' = (pt, .lst (nv l)) :: M ∧ l.Nodup ∧ (∀ x ∈ l, c.Reach p x) ∧ (i ≤ l.length ∨ Closed c p l))
    ⟨[], none, none, rfl, rfl, List.nodup_nil, (fun x hx => nomatch hx), .inl (Nat.le_refl _)⟩ ?_ ?_
  · rintro i _ N _ H2 hi eN ⟨l0, s3, s4, rfl, rfl, nd0, hr0, hg0⟩ hm2
    walk_at "go"
    refine w_itt hm2 (Same.sqt eN h3) fun J wk => ?_
    refine w_for wk hm2 (fun j σ N M' => ∃ l s4, σ = [some (.ref a), some (.int (p : Int)), some (.ref pt), some (.int (i : Int)), s4] ∧ M' = (pt, .lst (nv l)) :: M ∧ l.Nodup ∧ (∀ x ∈ l, c.Reach p x) ∧ (Closed c p l0 → l = l0) ∧ (l0.length < l.length ∨ (l = l0 ∧ ∀ k, k < j → c.tl k = p ∨ c.tl k ∈ l0 → c.hd k ∈ l0)))
      ⟨l0, s4, rfl, rfl, nd0, hr0, fun _ => rfl, .inr ⟨rfl, fun k h => absurd h (Nat.not_lt_zero _)⟩⟩ ?_ ?_
    · rintro j x _ N2 _ H3 hj hx eN2 ⟨l, s4, rfl, rfl, nd, hr3, hc, hg⟩ hm3
      rw [List.length_map] at hj
      have hj2 : j < c.ar.length := by rw [← h4.1]; exact hj
      have ex : x = .ref (as.getD j 0) := by
        obtain ⟨t, ht, rfl⟩ := refs_get hx
        rw [List.getD_eq_getElem?_getD, ht]
        rfl
      subst ex
      have hpj : SqT K N2 (as.getD j 0) [.int ((c.tl j : Nat) : Int), .int ((c.hd j : Nat) : Int)] := (h4.mono (eN.trans eN2)).2 j hj2
      have eR := eN2
      clear eN eN2
      have l16 : l.length ≤ 16 := by
        have := nodup_len _ _ nd fun x hx => (hr3 x hx).lt ok
        omega
      have keep : (c.tl j = p ∨ c.tl j ∈ l → c.hd j ∈ l) → (l0.length < l.length ∨ (l = l0 ∧ ∀ k, k < j + 1 → c.tl k = p ∨ c.tl k ∈ l0 → c.hd k ∈ l0)) := fun z => by
        rcases hg with g | ⟨g1, g2⟩
        · exact .inl g
        · subst g1
          refine .inr ⟨rfl, fun k hk hz => ?_⟩
          by_cases ek : k = j
          · subst ek
            exact z hz
          · exact g2 k (by omega) hz
      have add : c.tl j = p ∨ c.tl j ∈ l → c.hd j ∉ l → ∀ H, Mem N2 ((pt, .lst (nv l)) :: M) H → rAppend (.ref pt) [.int ((c.hd j : Nat) : Int)] H fun x H1 => LI N (fun σ N M' => ∃ l s4, σ = [some (.ref a), some (.int (p : Int)), some (.ref pt), some (.int (i : Int)), s4] ∧ M' = (pt, .lst (nv l)) :: M ∧ l.Nodup ∧ (∀ x ∈ l, c.Reach p x) ∧ (Closed c p l0 → l = l0) ∧ (l0.length < l.length ∨ (l = l0 ∧ ∀ k, k < j + 1 → c.tl k = p ∨ c.tl k ∈ l0 → c.hd k ∈ l0)))
          [some (.ref a), some (.int (p : Int)), some (.ref pt), some (.int (i : Int)), some (.ref (as.getD j 0))] H1 := fun hz hn H hm4 => by
        refine w_app hm4 foc0 (small_sl (by rw [List.length_map]; omega)) fun H4 hm5 => ?_
        rw [nv_app] at hm5
        have hl0 : l0.length ≤ l.length := by
          rcases hg with g | ⟨g, _⟩
          · omega
          · rw [g]
            exact Nat.le_refl _
        refine ⟨_, _, eR, ⟨l ++ [c.hd j], _, rfl, rfl, List.nodup_append.mpr ⟨nd, by simp, fun x hx y hy e => hn (by rw [← List.mem_singleton.mp hy, ← e]; exact hx)⟩, fun x hx => ?_, fun hcl => ?_, .inl (by rw [List.length_append, List.length_singleton]; omega)⟩, hm5⟩
        · rcases List.mem_append.mp hx with hx | hx
          · exact hr3 x hx
          · rw [List.mem_singleton.mp hx]
            rcases hz with e | e
            · have := Ch.Reach.one hj2
              rw [e] at this
              exact this
            · exact .step (hr3 _ e) hj2
        · have := hc hcl
          subst this
          exact absurd (hcl j hj2 hz) hn
      walk_at "go"
      refine w_ite (fun q1 => ?_) fun q1 => ?_
      · have q1 : c.tl j = p := by omega
        refine w_tt ?_
        walk_at "go"
        refine w_inM hm3 foc0 rfl (flat_nats _) ?_
        rw [inV_nats]
        walk_at "go"
        refine w_iteNB (fun q2 => ?_) fun q2 => ?_
        · walk_at "go"
          exact add (.inl q1) (of_decide_eq_false q2) _ hm3
        · walk_at "go"
          exact ⟨_, _, eR, ⟨l, _, rfl, rfl, nd, hr3, hc, keep fun _ => of_decide_eq_true q2⟩, hm3⟩
      · have q1 : c.tl j ≠ p := fun z => q1 (congrArg (Nat.cast (R := Int)) z)
        walk_at "go"
        refine w_inM hm3 foc0 rfl (flat_nats _) ?_
        rw [inV_nats]
        walk_at "go"
        refine w_iteB (fun q3 => ?_) fun q3 => ?_
        · walk_at "go"
          refine w_inM hm3 foc0 rfl (flat_nats _) ?_
          rw [inV_nats]
          walk_at "go"
          refine w_iteNB (fun q2 => ?_) fun q2 => ?_
          · walk_at "go"
            exact add (.inr (of_decide_eq_true q3)) (of_decide_eq_false q2) _ hm3
          · walk_at "go"
            exact ⟨_, _, eR, ⟨l, _, rfl, rfl, nd, hr3, hc, keep fun _ => of_decide_eq_true q2⟩, hm3⟩
        · walk_at "go"
          exact ⟨_, _, eR, ⟨l, _, rfl, rfl, nd, hr3, hc, keep fun z => z.elim (fun z => absurd z q1) fun z => absurd z (of_decide_eq_false q3)⟩, hm3⟩
    · rintro _ N2 _ H3 eN2 ⟨l, s4, rfl, rfl, nd, hr3, hc, hg⟩ hm3
      rw [List.length_map, h4.1] at hg
      refine ⟨_, _, eN.trans eN2, ⟨l, _, _, rfl, rfl, nd, hr3, ?_⟩, hm3⟩
      rcases hg with g | ⟨g1, g2⟩
      · rcases hg0 with z | z
        · exact .inl (by omega)
        · have := hc z
          subst this
          omega
      · subst g1
        exact .inr g2
  · rintro _ N _ H2 eN ⟨l, s3, s4, rfl, rfl, nd, hr3, hg⟩ hm2
    walk_at "go"
    have hcl : Closed c p l := by
      rcases hg with g | g
      · exact full_closed ok nd (fun x hx => (hr3 x hx).lt ok) g
      · exact g
    refine w_frz hm2 fun N2 eN2 hl hm3 => ?_
    exact k _ _ _ (eN.trans eN2) hm3 ⟨pt, l, rfl, hl, nd, fun x => ⟨hr3 x, fun z => z.closed (S := fun x => x ∈ l) hcl⟩⟩
abbrev N_law_inner : List Str := ["_law_chart_here", "_law_behind_here", "_law_place", "_law_arrow"]
abbrev P_law_inner : List Str := ["_law_chart_here"]
theorem sc_law_inner : FnScope N_law_inner P_law_inner (defScope S_law_inner) := ⟨rfl, rfl, rfl, by decide +kernel, rfl, by decide +kernel, by decide +kernel⟩
-- slots: 0 _law_chart_here (cell), 1 _law_behind_here (cell), 2 _law_place, 3 _law_arrow
def spInner (K : PySem.W.Frag) : Sp := spN fun vs I R => ∃ (a : Addr) (c : Ch), vs = [.ref a] ∧ CtAt K I a c ∧ c.Ok ∧ R = fun v N => ∃ t, v = .ref t ∧ N t = some (.lst (bv (innerL c)))
theorem ok_law_inner {f : Addr} {fd : FuncData} (F : FnP K "_law_inner" "_law_inner" S_law_inner f fd) (T : Txt K mg C) (G_law_behind : FnAt P w K mg base "_law_behind" 1 P_law_behind (spBehindL K)) : FnOk P w K mg base CX0 2 f fd P_law_inner (spInner K) := by
  have nd := sc_law_inner.nd
  refine F.ok sc_law_inner (fun vs H Q E h => ?_) (fun cdv A outer s H vs Q E hr h => ?_)
  · obtain ⟨I, M, R, ⟨a, c, rfl, _⟩, _⟩ := h
    rfl
  obtain ⟨I, M, R, ⟨a, c, rfl, hct, ok, rfl⟩, hm, k⟩ := h
  have hct2 := hct
  obtain ⟨pa, ra, as, h1, h2, h3, h4⟩ := hct
  have n16 := ok.n16
  have m32 := ok.m32
  refine ⟨_, PSs.nox (pss_cons (ps_set (i := 1) nd rfl (Or.inr rfl) (pe_lc (own := [("_law_place", 2)]) (g := (gName 2)) (tt := tYes) (te := (tCall (spBehindL K) [] E0 (tCons (tVar 0) (tCons (tVar 2) tNil)))) rfl nd (pi_range1 rfl T.b_range (pa_cons (pe_callB cl_len (by rfl) T.b_len PySem.boot_len (pa_cons (pe_ix ix_list (pv 0) pe_int (fun _ _ => rfl)) pa_nil)) pa_nil)) (blkOk_by (N := N_law_inner) (sc := defScope S_law_inner) (by decide +kernel)) (fun _ _ _ _ _ => (pg_name (i := 2) nd rfl (Or.inl rfl))) (fun _ _ _ _ _ => pts_nil) (fun _ _ _ _ _ => (pe_fn G_law_behind (hr.mono (by decide)) (pa_cons (pv 0) (pa_cons (pv 2) pa_nil))))))
    (pss_one (ps_ret (pe_lc (own := [("_law_arrow", 3)]) (g := (gName 3)) (tt := tYes) (te := (tOp (rIn K false) (tOp (rIxT K) (tVar 3) (tC (.int 0))) (tOp (rIxL K) (tVar 1) (tOp (rIxT K) (tVar 3) (tC (.int 1)))))) rfl nd (pi_tup (pe_ix ix_list (pv 0) pe_int (fun _ _ => rfl))) (blkOk_by (N := N_law_inner) (sc := defScope S_law_inner) (by decide +kernel)) (fun _ _ _ _ _ => (pg_name (i := 3) nd rfl (Or.inl rfl))) (fun _ _ _ _ _ => pts_nil) (fun _ _ _ _ _ => (pe_cmpR op_in_seq (pe_ix ix_tup (pv 3) pe_int (fun _ _ => rfl)) (pe_ix ix_list (pv 1) (pe_ix ix_tup (pv 3) pe_int (fun _ _ => rfl)) (fun _ _ => rfl)) (by rfl))))))), ?_⟩
  try dsimp only [cxOf, Cx.nox, Cx.wish]
  walk_at "go"
  rw [List.length_map]
  refine w_irr1 (by omega) fun J wk => ?_
  refine w_lcGR wk hm (fun j acc N M' => ∃ ts, acc = ts.map V.ref ∧ M = M' ∧ ts.length = j ∧ ∀ v, v < j → ∃ l, N (ts.getD v 0) = some (.lst (nv l)) ∧ ∀ x, x ∈ l ↔ c.Reach v x)
    ⟨[], rfl, rfl, rfl, fun v h => absurd h (Nat.not_lt_zero _)⟩ (fun j D acc N M' H' Yes No hj eN hPv hm' hyes hno => ?_) fun D acc N M' H' eN hPv hm' => ?_
  · obtain ⟨ts, rfl, rfl, htl, hts⟩ := hPv
    walk_at "go"
    refine ⟨rfl, ?_⟩
    walk_at "go"
    refine iteT ?_
    walk_at "go"
    refine w_spN hm' ⟨a, c, j, rfl, hct2.mono eN, ok, hj, rfl⟩ fun v N2 H2 eN2 hm2 hR => ?_
    obtain ⟨t, l, rfl, ht, _, hl⟩ := hR
    refine hyes _ _ _ _ (eN.trans eN2) ⟨ts ++ [t], by rw [List.map_append]; rfl, rfl, by rw [List.length_append, htl]; rfl, fun v hv => ?_⟩ (small_sl (by rw [List.length_map]; omega)) hm2
    rw [List.getD_eq_getElem?_getD]
    by_cases ev : v = j
    · subst ev
      rw [List.getElem?_append_right (by omega), htl, Nat.sub_self]
      exact ⟨l, ht, hl⟩
    · rw [List.getElem?_append_left (by omega), ← List.getD_eq_getElem?_getD]
      obtain ⟨l2, h5, h6⟩ := hts v (by omega)
      exact ⟨l2, eN2 _ _ h5, h6⟩
  · obtain ⟨ts, rfl, rfl, htl, hts⟩ := hPv
    have h12 : SqL K N a [.ref pa, .ref ra] := eN.seq h1
    have h32 : SqT K N ra (as.map V.ref) := Same.sqt eN h3
    have h42 := h4.mono eN
    have eI := eN
    clear eN h1 h3 h4
    walk_at "go"
    refine w_itt hm' h32 fun J2 wk2 => ?_
    refine w_lcA wk2 hm' (fun i => .bl (c.rch (c.hd i) (c.tl i))) (fun _ => true) (by rw [List.length_map, h42.1]; omega) (fun j x D2 acc H2 Yes No hj hx hm2 hyes hno => ?_) fun D2 H2 hm2 => ?_
    · rw [List.length_map] at hj
      have hj2 : j < c.ar.length := by rw [← h42.1]; exact hj
      have ex : x = .ref (as.getD j 0) := by
        obtain ⟨t, ht, rfl⟩ := refs_get hx
        rw [List.getD_eq_getElem?_getD, ht]
        rfl
      subst ex
      have hpj : SqT K N (as.getD j 0) [.int ((c.tl j : Nat) : Int), .int ((c.hd j : Nat) : Int)] := h42.2 j hj2
      have hhd := ok.hd j hj2
      obtain ⟨l, hl1, hl2⟩ := hts (c.hd j) hhd
      have ai : atI (ts.map V.ref) ((c.hd j : Nat) : Int) = some (.ref (ts.getD (c.hd j) 0)) := ati_refs (by omega)
      walk_at "go"
      refine ⟨rfl, ?_⟩
      walk_at "go"
      refine iteT ?_
      walk_at "go"
      refine w_in hm2 (.inl (SqL.of hl1)) rfl (flat_nats _) ?_
      rw [inV_nats]
      have e : decide (c.tl j ∈ l) = c.rch (c.hd j) (c.tl j) := by
        by_cases h : c.Reach (c.hd j) (c.tl j)
        · rw [Ch.rch_iff.mpr h, decide_eq_true ((hl2 _).mpr h)]
        · rw [Ch.rch_no.mpr h, decide_eq_false fun z => h ((hl2 _).mp z)]
      rw [e]
      exact hyes rfl _ hm2
    · have e : (((List.range (as.map V.ref).length).filter fun _ => true).map fun i => V.bl (c.rch (c.hd i) (c.tl i))) = bv (innerL c) := by
        rw [List.filter_eq_self.mpr fun _ _ => rfl, List.length_map, h42.1, innerL, bv, List.map_map]
        rfl
      rw [e] at hm2
      refine w_frz hm2 fun N2 eN2 hD hm3 => ?_
      exact k _ _ _ (eI.trans eN2) hm3.drop ⟨D2, rfl, hD⟩
end

end Pa

set_option Elab.async false
set_option linter.all false
set_option maxRecDepth 100000
set_option maxHeartbeats 4000000
-- NOMAC
namespace Pa
/-! ### cutting walks where they come back -/
theorem Pt.at_ {c : Ch} {w x : Nat} : ∀ {p : List Nat} {v : Nat}, Pt c v w p → x ∈ p.map c.tl → ∃ b d, p = b ++ d ∧ d ≠ [] ∧ Pt c v x b ∧ Pt c x w d
  | k :: p, v, h, hx => by
    rw [List.map_cons] at hx
    by_cases e : x = c.tl k
    · subst e
      obtain ⟨h1, h2, h3⟩ := h
      exact ⟨[], k :: p, rfl, by simp, h2.symm, h1, rfl, h3⟩
    · rcases List.mem_cons.mp hx with z | hx
      · exact absurd z e
      · obtain ⟨b, d, h1, h2, h3, h4⟩ := Pt.at_ h.2.2 hx
        exact ⟨k :: b, d, by rw [h1]; rfl, h2, ⟨h.1, h.2.1, h3⟩, h4⟩
theorem Pt.rep {c : Ch} {w : Nat} : ∀ {p : List Nat} {v : Nat}, Pt c v w p → ¬ (p.map c.tl).Nodup → ∃ a b d x, p = a ++ (b ++ d) ∧ b ≠ [] ∧ d ≠ [] ∧ Pt c v x a ∧ Pt c x x b ∧ Pt c x w d
  | [], v, _, hn => absurd (by simp) hn
  | k :: p, v, h, hn => by
    by_cases e : c.tl k ∈ p.map c.tl
    · obtain ⟨b, d, h1, h2, h3, h4⟩ := Pt.at_ h.2.2 e
      refine ⟨[], k :: b, d, c.tl k, by rw [h1]; rfl, by simp, h2, h.2.1.symm, ⟨h.1, rfl, h3⟩, h4⟩
    · have hn2 : ¬ (p.map c.tl).Nodup := fun z => hn (by rw [List.map_cons]; exact List.nodup_cons.mpr ⟨e, z⟩)
      obtain ⟨a, b, d, x, h1, h2, h3, h4, h5, h6⟩ := Pt.rep h.2.2 hn2
      exact ⟨k :: a, b, d, x, by rw [h1]; rfl, h2, h3, ⟨h.1, h.2.1, h4⟩, h5, h6⟩
theorem Pt.ar {c : Ch} {w : Nat} : ∀ {p : List Nat} {v : Nat}, Pt c v w p → ∀ k ∈ p, k < c.ar.length
  | k :: p, v, h, x, hx => by
    rcases List.mem_cons.mp hx with e | hx
    · rw [e]
      exact h.1
    · exact h.2.2.ar x hx
theorem Pt.len {c : Ch} (ok : c.Ok) {v w : Nat} {p : List Nat} (h : Pt c v w p) (hn : (p.map c.tl).Nodup) : p.length ≤ c.cs.length := by
  have := nodup_len c.cs.length _ hn fun x hx => by
    obtain ⟨k, hk, rfl⟩ := List.mem_map.mp hx
    exact ok.tl k (h.ar k hk)
  rw [List.length_map] at this
  exact this
theorem wk_pt {c : Ch} {st : Nat} : ∀ {p : List Nat} {v : Nat}, Wk c st v p ↔ Pt c v st p ∧ ∀ k ∈ p, st ≤ c.tl k
  | [], v => ⟨fun h => ⟨h, fun k hk => nomatch hk⟩, fun h => h.1⟩
  | k :: p, v => by
    constructor
    · rintro ⟨h1, h2, h3, h4⟩
      obtain ⟨h5, h6⟩ := wk_pt.mp h4
      refine ⟨⟨h1, h2, h5⟩, fun x hx => ?_⟩
      rcases List.mem_cons.mp hx with e | hx
      · rw [e, h2]
        exact h3
      · exact h6 x hx
    · rintro ⟨⟨h1, h2, h3⟩, h4⟩
      exact ⟨h1, h2, by rw [← h2]; exact h4 k List.mem_cons_self, wk_pt.mpr ⟨h3, fun x hx => h4 x (List.mem_cons_of_mem _ hx)⟩⟩
/-- a ring that comes to no place twice, from its least place -/
def SR (c : Ch) (r : List Nat) : Prop := r ≠ [] ∧ (r.map c.tl).Nodup ∧ ∃ st, Wk c st st r
theorem least_of : ∀ (l : List Nat), l ≠ [] → ∃ x ∈ l, ∀ y ∈ l, x ≤ y
  | [a], _ => ⟨a, List.mem_cons_self, fun y hy => by rw [List.mem_singleton.mp hy]; exact Nat.le_refl _⟩
  | a :: b :: r, _ => by
    obtain ⟨x, h1, h2⟩ := least_of (b :: r) (by simp)
    by_cases h : a ≤ x
    · refine ⟨a, List.mem_cons_self, fun y hy => ?_⟩
      rcases List.mem_cons.mp hy with e | hy
      · rw [e]
        exact Nat.le_refl _
      · exact Nat.le_trans h (h2 y hy)
    · refine ⟨x, List.mem_cons_of_mem _ h1, fun y hy => ?_⟩
      rcases List.mem_cons.mp hy with e | hy
      · omega
      · exact h2 y hy
theorem simple_of {e : Me} {ss : List Int} : ∀ (n : Nat) (r : List Nat) (v : Nat), r.length ≤ n → Pt e.ch v v r → r ≠ [] → Sat e ss r →
    ∃ r2, SR e.ch r2 ∧ Sat e ss r2 ∧ r2.length ≤ r.length ∧ (¬ (r.map e.ch.tl).Nodup → r2.length < r.length)
  | 0, r, v, hl, _, hn, _ => absurd (List.length_eq_zero_iff.mp (Nat.le_zero.mp hl)) hn
  | n + 1, r, v, hl, hp, hn, ⟨s, hs, h0⟩ => by
    by_cases nd : (r.map e.ch.tl).Nodup
    · obtain ⟨st, h1, h2⟩ := least_of (r.map e.ch.tl) (by simpa using hn)
      obtain ⟨a, b, h3, h4, h5, h6⟩ := Pt.at_ hp h1
      have pm : (b ++ a).Perm r := by rw [h3]; exact List.perm_append_comm
      refine ⟨b ++ a, ⟨by simp [h4], (pm.map _).nodup_iff.mpr nd, st, wk_pt.mpr ⟨h6.app h5, fun k hk => h2 _ (List.mem_map.mpr ⟨k, pm.mem_iff.mp hk, rfl⟩)⟩⟩, ⟨s, hs, ?_⟩, Nat.le_of_eq pm.length_eq, fun z => absurd nd z⟩
      rw [Me.sum_app]
      rw [h3, Me.sum_app] at h0
      rw [Int.add_comm]
      exact h0
    · obtain ⟨a, b, d, x, h1, h2, h3, h4, h5, h6⟩ := hp.rep nd
      have la : r.length = a.length + (b.length + d.length) := by rw [h1, List.length_append, List.length_append]
      have lb : 0 < b.length := List.length_pos_iff.mpr h2
      have ld : 0 < d.length := List.length_pos_iff.mpr h3
      have hsum : e.sum r = e.sum b + e.sum (a ++ d) := by
        rw [h1, Me.sum_app, Me.sum_app, Me.sum_app]
        omega
      rw [hsum, Int.mul_add] at h0
      by_cases q : 0 < s * e.sum b
      · obtain ⟨r2, g1, g2, g3, _⟩ := simple_of n b x (by omega) h5 h2 ⟨s, hs, q⟩
        exact ⟨r2, g1, g2, by omega, fun _ => by omega⟩
      · have lad : (a ++ d).length = a.length + d.length := List.length_append
        obtain ⟨r2, g1, g2, g3, _⟩ := simple_of n (a ++ d) v (by omega) (h4.app h6) (by simp [h3]) ⟨s, hs, by omega⟩
        exact ⟨r2, g1, g2, by omega, fun _ => by omega⟩
theorem SR.bound {c : Ch} (ok : c.Ok) {r : List Nat} (h : SR c r) : 1 ≤ r.length ∧ r.length ≤ c.cs.length ∧ ∃ st, Wk c st st r ∧ st < c.cs.length + 1 - r.length := by
  obtain ⟨h1, h2, st, h3⟩ := h
  have h4 := wk_pt.mp h3
  have l1 : 1 ≤ r.length := List.length_pos_iff.mpr h1
  have l2 := h4.1.len ok h2
  refine ⟨l1, l2, st, h3, ?_⟩
  have nd : ((r.map c.tl).map (· - st)).Nodup := by
    refine List.pairwise_map.mpr (h2.imp_of_mem fun {a b} ha hb hne z => hne ?_)
    obtain ⟨k, hk, rfl⟩ := List.mem_map.mp ha
    obtain ⟨j, hj, rfl⟩ := List.mem_map.mp hb
    have := h4.2 k hk
    have := h4.2 j hj
    omega
  have := nodup_len (c.cs.length - st) _ nd fun x hx => by
    obtain ⟨y, hy, rfl⟩ := List.mem_map.mp hx
    obtain ⟨k, hk, rfl⟩ := List.mem_map.mp hy
    have := h4.2 k hk
    have := ok.tl k (h4.1.ar k hk)
    omega
  rw [List.length_map, List.length_map] at this
  omega
theorem SR.can {e : Me} {ss : List Int} {r : List Nat} {st : Nat} (h : Wk e.ch st st r) (hs : Sat e ss r) : Can e st ss st r.length 0 := by
  obtain ⟨s, h1, h2⟩ := hs
  exact ⟨s, h1, r, rfl, h, by rw [Int.zero_add]; exact h2⟩
theorem NoneD.none {e : Me} (ok : e.ch.Ok) {ss : List Int} (h : NoneD e ss) {r : List Nat} (hr : SR e.ch r) : ¬ Sat e ss r := fun hs => by
  obtain ⟨h1, h2, st, h3, h4⟩ := hr.bound ok
  exact h _ h1 h2 st h4 (SR.can h3 hs)
/-- no drift: every closed walk sums to nothing -/
theorem NoneD.zero {e : Me} (ok : e.ch.Ok) (h : NoneD e [1, -1]) {v : Nat} {p : List Nat} (hp : Pt e.ch v v p) : e.sum p = 0 := by
  refine Classical.byContradiction fun hz => ?_
  have hn : p ≠ [] := fun z => hz (by rw [z]; rfl)
  have hs : Sat e [1, -1] p := by
    by_cases q : 0 < e.sum p
    · exact ⟨1, List.mem_cons_self, by omega⟩
    · exact ⟨-1, List.mem_cons_of_mem _ List.mem_cons_self, by omega⟩
  obtain ⟨r2, g1, g2, _⟩ := simple_of p.length p v (Nat.le_refl _) hp hn hs
  exact h.none ok g1 g2
theorem Ls.trans : ∀ {a b c : List Nat}, Ls a b → Ls b c → Ls a c
  | x :: a, y :: b, z :: c, h1, h2 => by
    rcases h1 with h1 | ⟨h1, h3⟩ <;> rcases h2 with h2 | ⟨h2, h4⟩
    · exact .inl (by omega)
    · exact .inl (by omega)
    · exact .inl (by omega)
    · exact .inr ⟨by omega, h3.trans h4⟩
theorem LR.all {e : Me} {lo len : Nat} {ss : List Int} (h : Can e lo ss lo len 0) : ∀ i, i ≤ len → ∃ W pl, W.length = i ∧ LR e lo len ss W pl
  | 0, _ => ⟨[], lo, rfl, LR.init h⟩
  | i + 1, hi => by
    obtain ⟨W, pl, h1, h2⟩ := LR.all h i (by omega)
    obtain ⟨_, hk⟩ := h2.ex (by omega)
    have hex : ∃ k, k ∈ e.ch.outs pl ∧ Can e lo ss (e.ch.hd k) (len - (W.length + 1)) (e.sum W + e.gain k) := by
      obtain ⟨k, a, b⟩ := hk
      exact ⟨k, a, b⟩
    have least : ∀ n, ∀ k, k ≤ n → k ∈ e.ch.outs pl → Can e lo ss (e.ch.hd k) (len - (W.length + 1)) (e.sum W + e.gain k) →
        ∃ k, k ∈ e.ch.outs pl ∧ Can e lo ss (e.ch.hd k) (len - (W.length + 1)) (e.sum W + e.gain k) ∧ ∀ j, j ∈ e.ch.outs pl → j < k → ¬ Can e lo ss (e.ch.hd j) (len - (W.length + 1)) (e.sum W + e.gain j) := by
      intro n
      induction n with
      | zero => exact fun k hk a b => ⟨k, a, b, fun j _ hj => by omega⟩
      | succ n ih =>
        intro k hk a b
        by_cases q : ∃ j, j ∈ e.ch.outs pl ∧ j < k ∧ Can e lo ss (e.ch.hd j) (len - (W.length + 1)) (e.sum W + e.gain j)
        · obtain ⟨j, q1, q2, q3⟩ := q
          exact ih j (by omega) q1 q3
        · exact ⟨k, a, b, fun j hj hlt z => q ⟨j, hj, hlt, z⟩⟩
    obtain ⟨k, a, b⟩ := hex
    obtain ⟨k, a, b, d⟩ := least k k (Nat.le_refl _) a b
    exact ⟨W ++ [k], e.ch.hd k, by rw [List.length_append, h1]; rfl, h2.step (by omega) a b d⟩
theorem FirstD.first {e : Me} (ok : e.ch.Ok) {ss : List Int} {r : List Nat} (h : FirstD e ss r) : SR e.ch r ∧ Sat e ss r ∧ ∀ r', SR e.ch r' → Sat e ss r' → r.length < r'.length ∨ (r.length = r'.length ∧ (r = r' ∨ Ls r r')) := by
  obtain ⟨L, st, l1, l2, l3, hL, hmin, hle⟩ := h
  have hlen := hL.1
  have hne : r ≠ [] := fun z => by
    rw [z, List.length_nil] at hlen
    omega
  have hge : ∀ r', SR e.ch r' → Sat e ss r' → L ≤ r'.length := fun r' h1 h2 => by
    obtain ⟨b1, b2, st', b3, b4⟩ := h1.bound ok
    refine Nat.le_of_not_lt fun z => ?_
    exact hmin _ b1 z st' b4 (SR.can b3 h2)
  have hnd : (r.map e.ch.tl).Nodup := Classical.byContradiction fun z => by
    obtain ⟨r2, g1, g2, _, g4⟩ := simple_of r.length r st (Nat.le_refl _) (wk_pt.mp hL.2.1).1 hne hL.2.2.1
    have := hge r2 g1 g2
    have := g4 z
    omega
  refine ⟨⟨hne, hnd, st, hL.2.1⟩, hL.2.2.1, fun r' h1 h2 => ?_⟩
  have h3 := hge r' h1 h2
  by_cases h4 : L < r'.length
  · exact .inl (by omega)
  · have h5 : r'.length = L := by omega
    refine .inr ⟨by omega, ?_⟩
    obtain ⟨b1, b2, st', b3, b4⟩ := h1.bound ok
    have hc := SR.can b3 h2
    obtain ⟨W, pl, w1, w2⟩ := LR.all hc _ (Nat.le_refl _)
    have hq := w2.fin w1
    rw [h5] at hq b4
    have h6 := hle st' b4 W hq
    have h7 := hq.2.2.2 r' h5 b3 h2
    rcases h6 with h6 | h6 <;> rcases h7 with h7 | h7
    · exact .inl (by rw [h6, h7])
    · exact .inr (by rw [h6]; exact h7)
    · exact .inr (by rw [h7]; exact h6)
    · exact .inr (h6.trans h7)
end Pa

set_option Elab.async false
set_option linter.all false
set_option maxRecDepth 100000
set_option maxHeartbeats 4000000
-- NOMAC
namespace Pa
/-! ### an even row -/
def hc (c : Ch) (k : Nat) : Int := c.cs.getD (c.hd k) 0
def wv (c : Ch) (o0 : List Int) (p : List Nat) (w : Nat) : Int := o0.getD w 0 + (p.map (hc c)).sum
structure Rx (c : Ch) (o0 : List Int) (t : Nat) (T : List Int) : Prop where
  len : T.length = c.cs.length
  so : ∀ v, v < c.cs.length → ∃ w p, w < c.cs.length ∧ Pt c v w p ∧ T.getD v 0 = wv c o0 p w
  up : ∀ v w p, v < c.cs.length → Pt c v w p → p.length ≤ t → T.getD v 0 ≤ wv c o0 p w
structure Ry (c : Ch) (o0 T : List Int) (j : Nat) (ov : List Int) : Prop where
  len : ov.length = c.cs.length
  so : ∀ v, v < c.cs.length → ∃ w p, w < c.cs.length ∧ Pt c v w p ∧ ov.getD v 0 = wv c o0 p w
  le : ∀ v, ov.getD v 0 ≤ T.getD v 0
  dn : ∀ k, k < j → ov.getD (c.tl k) 0 ≤ hc c k + T.getD (c.hd k) 0
theorem Rx.init {c : Ch} {o0 : List Int} (h : o0.length = c.cs.length) : Rx c o0 0 o0 := by
  refine ⟨h, fun v hv => ⟨v, [], hv, rfl, by simp [wv]⟩, fun v w p hv hp hl => ?_⟩
  have e := List.length_eq_zero_iff.mp (Nat.le_zero.mp hl)
  subst e
  have e : v = w := hp
  subst e
  simp [wv]
theorem Ry.init {c : Ch} {o0 T : List Int} {t : Nat} (h : Rx c o0 t T) : Ry c o0 T 0 T := ⟨h.len, h.so, fun _ => Int.le_refl _, fun k hk => absurd hk (Nat.not_lt_zero _)⟩
theorem Ry.step {c : Ch} (ok : c.Ok) {o0 T : List Int} {j : Nat} {ov : List Int} (h : Ry c o0 T j ov) (hj : j < c.ar.length) :
    Ry c o0 T (j + 1) (ov.set (c.tl j) (if hc c j + ov.getD (c.hd j) 0 < ov.getD (c.tl j) 0 then hc c j + ov.getD (c.hd j) 0 else ov.getD (c.tl j) 0)) := by
  have ht := ok.tl j hj
  have hh := ok.hd j hj
  have hl : c.tl j < ov.length := by rw [h.len]; exact ht
  refine ⟨by rw [List.length_set, h.len], fun v hv => ?_, fun v => ?_, fun k hk => ?_⟩
  · rw [getD_set' hl]
    by_cases e : v = c.tl j
    · rw [if_pos e]
      subst e
      split
      · obtain ⟨w, p, h1, h2, h3⟩ := h.so _ hh
        refine ⟨w, j :: p, h1, ⟨hj, rfl, h2⟩, ?_⟩
        rw [h3]
        unfold wv
        rw [List.map_cons, List.sum_cons]
        omega
      · exact h.so _ ht
    · rw [if_neg e]
      exact h.so v hv
  · rw [getD_set' hl]
    by_cases e : v = c.tl j
    · rw [if_pos e]
      subst e
      have := h.le (c.tl j)
      split
      · omega
      · exact this
    · rw [if_neg e]
      exact h.le v
  · rw [getD_set' hl]
    by_cases e : c.tl k = c.tl j
    · rw [if_pos e]
      by_cases ek : k = j
      · subst ek
        have := h.le (c.hd k)
        split <;> omega
      · have := h.dn k (by omega)
        rw [e] at this
        split <;> omega
    · rw [if_neg e]
      by_cases ek : k = j
      · subst ek
        exact absurd rfl e
      · exact h.dn k (by omega)
theorem Ry.fin {c : Ch} {o0 T ov : List Int} {t : Nat} (h : Rx c o0 t T) (y : Ry c o0 T c.ar.length ov) (hd : ∀ k, k < c.ar.length → c.hd k < c.cs.length) : Rx c o0 (t + 1) ov := by
  refine ⟨y.len, y.so, fun v w p hv hp hl => ?_⟩
  cases p with
  | nil => exact Int.le_trans (y.le v) (h.up v w [] hv hp (Nat.zero_le _))
  | cons k p =>
    obtain ⟨h1, h2, h3⟩ := hp
    have a := y.dn k h1
    have b := h.up _ w p (hd k h1) h3 (by rw [List.length_cons] at hl; omega)
    rw [h2] at a
    have e : wv c o0 (k :: p) w = hc c k + wv c o0 p w := by
      unfold wv
      rw [List.map_cons, List.sum_cons]
      omega
    rw [e]
    omega
theorem sum_nn {α : Type} {f : α → Int} : ∀ {l : List α}, (∀ x ∈ l, 0 ≤ f x) → 0 ≤ (l.map f).sum
  | [], _ => by simp
  | a :: r, h => by
    rw [List.map_cons, List.sum_cons]
    have := h a List.mem_cons_self
    have := sum_nn (l := r) fun x hx => h x (List.mem_cons_of_mem _ hx)
    omega
theorem shorten {c : Ch} (ok : c.Ok) (hn : ∀ k, k < c.ar.length → 0 ≤ hc c k) {o0 : List Int} {w : Nat} : ∀ (n : Nat) (p : List Nat) (v : Nat), p.length ≤ n → Pt c v w p → ∃ q, Pt c v w q ∧ q.length ≤ c.cs.length ∧ wv c o0 q w ≤ wv c o0 p w
  | 0, p, v, hl, hp => ⟨p, hp, by omega, Int.le_refl _⟩
  | n + 1, p, v, hl, hp => by
    by_cases nd : (p.map c.tl).Nodup
    · exact ⟨p, hp, hp.len ok nd, Int.le_refl _⟩
    · obtain ⟨a, b, d, x, h1, h2, h3, h4, h5, h6⟩ := hp.rep nd
      have la : p.length = a.length + (b.length + d.length) := by rw [h1, List.length_append, List.length_append]
      have lb : 0 < b.length := List.length_pos_iff.mpr h2
      obtain ⟨q, q1, q2, q3⟩ := shorten ok hn n (a ++ d) v (by rw [List.length_append]; omega) (h4.app h6)
      refine ⟨q, q1, q2, Int.le_trans q3 ?_⟩
      unfold wv
      rw [h1]
      simp only [List.map_append, List.sum_append]
      have := sum_nn (f := hc c) (l := b) fun k hk => hn k (h5.ar k hk)
      omega
theorem Rx.even {c : Ch} (ok : c.Ok) (hn : ∀ x ∈ c.cs, 0 ≤ x) {o0 T : List Int} (h : Rx c o0 c.cs.length T) {k : Nat} (hk : k < c.ar.length) : T.getD (c.tl k) 0 ≤ hc c k + T.getD (c.hd k) 0 := by
  have hn2 : ∀ k, k < c.ar.length → 0 ≤ hc c k := fun k hk => by
    unfold hc
    have := ok.hd k hk
    rw [List.getD_eq_getElem?_getD, List.getElem?_eq_getElem this]
    exact hn _ (List.getElem_mem this)
  obtain ⟨w, p, h1, h2, h3⟩ := h.so _ (ok.hd k hk)
  obtain ⟨q, q1, q2, q3⟩ := shorten (o0 := o0) ok hn2 (p.length + 1) (k :: p) (c.tl k) (Nat.le_refl _) ⟨hk, rfl, h2⟩
  have := h.up _ w q (ok.tl k hk) q1 q2
  have e : wv c o0 (k :: p) w = hc c k + wv c o0 p w := by
    unfold wv
    rw [List.map_cons, List.sum_cons]
    omega
  rw [h3]
  omega
theorem Rx.bd {c : Ch} (ok : c.Ok) (hn : ∀ x ∈ c.cs, 0 ≤ x) {o0 T : List Int} {t : Nat} (h : Rx c o0 t T) (h0 : ∀ x ∈ o0, 0 ≤ x ∧ x ≤ 1000000000) (hl : o0.length = c.cs.length) {v : Nat} (hv : v < c.cs.length) : 0 ≤ T.getD v 0 ∧ T.getD v 0 ≤ 1000000000 := by
  have g : ∀ w, w < c.cs.length → 0 ≤ o0.getD w 0 ∧ o0.getD w 0 ≤ 1000000000 := fun w hw => by
    have : w < o0.length := by omega
    rw [List.getD_eq_getElem?_getD, List.getElem?_eq_getElem this]
    exact h0 _ (List.getElem_mem this)
  obtain ⟨w, p, h1, h2, h3⟩ := h.so v hv
  have s := sum_nn (f := hc c) (l := p) fun k hk => by
    unfold hc
    have := ok.hd k (h2.ar k hk)
    rw [List.getD_eq_getElem?_getD, List.getElem?_eq_getElem this]
    exact hn _ (List.getElem_mem this)
  have u := h.up v v [] hv rfl (Nat.zero_le _)
  have e : wv c o0 [] v = o0.getD v 0 := by simp [wv]
  rw [e] at u
  have g1 := g w h1
  have g2 := g v hv
  unfold wv at h3
  omega
/-- leads that are even -/
structure Even (c : Ch) (L : List Int) : Prop where
  len : L.length = c.cs.length
  ch : ∀ k, k < c.ar.length → 0 ≤ L.getD (c.hd k) 0 - L.getD (c.tl k) 0 + c.cs.getD (c.tl k) 0 ∧ L.getD (c.hd k) 0 - L.getD (c.tl k) 0 + c.cs.getD (c.tl k) 0 ≤ 2000000000
  z : 0 ≤ L.getD 0 0 ∧ L.getD 0 0 ≤ 2000000000
end Pa

set_option Elab.async false
set_option linter.all false
set_option maxRecDepth 100000
set_option maxHeartbeats 4000000
namespace Pa
open PySem L2
local macro_rules | `(tactic| walk_at "lt") => `(tactic| first
  | assumption
  | omega
  | (simp only [List.length_map, List.length_range, List.length_cons, List.length_nil, List.length_append, List.length_replicate] at *; omega))
local macro_rules | `(tactic| walk_at "fo") => `(tactic| first | exact foc0 | (refine' focS ?k1; (case k1 => walk_at "fo")))
local macro_rules | `(tactic| walk_at "sq") => `(tactic| first
  | assumption
  | (refine' SqL.of ?k1; (case k1 => assumption))
  | (refine' SqT.of ?k1; (case k1 => assumption))
  | (refine' Or.inl ?k1; (case k1 => walk_at "sq"))
  | (refine' Or.inr ?k1; (case k1 => walk_at "sq"))
  | (refine' Same.seq ?k1 ?k2; (case k1 => assumption); (case k2 => walk_at "sq"))
  | (refine' Same.sqt ?k1 ?k2; (case k1 => assumption); (case k2 => walk_at "sq"))
  | (refine' Same.sqe ?k1 ?k2; (case k1 => assumption); (case k2 => walk_at "sq"))
  | (refine' same_at ?k1 ?k2; (case k1 => assumption); (case k2 => walk_at "sq")))
local macro_rules | `(tactic| walk_at "ai") => `(tactic| first
  | assumption
  | (refine' ati_ints ?k1; (case k1 => walk_at "lt"))
  | (refine' ati_refs ?k1; (case k1 => walk_at "lt"))
  | (refine' ati_nat ?k1; (case k1 => assumption))
  | k_dflt rfl)
local macro_rules | `(tactic| walk_at "lk") => `(tactic| first
  | assumption
  | exact lk_hd
  | (refine' lk_tl ?k1 ?k2; (case k1 => decide +kernel); (case k2 => walk_at "lk"))
  | exact lk_nil)
local macro_rules | `(tactic| walk_at "sz") => `(tactic| first
  | exact small_sz (by simp only [List.length_cons, List.length_nil, List.length_append, List.length_map, List.length_range, List.length_set, List.length_replicate]; omega))
local macro_rules | `(tactic| walk_at "cc") => `(tactic| first
  | (show (0 : Int) < _; first | decide | omega)
  | exact Or.inl ⟨by omega, by omega⟩
  | exact Or.inr ⟨by omega, by omega⟩
  | exact ⟨by decide, by decide, by decide⟩
  | exact ⟨by decide, by decide⟩)
local macro_rules | `(tactic| walk_at "st") => `(tactic| first
  | with_reducible refine w_seq ?_
  | with_reducible refine w_asg ?_
  | ((with_reducible refine' w_var ?k1 ?_); (case k1 => k_dflt rfl))
  | with_reducible refine w_c ?_
  | with_reducible refine w_op ?_
  | with_reducible refine w_cons ?_
  | with_reducible refine w_nil ?_
  | with_reducible refine w_gname ?_
  | with_reducible refine w_I0 ?_
  | with_reducible refine w_fld ?_
  | ((with_reducible refine' w_ins ?k1 ?k2 ?k3 ?k4 ?k5 ?_); (case k1 => assumption); (case k2 => walk_at "sq"); (case k3 => assumption); (case k4 => assumption); (case k5 => walk_at "lk"))
  | ((with_reducible refine' w_ixT ?k1 ?k2 ?k3 ?_); (case k1 => assumption); (case k2 => walk_at "sq"); (case k3 => walk_at "ai"))
  | ((with_reducible refine' w_ixL ?k1 ?k2 ?k3 ?_); (case k1 => assumption); (case k2 => walk_at "sq"); (case k3 => walk_at "ai"))
  | ((with_reducible refine' w_ixM ?k1 ?k2 ?k3 ?_); (case k1 => assumption); (case k2 => walk_at "fo"); (case k3 => walk_at "ai"))
  | with_reducible refine w_cb ?_
  | with_reducible refine w_test ?_
  | with_reducible refine w_if ?_
  | with_reducible refine w_B ?_
  | with_reducible refine w_not ?_
  | with_reducible refine w_and ?_
  | with_reducible refine w_or ?_
  | with_reducible refine w_eqI ?_
  | with_reducible refine w_neI ?_
  | with_reducible refine w_isN ?_
  | with_reducible refine w_notN ?_
  | with_reducible refine w_isB ?_
  | with_reducible refine w_bl ?_
  | with_reducible refine w_ret ?_
  | with_reducible refine w_next ?_
  | with_reducible refine w_brk ?_
  | with_reducible refine w_drop ?_
  | with_reducible refine w_call ?_
  | with_reducible refine w_un ?_
  | with_reducible refine w_U ?_
  | with_reducible refine w_andV ?_
  | with_reducible refine w_orV ?_
  | with_reducible refine w_notV ?_
  | with_reducible refine w_ifE ?_
  | with_reducible refine w_chain ?_
  | with_reducible refine w_gsub ?_
  | with_reducible refine w_gnil ?_
  | with_reducible refine w_gcons ?_
  | with_reducible refine w_ipI ?_
  | with_reducible refine w_fldS ?_
  | with_reducible refine w_tru ?_
  | with_reducible refine w_abs ?_
  | with_reducible refine w_maxB ?_
  | with_reducible refine w_minB ?_
  | with_reducible refine w_int ?_
  | with_reducible refine w_tupE ?_
  | with_reducible refine w_lstE ?_
  | with_reducible refine w_bm ?_
  | with_reducible refine w_bm0 ?_
  | with_reducible refine w_mth ?_
  | with_reducible refine w_for0 ?_
  | with_reducible refine w_lc0 ?_
  | with_reducible refine w_il ?_
  | with_reducible refine w_it ?_
  | with_reducible refine w_is ?_
  | with_reducible refine w_ie ?_
  | with_reducible refine w_ir1 ?_
  | with_reducible refine w_ir2 ?_
  | with_reducible refine w_irv ?_
  | with_reducible refine w_rg1 ?_
  | with_reducible refine w_rg1v ?_
  | with_reducible refine w_lrg ?_
  | with_reducible refine w_make ?_
  | with_reducible refine w_yes ?_
  | with_reducible refine w_ost ?_
  | with_reducible refine w_mkoE ?_
  | with_reducible refine w_is_int_int ?_
  | with_reducible refine w_is_int_bool ?_
  | with_reducible refine w_is_int_str ?_
  | with_reducible refine w_is_int_tuple ?_
  | with_reducible refine w_is_bl_int ?_
  | with_reducible refine w_is_bl_bool ?_
  | with_reducible refine w_is_bl_str ?_
  | with_reducible refine w_is_bl_tuple ?_
  | with_reducible refine w_is_non_int ?_
  | with_reducible refine w_is_non_bool ?_
  | with_reducible refine w_is_non_str ?_
  | with_reducible refine w_is_non_tuple ?_
  | with_reducible refine w_is_str_int ?_
  | with_reducible refine w_is_str_bool ?_
  | with_reducible refine w_is_str_str ?_
  | with_reducible refine w_is_str_tuple ?_
  | ((with_reducible refine' w_insM ?k1 ?k2 ?k3 ?k4 ?k5 ?_); (case k1 => assumption); (case k2 => walk_at "fo"); (case k3 => assumption); (case k4 => assumption); (case k5 => walk_at "lk"))
  | ((with_reducible refine' w_ixE ?k1 ?k2 ?k3 ?_); (case k1 => assumption); (case k2 => walk_at "sq"); (case k3 => walk_at "ai"))
  | ((with_reducible refine' w_len ?k1 ?k2 ?_); (case k1 => assumption); (case k2 => walk_at "sq"))
  | ((with_reducible refine' w_lenM ?k1 ?k2 ?_); (case k1 => assumption); (case k2 => walk_at "fo"))
  | ((with_reducible refine' w_I ?k1 ?_); (case k1 => walk_at "cc"))
  | ((with_reducible refine' w_gtup ?k1 ?k2 ?_); (case k1 => refine' Mem.sqt ?m0 ?h0; (case m0 => assumption); (case h0 => walk_at "sq")); (case k2 => k_dflt rfl))
  | ((with_reducible refine' w_aug ?k1 ?_); (case k1 => k_dflt rfl))
  | ((with_reducible refine' w_truM ?k1 ?k2 ?_); (case k1 => assumption); (case k2 => walk_at "fo"))
  | ((with_reducible refine' w_truL ?k1 ?k2 ?_); (case k1 => assumption); (case k2 => walk_at "sq"))
  | ((with_reducible refine' w_tyL ?k1 ?k2 ?_); (case k1 => assumption); (case k2 => walk_at "fo"))
  | ((with_reducible refine' w_mthI ?k1 ?k2 ?k3 ?_); (case k1 => assumption); (case k2 => walk_at "sq"); (case k3 => walk_at "lk"))
  | ((with_reducible refine' w_sumM ?k1 ?k2 ?_); (case k1 => assumption); (case k2 => walk_at "fo"))
  | ((with_reducible refine' w_eqDN ?k1 ?k2 ?k3 ?_); (case k1 => assumption); (case k2 => walk_at "sq"); (case k3 => walk_at "sq"))
  | ((with_reducible refine' w_is_tup_int ?k1 ?k2 ?_); (case k1 => assumption); (case k2 => walk_at "sq"))
  | ((with_reducible refine' w_is_tup_bool ?k1 ?k2 ?_); (case k1 => assumption); (case k2 => walk_at "sq"))
  | ((with_reducible refine' w_is_tup_str ?k1 ?k2 ?_); (case k1 => assumption); (case k2 => walk_at "sq"))
  | ((with_reducible refine' w_is_tup_tuple ?k1 ?k2 ?_); (case k1 => assumption); (case k2 => walk_at "sq"))
  | dsimp only)
local macro_rules | `(tactic| walk_at "go") => `(tactic| repeat (walk_at "st"))
section
variable {P : Program} {w : World} {K : PySem.W.Frag} {mg : Str → Option Value} {base : Heap} {C : Ad}
abbrev N_law_even_row : List Str := ["_law_hand_here", "_law_chart_here", "_law_top", "_law_over", "_law_turn", "_law_arrow", "_law_leads", "_law_less", "_law_cost_here", "_law_place", "_law_lead"]
abbrev P_law_even_row : List Str := ["_law_hand_here", "_law_chart_here"]
theorem sc_law_even_row : FnScope N_law_even_row P_law_even_row (defScope S_law_even_row) := ⟨rfl, rfl, rfl, by decide +kernel, rfl, by decide +kernel, by decide +kernel⟩
-- slots: 0 _law_hand_here (cell), 1 _law_chart_here (cell), 2 _law_top (cell), 3 _law_over (cell), 4 _law_turn, 5 _law_arrow, 6 _law_leads, 7 _law_less (cell), 8 _law_cost_here, 9 _law_place, 10 _law_lead
def spEven (K : PySem.W.Frag) : Sp := spM fun vs I M R => ∃ (h a : Addr) (o : HO) (M0 : Mu) (c : Ch), vs = [.ref h, .ref a] ∧ M = (h, o) :: M0 ∧ Hand K I o ∧ CtAt K I a c ∧ c.Fit ∧
  R = fun v N M' => ∃ t L o', v = .ref t ∧ N t = some (.lst (iv L)) ∧ Even c L ∧ M' = (h, o') :: M0 ∧ Hand K N o'
theorem ok_law_even_row {f : Addr} {fd : FuncData} (F : FnP K "_law_even_row" "_law_even_row" S_law_even_row f fd) (T : Txt K mg C) (G_law_draw : FnAt P w K mg base "_law_draw" 2 P_law_draw (spDraw K)) : FnOk P w K mg base CX0 3 f fd P_law_even_row (spEven K) := by
  have nd := sc_law_even_row.nd
  refine F.ok sc_law_even_row (fun vs H Q E h => ?_) (fun cdv A outer s H vs Q E hr h => ?_)
  · obtain ⟨I, M, R, ⟨h, a, o, M0, c, rfl, _⟩, _⟩ := h
    rfl
  obtain ⟨I, M, R, ⟨h, a, o, M0, c, rfl, rfl, ho, ⟨pa, ra, as, h1, h2, h3, h4⟩, fit, rfl⟩, hm, k⟩ := h
  have ok := fit.ok
  have n16 := ok.n16
  have n1 := ok.n1
  have m32 := ok.m32
  have e9 : (10 : Int) ^ (9 : Int).toNat = 1000000000 := by decide
  have lcs : (iv c.cs).length = c.cs.length := List.length_map _
  refine ⟨_, PSs.nox (pss_cons (ps_set (i := 2) nd rfl (Or.inr rfl) (pe_ix ix_list (pe_lst (pa_cons pe_int (pa_cons pe_int (pa_cons pe_int (pa_cons (pe_op op_pow pe_int pe_int) pa_nil))))) (pe_fn G_law_draw (hr.mono (by decide)) (pa_cons (pv 0) (pa_cons pe_int pa_nil))) (fun _ _ => rfl)))
    (pss_cons (ps_set (i := 3) nd rfl (Or.inr rfl) (pe_lc (own := [("_law_cost_here", 8)]) (g := (gName 8)) (tt := tYes) (te := (tCall (spDraw K) [] E0 (tCons (tVar 0) (tCons (tOp (rI0 fun i j => .int (i + j)) (tVar 2) (tC (.int 1))) tNil)))) rfl nd (pi_tup (pe_ix ix_list (pv 1) pe_int (fun _ _ => rfl))) (blkOk_by (N := N_law_even_row) (sc := defScope S_law_even_row) (by decide +kernel)) (fun _ _ _ _ _ => (pg_name (i := 8) nd rfl (Or.inl rfl))) (fun _ _ _ _ _ => pts_nil) (fun _ _ _ _ _ => (pe_fn G_law_draw (hr.mono (by decide)) (pa_cons (pv 0) (pa_cons (pe_op op_add (pv 2) pe_int) pa_nil))))))
    (pss_cons (ps_for PassesOwn.never rfl (pi_range1 rfl T.b_range (pa_cons (pe_callB cl_len (by rfl) T.b_len PySem.boot_len (pa_cons (pe_ix ix_list (pv 1) pe_int (fun _ _ => rfl)) pa_nil)) pa_nil)) (pg_name (i := 4) nd rfl (Or.inl rfl))
      (pss_one (ps_for PassesOwn.never rfl (pi_tup (pe_ix ix_list (pv 1) pe_int (fun _ _ => rfl))) (pg_name (i := 5) nd rfl (Or.inl rfl))
        (pss_one (ps_asg (pe_callB (cl_min rfl) (by rfl) T.b_min PyProof.Rows.boot_min (pa_cons (pe_ix ix_list (pv 3) (pe_ix ix_tup (pv 5) pe_int (fun _ _ => rfl)) (fun _ _ => rfl)) (pa_cons (pe_op op_add (pe_ix ix_tup (pe_ix ix_list (pv 1) pe_int (fun _ _ => rfl)) (pe_ix ix_tup (pv 5) pe_int (fun _ _ => rfl)) (fun _ _ => rfl)) (pe_ix ix_list (pv 3) (pe_ix ix_tup (pv 5) pe_int (fun _ _ => rfl)) (fun _ _ => rfl))) pa_nil))) (pg_sub (pv 3) (pe_ix ix_tup (pv 5) pe_int (fun _ _ => rfl)) set_list))))))
    (pss_cons (ps_setLc (i := 6) (own := [("_law_place", 9)]) (g := (gName 9)) (tt := tYes) (te := (tOp (rI0 fun i j => .int (i + j)) (tOp (rIxT K) (tOp (rIxL K) (tVar 1) (tC (.int 0))) (tVar 9)) (tOp (rIxL K) (tVar 3) (tVar 9)))) rfl nd rfl rfl (sw_true rfl rfl rfl (by decide +kernel)) (pi_range1 rfl T.b_range (pa_cons (pe_callB cl_len (by rfl) T.b_len PySem.boot_len (pa_cons (pv 3) pa_nil)) pa_nil)) (blkOk_by (N := N_law_even_row) (sc := defScope S_law_even_row) (by decide +kernel)) (fun _ _ _ _ _ => (pg_name (i := 9) nd rfl (Or.inl rfl))) (fun _ _ _ _ _ => pts_nil) (fun _ _ _ _ _ => (pe_op op_add (pe_ix ix_tup (pe_ix ix_list (pv 1) pe_int (fun _ _ => rfl)) (pv 9) (fun _ _ => rfl)) (pe_ix ix_list (pv 3) (pv 9) (fun _ _ => rfl)))))
    (pss_cons (ps_set (i := 7) nd rfl (Or.inr rfl) (pe_ifExp (pt_cmpR op_eq (pe_fn G_law_draw (hr.mono (by decide)) (pa_cons (pv 0) (pa_cons pe_int pa_nil))) pe_int (nomark _)) (pe_fn G_law_draw (hr.mono (by decide)) (pa_cons (pv 0) (pa_cons (pe_op op_add (pe_ix ix_list (pv 6) pe_int (fun _ _ => rfl)) pe_int) pa_nil))) pe_int))
    (pss_one (ps_ret (pe_lc (own := [("_law_lead", 10)]) (g := (gName 10)) (tt := tYes) (te := (tOp (rI0 fun i j => .int (i - j)) (tVar 10) (tVar 7))) rfl nd (pi_list (pv 6)) (blkOk_by (N := N_law_even_row) (sc := defScope S_law_even_row) (by decide +kernel)) (fun _ _ _ _ _ => (pg_name (i := 10) nd rfl (Or.inl rfl))) (fun _ _ _ _ _ => pts_nil) (fun _ _ _ _ _ => (pe_op op_sub (pv 10) (pv 7))))))))))), ?_⟩
  try dsimp only [cxOf, Cx.nox, Cx.wish]
  walk_at "go"
  rw [e9]
  refine w_lstI hm (by walk_at "sz") fun p1 N1 H1 eN1 hp1 hm1 => ?_
  walk_at "go"
  refine w_spM hm1 ⟨h, o, M0, 4, rfl, rfl, ho.mono eN1, by decide, by decide, rfl⟩ fun v N2 M' H2 eN2 hm2 hR => ?_
  obtain ⟨d, o2, rfl, hd, rfl, ho2⟩ := hR
  have ai : atI [V.int 1, .int 4, .int 9, .int 1000000000] ((d : Nat) : Int) = some (.int ((([1, 4, 9, 1000000000] : List Nat).getD d 0 : Nat) : Int)) := ati_nats (ns := [1, 4, 9, 1000000000]) hd
  have hb := nlit_get (P := fun c : Nat => c ≤ 1000000000) (xs := [1, 4, 9, 1000000000]) (by decide) hd
  generalize ([1, 4, 9, 1000000000] : List Nat).getD d 0 = top at ai hb
  walk_at "go"
  have eI2 := eN1.trans eN2
  have h1b : SqL K N2 a [.ref pa, .ref ra] := eI2.seq h1
  have h2b : SqT K N2 pa (iv c.cs) := Same.sqt eI2 h2
  have h3b : SqT K N2 ra (as.map V.ref) := Same.sqt eI2 h3
  have h4b := h4.mono eI2
  clear ai hp1 eN1 eN2 h1 h2 h3 h4 hm hm1 ho
  have eQ := eI2
  clear eI2
  walk_at "go"
  refine w_itt hm2 h2b fun J wk => ?_
  refine w_lcGA wk hm2 (fun j acc N M' => ∃ o cs, acc = iv cs ∧ cs.length = j ∧ (∀ x ∈ cs, 0 ≤ x ∧ x ≤ 1000000000) ∧ M' = (h, o) :: M0 ∧ Hand K N o)
    ⟨o2, [], rfl, rfl, (fun x hx => nomatch hx), rfl, ho2⟩ (fun j x D acc N3 M' H3 Yes No hj hx eN3 hPv hm3 hyes hno => ?_) fun po acc N3 M' H3 eN3 hPv hm3 => ?_
  · obtain ⟨o3, cs, rfl, hcl, hcb, rfl, ho3⟩ := hPv
    obtain ⟨z, hz, rfl⟩ := iv_get hx
    have et : (top : Int) + 1 = ((top + 1 : Nat) : Int) := by omega
    walk_at "go"
    refine ⟨rfl, ?_⟩
    walk_at "go"
    refine iteT ?_
    walk_at "go"
    rw [et]
    refine w_spM hm3.swap ⟨h, o3, _, top + 1, rfl, rfl, ho3, by omega, by omega, rfl⟩ fun v N4 M' H4 eN4 hm4 hR => ?_
    obtain ⟨dd, o4, rfl, hdd, rfl, ho4⟩ := hR
    refine hyes _ _ _ _ (eN3.trans eN4) ⟨o4, cs ++ [((dd : Nat) : Int)], by rw [iv, iv, List.map_append]; rfl, by rw [List.length_append, hcl]; rfl, fun x hx => ?_, rfl, ho4⟩ (small_sl (by rw [List.length_map]; rw [lcs] at hj; omega)) hm4.swap
    rcases List.mem_append.mp hx with hx | hx
    · exact hcb x hx
    · rw [List.mem_singleton.mp hx]
      omega
  · obtain ⟨o3, o0, rfl, hol, hob, rfl, ho3⟩ := hPv
    rw [lcs] at hol
    have hm3 := hm3.swap
    have h1c : SqL K N3 a [.ref pa, .ref ra] := eN3.seq h1b
    have h2c : SqT K N3 pa (iv c.cs) := Same.sqt eN3 h2b
    have h3c : SqT K N3 ra (as.map V.ref) := Same.sqt eN3 h3b
    have h4c := h4b.mono eN3
    have eW := eQ.trans eN3
    clear h1b h2b h3b h4b eQ eN3 hm2 ho2
    walk_at "go"
    rw [lcs]
    refine w_irr1 (by omega) fun J wk => ?_
    refine w_forZ wk hm3 (fun i σ N M' => ∃ T s4 s5, σ = [some (.ref h), some (.ref a), some (.int (top : Int)), some (.ref po), s4, s5, none, none, none, none, none] ∧ M' = (h, o3) :: (po, .lst (iv T)) :: M0 ∧ Rx c o0 i T)
      ⟨o0, none, none, rfl, rfl, Rx.init hol⟩ ?_ ?_
    · rintro i _ N4 _ H4 hi eN4 ⟨T, s4, s5, rfl, rfl, hT⟩ hm4
      walk_at "go"
      refine w_itt hm4 (Same.sqt eN4 h3c) fun J2 wk2 => ?_
      refine w_for wk2 hm4 (fun j σ N M' => ∃ ov s5, σ = [some (.ref h), some (.ref a), some (.int (top : Int)), some (.ref po), some (.int (i : Int)), s5, none, none, none, none, none] ∧ M' = (h, o3) :: (po, .lst (iv ov)) :: M0 ∧ Ry c o0 T j ov)
        ⟨T, s5, rfl, rfl, Ry.init hT⟩ ?_ ?_
      · rintro j x _ N5 _ H5 hj hx eN5 ⟨ov, s5, rfl, rfl, hov⟩ hm5
        rw [List.length_map] at hj
        have hj2 : j < c.ar.length := by rw [← h4c.1]; exact hj
        have ex : x = .ref (as.getD j 0) := by
          obtain ⟨t, ht, rfl⟩ := refs_get hx
          rw [List.getD_eq_getElem?_getD, ht]
          rfl
        subst ex
        have hpj : SqT K N5 (as.getD j 0) [.int ((c.tl j : Nat) : Int), .int ((c.hd j : Nat) : Int)] := (h4c.mono (eN4.trans eN5)).2 j hj2
        have eR := eN5
        have eZ := eN4.trans eN5
        clear eN4 eN5
        have eZ2 := eZ
        have ht := ok.tl j hj2
        have hh := ok.hd j hj2
        have ai1 : atI (iv ov) ((c.tl j : Nat) : Int) = some (.int (ov.getD (c.tl j) 0)) := ati_ints (by rw [hov.len]; exact ht)
        have ai2 : atI (iv ov) ((c.hd j : Nat) : Int) = some (.int (ov.getD (c.hd j) 0)) := ati_ints (by rw [hov.len]; exact hh)
        have ai3 : atI (iv c.cs) ((c.hd j : Nat) : Int) = some (.int (c.cs.getD (c.hd j) 0)) := ati_ints hh
        walk_at "go"
        refine w_setL hm5 (focS foc0) (ixn_nat (by rw [List.length_map, hov.len]; exact ht)) fun H6 hm6 => ?_
        rw [iv_set] at hm6
        exact ⟨_, _, eR, ⟨_, _, rfl, rfl, hov.step ok hj2⟩, hm6⟩
      · rintro _ N5 _ H5 eN5 ⟨ov, s5, rfl, rfl, hov⟩ hm5
        rw [List.length_map, h4c.1] at hov
        exact ⟨_, _, eN4.trans eN5, ⟨ov, _, _, rfl, rfl, hov.fin hT ok.hd⟩, hm5⟩
    · rintro _ N4 _ H4 eN4 ⟨T, s4, s5, rfl, rfl, hT⟩ hm4
      have h1d : SqL K N4 a [.ref pa, .ref ra] := eN4.seq h1c
      have h2d : SqT K N4 pa (iv c.cs) := Same.sqt eN4 h2c
      have ho4 := ho3.mono eN4
      have eX := eW.trans eN4
      clear h1c h2c h3c h4c eW eN4 hm3 ho3
      have lT : (iv T).length = c.cs.length := by rw [List.length_map, hT.len]
      walk_at "go"
      rw [lT]
      refine w_irr1 (by omega) fun J2 wk2 => ?_
      refine w_lcR wk2 hm4 (fun j => .int (c.cs.getD j 0 + T.getD j 0)) (fun _ => true) (by omega) (fun j D acc H' Yes No hj hm' hyes hno => ?_) fun D H5 hm5 => ?_
      · have ai1 : atI (iv T) ((j : Nat) : Int) = some (.int (T.getD j 0)) := ati_ints (by rw [hT.len]; exact hj)
        have ai3 : atI (iv c.cs) ((j : Nat) : Int) = some (.int (c.cs.getD j 0)) := ati_ints hj
        walk_at "go"
        refine ⟨rfl, ?_⟩
        walk_at "go"
        refine iteT ?_
        walk_at "go"
        exact hyes rfl _ hm'
      · have eL : (((List.range c.cs.length).filter fun _ => true).map fun j => V.int (c.cs.getD j 0 + T.getD j 0)) = iv ((List.range c.cs.length).map fun j => c.cs.getD j 0 + T.getD j 0) := by
          rw [List.filter_eq_self.mpr fun _ _ => rfl, iv, List.map_map]
          rfl
        rw [eL] at hm5
        have gL : ∀ j, j < c.cs.length → ((List.range c.cs.length).map fun j => c.cs.getD j 0 + T.getD j 0).getD j 0 = c.cs.getD j 0 + T.getD j 0 := fun j hj => by
          rw [List.getD_eq_getElem?_getD, List.getElem?_map, List.getElem?_range hj]
          rfl
        have lL : ((List.range c.cs.length).map fun j => c.cs.getD j 0 + T.getD j 0).length = c.cs.length := by rw [List.length_map, List.length_range]
        generalize ((List.range c.cs.length).map fun j => c.cs.getD j 0 + T.getD j 0) = L at hm5 gL lL
        have cb : ∀ j, j < c.cs.length → 0 ≤ c.cs.getD j 0 ∧ c.cs.getD j 0 ≤ 1000000000 := fun j hj => by
          rw [List.getD_eq_getElem?_getD, List.getElem?_eq_getElem hj]
          exact fit.cs _ (List.getElem_mem hj)
        have tb : ∀ j, j < c.cs.length → 0 ≤ T.getD j 0 ∧ T.getD j 0 ≤ 1000000000 := fun j hj => hT.bd ok (fun x hx => (fit.cs x hx).1) hob hol hj
        have ev : ∀ k, k < c.ar.length → T.getD (c.tl k) 0 ≤ c.cs.getD (c.hd k) 0 + T.getD (c.hd k) 0 := fun k hk => hT.even ok (fun x hx => (fit.cs x hx).1) hk
        have g0 := gL 0 n1
        have c0 := cb 0 n1
        have t0 := tb 0 n1
        have fin : ∀ (z : Int), 0 ≤ z → z ≤ L.getD 0 0 → Even c (L.map fun x => x - z) := fun z z1 z2 => by
          have gz : ∀ j, j < c.cs.length → (L.map fun x => x - z).getD j 0 = L.getD j 0 - z := fun j hj => by
            rw [List.getD_eq_getElem?_getD, List.getElem?_map, List.getElem?_eq_getElem (by omega), List.getD_eq_getElem?_getD, List.getElem?_eq_getElem (by omega)]
            rfl
          refine ⟨by rw [List.length_map, lL], fun k hk => ?_, ?_⟩
          · have b1 := ok.tl k hk
            have b2 := ok.hd k hk
            rw [gz _ b1, gz _ b2, gL _ b1, gL _ b2]
            have := ev k hk
            have := cb _ b2
            have := tb _ b1
            have := tb _ b2
            omega
          · rw [gz 0 n1]
            omega
        have hm5 := hm5.swap
        have last : ∀ (z : Int) (σ : L2.St) (o : HO) (N : Hp) (H : Hp), 0 ≤ z → z ≤ L.getD 0 0 → Same N4 N → Hand K N o → Mem N ((h, o) :: (D, .lst (iv L)) :: (po, .lst (iv T)) :: M0) H → σ = [some (.ref h), some (.ref a), some (.int (top : Int)), some (.ref po), s4, s5, some (.ref D), some (.int z), none, none, none] →
            riL K (fun J H1 => rLc (gName 10) tYes (tOp (rI0 fun i j => V.int (i - j)) (tVar 10) (tVar 7)) (List.map (fun x => x.snd) [(("_law_lead" : Str), 10)]) σ Q J H1) (.ref D) H := fun z σ o N H z1 z2 e hO hmm es => by
          subst es
          refine w_frz (hmm.swap) fun N' eN' hD hm7 => ?_
          refine w_ill hm7 (SqL.of hD) fun J3 wk3 => ?_
          refine w_lcA wk3 hm7 (fun j => .int (L.getD j 0 - z)) (fun _ => true) (by rw [List.length_map]; omega) (fun j x D2 acc H' Yes No hj hx hm' hyes hno => ?_) fun D2 H8 hm8 => ?_
          · obtain ⟨y, hy, rfl⟩ := iv_get hx
            have ey : L.getD j 0 = y := by rw [List.getD_eq_getElem?_getD, hy]; rfl
            rw [ey] at hyes
            walk_at "go"
            refine ⟨rfl, ?_⟩
            walk_at "go"
            refine iteT ?_
            walk_at "go"
            exact hyes rfl _ hm'
          · have eL2 : (((List.range (iv L).length).filter fun _ => true).map fun j => V.int (L.getD j 0 - z)) = iv (L.map fun x => x - z) := by
              rw [List.filter_eq_self.mpr fun _ _ => rfl, List.length_map]
              refine List.ext_getElem? fun i => ?_
              rw [iv, List.getElem?_map, List.getElem?_map, List.getElem?_map]
              by_cases h : i < L.length
              · rw [List.getElem?_range h, List.getElem?_eq_getElem h]
                simp [List.getD_eq_getElem?_getD, List.getElem?_eq_getElem h]
              · rw [List.getElem?_eq_none (by rw [List.length_range]; omega), List.getElem?_eq_none (by omega)]
                rfl
            rw [eL2] at hm8
            refine w_frz hm8 fun N9 eN9 hD9 hm9 => ?_
            exact k _ _ _ _ (eX.trans (e.trans (eN'.trans eN9))) hm9.swap.drop ⟨D2, _, o, rfl, hD9, fin z z1 z2, rfl, hO.mono (eN'.trans eN9)⟩
        walk_at "go"
        refine w_spM hm5 ⟨h, o3, _, 4, rfl, rfl, ho4, by decide, by decide, rfl⟩ fun v N6 M' H6 eN6 hm6 hR => ?_
        obtain ⟨d6, o6, rfl, hd6, rfl, ho6⟩ := hR
        walk_at "go"
        refine w_ite (fun hz => ?_) fun hz => ?_
        · have ai0 : atI (iv L) 0 = some (.int (L.getD 0 0)) := ati_ints (k := 0) (by omega)
          obtain ⟨l0, hl0⟩ := Int.eq_ofNat_of_zero_le (show 0 ≤ L.getD 0 0 by omega)
          rw [hl0] at ai0
          walk_at "go"
          have el : (l0 : Int) + 1 = ((l0 + 1 : Nat) : Int) := by omega
          rw [el]
          refine w_spM hm6 ⟨h, o6, _, l0 + 1, rfl, rfl, ho6, by omega, by omega, rfl⟩ fun v N7 M' H7 eN7 hm7 hR => ?_
          obtain ⟨d7, o7, rfl, hd7, rfl, ho7⟩ := hR
          walk_at "go"
          exact last _ _ o7 _ _ (by omega) (by omega) (eN6.trans eN7) ho7 hm7 rfl
        · walk_at "go"
          exact last 0 _ o6 _ _ (Int.le_refl _) (by omega) eN6 ho6 hm6 rfl
end

end Pa

set_option Elab.async false
set_option linter.all false
set_option maxRecDepth 100000
set_option maxHeartbeats 4000000
namespace Pa
open PySem L2
local macro_rules | `(tactic| walk_at "lt") => `(tactic| first
  | assumption
  | omega
  | (simp only [List.length_map, List.length_range, List.length_cons, List.length_nil, List.length_append, List.length_replicate] at *; omega))
local macro_rules | `(tactic| walk_at "fo") => `(tactic| first | exact foc0 | (refine' focS ?k1; (case k1 => walk_at "fo")))
local macro_rules | `(tactic| walk_at "sq") => `(tactic| first
  | assumption
  | (refine' SqL.of ?k1; (case k1 => assumption))
  | (refine' SqT.of ?k1; (case k1 => assumption))
  | (refine' Or.inl ?k1; (case k1 => walk_at "sq"))
  | (refine' Or.inr ?k1; (case k1 => walk_at "sq"))
  | (refine' Same.seq ?k1 ?k2; (case k1 => assumption); (case k2 => walk_at "sq"))
  | (refine' Same.sqt ?k1 ?k2; (case k1 => assumption); (case k2 => walk_at "sq"))
  | (refine' Same.sqe ?k1 ?k2; (case k1 => assumption); (case k2 => walk_at "sq"))
  | (refine' same_at ?k1 ?k2; (case k1 => assumption); (case k2 => walk_at "sq")))
local macro_rules | `(tactic| walk_at "ai") => `(tactic| first
  | assumption
  | (refine' ati_ints ?k1; (case k1 => walk_at "lt"))
  | (refine' ati_refs ?k1; (case k1 => walk_at "lt"))
  | (refine' ati_nat ?k1; (case k1 => assumption))
  | k_dflt rfl)
local macro_rules | `(tactic| walk_at "lk") => `(tactic| first
  | assumption
  | exact lk_hd
  | (refine' lk_tl ?k1 ?k2; (case k1 => decide +kernel); (case k2 => walk_at "lk"))
  | exact lk_nil)
local macro_rules | `(tactic| walk_at "sz") => `(tactic| first
  | exact small_sz (by simp only [List.length_cons, List.length_nil, List.length_append, List.length_map, List.length_range, List.length_set, List.length_replicate]; omega))
local macro_rules | `(tactic| walk_at "cc") => `(tactic| first
  | (show (0 : Int) < _; first | decide | omega)
  | exact Or.inl ⟨by omega, by omega⟩
  | exact Or.inr ⟨by omega, by omega⟩
  | exact ⟨by decide, by decide, by decide⟩
  | exact ⟨by decide, by decide⟩)
local macro_rules | `(tactic| walk_at "st") => `(tactic| first
  | with_reducible refine w_seq ?_
  | with_reducible refine w_asg ?_
  | ((with_reducible refine' w_var ?k1 ?_); (case k1 => k_dflt rfl))
  | with_reducible refine w_c ?_
  | with_reducible refine w_op ?_
  | with_reducible refine w_cons ?_
  | with_reducible refine w_nil ?_
  | with_reducible refine w_gname ?_
  | with_reducible refine w_I0 ?_
  | with_reducible refine w_fld ?_
  | ((with_reducible refine' w_ins ?k1 ?k2 ?k3 ?k4 ?k5 ?_); (case k1 => assumption); (case k2 => walk_at "sq"); (case k3 => assumption); (case k4 => assumption); (case k5 => walk_at "lk"))
  | ((with_reducible refine' w_ixT ?k1 ?k2 ?k3 ?_); (case k1 => assumption); (case k2 => walk_at "sq"); (case k3 => walk_at "ai"))
  | ((with_reducible refine' w_ixL ?k1 ?k2 ?k3 ?_); (case k1 => assumption); (case k2 => walk_at "sq"); (case k3 => walk_at "ai"))
  | ((with_reducible refine' w_ixM ?k1 ?k2 ?k3 ?_); (case k1 => assumption); (case k2 => walk_at "fo"); (case k3 => walk_at "ai"))
  | with_reducible refine w_cb ?_
  | with_reducible refine w_test ?_
  | with_reducible refine w_if ?_
  | with_reducible refine w_B ?_
  | with_reducible refine w_not ?_
  | with_reducible refine w_and ?_
  | with_reducible refine w_or ?_
  | with_reducible refine w_eqI ?_
  | with_reducible refine w_neI ?_
  | with_reducible refine w_isN ?_
  | with_reducible refine w_notN ?_
  | with_reducible refine w_isB ?_
  | with_reducible refine w_bl ?_
  | with_reducible refine w_ret ?_
  | with_reducible refine w_next ?_
  | with_reducible refine w_brk ?_
  | with_reducible refine w_drop ?_
  | with_reducible refine w_call ?_
  | with_reducible refine w_un ?_
  | with_reducible refine w_U ?_
  | with_reducible refine w_andV ?_
  | with_reducible refine w_orV ?_
  | with_reducible refine w_notV ?_
  | with_reducible refine w_ifE ?_
  | with_reducible refine w_chain ?_
  | with_reducible refine w_gsub ?_
  | with_reducible refine w_gnil ?_
  | with_reducible refine w_gcons ?_
  | with_reducible refine w_ipI ?_
  | with_reducible refine w_fldS ?_
  | with_reducible refine w_tru ?_
  | with_reducible refine w_abs ?_
  | with_reducible refine w_maxB ?_
  | with_reducible refine w_minB ?_
  | with_reducible refine w_int ?_
  | with_reducible refine w_tupE ?_
  | with_reducible refine w_lstE ?_
  | with_reducible refine w_bm ?_
  | with_reducible refine w_bm0 ?_
  | with_reducible refine w_mth ?_
  | with_reducible refine w_for0 ?_
  | with_reducible refine w_lc0 ?_
  | with_reducible refine w_il ?_
  | with_reducible refine w_it ?_
  | with_reducible refine w_is ?_
  | with_reducible refine w_ie ?_
  | with_reducible refine w_ir1 ?_
  | with_reducible refine w_ir2 ?_
  | with_reducible refine w_irv ?_
  | with_reducible refine w_rg1 ?_
  | with_reducible refine w_rg1v ?_
  | with_reducible refine w_lrg ?_
  | with_reducible refine w_make ?_
  | with_reducible refine w_yes ?_
  | with_reducible refine w_ost ?_
  | with_reducible refine w_mkoE ?_
  | with_reducible refine w_is_int_int ?_
  | with_reducible refine w_is_int_bool ?_
  | with_reducible refine w_is_int_str ?_
  | with_reducible refine w_is_int_tuple ?_
  | with_reducible refine w_is_bl_int ?_
  | with_reducible refine w_is_bl_bool ?_
  | with_reducible refine w_is_bl_str ?_
  | with_reducible refine w_is_bl_tuple ?_
  | with_reducible refine w_is_non_int ?_
  | with_reducible refine w_is_non_bool ?_
  | with_reducible refine w_is_non_str ?_
  | with_reducible refine w_is_non_tuple ?_
  | with_reducible refine w_is_str_int ?_
  | with_reducible refine w_is_str_bool ?_
  | with_reducible refine w_is_str_str ?_
  | with_reducible refine w_is_str_tuple ?_
  | ((with_reducible refine' w_insM ?k1 ?k2 ?k3 ?k4 ?k5 ?_); (case k1 => assumption); (case k2 => walk_at "fo"); (case k3 => assumption); (case k4 => assumption); (case k5 => walk_at "lk"))
  | ((with_reducible refine' w_ixE ?k1 ?k2 ?k3 ?_); (case k1 => assumption); (case k2 => walk_at "sq"); (case k3 => walk_at "ai"))
  | ((with_reducible refine' w_len ?k1 ?k2 ?_); (case k1 => assumption); (case k2 => walk_at "sq"))
  | ((with_reducible refine' w_lenM ?k1 ?k2 ?_); (case k1 => assumption); (case k2 => walk_at "fo"))
  | ((with_reducible refine' w_I ?k1 ?_); (case k1 => walk_at "cc"))
  | ((with_reducible refine' w_gtup ?k1 ?k2 ?_); (case k1 => refine' Mem.sqt ?m0 ?h0; (case m0 => assumption); (case h0 => walk_at "sq")); (case k2 => k_dflt rfl))
  | ((with_reducible refine' w_aug ?k1 ?_); (case k1 => k_dflt rfl))
  | ((with_reducible refine' w_truM ?k1 ?k2 ?_); (case k1 => assumption); (case k2 => walk_at "fo"))
  | ((with_reducible refine' w_truL ?k1 ?k2 ?_); (case k1 => assumption); (case k2 => walk_at "sq"))
  | ((with_reducible refine' w_tyL ?k1 ?k2 ?_); (case k1 => assumption); (case k2 => walk_at "fo"))
  | ((with_reducible refine' w_mthI ?k1 ?k2 ?k3 ?_); (case k1 => assumption); (case k2 => walk_at "sq"); (case k3 => walk_at "lk"))
  | ((with_reducible refine' w_sumM ?k1 ?k2 ?_); (case k1 => assumption); (case k2 => walk_at "fo"))
  | ((with_reducible refine' w_eqDN ?k1 ?k2 ?k3 ?_); (case k1 => assumption); (case k2 => walk_at "sq"); (case k3 => walk_at "sq"))
  | ((with_reducible refine' w_is_tup_int ?k1 ?k2 ?_); (case k1 => assumption); (case k2 => walk_at "sq"))
  | ((with_reducible refine' w_is_tup_bool ?k1 ?k2 ?_); (case k1 => assumption); (case k2 => walk_at "sq"))
  | ((with_reducible refine' w_is_tup_str ?k1 ?k2 ?_); (case k1 => assumption); (case k2 => walk_at "sq"))
  | ((with_reducible refine' w_is_tup_tuple ?k1 ?k2 ?_); (case k1 => assumption); (case k2 => walk_at "sq"))
  | dsimp only)
local macro_rules | `(tactic| walk_at "go") => `(tactic| repeat (walk_at "st"))
/-- a meter as the law holds it -/
def MtrAt (K : PySem.W.Frag) (I : Hp) (a : Addr) (e : Me) : Prop := ∃ p r q as, SqL K I a [.ref p, .ref r, .int e.fi, .ref q] ∧ SqT K I p (iv e.ch.cs) ∧ SqT K I r (as.map V.ref) ∧ PrsAt K I as e.ch.ar ∧ SqT K I q (iv e.cg)
theorem MtrAt.mono {K : PySem.W.Frag} {I N : Hp} {a : Addr} {c : Me} (h : MtrAt K I a c) (e : Same I N) : MtrAt K N a c := by
  obtain ⟨p, r, q, as, h1, h2, h3, h4, h5⟩ := h
  exact ⟨p, r, q, as, e.seq h1, Same.sqt e h2, Same.sqt e h3, h4.mono e, Same.sqt e h5⟩
structure Me.Fit (e : Me) : Prop where
  ch : e.ch.Fit
  n9 : e.ch.cs.length ≤ 9
  m4 : e.ch.ar.length ≤ e.ch.cs.length + 4
  len : e.cg.length = e.ch.ar.length
  fi : 0 ≤ e.fi ∧ e.fi ≤ 1000000000000
  cg : ∀ y ∈ e.cg, 0 ≤ y ∧ y ≤ 1000000000000
theorem Me.Fit.ok {e : Me} (h : e.Fit) : e.Ok := ⟨h.ch.ok, h.len⟩
/-- charges within bounds -/
def CgI (m : Nat) (b : Int) (cg : List Int) : Prop := cg.length = m ∧ ∀ j, j < m → 0 ≤ cg.getD j 0 ∧ cg.getD j 0 ≤ b
theorem CgI.set {m : Nat} {b d : Int} {cg : List Int} (h : CgI m b cg) {k : Nat} (hk : k < m) {y : Int} (hd : 0 ≤ d) (hy : y ≤ cg.getD k 0 + d) (hb : 0 ≤ b) : CgI m (b + d) (cg.set k (if y > 0 then y else 0)) := by
  refine ⟨by rw [List.length_set, h.1], fun j hj => ?_⟩
  rw [getD_set' (by rw [h.1]; exact hk)]
  have := h.2 j hj
  by_cases e : j = k
  · subst e
    rw [if_pos rfl]
    split <;> omega
  · rw [if_neg e]
    omega
theorem CgI.le {m : Nat} {b b' : Int} {cg : List Int} (h : CgI m b cg) (hb : b ≤ b') : CgI m b' cg := ⟨h.1, fun j hj => by have := h.2 j hj; omega⟩
theorem CgI.mem {m : Nat} {b : Int} {cg : List Int} (h : CgI m b cg) : ∀ y ∈ cg, 0 ≤ y ∧ y ≤ b := fun y hy => by
  obtain ⟨j, hj⟩ := List.mem_iff_getElem?.mp hy
  have h1 := (List.getElem?_eq_some_iff.mp hj).1
  have := h.2 j (by rw [← h.1]; exact h1)
  rw [List.getD_eq_getElem?_getD, hj] at this
  exact this
theorem w_ifK {tt : TT} {A B : TS} {D : Ends} {σ : L2.St} {H : Hp} (J : L2.St → Hp → Prop) (rest : ∀ σ' H', J σ' H' → D.nx σ' H') (h : (∀ σ' H', J σ' H' → D.nx σ' H') → tIfS tt A B D σ H) : tIfS tt A B D σ H := h rest
section
variable {P : Program} {w : World} {K : PySem.W.Frag} {mg : Str → Option Value} {base : Heap} {C : Ad}
abbrev N_law_meter : List Str := ["_law_hand_here", "_law_chart_here", "_law_costs", "_law_leads", "_law_charges", "_law_way", "_law_inner_here", "_law_inside", "_law_k", "_law_at", "_law_by", "_law_most", "_law_first", "_law_arrow"]
abbrev P_law_meter : List Str := ["_law_hand_here", "_law_chart_here"]
theorem sc_law_meter : FnScope N_law_meter P_law_meter (defScope S_law_meter) := ⟨rfl, rfl, rfl, by decide +kernel, rfl, by decide +kernel, by decide +kernel⟩
-- slots: 0 _law_hand_here (cell), 1 _law_chart_here, 2 _law_costs (cell), 3 _law_leads (cell), 4 _law_charges, 5 _law_way, 6 _law_inner_here (cell), 7 _law_inside, 8 _law_k, 9 _law_at, 10 _law_by, 11 _law_most (cell), 12 _law_first, 13 _law_arrow
def spMeter (K : PySem.W.Frag) : Sp := spM fun vs I M R => ∃ (h a : Addr) (o : HO) (M0 : Mu) (c : Ch), vs = [.ref h, .ref a] ∧ M = (h, o) :: M0 ∧ Hand K I o ∧ CtAt K I a c ∧ c.Fit ∧ c.cs.length ≤ 9 ∧ c.ar.length ≤ c.cs.length + 4 ∧
  R = fun v N M' => ∃ t e o', v = .ref t ∧ e.ch = c ∧ MtrAt K N t e ∧ e.Fit ∧ M' = (h, o') :: M0 ∧ Hand K N o'
theorem ok_law_meter {f : Addr} {fd : FuncData} (F : FnP K "_law_meter" "_law_meter" S_law_meter f fd) (T : Txt K mg C) (G_law_draw : FnAt P w K mg base "_law_draw" 2 P_law_draw (spDraw K)) (G_law_even_row : FnAt P w K mg base "_law_even_row" 3 P_law_even_row (spEven K)) (G_law_inner : FnAt P w K mg base "_law_inner" 2 P_law_inner (spInner K)) : FnOk P w K mg base CX0 4 f fd P_law_meter (spMeter K) := by
  have nd := sc_law_meter.nd
  refine F.ok sc_law_meter (fun vs H Q E h => ?_) (fun cdv A outer s H vs Q E hr h => ?_)
  · obtain ⟨I, M, R, ⟨h, a, o, M0, c, rfl, _⟩, _⟩ := h
    rfl
  obtain ⟨I, M, R, ⟨h, a, o, M0, c, rfl, rfl, ho, hct, fit, hn9, hm4, rfl⟩, hm, k⟩ := h
  have hct2 := hct
  obtain ⟨pa, ra, as, h1, h2, h3, h4⟩ := hct
  have ok := fit.ok
  have n16 := ok.n16
  have n1 := ok.n1
  have m32 := ok.m32
  have e9 : (10 : Int) ^ (9 : Int).toNat = 1000000000 := by decide
  have e12 : (10 : Int) ^ (12 : Int).toNat = 1000000000000 := by decide
  refine ⟨_, PSs.nox (pss_cons (ps_set (i := 2) nd rfl (Or.inr rfl) (pe_ix ix_list (pv 1) pe_int (fun _ _ => rfl)))
    (pss_cons (ps_set (i := 3) nd rfl (Or.inr rfl) (pe_fn G_law_even_row (hr.mono (by decide)) (pa_cons (pv 0) (pa_cons (pv 1) pa_nil))))
    (pss_cons (ps_setLc (i := 4) (own := [("_law_arrow", 13)]) (g := (gName 13)) (tt := tYes) (te := (tOp (rI0 fun i j => .int (i + j)) (tOp (rI0 fun i j => .int (i - j)) (tOp (rIxL K) (tVar 3) (tOp (rIxT K) (tVar 13) (tC (.int 1)))) (tOp (rIxL K) (tVar 3) (tOp (rIxT K) (tVar 13) (tC (.int 0))))) (tOp (rIxT K) (tVar 2) (tOp (rIxT K) (tVar 13) (tC (.int 0)))))) rfl nd rfl rfl (sw_true rfl rfl rfl (by decide +kernel)) (pi_tup (pe_ix ix_list (pv 1) pe_int (fun _ _ => rfl))) (blkOk_by (N := N_law_meter) (sc := defScope S_law_meter) (by decide +kernel)) (fun _ _ _ _ _ => (pg_name (i := 13) nd rfl (Or.inl rfl))) (fun _ _ _ _ _ => pts_nil) (fun _ _ _ _ _ => (pe_op op_add (pe_op op_sub (pe_ix ix_list (pv 3) (pe_ix ix_tup (pv 13) pe_int (fun _ _ => rfl)) (fun _ _ => rfl)) (pe_ix ix_list (pv 3) (pe_ix ix_tup (pv 13) pe_int (fun _ _ => rfl)) (fun _ _ => rfl))) (pe_ix ix_tup (pv 2) (pe_ix ix_tup (pv 13) pe_int (fun _ _ => rfl)) (fun _ _ => rfl)))))
    (pss_cons (ps_set (i := 5) nd rfl (Or.inl rfl) (pe_fn G_law_draw (hr.mono (by decide)) (pa_cons (pv 0) (pa_cons pe_int pa_nil))))
    (pss_cons (ps_set (i := 6) nd rfl (Or.inr rfl) (pe_fn G_law_inner (hr.mono (by decide)) (pa_cons (pv 1) pa_nil)))
    (pss_cons (ps_setLc (i := 7) (own := [("_law_k", 8)]) (g := (gName 8)) (tt := (tB (tOp (rIxL K) (tVar 6) (tVar 8)))) (te := (tVar 8)) rfl nd rfl rfl (sw_true rfl rfl rfl (by decide +kernel)) (pi_range1 rfl T.b_range (pa_cons (pe_callB cl_len (by rfl) T.b_len PySem.boot_len (pa_cons (pv 4) pa_nil)) pa_nil)) (blkOk_by (N := N_law_meter) (sc := defScope S_law_meter) (by decide +kernel)) (fun _ _ _ _ _ => (pg_name (i := 8) nd rfl (Or.inl rfl))) (fun _ _ _ _ _ => (pts_one (pt_val (pe_ix ix_list (pv 6) (pv 8) (fun _ _ => rfl))))) (fun _ _ _ _ _ => (pv 8)))
    (pss_cons (ps_if (PW.pt (pw_or (pt_cmpR op_eq (pv 5) pe_int (nomark _)) (pw_or1 (pt_cmpR op_eq (pv 5) pe_int (nomark _)))))
      (pss_one (ps_for PassesOwn.never rfl (pi_range1 rfl T.b_range (pa_cons (pe_callB cl_len (by rfl) T.b_len PySem.boot_len (pa_cons (pv 4) pa_nil)) pa_nil)) (pg_name (i := 8) nd rfl (Or.inl rfl))
        (pss_one (ps_if (pt_not (pt_val (pe_ix ix_list (pv 6) (pv 8) (fun _ _ => rfl))))
          (pss_one (ps_asg (pe_callB (cl_max rfl) (by rfl) T.b_max PyProof.Rows.boot_max (pa_cons pe_int (pa_cons (pe_op op_sub (pe_op op_add (pe_ix ix_list (pv 4) (pv 8) (fun _ _ => rfl)) (pe_fn G_law_draw (hr.mono (by decide)) (pa_cons (pv 0) (pa_cons pe_int pa_nil)))) pe_int) pa_nil))) (pg_sub (pv 4) (pv 8) set_list)))
          pss_nil))))
      pss_nil)
    (pss_cons (ps_if (PW.pt (pw_and (pt_cmpR op_gt (pv 5) pe_int (nomark _)) (pw_and (pt_cmpR op_lt (pv 5) pe_int (nomark _)) (pw_and1 (pt_tru (pv 7))))))
      (pss_one (ps_for PassesOwn.never rfl (pi_range1 rfl T.b_range (pa_cons (pe_op op_add pe_int (pe_fn G_law_draw (hr.mono (by decide)) (pa_cons (pv 0) (pa_cons pe_int pa_nil)))) pa_nil)) (pg_name (i := 8) nd rfl (Or.inl rfl))
        (pss_cons (ps_set (i := 9) nd rfl (Or.inl rfl) (pe_ix ix_list (pv 7) (pe_fn G_law_draw (hr.mono (by decide)) (pa_cons (pv 0) (pa_cons (pe_callB cl_len (by rfl) T.b_len PySem.boot_len (pa_cons (pv 7) pa_nil)) pa_nil))) (fun _ _ => rfl)))
        (pss_cons (ps_set (i := 10) nd rfl (Or.inl rfl) (pe_ix ix_list (pe_lst (pa_cons (pe_un un_neg pe_int) (pa_cons pe_int (pa_cons pe_int (pa_cons (pe_un un_neg pe_int) (pa_cons (pe_un un_neg (pe_op op_pow pe_int pe_int)) (pa_cons (pe_op op_pow pe_int pe_int) pa_nil))))))) (pe_fn G_law_draw (hr.mono (by decide)) (pa_cons (pv 0) (pa_cons pe_int pa_nil))) (fun _ _ => rfl)))
        (pss_one (ps_asg (pe_callB (cl_max rfl) (by rfl) T.b_max PyProof.Rows.boot_max (pa_cons pe_int (pa_cons (pe_op op_add (pe_ix ix_list (pv 4) (pv 9) (fun _ _ => rfl)) (pv 10)) pa_nil))) (pg_sub (pv 4) (pv 9) set_list)))))))
      pss_nil)
    (pss_cons (ps_if (pt_cmpR op_eq (pv 5) pe_int (nomark _))
      (pss_cons (ps_set (i := 11) nd rfl (Or.inr rfl) (pe_ix ix_list (pe_lst (pa_cons pe_int (pa_cons pe_int (pa_cons (pe_op op_pow pe_int pe_int) (pa_cons (pe_op op_pow pe_int pe_int) pa_nil))))) (pe_fn G_law_draw (hr.mono (by decide)) (pa_cons (pv 0) (pa_cons pe_int pa_nil))) (fun _ _ => rfl)))
      (pss_one (ps_setLc (i := 4) (own := [("_law_arrow", 13)]) (g := (gName 13)) (tt := tYes) (te := (tCall (spDraw K) [] E0 (tCons (tVar 0) (tCons (tOp (rI0 fun i j => .int (i + j)) (tVar 11) (tC (.int 1))) tNil)))) rfl nd rfl rfl (sw_true rfl rfl rfl (by decide +kernel)) (pi_list (pv 4)) (blkOk_by (N := N_law_meter) (sc := defScope S_law_meter) (by decide +kernel)) (fun _ _ _ _ _ => (pg_name (i := 13) nd rfl (Or.inl rfl))) (fun _ _ _ _ _ => pts_nil) (fun _ _ _ _ _ => (pe_fn G_law_draw (hr.mono (by decide)) (pa_cons (pv 0) (pa_cons (pe_op op_add (pv 11) pe_int) pa_nil)))))))
      pss_nil)
    (pss_cons (ps_set (i := 12) nd rfl (Or.inl rfl) (pe_ifExp (pt_cmpR op_gt (pe_fn G_law_draw (hr.mono (by decide)) (pa_cons (pv 0) (pa_cons pe_int pa_nil))) pe_int (nomark _)) (pe_ix ix_list (pv 3) pe_int (fun _ _ => rfl)) (pe_op op_add (pe_ix ix_list (pv 3) pe_int (fun _ _ => rfl)) (pe_fn G_law_draw (hr.mono (by decide)) (pa_cons (pv 0) (pa_cons pe_int pa_nil))))))
    (pss_one (ps_ret (pe_lst (pa_cons (pv 2) (pa_cons (pe_ix ix_list (pv 1) pe_int (fun _ _ => rfl)) (pa_cons (pv 12) (pa_cons (pe_callTy cl_tuple (by rfl) T.b_tuple PyProof.Rows.boot_tuple (pa_cons (pv 4) pa_nil)) pa_nil))))))))))))))))), ?_⟩
  try dsimp only [cxOf, Cx.nox, Cx.wish]
  walk_at "go"
  refine w_spM hm ⟨h, a, o, M0, c, rfl, rfl, ho, hct2, fit, rfl⟩ fun v N1 M' H1 eN1 hm1 hR => ?_
  obtain ⟨tL, L, o1, rfl, hL, hE, rfl, ho1⟩ := hR
  have hct3 := hct2.mono eN1
  have h1b : SqL K N1 a [.ref pa, .ref ra] := eN1.seq h1
  have h2b : SqT K N1 pa (iv c.cs) := Same.sqt eN1 h2
  have h3b : SqT K N1 ra (as.map V.ref) := Same.sqt eN1 h3
  have h4b := h4.mono eN1
  have eQ := eN1
  clear eN1 h1 h2 h3 h4 hct2 hm ho
  have hLs : SqL K N1 tL (iv L) := SqL.of hL
  walk_at "go"
  refine w_itt hm1 h3b fun J wk => ?_
  refine w_lcA wk hm1 (fun j => .int (L.getD (c.hd j) 0 - L.getD (c.tl j) 0 + c.cs.getD (c.tl j) 0)) (fun _ => true) (by rw [List.length_map, h4b.1]; omega) (fun j x D acc H' Yes No hj hx hm' hyes hno => ?_) fun pc H2 hm2 => ?_
  · rw [List.length_map] at hj
    have hj2 : j < c.ar.length := by rw [← h4b.1]; exact hj
    have ex : x = .ref (as.getD j 0) := by
      obtain ⟨t, ht, rfl⟩ := refs_get hx
      rw [List.getD_eq_getElem?_getD, ht]
      rfl
    subst ex
    have hpj : SqT K N1 (as.getD j 0) [.int ((c.tl j : Nat) : Int), .int ((c.hd j : Nat) : Int)] := h4b.2 j hj2
    have ht := ok.tl j hj2
    have hh := ok.hd j hj2
    have ai1 : atI (iv L) ((c.tl j : Nat) : Int) = some (.int (L.getD (c.tl j) 0)) := ati_ints (by rw [hE.len]; exact ht)
    have ai2 : atI (iv L) ((c.hd j : Nat) : Int) = some (.int (L.getD (c.hd j) 0)) := ati_ints (by rw [hE.len]; exact hh)
    have ai3 : atI (iv c.cs) ((c.tl j : Nat) : Int) = some (.int (c.cs.getD (c.tl j) 0)) := ati_ints ht
    walk_at "go"
    refine ⟨rfl, ?_⟩
    walk_at "go"
    refine iteT ?_
    walk_at "go"
    exact hyes rfl _ hm'
  have eC : (((List.range (as.map V.ref).length).filter fun _ => true).map fun j => V.int (L.getD (c.hd j) 0 - L.getD (c.tl j) 0 + c.cs.getD (c.tl j) 0)) = iv ((List.range c.ar.length).map fun j => L.getD (c.hd j) 0 - L.getD (c.tl j) 0 + c.cs.getD (c.tl j) 0) := by
    rw [List.filter_eq_self.mpr fun _ _ => rfl, List.length_map, h4b.1, iv, List.map_map]
    rfl
  rw [eC] at hm2
  have hC : CgI c.ar.length 2000000000 ((List.range c.ar.length).map fun j => L.getD (c.hd j) 0 - L.getD (c.tl j) 0 + c.cs.getD (c.tl j) 0) := by
    refine ⟨by rw [List.length_map, List.length_range], fun j hj => ?_⟩
    rw [List.getD_eq_getElem?_getD, List.getElem?_map, List.getElem?_range hj]
    exact hE.ch j hj
  generalize ((List.range c.ar.length).map fun j => L.getD (c.hd j) 0 - L.getD (c.tl j) 0 + c.cs.getD (c.tl j) 0) = cg at hm2 hC
  have hm2 := hm2.swap
  walk_at "go"
  refine w_spM hm2 ⟨h, o1, _, 8, rfl, rfl, ho1, by decide, by decide, rfl⟩ fun v N2 M' H3 eN2 hm3 hR => ?_
  obtain ⟨wy, o2, rfl, hwy, rfl, ho2⟩ := hR
  walk_at "go"
  refine w_spN hm3 ⟨a, c, rfl, hct3.mono eN2, ok, rfl⟩ fun v N3 H4 eN3 hm4 hR => ?_
  obtain ⟨ti, rfl, hti⟩ := hR
  have lin : (innerL c).length = c.ar.length := by unfold innerL; rw [List.length_map, List.length_range]
  have lcg : (iv cg).length = c.ar.length := by rw [List.length_map, hC.1]
  walk_at "go"
  rw [lcg]
  refine w_irr1 (by omega) fun J wk => ?_
  refine w_lcR wk hm4 (fun j => .int ((j : Nat) : Int)) (fun j => (innerL c).getD j false) (by omega) (fun j D acc H' Yes No hj hm' hyes hno => ?_) fun pin H5 hm5 => ?_
  · have ai : atI (bv (innerL c)) ((j : Nat) : Int) = some (.bl ((innerL c).getD j false)) := ati_bv (by omega)
    walk_at "go"
    refine ⟨rfl, ?_⟩
    walk_at "go"
    refine w_iteB (fun hb => ?_) fun hb => ?_
    · walk_at "go"
      exact hyes hb _ hm'
    · exact hno hb _ hm'
  have eIn : (((List.range c.ar.length).filter fun j => (innerL c).getD j false).map fun j => V.int ((j : Nat) : Int)) = nv ((List.range c.ar.length).filter fun j => (innerL c).getD j false) := rfl
  rw [eIn] at hm5
  have hIn : ∀ x ∈ (List.range c.ar.length).filter (fun j => (innerL c).getD j false), x < c.ar.length := fun x hx => List.mem_range.mp (List.mem_filter.mp hx).1
  have hInl : ((List.range c.ar.length).filter fun j => (innerL c).getD j false).length ≤ c.ar.length := by
    have := List.length_filter_le (fun j => (innerL c).getD j false) (List.range c.ar.length)
    rw [List.length_range] at this
    exact this
  generalize ((List.range c.ar.length).filter fun j => (innerL c).getD j false) = ins at hm5 hIn hInl
  refine w_frz hm5 fun N4 eN4 hpin hm6 => ?_
  have eF := eN2.trans (eN3.trans eN4)
  have h1c : SqL K N4 a [.ref pa, .ref ra] := eF.seq h1b
  have h2c : SqT K N4 pa (iv c.cs) := Same.sqt eF h2b
  have h3c : SqT K N4 ra (as.map V.ref) := Same.sqt eF h3b
  have h4c := h4b.mono eF
  have hLc : SqL K N4 tL (iv L) := eF.seq hLs
  have htic : SqL K N4 ti (bv (innerL c)) := SqL.of (eN4 _ _ hti)
  have hpinc : SqL K N4 pin (nv ins) := SqL.of hpin
  have ho4 := ho2.mono (eN3.trans eN4)
  have eG := eQ.trans eF
  clear eQ eF eN2 eN3 eN4 h1b h2b h3b h4b hLs hti hpin ho1 ho2 hct3 hm1 hm2 hm3 hm4 hm5 eC eIn hL lcg
  refine w_gname ?_
  refine w_seq ?_
  refine w_ifK (fun σ' H' => ∃ o N cg s8, σ' = [some (.ref h), some (.ref a), some (.ref pa), some (.ref tL), some (.ref pc), some (.int (wy : Int)), some (.ref ti), some (.ref pin), s8, none, none, none, none, none] ∧ Same N4 N ∧ Mem N ((h, o) :: (pc, .lst (iv cg)) :: M0) H' ∧ Hand K N o ∧ CgI c.ar.length 2000000096 cg) ?_ fun rest => ?_
  · rintro _ H6 ⟨o5, N5, cg5, s8, rfl, eN5, hm7, ho5, hC5⟩
    have hpin5 : SqL K N5 pin (nv ins) := eN5.seq hpinc
    dsimp only
    refine w_seq ?_
    refine w_ifK (fun σ' H' => ∃ o N cg s8 s9 s10, σ' = [some (.ref h), some (.ref a), some (.ref pa), some (.ref tL), some (.ref pc), some (.int (wy : Int)), some (.ref ti), some (.ref pin), s8, s9, s10, none, none, none] ∧ Same N4 N ∧ Mem N ((h, o) :: (pc, .lst (iv cg)) :: M0) H' ∧ Hand K N o ∧ CgI c.ar.length 4000000096 cg) ?_ fun rest => ?_
    · rintro _ H7 ⟨o6, N6, cg6, s8, s9, s10, rfl, eN6, hm8, ho6, hC6⟩
      dsimp only
      refine w_seq ?_
      refine w_ifK (fun σ' H' => ∃ o N pc cg s8 s9 s10 s11, σ' = [some (.ref h), some (.ref a), some (.ref pa), some (.ref tL), some (.ref pc), some (.int (wy : Int)), some (.ref ti), some (.ref pin), s8, s9, s10, s11, none, none] ∧ Same N4 N ∧ Mem N ((h, o) :: (pc, .lst (iv cg)) :: M0) H' ∧ Hand K N o ∧ CgI c.ar.length 1000000000000 cg) ?_ fun rest => ?_
      · rintro _ H8 ⟨o7, N7, pc7, cg7, s8, s9, s10, s11, rfl, eN7, hm9, ho7, hC7⟩
        have eG7 := eG.trans eN7
        have h1d : SqL K N7 a [.ref pa, .ref ra] := eN7.seq h1c
        have h2d : SqT K N7 pa (iv c.cs) := Same.sqt eN7 h2c
        have h3d : SqT K N7 ra (as.map V.ref) := Same.sqt eN7 h3c
        have h4d := h4c.mono eN7
        have hLd : SqL K N7 tL (iv L) := eN7.seq hLc
        clear h1c h2c h3c h4c hLc eN7 eN6 eN5 hpin5 hpinc htic eG hm7 hm8 hm6 ho6 ho5 ho4
        have ai0 : atI (iv L) 0 = some (.int (L.getD 0 0)) := ati_ints (k := 0) (by rw [hE.len]; omega)
        have hz := hE.z
        walk_at "go"
        refine w_spM hm9 ⟨h, o7, _, 4, rfl, rfl, ho7, by decide, by decide, rfl⟩ fun v N8 M' H9 eN8 hm10 hR => ?_
        obtain ⟨d8, o8, rfl, hd8, rfl, ho8⟩ := hR
        have h1e : SqL K N8 a [.ref pa, .ref ra] := eN8.seq h1d
        have hLe : SqL K N8 tL (iv L) := eN8.seq hLd
        clear h1d hLd
        have fin : ∀ (f : Int) (o : HO) (N : Hp) (H : Hp) (σ : L2.St), 0 ≤ f → f ≤ 1000000000000 → Same N8 N → Hand K N o → Mem N ((h, o) :: (pc7, .lst (iv cg7)) :: M0) H →
            rTupOf K [.ref pc7] H fun x H1 => rLst [.ref pa, .ref ra, .int f, x] H1 Q := fun f o N H σ f1 f2 e hO hmm => by
          refine w_tupOfM hmm (focS foc0) fun q N9 H10 eN9 hq hm11 => ?_
          refine w_lst hm11 (by walk_at "sz") fun res H11 hm12 => ?_
          refine w_frz hm12 fun N10 eN10 hres hm13 => ?_
          have e10 := e.trans (eN9.trans eN10)
          refine k _ _ _ _ (eG7.trans (eN8.trans e10)) hm13.swap.drop ⟨res, ⟨c, f, cg7⟩, o, rfl, rfl, ⟨pa, ra, q, as, SqL.of hres, Same.sqt (eN8.trans e10) h2d, Same.sqt (eN8.trans e10) h3d, h4d.mono (eN8.trans e10), Same.sqt eN10 hq⟩, ⟨fit, hn9, hm4, hC7.1, ⟨f1, f2⟩, hC7.mem⟩, rfl, hO.mono (eN9.trans eN10)⟩
        walk_at "go"
        refine w_ite (fun hz1 => ?_) fun hz1 => ?_
        · walk_at "go"
          exact fin _ o8 _ _ [] (by omega) (by omega) (Same.refl _) ho8 hm10
        · walk_at "go"
          refine w_spM hm10 ⟨h, o8, _, 6, rfl, rfl, ho8, by decide, by decide, rfl⟩ fun v N9 M' H10 eN9 hm11 hR => ?_
          obtain ⟨d9, o9, rfl, hd9, rfl, ho9⟩ := hR
          have h1f : SqL K N9 a [.ref pa, .ref ra] := eN9.seq h1e
          clear h1e
          walk_at "go"
          exact fin _ o9 _ _ [] (by omega) (by omega) eN9 ho9 hm11
      · walk_at "go"
        refine w_ite (fun h7 => ?_) fun h7 => ?_
        · walk_at "go"
          rw [e9, e12]
          refine w_lstI hm8 (by walk_at "sz") fun p1 N7 H8 eN7 hp1 hm9 => ?_
          walk_at "go"
          refine w_spM hm9 ⟨h, o6, _, 4, rfl, rfl, ho6.mono eN7, by decide, by decide, rfl⟩ fun v N8 M' H9 eN8 hm10 hR => ?_
          obtain ⟨d8, o8, rfl, hd8, rfl, ho8⟩ := hR
          have ai : atI [V.int 3, .int 8, .int 1000000000, .int 1000000000000] ((d8 : Nat) : Int) = some (.int ((([3, 8, 1000000000, 1000000000000] : List Nat).getD d8 0 : Nat) : Int)) := ati_nats (ns := [3, 8, 1000000000, 1000000000000]) hd8
          have hmo := nlit_get (P := fun c : Nat => c ≤ 1000000000000) (xs := [3, 8, 1000000000, 1000000000000]) (by decide) hd8
          generalize ([3, 8, 1000000000, 1000000000000] : List Nat).getD d8 0 = mo at ai hmo
          walk_at "go"
          have emo : (mo : Int) + 1 = ((mo + 1 : Nat) : Int) := by omega
          have eS := eN6.trans (eN7.trans eN8)
          clear eN7 eN8 hp1
          refine w_frz hm10.swap fun N9 eN9 hpc hm11 => ?_
          refine w_ill hm11 (SqL.of hpc) fun J wk => ?_
          have ho9 := ho8.mono eN9
          refine w_lcGA wk hm11 (fun j acc N M' => ∃ o cs, acc = iv cs ∧ cs.length = j ∧ (∀ x ∈ cs, 0 ≤ x ∧ x ≤ 1000000000000) ∧ M' = (h, o) :: M0 ∧ Hand K N o)
            ⟨o8, [], rfl, rfl, (fun x hx => nomatch hx), rfl, ho9⟩ (fun j x D acc N10 M' H10 Yes No hj hx eN10 hPv hm12 hyes hno => ?_) fun pc2 acc N10 M' H10 eN10 hPv hm12 => ?_
          · obtain ⟨o10, cs, rfl, hcl, hcb, rfl, ho10⟩ := hPv
            rw [List.length_map, hC6.1] at hj
            obtain ⟨z, hz, rfl⟩ := iv_get hx
            walk_at "go"
            refine ⟨rfl, ?_⟩
            walk_at "go"
            refine iteT ?_
            walk_at "go"
            rw [emo]
            refine w_spM hm12.swap ⟨h, o10, _, mo + 1, rfl, rfl, ho10, by omega, by omega, rfl⟩ fun v N11 M' H11 eN11 hm13 hR => ?_
            obtain ⟨dd, o11, rfl, hdd, rfl, ho11⟩ := hR
            refine hyes _ _ _ _ (eN10.trans eN11) ⟨o11, cs ++ [((dd : Nat) : Int)], by rw [iv, iv, List.map_append]; rfl, by rw [List.length_append, hcl]; rfl, fun x hx => ?_, rfl, ho11⟩ (small_sl (by rw [List.length_map]; omega)) hm13.swap
            rcases List.mem_append.mp hx with hx | hx
            · exact hcb x hx
            · rw [List.mem_singleton.mp hx]
              omega
          · obtain ⟨o10, cs, rfl, hcl, hcb, rfl, ho10⟩ := hPv
            rw [List.length_map, hC6.1] at hcl
            refine w_gname ?_
            refine rest _ _ ⟨o10, N10, pc2, cs, _, _, _, _, rfl, eS.trans (eN9.trans eN10), hm12.swap, ho10, hcl, fun j hj => ?_⟩
            rw [List.getD_eq_getElem?_getD, List.getElem?_eq_getElem (by omega)]
            exact hcb _ (List.getElem_mem _)
        · exact rest _ _ ⟨o6, N6, pc, cg6, s8, s9, s10, _, rfl, eN6, hm8, ho6, hC6.le (by omega)⟩
    · walk_at "go"
      refine w_ite (fun q1 => ?_) fun q1 => ?_
      · walk_at "go"
        refine w_ite (fun q2 => ?_) fun q2 => ?_
        · walk_at "go"
          refine w_iteB (fun q3 => ?_) fun q3 => ?_
          · have l1 : 1 ≤ ins.length := by
              cases ins with
              | nil => cases q3
              | cons _ _ => exact Nat.succ_pos _
            walk_at "go"
            refine w_spM hm7 ⟨h, o5, _, 2, rfl, rfl, ho5, by decide, by decide, rfl⟩ fun v N6 M' H7 eN6 hm8 hR => ?_
            obtain ⟨d6, o6, rfl, hd6, rfl, ho6⟩ := hR
            walk_at "go"
            have ed : (1 : Int) + (d6 : Int) = ((d6 + 1 : Nat) : Int) := by omega
            rw [ed]
            refine w_irr1 (by omega) fun J wk => ?_
            refine w_forZ wk hm8 (fun i σ N M' => ∃ o cg s8 s9 s10, σ = [some (.ref h), some (.ref a), some (.ref pa), some (.ref tL), some (.ref pc), some (.int (wy : Int)), some (.ref ti), some (.ref pin), s8, s9, s10, none, none, none] ∧ M' = (h, o) :: (pc, .lst (iv cg)) :: M0 ∧ Hand K N o ∧ CgI c.ar.length (2000000096 + 1000000000 * (i : Int)) cg)
              ⟨o6, cg5, _, _, _, rfl, rfl, ho6, hC5.le (by omega)⟩ ?_ ?_
            · rintro i _ N7 _ H8 hi eN7 ⟨o7, cg7, s8, s9, s10, rfl, rfl, ho7, hC7⟩ hm9
              have hpin7 : SqL K N7 pin (nv ins) := eN7.seq (eN6.seq hpin5)
              have eR := eN7
              have lins : (nv ins).length = ins.length := List.length_map _
              walk_at "go"
              rw [lins]
              refine w_spM hm9 ⟨h, o7, _, ins.length, rfl, rfl, ho7, by omega, by omega, rfl⟩ fun v N8 M' H9 eN8 hm10 hR => ?_
              obtain ⟨d8, o8, rfl, hd8, rfl, ho8⟩ := hR
              have hpin8 : SqL K N8 pin (nv ins) := eN8.seq hpin7
              have ai : atI (nv ins) ((d8 : Nat) : Int) = some (.int ((ins.getD d8 0 : Nat) : Int)) := ati_nats hd8
              have hat : ins.getD d8 0 < c.ar.length := by
                rw [List.getD_eq_getElem?_getD, List.getElem?_eq_getElem hd8]
                exact hIn _ (List.getElem_mem hd8)
              generalize ins.getD d8 0 = ax at ai hat
              clear hpin7
              have eS := eR.trans eN8
              clear eN7 eR eN8
              walk_at "go"
              rw [e9]
              refine w_lstI hm10 (by walk_at "sz") fun p1 N9 H10 eN9 hp1 hm11 => ?_
              walk_at "go"
              refine w_spM hm11 ⟨h, o8, _, 6, rfl, rfl, ho8.mono eN9, by decide, by decide, rfl⟩ fun v N10 M' H11 eN10 hm12 hR => ?_
              obtain ⟨d10, o10, rfl, hd10, rfl, ho10⟩ := hR
              have ai3 : atI [V.int (-1), .int 1, .int 2, .int (-2), .int (-1000000000), .int 1000000000] ((d10 : Nat) : Int) = some (.int (([-1, 1, 2, -2, -1000000000, 1000000000] : List Int).getD d10 0)) := ati_ints (ns := [-1, 1, 2, -2, -1000000000, 1000000000]) hd10
              have hby := lit_get (P := fun y : Int => -1000000000 ≤ y ∧ y ≤ 1000000000) (xs := [-1, 1, 2, -2, -1000000000, 1000000000]) (by decide) hd10
              generalize ([-1, 1, 2, -2, -1000000000, 1000000000] : List Int).getD d10 0 = by_ at ai3 hby
              have ai4 : atI (iv cg7) ((ax : Nat) : Int) = some (.int (cg7.getD ax 0)) := ati_ints (by rw [hC7.1]; exact hat)
              walk_at "go"
              refine w_setL hm12 (focS foc0) (ixn_nat (by rw [List.length_map, hC7.1]; exact hat)) fun H12 hm13 => ?_
              rw [iv_set] at hm13
              refine ⟨_, _, eS.trans (eN9.trans eN10), ⟨o10, _, _, _, _, rfl, rfl, ho10, ?_⟩, hm13⟩
              exact (hC7.set (d := 1000000000) hat (by omega) (by omega) (by omega)).le (by omega)
            · rintro _ N7 _ H8 eN7 ⟨o7, cg7, s8, s9, s10, rfl, rfl, ho7, hC7⟩ hm9
              exact rest _ _ ⟨o7, N7, cg7, s8, s9, s10, rfl, eN5.trans (eN6.trans eN7), hm9, ho7, hC7.le (by omega)⟩
          · exact rest _ _ ⟨o5, N5, cg5, s8, _, _, rfl, eN5, hm7, ho5, hC5.le (by omega)⟩
        · refine w_ff ?_
          exact rest _ _ ⟨o5, N5, cg5, s8, _, _, rfl, eN5, hm7, ho5, hC5.le (by omega)⟩
      · refine w_ff ?_
        exact rest _ _ ⟨o5, N5, cg5, s8, _, _, rfl, eN5, hm7, ho5, hC5.le (by omega)⟩
  · walk_at "go"
    refine w_ite (fun q1 => ?_) fun q1 => ?_
    · refine w_tt ?_
      walk_at "go"
      have lcg : (iv cg).length = c.ar.length := by rw [List.length_map, hC.1]
      rw [lcg]
      refine w_irr1 (by omega) fun J wk => ?_
      refine w_forZ wk hm6 (fun i σ N M' => ∃ o cg s8, σ = [some (.ref h), some (.ref a), some (.ref pa), some (.ref tL), some (.ref pc), some (.int (wy : Int)), some (.ref ti), some (.ref pin), s8, none, none, none, none, none] ∧ M' = (h, o) :: (pc, .lst (iv cg)) :: M0 ∧ Hand K N o ∧ CgI c.ar.length (2000000000 + 3 * (i : Int)) cg)
        ⟨o2, cg, none, rfl, rfl, ho4, hC.le (by omega)⟩ ?_ ?_
      · rintro i _ N5 _ H6 hi eN5 ⟨o5, cg5, s8, rfl, rfl, ho5, hC5⟩ hm7
        have ai : atI (bv (innerL c)) ((i : Nat) : Int) = some (.bl ((innerL c).getD i false)) := ati_bv (by omega)
        have ai2 : atI (iv cg5) ((i : Nat) : Int) = some (.int (cg5.getD i 0)) := ati_ints (by rw [hC5.1]; exact hi)
        walk_at "go"
        refine w_iteNB (fun hb => ?_) fun hb => ?_
        · walk_at "go"
          refine w_spM hm7 ⟨h, o5, _, 7, rfl, rfl, ho5, by decide, by decide, rfl⟩ fun v N6 M' H7 eN6 hm8 hR => ?_
          obtain ⟨d6, o6, rfl, hd6, rfl, ho6⟩ := hR
          walk_at "go"
          refine w_setL hm8 (focS foc0) (ixn_nat (by rw [List.length_map, hC5.1]; exact hi)) fun H8 hm9 => ?_
          rw [iv_set] at hm9
          refine ⟨_, _, eN5.trans eN6, ⟨o6, _, _, rfl, rfl, ho6, ?_⟩, hm9⟩
          exact (hC5.set (d := 3) hi (by omega) (by omega) (by omega)).le (by omega)
        · walk_at "go"
          exact ⟨_, _, eN5, ⟨o5, cg5, _, rfl, rfl, ho5, hC5.le (by omega)⟩, hm7⟩
      · rintro _ N5 _ H6 eN5 ⟨o5, cg5, s8, rfl, rfl, ho5, hC5⟩ hm7
        exact rest _ _ ⟨o5, N5, cg5, s8, rfl, eN5, hm7, ho5, hC5.le (by omega)⟩
    · walk_at "go"
      refine w_ite (fun q2 => ?_) fun q2 => ?_
      · walk_at "go"
        have lcg : (iv cg).length = c.ar.length := by rw [List.length_map, hC.1]
        rw [lcg]
        refine w_irr1 (by omega) fun J wk => ?_
        refine w_forZ wk hm6 (fun i σ N M' => ∃ o cg s8, σ = [some (.ref h), some (.ref a), some (.ref pa), some (.ref tL), some (.ref pc), some (.int (wy : Int)), some (.ref ti), some (.ref pin), s8, none, none, none, none, none] ∧ M' = (h, o) :: (pc, .lst (iv cg)) :: M0 ∧ Hand K N o ∧ CgI c.ar.length (2000000000 + 3 * (i : Int)) cg)
          ⟨o2, cg, none, rfl, rfl, ho4, hC.le (by omega)⟩ ?_ ?_
        · rintro i _ N5 _ H6 hi eN5 ⟨o5, cg5, s8, rfl, rfl, ho5, hC5⟩ hm7
          have ai : atI (bv (innerL c)) ((i : Nat) : Int) = some (.bl ((innerL c).getD i false)) := ati_bv (by omega)
          have ai2 : atI (iv cg5) ((i : Nat) : Int) = some (.int (cg5.getD i 0)) := ati_ints (by rw [hC5.1]; exact hi)
          walk_at "go"
          refine w_iteNB (fun hb => ?_) fun hb => ?_
          · walk_at "go"
            refine w_spM hm7 ⟨h, o5, _, 7, rfl, rfl, ho5, by decide, by decide, rfl⟩ fun v N6 M' H7 eN6 hm8 hR => ?_
            obtain ⟨d6, o6, rfl, hd6, rfl, ho6⟩ := hR
            walk_at "go"
            refine w_setL hm8 (focS foc0) (ixn_nat (by rw [List.length_map, hC5.1]; exact hi)) fun H8 hm9 => ?_
            rw [iv_set] at hm9
            refine ⟨_, _, eN5.trans eN6, ⟨o6, _, _, rfl, rfl, ho6, ?_⟩, hm9⟩
            exact (hC5.set (d := 3) hi (by omega) (by omega) (by omega)).le (by omega)
          · walk_at "go"
            exact ⟨_, _, eN5, ⟨o5, cg5, _, rfl, rfl, ho5, hC5.le (by omega)⟩, hm7⟩
        · rintro _ N5 _ H6 eN5 ⟨o5, cg5, s8, rfl, rfl, ho5, hC5⟩ hm7
          exact rest _ _ ⟨o5, N5, cg5, s8, rfl, eN5, hm7, ho5, hC5.le (by omega)⟩
      · exact rest _ _ ⟨o2, N4, cg, none, rfl, Same.refl _, hm6, ho4, hC.le (by omega)⟩
end

end Pa

set_option Elab.async false
set_option linter.all false
set_option maxRecDepth 100000
set_option maxHeartbeats 4000000
namespace Pa
open PySem L2
local macro_rules | `(tactic| walk_at "lt") => `(tactic| first
  | assumption
  | omega
  | (simp only [List.length_map, List.length_range, List.length_cons, List.length_nil, List.length_append, List.length_replicate] at *; omega))
local macro_rules | `(tactic| walk_at "fo") => `(tactic| first | exact foc0 | (refine' focS ?k1; (case k1 => walk_at "fo")))
local macro_rules | `(tactic| walk_at "sq") => `(tactic| first
  | assumption
  | (refine' SqL.of ?k1; (case k1 => assumption))
  | (refine' SqT.of ?k1; (case k1 => assumption))
  | (refine' Or.inl ?k1; (case k1 => walk_at "sq"))
  | (refine' Or.inr ?k1; (case k1 => walk_at "sq"))
  | (refine' Same.seq ?k1 ?k2; (case k1 => assumption); (case k2 => walk_at "sq"))
  | (refine' Same.sqt ?k1 ?k2; (case k1 => assumption); (case k2 => walk_at "sq"))
  | (refine' Same.sqe ?k1 ?k2; (case k1 => assumption); (case k2 => walk_at "sq"))
  | (refine' same_at ?k1 ?k2; (case k1 => assumption); (case k2 => walk_at "sq")))
local macro_rules | `(tactic| walk_at "ai") => `(tactic| first
  | assumption
  | (refine' ati_ints ?k1; (case k1 => walk_at "lt"))
  | (refine' ati_refs ?k1; (case k1 => walk_at "lt"))
  | (refine' ati_nat ?k1; (case k1 => assumption))
  | k_dflt rfl)
local macro_rules | `(tactic| walk_at "lk") => `(tactic| first
  | assumption
  | exact lk_hd
  | (refine' lk_tl ?k1 ?k2; (case k1 => decide +kernel); (case k2 => walk_at "lk"))
  | exact lk_nil)
local macro_rules | `(tactic| walk_at "sz") => `(tactic| first
  | exact small_sz (by simp only [List.length_cons, List.length_nil, List.length_append, List.length_map, List.length_range, List.length_set, List.length_replicate]; omega))
local macro_rules | `(tactic| walk_at "cc") => `(tactic| first
  | (show (0 : Int) < _; first | decide | omega)
  | exact Or.inl ⟨by omega, by omega⟩
  | exact Or.inr ⟨by omega, by omega⟩
  | exact ⟨by decide, by decide, by decide⟩
  | exact ⟨by decide, by decide⟩)
local macro_rules | `(tactic| walk_at "st") => `(tactic| first
  | with_reducible refine w_seq ?_
  | with_reducible refine w_asg ?_
  | ((with_reducible refine' w_var ?k1 ?_); (case k1 => k_dflt rfl))
  | with_reducible refine w_c ?_
  | with_reducible refine w_op ?_
  | with_reducible refine w_cons ?_
  | with_reducible refine w_nil ?_
  | with_reducible refine w_gname ?_
  | with_reducible refine w_I0 ?_
  | with_reducible refine w_fld ?_
  | ((with_reducible refine' w_ins ?k1 ?k2 ?k3 ?k4 ?k5 ?_); (case k1 => assumption); (case k2 => walk_at "sq"); (case k3 => assumption); (case k4 => assumption); (case k5 => walk_at "lk"))
  | ((with_reducible refine' w_ixT ?k1 ?k2 ?k3 ?_); (case k1 => assumption); (case k2 => walk_at "sq"); (case k3 => walk_at "ai"))
  | ((with_reducible refine' w_ixL ?k1 ?k2 ?k3 ?_); (case k1 => assumption); (case k2 => walk_at "sq"); (case k3 => walk_at "ai"))
  | ((with_reducible refine' w_ixM ?k1 ?k2 ?k3 ?_); (case k1 => assumption); (case k2 => walk_at "fo"); (case k3 => walk_at "ai"))
  | with_reducible refine w_cb ?_
  | with_reducible refine w_test ?_
  | with_reducible refine w_if ?_
  | with_reducible refine w_B ?_
  | with_reducible refine w_not ?_
  | with_reducible refine w_and ?_
  | with_reducible refine w_or ?_
  | with_reducible refine w_eqI ?_
  | with_reducible refine w_neI ?_
  | with_reducible refine w_isN ?_
  | with_reducible refine w_notN ?_
  | with_reducible refine w_isB ?_
  | with_reducible refine w_bl ?_
  | with_reducible refine w_ret ?_
  | with_reducible refine w_next ?_
  | with_reducible refine w_brk ?_
  | with_reducible refine w_drop ?_
  | with_reducible refine w_call ?_
  | with_reducible refine w_un ?_
  | with_reducible refine w_U ?_
  | with_reducible refine w_andV ?_
  | with_reducible refine w_orV ?_
  | with_reducible refine w_notV ?_
  | with_reducible refine w_ifE ?_
  | with_reducible refine w_chain ?_
  | with_reducible refine w_gsub ?_
  | with_reducible refine w_gnil ?_
  | with_reducible refine w_gcons ?_
  | with_reducible refine w_ipI ?_
  | with_reducible refine w_fldS ?_
  | with_reducible refine w_tru ?_
  | with_reducible refine w_abs ?_
  | with_reducible refine w_maxB ?_
  | with_reducible refine w_minB ?_
  | with_reducible refine w_int ?_
  | with_reducible refine w_tupE ?_
  | with_reducible refine w_lstE ?_
  | with_reducible refine w_bm ?_
  | with_reducible refine w_bm0 ?_
  | with_reducible refine w_mth ?_
  | with_reducible refine w_for0 ?_
  | with_reducible refine w_lc0 ?_
  | with_reducible refine w_il ?_
  | with_reducible refine w_it ?_
  | with_reducible refine w_is ?_
  | with_reducible refine w_ie ?_
  | with_reducible refine w_ir1 ?_
  | with_reducible refine w_ir2 ?_
  | with_reducible refine w_irv ?_
  | with_reducible refine w_rg1 ?_
  | with_reducible refine w_rg1v ?_
  | with_reducible refine w_lrg ?_
  | with_reducible refine w_make ?_
  | with_reducible refine w_yes ?_
  | with_reducible refine w_ost ?_
  | with_reducible refine w_mkoE ?_
  | with_reducible refine w_is_int_int ?_
  | with_reducible refine w_is_int_bool ?_
  | with_reducible refine w_is_int_str ?_
  | with_reducible refine w_is_int_tuple ?_
  | with_reducible refine w_is_bl_int ?_
  | with_reducible refine w_is_bl_bool ?_
  | with_reducible refine w_is_bl_str ?_
  | with_reducible refine w_is_bl_tuple ?_
  | with_reducible refine w_is_non_int ?_
  | with_reducible refine w_is_non_bool ?_
  | with_reducible refine w_is_non_str ?_
  | with_reducible refine w_is_non_tuple ?_
  | with_reducible refine w_is_str_int ?_
  | with_reducible refine w_is_str_bool ?_
  | with_reducible refine w_is_str_str ?_
  | with_reducible refine w_is_str_tuple ?_
  | ((with_reducible refine' w_insM ?k1 ?k2 ?k3 ?k4 ?k5 ?_); (case k1 => assumption); (case k2 => walk_at "fo"); (case k3 => assumption); (case k4 => assumption); (case k5 => walk_at "lk"))
  | ((with_reducible refine' w_ixE ?k1 ?k2 ?k3 ?_); (case k1 => assumption); (case k2 => walk_at "sq"); (case k3 => walk_at "ai"))
  | ((with_reducible refine' w_len ?k1 ?k2 ?_); (case k1 => assumption); (case k2 => walk_at "sq"))
  | ((with_reducible refine' w_lenM ?k1 ?k2 ?_); (case k1 => assumption); (case k2 => walk_at "fo"))
  | ((with_reducible refine' w_I ?k1 ?_); (case k1 => walk_at "cc"))
  | ((with_reducible refine' w_gtup ?k1 ?k2 ?_); (case k1 => refine' Mem.sqt ?m0 ?h0; (case m0 => assumption); (case h0 => walk_at "sq")); (case k2 => k_dflt rfl))
  | ((with_reducible refine' w_aug ?k1 ?_); (case k1 => k_dflt rfl))
  | ((with_reducible refine' w_truM ?k1 ?k2 ?_); (case k1 => assumption); (case k2 => walk_at "fo"))
  | ((with_reducible refine' w_truL ?k1 ?k2 ?_); (case k1 => assumption); (case k2 => walk_at "sq"))
  | ((with_reducible refine' w_tyL ?k1 ?k2 ?_); (case k1 => assumption); (case k2 => walk_at "fo"))
  | ((with_reducible refine' w_mthI ?k1 ?k2 ?k3 ?_); (case k1 => assumption); (case k2 => walk_at "sq"); (case k3 => walk_at "lk"))
  | ((with_reducible refine' w_sumM ?k1 ?k2 ?_); (case k1 => assumption); (case k2 => walk_at "fo"))
  | ((with_reducible refine' w_eqDN ?k1 ?k2 ?k3 ?_); (case k1 => assumption); (case k2 => walk_at "sq"); (case k3 => walk_at "sq"))
  | ((with_reducible refine' w_is_tup_int ?k1 ?k2 ?_); (case k1 => assumption); (case k2 => walk_at "sq"))
  | ((with_reducible refine' w_is_tup_bool ?k1 ?k2 ?_); (case k1 => assumption); (case k2 => walk_at "sq"))
  | ((with_reducible refine' w_is_tup_str ?k1 ?k2 ?_); (case k1 => assumption); (case k2 => walk_at "sq"))
  | ((with_reducible refine' w_is_tup_tuple ?k1 ?k2 ?_); (case k1 => assumption); (case k2 => walk_at "sq"))
  | dsimp only)
local macro_rules | `(tactic| walk_at "go") => `(tactic| repeat (walk_at "st"))
section
variable {P : Program} {w : World} {K : PySem.W.Frag} {mg : Str → Option Value} {base : Heap} {C : Ad}
abbrev N_law_made : List Str := ["_law_hand_here", "_law_meter_here"]
abbrev P_law_made : List Str := ["_law_hand_here", "_law_meter_here"]
theorem sc_law_made : FnScope N_law_made P_law_made (defScope S_law_made) := ⟨rfl, rfl, rfl, by decide +kernel, rfl, by decide +kernel, by decide +kernel⟩
-- slots: 0 _law_hand_here, 1 _law_meter_here
def spMade (K : PySem.W.Frag) (C : Ad) : Sp := spM fun vs I M R => ∃ (h a : Addr) (o : HO) (M0 : Mu) (e : Me), vs = [.ref h, .ref a] ∧ M = (h, o) :: M0 ∧ Hand K I o ∧ MtrAt K I a e ∧ e.Fit ∧
  R = fun v N M' => ∃ t o', v = .ref t ∧ MeAt K C N t e ∧ M' = (h, o') :: M0 ∧ Hand K N o'
theorem ok_law_made {f : Addr} {fd : FuncData} (F : FnP K "_law_made" "_law_made" S_law_made f fd) (T : Txt K mg C) (G_law_take : FnAt P w K mg base "_law_take" 3 P_law_take (spTake K)) (G_Chart : MkAt P w K mg base "Chart" C.ch 3 P_Chart_init (spChartInit K C)) (G_Meter : MkAt P w K mg base "Meter" C.me 2 P_Meter_init (spMeterInit K C)) : FnOk P w K mg base CX0 5 f fd P_law_made (spMade K C) := by
  have nd := sc_law_made.nd
  refine F.ok sc_law_made (fun vs H Q E h => ?_) (fun cdv A outer s H vs Q E hr h => ?_)
  · obtain ⟨I, M, R, ⟨h, a, o, M0, e, rfl, _⟩, _⟩ := h
    rfl
  obtain ⟨I, M, R, ⟨h, a, o, M0, e, rfl, rfl, ho, ⟨p, r, q, as, h1, h2, h3, h4, h5⟩, fit, rfl⟩, hm, k⟩ := h
  refine ⟨_, PSs.nox (pss_one (ps_ret (pe_mk G_Meter (hr.mono (by decide)) (pa_cons (pe_mk G_Chart (hr.mono (by decide)) (pa_cons (pe_fn G_law_take (hr.mono (by decide)) (pa_cons (pv 0) (pa_cons (pe_ix ix_list (pv 1) pe_int (fun _ _ => rfl)) pa_nil))) (pa_cons (pe_fn G_law_take (hr.mono (by decide)) (pa_cons (pv 0) (pa_cons (pe_ix ix_list (pv 1) pe_int (fun _ _ => rfl)) pa_nil))) pa_nil))) (pa_cons (pe_ix ix_list (pv 1) pe_int (fun _ _ => rfl)) (pa_cons (pe_fn G_law_take (hr.mono (by decide)) (pa_cons (pv 0) (pa_cons (pe_ix ix_list (pv 1) pe_int (fun _ _ => rfl)) pa_nil))) pa_nil)))))), ?_⟩
  try dsimp only [cxOf, Cx.nox, Cx.wish]
  walk_at "go"
  refine w_spM hm ⟨h, p, o, M0, _, rfl, rfl, ho, .inr h2, rfl⟩ fun v N1 M' H1 eN1 hm1 hR => ?_
  obtain ⟨t1, o1, rfl, ht1, rfl, ho1⟩ := hR
  walk_at "go"
  refine w_spM hm1 ⟨h, r, o1, M0, _, rfl, rfl, ho1, .inr (Same.sqt eN1 h3), rfl⟩ fun v N2 M' H2 eN2 hm2 hR => ?_
  obtain ⟨t2, o2, rfl, ht2, rfl, ho2⟩ := hR
  have eI := eN1.trans eN2
  walk_at "go"
  refine w_mk hm2 fun x dx N3 eN3 => ⟨_, ⟨x, dx, t1, t2, as, _, e.ch, rfl, rfl, Same.sqe (eN2.trans eN3) ht1, Same.sqe eN3 ht2, h4.mono (eI.trans eN3), fit.ch, rfl⟩, fun v N4 M' H4 eN4 hm4 hR => ?_⟩
  obtain ⟨rfl, pp, rr, as', rfl, hp4, hr4, ha4⟩ := hR
  refine ⟨rfl, ?_⟩
  refine w_frz hm4 fun N5 eN5 hx hm5 => ?_
  have hCh : ChAt K C N5 x e.ch := ⟨dx, pp, rr, as', hx, Same.sqt eN5 hp4, Same.sqt eN5 hr4, ha4.mono eN5⟩
  have eJ := eI.trans (eN3.trans (eN4.trans eN5))
  have ho5 := ho2.mono (eN3.trans (eN4.trans eN5))
  have h15 : SqL K N5 a [.ref p, .ref r, .int e.fi, .ref q] := eJ.seq h1
  have h55 : SqT K N5 q (iv e.cg) := Same.sqt eJ h5
  clear eN1 eN2 eN3 eN4 eN5 h1 h5 eI
  walk_at "go"
  refine w_spM hm5 ⟨h, q, o2, M0, _, rfl, rfl, ho5, .inr h55, rfl⟩ fun v N6 M' H6 eN6 hm6 hR => ?_
  obtain ⟨t6, o6, rfl, ht6, rfl, ho6⟩ := hR
  walk_at "go"
  refine w_mk hm6 fun y dy N7 eN7 => ⟨_, ⟨y, dy, x, t6, _, e.ch, e.fi, e.cg, rfl, rfl, hCh.mono (eN6.trans eN7), Same.sqe eN7 ht6, fit.len, fit.ch.ok.m32, fit.fi, fit.cg, rfl⟩, fun v N8 M' H8 eN8 hm8 hR => ?_⟩
  obtain ⟨rfl, qq, rfl, hq8⟩ := hR
  refine ⟨rfl, ?_⟩
  refine w_frz hm8 fun N9 eN9 hy hm9 => ?_
  exact k _ _ _ _ (eJ.trans (eN6.trans (eN7.trans (eN8.trans eN9)))) hm9 ⟨y, o6, rfl, ⟨dy, x, qq, hy, hCh.mono (eN6.trans (eN7.trans (eN8.trans eN9))), Same.sqt eN9 hq8⟩, rfl, ho6.mono (eN7.trans (eN8.trans eN9))⟩
abbrev N_law_gain : List Str := ["_law_meter_here", "_law_arrow"]
abbrev P_law_gain : List Str := ["_law_meter_here", "_law_arrow"]
theorem sc_law_gain : FnScope N_law_gain P_law_gain (defScope S_law_gain) := ⟨rfl, rfl, rfl, by decide +kernel, rfl, by decide +kernel, by decide +kernel⟩
-- slots: 0 _law_meter_here, 1 _law_arrow
def spGainL (K : PySem.W.Frag) : Sp := spV fun vs I v => ∃ (a : Addr) (e : Me) (k : Nat), vs = [.ref a, .int (k : Int)] ∧ MtrAt K I a e ∧ e.Ok ∧ k < e.ch.ar.length ∧ v = .int (e.gain k)
theorem ok_law_gain {f : Addr} {fd : FuncData} (F : FnP K "_law_gain" "_law_gain" S_law_gain f fd) (T : Txt K mg C) : FnOk P w K mg base CX0 1 f fd P_law_gain (spGainL K) := by
  have nd := sc_law_gain.nd
  refine F.ok sc_law_gain (fun vs H Q E h => ?_) (fun cdv A outer s H vs Q E hr h => ?_)
  · obtain ⟨I, M, v, ⟨a, e, j, rfl, _⟩, _⟩ := h
    rfl
  obtain ⟨I, M, v, ⟨a, e, j, rfl, ⟨p, r, q, as, h1, h2, h3, h4, h5⟩, ok, hj, rfl⟩, hm, k⟩ := h
  have j1 : j < e.cg.length := by rw [ok.cg]; exact hj
  have j2 : j < as.length := by rw [h4.1]; exact hj
  have j3 : SqT K I (as.getD j 0) [.int ((e.ch.tl j : Nat) : Int), .int ((e.ch.hd j : Nat) : Int)] := h4.2 j hj
  have j4 := ok.ch.tl j hj
  have ai1 : atI (iv e.cg) ((j : Nat) : Int) = some (.int (e.cg.getD j 0)) := ati_ints j1
  have ai2 : atI (iv e.ch.cs) ((e.ch.tl j : Nat) : Int) = some (.int (e.ch.cs.getD (e.ch.tl j) 0)) := ati_ints j4
  refine ⟨_, PSs.nox (pss_one (ps_ret (pe_op op_sub (pe_ix ix_tup (pe_ix ix_list (pv 0) pe_int (fun _ _ => rfl)) (pv 1) (fun _ _ => rfl)) (pe_ix ix_tup (pe_ix ix_list (pv 0) pe_int (fun _ _ => rfl)) (pe_ix ix_tup (pe_ix ix_tup (pe_ix ix_list (pv 0) pe_int (fun _ _ => rfl)) (pv 1) (fun _ _ => rfl)) pe_int (fun _ _ => rfl)) (fun _ _ => rfl))))), ?_⟩
  try dsimp only [cxOf, Cx.nox, Cx.wish]
  walk_at "go"
  exact k _ hm
abbrev N_law_sum : List Str := ["_law_meter_here", "_law_arrows", "_law_arrow"]
abbrev P_law_sum : List Str := ["_law_meter_here", "_law_arrows"]
theorem sc_law_sum : FnScope N_law_sum P_law_sum (defScope S_law_sum) := ⟨rfl, rfl, rfl, by decide +kernel, rfl, by decide +kernel, by decide +kernel⟩
-- slots: 0 _law_meter_here (cell), 1 _law_arrows, 2 _law_arrow
def spSumL (K : PySem.W.Frag) : Sp := spV fun vs I v => ∃ (a t : Addr) (e : Me) (r : List Nat), vs = [.ref a, .ref t] ∧ MtrAt K I a e ∧ e.Ok ∧ TupN K I t r ∧ r.length ≤ 100000 ∧ (∀ k ∈ r, k < e.ch.ar.length) ∧ v = .int (e.sum r)
theorem ok_law_sum {f : Addr} {fd : FuncData} (F : FnP K "_law_sum" "_law_sum" S_law_sum f fd) (T : Txt K mg C) (G_law_gain : FnAt P w K mg base "_law_gain" 1 P_law_gain (spGainL K)) : FnOk P w K mg base CX0 2 f fd P_law_sum (spSumL K) := by
  have nd := sc_law_sum.nd
  refine F.ok sc_law_sum (fun vs H Q E h => ?_) (fun cdv A outer s H vs Q E hr h => ?_)
  · obtain ⟨I, M, v, ⟨a, t, e, r, rfl, _⟩, _⟩ := h
    rfl
  obtain ⟨I, M, v, ⟨a, t, e, r, rfl, hMt, ok, ht, hl, hr2, rfl⟩, hm, k⟩ := h
  refine ⟨_, PSs.nox (pss_one (ps_ret (pe_callB (cr_sum rfl) (by rfl) T.b_sum PyProof.Rows.boot_sum (pa_cons (pe_lc (own := [("_law_arrow", 2)]) (g := (gName 2)) (tt := tYes) (te := (tCall (spGainL K) [] E0 (tCons (tVar 0) (tCons (tVar 2) tNil)))) rfl nd (pi_tup (pv 1)) (blkOk_by (N := N_law_sum) (sc := defScope S_law_sum) (by decide +kernel)) (fun _ _ _ _ _ => (pg_name (i := 2) nd rfl (Or.inl rfl))) (fun _ _ _ _ _ => pts_nil) (fun _ _ _ _ _ => (pe_fn G_law_gain (hr.mono (by decide)) (pa_cons (pv 0) (pa_cons (pv 2) pa_nil))))) pa_nil)))), ?_⟩
  try dsimp only [cxOf, Cx.nox, Cx.wish]
  walk_at "go"
  refine w_itt hm ht fun J3 wk3 => ?_
  refine w_lcA wk3 hm (fun j => .int (e.gain (r.getD j 0))) (fun _ => true) (by rw [List.length_map]; omega) (fun j x D acc H8 Yes No hj hx hm8 hyes hno => ?_) fun D H8 hm8 => ?_
  · obtain ⟨y, hy, rfl⟩ := nv_get hx
    have ey : r.getD j 0 = y := by rw [List.getD_eq_getElem?_getD, hy]; rfl
    rw [ey] at hyes
    walk_at "go"
    refine ⟨rfl, ?_⟩
    walk_at "go"
    refine iteT ?_
    walk_at "go"
    refine w_spV hm8 ⟨a, e, y, rfl, hMt, ok, hr2 y (List.mem_of_getElem? hy), rfl⟩ fun H9 hm9 => ?_
    exact hyes rfl _ hm9
  · have eD : (((List.range (nv r).length).filter fun _ => true).map fun j => V.int (e.gain (r.getD j 0))) = (r.map e.gain).map V.int := by
      have z := range_filter_map r (fun _ => true) fun x => V.int (e.gain x)
      rw [List.length_map]
      rw [z, List.filter_eq_self.mpr fun _ _ => rfl, List.map_map]
      rfl
    rw [eD] at hm8
    walk_at "go"
    exact k _ hm8.drop
end

end Pa

set_option Elab.async false
set_option linter.all false
set_option maxRecDepth 100000
set_option maxHeartbeats 4000000
-- NOMAC
namespace Pa
/-! ### simple paths, counted -/
def plc (c : Ch) (st : Nat) (w : List Nat) : List Nat := st :: w.map c.hd
def ep (c : Ch) (st : Nat) (w : List Nat) : Nat := (plc c st w).getD w.length 0
theorem plc_len {c : Ch} {st : Nat} {w : List Nat} : (plc c st w).length = w.length + 1 := by unfold plc; rw [List.length_cons, List.length_map]
theorem plc_snoc {c : Ch} {st k : Nat} {w : List Nat} : plc c st (w ++ [k]) = plc c st w ++ [c.hd k] := by
  unfold plc
  rw [List.map_append]
  rfl
theorem ep_snoc {c : Ch} {st k : Nat} {w : List Nat} : ep c st (w ++ [k]) = c.hd k := by
  unfold ep
  rw [plc_snoc, List.getD_eq_getElem?_getD, List.getElem?_append_right (by rw [plc_len, List.length_append, List.length_singleton]; omega), plc_len, List.length_append, List.length_singleton, Nat.sub_self]
  rfl
inductive SP (c : Ch) (st : Nat) : List Nat → Prop
  | nil : SP c st []
  | snoc {w : List Nat} {k : Nat} (h : SP c st w) (hk : k < c.ar.length) (ht : c.tl k = ep c st w) (hl : st ≤ c.hd k) (hn : c.hd k ∉ plc c st w) : SP c st (w ++ [k])
theorem SP.inv {c : Ch} {st : Nat} {w : List Nat} {k : Nat} (h : SP c st (w ++ [k])) : SP c st w ∧ k < c.ar.length ∧ c.tl k = ep c st w ∧ st ≤ c.hd k ∧ c.hd k ∉ plc c st w := by
  generalize e : w ++ [k] = r at h
  cases h with
  | nil => simp at e
  | @snoc w' k' h1 h2 h3 h4 h5 =>
    obtain ⟨e1, e2⟩ := List.append_inj' e rfl
    have e2 : k = k' := (List.cons.inj e2).1
    subst e1 e2
    exact ⟨h1, h2, h3, h4, h5⟩
theorem SP.nd {c : Ch} {st : Nat} {w : List Nat} (h : SP c st w) : (plc c st w).Nodup := by
  induction h with
  | nil => simp [plc]
  | snoc h _ _ _ hn ih =>
    rw [plc_snoc]
    exact List.nodup_append.mpr ⟨ih, by simp, fun a ha b hb e => hn (by rw [← List.mem_singleton.mp hb, ← e]; exact ha)⟩
theorem SP.ge {c : Ch} {st : Nat} {w : List Nat} (h : SP c st w) : ∀ x ∈ plc c st w, st ≤ x := by
  induction h with
  | nil =>
    intro x hx
    rw [show plc c st [] = [st] from rfl, List.mem_singleton] at hx
    omega
  | snoc h _ _ hl hn ih =>
    intro x hx
    rw [plc_snoc] at hx
    rcases List.mem_append.mp hx with hx | hx
    · exact ih x hx
    · rw [List.mem_singleton.mp hx]
      exact hl
theorem SP.pt {c : Ch} {st : Nat} {w : List Nat} (h : SP c st w) : Pt c st (ep c st w) w := by
  induction h with
  | nil => rfl
  | snoc h hk ht hl hn ih =>
    rw [ep_snoc]
    rw [← ht] at ih
    exact ih.snoc hk
theorem SP.lt {c : Ch} (ok : c.Ok) {st : Nat} (hs : st < c.cs.length) {w : List Nat} (h : SP c st w) : ∀ x ∈ plc c st w, x < c.cs.length := by
  intro x hx
  rcases List.mem_cons.mp hx with e | hx
  · rw [e]
    exact hs
  · obtain ⟨k, hk, rfl⟩ := List.mem_map.mp hx
    exact ok.hd k (h.pt.ar k hk)
theorem SP.len {c : Ch} (ok : c.Ok) {st : Nat} (hs : st < c.cs.length) {w : List Nat} (h : SP c st w) : w.length < c.cs.length := by
  have := nodup_len _ _ h.nd (h.lt ok hs)
  rw [plc_len] at this
  omega
/-! the count -/
def dg (c : Ch) (u : Nat) : Nat := (c.outs u).length
def pr (c : Ch) : List Nat → Nat
  | [] => 1
  | u :: l => (1 + dg c u) * pr c l
theorem pr_pos {c : Ch} : ∀ {l : List Nat}, 1 ≤ pr c l
  | [] => Nat.le_refl _
  | u :: l => Nat.le_trans pr_pos (Nat.le_mul_of_pos_left _ (by omega))
theorem pr_out {c : Ch} {u : Nat} : ∀ {l : List Nat}, l.Nodup → u ∈ l → pr c l = (1 + dg c u) * pr c (l.filter fun x => decide (x ≠ u))
  | a :: l, hn, hu => by
    have h2 := List.nodup_cons.mp hn
    by_cases e : a = u
    · subst e
      have e1 : (a :: l).filter (fun x => decide (x ≠ a)) = l := by
        rw [List.filter_cons_of_neg (by simp)]
        exact List.filter_eq_self.mpr fun x hx => decide_eq_true fun z => h2.1 (by rw [← z]; exact hx)
      rw [e1]
      rfl
    · rcases List.mem_cons.mp hu with z | hu
      · exact absurd z.symm e
      · rw [List.filter_cons_of_pos (by simpa using e)]
        show (1 + dg c a) * pr c l = (1 + dg c u) * ((1 + dg c a) * pr c (l.filter fun x => decide (x ≠ u)))
        rw [pr_out h2.2 hu, Nat.mul_left_comm]
/-- the places that a path has not come to -/
def un (c : Ch) (S : List Nat) : List Nat := (List.range c.cs.length).filter fun x => decide (x ∉ S)
theorem un_snoc {c : Ch} {S : List Nat} {u : Nat} : un c (S ++ [u]) = (un c S).filter fun x => decide (x ≠ u) := by
  unfold un
  rw [List.filter_filter]
  refine List.filter_congr fun x _ => ?_
  by_cases h1 : x ∈ S <;> by_cases h2 : x = u <;> simp [h1, h2]
def Uw (c : Ch) (st : Nat) (w : List Nat) : Nat := 1 + dg c (ep c st w) * pr c (un c (plc c st w))
theorem Uw_child {c : Ch} {st k : Nat} {w : List Nat} (h1 : c.hd k < c.cs.length) (h2 : c.hd k ∉ plc c st w) : Uw c st (w ++ [k]) ≤ pr c (un c (plc c st w)) := by
  unfold Uw
  rw [ep_snoc, plc_snoc, un_snoc, pr_out (u := c.hd k) (l := un c (plc c st w)) (List.Pairwise.filter _ (List.nodup_range)) (List.mem_filter.mpr ⟨List.mem_range.mpr h1, decide_eq_true h2⟩), Nat.add_mul, Nat.one_mul]
  have := pr_pos (c := c) (l := (un c (plc c st w)).filter fun x => decide (x ≠ c.hd k))
  omega
theorem Uw_pos {c : Ch} {st : Nat} {w : List Nat} : 1 ≤ Uw c st w := by unfold Uw; omega
/-! the degrees' product is small -/
theorem deg_le : ∀ d : Nat, (1 + d) * (3 * 2 ^ d) ≤ 4 * 3 ^ d
  | 0 => by decide
  | 1 => by decide
  | d + 2 => by
    have ih := deg_le (d + 1)
    have e1 : 2 ^ (d + 2) = 2 ^ (d + 1) * 2 := rfl
    have e2 : 3 ^ (d + 2) = 3 ^ (d + 1) * 3 := rfl
    rw [e1, e2]
    generalize 2 ^ (d + 1) = a at *
    generalize 3 ^ (d + 1) = b at *
    have e3 : (1 + (d + 2)) * (3 * (a * 2)) * 1 = (1 + (d + 2)) * 2 * (3 * a) := by
      rw [Nat.mul_one, Nat.mul_assoc, ← Nat.mul_assoc 3 a 2, Nat.mul_comm (3 * a) 2]
    have e4 : (1 + (d + 2)) * 2 ≤ (1 + (d + 1)) * 3 := by omega
    have e5 := Nat.mul_le_mul_right (3 * a) e4
    have e6 : (1 + (d + 1)) * 3 * (3 * a) = 3 * ((1 + (d + 1)) * (3 * a)) := by
      rw [Nat.mul_comm (1 + (d + 1)) 3, Nat.mul_assoc]
    omega
def sumD (c : Ch) : List Nat → Nat
  | [] => 0
  | u :: l => dg c u + sumD c l
theorem pr_le {c : Ch} : ∀ l : List Nat, pr c l * (3 ^ l.length * 2 ^ sumD c l) ≤ 4 ^ l.length * 3 ^ sumD c l
  | [] => Nat.le_refl _
  | u :: l => by
    have ih := pr_le (c := c) l
    have h := deg_le (dg c u)
    have m := Nat.mul_le_mul h ih
    have e1 : pr c (u :: l) * (3 ^ (u :: l).length * 2 ^ sumD c (u :: l)) = (1 + dg c u) * (3 * 2 ^ dg c u) * (pr c l * (3 ^ l.length * 2 ^ sumD c l)) := by
      show (1 + dg c u) * pr c l * (3 ^ (l.length + 1) * 2 ^ (dg c u + sumD c l)) = _
      rw [Nat.pow_succ, Nat.pow_add]
      simp only [Nat.mul_assoc, Nat.mul_comm, Nat.mul_left_comm]
    have e2 : 4 ^ (u :: l).length * 3 ^ sumD c (u :: l) = 4 * 3 ^ dg c u * (4 ^ l.length * 3 ^ sumD c l) := by
      show 4 ^ (l.length + 1) * 3 ^ (dg c u + sumD c l) = _
      rw [Nat.pow_succ, Nat.pow_add]
      simp only [Nat.mul_assoc, Nat.mul_comm, Nat.mul_left_comm]
    rw [e1, e2]
    exact m
theorem sumD_range {c : Ch} (ok : c.Ok) : sumD c (List.range c.cs.length) ≤ c.ar.length := by
  have key : ∀ (ks : List Nat) (n : Nat), (∀ k ∈ ks, c.tl k < n) → ∀ l : List Nat, l = List.range n → (l.map fun u => (ks.filter fun k => decide (c.tl k = u)).length).sum = ks.length := by
    intro ks n
    induction n generalizing ks with
    | zero =>
      intro h l hl
      subst hl
      cases ks with
      | nil => rfl
      | cons k r => exact absurd (h k List.mem_cons_self) (Nat.not_lt_zero _)
    | succ n ih =>
      intro h l hl
      subst hl
      rw [List.range_succ, List.map_append, List.sum_append]
      have h2 := ih (ks.filter fun k => decide (c.tl k ≠ n)) (fun k hk => by
        obtain ⟨a, b⟩ := List.mem_filter.mp hk
        have := h k a
        have := of_decide_eq_true b
        omega) _ rfl
      have e1 : ((List.range n).map fun u => ((ks.filter fun k => decide (c.tl k ≠ n)).filter fun k => decide (c.tl k = u)).length) = (List.range n).map fun u => (ks.filter fun k => decide (c.tl k = u)).length := by
        refine List.map_congr_left fun u hu => ?_
        have hu := List.mem_range.mp hu
        rw [List.filter_filter]
        refine congrArg List.length (List.filter_congr fun k _ => ?_)
        by_cases e : c.tl k = u
        · have : c.tl k ≠ n := by omega
          simp [e, this]
          omega
        · simp [e]
      rw [e1] at h2
      rw [h2, List.map_cons, List.map_nil, List.sum_cons, List.sum_nil, Nat.add_zero]
      have : ∀ ks : List Nat, (ks.filter fun k => decide (c.tl k ≠ n)).length + (ks.filter fun k => decide (c.tl k = n)).length = ks.length := by
        intro ks
        induction ks with
        | nil => rfl
        | cons k r ih =>
          by_cases e : c.tl k = n
          · rw [List.filter_cons_of_neg (by simp [e]), List.filter_cons_of_pos (by simp [e]), List.length_cons, List.length_cons]
            omega
          · rw [List.filter_cons_of_pos (by simp [e]), List.filter_cons_of_neg (by simp [e]), List.length_cons, List.length_cons]
            omega
      exact this ks
  have e : ∀ l : List Nat, sumD c l = (l.map fun u => ((List.range c.ar.length).filter fun k => decide (c.tl k = u)).length).sum := by
    intro l
    induction l with
    | nil => rfl
    | cons u l ih =>
      rw [List.map_cons, List.sum_cons, ← ih]
      rfl
  rw [e, key (List.range c.ar.length) c.cs.length (fun k hk => ok.tl k (List.mem_range.mp hk)) _ rfl, List.length_range]
  exact Nat.le_refl _
theorem pr_bound {c : Ch} (ok : c.Ok) (h9 : c.cs.length ≤ 9) (hm : c.ar.length ≤ c.cs.length + 4) : pr c (List.range c.cs.length) ≤ 2592 := by
  have h1 := pr_le (c := c) (List.range c.cs.length)
  have h2 := sumD_range ok
  rw [List.length_range] at h1
  have h3 : sumD c (List.range c.cs.length) ≤ c.cs.length + 4 := Nat.le_trans h2 hm
  generalize sumD c (List.range c.cs.length) = s at h1 h3
  generalize pr c (List.range c.cs.length) = X at h1
  generalize c.cs.length = n at *
  obtain ⟨d, hd⟩ : ∃ d, n + 4 = s + d := ⟨n + 4 - s, by omega⟩
  have h4 : 2 ^ d ≤ 3 ^ d := Nat.pow_le_pow_left (by decide) d
  have h5 := Nat.mul_le_mul h1 h4
  have e1 : X * (3 ^ n * 2 ^ s) * 2 ^ d = X * (3 ^ n * 2 ^ (n + 4)) := by
    rw [hd, Nat.pow_add]
    simp only [Nat.mul_assoc]
  have e2 : 4 ^ n * 3 ^ s * 3 ^ d = 4 ^ n * 3 ^ (n + 4) := by
    rw [hd, Nat.pow_add, Nat.mul_assoc]
  rw [e1, e2] at h5
  have hX : ∀ n, n ≤ 9 → X * (3 ^ n * 2 ^ (n + 4)) ≤ 4 ^ n * 3 ^ (n + 4) → X ≤ 2592 := by
    intro n hn h
    match n, hn with
    | 0, _ => simp at h; omega
    | 1, _ => simp at h; omega
    | 2, _ => simp at h; omega
    | 3, _ => simp at h; omega
    | 4, _ => simp at h; omega
    | 5, _ => simp at h; omega
    | 6, _ => simp at h; omega
    | 7, _ => simp at h; omega
    | 8, _ => simp at h; omega
    | 9, _ => simp at h; omega
    | n + 10, h => omega
  exact hX n h9 h5
theorem Uw_nil {c : Ch} (ok : c.Ok) (h9 : c.cs.length ≤ 9) (hm : c.ar.length ≤ c.cs.length + 4) {st : Nat} (hs : st < c.cs.length) : Uw c st [] ≤ 2592 := by
  refine Nat.le_trans ?_ (pr_bound ok h9 hm)
  have e : un c (plc c st []) = (List.range c.cs.length).filter fun x => decide (x ≠ st) := by
    unfold un plc
    refine List.filter_congr fun x _ => ?_
    by_cases h : x = st <;> simp [h]
  unfold Uw
  rw [e, pr_out (u := st) (l := List.range c.cs.length) List.nodup_range (List.mem_range.mpr hs), Nat.add_mul, Nat.one_mul]
  have := pr_pos (c := c) (l := (List.range c.cs.length).filter fun x => decide (x ≠ st))
  have e2 : ep c st [] = st := rfl
  rw [e2]
  omega
end Pa

set_option Elab.async false
set_option linter.all false
set_option maxRecDepth 100000
set_option maxHeartbeats 4000000
namespace Pa
open PySem L2
local macro_rules | `(tactic| walk_at "lt") => `(tactic| first
  | assumption
  | omega
  | (simp only [List.length_map, List.length_range, List.length_cons, List.length_nil, List.length_append, List.length_replicate] at *; omega))
local macro_rules | `(tactic| walk_at "fo") => `(tactic| first | exact foc0 | (refine' focS ?k1; (case k1 => walk_at "fo")))
local macro_rules | `(tactic| walk_at "sq") => `(tactic| first
  | assumption
  | (refine' SqL.of ?k1; (case k1 => assumption))
  | (refine' SqT.of ?k1; (case k1 => assumption))
  | (refine' Or.inl ?k1; (case k1 => walk_at "sq"))
  | (refine' Or.inr ?k1; (case k1 => walk_at "sq"))
  | (refine' Same.seq ?k1 ?k2; (case k1 => assumption); (case k2 => walk_at "sq"))
  | (refine' Same.sqt ?k1 ?k2; (case k1 => assumption); (case k2 => walk_at "sq"))
  | (refine' Same.sqe ?k1 ?k2; (case k1 => assumption); (case k2 => walk_at "sq"))
  | (refine' same_at ?k1 ?k2; (case k1 => assumption); (case k2 => walk_at "sq")))
local macro_rules | `(tactic| walk_at "ai") => `(tactic| first
  | assumption
  | (refine' ati_ints ?k1; (case k1 => walk_at "lt"))
  | (refine' ati_refs ?k1; (case k1 => walk_at "lt"))
  | (refine' ati_nat ?k1; (case k1 => assumption))
  | k_dflt rfl)
local macro_rules | `(tactic| walk_at "lk") => `(tactic| first
  | assumption
  | exact lk_hd
  | (refine' lk_tl ?k1 ?k2; (case k1 => decide +kernel); (case k2 => walk_at "lk"))
  | exact lk_nil)
local macro_rules | `(tactic| walk_at "sz") => `(tactic| first
  | exact small_sz (by simp only [List.length_cons, List.length_nil, List.length_append, List.length_map, List.length_range, List.length_set, List.length_replicate]; omega))
local macro_rules | `(tactic| walk_at "cc") => `(tactic| first
  | (show (0 : Int) < _; first | decide | omega)
  | exact Or.inl ⟨by omega, by omega⟩
  | exact Or.inr ⟨by omega, by omega⟩
  | exact ⟨by decide, by decide, by decide⟩
  | exact ⟨by decide, by decide⟩)
local macro_rules | `(tactic| walk_at "st") => `(tactic| first
  | with_reducible refine w_seq ?_
  | with_reducible refine w_asg ?_
  | ((with_reducible refine' w_var ?k1 ?_); (case k1 => k_dflt rfl))
  | with_reducible refine w_c ?_
  | with_reducible refine w_op ?_
  | with_reducible refine w_cons ?_
  | with_reducible refine w_nil ?_
  | with_reducible refine w_gname ?_
  | with_reducible refine w_I0 ?_
  | with_reducible refine w_fld ?_
  | ((with_reducible refine' w_ins ?k1 ?k2 ?k3 ?k4 ?k5 ?_); (case k1 => assumption); (case k2 => walk_at "sq"); (case k3 => assumption); (case k4 => assumption); (case k5 => walk_at "lk"))
  | ((with_reducible refine' w_ixT ?k1 ?k2 ?k3 ?_); (case k1 => assumption); (case k2 => walk_at "sq"); (case k3 => walk_at "ai"))
  | ((with_reducible refine' w_ixL ?k1 ?k2 ?k3 ?_); (case k1 => assumption); (case k2 => walk_at "sq"); (case k3 => walk_at "ai"))
  | ((with_reducible refine' w_ixM ?k1 ?k2 ?k3 ?_); (case k1 => assumption); (case k2 => walk_at "fo"); (case k3 => walk_at "ai"))
  | with_reducible refine w_cb ?_
  | with_reducible refine w_test ?_
  | with_reducible refine w_if ?_
  | with_reducible refine w_B ?_
  | with_reducible refine w_not ?_
  | with_reducible refine w_and ?_
  | with_reducible refine w_or ?_
  | with_reducible refine w_eqI ?_
  | with_reducible refine w_neI ?_
  | with_reducible refine w_isN ?_
  | with_reducible refine w_notN ?_
  | with_reducible refine w_isB ?_
  | with_reducible refine w_bl ?_
  | with_reducible refine w_ret ?_
  | with_reducible refine w_next ?_
  | with_reducible refine w_brk ?_
  | with_reducible refine w_drop ?_
  | with_reducible refine w_call ?_
  | with_reducible refine w_un ?_
  | with_reducible refine w_U ?_
  | with_reducible refine w_andV ?_
  | with_reducible refine w_orV ?_
  | with_reducible refine w_notV ?_
  | with_reducible refine w_ifE ?_
  | with_reducible refine w_chain ?_
  | with_reducible refine w_gsub ?_
  | with_reducible refine w_gnil ?_
  | with_reducible refine w_gcons ?_
  | with_reducible refine w_ipI ?_
  | with_reducible refine w_fldS ?_
  | with_reducible refine w_tru ?_
  | with_reducible refine w_abs ?_
  | with_reducible refine w_maxB ?_
  | with_reducible refine w_minB ?_
  | with_reducible refine w_int ?_
  | with_reducible refine w_tupE ?_
  | with_reducible refine w_lstE ?_
  | with_reducible refine w_bm ?_
  | with_reducible refine w_bm0 ?_
  | with_reducible refine w_mth ?_
  | with_reducible refine w_for0 ?_
  | with_reducible refine w_lc0 ?_
  | with_reducible refine w_il ?_
  | with_reducible refine w_it ?_
  | with_reducible refine w_is ?_
  | with_reducible refine w_ie ?_
  | with_reducible refine w_ir1 ?_
  | with_reducible refine w_ir2 ?_
  | with_reducible refine w_irv ?_
  | with_reducible refine w_rg1 ?_
  | with_reducible refine w_rg1v ?_
  | with_reducible refine w_lrg ?_
  | with_reducible refine w_make ?_
  | with_reducible refine w_yes ?_
  | with_reducible refine w_ost ?_
  | with_reducible refine w_mkoE ?_
  | with_reducible refine w_is_int_int ?_
  | with_reducible refine w_is_int_bool ?_
  | with_reducible refine w_is_int_str ?_
  | with_reducible refine w_is_int_tuple ?_
  | with_reducible refine w_is_bl_int ?_
  | with_reducible refine w_is_bl_bool ?_
  | with_reducible refine w_is_bl_str ?_
  | with_reducible refine w_is_bl_tuple ?_
  | with_reducible refine w_is_non_int ?_
  | with_reducible refine w_is_non_bool ?_
  | with_reducible refine w_is_non_str ?_
  | with_reducible refine w_is_non_tuple ?_
  | with_reducible refine w_is_str_int ?_
  | with_reducible refine w_is_str_bool ?_
  | with_reducible refine w_is_str_str ?_
  | with_reducible refine w_is_str_tuple ?_
  | ((with_reducible refine' w_insM ?k1 ?k2 ?k3 ?k4 ?k5 ?_); (case k1 => assumption); (case k2 => walk_at "fo"); (case k3 => assumption); (case k4 => assumption); (case k5 => walk_at "lk"))
  | ((with_reducible refine' w_ixE ?k1 ?k2 ?k3 ?_); (case k1 => assumption); (case k2 => walk_at "sq"); (case k3 => walk_at "ai"))
  | ((with_reducible refine' w_len ?k1 ?k2 ?_); (case k1 => assumption); (case k2 => walk_at "sq"))
  | ((with_reducible refine' w_lenM ?k1 ?k2 ?_); (case k1 => assumption); (case k2 => walk_at "fo"))
  | ((with_reducible refine' w_I ?k1 ?_); (case k1 => walk_at "cc"))
  | ((with_reducible refine' w_gtup ?k1 ?k2 ?_); (case k1 => refine' Mem.sqt ?m0 ?h0; (case m0 => assumption); (case h0 => walk_at "sq")); (case k2 => k_dflt rfl))
  | ((with_reducible refine' w_aug ?k1 ?_); (case k1 => k_dflt rfl))
  | ((with_reducible refine' w_truM ?k1 ?k2 ?_); (case k1 => assumption); (case k2 => walk_at "fo"))
  | ((with_reducible refine' w_truL ?k1 ?k2 ?_); (case k1 => assumption); (case k2 => walk_at "sq"))
  | ((with_reducible refine' w_tyL ?k1 ?k2 ?_); (case k1 => assumption); (case k2 => walk_at "fo"))
  | ((with_reducible refine' w_mthI ?k1 ?k2 ?k3 ?_); (case k1 => assumption); (case k2 => walk_at "sq"); (case k3 => walk_at "lk"))
  | ((with_reducible refine' w_sumM ?k1 ?k2 ?_); (case k1 => assumption); (case k2 => walk_at "fo"))
  | ((with_reducible refine' w_eqDN ?k1 ?k2 ?k3 ?_); (case k1 => assumption); (case k2 => walk_at "sq"); (case k3 => walk_at "sq"))
  | ((with_reducible refine' w_is_tup_int ?k1 ?k2 ?_); (case k1 => assumption); (case k2 => walk_at "sq"))
  | ((with_reducible refine' w_is_tup_bool ?k1 ?k2 ?_); (case k1 => assumption); (case k2 => walk_at "sq"))
  | ((with_reducible refine' w_is_tup_str ?k1 ?k2 ?_); (case k1 => assumption); (case k2 => walk_at "sq"))
  | ((with_reducible refine' w_is_tup_tuple ?k1 ?k2 ?_); (case k1 => assumption); (case k2 => walk_at "sq"))
  | dsimp only)
local macro_rules | `(tactic| walk_at "go") => `(tactic| repeat (walk_at "st"))
/-- a walk and its places, as the law holds them -/
def WkAt (K : PySem.W.Frag) (c : Ch) (st : Nat) (I : Hp) (t : Addr) (w : List Nat) : Prop := ∃ a b, SqT K I t [.ref a, .ref b] ∧ TupN K I a w ∧ TupN K I b (plc c st w)
theorem WkAt.mono {K : PySem.W.Frag} {c : Ch} {st : Nat} {I N : Hp} {ts : List Addr} {ws : List (List Nat)} (h : AllAt (WkAt K c st I) ts ws) (e : Same I N) : AllAt (WkAt K c st N) ts ws := AllAt.mono h fun t w h => by
  obtain ⟨a, b, h1, h2, h3⟩ := h
  exact ⟨a, b, Same.sqt e h1, Same.sqt e h2, Same.sqt e h3⟩
theorem ati_last {xs : List V} {v : V} (h : xs[xs.length - 1]? = some v) : atI xs (-1) = some v := by
  have hl := (List.getElem?_eq_some_iff.mp h).1
  have e : ixN xs.length (-1) = some (xs.length - 1) := by
    unfold ixN
    rw [if_neg (by omega), if_pos (by omega)]
    refine congrArg some ?_
    omega
  unfold atI
  rw [e]
  exact h
theorem ep_last {c : Ch} {st : Nat} {w : List Nat} : atI (nv (plc c st w)) (-1) = some (.int ((ep c st w : Nat) : Int)) := by
  refine ati_last ?_
  rw [List.length_map, plc_len, Nat.add_sub_cancel, List.getElem?_map, List.getElem?_eq_getElem (by rw [plc_len]; omega)]
  unfold ep
  rw [List.getD_eq_getElem?_getD, List.getElem?_eq_getElem (by rw [plc_len]; omega)]
  rfl
abbrev sU (c : Ch) (st : Nat) (ws : List (List Nat)) : Nat := (ws.map (Uw c st)).sum
/-- the paths told, those below at with all that grow of them -/
structure WI (c : Ch) (st : Nat) (ws : List (List Nat)) (at_ : Nat) : Prop where
  sp : ∀ w ∈ ws, SP c st w
  nil : [] ∈ ws
  cl : ∀ i, i < at_ → ∀ w, ws[i]? = some w → ∀ k, SP c st (w ++ [k]) → w ++ [k] ∈ ws
  le : at_ ≤ ws.length
  pot : at_ + sU c st (ws.drop at_) ≤ 2592
/-- how many arrows below j go out of v -/
def cj (c : Ch) (v j : Nat) : Nat := ((List.range j).filter fun k => decide (c.tl k = v)).length
theorem cj_succ {c : Ch} {v j : Nat} : cj c v (j + 1) = if c.tl j = v then cj c v j + 1 else cj c v j := by
  unfold cj
  rw [List.range_succ, List.filter_append, List.length_append, List.filter_cons]
  by_cases h : c.tl j = v
  · rw [if_pos h, if_pos (decide_eq_true h)]
    rfl
  · rw [if_neg h, if_neg (by simpa using h)]
    rfl
structure WJ (c : Ch) (st : Nat) (w : List Nat) (ch : List (List Nat)) (j : Nat) : Prop where
  sp : ∀ x ∈ ch, SP c st x
  cl : ∀ k, k < j → SP c st (w ++ [k]) → w ++ [k] ∈ ch
  pot : sU c st ch ≤ cj c (ep c st w) j * pr c (un c (plc c st w))
theorem WJ.no {c : Ch} {st : Nat} {w : List Nat} {ch : List (List Nat)} {j : Nat} (h : WJ c st w ch j) (n : ¬ SP c st (w ++ [j])) : WJ c st w ch (j + 1) := by
  refine ⟨h.sp, fun k hk hs => ?_, Nat.le_trans h.pot (Nat.mul_le_mul_right _ ?_)⟩
  · by_cases e : k = j
    · subst e
      exact absurd hs n
    · exact h.cl k (by omega) hs
  · rw [cj_succ]
    split <;> omega
theorem WJ.yes {c : Ch} (ok : c.Ok) {st : Nat} {w : List Nat} {ch : List (List Nat)} {j : Nat} (h : WJ c st w ch j) (y : SP c st (w ++ [j])) : WJ c st w (ch ++ [w ++ [j]]) (j + 1) := by
  obtain ⟨y1, y2, y3, y4, y5⟩ := y.inv
  refine ⟨fun x hx => ?_, fun k hk hs => ?_, ?_⟩
  · rcases List.mem_append.mp hx with hx | hx
    · exact h.sp x hx
    · rw [List.mem_singleton.mp hx]
      exact y
  · by_cases e : k = j
    · subst e
      exact List.mem_append_right _ List.mem_cons_self
    · exact List.mem_append_left _ (h.cl k (by omega) hs)
  · rw [sU, List.map_append, List.sum_append, List.map_cons, List.map_nil, List.sum_cons, List.sum_nil, cj_succ, if_pos y3, Nat.add_mul, Nat.one_mul]
    have a := h.pot
    have b := Uw_child (c := c) (st := st) (k := j) (w := w) (ok.hd j y2) y5
    unfold sU at a
    omega
theorem WI.step {c : Ch} {st : Nat} {ws ch : List (List Nat)} {at_ : Nat} {w : List Nat} (h : WI c st ws at_) (hw : ws[at_]? = some w) (j : WJ c st w ch c.ar.length) : WI c st (ws ++ ch) (at_ + 1) := by
  have hl := (List.getElem?_eq_some_iff.mp hw).1
  have he : ws[at_] = w := (List.getElem?_eq_some_iff.mp hw).2
  refine ⟨fun x hx => ?_, List.mem_append_left _ h.nil, fun i hi x hx k hs => ?_, by rw [List.length_append]; omega, ?_⟩
  · rcases List.mem_append.mp hx with hx | hx
    · exact h.sp x hx
    · exact j.sp x hx
  · rw [List.getElem?_append_left (by omega)] at hx
    by_cases e : i = at_
    · subst e
      rw [hw] at hx
      have e2 := Option.some.inj hx
      subst e2
      exact List.mem_append_right _ (j.cl k hs.inv.2.1 hs)
    · exact List.mem_append_left _ (h.cl i (by omega) x hx k hs)
  · have e1 : (ws ++ ch).drop (at_ + 1) = ws.drop (at_ + 1) ++ ch := List.drop_append_of_le_length (by omega)
    have e2 : ws.drop at_ = w :: ws.drop (at_ + 1) := by rw [List.drop_eq_getElem_cons hl, he]
    have p := h.pot
    have q := j.pot
    rw [e1, sU, List.map_append, List.sum_append]
    rw [e2, sU, List.map_cons, List.sum_cons] at p
    have e3 : Uw c st w = 1 + cj c (ep c st w) c.ar.length * pr c (un c (plc c st w)) := rfl
    rw [e3] at p
    unfold sU at q
    omega
theorem WI.fin {c : Ch} {st : Nat} {ws : List (List Nat)} (h : WI c st ws ws.length) : ∀ w, SP c st w → w ∈ ws := by
  intro w hw
  induction hw with
  | nil => exact h.nil
  | @snoc w k h1 h2 h3 h4 h5 ih =>
    obtain ⟨i, hi⟩ := List.mem_iff_getElem?.mp ih
    exact h.cl i (List.getElem?_eq_some_iff.mp hi).1 w hi k (.snoc h1 h2 h3 h4 h5)
theorem len_sU {c : Ch} {st : Nat} : ∀ ws : List (List Nat), ws.length ≤ sU c st ws
  | [] => Nat.le_refl _
  | w :: ws => by
    have := len_sU (c := c) (st := st) ws
    have := Uw_pos (c := c) (st := st) (w := w)
    unfold sU at *
    rw [List.map_cons, List.sum_cons, List.length_cons]
    omega
theorem WI.len {c : Ch} {st : Nat} {ws : List (List Nat)} {at_ : Nat} (h : WI c st ws at_) : ws.length ≤ 2592 := by
  have h1 := h.pot
  have h2 := len_sU (c := c) (st := st) (ws.drop at_)
  have h3 := h.le
  rw [List.length_drop] at h2
  omega
section
variable {P : Program} {w : World} {K : PySem.W.Frag} {mg : Str → Option Value} {base : Heap} {C : Ad}
abbrev N_law_walks : List Str := ["_law_chart_here", "_law_start", "_law_lowest", "_law_told", "_law_at", "_law_walk", "_law_places", "_law_k", "_law_tail", "_law_head"]
abbrev P_law_walks : List Str := ["_law_chart_here", "_law_start", "_law_lowest"]
theorem sc_law_walks : FnScope N_law_walks P_law_walks (defScope S_law_walks) := ⟨rfl, rfl, rfl, by decide +kernel, rfl, by decide +kernel, by decide +kernel⟩
-- slots: 0 _law_chart_here, 1 _law_start, 2 _law_lowest, 3 _law_told, 4 _law_at, 5 _law_walk, 6 _law_places, 7 _law_k, 8 _law_tail, 9 _law_head
def spWalks (K : PySem.W.Frag) : Sp := spN fun vs I R => ∃ (a : Addr) (c : Ch) (st : Nat), vs = [.ref a, .int (st : Int), .int (st : Int)] ∧ CtAt K I a c ∧ c.Ok ∧ c.cs.length ≤ 9 ∧ c.ar.length ≤ c.cs.length + 4 ∧ st < c.cs.length ∧
  R = fun v N => ∃ t ts ws, v = .ref t ∧ N t = some (.lst (ts.map V.ref)) ∧ AllAt (WkAt K c st N) ts ws ∧ (∀ w ∈ ws, SP c st w) ∧ (∀ w, SP c st w → w ∈ ws) ∧ ws.length ≤ 2592
theorem ok_law_walks {f : Addr} {fd : FuncData} (F : FnP K "_law_walks" "_law_walks" S_law_walks f fd) (T : Txt K mg C) : FnOk P w K mg base CX0 1 f fd P_law_walks (spWalks K) := by
  have nd := sc_law_walks.nd
  refine F.ok sc_law_walks (fun vs H Q E h => ?_) (fun cdv A outer s H vs Q E hr h => ?_)
  · obtain ⟨I, M, R, ⟨a, c, p, rfl, _⟩, _⟩ := h
    rfl
  obtain ⟨I, M, R, ⟨a, c, st, rfl, ⟨pa, ra, as, h1, h2, h3, h4⟩, ok, hn9, hma, hst, rfl⟩, hm, k⟩ := h
  refine ⟨_, PSs.nox (pss_cons (ps_set (i := 3) nd rfl (Or.inl rfl) (pe_lst (pa_cons (pe_tup (pa_cons (pe_tup pa_nil) (pa_cons (pe_tup (pa_cons (pv 1) pa_nil)) pa_nil))) pa_nil)))
    (pss_cons (ps_set (i := 4) nd rfl (Or.inl rfl) pe_int)
    (pss_cons (ps_while PassesOwn.never (PW.pt (pw_and (pt_cmpR op_lt (pv 4) (pe_callB cl_len (by rfl) T.b_len PySem.boot_len (pa_cons (pv 3) pa_nil)) (nomark _)) (pw_and1 (pt_cmpR op_lt (pv 4) pe_int (nomark _)))))
      (pss_cons (ps_asg (pe_ix ix_list (pv 3) (pv 4) (fun _ _ => rfl)) (pg_tup rfl (pgs_cons (pg_name (i := 5) nd rfl (Or.inl rfl)) (pgs_cons (pg_name (i := 6) nd rfl (Or.inl rfl)) pgs_nil))))
      (pss_cons (ps_for PassesOwn.never rfl (pi_range1 rfl T.b_range (pa_cons (pe_callB cl_len (by rfl) T.b_len PySem.boot_len (pa_cons (pe_ix ix_list (pv 0) pe_int (fun _ _ => rfl)) pa_nil)) pa_nil)) (pg_name (i := 7) nd rfl (Or.inl rfl))
        (pss_cons (ps_asg (pe_ix ix_tup (pe_ix ix_list (pv 0) pe_int (fun _ _ => rfl)) (pv 7) (fun _ _ => rfl)) (pg_tup rfl (pgs_cons (pg_name (i := 8) nd rfl (Or.inl rfl)) (pgs_cons (pg_name (i := 9) nd rfl (Or.inl rfl)) pgs_nil))))
        (pss_one (ps_if (PW.pt (pw_and (pt_cmpR op_eq (pv 8) (pe_ix ix_tup (pv 6) (pe_un un_neg pe_int) (fun _ _ => rfl)) (nomark _)) (pw_and (pt_cmpR op_ge (pv 9) (pv 2) (nomark _)) (pw_and1 (pt_cmpR op_notIn_seq (pv 9) (pv 6) (by rfl))))))
          (pss_one (ps_expr (pe_bm PySem.F.plainAttrs_list PySem.F.slot_list_append PySem.F.type_list_append mt_append (pv 3) (pa_cons (pe_tup (pa_cons (pe_op op_catA (pv 5) (pe_tup (pa_cons (pv 7) pa_nil))) (pa_cons (pe_op op_catA (pv 6) (pe_tup (pa_cons (pv 9) pa_nil))) pa_nil))) pa_nil))))
          pss_nil))))
      (pss_one (ps_set (i := 4) nd rfl (Or.inl rfl) (pe_op op_add (pv 4) pe_int))))))
    (pss_one (ps_ret (pv 3)))))), ?_⟩
  try dsimp only [cxOf, Cx.nox, Cx.wish]
  walk_at "go"
  refine w_tup hm (by walk_at "sz") fun t1 N1 H1 eN1 ht1 hm1 => ?_
  walk_at "go"
  refine w_tup hm1 (by walk_at "sz") fun t2 N2 H2 eN2 ht2 hm2 => ?_
  walk_at "go"
  refine w_tup hm2 (by walk_at "sz") fun t3 N3 H3 eN3 ht3 hm3 => ?_
  walk_at "go"
  refine w_lst hm3 (by walk_at "sz") fun pt H4 hm4 => ?_
  have eI := eN1.trans (eN2.trans eN3)
  have h1b : SqL K N3 a [.ref pa, .ref ra] := eI.seq h1
  have h3b : SqT K N3 ra (as.map V.ref) := Same.sqt eI h3
  have h4b := h4.mono eI
  have hw0 : WkAt K c st N3 t3 [] := ⟨t1, t2, SqT.of ht3, SqT.of (eN3 _ _ (eN2 _ _ ht1)), SqT.of (eN3 _ _ ht2)⟩
  clear eN1 eN2 eN3 h1 h3 h4 ht1 ht2 ht3 hm1 hm2 hm3 hm
  walk_at "go"
  refine w_while hm4 (fun m σ N M' => ∃ ts ws ax s5 s6 s7 s8 s9, σ = [some (.ref a), some (.int (st : Int)), some (.int (st : Int)), some (.ref pt), some (.int ((ax : Nat) : Int)), s5, s6, s7, s8, s9] ∧ M' = (pt, .lst (ts.map V.ref)) :: M ∧ AllAt (WkAt K c st N) ts ws ∧ WI c st ws ax ∧ m = 2592 - ax)
    _ ⟨[t3], [[]], 0, none, none, none, none, none, rfl, rfl, AllAt.nil.snoc hw0, ⟨fun w hw => by rw [List.mem_singleton.mp hw]; exact SP.nil, List.mem_cons_self, fun i hi => absurd hi (Nat.not_lt_zero _), Nat.zero_le _, by
      have := Uw_nil ok hn9 hma hst
      show 0 + (Uw c st [] + 0) ≤ 2592
      omega⟩, rfl⟩ ?_
  rintro m _ N _ H5 eN ⟨ts, ws, ax, s5, s6, s7, s8, s9, rfl, rfl, hts, hW, rfl⟩ hm5
  have hwl := hW.len
  have htl := hts.1
  walk_at "go"
  refine w_ite (fun hlt => ?_) fun hge => ?_
  · have hlt : ax < ts.length := by
      rw [List.length_map] at hlt
      omega
    have htx : ts[ax]? = some (ts.getD ax 0) := by
      rw [List.getD_eq_getElem?_getD, List.getElem?_eq_getElem hlt]
      rfl
    obtain ⟨w, hw, wa, wb, hw1, hw2, hw3⟩ := hts.get htx
    have hSP := hW.sp w (List.mem_of_getElem? hw)
    have hwn := hSP.len ok hst
    walk_at "go"
    refine w_ite (fun _ => w_wbody ?_) fun h => by omega
    walk_at "go"
    have h1c : SqL K N a [.ref pa, .ref ra] := eN.seq h1b
    have h3c : SqT K N ra (as.map V.ref) := Same.sqt eN h3b
    have h4c := h4b.mono eN
    rw [List.length_map, h4b.1]
    refine w_irr1 (by omega) fun J wk => ?_
    refine w_forZ wk hm5 (fun j σ N M' => ∃ ts2 ch s7 s8 s9, σ = [some (.ref a), some (.int (st : Int)), some (.int (st : Int)), some (.ref pt), some (.int ((ax : Nat) : Int)), some (.ref wa), some (.ref wb), s7, s8, s9] ∧ M' = (pt, .lst (ts2.map V.ref)) :: M ∧ AllAt (WkAt K c st N) ts2 (ws ++ ch) ∧ WJ c st w ch j ∧ ch.length ≤ j)
      ⟨ts, [], s7, s8, s9, rfl, rfl, by rw [List.append_nil]; exact hts, ⟨(fun x hx => nomatch hx), fun k hk => absurd hk (Nat.not_lt_zero _), Nat.zero_le _⟩, Nat.le_refl _⟩ ?_ ?_
    · rintro j _ N4 _ H6 hj eN4 ⟨ts2, ch, s7, s8, s9, rfl, rfl, hts2, hJ, hcl⟩ hm6
      have hpj : SqT K N4 (as.getD j 0) [.int ((c.tl j : Nat) : Int), .int ((c.hd j : Nat) : Int)] := (h4c.mono eN4).2 j hj
      have ja : j < as.length := by rw [h4b.1]; exact hj
      have aiE := ep_last (c := c) (st := st) (w := w)
      have h1d : SqL K N4 a [.ref pa, .ref ra] := eN4.seq h1c
      have h3d : SqT K N4 ra (as.map V.ref) := Same.sqt eN4 h3c
      have hw2d : TupN K N4 wa w := Same.sqt eN4 hw2
      have hw3d : TupN K N4 wb (plc c st w) := Same.sqt eN4 hw3
      have eR := eN4
      clear eN4
      have hl2 : ts2.length ≤ 2592 + 32 := by
        rw [hts2.1, List.length_append]
        have := ok.m32
        omega
      walk_at "go"
      refine w_ite (fun q1 => ?_) fun q1 => ?_
      · have q1 : c.tl j = ep c st w := by omega
        walk_at "go"
        refine w_ite (fun q2 => ?_) fun q2 => ?_
        · walk_at "go"
          refine w_in hm6 (.inr hw3d) rfl (flat_nats _) ?_
          rw [inV_nats]
          walk_at "go"
          refine w_iteNB (fun q3 => ?_) fun q3 => ?_
          · have hY : SP c st (w ++ [j]) := .snoc hSP hj q1 (by omega) (of_decide_eq_false q3)
            walk_at "go"
            refine w_tup hm6 (by walk_at "sz") fun u1 N5 H7 eN5 hu1 hm7 => ?_
            walk_at "go"
            refine w_catA hm7 (Same.sqt eN5 hw2d) (SqT.of hu1) (small_sz (by rw [List.length_map, List.length_singleton]; have := ok.n16; omega)) fun u2 N6 H8 eN6 hu2 hm8 => ?_
            walk_at "go"
            refine w_tup hm8 (by walk_at "sz") fun u3 N7 H9 eN7 hu3 hm9 => ?_
            walk_at "go"
            refine w_catA hm9 (Same.sqt (eN5.trans (eN6.trans eN7)) hw3d) (SqT.of hu3) (small_sz (by rw [List.length_map, List.length_singleton, plc_len]; have := ok.n16; omega)) fun u4 N8 H10 eN8 hu4 hm10 => ?_
            walk_at "go"
            refine w_tup hm10 (by walk_at "sz") fun u5 N9 H11 eN9 hu5 hm11 => ?_
            walk_at "go"
            refine w_app hm11 foc0 (small_sl (by rw [List.length_map]; omega)) fun H12 hm12 => ?_
            have eT := eN5.trans (eN6.trans (eN7.trans (eN8.trans eN9)))
            have hnew : WkAt K c st N9 u5 (w ++ [j]) := by
              refine ⟨u2, u4, SqT.of hu5, ?_, ?_⟩
              · have := Same.sqt (eN7.trans (eN8.trans eN9)) hu2
                rw [nv_app] at this
                exact this
              · have := Same.sqt eN9 hu4
                rw [nv_app] at this
                rw [plc_snoc]
                exact this
            refine ⟨_, _, eR.trans eT, ⟨ts2 ++ [u5], ch ++ [w ++ [j]], _, _, _, rfl, by rw [List.map_append]; rfl, ?_, hJ.yes ok hY, by rw [List.length_append, List.length_singleton]; omega⟩, hm12⟩
            rw [← List.append_assoc]
            exact (WkAt.mono hts2 eT).snoc hnew
          · walk_at "go"
            exact ⟨_, _, eR, ⟨ts2, ch, _, _, _, rfl, rfl, hts2, hJ.no fun z => z.inv.2.2.2.2 (of_decide_eq_true q3), by omega⟩, hm6⟩
        · walk_at "go"
          exact ⟨_, _, eR, ⟨ts2, ch, _, _, _, rfl, rfl, hts2, hJ.no fun z => by have := z.inv.2.2.2.1; omega, by omega⟩, hm6⟩
      · walk_at "go"
        exact ⟨_, _, eR, ⟨ts2, ch, _, _, _, rfl, rfl, hts2, hJ.no fun z => q1 (congrArg (Nat.cast (R := Int)) z.inv.2.2.1), by omega⟩, hm6⟩
    · rintro _ N4 _ H6 eN4 ⟨ts2, ch, s7, s8, s9, rfl, rfl, hts2, hJ, hcl⟩ hm6
      have hS := hW.step hw hJ
      walk_at "go"
      have ea : (ax : Int) + 1 = ((ax + 1 : Nat) : Int) := by omega
      rw [ea]
      exact ⟨2592 - (ax + 1), by omega, _, _, eN.trans eN4, ⟨ts2, ws ++ ch, ax + 1, _, _, _, _, _, rfl, rfl, hts2, hS, rfl⟩, hm6⟩
  · refine w_ff ?_
    have hax : ax = ws.length := by
      have := hW.le
      rw [List.length_map] at hge
      omega
    subst hax
    walk_at "go"
    refine w_frz hm5 fun N4 eN4 hpt hm6 => ?_
    exact k _ _ _ (eI.trans (eN.trans eN4)) hm6 ⟨pt, ts, ws, rfl, hpt, WkAt.mono hts eN4, hW.sp, hW.fin, hwl⟩
end

end Pa

set_option Elab.async false
set_option linter.all false
set_option maxRecDepth 100000
set_option maxHeartbeats 4000000
-- NOMAC
namespace Pa
theorem tails_plc {c : Ch} {v : Nat} : ∀ {w : List Nat} {st : Nat}, Pt c st v w → w.map c.tl ++ [v] = plc c st w
  | [], st, h => by
    have h : st = v := h
    subst h
    rfl
  | k :: w, st, h => by
    obtain ⟨h1, h2, h3⟩ := h
    have ih := tails_plc h3
    subst h2
    show c.tl k :: (w.map c.tl ++ [v]) = c.tl k :: (c.hd k :: w.map c.hd)
    rw [ih]
    rfl
theorem Pt.back {c : Ch} {v k : Nat} : ∀ {w : List Nat} {st : Nat}, Pt c st v (w ++ [k]) → Pt c st (c.tl k) w ∧ k < c.ar.length ∧ c.hd k = v
  | [], st, h => by
    obtain ⟨h1, h2, h3⟩ := h
    exact ⟨h2.symm, h1, h3⟩
  | j :: w, st, h => by
    obtain ⟨h1, h2, h3⟩ := h
    obtain ⟨a, b, d⟩ := Pt.back h3
    exact ⟨⟨h1, h2, a⟩, b, d⟩
theorem ring_of {c : Ch} {st k : Nat} {w : List Nat} (h : SP c st w) (hk : k < c.ar.length) (ht : c.tl k = ep c st w) (hh : c.hd k = st) : SR c (w ++ [k]) := by
  have hp := h.pt
  have e : (w ++ [k]).map c.tl = plc c st w := by
    rw [List.map_append, ← tails_plc hp, ← ht]
    rfl
  refine ⟨by simp, by rw [e]; exact h.nd, st, wk_pt.mpr ⟨?_, fun x hx => ?_⟩⟩
  · rw [← ht] at hp
    have := hp.snoc hk
    rw [hh] at this
    exact this
  · refine h.ge _ ?_
    rw [← e]
    exact List.mem_map.mpr ⟨x, hx, rfl⟩
theorem sp_of {c : Ch} {st : Nat} : ∀ (n : Nat) {w : List Nat} {v : Nat}, w.length = n → Pt c st v w → (plc c st w).Nodup → (∀ x ∈ plc c st w, st ≤ x) → SP c st w ∧ ep c st w = v
  | 0, w, v, hn, hp, _, _ => by
    have e := List.length_eq_zero_iff.mp hn
    subst e
    exact ⟨.nil, hp⟩
  | n + 1, w, v, hn, hp, hd, hg => by
    rcases List.eq_nil_or_concat w with e | ⟨w', k, e⟩
    · rw [e] at hn
      cases hn
    · rw [List.concat_eq_append] at e
      subst e
      rw [List.length_append, List.length_singleton] at hn
      obtain ⟨h1, h2, h3⟩ := hp.back
      rw [plc_snoc] at hd hg
      have hd2 := List.nodup_append.mp hd
      obtain ⟨i1, i2⟩ := sp_of n (by omega) h1 hd2.1 fun x hx => hg x (List.mem_append_left _ hx)
      refine ⟨.snoc i1 h2 i2.symm (hg _ (List.mem_append_right _ List.mem_cons_self)) fun z => hd2.2.2 _ z _ List.mem_cons_self rfl, ?_⟩
      rw [ep_snoc]
      exact h3
theorem of_ring {c : Ch} (ok : c.Ok) {r : List Nat} (h : SR c r) : ∃ st w k, st < c.cs.length ∧ r = w ++ [k] ∧ SP c st w ∧ k < c.ar.length ∧ c.tl k = ep c st w ∧ c.hd k = st := by
  obtain ⟨h1, h2, st, h3⟩ := h
  obtain ⟨h4, h5⟩ := wk_pt.mp h3
  rcases List.eq_nil_or_concat r with e | ⟨w, k, e⟩
  · exact absurd e h1
  · rw [List.concat_eq_append] at e
    subst e
    obtain ⟨g1, g2, g3⟩ := h4.back
    have e : (w ++ [k]).map c.tl = plc c st w := by
      rw [List.map_append, ← tails_plc g1]
      rfl
    rw [e] at h2
    obtain ⟨i1, i2⟩ := sp_of w.length rfl g1 h2 fun x hx => by
      rw [← e] at hx
      obtain ⟨y, hy, rfl⟩ := List.mem_map.mp hx
      exact h5 y hy
    exact ⟨st, w, k, by rw [← g3]; exact ok.hd k g2, rfl, i1, g2, i2.symm, g3⟩
/-- shorter, or as long and not behind -/
def RLe (a b : List Nat) : Prop := a.length < b.length ∨ (a.length = b.length ∧ li a ≤ li b)
instance (a b : List Nat) : Decidable (RLe a b) := inferInstanceAs (Decidable (_ ∨ _))
theorem RLe.trans {a b c : List Nat} (h1 : RLe a b) (h2 : RLe b c) : RLe a c := by
  rcases h1 with h1 | ⟨h1, h3⟩ <;> rcases h2 with h2 | ⟨h2, h4⟩
  · exact .inl (by omega)
  · exact .inl (by omega)
  · exact .inl (by omega)
  · exact .inr ⟨by omega, List.le_trans h3 h4⟩
theorem RLe.total (a b : List Nat) : RLe a b ∨ RLe b a := by
  rcases Nat.lt_trichotomy a.length b.length with h | h | h
  · exact .inl (.inl h)
  · exact (List.le_total (li a) (li b)).imp (fun z => .inr ⟨h, z⟩) fun z => .inr ⟨h.symm, z⟩
  · exact .inr (.inl h)
abbrev pD (l : List Nat) : PySem.PyData := .tuple [.int (l.length : Int), .tuple (l.map fun (x : Nat) => PySem.PyData.int (x : Int))]
theorem le_pairs (l m : List Nat) : (!PySem.W.dataLt (pD m) (pD l)) = decide (RLe l m) := by
  have a1 : PySem.W.alike (.int (m.length : Int)) (.int (l.length : Int)) = true := by simp [PySem.W.alike]
  have a2 : PySem.W.alike (.tuple (m.map fun (x : Nat) => PySem.PyData.int (x : Int))) (.tuple (l.map fun (x : Nat) => PySem.PyData.int (x : Int))) = true := by
    simp only [PySem.W.alike]
    exact alike_nats m l
  rw [PySem.W.dataLt_pair a1 a2, PySem.W.dataLt_int, lt_nats]
  have E1 : PySem.PyData.eqv (.int (m.length : Int)) (.int (l.length : Int)) = true ↔ m.length = l.length := by
    simp only [PySem.PyData.eqv, beq_iff_eq]
    omega
  have E2 : PySem.PyData.eqv (.tuple (m.map fun (x : Nat) => PySem.PyData.int (x : Int))) (.tuple (l.map fun (x : Nat) => PySem.PyData.int (x : Int))) = true ↔ m = l := by
    simp only [PySem.PyData.eqv]
    rw [eqv_nats, decide_eq_true_iff]
  by_cases h : m.length = l.length
  · rw [if_pos (E1.mpr h)]
    by_cases q : m = l
    · rw [if_pos (E2.mpr q)]
      subst q
      have : RLe m m := .inr ⟨rfl, List.le_refl _⟩
      rw [decide_eq_true this]
      rfl
    · rw [if_neg fun z => q (E2.mp z)]
      by_cases z : li m < li l
      · have n : ¬ RLe l m := fun r => by
          rcases r with r | ⟨_, r⟩
          · omega
          · exact List.not_lt.mpr r z
        rw [decide_eq_true z, decide_eq_false n]
        rfl
      · have y : RLe l m := .inr ⟨h.symm, List.not_lt.mp z⟩
        rw [decide_eq_false z, decide_eq_true y]
        rfl
  · rw [if_neg fun z => h (E1.mp z)]
    by_cases z : (m.length : Int) < (l.length : Int)
    · have n : ¬ RLe l m := fun r => by
        rcases r with r | ⟨r, _⟩ <;> omega
      rw [decide_eq_true z, decide_eq_false n]
      rfl
    · have y : RLe l m := .inl (by omega)
      rw [decide_eq_false z, decide_eq_true y]
      rfl
end Pa

set_option Elab.async false
set_option linter.all false
set_option maxRecDepth 100000
set_option maxHeartbeats 4000000
namespace Pa
open PySem L2
local macro_rules | `(tactic| walk_at "lt") => `(tactic| first
  | assumption
  | omega
  | (simp only [List.length_map, List.length_range, List.length_cons, List.length_nil, List.length_append, List.length_replicate] at *; omega))
local macro_rules | `(tactic| walk_at "fo") => `(tactic| first | exact foc0 | (refine' focS ?k1; (case k1 => walk_at "fo")))
local macro_rules | `(tactic| walk_at "sq") => `(tactic| first
  | assumption
  | (refine' SqL.of ?k1; (case k1 => assumption))
  | (refine' SqT.of ?k1; (case k1 => assumption))
  | (refine' Or.inl ?k1; (case k1 => walk_at "sq"))
  | (refine' Or.inr ?k1; (case k1 => walk_at "sq"))
  | (refine' Same.seq ?k1 ?k2; (case k1 => assumption); (case k2 => walk_at "sq"))
  | (refine' Same.sqt ?k1 ?k2; (case k1 => assumption); (case k2 => walk_at "sq"))
  | (refine' Same.sqe ?k1 ?k2; (case k1 => assumption); (case k2 => walk_at "sq"))
  | (refine' same_at ?k1 ?k2; (case k1 => assumption); (case k2 => walk_at "sq")))
local macro_rules | `(tactic| walk_at "ai") => `(tactic| first
  | assumption
  | (refine' ati_ints ?k1; (case k1 => walk_at "lt"))
  | (refine' ati_refs ?k1; (case k1 => walk_at "lt"))
  | (refine' ati_nat ?k1; (case k1 => assumption))
  | k_dflt rfl)
local macro_rules | `(tactic| walk_at "lk") => `(tactic| first
  | assumption
  | exact lk_hd
  | (refine' lk_tl ?k1 ?k2; (case k1 => decide +kernel); (case k2 => walk_at "lk"))
  | exact lk_nil)
local macro_rules | `(tactic| walk_at "sz") => `(tactic| first
  | exact small_sz (by simp only [List.length_cons, List.length_nil, List.length_append, List.length_map, List.length_range, List.length_set, List.length_replicate]; omega))
local macro_rules | `(tactic| walk_at "cc") => `(tactic| first
  | (show (0 : Int) < _; first | decide | omega)
  | exact Or.inl ⟨by omega, by omega⟩
  | exact Or.inr ⟨by omega, by omega⟩
  | exact ⟨by decide, by decide, by decide⟩
  | exact ⟨by decide, by decide⟩)
local macro_rules | `(tactic| walk_at "st") => `(tactic| first
  | with_reducible refine w_seq ?_
  | with_reducible refine w_asg ?_
  | ((with_reducible refine' w_var ?k1 ?_); (case k1 => k_dflt rfl))
  | with_reducible refine w_c ?_
  | with_reducible refine w_op ?_
  | with_reducible refine w_cons ?_
  | with_reducible refine w_nil ?_
  | with_reducible refine w_gname ?_
  | with_reducible refine w_I0 ?_
  | with_reducible refine w_fld ?_
  | ((with_reducible refine' w_ins ?k1 ?k2 ?k3 ?k4 ?k5 ?_); (case k1 => assumption); (case k2 => walk_at "sq"); (case k3 => assumption); (case k4 => assumption); (case k5 => walk_at "lk"))
  | ((with_reducible refine' w_ixT ?k1 ?k2 ?k3 ?_); (case k1 => assumption); (case k2 => walk_at "sq"); (case k3 => walk_at "ai"))
  | ((with_reducible refine' w_ixL ?k1 ?k2 ?k3 ?_); (case k1 => assumption); (case k2 => walk_at "sq"); (case k3 => walk_at "ai"))
  | ((with_reducible refine' w_ixM ?k1 ?k2 ?k3 ?_); (case k1 => assumption); (case k2 => walk_at "fo"); (case k3 => walk_at "ai"))
  | with_reducible refine w_cb ?_
  | with_reducible refine w_test ?_
  | with_reducible refine w_if ?_
  | with_reducible refine w_B ?_
  | with_reducible refine w_not ?_
  | with_reducible refine w_and ?_
  | with_reducible refine w_or ?_
  | with_reducible refine w_eqI ?_
  | with_reducible refine w_neI ?_
  | with_reducible refine w_isN ?_
  | with_reducible refine w_notN ?_
  | with_reducible refine w_isB ?_
  | with_reducible refine w_bl ?_
  | with_reducible refine w_ret ?_
  | with_reducible refine w_next ?_
  | with_reducible refine w_brk ?_
  | with_reducible refine w_drop ?_
  | with_reducible refine w_call ?_
  | with_reducible refine w_un ?_
  | with_reducible refine w_U ?_
  | with_reducible refine w_andV ?_
  | with_reducible refine w_orV ?_
  | with_reducible refine w_notV ?_
  | with_reducible refine w_ifE ?_
  | with_reducible refine w_chain ?_
  | with_reducible refine w_gsub ?_
  | with_reducible refine w_gnil ?_
  | with_reducible refine w_gcons ?_
  | with_reducible refine w_ipI ?_
  | with_reducible refine w_fldS ?_
  | with_reducible refine w_tru ?_
  | with_reducible refine w_abs ?_
  | with_reducible refine w_maxB ?_
  | with_reducible refine w_minB ?_
  | with_reducible refine w_int ?_
  | with_reducible refine w_tupE ?_
  | with_reducible refine w_lstE ?_
  | with_reducible refine w_bm ?_
  | with_reducible refine w_bm0 ?_
  | with_reducible refine w_mth ?_
  | with_reducible refine w_for0 ?_
  | with_reducible refine w_lc0 ?_
  | with_reducible refine w_il ?_
  | with_reducible refine w_it ?_
  | with_reducible refine w_is ?_
  | with_reducible refine w_ie ?_
  | with_reducible refine w_ir1 ?_
  | with_reducible refine w_ir2 ?_
  | with_reducible refine w_irv ?_
  | with_reducible refine w_rg1 ?_
  | with_reducible refine w_rg1v ?_
  | with_reducible refine w_lrg ?_
  | with_reducible refine w_make ?_
  | with_reducible refine w_yes ?_
  | with_reducible refine w_ost ?_
  | with_reducible refine w_mkoE ?_
  | with_reducible refine w_is_int_int ?_
  | with_reducible refine w_is_int_bool ?_
  | with_reducible refine w_is_int_str ?_
  | with_reducible refine w_is_int_tuple ?_
  | with_reducible refine w_is_bl_int ?_
  | with_reducible refine w_is_bl_bool ?_
  | with_reducible refine w_is_bl_str ?_
  | with_reducible refine w_is_bl_tuple ?_
  | with_reducible refine w_is_non_int ?_
  | with_reducible refine w_is_non_bool ?_
  | with_reducible refine w_is_non_str ?_
  | with_reducible refine w_is_non_tuple ?_
  | with_reducible refine w_is_str_int ?_
  | with_reducible refine w_is_str_bool ?_
  | with_reducible refine w_is_str_str ?_
  | with_reducible refine w_is_str_tuple ?_
  | ((with_reducible refine' w_insM ?k1 ?k2 ?k3 ?k4 ?k5 ?_); (case k1 => assumption); (case k2 => walk_at "fo"); (case k3 => assumption); (case k4 => assumption); (case k5 => walk_at "lk"))
  | ((with_reducible refine' w_ixE ?k1 ?k2 ?k3 ?_); (case k1 => assumption); (case k2 => walk_at "sq"); (case k3 => walk_at "ai"))
  | ((with_reducible refine' w_len ?k1 ?k2 ?_); (case k1 => assumption); (case k2 => walk_at "sq"))
  | ((with_reducible refine' w_lenM ?k1 ?k2 ?_); (case k1 => assumption); (case k2 => walk_at "fo"))
  | ((with_reducible refine' w_I ?k1 ?_); (case k1 => walk_at "cc"))
  | ((with_reducible refine' w_gtup ?k1 ?k2 ?_); (case k1 => refine' Mem.sqt ?m0 ?h0; (case m0 => assumption); (case h0 => walk_at "sq")); (case k2 => k_dflt rfl))
  | ((with_reducible refine' w_aug ?k1 ?_); (case k1 => k_dflt rfl))
  | ((with_reducible refine' w_truM ?k1 ?k2 ?_); (case k1 => assumption); (case k2 => walk_at "fo"))
  | ((with_reducible refine' w_truL ?k1 ?k2 ?_); (case k1 => assumption); (case k2 => walk_at "sq"))
  | ((with_reducible refine' w_tyL ?k1 ?k2 ?_); (case k1 => assumption); (case k2 => walk_at "fo"))
  | ((with_reducible refine' w_mthI ?k1 ?k2 ?k3 ?_); (case k1 => assumption); (case k2 => walk_at "sq"); (case k3 => walk_at "lk"))
  | ((with_reducible refine' w_sumM ?k1 ?k2 ?_); (case k1 => assumption); (case k2 => walk_at "fo"))
  | ((with_reducible refine' w_eqDN ?k1 ?k2 ?k3 ?_); (case k1 => assumption); (case k2 => walk_at "sq"); (case k3 => walk_at "sq"))
  | ((with_reducible refine' w_is_tup_int ?k1 ?k2 ?_); (case k1 => assumption); (case k2 => walk_at "sq"))
  | ((with_reducible refine' w_is_tup_bool ?k1 ?k2 ?_); (case k1 => assumption); (case k2 => walk_at "sq"))
  | ((with_reducible refine' w_is_tup_str ?k1 ?k2 ?_); (case k1 => assumption); (case k2 => walk_at "sq"))
  | ((with_reducible refine' w_is_tup_tuple ?k1 ?k2 ?_); (case k1 => assumption); (case k2 => walk_at "sq"))
  | dsimp only)
local macro_rules | `(tactic| walk_at "go") => `(tactic| repeat (walk_at "st"))
/-- a ring with its length ahead, as the law sorts them -/
def RgAt (K : PySem.W.Frag) (I : Hp) (t : Addr) (w : List Nat) : Prop := ∃ r, SqT K I t [.int (w.length : Int), .ref r] ∧ TupN K I r w
theorem RgAt.mono1 {K : PySem.W.Frag} {I N : Hp} {t : Addr} {w : List Nat} (h : RgAt K I t w) (e : Same I N) : RgAt K N t w := by
  obtain ⟨r, h1, h2⟩ := h
  exact ⟨r, Same.sqt e h1, Same.sqt e h2⟩
abbrev zP (z : Addr × List Nat) : V × PyData := (.ref z.1, pD z.2)
theorem pd_depth (l : List Nat) : PyData.depth (pD l) ≤ 60 := by
  have h := (lay_nats l).2
  simp only [PyData.depth, PyData.depthAll]
  omega
theorem w_sortedP {K : PySem.W.Frag} {I H : Hp} {M : Mu} {a : Addr} {f : HO → Mu} {ts : List Addr} {ls : List (List Nat)} {Q : VK} (hm : Mem I M H) (hf : Foc M a (.lst (ts.map V.ref)) f) (hts : AllAt (RgAt K I) ts ls)
    (q : ∀ ts' ls' p N H', AllAt (RgAt K I) ts' ls' → ls'.Perm ls → ls'.Pairwise RLe → Same I N → N p = some (.lst (ts'.map V.ref)) → Mem N M H' → Q (.ref p) H') : rSortedD K [.ref a] H Q := by
  have e1 : (ts.zip ls).map (·.1) = ts := by rw [List.map_fst_zip]; exact Nat.le_of_eq hts.1
  have e2 : (ts.zip ls).map (·.2) = ls := by rw [List.map_snd_zip]; exact Nat.le_of_eq hts.1.symm
  have hz : ∀ z ∈ ts.zip ls, RgAt K I z.1 z.2 := fun z hz => by
    obtain ⟨j, hj⟩ := List.mem_iff_getElem?.mp hz
    rw [List.getElem?_zip_eq_some] at hj
    exact hts.2 j _ _ hj.1 hj.2
  refine ⟨a, ts.map V.ref, (ts.zip ls).map zP, rfl, SqL.of (hf.at hm), ?_, ?_, ?_, ?_, ?_, fun p hp => ?_⟩
  · rw [List.map_map]
    show _ = (ts.zip ls).map (V.ref ∘ (·.1))
    rw [← List.map_map, e1]
  · intro b hb
    obtain ⟨z, hz2, rfl⟩ := List.mem_map.mp hb
    obtain ⟨r, h1, h2⟩ := hz z hz2
    exact .tup (hm.sqt h1) (.cons (.int _) (.cons (dpv_nats (hm.sqt h2)) .nil))
  · intro d hd d' hd'
    rw [List.map_map] at hd hd'
    obtain ⟨z, _, rfl⟩ := List.mem_map.mp hd
    obtain ⟨z', _, rfl⟩ := List.mem_map.mp hd'
    show PySem.W.alike (.tuple [_, _]) (.tuple [_, _]) = true
    simp only [PySem.W.alike, PySem.W.alikeAll, Bool.true_and, Bool.and_true]
    exact alike_nats _ _
  · refine .inl fun d hd => ?_
    rw [List.map_map] at hd
    obtain ⟨z, _, rfl⟩ := List.mem_map.mp hd
    exact ⟨_, _, rfl⟩
  · intro b hb
    obtain ⟨z, _, rfl⟩ := List.mem_map.mp hb
    exact pd_depth _
  · have le : ∀ x y : Addr × List Nat, PySem.W.dataLe false (·.2) (zP x) (zP y) = decide (RLe x.2 y.2) := fun x y => by
      rw [PySem.W.dataLe_eq]
      exact le_pairs _ _
    have e3 : ((ts.zip ls).map zP).mergeSort (PySem.W.dataLe false (·.2)) = ((ts.zip ls).mergeSort fun x y => decide (RLe x.2 y.2)).map zP := by
      rw [← List.map_mergeSort]
      exact fun x _ y _ => (le x y).symm
    have e4 : (((ts.zip ls).mergeSort fun x y => decide (RLe x.2 y.2)).map zP).map (·.1) = (((ts.zip ls).mergeSort fun x y => decide (RLe x.2 y.2)).map (·.1)).map V.ref := by
      rw [List.map_map, List.map_map]
      rfl
    rw [e3, e4]
    have hpm := List.mergeSort_perm (ts.zip ls) fun x y => decide (RLe x.2 y.2)
    refine q (((ts.zip ls).mergeSort fun x y => decide (RLe x.2 y.2)).map (·.1)) (((ts.zip ls).mergeSort fun x y => decide (RLe x.2 y.2)).map (·.2)) p _ _ (AllAt.unzip fun z hz3 => hz z (hpm.mem_iff.mp hz3)) ?_ ?_ (Same.new (hm.free hp)) upd_same ?_
    · have := hpm.map (·.2)
      rw [e2] at this
      exact this
    · refine List.pairwise_map.mpr ((List.pairwise_mergeSort (fun a b c h1 h2 => ?_) (fun a b => ?_) (ts.zip ls)).imp fun h => of_decide_eq_true h)
      · exact decide_eq_true ((of_decide_eq_true h1 : RLe _ _).trans (of_decide_eq_true h2))
      · rw [Bool.or_eq_true, decide_eq_true_iff, decide_eq_true_iff]
        exact RLe.total _ _
    · exact hm.imm hp
theorem small_szM {n : Nat} (h : n ≤ 1000000) : n < sizeLine := Nat.lt_of_le_of_lt h (by decide)
theorem pair_eq {c : Ch} {k a b : Nat} : ([c.tl k, c.hd k] = [a, b]) ↔ (c.tl k = a ∧ c.hd k = b) := by simp
section
variable {P : Program} {w : World} {K : PySem.W.Frag} {mg : Str → Option Value} {base : Heap} {C : Ad}
abbrev N_law_rings : List Str := ["_law_chart_here", "_law_told", "_law_start", "_law_walk", "_law_places", "_law_k", "_law_pair"]
abbrev P_law_rings : List Str := ["_law_chart_here"]
theorem sc_law_rings : FnScope N_law_rings P_law_rings (defScope S_law_rings) := ⟨rfl, rfl, rfl, by decide +kernel, rfl, by decide +kernel, by decide +kernel⟩
-- slots: 0 _law_chart_here, 1 _law_told, 2 _law_start, 3 _law_walk, 4 _law_places, 5 _law_k, 6 _law_pair
def spRings (K : PySem.W.Frag) : Sp := spN fun vs I R => ∃ (a : Addr) (c : Ch), vs = [.ref a] ∧ CtAt K I a c ∧ c.Ok ∧ c.cs.length ≤ 9 ∧ c.ar.length ≤ c.cs.length + 4 ∧
  R = fun v N => ∃ t ts rs, v = .ref t ∧ N t = some (.lst (ts.map V.ref)) ∧ AllAt (TupN K N) ts rs ∧ (∀ r ∈ rs, SR c r) ∧ (∀ r, SR c r → r ∈ rs) ∧ rs.Pairwise RLe
theorem ok_law_rings {f : Addr} {fd : FuncData} (F : FnP K "_law_rings" "_law_rings" S_law_rings f fd) (T : Txt K mg C) (G_law_walks : FnAt P w K mg base "_law_walks" 1 P_law_walks (spWalks K)) : FnOk P w K mg base CX0 2 f fd P_law_rings (spRings K) := by
  have nd := sc_law_rings.nd
  refine F.ok sc_law_rings (fun vs H Q E h => ?_) (fun cdv A outer s H vs Q E hr h => ?_)
  · obtain ⟨I, M, R, ⟨a, c, rfl, _⟩, _⟩ := h
    rfl
  obtain ⟨I, M, R, ⟨a, c, rfl, hct, ok, hn9, hma, rfl⟩, hm, k⟩ := h
  have hct2 := hct
  obtain ⟨pa, ra, as, h1, h2, h3, h4⟩ := hct
  have las : (as.map V.ref).length = c.ar.length := by rw [List.length_map, h4.1]
  refine ⟨_, PSs.nox (pss_cons (ps_set (i := 1) nd rfl (Or.inl rfl) (pe_lst pa_nil))
    (pss_cons (ps_for PassesOwn.never rfl (pi_range1 rfl T.b_range (pa_cons (pe_callB cl_len (by rfl) T.b_len PySem.boot_len (pa_cons (pe_ix ix_list (pv 0) pe_int (fun _ _ => rfl)) pa_nil)) pa_nil)) (pg_name (i := 2) nd rfl (Or.inl rfl))
      (pss_one (ps_for PassesOwn.never rfl (pi_list (pe_fn G_law_walks (hr.mono (by decide)) (pa_cons (pv 0) (pa_cons (pv 2) (pa_cons (pv 2) pa_nil))))) (pg_tup rfl (pgs_cons (pg_name (i := 3) nd rfl (Or.inl rfl)) (pgs_cons (pg_name (i := 4) nd rfl (Or.inl rfl)) pgs_nil)))
        (pss_one (ps_for PassesOwn.never rfl (pi_range1 rfl T.b_range (pa_cons (pe_callB cl_len (by rfl) T.b_len PySem.boot_len (pa_cons (pe_ix ix_list (pv 0) pe_int (fun _ _ => rfl)) pa_nil)) pa_nil)) (pg_name (i := 5) nd rfl (Or.inl rfl))
          (pss_one (ps_if (pt_cmpR (op_eqD hr.units) (pe_ix ix_tup (pe_ix ix_list (pv 0) pe_int (fun _ _ => rfl)) (pv 5) (fun _ _ => rfl)) (pe_tup (pa_cons (pe_ix ix_tup (pv 4) (pe_un un_neg pe_int) (fun _ _ => rfl)) (pa_cons (pv 2) pa_nil))) (nomark _))
            (pss_one (ps_expr (pe_bm PySem.F.plainAttrs_list PySem.F.slot_list_append PySem.F.type_list_append mt_append (pv 1) (pa_cons (pe_tup (pa_cons (pe_op op_add (pe_callB cl_len (by rfl) T.b_len PySem.boot_len (pa_cons (pv 3) pa_nil)) pe_int) (pa_cons (pe_op op_catA (pv 3) (pe_tup (pa_cons (pv 5) pa_nil))) pa_nil))) pa_nil))))
            pss_nil)))))))
    (pss_one (ps_ret (pe_lc (own := [("_law_pair", 6)]) (g := (gName 6)) (tt := tYes) (te := (tOp (rIxT K) (tVar 6) (tC (.int 1)))) rfl nd (pi_list (pe_callB (cr_sortedD hr) (by rfl) T.b_sorted PyProof.Rows.boot_sorted (pa_cons (pv 1) pa_nil))) (blkOk_by (N := N_law_rings) (sc := defScope S_law_rings) (by decide +kernel)) (fun _ _ _ _ _ => (pg_name (i := 6) nd rfl (Or.inl rfl))) (fun _ _ _ _ _ => pts_nil) (fun _ _ _ _ _ => (pe_ix ix_tup (pv 6) pe_int (fun _ _ => rfl)))))))), ?_⟩
  try dsimp only [cxOf, Cx.nox, Cx.wish]
  walk_at "go"
  refine w_lst hm (by walk_at "sz") fun pt H1 hm1 => ?_
  walk_at "go"
  rw [List.length_map]
  refine w_irr1 (by omega) fun J wk => ?_
  refine w_forZ wk hm1 (fun i σ N M' => ∃ ts rs s2 s3 s4 s5, σ = [some (.ref a), some (.ref pt), s2, s3, s4, s5, none] ∧ M' = (pt, .lst (ts.map V.ref)) :: M ∧ AllAt (RgAt K N) ts rs ∧ (∀ r ∈ rs, SR c r) ∧ rs.length ≤ i * 40000 ∧
      ∀ st w k, st < i → SP c st w → k < c.ar.length → c.tl k = ep c st w → c.hd k = st → w ++ [k] ∈ rs)
    ⟨[], [], none, none, none, none, rfl, rfl, AllAt.nil, (fun r hr => nomatch hr), Nat.zero_le _, fun st w k hi => absurd hi (Nat.not_lt_zero _)⟩ ?_ ?_
  · rintro i _ N _ H2 hi eN ⟨ts, rs, s2, s3, s4, s5, rfl, rfl, hts, hSR, hl, hall⟩ hm2
    walk_at "go"
    refine w_spN hm2 ⟨a, c, i, rfl, hct2.mono eN, ok, hn9, hma, hi, rfl⟩ fun v N2 H3 eN2 hm3 hR => ?_
    obtain ⟨tw, tws, ws, rfl, htw, hws, hsp, hsp2, hwl⟩ := hR
    walk_at "go"
    refine w_ill hm3 (SqL.of htw) fun J2 wk2 => ?_
    refine w_for wk2 hm3 (fun j σ N M' => ∃ ts rs s3 s4 s5, σ = [some (.ref a), some (.ref pt), some (.int (i : Int)), s3, s4, s5, none] ∧ M' = (pt, .lst (ts.map V.ref)) :: M ∧ AllAt (RgAt K N) ts rs ∧ (∀ r ∈ rs, SR c r) ∧ rs.length ≤ i * 40000 + j * 13 ∧
        (∀ st w k, st < i → SP c st w → k < c.ar.length → c.tl k = ep c st w → c.hd k = st → w ++ [k] ∈ rs) ∧ ∀ l w k, l < j → ws[l]? = some w → k < c.ar.length → c.tl k = ep c i w → c.hd k = i → w ++ [k] ∈ rs)
      ⟨ts, rs, s3, s4, s5, rfl, rfl, hts.mono fun t w h => h.mono1 eN2, hSR, by omega, hall, fun l w k hl => absurd hl (Nat.not_lt_zero _)⟩ ?_ ?_
    · rintro j x _ N3 _ H4 hj hx eN3 ⟨ts, rs, s3, s4, s5, rfl, rfl, hts, hSR, hl, hall, hin⟩ hm4
      obtain ⟨tj, htj, rfl⟩ := refs_get hx
      obtain ⟨w, hw, hWk⟩ := hws.get htj
      obtain ⟨wa, wb, hw1, hw2, hw3⟩ := WkAt.mono (AllAt.nil.snoc hWk) eN3 |>.2 0 tj w rfl rfl
      have hSPw := hsp w (List.mem_of_getElem? hw)
      have hwn := hSPw.len ok hi
      have eZ := eN.trans (eN2.trans eN3)
      have h1c : SqL K N3 a [.ref pa, .ref ra] := eZ.seq h1
      have h3c : SqT K N3 ra (as.map V.ref) := Same.sqt eZ h3
      have h4c := h4.mono eZ
      have eR := eN3
      clear eN3
      have hj2 : j < ws.length := (List.getElem?_eq_some_iff.mp hw).1
      walk_at "go"
      rw [las]
      refine w_irr1 (by omega) fun J3 wk3 => ?_
      refine w_forZ wk3 hm4 (fun q σ N M' => ∃ ts rs s5, σ = [some (.ref a), some (.ref pt), some (.int (i : Int)), some (.ref wa), some (.ref wb), s5, none] ∧ M' = (pt, .lst (ts.map V.ref)) :: M ∧ AllAt (RgAt K N) ts rs ∧ (∀ r ∈ rs, SR c r) ∧ rs.length ≤ i * 40000 + j * 13 + q ∧
          (∀ st w k, st < i → SP c st w → k < c.ar.length → c.tl k = ep c st w → c.hd k = st → w ++ [k] ∈ rs) ∧ (∀ l w k, l < j → ws[l]? = some w → k < c.ar.length → c.tl k = ep c i w → c.hd k = i → w ++ [k] ∈ rs) ∧ ∀ k, k < q → c.tl k = ep c i w → c.hd k = i → w ++ [k] ∈ rs)
        ⟨ts, rs, s5, rfl, rfl, hts, hSR, hl, hall, hin, fun k hk => absurd hk (Nat.not_lt_zero _)⟩ ?_ ?_
      · rintro q _ N4 _ H5 hq eN4 ⟨ts, rs, s5, rfl, rfl, hts, hSR, hl, hall, hin, hq2⟩ hm5
        have ja : q < as.length := by rw [h4c.1]; exact hq
        have hpj : SqT K N4 (as.getD q 0) [.int ((c.tl q : Nat) : Int), .int ((c.hd q : Nat) : Int)] := (h4c.mono eN4).2 q hq
        have h1d : SqL K N4 a [.ref pa, .ref ra] := eN4.seq h1c
        have h3d : SqT K N4 ra (as.map V.ref) := Same.sqt eN4 h3c
        have hw2d : TupN K N4 wa w := Same.sqt eN4 hw2
        have hw3d : TupN K N4 wb (plc c i w) := Same.sqt eN4 hw3
        have aiE := ep_last (c := c) (st := i) (w := w)
        have eS := eN4
        clear eN4
        have hrl : ts.length ≤ 400000 := by
          rw [hts.1]
          omega
        walk_at "go"
        refine w_tup hm5 (by walk_at "sz") fun u0 N5 H6 eN5 hu0 hm6 => ?_
        walk_at "go"
        refine w_eqDN (l := [c.tl q, c.hd q]) (m := [ep c i w, i]) hm6 (Same.sqt eN5 hpj) (SqT.of hu0) ?_
        walk_at "go"
        refine w_ite (fun q1 => ?_) fun q1 => ?_
        · obtain ⟨q1, q2⟩ := pair_eq.mp q1
          walk_at "go"
          refine w_tup hm6 (by walk_at "sz") fun u1 N6 H7 eN6 hu1 hm7 => ?_
          walk_at "go"
          refine w_catA hm7 (Same.sqt (eN5.trans eN6) hw2d) (SqT.of hu1) (small_sz (by rw [List.length_map, List.length_singleton]; omega)) fun u2 N7 H8 eN7 hu2 hm8 => ?_
          walk_at "go"
          refine w_tup hm8 (by walk_at "sz") fun u3 N8 H9 eN8 hu3 hm9 => ?_
          walk_at "go"
          refine w_app hm9 foc0 (small_szM (by rw [List.length_map]; omega)) fun H10 hm10 => ?_
          have eT := eN5.trans (eN6.trans (eN7.trans eN8))
          have hnew : RgAt K N8 u3 (w ++ [q]) := by
            refine ⟨u2, ?_, ?_⟩
            · have e : ((w ++ [q]).length : Int) = ((w.map fun (k : Nat) => V.int (k : Int)).length : Int) + 1 := by
                rw [List.length_append, List.length_map, List.length_singleton]
                omega
              rw [e]
              exact SqT.of hu3
            · have := Same.sqt eN8 hu2
              rw [nv_app] at this
              exact this
          refine ⟨_, _, eS.trans eT, ⟨ts ++ [u3], rs ++ [w ++ [q]], _, rfl, by rw [List.map_append]; rfl, (hts.mono fun t w h => h.mono1 eT).snoc hnew, fun r hr => ?_, by rw [List.length_append, List.length_singleton]; omega, fun st w k z1 z2 z3 z4 z5 => List.mem_append_left _ (hall st w k z1 z2 z3 z4 z5), fun l w k z1 z2 z3 z4 z5 => List.mem_append_left _ (hin l w k z1 z2 z3 z4 z5), fun k z1 z2 z3 => ?_⟩, hm10⟩
          · rcases List.mem_append.mp hr with hr | hr
            · exact hSR r hr
            · rw [List.mem_singleton.mp hr]
              exact ring_of hSPw hq q1 q2
          · by_cases ek : k = q
            · subst ek
              exact List.mem_append_right _ List.mem_cons_self
            · exact List.mem_append_left _ (hq2 k (by omega) z2 z3)
        · walk_at "go"
          refine ⟨_, _, eS.trans eN5, ⟨ts, rs, _, rfl, rfl, hts.mono fun t w h => h.mono1 eN5, hSR, by omega, hall, hin, fun k z1 z2 z3 => ?_⟩, hm6⟩
          by_cases ek : k = q
          · subst ek
            exact absurd (pair_eq.mpr ⟨z2, z3⟩) q1
          · exact hq2 k (by omega) z2 z3
      · rintro _ N4 _ H5 eN4 ⟨ts, rs, s5, rfl, rfl, hts, hSR, hl, hall, hin, hq2⟩ hm5
        refine ⟨_, _, eR.trans eN4, ⟨ts, rs, _, _, _, rfl, rfl, hts, hSR, by omega, hall, fun l w' k z1 z2 z3 z4 z5 => ?_⟩, hm5⟩
        by_cases el : l = j
        · subst el
          rw [hw] at z2
          have e := Option.some.inj z2
          subst e
          exact hq2 k z3 z4 z5
        · exact hin l w' k (by omega) z2 z3 z4 z5
    · rintro _ N3 _ H4 eN3 ⟨ts, rs, s3, s4, s5, rfl, rfl, hts, hSR, hl, hall, hin⟩ hm4
      rw [List.length_map, hws.1] at hl hin
      refine ⟨_, _, eN.trans (eN2.trans eN3), ⟨ts, rs, _, _, _, _, rfl, rfl, hts, hSR, by omega, fun st w k z1 z2 z3 z4 z5 => ?_⟩, hm4⟩
      by_cases es : st = i
      · subst es
        obtain ⟨l, hlw⟩ := List.mem_iff_getElem?.mp (hsp2 w z2)
        exact hin l w k (List.getElem?_eq_some_iff.mp hlw).1 hlw z3 z4 z5
      · exact hall st w k (by omega) z2 z3 z4 z5
  · rintro _ N _ H2 eN ⟨ts, rs, s2, s3, s4, s5, rfl, rfl, hts, hSR, hl, hall⟩ hm2
    walk_at "go"
    refine w_sortedP hm2 foc0 hts fun ts' rs' p N2 H3 hts' hpm hpw eN2 hp hm3 => ?_
    walk_at "go"
    refine w_ill hm3 (SqL.of hp) fun J2 wk2 => ?_
    refine w_lcGA wk2 hm3 (fun j acc N M' => ∃ us, acc = us.map V.ref ∧ M' = (pt, .lst (ts.map V.ref)) :: M ∧ AllAt (TupN K N) us (rs'.take j)) ⟨[], rfl, rfl, AllAt.nil⟩ (fun j x D acc N3 M' H4 Yes No hj hx eN3 hPv hm4 hyes hno => ?_) fun D acc N3 M' H4 eN3 hPv hm4 => ?_
    · obtain ⟨us, rfl, rfl, hus⟩ := hPv
      obtain ⟨tj, htj, rfl⟩ := refs_get hx
      obtain ⟨r, hr, ra2, hr1, hr2⟩ := hts'.get htj
      have hr1c : SqT K N3 tj [.int (r.length : Int), .ref ra2] := Same.sqt (eN2.trans eN3) hr1
      have hr2c : TupN K N3 ra2 r := Same.sqt (eN2.trans eN3) hr2
      walk_at "go"
      refine ⟨rfl, ?_⟩
      walk_at "go"
      refine iteT ?_
      have eR := eN3
      clear eN3
      walk_at "go"
      refine hyes _ _ _ _ eR ⟨us ++ [ra2], by rw [List.map_append]; rfl, rfl, ?_⟩ ?_ hm4
      · have et : rs'.take (j + 1) = rs'.take j ++ [r] := by rw [List.take_add_one, hr]; rfl
        rw [et]
        exact hus.snoc hr2c
      · refine small_szM ?_
        rw [List.length_map, hus.1, List.length_take]
        have := hpm.length_eq
        omega
    · obtain ⟨us, rfl, rfl, hus⟩ := hPv
      rw [List.length_map, hts'.1, List.take_of_length_le (Nat.le_refl _)] at hus
      refine w_frz hm4 fun N4 eN4 hD hm5 => ?_
      refine k _ _ _ (eN.trans (eN2.trans (eN3.trans eN4))) hm5.drop ⟨D, us, rs', rfl, hD, hus.mono fun t r h => Same.sqt eN4 h, fun r hr => hSR r (hpm.mem_iff.mp hr), fun r hr => ?_, hpw⟩
      obtain ⟨st, w, k2, z1, z2, z3, z4, z5, z6⟩ := of_ring ok hr
      rw [z2]
      exact hpm.mem_iff.mpr (hall st w k2 z1 z3 z4 z5 z6)
end

end Pa

set_option Elab.async false
set_option linter.all false
set_option maxRecDepth 100000
set_option maxHeartbeats 4000000
namespace Pa
open PySem L2
local macro_rules | `(tactic| walk_at "lt") => `(tactic| first
  | assumption
  | omega
  | (simp only [List.length_map, List.length_range, List.length_cons, List.length_nil, List.length_append, List.length_replicate] at *; omega))
local macro_rules | `(tactic| walk_at "fo") => `(tactic| first | exact foc0 | (refine' focS ?k1; (case k1 => walk_at "fo")))
local macro_rules | `(tactic| walk_at "sq") => `(tactic| first
  | assumption
  | (refine' SqL.of ?k1; (case k1 => assumption))
  | (refine' SqT.of ?k1; (case k1 => assumption))
  | (refine' Or.inl ?k1; (case k1 => walk_at "sq"))
  | (refine' Or.inr ?k1; (case k1 => walk_at "sq"))
  | (refine' Same.seq ?k1 ?k2; (case k1 => assumption); (case k2 => walk_at "sq"))
  | (refine' Same.sqt ?k1 ?k2; (case k1 => assumption); (case k2 => walk_at "sq"))
  | (refine' Same.sqe ?k1 ?k2; (case k1 => assumption); (case k2 => walk_at "sq"))
  | (refine' same_at ?k1 ?k2; (case k1 => assumption); (case k2 => walk_at "sq")))
local macro_rules | `(tactic| walk_at "ai") => `(tactic| first
  | assumption
  | (refine' ati_ints ?k1; (case k1 => walk_at "lt"))
  | (refine' ati_refs ?k1; (case k1 => walk_at "lt"))
  | (refine' ati_nat ?k1; (case k1 => assumption))
  | k_dflt rfl)
local macro_rules | `(tactic| walk_at "lk") => `(tactic| first
  | assumption
  | exact lk_hd
  | (refine' lk_tl ?k1 ?k2; (case k1 => decide +kernel); (case k2 => walk_at "lk"))
  | exact lk_nil)
local macro_rules | `(tactic| walk_at "sz") => `(tactic| first
  | exact small_sz (by simp only [List.length_cons, List.length_nil, List.length_append, List.length_map, List.length_range, List.length_set, List.length_replicate]; omega))
local macro_rules | `(tactic| walk_at "cc") => `(tactic| first
  | (show (0 : Int) < _; first | decide | omega)
  | exact Or.inl ⟨by omega, by omega⟩
  | exact Or.inr ⟨by omega, by omega⟩
  | exact ⟨by decide, by decide, by decide⟩
  | exact ⟨by decide, by decide⟩)
local macro_rules | `(tactic| walk_at "st") => `(tactic| first
  | with_reducible refine w_seq ?_
  | with_reducible refine w_asg ?_
  | ((with_reducible refine' w_var ?k1 ?_); (case k1 => k_dflt rfl))
  | with_reducible refine w_c ?_
  | with_reducible refine w_op ?_
  | with_reducible refine w_cons ?_
  | with_reducible refine w_nil ?_
  | with_reducible refine w_gname ?_
  | with_reducible refine w_I0 ?_
  | with_reducible refine w_fld ?_
  | ((with_reducible refine' w_ins ?k1 ?k2 ?k3 ?k4 ?k5 ?_); (case k1 => assumption); (case k2 => walk_at "sq"); (case k3 => assumption); (case k4 => assumption); (case k5 => walk_at "lk"))
  | ((with_reducible refine' w_ixT ?k1 ?k2 ?k3 ?_); (case k1 => assumption); (case k2 => walk_at "sq"); (case k3 => walk_at "ai"))
  | ((with_reducible refine' w_ixL ?k1 ?k2 ?k3 ?_); (case k1 => assumption); (case k2 => walk_at "sq"); (case k3 => walk_at "ai"))
  | ((with_reducible refine' w_ixM ?k1 ?k2 ?k3 ?_); (case k1 => assumption); (case k2 => walk_at "fo"); (case k3 => walk_at "ai"))
  | with_reducible refine w_cb ?_
  | with_reducible refine w_test ?_
  | with_reducible refine w_if ?_
  | with_reducible refine w_B ?_
  | with_reducible refine w_not ?_
  | with_reducible refine w_and ?_
  | with_reducible refine w_or ?_
  | with_reducible refine w_eqI ?_
  | with_reducible refine w_neI ?_
  | with_reducible refine w_isN ?_
  | with_reducible refine w_notN ?_
  | with_reducible refine w_isB ?_
  | with_reducible refine w_bl ?_
  | with_reducible refine w_ret ?_
  | with_reducible refine w_next ?_
  | with_reducible refine w_brk ?_
  | with_reducible refine w_drop ?_
  | with_reducible refine w_call ?_
  | with_reducible refine w_un ?_
  | with_reducible refine w_U ?_
  | with_reducible refine w_andV ?_
  | with_reducible refine w_orV ?_
  | with_reducible refine w_notV ?_
  | with_reducible refine w_ifE ?_
  | with_reducible refine w_chain ?_
  | with_reducible refine w_gsub ?_
  | with_reducible refine w_gnil ?_
  | with_reducible refine w_gcons ?_
  | with_reducible refine w_ipI ?_
  | with_reducible refine w_fldS ?_
  | with_reducible refine w_tru ?_
  | with_reducible refine w_abs ?_
  | with_reducible refine w_maxB ?_
  | with_reducible refine w_minB ?_
  | with_reducible refine w_int ?_
  | with_reducible refine w_tupE ?_
  | with_reducible refine w_lstE ?_
  | with_reducible refine w_bm ?_
  | with_reducible refine w_bm0 ?_
  | with_reducible refine w_mth ?_
  | with_reducible refine w_for0 ?_
  | with_reducible refine w_lc0 ?_
  | with_reducible refine w_il ?_
  | with_reducible refine w_it ?_
  | with_reducible refine w_is ?_
  | with_reducible refine w_ie ?_
  | with_reducible refine w_ir1 ?_
  | with_reducible refine w_ir2 ?_
  | with_reducible refine w_irv ?_
  | with_reducible refine w_rg1 ?_
  | with_reducible refine w_rg1v ?_
  | with_reducible refine w_lrg ?_
  | with_reducible refine w_make ?_
  | with_reducible refine w_yes ?_
  | with_reducible refine w_ost ?_
  | with_reducible refine w_mkoE ?_
  | with_reducible refine w_is_int_int ?_
  | with_reducible refine w_is_int_bool ?_
  | with_reducible refine w_is_int_str ?_
  | with_reducible refine w_is_int_tuple ?_
  | with_reducible refine w_is_bl_int ?_
  | with_reducible refine w_is_bl_bool ?_
  | with_reducible refine w_is_bl_str ?_
  | with_reducible refine w_is_bl_tuple ?_
  | with_reducible refine w_is_non_int ?_
  | with_reducible refine w_is_non_bool ?_
  | with_reducible refine w_is_non_str ?_
  | with_reducible refine w_is_non_tuple ?_
  | with_reducible refine w_is_str_int ?_
  | with_reducible refine w_is_str_bool ?_
  | with_reducible refine w_is_str_str ?_
  | with_reducible refine w_is_str_tuple ?_
  | ((with_reducible refine' w_insM ?k1 ?k2 ?k3 ?k4 ?k5 ?_); (case k1 => assumption); (case k2 => walk_at "fo"); (case k3 => assumption); (case k4 => assumption); (case k5 => walk_at "lk"))
  | ((with_reducible refine' w_ixE ?k1 ?k2 ?k3 ?_); (case k1 => assumption); (case k2 => walk_at "sq"); (case k3 => walk_at "ai"))
  | ((with_reducible refine' w_len ?k1 ?k2 ?_); (case k1 => assumption); (case k2 => walk_at "sq"))
  | ((with_reducible refine' w_lenM ?k1 ?k2 ?_); (case k1 => assumption); (case k2 => walk_at "fo"))
  | ((with_reducible refine' w_I ?k1 ?_); (case k1 => walk_at "cc"))
  | ((with_reducible refine' w_gtup ?k1 ?k2 ?_); (case k1 => refine' Mem.sqt ?m0 ?h0; (case m0 => assumption); (case h0 => walk_at "sq")); (case k2 => k_dflt rfl))
  | ((with_reducible refine' w_aug ?k1 ?_); (case k1 => k_dflt rfl))
  | ((with_reducible refine' w_truM ?k1 ?k2 ?_); (case k1 => assumption); (case k2 => walk_at "fo"))
  | ((with_reducible refine' w_truL ?k1 ?k2 ?_); (case k1 => assumption); (case k2 => walk_at "sq"))
  | ((with_reducible refine' w_tyL ?k1 ?k2 ?_); (case k1 => assumption); (case k2 => walk_at "fo"))
  | ((with_reducible refine' w_mthI ?k1 ?k2 ?k3 ?_); (case k1 => assumption); (case k2 => walk_at "sq"); (case k3 => walk_at "lk"))
  | ((with_reducible refine' w_sumM ?k1 ?k2 ?_); (case k1 => assumption); (case k2 => walk_at "fo"))
  | ((with_reducible refine' w_eqDN ?k1 ?k2 ?k3 ?_); (case k1 => assumption); (case k2 => walk_at "sq"); (case k3 => walk_at "sq"))
  | ((with_reducible refine' w_is_tup_int ?k1 ?k2 ?_); (case k1 => assumption); (case k2 => walk_at "sq"))
  | ((with_reducible refine' w_is_tup_bool ?k1 ?k2 ?_); (case k1 => assumption); (case k2 => walk_at "sq"))
  | ((with_reducible refine' w_is_tup_str ?k1 ?k2 ?_); (case k1 => assumption); (case k2 => walk_at "sq"))
  | ((with_reducible refine' w_is_tup_tuple ?k1 ?k2 ?_); (case k1 => assumption); (case k2 => walk_at "sq"))
  | dsimp only)
local macro_rules | `(tactic| walk_at "go") => `(tactic| repeat (walk_at "st"))
/-- what the law asks of a sum -/
def Cnd (s b : Int) : Prop := (s = 0 ∧ b ≠ 0) ∨ 0 < s * b
section
variable {P : Program} {w : World} {K : PySem.W.Frag} {mg : Str → Option Value} {base : Heap} {C : Ad}
abbrev N_law_first_ring : List Str := ["_law_meter_here", "_law_rings_here", "_law_sense", "_law_ring", "_law_by"]
abbrev P_law_first_ring : List Str := ["_law_meter_here", "_law_rings_here", "_law_sense"]
theorem sc_law_first_ring : FnScope N_law_first_ring P_law_first_ring (defScope S_law_first_ring) := ⟨rfl, rfl, rfl, by decide +kernel, rfl, by decide +kernel, by decide +kernel⟩
-- slots: 0 _law_meter_here, 1 _law_rings_here, 2 _law_sense, 3 _law_ring, 4 _law_by
def spFirstRing (K : PySem.W.Frag) : Sp := spN fun vs I R => ∃ (a t : Addr) (s : Int) (e : Me) (ts : List Addr) (rs : List (List Nat)), vs = [.ref a, .ref t, .int s] ∧ MtrAt K I a e ∧ e.Ok ∧ SqL K I t (ts.map V.ref) ∧ AllAt (TupN K I) ts rs ∧ (∀ r ∈ rs, SR e.ch r) ∧ -2 < s ∧ s < 2 ∧
  R = fun v N => ((∀ r ∈ rs, ¬ Cnd s (e.sum r)) ∧ v = .non) ∨ ∃ (u q : Addr) (i : Nat) (r : List Nat), v = .ref u ∧ SqT K N u [.ref q, .int (e.sum r)] ∧ TupN K N q r ∧ rs[i]? = some r ∧ Cnd s (e.sum r) ∧ ∀ j, j < i → ∀ r', rs[j]? = some r' → ¬ Cnd s (e.sum r')
theorem ok_law_first_ring {f : Addr} {fd : FuncData} (F : FnP K "_law_first_ring" "_law_first_ring" S_law_first_ring f fd) (T : Txt K mg C) (G_law_sum : FnAt P w K mg base "_law_sum" 2 P_law_sum (spSumL K)) : FnOk P w K mg base CX0 3 f fd P_law_first_ring (spFirstRing K) := by
  have nd := sc_law_first_ring.nd
  refine F.ok sc_law_first_ring (fun vs H Q E h => ?_) (fun cdv A outer s H vs Q E hr h => ?_)
  · obtain ⟨I, M, R, ⟨a, t, s, e, ts, rs, rfl, _⟩, _⟩ := h
    rfl
  obtain ⟨I, M, R, ⟨a, t, s, e, ts, rs, rfl, hMt, ok, ht, hts, hSR, hs1, hs2, rfl⟩, hm, k⟩ := h
  refine ⟨_, PSs.nox (pss_cons (ps_for PassesOwn.never rfl (pi_list (pv 1)) (pg_name (i := 3) nd rfl (Or.inl rfl))
      (pss_cons (ps_set (i := 4) nd rfl (Or.inl rfl) (pe_fn G_law_sum (hr.mono (by decide)) (pa_cons (pv 0) (pa_cons (pv 3) pa_nil))))
      (pss_one (ps_if (PW.pt (pw_or (PW.pt (pw_and (pt_cmpR op_eq (pv 2) pe_int (nomark _)) (pw_and1 (pt_cmpR op_ne (pv 4) pe_int (nomark _))))) (pw_or1 (pt_cmpR op_gt (pe_op op_mul (pv 2) (pv 4)) pe_int (nomark _)))))
        (pss_one (ps_ret (pe_tup (pa_cons (pv 3) (pa_cons (pv 4) pa_nil)))))
        pss_nil))))
    (pss_one (ps_ret pe_non))), ?_⟩
  try dsimp only [cxOf, Cx.nox, Cx.wish]
  walk_at "go"
  refine w_ill hm ht fun J wk => ?_
  refine w_for wk hm (fun i σ N M' => ∃ s3 s4, σ = [some (.ref a), some (.ref t), some (.int s), s3, s4] ∧ M = M' ∧ ∀ j, j < i → ∀ r', rs[j]? = some r' → ¬ Cnd s (e.sum r')) ⟨none, none, rfl, rfl, fun j h => absurd h (Nat.not_lt_zero _)⟩ ?_ ?_
  · rintro i x _ N _ H1 hi hx eN ⟨s3, s4, rfl, rfl, hno⟩ hm1
    obtain ⟨tj, htj, rfl⟩ := refs_get hx
    obtain ⟨r, hr, hrt⟩ := hts.get htj
    have hS := hSR r (List.mem_of_getElem? hr)
    obtain ⟨st, hst⟩ := hS.2.2
    have hb := hS.bound ok.ch
    have n16 := ok.ch.n16
    have hrt2 : TupN K N tj r := Same.sqt eN hrt
    walk_at "go"
    refine w_spV hm1 ⟨a, tj, e, r, rfl, hMt.mono eN, ok, hrt2, by omega, hst.ar, rfl⟩ fun H2 hm2 => ?_
    walk_at "go"
    have yes : Cnd s (e.sum r) → ∀ H, Mem N M H → rTup [.ref tj, .int (e.sum r)] H Q := fun hc H hm3 => by
      refine w_tup hm3 (by walk_at "sz") fun u N2 H3 eN2 hu hm4 => ?_
      exact k _ _ _ (eN.trans eN2) hm4 (.inr ⟨u, tj, i, r, rfl, SqT.of hu, Same.sqt eN2 hrt2, hr, hc, hno⟩)
    have no : ¬ Cnd s (e.sum r) → ∀ j, j < i + 1 → ∀ r', rs[j]? = some r' → ¬ Cnd s (e.sum r') := fun hc j hj r' hr' => by
      by_cases ej : j = i
      · subst ej
        rw [hr] at hr'
        rw [← Option.some.inj hr']
        exact hc
      · exact hno j (by omega) r' hr'
    refine w_ite (fun q1 => ?_) fun q1 => ?_
    · walk_at "go"
      refine w_iteN (fun q2 => ?_) fun q2 => ?_
      · refine w_tt ?_
        walk_at "go"
        exact yes (.inl ⟨q1, q2⟩) _ hm2
      · walk_at "go"
        refine w_ite (fun q3 => ?_) fun q3 => ?_
        · walk_at "go"
          exact yes (.inr q3) _ hm2
        · walk_at "go"
          exact ⟨_, _, eN, ⟨_, _, rfl, rfl, no fun z => z.elim (fun z => z.2 q2) q3⟩, hm2⟩
    · refine w_ff ?_
      walk_at "go"
      refine w_ite (fun q3 => ?_) fun q3 => ?_
      · walk_at "go"
        exact yes (.inr q3) _ hm2
      · walk_at "go"
        exact ⟨_, _, eN, ⟨_, _, rfl, rfl, no fun z => z.elim (fun z => q1 z.1) q3⟩, hm2⟩
  · rintro _ N _ H1 eN ⟨s3, s4, rfl, rfl, hno⟩ hm1
    walk_at "go"
    refine k _ _ _ eN hm1 (.inl ⟨fun r hr => ?_, rfl⟩)
    obtain ⟨j, hj⟩ := List.mem_iff_getElem?.mp hr
    refine hno j ?_ r hj
    rw [List.length_map, hts.1]
    exact (List.getElem?_eq_some_iff.mp hj).1
abbrev N_law_couple : List Str := ["_law_told"]
abbrev P_law_couple : List Str := ["_law_told"]
theorem sc_law_couple : FnScope N_law_couple P_law_couple (defScope S_law_couple) := ⟨rfl, rfl, rfl, by decide +kernel, rfl, by decide +kernel, by decide +kernel⟩
-- slots: 0 _law_told
def spCouple (K : PySem.W.Frag) (C : Ad) : Sp := spN fun vs I R => ∃ x : V, vs = [x] ∧ ((x = .non ∧ R = fun v N => v = .non) ∨ ∃ t r b, x = .ref t ∧ DrAt K C I t r b ∧ R = fun v N => ∃ u q, v = .ref u ∧ SqT K N u [.ref q, .int b] ∧ TupN K N q r)
theorem ok_law_couple {f : Addr} {fd : FuncData} (F : FnP K "_law_couple" "_law_couple" S_law_couple f fd) (T : Txt K mg C) : FnOk P w K mg base CX0 1 f fd P_law_couple (spCouple K C) := by
  have nd := sc_law_couple.nd
  refine F.ok sc_law_couple (fun vs H Q E h => ?_) (fun cdv A outer s H vs Q E hr h => ?_)
  · obtain ⟨I, M, R, ⟨x, rfl, _⟩, _⟩ := h
    rfl
  obtain ⟨I, M, R, ⟨x, rfl, hx⟩, hm, k⟩ := h
  have n1 := T.n_ring
  have n2 := T.n_by
  have n3 := T.clDr
  refine ⟨_, PSs.nox (pss_one (ps_ret (pe_ifExp (pt_cmpR op_isN1 (pv 0) pe_non (nomark _)) pe_non (pe_tup (pa_cons (pe_fld (pv 0) rfl) (pa_cons (pe_fld (pv 0) rfl) pa_nil)))))), ?_⟩
  try dsimp only [cxOf, Cx.nox, Cx.wish]
  rcases hx with ⟨rfl, rfl⟩ | ⟨t, r, b, rfl, ⟨dx, q, h1, h2⟩, rfl⟩
  · walk_at "go"
    refine w_ite (fun _ => ?_) fun h => absurd rfl h
    walk_at "go"
    exact k _ _ _ (Same.refl _) hm rfl
  · walk_at "go"
    refine w_ite (fun h => by cases h) fun _ => ?_
    walk_at "go"
    refine w_tup hm (by walk_at "sz") fun u N H1 eN hu hm1 => ?_
    exact k _ _ _ eN hm1 ⟨u, q, rfl, SqT.of hu, Same.sqt eN h2⟩
end

end Pa

set_option Elab.async false
set_option linter.all false
set_option maxRecDepth 100000
set_option maxHeartbeats 4000000
-- NOMAC
namespace Pa
/-! ### the levels as the law finds them -/
noncomputable def lead (c : Ch) (x : Nat) : Nat := (c.part x).getD 0 0
theorem lead_mem {c : Ch} (ok : c.Ok) {x : Nat} (h : c.Reach x x) : lead c x ∈ c.part x := by
  have l0 : 0 < (c.part x).length := List.length_pos_of_mem ((Ch.mem_part ok).mpr ⟨h, h⟩)
  unfold lead
  rw [List.getD_eq_getElem?_getD, List.getElem?_eq_getElem l0]
  exact List.getElem_mem l0
theorem lead_le {c : Ch} {x y : Nat} (h : y ∈ c.part x) : lead c x ≤ y := by
  have pw : (c.part x).Pairwise (· < ·) := (range_lt _).filter _
  unfold lead
  cases e : c.part x with
  | nil =>
    rw [e] at h
    cases h
  | cons a r =>
    rw [e] at h pw
    show a ≤ y
    rcases List.mem_cons.mp h with z | z
    · omega
    · have := (List.pairwise_cons.mp pw).1 y z
      omega
theorem lead_eq {c : Ch} (ok : c.Ok) {x y : Nat} (h : y ∈ c.part x) : lead c y = lead c x := by
  unfold lead
  rw [Ch.part_eq ok h]
def Asg (c : Ch) (p x : Nat) : Prop := x < p ∨ (c.Reach x x ∧ lead c x < p)
def Val (e : Me) (x : Nat) (t : Int) : Prop := (e.ch.Reach x x → PathS e (lead e.ch x) x t) ∧ (¬ e.ch.Reach x x → t = 0)
abbrev tg (T : List (Option Int)) (x : Nat) : Option Int := T.getD x none
structure LT (e : Me) (p : Nat) (T : List (Option Int)) : Prop where
  len : T.length = e.ch.cs.length
  asg : ∀ x, x < e.ch.cs.length → (tg T x ≠ none ↔ Asg e.ch p x)
  val : ∀ x t, x < e.ch.cs.length → tg T x = some t → Val e x t
/-- an arrow within a part -/
def Inn (c : Ch) (k : Nat) : Prop := c.Reach (c.hd k) (c.tl k)
def ClT (c : Ch) (T : List (Option Int)) : Prop := ∀ k, k < c.ar.length → Inn c k → tg T (c.tl k) ≠ none → tg T (c.hd k) ≠ none
def cf (T : List (Option Int)) : Nat := (T.map Option.isSome).count false
structure LU (e : Me) (p : Nat) (T : List (Option Int)) : Prop where
  len : T.length = e.ch.cs.length
  old : ∀ x, x < e.ch.cs.length → Asg e.ch p x → tg T x ≠ none
  p0 : tg T p ≠ none
  new : ∀ x, x < e.ch.cs.length → tg T x ≠ none → Asg e.ch p x ∨ x = p ∨ x ∈ e.ch.part p
  val : ∀ x t, x < e.ch.cs.length → tg T x = some t → Val e x t
theorem tg_set {T : List (Option Int)} {k j : Nat} {a : Option Int} (h : k < T.length) : tg (T.set k a) j = if j = k then a else tg T j := by
  unfold tg
  rw [List.getD_eq_getElem?_getD, List.getElem?_set]
  by_cases e : k = j
  · subst e
    rw [if_pos rfl, if_pos h, if_pos rfl]
    rfl
  · rw [if_neg e, if_neg (fun z => e z.symm), List.getD_eq_getElem?_getD]
theorem cf_set {T : List (Option Int)} {k : Nat} {a : Int} (h : k < T.length) (hn : tg T k = none) : cf (T.set k (some a)) + 1 = cf T := by
  unfold cf
  rw [List.map_set]
  have h1 : k < (T.map Option.isSome).length := by rw [List.length_map]; exact h
  have hf : (T.map Option.isSome)[k] = false := by
    rw [List.getElem_map]
    have : T[k] = none := by
      unfold tg at hn
      rw [List.getD_eq_getElem?_getD, List.getElem?_eq_getElem h] at hn
      exact hn
    rw [this]
    rfl
  have h2 := List.count_set (a := true) (b := false) h1
  show List.count false ((T.map Option.isSome).set k true) + 1 = _
  rw [h2, hf]
  have : 0 < (T.map Option.isSome).count false := List.count_pos_iff.mpr (by rw [← hf]; exact List.getElem_mem h1)
  simp
  omega
theorem cf_zero {T : List (Option Int)} (h : cf T = 0) {x : Nat} (hx : x < T.length) : tg T x ≠ none := fun hn => by
  have := List.count_eq_zero.mp h
  refine this (List.mem_map.mpr ⟨T[x], List.getElem_mem hx, ?_⟩)
  unfold tg at hn
  rw [List.getD_eq_getElem?_getD, List.getElem?_eq_getElem hx] at hn
  have hn : T[x] = none := hn
  rw [hn]
  rfl
section
variable {e : Me} {p : Nat} {T : List (Option Int)}
theorem LT.start (h : LT e p T) (ok : e.ch.Ok) (hp : p < e.ch.cs.length) (hn : tg T p = none) : ¬ Asg e.ch p p ∧ LU e p (T.set p (some 0)) := by
  have na : ¬ Asg e.ch p p := fun z => (h.asg p hp).mpr z hn
  have hl : p < T.length := by rw [h.len]; exact hp
  refine ⟨na, by rw [List.length_set, h.len], fun x hx ha => ?_, by rw [tg_set hl, if_pos rfl]; simp, fun x hx ha => ?_, fun x t hx ht => ?_⟩
  · rw [tg_set hl]
    split
    · simp
    · exact (h.asg x hx).mpr ha
  · rw [tg_set hl] at ha
    by_cases ex : x = p
    · exact .inr (.inl ex)
    · rw [if_neg ex] at ha
      exact .inl ((h.asg x hx).mp ha)
  · rw [tg_set hl] at ht
    by_cases ex : x = p
    · rw [if_pos ex] at ht
      subst ex
      have ht := Option.some.inj ht
      subst ht
      refine ⟨fun r => ?_, fun _ => rfl⟩
      have h1 := lead_le ((Ch.mem_part ok).mpr ⟨r, r⟩)
      have h2 : ¬ lead e.ch x < x := fun z => na (.inr ⟨r, z⟩)
      have h3 : lead e.ch x = x := by omega
      rw [h3]
      exact ⟨[], rfl, rfl⟩
    · rw [if_neg ex] at ht
      exact h.val x t hx ht
theorem LU.put (h : LU e p T) (ok : e.ch.Ok) (na : ¬ Asg e.ch p p) {k : Nat} (hk : k < e.ch.ar.length) (hi : Inn e.ch k) {t : Int} (ht : tg T (e.ch.tl k) = some t) (hh : tg T (e.ch.hd k) = none) : LU e p (T.set (e.ch.hd k) (some (t + e.gain k))) := by
  have b1 := ok.tl k hk
  have b2 := ok.hd k hk
  have hl : e.ch.hd k < T.length := by rw [h.len]; exact b2
  have hone := Ch.Reach.one hk
  have rt : e.ch.Reach (e.ch.tl k) (e.ch.tl k) := hone.trans hi
  have rh : e.ch.Reach (e.ch.hd k) (e.ch.hd k) := hi.trans hone
  have htm : e.ch.hd k ∈ e.ch.part (e.ch.tl k) := (Ch.mem_part ok).mpr ⟨hone, hi⟩
  have hpart : e.ch.tl k ∈ e.ch.part p := by
    rcases h.new _ b1 (by rw [ht]; simp) with z | z | z
    · exfalso
      refine h.old _ b2 ?_ hh
      rcases z with z | ⟨_, z⟩
      · refine .inr ⟨rh, ?_⟩
        rw [lead_eq ok htm]
        have := lead_le ((Ch.mem_part ok).mpr ⟨rt, rt⟩)
        omega
      · refine .inr ⟨rh, ?_⟩
        rw [lead_eq ok htm]
        exact z
    · rw [z]
      rw [z] at rt
      exact (Ch.mem_part ok).mpr ⟨rt, rt⟩
    · exact z
  have hpart2 : e.ch.hd k ∈ e.ch.part p := by rw [← Ch.part_eq ok hpart]; exact htm
  refine ⟨by rw [List.length_set, h.len], fun x hx ha => ?_, ?_, fun x hx ha => ?_, fun x t' hx ht' => ?_⟩
  · rw [tg_set hl]
    split
    · simp
    · exact h.old x hx ha
  · rw [tg_set hl]
    split
    · simp
    · exact h.p0
  · rw [tg_set hl] at ha
    by_cases ex : x = e.ch.hd k
    · rw [ex]
      exact .inr (.inr hpart2)
    · rw [if_neg ex] at ha
      exact h.new x hx ha
  · rw [tg_set hl] at ht'
    by_cases ex : x = e.ch.hd k
    · rw [if_pos ex] at ht'
      have ht' := Option.some.inj ht'
      subst ex ht'
      refine ⟨fun _ => ?_, fun z => absurd rh z⟩
      rw [lead_eq ok htm]
      obtain ⟨q, q1, q2⟩ := (h.val _ _ b1 ht).1 rt
      exact ⟨q ++ [k], q1.snoc hk, by rw [Me.sum_app, q2, Me.sum_cons, Me.sum_nil, Int.add_zero]⟩
    · rw [if_neg ex] at ht'
      exact h.val x t' hx ht'
theorem LU.fin (h : LU e p T) (ok : e.ch.Ok) (hp : p < e.ch.cs.length) (na : ¬ Asg e.ch p p) (hc : ClT e.ch T) : LT e (p + 1) T := by
  have hall : ∀ x, x ∈ e.ch.part p → tg T x ≠ none := fun x hx => by
    have hm := (Ch.mem_part ok).mp hx
    have rp := hm.1.trans hm.2
    have key := closed_all ok (q := p) (W := (List.range e.ch.cs.length).filter fun y => (tg T y).isSome && decide (y ∈ e.ch.part p)) (List.mem_filter.mpr ⟨List.mem_range.mpr hp, by
      rw [Bool.and_eq_true, decide_eq_true_iff]
      refine ⟨?_, (Ch.mem_part ok).mpr ⟨rp, rp⟩⟩
      have := h.p0
      cases q : tg T p with
      | none => exact absurd q this
      | some _ => rfl⟩) (fun y hy k hk hkp => by
      obtain ⟨y1, y2⟩ := List.mem_filter.mp hy
      rw [Bool.and_eq_true, decide_eq_true_iff] at y2
      obtain ⟨k1, k2⟩ := Ch.mem_outs.mp hk
      subst k2
      have inn : Inn e.ch k := ((Ch.mem_part ok).mp hkp).2.trans ((Ch.mem_part ok).mp y2.2).1
      have := hc k k1 inn (by
        intro z
        rw [z] at y2
        exact absurd y2.1 (by simp))
      refine List.mem_filter.mpr ⟨List.mem_range.mpr (ok.hd k k1), ?_⟩
      rw [Bool.and_eq_true, decide_eq_true_iff]
      refine ⟨?_, hkp⟩
      cases q : tg T (e.ch.hd k) with
      | none => exact absurd q this
      | some _ => rfl) hx
    have := (List.mem_filter.mp key).2
    rw [Bool.and_eq_true] at this
    intro z
    rw [z] at this
    exact absurd this.1 (by simp)
  refine ⟨h.len, fun x hx => ⟨fun hn => ?_, fun ha => ?_⟩, h.val⟩
  · rcases h.new x hx hn with z | z | z
    · rcases z with z | ⟨z1, z2⟩
      · exact .inl (by omega)
      · exact .inr ⟨z1, by omega⟩
    · exact .inl (by omega)
    · have hm := (Ch.mem_part ok).mp z
      refine .inr ⟨hm.2.trans hm.1, ?_⟩
      rw [lead_eq ok z]
      have rp := hm.1.trans hm.2
      have := lead_le ((Ch.mem_part ok).mpr ⟨rp, rp⟩)
      omega
  · rcases ha with z | ⟨z1, z2⟩
    · by_cases ex : x = p
      · rw [ex]
        exact h.p0
      · exact h.old x hx (.inl (by omega))
    · by_cases el : lead e.ch x = p
      · have hm := lead_mem ok z1
        rw [el] at hm
        refine hall x ?_
        rw [Ch.part_eq ok hm]
        exact (Ch.mem_part ok).mpr ⟨z1, z1⟩
      · exact h.old x hx (.inr ⟨z1, by omega⟩)
theorem LT.skip (h : LT e p T) (ok : e.ch.Ok) (hp : p < e.ch.cs.length) (hn : tg T p ≠ none) : LT e (p + 1) T := by
  have ha := (h.asg p hp).mp hn
  refine ⟨h.len, fun x hx => (h.asg x hx).trans ⟨fun z => ?_, fun z => ?_⟩, h.val⟩
  · rcases z with z | ⟨z1, z2⟩
    · exact .inl (by omega)
    · exact .inr ⟨z1, by omega⟩
  · rcases z with z | ⟨z1, z2⟩
    · by_cases ex : x = p
      · rw [ex]
        exact ha
      · exact .inl (by omega)
    · by_cases el : lead e.ch x = p
      · exfalso
        have hm := lead_mem ok z1
        have e2 := lead_eq ok hm
        rw [el] at e2 hm
        rcases ha with y | ⟨_, y⟩
        · omega
        · omega
      · exact .inr ⟨z1, by omega⟩
theorem LT.init : LT e 0 (List.replicate e.ch.cs.length none) := by
  have g : ∀ x, tg (List.replicate e.ch.cs.length none) x = none := fun x => by
    unfold tg
    rw [List.getD_eq_getElem?_getD, List.getElem?_replicate]
    split <;> rfl
  refine ⟨List.length_replicate, fun x _ => ⟨fun z => absurd (g x) z, fun z => ?_⟩, fun x t _ ht => ?_⟩
  · rcases z with z | ⟨_, z⟩ <;> omega
  · rw [g x] at ht
    cases ht
theorem LT.fin (h : LT e e.ch.cs.length T) : ∃ L : List Int, T = L.map some ∧ IsLv e L := by
  have all : ∀ x, x < e.ch.cs.length → ∃ t, tg T x = some t := fun x hx => by
    have := (h.asg x hx).mpr (.inl hx)
    cases q : tg T x with
    | none => exact absurd q this
    | some t => exact ⟨t, rfl⟩
  have eT : T = (T.map fun o => o.getD 0).map some := by
    refine List.ext_getElem? fun i => ?_
    rw [List.getElem?_map, List.getElem?_map]
    by_cases hi : i < T.length
    · obtain ⟨t, ht⟩ := all i (by rw [← h.len]; exact hi)
      unfold tg at ht
      rw [List.getD_eq_getElem?_getD, List.getElem?_eq_getElem hi] at ht
      have ht : T[i] = some t := ht
      rw [List.getElem?_eq_getElem hi, ht]
      rfl
    · rw [List.getElem?_eq_none (by omega)]
      rfl
  refine ⟨T.map fun o => o.getD 0, eT, by rw [List.length_map, h.len], fun x hx => ?_⟩
  obtain ⟨t, ht⟩ := all x hx
  have hg : (T.map fun o => o.getD 0).getD x 0 = t := by
    have hi : x < T.length := by rw [h.len]; exact hx
    unfold tg at ht
    rw [List.getD_eq_getElem?_getD, List.getElem?_eq_getElem hi] at ht
    have ht : T[x] = some t := ht
    rw [List.getD_eq_getElem?_getD, List.getElem?_map, List.getElem?_eq_getElem hi, ht]
    rfl
  rw [hg]
  exact h.val x t hx ht
end
/-- without a drift there is but one row of levels -/
theorem IsLv.one {e : Me} (ok : e.ch.Ok) (hn : NoneD e [1, -1]) {L L' : List Int} (h : IsLv e L) (h' : IsLv e L') : L = L' := by
  refine List.ext_getElem (h.1.trans h'.1.symm) fun x hx hx' => ?_
  have hxn : x < e.ch.cs.length := by rw [← h.1]; exact hx
  have g : ∀ {M : List Int} (hm : x < M.length), M.getD x 0 = M[x] := fun hm => by rw [List.getD_eq_getElem?_getD, List.getElem?_eq_getElem hm]; rfl
  rw [← g hx, ← g hx']
  obtain ⟨a1, a2⟩ := h.2 x hxn
  obtain ⟨b1, b2⟩ := h'.2 x hxn
  by_cases r : e.ch.Reach x x
  · obtain ⟨p, p1, p2⟩ := a1 r
    obtain ⟨q, q1, q2⟩ := b1 r
    have hm := (Ch.mem_part ok).mp (lead_mem ok r)
    obtain ⟨s, _, s1⟩ := hm.1.pt
    have z1 := hn.zero ok (s1.app p1)
    have z2 := hn.zero ok (s1.app q1)
    rw [Me.sum_app] at z1 z2
    omega
  · rw [a2 r, b2 r]
end Pa

set_option Elab.async false
set_option linter.all false
set_option maxRecDepth 100000
set_option maxHeartbeats 4000000
namespace Pa
open PySem L2
local macro_rules | `(tactic| walk_at "lt") => `(tactic| first
  | assumption
  | omega
  | (simp only [List.length_map, List.length_range, List.length_cons, List.length_nil, List.length_append, List.length_replicate] at *; omega))
local macro_rules | `(tactic| walk_at "fo") => `(tactic| first | exact foc0 | (refine' focS ?k1; (case k1 => walk_at "fo")))
local macro_rules | `(tactic| walk_at "sq") => `(tactic| first
  | assumption
  | (refine' SqL.of ?k1; (case k1 => assumption))
  | (refine' SqT.of ?k1; (case k1 => assumption))
  | (refine' Or.inl ?k1; (case k1 => walk_at "sq"))
  | (refine' Or.inr ?k1; (case k1 => walk_at "sq"))
  | (refine' Same.seq ?k1 ?k2; (case k1 => assumption); (case k2 => walk_at "sq"))
  | (refine' Same.sqt ?k1 ?k2; (case k1 => assumption); (case k2 => walk_at "sq"))
  | (refine' Same.sqe ?k1 ?k2; (case k1 => assumption); (case k2 => walk_at "sq"))
  | (refine' same_at ?k1 ?k2; (case k1 => assumption); (case k2 => walk_at "sq")))
local macro_rules | `(tactic| walk_at "ai") => `(tactic| first
  | assumption
  | (refine' ati_ints ?k1; (case k1 => walk_at "lt"))
  | (refine' ati_refs ?k1; (case k1 => walk_at "lt"))
  | (refine' ati_nat ?k1; (case k1 => assumption))
  | k_dflt rfl)
local macro_rules | `(tactic| walk_at "lk") => `(tactic| first
  | assumption
  | exact lk_hd
  | (refine' lk_tl ?k1 ?k2; (case k1 => decide +kernel); (case k2 => walk_at "lk"))
  | exact lk_nil)
local macro_rules | `(tactic| walk_at "sz") => `(tactic| first
  | exact small_sz (by simp only [List.length_cons, List.length_nil, List.length_append, List.length_map, List.length_range, List.length_set, List.length_replicate]; omega))
local macro_rules | `(tactic| walk_at "cc") => `(tactic| first
  | (show (0 : Int) < _; first | decide | omega)
  | exact Or.inl ⟨by omega, by omega⟩
  | exact Or.inr ⟨by omega, by omega⟩
  | exact ⟨by decide, by decide, by decide⟩
  | exact ⟨by decide, by decide⟩)
local macro_rules | `(tactic| walk_at "st") => `(tactic| first
  | with_reducible refine w_seq ?_
  | with_reducible refine w_asg ?_
  | ((with_reducible refine' w_var ?k1 ?_); (case k1 => k_dflt rfl))
  | with_reducible refine w_c ?_
  | with_reducible refine w_op ?_
  | with_reducible refine w_cons ?_
  | with_reducible refine w_nil ?_
  | with_reducible refine w_gname ?_
  | with_reducible refine w_I0 ?_
  | with_reducible refine w_fld ?_
  | ((with_reducible refine' w_ins ?k1 ?k2 ?k3 ?k4 ?k5 ?_); (case k1 => assumption); (case k2 => walk_at "sq"); (case k3 => assumption); (case k4 => assumption); (case k5 => walk_at "lk"))
  | ((with_reducible refine' w_ixT ?k1 ?k2 ?k3 ?_); (case k1 => assumption); (case k2 => walk_at "sq"); (case k3 => walk_at "ai"))
  | ((with_reducible refine' w_ixL ?k1 ?k2 ?k3 ?_); (case k1 => assumption); (case k2 => walk_at "sq"); (case k3 => walk_at "ai"))
  | ((with_reducible refine' w_ixM ?k1 ?k2 ?k3 ?_); (case k1 => assumption); (case k2 => walk_at "fo"); (case k3 => walk_at "ai"))
  | with_reducible refine w_cb ?_
  | with_reducible refine w_test ?_
  | with_reducible refine w_if ?_
  | with_reducible refine w_B ?_
  | with_reducible refine w_not ?_
  | with_reducible refine w_and ?_
  | with_reducible refine w_or ?_
  | with_reducible refine w_eqI ?_
  | with_reducible refine w_neI ?_
  | with_reducible refine w_isN ?_
  | with_reducible refine w_notN ?_
  | with_reducible refine w_isB ?_
  | with_reducible refine w_bl ?_
  | with_reducible refine w_ret ?_
  | with_reducible refine w_next ?_
  | with_reducible refine w_brk ?_
  | with_reducible refine w_drop ?_
  | with_reducible refine w_call ?_
  | with_reducible refine w_un ?_
  | with_reducible refine w_U ?_
  | with_reducible refine w_andV ?_
  | with_reducible refine w_orV ?_
  | with_reducible refine w_notV ?_
  | with_reducible refine w_ifE ?_
  | with_reducible refine w_chain ?_
  | with_reducible refine w_gsub ?_
  | with_reducible refine w_gnil ?_
  | with_reducible refine w_gcons ?_
  | with_reducible refine w_ipI ?_
  | with_reducible refine w_fldS ?_
  | with_reducible refine w_tru ?_
  | with_reducible refine w_abs ?_
  | with_reducible refine w_maxB ?_
  | with_reducible refine w_minB ?_
  | with_reducible refine w_int ?_
  | with_reducible refine w_tupE ?_
  | with_reducible refine w_lstE ?_
  | with_reducible refine w_bm ?_
  | with_reducible refine w_bm0 ?_
  | with_reducible refine w_mth ?_
  | with_reducible refine w_for0 ?_
  | with_reducible refine w_lc0 ?_
  | with_reducible refine w_il ?_
  | with_reducible refine w_it ?_
  | with_reducible refine w_is ?_
  | with_reducible refine w_ie ?_
  | with_reducible refine w_ir1 ?_
  | with_reducible refine w_ir2 ?_
  | with_reducible refine w_irv ?_
  | with_reducible refine w_rg1 ?_
  | with_reducible refine w_rg1v ?_
  | with_reducible refine w_lrg ?_
  | with_reducible refine w_make ?_
  | with_reducible refine w_yes ?_
  | with_reducible refine w_ost ?_
  | with_reducible refine w_mkoE ?_
  | with_reducible refine w_is_int_int ?_
  | with_reducible refine w_is_int_bool ?_
  | with_reducible refine w_is_int_str ?_
  | with_reducible refine w_is_int_tuple ?_
  | with_reducible refine w_is_bl_int ?_
  | with_reducible refine w_is_bl_bool ?_
  | with_reducible refine w_is_bl_str ?_
  | with_reducible refine w_is_bl_tuple ?_
  | with_reducible refine w_is_non_int ?_
  | with_reducible refine w_is_non_bool ?_
  | with_reducible refine w_is_non_str ?_
  | with_reducible refine w_is_non_tuple ?_
  | with_reducible refine w_is_str_int ?_
  | with_reducible refine w_is_str_bool ?_
  | with_reducible refine w_is_str_str ?_
  | with_reducible refine w_is_str_tuple ?_
  | ((with_reducible refine' w_insM ?k1 ?k2 ?k3 ?k4 ?k5 ?_); (case k1 => assumption); (case k2 => walk_at "fo"); (case k3 => assumption); (case k4 => assumption); (case k5 => walk_at "lk"))
  | ((with_reducible refine' w_ixE ?k1 ?k2 ?k3 ?_); (case k1 => assumption); (case k2 => walk_at "sq"); (case k3 => walk_at "ai"))
  | ((with_reducible refine' w_len ?k1 ?k2 ?_); (case k1 => assumption); (case k2 => walk_at "sq"))
  | ((with_reducible refine' w_lenM ?k1 ?k2 ?_); (case k1 => assumption); (case k2 => walk_at "fo"))
  | ((with_reducible refine' w_I ?k1 ?_); (case k1 => walk_at "cc"))
  | ((with_reducible refine' w_gtup ?k1 ?k2 ?_); (case k1 => refine' Mem.sqt ?m0 ?h0; (case m0 => assumption); (case h0 => walk_at "sq")); (case k2 => k_dflt rfl))
  | ((with_reducible refine' w_aug ?k1 ?_); (case k1 => k_dflt rfl))
  | ((with_reducible refine' w_truM ?k1 ?k2 ?_); (case k1 => assumption); (case k2 => walk_at "fo"))
  | ((with_reducible refine' w_truL ?k1 ?k2 ?_); (case k1 => assumption); (case k2 => walk_at "sq"))
  | ((with_reducible refine' w_tyL ?k1 ?k2 ?_); (case k1 => assumption); (case k2 => walk_at "fo"))
  | ((with_reducible refine' w_mthI ?k1 ?k2 ?k3 ?_); (case k1 => assumption); (case k2 => walk_at "sq"); (case k3 => walk_at "lk"))
  | ((with_reducible refine' w_sumM ?k1 ?k2 ?_); (case k1 => assumption); (case k2 => walk_at "fo"))
  | ((with_reducible refine' w_eqDN ?k1 ?k2 ?k3 ?_); (case k1 => assumption); (case k2 => walk_at "sq"); (case k3 => walk_at "sq"))
  | ((with_reducible refine' w_is_tup_int ?k1 ?k2 ?_); (case k1 => assumption); (case k2 => walk_at "sq"))
  | ((with_reducible refine' w_is_tup_bool ?k1 ?k2 ?_); (case k1 => assumption); (case k2 => walk_at "sq"))
  | ((with_reducible refine' w_is_tup_str ?k1 ?k2 ?_); (case k1 => assumption); (case k2 => walk_at "sq"))
  | ((with_reducible refine' w_is_tup_tuple ?k1 ?k2 ?_); (case k1 => assumption); (case k2 => walk_at "sq"))
  | dsimp only)
local macro_rules | `(tactic| walk_at "go") => `(tactic| repeat (walk_at "st"))
theorem inner_get {c : Ch} {k : Nat} (h : k < c.ar.length) : (innerL c).getD k false = c.rch (c.hd k) (c.tl k) := by
  unfold innerL
  rw [List.getD_eq_getElem?_getD, List.getElem?_map, List.getElem?_range h]
  rfl
theorem inner_len {c : Ch} : (innerL c).length = c.ar.length := by
  unfold innerL
  rw [List.length_map, List.length_range]
/-- a turn over the arrows -/
structure LP (e : Me) (T0 : List (Option Int)) (j : Nat) (T : List (Option Int)) : Prop where
  cl : ClT e.ch T0 → T = T0
  gr : cf T < cf T0 ∨ (T = T0 ∧ ∀ k, k < j → Inn e.ch k → tg T0 (e.ch.tl k) ≠ none → tg T0 (e.ch.hd k) ≠ none)
theorem LP.init {e : Me} {T0 : List (Option Int)} : LP e T0 0 T0 := ⟨fun _ => rfl, .inr ⟨rfl, fun k h => absurd h (Nat.not_lt_zero _)⟩⟩
theorem LP.keep {e : Me} {T0 T : List (Option Int)} {j : Nat} (h : LP e T0 j T) (z : Inn e.ch j → tg T (e.ch.tl j) ≠ none → tg T (e.ch.hd j) ≠ none) : LP e T0 (j + 1) T := by
  refine ⟨h.cl, ?_⟩
  rcases h.gr with g | ⟨g1, g2⟩
  · exact .inl g
  · subst g1
    refine .inr ⟨rfl, fun k hk => ?_⟩
    by_cases ek : k = j
    · subst ek
      exact z
    · exact g2 k (by omega)
theorem LP.add {e : Me} {T0 T : List (Option Int)} {j : Nat} (h : LP e T0 j T) (hj : j < e.ch.ar.length) (hi : Inn e.ch j) (ht : tg T (e.ch.tl j) ≠ none) (hh : tg T (e.ch.hd j) = none) (hl : e.ch.hd j < T.length) (t : Int) : LP e T0 (j + 1) (T.set (e.ch.hd j) (some t)) := by
  have hc := cf_set (a := t) hl hh
  refine ⟨fun z => ?_, ?_⟩
  · have := h.cl z
    subst this
    exact absurd hh (z j hj hi ht)
  · rcases h.gr with g | ⟨g1, _⟩
    · exact .inl (by omega)
    · subst g1
      exact .inl (by omega)
theorem IsLv.ov {L : List Int} : ovs (L.map some) = iv L := by
  rw [ovs, List.map_map]
  rfl
section
variable {P : Program} {w : World} {K : PySem.W.Frag} {mg : Str → Option Value} {base : Heap} {C : Ad}
abbrev N_law_levels : List Str := ["_law_meter_here", "_law_chart_here", "_law_inner_here", "_law_told", "_law_place", "_law_turn", "_law_k", "_law_tail", "_law_head"]
abbrev P_law_levels : List Str := ["_law_meter_here"]
theorem sc_law_levels : FnScope N_law_levels P_law_levels (defScope S_law_levels) := ⟨rfl, rfl, rfl, by decide +kernel, rfl, by decide +kernel, by decide +kernel⟩
-- slots: 0 _law_meter_here, 1 _law_chart_here, 2 _law_inner_here, 3 _law_told, 4 _law_place, 5 _law_turn, 6 _law_k, 7 _law_tail, 8 _law_head
def spLevelsL (K : PySem.W.Frag) : Sp := spN fun vs I R => ∃ (a : Addr) (e : Me), vs = [.ref a] ∧ MtrAt K I a e ∧ e.Ok ∧ R = fun v N => ∃ t L, v = .ref t ∧ SqT K N t (iv L) ∧ IsLv e L
theorem ok_law_levels {f : Addr} {fd : FuncData} (F : FnP K "_law_levels" "_law_levels" S_law_levels f fd) (T : Txt K mg C) (G_law_inner : FnAt P w K mg base "_law_inner" 2 P_law_inner (spInner K)) (G_law_gain : FnAt P w K mg base "_law_gain" 1 P_law_gain (spGainL K)) : FnOk P w K mg base CX0 3 f fd P_law_levels (spLevelsL K) := by
  have nd := sc_law_levels.nd
  refine F.ok sc_law_levels (fun vs H Q E h => ?_) (fun cdv A outer s H vs Q E hr h => ?_)
  · obtain ⟨I, M, R, ⟨a, e, rfl, _⟩, _⟩ := h
    rfl
  obtain ⟨I, M, R, ⟨a, e, rfl, hMt, ok, rfl⟩, hm, k⟩ := h
  have hMt2 := hMt
  obtain ⟨p, r, q, as, h1, h2, h3, h4, h5⟩ := hMt
  have n16 := ok.ch.n16
  have m32 := ok.ch.m32
  refine ⟨_, PSs.nox (pss_cons (ps_set (i := 1) nd rfl (Or.inl rfl) (pe_lst (pa_cons (pe_ix ix_list (pv 0) pe_int (fun _ _ => rfl)) (pa_cons (pe_ix ix_list (pv 0) pe_int (fun _ _ => rfl)) pa_nil))))
    (pss_cons (ps_set (i := 2) nd rfl (Or.inl rfl) (pe_fn G_law_inner (hr.mono (by decide)) (pa_cons (pv 1) pa_nil)))
    (pss_cons (ps_set (i := 3) nd rfl (Or.inl rfl) (pe_op op_rep (pe_lst (pa_cons pe_non pa_nil)) (pe_callB cl_len (by rfl) T.b_len PySem.boot_len (pa_cons (pe_ix ix_list (pv 0) pe_int (fun _ _ => rfl)) pa_nil))))
    (pss_cons (ps_for PassesOwn.never rfl (pi_range1 rfl T.b_range (pa_cons (pe_callB cl_len (by rfl) T.b_len PySem.boot_len (pa_cons (pv 3) pa_nil)) pa_nil)) (pg_name (i := 4) nd rfl (Or.inl rfl))
      (pss_one (ps_if (pt_cmpR op_isN1 (pe_ix ix_list (pv 3) (pv 4) (fun _ _ => rfl)) pe_non (nomark _))
        (pss_cons (ps_asg pe_int (pg_sub (pv 3) (pv 4) set_list))
        (pss_one (ps_for PassesOwn.never rfl (pi_range1 rfl T.b_range (pa_cons (pe_callB cl_len (by rfl) T.b_len PySem.boot_len (pa_cons (pv 3) pa_nil)) pa_nil)) (pg_name (i := 5) nd rfl (Or.inl rfl))
          (pss_one (ps_for PassesOwn.never rfl (pi_range1 rfl T.b_range (pa_cons (pe_callB cl_len (by rfl) T.b_len PySem.boot_len (pa_cons (pv 2) pa_nil)) pa_nil)) (pg_name (i := 6) nd rfl (Or.inl rfl))
            (pss_cons (ps_asg (pe_ix ix_tup (pe_ix ix_list (pv 0) pe_int (fun _ _ => rfl)) (pv 6) (fun _ _ => rfl)) (pg_tup rfl (pgs_cons (pg_name (i := 7) nd rfl (Or.inl rfl)) (pgs_cons (pg_name (i := 8) nd rfl (Or.inl rfl)) pgs_nil))))
            (pss_one (ps_if (PW.pt (pw_and (pt_val (pe_ix ix_list (pv 2) (pv 6) (fun _ _ => rfl))) (pw_and (pt_cmpR op_notN1 (pe_ix ix_list (pv 3) (pv 7) (fun _ _ => rfl)) pe_non (nomark _)) (pw_and1 (pt_cmpR op_isN1 (pe_ix ix_list (pv 3) (pv 8) (fun _ _ => rfl)) pe_non (nomark _))))))
              (pss_one (ps_asg (pe_op op_add (pe_ix ix_list (pv 3) (pv 7) (fun _ _ => rfl)) (pe_fn G_law_gain (hr.mono (by decide)) (pa_cons (pv 0) (pa_cons (pv 6) pa_nil)))) (pg_sub (pv 3) (pv 8) set_list)))
              pss_nil))))))))
        pss_nil)))
    (pss_one (ps_ret (pe_callTy cl_tuple (by rfl) T.b_tuple PyProof.Rows.boot_tuple (pa_cons (pv 3) pa_nil)))))))), ?_⟩
  try dsimp only [cxOf, Cx.nox, Cx.wish]
  walk_at "go"
  refine w_lstI hm (by walk_at "sz") fun pc N1 H1 eN1 hpc hm1 => ?_
  walk_at "go"
  refine w_spN hm1 ⟨pc, e.ch, rfl, ⟨p, r, as, SqL.of hpc, Same.sqt eN1 h2, Same.sqt eN1 h3, h4.mono eN1⟩, ok.ch, rfl⟩ fun v N2 H2 eN2 hm2 hR => ?_
  obtain ⟨ti, rfl, hti⟩ := hR
  have eI := eN1.trans eN2
  have h1b : SqL K N2 a [.ref p, .ref r, .int e.fi, .ref q] := eI.seq h1
  have h2b : SqT K N2 p (iv e.ch.cs) := Same.sqt eI h2
  have h3b : SqT K N2 r (as.map V.ref) := Same.sqt eI h3
  have h4b := h4.mono eI
  have hM3 := hMt2.mono eI
  have htib : SqL K N2 ti (bv (innerL e.ch)) := SqL.of hti
  clear h1 h2 h3 h4 hMt2 hpc eN1 eN2 hti hm1 hm
  walk_at "go"
  refine w_lst hm2 (by walk_at "sz") fun p0 H3 hm3 => ?_
  walk_at "go"
  refine w_rep hm3 foc0 (by omega) (by simp only [List.length_map]; omega) (by simp only [List.length_map]; exact small_sz (by rw [List.length_singleton]; omega)) fun pt H4 hm4 => ?_
  have hm4 := hm4.swap.drop
  rw [ovs_rep, List.length_map, Int.toNat_natCast] at hm4
  walk_at "go"
  have lrep : (ovs (List.replicate e.ch.cs.length none)).length = e.ch.cs.length := by rw [List.length_map, List.length_replicate]
  rw [lrep]
  refine w_irr1 (by omega) fun J wk => ?_
  refine w_forZ wk hm4 (fun i σ N M' => ∃ T s4 s5 s6 s7 s8, σ = [some (.ref a), some (.ref pc), some (.ref ti), some (.ref pt), s4, s5, s6, s7, s8] ∧ M' = (pt, .lst (ovs T)) :: M ∧ LT e i T)
    ⟨_, none, none, none, none, none, rfl, rfl, LT.init⟩ ?_ ?_
  · rintro i _ N _ H5 hi eN ⟨T, s4, s5, s6, s7, s8, rfl, rfl, hT⟩ hm5
    have hiT : i < T.length := by rw [hT.len]; exact hi
    have ai := ati_ov hiT
    have lT : (ovs T).length = e.ch.cs.length := by rw [List.length_map, hT.len]
    walk_at "go"
    cases hti2 : T.getD i none with
    | some t0 =>
      rw [hti2] at ai
      walk_at "go"
      refine w_ite (fun h => by cases h) fun _ => ?_
      walk_at "go"
      exact ⟨_, _, eN, ⟨T, _, _, _, _, _, rfl, rfl, hT.skip ok.ch hi (by rw [tg, hti2]; simp)⟩, hm5⟩
    | none =>
      rw [hti2] at ai
      walk_at "go"
      refine w_ite (fun _ => ?_) fun h => absurd rfl h
      walk_at "go"
      refine w_setL hm5 foc0 (ixn_nat (by rw [lT]; exact hi)) fun H6 hm6 => ?_
      rw [ovs_set] at hm6
      obtain ⟨na, hU⟩ := hT.start ok.ch hi hti2
      have lU : (ovs (T.set i (some 0))).length = e.ch.cs.length := by rw [List.length_map, hU.len]
      walk_at "go"
      rw [lU]
      refine w_irr1 (by omega) fun J2 wk2 => ?_
      refine w_forZ wk2 hm6 (fun t σ N M' => ∃ T s5 s6 s7 s8, σ = [some (.ref a), some (.ref pc), some (.ref ti), some (.ref pt), some (.int (i : Int)), s5, s6, s7, s8] ∧ M' = (pt, .lst (ovs T)) :: M ∧ LU e i T ∧ (cf T + t ≤ e.ch.cs.length ∨ ClT e.ch T))
        ⟨_, s5, s6, s7, s8, rfl, rfl, hU, .inl (by
          have := List.count_le_length (a := false) (l := (T.set i (some 0)).map Option.isSome)
          rw [List.length_map, hU.len] at this
          exact this)⟩ ?_ ?_
      · rintro t _ N3 _ H7 ht eN3 ⟨T0, s5, s6, s7, s8, rfl, rfl, hU0, hg0⟩ hm7
        have lin := inner_len (c := e.ch)
        have htic : SqL K N3 ti (bv (innerL e.ch)) := eN3.seq (eN.seq htib)
        have eA := eN3
        clear eN3
        walk_at "go"
        have lbv : (bv (innerL e.ch)).length = e.ch.ar.length := by rw [List.length_map, lin]
        rw [lbv]
        refine w_irr1 (by omega) fun J3 wk3 => ?_
        refine w_forZ wk3 hm7 (fun j σ N M' => ∃ T s6 s7 s8, σ = [some (.ref a), some (.ref pc), some (.ref ti), some (.ref pt), some (.int (i : Int)), some (.int (t : Int)), s6, s7, s8] ∧ M' = (pt, .lst (ovs T)) :: M ∧ LU e i T ∧ LP e T0 j T)
          ⟨T0, s6, s7, s8, rfl, rfl, hU0, LP.init⟩ ?_ ?_
        · rintro j _ N4 _ H8 hj eN4 ⟨T1, s6, s7, s8, rfl, rfl, hU1, hP⟩ hm8
          have eZ := eN.trans (eA.trans eN4)
          have hM4 := hM3.mono eZ
          have h1d : SqL K N4 a [.ref p, .ref r, .int e.fi, .ref q] := eZ.seq h1b
          have h3d : SqT K N4 r (as.map V.ref) := Same.sqt eZ h3b
          have htid : SqL K N4 ti (bv (innerL e.ch)) := eZ.seq htib
          have ja : j < as.length := by rw [h4b.1]; exact hj
          have hpj : SqT K N4 (as.getD j 0) [.int ((e.ch.tl j : Nat) : Int), .int ((e.ch.hd j : Nat) : Int)] := (h4b.mono eZ).2 j hj
          have eB := eN4
          clear eZ eN4
          have b1 := ok.ch.tl j hj
          have b2 := ok.ch.hd j hj
          have l1 : e.ch.tl j < T1.length := by rw [hU1.len]; exact b1
          have l2 : e.ch.hd j < T1.length := by rw [hU1.len]; exact b2
          have ai0 : atI (bv (innerL e.ch)) ((j : Nat) : Int) = some (.bl (e.ch.rch (e.ch.hd j) (e.ch.tl j))) := by
            rw [← inner_get hj]
            exact ati_bv (by rw [lin]; exact hj)
          have ai1 := ati_ov l1
          have ai2 := ati_ov l2
          walk_at "go"
          refine w_iteB (fun q1 => ?_) fun q1 => ?_
          · have hin : Inn e.ch j := Ch.rch_iff.mp q1
            cases g1 : T1.getD (e.ch.tl j) none with
            | none =>
              rw [g1] at ai1
              walk_at "go"
              refine w_iteN (fun h => absurd rfl h) fun _ => ?_
              refine w_ff ?_
              walk_at "go"
              exact ⟨_, _, eB, ⟨T1, _, _, _, rfl, rfl, hU1, hP.keep fun _ z => absurd g1 z⟩, hm8⟩
            | some t1 =>
              rw [g1] at ai1
              walk_at "go"
              refine w_iteN (fun _ => ?_) fun h => by cases h
              cases g2 : T1.getD (e.ch.hd j) none with
              | some t2 =>
                rw [g2] at ai2
                walk_at "go"
                refine w_ite (fun h => by cases h) fun _ => ?_
                walk_at "go"
                exact ⟨_, _, eB, ⟨T1, _, _, _, rfl, rfl, hU1, hP.keep fun _ _ => by rw [tg, g2]; simp⟩, hm8⟩
              | none =>
                rw [g2] at ai2
                walk_at "go"
                refine w_ite (fun _ => ?_) fun h => absurd rfl h
                walk_at "go"
                refine w_spV hm8 ⟨a, e, j, rfl, hM4, ok, hj, rfl⟩ fun H9 hm9 => ?_
                walk_at "go"
                refine w_setL hm9 foc0 (ixn_nat (by rw [List.length_map]; exact l2)) fun H10 hm10 => ?_
                rw [ovs_set] at hm10
                exact ⟨_, _, eB, ⟨_, _, _, _, rfl, rfl, hU1.put ok.ch na hj hin g1 g2, hP.add hj hin (by rw [tg, g1]; simp) g2 l2 _⟩, hm10⟩
          · walk_at "go"
            exact ⟨_, _, eB, ⟨T1, _, _, _, rfl, rfl, hU1, hP.keep fun z => absurd z (Ch.rch_no.mp q1)⟩, hm8⟩
        · rintro _ N4 _ H8 eN4 ⟨T1, s6, s7, s8, rfl, rfl, hU1, hP⟩ hm8
          refine ⟨_, _, eA.trans eN4, ⟨T1, _, _, _, _, rfl, rfl, hU1, ?_⟩, hm8⟩
          rcases hP.gr with g | ⟨g1, g2⟩
          · rcases hg0 with z | z
            · exact .inl (by omega)
            · have := hP.cl z
              subst this
              omega
          · subst g1
            exact .inr g2
      · rintro _ N3 _ H7 eN3 ⟨T1, s5, s6, s7, s8, rfl, rfl, hU1, hg⟩ hm7
        have hcl : ClT e.ch T1 := by
          rcases hg with g | g
          · intro k hk _ _
            exact cf_zero (by omega) (by rw [hU1.len]; exact ok.ch.hd k hk)
          · exact g
        exact ⟨_, _, eN.trans eN3, ⟨T1, _, _, _, _, _, rfl, rfl, hU1.fin ok.ch hi na hcl⟩, hm7⟩
  · rintro _ N _ H5 eN ⟨T, s4, s5, s6, s7, s8, rfl, rfl, hT⟩ hm5
    obtain ⟨L, rfl, hL⟩ := hT.fin
    rw [IsLv.ov] at hm5
    walk_at "go"
    refine w_tupOfM hm5 foc0 fun u N3 H6 eN3 hu hm6 => ?_
    exact k _ _ _ (eI.trans (eN.trans eN3)) hm6.drop ⟨u, L, rfl, hu, hL⟩
end

end Pa

set_option Elab.async false
set_option linter.all false
set_option maxRecDepth 100000
set_option maxHeartbeats 4000000
namespace Pa
open PySem L2
local macro_rules | `(tactic| walk_at "lt") => `(tactic| first
  | assumption
  | omega
  | (simp only [List.length_map, List.length_range, List.length_cons, List.length_nil, List.length_append, List.length_replicate] at *; omega))
local macro_rules | `(tactic| walk_at "fo") => `(tactic| first | exact foc0 | (refine' focS ?k1; (case k1 => walk_at "fo")))
local macro_rules | `(tactic| walk_at "sq") => `(tactic| first
  | assumption
  | (refine' SqL.of ?k1; (case k1 => assumption))
  | (refine' SqT.of ?k1; (case k1 => assumption))
  | (refine' Or.inl ?k1; (case k1 => walk_at "sq"))
  | (refine' Or.inr ?k1; (case k1 => walk_at "sq"))
  | (refine' Same.seq ?k1 ?k2; (case k1 => assumption); (case k2 => walk_at "sq"))
  | (refine' Same.sqt ?k1 ?k2; (case k1 => assumption); (case k2 => walk_at "sq"))
  | (refine' Same.sqe ?k1 ?k2; (case k1 => assumption); (case k2 => walk_at "sq"))
  | (refine' same_at ?k1 ?k2; (case k1 => assumption); (case k2 => walk_at "sq")))
local macro_rules | `(tactic| walk_at "ai") => `(tactic| first
  | assumption
  | (refine' ati_ints ?k1; (case k1 => walk_at "lt"))
  | (refine' ati_refs ?k1; (case k1 => walk_at "lt"))
  | (refine' ati_nat ?k1; (case k1 => assumption))
  | k_dflt rfl)
local macro_rules | `(tactic| walk_at "lk") => `(tactic| first
  | assumption
  | exact lk_hd
  | (refine' lk_tl ?k1 ?k2; (case k1 => decide +kernel); (case k2 => walk_at "lk"))
  | exact lk_nil)
local macro_rules | `(tactic| walk_at "sz") => `(tactic| first
  | exact small_sz (by simp only [List.length_cons, List.length_nil, List.length_append, List.length_map, List.length_range, List.length_set, List.length_replicate]; omega))
local macro_rules | `(tactic| walk_at "cc") => `(tactic| first
  | (show (0 : Int) < _; first | decide | omega)
  | exact Or.inl ⟨by omega, by omega⟩
  | exact Or.inr ⟨by omega, by omega⟩
  | exact ⟨by decide, by decide, by decide⟩
  | exact ⟨by decide, by decide⟩)
local macro_rules | `(tactic| walk_at "st") => `(tactic| first
  | with_reducible refine w_seq ?_
  | with_reducible refine w_asg ?_
  | ((with_reducible refine' w_var ?k1 ?_); (case k1 => k_dflt rfl))
  | with_reducible refine w_c ?_
  | with_reducible refine w_op ?_
  | with_reducible refine w_cons ?_
  | with_reducible refine w_nil ?_
  | with_reducible refine w_gname ?_
  | with_reducible refine w_I0 ?_
  | with_reducible refine w_fld ?_
  | ((with_reducible refine' w_ins ?k1 ?k2 ?k3 ?k4 ?k5 ?_); (case k1 => assumption); (case k2 => walk_at "sq"); (case k3 => assumption); (case k4 => assumption); (case k5 => walk_at "lk"))
  | ((with_reducible refine' w_ixT ?k1 ?k2 ?k3 ?_); (case k1 => assumption); (case k2 => walk_at "sq"); (case k3 => walk_at "ai"))
  | ((with_reducible refine' w_ixL ?k1 ?k2 ?k3 ?_); (case k1 => assumption); (case k2 => walk_at "sq"); (case k3 => walk_at "ai"))
  | ((with_reducible refine' w_ixM ?k1 ?k2 ?k3 ?_); (case k1 => assumption); (case k2 => walk_at "fo"); (case k3 => walk_at "ai"))
  | with_reducible refine w_cb ?_
  | with_reducible refine w_test ?_
  | with_reducible refine w_if ?_
  | with_reducible refine w_B ?_
  | with_reducible refine w_not ?_
  | with_reducible refine w_and ?_
  | with_reducible refine w_or ?_
  | with_reducible refine w_eqI ?_
  | with_reducible refine w_neI ?_
  | with_reducible refine w_isN ?_
  | with_reducible refine w_notN ?_
  | with_reducible refine w_isB ?_
  | with_reducible refine w_bl ?_
  | with_reducible refine w_ret ?_
  | with_reducible refine w_next ?_
  | with_reducible refine w_brk ?_
  | with_reducible refine w_drop ?_
  | with_reducible refine w_call ?_
  | with_reducible refine w_un ?_
  | with_reducible refine w_U ?_
  | with_reducible refine w_andV ?_
  | with_reducible refine w_orV ?_
  | with_reducible refine w_notV ?_
  | with_reducible refine w_ifE ?_
  | with_reducible refine w_chain ?_
  | with_reducible refine w_gsub ?_
  | with_reducible refine w_gnil ?_
  | with_reducible refine w_gcons ?_
  | with_reducible refine w_ipI ?_
  | with_reducible refine w_fldS ?_
  | with_reducible refine w_tru ?_
  | with_reducible refine w_abs ?_
  | with_reducible refine w_maxB ?_
  | with_reducible refine w_minB ?_
  | with_reducible refine w_int ?_
  | with_reducible refine w_tupE ?_
  | with_reducible refine w_lstE ?_
  | with_reducible refine w_bm ?_
  | with_reducible refine w_bm0 ?_
  | with_reducible refine w_mth ?_
  | with_reducible refine w_for0 ?_
  | with_reducible refine w_lc0 ?_
  | with_reducible refine w_il ?_
  | with_reducible refine w_it ?_
  | with_reducible refine w_is ?_
  | with_reducible refine w_ie ?_
  | with_reducible refine w_ir1 ?_
  | with_reducible refine w_ir2 ?_
  | with_reducible refine w_irv ?_
  | with_reducible refine w_rg1 ?_
  | with_reducible refine w_rg1v ?_
  | with_reducible refine w_lrg ?_
  | with_reducible refine w_make ?_
  | with_reducible refine w_yes ?_
  | with_reducible refine w_ost ?_
  | with_reducible refine w_mkoE ?_
  | with_reducible refine w_is_int_int ?_
  | with_reducible refine w_is_int_bool ?_
  | with_reducible refine w_is_int_str ?_
  | with_reducible refine w_is_int_tuple ?_
  | with_reducible refine w_is_bl_int ?_
  | with_reducible refine w_is_bl_bool ?_
  | with_reducible refine w_is_bl_str ?_
  | with_reducible refine w_is_bl_tuple ?_
  | with_reducible refine w_is_non_int ?_
  | with_reducible refine w_is_non_bool ?_
  | with_reducible refine w_is_non_str ?_
  | with_reducible refine w_is_non_tuple ?_
  | with_reducible refine w_is_str_int ?_
  | with_reducible refine w_is_str_bool ?_
  | with_reducible refine w_is_str_str ?_
  | with_reducible refine w_is_str_tuple ?_
  | ((with_reducible refine' w_insM ?k1 ?k2 ?k3 ?k4 ?k5 ?_); (case k1 => assumption); (case k2 => walk_at "fo"); (case k3 => assumption); (case k4 => assumption); (case k5 => walk_at "lk"))
  | ((with_reducible refine' w_ixE ?k1 ?k2 ?k3 ?_); (case k1 => assumption); (case k2 => walk_at "sq"); (case k3 => walk_at "ai"))
  | ((with_reducible refine' w_len ?k1 ?k2 ?_); (case k1 => assumption); (case k2 => walk_at "sq"))
  | ((with_reducible refine' w_lenM ?k1 ?k2 ?_); (case k1 => assumption); (case k2 => walk_at "fo"))
  | ((with_reducible refine' w_I ?k1 ?_); (case k1 => walk_at "cc"))
  | ((with_reducible refine' w_gtup ?k1 ?k2 ?_); (case k1 => refine' Mem.sqt ?m0 ?h0; (case m0 => assumption); (case h0 => walk_at "sq")); (case k2 => k_dflt rfl))
  | ((with_reducible refine' w_aug ?k1 ?_); (case k1 => k_dflt rfl))
  | ((with_reducible refine' w_truM ?k1 ?k2 ?_); (case k1 => assumption); (case k2 => walk_at "fo"))
  | ((with_reducible refine' w_truL ?k1 ?k2 ?_); (case k1 => assumption); (case k2 => walk_at "sq"))
  | ((with_reducible refine' w_tyL ?k1 ?k2 ?_); (case k1 => assumption); (case k2 => walk_at "fo"))
  | ((with_reducible refine' w_mthI ?k1 ?k2 ?k3 ?_); (case k1 => assumption); (case k2 => walk_at "sq"); (case k3 => walk_at "lk"))
  | ((with_reducible refine' w_sumM ?k1 ?k2 ?_); (case k1 => assumption); (case k2 => walk_at "fo"))
  | ((with_reducible refine' w_eqDN ?k1 ?k2 ?k3 ?_); (case k1 => assumption); (case k2 => walk_at "sq"); (case k3 => walk_at "sq"))
  | ((with_reducible refine' w_is_tup_int ?k1 ?k2 ?_); (case k1 => assumption); (case k2 => walk_at "sq"))
  | ((with_reducible refine' w_is_tup_bool ?k1 ?k2 ?_); (case k1 => assumption); (case k2 => walk_at "sq"))
  | ((with_reducible refine' w_is_tup_str ?k1 ?k2 ?_); (case k1 => assumption); (case k2 => walk_at "sq"))
  | ((with_reducible refine' w_is_tup_tuple ?k1 ?k2 ?_); (case k1 => assumption); (case k2 => walk_at "sq"))
  | dsimp only)
local macro_rules | `(tactic| walk_at "go") => `(tactic| repeat (walk_at "st"))
section
variable {P : Program} {w : World} {K : PySem.W.Frag} {mg : Str → Option Value} {base : Heap} {C : Ad}
abbrev N_law_fault : List Str := ["_law_meter_here", "_law_row", "_law_inner_here", "_law_k"]
abbrev P_law_fault : List Str := ["_law_meter_here", "_law_row"]
theorem sc_law_fault : FnScope N_law_fault P_law_fault (defScope S_law_fault) := ⟨rfl, rfl, rfl, by decide +kernel, rfl, by decide +kernel, by decide +kernel⟩
-- slots: 0 _law_meter_here, 1 _law_row, 2 _law_inner_here, 3 _law_k
def spFaultL (K : PySem.W.Frag) : Sp := spV fun vs I v => ∃ (a l : Addr) (e : Me) (L : List Int), vs = [.ref a, .ref l] ∧ MtrAt K I a e ∧ e.Ok ∧ SqE K I l (iv L) ∧ L.length = e.ch.cs.length ∧ v = fltV (okF e L)
theorem ok_law_fault {f : Addr} {fd : FuncData} (F : FnP K "_law_fault" "_law_fault" S_law_fault f fd) (T : Txt K mg C) (G_law_inner : FnAt P w K mg base "_law_inner" 2 P_law_inner (spInner K)) (G_law_gain : FnAt P w K mg base "_law_gain" 1 P_law_gain (spGainL K)) : FnOk P w K mg base CX0 3 f fd P_law_fault (spFaultL K) := by
  have nd := sc_law_fault.nd
  refine F.ok sc_law_fault (fun vs H Q E h => ?_) (fun cdv A outer s H vs Q E hr h => ?_)
  · obtain ⟨I, M, v, ⟨a, l, e, L, rfl, _⟩, _⟩ := h
    rfl
  obtain ⟨I, M, v, ⟨a, l, e, L, rfl, hMt, ok, hl, hL, rfl⟩, hm, k⟩ := h
  have hMt2 := hMt
  obtain ⟨p, r, q, as, h1, h2, h3, h4, h5⟩ := hMt
  have n16 := ok.ch.n16
  have m32 := ok.ch.m32
  have lin := inner_len (c := e.ch)
  have lbv : (bv (innerL e.ch)).length = e.ch.ar.length := by rw [List.length_map, lin]
  refine ⟨_, PSs.nox (pss_cons (ps_set (i := 2) nd rfl (Or.inl rfl) (pe_fn G_law_inner (hr.mono (by decide)) (pa_cons (pe_lst (pa_cons (pe_ix ix_list (pv 0) pe_int (fun _ _ => rfl)) (pa_cons (pe_ix ix_list (pv 0) pe_int (fun _ _ => rfl)) pa_nil))) pa_nil)))
    (pss_cons (ps_for PassesOwn.never rfl (pi_range1 rfl T.b_range (pa_cons (pe_callB cl_len (by rfl) T.b_len PySem.boot_len (pa_cons (pv 2) pa_nil)) pa_nil)) (pg_name (i := 3) nd rfl (Or.inl rfl))
      (pss_one (ps_if (PW.pt (pw_and (pt_val (pe_ix ix_list (pv 2) (pv 3) (fun _ _ => rfl))) (pw_and1 (pt_cmpR op_ne (pe_ix ix_seq (pv 1) (pe_ix ix_tup (pe_ix ix_tup (pe_ix ix_list (pv 0) pe_int (fun _ _ => rfl)) (pv 3) (fun _ _ => rfl)) pe_int (fun _ _ => rfl)) (fun _ _ => rfl)) (pe_op op_add (pe_ix ix_seq (pv 1) (pe_ix ix_tup (pe_ix ix_tup (pe_ix ix_list (pv 0) pe_int (fun _ _ => rfl)) (pv 3) (fun _ _ => rfl)) pe_int (fun _ _ => rfl)) (fun _ _ => rfl)) (pe_fn G_law_gain (hr.mono (by decide)) (pa_cons (pv 0) (pa_cons (pv 3) pa_nil)))) (nomark _)))))
        (pss_one (ps_ret pe_str))
        pss_nil)))
    (pss_one (ps_ret pe_non)))), ?_⟩
  try dsimp only [cxOf, Cx.nox, Cx.wish]
  walk_at "go"
  refine w_lstI hm (by walk_at "sz") fun pc N1 H1 eN1 hpc hm1 => ?_
  walk_at "go"
  refine w_spN hm1 ⟨pc, e.ch, rfl, ⟨p, r, as, SqL.of hpc, Same.sqt eN1 h2, Same.sqt eN1 h3, h4.mono eN1⟩, ok.ch, rfl⟩ fun v N2 H2 eN2 hm2 hR => ?_
  obtain ⟨ti, rfl, hti⟩ := hR
  have eI := eN1.trans eN2
  have htib : SqL K N2 ti (bv (innerL e.ch)) := SqL.of hti
  clear eN1 eN2
  walk_at "go"
  rw [lbv]
  refine w_irr1 (by omega) fun J wk => ?_
  refine w_forZ wk hm2 (fun i σ N M' => ∃ s3, σ = [some (.ref a), some (.ref l), some (.ref ti), s3] ∧ M = M' ∧ ∀ k, k < i → e.ch.rch (e.ch.hd k) (e.ch.tl k) = true → L.getD (e.ch.hd k) 0 = L.getD (e.ch.tl k) 0 + e.gain k)
    ⟨none, rfl, rfl, fun k h => absurd h (Nat.not_lt_zero _)⟩ ?_ ?_
  · rintro j _ N4 _ H8 hj eN4 ⟨s3, rfl, rfl, hall⟩ hm8
    have eZ := eI.trans eN4
    have hM4 := hMt2.mono eZ
    have h1d : SqL K N4 a [.ref p, .ref r, .int e.fi, .ref q] := eZ.seq h1
    have h3d : SqT K N4 r (as.map V.ref) := Same.sqt eZ h3
    have htid : SqL K N4 ti (bv (innerL e.ch)) := eN4.seq htib
    have hld : SqE K N4 l (iv L) := Same.sqe eZ hl
    have ja : j < as.length := by rw [h4.1]; exact hj
    have hpj : SqT K N4 (as.getD j 0) [.int ((e.ch.tl j : Nat) : Int), .int ((e.ch.hd j : Nat) : Int)] := (h4.mono eZ).2 j hj
    have eB := eN4
    have eY := eZ
    clear eZ eN4
    have b1 := ok.ch.tl j hj
    have b2 := ok.ch.hd j hj
    have ai0 : atI (bv (innerL e.ch)) ((j : Nat) : Int) = some (.bl (e.ch.rch (e.ch.hd j) (e.ch.tl j))) := by
      rw [← inner_get hj]
      exact ati_bv (by rw [lin]; exact hj)
    have ai1 : atI (iv L) ((e.ch.tl j : Nat) : Int) = some (.int (L.getD (e.ch.tl j) 0)) := ati_ints (by omega)
    have ai2 : atI (iv L) ((e.ch.hd j : Nat) : Int) = some (.int (L.getD (e.ch.hd j) 0)) := ati_ints (by omega)
    have next : (e.ch.rch (e.ch.hd j) (e.ch.tl j) = true → L.getD (e.ch.hd j) 0 = L.getD (e.ch.tl j) 0 + e.gain j) → ∀ k, k < j + 1 → e.ch.rch (e.ch.hd k) (e.ch.tl k) = true → L.getD (e.ch.hd k) 0 = L.getD (e.ch.tl k) 0 + e.gain k := fun z k hk hr => by
      by_cases ek : k = j
      · subst ek
        exact z hr
      · exact hall k (by omega) hr
    walk_at "go"
    refine w_iteB (fun hr => ?_) fun hr => ?_
    · walk_at "go"
      refine w_spV hm8 ⟨a, e, j, rfl, hM4, ok, hj, rfl⟩ fun H9 hm9 => ?_
      walk_at "go"
      refine w_iteN (fun hne => ?_) fun heq => ?_
      · walk_at "go"
        have : okF e L = false := okF_no.mpr fun z => hne (z j hj hr)
        rw [this] at k
        exact k _ (hm9.back eY)
      · walk_at "go"
        exact ⟨_, _, eB, ⟨_, rfl, rfl, next fun _ => heq⟩, hm9⟩
    · walk_at "go"
      exact ⟨_, _, eB, ⟨_, rfl, rfl, next fun z => by rw [hr] at z; cases z⟩, hm8⟩
  · rintro _ N4 _ H8 eN4 ⟨s3, rfl, rfl, hall⟩ hm8
    walk_at "go"
    have : okF e L = true := okF_iff.mpr hall
    rw [this] at k
    exact k _ (hm8.back (eI.trans eN4))
end

end Pa

set_option Elab.async false
set_option linter.all false
set_option maxRecDepth 100000
set_option maxHeartbeats 4000000
namespace Pa
open PySem L2
local macro_rules | `(tactic| walk_at "lt") => `(tactic| first
  | assumption
  | omega
  | (simp only [List.length_map, List.length_range, List.length_cons, List.length_nil, List.length_append, List.length_replicate] at *; omega))
local macro_rules | `(tactic| walk_at "fo") => `(tactic| first | exact foc0 | (refine' focS ?k1; (case k1 => walk_at "fo")))
local macro_rules | `(tactic| walk_at "sq") => `(tactic| first
  | assumption
  | (refine' SqL.of ?k1; (case k1 => assumption))
  | (refine' SqT.of ?k1; (case k1 => assumption))
  | (refine' Or.inl ?k1; (case k1 => walk_at "sq"))
  | (refine' Or.inr ?k1; (case k1 => walk_at "sq"))
  | (refine' Same.seq ?k1 ?k2; (case k1 => assumption); (case k2 => walk_at "sq"))
  | (refine' Same.sqt ?k1 ?k2; (case k1 => assumption); (case k2 => walk_at "sq"))
  | (refine' Same.sqe ?k1 ?k2; (case k1 => assumption); (case k2 => walk_at "sq"))
  | (refine' same_at ?k1 ?k2; (case k1 => assumption); (case k2 => walk_at "sq")))
local macro_rules | `(tactic| walk_at "ai") => `(tactic| first
  | assumption
  | (refine' ati_ints ?k1; (case k1 => walk_at "lt"))
  | (refine' ati_refs ?k1; (case k1 => walk_at "lt"))
  | (refine' ati_nat ?k1; (case k1 => assumption))
  | k_dflt rfl)
local macro_rules | `(tactic| walk_at "lk") => `(tactic| first
  | assumption
  | exact lk_hd
  | (refine' lk_tl ?k1 ?k2; (case k1 => decide +kernel); (case k2 => walk_at "lk"))
  | exact lk_nil)
local macro_rules | `(tactic| walk_at "sz") => `(tactic| first
  | exact small_sz (by simp only [List.length_cons, List.length_nil, List.length_append, List.length_map, List.length_range, List.length_set, List.length_replicate]; omega))
local macro_rules | `(tactic| walk_at "cc") => `(tactic| first
  | (show (0 : Int) < _; first | decide | omega)
  | exact Or.inl ⟨by omega, by omega⟩
  | exact Or.inr ⟨by omega, by omega⟩
  | exact ⟨by decide, by decide, by decide⟩
  | exact ⟨by decide, by decide⟩)
local macro_rules | `(tactic| walk_at "st") => `(tactic| first
  | with_reducible refine w_seq ?_
  | with_reducible refine w_asg ?_
  | ((with_reducible refine' w_var ?k1 ?_); (case k1 => k_dflt rfl))
  | with_reducible refine w_c ?_
  | with_reducible refine w_op ?_
  | with_reducible refine w_cons ?_
  | with_reducible refine w_nil ?_
  | with_reducible refine w_gname ?_
  | with_reducible refine w_I0 ?_
  | with_reducible refine w_fld ?_
  | ((with_reducible refine' w_ins ?k1 ?k2 ?k3 ?k4 ?k5 ?_); (case k1 => assumption); (case k2 => walk_at "sq"); (case k3 => assumption); (case k4 => assumption); (case k5 => walk_at "lk"))
  | ((with_reducible refine' w_ixT ?k1 ?k2 ?k3 ?_); (case k1 => assumption); (case k2 => walk_at "sq"); (case k3 => walk_at "ai"))
  | ((with_reducible refine' w_ixL ?k1 ?k2 ?k3 ?_); (case k1 => assumption); (case k2 => walk_at "sq"); (case k3 => walk_at "ai"))
  | ((with_reducible refine' w_ixM ?k1 ?k2 ?k3 ?_); (case k1 => assumption); (case k2 => walk_at "fo"); (case k3 => walk_at "ai"))
  | with_reducible refine w_cb ?_
  | with_reducible refine w_test ?_
  | with_reducible refine w_if ?_
  | with_reducible refine w_B ?_
  | with_reducible refine w_not ?_
  | with_reducible refine w_and ?_
  | with_reducible refine w_or ?_
  | with_reducible refine w_eqI ?_
  | with_reducible refine w_neI ?_
  | with_reducible refine w_isN ?_
  | with_reducible refine w_notN ?_
  | with_reducible refine w_isB ?_
  | with_reducible refine w_bl ?_
  | with_reducible refine w_ret ?_
  | with_reducible refine w_next ?_
  | with_reducible refine w_brk ?_
  | with_reducible refine w_drop ?_
  | with_reducible refine w_call ?_
  | with_reducible refine w_un ?_
  | with_reducible refine w_U ?_
  | with_reducible refine w_andV ?_
  | with_reducible refine w_orV ?_
  | with_reducible refine w_notV ?_
  | with_reducible refine w_ifE ?_
  | with_reducible refine w_chain ?_
  | with_reducible refine w_gsub ?_
  | with_reducible refine w_gnil ?_
  | with_reducible refine w_gcons ?_
  | with_reducible refine w_ipI ?_
  | with_reducible refine w_fldS ?_
  | with_reducible refine w_tru ?_
  | with_reducible refine w_abs ?_
  | with_reducible refine w_maxB ?_
  | with_reducible refine w_minB ?_
  | with_reducible refine w_int ?_
  | with_reducible refine w_tupE ?_
  | with_reducible refine w_lstE ?_
  | with_reducible refine w_bm ?_
  | with_reducible refine w_bm0 ?_
  | with_reducible refine w_mth ?_
  | with_reducible refine w_for0 ?_
  | with_reducible refine w_lc0 ?_
  | with_reducible refine w_il ?_
  | with_reducible refine w_it ?_
  | with_reducible refine w_is ?_
  | with_reducible refine w_ie ?_
  | with_reducible refine w_ir1 ?_
  | with_reducible refine w_ir2 ?_
  | with_reducible refine w_irv ?_
  | with_reducible refine w_rg1 ?_
  | with_reducible refine w_rg1v ?_
  | with_reducible refine w_lrg ?_
  | with_reducible refine w_make ?_
  | with_reducible refine w_yes ?_
  | with_reducible refine w_ost ?_
  | with_reducible refine w_mkoE ?_
  | with_reducible refine w_is_int_int ?_
  | with_reducible refine w_is_int_bool ?_
  | with_reducible refine w_is_int_str ?_
  | with_reducible refine w_is_int_tuple ?_
  | with_reducible refine w_is_bl_int ?_
  | with_reducible refine w_is_bl_bool ?_
  | with_reducible refine w_is_bl_str ?_
  | with_reducible refine w_is_bl_tuple ?_
  | with_reducible refine w_is_non_int ?_
  | with_reducible refine w_is_non_bool ?_
  | with_reducible refine w_is_non_str ?_
  | with_reducible refine w_is_non_tuple ?_
  | with_reducible refine w_is_str_int ?_
  | with_reducible refine w_is_str_bool ?_
  | with_reducible refine w_is_str_str ?_
  | with_reducible refine w_is_str_tuple ?_
  | ((with_reducible refine' w_insM ?k1 ?k2 ?k3 ?k4 ?k5 ?_); (case k1 => assumption); (case k2 => walk_at "fo"); (case k3 => assumption); (case k4 => assumption); (case k5 => walk_at "lk"))
  | ((with_reducible refine' w_ixE ?k1 ?k2 ?k3 ?_); (case k1 => assumption); (case k2 => walk_at "sq"); (case k3 => walk_at "ai"))
  | ((with_reducible refine' w_len ?k1 ?k2 ?_); (case k1 => assumption); (case k2 => walk_at "sq"))
  | ((with_reducible refine' w_lenM ?k1 ?k2 ?_); (case k1 => assumption); (case k2 => walk_at "fo"))
  | ((with_reducible refine' w_I ?k1 ?_); (case k1 => walk_at "cc"))
  | ((with_reducible refine' w_gtup ?k1 ?k2 ?_); (case k1 => refine' Mem.sqt ?m0 ?h0; (case m0 => assumption); (case h0 => walk_at "sq")); (case k2 => k_dflt rfl))
  | ((with_reducible refine' w_aug ?k1 ?_); (case k1 => k_dflt rfl))
  | ((with_reducible refine' w_truM ?k1 ?k2 ?_); (case k1 => assumption); (case k2 => walk_at "fo"))
  | ((with_reducible refine' w_truL ?k1 ?k2 ?_); (case k1 => assumption); (case k2 => walk_at "sq"))
  | ((with_reducible refine' w_tyL ?k1 ?k2 ?_); (case k1 => assumption); (case k2 => walk_at "fo"))
  | ((with_reducible refine' w_mthI ?k1 ?k2 ?k3 ?_); (case k1 => assumption); (case k2 => walk_at "sq"); (case k3 => walk_at "lk"))
  | ((with_reducible refine' w_sumM ?k1 ?k2 ?_); (case k1 => assumption); (case k2 => walk_at "fo"))
  | ((with_reducible refine' w_eqDN ?k1 ?k2 ?k3 ?_); (case k1 => assumption); (case k2 => walk_at "sq"); (case k3 => walk_at "sq"))
  | ((with_reducible refine' w_is_tup_int ?k1 ?k2 ?_); (case k1 => assumption); (case k2 => walk_at "sq"))
  | ((with_reducible refine' w_is_tup_bool ?k1 ?k2 ?_); (case k1 => assumption); (case k2 => walk_at "sq"))
  | ((with_reducible refine' w_is_tup_str ?k1 ?k2 ?_); (case k1 => assumption); (case k2 => walk_at "sq"))
  | ((with_reducible refine' w_is_tup_tuple ?k1 ?k2 ?_); (case k1 => assumption); (case k2 => walk_at "sq"))
  | dsimp only)
local macro_rules | `(tactic| walk_at "go") => `(tactic| repeat (walk_at "st"))
theorem w_isX {K : PySem.W.Frag} {I H : Hp} {M : Mu} {a d D E : Addr} {fs : List (Str × V)} {b : Bool} {Q : VK} (hm : Mem I ((d, .xd fs) :: M) H) (hk : PySem.W.kitOne K (.ref D) (.ref E) = some b) (q : Q (.bl b) H) : rIsX K a (.ref D) (some d) D [.ref a, .ref E] H Q :=
  ⟨_, _, b, d, fs, rfl, .own E, rfl, rfl, hm.at (j := 0) rfl, hk, q⟩
def rXf (a : Addr) (cls : Value) (d : Option Addr) (C : Addr) (f : Str) : V → Hp → VK → Prop := fun x H1 Q => x = .ref a ∧ cls = .ref C ∧ ∃ (dd : Addr) (fs : List (Str × V)) (v : V), d = some dd ∧ H1 dd = some (.xd fs) ∧ fs.lookup f = some v ∧ Q v H1
theorem w_xf {a : Addr} {cls : Value} {d : Option Addr} {C : Addr} {f : Str} {te : TE} {σ : L2.St} {H : Hp} {Q : VK} (h : te σ H fun x H1 => rXf a cls d C f x H1 Q) : tXf a cls d C f te σ H Q := h
theorem w_xfv {I H : Hp} {M : Mu} {a d C : Addr} {fs : List (Str × V)} {f : Str} {v : V} {Q : VK} (hm : Mem I ((d, .xd fs) :: M) H) (hl : fs.lookup f = some v) (q : Q v H) : rXf a (.ref C) (some d) C f (.ref a) H Q :=
  ⟨rfl, rfl, d, fs, v, rfl, hm.at (j := 0) rfl, hl, q⟩
theorem w_callS {sp : Sp} {E : L2.St → XK} {t : TA} {σ : L2.St} {H : Hp} {Q : VK} (h : t σ H fun vs H1 => sp vs H1 Q (E σ)) : tCallS sp E t σ H Q := h
section
variable {P : Program} {w : World} {K : PySem.W.Frag} {mg : Str → Option Value} {base : Heap} {C : Ad} {fI : Addr}
abbrev N_law_told_levels : List Str := ["_law_made_here", "raised"]
abbrev P_law_told_levels : List Str := ["_law_made_here"]
theorem sc_law_told_levels : FnScope N_law_told_levels P_law_told_levels (defScope S_law_told_levels) := ⟨rfl, rfl, rfl, by decide +kernel, rfl, by decide +kernel, by decide +kernel⟩
-- slots: 0 _law_made_here, 1 raised
def spTold (K : PySem.W.Frag) (C : Ad) : Sp := spN fun vs I R => ∃ (a : Addr) (e : Me), vs = [.ref a] ∧ MeAt K C I a e ∧ e.Ok ∧
  R = fun v N => (NoneD e [1, -1] ∧ ∃ t L, v = .ref t ∧ SqT K N t (iv L) ∧ IsLv e L) ∨ ∃ r u q, FirstD e [1, -1] r ∧ v = .ref u ∧ SqT K N u [.str "drifts", .ref q, .int (e.sum r)] ∧ TupN K N q r
def tSuite (K : PySem.W.Frag) (C : Ad) : Addr → Value → Option Addr → TS := fun a cls d => tSeq
  (tIfS (tOr (tNot (tB (tCB (rIsX K a cls d C.dg) (tCons (tVar 1) (tCons (tC (.ref C.dg)) tNil))))) (tB (tCB (rIsX K a cls d C.dg) (tCons (tVar 1) (tCons (tC (.ref C.br)) tNil)))))
    (tRet (tTup (tCons (tC (.str "other")) (tCons (tUn (rU fun i => .int (-i)) (tC (.int 1))) tNil)))) tNext)
  (tRet (tTup (tCons (tC (.str "drifts")) (tCons (tXf a cls d C.dg "ring" (tVar 1)) (tCons (tXf a cls d C.dg "by" (tVar 1)) tNil)))))
theorem ok_law_told_levels {f : Addr} {fd : FuncData} (F : FnP K "_law_told_levels" "_law_told_levels" S_law_told_levels f fd) (T : Txt K mg C) (G_DG : DrgC K mg C fI)
    (G_part : ∃ f fd, mg "part_levels" = some (.ref f) ∧ PySem.W.keepIn K (.ref f) = true ∧ Binds K fd P_part_levels [] ∧ FnOk P w K mg base (L2.CX P w) 7 f fd P_part_levels (spLevels K C)) : FnOk P w K mg base CX0 8 f fd P_law_told_levels (spTold K C) := by
  have nd := sc_law_told_levels.nd
  refine F.ok sc_law_told_levels (fun vs H Q E h => ?_) (fun cdv A outer s H vs Q E hr h => ?_)
  · obtain ⟨I, M, R, ⟨a, e, rfl, _⟩, _⟩ := h
    rfl
  obtain ⟨I, M, R, ⟨a, e, rfl, hMe, ok, rfl⟩, hm, k⟩ := h
  obtain ⟨fP, fdP, gP, kP, bP, okP⟩ := G_part
  refine ⟨_, (pss_one (ps_try_as (i := 1) (tb := fun W => tRet (tCallS (spLevels K C) (WE W) (tCons (tVar 0) tNil))) (ts := tSuite K C) (Wout := fun _ _ _ _ => False) rfl rfl nd rfl rfl ⟨rfl, by decide, Or.inl T.c_MeterError⟩ takes0
    (fun W pn xe tk _ => pss_one (ps_ret (by exact (pe_callS okP (hr.mono (by decide)) rfl gP kP bP (fun σ => passAt tk σ) (by exact (pa_cons (pv 0) pa_nil))))))
    (fun a oe cls d pn hz hf => pss_cons (ps_if (PW.pt (pw_or (pt_not (pt_val (by exact (pe_callB (call_isX G_DG.xf G_DG.cls G_DG.is hz hf) (by rfl) T.b_isinstance PyProof.Rows.boot_isinstance (by exact (pa_cons (pv 1) (pa_cons (pe_cls T.c_Drifting) pa_nil))))))) (pw_or1 (pt_val (by exact (pe_callB (call_isX G_DG.xf G_DG.cls G_DG.is hz hf) (by rfl) T.b_isinstance PyProof.Rows.boot_isinstance (by exact (pa_cons (pv 1) (pa_cons (pe_cls T.c_BadRing) pa_nil)))))))))
        (pss_one (ps_ret (by exact (pe_tup (pa_cons pe_str (pa_cons (pe_un un_neg pe_int) pa_nil))))))
        pss_nil)
      (pss_one (ps_ret (by exact (pe_tup (pa_cons pe_str (pa_cons (pe_xf G_DG.xf G_DG.nr hz hf (pv 1)) (pa_cons (pe_xf G_DG.xf G_DG.nb hz hf (pv 1)) pa_nil)))))))))), ?_⟩
  refine w_ret ?_
  refine w_callS ?_
  walk_at "go"
  refine ⟨I, M, a, e, rfl, hMe, ok, hm, fun t L N H' hn eN hm1 ht hL => ?_, fun r t d N H' hF eN hm1 ht => ?_⟩
  · exact k _ _ _ eN hm1 (.inl ⟨hn, t, L, rfl, ht, hL⟩)
  · refine ⟨true, G_DG.ex, fun _ ae hae => ?_, fun z => by cases z⟩
    show tSuite K C ae (.ref C.dg) (some d) _ _ _
    unfold tSuite
    walk_at "go"
    refine w_isX hm1 G_DG.k1 ?_
    walk_at "go"
    refine w_nt ?_
    walk_at "go"
    refine w_isX hm1 G_DG.k2 ?_
    walk_at "go"
    refine w_ff ?_
    walk_at "go"
    refine w_xf ?_
    walk_at "go"
    refine w_xfv hm1 (by rfl) ?_
    walk_at "go"
    refine w_xf ?_
    walk_at "go"
    refine w_xfv hm1 (by rfl) ?_
    walk_at "go"
    refine w_tup hm1 (by walk_at "sz") fun u N2 H2 eN2 hu hm2 => ?_
    exact k _ _ _ (eN.trans eN2) hm2.drop (.inr ⟨r, u, t, hF, rfl, SqT.of hu, Same.sqt eN2 ht⟩)
end

end Pa

set_option Elab.async false
set_option linter.all false
set_option maxRecDepth 100000
set_option maxHeartbeats 4000000
namespace Pa
open PySem L2
local macro_rules | `(tactic| walk_at "lt") => `(tactic| first
  | assumption
  | omega
  | (simp only [List.length_map, List.length_range, List.length_cons, List.length_nil, List.length_append, List.length_replicate] at *; omega))
local macro_rules | `(tactic| walk_at "fo") => `(tactic| first | exact foc0 | (refine' focS ?k1; (case k1 => walk_at "fo")))
local macro_rules | `(tactic| walk_at "sq") => `(tactic| first
  | assumption
  | (refine' SqL.of ?k1; (case k1 => assumption))
  | (refine' SqT.of ?k1; (case k1 => assumption))
  | (refine' Or.inl ?k1; (case k1 => walk_at "sq"))
  | (refine' Or.inr ?k1; (case k1 => walk_at "sq"))
  | (refine' Same.seq ?k1 ?k2; (case k1 => assumption); (case k2 => walk_at "sq"))
  | (refine' Same.sqt ?k1 ?k2; (case k1 => assumption); (case k2 => walk_at "sq"))
  | (refine' Same.sqe ?k1 ?k2; (case k1 => assumption); (case k2 => walk_at "sq"))
  | (refine' same_at ?k1 ?k2; (case k1 => assumption); (case k2 => walk_at "sq")))
local macro_rules | `(tactic| walk_at "ai") => `(tactic| first
  | assumption
  | (refine' ati_ints ?k1; (case k1 => walk_at "lt"))
  | (refine' ati_refs ?k1; (case k1 => walk_at "lt"))
  | (refine' ati_nat ?k1; (case k1 => assumption))
  | k_dflt rfl)
local macro_rules | `(tactic| walk_at "lk") => `(tactic| first
  | assumption
  | exact lk_hd
  | (refine' lk_tl ?k1 ?k2; (case k1 => decide +kernel); (case k2 => walk_at "lk"))
  | exact lk_nil)
local macro_rules | `(tactic| walk_at "sz") => `(tactic| first
  | exact small_sz (by simp only [List.length_cons, List.length_nil, List.length_append, List.length_map, List.length_range, List.length_set, List.length_replicate]; omega))
local macro_rules | `(tactic| walk_at "cc") => `(tactic| first
  | (show (0 : Int) < _; first | decide | omega)
  | exact Or.inl ⟨by omega, by omega⟩
  | exact Or.inr ⟨by omega, by omega⟩
  | exact ⟨by decide, by decide, by decide⟩
  | exact ⟨by decide, by decide⟩)
local macro_rules | `(tactic| walk_at "st") => `(tactic| first
  | with_reducible refine w_seq ?_
  | with_reducible refine w_asg ?_
  | ((with_reducible refine' w_var ?k1 ?_); (case k1 => k_dflt rfl))
  | with_reducible refine w_c ?_
  | with_reducible refine w_op ?_
  | with_reducible refine w_cons ?_
  | with_reducible refine w_nil ?_
  | with_reducible refine w_gname ?_
  | with_reducible refine w_I0 ?_
  | with_reducible refine w_fld ?_
  | ((with_reducible refine' w_ins ?k1 ?k2 ?k3 ?k4 ?k5 ?_); (case k1 => assumption); (case k2 => walk_at "sq"); (case k3 => assumption); (case k4 => assumption); (case k5 => walk_at "lk"))
  | ((with_reducible refine' w_ixT ?k1 ?k2 ?k3 ?_); (case k1 => assumption); (case k2 => walk_at "sq"); (case k3 => walk_at "ai"))
  | ((with_reducible refine' w_ixL ?k1 ?k2 ?k3 ?_); (case k1 => assumption); (case k2 => walk_at "sq"); (case k3 => walk_at "ai"))
  | ((with_reducible refine' w_ixM ?k1 ?k2 ?k3 ?_); (case k1 => assumption); (case k2 => walk_at "fo"); (case k3 => walk_at "ai"))
  | with_reducible refine w_cb ?_
  | with_reducible refine w_test ?_
  | with_reducible refine w_if ?_
  | with_reducible refine w_B ?_
  | with_reducible refine w_not ?_
  | with_reducible refine w_and ?_
  | with_reducible refine w_or ?_
  | with_reducible refine w_eqI ?_
  | with_reducible refine w_neI ?_
  | with_reducible refine w_isN ?_
  | with_reducible refine w_notN ?_
  | with_reducible refine w_isB ?_
  | with_reducible refine w_bl ?_
  | with_reducible refine w_ret ?_
  | with_reducible refine w_next ?_
  | with_reducible refine w_brk ?_
  | with_reducible refine w_drop ?_
  | with_reducible refine w_call ?_
  | with_reducible refine w_un ?_
  | with_reducible refine w_U ?_
  | with_reducible refine w_andV ?_
  | with_reducible refine w_orV ?_
  | with_reducible refine w_notV ?_
  | with_reducible refine w_ifE ?_
  | with_reducible refine w_chain ?_
  | with_reducible refine w_gsub ?_
  | with_reducible refine w_gnil ?_
  | with_reducible refine w_gcons ?_
  | with_reducible refine w_ipI ?_
  | with_reducible refine w_fldS ?_
  | with_reducible refine w_tru ?_
  | with_reducible refine w_abs ?_
  | with_reducible refine w_maxB ?_
  | with_reducible refine w_minB ?_
  | with_reducible refine w_int ?_
  | with_reducible refine w_tupE ?_
  | with_reducible refine w_lstE ?_
  | with_reducible refine w_bm ?_
  | with_reducible refine w_bm0 ?_
  | with_reducible refine w_mth ?_
  | with_reducible refine w_for0 ?_
  | with_reducible refine w_lc0 ?_
  | with_reducible refine w_il ?_
  | with_reducible refine w_it ?_
  | with_reducible refine w_is ?_
  | with_reducible refine w_ie ?_
  | with_reducible refine w_ir1 ?_
  | with_reducible refine w_ir2 ?_
  | with_reducible refine w_irv ?_
  | with_reducible refine w_rg1 ?_
  | with_reducible refine w_rg1v ?_
  | with_reducible refine w_lrg ?_
  | with_reducible refine w_make ?_
  | with_reducible refine w_yes ?_
  | with_reducible refine w_ost ?_
  | with_reducible refine w_mkoE ?_
  | with_reducible refine w_is_int_int ?_
  | with_reducible refine w_is_int_bool ?_
  | with_reducible refine w_is_int_str ?_
  | with_reducible refine w_is_int_tuple ?_
  | with_reducible refine w_is_bl_int ?_
  | with_reducible refine w_is_bl_bool ?_
  | with_reducible refine w_is_bl_str ?_
  | with_reducible refine w_is_bl_tuple ?_
  | with_reducible refine w_is_non_int ?_
  | with_reducible refine w_is_non_bool ?_
  | with_reducible refine w_is_non_str ?_
  | with_reducible refine w_is_non_tuple ?_
  | with_reducible refine w_is_str_int ?_
  | with_reducible refine w_is_str_bool ?_
  | with_reducible refine w_is_str_str ?_
  | with_reducible refine w_is_str_tuple ?_
  | ((with_reducible refine' w_insM ?k1 ?k2 ?k3 ?k4 ?k5 ?_); (case k1 => assumption); (case k2 => walk_at "fo"); (case k3 => assumption); (case k4 => assumption); (case k5 => walk_at "lk"))
  | ((with_reducible refine' w_ixE ?k1 ?k2 ?k3 ?_); (case k1 => assumption); (case k2 => walk_at "sq"); (case k3 => walk_at "ai"))
  | ((with_reducible refine' w_len ?k1 ?k2 ?_); (case k1 => assumption); (case k2 => walk_at "sq"))
  | ((with_reducible refine' w_lenM ?k1 ?k2 ?_); (case k1 => assumption); (case k2 => walk_at "fo"))
  | ((with_reducible refine' w_I ?k1 ?_); (case k1 => walk_at "cc"))
  | ((with_reducible refine' w_gtup ?k1 ?k2 ?_); (case k1 => refine' Mem.sqt ?m0 ?h0; (case m0 => assumption); (case h0 => walk_at "sq")); (case k2 => k_dflt rfl))
  | ((with_reducible refine' w_aug ?k1 ?_); (case k1 => k_dflt rfl))
  | ((with_reducible refine' w_truM ?k1 ?k2 ?_); (case k1 => assumption); (case k2 => walk_at "fo"))
  | ((with_reducible refine' w_truL ?k1 ?k2 ?_); (case k1 => assumption); (case k2 => walk_at "sq"))
  | ((with_reducible refine' w_tyL ?k1 ?k2 ?_); (case k1 => assumption); (case k2 => walk_at "fo"))
  | ((with_reducible refine' w_mthI ?k1 ?k2 ?k3 ?_); (case k1 => assumption); (case k2 => walk_at "sq"); (case k3 => walk_at "lk"))
  | ((with_reducible refine' w_sumM ?k1 ?k2 ?_); (case k1 => assumption); (case k2 => walk_at "fo"))
  | ((with_reducible refine' w_eqDN ?k1 ?k2 ?k3 ?_); (case k1 => assumption); (case k2 => walk_at "sq"); (case k3 => walk_at "sq"))
  | ((with_reducible refine' w_is_tup_int ?k1 ?k2 ?_); (case k1 => assumption); (case k2 => walk_at "sq"))
  | ((with_reducible refine' w_is_tup_bool ?k1 ?k2 ?_); (case k1 => assumption); (case k2 => walk_at "sq"))
  | ((with_reducible refine' w_is_tup_str ?k1 ?k2 ?_); (case k1 => assumption); (case k2 => walk_at "sq"))
  | ((with_reducible refine' w_is_tup_tuple ?k1 ?k2 ?_); (case k1 => assumption); (case k2 => walk_at "sq"))
  | dsimp only)
local macro_rules | `(tactic| walk_at "go") => `(tactic| repeat (walk_at "st"))
theorem w_sl {r : V → Option Int → Option Int → Hp → VK → Prop} {te : TE} {tl th : TO} {σ : L2.St} {H : Hp} {Q : VK} (h : te σ H fun x H1 => tl σ H1 fun l H2 => th σ H2 fun u H3 => r x l u H3 Q) : tSl r te tl th σ H Q := h
theorem cut1 {xs : List V} (h : 1 ≤ xs.length) : (cutV xs (some 1) none).length < xs.length := by
  have e : HT.sIx xs.length 0 (some 1) = min 1 xs.length := HT.sIx_nat xs.length 0 1
  unfold cutV
  rw [List.length_take, List.length_drop, e]
  omega
theorem cut_mem {xs : List V} {lo hi : Option Int} {y : V} (h : y ∈ cutV xs lo hi) : y ∈ xs := List.mem_of_mem_drop (List.mem_of_mem_take h)
theorem simp_iv {L : List Int} : ∀ y ∈ iv L, Simp y := fun y hy => by
  obtain ⟨i, _, rfl⟩ := List.mem_map.mp hy
  exact .int i
/-- what is no row of levels -/
def OddV (K : PySem.W.Frag) (n : Nat) (N : Hp) (v : V) : Prop := (v = .non ∨ ∃ i, v = .int i) ∨ ∃ l xs, v = .ref l ∧ SqE K N l xs ∧ xs.length ≤ 1000 ∧ (∀ y ∈ xs, Simp y) ∧ (decide (xs.length = n) && xs.all isI) = false
section
variable {P : Program} {w : World} {K : PySem.W.Frag} {mg : Str → Option Value} {base : Heap} {C : Ad}
abbrev N_law_odd_levels : List Str := ["_law_hand_here", "_law_row", "_law_way", "_law_told"]
abbrev P_law_odd_levels : List Str := ["_law_hand_here", "_law_row"]
theorem sc_law_odd_levels : FnScope N_law_odd_levels P_law_odd_levels (defScope S_law_odd_levels) := ⟨rfl, rfl, rfl, by decide +kernel, rfl, by decide +kernel, by decide +kernel⟩
-- slots: 0 _law_hand_here, 1 _law_row, 2 _law_way, 3 _law_told
def spOdd (K : PySem.W.Frag) : Sp := spM fun vs I M R => ∃ (h t : Addr) (o : HO) (M0 : Mu) (L : List Int), vs = [.ref h, .ref t] ∧ M = (h, o) :: M0 ∧ Hand K I o ∧ SqE K I t (iv L) ∧ 1 ≤ L.length ∧ L.length ≤ 16 ∧
  R = fun v N M' => ∃ o', OddV K L.length N v ∧ M' = (h, o') :: M0 ∧ Hand K N o'
theorem ok_law_odd_levels {f : Addr} {fd : FuncData} (F : FnP K "_law_odd_levels" "_law_odd_levels" S_law_odd_levels f fd) (T : Txt K mg C) (G_law_draw : FnAt P w K mg base "_law_draw" 2 P_law_draw (spDraw K)) : FnOk P w K mg base CX0 3 f fd P_law_odd_levels (spOdd K) := by
  have nd := sc_law_odd_levels.nd
  refine F.ok sc_law_odd_levels (fun vs H Q E h => ?_) (fun cdv A outer s H vs Q E hr h => ?_)
  · obtain ⟨I, M, R, ⟨h, t, o, M0, L, rfl, _⟩, _⟩ := h
    rfl
  obtain ⟨I, M, R, ⟨h, t, o, M0, L, rfl, rfl, ho, ht, hl1, hl2, rfl⟩, hm, k⟩ := h
  have liv : (iv L).length = L.length := List.length_map _
  refine ⟨_, PSs.nox (pss_cons (ps_set (i := 2) nd rfl (Or.inl rfl) (pe_fn G_law_draw (hr.mono (by decide)) (pa_cons (pv 0) (pa_cons pe_int pa_nil))))
    (pss_cons (ps_set (i := 3) nd rfl (Or.inl rfl) (pe_callTy cl_list (by rfl) T.b_list PyProof.Rows.boot_list (pa_cons (pv 1) pa_nil)))
    (pss_cons (ps_if (pt_cmpR op_eq (pv 2) pe_int (nomark _))
      (pss_one (ps_ret (pe_ix ix_list (pe_lst (pa_cons pe_non (pa_cons pe_int (pa_cons pe_int pa_nil)))) (pe_fn G_law_draw (hr.mono (by decide)) (pa_cons (pv 0) (pa_cons pe_int pa_nil))) (fun _ _ => rfl))))
      pss_nil)
    (pss_cons (ps_if (pt_cmpR op_eq (pv 2) pe_int (nomark _))
      (pss_one (ps_ret (pe_op op_cat (pv 3) (pe_lst (pa_cons pe_int pa_nil)))))
      pss_nil)
    (pss_cons (ps_if (pt_cmpR op_eq (pv 2) pe_int (nomark _))
      (pss_one (ps_ret (pe_slice sl_list (pv 3) (po_some pe_int) po_none)))
      pss_nil)
    (pss_cons (ps_asg (pe_ix ix_list (pe_lst (pa_cons pe_non (pa_cons pe_bl (pa_cons pe_bl (pa_cons pe_str pa_nil))))) (pe_fn G_law_draw (hr.mono (by decide)) (pa_cons (pv 0) (pa_cons pe_int pa_nil))) (fun _ _ => rfl)) (pg_sub (pv 3) (pe_fn G_law_draw (hr.mono (by decide)) (pa_cons (pv 0) (pa_cons (pe_callB cl_len (by rfl) T.b_len PySem.boot_len (pa_cons (pv 3) pa_nil)) pa_nil))) set_list))
    (pss_one (ps_ret (pv 3))))))))), ?_⟩
  try dsimp only [cxOf, Cx.nox, Cx.wish]
  walk_at "go"
  refine w_spM hm ⟨h, o, M0, 5, rfl, rfl, ho, by decide, by decide, rfl⟩ fun v N1 M' H1 eN1 hm1 hR => ?_
  obtain ⟨wy, o1, rfl, hd, rfl, ho1⟩ := hR
  walk_at "go"
  refine w_listOf hm1 (Same.sqe eN1 ht) fun pt H2 hm2 => ?_
  have hm2 := hm2.swap
  walk_at "go"
  refine w_ite (fun q0 => ?_) fun q0 => ?_
  · walk_at "go"
    refine w_lstI hm2 (by walk_at "sz") fun p1 N2 H3 eN2 hp1 hm3 => ?_
    walk_at "go"
    refine w_spM hm3 ⟨h, o1, _, 3, rfl, rfl, ho1.mono eN2, by decide, by decide, rfl⟩ fun v N3 M' H4 eN3 hm4 hR => ?_
    obtain ⟨d, o3, rfl, hd3, rfl, ho3⟩ := hR
    have hx : ∃ v, atI [V.non, .int 0, .int 5] ((d : Nat) : Int) = some v ∧ (v = .non ∨ ∃ i, v = .int i) := by
      match d, hd3 with
      | 0, _ => exact ⟨_, rfl, .inl rfl⟩
      | 1, _ => exact ⟨_, rfl, .inr ⟨_, rfl⟩⟩
      | 2, _ => exact ⟨_, rfl, .inr ⟨_, rfl⟩⟩
    obtain ⟨v, ai, hv⟩ := hx
    walk_at "go"
    exact k _ _ _ _ (eN1.trans (eN2.trans eN3)) hm4.swap.drop ⟨o3, .inl hv, rfl, ho3⟩
  · walk_at "go"
    refine w_ite (fun q1 => ?_) fun q1 => ?_
    · walk_at "go"
      refine w_lst hm2 (by walk_at "sz") fun p1 H3 hm3 => ?_
      refine w_cat hm3 ((focS (focS foc0)).at hm3) (foc0.at hm3) (small_sz (by rw [liv, List.length_singleton]; omega)) fun p2 H4 hm4 => ?_
      refine w_frz hm4 fun N2 eN2 hp2 hm5 => ?_
      have e2 : iv L ++ [V.int 0] = iv (L ++ [0]) := by rw [iv, iv, List.map_append]; rfl
      rw [e2] at hp2
      refine k _ _ _ _ (eN1.trans eN2) hm5.drop.swap.drop ⟨o1, .inr ⟨p2, _, rfl, .inl (SqL.of hp2), by rw [List.length_map, List.length_append, List.length_singleton]; omega, simp_iv, ?_⟩, rfl, ho1.mono eN2⟩
      rw [decide_eq_false (by rw [List.length_map, List.length_append, List.length_singleton]; omega), Bool.false_and]
    · walk_at "go"
      refine w_ite (fun q2 => ?_) fun q2 => ?_
      · walk_at "go"
        refine w_sl ?_
        walk_at "go"
        refine ⟨1, rfl, ?_⟩
        show rSlL K (.ref pt) (some 1) none H2 Q
        refine w_slM hm2 (focS foc0) fun p2 H3 hm3 => ?_
        refine w_frz hm3 fun N2 eN2 hp2 hm4 => ?_
        have hc := cut1 (xs := iv L) (by rw [liv]; exact hl1)
        rw [liv] at hc
        refine k _ _ _ _ (eN1.trans eN2) hm4.swap.drop ⟨o1, .inr ⟨p2, _, rfl, .inl (SqL.of hp2), by omega, fun y hy => simp_iv y (cut_mem hy), ?_⟩, rfl, ho1.mono eN2⟩
        rw [decide_eq_false (by omega), Bool.false_and]
      · walk_at "go"
        refine w_lstI hm2 (by walk_at "sz") fun p1 N2 H3 eN2 hp1 hm3 => ?_
        walk_at "go"
        refine w_spM hm3 ⟨h, o1, _, 4, rfl, rfl, ho1.mono eN2, by decide, by decide, rfl⟩ fun v N3 M' H4 eN3 hm4 hR => ?_
        obtain ⟨d, o3, rfl, hd3, rfl, ho3⟩ := hR
        have hx : ∃ v, atI [V.non, .bl true, .bl false, .str "0"] ((d : Nat) : Int) = some v ∧ Simp v ∧ isI v = false := by
          match d, hd3 with
          | 0, _ => exact ⟨_, rfl, .non, rfl⟩
          | 1, _ => exact ⟨_, rfl, .bl _, rfl⟩
          | 2, _ => exact ⟨_, rfl, .bl _, rfl⟩
          | 3, _ => exact ⟨_, rfl, .str _, rfl⟩
        obtain ⟨v, ai, hv1, hv2⟩ := hx
        walk_at "go"
        rw [liv]
        refine w_spM hm4 ⟨h, o3, _, L.length, rfl, rfl, ho3, hl1, by omega, rfl⟩ fun v2 N4 M' H5 eN4 hm5 hR => ?_
        obtain ⟨d4, o4, rfl, hd4, rfl, ho4⟩ := hR
        walk_at "go"
        refine w_setL hm5 (focS foc0) (ixn_nat (by rw [liv]; exact hd4)) fun H6 hm6 => ?_
        walk_at "go"
        refine w_frz hm6.swap fun N5 eN5 hp5 hm7 => ?_
        refine k _ _ _ _ (eN1.trans (eN2.trans (eN3.trans (eN4.trans eN5)))) hm7 ⟨o4, .inr ⟨pt, _, rfl, .inl (SqL.of hp5), by rw [List.length_set, liv]; omega, fun y hy => ?_, ?_⟩, rfl, ho4.mono eN5⟩
        · rcases List.mem_or_eq_of_mem_set hy with z | z
          · exact simp_iv y z
          · rw [z]
            exact hv1
        · refine Bool.and_eq_false_iff.mpr (.inr ?_)
          refine List.all_eq_false.mpr ⟨v, List.mem_iff_getElem?.mpr ⟨d4, ?_⟩, by rw [hv2]; exact Bool.false_ne_true⟩
          rw [List.getElem?_set, if_pos rfl, if_pos (by rw [liv]; exact hd4)]
end

end Pa

set_option Elab.async false
set_option linter.all false
set_option maxRecDepth 100000
set_option maxHeartbeats 4000000
-- NOMAC
namespace Pa
theorem inner_of {c : Ch} {v k : Nat} {a b : List Nat} (h1 : Pt c v (c.tl k) a) (hk : k < c.ar.length) (h2 : Pt c (c.hd k) v b) : c.Reach (c.hd k) (c.tl k) := by
  have h := h2.app h1
  by_cases e : b ++ a = []
  · rw [e] at h
    have h : c.hd k = c.tl k := h
    have := Ch.Reach.one hk
    rw [h] at this ⊢
    exact this
  · exact h.reach e
theorem Pt.at2 {c : Ch} {w k : Nat} : ∀ {p : List Nat} {v : Nat}, Pt c v w p → k ∈ p → ∃ a b, p = a ++ k :: b ∧ k < c.ar.length ∧ Pt c v (c.tl k) a ∧ Pt c (c.hd k) w b
  | j :: p, v, h, hk => by
    by_cases e : k = j
    · subst e
      exact ⟨[], p, rfl, h.1, h.2.1.symm, h.2.2⟩
    · rcases List.mem_cons.mp hk with z | hk
      · exact absurd z e
      · obtain ⟨a, b, h1, h2, h3, h4⟩ := Pt.at2 h.2.2 hk
        exact ⟨j :: a, b, by rw [h1]; rfl, h2, ⟨h.1, h.2.1, h3⟩, h4⟩
theorem tele {e : Me} {L : List Int} {w : Nat} : ∀ {p : List Nat} {v : Nat}, Pt e.ch v w p → (∀ k ∈ p, L.getD (e.ch.hd k) 0 = L.getD (e.ch.tl k) 0 + e.gain k) → e.sum p = L.getD w 0 - L.getD v 0
  | [], v, h, _ => by
    have h : v = w := h
    rw [h, Me.sum_nil]
    omega
  | k :: p, v, h, hk => by
    have h1 := tele h.2.2 fun j hj => hk j (List.mem_cons_of_mem _ hj)
    have h2 := hk k List.mem_cons_self
    rw [Me.sum_cons, h1]
    rw [h.2.1] at h2
    omega
theorem OkF.zero {e : Me} {L : List Int} (h : OkF e L) {v : Nat} {p : List Nat} (hp : Pt e.ch v v p) : e.sum p = 0 := by
  have hs := tele (L := L) hp fun k hk => by
    obtain ⟨a, b, _, h2, h3, h4⟩ := hp.at2 hk
    exact h k h2 (Ch.rch_iff.mpr (inner_of h3 h2 h4))
  rw [hs, Int.sub_self]
theorem FirstD.bad {e : Me} {r : List Nat} (h : FirstD e [1, -1] r) (L : List Int) : okF e L = false := okF_no.mpr fun z => by
  obtain ⟨_, st, _, _, _, hL, _⟩ := h
  obtain ⟨s, _, h0⟩ := hL.2.2.1
  have := z.zero (wk_pt.mp hL.2.1).1
  rw [this, Int.mul_zero] at h0
  omega
theorem NoneD.fit {e : Me} (ok : e.ch.Ok) (hn : NoneD e [1, -1]) {L : List Int} (h : IsLv e L) : OkF e L := by
  intro k hk hr
  have hi := Ch.rch_iff.mp hr
  have b1 := ok.tl k hk
  have b2 := ok.hd k hk
  have h1 := Ch.Reach.one hk
  have rt := h1.trans hi
  have rh := hi.trans h1
  have hm : e.ch.hd k ∈ e.ch.part (e.ch.tl k) := (Ch.mem_part ok).mpr ⟨h1, hi⟩
  obtain ⟨p, p1, p2⟩ := (h.2 _ b1).1 rt
  obtain ⟨q, q1, q2⟩ := (h.2 _ b2).1 rh
  rw [Ch.part_eq ok hm] at q1
  have hl := (Ch.mem_part ok).mp (lead_mem ok rt)
  obtain ⟨s, _, s1⟩ := (hi.trans hl.1).pt
  have z1 := hn.zero ok ((p1.snoc hk).app s1)
  have z2 := hn.zero ok (q1.app s1)
  rw [Me.sum_app, Me.sum_app, Me.sum_cons, Me.sum_nil] at z1
  rw [Me.sum_app] at z2
  omega
/-- the places of a place's part, and the place -/
noncomputable def prt (c : Ch) (pl x : Nat) : Bool := decide (x = pl) || (c.rch pl x && c.rch x pl)
theorem prt_iff {c : Ch} {pl x : Nat} : prt c pl x = true ↔ x = pl ∨ (c.Reach pl x ∧ c.Reach x pl) := by
  unfold prt
  rw [Bool.or_eq_true, decide_eq_true_iff, Bool.and_eq_true, Ch.rch_iff, Ch.rch_iff]
theorem OkF.moved {e : Me} {L L' : List Int} {pl : Nat} {b : Int} (ok : e.ch.Ok) (h : OkF e L) (hm : ∀ x, x < e.ch.cs.length → L'.getD x 0 = L.getD x 0 + (if prt e.ch pl x then b else 0)) : OkF e L' := by
  intro k hk hr
  have hi := Ch.rch_iff.mp hr
  have h1 := Ch.Reach.one hk
  have e1 : prt e.ch pl (e.ch.hd k) = prt e.ch pl (e.ch.tl k) := by
    rw [Bool.eq_iff_iff, prt_iff, prt_iff]
    constructor
    · rintro (z | ⟨z1, z2⟩)
      · rw [← z]
        exact .inr ⟨hi, h1⟩
      · exact .inr ⟨z1.trans hi, h1.trans z2⟩
    · rintro (z | ⟨z1, z2⟩)
      · rw [← z]
        exact .inr ⟨h1, hi⟩
      · exact .inr ⟨z1.trans h1, hi.trans z2⟩
  rw [hm _ (ok.hd k hk), hm _ (ok.tl k hk), e1, h k hk hr]
  omega
end Pa

set_option Elab.async false
set_option linter.all false
set_option maxRecDepth 100000
set_option maxHeartbeats 4000000
namespace Pa
open PySem L2
local macro_rules | `(tactic| walk_at "lt") => `(tactic| first
  | assumption
  | omega
  | (simp only [List.length_map, List.length_range, List.length_cons, List.length_nil, List.length_append, List.length_replicate] at *; omega))
local macro_rules | `(tactic| walk_at "fo") => `(tactic| first | exact foc0 | (refine' focS ?k1; (case k1 => walk_at "fo")))
local macro_rules | `(tactic| walk_at "sq") => `(tactic| first
  | assumption
  | (refine' SqL.of ?k1; (case k1 => assumption))
  | (refine' SqT.of ?k1; (case k1 => assumption))
  | (refine' Or.inl ?k1; (case k1 => walk_at "sq"))
  | (refine' Or.inr ?k1; (case k1 => walk_at "sq"))
  | (refine' Same.seq ?k1 ?k2; (case k1 => assumption); (case k2 => walk_at "sq"))
  | (refine' Same.sqt ?k1 ?k2; (case k1 => assumption); (case k2 => walk_at "sq"))
  | (refine' Same.sqe ?k1 ?k2; (case k1 => assumption); (case k2 => walk_at "sq"))
  | (refine' same_at ?k1 ?k2; (case k1 => assumption); (case k2 => walk_at "sq")))
local macro_rules | `(tactic| walk_at "ai") => `(tactic| first
  | assumption
  | (refine' ati_ints ?k1; (case k1 => walk_at "lt"))
  | (refine' ati_refs ?k1; (case k1 => walk_at "lt"))
  | (refine' ati_nat ?k1; (case k1 => assumption))
  | k_dflt rfl)
local macro_rules | `(tactic| walk_at "lk") => `(tactic| first
  | assumption
  | exact lk_hd
  | (refine' lk_tl ?k1 ?k2; (case k1 => decide +kernel); (case k2 => walk_at "lk"))
  | exact lk_nil)
local macro_rules | `(tactic| walk_at "sz") => `(tactic| first
  | exact small_sz (by simp only [List.length_cons, List.length_nil, List.length_append, List.length_map, List.length_range, List.length_set, List.length_replicate]; omega))
local macro_rules | `(tactic| walk_at "cc") => `(tactic| first
  | (show (0 : Int) < _; first | decide | omega)
  | exact Or.inl ⟨by omega, by omega⟩
  | exact Or.inr ⟨by omega, by omega⟩
  | exact ⟨by decide, by decide, by decide⟩
  | exact ⟨by decide, by decide⟩)
local macro_rules | `(tactic| walk_at "st") => `(tactic| first
  | with_reducible refine w_seq ?_
  | with_reducible refine w_asg ?_
  | ((with_reducible refine' w_var ?k1 ?_); (case k1 => k_dflt rfl))
  | with_reducible refine w_c ?_
  | with_reducible refine w_op ?_
  | with_reducible refine w_cons ?_
  | with_reducible refine w_nil ?_
  | with_reducible refine w_gname ?_
  | with_reducible refine w_I0 ?_
  | with_reducible refine w_fld ?_
  | ((with_reducible refine' w_ins ?k1 ?k2 ?k3 ?k4 ?k5 ?_); (case k1 => assumption); (case k2 => walk_at "sq"); (case k3 => assumption); (case k4 => assumption); (case k5 => walk_at "lk"))
  | ((with_reducible refine' w_ixT ?k1 ?k2 ?k3 ?_); (case k1 => assumption); (case k2 => walk_at "sq"); (case k3 => walk_at "ai"))
  | ((with_reducible refine' w_ixL ?k1 ?k2 ?k3 ?_); (case k1 => assumption); (case k2 => walk_at "sq"); (case k3 => walk_at "ai"))
  | ((with_reducible refine' w_ixM ?k1 ?k2 ?k3 ?_); (case k1 => assumption); (case k2 => walk_at "fo"); (case k3 => walk_at "ai"))
  | with_reducible refine w_cb ?_
  | with_reducible refine w_test ?_
  | with_reducible refine w_if ?_
  | with_reducible refine w_B ?_
  | with_reducible refine w_not ?_
  | with_reducible refine w_and ?_
  | with_reducible refine w_or ?_
  | with_reducible refine w_eqI ?_
  | with_reducible refine w_neI ?_
  | with_reducible refine w_isN ?_
  | with_reducible refine w_notN ?_
  | with_reducible refine w_isB ?_
  | with_reducible refine w_bl ?_
  | with_reducible refine w_ret ?_
  | with_reducible refine w_next ?_
  | with_reducible refine w_brk ?_
  | with_reducible refine w_drop ?_
  | with_reducible refine w_call ?_
  | with_reducible refine w_un ?_
  | with_reducible refine w_U ?_
  | with_reducible refine w_andV ?_
  | with_reducible refine w_orV ?_
  | with_reducible refine w_notV ?_
  | with_reducible refine w_ifE ?_
  | with_reducible refine w_chain ?_
  | with_reducible refine w_gsub ?_
  | with_reducible refine w_gnil ?_
  | with_reducible refine w_gcons ?_
  | with_reducible refine w_ipI ?_
  | with_reducible refine w_fldS ?_
  | with_reducible refine w_tru ?_
  | with_reducible refine w_abs ?_
  | with_reducible refine w_maxB ?_
  | with_reducible refine w_minB ?_
  | with_reducible refine w_int ?_
  | with_reducible refine w_tupE ?_
  | with_reducible refine w_lstE ?_
  | with_reducible refine w_bm ?_
  | with_reducible refine w_bm0 ?_
  | with_reducible refine w_mth ?_
  | with_reducible refine w_for0 ?_
  | with_reducible refine w_lc0 ?_
  | with_reducible refine w_il ?_
  | with_reducible refine w_it ?_
  | with_reducible refine w_is ?_
  | with_reducible refine w_ie ?_
  | with_reducible refine w_ir1 ?_
  | with_reducible refine w_ir2 ?_
  | with_reducible refine w_irv ?_
  | with_reducible refine w_rg1 ?_
  | with_reducible refine w_rg1v ?_
  | with_reducible refine w_lrg ?_
  | with_reducible refine w_make ?_
  | with_reducible refine w_yes ?_
  | with_reducible refine w_ost ?_
  | with_reducible refine w_mkoE ?_
  | with_reducible refine w_is_int_int ?_
  | with_reducible refine w_is_int_bool ?_
  | with_reducible refine w_is_int_str ?_
  | with_reducible refine w_is_int_tuple ?_
  | with_reducible refine w_is_bl_int ?_
  | with_reducible refine w_is_bl_bool ?_
  | with_reducible refine w_is_bl_str ?_
  | with_reducible refine w_is_bl_tuple ?_
  | with_reducible refine w_is_non_int ?_
  | with_reducible refine w_is_non_bool ?_
  | with_reducible refine w_is_non_str ?_
  | with_reducible refine w_is_non_tuple ?_
  | with_reducible refine w_is_str_int ?_
  | with_reducible refine w_is_str_bool ?_
  | with_reducible refine w_is_str_str ?_
  | with_reducible refine w_is_str_tuple ?_
  | ((with_reducible refine' w_insM ?k1 ?k2 ?k3 ?k4 ?k5 ?_); (case k1 => assumption); (case k2 => walk_at "fo"); (case k3 => assumption); (case k4 => assumption); (case k5 => walk_at "lk"))
  | ((with_reducible refine' w_ixE ?k1 ?k2 ?k3 ?_); (case k1 => assumption); (case k2 => walk_at "sq"); (case k3 => walk_at "ai"))
  | ((with_reducible refine' w_len ?k1 ?k2 ?_); (case k1 => assumption); (case k2 => walk_at "sq"))
  | ((with_reducible refine' w_lenM ?k1 ?k2 ?_); (case k1 => assumption); (case k2 => walk_at "fo"))
  | ((with_reducible refine' w_I ?k1 ?_); (case k1 => walk_at "cc"))
  | ((with_reducible refine' w_gtup ?k1 ?k2 ?_); (case k1 => refine' Mem.sqt ?m0 ?h0; (case m0 => assumption); (case h0 => walk_at "sq")); (case k2 => k_dflt rfl))
  | ((with_reducible refine' w_aug ?k1 ?_); (case k1 => k_dflt rfl))
  | ((with_reducible refine' w_truM ?k1 ?k2 ?_); (case k1 => assumption); (case k2 => walk_at "fo"))
  | ((with_reducible refine' w_truL ?k1 ?k2 ?_); (case k1 => assumption); (case k2 => walk_at "sq"))
  | ((with_reducible refine' w_tyL ?k1 ?k2 ?_); (case k1 => assumption); (case k2 => walk_at "fo"))
  | ((with_reducible refine' w_mthI ?k1 ?k2 ?k3 ?_); (case k1 => assumption); (case k2 => walk_at "sq"); (case k3 => walk_at "lk"))
  | ((with_reducible refine' w_sumM ?k1 ?k2 ?_); (case k1 => assumption); (case k2 => walk_at "fo"))
  | ((with_reducible refine' w_eqDN ?k1 ?k2 ?k3 ?_); (case k1 => assumption); (case k2 => walk_at "sq"); (case k3 => walk_at "sq"))
  | ((with_reducible refine' w_is_tup_int ?k1 ?k2 ?_); (case k1 => assumption); (case k2 => walk_at "sq"))
  | ((with_reducible refine' w_is_tup_bool ?k1 ?k2 ?_); (case k1 => assumption); (case k2 => walk_at "sq"))
  | ((with_reducible refine' w_is_tup_str ?k1 ?k2 ?_); (case k1 => assumption); (case k2 => walk_at "sq"))
  | ((with_reducible refine' w_is_tup_tuple ?k1 ?k2 ?_); (case k1 => assumption); (case k2 => walk_at "sq"))
  | dsimp only)
local macro_rules | `(tactic| walk_at "go") => `(tactic| repeat (walk_at "st"))
theorem getD_rng {n : Nat} {f : Nat → Int} {x : Nat} (h : x < n) : ((List.range n).map f).getD x 0 = f x := by
  rw [List.getD_eq_getElem?_getD, List.getElem?_map, List.getElem?_range h]
  rfl
theorem eqv_flt {K : PySem.W.Frag} {I : Hp} {n : Nat} (b : Bool) : Eqv K I (n + 1) (fltV b) (fltV b) := by
  cases b with
  | true => exact .non
  | false => exact .str _
abbrev RwAt (K : PySem.W.Frag) (n : Nat) (I : Hp) (t : Addr) (l : List Int) : Prop := SqE K I t (iv l) ∧ l.length = n
section
variable {P : Program} {w : World} {K : PySem.W.Frag} {mg : Str → Option Value} {base : Heap} {C : Ad}
abbrev N_law_judged : List Str := ["_law_hand_here", "_law_meter_here", "_law_made_here", "_law_due", "_law_drifts", "_law_chart_here", "_law_place", "_law_by", "_law_behind_here", "_law_part", "_law_moved", "_law_changed", "_law_drawn", "_law_row", "_law_word", "_law_other", "_law_k", "_law_number"]
abbrev P_law_judged : List Str := ["_law_hand_here", "_law_meter_here", "_law_made_here", "_law_due", "_law_drifts"]
theorem sc_law_judged : FnScope N_law_judged P_law_judged (defScope S_law_judged) := ⟨rfl, rfl, rfl, by decide +kernel, rfl, by decide +kernel, by decide +kernel⟩
-- slots: 0 _law_hand_here (cell), 1 _law_meter_here, 2 _law_made_here, 3 _law_due (cell), 4 _law_drifts, 5 _law_chart_here (cell), 6 _law_place (cell), 7 _law_by (cell), 8 _law_behind_here (cell), 9 _law_part (cell), 10 _law_moved, 11 _law_changed, 12 _law_drawn, 13 _law_row, 14 _law_word, 15 _law_other, 16 _law_k, 17 _law_number
def spJudged (K : PySem.W.Frag) (C : Ad) : Sp := spM fun vs I M R => ∃ (h a md du : Addr) (dr : Bool) (o : HO) (M0 : Mu) (e : Me) (L : List Int), vs = [.ref h, .ref a, .ref md, .ref du, .bl dr] ∧ M = (h, o) :: M0 ∧ Hand K I o ∧ MtrAt K I a e ∧ e.Fit ∧ MeAt K C I md e ∧ SqT K I du (iv L) ∧ IsLv e L ∧
  ((dr = true ∧ ∃ r, FirstD e [1, -1] r) ∨ (dr = false ∧ NoneD e [1, -1])) ∧ R = fun v N M' => ∃ o', v = .bl true ∧ M' = (h, o') :: M0 ∧ Hand K N o'
theorem ok_law_judged {f : Addr} {fd : FuncData} (F : FnP K "_law_judged" "_law_judged" S_law_judged f fd) (T : Txt K mg C) (G_law_draw : FnAt P w K mg base "_law_draw" 2 P_law_draw (spDraw K)) (G_law_behind : FnAt P w K mg base "_law_behind" 1 P_law_behind (spBehindL K)) (G_law_fault : FnAt P w K mg base "_law_fault" 3 P_law_fault (spFaultL K)) (G_law_exact : FnAt P w K mg base "_law_exact" 3 P_law_exact (spExact 3 K)) (G_levels_fault : FnAt P w K mg base "levels_fault" 6 P_levels_fault (spFault K C)) (G_law_take : FnAt P w K mg base "_law_take" 3 P_law_take (spTake K)) (G_law_odd_levels : FnAt P w K mg base "_law_odd_levels" 3 P_law_odd_levels (spOdd K)) : FnOk P w K mg base CX0 7 f fd P_law_judged (spJudged K C) := by
  have nd := sc_law_judged.nd
  refine F.ok sc_law_judged (fun vs H Q E h => ?_) (fun cdv A outer s H vs Q E hr h => ?_)
  · obtain ⟨I, M, R, ⟨h, a, md, du, dr, o, M0, e, L, rfl, _⟩, _⟩ := h
    rfl
  obtain ⟨I, M, R, ⟨h, a, md, du, dr, o, M0, e, L, rfl, rfl, ho, hMt, fit, hMe, hdu, hIs, hdr, rfl⟩, hm, k⟩ := h
  have ok := fit.ok
  have n16 := ok.ch.n16
  have n1 := ok.ch.n1
  have hL := hIs.1
  have liv : (iv L).length = e.ch.cs.length := by rw [List.length_map, hL]
  have hMt0 := hMt
  obtain ⟨p, r, q, as, h1, h2, h3, h4, h5⟩ := hMt
  refine ⟨_, PSs.nox (pss_cons (ps_set (i := 5) nd rfl (Or.inr rfl) (pe_lst (pa_cons (pe_ix ix_list (pv 1) pe_int (fun _ _ => rfl)) (pa_cons (pe_ix ix_list (pv 1) pe_int (fun _ _ => rfl)) pa_nil))))
    (pss_cons (ps_set (i := 6) nd rfl (Or.inr rfl) (pe_fn G_law_draw (hr.mono (by decide)) (pa_cons (pv 0) (pa_cons (pe_callB cl_len (by rfl) T.b_len PySem.boot_len (pa_cons (pv 3) pa_nil)) pa_nil))))
    (pss_cons (ps_set (i := 7) nd rfl (Or.inr rfl) (pe_op op_add pe_int (pe_fn G_law_draw (hr.mono (by decide)) (pa_cons (pv 0) (pa_cons pe_int pa_nil)))))
    (pss_cons (ps_set (i := 8) nd rfl (Or.inr rfl) (pe_fn G_law_behind (hr.mono (by decide)) (pa_cons (pv 5) (pa_cons (pv 6) pa_nil))))
    (pss_cons (ps_set (i := 9) nd rfl (Or.inr rfl) (pe_lc (own := [("_law_other", 15)]) (g := (gName 15)) (tt := (tOr (tTest (tOp rEq (tVar 15) (tVar 6))) (tAnd (tTest (tOp (rIn K false) (tVar 15) (tVar 8))) (tTest (tOp (rIn K false) (tVar 6) (tCall (spBehindL K) [] E0 (tCons (tVar 5) (tCons (tVar 15) tNil)))))))) (te := (tVar 15)) rfl nd (pi_range1 rfl T.b_range (pa_cons (pe_callB cl_len (by rfl) T.b_len PySem.boot_len (pa_cons (pv 3) pa_nil)) pa_nil)) (blkOk_by (N := N_law_judged) (sc := defScope S_law_judged) (by decide +kernel)) (fun _ _ _ _ _ => (pg_name (i := 15) nd rfl (Or.inl rfl))) (fun _ _ _ _ _ => (pts_one (PW.pt (pw_or (pt_cmpR op_eq (pv 15) (pv 6) (nomark _)) (pw_or1 (PW.pt (pw_and (pt_cmpR op_in_seq (pv 15) (pv 8) (by rfl)) (pw_and1 (pt_cmpR op_in_seq (pv 6) (pe_fn G_law_behind (hr.mono (by decide)) (pa_cons (pv 5) (pa_cons (pv 15) pa_nil))) (by rfl)))))))))) (fun _ _ _ _ _ => (pv 15))))
    (pss_cons (ps_setLc (i := 10) (own := [("_law_k", 16)]) (g := (gName 16)) (tt := tYes) (te := (tOp (rI0 fun i j => .int (i + j)) (tOp (rIxT K) (tVar 3) (tVar 16)) (tIf (tTest (tOp (rIn K false) (tVar 16) (tVar 9))) (tVar 7) (tC (.int 0))))) rfl nd rfl rfl (sw_true rfl rfl rfl (by decide +kernel)) (pi_range1 rfl T.b_range (pa_cons (pe_callB cl_len (by rfl) T.b_len PySem.boot_len (pa_cons (pv 3) pa_nil)) pa_nil)) (blkOk_by (N := N_law_judged) (sc := defScope S_law_judged) (by decide +kernel)) (fun _ _ _ _ _ => (pg_name (i := 16) nd rfl (Or.inl rfl))) (fun _ _ _ _ _ => pts_nil) (fun _ _ _ _ _ => (pe_op op_add (pe_ix ix_tup (pv 3) (pv 16) (fun _ _ => rfl)) (pe_ifExp (pt_cmpR op_in_seq (pv 16) (pv 9) (by rfl)) (pv 7) pe_int))))
    (pss_cons (ps_setLc (i := 11) (own := [("_law_k", 16)]) (g := (gName 16)) (tt := tYes) (te := (tOp (rI0 fun i j => .int (i + j)) (tOp (rIxT K) (tVar 3) (tVar 16)) (tIf (tTest (tOp rEq (tVar 16) (tVar 6))) (tVar 7) (tC (.int 0))))) rfl nd rfl rfl (sw_true rfl rfl rfl (by decide +kernel)) (pi_range1 rfl T.b_range (pa_cons (pe_callB cl_len (by rfl) T.b_len PySem.boot_len (pa_cons (pv 3) pa_nil)) pa_nil)) (blkOk_by (N := N_law_judged) (sc := defScope S_law_judged) (by decide +kernel)) (fun _ _ _ _ _ => (pg_name (i := 16) nd rfl (Or.inl rfl))) (fun _ _ _ _ _ => pts_nil) (fun _ _ _ _ _ => (pe_op op_add (pe_ix ix_tup (pv 3) (pv 16) (fun _ _ => rfl)) (pe_ifExp (pt_cmpR op_eq (pv 16) (pv 6) (nomark _)) (pv 7) pe_int))))
    (pss_cons (ps_setLc (i := 12) (own := [("_law_number", 17)]) (g := (gName 17)) (tt := tYes) (te := (tOp (rI0 fun i j => .int (i - j)) (tCall (spDraw K) [] E0 (tCons (tVar 0) (tCons (tC (.int 4)) tNil))) (tC (.int 1)))) rfl nd rfl rfl (sw_true rfl rfl rfl (by decide +kernel)) (pi_tup (pv 3)) (blkOk_by (N := N_law_judged) (sc := defScope S_law_judged) (by decide +kernel)) (fun _ _ _ _ _ => (pg_name (i := 17) nd rfl (Or.inl rfl))) (fun _ _ _ _ _ => pts_nil) (fun _ _ _ _ _ => (pe_op op_sub (pe_fn G_law_draw (hr.mono (by decide)) (pa_cons (pv 0) (pa_cons pe_int pa_nil))) pe_int)))
    (pss_cons (ps_for PassesOwn.never rfl (pi_list (pe_lst (pa_cons (pe_callTy cl_list (by rfl) T.b_list PyProof.Rows.boot_list (pa_cons (pv 3) pa_nil)) (pa_cons (pv 10) (pa_cons (pv 11) (pa_cons (pv 12) pa_nil)))))) (pg_name (i := 13) nd rfl (Or.inl rfl))
      (pss_cons (ps_set (i := 14) nd rfl (Or.inl rfl) (pe_fn G_law_fault (hr.mono (by decide)) (pa_cons (pv 1) (pa_cons (pv 13) pa_nil))))
      (pss_cons (ps_if (PW.pt (pw_and (pt_val (pv 4)) (pw_and1 (pt_cmpR op_isN1 (pv 14) pe_non (nomark _)))))
        (pss_one (ps_ret pe_bl))
        pss_nil)
      (pss_one (ps_if (pt_not (pt_val (pe_fn G_law_exact (hr.mono (by decide)) (pa_cons (pe_fn G_levels_fault (hr.mono (by decide)) (pa_cons (pv 2) (pa_cons (pe_fn G_law_take (hr.mono (by decide)) (pa_cons (pv 0) (pa_cons (pv 13) pa_nil))) pa_nil))) (pa_cons (pv 14) pa_nil)))))
        (pss_one (ps_ret pe_bl))
        pss_nil)))))
    (pss_cons (ps_if (PW.pt (pw_and (pt_not (pt_val (pv 4))) (pw_and1 (PW.pt (pw_or (pt_cmpR op_notN1 (pe_fn G_law_fault (hr.mono (by decide)) (pa_cons (pv 1) (pa_cons (pv 10) pa_nil))) pe_non (nomark _)) (pw_or1 (pt_cmpR op_notN1 (pe_fn G_law_fault (hr.mono (by decide)) (pa_cons (pv 1) (pa_cons (pv 3) pa_nil))) pe_non (nomark _))))))))
      (pss_one (ps_ret pe_bl))
      pss_nil)
    (pss_one (ps_ret (pe_fn G_law_exact (hr.mono (by decide)) (pa_cons (pe_fn G_levels_fault (hr.mono (by decide)) (pa_cons (pv 2) (pa_cons (pe_fn G_law_odd_levels (hr.mono (by decide)) (pa_cons (pv 0) (pa_cons (pv 3) pa_nil))) pa_nil))) (pa_cons pe_str pa_nil))))))))))))))), ?_⟩
  try dsimp only [cxOf, Cx.nox, Cx.wish]
  walk_at "go"
  refine w_lstI hm (by walk_at "sz") fun ct N1 H1 eN1 hct hm1 => ?_
  have hCt : CtAt K N1 ct e.ch := ⟨p, r, as, SqL.of hct, Same.sqt eN1 h2, Same.sqt eN1 h3, h4.mono eN1⟩
  have hdu1 : SqT K N1 du (iv L) := Same.sqt eN1 hdu
  have eI1 := eN1
  clear eN1 h1 h2 h3 h4 h5
  walk_at "go"
  rw [liv]
  refine w_spM hm1 ⟨h, o, M0, e.ch.cs.length, rfl, rfl, ho.mono eI1, n1, by omega, rfl⟩ fun v N2 M' H2 eN2 hm2 hR => ?_
  obtain ⟨pl, o2, rfl, hpl, rfl, ho2⟩ := hR
  walk_at "go"
  refine w_spM hm2 ⟨h, o2, M0, 9, rfl, rfl, ho2, by decide, by decide, rfl⟩ fun v N3 M' H3 eN3 hm3 hR => ?_
  obtain ⟨d3, o3, rfl, hd3, rfl, ho3⟩ := hR
  have hCt3 := (hCt.mono eN2).mono eN3
  walk_at "go"
  refine w_spN hm3 ⟨ct, e.ch, pl, rfl, hCt3, ok.ch, hpl, rfl⟩ fun v N4 H4 eN4 hm4 hR => ?_
  obtain ⟨tb, lb, rfl, htb, _, hlb⟩ := hR
  have eI4 := eI1.trans (eN2.trans (eN3.trans eN4))
  have hdu4 : SqT K N4 du (iv L) := Same.sqt eI4 hdu
  have hCt4 := hCt3.mono eN4
  have ho4 := ho3.mono eN4
  clear eN2 eN3 eN4 hdu1 hCt hCt3 hct
  generalize hby : (1 : Int) + (d3 : Int) = bb
  walk_at "go"
  rw [liv]
  refine w_irr1 (by omega) fun J wk => ?_
  refine w_lcGR wk hm4 (fun j acc N M' => acc = nv ((List.range j).filter fun x => prt e.ch pl x) ∧ M' = (h, o3) :: M0) ⟨rfl, rfl⟩ (fun j D acc N M' H' Yes No hj eN hPv hm' hyes hno => ?_) fun D acc N M' H' eN hPv hm' => ?_
  · obtain ⟨rfl, rfl⟩ := hPv
    have yes : prt e.ch pl j = true → ∀ N' H4, Same N4 N' → Mem N' ((D, .lst (nv ((List.range j).filter fun x => prt e.ch pl x))) :: (h, o3) :: M0) H4 → Yes (.int (j : Int)) H4 := fun hp N' H4 e4 hm5 => by
      refine hyes _ _ _ _ e4 ⟨?_, rfl⟩ (small_sl (by rw [List.length_map]; have := List.length_filter_le (fun x => prt e.ch pl x) (List.range j); rw [List.length_range] at this; omega)) hm5
      rw [List.range_succ, List.filter_append, List.filter_cons, if_pos hp, nv, nv, List.map_append]
      rfl
    have no : prt e.ch pl j = false → ∀ N' H4, Same N4 N' → Mem N' ((D, .lst (nv ((List.range j).filter fun x => prt e.ch pl x))) :: (h, o3) :: M0) H4 → No H4 := fun hp N' H4 e4 hm5 => by
      refine hno _ _ _ e4 ⟨?_, rfl⟩ hm5
      rw [List.range_succ, List.filter_append, List.filter_cons, if_neg (by rw [hp]; exact Bool.false_ne_true)]
      exact (List.append_nil _).symm ▸ rfl
    have htbN : SqL K N tb (nv lb) := SqL.of (eN _ _ htb)
    walk_at "go"
    refine ⟨rfl, ?_⟩
    walk_at "go"
    refine w_ite (fun q1 => ?_) fun q1 => ?_
    · refine w_tt ?_
      walk_at "go"
      exact yes (prt_iff.mpr (.inl (by omega))) _ _ eN hm'
    · have q1 : j ≠ pl := fun z => q1 (congrArg (Nat.cast (R := Int)) z)
      walk_at "go"
      refine w_in hm' (.inl htbN) rfl (flat_nats _) ?_
      rw [inV_nats]
      walk_at "go"
      refine w_iteB (fun q2 => ?_) fun q2 => ?_
      · have q2 := (hlb j).mp (of_decide_eq_true q2)
        walk_at "go"
        refine w_spN hm' ⟨ct, e.ch, j, rfl, hCt4.mono eN, ok.ch, hj, rfl⟩ fun v N5 H5 eN5 hm5 hR => ?_
        obtain ⟨tc, lc, rfl, htc, _, hlc⟩ := hR
        walk_at "go"
        refine w_in hm5 (.inl (SqL.of htc)) rfl (flat_nats _) ?_
        rw [inV_nats]
        walk_at "go"
        refine w_iteB (fun q3 => ?_) fun q3 => ?_
        · walk_at "go"
          exact yes (prt_iff.mpr (.inr ⟨q2, (hlc pl).mp (of_decide_eq_true q3)⟩)) _ _ (eN.trans eN5) hm5
        · refine no (Bool.eq_false_iff.mpr fun z => ?_) _ _ (eN.trans eN5) hm5
          rcases prt_iff.mp z with z | z
          · exact q1 z
          · exact of_decide_eq_false q3 ((hlc pl).mpr z.2)
      · refine no (Bool.eq_false_iff.mpr fun z => ?_) _ _ eN hm'
        rcases prt_iff.mp z with z | z
        · exact q1 z
        · exact of_decide_eq_false q2 ((hlb j).mpr z.1)
  · obtain ⟨rfl, rfl⟩ := hPv
    refine w_frz hm' fun N5 eN5 hD hm5 => ?_
    have eI5 := eI4.trans (eN.trans eN5)
    have hdu5 : SqT K N5 du (iv L) := Same.sqt eI5 hdu
    have hDs : SqL K N5 D (nv ((List.range e.ch.cs.length).filter fun x => prt e.ch pl x)) := SqL.of hD
    have ho5 := ho4.mono (eN.trans eN5)
    clear hdu4 hCt4 hm' hm4 hm3 hm2 hm1 hm ho4 ho3 ho2 ho htb eN eN5 eI4 hD
    walk_at "go"
    rw [liv]
    refine w_irr1 (by omega) fun J2 wk2 => ?_
    refine w_lcR wk2 hm5 (fun j => .int (L.getD j 0 + (if prt e.ch pl j then bb else 0))) (fun _ => true) (by omega) (fun j D2 acc H2 Yes No hj hm' hyes hno => ?_) fun pm H2 hm6 => ?_
    · have ai : atI (iv L) ((j : Nat) : Int) = some (.int (L.getD j 0)) := ati_ints (by omega)
      walk_at "go"
      refine ⟨rfl, ?_⟩
      walk_at "go"
      refine iteT ?_
      walk_at "go"
      refine w_in hm' (.inl hDs) rfl (flat_nats _) ?_
      rw [inV_nats]
      have em : (j ∈ (List.range e.ch.cs.length).filter fun x => prt e.ch pl x) ↔ prt e.ch pl j = true := by
        rw [List.mem_filter, List.mem_range]
        exact ⟨fun z => z.2, fun z => ⟨hj, z⟩⟩
      walk_at "go"
      refine w_iteB (fun qb => ?_) fun qb => ?_
      · have qb := em.mp (of_decide_eq_true qb)
        rw [if_pos qb] at hyes
        walk_at "go"
        exact hyes rfl _ hm'
      · have qb : ¬ prt e.ch pl j = true := fun z => of_decide_eq_false qb (em.mpr z)
        rw [if_neg qb] at hyes
        walk_at "go"
        exact hyes rfl _ hm'
    have eM : (((List.range e.ch.cs.length).filter fun _ => true).map fun j => V.int (L.getD j 0 + (if prt e.ch pl j then bb else 0))) = iv ((List.range e.ch.cs.length).map fun j => L.getD j 0 + (if prt e.ch pl j then bb else 0)) := by
      rw [List.filter_eq_self.mpr fun _ _ => rfl, iv, List.map_map]
      rfl
    rw [eM] at hm6
    have lM : ((List.range e.ch.cs.length).map fun j => L.getD j 0 + (if prt e.ch pl j then bb else 0)).length = e.ch.cs.length := by rw [List.length_map, List.length_range]
    have fM : OkF e L → OkF e ((List.range e.ch.cs.length).map fun j => L.getD j 0 + (if prt e.ch pl j then bb else 0)) := fun z => z.moved ok.ch (pl := pl) (b := bb) fun x hx => getD_rng hx
    generalize ((List.range e.ch.cs.length).map fun j => L.getD j 0 + (if prt e.ch pl j then bb else 0)) = Lm at hm6 lM fM
    refine w_frz hm6 fun N6 eN6 hpm hm7 => ?_
    have hpms : SqL K N6 pm (iv Lm) := SqL.of hpm
    have hdu6 : SqT K N6 du (iv L) := Same.sqt eN6 hdu5
    walk_at "go"
    rw [liv]
    refine w_irr1 (by omega) fun J3 wk3 => ?_
    refine w_lcR wk3 hm7 (fun j => .int (L.getD j 0 + (if j = pl then bb else 0))) (fun _ => true) (by omega) (fun j D2 acc H2 Yes No hj hm' hyes hno => ?_) fun pch H3 hm8 => ?_
    · have ai : atI (iv L) ((j : Nat) : Int) = some (.int (L.getD j 0)) := ati_ints (by omega)
      walk_at "go"
      refine ⟨rfl, ?_⟩
      walk_at "go"
      refine iteT ?_
      walk_at "go"
      refine w_ite (fun qb => ?_) fun qb => ?_
      · have qb : j = pl := by omega
        rw [if_pos qb] at hyes
        walk_at "go"
        exact hyes rfl _ hm'
      · have qb : ¬ j = pl := fun z => qb (congrArg (Nat.cast (R := Int)) z)
        rw [if_neg qb] at hyes
        walk_at "go"
        exact hyes rfl _ hm'
    have eCh : (((List.range e.ch.cs.length).filter fun _ => true).map fun j => V.int (L.getD j 0 + (if j = pl then bb else 0))) = iv ((List.range e.ch.cs.length).map fun j => L.getD j 0 + (if j = pl then bb else 0)) := by
      rw [List.filter_eq_self.mpr fun _ _ => rfl, iv, List.map_map]
      rfl
    rw [eCh] at hm8
    have lC : ((List.range e.ch.cs.length).map fun j => L.getD j 0 + (if j = pl then bb else 0)).length = e.ch.cs.length := by rw [List.length_map, List.length_range]
    generalize ((List.range e.ch.cs.length).map fun j => L.getD j 0 + (if j = pl then bb else 0)) = Lc at hm8 lC
    refine w_frz hm8 fun N7 eN7 hpch hm9 => ?_
    have hpchs : SqL K N7 pch (iv Lc) := SqL.of hpch
    have hdu7 : SqT K N7 du (iv L) := Same.sqt eN7 hdu6
    have ho7 := ho5.mono (eN6.trans eN7)
    walk_at "go"
    refine w_itt hm9 hdu7 fun J4 wk4 => ?_
    refine w_lcGA wk4 hm9 (fun j acc N M' => ∃ o cs, acc = iv cs ∧ cs.length = j ∧ M' = (h, o) :: M0 ∧ Hand K N o)
      ⟨o3, [], rfl, rfl, rfl, ho7⟩ (fun j x D2 acc N8 M' H4 Yes No hj hx eN8 hPv hm10 hyes hno => ?_) fun pdr acc N8 M' H4 eN8 hPv hm10 => ?_
    · obtain ⟨o8, cs, rfl, hcl, rfl, ho8⟩ := hPv
      obtain ⟨z, hz, rfl⟩ := iv_get hx
      walk_at "go"
      refine ⟨rfl, ?_⟩
      walk_at "go"
      refine iteT ?_
      walk_at "go"
      refine w_spM hm10.swap ⟨h, o8, _, 4, rfl, rfl, ho8, by decide, by decide, rfl⟩ fun v N9 M' H5 eN9 hm11 hR => ?_
      obtain ⟨dd, o9, rfl, hdd, rfl, ho9⟩ := hR
      walk_at "go"
      exact hyes _ _ _ _ (eN8.trans eN9) ⟨o9, cs ++ [((dd : Nat) : Int) - 1], by rw [iv, iv, List.map_append]; rfl, by rw [List.length_append, hcl]; rfl, rfl, ho9⟩ (small_sl (by rw [List.length_map]; rw [liv] at hj; omega)) hm11.swap
    · obtain ⟨o8, Ld, rfl, hcl, rfl, ho8⟩ := hPv
      rw [liv] at hcl
      refine w_frz hm10 fun N9 eN9 hpdr hm11 => ?_
      have ho9 := ho8.mono eN9
      have hdu9 : SqT K N9 du (iv L) := Same.sqt (eN8.trans eN9) hdu7
      walk_at "go"
      refine w_listOf hm11 (.inr hdu9) fun pl1 H5 hm12 => ?_
      refine w_frz hm12 fun N10 eN10 hpl1 hm13 => ?_
      walk_at "go"
      refine w_lstI hm13 (by walk_at "sz") fun prow N11 H6 eN11 hprow hm14 => ?_
      walk_at "go"
      have eI11 := eI5.trans (eN6.trans (eN7.trans (eN8.trans (eN9.trans (eN10.trans eN11)))))
      have hrows : AllAt (RwAt K e.ch.cs.length N11) [pl1, pm, pch, pdr] [L, Lm, Lc, Ld] := by
        have b1 : RwAt K e.ch.cs.length N11 pl1 L := ⟨.inl (SqL.of (eN11 _ _ hpl1)), hL⟩
        have b2 : RwAt K e.ch.cs.length N11 pm Lm := ⟨.inl ((eN7.trans (eN8.trans (eN9.trans (eN10.trans eN11)))).seq hpms), lM⟩
        have b3 : RwAt K e.ch.cs.length N11 pch Lc := ⟨.inl ((eN8.trans (eN9.trans (eN10.trans eN11))).seq hpchs), lC⟩
        have b4 : RwAt K e.ch.cs.length N11 pdr Ld := ⟨.inl ((eN10.trans eN11).seq (SqL.of hpdr)), hcl⟩
        exact (((AllAt.nil.snoc b1).snoc b2).snoc b3).snoc b4
      have hpmT : SqE K N11 pm (iv Lm) := .inl ((eN7.trans (eN8.trans (eN9.trans (eN10.trans eN11)))).seq hpms)
      have hduT : SqT K N11 du (iv L) := Same.sqt (eN10.trans eN11) hdu9
      have hMtT := hMt0.mono eI11
      have hMeT := hMe.mono eI11
      have ho11 := ho9.mono (eN10.trans eN11)
      have hrs : SqL K N11 prow (([pl1, pm, pch, pdr] : List Addr).map V.ref) := SqL.of hprow
      clear eN6 eN7 eN8 eN9 eN10 eN11 hpms hpchs hpdr hpl1 hprow hdu5 hdu6 hdu7 hdu9 hpm hpch hDs ho5 ho7 ho8 ho9 hm5 hm6 hm7 hm8 hm9 hm10 hm11 hm12 hm13 eI5 hMt0 hMe hdu eI1
      refine w_ill hm14 hrs fun J5 wk5 => ?_
      refine w_for wk5 hm14 (fun i σ N M' => ∃ o s13 s14, σ = [some (.ref h), some (.ref a), some (.ref md), some (.ref du), some (.bl dr), some (.ref ct), some (.int (pl : Int)), some (.int bb), some (.ref tb), some (.ref D), some (.ref pm), some (.ref pch), some (.ref pdr), s13, s14, none, none, none] ∧ M' = (h, o) :: M0 ∧ Hand K N o)
        ⟨o8, none, none, rfl, rfl, ho11⟩ ?_ ?_
      · rintro i x _ N12 _ H7 hi hx eN12 ⟨o12, s13, s14, rfl, rfl, ho12⟩ hm15
        obtain ⟨tr, htr, rfl⟩ := refs_get hx
        obtain ⟨Lr, hLr, hr1, hr2⟩ := hrows.get htr
        have hr3 : SqE K N12 tr (iv Lr) := Same.sqe eN12 hr1
        walk_at "go"
        refine w_spV hm15 ⟨a, tr, e, Lr, rfl, hMtT.mono eN12, ok, hr3, hr2, rfl⟩ fun H8 hm16 => ?_
        have rest : ∀ (b : Bool) (DD : Ends) (H9 : Hp), okF e Lr = b → Mem N12 ((h, o12) :: M0) H9 →
            (∀ N' o' s14 H', Same N11 N' → Hand K N' o' → Mem N' ((h, o') :: M0) H' → DD.nx [some (.ref h), some (.ref a), some (.ref md), some (.ref du), some (.bl dr), some (.ref ct), some (.int (pl : Int)), some (.int bb), some (.ref tb), some (.ref D), some (.ref pm), some (.ref pch), some (.ref pdr), some (.ref tr), s14, none, none, none] H') →
            tIfS (tNot (tB (tCall (spExact 3 K) [] E0 (tCons (tCall (spFault K C) [] E0 (tCons (tVar 2) (tCons (tCall (spTake K) [] E0 (tCons (tVar 0) (tCons (tVar 13) tNil))) tNil))) (tCons (tVar 14) tNil))))) (tRet (tC (.bl false))) tNext DD
            [some (.ref h), some (.ref a), some (.ref md), some (.ref du), some (.bl dr), some (.ref ct), some (.int (pl : Int)), some (.int bb), some (.ref tb), some (.ref D), some (.ref pm), some (.ref pch), some (.ref pdr), some (.ref tr), some (fltV b), none, none, none] H9 := fun b DD H9 hb hm17 hnx => by
          walk_at "go"
          refine w_spM hm17 ⟨h, tr, o12, M0, _, rfl, rfl, ho12, hr3, rfl⟩ fun v N13 M' H10 eN13 hm18 hR => ?_
          obtain ⟨tt, o13, rfl, htt, rfl, ho13⟩ := hR
          walk_at "go"
          refine w_spV hm18 ⟨md, e, .ref tt, rfl, hMeT.mono (eN12.trans eN13), ok, .inl ⟨tt, Lr, rfl, htt, hr2, rfl⟩⟩ fun H11 hm19 => ?_
          rw [hb]
          walk_at "go"
          refine w_spV hm19 ⟨_, _, rfl, eqv_flt _, rfl⟩ fun H12 hm20 => ?_
          walk_at "go"
          refine w_nt ?_
          exact hnx _ o13 _ _ (eN12.trans eN13) ho13 hm20
        rcases hdr with ⟨rfl, rr, hF⟩ | ⟨rfl, hN⟩
        · have hb := hF.bad Lr
          rw [hb]
          walk_at "go"
          refine w_tt ?_
          walk_at "go"
          refine w_ite (fun z => by cases z) fun _ => ?_
          exact rest false _ _ hb hm16 fun N' o' s14 H' e' hO' hm' => ⟨_, _, e', ⟨o', _, _, rfl, rfl, hO'⟩, hm'⟩
        · generalize hb : okF e Lr = b
          walk_at "go"
          refine w_ff ?_
          exact rest b _ _ hb hm16 fun N' o' s14 H' e' hO' hm' => ⟨_, _, e', ⟨o', _, _, rfl, rfl, hO'⟩, hm'⟩
      · rintro _ N12 _ H7 eN12 ⟨o12, s13, s14, rfl, rfl, ho12⟩ hm15
        have hMt12 := hMtT.mono eN12
        have hMe12 := hMeT.mono eN12
        have hpm12 : SqE K N12 pm (iv Lm) := Same.sqe eN12 hpmT
        have hdu12 : SqE K N12 du (iv L) := .inr (Same.sqt eN12 hduT)
        have last : ∀ (H9 : Hp), Mem N12 ((h, o12) :: M0) H9 → tCall (spExact 3 K) [] E0 (tCons (tCall (spFault K C) [] E0 (tCons (tVar 2) (tCons (tCall (spOdd K) [] E0 (tCons (tVar 0) (tCons (tVar 3) tNil))) tNil))) (tCons (tC (.str "form")) tNil))
            [some (.ref h), some (.ref a), some (.ref md), some (.ref du), some (.bl dr), some (.ref ct), some (.int (pl : Int)), some (.int bb), some (.ref tb), some (.ref D), some (.ref pm), some (.ref pch), some (.ref pdr), s13, s14, none, none, none] H9 Q := fun H9 hm17 => by
          walk_at "go"
          refine w_spM hm17 ⟨h, du, o12, M0, L, rfl, rfl, ho12, hdu12, by omega, by omega, rfl⟩ fun v N13 M' H10 eN13 hm18 hR => ?_
          obtain ⟨o13, hodd, rfl, ho13⟩ := hR
          walk_at "go"
          refine w_spV (v := .str "form") hm18 ⟨md, e, v, rfl, hMe12.mono eN13, ok, ?_⟩ fun H11 hm19 => ?_
          · rcases hodd with z | ⟨l, xs, z1, z2, z3, z4, z5⟩
            · exact .inr (.inr ⟨z, rfl⟩)
            · rw [hL] at z5
              exact .inr (.inl ⟨l, xs, z1, z2, z3, z4, z5, rfl⟩)
          · walk_at "go"
            refine w_spV hm19 ⟨_, _, rfl, .str _, rfl⟩ fun H12 hm20 => ?_
            exact k _ _ _ _ (eI11.trans (eN12.trans eN13)) hm20 ⟨o13, rfl, rfl, ho13⟩
        rcases hdr with ⟨rfl, rr, hF⟩ | ⟨rfl, hN⟩
        · walk_at "go"
          refine w_nt ?_
          refine w_ff ?_
          refine last _ hm15
        · have f1 := hN.fit ok.ch hIs
          have g1 : okF e L = true := okF_iff.mpr f1
          have g2 : okF e Lm = true := okF_iff.mpr (fM f1)
          walk_at "go"
          refine w_nf ?_
          walk_at "go"
          refine w_spV hm15 ⟨a, pm, e, Lm, rfl, hMt12, ok, hpm12, lM, rfl⟩ fun H8 hm16 => ?_
          rw [g2]
          walk_at "go"
          refine w_iteN (fun z => absurd rfl z) fun _ => ?_
          walk_at "go"
          refine w_spV hm16 ⟨a, du, e, L, rfl, hMt12, ok, hdu12, hL, rfl⟩ fun H9 hm17 => ?_
          rw [g1]
          walk_at "go"
          refine w_iteN (fun z => absurd rfl z) fun _ => ?_
          exact last _ hm17
end

end Pa

set_option Elab.async false
set_option linter.all false
set_option maxRecDepth 100000
set_option maxHeartbeats 4000000
namespace Pa
open PySem L2
local macro_rules | `(tactic| walk_at "lt") => `(tactic| first
  | assumption
  | omega
  | (simp only [List.length_map, List.length_range, List.length_cons, List.length_nil, List.length_append, List.length_replicate] at *; omega))
local macro_rules | `(tactic| walk_at "fo") => `(tactic| first | exact foc0 | (refine' focS ?k1; (case k1 => walk_at "fo")))
local macro_rules | `(tactic| walk_at "sq") => `(tactic| first
  | assumption
  | (refine' SqL.of ?k1; (case k1 => assumption))
  | (refine' SqT.of ?k1; (case k1 => assumption))
  | (refine' Or.inl ?k1; (case k1 => walk_at "sq"))
  | (refine' Or.inr ?k1; (case k1 => walk_at "sq"))
  | (refine' Same.seq ?k1 ?k2; (case k1 => assumption); (case k2 => walk_at "sq"))
  | (refine' Same.sqt ?k1 ?k2; (case k1 => assumption); (case k2 => walk_at "sq"))
  | (refine' Same.sqe ?k1 ?k2; (case k1 => assumption); (case k2 => walk_at "sq"))
  | (refine' same_at ?k1 ?k2; (case k1 => assumption); (case k2 => walk_at "sq")))
local macro_rules | `(tactic| walk_at "ai") => `(tactic| first
  | assumption
  | (refine' ati_ints ?k1; (case k1 => walk_at "lt"))
  | (refine' ati_refs ?k1; (case k1 => walk_at "lt"))
  | (refine' ati_nat ?k1; (case k1 => assumption))
  | k_dflt rfl)
local macro_rules | `(tactic| walk_at "lk") => `(tactic| first
  | assumption
  | exact lk_hd
  | (refine' lk_tl ?k1 ?k2; (case k1 => decide +kernel); (case k2 => walk_at "lk"))
  | exact lk_nil)
local macro_rules | `(tactic| walk_at "sz") => `(tactic| first
  | exact small_sz (by simp only [List.length_cons, List.length_nil, List.length_append, List.length_map, List.length_range, List.length_set, List.length_replicate]; omega))
local macro_rules | `(tactic| walk_at "cc") => `(tactic| first
  | (show (0 : Int) < _; first | decide | omega)
  | exact Or.inl ⟨by omega, by omega⟩
  | exact Or.inr ⟨by omega, by omega⟩
  | exact ⟨by decide, by decide, by decide⟩
  | exact ⟨by decide, by decide⟩)
local macro_rules | `(tactic| walk_at "st") => `(tactic| first
  | with_reducible refine w_seq ?_
  | with_reducible refine w_asg ?_
  | ((with_reducible refine' w_var ?k1 ?_); (case k1 => k_dflt rfl))
  | with_reducible refine w_c ?_
  | with_reducible refine w_op ?_
  | with_reducible refine w_cons ?_
  | with_reducible refine w_nil ?_
  | with_reducible refine w_gname ?_
  | with_reducible refine w_I0 ?_
  | with_reducible refine w_fld ?_
  | ((with_reducible refine' w_ins ?k1 ?k2 ?k3 ?k4 ?k5 ?_); (case k1 => assumption); (case k2 => walk_at "sq"); (case k3 => assumption); (case k4 => assumption); (case k5 => walk_at "lk"))
  | ((with_reducible refine' w_ixT ?k1 ?k2 ?k3 ?_); (case k1 => assumption); (case k2 => walk_at "sq"); (case k3 => walk_at "ai"))
  | ((with_reducible refine' w_ixL ?k1 ?k2 ?k3 ?_); (case k1 => assumption); (case k2 => walk_at "sq"); (case k3 => walk_at "ai"))
  | ((with_reducible refine' w_ixM ?k1 ?k2 ?k3 ?_); (case k1 => assumption); (case k2 => walk_at "fo"); (case k3 => walk_at "ai"))
  | with_reducible refine w_cb ?_
  | with_reducible refine w_test ?_
  | with_reducible refine w_if ?_
  | with_reducible refine w_B ?_
  | with_reducible refine w_not ?_
  | with_reducible refine w_and ?_
  | with_reducible refine w_or ?_
  | with_reducible refine w_eqI ?_
  | with_reducible refine w_neI ?_
  | with_reducible refine w_isN ?_
  | with_reducible refine w_notN ?_
  | with_reducible refine w_isB ?_
  | with_reducible refine w_bl ?_
  | with_reducible refine w_ret ?_
  | with_reducible refine w_next ?_
  | with_reducible refine w_brk ?_
  | with_reducible refine w_drop ?_
  | with_reducible refine w_call ?_
  | with_reducible refine w_un ?_
  | with_reducible refine w_U ?_
  | with_reducible refine w_andV ?_
  | with_reducible refine w_orV ?_
  | with_reducible refine w_notV ?_
  | with_reducible refine w_ifE ?_
  | with_reducible refine w_chain ?_
  | with_reducible refine w_gsub ?_
  | with_reducible refine w_gnil ?_
  | with_reducible refine w_gcons ?_
  | with_reducible refine w_ipI ?_
  | with_reducible refine w_fldS ?_
  | with_reducible refine w_tru ?_
  | with_reducible refine w_abs ?_
  | with_reducible refine w_maxB ?_
  | with_reducible refine w_minB ?_
  | with_reducible refine w_int ?_
  | with_reducible refine w_tupE ?_
  | with_reducible refine w_lstE ?_
  | with_reducible refine w_bm ?_
  | with_reducible refine w_bm0 ?_
  | with_reducible refine w_mth ?_
  | with_reducible refine w_for0 ?_
  | with_reducible refine w_lc0 ?_
  | with_reducible refine w_il ?_
  | with_reducible refine w_it ?_
  | with_reducible refine w_is ?_
  | with_reducible refine w_ie ?_
  | with_reducible refine w_ir1 ?_
  | with_reducible refine w_ir2 ?_
  | with_reducible refine w_irv ?_
  | with_reducible refine w_rg1 ?_
  | with_reducible refine w_rg1v ?_
  | with_reducible refine w_lrg ?_
  | with_reducible refine w_make ?_
  | with_reducible refine w_yes ?_
  | with_reducible refine w_ost ?_
  | with_reducible refine w_mkoE ?_
  | with_reducible refine w_is_int_int ?_
  | with_reducible refine w_is_int_bool ?_
  | with_reducible refine w_is_int_str ?_
  | with_reducible refine w_is_int_tuple ?_
  | with_reducible refine w_is_bl_int ?_
  | with_reducible refine w_is_bl_bool ?_
  | with_reducible refine w_is_bl_str ?_
  | with_reducible refine w_is_bl_tuple ?_
  | with_reducible refine w_is_non_int ?_
  | with_reducible refine w_is_non_bool ?_
  | with_reducible refine w_is_non_str ?_
  | with_reducible refine w_is_non_tuple ?_
  | with_reducible refine w_is_str_int ?_
  | with_reducible refine w_is_str_bool ?_
  | with_reducible refine w_is_str_str ?_
  | with_reducible refine w_is_str_tuple ?_
  | ((with_reducible refine' w_insM ?k1 ?k2 ?k3 ?k4 ?k5 ?_); (case k1 => assumption); (case k2 => walk_at "fo"); (case k3 => assumption); (case k4 => assumption); (case k5 => walk_at "lk"))
  | ((with_reducible refine' w_ixE ?k1 ?k2 ?k3 ?_); (case k1 => assumption); (case k2 => walk_at "sq"); (case k3 => walk_at "ai"))
  | ((with_reducible refine' w_len ?k1 ?k2 ?_); (case k1 => assumption); (case k2 => walk_at "sq"))
  | ((with_reducible refine' w_lenM ?k1 ?k2 ?_); (case k1 => assumption); (case k2 => walk_at "fo"))
  | ((with_reducible refine' w_I ?k1 ?_); (case k1 => walk_at "cc"))
  | ((with_reducible refine' w_gtup ?k1 ?k2 ?_); (case k1 => refine' Mem.sqt ?m0 ?h0; (case m0 => assumption); (case h0 => walk_at "sq")); (case k2 => k_dflt rfl))
  | ((with_reducible refine' w_aug ?k1 ?_); (case k1 => k_dflt rfl))
  | ((with_reducible refine' w_truM ?k1 ?k2 ?_); (case k1 => assumption); (case k2 => walk_at "fo"))
  | ((with_reducible refine' w_truL ?k1 ?k2 ?_); (case k1 => assumption); (case k2 => walk_at "sq"))
  | ((with_reducible refine' w_tyL ?k1 ?k2 ?_); (case k1 => assumption); (case k2 => walk_at "fo"))
  | ((with_reducible refine' w_mthI ?k1 ?k2 ?k3 ?_); (case k1 => assumption); (case k2 => walk_at "sq"); (case k3 => walk_at "lk"))
  | ((with_reducible refine' w_sumM ?k1 ?k2 ?_); (case k1 => assumption); (case k2 => walk_at "fo"))
  | ((with_reducible refine' w_eqDN ?k1 ?k2 ?k3 ?_); (case k1 => assumption); (case k2 => walk_at "sq"); (case k3 => walk_at "sq"))
  | ((with_reducible refine' w_is_tup_int ?k1 ?k2 ?_); (case k1 => assumption); (case k2 => walk_at "sq"))
  | ((with_reducible refine' w_is_tup_bool ?k1 ?k2 ?_); (case k1 => assumption); (case k2 => walk_at "sq"))
  | ((with_reducible refine' w_is_tup_str ?k1 ?k2 ?_); (case k1 => assumption); (case k2 => walk_at "sq"))
  | ((with_reducible refine' w_is_tup_tuple ?k1 ?k2 ?_); (case k1 => assumption); (case k2 => walk_at "sq"))
  | dsimp only)
local macro_rules | `(tactic| walk_at "go") => `(tactic| repeat (walk_at "st"))
theorem Ls.asymm : ∀ {a b : List Nat}, Ls a b → Ls b a → False
  | x :: a, y :: b, h1, h2 => by
    rcases h1 with h1 | ⟨h1, h3⟩ <;> rcases h2 with h2 | ⟨h2, h4⟩
    · omega
    · omega
    · omega
    · exact h3.asymm h4
theorem FirstD.one {e : Me} (ok : e.ch.Ok) {ss : List Int} {r r' : List Nat} (h : FirstD e ss r) (h' : FirstD e ss r') : r = r' := by
  obtain ⟨a1, a2, a3⟩ := h.first ok
  obtain ⟨b1, b2, b3⟩ := h'.first ok
  rcases a3 r' b1 b2 with p | ⟨p1, p⟩ <;> rcases b3 r a1 a2 with q | ⟨q1, q⟩
  · omega
  · omega
  · omega
  · rcases p with p | p
    · exact p
    · rcases q with q | q
      · exact q.symm
      · exact (p.asymm q).elim
theorem NoneD.no {e : Me} (ok : e.ch.Ok) {ss : List Int} {r : List Nat} (h : NoneD e ss) (h' : FirstD e ss r) : False := by
  obtain ⟨a1, a2, _⟩ := h'.first ok
  exact h.none ok a1 a2
/-- what the law picks is the first -/
theorem FirstD.pick {e : Me} (ok : e.ch.Ok) {ss : List Int} {s : Int} (hs : ∀ b : Int, Cnd s b ↔ ∃ s' ∈ ss, 0 < s' * b) {rs : List (List Nat)} (hall : ∀ r, SR e.ch r → r ∈ rs) (hSR : ∀ r ∈ rs, SR e.ch r) (hpw : rs.Pairwise RLe) {r : List Nat} (h : FirstD e ss r) {i : Nat} {r' : List Nat}
    (hi : rs[i]? = some r') (hc : Cnd s (e.sum r')) (hn : ∀ j, j < i → ∀ r2, rs[j]? = some r2 → ¬ Cnd s (e.sum r2)) : r = r' := by
  obtain ⟨a1, a2, a3⟩ := h.first ok
  have hcr : Cnd s (e.sum r) := (hs _).mpr a2
  obtain ⟨j, hj⟩ := List.mem_iff_getElem?.mp (hall r a1)
  have hji : i ≤ j := Nat.le_of_not_lt fun z => hn j z r hj hcr
  have hm := List.mem_of_getElem? hi
  rcases Nat.lt_or_eq_of_le hji with z | z
  · obtain ⟨i1, i2⟩ := List.getElem?_eq_some_iff.mp hi
    obtain ⟨j1, j2⟩ := List.getElem?_eq_some_iff.mp hj
    have hle := List.pairwise_iff_getElem.mp hpw i j i1 j1 z
    rw [i2, j2] at hle
    rcases a3 r' (hSR r' hm) ((hs _).mp hc) with p | ⟨p1, p⟩
    · rcases hle with q | ⟨q, _⟩ <;> omega
    · rcases hle with q | ⟨q1, q⟩
      · omega
      · rcases le_li q1 q with y | y
        · exact y.symm
        · rcases p with p | p
          · exact p
          · exact (p.asymm y).elim
  · subst z
    rw [hi] at hj
    exact (Option.some.inj hj).symm
/-- what the program finds and what the law finds -/
def Res (K : PySem.W.Frag) (C : Ad) (e : Me) (ss : List Int) (N : Hp) (vD v0 : V) : Prop := (NoneD e ss ∧ vD = .non ∧ v0 = .non) ∨ ∃ (r : List Nat) (t u q : Addr), FirstD e ss r ∧ vD = .ref t ∧ DrAt K C N t r (e.sum r) ∧ v0 = .ref u ∧ SqT K N u [.ref q, .int (e.sum r)] ∧ TupN K N q r
theorem res_of {K : PySem.W.Frag} {C : Ad} {e : Me} (ok : e.ch.Ok) {ss : List Int} {s : Int} {N : Hp} {vD v0 : V} (hs : ∀ b : Int, Cnd s b ↔ ∃ s' ∈ ss, 0 < s' * b) {rs : List (List Nat)} (hall : ∀ r, SR e.ch r → r ∈ rs) (hSR : ∀ r ∈ rs, SR e.ch r) (hpw : rs.Pairwise RLe)
    (h1 : (NoneD e ss ∧ vD = .non) ∨ (∃ t r, vD = .ref t ∧ DrAt K C N t r (e.sum r) ∧ FirstD e ss r))
    (h2 : ((∀ r ∈ rs, ¬ Cnd s (e.sum r)) ∧ v0 = .non) ∨ ∃ (u q : Addr) (i : Nat) (r : List Nat), v0 = .ref u ∧ SqT K N u [.ref q, .int (e.sum r)] ∧ TupN K N q r ∧ rs[i]? = some r ∧ Cnd s (e.sum r) ∧ ∀ j, j < i → ∀ r', rs[j]? = some r' → ¬ Cnd s (e.sum r')) : Res K C e ss N vD v0 := by
  rcases h1 with ⟨a1, a2⟩ | ⟨t, r, a1, a2, a3⟩ <;> rcases h2 with ⟨b1, b2⟩ | ⟨u, q, i, r', b1, b2, b3, b4, b5, b6⟩
  · exact .inl ⟨a1, a2, b2⟩
  · exact absurd ((hs _).mp b5) (a1.none ok (hSR r' (List.mem_of_getElem? b4)))
  · obtain ⟨c1, c2, _⟩ := a3.first ok
    exact absurd ((hs _).mpr c2) (b1 r (hall r c1))
  · have := a3.pick ok hs hall hSR hpw b4 b5 b6
    subst this
    exact .inr ⟨r, t, u, q, a3, a1, a2, b1, b2, b3⟩
/-- what the program finds, as a couple -/
def Cp (K : PySem.W.Frag) (e : Me) (ss : List Int) (N : Hp) (v : V) : Prop := (NoneD e ss ∧ v = .non) ∨ ∃ (r : List Nat) (u q : Addr), FirstD e ss r ∧ v = .ref u ∧ SqT K N u [.ref q, .int (e.sum r)] ∧ TupN K N q r
theorem Cp.mono {K : PySem.W.Frag} {e : Me} {ss : List Int} {N N' : Hp} {v : V} (h : Cp K e ss N v) (s : Same N N') : Cp K e ss N' v := by
  rcases h with h | ⟨r, u, q, h1, h2, h3, h4⟩
  · exact .inl h
  · exact .inr ⟨r, u, q, h1, h2, Same.sqt s h3, Same.sqt s h4⟩
theorem cp_of {K : PySem.W.Frag} {C : Ad} {e : Me} {ss : List Int} {N : Hp} {vD : V} (h : (NoneD e ss ∧ vD = .non) ∨ (∃ t r, vD = .ref t ∧ DrAt K C N t r (e.sum r) ∧ FirstD e ss r)) :
    ∃ R : V → Hp → Prop, ((vD = .non ∧ R = fun v N => v = .non) ∨ ∃ t r b, vD = .ref t ∧ DrAt K C N t r b ∧ R = fun v N => ∃ u q, v = .ref u ∧ SqT K N u [.ref q, .int b] ∧ TupN K N q r) ∧ ∀ v N', R v N' → Cp K e ss N' v := by
  rcases h with ⟨h1, h2⟩ | ⟨t, r, h1, h2, h3⟩
  · exact ⟨_, .inl ⟨h2, rfl⟩, fun v N' hv => .inl ⟨h1, hv⟩⟩
  · refine ⟨_, .inr ⟨t, r, _, h1, h2, rfl⟩, fun v N' hv => ?_⟩
    obtain ⟨u, q, a, b, d⟩ := hv
    exact .inr ⟨r, u, q, h3, a, b, d⟩
theorem eqv_tupN {K : PySem.W.Frag} {I : Hp} {n : Nat} {a b : Addr} {r : List Nat} (ha : TupN K I a r) (hb : TupN K I b r) (hl : r.length ≤ 1000) : Eqv K I (n + 2) (.ref a) (.ref b) :=
  .tup ha hb rfl (by rw [List.length_map]; exact hl) fun j x y hx hy => by
    rw [hx] at hy
    obtain ⟨z, _, rfl⟩ := nv_get hx
    rw [← Option.some.inj hy]
    exact .int _
theorem eqv_tupI {K : PySem.W.Frag} {I : Hp} {n : Nat} {a b : Addr} {r : List Int} (ha : SqT K I a (iv r)) (hb : SqT K I b (iv r)) (hl : r.length ≤ 1000) : Eqv K I (n + 2) (.ref a) (.ref b) :=
  .tup ha hb rfl (by rw [List.length_map]; exact hl) fun j x y hx hy => by
    rw [hx] at hy
    obtain ⟨z, _, rfl⟩ := iv_get hx
    rw [← Option.some.inj hy]
    exact .int _
theorem eqv_couple {K : PySem.W.Frag} {I : Hp} {n : Nat} {u u' q q' : Addr} {b : Int} {r : List Nat} (h1 : SqT K I u [.ref q, .int b]) (h2 : SqT K I u' [.ref q', .int b]) (h3 : TupN K I q r) (h4 : TupN K I q' r) (hl : r.length ≤ 1000) : Eqv K I (n + 3) (.ref u) (.ref u') :=
  .tup h1 h2 rfl (Nat.le_of_ble_eq_true rfl) fun j x y hx hy => by
    match j, hx, hy with
    | 0, hx, hy =>
      rw [← Option.some.inj hx, ← Option.some.inj hy]
      exact eqv_tupN h3 h4 hl
    | 1, hx, hy =>
      rw [← Option.some.inj hx, ← Option.some.inj hy]
      exact .int _
theorem eqv_drifts {K : PySem.W.Frag} {I : Hp} {n : Nat} {u u' q q' : Addr} {b : Int} {r : List Nat} {s : Str} (h1 : SqT K I u [.str s, .ref q, .int b]) (h2 : SqT K I u' [.str s, .ref q', .int b]) (h3 : TupN K I q r) (h4 : TupN K I q' r) (hl : r.length ≤ 1000) : Eqv K I (n + 3) (.ref u) (.ref u') :=
  .tup h1 h2 rfl (Nat.le_of_ble_eq_true rfl) fun j x y hx hy => by
    match j, hx, hy with
    | 0, hx, hy =>
      rw [← Option.some.inj hx, ← Option.some.inj hy]
      exact .str _
    | 1, hx, hy =>
      rw [← Option.some.inj hx, ← Option.some.inj hy]
      exact eqv_tupN h3 h4 hl
    | 2, hx, hy =>
      rw [← Option.some.inj hx, ← Option.some.inj hy]
      exact .int _
theorem cp_eqv {K : PySem.W.Frag} {e : Me} (ok : e.ch.Ok) {ss : List Int} {s : Int} {N : Hp} {v1 v0 : V} (hs : ∀ b : Int, Cnd s b ↔ ∃ s' ∈ ss, 0 < s' * b) {rs : List (List Nat)} (hall : ∀ r, SR e.ch r → r ∈ rs) (hSR : ∀ r ∈ rs, SR e.ch r) (hpw : rs.Pairwise RLe)
    (h1 : Cp K e ss N v1)
    (h2 : ((∀ r ∈ rs, ¬ Cnd s (e.sum r)) ∧ v0 = .non) ∨ ∃ (u q : Addr) (i : Nat) (r : List Nat), v0 = .ref u ∧ SqT K N u [.ref q, .int (e.sum r)] ∧ TupN K N q r ∧ rs[i]? = some r ∧ Cnd s (e.sum r) ∧ ∀ j, j < i → ∀ r', rs[j]? = some r' → ¬ Cnd s (e.sum r')) : Eqv K N 3 v1 v0 := by
  rcases h1 with ⟨a1, a2⟩ | ⟨r, u1, q1, a1, a2, a3, a4⟩ <;> rcases h2 with ⟨b1, b2⟩ | ⟨u, q, i, r', b1, b2, b3, b4, b5, b6⟩
  · rw [a2, b2]
    exact .non
  · exact absurd ((hs _).mp b5) (a1.none ok (hSR r' (List.mem_of_getElem? b4)))
  · obtain ⟨c1, c2, _⟩ := a1.first ok
    exact absurd ((hs _).mpr c2) (b1 r (hall r c1))
  · have := a1.pick ok hs hall hSR hpw b4 b5 b6
    subst this
    obtain ⟨c1, _, _⟩ := a1.first ok
    have h16 := ok.n16
    have hb := (c1.bound ok).2.1
    rw [a2, b1]
    exact eqv_couple a3 b2 a4 b3 (by omega)
theorem cnd0 (b : Int) : Cnd 0 b ↔ ∃ s' ∈ ([1, -1] : List Int), 0 < s' * b := by
  unfold Cnd
  simp
  omega
theorem cndN (b : Int) : Cnd (-1) b ↔ ∃ s' ∈ ([-1] : List Int), 0 < s' * b := by
  unfold Cnd
  simp
theorem cnd1 (b : Int) : Cnd 1 b ↔ ∃ s' ∈ ([1] : List Int), 0 < s' * b := by
  unfold Cnd
  simp
theorem w_eqO {K : PySem.W.Frag} {C : Ad} {I H : Hp} {M : Mu} {a b : Addr} {l m : List Nat} {s t : Int} {Q : VK} (hm : Mem I M H) (ha : DrAt K C I a l s) (hb : DrAt K C I b m t) (q : ∀ H', Mem I M H' → Q (.bl (decide (l = m) && decide (s = t))) H') : rEqOwn C.dr (spDriftEq K C) (.ref a) (.ref b) H Q := by
  have ha2 := ha
  have hb2 := hb
  obtain ⟨dx, rx, h1, h2⟩ := ha
  obtain ⟨dy, ry, h3, h4⟩ := hb
  exact ⟨a, b, dx, dy, _, _, rfl, rfl, hm.ex _ _ h1, hm.ex _ _ h3, I, M, _, ⟨a, b, l, m, s, t, rfl, ha2, hb2, rfl⟩, hm, fun H' hm' => ⟨_, rfl, q H' hm'⟩⟩
section
variable {P : Program} {w : World} {K : PySem.W.Frag} {mg : Str → Option Value} {base : Heap} {C : Ad}
abbrev N_law : List Str := ["_law_script", "_law_hand_here", "_law_turn", "_law_chart_here", "_law_meter_here", "_law_made_here", "_law_rings_here", "_law_first", "_law_told", "_law_due"]
abbrev P_law : List Str := ["_law_script"]
theorem sc_law : FnScope N_law P_law (defScope S_law) := ⟨rfl, rfl, rfl, by decide +kernel, rfl, by decide +kernel, by decide +kernel⟩
-- slots: 0 _law_script, 1 _law_hand_here, 2 _law_turn, 3 _law_chart_here, 4 _law_meter_here, 5 _law_made_here, 6 _law_rings_here, 7 _law_first, 8 _law_told, 9 _law_due
def spLaw (K : PySem.W.Frag) : Sp := fun vs H Q _ => ∃ (a : Addr) (ns : List Int), vs = [.ref a] ∧ SqL K H a (ns.map V.int) ∧ ns.length ≤ 63 ∧ ∀ H', Q (.bl true) H'
theorem ok_law {f : Addr} {fd : FuncData} (F : FnP K "law" "law" S_law f fd) (T : Txt K mg C) (G_law_hand : FnAt P w K mg base "_law_hand" 1 P_law_hand (spHand K)) (G_law_chart : FnAt P w K mg base "_law_chart" 4 P_law_chart (spChart K)) (G_law_meter : FnAt P w K mg base "_law_meter" 4 P_law_meter (spMeter K)) (G_law_made : FnAt P w K mg base "_law_made" 5 P_law_made (spMade K C)) (G_law_rings : FnAt P w K mg base "_law_rings" 2 P_law_rings (spRings K)) (G_law_first_ring : FnAt P w K mg base "_law_first_ring" 3 P_law_first_ring (spFirstRing K)) (G_find_drift : FnAt P w K mg base "find_drift" 6 P_find_drift (spFind [1,-1] K C)) (G_find_fall : FnAt P w K mg base "find_fall" 6 P_find_fall (spFind [-1] K C)) (G_find_rise : FnAt P w K mg base "find_rise" 6 P_find_rise (spFind [1] K C)) (G_law_couple : FnAt P w K mg base "_law_couple" 1 P_law_couple (spCouple K C)) (G_law_exact : FnAt P w K mg base "_law_exact" 3 P_law_exact (spExact 3 K)) (G_Drift : MkAt P w K mg base "Drift" C.dr 1 P_Drift_init (spDriftInit K C)) (G_Drift_eq : MtAt P w K mg base C.dr "__eq__" 1 P_Drift_eq (spDriftEq K C)) (G_law_levels : FnAt P w K mg base "_law_levels" 3 P_law_levels (spLevelsL K)) (G_law_told_levels : FnAt P w K mg base "_law_told_levels" 8 P_law_told_levels (spTold K C)) (G_law_judged : FnAt P w K mg base "_law_judged" 7 P_law_judged (spJudged K C)) : FnOk P w K mg base CX0 9 f fd P_law (spLaw K) := by
  have nd := sc_law.nd
  refine F.ok sc_law (fun vs H Q E h => ?_) (fun cdv A outer s H vs Q E hr h => ?_)
  · obtain ⟨a, ns, rfl, _⟩ := h
    rfl
  obtain ⟨a, ns, rfl, hns, hnl, k⟩ := h
  have hm : Mem H [] H := ⟨Same.refl H, (fun p hp => nomatch hp), (fun p hp => nomatch hp), List.nodup_nil⟩
  have n1 := T.n_ring
  have n2 := T.n_by
  have n3 := T.clDr
  refine ⟨_, PSs.nox (pss_cons (ps_set (i := 1) nd rfl (Or.inl rfl) (pe_fn G_law_hand (hr.mono (by decide)) (pa_cons (pv 0) pa_nil)))
    (pss_cons (ps_for PassesOwn.never rfl (pi_range1 rfl T.b_range (pa_cons pe_int pa_nil)) (pg_name (i := 2) nd rfl (Or.inl rfl))
      (pss_cons (ps_set (i := 3) nd rfl (Or.inl rfl) (pe_fn G_law_chart (hr.mono (by decide)) (pa_cons (pv 1) pa_nil)))
      (pss_cons (ps_set (i := 4) nd rfl (Or.inl rfl) (pe_fn G_law_meter (hr.mono (by decide)) (pa_cons (pv 1) (pa_cons (pv 3) pa_nil))))
      (pss_cons (ps_set (i := 5) nd rfl (Or.inl rfl) (pe_fn G_law_made (hr.mono (by decide)) (pa_cons (pv 1) (pa_cons (pv 4) pa_nil))))
      (pss_cons (ps_set (i := 6) nd rfl (Or.inl rfl) (pe_fn G_law_rings (hr.mono (by decide)) (pa_cons (pv 3) pa_nil)))
      (pss_cons (ps_set (i := 7) nd rfl (Or.inl rfl) (pe_fn G_law_first_ring (hr.mono (by decide)) (pa_cons (pv 4) (pa_cons (pv 6) (pa_cons pe_int pa_nil)))))
      (pss_cons (ps_set (i := 8) nd rfl (Or.inl rfl) (pe_fn G_find_drift (hr.mono (by decide)) (pa_cons (pv 5) pa_nil)))
      (pss_cons (ps_if (pt_not (pt_val (pe_fn G_law_exact (hr.mono (by decide)) (pa_cons (pe_fn G_law_couple (hr.mono (by decide)) (pa_cons (pv 8) pa_nil)) (pa_cons (pv 7) pa_nil)))))
        (pss_one (ps_ret pe_bl))
        pss_nil)
      (pss_cons (ps_if (pt_not (pt_val (pe_fn G_law_exact (hr.mono (by decide)) (pa_cons (pe_fn G_law_couple (hr.mono (by decide)) (pa_cons (pe_fn G_find_fall (hr.mono (by decide)) (pa_cons (pv 5) pa_nil)) pa_nil)) (pa_cons (pe_fn G_law_first_ring (hr.mono (by decide)) (pa_cons (pv 4) (pa_cons (pv 6) (pa_cons (pe_un un_neg pe_int) pa_nil)))) pa_nil)))))
        (pss_one (ps_ret pe_bl))
        pss_nil)
      (pss_cons (ps_if (pt_not (pt_val (pe_fn G_law_exact (hr.mono (by decide)) (pa_cons (pe_fn G_law_couple (hr.mono (by decide)) (pa_cons (pe_fn G_find_rise (hr.mono (by decide)) (pa_cons (pv 5) pa_nil)) pa_nil)) (pa_cons (pe_fn G_law_first_ring (hr.mono (by decide)) (pa_cons (pv 4) (pa_cons (pv 6) (pa_cons pe_int pa_nil)))) pa_nil)))))
        (pss_one (ps_ret pe_bl))
        pss_nil)
      (pss_cons (ps_if (PW.pt (pw_and (pt_cmpR op_notN1 (pv 7) pe_non (nomark _)) (pw_and1 (pt_not (pt_val (pe_callB call_isi (by rfl) T.b_isinstance PyProof.Rows.boot_isinstance (pa_cons (pv 8) (pa_cons (pe_cls T.c_Drift) pa_nil))))))))
        (pss_one (ps_ret pe_bl))
        pss_nil)
      (pss_cons (ps_if (PW.pt (pw_and (pt_cmpR op_notN1 (pv 7) pe_non (nomark _)) (pw_and1 (PW.pt (pw_or (pt_not (pt_cmpR (op_eqOwn G_Drift_eq (hr.mono (by decide))) (pv 8) (pe_mk G_Drift (hr.mono (by decide)) (pa_cons (pe_ix ix_tup (pv 7) pe_int (fun _ _ => rfl)) (pa_cons (pe_ix ix_tup (pv 7) pe_int (fun _ _ => rfl)) pa_nil))) (nomark _))) (pw_or1 (pt_cmpR (op_eqOwn G_Drift_eq (hr.mono (by decide))) (pv 8) (pe_mk G_Drift (hr.mono (by decide)) (pa_cons (pe_ix ix_tup (pv 7) pe_int (fun _ _ => rfl)) (pa_cons (pe_op op_add (pe_ix ix_tup (pv 7) pe_int (fun _ _ => rfl)) pe_int) pa_nil))) (nomark _))))))))
        (pss_one (ps_ret pe_bl))
        pss_nil)
      (pss_cons (ps_set (i := 9) nd rfl (Or.inl rfl) (pe_fn G_law_levels (hr.mono (by decide)) (pa_cons (pv 4) pa_nil)))
      (pss_cons (ps_if (pt_not (pt_val (pe_fn G_law_exact (hr.mono (by decide)) (pa_cons (pe_fn G_law_told_levels (hr.mono (by decide)) (pa_cons (pv 5) pa_nil)) (pa_cons (pe_ifExp (pt_cmpR op_isN1 (pv 7) pe_non (nomark _)) (pv 9) (pe_tup (pa_cons pe_str (pa_cons (pe_ix ix_tup (pv 7) pe_int (fun _ _ => rfl)) (pa_cons (pe_ix ix_tup (pv 7) pe_int (fun _ _ => rfl)) pa_nil))))) pa_nil)))))
        (pss_one (ps_ret pe_bl))
        pss_nil)
      (pss_one (ps_if (pt_not (pt_val (pe_fn G_law_judged (hr.mono (by decide)) (pa_cons (pv 1) (pa_cons (pv 4) (pa_cons (pv 5) (pa_cons (pv 9) (pa_cons (pe_cmpR op_notN1 (pv 7) pe_non (nomark _)) pa_nil))))))))
        (pss_one (ps_ret pe_bl))
        pss_nil))))))))))))))))
    (pss_one (ps_ret pe_bl)))), ?_⟩
  try dsimp only [cxOf, Cx.nox, Cx.wish]
  walk_at "go"
  refine w_spM hm ⟨a, ns, rfl, hns, hnl, rfl⟩ fun v N1 M' H1 eN1 hm1 hR => ?_
  obtain ⟨h, o, rfl, rfl, ho⟩ := hR
  walk_at "go"
  refine w_irr1 (n := 2) (by decide) fun J wk => ?_
  refine w_forZ wk hm1 (fun i σ N M' => ∃ o s2 s3 s4 s5 s6 s7 s8 s9, σ = [some (.ref a), some (.ref h), s2, s3, s4, s5, s6, s7, s8, s9] ∧ M' = [(h, o)] ∧ Hand K N o) ⟨o, none, none, none, none, none, none, none, none, rfl, rfl, ho⟩ ?_ ?_
  · rintro i _ N _ H2 hi eN ⟨o, s2, s3, s4, s5, s6, s7, s8, s9, rfl, rfl, ho⟩ hm2
    walk_at "go"
    refine w_spM hm2 ⟨h, o, [], rfl, rfl, ho, rfl⟩ fun v N2 M' H3 eN2 hm3 hR => ?_
    obtain ⟨tc, c, o2, rfl, hct, fitc, hn9, hm4, rfl, ho2⟩ := hR
    walk_at "go"
    refine w_spM hm3 ⟨h, tc, o2, [], c, rfl, rfl, ho2, hct, fitc, hn9, hm4, rfl⟩ fun v N3 M' H4 eN3 hm5 hR => ?_
    obtain ⟨tm, e, o3, rfl, rfl, hMt, fit, rfl, ho3⟩ := hR
    have ok := fit.ok
    walk_at "go"
    refine w_spM hm5 ⟨h, tm, o3, [], e, rfl, rfl, ho3, hMt, fit, rfl⟩ fun v N4 M' H5 eN4 hm6 hR => ?_
    obtain ⟨md, o4, rfl, hMe, rfl, ho4⟩ := hR
    walk_at "go"
    refine w_spN hm6 ⟨tc, e.ch, rfl, hct.mono (eN3.trans eN4), ok.ch, hn9, hm4, rfl⟩ fun v N5 H6 eN5 hm7 hR => ?_
    obtain ⟨tr, trs, rs, rfl, htr, hrs, hSR, hall, hpw⟩ := hR
    have hMt5 := hMt.mono (eN4.trans eN5)
    have hMe5 := hMe.mono eN5
    have ho5 := ho4.mono eN5
    have htr5 : SqL K N5 tr (trs.map V.ref) := SqL.of htr
    have eI5 := eN.trans (eN2.trans (eN3.trans (eN4.trans eN5)))
    clear hMt hMe ho4 ho3 ho2 ho hct htr eN2 eN3 eN4 eN5 eN hm1 hm2 hm3 hm5 hm6
    have rlen : ∀ {r : List Nat}, SR e.ch r → r.length ≤ 1000 := fun hr => by
      have := (hr.bound ok.ch).2.1
      omega
    walk_at "go"
    refine w_spN hm7 ⟨tm, tr, 0, e, trs, rs, rfl, hMt5, ok, htr5, hrs, hSR, by omega, by omega, rfl⟩ fun v0 N6 H7 eN6 hm8 hF0 => ?_
    walk_at "go"
    refine w_spN hm8 ⟨md, e, rfl, hMe5.mono eN6, ok, rfl⟩ fun vD N7 H8 eN7 hm9 hD0 => ?_
    have hF7 : ((∀ r ∈ rs, ¬ Cnd 0 (e.sum r)) ∧ v0 = .non) ∨ ∃ (u q : Addr) (i : Nat) (r : List Nat), v0 = .ref u ∧ SqT K N7 u [.ref q, .int (e.sum r)] ∧ TupN K N7 q r ∧ rs[i]? = some r ∧ Cnd 0 (e.sum r) ∧ ∀ j, j < i → ∀ r', rs[j]? = some r' → ¬ Cnd 0 (e.sum r') := by
      rcases hF0 with z | ⟨u, q, i, r, z1, z2, z3, z4⟩
      · exact .inl z
      · exact .inr ⟨u, q, i, r, z1, Same.sqt eN7 z2, Same.sqt eN7 z3, z4⟩
    have hRes := res_of (C := C) ok.ch cnd0 hall hSR hpw hD0 hF7
    have eK7 := eN6.trans eN7
    obtain ⟨R0, hR1, hR2⟩ := cp_of hD0
    walk_at "go"
    refine w_spN hm9 ⟨vD, rfl, hR1⟩ fun v1 N8 H9 eN8 hm10 hR => ?_
    have hCp := hR2 _ _ hR
    have hF8 : ((∀ r ∈ rs, ¬ Cnd 0 (e.sum r)) ∧ v0 = .non) ∨ ∃ (u q : Addr) (i : Nat) (r : List Nat), v0 = .ref u ∧ SqT K N8 u [.ref q, .int (e.sum r)] ∧ TupN K N8 q r ∧ rs[i]? = some r ∧ Cnd 0 (e.sum r) ∧ ∀ j, j < i → ∀ r', rs[j]? = some r' → ¬ Cnd 0 (e.sum r') := by
      rcases hF7 with z | ⟨u, q, i, r, z1, z2, z3, z4⟩
      · exact .inl z
      · exact .inr ⟨u, q, i, r, z1, Same.sqt eN8 z2, Same.sqt eN8 z3, z4⟩
    walk_at "go"
    refine w_spV hm10 ⟨v1, v0, rfl, cp_eqv ok.ch cnd0 hall hSR hpw hCp hF8, rfl⟩ fun H10 hm11 => ?_
    walk_at "go"
    refine w_nt ?_
    walk_at "go"
    have eK8 := eK7.trans eN8
    refine w_spN hm11 ⟨md, e, rfl, hMe5.mono eK8, ok, rfl⟩ fun vF N9 H11 eN9 hm12 hD1 => ?_
    obtain ⟨R3, hR3, hR4⟩ := cp_of hD1
    walk_at "go"
    refine w_spN hm12 ⟨vF, rfl, hR3⟩ fun v2 N10 H12 eN10 hm13 hR => ?_
    have hCpF := hR4 _ _ hR
    have eK10 := eK8.trans (eN9.trans eN10)
    walk_at "go"
    refine w_spN hm13 ⟨tm, tr, -1, e, trs, rs, rfl, hMt5.mono eK10, ok, eK10.seq htr5, hrs.mono fun t l h => Same.sqt eK10 h, hSR, by omega, by omega, rfl⟩ fun v3 N11 H13 eN11 hm14 hF1 => ?_
    walk_at "go"
    refine w_spV hm14 ⟨v2, v3, rfl, cp_eqv ok.ch cndN hall hSR hpw (hCpF.mono eN11) hF1, rfl⟩ fun H14 hm15 => ?_
    walk_at "go"
    refine w_nt ?_
    walk_at "go"
    have eK11 := eK10.trans eN11
    refine w_spN hm15 ⟨md, e, rfl, hMe5.mono eK11, ok, rfl⟩ fun vR N12 H15 eN12 hm16 hD2 => ?_
    obtain ⟨R5, hR5, hR6⟩ := cp_of hD2
    walk_at "go"
    refine w_spN hm16 ⟨vR, rfl, hR5⟩ fun v4 N13 H16 eN13 hm17 hR => ?_
    have hCpR := hR6 _ _ hR
    have eK13 := eK11.trans (eN12.trans eN13)
    walk_at "go"
    refine w_spN hm17 ⟨tm, tr, 1, e, trs, rs, rfl, hMt5.mono eK13, ok, eK13.seq htr5, hrs.mono fun t l h => Same.sqt eK13 h, hSR, by omega, by omega, rfl⟩ fun v5 N14 H17 eN14 hm18 hF2 => ?_
    walk_at "go"
    refine w_spV hm18 ⟨v4, v5, rfl, cp_eqv ok.ch cnd1 hall hSR hpw (hCpR.mono eN14) hF2, rfl⟩ fun H18 hm19 => ?_
    walk_at "go"
    refine w_nt ?_
    have eK14 := eK13.trans eN14
    have eB := eN8.trans (eN9.trans (eN10.trans (eN11.trans (eN12.trans (eN13.trans eN14)))))
    have hMt14 := hMt5.mono eK14
    have hMe14 := hMe5.mono eK14
    have ho14 := ho5.mono eK14
    have eI14 := eI5.trans eK14
    clear hF7 hF8 hF1 hF2 hD1 hD2 hCp hCpF hCpR hR1 hR2 hR3 hR4 hR5 hR6 hF0 hD0 hMt5 hMe5 ho5 eI5 eK14 eK13 eK11 eK10 eK8 eK7 eN6 eN7 eN8 eN9 eN10 eN11 eN12 eN13 eN14
    rcases hRes with ⟨hN, rfl, rfl⟩ | ⟨r, t, u, q, hF, rfl, ht, rfl, hu, hq⟩
    · walk_at "go"
      refine w_iteN (fun z => absurd rfl z) fun _ => ?_
      refine w_ff ?_
      walk_at "go"
      refine w_iteN (fun z => absurd rfl z) fun _ => ?_
      refine w_ff ?_
      walk_at "go"
      refine w_spN hm19 ⟨tm, e, rfl, hMt14, ok, rfl⟩ fun v N15 H19 eN15 hm20 hR => ?_
      obtain ⟨td, L, rfl, htd, hIs⟩ := hR
      walk_at "go"
      refine w_spN hm20 ⟨md, e, rfl, hMe14.mono eN15, ok, rfl⟩ fun vT N16 H20 eN16 hm21 hT => ?_
      walk_at "go"
      refine w_ite (fun _ => ?_) fun z => absurd rfl z
      have hL16 := hIs.1
      have n16 := ok.ch.n16
      have hE : Eqv K N16 3 vT (.ref td) := by
        rcases hT with ⟨_, tt, L', rfl, htt, hIs'⟩ | ⟨r, _, _, hF, _⟩
        · have := hIs'.one ok.ch hN hIs
          subst this
          exact eqv_tupI htt (Same.sqt eN16 htd) (by omega)
        · exact (hN.no ok.ch hF).elim
      walk_at "go"
      refine w_spV hm21 ⟨vT, _, rfl, hE, rfl⟩ fun H21 hm22 => ?_
      walk_at "go"
      refine w_nt ?_
      walk_at "go"
      have eJ := eN15.trans eN16
      refine w_spM hm22 ⟨h, tm, md, td, _, o4, [], e, L, rfl, rfl, ho14.mono eJ, hMt14.mono eJ, fit, hMe14.mono eJ, Same.sqt eN16 htd, hIs, .inr ⟨by simp, hN⟩, rfl⟩ fun v N17 M' H22 eN17 hm23 hR => ?_
      obtain ⟨o17, rfl, rfl, ho17⟩ := hR
      walk_at "go"
      refine w_nt ?_
      exact ⟨_, _, eI14.trans (eJ.trans eN17), ⟨o17, _, _, _, _, _, _, _, _, rfl, rfl, ho17⟩, hm23⟩
    · have ht14 := ht.mono eB
      have hu14 : SqT K N14 u [.ref q, .int (e.sum r)] := Same.sqt eB hu
      have hq14 : TupN K N14 q r := Same.sqt eB hq
      have hSRr := (hF.first ok.ch).1
      obtain ⟨dx, rr, hti, _⟩ := ht14
      have ht14 := ht.mono eB
      clear ht hu hq eB
      walk_at "go"
      refine w_iteN (fun _ => ?_) fun z => by cases z
      walk_at "go"
      refine w_isiI hm19 hti n3 T.isDr T.kitDr ?_
      walk_at "go"
      refine w_nt ?_
      walk_at "go"
      refine w_iteN (fun _ => ?_) fun z => by cases z
      walk_at "go"
      refine w_mk hm19 fun x dx1 N15 eN15 => ⟨_, ⟨x, dx1, q, _, r, _, rfl, rfl, Same.sqt eN15 hq14, rfl⟩, fun v N16 M' H19 eN16 hm20 hR => ?_⟩
      obtain ⟨rfl, r1, rfl, hr1⟩ := hR
      refine ⟨rfl, ?_⟩
      refine w_frz hm20 fun N17 eN17 hx hm21 => ?_
      have eJ := eN15.trans (eN16.trans eN17)
      have ht17 := ht14.mono eJ
      have hu17 : SqT K N17 u [.ref q, .int (e.sum r)] := Same.sqt eJ hu14
      have hq17 : TupN K N17 q r := Same.sqt eJ hq14
      clear eN15 eN16
      refine w_eqO hm21 ht17 ⟨dx1, r1, hx, Same.sqt eN17 hr1⟩ fun H20 hm22 => ?_
      clear eN17
      rw [decide_eq_true rfl, decide_eq_true rfl]
      walk_at "go"
      refine w_nt ?_
      walk_at "go"
      refine w_mk hm22 fun y dy N18 eN18 => ⟨_, ⟨y, dy, q, _, r, _, rfl, rfl, Same.sqt eN18 hq17, rfl⟩, fun v N19 M' H21 eN19 hm23 hR => ?_⟩
      obtain ⟨rfl, r2, rfl, hr2⟩ := hR
      refine ⟨rfl, ?_⟩
      refine w_frz hm23 fun N20 eN20 hy hm24 => ?_
      have eJ2 := eN18.trans (eN19.trans eN20)
      have ht20 := ht17.mono eJ2
      have hu20 : SqT K N20 u [.ref q, .int (e.sum r)] := Same.sqt eJ2 hu17
      have hq20 : TupN K N20 q r := Same.sqt eJ2 hq17
      refine w_eqO hm24 ht20 ⟨dy, r2, hy, Same.sqt eN20 hr2⟩ fun H22 hm25 => ?_
      have eJ3 := eJ.trans eJ2
      clear eN18 eN19 eN20 eJ eJ2 hu17 hu14
      rw [decide_eq_false (show ¬ e.sum r = e.sum r + 1 by omega), Bool.and_false]
      walk_at "go"
      refine w_ff ?_
      walk_at "go"
      refine w_spN hm25 ⟨tm, e, rfl, hMt14.mono eJ3, ok, rfl⟩ fun v N21 H23 eN21 hm26 hR => ?_
      obtain ⟨td, L, rfl, htd, hIs⟩ := hR
      walk_at "go"
      refine w_spN hm26 ⟨md, e, rfl, hMe14.mono (eJ3.trans eN21), ok, rfl⟩ fun vT N22 H24 eN22 hm27 hT => ?_
      have eJ4 := eN21.trans eN22
      have hu22 : SqT K N22 u [.ref q, .int (e.sum r)] := Same.sqt eJ4 hu20
      have hq22 : TupN K N22 q r := Same.sqt eJ4 hq20
      have htd22 := Same.sqt eN22 htd
      clear hu20 eN21 eN22
      walk_at "go"
      refine w_ite (fun z => by cases z) fun _ => ?_
      walk_at "go"
      refine w_tup hm27 (by walk_at "sz") fun w1 N23 H25 eN23 hw1 hm28 => ?_
      walk_at "go"
      have hE : Eqv K N23 3 vT (.ref w1) := by
        rcases hT with ⟨hN, _⟩ | ⟨r', u', q', hF', rfl, hu', hq'⟩
        · exact (hN.no ok.ch hF).elim
        · have := hF'.one ok.ch hF
          subst this
          exact eqv_drifts (Same.sqt eN23 hu') (SqT.of hw1) (Same.sqt eN23 hq') (Same.sqt eN23 hq22) (rlen hSRr)
      refine w_spV hm28 ⟨vT, _, rfl, hE, rfl⟩ fun H26 hm29 => ?_
      walk_at "go"
      refine w_nt ?_
      walk_at "go"
      have eJ5 := eJ3.trans (eJ4.trans eN23)
      refine w_spM hm29 ⟨h, tm, md, td, _, o4, [], e, L, rfl, rfl, ho14.mono eJ5, hMt14.mono eJ5, fit, hMe14.mono eJ5, Same.sqt eN23 htd22, hIs, .inl ⟨by simp, r, hF⟩, rfl⟩ fun v N24 M' H27 eN24 hm30 hR => ?_
      obtain ⟨o24, rfl, rfl, ho24⟩ := hR
      walk_at "go"
      refine w_nt ?_
      exact ⟨_, _, eI14.trans (eJ5.trans eN24), ⟨o24, _, _, _, _, _, _, _, _, rfl, rfl, ho24⟩, hm30⟩
  · rintro _ N _ H2 eN ⟨o, s2, s3, s4, s5, s6, s7, s8, s9, rfl, rfl, ho⟩ hm2
    walk_at "go"
    exact k _
end

end Pa

set_option Elab.async false
set_option linter.all false
set_option maxRecDepth 100000
set_option maxHeartbeats 4000000
namespace Pa
open PySem PySem.Spec PyProof.Rows L2
theorem oex_shape {K : PySem.W.Frag} {C : Addr} (q : oexShape K C = true) : ∃ nm q N bs bm sn sub ab col dd k0 k1 k2 k3 k5, K.lookup C = some (excClassObj nm q C N bs bm true sn sub ab col dd k0 k1 k2 k3 k5 "ValueError.__new__") ∧ PySem.HandSPX.refsVE bm = true := by
  unfold oexShape at q
  split at q
  · rename_i dd cd sl ho
    split at q
    · rename_i C' bm k0 k1 k2 k3 n k5 hm hs
      simp only [Bool.and_eq_true, beq_iff_eq, Bool.not_eq_true'] at q
      obtain ⟨rfl, rfl, hdel, hdc, href⟩ := q
      obtain ⟨nm, bs, mro, ns, qn, hd, sn, sub, ab, col, del⟩ := cd
      dsimp only at hm hdel hdc
      subst hm hdel hdc
      have hsl : sl = #[k0, k1, k2, k3, some (.builtin "ValueError.__new__"), k5] := by
        obtain ⟨l⟩ := sl
        simp only at hs
        rw [hs]
      subst hsl
      exact ⟨nm, qn, ns, bs, bm, sn, sub, ab, col, dd, k0, k1, k2, k3, k5, ho, href⟩
    · cases q
  · cases q
theorem cls_facts {K : PySem.W.Frag} {D : Addr} (h : clsFacts K D = true) : IsC K D := by
  unfold clsFacts at h
  simp only [Bool.and_eq_true, decide_eq_true_iff] at h
  exact ⟨h.1, h.2.1, h.2.2.1, h.2.2.2⟩
abbrev ad (K : PySem.W.Frag) : Ad := ⟨He.ga K "Chart", He.ga K "Meter", He.ga K "Drift", He.ga K "Drifting", He.ga K "BadRing", He.ga K "MeterError"⟩
section
variable {P : Program} {w : World} {K : PySem.W.Frag} {h : Heap} {mg : Str → Option Value}
theorem txt (X : K.In h) (G : h.Ns mainGlobals mg) (c : He.SaysD fa fn K) (xb : xB K = true) : Txt K mg (ad K) ∧ DrgC K mg (ad K) (He.fAd K ("Drifting", some "__init__")) := by
  unfold xB at xb
  simp only [Bool.and_eq_true, decide_eq_true_iff] at xb
  obtain ⟨x1, x2, x3, x4, x5, x6, x7⟩ := xb
  unfold oexB at x7
  simp only [Bool.and_eq_true, decide_eq_true_iff] at x7
  obtain ⟨y1, y2, y3, y4, y5, y6⟩ := x7
  have xf := xfB_ok x6
  refine ⟨{
    b_isinstance := (He.free_ok X G (c.fact 57 (f := .free "isinstance") rfl))
    b_int := (He.free_ok X G (c.fact 58 (f := .free "int") rfl))
    b_bool := (He.free_ok X G (c.fact 59 (f := .free "bool") rfl))
    b_list := (He.free_ok X G (c.fact 60 (f := .free "list") rfl))
    b_tuple := (He.free_ok X G (c.fact 61 (f := .free "tuple") rfl))
    b_str := (He.free_ok X G (c.fact 62 (f := .free "str") rfl))
    b_len := (He.free_ok X G (c.fact 63 (f := .free "len") rfl))
    b_range := (He.free_ok X G (c.fact 64 (f := .free "range") rfl))
    b_enumerate := (He.free_ok X G (c.fact 65 (f := .free "enumerate") rfl))
    b_sorted := (He.free_ok X G (c.fact 66 (f := .free "sorted") rfl))
    b_reversed := (He.free_ok X G (c.fact 67 (f := .free "reversed") rfl))
    b_sum := (He.free_ok X G (c.fact 68 (f := .free "sum") rfl))
    b_all := (He.free_ok X G (c.fact 69 (f := .free "all") rfl))
    b_min := (He.free_ok X G (c.fact 70 (f := .free "min") rfl))
    b_max := (He.free_ok X G (c.fact 71 (f := .free "max") rfl))
    b_abs := (He.free_ok X G (c.fact 72 (f := .free "abs") rfl))
    most := He.int_ok X G (c.fact 73 (f := .int "MOST_CHARGE" 1000000000000) rfl)
    c_Drift := (He.glo_ok X G (c.fact 18 (f := .glo "Drift") rfl))
    c_Drifting := (He.glo_ok X G (c.fact 7 (f := .glo "Drifting") rfl))
    c_BadRing := (He.glo_ok X G (c.fact 4 (f := .glo "BadRing") rfl))
    c_MeterError := (He.glo_ok X G (c.fact 0 (f := .glo "MeterError") rfl))
    clCh := He.cls_ok (c.fact 74 (f := .cls "Chart") rfl)
    clMe := He.cls_ok (c.fact 78 (f := .cls "Meter") rfl)
    clDr := He.cls_ok (c.fact 83 (f := .cls "Drift") rfl)
    n_costs := He.noat_ok (c.fact 76 (f := .noat "Chart" "costs") rfl)
    n_arrows := He.noat_ok (c.fact 77 (f := .noat "Chart" "arrows") rfl)
    n_chart := He.noat_ok (c.fact 80 (f := .noat "Meter" "chart") rfl)
    n_first := He.noat_ok (c.fact 81 (f := .noat "Meter" "first") rfl)
    n_charges := He.noat_ok (c.fact 82 (f := .noat "Meter" "charges") rfl)
    n_ring := He.noat_ok (c.fact 85 (f := .noat "Drift" "ring") rfl)
    n_by := He.noat_ok (c.fact 86 (f := .noat "Drift" "by") rfl)
    isDr := cls_facts x1
    kitDr := x5 }, ?_⟩
  exact { oex := ⟨oex_shape y1, y2, xf.exC, y3, He.keep_ok (c.fact 89 (f := .keep "Drifting") rfl)⟩
          nr := He.noat_ok (c.fact 91 (f := .noat "Drifting" "ring") rfl)
          nb := He.noat_ok (c.fact 92 (f := .noat "Drifting" "by") rfl)
          ini := y4
          ity := y5
          xf := xf
          cls := y6
          is := cls_facts x2
          k1 := x3
          k2 := x4
          ex := He.exm_ok (c.fact 90 (f := .exm "Drifting" "MeterError" true) rfl) }
theorem nok_exact {base : Heap} {f : Addr} {fd : FuncData} {sp : Sp} (F : FnP K "_law_exact" "_law_exact" S_law_exact f fd) (no : ∀ vs H Q E, ¬ sp vs H Q E) : FnOk P w K mg base CX0 0 f fd P_law_exact sp :=
  ⟨fun vs H Q E z => (no vs H Q E z).elim, fun A st s H args us vs Q E _ _ _ _ z => (no vs H Q E z).elim⟩
theorem facts (X : K.In h) (G : h.Ns mainGlobals mg) (c : He.SaysD fa fn K) (xb : xB K = true) : ∃ fd : FuncData, (∀ (s : Shared) (v : Value), BindsTo s fd ⟨[v], []⟩ [("_law_script", v)]) ∧ ∀ base : Heap, FnOk P w K mg base CX0 9 (He.ga K "law") fd ["_law_script"] (spLaw K) := by
  obtain ⟨T, DG⟩ := txt X G c xb
  obtain ⟨d_law, F_law⟩ := c.def_ 51 (d := D_law) rfl
  have F_law : FnP K "law" "law" S_law (He.fAd K ("law", none)) d_law := F_law
  refine ⟨d_law, fun s v => FunD.bindsA (ps := ["_law_script"]) F_law (fun _ _ _ _ _ _ us hl => match us, hl with | [_], _ => rfl) s [v] rfl, fun base => ?_⟩
  obtain ⟨d_is_whole, F_is_whole⟩ := c.def_ 1 (d := D_is_whole) rfl
  have F_is_whole : FnP K "is_whole" "is_whole" S_is_whole (He.fAd K ("is_whole", none)) d_is_whole := F_is_whole
  have B_is_whole : Binds K d_is_whole P_is_whole [] := FunD.bindsN F_is_whole fun _ _ _ _ _ _ us hl => match us, hl with | [_, _, _], _ => rfl
  have G_is_whole : FnAt P w K mg base "is_whole" 1 P_is_whole spWhole := ⟨_, _, (He.glo_ok X G (c.fact 8 (f := .glo "is_whole") rfl)), F_is_whole.kp, B_is_whole, (ok_is_whole F_is_whole T)⟩
  obtain ⟨d_is_row, F_is_row⟩ := c.def_ 2 (d := D_is_row) rfl
  have F_is_row : FnP K "is_row" "is_row" S_is_row (He.fAd K ("is_row", none)) d_is_row := F_is_row
  have B_is_row : Binds K d_is_row P_is_row [] := FunD.bindsN F_is_row fun _ _ _ _ _ _ us hl => match us, hl with | [_, _, _], _ => rfl
  have G_is_row : FnAt P w K mg base "is_row" 1 P_is_row (spRow K) := ⟨_, _, (He.glo_ok X G (c.fact 9 (f := .glo "is_row") rfl)), F_is_row.kp, B_is_row, (ok_is_row F_is_row T)⟩
  obtain ⟨d_check_place, F_check_place⟩ := c.def_ 3 (d := D_check_place) rfl
  have F_check_place : FnP K "check_place" "check_place" S_check_place (He.fAd K ("check_place", none)) d_check_place := F_check_place
  have B_check_place : Binds K d_check_place P_check_place [] := FunD.bindsN F_check_place fun _ _ _ _ _ _ us hl => match us, hl with | [_, _], _ => rfl
  have G_check_place : FnAt P w K mg base "check_place" 2 P_check_place (spChkPlace K (ad K)) := ⟨_, _, (He.glo_ok X G (c.fact 10 (f := .glo "check_place") rfl)), F_check_place.kp, B_check_place, (ok_check_place F_check_place T G_is_whole)⟩
  obtain ⟨d_check_arrow, F_check_arrow⟩ := c.def_ 4 (d := D_check_arrow) rfl
  have F_check_arrow : FnP K "check_arrow" "check_arrow" S_check_arrow (He.fAd K ("check_arrow", none)) d_check_arrow := F_check_arrow
  have B_check_arrow : Binds K d_check_arrow P_check_arrow [] := FunD.bindsN F_check_arrow fun _ _ _ _ _ _ us hl => match us, hl with | [_, _], _ => rfl
  have G_check_arrow : FnAt P w K mg base "check_arrow" 2 P_check_arrow (spChkArrow K (ad K)) := ⟨_, _, (He.glo_ok X G (c.fact 11 (f := .glo "check_arrow") rfl)), F_check_arrow.kp, B_check_arrow, (ok_check_arrow F_check_arrow T G_is_whole)⟩
  obtain ⟨d_arrow_gain, F_arrow_gain⟩ := c.def_ 14 (d := D_arrow_gain) rfl
  have F_arrow_gain : FnP K "arrow_gain" "arrow_gain" S_arrow_gain (He.fAd K ("arrow_gain", none)) d_arrow_gain := F_arrow_gain
  have B_arrow_gain : Binds K d_arrow_gain P_arrow_gain [] := FunD.bindsN F_arrow_gain fun _ _ _ _ _ _ us hl => match us, hl with | [_, _], _ => rfl
  have G_arrow_gain : FnAt P w K mg base "arrow_gain" 1 P_arrow_gain (spGain K (ad K)) := ⟨_, _, (He.glo_ok X G (c.fact 19 (f := .glo "arrow_gain") rfl)), F_arrow_gain.kp, B_arrow_gain, (ok_arrow_gain F_arrow_gain T)⟩
  obtain ⟨d_Chart_outs, F_Chart_outs⟩ := c.def_ 7 (d := D_Chart_outs) rfl
  have F_Chart_outs : FnP K "outs" "Chart.outs" S_Chart_outs (He.fAd K ("Chart", some "outs")) d_Chart_outs := F_Chart_outs
  have B_Chart_outs : Binds K d_Chart_outs P_Chart_outs [] := FunD.bindsN F_Chart_outs fun _ _ _ _ _ _ us hl => match us, hl with | [_, _], _ => rfl
  have G_outs : MtAt P w K mg base (ad K).ch "outs" 3 P_Chart_outs (spOuts K (ad K)) := ⟨_, _, T.clCh, He.meth_ok (c.fact 87 (f := .meth "Chart" "outs") rfl), B_Chart_outs, (ok_Chart_outs F_Chart_outs T G_check_place)⟩
  obtain ⟨d_behind_places, F_behind_places⟩ := c.def_ 8 (d := D_behind_places) rfl
  have F_behind_places : FnP K "behind_places" "behind_places" S_behind_places (He.fAd K ("behind_places", none)) d_behind_places := F_behind_places
  have B_behind_places : Binds K d_behind_places P_behind_places [] := FunD.bindsN F_behind_places fun _ _ _ _ _ _ us hl => match us, hl with | [_, _], _ => rfl
  have G_behind_places : FnAt P w K mg base "behind_places" 4 P_behind_places (spBehind K (ad K)) := ⟨_, _, (He.glo_ok X G (c.fact 14 (f := .glo "behind_places") rfl)), F_behind_places.kp, B_behind_places, (ok_behind_places F_behind_places T G_outs)⟩
  obtain ⟨d_part_of, F_part_of⟩ := c.def_ 9 (d := D_part_of) rfl
  have F_part_of : FnP K "part_of" "part_of" S_part_of (He.fAd K ("part_of", none)) d_part_of := F_part_of
  have B_part_of : Binds K d_part_of P_part_of [] := FunD.bindsN F_part_of fun _ _ _ _ _ _ us hl => match us, hl with | [_, _], _ => rfl
  have G_part_of : FnAt P w K mg base "part_of" 5 P_part_of (spPart K (ad K)) := ⟨_, _, (He.glo_ok X G (c.fact 15 (f := .glo "part_of") rfl)), F_part_of.kp, B_part_of, (ok_part_of F_part_of T G_check_place G_behind_places)⟩
  obtain ⟨d_within_part, F_within_part⟩ := c.def_ 11 (d := D_within_part) rfl
  have F_within_part : FnP K "within_part" "within_part" S_within_part (He.fAd K ("within_part", none)) d_within_part := F_within_part
  have B_within_part : Binds K d_within_part P_within_part [] := FunD.bindsN F_within_part fun _ _ _ _ _ _ us hl => match us, hl with | [_, _], _ => rfl
  have G_within_part : FnAt P w K mg base "within_part" 5 P_within_part (spWithin K (ad K)) := ⟨_, _, (He.glo_ok X G (c.fact 17 (f := .glo "within_part") rfl)), F_within_part.kp, B_within_part, (ok_within_part F_within_part T G_check_arrow G_behind_places)⟩
  obtain ⟨d_parts_of, F_parts_of⟩ := c.def_ 10 (d := D_parts_of) rfl
  have F_parts_of : FnP K "parts_of" "parts_of" S_parts_of (He.fAd K ("parts_of", none)) d_parts_of := F_parts_of
  have B_parts_of : Binds K d_parts_of P_parts_of [] := FunD.bindsN F_parts_of fun _ _ _ _ _ _ us hl => match us, hl with | [_], _ => rfl
  have G_parts_of : FnAt P w K mg base "parts_of" 6 P_parts_of (spParts K (ad K)) := ⟨_, _, (He.glo_ok X G (c.fact 16 (f := .glo "parts_of") rfl)), F_parts_of.kp, B_parts_of, (ok_parts_of F_parts_of T G_part_of)⟩
  obtain ⟨d_rest_rows, F_rest_rows⟩ := c.def_ 15 (d := D_rest_rows) rfl
  have F_rest_rows : FnP K "rest_rows" "rest_rows" S_rest_rows (He.fAd K ("rest_rows", none)) d_rest_rows := F_rest_rows
  have B_rest_rows : Binds K d_rest_rows P_rest_rows [] := FunD.bindsN F_rest_rows fun _ _ _ _ _ _ us hl => match us, hl with | [_, _, _, _, _], _ => rfl
  have G_rest_rows : FnAt P w K mg base "rest_rows" 2 P_rest_rows (spRest K (ad K)) := ⟨_, _, (He.glo_ok X G (c.fact 20 (f := .glo "rest_rows") rfl)), F_rest_rows.kp, B_rest_rows, (ok_rest_rows F_rest_rows T G_arrow_gain)⟩
  obtain ⟨d_can_drift, F_can_drift⟩ := c.def_ 16 (d := D_can_drift) rfl
  have F_can_drift : FnP K "can_drift" "can_drift" S_can_drift (He.fAd K ("can_drift", none)) d_can_drift := F_can_drift
  have B_can_drift : Binds K d_can_drift P_can_drift [] := FunD.bindsN F_can_drift fun _ _ _ _ _ _ us hl => match us, hl with | [_, _, _, _], _ => rfl
  have G_can_drift : FnAt P w K mg base "can_drift" 1 P_can_drift (spCan K (ad K)) := ⟨_, _, (He.glo_ok X G (c.fact 21 (f := .glo "can_drift") rfl)), F_can_drift.kp, B_can_drift, (ok_can_drift F_can_drift T)⟩
  obtain ⟨d_least_ring, F_least_ring⟩ := c.def_ 17 (d := D_least_ring) rfl
  have F_least_ring : FnP K "least_ring" "least_ring" S_least_ring (He.fAd K ("least_ring", none)) d_least_ring := F_least_ring
  have B_least_ring : Binds K d_least_ring P_least_ring [] := FunD.bindsN F_least_ring fun _ _ _ _ _ _ us hl => match us, hl with | [_, _, _, _], _ => rfl
  have G_least_ring : FnAt P w K mg base "least_ring" 4 P_least_ring (spLeast K (ad K)) := ⟨_, _, (He.glo_ok X G (c.fact 22 (f := .glo "least_ring") rfl)), F_least_ring.kp, B_least_ring, (ok_least_ring F_least_ring T G_arrow_gain G_outs G_can_drift)⟩
  obtain ⟨d_Drift_init, F_Drift_init⟩ := c.def_ 12 (d := D_Drift_init) rfl
  have F_Drift_init : FnP K "__init__" "Drift.__init__" S_Drift_init (He.fAd K ("Drift", some "__init__")) d_Drift_init := F_Drift_init
  have B_Drift_init : Binds K d_Drift_init P_Drift_init [] := FunD.bindsN F_Drift_init fun _ _ _ _ _ _ us hl => match us, hl with | [_, _, _], _ => rfl
  have G_Drift : MkAt P w K mg base "Drift" (ad K).dr 1 P_Drift_init (spDriftInit K (ad K)) := ⟨_, _, He.mkr_ok (c.fact 84 (f := .mkr "Drift") rfl), (He.glo_ok X G (c.fact 18 (f := .glo "Drift") rfl)), B_Drift_init, (ok_Drift_init F_Drift_init T)⟩
  obtain ⟨d_Drift_eq, F_Drift_eq⟩ := c.def_ 13 (d := D_Drift_eq) rfl
  have F_Drift_eq : FnP K "__eq__" "Drift.__eq__" S_Drift_eq (He.fAd K ("Drift", some "__eq__")) d_Drift_eq := F_Drift_eq
  have B_Drift_eq : Binds K d_Drift_eq P_Drift_eq [] := FunD.bindsN F_Drift_eq fun _ _ _ _ _ _ us hl => match us, hl with | [_, _], _ => rfl
  have G_Drift_eq : MtAt P w K mg base (ad K).dr "__eq__" 1 P_Drift_eq (spDriftEq K (ad K)) := ⟨_, _, T.clDr, He.meth_ok (c.fact 88 (f := .meth "Drift" "__eq__") rfl), B_Drift_eq, (ok_Drift_eq F_Drift_eq T)⟩
  obtain ⟨d_first_drift, F_first_drift⟩ := c.def_ 18 (d := D_first_drift) rfl
  have F_first_drift : FnP K "first_drift" "first_drift" S_first_drift (He.fAd K ("first_drift", none)) d_first_drift := F_first_drift
  have B_first_drift : Binds K d_first_drift P_first_drift [] := FunD.bindsN F_first_drift fun _ _ _ _ _ _ us hl => match us, hl with | [_, _], _ => rfl
  have G_first_drift : FnAt P w K mg base "first_drift" 5 P_first_drift (spFirst K (ad K)) := ⟨_, _, (He.glo_ok X G (c.fact 23 (f := .glo "first_drift") rfl)), F_first_drift.kp, B_first_drift, (ok_first_drift F_first_drift T G_arrow_gain G_rest_rows G_least_ring G_Drift)⟩
  obtain ⟨d_find_drift, F_find_drift⟩ := c.def_ 19 (d := D_find_drift) rfl
  have F_find_drift : FnP K "find_drift" "find_drift" S_find_drift (He.fAd K ("find_drift", none)) d_find_drift := F_find_drift
  have B_find_drift : Binds K d_find_drift P_find_drift [] := FunD.bindsN F_find_drift fun _ _ _ _ _ _ us hl => match us, hl with | [_], _ => rfl
  have G_find_drift : FnAt P w K mg base "find_drift" 6 P_find_drift (spFind [1,-1] K (ad K)) := ⟨_, _, (He.glo_ok X G (c.fact 24 (f := .glo "find_drift") rfl)), F_find_drift.kp, B_find_drift, (ok_find_drift F_find_drift T G_first_drift)⟩
  obtain ⟨d_find_fall, F_find_fall⟩ := c.def_ 20 (d := D_find_fall) rfl
  have F_find_fall : FnP K "find_fall" "find_fall" S_find_fall (He.fAd K ("find_fall", none)) d_find_fall := F_find_fall
  have B_find_fall : Binds K d_find_fall P_find_fall [] := FunD.bindsN F_find_fall fun _ _ _ _ _ _ us hl => match us, hl with | [_], _ => rfl
  have G_find_fall : FnAt P w K mg base "find_fall" 6 P_find_fall (spFind [-1] K (ad K)) := ⟨_, _, (He.glo_ok X G (c.fact 25 (f := .glo "find_fall") rfl)), F_find_fall.kp, B_find_fall, (ok_find_fall F_find_fall T G_first_drift)⟩
  obtain ⟨d_find_rise, F_find_rise⟩ := c.def_ 21 (d := D_find_rise) rfl
  have F_find_rise : FnP K "find_rise" "find_rise" S_find_rise (He.fAd K ("find_rise", none)) d_find_rise := F_find_rise
  have B_find_rise : Binds K d_find_rise P_find_rise [] := FunD.bindsN F_find_rise fun _ _ _ _ _ _ us hl => match us, hl with | [_], _ => rfl
  have G_find_rise : FnAt P w K mg base "find_rise" 6 P_find_rise (spFind [1] K (ad K)) := ⟨_, _, (He.glo_ok X G (c.fact 26 (f := .glo "find_rise") rfl)), F_find_rise.kp, B_find_rise, (ok_find_rise F_find_rise T G_first_drift)⟩
  obtain ⟨d_spread_levels, F_spread_levels⟩ := c.def_ 23 (d := D_spread_levels) rfl
  have F_spread_levels : FnP K "spread_levels" "spread_levels" S_spread_levels (He.fAd K ("spread_levels", none)) d_spread_levels := F_spread_levels
  have B_spread_levels : Binds K d_spread_levels P_spread_levels [] := FunD.bindsN F_spread_levels fun _ _ _ _ _ _ us hl => match us, hl with | [_, _, _, _], _ => rfl
  have G_spread_levels : FnAt P w K mg base "spread_levels" 4 P_spread_levels (spSpread K (ad K)) := ⟨_, _, (He.glo_ok X G (c.fact 28 (f := .glo "spread_levels") rfl)), F_spread_levels.kp, B_spread_levels, (ok_spread_levels F_spread_levels T G_arrow_gain G_outs)⟩
  obtain ⟨d_Drifting_init, F_Drifting_init⟩ := c.def_ 0 (d := D_Drifting_init) rfl
  have F_Drifting_init : FnP K "__init__" "Drifting.__init__" S_Drifting_init (He.fAd K ("Drifting", some "__init__")) d_Drifting_init := F_Drifting_init
  have B_Drifting_init : Binds K d_Drifting_init P_Drifting_init [] := FunD.bindsN F_Drifting_init fun _ _ _ _ _ _ us hl => match us, hl with | [_, _, _], _ => rfl
  have G_Di : ∃ fd, Binds K fd P_Drifting_init [] ∧ FnOk P w K mg base CX0 1 (He.fAd K ("Drifting", some "__init__")) fd P_Drifting_init (spDrgInit K (ad K)) := ⟨_, B_Drifting_init, (ok_Drifting_init F_Drifting_init T DG)⟩
  obtain ⟨d_part_levels, F_part_levels⟩ := c.def_ 22 (d := D_part_levels) rfl
  have F_part_levels : FnP K "part_levels" "part_levels" S_part_levels (He.fAd K ("part_levels", none)) d_part_levels := F_part_levels
  have B_part_levels : Binds K d_part_levels P_part_levels [] := FunD.bindsN F_part_levels fun _ _ _ _ _ _ us hl => match us, hl with | [_], _ => rfl
  have G_part : ∃ f fd, mg "part_levels" = some (.ref f) ∧ PySem.W.keepIn K (.ref f) = true ∧ Binds K fd P_part_levels [] ∧ FnOk P w K mg base (L2.CX P w) 7 f fd P_part_levels (spLevels K (ad K)) := ⟨_, _, (He.glo_ok X G (c.fact 27 (f := .glo "part_levels") rfl)), F_part_levels.kp, B_part_levels, (ok_part_levels F_part_levels T DG G_Di G_find_drift G_parts_of G_spread_levels)⟩
  obtain ⟨d_reached_places, F_reached_places⟩ := c.def_ 5 (d := D_reached_places) rfl
  have F_reached_places : FnP K "reached_places" "reached_places" S_reached_places (He.fAd K ("reached_places", none)) d_reached_places := F_reached_places
  have B_reached_places : Binds K d_reached_places P_reached_places [] := FunD.bindsN F_reached_places fun _ _ _ _ _ _ us hl => match us, hl with | [_, _], _ => rfl
  have G_reached_places : FnAt P w K mg base "reached_places" 2 P_reached_places (spReached K (ad K)) := ⟨_, _, (He.glo_ok X G (c.fact 12 (f := .glo "reached_places") rfl)), F_reached_places.kp, B_reached_places, (ok_reached_places F_reached_places T)⟩
  obtain ⟨d_Chart_init, F_Chart_init⟩ := c.def_ 6 (d := D_Chart_init) rfl
  have F_Chart_init : FnP K "__init__" "Chart.__init__" S_Chart_init (He.fAd K ("Chart", some "__init__")) d_Chart_init := F_Chart_init
  have B_Chart_init : Binds K d_Chart_init P_Chart_init [] := FunD.bindsN F_Chart_init fun _ _ _ _ _ _ us hl => match us, hl with | [_, _, _], _ => rfl
  have G_Chart : MkAt P w K mg base "Chart" (ad K).ch 3 P_Chart_init (spChartInit K (ad K)) := ⟨_, _, He.mkr_ok (c.fact 75 (f := .mkr "Chart") rfl), (He.glo_ok X G (c.fact 13 (f := .glo "Chart") rfl)), B_Chart_init, (ok_Chart_init F_Chart_init T G_is_whole G_is_row G_reached_places)⟩
  obtain ⟨d_Meter_init, F_Meter_init⟩ := c.def_ 26 (d := D_Meter_init) rfl
  have F_Meter_init : FnP K "__init__" "Meter.__init__" S_Meter_init (He.fAd K ("Meter", some "__init__")) d_Meter_init := F_Meter_init
  have B_Meter_init : Binds K d_Meter_init P_Meter_init [] := FunD.bindsN F_Meter_init fun _ _ _ _ _ _ us hl => match us, hl with | [_, _, _, _], _ => rfl
  have G_Meter : MkAt P w K mg base "Meter" (ad K).me 2 P_Meter_init (spMeterInit K (ad K)) := ⟨_, _, He.mkr_ok (c.fact 79 (f := .mkr "Meter") rfl), (He.glo_ok X G (c.fact 31 (f := .glo "Meter") rfl)), B_Meter_init, (ok_Meter_init F_Meter_init T G_is_whole G_is_row)⟩
  obtain ⟨d_is_number_row, F_is_number_row⟩ := c.def_ 24 (d := D_is_number_row) rfl
  have F_is_number_row : FnP K "is_number_row" "is_number_row" S_is_number_row (He.fAd K ("is_number_row", none)) d_is_number_row := F_is_number_row
  have B_is_number_row : Binds K d_is_number_row P_is_number_row [] := FunD.bindsN F_is_number_row fun _ _ _ _ _ _ us hl => match us, hl with | [_, _], _ => rfl
  have G_is_number_row : FnAt P w K mg base "is_number_row" 2 P_is_number_row (spNumRow K (ad K)) := ⟨_, _, (He.glo_ok X G (c.fact 29 (f := .glo "is_number_row") rfl)), F_is_number_row.kp, B_is_number_row, (ok_is_number_row F_is_number_row T G_is_row)⟩
  obtain ⟨d_levels_fault, F_levels_fault⟩ := c.def_ 25 (d := D_levels_fault) rfl
  have F_levels_fault : FnP K "levels_fault" "levels_fault" S_levels_fault (He.fAd K ("levels_fault", none)) d_levels_fault := F_levels_fault
  have B_levels_fault : Binds K d_levels_fault P_levels_fault [] := FunD.bindsN F_levels_fault fun _ _ _ _ _ _ us hl => match us, hl with | [_, _], _ => rfl
  have G_levels_fault : FnAt P w K mg base "levels_fault" 6 P_levels_fault (spFault K (ad K)) := ⟨_, _, (He.glo_ok X G (c.fact 30 (f := .glo "levels_fault") rfl)), F_levels_fault.kp, B_levels_fault, (ok_levels_fault F_levels_fault T G_is_number_row G_within_part G_arrow_gain)⟩
  obtain ⟨d_law_mix, F_law_mix⟩ := c.def_ 27 (d := D_law_mix) rfl
  have F_law_mix : FnP K "_law_mix" "_law_mix" S_law_mix (He.fAd K ("_law_mix", none)) d_law_mix := F_law_mix
  have B_law_mix : Binds K d_law_mix P_law_mix [] := FunD.bindsN F_law_mix fun _ _ _ _ _ _ us hl => match us, hl with | [_, _], _ => rfl
  have G_law_mix : FnAt P w K mg base "_law_mix" 1 P_law_mix spMix := ⟨_, _, (He.glo_ok X G (c.fact 32 (f := .glo "_law_mix") rfl)), F_law_mix.kp, B_law_mix, (ok_law_mix F_law_mix T)⟩
  obtain ⟨d_law_draw, F_law_draw⟩ := c.def_ 29 (d := D_law_draw) rfl
  have F_law_draw : FnP K "_law_draw" "_law_draw" S_law_draw (He.fAd K ("_law_draw", none)) d_law_draw := F_law_draw
  have B_law_draw : Binds K d_law_draw P_law_draw [] := FunD.bindsN F_law_draw fun _ _ _ _ _ _ us hl => match us, hl with | [_, _], _ => rfl
  have G_law_draw : FnAt P w K mg base "_law_draw" 2 P_law_draw (spDraw K) := ⟨_, _, (He.glo_ok X G (c.fact 34 (f := .glo "_law_draw") rfl)), F_law_draw.kp, B_law_draw, (ok_law_draw F_law_draw T G_law_mix)⟩
  obtain ⟨d_law_hand, F_law_hand⟩ := c.def_ 28 (d := D_law_hand) rfl
  have F_law_hand : FnP K "_law_hand" "_law_hand" S_law_hand (He.fAd K ("_law_hand", none)) d_law_hand := F_law_hand
  have B_law_hand : Binds K d_law_hand P_law_hand [] := FunD.bindsN F_law_hand fun _ _ _ _ _ _ us hl => match us, hl with | [_], _ => rfl
  have G_law_hand : FnAt P w K mg base "_law_hand" 1 P_law_hand (spHand K) := ⟨_, _, (He.glo_ok X G (c.fact 33 (f := .glo "_law_hand") rfl)), F_law_hand.kp, B_law_hand, (ok_law_hand F_law_hand T)⟩
  obtain ⟨d_law_take, F_law_take⟩ := c.def_ 31 (d := D_law_take) rfl
  have F_law_take : FnP K "_law_take" "_law_take" S_law_take (He.fAd K ("_law_take", none)) d_law_take := F_law_take
  have B_law_take : Binds K d_law_take P_law_take [] := FunD.bindsN F_law_take fun _ _ _ _ _ _ us hl => match us, hl with | [_, _], _ => rfl
  have G_law_take : FnAt P w K mg base "_law_take" 3 P_law_take (spTake K) := ⟨_, _, (He.glo_ok X G (c.fact 36 (f := .glo "_law_take") rfl)), F_law_take.kp, B_law_take, (ok_law_take F_law_take T G_law_draw)⟩
  obtain ⟨d_law_cost, F_law_cost⟩ := c.def_ 32 (d := D_law_cost) rfl
  have F_law_cost : FnP K "_law_cost" "_law_cost" S_law_cost (He.fAd K ("_law_cost", none)) d_law_cost := F_law_cost
  have B_law_cost : Binds K d_law_cost P_law_cost [] := FunD.bindsN F_law_cost fun _ _ _ _ _ _ us hl => match us, hl with | [_, _], _ => rfl
  have G_law_cost : FnAt P w K mg base "_law_cost" 3 P_law_cost (spCost K) := ⟨_, _, (He.glo_ok X G (c.fact 37 (f := .glo "_law_cost") rfl)), F_law_cost.kp, B_law_cost, (ok_law_cost F_law_cost T G_law_draw)⟩
  obtain ⟨d_law_order, F_law_order⟩ := c.def_ 33 (d := D_law_order) rfl
  have F_law_order : FnP K "_law_order" "_law_order" S_law_order (He.fAd K ("_law_order", none)) d_law_order := F_law_order
  have B_law_order : Binds K d_law_order P_law_order [] := FunD.bindsN F_law_order fun _ _ _ _ _ _ us hl => match us, hl with | [_, _], _ => rfl
  have G_law_order : FnAt P w K mg base "_law_order" 3 P_law_order (spOrder K) := ⟨_, _, (He.glo_ok X G (c.fact 38 (f := .glo "_law_order") rfl)), F_law_order.kp, B_law_order, (ok_law_order F_law_order T G_law_draw)⟩
  obtain ⟨d_law_exact, F_law_exact⟩ := c.def_ 30 (d := D_law_exact) rfl
  have F_law_exact : FnP K "_law_exact" "_law_exact" S_law_exact (He.fAd K ("_law_exact", none)) d_law_exact := F_law_exact
  have B_law_exact : Binds K d_law_exact P_law_exact [] := FunD.bindsN F_law_exact fun _ _ _ _ _ _ us hl => match us, hl with | [_, _], _ => rfl
  have E_law_exact : ∀ n, FnOk P w K mg base CX0 n (He.fAd K ("_law_exact", none)) d_law_exact P_law_exact (spExact n K) := by
    intro n
    induction n with
    | zero =>
      have no : ∀ (vs : List V) (H : Hp) (Q : VK) (E : XK), ¬ spExact 0 K vs H Q E := fun vs H Q E z => by
        obtain ⟨I, M, v, ⟨x, y, _, hE, _⟩, _⟩ := z
        cases hE
      exact nok_exact F_law_exact no
    | succ n ih => exact ok_law_exact F_law_exact T ⟨_, _, (He.glo_ok X G (c.fact 35 (f := .glo "_law_exact") rfl)), F_law_exact.kp, B_law_exact, ih⟩
  have G_law_exact : FnAt P w K mg base "_law_exact" 3 P_law_exact (spExact 3 K) := ⟨_, _, (He.glo_ok X G (c.fact 35 (f := .glo "_law_exact") rfl)), F_law_exact.kp, B_law_exact, E_law_exact 3⟩
  obtain ⟨d_law_chart, F_law_chart⟩ := c.def_ 34 (d := D_law_chart) rfl
  have F_law_chart : FnP K "_law_chart" "_law_chart" S_law_chart (He.fAd K ("_law_chart", none)) d_law_chart := F_law_chart
  have B_law_chart : Binds K d_law_chart P_law_chart [] := FunD.bindsN F_law_chart fun _ _ _ _ _ _ us hl => match us, hl with | [_], _ => rfl
  have G_law_chart : FnAt P w K mg base "_law_chart" 4 P_law_chart (spChart K) := ⟨_, _, (He.glo_ok X G (c.fact 39 (f := .glo "_law_chart") rfl)), F_law_chart.kp, B_law_chart, (ok_law_chart F_law_chart T G_law_draw G_law_order G_law_cost)⟩
  obtain ⟨d_law_behind, F_law_behind⟩ := c.def_ 35 (d := D_law_behind) rfl
  have F_law_behind : FnP K "_law_behind" "_law_behind" S_law_behind (He.fAd K ("_law_behind", none)) d_law_behind := F_law_behind
  have B_law_behind : Binds K d_law_behind P_law_behind [] := FunD.bindsN F_law_behind fun _ _ _ _ _ _ us hl => match us, hl with | [_, _], _ => rfl
  have G_law_behind : FnAt P w K mg base "_law_behind" 1 P_law_behind (spBehindL K) := ⟨_, _, (He.glo_ok X G (c.fact 40 (f := .glo "_law_behind") rfl)), F_law_behind.kp, B_law_behind, (ok_law_behind F_law_behind T)⟩
  obtain ⟨d_law_inner, F_law_inner⟩ := c.def_ 36 (d := D_law_inner) rfl
  have F_law_inner : FnP K "_law_inner" "_law_inner" S_law_inner (He.fAd K ("_law_inner", none)) d_law_inner := F_law_inner
  have B_law_inner : Binds K d_law_inner P_law_inner [] := FunD.bindsN F_law_inner fun _ _ _ _ _ _ us hl => match us, hl with | [_], _ => rfl
  have G_law_inner : FnAt P w K mg base "_law_inner" 2 P_law_inner (spInner K) := ⟨_, _, (He.glo_ok X G (c.fact 41 (f := .glo "_law_inner") rfl)), F_law_inner.kp, B_law_inner, (ok_law_inner F_law_inner T G_law_behind)⟩
  obtain ⟨d_law_even_row, F_law_even_row⟩ := c.def_ 37 (d := D_law_even_row) rfl
  have F_law_even_row : FnP K "_law_even_row" "_law_even_row" S_law_even_row (He.fAd K ("_law_even_row", none)) d_law_even_row := F_law_even_row
  have B_law_even_row : Binds K d_law_even_row P_law_even_row [] := FunD.bindsN F_law_even_row fun _ _ _ _ _ _ us hl => match us, hl with | [_, _], _ => rfl
  have G_law_even_row : FnAt P w K mg base "_law_even_row" 3 P_law_even_row (spEven K) := ⟨_, _, (He.glo_ok X G (c.fact 42 (f := .glo "_law_even_row") rfl)), F_law_even_row.kp, B_law_even_row, (ok_law_even_row F_law_even_row T G_law_draw)⟩
  obtain ⟨d_law_meter, F_law_meter⟩ := c.def_ 38 (d := D_law_meter) rfl
  have F_law_meter : FnP K "_law_meter" "_law_meter" S_law_meter (He.fAd K ("_law_meter", none)) d_law_meter := F_law_meter
  have B_law_meter : Binds K d_law_meter P_law_meter [] := FunD.bindsN F_law_meter fun _ _ _ _ _ _ us hl => match us, hl with | [_, _], _ => rfl
  have G_law_meter : FnAt P w K mg base "_law_meter" 4 P_law_meter (spMeter K) := ⟨_, _, (He.glo_ok X G (c.fact 43 (f := .glo "_law_meter") rfl)), F_law_meter.kp, B_law_meter, (ok_law_meter F_law_meter T G_law_draw G_law_even_row G_law_inner)⟩
  obtain ⟨d_law_made, F_law_made⟩ := c.def_ 39 (d := D_law_made) rfl
  have F_law_made : FnP K "_law_made" "_law_made" S_law_made (He.fAd K ("_law_made", none)) d_law_made := F_law_made
  have B_law_made : Binds K d_law_made P_law_made [] := FunD.bindsN F_law_made fun _ _ _ _ _ _ us hl => match us, hl with | [_, _], _ => rfl
  have G_law_made : FnAt P w K mg base "_law_made" 5 P_law_made (spMade K (ad K)) := ⟨_, _, (He.glo_ok X G (c.fact 44 (f := .glo "_law_made") rfl)), F_law_made.kp, B_law_made, (ok_law_made F_law_made T G_law_take G_Chart G_Meter)⟩
  obtain ⟨d_law_gain, F_law_gain⟩ := c.def_ 40 (d := D_law_gain) rfl
  have F_law_gain : FnP K "_law_gain" "_law_gain" S_law_gain (He.fAd K ("_law_gain", none)) d_law_gain := F_law_gain
  have B_law_gain : Binds K d_law_gain P_law_gain [] := FunD.bindsN F_law_gain fun _ _ _ _ _ _ us hl => match us, hl with | [_, _], _ => rfl
  have G_law_gain : FnAt P w K mg base "_law_gain" 1 P_law_gain (spGainL K) := ⟨_, _, (He.glo_ok X G (c.fact 45 (f := .glo "_law_gain") rfl)), F_law_gain.kp, B_law_gain, (ok_law_gain F_law_gain T)⟩
  obtain ⟨d_law_sum, F_law_sum⟩ := c.def_ 41 (d := D_law_sum) rfl
  have F_law_sum : FnP K "_law_sum" "_law_sum" S_law_sum (He.fAd K ("_law_sum", none)) d_law_sum := F_law_sum
  have B_law_sum : Binds K d_law_sum P_law_sum [] := FunD.bindsN F_law_sum fun _ _ _ _ _ _ us hl => match us, hl with | [_, _], _ => rfl
  have G_law_sum : FnAt P w K mg base "_law_sum" 2 P_law_sum (spSumL K) := ⟨_, _, (He.glo_ok X G (c.fact 46 (f := .glo "_law_sum") rfl)), F_law_sum.kp, B_law_sum, (ok_law_sum F_law_sum T G_law_gain)⟩
  obtain ⟨d_law_walks, F_law_walks⟩ := c.def_ 42 (d := D_law_walks) rfl
  have F_law_walks : FnP K "_law_walks" "_law_walks" S_law_walks (He.fAd K ("_law_walks", none)) d_law_walks := F_law_walks
  have B_law_walks : Binds K d_law_walks P_law_walks [] := FunD.bindsN F_law_walks fun _ _ _ _ _ _ us hl => match us, hl with | [_, _, _], _ => rfl
  have G_law_walks : FnAt P w K mg base "_law_walks" 1 P_law_walks (spWalks K) := ⟨_, _, (He.glo_ok X G (c.fact 47 (f := .glo "_law_walks") rfl)), F_law_walks.kp, B_law_walks, (ok_law_walks F_law_walks T)⟩
  obtain ⟨d_law_rings, F_law_rings⟩ := c.def_ 43 (d := D_law_rings) rfl
  have F_law_rings : FnP K "_law_rings" "_law_rings" S_law_rings (He.fAd K ("_law_rings", none)) d_law_rings := F_law_rings
  have B_law_rings : Binds K d_law_rings P_law_rings [] := FunD.bindsN F_law_rings fun _ _ _ _ _ _ us hl => match us, hl with | [_], _ => rfl
  have G_law_rings : FnAt P w K mg base "_law_rings" 2 P_law_rings (spRings K) := ⟨_, _, (He.glo_ok X G (c.fact 48 (f := .glo "_law_rings") rfl)), F_law_rings.kp, B_law_rings, (ok_law_rings F_law_rings T G_law_walks)⟩
  obtain ⟨d_law_first_ring, F_law_first_ring⟩ := c.def_ 44 (d := D_law_first_ring) rfl
  have F_law_first_ring : FnP K "_law_first_ring" "_law_first_ring" S_law_first_ring (He.fAd K ("_law_first_ring", none)) d_law_first_ring := F_law_first_ring
  have B_law_first_ring : Binds K d_law_first_ring P_law_first_ring [] := FunD.bindsN F_law_first_ring fun _ _ _ _ _ _ us hl => match us, hl with | [_, _, _], _ => rfl
  have G_law_first_ring : FnAt P w K mg base "_law_first_ring" 3 P_law_first_ring (spFirstRing K) := ⟨_, _, (He.glo_ok X G (c.fact 49 (f := .glo "_law_first_ring") rfl)), F_law_first_ring.kp, B_law_first_ring, (ok_law_first_ring F_law_first_ring T G_law_sum)⟩
  obtain ⟨d_law_couple, F_law_couple⟩ := c.def_ 45 (d := D_law_couple) rfl
  have F_law_couple : FnP K "_law_couple" "_law_couple" S_law_couple (He.fAd K ("_law_couple", none)) d_law_couple := F_law_couple
  have B_law_couple : Binds K d_law_couple P_law_couple [] := FunD.bindsN F_law_couple fun _ _ _ _ _ _ us hl => match us, hl with | [_], _ => rfl
  have G_law_couple : FnAt P w K mg base "_law_couple" 1 P_law_couple (spCouple K (ad K)) := ⟨_, _, (He.glo_ok X G (c.fact 50 (f := .glo "_law_couple") rfl)), F_law_couple.kp, B_law_couple, (ok_law_couple F_law_couple T)⟩
  obtain ⟨d_law_levels, F_law_levels⟩ := c.def_ 46 (d := D_law_levels) rfl
  have F_law_levels : FnP K "_law_levels" "_law_levels" S_law_levels (He.fAd K ("_law_levels", none)) d_law_levels := F_law_levels
  have B_law_levels : Binds K d_law_levels P_law_levels [] := FunD.bindsN F_law_levels fun _ _ _ _ _ _ us hl => match us, hl with | [_], _ => rfl
  have G_law_levels : FnAt P w K mg base "_law_levels" 3 P_law_levels (spLevelsL K) := ⟨_, _, (He.glo_ok X G (c.fact 51 (f := .glo "_law_levels") rfl)), F_law_levels.kp, B_law_levels, (ok_law_levels F_law_levels T G_law_inner G_law_gain)⟩
  obtain ⟨d_law_fault, F_law_fault⟩ := c.def_ 47 (d := D_law_fault) rfl
  have F_law_fault : FnP K "_law_fault" "_law_fault" S_law_fault (He.fAd K ("_law_fault", none)) d_law_fault := F_law_fault
  have B_law_fault : Binds K d_law_fault P_law_fault [] := FunD.bindsN F_law_fault fun _ _ _ _ _ _ us hl => match us, hl with | [_, _], _ => rfl
  have G_law_fault : FnAt P w K mg base "_law_fault" 3 P_law_fault (spFaultL K) := ⟨_, _, (He.glo_ok X G (c.fact 52 (f := .glo "_law_fault") rfl)), F_law_fault.kp, B_law_fault, (ok_law_fault F_law_fault T G_law_inner G_law_gain)⟩
  obtain ⟨d_law_told_levels, F_law_told_levels⟩ := c.def_ 48 (d := D_law_told_levels) rfl
  have F_law_told_levels : FnP K "_law_told_levels" "_law_told_levels" S_law_told_levels (He.fAd K ("_law_told_levels", none)) d_law_told_levels := F_law_told_levels
  have B_law_told_levels : Binds K d_law_told_levels P_law_told_levels [] := FunD.bindsN F_law_told_levels fun _ _ _ _ _ _ us hl => match us, hl with | [_], _ => rfl
  have G_law_told_levels : FnAt P w K mg base "_law_told_levels" 8 P_law_told_levels (spTold K (ad K)) := ⟨_, _, (He.glo_ok X G (c.fact 53 (f := .glo "_law_told_levels") rfl)), F_law_told_levels.kp, B_law_told_levels, (ok_law_told_levels F_law_told_levels T DG G_part)⟩
  obtain ⟨d_law_odd_levels, F_law_odd_levels⟩ := c.def_ 49 (d := D_law_odd_levels) rfl
  have F_law_odd_levels : FnP K "_law_odd_levels" "_law_odd_levels" S_law_odd_levels (He.fAd K ("_law_odd_levels", none)) d_law_odd_levels := F_law_odd_levels
  have B_law_odd_levels : Binds K d_law_odd_levels P_law_odd_levels [] := FunD.bindsN F_law_odd_levels fun _ _ _ _ _ _ us hl => match us, hl with | [_, _], _ => rfl
  have G_law_odd_levels : FnAt P w K mg base "_law_odd_levels" 3 P_law_odd_levels (spOdd K) := ⟨_, _, (He.glo_ok X G (c.fact 54 (f := .glo "_law_odd_levels") rfl)), F_law_odd_levels.kp, B_law_odd_levels, (ok_law_odd_levels F_law_odd_levels T G_law_draw)⟩
  obtain ⟨d_law_judged, F_law_judged⟩ := c.def_ 50 (d := D_law_judged) rfl
  have F_law_judged : FnP K "_law_judged" "_law_judged" S_law_judged (He.fAd K ("_law_judged", none)) d_law_judged := F_law_judged
  have B_law_judged : Binds K d_law_judged P_law_judged [] := FunD.bindsN F_law_judged fun _ _ _ _ _ _ us hl => match us, hl with | [_, _, _, _, _], _ => rfl
  have G_law_judged : FnAt P w K mg base "_law_judged" 7 P_law_judged (spJudged K (ad K)) := ⟨_, _, (He.glo_ok X G (c.fact 55 (f := .glo "_law_judged") rfl)), F_law_judged.kp, B_law_judged, (ok_law_judged F_law_judged T G_law_draw G_law_behind G_law_fault G_law_exact G_levels_fault G_law_take G_law_odd_levels)⟩
  exact ok_law F_law T G_law_hand G_law_chart G_law_meter G_law_made G_law_rings G_law_first_ring G_find_drift G_find_fall G_find_rise G_law_couple G_law_exact G_Drift G_Drift_eq G_law_levels G_law_told_levels G_law_judged
end
end Pa
open PySem PySem.W PySem.Calls PyProof.Rows
theorem PySem.Challenge.cw_purseahead_k10_whole_drifts_and_levels_holds : PySem.Challenge.rw_purseahead_k10_whole_drifts_and_levels.Holds := by
  w_on; o_law
  refine HandSHeadRun.head_any (r := OpenLaw.row PySem.Challenge.rw_purseahead_k10_whole_drifts_and_levels) (q := view (OpenLaw.row PySem.Challenge.rw_purseahead_k10_whole_drifts_and_levels).prog [65]) (H := Pa.hk) (ob := Pa.ob) (M := 8000) (loose := Pa.loose) (d := HandSHeadRun.topDef (OpenLaw.row PySem.Challenge.rw_purseahead_k10_whole_drifts_and_levels).prog 65) (kwd := []) Pa.ob_eq
    (by kernel_rfl) (fun s => by kernel_rfl) Pa.run (by kernel_rfl) (by kernel_rfl) (by kernel_rfl) (by rfl) (by first | assumption | decide +kernel) (by decide +kernel) ⟨rfl, rfl, rfl, rfl, rfl, by decide +kernel⟩ ?hw ?hc
  case hw => w_witness2
  case hc =>
    refine L2.walk_ofE (l := PySem.Challenge.rw_purseahead_k10_whole_drifts_and_levels) (n := 63) (k := 9) (x := "_law_script") (CX := L2.CX0) rfl (by decide) (by kernel_rfl) ⟨rfl, by decide, by decide⟩ ?F (fun _ _ _ _ z => z)
    intro w mg fa h Y G hmg0
    obtain ⟨K, KX, c, xb⟩ := Y
    have hmg : mg ("law" : PySem.Str) = some (.ref fa) := by
      have e : (HandSHeadRun.topDef (OpenLaw.row PySem.Challenge.rw_purseahead_k10_whole_drifts_and_levels).prog 65).name = ("law" : PySem.Str) := by kernel_rfl
      rw [← e]
      exact hmg0
    have e2 := hmg.symm.trans (He.glo_ok KX G (c.fact 56 (f := .glo "law") rfl))
    cases e2
    obtain ⟨fd, hb, hF⟩ := Pa.facts (P := PySem.Challenge.rw_purseahead_k10_whole_drifts_and_levels.prog) (w := w) KX G c xb
    exact ⟨K, fd, Pa.spLaw K, KX, hb, fun H a ns hl _ hS => ⟨a, ns, rfl, hS, hl, fun _ => rfl⟩, fun base _ _ => hF base⟩
