import PyProof.Rows.All
import Wide.All
import OpenK.AllK
import Wide.FinOn
import HandS.ForMost
import HandS.Flow
import HandS.Defaults
import HandS.Exc
import HandS.ExcInit
import HandS.TryOnly
import HandS.WordsExc
import HandS.HeadHook2
import PySem.Challenge.RW_tokenfold_k28_whole_more_tokens
import HandS.IsInst
import HandS.Zip
import HandS.Deep
import HandS.Walk
import HandS.Text
import KE.GoesEnumKw
import HandS.Style
import HandS.TupAny
import HandS.DictComp
import KE.KDictCopyH
import KE.KDictDisplayH
import KE.GoesMore
import KE.GoesComp
import HandS.SortRule
import KE.SortUse
import KE.KDictSum
import HandS.ExcOwn
import HandS.WideBits
import HandS.MakeKwOnly
import KE.KStateDown
import Lean
import HandS.Head0
import HandS.Head1
import HandS.Head2
import HandS.HeadEnd
import HandS.HeadHook1
set_option Elab.async false
set_option linter.all false
set_option maxRecDepth 100000
set_option maxHeartbeats 4000000
namespace TF
open PySem PySem.Spec PyProof.Rows L2
/-! ### the text by places -/
def top (i : Nat) : Stmt := PySem.Challenge.pw_tokenfold_k28_whole_more_tokens.main.body.getD i (.Pass ⟨0, 0, 0, 0⟩)
abbrev s_NoNet_init : Stmt := inClass (top 3) 0
abbrev s_NoHeap_init : Stmt := inClass (top 4) 0
abbrev s_NoPlace_init : Stmt := inClass (top 5) 0
abbrev s_TooGreat_init : Stmt := inClass (top 6) 0
abbrev s_is_count_nets : Stmt := top 15
abbrev s_is_name : Stmt := top 17
abbrev s_are_parts : Stmt := top 18
abbrev s_is_place : Stmt := top 19
abbrev s_is_firing : Stmt := top 20
abbrev s_part_wrong : Stmt := top 21
abbrev s_net_wrong : Stmt := top 22
abbrev s_must_net : Stmt := top 23
abbrev s_Look_init : Stmt := inClass (top 25) 0
abbrev s_Look_lacking : Stmt := inClass (top 25) 1
abbrev s_Look_behind : Stmt := inClass (top 25) 2
abbrev s_Look_can : Stmt := inClass (top 25) 3
abbrev s_is_count_firing : Stmt := top 26
abbrev s_look_at : Stmt := top 28
abbrev s_heap_fault : Stmt := top 29
abbrev s_must_heap : Stmt := top 30
abbrev s_is_row : Stmt := top 33
abbrev s_row_end : Stmt := top 34
abbrev s_is_over : Stmt := top 36
abbrev s_wide_can : Stmt := top 37
abbrev s_wide_behind : Stmt := top 38
abbrev s_widened : Stmt := top 39
abbrev s_greatest : Stmt := top 40
abbrev s_least : Stmt := top 41
abbrev s_before : Stmt := top 43
abbrev s_over_some : Stmt := top 44
abbrev s_Levels_init : Stmt := inClass (top 45) 0
abbrev s_Levels_is_come_to : Stmt := inClass (top 45) 1
abbrev s_Levels_go_on : Stmt := inClass (top 45) 2
abbrev s_Levels_first_row : Stmt := inClass (top 45) 3
abbrev s_covered_by : Stmt := top 46
abbrev s_covered : Stmt := top 47
abbrev s_basis_wrong : Stmt := top 48
abbrev s_covered_wrong : Stmt := top 49
abbrev s_Spot_init : Stmt := inClass (top 51) 0
abbrev s_Spot_way_from : Stmt := inClass (top 51) 1
abbrev s_Spot_pump : Stmt := inClass (top 51) 2
abbrev s_Growth_init : Stmt := inClass (top 52) 0
abbrev s_Growth_grow : Stmt := inClass (top 52) 1
abbrev s_Growth_put : Stmt := inClass (top 52) 2
abbrev s_wides_of : Stmt := top 53
abbrev s_widest : Stmt := top 54
abbrev s_place_number : Stmt := top 55
abbrev s_stair_of : Stmt := top 56
abbrev s_bound : Stmt := top 57
abbrev s_L_at : Stmt := top 59
abbrev s_L_mixed : Stmt := top 60
abbrev s_L_purse : Stmt := top 61
abbrev s_L_draw : Stmt := top 62
abbrev s_L_parts : Stmt := top 63
abbrev s_L_even : Stmt := top 64
abbrev s_L_net : Stmt := top 65
abbrev s_L_over : Stmt := top 66
abbrev s_L_goal : Stmt := top 67
abbrev s_L_rank : Stmt := top 68
abbrev s_L_told : Stmt := top 69
abbrev s_L_wides : Stmt := top 70
abbrev s_L_bound : Stmt := top 71
abbrev s_L_more_right : Stmt := top 72
abbrev s_L_turned : Stmt := top 73
abbrev s_L_alike_right : Stmt := top 74
abbrev s_L_wides_right : Stmt := top 75
abbrev s_law : Stmt := top 76

def fdAt (K : PySem.W.Frag) (a : Addr) : FuncData := match K.lookup a with
  | some ⟨_, _, .func fd, _⟩ => fd
  | _ => PySem.W.fnOf "" "" { posonlyargs := [], args := [], vararg := none, kwonlyargs := [], kw_defaults := [], kwarg := none, defaults := [] } [] { kind := .function, names := [], isGenerator := false, isCoroutine := false } .none .none .none .none none .none .none
theorem fdAt_of {K : PySem.W.Frag} {x qual : Str} {params : Arguments} {body : List Stmt} {scope : Scope} {dvs : List V} {kws : List (Str × V)} {f : Addr} (h : ∃ fd, FunD K x qual params body scope dvs kws f fd) : FunD K x qual params body scope dvs kws f (fdAt K f) := by
  obtain ⟨fd, F⟩ := h
  obtain ⟨oc, od, dV, kV, doc, pm, an, cdv, ct, osl, e, lk, _⟩ := F.ex
  have e2 : fdAt K f = fd := by
    unfold fdAt
    rw [lk]
  rw [e2]
  exact F

/-- what the top has written -/
structure Txt (K : PySem.W.Frag) (mg : Str → Option Value) : Prop where
  f_TooGreat_init : FunD K "__init__" "TooGreat.__init__" (defArgs s_TooGreat_init) (defBody s_TooGreat_init) (defScope s_TooGreat_init) [.int 0] [] (He.ma K (He.ga K "TooGreat") "__init__") (fdAt K (He.ma K (He.ga K "TooGreat") "__init__"))
  f_is_count_nets : FunD K "is_count" "is_count" (defArgs s_is_count_nets) (defBody s_is_count_nets) (defScope s_is_count_nets) [] [] (He.ga K "is_count_nets") (fdAt K (He.ga K "is_count_nets"))
  f_is_name : FunD K "is_name" "is_name" (defArgs s_is_name) (defBody s_is_name) (defScope s_is_name) [] [] (He.ga K "is_name") (fdAt K (He.ga K "is_name"))
  f_are_parts : FunD K "are_parts" "are_parts" (defArgs s_are_parts) (defBody s_are_parts) (defScope s_are_parts) [] [] (He.ga K "are_parts") (fdAt K (He.ga K "are_parts"))
  f_is_place : FunD K "is_place" "is_place" (defArgs s_is_place) (defBody s_is_place) (defScope s_is_place) [] [] (He.ga K "is_place") (fdAt K (He.ga K "is_place"))
  f_is_firing : FunD K "is_firing" "is_firing" (defArgs s_is_firing) (defBody s_is_firing) (defScope s_is_firing) [] [] (He.ga K "is_firing") (fdAt K (He.ga K "is_firing"))
  f_part_wrong : FunD K "part_wrong" "part_wrong" (defArgs s_part_wrong) (defBody s_part_wrong) (defScope s_part_wrong) [] [] (He.ga K "part_wrong") (fdAt K (He.ga K "part_wrong"))
  f_net_wrong : FunD K "net_wrong" "net_wrong" (defArgs s_net_wrong) (defBody s_net_wrong) (defScope s_net_wrong) [] [] (He.ga K "net_wrong") (fdAt K (He.ga K "net_wrong"))
  f_must_net : FunD K "must_net" "must_net" (defArgs s_must_net) (defBody s_must_net) (defScope s_must_net) [] [] (He.ga K "must_net") (fdAt K (He.ga K "must_net"))
  f_Look_init : FunD K "__init__" "Look.__init__" (defArgs s_Look_init) (defBody s_Look_init) (defScope s_Look_init) [] [] (He.ma K (He.ga K "Look") "__init__") (fdAt K (He.ma K (He.ga K "Look") "__init__"))
  f_Look_lacking : FunD K "lacking" "Look.lacking" (defArgs s_Look_lacking) (defBody s_Look_lacking) (defScope s_Look_lacking) [] [] (He.ma K (He.ga K "Look") "lacking") (fdAt K (He.ma K (He.ga K "Look") "lacking"))
  f_Look_behind : FunD K "behind" "Look.behind" (defArgs s_Look_behind) (defBody s_Look_behind) (defScope s_Look_behind) [] [] (He.ma K (He.ga K "Look") "behind") (fdAt K (He.ma K (He.ga K "Look") "behind"))
  f_Look_can : FunD K "can" "Look.can" (defArgs s_Look_can) (defBody s_Look_can) (defScope s_Look_can) [] [] (He.ma K (He.ga K "Look") "can") (fdAt K (He.ma K (He.ga K "Look") "can"))
  f_is_count_firing : FunD K "is_count" "is_count" (defArgs s_is_count_firing) (defBody s_is_count_firing) (defScope s_is_count_firing) [] [] (He.ga K "is_count_firing") (fdAt K (He.ga K "is_count_firing"))
  f_look_at : FunD K "look_at" "look_at" (defArgs s_look_at) (defBody s_look_at) (defScope s_look_at) [] [] (He.ga K "look_at") (fdAt K (He.ga K "look_at"))
  f_heap_fault : FunD K "heap_fault" "heap_fault" (defArgs s_heap_fault) (defBody s_heap_fault) (defScope s_heap_fault) [] [] (He.ga K "heap_fault") (fdAt K (He.ga K "heap_fault"))
  f_must_heap : FunD K "must_heap" "must_heap" (defArgs s_must_heap) (defBody s_must_heap) (defScope s_must_heap) [] [] (He.ga K "must_heap") (fdAt K (He.ga K "must_heap"))
  f_is_row : FunD K "is_row" "is_row" (defArgs s_is_row) (defBody s_is_row) (defScope s_is_row) [] [] (He.ga K "is_row") (fdAt K (He.ga K "is_row"))
  f_row_end : FunD K "row_end" "row_end" (defArgs s_row_end) (defBody s_row_end) (defScope s_row_end) [] [] (He.ga K "row_end") (fdAt K (He.ga K "row_end"))
  f_is_over : FunD K "is_over" "is_over" (defArgs s_is_over) (defBody s_is_over) (defScope s_is_over) [] [] (He.ga K "is_over") (fdAt K (He.ga K "is_over"))
  f_wide_can : FunD K "wide_can" "wide_can" (defArgs s_wide_can) (defBody s_wide_can) (defScope s_wide_can) [] [] (He.ga K "wide_can") (fdAt K (He.ga K "wide_can"))
  f_wide_behind : FunD K "wide_behind" "wide_behind" (defArgs s_wide_behind) (defBody s_wide_behind) (defScope s_wide_behind) [] [] (He.ga K "wide_behind") (fdAt K (He.ga K "wide_behind"))
  f_widened : FunD K "widened" "widened" (defArgs s_widened) (defBody s_widened) (defScope s_widened) [] [] (He.ga K "widened") (fdAt K (He.ga K "widened"))
  f_greatest : FunD K "greatest" "greatest" (defArgs s_greatest) (defBody s_greatest) (defScope s_greatest) [] [] (He.ga K "greatest") (fdAt K (He.ga K "greatest"))
  f_least : FunD K "least" "least" (defArgs s_least) (defBody s_least) (defScope s_least) [] [] (He.ga K "least") (fdAt K (He.ga K "least"))
  f_before : FunD K "before" "before" (defArgs s_before) (defBody s_before) (defScope s_before) [] [] (He.ga K "before") (fdAt K (He.ga K "before"))
  f_over_some : FunD K "over_some" "over_some" (defArgs s_over_some) (defBody s_over_some) (defScope s_over_some) [] [] (He.ga K "over_some") (fdAt K (He.ga K "over_some"))
  f_Levels_init : FunD K "__init__" "Levels.__init__" (defArgs s_Levels_init) (defBody s_Levels_init) (defScope s_Levels_init) [] [] (He.ma K (He.ga K "Levels") "__init__") (fdAt K (He.ma K (He.ga K "Levels") "__init__"))
  f_Levels_is_come_to : FunD K "is_come_to" "Levels.is_come_to" (defArgs s_Levels_is_come_to) (defBody s_Levels_is_come_to) (defScope s_Levels_is_come_to) [] [] (He.ma K (He.ga K "Levels") "is_come_to") (fdAt K (He.ma K (He.ga K "Levels") "is_come_to"))
  f_Levels_go_on : FunD K "go_on" "Levels.go_on" (defArgs s_Levels_go_on) (defBody s_Levels_go_on) (defScope s_Levels_go_on) [] [] (He.ma K (He.ga K "Levels") "go_on") (fdAt K (He.ma K (He.ga K "Levels") "go_on"))
  f_Levels_first_row : FunD K "first_row" "Levels.first_row" (defArgs s_Levels_first_row) (defBody s_Levels_first_row) (defScope s_Levels_first_row) [] [] (He.ma K (He.ga K "Levels") "first_row") (fdAt K (He.ma K (He.ga K "Levels") "first_row"))
  f_covered_by : FunD K "covered_by" "covered_by" (defArgs s_covered_by) (defBody s_covered_by) (defScope s_covered_by) [] [] (He.ga K "covered_by") (fdAt K (He.ga K "covered_by"))
  f_covered : FunD K "covered" "covered" (defArgs s_covered) (defBody s_covered) (defScope s_covered) [] [("most", .int 2000)] (He.ga K "covered") (fdAt K (He.ga K "covered"))
  f_basis_wrong : FunD K "basis_wrong" "basis_wrong" (defArgs s_basis_wrong) (defBody s_basis_wrong) (defScope s_basis_wrong) [] [] (He.ga K "basis_wrong") (fdAt K (He.ga K "basis_wrong"))
  f_covered_wrong : FunD K "covered_wrong" "covered_wrong" (defArgs s_covered_wrong) (defBody s_covered_wrong) (defScope s_covered_wrong) [] [] (He.ga K "covered_wrong") (fdAt K (He.ga K "covered_wrong"))
  f_Spot_init : FunD K "__init__" "Spot.__init__" (defArgs s_Spot_init) (defBody s_Spot_init) (defScope s_Spot_init) [] [] (He.ma K (He.ga K "Spot") "__init__") (fdAt K (He.ma K (He.ga K "Spot") "__init__"))
  f_Spot_way_from : FunD K "way_from" "Spot.way_from" (defArgs s_Spot_way_from) (defBody s_Spot_way_from) (defScope s_Spot_way_from) [] [] (He.ma K (He.ga K "Spot") "way_from") (fdAt K (He.ma K (He.ga K "Spot") "way_from"))
  f_Spot_pump : FunD K "pump" "Spot.pump" (defArgs s_Spot_pump) (defBody s_Spot_pump) (defScope s_Spot_pump) [] [] (He.ma K (He.ga K "Spot") "pump") (fdAt K (He.ma K (He.ga K "Spot") "pump"))
  f_Growth_init : FunD K "__init__" "Growth.__init__" (defArgs s_Growth_init) (defBody s_Growth_init) (defScope s_Growth_init) [] [] (He.ma K (He.ga K "Growth") "__init__") (fdAt K (He.ma K (He.ga K "Growth") "__init__"))
  f_Growth_grow : FunD K "grow" "Growth.grow" (defArgs s_Growth_grow) (defBody s_Growth_grow) (defScope s_Growth_grow) [] [] (He.ma K (He.ga K "Growth") "grow") (fdAt K (He.ma K (He.ga K "Growth") "grow"))
  f_Growth_put : FunD K "put" "Growth.put" (defArgs s_Growth_put) (defBody s_Growth_put) (defScope s_Growth_put) [] [] (He.ma K (He.ga K "Growth") "put") (fdAt K (He.ma K (He.ga K "Growth") "put"))
  f_wides_of : FunD K "wides_of" "wides_of" (defArgs s_wides_of) (defBody s_wides_of) (defScope s_wides_of) [] [] (He.ga K "wides_of") (fdAt K (He.ga K "wides_of"))
  f_widest : FunD K "widest" "widest" (defArgs s_widest) (defBody s_widest) (defScope s_widest) [] [("most", .int 2000)] (He.ga K "widest") (fdAt K (He.ga K "widest"))
  f_place_number : FunD K "place_number" "place_number" (defArgs s_place_number) (defBody s_place_number) (defScope s_place_number) [] [] (He.ga K "place_number") (fdAt K (He.ga K "place_number"))
  f_stair_of : FunD K "stair_of" "stair_of" (defArgs s_stair_of) (defBody s_stair_of) (defScope s_stair_of) [] [] (He.ga K "stair_of") (fdAt K (He.ga K "stair_of"))
  f_bound : FunD K "bound" "bound" (defArgs s_bound) (defBody s_bound) (defScope s_bound) [] [("most", .int 2000)] (He.ga K "bound") (fdAt K (He.ga K "bound"))
  f_L_at : FunD K "_law_at" "_law_at" (defArgs s_L_at) (defBody s_L_at) (defScope s_L_at) [] [] (He.ga K "_law_at") (fdAt K (He.ga K "_law_at"))
  f_L_mixed : FunD K "_law_mixed" "_law_mixed" (defArgs s_L_mixed) (defBody s_L_mixed) (defScope s_L_mixed) [] [] (He.ga K "_law_mixed") (fdAt K (He.ga K "_law_mixed"))
  f_L_purse : FunD K "_law_purse" "_law_purse" (defArgs s_L_purse) (defBody s_L_purse) (defScope s_L_purse) [] [] (He.ga K "_law_purse") (fdAt K (He.ga K "_law_purse"))
  f_L_draw : FunD K "_law_draw" "_law_draw" (defArgs s_L_draw) (defBody s_L_draw) (defScope s_L_draw) [] [] (He.ga K "_law_draw") (fdAt K (He.ga K "_law_draw"))
  f_L_parts : FunD K "_law_parts" "_law_parts" (defArgs s_L_parts) (defBody s_L_parts) (defScope s_L_parts) [] [] (He.ga K "_law_parts") (fdAt K (He.ga K "_law_parts"))
  f_L_even : FunD K "_law_even" "_law_even" (defArgs s_L_even) (defBody s_L_even) (defScope s_L_even) [] [] (He.ga K "_law_even") (fdAt K (He.ga K "_law_even"))
  f_L_net : FunD K "_law_net" "_law_net" (defArgs s_L_net) (defBody s_L_net) (defScope s_L_net) [] [] (He.ga K "_law_net") (fdAt K (He.ga K "_law_net"))
  f_L_over : FunD K "_law_over" "_law_over" (defArgs s_L_over) (defBody s_L_over) (defScope s_L_over) [] [] (He.ga K "_law_over") (fdAt K (He.ga K "_law_over"))
  f_L_goal : FunD K "_law_goal" "_law_goal" (defArgs s_L_goal) (defBody s_L_goal) (defScope s_L_goal) [] [] (He.ga K "_law_goal") (fdAt K (He.ga K "_law_goal"))
  f_L_rank : FunD K "_law_rank" "_law_rank" (defArgs s_L_rank) (defBody s_L_rank) (defScope s_L_rank) [] [] (He.ga K "_law_rank") (fdAt K (He.ga K "_law_rank"))
  f_L_told : FunD K "_law_told" "_law_told" (defArgs s_L_told) (defBody s_L_told) (defScope s_L_told) [] [] (He.ga K "_law_told") (fdAt K (He.ga K "_law_told"))
  f_L_wides : FunD K "_law_wides" "_law_wides" (defArgs s_L_wides) (defBody s_L_wides) (defScope s_L_wides) [] [] (He.ga K "_law_wides") (fdAt K (He.ga K "_law_wides"))
  f_L_bound : FunD K "_law_bound" "_law_bound" (defArgs s_L_bound) (defBody s_L_bound) (defScope s_L_bound) [] [] (He.ga K "_law_bound") (fdAt K (He.ga K "_law_bound"))
  f_L_more_right : FunD K "_law_more_right" "_law_more_right" (defArgs s_L_more_right) (defBody s_L_more_right) (defScope s_L_more_right) [] [] (He.ga K "_law_more_right") (fdAt K (He.ga K "_law_more_right"))
  f_L_turned : FunD K "_law_turned" "_law_turned" (defArgs s_L_turned) (defBody s_L_turned) (defScope s_L_turned) [] [] (He.ga K "_law_turned") (fdAt K (He.ga K "_law_turned"))
  f_L_alike_right : FunD K "_law_alike_right" "_law_alike_right" (defArgs s_L_alike_right) (defBody s_L_alike_right) (defScope s_L_alike_right) [] [] (He.ga K "_law_alike_right") (fdAt K (He.ga K "_law_alike_right"))
  f_L_wides_right : FunD K "_law_wides_right" "_law_wides_right" (defArgs s_L_wides_right) (defBody s_L_wides_right) (defScope s_L_wides_right) [] [] (He.ga K "_law_wides_right") (fdAt K (He.ga K "_law_wides_right"))
  f_law : FunD K "law" "law" (defArgs s_law) (defBody s_law) (defScope s_law) [] [] (He.ga K "law") (fdAt K (He.ga K "law"))
  g_is_count_nets : mg "is_count_nets" = some (.ref (He.ga K "is_count_nets"))
  g_is_name : mg "is_name" = some (.ref (He.ga K "is_name"))
  g_are_parts : mg "are_parts" = some (.ref (He.ga K "are_parts"))
  g_is_place : mg "is_place" = some (.ref (He.ga K "is_place"))
  g_is_firing : mg "is_firing" = some (.ref (He.ga K "is_firing"))
  g_part_wrong : mg "part_wrong" = some (.ref (He.ga K "part_wrong"))
  g_net_wrong : mg "net_wrong" = some (.ref (He.ga K "net_wrong"))
  g_must_net : mg "must_net" = some (.ref (He.ga K "must_net"))
  g_is_count_firing : mg "is_count_firing" = some (.ref (He.ga K "is_count_firing"))
  g_look_at : mg "look_at" = some (.ref (He.ga K "look_at"))
  g_heap_fault : mg "heap_fault" = some (.ref (He.ga K "heap_fault"))
  g_must_heap : mg "must_heap" = some (.ref (He.ga K "must_heap"))
  g_is_row : mg "is_row" = some (.ref (He.ga K "is_row"))
  g_row_end : mg "row_end" = some (.ref (He.ga K "row_end"))
  g_is_over : mg "is_over" = some (.ref (He.ga K "is_over"))
  g_wide_can : mg "wide_can" = some (.ref (He.ga K "wide_can"))
  g_wide_behind : mg "wide_behind" = some (.ref (He.ga K "wide_behind"))
  g_widened : mg "widened" = some (.ref (He.ga K "widened"))
  g_greatest : mg "greatest" = some (.ref (He.ga K "greatest"))
  g_least : mg "least" = some (.ref (He.ga K "least"))
  g_before : mg "before" = some (.ref (He.ga K "before"))
  g_over_some : mg "over_some" = some (.ref (He.ga K "over_some"))
  g_covered_by : mg "covered_by" = some (.ref (He.ga K "covered_by"))
  g_covered : mg "covered" = some (.ref (He.ga K "covered"))
  g_basis_wrong : mg "basis_wrong" = some (.ref (He.ga K "basis_wrong"))
  g_covered_wrong : mg "covered_wrong" = some (.ref (He.ga K "covered_wrong"))
  g_wides_of : mg "wides_of" = some (.ref (He.ga K "wides_of"))
  g_widest : mg "widest" = some (.ref (He.ga K "widest"))
  g_place_number : mg "place_number" = some (.ref (He.ga K "place_number"))
  g_stair_of : mg "stair_of" = some (.ref (He.ga K "stair_of"))
  g_bound : mg "bound" = some (.ref (He.ga K "bound"))
  g__law_at : mg "_law_at" = some (.ref (He.ga K "_law_at"))
  g__law_mixed : mg "_law_mixed" = some (.ref (He.ga K "_law_mixed"))
  g__law_purse : mg "_law_purse" = some (.ref (He.ga K "_law_purse"))
  g__law_draw : mg "_law_draw" = some (.ref (He.ga K "_law_draw"))
  g__law_parts : mg "_law_parts" = some (.ref (He.ga K "_law_parts"))
  g__law_even : mg "_law_even" = some (.ref (He.ga K "_law_even"))
  g__law_net : mg "_law_net" = some (.ref (He.ga K "_law_net"))
  g__law_over : mg "_law_over" = some (.ref (He.ga K "_law_over"))
  g__law_goal : mg "_law_goal" = some (.ref (He.ga K "_law_goal"))
  g__law_rank : mg "_law_rank" = some (.ref (He.ga K "_law_rank"))
  g__law_told : mg "_law_told" = some (.ref (He.ga K "_law_told"))
  g__law_wides : mg "_law_wides" = some (.ref (He.ga K "_law_wides"))
  g__law_bound : mg "_law_bound" = some (.ref (He.ga K "_law_bound"))
  g__law_more_right : mg "_law_more_right" = some (.ref (He.ga K "_law_more_right"))
  g__law_turned : mg "_law_turned" = some (.ref (He.ga K "_law_turned"))
  g__law_alike_right : mg "_law_alike_right" = some (.ref (He.ga K "_law_alike_right"))
  g__law_wides_right : mg "_law_wides_right" = some (.ref (He.ga K "_law_wides_right"))
  g_law : mg "law" = some (.ref (He.ga K "law"))
  g_Look : mg "Look" = some (.ref (He.ga K "Look"))
  g_Levels : mg "Levels" = some (.ref (He.ga K "Levels"))
  g_Spot : mg "Spot" = some (.ref (He.ga K "Spot"))
  g_Growth : mg "Growth" = some (.ref (He.ga K "Growth"))
  g_TooGreat : mg "TooGreat" = some (.ref (He.ga K "TooGreat"))
  g_NetError : mg "NetError" = some (.ref (He.ga K "NetError"))
  g_WORDS : mg "WORDS" = some (.ref (He.ga K "WORDS"))
  n_isinstance : mg "isinstance" = none
  n_int : mg "int" = none
  n_bool : mg "bool" = none
  n_str : mg "str" = none
  n_tuple : mg "tuple" = none
  n_list : mg "list" = none
  n_len : mg "len" = none
  n_all : mg "all" = none
  n_any : mg "any" = none
  n_enumerate : mg "enumerate" = none
  n_zip : mg "zip" = none
  n_sorted : mg "sorted" = none
  n_max : mg "max" = none
  n_range : mg "range" = none
  i_MOST_SIGNS : ∃ t, mg "MOST_SIGNS" = some (.int 8 t)
  i_MOST_COUNT : ∃ t, mg "MOST_COUNT" = some (.int 999999999 t)
  i_MOST_PLACES : ∃ t, mg "MOST_PLACES" = some (.int 40 t)
  i_MOST_FIRINGS : ∃ t, mg "MOST_FIRINGS" = some (.int 60 t)
  i_MOST_HEAPS : ∃ t, mg "MOST_HEAPS" = some (.int 2000 t)
  t_SMALL : ∃ t, mg "SMALL" = some (.str "abcdefghijklmnopqrstuvwxyz" t)
  t_FIGURES : ∃ t, mg "FIGURES" = some (.str "0123456789" t)
  c_Look : Cls K (He.ga K "Look")
  m_Look : Mk K (He.ga K "Look") (He.ma K (He.ga K "Look") "__init__")
  a_Look_places : NoAttr K (He.ga K "Look") "places"
  a_Look_begin : NoAttr K (He.ga K "Look") "begin"
  a_Look_names : NoAttr K (He.ga K "Look") "names"
  a_Look_labels : NoAttr K (He.ga K "Look") "labels"
  a_Look_takes : NoAttr K (He.ga K "Look") "takes"
  a_Look_gives : NoAttr K (He.ga K "Look") "gives"
  c_Levels : Cls K (He.ga K "Levels")
  m_Levels : Mk K (He.ga K "Levels") (He.ma K (He.ga K "Levels") "__init__")
  a_Levels_look : NoAttr K (He.ga K "Levels") "look"
  a_Levels_most : NoAttr K (He.ga K "Levels") "most"
  a_Levels_levels : NoAttr K (He.ga K "Levels") "levels"
  a_Levels_fresh : NoAttr K (He.ga K "Levels") "fresh"
  c_Spot : Cls K (He.ga K "Spot")
  m_Spot : Mk K (He.ga K "Spot") (He.ma K (He.ga K "Spot") "__init__")
  a_Spot_wide : NoAttr K (He.ga K "Spot") "wide"
  a_Spot_depth : NoAttr K (He.ga K "Spot") "depth"
  a_Spot_parent : NoAttr K (He.ga K "Spot") "parent"
  a_Spot_came_by : NoAttr K (He.ga K "Spot") "came_by"
  a_Spot_pumps : NoAttr K (He.ga K "Spot") "pumps"
  a_Spot_tail : NoAttr K (He.ga K "Spot") "tail"
  c_Growth : Cls K (He.ga K "Growth")
  m_Growth : Mk K (He.ga K "Growth") (He.ma K (He.ga K "Growth") "__init__")
  a_Growth_look : NoAttr K (He.ga K "Growth") "look"
  a_Growth_spots : NoAttr K (He.ga K "Growth") "spots"
  a_Growth_there : NoAttr K (He.ga K "Growth") "there"
  h_Look_lacking : Meth K (He.ga K "Look") "lacking" (He.ma K (He.ga K "Look") "lacking")
  h_Look_behind : Meth K (He.ga K "Look") "behind" (He.ma K (He.ga K "Look") "behind")
  h_Look_can : Meth K (He.ga K "Look") "can" (He.ma K (He.ga K "Look") "can")
  h_Levels_is_come_to : Meth K (He.ga K "Levels") "is_come_to" (He.ma K (He.ga K "Levels") "is_come_to")
  h_Levels_go_on : Meth K (He.ga K "Levels") "go_on" (He.ma K (He.ga K "Levels") "go_on")
  h_Levels_first_row : Meth K (He.ga K "Levels") "first_row" (He.ma K (He.ga K "Levels") "first_row")
  h_Spot_way_from : Meth K (He.ga K "Spot") "way_from" (He.ma K (He.ga K "Spot") "way_from")
  h_Spot_pump : Meth K (He.ga K "Spot") "pump" (He.ma K (He.ga K "Spot") "pump")
  h_Growth_grow : Meth K (He.ga K "Growth") "grow" (He.ma K (He.ga K "Growth") "grow")
  h_Growth_put : Meth K (He.ga K "Growth") "put" (He.ma K (He.ga K "Growth") "put")
  words : ∀ H : Hp, SqT K H (He.ga K "WORDS") [V.str "place", V.str "fire", V.str "as"]
  exc : OexC K (He.ga K "TooGreat")
  excI : PySem.W.findIn K (.ref (He.ga K "TooGreat")) "__init__" = some (some (.ref (He.ma K (He.ga K "TooGreat") "__init__")))
  excT : PySem.W.typeIn K (.ref (He.ma K (He.ga K "TooGreat") "__init__")) = some (.type "function")
  excA : PySem.W.findIn K (.ref (He.ga K "TooGreat")) "most" = some none
  exmN : PySem.W.exmOne K (.ref (He.ga K "TooGreat")) (.ref (He.ga K "NetError")) = some true
  exmT : PySem.W.exmOne K (.ref (He.ga K "TooGreat")) (.ref (He.ga K "TooGreat")) = some true
end TF
set_option Elab.async false
set_option linter.all false
set_option maxRecDepth 100000
set_option maxHeartbeats 4000000
/-! M1: typed readings. SP: a predicate of values that a growing heap keeps; a frame O: addresses that what is told does not lean on. -/
namespace TF
open PySem PySem.Spec L2

/-! ### heaps without some addresses -/
def mn (H : Hp) (O : List Addr) : Hp := fun b => if b ∈ O then none else H b
theorem mn_in {H : Hp} {O : List Addr} {a : Addr} (h : a ∈ O) : mn H O a = none := if_pos h
theorem mn_out {H : Hp} {O : List Addr} {a : Addr} (h : ¬ a ∈ O) : mn H O a = H a := if_neg h
theorem mn_nil {H : Hp} : mn H [] = H := funext fun b => mn_out (by simp)
theorem mn_le {H : Hp} {O : List Addr} : Same (mn H O) H := fun b o e => by
  by_cases h : b ∈ O
  · rw [mn_in h] at e
    cases e
  · rw [mn_out h] at e
    exact e
theorem mn_mono {H H' : Hp} {O : List Addr} (s : Same H H') : Same (mn H O) (mn H' O) := fun b o e => by
  by_cases h : b ∈ O
  · rw [mn_in h] at e
    cases e
  · rw [mn_out h] at e
    rw [mn_out h]
    exact s b o e
theorem mn_anti {H : Hp} {O O' : List Addr} (s : ∀ a, a ∈ O → a ∈ O') : Same (mn H O') (mn H O) := fun b o e => by
  by_cases h : b ∈ O'
  · rw [mn_in h] at e
    cases e
  · rw [mn_out h] at e
    rw [mn_out fun z => h (s b z)]
    exact e
theorem mn_upd {H : Hp} {O : List Addr} {a : Addr} {o : HO} (h : a ∈ O) : mn (upd H a o) O = mn H O := funext fun b => by
  by_cases hb : b ∈ O
  · rw [mn_in hb, mn_in hb]
  · rw [mn_out hb, mn_out hb, upd_ne (fun z => hb (by rw [z]; exact h))]
theorem mn_at {H : Hp} {O : List Addr} {a : Addr} {o : HO} (h : mn H O a = some o) : H a = some o := mn_le a o h
def Live (H : Hp) (O : List Addr) : Prop := ∀ a, a ∈ O → ∃ o, H a = some o
theorem Live.same {H H' : Hp} {O : List Addr} (l : Live H O) (s : Same H H') : Live H' O := fun a h => by
  obtain ⟨o, e⟩ := l a h
  exact ⟨o, s a o e⟩
theorem Live.new {H : Hp} {O : List Addr} {p : Addr} (l : Live H O) (h : H p = none) : ¬ p ∈ O := fun z => by
  obtain ⟨o, e⟩ := l p z
  rw [h] at e
  cases e
theorem Live.nil {H : Hp} : Live H [] := fun a h => by simp at h
theorem same_new {H : Hp} {p : Addr} {o : HO} (h : H p = none) : Same H (upd H p o) := fun b u e => by
  rw [upd_ne (ne_of_none e h)]
  exact e
theorem mn_new {H : Hp} {O : List Addr} {p : Addr} {o : HO} (l : Live H O) (h : H p = none) : mn (upd H p o) O p = some o := by
  rw [mn_out (l.new h), upd_same]
theorem same_t {K : PySem.W.Frag} {H H' : Hp} {a : Addr} {xs : List V} (e : Same H H') (h : SqT K H a xs) : SqT K H' a xs := by
  rcases h with (h | ⟨o, h⟩) | h
  · exact .inl (.inl (e _ _ h))
  · exact .inl (.inr ⟨o, e _ _ h⟩)
  · exact .inr h

/-! ### predicates of values -/
structure SP where
  p : Hp → V → Prop
  st : ∀ {H H' : Hp} {v : V}, Same H H' → p H v → p H' v
instance : Inhabited SP := ⟨⟨fun _ _ => True, fun _ h => h⟩⟩
mutual
theorem Dp.same {K : PySem.W.Frag} {H H' : Hp} (e : Same H H') : ∀ (d : PyData) (v : V), Dp K H v d → Dp K H' v d
  | .none, _, h => by cases h; exact .non
  | .bool b, _, h => by cases h; exact .bl b
  | .int i, _, h => by cases h; exact .int i
  | .str x, _, h => by cases h; exact .str x
  | .list ds, _, h => by
    cases h with
    | lst hs ha => exact .lst (e.seq hs) (DpAll.same e ds _ ha)
  | .tuple ds, _, h => by
    cases h with
    | tup hs ha => exact .tup (same_t e hs) (DpAll.same e ds _ ha)
  | .dict _, _, h => by cases h
theorem DpAll.same {K : PySem.W.Frag} {H H' : Hp} (e : Same H H') : ∀ (ds : List PyData) (vs : List V), DpAll K H vs ds → DpAll K H' vs ds
  | [], _, h => by cases h; exact .nil
  | d :: ds, _, h => by
    cases h with
    | cons h1 h2 => exact .cons (Dp.same e d _ h1) (DpAll.same e ds _ h2)
end
def dat (K : PySem.W.Frag) (d : PyData) : SP := ⟨fun H v => Dp K H v d, fun e h => Dp.same e d _ h⟩
def Sat (Ps : List SP) (H : Hp) (vs : List V) : Prop := Paired (fun P v => SP.p P H v) Ps vs
theorem Sat.same {H H' : Hp} (e : Same H H') : ∀ {Ps : List SP} {vs : List V}, Sat Ps H vs → Sat Ps H' vs
  | _, _, .nil => .nil
  | _, _, .cons h t => .cons (SP.st _ e h) (Sat.same e t)
theorem Sat.length {Ps : List SP} {H : Hp} {vs : List V} (h : Sat Ps H vs) : Ps.length = vs.length := Paired.length h
theorem Sat.get {H : Hp} : ∀ {Ps : List SP} {vs : List V} {i : Nat} {x : V}, Sat Ps H vs → vs[i]? = some x → (Ps.getD i default).p H x
  | _, _, _, _, .nil, e => by simp at e
  | _, _, 0, _, .cons r _, e => by
    simp at e
    subst e
    exact r
  | _, _, i + 1, x, .cons _ t, e => by
    have h := Sat.get (i := i) (x := x) t (by simpa using e)
    simpa using h
theorem Sat.snoc {H : Hp} {P : SP} {v : V} (h : P.p H v) : ∀ {Ps : List SP} {vs : List V}, Sat Ps H vs → Sat (Ps ++ [P]) H (vs ++ [v])
  | _, _, .nil => .cons h .nil
  | _, _, .cons r t => .cons r (Sat.snoc h t)
theorem Sat.append {H : Hp} : ∀ {Ps Rs : List SP} {vs ws : List V}, Sat Ps H vs → Sat Rs H ws → Sat (Ps ++ Rs) H (vs ++ ws)
  | _, _, _, _, .nil, s => s
  | _, _, _, _, .cons r t, s => .cons r (Sat.append t s)
theorem sat_of_all {K : PySem.W.Frag} {H : Hp} : ∀ {ds : List PyData} {vs : List V}, DpAll K H vs ds → Sat (ds.map (dat K)) H vs
  | _, _, .nil => .nil
  | _, _, .cons h t => .cons h (sat_of_all t)
theorem all_of_sat {K : PySem.W.Frag} {H : Hp} : ∀ {ds : List PyData} {vs : List V}, Sat (ds.map (dat K)) H vs → DpAll K H vs ds
  | [], _, h => by
    cases h
    exact .nil
  | d :: ds, _, h => by
    cases h with
    | cons h t => exact .cons h (all_of_sat t)
def lstP (K : PySem.W.Frag) (Ps : List SP) : SP := ⟨fun H v => ∃ a xs, v = .ref a ∧ SqL K H a xs ∧ Sat Ps H xs, fun e ⟨a, xs, h1, h2, h3⟩ => ⟨a, xs, h1, e.seq h2, h3.same e⟩⟩
def tupP (K : PySem.W.Frag) (Ps : List SP) : SP := ⟨fun H v => ∃ a xs, v = .ref a ∧ SqT K H a xs ∧ Sat Ps H xs, fun e ⟨a, xs, h1, h2, h3⟩ => ⟨a, xs, h1, same_t e h2, h3.same e⟩⟩
/-- a list that is tracked -/
def lstT (Ps : List SP) : SP := ⟨fun H v => ∃ a xs, v = .ref a ∧ H a = some (.lst xs) ∧ Sat Ps H xs, fun e ⟨a, xs, h1, h2, h3⟩ => ⟨a, xs, h1, e _ _ h2, h3.same e⟩⟩
theorem lstT_P {K : PySem.W.Frag} {Ps : List SP} {H : Hp} {v : V} (h : (lstT Ps).p H v) : (lstP K Ps).p H v := by
  obtain ⟨a, xs, h1, h2, h3⟩ := h
  exact ⟨a, xs, h1, SqL.of h2, h3⟩
theorem lstP_dat {K : PySem.W.Frag} {ds : List PyData} {H : Hp} {v : V} (h : (lstP K (ds.map (dat K))).p H v) : (dat K (.list ds)).p H v := by
  obtain ⟨a, xs, rfl, h2, h3⟩ := h
  exact .lst h2 (all_of_sat h3)
theorem dat_lstP {K : PySem.W.Frag} {ds : List PyData} {H : Hp} {v : V} (h : (dat K (.list ds)).p H v) : (lstP K (ds.map (dat K))).p H v := by
  have h : Dp K H v (.list ds) := h
  cases h with
  | lst hs ha => exact ⟨_, _, rfl, hs, sat_of_all ha⟩
theorem tupP_dat {K : PySem.W.Frag} {ds : List PyData} {H : Hp} {v : V} (h : (tupP K (ds.map (dat K))).p H v) : (dat K (.tuple ds)).p H v := by
  obtain ⟨a, xs, rfl, h2, h3⟩ := h
  exact .tup h2 (all_of_sat h3)
theorem dat_tupP {K : PySem.W.Frag} {ds : List PyData} {H : Hp} {v : V} (h : (dat K (.tuple ds)).p H v) : (tupP K (ds.map (dat K))).p H v := by
  have h : Dp K H v (.tuple ds) := h
  cases h with
  | tup hs ha => exact ⟨_, _, rfl, hs, sat_of_all ha⟩
/-- of a predicate's consequence -/
def Imp (P P' : SP) : Prop := ∀ H v, P.p H v → P'.p H v
theorem Imp.refl {P : SP} : Imp P P := fun _ _ h => h
theorem dat_bool {K : PySem.W.Frag} {b : Bool} {H : Hp} {v : V} (h : (dat K (.bool b)).p H v) : v = .bl b := by
  have h : Dp K H v (.bool b) := h
  cases h
  rfl
theorem dat_int {K : PySem.W.Frag} {i : Int} {H : Hp} {v : V} (h : (dat K (.int i)).p H v) : v = .int i := by
  have h : Dp K H v (.int i) := h
  cases h
  rfl
theorem dat_str {K : PySem.W.Frag} {i : Str} {H : Hp} {v : V} (h : (dat K (.str i)).p H v) : v = .str i := by
  have h : Dp K H v (.str i) := h
  cases h
  rfl
theorem dat_non {K : PySem.W.Frag} {H : Hp} {v : V} (h : (dat K .none).p H v) : v = .non := by
  have h : Dp K H v .none := h
  cases h
  rfl

/-! ### slots -/
abbrev Env := List (Option SP)
def DS (ρ : TF.Env) (σ : St) (H : Hp) : Prop := ρ.length = σ.length ∧ ∀ (i : Nat) (P : SP), ρ[i]? = some (some P) → ∃ v, σ[i]? = some (some v) ∧ P.p H v
theorem DS.same {ρ : TF.Env} {σ : St} {H H' : Hp} (e : Same H H') (h : DS ρ σ H) : DS ρ σ H' := ⟨h.1, fun i P hi => by
  obtain ⟨v, h1, h2⟩ := h.2 i P hi
  exact ⟨v, h1, P.st e h2⟩⟩
theorem DS.set {ρ : TF.Env} {σ : St} {H : Hp} {P : SP} {v : V} (h : DS ρ σ H) (i : Nat) (hp : P.p H v) : DS (ρ.set i (some P)) (σ.set i (some v)) H := by
  refine ⟨by rw [List.length_set, List.length_set, h.1], fun j R hj => ?_⟩
  by_cases e : i = j
  · subst e
    have hl : i < ρ.length := by
      have q := (List.getElem?_eq_some_iff.mp hj).1
      rw [List.length_set] at q
      exact q
    rw [List.getElem?_set_self hl] at hj
    have eP : P = R := Option.some.inj (Option.some.inj hj)
    subst eP
    exact ⟨v, List.getElem?_set_self (h.1 ▸ hl), hp⟩
  · rw [List.getElem?_set_ne e] at hj
    obtain ⟨u, h1, h2⟩ := h.2 j R hj
    exact ⟨u, by rw [List.getElem?_set_ne e]; exact h1, h2⟩
theorem DS.clear {ρ : TF.Env} {σ : St} {H : Hp} {x : Option V} (h : DS ρ σ H) (i : Nat) : DS (ρ.set i none) (σ.set i x) H := by
  refine ⟨by rw [List.length_set, List.length_set, h.1], fun j R hj => ?_⟩
  by_cases e : i = j
  · subst e
    have hl : i < ρ.length := by
      have q := (List.getElem?_eq_some_iff.mp hj).1
      rw [List.length_set] at q
      exact q
    rw [List.getElem?_set_self hl] at hj
    cases hj
  · rw [List.getElem?_set_ne e] at hj
    obtain ⟨u, h1, h2⟩ := h.2 j R hj
    exact ⟨u, by rw [List.getElem?_set_ne e]; exact h1, h2⟩
/-- fewer things known -/
def Sub (ρ ρ' : TF.Env) : Prop := ρ.length = ρ'.length ∧ ∀ (i : Nat) (P : SP), ρ[i]? = some (some P) → ∃ P', ρ'[i]? = some (some P') ∧ Imp P' P
theorem DS.sub {ρ ρ' : TF.Env} {σ : St} {H : Hp} (s : Sub ρ ρ') (h : DS ρ' σ H) : DS ρ σ H := ⟨s.1.trans h.1, fun i P hi => by
  obtain ⟨P', h1, h2⟩ := s.2 i P hi
  obtain ⟨v, h3, h4⟩ := h.2 i P' h1
  exact ⟨v, h3, h2 H v h4⟩⟩
def wipeE (ρ : TF.Env) : List Nat → TF.Env
  | [] => ρ
  | v :: vs => (wipeE ρ vs).set v none
theorem DS.wipe {ρ : TF.Env} {σ : St} {H : Hp} (h : DS ρ σ H) : ∀ vs : List Nat, DS (wipeE ρ vs) (L2.wipe σ vs) H
  | [] => h
  | v :: vs => (DS.wipe h vs).clear v
theorem DS.start {Ps : List SP} {H : Hp} {vs : List V} {N : List Str} (h : Sat Ps H vs) : DS (Ps.map some ++ List.replicate (N.length - Ps.length) none) (L2.start N vs) H := by
  have hl := h.length
  unfold L2.start
  refine ⟨by simp [hl], fun i P hi => ?_⟩
  by_cases q : i < Ps.length
  · rw [List.getElem?_append_left (by simpa using q), List.getElem?_map, List.getElem?_eq_getElem q] at hi
    have e : Ps[i] = P := Option.some.inj (Option.some.inj hi)
    have q2 : i < vs.length := hl ▸ q
    refine ⟨vs[i], ?_, ?_⟩
    · rw [List.getElem?_append_left (by simpa using q2), List.getElem?_map, List.getElem?_eq_getElem q2]
      rfl
    · have z := h.get (List.getElem?_eq_getElem q2)
      rw [List.getD_eq_getElem?_getD, List.getElem?_eq_getElem q] at z
      rw [← e]
      exact z
  · rw [List.getElem?_append_right (by simpa using q), List.getElem?_replicate] at hi
    split at hi <;> cases hi


/-! ### owned things -/
/-- what is told of an owned object -/
structure MP where
  p : Hp → HO → Prop
  st : ∀ {H H' : Hp} {o : HO}, Same H H' → p H o → p H' o
instance : Inhabited MP := ⟨⟨fun _ _ => True, fun _ h => h⟩⟩
abbrev Wd := List (Addr × MP)
def SameB (A : List Addr) (H H' : Hp) : Prop := ∀ b o, ¬ b ∈ A → H b = some o → H' b = some o
theorem SameB.refl {A : List Addr} (H : Hp) : SameB A H H := fun _ _ _ h => h
theorem SameB.trans {A : List Addr} {H H1 H2 : Hp} (a : SameB A H H1) (b : SameB A H1 H2) : SameB A H H2 := fun c o n h => b c o n (a c o n h)
theorem SameB.of {A : List Addr} {H H' : Hp} (s : Same H H') : SameB A H H' := fun b o _ h => s b o h
theorem SameB.nil {H H' : Hp} (s : SameB [] H H') : Same H H' := fun b o h => s b o (by simp) h
theorem SameB.mono {A B : List Addr} {H H' : Hp} (s : SameB A H H') (k : ∀ b, b ∈ A → b ∈ B) : SameB B H H' := fun b o n h => s b o (fun z => n (k b z)) h
/-- what is told outside of a frame stays -/
theorem SameB.mn {A O : List Addr} {H H' : Hp} (s : SameB A H H') (k : ∀ b, b ∈ A → b ∈ O) : Same (mn H O) (mn H' O) := fun b o e => by
  by_cases h : b ∈ O
  · rw [mn_in h] at e
    cases e
  · rw [mn_out h] at e
    rw [mn_out h]
    exact s b o (fun z => h (k b z)) e
structure WOk (W : Wd) (O : List Addr) (H : Hp) : Prop where
  nd : (W.map Prod.fst).Nodup
  at_ : ∀ c, c ∈ W → c.1 ∈ O ∧ ∃ o, H c.1 = some o ∧ c.2.p (mn H O) o
theorem WOk.same {W : Wd} {O : List Addr} {H H' : Hp} (w : WOk W O H) (s : Same H H') : WOk W O H' := ⟨w.nd, fun c hc => by
  obtain ⟨h1, o, h2, h3⟩ := w.at_ c hc
  exact ⟨h1, o, s _ _ h2, c.2.st (mn_mono s) h3⟩⟩
theorem WOk.nil {O : List Addr} {H : Hp} : WOk [] O H := ⟨List.nodup_nil, fun c hc => by simp at hc⟩
/-- where a body began: the heap, what it may change, the frame -/
structure An where
  H0 : Hp
  A0 : List Addr
  O0 : List Addr
structure MX (an : An) (O : List Addr) (ρ : TF.Env) (W : Wd) (σ : St) (H : Hp) : Prop where
  a0 : ∀ b, b ∈ an.A0 → b ∈ an.O0
  l0 : Live an.H0 an.O0
  sub : ∀ b, b ∈ an.O0 → b ∈ O
  fr : ∀ b, b ∈ O → b ∈ an.O0 ∨ an.H0 b = none
  lv : Live H O
  ds : DS ρ σ (mn H O)
  wo : WOk W O H
  wa : ∀ c, c ∈ W → c.1 ∈ an.A0 ∨ an.H0 c.1 = none
  sb : SameB an.A0 an.H0 H
section
variable {an : An} {O : List Addr} {ρ : TF.Env} {W W1 W2 W' : Wd} {σ : St} {H H' : Hp}
theorem MX.same (m : MX an O ρ W σ H) (s : Same H H') : MX an O ρ W σ H' := ⟨m.a0, m.l0, m.sub, m.fr, m.lv.same s, m.ds.same (mn_mono s), m.wo.same s, m.wa, m.sb.trans (.of s)⟩
theorem MX.re {ρ' : TF.Env} {σ' : St} (m : MX an O ρ W σ H) (d : DS ρ' σ' (mn H O)) : MX an O ρ' W σ' H := ⟨m.a0, m.l0, m.sub, m.fr, m.lv, d, m.wo, m.wa, m.sb⟩
theorem MX.a0' (m : MX an O ρ W σ H) : ∀ b, b ∈ an.A0 → b ∈ O := fun b h => m.sub b (m.a0 b h)
theorem MX.smn (m : MX an O ρ W σ H) : Same (mn an.H0 O) (mn H O) := m.sb.mn m.a0'
/-- a new object is new to the entry, too -/
theorem MX.new0 (m : MX an O ρ W σ H) {p : Addr} (h : H p = none) : an.H0 p = none := by
  cases e : an.H0 p with
  | none => rfl
  | some o =>
    by_cases hp : p ∈ an.A0
    · obtain ⟨u, hu⟩ := m.lv p (m.a0' p hp)
      rw [h] at hu
      cases hu
    · have z := m.sb p o hp e
      rw [h] at z
      cases z
/-- a call that may change what Wi tells -/
theorem MX.call {Wi Wo Wr : Wd} (m : MX an O ρ (Wi ++ Wr) σ H) (sb : SameB (Wi.map Prod.fst) H H') (wo : WOk Wo O H') (he : Wo.map Prod.fst = Wi.map Prod.fst) : MX an O ρ (Wo ++ Wr) σ H' ∧ Same (mn H O) (mn H' O) := by
  have hi : ∀ b, b ∈ Wi.map Prod.fst → b ∈ O := fun b hb => by
    obtain ⟨c, hc, e⟩ := List.mem_map.mp hb
    rw [← e]
    exact (m.wo.at_ c (List.mem_append_left _ hc)).1
  have sm : Same (mn H O) (mn H' O) := sb.mn hi
  have nd := m.wo.nd
  rw [List.map_append] at nd
  have key : ∀ c, c ∈ Wr → ¬ c.1 ∈ Wi.map Prod.fst := fun c hc z => (List.nodup_append.mp nd).2.2 c.1 z c.1 (List.mem_map.mpr ⟨c, hc, rfl⟩) rfl
  refine ⟨⟨m.a0, m.l0, m.sub, m.fr, fun b hb => ?_, m.ds.same sm, ⟨by rw [List.map_append, he]; exact nd, fun c hc => ?_⟩, fun c hc => ?_, fun b o n e => ?_⟩, sm⟩
  · by_cases z : b ∈ Wi.map Prod.fst
    · rw [← he] at z
      obtain ⟨c, hc, e⟩ := List.mem_map.mp z
      obtain ⟨_, o, h2, _⟩ := wo.at_ c hc
      exact ⟨o, e ▸ h2⟩
    · obtain ⟨o, h⟩ := m.lv b hb
      exact ⟨o, sb b o z h⟩
  · rcases List.mem_append.mp hc with h | h
    · exact wo.at_ c h
    · obtain ⟨h1, o, h2, h3⟩ := m.wo.at_ c (List.mem_append_right _ h)
      exact ⟨h1, o, sb _ _ (key c h) h2, c.2.st sm h3⟩
  · rcases List.mem_append.mp hc with h | h
    · have z : c.1 ∈ Wi.map Prod.fst := by
        rw [← he]
        exact List.mem_map.mpr ⟨c, h, rfl⟩
      obtain ⟨c', hc', e⟩ := List.mem_map.mp z
      rw [← e]
      exact m.wa c' (List.mem_append_left _ hc')
    · exact m.wa c (List.mem_append_right _ h)
  · have e1 := m.sb b o n e
    refine sb b o (fun z => ?_) e1
    obtain ⟨c, hc, e2⟩ := List.mem_map.mp z
    rcases m.wa c (List.mem_append_left _ hc) with h | h
    · exact n (e2 ▸ h)
    · rw [e2, e] at h
      cases h
theorem map_fst_set {b : Addr} {m m' : MP} : ∀ {W : Wd} {k : Nat}, W[k]? = some (b, m) → (W.set k (b, m')).map Prod.fst = W.map Prod.fst
  | [], k, h => by simp at h
  | c :: W, 0, h => by
    simp at h
    subst h
    rfl
  | c :: W, k + 1, h => by
    have h' : W[k]? = some (b, m) := by simpa using h
    show c.1 :: (W.set k (b, m')).map Prod.fst = _
    rw [map_fst_set h']
    rfl
theorem mem_set_of {b : Addr} {m m' : MP} : ∀ {W : Wd} {k : Nat} {c : Addr × MP}, W[k]? = some (b, m) → (W.map Prod.fst).Nodup → c ∈ W.set k (b, m') → c = (b, m') ∨ (c ∈ W ∧ c.1 ≠ b)
  | [], k, c, h, _, _ => by simp at h
  | d :: W, 0, c, h, nd, hc => by
    simp at h
    subst h
    rcases List.mem_cons.mp hc with e | hc
    · exact .inl e
    · refine .inr ⟨List.mem_cons_of_mem _ hc, fun e => ?_⟩
      have q := (List.nodup_cons.mp nd).1
      exact q (e ▸ List.mem_map.mpr ⟨c, hc, rfl⟩)
  | d :: W, k + 1, c, h, nd, hc => by
    have h' : W[k]? = some (b, m) := by simpa using h
    rcases List.mem_cons.mp hc with e | hc
    · subst e
      refine .inr ⟨List.mem_cons_self, fun e => ?_⟩
      have q := (List.nodup_cons.mp nd).1
      exact q (e ▸ List.mem_map.mpr ⟨(b, m), List.mem_of_getElem? h', rfl⟩)
    · rcases mem_set_of h' (List.nodup_cons.mp nd).2 hc with e | ⟨e1, e2⟩
      · exact .inl e
      · exact .inr ⟨List.mem_cons_of_mem _ e1, e2⟩
/-- an owned object is changed -/
theorem MX.put {b : Addr} {mp m' : MP} {k : Nat} {o' : HO} (m : MX an O ρ W σ H) (hk : W[k]? = some (b, mp)) (hp : m'.p (mn H O) o') : MX an O ρ (W.set k (b, m')) σ (upd H b o') ∧ Same (mn H O) (mn (upd H b o') O) := by
  have hb := m.wo.at_ _ (List.mem_of_getElem? hk)
  have e : mn (upd H b o') O = mn H O := mn_upd hb.1
  refine ⟨⟨m.a0, m.l0, m.sub, m.fr, fun c hc => ?_, by rw [e]; exact m.ds, ⟨by rw [map_fst_set hk]; exact m.wo.nd, fun c hc => ?_⟩, fun c hc => ?_, fun c o n q => ?_⟩, by rw [e]; exact Same.refl _⟩
  · by_cases z : c = b
    · exact ⟨o', by rw [z]; exact upd_same⟩
    · rw [upd_ne z]
      exact m.lv c hc
  · rcases mem_set_of hk m.wo.nd hc with q | ⟨q1, q2⟩
    · subst q
      exact ⟨hb.1, o', upd_same, by rw [e]; exact hp⟩
    · obtain ⟨h1, o, h2, h3⟩ := m.wo.at_ c q1
      exact ⟨h1, o, by rw [upd_ne q2]; exact h2, by rw [e]; exact h3⟩
  · rcases mem_set_of hk m.wo.nd hc with q | ⟨q1, q2⟩
    · subst q
      have hw := m.wa (b, mp) (List.mem_of_getElem? hk)
      exact hw
    · exact m.wa c q1
  · have h1 := m.sb c o n q
    rw [upd_ne (fun z => ?_)]
    · exact h1
    · rcases m.wa _ (List.mem_of_getElem? hk) with h | h
      · exact n (z ▸ h)
      · have h : an.H0 b = none := h
        rw [← z, q] at h
        cases h
/-- a new object is owned -/
theorem MX.new {p : Addr} {o : HO} {mp : MP} (m : MX an O ρ W σ H) (hp : H p = none) (ho : mp.p (mn H O) o) : MX an (p :: O) ρ (W ++ [(p, mp)]) σ (upd H p o) ∧ mn (upd H p o) (p :: O) = mn H O := by
  have e : mn (upd H p o) (p :: O) = mn H O := funext fun b => by
    by_cases z : b = p
    · subst z
      rw [mn_in List.mem_cons_self]
      by_cases q : b ∈ O
      · rw [mn_in q]
      · rw [mn_out q, hp]
    · by_cases q : b ∈ O
      · rw [mn_in q, mn_in (List.mem_cons_of_mem _ q)]
      · rw [mn_out q, mn_out (fun y => (List.mem_cons.mp y).elim z q), upd_ne z]
  have hne : ∀ c, c ∈ W → c.1 ≠ p := fun c hc z => by
    obtain ⟨_, o, h2, _⟩ := m.wo.at_ c hc
    rw [z, hp] at h2
    cases h2
  refine ⟨⟨m.a0, m.l0, fun b hb => List.mem_cons_of_mem _ (m.sub b hb), fun b hb => ?_, fun b hb => ?_, by rw [e]; exact m.ds, ⟨?_, fun c hc => ?_⟩, fun c hc => ?_, fun b u n q => ?_⟩, e⟩
  · rcases List.mem_cons.mp hb with z | z
    · exact .inr (by rw [z]; exact m.new0 hp)
    · exact m.fr b z
  · rcases List.mem_cons.mp hb with z | z
    · exact ⟨o, by rw [z]; exact upd_same⟩
    · obtain ⟨u, hu⟩ := m.lv b z
      exact ⟨u, by rw [upd_ne (ne_of_none hu hp)]; exact hu⟩
  · rw [List.map_append]
    refine List.nodup_append.mpr ⟨m.wo.nd, by simp, fun a ha b hb => ?_⟩
    obtain ⟨c, hc, e2⟩ := List.mem_map.mp ha
    have hb : b = p := by simpa using hb
    rw [hb, ← e2]
    exact hne c hc
  · rcases List.mem_append.mp hc with h | h
    · obtain ⟨h1, u, h2, h3⟩ := m.wo.at_ c h
      exact ⟨List.mem_cons_of_mem _ h1, u, by rw [upd_ne (hne c h)]; exact h2, by rw [e]; exact h3⟩
    · have h : c = (p, mp) := by simpa using h
      subst h
      exact ⟨List.mem_cons_self, o, upd_same, by rw [e]; exact ho⟩
  · rcases List.mem_append.mp hc with h | h
    · exact m.wa c h
    · have h : c = (p, mp) := by simpa using h
      subst h
      exact .inr (m.new0 hp)
  · have h1 := m.sb b u n q
    rw [upd_ne (ne_of_none h1 hp)]
    exact h1
/-- what is owned last, and by nobody else, is let go -/
theorem MX.free {p : Addr} {mp : MP} {O1 : List Addr} (m : MX an O ρ (W ++ [(p, mp)]) σ H) (h0 : an.H0 p = none) (h1 : ∀ b, b ∈ O1 → b ∈ O) (h2 : ∀ b, b ∈ O → b ≠ p → b ∈ O1) : MX an O1 ρ W σ H ∧ Same (mn H O) (mn H O1) := by
  have sm : Same (mn H O) (mn H O1) := mn_anti h1
  have nd := m.wo.nd
  rw [List.map_append] at nd
  have nd2 := List.nodup_append.mp nd
  have hne : ∀ c, c ∈ W → c.1 ≠ p := fun c hc => nd2.2.2 c.1 (List.mem_map.mpr ⟨c, hc, rfl⟩) p (by simp)
  refine ⟨⟨m.a0, m.l0, fun b hb => h2 b (m.sub b hb) (fun z => ?_), fun b hb => m.fr b (h1 b hb), fun b hb => m.lv b (h1 b hb), m.ds.same sm, ⟨nd2.1, fun c hc => ?_⟩, fun c hc => m.wa c (List.mem_append_left _ hc), m.sb⟩, sm⟩
  · obtain ⟨o, e⟩ := m.l0 b hb
    rw [z, h0] at e
    cases e
  · obtain ⟨q1, o, q2, q3⟩ := m.wo.at_ c (List.mem_append_left _ hc)
    exact ⟨h2 _ q1 (hne c hc), o, q2, c.2.st sm q3⟩
end

/-! ### canonical readings -/
def tV (an : An) (ρ : TF.Env) (W W' : Wd) (P : SP) : TE := fun σ H Q => ∃ O, MX an O ρ W σ H ∧ ∀ v H', MX an O ρ W' σ H' → Same (mn H O) (mn H' O) → P.p (mn H' O) v → Q v H'
def tT (an : An) (ρ : TF.Env) (W W' : Wd) (b : Bool) : TT := fun σ H Q => ∃ O, MX an O ρ W σ H ∧ ∀ H', MX an O ρ W' σ H' → Same (mn H O) (mn H' O) → Q b H'
def tA (an : An) (ρ : TF.Env) (W W' : Wd) (Ps : List SP) : TA := fun σ H Q => ∃ O, MX an O ρ W σ H ∧ ∀ vs H', MX an O ρ W' σ H' → Same (mn H O) (mn H' O) → Sat Ps (mn H' O) vs → Q vs H'
/-- a test that may go either way -/
def tX (an : An) (ρ : TF.Env) (W W' : Wd) : TT := fun σ H Q => ∃ O, MX an O ρ W σ H ∧ ∀ b H', MX an O ρ W' σ H' → Same (mn H O) (mn H' O) → Q b H'
def EX (an : An) (ρ : TF.Env) (W : Wd) (σ : St) (H : Hp) : Prop := ∃ O, MX an O ρ W σ H
structure MEnd (an : An) (W1 : Wd) (R : SP) (v : V) (H' : Hp) : Prop where
  sb : SameB an.A0 an.H0 H'
  wo : WOk W1 an.O0 H'
  rp : R.p (mn H' an.O0) v
def tS (an : An) (ρ : TF.Env) (W : Wd) (N : TF.Env → Wd → Prop) (R : SP) (W1 : Wd) : TS := fun D σ H => ∃ O, MX an O ρ W σ H ∧ (∀ ρ' W' σ' H' O', N ρ' W' → MX an O' ρ' W' σ' H' → Same (mn H O) (mn H' O') → D.nx σ' H') ∧ ∀ v H', MEnd an W1 R v H' → D.rt v H'
abbrev RV (X : Cx) (an : An) (e : Expr) (ρ : TF.Env) (W W' : Wd) (P : SP) : Prop := PE X e (tV an ρ W W' P)
abbrev RT (X : Cx) (an : An) (e : Expr) (ρ : TF.Env) (W W' : Wd) (b : Bool) : Prop := PT X e (tT an ρ W W' b)
abbrev RX (X : Cx) (an : An) (e : Expr) (ρ : TF.Env) (W W' : Wd) : Prop := PT X e (tX an ρ W W')
abbrev RA (X : Cx) (an : An) (es : List Expr) (ρ : TF.Env) (W W' : Wd) (Ps : List SP) : Prop := PA X es (tA an ρ W W' Ps)
abbrev RS (X : Cx) (an : An) (st : Stmt) (ρ : TF.Env) (W : Wd) (N : TF.Env → Wd → Prop) (R : SP) (W1 : Wd) : Prop := PS X st (tS an ρ W N R W1)
abbrev RSs (X : Cx) (an : An) (sts : List Stmt) (ρ : TF.Env) (W : Wd) (N : TF.Env → Wd → Prop) (R : SP) (W1 : Wd) : Prop := PSs X sts (tS an ρ W N R W1)

section
variable {X : Cx}
theorem PEimp {e : Expr} {t t' : TE} (h : PE X e t) (k : ∀ σ H Q, t' σ H Q → t σ H Q) : PE X e t' := ⟨fun pins s σ H Q I q => h.run pins s σ H Q I (k σ H Q q)⟩
theorem PTimp {e : Expr} {t t' : TT} (h : PT X e t) (k : ∀ σ H Q, t' σ H Q → t σ H Q) : PT X e t' := ⟨fun pins s σ H Q I q => h.run pins s σ H Q I (k σ H Q q)⟩
theorem PAimp {e : List Expr} {t t' : TA} (h : PA X e t) (k : ∀ σ H Q, t' σ H Q → t σ H Q) : PA X e t' := ⟨fun pos pins s σ H Q I q => h.run pos pins s σ H Q I (k σ H Q q)⟩
theorem PSimp {e : Stmt} {t t' : TS} (h : PS X e t) (k : ∀ D σ H, t' D σ H → t D σ H) : PS X e t' := ⟨fun pins s σ H D I q => h.run pins s σ H D I (k D σ H q)⟩
theorem PSsimp {e : List Stmt} {t t' : TS} (h : PSs X e t) (k : ∀ D σ H, t' D σ H → t D σ H) : PSs X e t' := ⟨fun pins s σ H D I q => h.run pins s σ H D I (k D σ H q)⟩
/-- for any i: which i is told where it is asked -/
theorem PEex {ι : Type} {e : Expr} {t : ι → TE} (h : ∀ i, PE X e (t i)) : PE X e (fun σ H Q => ∃ i, t i σ H Q) := ⟨fun pins s σ H Q I ⟨i, q⟩ => (h i).run pins s σ H Q I q⟩
theorem PTex {ι : Type} {e : Expr} {t : ι → TT} (h : ∀ i, PT X e (t i)) : PT X e (fun σ H Q => ∃ i, t i σ H Q) := ⟨fun pins s σ H Q I ⟨i, q⟩ => (h i).run pins s σ H Q I q⟩
theorem PSsex {ι : Type} {e : List Stmt} {t : ι → TS} (h : ∀ i, PSs X e (t i)) : PSs X e (fun D σ H => ∃ i, t i D σ H) := ⟨fun pins s σ H D I ⟨i, q⟩ => (h i).run pins s σ H D I q⟩
theorem PSex {ι : Type} {e : Stmt} {t : ι → TS} (h : ∀ i, PS X e (t i)) : PS X e (fun D σ H => ∃ i, t i D σ H) := ⟨fun pins s σ H D I ⟨i, q⟩ => (h i).run pins s σ H D I q⟩
/-- the same under a condition -/
theorem PEifp {p : Prop} {e : Expr} {t : TE} (h : p → PE X e t) : PE X e (fun σ H Q => p ∧ t σ H Q) := ⟨fun pins s σ H Q I ⟨i, q⟩ => (h i).run pins s σ H Q I q⟩
theorem PTifp {p : Prop} {e : Expr} {t : TT} (h : p → PT X e t) : PT X e (fun σ H Q => p ∧ t σ H Q) := ⟨fun pins s σ H Q I ⟨i, q⟩ => (h i).run pins s σ H Q I q⟩
theorem PSsifp {p : Prop} {e : List Stmt} {t : TS} (h : p → PSs X e t) : PSs X e (fun D σ H => p ∧ t D σ H) := ⟨fun pins s σ H D I ⟨i, q⟩ => (h i).run pins s σ H D I q⟩

/-! ### expressions -/
variable {an : An} {W W1 W2 W3 W' : Wd} {e a b c : Expr} {es rest : List Expr} {ρ : TF.Env} {P P' P1 P2 P3 R : SP} {Ps : List SP} {pos pos' : Pos} {K : PySem.W.Frag} {op : Operator} {cop : CmpOp} {r : R2}
theorem rv_sub (h : RV X an e ρ W W' P) (k : Imp P P') : RV X an e ρ W W' P' := PEimp h fun σ H Q ⟨O, m, q⟩ => ⟨O, m, fun v H' m' s p => q v H' m' s (k _ _ p)⟩
theorem rv_to {d d' : PyData} (h : RV X an e ρ W W' (dat K d)) (k : d = d') : RV X an e ρ W W' (dat K d') := k ▸ h
theorem rt_to {b1 b2 : Bool} (h : RT X an e ρ W W' b1) (k : b1 = b2) : RT X an e ρ W W' b2 := k ▸ h
/-- a leaf: nothing is changed -/
theorem rv_leaf {t : TE} (h : PE X e t) (k : ∀ O σ H Q, MX an O ρ W σ H → (∀ v H', Same H H' → P.p (mn H' O) v → Q v H') → t σ H Q) : RV X an e ρ W W P := PEimp h fun σ H Q ⟨O, m, q⟩ => k O σ H Q m fun v H' s p => q v H' (m.same s) (mn_mono s) p
theorem rv_var (i : Nat) {x : Str} (hp : ρ[i]? = some (some P) := by rfl) (hN : X.N[i]? = some x := by rfl) (hv : Vis X.env.scope x := by first | exact Or.inl rfl | exact Or.inr (Or.inl rfl) | exact Or.inr (Or.inr rfl)) (hd : (x == ("__debug__" : Str)) = false := by decide)
    (hcd : (x == ("__classdict__" : Str)) = false := by decide) : RV X an (.Name x pos) ρ W W P := rv_leaf (pe_var hN hv hd hcd) fun O σ H Q m q => by
  obtain ⟨v, h1, h2⟩ := m.ds.2 i P hp
  exact ⟨v, h1, q v H (Same.refl H) h2⟩
theorem rv_int {i : Int} {j : Nat} : RV X an (.Constant (.int i) j pos) ρ W W (dat K (.int i)) := rv_leaf pe_int fun O σ H Q m q => q _ H (Same.refl H) (.int i)
theorem rv_str {i : Str} {j : Nat} : RV X an (.Constant (.str i) j pos) ρ W W (dat K (.str i)) := rv_leaf pe_str fun O σ H Q m q => q _ H (Same.refl H) (.str i)
theorem rv_bl {i : Bool} {j : Nat} : RV X an (.Constant (.bool i) j pos) ρ W W (dat K (.bool i)) := rv_leaf pe_bl fun O σ H Q m q => q _ H (Same.refl H) (.bl i)
theorem rv_non {j : Nat} : RV X an (.Constant .none j pos) ρ W W (dat K .none) := rv_leaf pe_non fun O σ H Q m q => q _ H (Same.refl H) .non
theorem rv_globI {x : Str} {i : Int} (hm : ∃ t, X.mg x = some (.int i t)) (hg : Gl X x := by rfl) (hd : (x == ("__debug__" : Str)) = false := by decide) : RV X an (.Name x pos) ρ W W (dat K (.int i)) := by
  obtain ⟨t, hm⟩ := hm
  exact rv_leaf (pe_glob (v := .int i) hg hm ⟨t, rfl⟩ hd) fun O σ H Q m q => q _ H (Same.refl H) (.int i)
theorem rv_globS {x i : Str} (hm : ∃ t, X.mg x = some (.str i t)) (hg : Gl X x := by rfl) (hd : (x == ("__debug__" : Str)) = false := by decide) : RV X an (.Name x pos) ρ W W (dat K (.str i)) := by
  obtain ⟨t, hm⟩ := hm
  exact rv_leaf (pe_glob (v := .str i) hg hm ⟨t, rfl⟩ hd) fun O σ H Q m q => q _ H (Same.refl H) (.str i)
/-- a global that is an object of the top -/
theorem rv_globR {x : Str} {a : Addr} (hm : X.mg x = some (.ref a)) (hP : ∀ H, P.p H (.ref a)) (hg : Gl X x := by rfl) (hd : (x == ("__debug__" : Str)) = false := by decide) : RV X an (.Name x pos) ρ W W P :=
  rv_leaf (pe_glob (v := .ref a) hg hm rfl hd) fun O σ H Q m q => q _ H (Same.refl H) (hP _)
/-- two values, one behind the other -/
def R2Ok (r : R2) (P1 P2 P : SP) : Prop := ∀ (O : List Addr) (H : Hp) (x y : V) (Q : VK), Live H O → P1.p (mn H O) x → P2.p (mn H O) y → (∀ v H', Same H H' → P.p (mn H' O) v → Q v H') → r x y H Q
theorem tV2 (k : R2Ok r P1 P2 P) (σ : St) (H : Hp) (Q : VK) (q : tV an ρ W W2 P σ H Q) : tV an ρ W W1 P1 σ H fun x H1 => tV an ρ W1 W2 P2 σ H1 fun y H2 => r x y H2 Q := by
  obtain ⟨O, m, q⟩ := q
  refine ⟨O, m, fun x H1 m1 s1 p1 => ⟨O, m1, fun y H2 m2 s2 p2 => ?_⟩⟩
  exact k O H2 x y Q m2.lv (P1.st s2 p1) p2 fun v H' s3 p => q v H' (m2.same s3) ((s1.trans s2).trans (mn_mono s3)) p
theorem rv_op (ho : OpR X (binaryOp op) r) (k : R2Ok r P1 P2 P) (ha : RV X an a ρ W W1 P1) (hb : RV X an b ρ W1 W2 P2) : RV X an (.BinOp a op b pos) ρ W W2 P :=
  PEimp (pe_op ho ha hb) fun σ H Q q => tV2 k σ H Q q
theorem rv_cmp (ho : OpR X (compareOp cop) r) (k : R2Ok r P1 P2 P) (ha : RV X an a ρ W W1 P1) (hb : RV X an b ρ W1 W2 P2) (hm : behindInMarks cop b = false := by first | exact nomark _ | rfl | with_unfolding_all rfl) : RV X an (.Compare a [cop] [b] pos) ρ W W2 P :=
  PEimp (pe_cmpR ho ha hb hm) fun σ H Q q => tV2 k σ H Q q
theorem rt_cmp {v : Bool} (ho : OpR X (compareOp cop) r) (k : R2Ok r P1 P2 (dat K (.bool v))) (ha : RV X an a ρ W W1 P1) (hb : RV X an b ρ W1 W2 P2) (hm : behindInMarks cop b = false := by first | exact nomark _ | rfl | with_unfolding_all rfl) : RT X an (.Compare a [cop] [b] pos) ρ W W2 v :=
  PTimp (pt_cmpR ho ha hb hm) fun σ H Q ⟨O, m, q⟩ => tV2 k σ H _ ⟨O, m, fun u H' m' s p => ⟨v, dat_bool p, q H' m' s⟩⟩
def boolP : SP := ⟨fun _ v => ∃ b, v = .bl b, fun _ h => h⟩
theorem rx_cmp (ho : OpR X (compareOp cop) r) (k : R2Ok r P1 P2 boolP) (ha : RV X an a ρ W W1 P1) (hb : RV X an b ρ W1 W2 P2) (hm : behindInMarks cop b = false := by first | exact nomark _ | rfl | with_unfolding_all rfl) : RX X an (.Compare a [cop] [b] pos) ρ W W2 :=
  PTimp (pt_cmpR ho ha hb hm) fun σ H Q ⟨O, m, q⟩ => tV2 k σ H _ ⟨O, m, fun u H' m' s ⟨v, p⟩ => ⟨v, p, q v H' m' s⟩⟩
theorem rx_of {v : Bool} (h : RT X an e ρ W W' v) : RX X an e ρ W W' := PTimp h fun σ H Q ⟨O, m, q⟩ => ⟨O, m, fun H' m' s => q v H' m' s⟩
theorem rt_val {v : Bool} (h : RV X an e ρ W W' (dat K (.bool v))) (he : ∀ whole, isTrue e X.env whole = (do let v ← whole; standAt e.pos; holding [v] (truthy v)) := by intro _; rfl) : RT X an e ρ W W' v :=
  PTimp (pt_val h he) fun σ H Q ⟨O, m, q⟩ => ⟨O, m, fun u H' m' s p => ⟨v, dat_bool p, q H' m' s⟩⟩
theorem rt_not {v : Bool} (h : RT X an a ρ W W' v) : RT X an (.UnaryOp .Not a pos) ρ W W' (!v) := PTimp (pt_not h) fun σ H Q ⟨O, m, q⟩ => ⟨O, m, fun H' m' s => q H' m' s⟩
theorem rv_not {v : Bool} (h : RV X an a ρ W W' (dat K (.bool v))) : RV X an (.UnaryOp .Not a pos) ρ W W' (dat K (.bool (!v))) := PEimp (pe_not h) fun σ H Q ⟨O, m, q⟩ => ⟨O, m, fun u H' m' s p => ⟨v, dat_bool p, q _ H' m' s (.bl _)⟩⟩
/-- and, or as tests -/
abbrev RW (X : Cx) (an : An) (e : Expr) (ρ : TF.Env) (W W' : Wd) (b : Bool) : Prop := PW X e (tT an ρ W W' b)
abbrev RWX (X : Cx) (an : An) (e : Expr) (ρ : TF.Env) (W W' : Wd) : Prop := PW X e (tX an ρ W W')
theorem rw_and1 {v : Bool} (h : RT X an a ρ W W' v) : RW X an (.BoolOp .And [a] pos) ρ W W' v := pw_and1 h
theorem rw_or1 {v : Bool} (h : RT X an a ρ W W' v) : RW X an (.BoolOp .Or [a] pos) ρ W W' v := pw_or1 h
theorem rwx_and1 (h : RX X an a ρ W W') : RWX X an (.BoolOp .And [a] pos) ρ W W' := pw_and1 h
theorem rwx_or1 (h : RX X an a ρ W W') : RWX X an (.BoolOp .Or [a] pos) ρ W W' := pw_or1 h
theorem PWimp {e : Expr} {t t' : TT} (h : PW X e t) (k : ∀ σ H Q, t' σ H Q → t σ H Q) : PW X e t' := ⟨fun wh pins s σ H Q I q => h.run wh pins s σ H Q I (k σ H Q q)⟩
theorem PWifp {p : Prop} {e : Expr} {t : TT} (h : p → PW X e t) : PW X e (fun σ H Q => p ∧ t σ H Q) := ⟨fun wh pins s σ H Q I ⟨i, q⟩ => (h i).run wh pins s σ H Q I q⟩
theorem rw_and {v w : Bool} (ha : RT X an a ρ W W v) (hb : v = true → RW X an (.BoolOp .And (b :: rest) pos) ρ W W w) : RW X an (.BoolOp .And (a :: b :: rest) pos) ρ W W (v && w) :=
  PWimp (pw_and ha (PWifp hb)) fun σ H Q ⟨O, m, q⟩ => ⟨O, m, fun H1 m1 s1 => by
    cases v with
    | true => exact iteT ⟨rfl, O, m1, fun H2 m2 s2 => q H2 m2 (s1.trans s2)⟩
    | false => exact iteF (q H1 m1 s1)⟩
theorem rw_or {v w : Bool} (ha : RT X an a ρ W W v) (hb : v = false → RW X an (.BoolOp .Or (b :: rest) pos) ρ W W w) : RW X an (.BoolOp .Or (a :: b :: rest) pos) ρ W W (v || w) :=
  PWimp (pw_or ha (PWifp hb)) fun σ H Q ⟨O, m, q⟩ => ⟨O, m, fun H1 m1 s1 => by
    cases v with
    | false => exact iteF ⟨rfl, O, m1, fun H2 m2 s2 => q H2 m2 (s1.trans s2)⟩
    | true => exact iteT (q H1 m1 s1)⟩
/-- weaker tales of what is owned -/
def WImp (W W' : Wd) : Prop := ∀ O H, WOk W O H → WOk W' O H ∧ ∀ c, c ∈ W' → ∃ d, d ∈ W ∧ d.1 = c.1
theorem WImp.refl {W : Wd} : WImp W W := fun O H w => ⟨w, fun c hc => ⟨c, hc, rfl⟩⟩
theorem MX.weak {an : An} {O : List Addr} {ρ : TF.Env} {W W' : Wd} {σ : St} {H : Hp} (k : WImp W W') (m : MX an O ρ W σ H) : MX an O ρ W' σ H := ⟨m.a0, m.l0, m.sub, m.fr, m.lv, m.ds, (k O H m.wo).1, fun c hc => by
  obtain ⟨d, hd, e⟩ := (k O H m.wo).2 c hc
  rw [← e]
  exact m.wa d hd, m.sb⟩
theorem rwx_and (ha : RX X an a ρ W W1) (hb : RWX X an (.BoolOp .And (b :: rest) pos) ρ W1 W2) (k : WImp W1 W2) : RWX X an (.BoolOp .And (a :: b :: rest) pos) ρ W W2 :=
  PWimp (pw_and ha hb) fun σ H Q ⟨O, m, q⟩ => ⟨O, m, fun v H1 m1 s1 => by
    cases v with
    | true => exact iteT ⟨O, m1, fun v2 H2 m2 s2 => q v2 H2 m2 (s1.trans s2)⟩
    | false => exact iteF (q _ H1 (m1.weak k) s1)⟩
theorem rwx_or (ha : RX X an a ρ W W1) (hb : RWX X an (.BoolOp .Or (b :: rest) pos) ρ W1 W2) (k : WImp W1 W2) : RWX X an (.BoolOp .Or (a :: b :: rest) pos) ρ W W2 :=
  PWimp (pw_or ha hb) fun σ H Q ⟨O, m, q⟩ => ⟨O, m, fun v H1 m1 s1 => by
    cases v with
    | false => exact iteF ⟨O, m1, fun v2 H2 m2 s2 => q v2 H2 m2 (s1.trans s2)⟩
    | true => exact iteT (q _ H1 (m1.weak k) s1)⟩
theorem rt_w {v : Bool} (h : RW X an e ρ W W' v) : RT X an e ρ W W' v := PW.pt h
theorem rx_w (h : RWX X an e ρ W W') : RX X an e ρ W W' := PW.pt h
/-- .. as values -/
theorem rv_one {bo : BoolOp} (h : RV X an a ρ W W' P) : RV X an (.BoolOp bo [a] pos) ρ W W' P := pe_one h
theorem rv_and {v w : Bool} (ha : RV X an a ρ W W (dat K (.bool v))) (hb : v = true → RV X an (.BoolOp .And (b :: rest) pos) ρ W W (dat K (.bool w))) : RV X an (.BoolOp .And (a :: b :: rest) pos) ρ W W (dat K (.bool (v && w))) :=
  PEimp (pe_and ha (PEifp hb)) fun σ H Q ⟨O, m, q⟩ => ⟨O, m, fun u H1 m1 s1 p => ⟨v, dat_bool p, by
    cases v with
    | true => exact iteT ⟨rfl, O, m1, fun v' H2 m2 s2 p2 => q v' H2 m2 (s1.trans s2) p2⟩
    | false => exact iteF (q _ H1 m1 s1 (.bl _))⟩⟩
theorem rv_or {v w : Bool} (ha : RV X an a ρ W W (dat K (.bool v))) (hb : v = false → RV X an (.BoolOp .Or (b :: rest) pos) ρ W W (dat K (.bool w))) : RV X an (.BoolOp .Or (a :: b :: rest) pos) ρ W W (dat K (.bool (v || w))) :=
  PEimp (pe_or ha (PEifp hb)) fun σ H Q ⟨O, m, q⟩ => ⟨O, m, fun u H1 m1 s1 p => ⟨v, dat_bool p, by
    cases v with
    | false => exact iteF ⟨rfl, O, m1, fun v' H2 m2 s2 p2 => q v' H2 m2 (s1.trans s2) p2⟩
    | true => exact iteT (q _ H1 m1 s1 (.bl _))⟩⟩
theorem rv_if {v : Bool} (hc : RT X an c ρ W W1 v) (ha : v = true → RV X an a ρ W1 W2 P) (hb : v = false → RV X an b ρ W1 W2 P) : RV X an (.IfExp c a b pos) ρ W W2 P :=
  PEimp (pe_ifExp hc (PEifp ha) (PEifp hb)) fun σ H Q ⟨O, m, q⟩ => ⟨O, m, fun H1 m1 s1 => by
    cases v with
    | true => exact iteT ⟨rfl, O, m1, fun v' H2 m2 s2 p2 => q v' H2 m2 (s1.trans s2) p2⟩
    | false => exact iteF ⟨rfl, O, m1, fun v' H2 m2 s2 p2 => q v' H2 m2 (s1.trans s2) p2⟩⟩
/-! arguments, displays -/
theorem ra_nil : RA X an [] ρ W W [] := PAimp pa_nil fun σ H Q ⟨O, m, q⟩ => q [] H m (Same.refl _) .nil
theorem ra_cons (ha : RV X an e ρ W W1 P) (hr : RA X an es ρ W1 W2 Ps) (hs : starEach (e :: es) X.env = (false, eval e X.env) :: starEach es X.env := by rfl) : RA X an (e :: es) ρ W W2 (P :: Ps) :=
  PAimp (pa_cons ha hr hs) fun σ H Q ⟨O, m, q⟩ => ⟨O, m, fun x H1 m1 s1 p1 => ⟨O, m1, fun xs H2 m2 s2 p2 => q (x :: xs) H2 m2 (s1.trans s2) (.cons (P.st s2 p1) p2)⟩⟩
theorem rv_tup {x1} (h : RA X an es ρ W W' Ps) (hl : Ps.length ≤ 1000 := by exact of_decide_eq_true rfl) : RV X an (.Tuple es x1 pos) ρ W W' (tupP K Ps) :=
  PEimp (pe_tup h) fun σ H Q ⟨O, m, q⟩ => ⟨O, m, fun vs H1 m1 s1 p1 => ⟨Nat.le_of_lt (small1000 (p1.length ▸ hl)), fun p hp => q _ _ (m1.same (same_new hp)) (s1.trans (mn_mono (same_new hp))) ⟨p, vs, rfl, SqT.of (mn_new m1.lv hp), p1.same (mn_mono (same_new hp))⟩⟩⟩
theorem rv_tupD {x1} {ds : List PyData} (h : RA X an es ρ W W' (ds.map (dat K))) (hl : (ds.map (dat K)).length ≤ 1000 := by exact of_decide_eq_true rfl) : RV X an (.Tuple es x1 pos) ρ W W' (dat K (.tuple ds)) := rv_sub (rv_tup (K := K) h hl) fun _ _ => tupP_dat
/-- a new list -/
def lstM (Ps : List SP) : MP := ⟨fun H o => ∃ xs, o = .lst xs ∧ Sat Ps H xs, fun e ⟨xs, h1, h2⟩ => ⟨xs, h1, h2.same e⟩⟩
def tN (an : An) (ρ : TF.Env) (W W' : Wd) (mp : Addr → MP) : TE := fun σ H Q => ∃ O, MX an O ρ W σ H ∧ ∀ p H', ¬ p ∈ O → an.H0 p = none → MX an (p :: O) ρ (W' ++ [(p, mp p)]) σ H' → Same (mn H O) (mn H' (p :: O)) → Q (.ref p) H'
abbrev RN (X : Cx) (an : An) (e : Expr) (ρ : TF.Env) (W W' : Wd) (mp : Addr → MP) : Prop := PE X e (tN an ρ W W' mp)
theorem rn_rv {mp : Addr → MP} (h : RN X an e ρ W W' mp) (k : ∀ H p o, H p = some o → (mp p).p H o → P.p H (.ref p)) : RV X an e ρ W W' P :=
  PEimp h fun σ H Q ⟨O, m, q⟩ => ⟨O, m, fun p H' hp h0 m' s' => by
    obtain ⟨m2, s2⟩ := m'.free (O1 := O) h0 (fun b hb => List.mem_cons_of_mem _ hb) (fun b hb hn => (List.mem_cons.mp hb).elim (fun z => (hn z).elim) id)
    obtain ⟨_, o, h2, h3⟩ := m'.wo.at_ (p, mp p) (by simp)
    exact q _ H' m2 (s'.trans s2) (k _ _ o (by rw [mn_out hp]; exact h2) ((mp p).st s2 h3))⟩
theorem rn_lstT (h : RN X an e ρ W W' (fun _ => lstM Ps)) : RV X an e ρ W W' (lstT Ps) := rn_rv h fun H p o e ⟨xs, e2, sat⟩ => ⟨p, xs, rfl, e2 ▸ e, sat⟩
theorem rn_lst (h : RA X an es ρ W W' Ps) (hl : Ps.length ≤ 1000 := by exact of_decide_eq_true rfl) : RN X an (.List es pos) ρ W W' (fun _ => lstM Ps) :=
  PEimp (pe_lst h) fun σ H Q ⟨O, m, q⟩ => ⟨O, m, fun vs H1 m1 s1 p1 => ⟨Nat.le_of_lt (small1000 (p1.length ▸ hl)), fun p hp => by
    obtain ⟨m2, e2⟩ := m1.new (mp := lstM Ps) hp ⟨vs, rfl, p1⟩
    exact q p _ (m1.lv.new hp) (m1.new0 hp) m2 (by rw [e2]; exact s1)⟩⟩
theorem rv_lst (h : RA X an es ρ W W' Ps) (hl : Ps.length ≤ 1000 := by exact of_decide_eq_true rfl) : RV X an (.List es pos) ρ W W' (lstT Ps) := rn_lstT (rn_lst h hl)
theorem rv_lstD {ds : List PyData} (h : RA X an es ρ W W' (ds.map (dat K))) (hl : (ds.map (dat K)).length ≤ 1000 := by exact of_decide_eq_true rfl) : RV X an (.List es pos) ρ W W' (dat K (.list ds)) := rv_sub (rv_lst h hl) fun _ _ z => lstP_dat (lstT_P z)
/-! calls -/
def CallOk (r : List V → Hp → VK → Prop) (Ps : List SP) (P : SP) : Prop := ∀ (O : List Addr) (H : Hp) (vs : List V) (Q : VK), Live H O → Sat Ps (mn H O) vs → (∀ v H', Same H H' → P.p (mn H' O) v → Q v H') → r vs H Q
def SpOk (sp : Sp) (Ps : List SP) (P : SP) : Prop := CallOk (fun vs H Q => sp vs H Q E0) Ps P
/-- a call that changes what is owned -/
def SpM (sp : Sp) (Ps : List SP) (P : SP) (Wi Wo : Wd) : Prop := ∀ (O : List Addr) (H : Hp) (vs : List V) (Q : VK), Live H O → WOk Wi O H → Sat Ps (mn H O) vs → (∀ v H', SameB (Wi.map Prod.fst) H H' → WOk Wo O H' → P.p (mn H' O) v → Q v H') → sp vs H Q E0
theorem rv_callB {x : Str} {p : Pos} {id : String} {r : List V → Hp → VK → Prop} (hc : CallR X (.builtin id) r) (k : CallOk r Ps P) (hm : X.mg x = none) (ha : RA X an (e :: es) ρ W W' Ps) (hv : bootBuiltins x = some (.builtin id) := by decide +kernel) (hg : Gl X x := by rfl) (hn : x ≠ "__name__" := by decide) (hdb : (x == ("__debug__" : Str)) = false := by decide)
    (he : starEach (e :: es) X.env = (false, eval e X.env) :: starEach es X.env := by rfl) (hpl : (backTo pos (starEach es X.env)).any (·.1) = false := by rfl) : RV X an (.Call (.Name x p) (e :: es) [] pos) ρ W W' P :=
  PEimp (pe_callB hc hg hm hv ha hn hdb he hpl) fun σ H Q ⟨O, m, q⟩ => ⟨O, m, fun vs H1 m1 s1 p1 => k O H1 vs Q m1.lv p1 fun v H' s2 p2 => q v H' (m1.same s2) (s1.trans (mn_mono s2)) p2⟩
theorem rv_callTy {x : Str} {p : Pos} {T : String} {r : List V → Hp → VK → Prop} (hc : CallR X (.type T) r) (k : CallOk r Ps P) (hm : X.mg x = none) (ha : RA X an (e :: es) ρ W W' Ps) (hv : bootBuiltins x = some (.type T) := by decide +kernel) (hg : Gl X x := by rfl) (hn : x ≠ "__name__" := by decide) (hdb : (x == ("__debug__" : Str)) = false := by decide)
    (he : starEach (e :: es) X.env = (false, eval e X.env) :: starEach es X.env := by rfl) (hpl : (backTo pos (starEach es X.env)).any (·.1) = false := by rfl) : RV X an (.Call (.Name x p) (e :: es) [] pos) ρ W W' P :=
  PEimp (pe_callTy hc hg hm hv ha hn hdb he hpl) fun σ H Q ⟨O, m, q⟩ => ⟨O, m, fun vs H1 m1 s1 p1 => k O H1 vs Q m1.lv p1 fun v H' s2 p2 => q v H' (m1.same s2) (s1.trans (mn_mono s2)) p2⟩
theorem rv_callM {CX : CXT} {k : Nat} {f : Addr} {fd : FuncData} {ps : List Str} {sp : Sp} {x : Str} {p : Pos} {Wi Wo Wr : Wd} (F : FnOk X.prog X.w X.K X.mg X.base CX k f fd ps sp) (kk : SpM sp Ps P Wi Wo) (ho : Wo.map Prod.fst = Wi.map Prod.fst) (hr : Room k X.A) (hm : X.mg x = some (.ref f)) (hk : PySem.W.keepIn X.K (.ref f) = true) (hb : Binds X.K fd ps []) (hx : Passes CX X E0)
    (ha : RA X an (e :: es) ρ W (Wi ++ Wr) Ps) (hg : Gl X x := by rfl) (hdb : (x == ("__debug__" : Str)) = false := by decide) (he : starEach (e :: es) X.env = (false, eval e X.env) :: starEach es X.env := by rfl) (hpl : (backTo pos (starEach es X.env)).any (·.1) = false := by rfl) : RV X an (.Call (.Name x p) (e :: es) [] pos) ρ W (Wo ++ Wr) P :=
  PEimp (pe_call F hr hg hm hk hb .nil hx ha hdb he hpl) fun σ H Q ⟨O, m, q⟩ => ⟨O, m, fun vs H1 m1 s1 p1 => by
    show sp (vs ++ []) H1 Q E0
    rw [List.append_nil]
    refine kk O H1 vs Q m1.lv ⟨?_, fun c hc => m1.wo.at_ c (List.mem_append_left _ hc)⟩ p1 fun v H' sb wo p2 => ?_
    · have nd := m1.wo.nd
      rw [List.map_append] at nd
      exact (List.nodup_append.mp nd).1
    · obtain ⟨m2, s2⟩ := m1.call sb wo ho
      exact q v H' m2 (s1.trans s2) p2⟩
theorem rv_call {CX : CXT} {k : Nat} {f : Addr} {fd : FuncData} {ps : List Str} {sp : Sp} {x : Str} {p : Pos} (F : FnOk X.prog X.w X.K X.mg X.base CX k f fd ps sp) (kk : SpOk sp Ps P) (hr : Room k X.A) (hm : X.mg x = some (.ref f)) (hk : PySem.W.keepIn X.K (.ref f) = true) (hb : Binds X.K fd ps []) (hx : Passes CX X E0)
    (ha : RA X an (e :: es) ρ W W' Ps) (hg : Gl X x := by rfl) (hdb : (x == ("__debug__" : Str)) = false := by decide) (he : starEach (e :: es) X.env = (false, eval e X.env) :: starEach es X.env := by rfl) (hpl : (backTo pos (starEach es X.env)).any (·.1) = false := by rfl) : RV X an (.Call (.Name x p) (e :: es) [] pos) ρ W W' P :=
  PEimp (pe_call F hr hg hm hk hb .nil hx ha hdb he hpl) fun σ H Q ⟨O, m, q⟩ => ⟨O, m, fun vs H1 m1 s1 p1 => by
    show sp (vs ++ []) H1 Q E0
    rw [List.append_nil]
    exact kk O H1 vs Q m1.lv p1 fun v H' s2 p2 => q v H' (m1.same s2) (s1.trans (mn_mono s2)) p2⟩
/-- what an instance is, of a class -/
def InsP (C : Addr) (P : SP) (m : Str) : Prop := ∀ H v, P.p H v → ∃ a dx fs, v = .ref a ∧ H a = some (.ins C dx fs) ∧ fs.lookup m = none
theorem rv_meth {CX : CXT} {k : Nat} {f C : Addr} {fd : FuncData} {ps : List Str} {sp : Sp} {m : Str} {o : Expr} {apos : Pos} {pl : Sem Bool} (ho : RV X an o ρ W W1 P1) (hi : InsP C P1 m) (c : Cls X.K C) (hm : Meth X.K C m f) (F : FnOk X.prog X.w X.K X.mg X.base CX k f fd ps sp) (kk : SpOk sp (P1 :: Ps) P) (hr : Room k X.A)
    (hb : Binds X.K fd ps []) (hx : Passes CX X E0) (ha : RA X an (e :: es) ρ W1 W2 Ps) (hst : starEach (e :: es) X.env = (false, eval e X.env) :: starEach es X.env := by rfl) (hpl : (backTo pos (starEach es X.env)).any (·.1) = false := by rfl)
    (ht : eval (.Call (.Attribute o m apos) (e :: es) [] pos) X.env = (do
      let ov ← eval o X.env
      standAt apos.atName
      let (f, first) ← holding [ov] (getMethod ov m pl)
      callWith pos f first (backTo pos (starEach (e :: es) X.env)) (backToKw pos (keywordEach [] X.env))) := by rfl) : RV X an (.Call (.Attribute o m apos) (e :: es) [] pos) ρ W W2 P :=
  PEimp (pe_meth ho c hm F hr hb .nil hx ha hst hpl ht) fun σ H Q ⟨O, mx, q⟩ => ⟨O, mx, fun u H1 m1 s1 p1 => by
    obtain ⟨a, dx, fs, e1, e2, e3⟩ := hi _ _ p1
    refine ⟨a, dx, fs, e1, mn_at e2, e3, O, m1, fun vs H2 m2 s2 p2 => ?_⟩
    show sp (u :: (vs ++ [])) H2 Q E0
    rw [List.append_nil]
    exact kk O H2 (u :: vs) Q m2.lv (.cons (P1.st s2 p1) p2) fun v H' s3 p3 => q v H' (m2.same s3) ((s1.trans s2).trans (mn_mono s3)) p3⟩
/-- e.f of an instance -/
def FldP (K : PySem.W.Frag) (P : SP) (f : Str) (P' : SP) : Prop := ∀ H v, P.p H v → ∃ a C dx fs u, v = .ref a ∧ H a = some (.ins C dx fs) ∧ Cls K C ∧ NoAttr K C f ∧ fs.lookup f = some u ∧ P'.p H u
theorem rv_fld {f : Str} (he : RV X an e ρ W W' P) (k : FldP X.K P f P') (hb : attributeBase e f X.env (eval e X.env) = eval e X.env := by rfl) : RV X an (.Attribute e f pos) ρ W W' P' :=
  PEimp (pe_fld he hb) fun σ H Q ⟨O, m, q⟩ => ⟨O, m, fun u H1 m1 s1 p1 => by
    obtain ⟨a, C, dx, fs, w, e1, e2, e3, e4, e5, e6⟩ := k _ _ p1
    exact ⟨a, C, dx, fs, w, e1, mn_at e2, e3, e4, e5, q w H1 m1 s1 e6⟩⟩
/-- a[b] by values -/
theorem rv_ix (hr : IxR X r) (k : R2Ok r P1 P2 P) (ha : RV X an a ρ W W1 P1) (hb : RV X an b ρ W1 W2 P2) (hs : PlainIx b := by exact fun _ _ => rfl) : RV X an (.Subscript a b pos) ρ W W2 P := PEimp (pe_ix hr ha hb hs) fun σ H Q q => tV2 k σ H Q q
end
end TF
set_option Elab.async false
set_option linter.all false
set_option maxRecDepth 100000
set_option maxHeartbeats 4000000
/-! M2: what is walked, targets, comprehensions, statements, promises. -/
namespace TF
open PySem PySem.Spec L2
open PyProof.Rows (envOfC)

/-! ### what is walked -/
/-- the i-th item, as it is told in any frame that has what O had -/
def YFr (H' : Hp) (O : List Addr) (Y : Nat → SP) : Nat → Hp → V → Hp → Prop := fun i H1 x H2 => Same H1 H2 ∧ ∀ O', Live H1 O' → Same (mn H' O) (mn H1 O') → (Y i).p (mn H2 O') x
def tI (an : An) (ρ : TF.Env) (W W' : Wd) (Y : Nat → SP) (n : Nat) : TI := fun σ H R => ∃ O, MX an O ρ W σ H ∧ ∀ (J : It) (H' : Hp), MX an O ρ W' σ H' → Same (mn H O) (mn H' O) → n ≤ sizeLine → Walk J n (fun H1 => Same (mn H' O) H1) (YFr H' O Y) → R J H'
abbrev RI (X : Cx) (an : An) (tg it : Expr) (ρ : TF.Env) (W W' : Wd) (Y : Nat → SP) (n : Nat) : Prop := PI X tg it (tI an ρ W W' Y n)
section
variable {X : Cx} {an : An} {W W' : Wd} {tg e : Expr} {ρ : TF.Env} {P : SP} {Ps : List SP}
theorem ri_list (he : RV X an e ρ W W' (lstP X.K Ps)) : RI X an tg e ρ W W' (fun i => Ps.getD i default) Ps.length := by
  refine ⟨fun pins s σ H R I ⟨O, m, h⟩ => ?_⟩
  refine thn (he.run pins s σ H (fun v H' => MX an O ρ W' σ H' ∧ Same (mn H O) (mn H' O) ∧ (lstP X.K Ps).p (mn H' O) v) I ⟨O, m, fun v H' m' s p => ⟨m', s, p⟩⟩) fun v s1 ⟨x, H1, I1, r1, m1, ss, a, xs, ex, hq, sat⟩ => ?_
  subst ex
  cases r1
  have hq1 : SqL X.K H1 a xs := mn_le.seq hq
  obtain ⟨its, rv, p, hz⟩ := I1.list hq1
  refine PySem.wpAny_pyIter_list p.isList ?_
  refine ⟨s1.heap.objs.size, [s1.heap.objs.size], _, _, H1, rfl, I1.kept (t' := s1.toks) fun b o e => Heap.get?_push_of_some _ e, turn_list a _, ⟨_, Heap.get?_push_size _ rfl, rfl, rfl⟩, fun b hb => ?_, ?_⟩
  · have e : b = s1.heap.objs.size := by simpa using hb
    subst e
    exact I1.fpOk (Nat.le_refl _) (I1.hok.fresh (Nat.le_refl _))
  · refine h (Itl X.K a) H1 m1 ss (by rw [sat.length]; exact hz) ?_
    rw [sat.length]
    refine (walk_list (K := X.K) (a := a) (xs := xs)).mono (fun H2 s2 => s2.seq hq) fun i H2 y H3 hi s2 yy => ?_
    obtain ⟨e3, hy⟩ := yy
    subst e3
    exact ⟨Same.refl _, fun O' _ s3 => (sat.same s3).get hy⟩
theorem ri_tup (he : RV X an e ρ W W' (tupP X.K Ps)) : RI X an tg e ρ W W' (fun i => Ps.getD i default) Ps.length := by
  refine ⟨fun pins s σ H R I ⟨O, m, h⟩ => ?_⟩
  refine thn (he.run pins s σ H (fun v H' => MX an O ρ W' σ H' ∧ Same (mn H O) (mn H' O) ∧ (tupP X.K Ps).p (mn H' O) v) I ⟨O, m, fun v H' m' s p => ⟨m', s, p⟩⟩) fun v s1 ⟨x, H1, I1, r1, m1, ss, a, xs, ex, hq, sat⟩ => ?_
  subst ex
  cases r1
  have hq1 : SqT X.K H1 a xs := same_t mn_le hq
  obtain ⟨its, rv, p, hz⟩ := I1.tuple hq1
  refine PySem.wpAny_pyIter_tuple (show s1.heap.IsTuple a its.toArray from p) ?_
  refine ⟨s1.heap.objs.size, [s1.heap.objs.size], _, _, H1, rfl, I1.kept (t' := s1.toks) fun b o e => Heap.get?_push_of_some _ e, turn_tuple a _, ⟨_, Heap.get?_push_size _ rfl, rfl, rfl⟩, fun b hb => ?_, ?_⟩
  · have e : b = s1.heap.objs.size := by simpa using hb
    subst e
    exact I1.fpOk (Nat.le_refl _) (I1.hok.fresh (Nat.le_refl _))
  · refine h (Itt X.K a) H1 m1 ss (by rw [sat.length]; exact hz) ?_
    rw [sat.length]
    refine (walk_tup (K := X.K) (a := a) (xs := xs)).mono (fun H2 s2 => same_t s2 hq) fun i H2 y H3 hi s2 yy => ?_
    obtain ⟨e3, hy⟩ := yy
    subst e3
    exact ⟨Same.refl _, fun O' _ s3 => (sat.same s3).get hy⟩
theorem ri_sub {Y Y' : Nat → SP} {n : Nat} (h : RI X an tg e ρ W W' Y n) (k : ∀ i, i < n → Imp (Y i) (Y' i)) : RI X an tg e ρ W W' Y' n :=
  ⟨fun pins s σ H R I ⟨O, m, q⟩ => h.run pins s σ H R I ⟨O, m, fun J H' m' ss hn w => q J H' m' ss hn (w.mono (fun _ z => z) fun i H1 x H2 hi g y => ⟨y.1, fun O' l' s' => k i hi _ _ (y.2 O' l' s')⟩)⟩⟩
theorem getD_map {α : Type} {f : α → SP} {l : List α} {d : α} {i : Nat} (h : i < l.length) : (l.map f).getD i default = f (l.getD i d) := by
  rw [List.getD_eq_getElem?_getD, List.getD_eq_getElem?_getD, List.getElem?_map, List.getElem?_eq_getElem h]
  rfl
theorem ri_listD {ds : List PyData} (he : RV X an e ρ W W' (dat X.K (.list ds))) : RI X an tg e ρ W W' (fun i => dat X.K (ds.getD i .none)) ds.length := by
  have h := ri_sub (Y' := fun i => dat X.K (ds.getD i .none)) (ri_list (tg := tg) (rv_sub he fun _ _ => dat_lstP)) fun i hi => by
    rw [List.length_map] at hi
    rw [getD_map (d := PyData.none) hi]
    exact Imp.refl
  rw [List.length_map] at h
  exact h
theorem ri_tupD {ds : List PyData} (he : RV X an e ρ W W' (dat X.K (.tuple ds))) : RI X an tg e ρ W W' (fun i => dat X.K (ds.getD i .none)) ds.length := by
  have h := ri_sub (Y' := fun i => dat X.K (ds.getD i .none)) (ri_tup (tg := tg) (rv_sub he fun _ _ => dat_tupP)) fun i hi => by
    rw [List.length_map] at hi
    rw [getD_map (d := PyData.none) hi]
    exact Imp.refl
  rw [List.length_map] at h
  exact h
/-- range(n) -/
theorem ri_lstT (he : RV X an e ρ W W' (lstT Ps)) : RI X an tg e ρ W W' (fun i => Ps.getD i default) Ps.length := ri_list (rv_sub he fun _ _ => lstT_P)
end

/-! ### targets -/
def setL (σ : St) : List Nat → List V → St
  | j :: js, x :: xs => setL (σ.set j (some x)) js xs
  | _, _ => σ
theorem wipe_set {σ : St} {j : Nat} {x : Option V} : ∀ {vs : List Nat}, j ∈ vs → L2.wipe (σ.set j x) vs = L2.wipe σ vs
  | v :: vs, h => by
    unfold L2.wipe
    by_cases hv : j ∈ vs
    · rw [wipe_set hv]
    · have e : j = v := by
        rcases List.mem_cons.mp h with e | e
        · exact e
        · exact absurd e hv
      subst e
      have key : ∀ (ws : List Nat), ¬ j ∈ ws → L2.wipe (σ.set j x) ws = (L2.wipe σ ws).set j x := by
        intro ws
        induction ws with
        | nil => intro _; rfl
        | cons u us ih =>
          intro hn
          unfold L2.wipe
          rw [ih fun z => hn (List.mem_cons_of_mem _ z), List.set_comm]
          exact fun z => hn (z ▸ List.mem_cons_self)
      rw [key vs hv, List.set_set]
theorem wipe_wipe {σ : St} : ∀ {us vs : List Nat}, (∀ u, u ∈ us → u ∈ vs) → L2.wipe (L2.wipe σ us) vs = L2.wipe σ vs
  | [], _, _ => rfl
  | u :: us, vs, h => by
    show L2.wipe ((L2.wipe σ us).set u none) vs = _
    rw [wipe_set (h u List.mem_cons_self)]
    exact wipe_wipe fun z hz => h z (List.mem_cons_of_mem _ hz)
theorem wipe_setL : ∀ {js : List Nat} {xs : List V} {σ : St} {vs : List Nat}, (∀ j, j ∈ js → j ∈ vs) → L2.wipe (setL σ js xs) vs = L2.wipe σ vs
  | [], _, _, _, _ => rfl
  | j :: js, [], _, _, _ => rfl
  | j :: js, x :: xs, σ, vs, h => by
    show L2.wipe (setL (σ.set j (some x)) js xs) vs = _
    rw [wipe_setL fun z hz => h z (List.mem_cons_of_mem _ hz), wipe_set (h j List.mem_cons_self)]
def GOk (g : TG) (P : SP) (js : List Nat) (f : TF.Env → TF.Env) : Prop := ∀ (O : List Addr) (ρ : TF.Env) (σ : St) (H : Hp) (v : V) (Q : St → Hp → Prop), Live H O → DS ρ σ (mn H O) → P.p (mn H O) v → (∀ xs, DS (f ρ) (setL σ js xs) (mn H O) → Q (setL σ js xs) H) → g v σ H Q
def GsOk (g : TGs) (Ps : List SP) (js : List Nat) (f : TF.Env → TF.Env) : Prop := ∀ (O : List Addr) (ρ : TF.Env) (σ : St) (H : Hp) (vs : List V) (Q : St → Hp → Prop), Live H O → DS ρ σ (mn H O) → Sat Ps (mn H O) vs → (∀ xs, DS (f ρ) (setL σ js xs) (mn H O) → Q (setL σ js xs) H) → g vs σ H Q
theorem gk_name {P : SP} {j : Nat} : GOk (gName j) P [j] (fun ρ => ρ.set j (some P)) := fun O ρ σ H v Q l d p q => q [v] (d.set j p)
theorem gks_nil : GsOk gNil [] [] (fun ρ => ρ) := fun O ρ σ H vs Q l d p q => by
  cases p
  exact ⟨rfl, q [] d⟩
theorem gks_cons {j : Nat} {g : TGs} {P : SP} {Ps : List SP} {js : List Nat} {f : TF.Env → TF.Env} (h : GsOk g Ps js f) : GsOk (gCons (gName j) g) (P :: Ps) (j :: js) (fun ρ => f (ρ.set j (some P))) := fun O ρ σ H vs Q l d p q => by
  cases p with
  | cons p1 p2 => exact ⟨_, _, rfl, h O _ _ H _ Q l (d.set j p1) p2 fun xs dd => q (_ :: xs) dd⟩
theorem gk_tup {K : PySem.W.Frag} {n : Nat} {g : TGs} {Ps : List SP} {js : List Nat} {f : TF.Env → TF.Env} (h : GsOk g Ps js f) (hn : Ps.length = n := by rfl) : GOk (gTup K n g) (tupP K Ps) js f := fun O ρ σ H v Q l d ⟨a, xs, e, hq, sat⟩ q =>
  ⟨a, xs, e, same_t mn_le hq, by rw [← sat.length, hn], h O ρ σ H xs Q l d sat q⟩
theorem gk_sub {g : TG} {P P' : SP} {js : List Nat} {f : TF.Env → TF.Env} (h : GOk g P' js f) (k : Imp P P') : GOk g P js f := fun O ρ σ H v Q l d p q => h O ρ σ H v Q l d (k _ _ p) q
theorem gk_tupD {K : PySem.W.Frag} {n : Nat} {g : TGs} {ds : List PyData} {js : List Nat} {f : TF.Env → TF.Env} (h : GsOk g (ds.map (dat K)) js f) (hn : (ds.map (dat K)).length = n := by rfl) : GOk (gTup K n g) (dat K (.tuple ds)) js f := gk_sub (gk_tup h hn) fun _ _ => dat_tupP

/-! ### comprehensions -/
def selP (n : Nat) (bt : Nat → Bool) (E : Nat → SP) : List SP := ((List.range n).filter bt).map E
theorem selP_yes {n : Nat} {bt : Nat → Bool} {E : Nat → SP} (h : bt n = true) : selP (n + 1) bt E = selP n bt E ++ [E n] := by
  unfold selP
  rw [List.range_succ, List.filter_append, List.map_append, List.filter_cons, if_pos h] <;> rfl
theorem selP_no {n : Nat} {bt : Nat → Bool} {E : Nat → SP} (h : bt n = false) : selP (n + 1) bt E = selP n bt E := by
  unfold selP
  rw [List.range_succ, List.filter_append, List.map_append, List.filter_cons, if_neg (by rw [h]; decide)]
  show _ ++ [] = _
  rw [List.append_nil]
theorem selP_len (n : Nat) (bt : Nat → Bool) (E : Nat → SP) : (selP n bt E).length ≤ n := by
  unfold selP
  rw [List.length_map]
  have h := List.length_filter_le bt (List.range n)
  rw [List.length_range] at h
  exact h
theorem range_getD {α : Type} {d : α} : ∀ (l : List α), (List.range l.length).map (fun i => l.getD i d) = l := fun l => by
  refine List.ext_getElem (by simp) fun i h1 h2 => ?_
  simp [List.getD_eq_getElem?_getD, h2]
/-- told by the items -/
theorem selP_items {α : Type} {d : α} (l : List α) (t : α → Bool) (e : α → SP) : selP l.length (fun i => t (l.getD i d)) (fun i => e (l.getD i d)) = (l.filter t).map e := by
  unfold selP
  have h := range_getD (d := d) l
  conv => rhs; rw [← h]
  rw [List.filter_map, List.map_map]
  rfl

section
variable {X : Cx} {an : An} {K : PySem.W.Frag} {elt tg iter : Expr} {ifs : List Expr} {scope : Scope} {own : List (Str × Nat)} {js : List Nat} {pos : Pos} {g : TG} {ρ : TF.Env} {W : Wd} {Wf : Nat → Wd} {Y E : Nat → SP} {n : Nat} {bt : Nat → Bool} {f : Nat → TF.Env → TF.Env}
theorem PTsex {ι : Type} {e : List Expr} {t : ι → TT} (h : ∀ i, PTs X e (t i)) : PTs X e (fun σ H Q => ∃ i, t i σ H Q) := ⟨fun pins s σ H Q I ⟨i, q⟩ => (h i).run pins s σ H Q I q⟩
theorem PTsifp {p : Prop} {e : List Expr} {t : TT} (h : p → PTs X e t) : PTs X e (fun σ H Q => p ∧ t σ H Q) := ⟨fun pins s σ H Q I ⟨i, q⟩ => (h i).run pins s σ H Q I q⟩
abbrev RTs (X : Cx) (an : An) (ifs : List Expr) (ρ : TF.Env) (W : Wd) (b : Bool) : Prop := PTs X ifs (tT an ρ W W b)
theorem PTsimp {e : List Expr} {t t' : TT} (h : PTs X e t) (k : ∀ σ H Q, t' σ H Q → t σ H Q) : PTs X e t' := ⟨fun pins s σ H Q I q => h.run pins s σ H Q I (k σ H Q q)⟩
theorem rts_nil : RTs X an [] ρ W true := PTsimp pts_nil fun σ H Q ⟨O, m, q⟩ => q H m (Same.refl _)
theorem rts_one {c : Expr} {b : Bool} (h : RT X an c ρ W W b) : RTs X an [c] ρ W b := pts_one h
/-- the tests, the element at turn i, one below n -/
def tTi (an : An) (n : Nat) (r : Nat → TF.Env) (Wf : Nat → Wd) (bt : Nat → Bool) : TT := fun σ H Q => ∃ q : Nat × (Addr × MP), q.1 < n ∧ tT an (r q.1) (Wf q.1 ++ [q.2]) (Wf q.1 ++ [q.2]) (bt q.1) σ H Q
def tVi (an : An) (n : Nat) (r : Nat → TF.Env) (Wf : Nat → Wd) (bt : Nat → Bool) (E : Nat → SP) : TE := fun σ H Q => ∃ q : Nat × (Addr × MP), (q.1 < n ∧ bt q.1 = true) ∧ tV an (r q.1) (Wf q.1 ++ [q.2]) (Wf (q.1 + 1) ++ [q.2]) (E q.1) σ H Q
theorem set_last {W : Wd} {c d : Addr × MP} : (W ++ [c]).set W.length d = W ++ [d] := by
  induction W with
  | nil => rfl
  | cons x W ih =>
    show x :: (W ++ [c]).set W.length d = _
    rw [ih]
    rfl
theorem get_last {W : Wd} {c : Addr × MP} : (W ++ [c])[W.length]? = some c := by simp
theorem lc_read {vs : List Nat} {σ : St} {H : Hp} {Q : VK} (hk : ∀ i, i < n → GOk g (Y i) js (f i)) (hjs : ∀ j, j ∈ js → j ∈ vs) (hw : ∀ i, i < n → bt i = false → Wf (i + 1) = Wf i) (h : tN an ρ W (Wf n) (fun _ => lstM (selP n bt E)) σ H Q) :
    tLc (tI an ρ W (Wf 0) Y n) g (tTi an n (fun i => f i (wipeE ρ vs)) Wf bt) (tVi an n (fun i => f i (wipeE ρ vs)) Wf bt E) vs σ H Q := by
  obtain ⟨O, m, q⟩ := h
  refine ⟨O, m, fun J H' m' ss hn w D hD => ?_⟩
  obtain ⟨mD, eD⟩ := m'.new (mp := lstM []) (o := .lst []) hD ⟨[], rfl, .nil⟩
  refine lc_it (H1 := H') w (fun i H1 => MX an (D :: O) ρ (Wf i ++ [(D, lstM (selP i bt E))]) σ H1 ∧ Same (mn H' O) (mn H1 (D :: O))) ⟨mD, by rw [eD]; exact Same.refl _⟩ (fun i H1 _ p => p.2.trans mn_le) ?_ ?_
  · rintro i x H1 H2 hi ⟨m1, s1⟩ ⟨s2, py⟩
    have m2 := m1.same s2
    have s12 : Same (mn H' O) (mn H2 (D :: O)) := s1.trans (mn_mono s2)
    have py2 : (Y i).p (mn H2 (D :: O)) x := py (D :: O) m1.lv s1
    refine hk i hi (D :: O) (wipeE ρ vs) (L2.wipe σ vs) H2 x _ m2.lv (m2.ds.wipe vs) py2 fun xs ds => ?_
    refine ⟨by rw [wipe_setL hjs]; exact wipe_wipe fun u hu => hu, ?_⟩
    refine ⟨(i, (D, lstM (selP i bt E))), hi, D :: O, m2.re ds, fun H3 m3 s3 => ?_⟩
    cases hb : bt i with
    | false =>
      refine iteF ⟨?_, s12.trans s3⟩
      rw [selP_no hb, hw i hi hb]
      exact m3.re (m2.ds.same s3)
    | true =>
      refine iteT ⟨(i, (D, lstM (selP i bt E))), ⟨hi, hb⟩, D :: O, m3, fun y H4 m4 s4 pe => ?_⟩
      obtain ⟨_, o, e4, acc, eo, sat⟩ := m4.wo.at_ (D, lstM (selP i bt E)) (by simp)
      subst eo
      refine ⟨acc, e4, ?_, ?_⟩
      · have := selP_len i bt E
        have := sat.length
        omega
      · obtain ⟨m5, s5⟩ := m4.put (m' := lstM (selP (i + 1) bt E)) (o' := .lst (acc ++ [y])) get_last ⟨_, rfl, by rw [selP_yes hb]; exact sat.snoc pe⟩
        rw [set_last] at m5
        have sx : Same (mn H2 (D :: O)) (mn (upd H4 D (.lst (acc ++ [y]))) (D :: O)) := (s3.trans s4).trans s5
        exact ⟨m5.re (m2.ds.same sx), s12.trans sx⟩
  · rintro H1 ⟨m1, s1⟩
    exact q D H1 (m'.lv.new hD) (m'.new0 hD) m1 (ss.trans s1)
/-- of_decide by the kernel's reckoning -/
theorem blk {N : List Str} {sc scope : Scope} {own : List (Str × Nat)} (h : (decide (scope.kind = .function) && scope.names.all (fun y => decide (scope.names.lookup y.1 = some y.2)) && own.all (fun p => decide (N[p.2]? = some p.1)) && scope.names.all (fun y => !decide (y.2 = .free) || (decide (sc.names.lookup y.1 = some .cell) || decide (sc.names.lookup y.1 = some .free))) && scope.names.all (fun y => !(decide (y.2 = .local) || decide (y.2 = .cell)) || (decide (y.1 ∈ own.map (·.1)) || !decide (y.1 ∈ N)))) = true) : BlkOk N sc scope own := by
  simp only [Bool.and_eq_true] at h
  obtain ⟨⟨⟨⟨h1, h2⟩, h3⟩, h4⟩, h5⟩ := h
  refine ⟨of_decide_eq_true h1, fun y hy => of_decide_eq_true (List.all_eq_true.mp h2 y hy), fun p hp => of_decide_eq_true (List.all_eq_true.mp h3 p hp), fun y hy e => ?_, fun y hy e => ?_⟩
  · have z := List.all_eq_true.mp h4 y hy
    simpa [e] using z
  · have z := List.all_eq_true.mp h5 y hy
    rcases e with e | e <;> simpa [e] using z
theorem rn_lc (hi : RI X an tg iter ρ W (Wf 0) Y n) (hg : ∀ (s : Shared) (H : Hp) (C : Addr) (cl : List (Str × Addr)) (fp : List Addr), PG (X.blk s H scope (compEnvC scope cl C X.env) fp) tg g)
    (hk : ∀ i, i < n → GOk g (Y i) js (f i)) (hjs : ∀ j, j ∈ js → j ∈ own.map (·.2)) (hw : ∀ i, i < n → bt i = false → Wf (i + 1) = Wf i)
    (ht : ∀ (s : Shared) (H : Hp) (C : Addr) (cl : List (Str × Addr)) (fp : List Addr) (i : Nat) (c : Addr × MP), i < n → RTs (X.blk s H scope (compEnvC scope cl C X.env) fp) an ifs (f i (wipeE ρ (own.map (·.2)))) (Wf i ++ [c]) (bt i))
    (he : ∀ (s : Shared) (H : Hp) (C : Addr) (cl : List (Str × Addr)) (fp : List Addr) (i : Nat) (c : Addr × MP), i < n → bt i = true → RV (X.blk s H scope (compEnvC scope cl C X.env) fp) an elt (f i (wipeE ρ (own.map (·.2)))) (Wf i ++ [c]) (Wf (i + 1) ++ [c]) (E i))
    (ok : BlkOk X.N X.env.scope scope own := by exact blk (by kernel_rfl)) (hc : X.calm = true := by rfl) (hN : X.N.Nodup := by exact of_decide_eq_true (by kernel_rfl)) (hs : ∀ x, foldedSetIterable iter X.env x = pure x := by intro _; rfl) : RN X an (.ListComp elt [⟨tg, iter, ifs, 0⟩] scope pos) ρ W (Wf n) (fun _ => lstM (selP n bt E)) :=
  PEimp (pe_lc hc hN hi ok hg (fun s H C cl fp => PTsex fun q => PTsifp fun h => ht s H C cl fp q.1 q.2 h) (fun s H C cl fp => PEex fun q => PEifp fun h => he s H C cl fp q.1 q.2 h.1 h.2) hs) fun σ H Q q => lc_read hk hjs hw q
/-- what changes nothing that is owned -/
theorem rn_lcP {W' : Wd} (hi : RI X an tg iter ρ W W' Y n) (hg : ∀ (s : Shared) (H : Hp) (C : Addr) (cl : List (Str × Addr)) (fp : List Addr), PG (X.blk s H scope (compEnvC scope cl C X.env) fp) tg g)
    (hk : ∀ i, i < n → GOk g (Y i) js (f i)) (hjs : ∀ j, j ∈ js → j ∈ own.map (·.2))
    (ht : ∀ (s : Shared) (H : Hp) (C : Addr) (cl : List (Str × Addr)) (fp : List Addr) (i : Nat) (W : Wd), i < n → RTs (X.blk s H scope (compEnvC scope cl C X.env) fp) an ifs (f i (wipeE ρ (own.map (·.2)))) W (bt i))
    (he : ∀ (s : Shared) (H : Hp) (C : Addr) (cl : List (Str × Addr)) (fp : List Addr) (i : Nat) (W : Wd), i < n → bt i = true → RV (X.blk s H scope (compEnvC scope cl C X.env) fp) an elt (f i (wipeE ρ (own.map (·.2)))) W W (E i))
    (ok : BlkOk X.N X.env.scope scope own := by exact blk (by kernel_rfl)) (hc : X.calm = true := by rfl) (hN : X.N.Nodup := by exact of_decide_eq_true (by kernel_rfl)) (hs : ∀ x, foldedSetIterable iter X.env x = pure x := by intro _; rfl) : RN X an (.ListComp elt [⟨tg, iter, ifs, 0⟩] scope pos) ρ W W' (fun _ => lstM (selP n bt E)) :=
  rn_lc (Wf := fun _ => W') hi hg hk hjs (fun _ _ _ => rfl) (fun s H C cl fp i c h => ht s H C cl fp i _ h) (fun s H C cl fp i c h hb => he s H C cl fp i _ h hb) ok hc hN hs
theorem rv_lc {W' : Wd} (hi : RI X an tg iter ρ W W' Y n) (hg : ∀ (s : Shared) (H : Hp) (C : Addr) (cl : List (Str × Addr)) (fp : List Addr), PG (X.blk s H scope (compEnvC scope cl C X.env) fp) tg g)
    (hk : ∀ i, i < n → GOk g (Y i) js (f i)) (hjs : ∀ j, j ∈ js → j ∈ own.map (·.2))
    (ht : ∀ (s : Shared) (H : Hp) (C : Addr) (cl : List (Str × Addr)) (fp : List Addr) (i : Nat) (W : Wd), i < n → RTs (X.blk s H scope (compEnvC scope cl C X.env) fp) an ifs (f i (wipeE ρ (own.map (·.2)))) W (bt i))
    (he : ∀ (s : Shared) (H : Hp) (C : Addr) (cl : List (Str × Addr)) (fp : List Addr) (i : Nat) (W : Wd), i < n → bt i = true → RV (X.blk s H scope (compEnvC scope cl C X.env) fp) an elt (f i (wipeE ρ (own.map (·.2)))) W W (E i))
    (ok : BlkOk X.N X.env.scope scope own := by exact blk (by kernel_rfl)) (hc : X.calm = true := by rfl) (hN : X.N.Nodup := by exact of_decide_eq_true (by kernel_rfl)) (hs : ∀ x, foldedSetIterable iter X.env x = pure x := by intro _; rfl) : RV X an (.ListComp elt [⟨tg, iter, ifs, 0⟩] scope pos) ρ W W' (lstT (selP n bt E)) :=
  rn_lstT (rn_lcP hi hg hk hjs ht he ok hc hN hs)
end

/-! ### statements -/
section
variable {X : Cx} {an : An} {K : PySem.W.Frag} {ρ : TF.Env} {W W' Wz : Wd} {P R : SP} {N N1 N2 : TF.Env → Wd → Prop} {st : Stmt} {rest thn els body : List Stmt} {e c tg it : Expr} {pos pos' : Pos}
theorem rs_nil (h : N ρ W) : RSs X an [] ρ W N R Wz := PSsimp pss_nil fun D σ H ⟨O, m, nx, rt⟩ => nx ρ W σ H O h m (Same.refl _)
theorem rs_cons (h1 : RS X an st ρ W N1 R Wz) (h2 : ∀ ρ1 W1, N1 ρ1 W1 → RSs X an rest ρ1 W1 N R Wz) : RSs X an (st :: rest) ρ W N R Wz :=
  PSsimp (pss_cons h1 (PSsex (ι := TF.Env × Wd) fun q => PSsifp (h2 q.1 q.2))) fun D σ H ⟨O, m, nx, rt⟩ => ⟨O, m, fun ρ1 W1 σ1 H1 O1 h m1 s1 => ⟨(ρ1, W1), h, O1, m1, fun ρ' W' σ' H' O' h' m' s' => nx ρ' W' σ' H' O' h' m' (s1.trans s'), rt⟩, rt⟩
theorem rs_one (h1 : RS X an st ρ W N R Wz) : RSs X an [st] ρ W N R Wz := PSsimp (pss_one h1) fun D σ H q => q
/-- what is owned at the end is owned -/
def WEnd (an : An) (W' Wz : Wd) : Prop := (Wz.map Prod.fst).Nodup ∧ ∀ c, c ∈ Wz → c.1 ∈ an.O0 ∧ ∃ d, d ∈ W' ∧ d.1 = c.1 ∧ ∀ H o, d.2.p H o → c.2.p H o
theorem WEnd.nil : WEnd an W' [] := ⟨List.nodup_nil, fun c hc => by simp at hc⟩
theorem MX.end_ {an : An} {O : List Addr} {ρ : TF.Env} {W Wz : Wd} {σ : St} {H : Hp} {R : SP} {v : V} (m : MX an O ρ W σ H) (k : WEnd an W Wz) (p : R.p (mn H O) v) : MEnd an Wz R v H := ⟨m.sb, ⟨k.1, fun c hc => by
  obtain ⟨h1, d, h2, h3, h4⟩ := k.2 c hc
  obtain ⟨_, o, h5, h6⟩ := m.wo.at_ d h2
  exact ⟨h1, o, h3 ▸ h5, c.2.st (mn_anti m.sub) (h4 _ _ h6)⟩⟩, R.st (mn_anti m.sub) p⟩
theorem rs_retW (he : RV X an e ρ W W' R) (k : WEnd an W' Wz) : RS X an (.Return (some e) pos) ρ W N R Wz := PSimp (ps_ret he) fun D σ H ⟨O, m, nx, rt⟩ => ⟨O, m, fun v H' m' s' p => rt v H' (m'.end_ k p)⟩
theorem rs_ret (he : RV X an e ρ W W' R) : RS X an (.Return (some e) pos) ρ W N R [] := rs_retW he WEnd.nil
theorem rs_end (he : RV X an e ρ W W' R) : RSs X an [.Return (some e) pos] ρ W N R [] := rs_one (rs_ret he)
theorem rs_endW (he : RV X an e ρ W W' R) (k : WEnd an W' Wz) : RSs X an [.Return (some e) pos] ρ W N R Wz := rs_one (rs_retW he k)
theorem rs_asg {g : TG} {js : List Nat} {f : TF.Env → TF.Env} (he : RV X an e ρ W W' P) (hg : PG X tg g) (hk : GOk g P js f) (h : RSs X an rest (f ρ) W' N R Wz) (hs : swapsWithSole [tg] e pos.line X.env = pure false := by rfl) (hw : swappedStores [tg] e X.env = pure none := by rfl)
    (h1 : (assignEach [tg] X.env).map (·.2) = [assign tg X.env] := by rfl) : RSs X an (.Assign [tg] e pos :: rest) ρ W N R Wz :=
  rs_cons (N1 := fun ρ1 W1 => ρ1 = f ρ ∧ W1 = W') (PSimp (ps_asg he hg hs hw h1) fun D σ H ⟨O, m, nx, rt⟩ => ⟨O, m, fun v H1 m1 s1 p1 => hk O ρ σ H1 v _ m1.lv m1.ds p1 fun xs dd => nx _ _ _ _ O ⟨rfl, rfl⟩ (m1.re dd) s1⟩) fun ρ1 W1 ⟨e1, e2⟩ => e1 ▸ e2 ▸ h
theorem rs_set (i : Nat) {x : Str} (he : RV X an e ρ W W' P) (h : RSs X an rest (ρ.set i (some P)) W' N R Wz) (hN : X.N.Nodup := by exact of_decide_eq_true (by kernel_rfl)) (hi : X.N[i]? = some x := by rfl) (hx : Loc X.env.scope x := by first | exact Or.inl rfl | exact Or.inr rfl) (hs : swapsWith e (some (.Name x pos')) pos.line X.env = pure false := by rfl)
    (hf : X.fn x = true ∨ X.env.scope.names.lookup x = some .local := by first | exact .inl rfl | exact .inr rfl) : RSs X an (.Assign [.Name x pos'] e pos :: rest) ρ W N R Wz :=
  rs_cons (N1 := fun ρ1 W1 => ρ1 = ρ.set i (some P) ∧ W1 = W') (PSimp (ps_set hN hi hx he hs hf) fun D σ H ⟨O, m, nx, rt⟩ => ⟨O, m, fun v H1 m1 s1 p1 => nx _ _ _ _ O ⟨rfl, rfl⟩ (m1.re (m1.ds.set i p1)) s1⟩) fun ρ1 W1 ⟨e1, e2⟩ => e1 ▸ e2 ▸ h
/-- the thing at b itself -/
def refP (b : Addr) : SP := ⟨fun _ v => v = .ref b, fun _ h => h⟩
/-- a new thing, owned -/
theorem rs_new (i : Nat) {x : Str} {mp : Addr → MP} (he : RN X an e ρ W W' mp) (h : ∀ b, an.H0 b = none → RSs X an rest (ρ.set i (some (refP b))) (W' ++ [(b, mp b)]) N R Wz) (hN : X.N.Nodup := by exact of_decide_eq_true (by kernel_rfl)) (hi : X.N[i]? = some x := by rfl) (hx : Loc X.env.scope x := by first | exact Or.inl rfl | exact Or.inr rfl) (hs : swapsWith e (some (.Name x pos')) pos.line X.env = pure false := by rfl)
    (hf : X.fn x = true ∨ X.env.scope.names.lookup x = some .local := by first | exact .inl rfl | exact .inr rfl) : RSs X an (.Assign [.Name x pos'] e pos :: rest) ρ W N R Wz :=
  rs_cons (N1 := fun ρ1 W1 => ∃ b, an.H0 b = none ∧ ρ1 = ρ.set i (some (refP b)) ∧ W1 = W' ++ [(b, mp b)]) (PSimp (ps_set hN hi hx he hs hf) fun D σ H ⟨O, m, nx, rt⟩ => ⟨O, m, fun p H1 hp h0 m1 s1 => nx _ _ _ _ (p :: O) ⟨p, h0, rfl, rfl⟩ (m1.re (m1.ds.set i rfl)) s1⟩) fun ρ1 W1 ⟨b, h0, e1, e2⟩ => e1 ▸ e2 ▸ h b h0
/-- y = [..] -/
theorem rs_setLc (i : Nat) {y : Str} {py : Pos} {elt iter : Expr} {ifs : List Expr} {scope : Scope} {own : List (Str × Nat)} {spos : Pos} {js : List Nat} {g : TG} {Y E : Nat → SP} {n : Nat} {bt : Nat → Bool} {f : Nat → TF.Env → TF.Env} {Wf : Nat → Wd} (hi : RI X an tg iter ρ W (Wf 0) Y n)
    (hg : ∀ (s : Shared) (H : Hp) (C : Addr) (cl : List (Str × Addr)) (fp : List Addr), PG (X.blk s H scope (compEnvC scope cl C X.env) fp) tg g)
    (hk : ∀ i, i < n → GOk g (Y i) js (f i)) (hjs : ∀ j, j ∈ js → j ∈ own.map (·.2)) (hw : ∀ i, i < n → bt i = false → Wf (i + 1) = Wf i)
    (ht : ∀ (s : Shared) (H : Hp) (C : Addr) (cl : List (Str × Addr)) (fp : List Addr) (i : Nat) (c : Addr × MP), i < n → RTs (X.blk s H scope (compEnvC scope cl C X.env) fp) an ifs (f i (wipeE ρ (own.map (·.2)))) (Wf i ++ [c]) (bt i))
    (he : ∀ (s : Shared) (H : Hp) (C : Addr) (cl : List (Str × Addr)) (fp : List Addr) (i : Nat) (c : Addr × MP), i < n → bt i = true → RV (X.blk s H scope (compEnvC scope cl C X.env) fp) an elt (f i (wipeE ρ (own.map (·.2)))) (Wf i ++ [c]) (Wf (i + 1) ++ [c]) (E i))
    (h : ∀ b, an.H0 b = none → RSs X an rest (ρ.set i (some (refP b))) (Wf n ++ [(b, lstM (selP n bt E))]) N R Wz)
    (ok : BlkOk X.N X.env.scope scope own := by exact blk (by kernel_rfl)) (hc : X.calm = true := by rfl) (hN : X.N.Nodup := by exact of_decide_eq_true (by kernel_rfl)) (hy : X.N[i]? = some y := by rfl) (hyl : X.env.scope.names.lookup y = some .local := by rfl)
    (hsw : swapsWith (.ListComp elt [⟨tg, iter, ifs, 0⟩] scope pos) (some (.Name y py)) spos.line X.env = pure true := by exact sw_true rfl rfl rfl (by kernel_rfl)) (hs : ∀ x, foldedSetIterable iter X.env x = pure x := by intro _; rfl) :
    RSs X an (.Assign [.Name y py] (.ListComp elt [⟨tg, iter, ifs, 0⟩] scope pos) spos :: rest) ρ W N R Wz :=
  rs_cons (N1 := fun ρ1 W1 => ∃ b, an.H0 b = none ∧ ρ1 = ρ.set i (some (refP b)) ∧ W1 = Wf n ++ [(b, lstM (selP n bt E))]) (PSimp (ps_setLc hc hN hy hyl hsw hi ok hg (fun s H C cl fp => PTsex fun q => PTsifp fun h => ht s H C cl fp q.1 q.2 h) (fun s H C cl fp => PEex fun q => PEifp fun h => he s H C cl fp q.1 q.2 h.1 h.2) hs)
    fun D σ H ⟨O, m, nx, rt⟩ => lc_read hk hjs hw ⟨O, m, fun p H1 hp h0 m1 s1 => nx _ _ _ _ (p :: O) ⟨p, h0, rfl, rfl⟩ (m1.re (m1.ds.set i rfl)) s1⟩) fun ρ1 W1 ⟨b, h0, e1, e2⟩ => e1 ▸ e2 ▸ h b h0
/-- what is owned last is let go -/
theorem rs_free {b : Addr} {mp : MP} (i : Nat) (h0 : an.H0 b = none) (hi : ρ[i]? = some (some (refP b))) (k : ∀ H o, H b = some o → mp.p H o → P.p H (.ref b)) (h : RSs X an rest (ρ.set i (some P)) W N R Wz) : RSs X an rest ρ (W ++ [(b, mp)]) N R Wz :=
  PSsimp h fun D σ H ⟨O, m, nx, rt⟩ => by
    have hb : ¬ b ∈ O.filter (fun x => decide (x ≠ b)) := fun z => by simpa using (List.mem_filter.mp z).2
    obtain ⟨m2, s2⟩ := m.free (O1 := O.filter fun x => decide (x ≠ b)) h0 (fun x hx => (List.mem_filter.mp hx).1) (fun x hx hn => List.mem_filter.mpr ⟨hx, decide_eq_true hn⟩)
    obtain ⟨_, o, h2, h3⟩ := m.wo.at_ (b, mp) (by simp)
    obtain ⟨v, v1, v2⟩ := m2.ds.2 i _ hi
    have v2 : v = .ref b := v2
    subst v2
    have pv : P.p (mn H (O.filter fun x => decide (x ≠ b))) (.ref b) := k _ o (by rw [mn_out hb]; exact h2) (mp.st s2 h3)
    have ds2 : DS (ρ.set i (some P)) σ (mn H (O.filter fun x => decide (x ≠ b))) := by
      have z := m2.ds.set i pv
      have e : σ.set i (some (V.ref b)) = σ := by
        obtain ⟨hl, e⟩ := List.getElem?_eq_some_iff.mp v1
        rw [← e]
        exact List.set_getElem_self hl
      rw [e] at z
      exact z
    exact ⟨_, m2.re ds2, fun ρ' W' σ' H' O' hn m' s' => nx ρ' W' σ' H' O' hn m' (s2.trans s'), rt⟩
theorem rs_freeT {b : Addr} {Ps : List SP} (i : Nat) (h0 : an.H0 b = none) (h : RSs X an rest (ρ.set i (some (lstT Ps))) W N R Wz) (hi : ρ[i]? = some (some (refP b)) := by rfl) : RSs X an rest ρ (W ++ [(b, lstM Ps)]) N R Wz :=
  rs_free (P := lstT Ps) (mp := lstM Ps) i h0 hi (fun H o e ⟨xs, e2, sat⟩ => ⟨b, xs, rfl, e2 ▸ e, sat⟩) h
/-- .. and forgotten -/
theorem rs_drop {c : Addr × MP} (h : RSs X an rest ρ W N R Wz) : RSs X an rest ρ (W ++ [c]) N R Wz :=
  PSsimp h fun D σ H ⟨O, m, nx, rt⟩ => ⟨O, ⟨m.a0, m.l0, m.sub, m.fr, m.lv, m.ds, ⟨by
    have nd := m.wo.nd
    rw [List.map_append] at nd
    exact (List.nodup_append.mp nd).1, fun c hc => m.wo.at_ c (List.mem_append_left _ hc)⟩, fun c hc => m.wa c (List.mem_append_left _ hc), m.sb⟩, nx, rt⟩
theorem rs_expr (he : RV X an e ρ W W' P) (h : RSs X an rest ρ W' N R Wz) (hs : swapsWith e none pos.line X.env = pure false := by rfl) : RSs X an (.Expr e pos :: rest) ρ W N R Wz :=
  rs_cons (N1 := fun ρ1 W1 => ρ1 = ρ ∧ W1 = W') (PSimp (ps_expr he hs) fun D σ H ⟨O, m, nx, rt⟩ => ⟨O, m, fun v H1 m1 s1 p1 => nx _ _ _ _ O ⟨rfl, rfl⟩ m1 s1⟩) fun ρ1 W1 ⟨e1, e2⟩ => e1 ▸ e2 ▸ h
theorem rs_ifS {v : Bool} (hc : RT X an c ρ W W' v) (ha : v = true → RSs X an thn ρ W' N R Wz) (hb : v = false → RSs X an els ρ W' N R Wz) : RS X an (.If c thn els pos) ρ W N R Wz :=
  PSimp (ps_if hc (PSsifp ha) (PSsifp hb)) fun D σ H ⟨O, m, nx, rt⟩ => ⟨O, m, fun H1 m1 s1 => by
    cases v with
    | true => exact iteT ⟨rfl, O, m1, fun ρ' W' σ' H' O' h' m' s' => nx ρ' W' σ' H' O' h' m' (s1.trans s'), rt⟩
    | false => exact iteF ⟨rfl, O, m1, fun ρ' W' σ' H' O' h' m' s' => nx ρ' W' σ' H' O' h' m' (s1.trans s'), rt⟩⟩
theorem rs_ifX (hc : RX X an c ρ W W') (ha : RSs X an thn ρ W' N R Wz) (hb : RSs X an els ρ W' N R Wz) : RS X an (.If c thn els pos) ρ W N R Wz :=
  PSimp (ps_if hc ha hb) fun D σ H ⟨O, m, nx, rt⟩ => ⟨O, m, fun v H1 m1 s1 => by
    cases v with
    | true => exact iteT ⟨O, m1, fun ρ' W' σ' H' O' h' m' s' => nx ρ' W' σ' H' O' h' m' (s1.trans s'), rt⟩
    | false => exact iteF ⟨O, m1, fun ρ' W' σ' H' O' h' m' s' => nx ρ' W' σ' H' O' h' m' (s1.trans s'), rt⟩⟩
theorem rs_imp (h : RSs X an body ρ W N1 R Wz) (k : ∀ ρ' W', N1 ρ' W' → N ρ' W') : RSs X an body ρ W N R Wz := PSsimp h fun D σ H ⟨O, m, nx, rt⟩ => ⟨O, m, fun ρ' W' σ' H' O' h' m' s' => nx ρ' W' σ' H' O' (k _ _ h') m' s', rt⟩
theorem rs_impS (h : RS X an st ρ W N1 R Wz) (k : ∀ ρ' W', N1 ρ' W' → N ρ' W') : RS X an st ρ W N R Wz := PSimp h fun D σ H ⟨O, m, nx, rt⟩ => ⟨O, m, fun ρ' W' σ' H' O' h' m' s' => nx ρ' W' σ' H' O' (k _ _ h') m' s', rt⟩
/-- if c: what returns -/
theorem rs_when {v : Bool} (hc : RT X an c ρ W W' v) (ha : v = true → RSs X an thn ρ W' (fun _ _ => False) R Wz) (hb : v = false → RSs X an rest ρ W' N R Wz) : RSs X an (.If c thn [] pos :: rest) ρ W N R Wz :=
  rs_cons (N1 := fun ρ1 W1 => v = false ∧ ρ1 = ρ ∧ W1 = W') (rs_ifS hc (fun h => rs_imp (ha h) fun _ _ z => z.elim) (fun h => rs_nil ⟨h, rfl, rfl⟩)) fun ρ1 W1 ⟨h, e1, e2⟩ => e1 ▸ e2 ▸ hb h
/-- a loop: I by the turn, what the slots are known to hold, what is owned -/
theorem rs_for {g : TG} {js : List Nat} {f : Nat → TF.Env → TF.Env} {Y : Nat → SP} {n : Nat} (hi : RI X an tg it ρ W W' Y n) (hg : PG X tg g) (hk : ∀ i, i < n → GOk g (Y i) js (f i)) (I : Nat → TF.Env → Wd → Prop) (h0 : I 0 ρ W')
    (hs : ∀ i ρ' W1, i < n → I i ρ' W1 → RSs X an body (f i ρ') W1 (I (i + 1)) R Wz) (hp : PassesOwn (model X.prog X.w) X.A X.env X.xe := by exact PassesOwn.never) (hc : X.calm = true := by rfl) (hf : ∀ x, foldedSetIterable it X.env x = pure x := by intro _; rfl) :
    RS X an (.For tg it body [] pos) ρ W (I n) R Wz :=
  PSimp (ps_for hp hc hi hg (PSsex (ι := Nat × TF.Env × Wd) fun q => PSsifp (p := q.1 < n ∧ I q.1 q.2.1 q.2.2) fun h => hs q.1 q.2.1 q.2.2 h.1 h.2) hf) fun D σ H ⟨O, m, nx, rt⟩ => ⟨O, m, fun J H' m' ss hn w => by
    refine for_it w (g := g) (tb := fun D σ H => ∃ i : Nat × TF.Env × Wd, (i.1 < n ∧ I i.1 i.2.1 i.2.2) ∧ tS an (f i.1 i.2.1) i.2.2 (I (i.1 + 1)) R Wz D σ H) (D := D) (fun i σ' H1 => ∃ ρ' W1 O1, I i ρ' W1 ∧ MX an O1 ρ' W1 σ' H1 ∧ Same (mn H' O) (mn H1 O1)) ⟨ρ, W', O, h0, m', Same.refl _⟩ (fun i σ' H1 _ ⟨_, _, _, _, _, s1⟩ => s1.trans mn_le) ?_ ?_
    · rintro i x σ' H1 H2 hin ⟨ρ', W1, O1, hI, m1, s1⟩ ⟨s2, py⟩
      have m2 := m1.same s2
      refine hk i hin O1 ρ' σ' H2 x _ m2.lv m2.ds (py O1 m1.lv s1) fun xs dd => ?_
      exact ⟨(i, ρ', W1), ⟨hin, hI⟩, O1, m2.re dd, fun ρ2 W2 σ2 H3 O3 h3 m3 s3 => ⟨ρ2, W2, O3, h3, m3, (s1.trans (mn_mono s2)).trans s3⟩, rt⟩
    · rintro σ' H1 ⟨ρ', W1, O1, hI, m1, s1⟩
      exact nx ρ' W1 σ' H1 O1 hI m1 (ss.trans s1)⟩
/-- what is known to be one of many is one -/
def exP {ι : Type} (f : ι → SP) : SP := ⟨fun H v => ∃ i, (f i).p H v, fun e ⟨i, h⟩ => ⟨i, (f i).st e h⟩⟩
theorem rs_open {ι : Type} {f : ι → SP} (i : Nat) (h : ∀ j, RSs X an rest (ρ.set i (some (f j))) W N R Wz) (hi : ρ[i]? = some (some (exP f)) := by rfl) : RSs X an rest ρ W N R Wz :=
  PSsimp (PSsex h) fun D σ H ⟨O, m, nx, rt⟩ => by
    obtain ⟨v, v1, j, v2⟩ := m.ds.2 i _ hi
    refine ⟨j, O, m.re ?_, nx, rt⟩
    have z := m.ds.set i v2
    have e : σ.set i (some v) = σ := by
      obtain ⟨hl, e⟩ := List.getElem?_eq_some_iff.mp v1
      rw [← e]
      exact List.set_getElem_self hl
    rw [e] at z
    exact z
/-- less is known -/
theorem rs_weak {ρ1 : TF.Env} {W1 : Wd} (s : Sub ρ1 ρ) (k : WImp W W1) (h : RSs X an rest ρ1 W1 N R Wz) : RSs X an rest ρ W N R Wz :=
  PSsimp h fun D σ H ⟨O, m, nx, rt⟩ => ⟨O, (m.re (m.ds.sub s)).weak k, nx, rt⟩
end

/-! ### promises -/
/-- Wi: what is owned by the caller and may be changed; Wo: what it is then -/
def mkSp {ι : Type} (A : ι → List SP) (Wi Wo : ι → Wd) (pre : ι → Prop) (R : ι → SP) : Sp := fun vs H Q _ => ∃ i O, Live H O ∧ WOk (Wi i) O H ∧ Sat (A i) (mn H O) vs ∧ pre i ∧ ∀ v H', SameB ((Wi i).map Prod.fst) H H' → WOk (Wo i) O H' → (R i).p (mn H' O) v → Q v H'
abbrev pureSp {ι : Type} (A : ι → List SP) (pre : ι → Prop) (R : ι → SP) : Sp := mkSp A (fun _ => []) (fun _ => []) pre R
theorem pureSp_ok {ι : Type} {A : ι → List SP} {pre : ι → Prop} {R : ι → SP} (i : ι) (h : pre i) : SpOk (pureSp A pre R) (A i) (R i) := fun O H vs Q l s k => ⟨i, O, l, WOk.nil, s, h, fun v H' sb _ p => k v H' (SameB.nil sb) p⟩
theorem mkSp_ok {ι : Type} {A : ι → List SP} {Wi Wo : ι → Wd} {pre : ι → Prop} {R : ι → SP} (i : ι) (h : pre i) : SpM (mkSp A Wi Wo pre R) (A i) (R i) (Wi i) (Wo i) := fun O H vs Q l w s k => ⟨i, O, l, w, s, h, k⟩
section
variable {P : Program} {w : World} {K : PySem.W.Frag} {mg : Str → Option Value} {base : Heap} {x qual : Str} {params : Arguments} {body : List Stmt} {scope : Scope} {dvs : List V} {kws : List (Str × V)} {f : Addr} {fd : FuncData}
/-- slots at the entry -/
def env0 (N : List Str) (Ps : List SP) : TF.Env := Ps.map some ++ List.replicate (N.length - Ps.length) none
theorem start_MX {Ps : List SP} {W : Wd} {N : List Str} {O : List Addr} {H : Hp} {vs : List V} (l : Live H O) (w : WOk W O H) (s : Sat Ps (mn H O) vs) : MX ⟨H, W.map Prod.fst, O⟩ O (env0 N Ps) W (L2.start N vs) H :=
  ⟨fun b hb => by
    obtain ⟨c, hc, e⟩ := List.mem_map.mp hb
    rw [← e]
    exact (w.at_ c hc).1, l, fun b hb => hb, fun b hb => .inl hb, l, DS.start s, w, fun c hc => .inl (List.mem_map.mpr ⟨c, hc, rfl⟩), SameB.refl _⟩
theorem okM {ι : Type} {A : ι → List SP} {Wi Wo : ι → Wd} {pre : ι → Prop} {R : ι → SP} {N ps : List Str} {k : Nat} (F : FunD K x qual params body scope dvs kws f fd) (S : FnScope N ps scope) (hl : ∀ i, (A i).length = ps.length)
    (h : ∀ (cdv : Value) (A1 : Around) (outer : List PySem.Env) (s : Shared) (H : Hp) (E : XK), Room k (A1.deeper (envOfC qual scope s.heap.objs.size f cdv)) → ∀ i, pre i → ∀ an : An, (∀ c, c ∈ Wi i → c.1 ∈ an.O0) →
      RSs (cxOf CX0 P w K mg base N qual scope f cdv A1 outer s H E).nox an body (env0 N (A i)) (Wi i) (fun _ W => WEnd an W (Wo i) ∧ ∀ H, (R i).p H .non) (R i) (Wo i)) : FnOk P w K mg base CX0 (k + 1) f fd ps (mkSp A Wi Wo pre R) := by
  refine F.ok S (fun vs H Q E q => ?_) (fun cdv A1 outer s H vs Q E hr q => ?_)
  · obtain ⟨i, O, l, wo, sat, _⟩ := q
    rw [← sat.length, hl]
  · obtain ⟨i, O, l, wo, sat, hp, q⟩ := q
    refine ⟨_, (h cdv A1 outer s H E hr i hp ⟨H, (Wi i).map Prod.fst, O⟩ fun c hc => (wo.at_ c hc).1).nox, O, start_MX l wo sat, fun ρ' W' σ' H' O' hn m' s' => ?_, fun v H' e => q v H' e.sb e.wo e.rp⟩
    have e := m'.end_ (R := R i) (v := .non) hn.1 (hn.2 _)
    exact q .non H' e.sb e.wo e.rp
/-- what changes nothing -/
theorem okPure {ι : Type} {A : ι → List SP} {pre : ι → Prop} {R : ι → SP} {N ps : List Str} {k : Nat} (F : FunD K x qual params body scope dvs kws f fd) (S : FnScope N ps scope) (hl : ∀ i, (A i).length = ps.length)
    (h : ∀ (cdv : Value) (A1 : Around) (outer : List PySem.Env) (s : Shared) (H : Hp) (E : XK), Room k (A1.deeper (envOfC qual scope s.heap.objs.size f cdv)) → ∀ i, pre i → ∀ an : An,
      RSs (cxOf CX0 P w K mg base N qual scope f cdv A1 outer s H E).nox an body (env0 N (A i)) [] (fun _ _ => ∀ H, (R i).p H .non) (R i) []) : FnOk P w K mg base CX0 (k + 1) f fd ps (pureSp A pre R) :=
  okM F S hl fun cdv A1 outer s H E hr i hp an _ => rs_imp (h cdv A1 outer s H E hr i hp an) fun ρ' W' z => ⟨WEnd.nil, z⟩
end
end TF
set_option Elab.async false
set_option linter.all false
set_option maxRecDepth 100000
set_option maxHeartbeats 4000000
/-! M3: operators, built-ins by what they make of data. -/
namespace TF
open PySem PySem.Spec L2
section
variable {X : Cx} {an : An} {W W1 W2 W' : Wd} {K : PySem.W.Frag} {a b e : Expr} {es : List Expr} {ρ : TF.Env} {P P1 P2 : SP} {Ps Rs : List SP} {pos pos' : Pos} {i j : Int} {x y : Str}
theorem k_I {g : Int → Int → V} {d : PyData} (h : ∀ H, Dp K H (g i j) d) : R2Ok (rI0 g) (dat K (.int i)) (dat K (.int j)) (dat K d) := fun O H v w Q l p1 p2 q => ⟨i, j, dat_int p1, dat_int p2, q _ H (Same.refl H) (h _)⟩
theorem k_IC {C : Int → Int → Prop} {g : Int → Int → V} {d : PyData} (hc : C i j) (h : ∀ H, Dp K H (g i j) d) : R2Ok (rI C g) (dat K (.int i)) (dat K (.int j)) (dat K d) := fun O H v w Q l p1 p2 q => ⟨i, j, dat_int p1, dat_int p2, hc, q _ H (Same.refl H) (h _)⟩
theorem rv_add (ha : RV X an a ρ W W1 (dat K (.int i))) (hb : RV X an b ρ W1 W2 (dat K (.int j))) : RV X an (.BinOp a .Add b pos) ρ W W2 (dat K (.int (i + j))) := rv_op op_add (k_I fun _ => .int _) ha hb
theorem rv_subI (ha : RV X an a ρ W W1 (dat K (.int i))) (hb : RV X an b ρ W1 W2 (dat K (.int j))) : RV X an (.BinOp a .Sub b pos) ρ W W2 (dat K (.int (i - j))) := rv_op op_sub (k_I fun _ => .int _) ha hb
theorem rv_mul (hc : CMul i j) (ha : RV X an a ρ W W1 (dat K (.int i))) (hb : RV X an b ρ W1 W2 (dat K (.int j))) : RV X an (.BinOp a .Mult b pos) ρ W W2 (dat K (.int (i * j))) := rv_op op_mul (k_IC hc fun _ => .int _) ha hb
theorem rv_mod (hc : j ≠ 0) (ha : RV X an a ρ W W1 (dat K (.int i))) (hb : RV X an b ρ W1 W2 (dat K (.int j))) : RV X an (.BinOp a .Mod b pos) ρ W W2 (dat K (.int (i.fmod j))) := rv_op op_modN (k_IC hc fun _ => .int _) ha hb
theorem rv_fdiv (hc : CDiv i j) (ha : RV X an a ρ W W1 (dat K (.int i))) (hb : RV X an b ρ W1 W2 (dat K (.int j))) : RV X an (.BinOp a .FloorDiv b pos) ρ W W2 (dat K (.int (i / j))) := rv_op op_fdiv (k_IC hc fun _ => .int _) ha hb
theorem rv_lt (ha : RV X an a ρ W W1 (dat K (.int i))) (hb : RV X an b ρ W1 W2 (dat K (.int j))) : RV X an (.Compare a [.Lt] [b] pos) ρ W W2 (dat K (.bool (decide (i < j)))) := rv_cmp op_lt (k_I fun _ => .bl _) ha hb
theorem rv_le (ha : RV X an a ρ W W1 (dat K (.int i))) (hb : RV X an b ρ W1 W2 (dat K (.int j))) : RV X an (.Compare a [.LtE] [b] pos) ρ W W2 (dat K (.bool (decide (i ≤ j)))) := rv_cmp op_le (k_I fun _ => .bl _) ha hb
theorem rv_gt (ha : RV X an a ρ W W1 (dat K (.int i))) (hb : RV X an b ρ W1 W2 (dat K (.int j))) : RV X an (.Compare a [.Gt] [b] pos) ρ W W2 (dat K (.bool (decide (j < i)))) := rv_cmp op_gt (k_I fun _ => .bl _) ha hb
theorem rv_ge (ha : RV X an a ρ W W1 (dat K (.int i))) (hb : RV X an b ρ W1 W2 (dat K (.int j))) : RV X an (.Compare a [.GtE] [b] pos) ρ W W2 (dat K (.bool (decide (j ≤ i)))) := rv_cmp op_ge (k_I fun _ => .bl _) ha hb
theorem rt_lt (ha : RV X an a ρ W W1 (dat K (.int i))) (hb : RV X an b ρ W1 W2 (dat K (.int j))) : RT X an (.Compare a [.Lt] [b] pos) ρ W W2 (decide (i < j)) := rt_cmp (K := K) op_lt (k_I fun _ => .bl _) ha hb
theorem rt_le (ha : RV X an a ρ W W1 (dat K (.int i))) (hb : RV X an b ρ W1 W2 (dat K (.int j))) : RT X an (.Compare a [.LtE] [b] pos) ρ W W2 (decide (i ≤ j)) := rt_cmp (K := K) op_le (k_I fun _ => .bl _) ha hb
theorem rt_gt (ha : RV X an a ρ W W1 (dat K (.int i))) (hb : RV X an b ρ W1 W2 (dat K (.int j))) : RT X an (.Compare a [.Gt] [b] pos) ρ W W2 (decide (j < i)) := rt_cmp (K := K) op_gt (k_I fun _ => .bl _) ha hb
theorem rt_ge (ha : RV X an a ρ W W1 (dat K (.int i))) (hb : RV X an b ρ W1 W2 (dat K (.int j))) : RT X an (.Compare a [.GtE] [b] pos) ρ W W2 (decide (j ≤ i)) := rt_cmp (K := K) op_ge (k_I fun _ => .bl _) ha hb
/-- i <= x <= j -/
theorem rv_chainLE {c : Expr} {k : Int} (ha : RV X an a ρ W W (dat K (.int i))) (hb : RV X an b ρ W W (dat K (.int j))) (hc : RV X an c ρ W W (dat K (.int k))) (hm : lastMarks [.LtE, .LtE] [b, c] = false := by with_unfolding_all rfl) :
    RV X an (.Compare a [.LtE, .LtE] [b, c] pos) ρ W W (dat K (.bool (decide (i ≤ j) && decide (j ≤ k)))) :=
  PEimp (pe_chain op_le op_le ha hb hc hm) fun σ H Q ⟨O, m, q⟩ => ⟨O, m, fun u H1 m1 s1 p1 => ⟨O, m1, fun v H2 m2 s2 p2 => ⟨i, j, dat_int p1, dat_int p2, _, rfl, by
    by_cases h : i ≤ j
    · have ed : (decide (i ≤ j) && decide (j ≤ k)) = decide (j ≤ k) := by simp [h]
      rw [ed] at q
      rw [decide_eq_true h]
      exact iteT ⟨O, m2, fun w H3 m3 s3 p3 => ⟨j, k, dat_int p2, dat_int p3, q _ H3 m3 ((s1.trans s2).trans s3) (.bl _)⟩⟩
    · have ed : (decide (i ≤ j) && decide (j ≤ k)) = false := by simp [h]
      rw [ed] at q
      rw [decide_eq_false h]
      exact iteF (q _ H2 m2 (s1.trans s2) (.bl _))⟩⟩⟩
theorem rt_chainLE {c : Expr} {k : Int} (ha : RV X an a ρ W W (dat K (.int i))) (hb : RV X an b ρ W W (dat K (.int j))) (hc : RV X an c ρ W W (dat K (.int k))) (hm : lastMarks [.LtE, .LtE] [b, c] = false := by with_unfolding_all rfl) :
    RT X an (.Compare a [.LtE, .LtE] [b, c] pos) ρ W W (decide (i ≤ j) && decide (j ≤ k)) :=
  PTimp (pt_chain op_le op_le ha hb hc hm) fun σ H Q ⟨O, m, q⟩ => ⟨O, m, fun u H1 m1 s1 p1 => ⟨O, m1, fun v H2 m2 s2 p2 => ⟨i, j, dat_int p1, dat_int p2, _, rfl, by
    by_cases h : i ≤ j
    · have ed : (decide (i ≤ j) && decide (j ≤ k)) = decide (j ≤ k) := by simp [h]
      rw [ed] at q
      rw [decide_eq_true h]
      exact iteT ⟨O, m2, fun w H3 m3 s3 p3 => ⟨j, k, dat_int p2, dat_int p3, _, rfl, q H3 m3 ((s1.trans s2).trans s3)⟩⟩
    · have ed : (decide (i ≤ j) && decide (j ≤ k)) = false := by simp [h]
      rw [ed] at q
      rw [decide_eq_false h]
      exact iteF ⟨false, rfl, q H2 m2 (s1.trans s2)⟩⟩⟩⟩
/-- texts -/
theorem k_S {r : R2} {d : PyData} (h : ∀ H (Q : VK), (∀ v, Dp K H v d → Q v H) → r (.str x) (.str y) H Q) (h2 : ∀ H H' v, Dp K H v d → Dp K H' v d) : R2Ok r (dat K (.str x)) (dat K (.str y)) (dat K d) := fun O H v w Q l p1 p2 q => by
  rw [dat_str p1, dat_str p2]
  exact h H Q fun u hu => q u H (Same.refl H) (h2 _ _ _ hu)
theorem bool_any {H H' : Hp} {v : V} {c : Bool} (h : Dp K H v (.bool c)) : Dp K H' v (.bool c) := by
  cases h
  exact .bl _
theorem str_any {H H' : Hp} {v : V} (h : Dp K H v (.str x)) : Dp K H' v (.str x) := by
  cases h
  exact .str _
theorem rv_eqS (ha : RV X an a ρ W W1 (dat K (.str x))) (hb : RV X an b ρ W1 W2 (dat K (.str y))) : RV X an (.Compare a [.Eq] [b] pos) ρ W W2 (dat K (.bool (decide (x = y)))) :=
  rv_cmp op_eq (k_S (fun H Q q => ⟨rfl, q _ (by rw [dec_str, Bool.beq_eq_decide_eq]; exact .bl _)⟩) fun _ _ _ => bool_any) ha hb
theorem rt_eqS (ha : RV X an a ρ W W1 (dat K (.str x))) (hb : RV X an b ρ W1 W2 (dat K (.str y))) : RT X an (.Compare a [.Eq] [b] pos) ρ W W2 (decide (x = y)) :=
  rt_cmp (K := K) op_eq (k_S (fun H Q q => ⟨rfl, q _ (by rw [dec_str, Bool.beq_eq_decide_eq]; exact .bl _)⟩) fun _ _ _ => bool_any) ha hb
theorem rt_neS (ha : RV X an a ρ W W1 (dat K (.str x))) (hb : RV X an b ρ W1 W2 (dat K (.str y))) : RT X an (.Compare a [.NotEq] [b] pos) ρ W W2 (!decide (x = y)) :=
  rt_cmp (K := K) op_ne (k_S (fun H Q q => ⟨rfl, q _ (by rw [dec_str, Bool.beq_eq_decide_eq]; exact .bl _)⟩) fun _ _ _ => bool_any) ha hb
theorem rt_eqI (ha : RV X an a ρ W W1 (dat K (.int i))) (hb : RV X an b ρ W1 W2 (dat K (.int j))) : RT X an (.Compare a [.Eq] [b] pos) ρ W W2 (decide (i = j)) :=
  rt_cmp (K := K) op_eq (fun O H v w Q l p1 p2 q => by rw [dat_int p1, dat_int p2]; exact ⟨rfl, q _ H (Same.refl H) (by rw [dec_int, Bool.beq_eq_decide_eq]; exact .bl _)⟩) ha hb
theorem rt_neI (ha : RV X an a ρ W W1 (dat K (.int i))) (hb : RV X an b ρ W1 W2 (dat K (.int j))) : RT X an (.Compare a [.NotEq] [b] pos) ρ W W2 (!decide (i = j)) :=
  rt_cmp (K := K) op_ne (fun O H v w Q l p1 p2 q => by rw [dat_int p1, dat_int p2]; exact ⟨rfl, q _ H (Same.refl H) (by rw [dec_int, Bool.beq_eq_decide_eq]; exact .bl _)⟩) ha hb
theorem rv_catS (hl : x.length + y.length ≤ 1000) (ha : RV X an a ρ W W1 (dat K (.str x))) (hb : RV X an b ρ W1 W2 (dat K (.str y))) : RV X an (.BinOp a .Add b pos) ρ W W2 (dat K (.str (x ++ y))) :=
  rv_op op_add_str (k_S (fun H Q q => ⟨x, y, rfl, rfl, Nat.le_of_lt (small1000 hl), q _ (.str _)⟩) fun _ _ _ => str_any) ha hb
/-- one sign in a text -/
theorem rv_inSign {c : Nat} (ha : RV X an a ρ W W1 (dat K (.str ⟨#[c]⟩))) (hb : RV X an b ρ W1 W2 (dat K (.str y))) (hm : behindInMarks .In b = false := by with_unfolding_all rfl) : RV X an (.Compare a [.In] [b] pos) ρ W W2 (dat K (.bool (decide (c ∈ y.cps.toList)))) :=
  rv_cmp (hm := hm) op_in_sign (fun O H v w Q l p1 p2 q => ⟨c, y, dat_str p1, dat_str p2, q _ H (Same.refl H) (.bl _)⟩) ha hb
/-- is None: told by the kind -/
def isN : PyData → Bool
  | .none => true
  | _ => false
theorem dp_isN {H : Hp} {v : V} {d : PyData} (h : Dp K H v d) : decide (v = .non) = isN d := by
  cases h <;> rfl
def NonP (P : SP) (c : Bool) : Prop := ∀ H v, P.p H v → decide (v = .non) = c
theorem nonP_dat {d : PyData} : NonP (dat K d) (isN d) := fun H v h => dp_isN h
theorem k_isN {c : Bool} (h : NonP P c) : R2Ok (fun x y H Q => y = .non ∧ Q (.bl (decide (x = .non))) H) P (dat K .none) (dat K (.bool c)) := fun O H v w Q l p1 p2 q => ⟨dat_non p2, q _ H (Same.refl H) (by rw [h _ _ p1]; exact .bl _)⟩
theorem k_notN {c : Bool} (h : NonP P c) : R2Ok (fun x y H Q => y = .non ∧ Q (.bl (!decide (x = .non))) H) P (dat K .none) (dat K (.bool (!c))) := fun O H v w Q l p1 p2 q => ⟨dat_non p2, q _ H (Same.refl H) (by rw [h _ _ p1]; exact .bl _)⟩
theorem rv_isN {c : Bool} {jj : Nat} (h : NonP P c) (ha : RV X an a ρ W W' P) : RV X an (.Compare a [.Is] [.Constant .none jj pos'] pos) ρ W W' (dat K (.bool c)) := rv_cmp op_isN (k_isN h) ha rv_non
theorem rv_notN {c : Bool} {jj : Nat} (h : NonP P c) (ha : RV X an a ρ W W' P) : RV X an (.Compare a [.IsNot] [.Constant .none jj pos'] pos) ρ W W' (dat K (.bool (!c))) := rv_cmp op_notN (k_notN h) ha rv_non
theorem rt_isN {c : Bool} {jj : Nat} (K : PySem.W.Frag) (h : NonP P c) (ha : RV X an a ρ W W' P) : RT X an (.Compare a [.Is] [.Constant .none jj pos'] pos) ρ W W' c := rt_cmp (K := K) op_isN (k_isN h) ha rv_non
theorem rt_notN {c : Bool} {jj : Nat} (K : PySem.W.Frag) (h : NonP P c) (ha : RV X an a ρ W W' P) : RT X an (.Compare a [.IsNot] [.Constant .none jj pos'] pos) ρ W W' (!c) := rt_cmp (K := K) op_notN (k_notN h) ha rv_non
/-- == of data -/
theorem rv_eqD {d d' : PyData} (hu : X.A.units + 64 < cLine) (h1 : SeqAt.shaped d = true) (h2 : SeqAt.shaped d' = true) (ha : RV X an a ρ W W1 (dat X.K d)) (hb : RV X an b ρ W1 W2 (dat X.K d')) : RV X an (.Compare a [.Eq] [b] pos) ρ W W2 (dat K (.bool (PyData.eqv d d'))) :=
  rv_cmp (op_eqD hu) (fun O H v w Q l p1 p2 q => ⟨d, d', Dp.same mn_le _ _ p1, Dp.same mn_le _ _ p2, h1, h2, q _ H (Same.refl H) (.bl _)⟩) ha hb
theorem rt_eqD {d d' : PyData} (hu : X.A.units + 64 < cLine) (h1 : SeqAt.shaped d = true) (h2 : SeqAt.shaped d' = true) (ha : RV X an a ρ W W1 (dat X.K d)) (hb : RV X an b ρ W1 W2 (dat X.K d')) : RT X an (.Compare a [.Eq] [b] pos) ρ W W2 (PyData.eqv d d') :=
  rt_cmp (K := X.K) (op_eqD hu) (fun O H v w Q l p1 p2 q => ⟨d, d', Dp.same mn_le _ _ p1, Dp.same mn_le _ _ p2, h1, h2, q _ H (Same.refl H) (.bl _)⟩) ha hb
theorem rv_neD {d d' : PyData} (hu : X.A.units + 64 < cLine) (h1 : SeqAt.shaped d = true) (h2 : SeqAt.shaped d' = true) (ha : RV X an a ρ W W1 (dat X.K d)) (hb : RV X an b ρ W1 W2 (dat X.K d')) : RV X an (.Compare a [.NotEq] [b] pos) ρ W W2 (dat K (.bool (!PyData.eqv d d'))) :=
  rv_cmp (op_neD hu) (fun O H v w Q l p1 p2 q => ⟨d, d', Dp.same mn_le _ _ p1, Dp.same mn_le _ _ p2, h1, h2, q _ H (Same.refl H) (.bl _)⟩) ha hb
theorem rt_neD {d d' : PyData} (hu : X.A.units + 64 < cLine) (h1 : SeqAt.shaped d = true) (h2 : SeqAt.shaped d' = true) (ha : RV X an a ρ W W1 (dat X.K d)) (hb : RV X an b ρ W1 W2 (dat X.K d')) : RT X an (.Compare a [.NotEq] [b] pos) ρ W W2 (!PyData.eqv d d') :=
  rt_cmp (K := X.K) (op_neD hu) (fun O H v w Q l p1 p2 q => ⟨d, d', Dp.same mn_le _ _ p1, Dp.same mn_le _ _ p2, h1, h2, q _ H (Same.refl H) (.bl _)⟩) ha hb
/-- texts in a list, a tuple -/
theorem flat_strs : ∀ {ss : List Str} {H : Hp} {xs : List V}, DpAll K H xs (ss.map PyData.str) → xs = ss.map V.str
  | [], _, _, h => by
    cases h
    rfl
  | s :: ss, _, _, h => by
    cases h with
    | cons h1 h2 =>
      cases h1
      rw [flat_strs h2]
      rfl
theorem inV_strs : ∀ (ss : List Str), inV (.str x) (ss.map V.str) = decide (x ∈ ss)
  | [] => by simp [inV]
  | s :: ss => by
    have ih := inV_strs ss
    unfold inV at ih ⊢
    rw [List.map_cons, List.any_cons, ih]
    show (eqV (.str s) (.str x) || _) = _
    have e : eqV (.str s) (.str x) = decide (s = x) := by
      show (s == x) = _
      rw [Bool.beq_eq_decide_eq]
    rw [e]
    by_cases h : s = x
    · subst h
      simp
    · have h2 : ¬ x = s := fun z => h z.symm
      simp [h, h2]
theorem allflat_strs : ∀ (ss : List Str), (ss.map V.str).all flatV = true
  | [] => rfl
  | s :: ss => by
    rw [List.map_cons, List.all_cons, allflat_strs ss]
    rfl
theorem k_inStrs {ss : List Str} {neg : Bool} {d : PyData} (hd : d = .list (ss.map PyData.str) ∨ d = .tuple (ss.map PyData.str)) : R2Ok (rIn K neg) (dat K (.str x)) (dat K d) (dat K (.bool (if neg then !decide (x ∈ ss) else decide (x ∈ ss)))) := fun O H v w Q l p1 p2 q => by
  rw [dat_str p1]
  have p2 : Dp K (mn H O) w d := p2
  rcases hd with e | e
  · subst e
    cases p2 with
    | lst hs ha =>
      rw [flat_strs ha] at hs
      exact ⟨_, _, rfl, .inl (mn_le.seq hs), rfl, allflat_strs ss, q _ H (Same.refl H) (by rw [inV_strs]; exact .bl _)⟩
  · subst e
    cases p2 with
    | tup hs ha =>
      rw [flat_strs ha] at hs
      exact ⟨_, _, rfl, .inr (same_t mn_le hs), rfl, allflat_strs ss, q _ H (Same.refl H) (by rw [inV_strs]; exact .bl _)⟩
theorem rv_inStrs {ss : List Str} {d : PyData} (hd : d = .list (ss.map PyData.str) ∨ d = .tuple (ss.map PyData.str)) (ha : RV X an a ρ W W1 (dat X.K (.str x))) (hb : RV X an b ρ W1 W2 (dat X.K d)) (hm : behindInMarks .In b = false := by with_unfolding_all rfl) : RV X an (.Compare a [.In] [b] pos) ρ W W2 (dat X.K (.bool (decide (x ∈ ss)))) := rv_cmp op_in_seq (k_inStrs (neg := false) hd) ha hb hm
theorem rv_notInStrs {ss : List Str} {d : PyData} (hd : d = .list (ss.map PyData.str) ∨ d = .tuple (ss.map PyData.str)) (ha : RV X an a ρ W W1 (dat X.K (.str x))) (hb : RV X an b ρ W1 W2 (dat X.K d)) (hm : behindInMarks .NotIn b = false := by with_unfolding_all rfl) : RV X an (.Compare a [.NotIn] [b] pos) ρ W W2 (dat X.K (.bool (!decide (x ∈ ss)))) := rv_cmp op_notIn_seq (k_inStrs (neg := true) hd) ha hb hm
theorem rt_inStrs {ss : List Str} {d : PyData} (hd : d = .list (ss.map PyData.str) ∨ d = .tuple (ss.map PyData.str)) (ha : RV X an a ρ W W1 (dat X.K (.str x))) (hb : RV X an b ρ W1 W2 (dat X.K d)) (hm : behindInMarks .In b = false := by with_unfolding_all rfl) : RT X an (.Compare a [.In] [b] pos) ρ W W2 (decide (x ∈ ss)) := rt_cmp (K := X.K) op_in_seq (k_inStrs (neg := false) hd) ha hb hm
theorem rt_notInStrs {ss : List Str} {d : PyData} (hd : d = .list (ss.map PyData.str) ∨ d = .tuple (ss.map PyData.str)) (ha : RV X an a ρ W W1 (dat X.K (.str x))) (hb : RV X an b ρ W1 W2 (dat X.K d)) (hm : behindInMarks .NotIn b = false := by with_unfolding_all rfl) : RT X an (.Compare a [.NotIn] [b] pos) ρ W W2 (!decide (x ∈ ss)) := rt_cmp (K := X.K) op_notIn_seq (k_inStrs (neg := true) hd) ha hb hm
/-! subscripts -/
theorem sat_at {H : Hp} {vs : List V} {k : Nat} (h : Sat Ps H vs) (hk : Ps[k]? = some P) : ∃ v, vs[k]? = some v ∧ P.p H v := by
  have hl : k < Ps.length := (List.getElem?_eq_some_iff.mp hk).1
  have hv : k < vs.length := h.length ▸ hl
  refine ⟨vs[k], List.getElem?_eq_getElem hv, ?_⟩
  have z := h.get (List.getElem?_eq_getElem hv)
  rw [List.getD_eq_getElem?_getD, hk] at z
  exact z
theorem rv_ixL {k : Nat} (hk : Ps[k]? = some P) (ha : RV X an a ρ W W1 (lstP X.K Ps)) (hb : RV X an b ρ W1 W2 (dat K (.int (k : Int)))) (hs : PlainIx b := by exact fun _ _ => rfl) : RV X an (.Subscript a b pos) ρ W W2 P :=
  rv_ix (P1 := lstP X.K Ps) (P2 := dat K (.int _)) ix_list (fun O H v w Q l ⟨p, xs, e, hq, sat⟩ p2 q => by
    obtain ⟨u, hu, hp⟩ := sat_at sat hk
    exact ⟨p, xs, _, u, e, dat_int p2, mn_le.seq hq, atI_nat hu, q u H (Same.refl H) hp⟩) ha hb hs
theorem rv_ixT {k : Nat} (hk : Ps[k]? = some P) (ha : RV X an a ρ W W1 (tupP X.K Ps)) (hb : RV X an b ρ W1 W2 (dat K (.int (k : Int)))) (hs : PlainIx b := by exact fun _ _ => rfl) : RV X an (.Subscript a b pos) ρ W W2 P :=
  rv_ix (P1 := tupP X.K Ps) (P2 := dat K (.int _)) ix_tup (fun O H v w Q l ⟨p, xs, e, hq, sat⟩ p2 q => by
    obtain ⟨u, hu, hp⟩ := sat_at sat hk
    exact ⟨p, xs, _, u, e, dat_int p2, same_t mn_le hq, atI_nat hu, q u H (Same.refl H) hp⟩) ha hb hs
theorem map_at {ds : List PyData} {d : PyData} {k : Nat} (hk : ds[k]? = some d) : (ds.map (dat K))[k]? = some (dat K d) := by
  rw [List.getElem?_map, hk]
  rfl
theorem rv_ixLD {ds : List PyData} {d : PyData} {k : Nat} (hk : ds[k]? = some d) (ha : RV X an a ρ W W1 (dat X.K (.list ds))) (hb : RV X an b ρ W1 W2 (dat K (.int (k : Int)))) (hs : PlainIx b := by exact fun _ _ => rfl) : RV X an (.Subscript a b pos) ρ W W2 (dat X.K d) := rv_ixL (map_at hk) (rv_sub ha fun _ _ => dat_lstP) hb hs
theorem rv_ixTD {ds : List PyData} {d : PyData} {k : Nat} (hk : ds[k]? = some d) (ha : RV X an a ρ W W1 (dat X.K (.tuple ds))) (hb : RV X an b ρ W1 W2 (dat K (.int (k : Int)))) (hs : PlainIx b := by exact fun _ _ => rfl) : RV X an (.Subscript a b pos) ρ W W2 (dat X.K d) := rv_ixT (map_at hk) (rv_sub ha fun _ _ => dat_tupP) hb hs
/-- xs[-1] -/
theorem rv_ixLast {k : Nat} (hk : Ps[k]? = some P) (hn : k + 1 = Ps.length) (ha : RV X an a ρ W W1 (lstP X.K Ps)) (hb : RV X an b ρ W1 W2 (dat K (.int (-1)))) (hs : PlainIx b := by exact fun _ _ => rfl) : RV X an (.Subscript a b pos) ρ W W2 P :=
  rv_ix (P1 := lstP X.K Ps) (P2 := dat K (.int _)) ix_list (fun O H v w Q l ⟨p, xs, e, hq, sat⟩ p2 q => by
    obtain ⟨u, hu, hp⟩ := sat_at sat hk
    have hl : xs.length = k + 1 := by rw [← sat.length, hn]
    refine ⟨p, xs, _, u, e, dat_int p2, mn_le.seq hq, ?_, q u H (Same.refl H) hp⟩
    unfold atI ixN
    rw [if_neg (by decide), if_pos (by omega), hl]
    show xs[((-1 : Int) + ((k + 1 : Nat) : Int)).toNat]? = some u
    rw [show ((-1 : Int) + ((k + 1 : Nat) : Int)).toNat = k by omega]
    exact hu) ha hb hs
theorem rv_neg (ha : RV X an a ρ W W' (dat K (.int i))) : RV X an (.UnaryOp .USub a pos) ρ W W' (dat K (.int (-i))) := PEimp (pe_un un_neg ha) fun σ H Q ⟨O, m, q⟩ => ⟨O, m, fun v H1 m1 s1 p1 => ⟨i, dat_int p1, q _ H1 m1 s1 (.int _)⟩⟩
theorem rv_ixS {c k : Nat} (hz : x.length ≤ 1000) (hk : x.cps.toList[k]? = some c) (ha : RV X an a ρ W W1 (dat K (.str x))) (hb : RV X an b ρ W1 W2 (dat K (.int (k : Int)))) (hs : PlainIx b := by exact fun _ _ => rfl) : RV X an (.Subscript a b pos) ρ W W2 (dat K (.str ⟨#[c]⟩)) :=
  rv_ix ix_str (fun O H v w Q l p1 p2 q => ⟨x, (k : Int), c, dat_str p1, dat_int p2, Nat.le_of_lt (small1000 hz), atI_nat hk, q _ H (Same.refl H) (.str _)⟩) ha hb hs
/-! built-ins -/
theorem rv_lenL {p : Pos} (hm : X.mg "len" = none) (ha : RV X an e ρ W W' (lstP X.K Ps)) (hg : Gl X "len" := by rfl) (hs : starEach [e] X.env = (false, eval e X.env) :: starEach [] X.env := by rfl) (hpl : (backTo pos (starEach [] X.env)).any (·.1) = false := by rfl) : RV X an (.Call (.Name "len" p) [e] [] pos) ρ W W' (dat K (.int Ps.length)) :=
  rv_callB call_len_seq (Ps := [lstP X.K Ps]) (fun O H vs Q l s q => by
    cases s with
    | cons h t =>
      cases t
      obtain ⟨a, xs, e, hq, sat⟩ := h
      subst e
      exact ⟨a, xs, rfl, .inl (mn_le.seq hq), q _ H (Same.refl H) (by rw [sat.length]; exact .int _)⟩) hm (ra_cons ha ra_nil hs) (hg := hg) (he := hs) (hpl := hpl)
theorem rv_lenT {p : Pos} (hm : X.mg "len" = none) (ha : RV X an e ρ W W' (tupP X.K Ps)) (hg : Gl X "len" := by rfl) (hs : starEach [e] X.env = (false, eval e X.env) :: starEach [] X.env := by rfl) (hpl : (backTo pos (starEach [] X.env)).any (·.1) = false := by rfl) : RV X an (.Call (.Name "len" p) [e] [] pos) ρ W W' (dat K (.int Ps.length)) :=
  rv_callB call_len_seq (Ps := [tupP X.K Ps]) (fun O H vs Q l s q => by
    cases s with
    | cons h t =>
      cases t
      obtain ⟨a, xs, e, hq, sat⟩ := h
      subst e
      exact ⟨a, xs, rfl, .inr (same_t mn_le hq), q _ H (Same.refl H) (by rw [sat.length]; exact .int _)⟩) hm (ra_cons ha ra_nil hs) (hg := hg) (he := hs) (hpl := hpl)
theorem rv_lenS {p : Pos} (hz : x.length ≤ 1000) (hm : X.mg "len" = none) (ha : RV X an e ρ W W' (dat K (.str x))) (hg : Gl X "len" := by rfl) (hs : starEach [e] X.env = (false, eval e X.env) :: starEach [] X.env := by rfl) (hpl : (backTo pos (starEach [] X.env)).any (·.1) = false := by rfl) : RV X an (.Call (.Name "len" p) [e] [] pos) ρ W W' (dat K (.int x.length)) :=
  rv_callB call_len_str (Ps := [dat K (.str x)]) (fun O H vs Q l s q => by
    cases s with
    | cons h t =>
      cases t
      exact ⟨x, by rw [dat_str h], Nat.le_of_lt (small1000 hz), q _ H (Same.refl H) (.int _)⟩) hm (ra_cons ha ra_nil hs) (hg := hg) (he := hs) (hpl := hpl)
theorem rv_lenLD {p : Pos} {ds : List PyData} (hm : X.mg "len" = none) (ha : RV X an e ρ W W' (dat X.K (.list ds))) (hg : Gl X "len" := by rfl) (hs : starEach [e] X.env = (false, eval e X.env) :: starEach [] X.env := by rfl) (hpl : (backTo pos (starEach [] X.env)).any (·.1) = false := by rfl) : RV X an (.Call (.Name "len" p) [e] [] pos) ρ W W' (dat K (.int ds.length)) := by
  have h := rv_lenL (K := K) (pos := pos) (p := p) hm (rv_sub ha fun _ _ => dat_lstP) hg hs hpl
  rw [List.length_map] at h
  exact h
theorem rv_lenTD {p : Pos} {ds : List PyData} (hm : X.mg "len" = none) (ha : RV X an e ρ W W' (dat X.K (.tuple ds))) (hg : Gl X "len" := by rfl) (hs : starEach [e] X.env = (false, eval e X.env) :: starEach [] X.env := by rfl) (hpl : (backTo pos (starEach [] X.env)).any (·.1) = false := by rfl) : RV X an (.Call (.Name "len" p) [e] [] pos) ρ W W' (dat K (.int ds.length)) := by
  have h := rv_lenT (K := K) (pos := pos) (p := p) hm (rv_sub ha fun _ _ => dat_tupP) hg hs hpl
  rw [List.length_map] at h
  exact h
theorem flat_bools : ∀ {bs : List Bool} {H : Hp} {xs : List V}, Sat (bs.map fun c => dat K (.bool c)) H xs → xs = bs.map V.bl
  | [], _, _, h => by
    cases h
    rfl
  | s :: ss, _, _, h => by
    cases h with
    | cons h1 h2 =>
      rw [dat_bool h1, flat_bools h2]
      rfl
theorem rv_all {p : Pos} {bs : List Bool} (hm : X.mg "all" = none) (ha : RV X an e ρ W W' (lstT (bs.map fun c => dat X.K (.bool c)))) (hc : X.calm = true := by rfl) (hg : Gl X "all" := by rfl) (hs : starEach [e] X.env = (false, eval e X.env) :: starEach [] X.env := by rfl) (hpl : (backTo pos (starEach [] X.env)).any (·.1) = false := by rfl) : RV X an (.Call (.Name "all" p) [e] [] pos) ρ W W' (dat X.K (.bool (bs.all id))) :=
  rv_callB (cr_all hc) (Ps := [lstT (bs.map fun c => dat X.K (.bool c))]) (fun O H vs Q l s q => by
    cases s with
    | cons h t =>
      cases t
      obtain ⟨a, xs, e, hq, sat⟩ := h
      subst e
      rw [flat_bools sat] at hq
      exact ⟨a, bs, rfl, SqL.of (mn_at hq), q _ H (Same.refl H) (.bl _)⟩) hm (ra_cons ha ra_nil hs) (hg := hg) (he := hs) (hpl := hpl)
theorem rv_any {p : Pos} {bs : List Bool} (hm : X.mg "any" = none) (ha : RV X an e ρ W W' (lstT (bs.map fun c => dat X.K (.bool c)))) (hc : X.calm = true := by rfl) (hg : Gl X "any" := by rfl) (hs : starEach [e] X.env = (false, eval e X.env) :: starEach [] X.env := by rfl) (hpl : (backTo pos (starEach [] X.env)).any (·.1) = false := by rfl) : RV X an (.Call (.Name "any" p) [e] [] pos) ρ W W' (dat X.K (.bool (bs.any id))) :=
  rv_callB (cr_any hc) (Ps := [lstT (bs.map fun c => dat X.K (.bool c))]) (fun O H vs Q l s q => by
    cases s with
    | cons h t =>
      cases t
      obtain ⟨a, xs, e, hq, sat⟩ := h
      subst e
      rw [flat_bools sat] at hq
      exact ⟨a, bs, rfl, SqL.of (mn_at hq), q _ H (Same.refl H) (.bl _)⟩) hm (ra_cons ha ra_nil hs) (hg := hg) (he := hs) (hpl := hpl)
/-- tuple(list), list(list), list(tuple) -/
theorem rv_tupleOf {p : Pos} (hm : X.mg "tuple" = none) (ha : RV X an e ρ W W' (lstP X.K Ps)) (hg : Gl X "tuple" := by rfl) (hs : starEach [e] X.env = (false, eval e X.env) :: starEach [] X.env := by rfl) (hpl : (backTo pos (starEach [] X.env)).any (·.1) = false := by rfl) : RV X an (.Call (.Name "tuple" p) [e] [] pos) ρ W W' (tupP X.K Ps) :=
  rv_callTy call_tuple_of (Ps := [lstP X.K Ps]) (fun O H vs Q l s q => by
    cases s with
    | cons h t =>
      cases t
      obtain ⟨a, xs, e, hq, sat⟩ := h
      subst e
      exact ⟨a, xs, rfl, .inl ⟨mn_le.seq hq, fun z hz => q _ _ (same_new hz) ⟨z, xs, rfl, SqT.of (mn_new l hz), sat.same (mn_mono (same_new hz))⟩⟩⟩) hm (ra_cons ha ra_nil hs) (hg := hg) (he := hs) (hpl := hpl)
theorem rv_tupleTup {p : Pos} (hm : X.mg "tuple" = none) (ha : RV X an e ρ W W' (tupP X.K Ps)) (hg : Gl X "tuple" := by rfl) (hs : starEach [e] X.env = (false, eval e X.env) :: starEach [] X.env := by rfl) (hpl : (backTo pos (starEach [] X.env)).any (·.1) = false := by rfl) : RV X an (.Call (.Name "tuple" p) [e] [] pos) ρ W W' (tupP X.K Ps) :=
  rv_callTy call_tuple_of (Ps := [tupP X.K Ps]) (fun O H vs Q l s q => by
    cases s with
    | cons h t =>
      cases t
      obtain ⟨a, xs, e, hq, sat⟩ := h
      subst e
      exact ⟨a, xs, rfl, .inr ⟨same_t mn_le hq, q _ H (Same.refl H) ⟨a, xs, rfl, hq, sat⟩⟩⟩) hm (ra_cons ha ra_nil hs) (hg := hg) (he := hs) (hpl := hpl)
theorem rv_listOf {p : Pos} (hm : X.mg "list" = none) (ha : RV X an e ρ W W' (lstP X.K Ps)) (hg : Gl X "list" := by rfl) (hs : starEach [e] X.env = (false, eval e X.env) :: starEach [] X.env := by rfl) (hpl : (backTo pos (starEach [] X.env)).any (·.1) = false := by rfl) : RV X an (.Call (.Name "list" p) [e] [] pos) ρ W W' (lstT Ps) :=
  rv_callTy call_list_of (Ps := [lstP X.K Ps]) (fun O H vs Q l s q => by
    cases s with
    | cons h t =>
      cases t
      obtain ⟨a, xs, e, hq, sat⟩ := h
      subst e
      exact ⟨a, xs, rfl, .inl (mn_le.seq hq), fun z hz => q _ _ (same_new hz) ⟨z, xs, rfl, mn_new l hz, sat.same (mn_mono (same_new hz))⟩⟩) hm (ra_cons ha ra_nil hs) (hg := hg) (he := hs) (hpl := hpl)
theorem rv_listTup {p : Pos} (hm : X.mg "list" = none) (ha : RV X an e ρ W W' (tupP X.K Ps)) (hg : Gl X "list" := by rfl) (hs : starEach [e] X.env = (false, eval e X.env) :: starEach [] X.env := by rfl) (hpl : (backTo pos (starEach [] X.env)).any (·.1) = false := by rfl) : RV X an (.Call (.Name "list" p) [e] [] pos) ρ W W' (lstT Ps) :=
  rv_callTy call_list_of (Ps := [tupP X.K Ps]) (fun O H vs Q l s q => by
    cases s with
    | cons h t =>
      cases t
      obtain ⟨a, xs, e, hq, sat⟩ := h
      subst e
      exact ⟨a, xs, rfl, .inr (same_t mn_le hq), fun z hz => q _ _ (same_new hz) ⟨z, xs, rfl, mn_new l hz, sat.same (mn_mono (same_new hz))⟩⟩) hm (ra_cons ha ra_nil hs) (hg := hg) (he := hs) (hpl := hpl)
theorem rv_max2 {p : Pos} {a b : Expr} (hm : X.mg "max" = none) (ha : RV X an a ρ W W1 (dat K (.int i))) (hb : RV X an b ρ W1 W2 (dat K (.int j))) (hc : X.calm = true := by rfl) (hg : Gl X "max" := by rfl) (hs : starEach [a, b] X.env = (false, eval a X.env) :: starEach [b] X.env := by rfl) (hs2 : starEach [b] X.env = (false, eval b X.env) :: starEach [] X.env := by rfl) (hpl : (backTo pos (starEach [b] X.env)).any (·.1) = false := by rfl) : RV X an (.Call (.Name "max" p) [a, b] [] pos) ρ W W2 (dat K (.int (max i j))) :=
  rv_callB (call_max2 hc) (Ps := [dat K (.int i), dat K (.int j)]) (fun O H vs Q l s q => by
    cases s with
    | cons h t =>
      cases t with
      | cons h2 t =>
        cases t
        refine ⟨i, j, by rw [dat_int h, dat_int h2], q _ H (Same.refl H) ?_⟩
        have e : (if j > i then j else i) = max i j := by
          by_cases z : j > i
          · rw [if_pos z]; omega
          · rw [if_neg z]; omega
        rw [e]
        exact .int _) hm (ra_cons ha (ra_cons hb ra_nil hs2) hs) (hg := hg) (he := hs) (hpl := hpl)
theorem flat_ints : ∀ {ns : List Int} {H : Hp} {xs : List V}, Sat (ns.map fun c => dat K (.int c)) H xs → xs = ns.map V.int
  | [], _, _, h => by
    cases h
    rfl
  | s :: ss, _, _, h => by
    cases h with
    | cons h1 h2 =>
      rw [dat_int h1, flat_ints h2]
      rfl
/-- max of a list of ints -/
theorem rv_maxL {p : Pos} {ns : List Int} {m : Int} (hn : 0 < ns.length) (h1 : m ∈ ns) (h2 : ∀ y, y ∈ ns → y ≤ m) (hm : X.mg "max" = none) (ha : RV X an e ρ W W' (lstT (ns.map fun c => dat X.K (.int c)))) (hc : X.calm = true := by rfl) (hg : Gl X "max" := by rfl) (hs : starEach [e] X.env = (false, eval e X.env) :: starEach [] X.env := by rfl) (hpl : (backTo pos (starEach [] X.env)).any (·.1) = false := by rfl) : RV X an (.Call (.Name "max" p) [e] [] pos) ρ W W' (dat X.K (.int m)) :=
  rv_callB (cr_max hc) (Ps := [lstT (ns.map fun c => dat X.K (.int c))]) (fun O H vs Q l s q => by
    cases s with
    | cons h t =>
      cases t
      obtain ⟨a, xs, e, hq, sat⟩ := h
      subst e
      rw [flat_ints sat] at hq
      refine ⟨a, ns, rfl, SqL.of (mn_at hq), hn, fun k hk hh => ?_⟩
      have e : k = m := by
        have q1 := h2 k hk
        have q2 := hh m h1
        omega
      rw [e]
      exact q _ H (Same.refl H) (.int _)) hm (ra_cons ha ra_nil hs) (hg := hg) (he := hs) (hpl := hpl)
/-- isinstance of data -/
def tyN : PyData → String
  | .none => "NoneType"
  | .bool _ => "bool"
  | .int _ => "int"
  | .str _ => "str"
  | .list _ => "list"
  | .tuple _ => "tuple"
  | .dict _ => "dict"
theorem tyX_of {H : Hp} {v : V} {d : PyData} (h : Dp K H v d) : TyX K H v (.type (tyN d)) := by
  cases h with
  | non => exact .base .non
  | bl b => exact .base (.bl b)
  | int i => exact .base (.int i)
  | str x => exact .base (.str x)
  | lst hs ha =>
    rcases hs with (hs | ⟨o, hs⟩) | ⟨o, its, n, h1, h2, _⟩
    · exact .base (.lst hs)
    · exact .base (.frz hs)
    · exact .kList h1 h2
  | tup hs ha =>
    rcases hs with (hs | ⟨o, hs⟩) | ⟨o, its, n, h1, h2, _⟩
    · exact .base (.tup hs)
    · exact .fTuple hs
    · exact .kTuple h1 h2
def tyP (n : String) : SP := ⟨fun _ v => v = .ty n, fun _ h => h⟩
theorem rv_type {x : Str} {n : String} (hm : X.mg x = none) (hv : bootBuiltins x = some (.type n) := by decide +kernel) (hg : Gl X x := by rfl) (hn : x ≠ "__name__" := by decide) (hd : (x == ("__debug__" : Str)) = false := by decide) : RV X an (.Name x pos) ρ W W (tyP n) :=
  rv_leaf (pe_bltn (v := .ty n) hg hm hv rfl hn hd) fun O σ H Q m q => q _ H (Same.refl H) rfl
theorem rv_isi {p p' : Pos} {x : Str} {n : String} {d : PyData} {c : Bool} (hk : kitB (tyN d) n = some c) (hi : X.mg "isinstance" = none) (hx : X.mg x = none) (ha : RV X an e ρ W W' (dat X.K d)) (hv : bootBuiltins x = some (.type n) := by decide +kernel) (hg : Gl X x := by rfl) (hn : x ≠ "__name__" := by decide) (hd : (x == ("__debug__" : Str)) = false := by decide)
    (hgi : Gl X "isinstance" := by rfl) (hs : starEach [e, .Name x p'] X.env = (false, eval e X.env) :: starEach [.Name x p'] X.env := by rfl) (hs2 : starEach [.Name x p'] X.env = (false, eval (.Name x p') X.env) :: starEach [] X.env := by rfl) (hpl : (backTo pos (starEach [.Name x p'] X.env)).any (·.1) = false := by rfl) : RV X an (.Call (.Name "isinstance" p) [e, .Name x p'] [] pos) ρ W W' (dat K (.bool c)) :=
  rv_callB call_isi (Ps := [dat X.K d, tyP n]) (fun O H vs Q l s q => by
    cases s with
    | cons h t =>
      cases t with
      | cons h2 t =>
        cases t
        have e2 : _ = V.ty n := h2
        subst e2
        exact ⟨_, _, _, _, c, rfl, .ty n, tyX_of (Dp.same mn_le _ _ h), kit_ty hk, q _ H (Same.refl H) (.bl _)⟩) hi (ra_cons ha (ra_cons (rv_type hx hv hg hn hd) ra_nil hs2) hs) (hg := hgi) (he := hs) (hpl := hpl)
/-- int of a bool -/
theorem rv_intB {p : Pos} {c : Bool} (hm : X.mg "int" = none) (ha : RV X an e ρ W W' (dat K (.bool c))) (hg : Gl X "int" := by rfl) (hs : starEach [e] X.env = (false, eval e X.env) :: starEach [] X.env := by rfl) (hpl : (backTo pos (starEach [] X.env)).any (·.1) = false := by rfl) : RV X an (.Call (.Name "int" p) [e] [] pos) ρ W W' (dat K (.int (if c then 1 else 0))) :=
  rv_callTy call_int1 (Ps := [dat K (.bool c)]) (fun O H vs Q l s q => by
    cases s with
    | cons h t =>
      cases t
      exact .inr ⟨c, by rw [dat_bool h], q _ H (Same.refl H) (.int _)⟩) hm (ra_cons ha ra_nil hs) (hg := hg) (he := hs) (hpl := hpl)
end
end TF
set_option Elab.async false
set_option linter.all false
set_option maxRecDepth 100000
set_option maxHeartbeats 4000000
/-! M4: what is owned is read and changed. -/
namespace TF
open PySem PySem.Spec L2 PyProof.Rows
section
variable {X : Cx} {an : An} {K : PySem.W.Frag} {ρ : TF.Env} {W W1 W2 W3 W' Wz : Wd} {P R : SP} {Ps : List SP} {N : TF.Env → Wd → Prop} {rest body : List Stmt} {o i e c : Expr} {pos pos' p1 : Pos} {b : Addr} {k : Nat}
theorem get_list : PGet X (fun x y H Q => ∃ (p : Addr) (xs : List V) (j : Nat) (v : V), x = .ref p ∧ y = .int (j : Int) ∧ SqL X.K H p xs ∧ xs[j]? = some v ∧ Q v H) := by
  intro pins s σ H ov iv v u Q I rx ry h
  obtain ⟨p, xs, j, z, rfl, rfl, hq, he, q⟩ := h
  cases rx
  obtain ⟨t, rfl⟩ := ry
  obtain ⟨its, r, pl, hz⟩ := I.list hq
  obtain ⟨w, ew, rw'⟩ := r.get he
  have hl := r.length
  have hn := line63
  have hj : j < xs.length := (List.getElem?_eq_some_iff.mp he).1
  exact getItem_listL (k := (j : Int)) pl.isList (by omega) (by omega) (by simpa using ew) (show EP X pins σ Q w s from ⟨z, H, I, rw', q⟩)
theorem MX.lst (m : MX an O ρ W σ H) (hk : W[k]? = some (b, lstM Ps)) : ∃ xs, H b = some (.lst xs) ∧ Sat Ps (mn H O) xs := by
  obtain ⟨_, o, e, xs, eo, sat⟩ := m.wo.at_ _ (List.mem_of_getElem? hk)
  subst eo
  exact ⟨xs, e, sat⟩
/-- o.append(e) -/
theorem rs_app (k : Nat) {apos cpos : Pos} (ho : RV X an o ρ W W1 (refP b)) (he : RV X an e ρ W1 W2 P) (hk1 : W1[k]? = some (b, lstM Ps)) (hk : W2[k]? = some (b, lstM Ps)) (h : RSs X an rest ρ (W2.set k (b, lstM (Ps ++ [P]))) N R Wz) (hl : Ps.length ≤ 1000000)
    (hbase : attributeBase o "append" X.env (eval o X.env) = eval o X.env := by rfl)
    (hfew : ((backTo cpos (starEach [e] X.env)).all (fun x => !x.1) && (backToKw cpos (keywordEach [] X.env)).all (fun x => x.1.isSome)
      && decide ([e].length + ([] : List Keyword).length + (if ([] : List Keyword).isEmpty then 0 else 1) < 30)) = true := by rfl)
    (hline : (apos.endLine == cpos.line) = true := by rfl) (hs : starEach [e] X.env = (false, eval e X.env) :: starEach [] X.env := by rfl) (hplain : (backTo cpos (starEach [] X.env)).any (·.1) = false := by rfl)
    (hsw : swapsWith (.Call (.Attribute o "append" apos) [e] [] cpos) none pos.line X.env = pure false := by rfl) : RSs X an (.Expr (.Call (.Attribute o "append" apos) [e] [] cpos) pos :: rest) ρ W N R Wz :=
  rs_cons (N1 := fun ρ1 W' => ρ1 = ρ ∧ W' = W2.set k (b, lstM (Ps ++ [P]))) (PSimp (ps_expr (pe_bm PySem.F.plainAttrs_list PySem.F.slot_list_append PySem.F.type_list_append mt_append ho (pa_cons he ra_nil hs) hbase hfew hline hs hplain) hsw)
    fun D σ H ⟨O, m, nx, rt⟩ => ⟨O, m, fun x H1 m1 s1 p1 => by
      have p1 : x = .ref b := p1
      subst p1
      obtain ⟨xs1, e1, _⟩ := m1.lst hk1
      refine ⟨Or.inl ⟨rfl, xs1, SqL.of e1⟩, O, m1, fun y H2 m2 s2 p2 => ⟨O, m2, fun vs H3 m3 s3 sat3 => ?_⟩⟩
      cases sat3
      obtain ⟨xs, e3, sat⟩ := m3.lst hk
      refine ⟨b, xs, y, rfl, rfl, e3, ?_, ?_⟩
      · have := sat.length
        have : (1000000 : Nat) < sizeLine := by rw [sizeLine_eq]; decide
        omega
      · obtain ⟨m4, s4⟩ := m3.put (m' := lstM (Ps ++ [P])) (o' := .lst (xs ++ [y])) hk ⟨_, rfl, sat.snoc (P.st s3 p2)⟩
        exact nx _ _ _ _ O ⟨rfl, rfl⟩ m4 (((s1.trans s2).trans s3).trans s4)⟩) fun ρ1 W1 ⟨e1, e2⟩ => e1 ▸ e2 ▸ h
theorem Sat.set {H : Hp} {P : SP} {v : V} (h : P.p H v) : ∀ {Ps : List SP} {vs : List V} (j : Nat), Sat Ps H vs → Sat (Ps.set j P) H (vs.set j v)
  | _, _, _, .nil => .nil
  | _, _, 0, .cons r t => .cons h t
  | _, _, j + 1, .cons r t => .cons r (Sat.set h j t)
theorem ixN_nat {n j : Nat} (h : j < n) : ixN n (j : Int) = some j := by
  unfold ixN
  rw [if_pos (by omega), if_pos (by omega)]
  rfl
/-- o[i] = e -/
theorem rs_setI (k : Nat) {j : Nat} (he : RV X an e ρ W W1 P) (ho : RV X an o ρ W1 W2 (refP b)) (hi : RV X an i ρ W2 W3 (dat K (.int (j : Int)))) (hk : W3[k]? = some (b, lstM Ps)) (hj : j < Ps.length) (h : RSs X an rest ρ (W3.set k (b, lstM (Ps.set j P))) N R Wz)
    (hs : swapsWithSole [.Subscript o i pos'] e pos.line X.env = pure false := by rfl) (hw : swappedStores [.Subscript o i pos'] e X.env = pure none := by rfl)
    (h1 : (assignEach [.Subscript o i pos'] X.env).map (·.2) = [assign (.Subscript o i pos') X.env] := by rfl)
    (ha : ∀ v, assign (.Subscript o i pos') X.env v = (do
      let ov ← holding [v] (eval o X.env)
      let iv ← holding [v, ov] (eval i X.env)
      standAt pos'
      holding [v, ov, iv] (setItem ov iv v)
      release [v, ov, iv] []) := by intro _; rfl) : RSs X an (.Assign [.Subscript o i pos'] e pos :: rest) ρ W N R Wz :=
  rs_cons (N1 := fun ρ1 W' => ρ1 = ρ ∧ W' = W3.set k (b, lstM (Ps.set j P))) (PSimp (ps_asg he (pg_sub ho hi set_list ha) hs hw h1) fun D σ H ⟨O, m, nx, rt⟩ => ⟨O, m, fun v H1 m1 s1 p1 => ⟨O, m1, fun x H2 m2 s2 p2 => ⟨O, m2, fun y H3 m3 s3 p3 => by
      have p2 : x = .ref b := p2
      subst p2
      obtain ⟨xs, e3, sat⟩ := m3.lst hk
      refine ⟨b, xs, _, j, rfl, dat_int p3, e3, ixN_nat (sat.length ▸ hj), ?_⟩
      obtain ⟨m4, s4⟩ := m3.put (m' := lstM (Ps.set j P)) (o' := .lst (xs.set j v)) hk ⟨_, rfl, sat.set (P.st (s2.trans s3) p1) j⟩
      exact nx _ _ _ _ O ⟨rfl, rfl⟩ m4 (((s1.trans s2).trans s3).trans s4)⟩⟩⟩) fun ρ1 W1 ⟨e1, e2⟩ => e1 ▸ e2 ▸ h
/-- o[i] op= e, of ints -/
theorem rs_augI (k : Nat) {op : Operator} {f : Int → Int → Int} {j : Nat} {u v : Int} {tpos : Pos} (hp : PIp X op (ipI f)) (ho : RV X an o ρ W W (refP b)) (hi : RV X an i ρ W W (dat K (.int (j : Int)))) (he : RV X an e ρ W W (dat K (.int v))) (hk : W[k]? = some (b, lstM Ps)) (hj : Ps[j]? = some (dat K (.int u))) (h : RSs X an rest ρ (W.set k (b, lstM (Ps.set j (dat K (.int (f u v)))))) N R Wz)
    (ha : ∀ ov iv new, augStore i ov iv new = (do holding [new, ov, iv] (setItem ov iv new); release [new, ov, iv] []; pure .next) := by intros; rfl) : RSs X an (.AugAssign (.Subscript o i tpos) op e pos :: rest) ρ W N R Wz :=
  rs_cons (N1 := fun ρ1 W' => ρ1 = ρ ∧ W' = W.set k (b, lstM (Ps.set j (dat K (.int (f u v)))))) (PSimp (ps_augS ho hi get_list he hp set_list ha) fun D σ H ⟨O, m, nx, rt⟩ => ⟨O, m, fun x H1 m1 s1 p1 => ⟨O, m1, fun y H2 m2 s2 p2 => by
      have p1 : x = .ref b := p1
      subst p1
      obtain ⟨xs, e2, sat⟩ := m2.lst hk
      obtain ⟨w, hw, pw⟩ := sat_at sat hj
      refine ⟨b, xs, j, w, rfl, dat_int p2, SqL.of e2, hw, O, m2, fun z H3 m3 s3 p3 => ⟨u, v, dat_int pw, dat_int p3, ?_⟩⟩
      obtain ⟨xs3, e3, sat3⟩ := m3.lst hk
      have hl : j < Ps.length := (List.getElem?_eq_some_iff.mp hj).1
      refine ⟨b, xs3, _, j, rfl, dat_int p2, e3, ixN_nat (sat3.length ▸ hl), ?_⟩
      obtain ⟨m4, s4⟩ := m3.put (m' := lstM (Ps.set j (dat K (.int (f u v))))) (o' := .lst (xs3.set j (.int (f u v)))) hk ⟨_, rfl, sat3.set (P := dat K (.int (f u v))) (show Dp K _ (.int (f u v)) (.int (f u v)) from .int _) j⟩
      exact nx _ _ _ _ O ⟨rfl, rfl⟩ m4 (((s1.trans s2).trans s3).trans s4)⟩⟩) fun ρ1 W1 ⟨e1, e2⟩ => e1 ▸ e2 ▸ h
/-! ### readings of what is owned -/
theorem rv_ixO (k : Nat) {j : Nat} (ho : RV X an o ρ W W1 (refP b)) (hi : RV X an i ρ W1 W2 (dat K (.int (j : Int)))) (hk : W2[k]? = some (b, lstM Ps)) (hj : Ps[j]? = some P) (hs : PlainIx i := by exact fun _ _ => rfl) : RV X an (.Subscript o i pos) ρ W W2 P :=
  PEimp (pe_ix ix_list ho hi hs) fun σ H Q ⟨O, m, q⟩ => ⟨O, m, fun x H1 m1 s1 p1 => ⟨O, m1, fun y H2 m2 s2 p2 => by
    have p1 : x = .ref b := p1
    subst p1
    obtain ⟨xs, e2, sat⟩ := m2.lst hk
    obtain ⟨w, hw, pw⟩ := sat_at sat hj
    exact ⟨b, xs, _, w, rfl, dat_int p2, SqL.of e2, atI_nat hw, q w H2 m2 (s1.trans s2) pw⟩⟩⟩
theorem rv_ixLastO (k : Nat) (ho : RV X an o ρ W W1 (refP b)) (hi : RV X an i ρ W1 W2 (dat K (.int (-1)))) (hk : W2[k]? = some (b, lstM (Ps ++ [P]))) (hs : PlainIx i := by exact fun _ _ => rfl) : RV X an (.Subscript o i pos) ρ W W2 P :=
  PEimp (pe_ix ix_list ho hi hs) fun σ H Q ⟨O, m, q⟩ => ⟨O, m, fun x H1 m1 s1 p1 => ⟨O, m1, fun y H2 m2 s2 p2 => by
    have p1 : x = .ref b := p1
    subst p1
    obtain ⟨xs, e2, sat⟩ := m2.lst hk
    obtain ⟨w, hw, pw⟩ := sat_at (k := Ps.length) (P := P) sat (by simp)
    have hl : xs.length = Ps.length + 1 := by rw [← sat.length]; simp
    refine ⟨b, xs, _, w, rfl, dat_int p2, SqL.of e2, ?_, q w H2 m2 (s1.trans s2) pw⟩
    unfold atI ixN
    rw [if_neg (by decide), if_pos (by omega), hl]
    show xs[((-1 : Int) + ((Ps.length + 1 : Nat) : Int)).toNat]? = some w
    rw [show ((-1 : Int) + ((Ps.length + 1 : Nat) : Int)).toNat = Ps.length by omega]
    exact hw⟩⟩
theorem rv_lenO (k : Nat) {p : Pos} (hm : X.mg "len" = none) (ha : RV X an e ρ W W' (refP b)) (hk : W'[k]? = some (b, lstM Ps)) (hg : Gl X "len" := by rfl) (hs : starEach [e] X.env = (false, eval e X.env) :: starEach [] X.env := by rfl) (hpl : (backTo pos (starEach [] X.env)).any (·.1) = false := by rfl) : RV X an (.Call (.Name "len" p) [e] [] pos) ρ W W' (dat K (.int Ps.length)) :=
  PEimp (pe_callB call_len_seq hg hm (by decide +kernel) (pa_cons ha ra_nil hs) (by decide) (by decide) hs hpl) fun σ H Q ⟨O, m, q⟩ => ⟨O, m, fun x H1 m1 s1 p1 => ⟨O, m1, fun vs H2 m2 s2 p2 => by
    cases p2
    have p1 : x = .ref b := p1
    subst p1
    obtain ⟨xs, e2, sat⟩ := m2.lst hk
    exact ⟨b, xs, rfl, .inl (SqL.of e2), q _ H2 m2 (s1.trans s2) (by rw [sat.length]; exact .int _)⟩⟩⟩
/-! ### instances -/
/-- an instance of C: the fields by name -/
def FldsOk (fs : List (Str × SP)) (H : Hp) (vs : List (Str × V)) : Prop := Paired (fun (p : Str × SP) (q : Str × V) => p.1 = q.1 ∧ p.2.p H q.2) fs vs
theorem FldsOk.same {H H' : Hp} (s : Same H H') : ∀ {fs : List (Str × SP)} {vs : List (Str × V)}, FldsOk fs H vs → FldsOk fs H' vs
  | _, _, .nil => .nil
  | _, _, .cons ⟨h1, h2⟩ t => .cons ⟨h1, SP.st _ s h2⟩ (FldsOk.same s t)
theorem FldsOk.get {H : Hp} {f : Str} {P : SP} : ∀ {fs : List (Str × SP)} {vs : List (Str × V)}, FldsOk fs H vs → fs.lookup f = some P → ∃ u, vs.lookup f = some u ∧ P.p H u
  | _, _, .nil, e => by simp at e
  | (g, Q) :: fs, (g', u) :: vs, .cons ⟨h1, h2⟩ t, e => by
    have h1 : g = g' := h1
    subst h1
    rw [List.lookup_cons] at e ⊢
    cases q : f == g with
    | true =>
      rw [q] at e
      cases e
      exact ⟨u, rfl, h2⟩
    | false =>
      rw [q] at e
      exact FldsOk.get t e
theorem FldsOk.no {H : Hp} {f : Str} : ∀ {fs : List (Str × SP)} {vs : List (Str × V)}, FldsOk fs H vs → fs.lookup f = none → vs.lookup f = none
  | _, _, .nil, e => rfl
  | (g, Q) :: fs, (g', u) :: vs, .cons ⟨h1, h2⟩ t, e => by
    have h1 : g = g' := h1
    subst h1
    rw [List.lookup_cons] at e ⊢
    cases q : f == g with
    | true =>
      rw [q] at e
      cases e
    | false =>
      rw [q] at e
      exact FldsOk.no t e
def insM (C : Addr) (fs : List (Str × SP)) : MP := ⟨fun H o => ∃ dx vs, o = .ins C dx vs ∧ FldsOk fs H vs, fun e ⟨dx, vs, h1, h2⟩ => ⟨dx, vs, h1, h2.same e⟩⟩
def insP (C : Addr) (fs : List (Str × SP)) : SP := ⟨fun H v => ∃ a dx vs, v = .ref a ∧ H a = some (.ins C dx vs) ∧ FldsOk fs H vs, fun e ⟨a, dx, vs, h1, h2, h3⟩ => ⟨a, dx, vs, h1, e _ _ h2, h3.same e⟩⟩
theorem insP_ins {C : Addr} {fs : List (Str × SP)} {m : Str} (e : fs.lookup m = none) : InsP C (insP C fs) m := fun H v ⟨a, dx, vs, h1, h2, h3⟩ => ⟨a, dx, vs, h1, h2, h3.no e⟩
theorem insP_fld {C : Addr} {fs : List (Str × SP)} {f : Str} (c : Cls K C) (n : NoAttr K C f) (e : fs.lookup f = some P) : FldP K (insP C fs) f P := fun H v ⟨a, dx, vs, h1, h2, h3⟩ => by
  obtain ⟨u, h4, h5⟩ := h3.get e
  exact ⟨a, C, dx, vs, u, h1, h2, c, n, h4, h5⟩
theorem insM_P {C : Addr} {fs : List (Str × SP)} (H : Hp) (p : Addr) (o : HO) (e : H p = some o) (h : (insM C fs).p H o) : (insP C fs).p H (.ref p) := by
  obtain ⟨dx, vs, h1, h2⟩ := h
  exact ⟨p, dx, vs, rfl, h1 ▸ e, h2⟩
def putP (f : Str) (P : SP) : List (Str × SP) → List (Str × SP)
  | [] => [(f, P)]
  | (g, Q) :: r => if g = f then (g, P) :: r else (g, Q) :: putP f P r
theorem FldsOk.put {H : Hp} {f : Str} {P : SP} {v : V} (p : P.p H v) : ∀ {fs : List (Str × SP)} {vs : List (Str × V)}, FldsOk fs H vs → FldsOk (putP f P fs) H (putF f v vs)
  | _, _, .nil => .cons ⟨rfl, p⟩ .nil
  | (g, Q) :: fs, (g', u) :: vs, .cons ⟨h1, h2⟩ t => by
    have h1 : g = g' := h1
    subst h1
    unfold putP putF
    by_cases e : g = f
    · rw [if_pos e, if_pos e]
      exact .cons ⟨rfl, p⟩ t
    · rw [if_neg e, if_neg e]
      exact .cons ⟨rfl, h2⟩ (FldsOk.put p t)
theorem MX.ins {C : Addr} {fs : List (Str × SP)} (m : MX an O ρ W σ H) (hk : W[k]? = some (b, insM C fs)) : ∃ dx vs, H b = some (.ins C dx vs) ∧ FldsOk fs (mn H O) vs := by
  obtain ⟨_, o, e, dx, vs, eo, sat⟩ := m.wo.at_ _ (List.mem_of_getElem? hk)
  subst eo
  exact ⟨dx, vs, e, sat⟩
/-- o.f = e -/
theorem rs_fld (k : Nat) {C : Addr} {fs : List (Str × SP)} {f : Str} (he : RV X an e ρ W W1 P) (ho : RV X an o ρ W1 W2 (refP b)) (hk : W2[k]? = some (b, insM C fs)) (c : Cls X.K C) (n : NoAttr X.K C f) (h : RSs X an rest ρ (W2.set k (b, insM C (putP f P fs))) N R Wz) (hl : fs.length < 1000 := by exact of_decide_eq_true rfl)
    (hs : swapsWith e (some (.Attribute o f pos')) pos.line X.env = pure false := by rfl) : RSs X an (.Assign [.Attribute o f pos'] e pos :: rest) ρ W N R Wz :=
  rs_cons (N1 := fun ρ1 W' => ρ1 = ρ ∧ W' = W2.set k (b, insM C (putP f P fs))) (PSimp (ps_fld ho he hs) fun D σ H ⟨O, m, nx, rt⟩ => ⟨O, m, fun v H1 m1 s1 p1 => ⟨O, m1, fun x H2 m2 s2 p2 => by
      have p2 : x = .ref b := p2
      subst p2
      obtain ⟨dx, vs, e2, sat⟩ := m2.ins hk
      refine ⟨b, C, dx, vs, rfl, e2, c, n, by rw [← Paired.length sat]; exact hl, ?_⟩
      obtain ⟨m3, s3⟩ := m2.put (m' := insM C (putP f P fs)) (o' := .ins C dx (putF f v vs)) hk ⟨dx, _, rfl, FldsOk.put (P.st s2 p1) sat⟩
      exact nx _ _ _ _ O ⟨rfl, rfl⟩ m3 ((s1.trans s2).trans s3)⟩⟩) fun ρ1 W1 ⟨e1, e2⟩ => e1 ▸ e2 ▸ h
/-- o.f -/
theorem rv_fldO (k : Nat) {C : Addr} {fs : List (Str × SP)} {f : Str} (ho : RV X an o ρ W W' (refP b)) (hk : W'[k]? = some (b, insM C fs)) (c : Cls X.K C) (n : NoAttr X.K C f) (hf : fs.lookup f = some P) (hb : attributeBase o f X.env (eval o X.env) = eval o X.env := by rfl) : RV X an (.Attribute o f pos) ρ W W' P :=
  PEimp (pe_fld ho hb) fun σ H Q ⟨O, m, q⟩ => ⟨O, m, fun x H1 m1 s1 p1 => by
    have p1 : x = .ref b := p1
    subst p1
    obtain ⟨dx, vs, e1, sat⟩ := m1.ins hk
    obtain ⟨u, h1, h2⟩ := FldsOk.get sat hf
    exact ⟨b, C, dx, vs, u, rfl, e1, c, n, h1, q u H1 m1 s1 h2⟩⟩
/-! ### loops by a measure -/
theorem rs_while {I : Nat → TF.Env → Wd → Prop} {bt : TF.Env → Wd → Bool} (hc : ∀ k ρ' W1, I k ρ' W1 → RT X an c ρ' W1 W1 (bt ρ' W1)) (hs : ∀ k ρ' W1, I k ρ' W1 → bt ρ' W1 = true → RSs X an body ρ' W1 (fun ρ2 W2 => ∃ k', k' < k ∧ I k' ρ2 W2) R Wz) (k : Nat) (h0 : I k ρ W) (h : ∀ k' ρ' W1, I k' ρ' W1 → bt ρ' W1 = false → RSs X an rest ρ' W1 N R Wz)
    (hp : PassesOwn (model X.prog X.w) X.A X.env X.xe := by exact PassesOwn.never) : RSs X an (.While c body [] pos :: rest) ρ W N R Wz :=
  rs_cons (N1 := fun ρ1 W1 => ∃ k', I k' ρ1 W1 ∧ bt ρ1 W1 = false) (PSimp (ps_while hp (PTex (ι := Nat × TF.Env × Wd) fun q => PTifp (hc q.1 q.2.1 q.2.2)) (PSsex (ι := Nat × TF.Env × Wd) fun q => PSsifp (p := I q.1 q.2.1 q.2.2 ∧ bt q.2.1 q.2.2 = true) fun h => hs q.1 q.2.1 q.2.2 h.1 h.2))
    fun D σ H ⟨O, m, nx, rt⟩ => by
      refine ⟨fun k' σ' H' => ∃ ρ' W' O', I k' ρ' W' ∧ MX an O' ρ' W' σ' H' ∧ Same (mn H O) (mn H' O'), ⟨k, ρ, W, O, h0, m, Same.refl _⟩, ?_⟩
      rintro k' σ' H' ⟨ρ', W', O', hI, m', s'⟩
      refine ⟨(k', ρ', W'), hI, O', m', fun H1 m1 s1 => ?_⟩
      cases hb : bt ρ' W' with
      | true =>
        refine iteT ⟨fun σ2 H2 => ∃ k2, k2 < k' ∧ ∃ ρ' W' O', I k2 ρ' W' ∧ MX an O' ρ' W' σ2 H2 ∧ Same (mn H O) (mn H2 O'), fun σ2 H2 ⟨k2, hk, z⟩ => ⟨k2, hk, z⟩, (k', ρ', W'), ⟨hI, hb⟩, O', m1, fun ρ2 W2 σ2 H2 O2 ⟨k2, hk2, hI2⟩ m2 s2 => ⟨k2, hk2, ρ2, W2, O2, hI2, m2, (s'.trans s1).trans s2⟩, rt⟩
      | false => exact iteF (nx ρ' W' σ' H1 O' ⟨k', hI, hb⟩ m1 (s'.trans s1))) fun ρ1 W1 ⟨k', hI, hb⟩ => h k' ρ1 W1 hI hb
end
end TF
set_option Elab.async false
set_option linter.all false
set_option maxRecDepth 100000
set_option maxHeartbeats 4000000
/-! E1: zip(a, b, strict=True) of two tuples; enumerate(a tuple). -/
namespace ZS
open PySem PySem.Spec PyProof.Rows L2
/-- a strict zip's record -/
abbrev Zp (h : Heap) (z TI TO : Addr) (f0 : Value) : Prop :=
  h.get? z = some { cls := .type "zip", dict := none, data := .fields #[f0, .bool false, .bool true, .ref TI, .ref TO], slots := #[] }
section
variable {prog : Program} {w : World} {A : Around} {E : Value → Shared → Prop} {s : Shared}
theorem nxt_item {it l : Addr} {i : Nat} {items : Array Value} {x : Value} {Q : Option Value → Shared → Prop} (hit : s.heap.IsTupleIter it l i) (hl : s.heap.IsTuple l items) (hx : items[i]? = some x)
    (hQ : ∀ g, g.IsTupleIter it l (i + 1) → Heap.SameBut it s.heap g → Q (some x) { s with heap := g }) : wpAny (model prog w) A (Builtin.SmallTypes.nextOrEnd (.ref it)) Q E s := by
  unfold Builtin.SmallTypes.nextOrEnd
  exact wpAny_bind (wpAny_attempt (RZ.nextOf_tuple_item hit hl hx fun g q1 q2 => wpAny_pure (hQ g q1 q2)))
theorem nxt_end {it l : Addr} {i : Nat} {items : Array Value} {Q : Option Value → Shared → Prop} (hh : A.handled = none) (hit : s.heap.IsTupleIter it l i) (hl : s.heap.IsTuple l items) (hx : items[i]? = none)
    (hQ : ∀ g, Heap.ExtBut it s.heap g → Q none { s with heap := g }) : wpAny (model prog w) A (Builtin.SmallTypes.nextOrEnd (.ref it)) Q E s := by
  unfold Builtin.SmallTypes.nextOrEnd
  refine wpAny_bind (wpAny_attempt (RZ.nextOf_tuple_end hh hit hl hx fun g e k ⟨oe, h1, h2⟩ => ?_))
  exact wpAny_bind (wpAny_isInstance (T := "StopIteration") (b := true) ⟨oe, h1, h2⟩ isSubtype_stop (wpAny_pure (hQ g k)))
theorem stop_raise {h : Shared} {Q : Fin → Shared → Prop} (hh : A.handled = none) (hE : ∀ g e, (∀ c o, h.heap.get? c = some o → g.get? c = some o) → (∃ o, g.get? e = some o ∧ o.cls = .type "StopIteration") → E (.ref e) { h with heap := g }) :
    wpAny (model prog w) A (Builtin.SmallTypes.stopIteration (α := Fin)) Q E h := by
  unfold Builtin.SmallTypes.stopIteration
  refine wpAny_bind ?_
  simp only [newExc, newTuple]
  refine wpAny_bind (wpAny_newObj_type ?_ (by size_fits))
  refine wpAny_bind (m := firstArgMember _ _) (wpAny_of_eq (a := Value.none) (by first | rfl | (simp only [firstArgMember]; rfl)) ?_)
  refine wpAny_newObj_type ?_ (by size_fits)
  simp only [raiseNew]
  refine wpAny_bind (wpAny_handled ?_)
  rw [hh]
  refine wpAny_bind (wpAny_pure (wpAny_throw (hE _ _ (fun c o q => ?_) ⟨_, Heap.get?_push_size _ rfl, rfl⟩)))
  exact Heap.get?_push_of_some _ (Heap.get?_push_of_some _ q)
theorem z_item {z TI TO i1 i2 l1 l2 : Addr} {k1 k2 : Nat} {xs ys : Array Value} {x y a b : Value} {Q : Value → Shared → Prop} (D : ZipApart z TI TO i1 i2 l1 l2) (hz : Zp s.heap z TI TO .none) (hTI : IsPair s.heap TI (.ref i1) (.ref i2)) (hTO : IsPair s.heap TO a b)
    (j1 : s.heap.IsTupleIter i1 l1 k1) (j2 : s.heap.IsTupleIter i2 l2 k2) (t1 : s.heap.IsTuple l1 xs) (t2 : s.heap.IsTuple l2 ys) (hx : xs[k1]? = some x) (hy : ys[k2]? = some y)
    (hQ : ∀ g, Zp g z TI TO (rawInt s.heap.objs.size) → IsPair g TO x y → g.IsTupleIter i1 l1 (k1 + 1) → g.IsTupleIter i2 l2 (k2 + 1) → IsPair g s.heap.objs.size x y → g.objs.size = s.heap.objs.size + 1 →
      (∀ c o, c ≠ z → c ≠ TO → c ≠ i1 → c ≠ i2 → s.heap.get? c = some o → g.get? c = some o) → Q (.ref s.heap.objs.size) { s with heap := g }) :
    wpAny (model prog w) A (Builtin.«zip.__next__» ⟨[.ref z], []⟩) (fun fin s2 => ∃ v, fin = .done (.ret v) ∧ Q v s2) E s := by
  show wpAny _ _ (field (.ref z) 2 >>= _) _ _ _
  refine wpAny_bind (wpAny_field hz rfl (x := .bool true) rfl ?_)
  show wpAny _ _ (field (.ref z) 3 >>= _) _ _ _
  refine wpAny_bind (wpAny_field hz rfl (x := .ref TI) rfl ?_)
  refine wpAny_bind (wpAny_seqItems hTI rfl ?_)
  show wpAny _ _ (Builtin.SmallTypes.ownedTupleIsFree (.ref z) >>= _) _ _ _
  refine wpAny_bind ?_
  unfold Builtin.SmallTypes.ownedTupleIsFree
  refine wpAny_bind (wpAny_field hz rfl (x := .none) rfl (wpAny_pure ?_))
  simp only [if_true]
  refine wpAny_bind (wpAny_rule ?_)
  refine wpAny_bind (wpAny_field hz rfl (x := .ref TO) rfl ?_)
  refine wpAny_bind (wpAny_setField_rec hz (by simp) fun g1 hz1 s1 => ?_)
  replace hz1 : Zp g1 z TI TO .ellipsis := hz1
  refine wpAny_bind ?_
  simp only [List.zipIdx_cons, List.zipIdx_nil, List.forIn_cons, List.forIn_nil]
  refine wpAny_bind (wpAny_bind (wpAny_onRaise ?_))
  show wpAny _ _ (Builtin.SmallTypes.nextOrEnd (.ref i1)) _ _ _
  refine nxt_item (j1.extBut s1.extBut D.i1z) (t1.extBut s1.extBut D.l1z) hx fun g2 j12 s2 => ?_
  have p2 : IsPair g2 TO a b := s2.extBut _ _ D.TOi1 (s1.extBut _ _ D.TOz hTO)
  refine wpAny_bind (wpAny_seqItems p2 rfl ?_)
  refine wpAny_bind (wpAny_updateSeq_pair p2 fun g3 p3 s3 => ?_)
  replace p3 : IsPair g3 TO x b := p3
  refine wpAny_bind (wpAny_letGo (wpAny_pure ?_))
  refine wpAny_bind (wpAny_bind (wpAny_onRaise ?_))
  show wpAny _ _ (Builtin.SmallTypes.nextOrEnd (.ref i2)) _ _ _
  refine nxt_item (((j2.extBut s1.extBut D.i2z).extBut s2.extBut D.i12.symm).extBut s3.extBut D.TOi2.symm) (((t2.extBut s1.extBut D.l2z).extBut s2.extBut D.l2i1).extBut s3.extBut D.l2TO) hy fun g4 j24 s4 => ?_
  have p4 : IsPair g4 TO x b := s4.extBut _ _ D.TOi2 p3
  refine wpAny_bind (wpAny_seqItems p4 rfl ?_)
  refine wpAny_bind (wpAny_updateSeq_pair p4 fun g5 p5 s5 => ?_)
  replace p5 : IsPair g5 TO x y := p5
  refine wpAny_bind (wpAny_letGo (wpAny_pure (wpAny_pure ?_)))
  refine wpAny_bind (wpAny_seqItems p5 rfl ?_)
  refine wpAny_bind (wpAny_newTuple ?_)
  have esz : g5.objs.size = s.heap.objs.size := by rw [s5.1, s4.1, s3.1, s2.1, s1.1]
  have z5 : Zp g5 z TI TO .ellipsis := s5.extBut _ _ D.TOz.symm (s4.extBut _ _ D.i2z.symm (s3.extBut _ _ D.TOz.symm (s2.extBut _ _ D.i1z.symm hz1)))
  have k5 : ∀ c o, c ≠ z → c ≠ TO → c ≠ i1 → c ≠ i2 → s.heap.get? c = some o → g5.get? c = some o := fun c o c1 c2 c3 c4 e => s5.extBut _ _ c2 (s4.extBut _ _ c4 (s3.extBut _ _ c2 (s2.extBut _ _ c3 (s1.extBut _ _ c1 e))))
  have q1 : g5.IsTupleIter i1 l1 (k1 + 1) := ((j12.extBut s3.extBut D.TOi1.symm).extBut s4.extBut D.i12).extBut s5.extBut D.TOi1.symm
  have q2 : g5.IsTupleIter i2 l2 (k2 + 1) := j24.extBut s5.extBut D.TOi2.symm
  have zlt : z < g5.objs.size := Heap.lt_size z5
  show wpAny _ _ (Builtin.SmallTypes.ownedTupleHandOut (.ref z) (.ref g5.objs.size) >>= _) _ _ _
  refine wpAny_bind ?_
  unfold Builtin.SmallTypes.ownedTupleHandOut
  have z6 : Zp (g5.push { cls := .type "tuple", data := .seq #[x, y] }) z TI TO .ellipsis := Heap.get?_push_of_some _ z5
  refine wpAny_bind (wpAny_setField_rec z6 (by simp) fun g7 z7 s7 => ?_)
  replace z7 : Zp g7 z TI TO (rawInt g5.objs.size) := z7
  refine wpAny_setField_rec z7 (by simp) fun g8 z8 s8 => ?_
  replace z8 : Zp g8 z TI TO (rawInt g5.objs.size) := z8
  have up : ∀ c o, c ≠ z → g5.get? c = some o → g8.get? c = some o := fun c o c1 e => s8.extBut _ _ c1 (s7.extBut _ _ c1 (Heap.get?_push_of_some _ e))
  have T8 : IsPair g8 g5.objs.size x y := s8.extBut _ _ (Nat.ne_of_gt zlt) (s7.extBut _ _ (Nat.ne_of_gt zlt) (Heap.get?_push_size _ rfl))
  have n8 : g8.objs.size = g5.objs.size + 1 := by rw [s8.1, s7.1, Heap.size_push]
  rw [esz] at z8 T8 n8
  refine wpAny_pure ⟨_, rfl, ?_⟩
  show Q (.ref g5.objs.size) _
  rw [esz]
  exact hQ g8 z8 (up _ _ D.TOz p5) (q1.at fun o e => up _ o D.i1z e) (q2.at fun o e => up _ o D.i2z e) T8 n8 fun c o c1 c2 c3 c4 e => up c o c1 (k5 c o c1 c2 c3 c4 e)
theorem z_end {z TI TO i1 i2 l1 l2 : Addr} {k1 k2 : Nat} {xs ys : Array Value} {a b : Value} {Q : Fin → Shared → Prop} (hh : A.handled = none) (D : ZipApart z TI TO i1 i2 l1 l2) (hz : Zp s.heap z TI TO .none) (hTI : IsPair s.heap TI (.ref i1) (.ref i2)) (hTO : IsPair s.heap TO a b)
    (j1 : s.heap.IsTupleIter i1 l1 k1) (j2 : s.heap.IsTupleIter i2 l2 k2) (t1 : s.heap.IsTuple l1 xs) (t2 : s.heap.IsTuple l2 ys) (hx : xs[k1]? = none) (hy : ys[k2]? = none)
    (hE : ∀ g e, (∀ c o, c ≠ z → c ≠ TO → c ≠ i1 → c ≠ i2 → s.heap.get? c = some o → g.get? c = some o) → (∃ o, g.get? e = some o ∧ o.cls = .type "StopIteration") → E (.ref e) { s with heap := g }) :
    wpAny (model prog w) A (Builtin.«zip.__next__» ⟨[.ref z], []⟩) Q E s := by
  show wpAny _ _ (field (.ref z) 2 >>= _) _ _ _
  refine wpAny_bind (wpAny_field hz rfl (x := .bool true) rfl ?_)
  show wpAny _ _ (field (.ref z) 3 >>= _) _ _ _
  refine wpAny_bind (wpAny_field hz rfl (x := .ref TI) rfl ?_)
  refine wpAny_bind (wpAny_seqItems hTI rfl ?_)
  show wpAny _ _ (Builtin.SmallTypes.ownedTupleIsFree (.ref z) >>= _) _ _ _
  refine wpAny_bind ?_
  unfold Builtin.SmallTypes.ownedTupleIsFree
  refine wpAny_bind (wpAny_field hz rfl (x := .none) rfl (wpAny_pure ?_))
  simp only [if_true]
  refine wpAny_bind (wpAny_rule ?_)
  refine wpAny_bind (wpAny_field hz rfl (x := .ref TO) rfl ?_)
  refine wpAny_bind (wpAny_setField_rec hz (by simp) fun g1 hz1 s1 => ?_)
  replace hz1 : Zp g1 z TI TO .ellipsis := hz1
  refine wpAny_bind ?_
  simp only [List.zipIdx_cons, List.zipIdx_nil, List.forIn_cons, List.forIn_nil]
  refine wpAny_bind (wpAny_bind (wpAny_onRaise ?_))
  show wpAny _ _ (Builtin.SmallTypes.nextOrEnd (.ref i1)) _ _ _
  refine nxt_end hh (j1.extBut s1.extBut D.i1z) (t1.extBut s1.extBut D.l1z) hx fun g2 s2 => ?_
  have z2 : Zp g2 z TI TO .ellipsis := s2 _ _ D.i1z.symm hz1
  refine wpAny_bind (wpAny_setField_rec (s := { s with heap := g2 }) z2 (by simp) fun g3 z3 s3 => ?_)
  replace s3 : Heap.SameBut z g2 g3 := s3
  refine wpAny_bind (wpAny_bind ?_)
  change wpAny _ _ (forIn ((List.drop 1 [Value.ref i1, Value.ref i2]).zipIdx 1) PUnit.unit _) _ _ _
  show wpAny _ _ (forIn [(Value.ref i2, 1)] PUnit.unit _) _ _ _
  simp only [List.forIn_cons, List.forIn_nil]
  refine wpAny_bind (wpAny_bind ?_)
  have T1 : g3.IsTupleIter i2 l2 k2 := ((j2.extBut s1.extBut D.i2z).at fun o e => s2 _ _ D.i12.symm e).extBut s3.extBut D.i2z
  have T2 : g3.IsTuple l2 ys := ((t2.extBut s1.extBut D.l2z).at fun o e => s2 _ _ D.l2i1 e).extBut s3.extBut D.l2z
  refine nxt_end (s := { s with heap := g3 }) hh T1 T2 hy fun g4 s4 => ?_
  replace s4 : Heap.ExtBut i2 g3 g4 := s4
  show wpAny _ _ (pure (ForInStep.yield PUnit.unit)) _ _ _
  refine wpAny_pure (wpAny_pure (wpAny_bind (wpAny_rule ?_)))
  refine stop_raise (h := { s with heap := g4 }) hh fun g5 e k5 he => ?_
  exact hE g5 e (fun c o c1 c2 c3 c4 q => k5 c o (s4 _ _ c4 (s3.extBut _ _ c1 (s2 _ _ c3 (s1.extBut _ _ c1 q))))) he
theorem next_item {z TI TO i1 i2 l1 l2 : Addr} {k1 k2 : Nat} {xs ys : Array Value} {x y a b : Value} {Q : Option Value → Shared → Prop} (D : ZipApart z TI TO i1 i2 l1 l2) (hz : Zp s.heap z TI TO .none) (hTI : IsPair s.heap TI (.ref i1) (.ref i2)) (hTO : IsPair s.heap TO a b)
    (j1 : s.heap.IsTupleIter i1 l1 k1) (j2 : s.heap.IsTupleIter i2 l2 k2) (t1 : s.heap.IsTuple l1 xs) (t2 : s.heap.IsTuple l2 ys) (hx : xs[k1]? = some x) (hy : ys[k2]? = some y)
    (hQ : ∀ g, Zp g z TI TO (rawInt s.heap.objs.size) → IsPair g TO x y → g.IsTupleIter i1 l1 (k1 + 1) → g.IsTupleIter i2 l2 (k2 + 1) → IsPair g s.heap.objs.size x y → g.objs.size = s.heap.objs.size + 1 →
      (∀ c o, c ≠ z → c ≠ TO → c ≠ i1 → c ≠ i2 → s.heap.get? c = some o → g.get? c = some o) → Q (some (.ref s.heap.objs.size)) { s with heap := g }) : wpAny (model prog w) A (pyNext (.ref z)) Q E s := by
  have hT : s.TypeIs (.ref z) "zip" := ⟨_, hz, rfl⟩
  unfold pyNext
  refine wpAny_bind (wpAny_attempt (wpAny_callSpecial?_slot (name := Str.ofString "__next__") hT F.slot_zip_next (wpAny_call_entry F.slot_zip_next hT F.entry_zip_next ?_ (F.args_zip_next_1 _))))
  exact z_item D hz hTI hTO j1 j2 t1 t2 hx hy fun g a1 a2 a3 a4 a5 a6 a7 => wpAny_pure (hQ g a1 a2 a3 a4 a5 a6 a7)
theorem next_end {z TI TO i1 i2 l1 l2 : Addr} {k1 k2 : Nat} {xs ys : Array Value} {a b : Value} {Q : Option Value → Shared → Prop} (hh : A.handled = none) (D : ZipApart z TI TO i1 i2 l1 l2) (hz : Zp s.heap z TI TO .none) (hTI : IsPair s.heap TI (.ref i1) (.ref i2)) (hTO : IsPair s.heap TO a b)
    (j1 : s.heap.IsTupleIter i1 l1 k1) (j2 : s.heap.IsTupleIter i2 l2 k2) (t1 : s.heap.IsTuple l1 xs) (t2 : s.heap.IsTuple l2 ys) (hx : xs[k1]? = none) (hy : ys[k2]? = none)
    (hQ : ∀ g, (∀ c o, c ≠ z → c ≠ TO → c ≠ i1 → c ≠ i2 → s.heap.get? c = some o → g.get? c = some o) → Q none { s with heap := g }) : wpAny (model prog w) A (pyNext (.ref z)) Q E s := by
  have hT : s.TypeIs (.ref z) "zip" := ⟨_, hz, rfl⟩
  unfold pyNext
  refine wpAny_bind (wpAny_attempt (wpAny_callSpecial?_slot (name := Str.ofString "__next__") hT F.slot_zip_next (wpAny_call_entry F.slot_zip_next hT F.entry_zip_next ?_ (F.args_zip_next_1 _))))
  refine z_end hh D hz hTI hTO j1 j2 t1 t2 hx hy fun g e k ⟨o, ho, hc⟩ => ?_
  exact wpAny_bind (wpAny_isInstance (T := "StopIteration") (b := true) ⟨o, ho, hc⟩ isSubtype_stop (wpAny_pure (hQ _ k)))
theorem go_zip {elts : List Expr} {x1} {pos : Pos} {z TI TO T : Addr} {Q : Unit → Shared → Prop} (hz : Zp s.heap z TI TO (rawInt T)) (hQ : ∀ g, Zp g z TI TO .none → Heap.SameBut z s.heap g → Q () { s with heap := g }) :
    wpAny (model prog w) A (letOwnedTupleGo (.Tuple elts x1 pos) (.ref z) (.ref T)) Q E s := by
  unfold letOwnedTupleGo
  refine wpAny_bind (wpAny_load hz ?_)
  show wpAny _ _ (if (["enumerate", "zip", "dict_itemiterator", "dict_reverseitemiterator", "odict_iterator", "itertools.zip_longest", "itertools.pairwise"].contains "zip" && (#[rawInt T, .bool false, .bool true, .ref TI, .ref TO] : Array Value)[0]? == some (rawInt T)) = true then _ else _) Q E s
  rw [if_pos (by simp)]
  refine wpAny_bind (wpAny_rule ?_)
  show wpAny _ _ (setField (.ref z) 0 .none) Q E s
  exact wpAny_setField_rec hz (by simp) fun g q1 q2 => hQ g q1 q2
theorem iter_zip {z TI TO : Addr} {f0 : Value} {Q : Value → Shared → Prop} (hz : Zp s.heap z TI TO f0) (h : Q (.ref z) s) : wpAny (model prog w) A (pyIter (.ref z)) Q E s := by
  have hT : s.TypeIs (.ref z) "zip" := ⟨_, hz, rfl⟩
  refine wpAny_pyIter_slot hT F.slot_zip_iter (wpAny_call_entry F.slot_zip_iter hT F.entry_zip_iter ?_ (F.args_zip_iter_1 _))
  show wpAny _ _ (ret (.ref z)) _ _ s
  exact wpAny_pure ⟨_, rfl, "zip", _, hT, F.slot_zip_next.lookup, h⟩
end
theorem typeCall_s (a b : Value) : checkTypeCall "zip" ⟨[a, b], [(Str.ofString "strict", .bool true)]⟩ = pure () := by kernel_rfl
theorem newCall_s (a b : Value) : checkBuiltinCall "zip.__new__" ⟨[.type "zip", a, b], [(Str.ofString "strict", .bool true)]⟩ = pure () := by kernel_rfl
theorem args_s (o a b : Value) : argsOk "object.__init__" ⟨[o, a, b], [(Str.ofString "strict", .bool true)]⟩ := by unfold argsOk; kernel_rfl
abbrev h1 (h : Heap) (l1 : Addr) : Heap := h.push { cls := .type "tuple_iterator", data := .fields #[.ref l1, .int 0 0] }
abbrev h2 (h : Heap) (l1 l2 : Addr) : Heap := (h1 h l1).push { cls := .type "tuple_iterator", data := .fields #[.ref l2, .int 0 0] }
abbrev h3 (h : Heap) (l1 l2 : Addr) : Heap := (h2 h l1 l2).push { cls := .type "tuple", data := .seq #[.ref h.objs.size, .ref (h1 h l1).objs.size] }
abbrev h4 (h : Heap) (l1 l2 : Addr) : Heap := (h3 h l1 l2).push { cls := .type "tuple", data := .seq #[.none, .none] }
abbrev h5 (h : Heap) (l1 l2 : Addr) : Heap := (h4 h l1 l2).push { cls := .type "zip", data := .fields #[.none, .bool false, .bool true, .ref (h2 h l1 l2).objs.size, .ref (h3 h l1 l2).objs.size] }
theorem meets_new (l1 l2 : Addr) (xs ys : Array Value) : Meets (Builtin.«zip.__new__» ⟨[.type "zip", .ref l1, .ref l2], [(Str.ofString "strict", .bool true)]⟩) (fun _ R s => s.heap.IsTuple l1 xs ∧ s.heap.IsTuple l2 ys ∧ R (.ok (.ret (.ref (h4 s.heap l1 l2).objs.size))) { s with heap := h5 s.heap l1 l2 }) :=
  .of_wp fun prog w A R s h => by
    obtain ⟨hp, g, d, tk, os⟩ := s; obtain ⟨hl1, hl2, h⟩ := h
    have hsub := sub_zip
    have e1 : (Str.ofString "strict" != ("strict" : Str)) = false := by decide +kernel
    have hL1 : Heap.IsTuple (Shared.heap ⟨hp, g, d, tk, os⟩) l1 xs := hl1
    have hL2 : Heap.IsTuple (Shared.heap ⟨hp.push { cls := .type "tuple_iterator", data := .fields #[.ref l1, .int 0 0] }, g, d, tk, os⟩) l2 ys := Heap.IsTuple.push hl2 _
    wp_walk using wpAny_pyIter_tuple hL1, wpAny_pyIter_tuple hL2
    exact ⟨_, rfl, h⟩
end ZS
set_option Elab.async false
set_option linter.all false
set_option maxRecDepth 100000
set_option maxHeartbeats 4000000
/-! E2: the strict zip and enumerate as what is walked. -/
namespace ZS
open PySem PySem.Spec PyProof.Rows L2
section
variable {M : Model} {A : Around} {E : Value → Shared → Prop} {s : Shared} {env : Env}
theorem with_ty {pos : Pos} {T : String} {args : List (Bool × Sem Value)} {keywords : List (Option Str × Sem Value)} {Q : Value → Shared → Prop} (hp : args.any (·.1) = false) (hk : keywords.any (·.1.isNone) = false)
    (h : wpAny M A (evalArgs (.type T) true args keywords) (fun a s1 => wpAny M A (call (.type T) a.pos a.kw) Q E s1) E s) : wpAny M A (callWith pos (.type T) [] args keywords) Q E s := by
  unfold callWith
  refine wpAny_bind (wpAny_holding (wpAny_mono h (fun a s1 k1 => wpAny_bind (wpAny_standAt ?_)) fun _ _ x => x))
  simp only [hp, hk, Bool.or_false]
  refine wpAny_bind (wpAny_pure ?_)
  exact wpAny_bind (wpAny_mono k1 (fun r s2 hr => wpAny_bind (wpAny_holding (wpAny_point (wpAny_pure hr)))) fun _ _ x => x)
theorem with_kw {pos : Pos} {T : String} {e : Expr} {rest : List Expr} {kws : List Keyword} {Q : Value → Shared → Prop}
    (h : wpAny M A (spliced (backTo pos (starEach (e :: rest) env))) (fun vs s1 => wpAny M A (evalAll ((backToKw pos (keywordEach kws env)).map (·.2))) (fun kvs s2 => wpAny M A (call (.type T) vs (((backToKw pos (keywordEach kws env)).filterMap (·.1)).zip kvs)) Q E s2) E s1) E s)
    (he : backTo pos (starEach (e :: rest) env) = (false, eval e env) :: backTo pos (starEach rest env)) (hp : (backTo pos (starEach (e :: rest) env)).any (·.1) = false) (hall : (backToKw pos (keywordEach kws env)).all (·.1.isSome) = true) (hk : (backToKw pos (keywordEach kws env)).any (·.1.isNone) = false) :
    wpAny M A (callWith pos (.type T) [] (backTo pos (starEach (e :: rest) env)) (backToKw pos (keywordEach kws env))) Q E s := by
  refine with_ty hp hk ?_
  rw [he] at h ⊢
  exact evalArgs_kwB hall h
end
section
variable {prog : Program} {w : World} {A : Around} {E : Value → Shared → Prop} {s : Shared}
theorem call_s {l1 l2 : Addr} {xs ys : Array Value} {Q : Value → Shared → Prop} (t1 : s.heap.IsTuple l1 xs) (t2 : s.heap.IsTuple l2 ys)
    (h : ∀ g, Zp g (s.heap.objs.size + 4) (s.heap.objs.size + 2) (s.heap.objs.size + 3) .none → IsPair g (s.heap.objs.size + 2) (.ref s.heap.objs.size) (.ref (s.heap.objs.size + 1)) → IsPair g (s.heap.objs.size + 3) .none .none →
      g.IsTupleIter s.heap.objs.size l1 0 → g.IsTupleIter (s.heap.objs.size + 1) l2 0 → g.objs.size = s.heap.objs.size + 5 → (∀ c o, s.heap.get? c = some o → g.get? c = some o) → Q (.ref (s.heap.objs.size + 4)) { s with heap := g }) :
    wpAny (model prog w) A (call (.type "zip") [.ref l1, .ref l2] [(Str.ofString "strict", .bool true)]) Q E s := by
  refine callType_newKw F.called_zip (by decide) (typeCall_s _ _) (newCall_s _ _) (fun o => args_s o _ _) F.entry_zip_new (meets_new l1 l2 xs ys) ⟨t1, t2, ?_⟩
  have n1 : (h1 s.heap l1).objs.size = s.heap.objs.size + 1 := Heap.size_push ..
  have n2 : (h2 s.heap l1 l2).objs.size = s.heap.objs.size + 2 := by rw [Heap.size_push, n1]
  have n3 : (h3 s.heap l1 l2).objs.size = s.heap.objs.size + 3 := by rw [Heap.size_push, n2]
  have n4 : (h4 s.heap l1 l2).objs.size = s.heap.objs.size + 4 := by rw [Heap.size_push, n3]
  have n5 : (h5 s.heap l1 l2).objs.size = s.heap.objs.size + 5 := by rw [Heap.size_push, n4]
  have m5 : (h5 s.heap l1 l2).get? (h4 s.heap l1 l2).objs.size = some _ := Heap.get?_push_size _ rfl
  have m4 : (h5 s.heap l1 l2).get? (h3 s.heap l1 l2).objs.size = some _ := Heap.get?_push_of_some _ (Heap.get?_push_size _ rfl)
  have m3 : (h5 s.heap l1 l2).get? (h2 s.heap l1 l2).objs.size = some _ := Heap.get?_push_of_some _ (Heap.get?_push_of_some _ (Heap.get?_push_size _ rfl))
  have m2 : (h5 s.heap l1 l2).get? (h1 s.heap l1).objs.size = some _ := Heap.get?_push_of_some _ (Heap.get?_push_of_some _ (Heap.get?_push_of_some _ (Heap.get?_push_size _ rfl)))
  have m1 : (h5 s.heap l1 l2).get? s.heap.objs.size = some _ := Heap.get?_push_of_some _ (Heap.get?_push_of_some _ (Heap.get?_push_of_some _ (Heap.get?_push_of_some _ (Heap.get?_push_size _ rfl))))
  show _ ∧ _
  rw [n2, n3, n4] at m5
  rw [n1, n2] at m3
  rw [n3] at m4
  rw [n1] at m2
  rw [n4]
  refine ⟨⟨_, m5, rfl⟩, h _ m5 m3 m4 ⟨_, m1, rfl, rfl⟩ ⟨_, m2, rfl, rfl⟩ n5 fun c o x => ?_⟩
  exact Heap.get?_push_of_some _ (Heap.get?_push_of_some _ (Heap.get?_push_of_some _ (Heap.get?_push_of_some _ (Heap.get?_push_of_some _ x))))
end
/-- two tuples of n items, turn by turn -/
def ItS (K : PySem.W.Frag) (n : Nat) (a b : Addr) : It :=
  ⟨fun i H => ∃ (xs ys : List V), SqT K H a xs ∧ SqT K H b ys ∧ xs.length = n ∧ ys.length = n ∧ i < n,
    fun i H v H' => ∃ T x y, v = .ref T ∧ H T = none ∧ H' = upd H T (.tup [x, y]) ∧ (∀ xs, SqT K H a xs → xs[i]? = some x) ∧ ∀ ys, SqT K H b ys → ys[i]? = some y,
    fun i H => ∃ xs ys : List V, SqT K H a xs ∧ SqT K H b ys ∧ xs.length = n ∧ ys.length = n ∧ i = n⟩
theorem turn_s {P : Program} {w : World} {K : PySem.W.Frag} {n : Nat} {elts : List Expr} {kk : Nat} {tpos : Pos} {a b z TI TO i1 i2 : Addr} (D : ZipApart z TI TO i1 i2 a b) :
    Turn P w K (.Tuple elts kk tpos) (ItS K n a b) [z, TI, TO, i1, i2] z (fun i h => Zp h z TI TO .none ∧ IsPair h TI (.ref i1) (.ref i2) ∧ (∃ x y, IsPair h TO x y) ∧ h.IsTupleIter i1 a i ∧ h.IsTupleIter i2 b i) where
  mem := List.mem_cons_self
  obj := fun i h st c hc => by
    obtain ⟨hz, hTI, ⟨x, y, hTO⟩, ⟨o1, e1, _, d1⟩, ⟨o2, e2, _, d2⟩⟩ := st
    have cs : c = z ∨ c = TI ∨ c = TO ∨ c = i1 ∨ c = i2 := by simpa using hc
    rcases cs with q | q | q | q | q <;> subst q
    · exact ⟨_, hz, fun v q => nomatch q⟩
    · exact ⟨_, hTI, fun v q => nomatch q⟩
    · exact ⟨_, hTO, fun v q => nomatch q⟩
    · exact ⟨o1, e1, fun v q => by rw [d1] at q; cases q⟩
    · exact ⟨o2, e2, fun v q => by rw [d2] at q; cases q⟩
  keep := fun i h h' ⟨hz, hTI, ⟨x, y, hTO⟩, q1, q2⟩ k => ⟨k z (by simp) _ hz, k TI (by simp) _ hTI, ⟨x, y, k TO (by simp) _ hTO⟩, q1.at fun o q => k i1 (by simp) o q, q2.at fun o q => k i2 (by simp) o q⟩
  item := by
    intro X hP hw hK hc i pins s σ H E I hf st hg
    subst hP hw hK
    obtain ⟨hz, hTI, ⟨x0, y0, hTO⟩, q1, q2⟩ := st
    obtain ⟨xs, ys, hqx, hqy, lx, ly, hi⟩ := hg
    obtain ⟨its, rv, p, _⟩ := I.tuple hqx
    obtain ⟨its2, rv2, p2, _⟩ := I.tuple hqy
    have hx : xs[i]? = some (xs[i]'(by omega)) := List.getElem?_eq_getElem (by omega)
    have hy : ys[i]? = some (ys[i]'(by omega)) := List.getElem?_eq_getElem (by omega)
    generalize xs[i]'(by omega) = x at hx
    generalize ys[i]'(by omega) = y at hy
    obtain ⟨u, hu, ru⟩ := rv.get hx
    obtain ⟨u2, hu2, ru2⟩ := rv2.get hy
    have zl : z < s.heap.objs.size := Heap.lt_size hz
    refine next_item D hz hTI hTO q1 q2 p p2 (x := u) (y := u2) (by simpa using hu) (by simpa using hu2) fun g z' TO' j1 j2 hT hsz hk => ?_
    refine ⟨_, rfl, go_zip (s := { s with heap := g }) z' fun g2 z2 sb => ?_⟩
    have hT2 : g2.get? s.heap.objs.size = some { cls := .type "tuple", data := .seq #[u, u2] } := (sb.2 _ (Nat.ne_of_gt zl)).trans hT
    have new : ObjOk X.prog X.w (upd H s.heap.objs.size (.tup [x, y])) g2 s.heap.objs.size (.tup [x, y]) := ⟨by show 2 ≤ sizeLine; decide, [u, u2], .cons ru (.cons ru2 .nil), ⟨_, hT2, rfl, _, rfl⟩⟩
    have nin : ∀ c, ¬ c ∈ [z, TI, TO, i1, i2] → c ≠ z ∧ c ≠ TO ∧ c ≠ i1 ∧ c ≠ i2 := fun c hc => ⟨fun q => hc (by simp [q]), fun q => hc (by simp [q]), fun q => hc (by simp [q]), fun q => hc (by simp [q])⟩
    have I1 : Inv X pins σ (upd H s.heap.objs.size (.tup [x, y])) { s with heap := g2 } := I.turnedNew (t' := s.toks) (ch := [z, TI, TO, i1, i2]) (fun c o hb q => by
      obtain ⟨n1, n2, n3, n4⟩ := nin c hb
      exact (sb.2 c n1).trans (hk c o n1 n2 n3 n4 q)) hf (Nat.le_refl _) new
    refine ⟨.ref s.heap.objs.size, _, I1, rfl, ⟨_, x, y, rfl, I.hok.fresh (Nat.le_refl _), rfl, fun l hl => by rw [I.tuple_inj hl hqx]; exact hx, fun l hl => by rw [I.tuple_inj hl hqy]; exact hy⟩, ⟨z2, ?_, ⟨u, u2, (sb.2 _ D.TOz).trans TO'⟩, j1.at fun o q => (sb.2 _ D.i1z).trans q, j2.at fun o q => (sb.2 _ D.i2z).trans q⟩, fun c hcm => ?_⟩
    · exact (sb.2 _ D.TIz).trans (hk _ _ D.TIz D.TITO D.TIi1 D.TIi2 hTI)
    · have hlt : c < s.heap.objs.size := by
        have cs : c = z ∨ c = TI ∨ c = TO ∨ c = i1 ∨ c = i2 := by simpa using hcm
        obtain ⟨_, e1, _⟩ := q1
        obtain ⟨_, e2, _⟩ := q2
        rcases cs with q | q | q | q | q <;> rw [q]
        · exact zl
        · exact Heap.lt_size hTI
        · exact Heap.lt_size hTO
        · exact Heap.lt_size e1
        · exact Heap.lt_size e2
      rw [upd_ne (Nat.ne_of_lt hlt)]
      exact (hf c hcm).1
  done := by
    intro X hP hw hK hc i pins s σ H E I hf st hg
    subst hP hw hK
    obtain ⟨hz, hTI, ⟨x0, y0, hTO⟩, q1, q2⟩ := st
    obtain ⟨xs, ys, hqx, hqy, lx, ly, hi⟩ := hg
    obtain ⟨its, rv, p, _⟩ := I.tuple hqx
    obtain ⟨its2, rv2, p2, _⟩ := I.tuple hqy
    have l1 := rv.length
    have l2 := rv2.length
    refine next_end (I.ok.hd hc) D hz hTI hTO q1 q2 p p2 (by simp; omega) (by simp; omega) fun g hk => ⟨rfl, I.turnedL (t' := s.toks) (ch := [z, TI, TO, i1, i2]) (fun c o hb q => ?_) hf⟩
    exact hk c o (fun q => hb (by simp [q])) (fun q => hb (by simp [q])) (fun q => hb (by simp [q])) (fun q => hb (by simp [q])) q
  self := fun A i s Q E st h => iter_zip st.1 h
def iZs (K : PySem.W.Frag) (ta : TA) : TI := fun σ H R => ta σ H fun vs H1 => ∃ a b xs ys n, vs = [.ref a, .ref b] ∧ SqT K H1 a xs ∧ SqT K H1 b ys ∧ xs.length = n ∧ ys.length = n ∧ R (ItS K n a b) H1
theorem pi_zs {X : Cx} {e e2 : Expr} {ta : TA} {p pos tpos kpos cpos : Pos} {j : Nat} {elts : List Expr} {kk : Nat} (hg : Gl X "zip") (hm : X.mg "zip" = none) (ha : PA X [e, e2] ta)
    (hs : backTo pos (starEach [e, e2] X.env) = (false, eval e X.env) :: backTo pos (starEach [e2] X.env)) (hpl : (backTo pos (starEach [e, e2] X.env)).any (·.1) = false) :
    PI X (.Tuple elts kk tpos) (.Call (.Name "zip" p) [e, e2] [⟨some "strict", .Constant (.bool true) j cpos, kpos⟩] pos) (iZs X.K ta) := by
  refine ⟨fun pins s σ H R I h => ?_⟩
  refine wpAny_Call_Name_kw (ld_blt I hg hm PyProof.Rows.boot_zip ?_)
  refine with_kw (thn (ha.run pos pins s σ H _ I h) fun us s1 ⟨vs, H1, I1, r1, q1⟩ => ?_) hs hpl rfl rfl
  refine kws_cons (Constant_bool (kws_nil ?_))
  obtain ⟨a, b, xs, ys, n, ex, hqx, hqy, lx, ly, q⟩ := q1
  subst ex
  cases r1 with
  | cons r rr =>
    cases rr with
    | cons r2 rr =>
      cases rr
      cases r
      cases r2
      obtain ⟨its, rv, p1, _⟩ := I1.tuple hqx
      obtain ⟨its2, rv2, p2, _⟩ := I1.tuple hqy
      obtain ⟨o1, ho1, _⟩ := id p1
      obtain ⟨o2, ho2, _⟩ := id p2
      refine call_s (show s1.heap.IsTuple a its.toArray from p1) (show s1.heap.IsTuple b its2.toArray from p2) fun g hz hTI hTO j1 j2 hsz hk => iter_zip hz ?_
      have I2 : Inv X pins σ H1 { s1 with heap := g } := I1.kept (t' := s1.toks) hk
      refine ⟨s1.heap.objs.size + 4, [s1.heap.objs.size + 4, s1.heap.objs.size + 2, s1.heap.objs.size + 3, s1.heap.objs.size, s1.heap.objs.size + 1], _, _, H1, rfl, I2, turn_s (PySem.W.ktu_apart s1.heap.objs.size a b (Heap.lt_size ho1) (Heap.lt_size ho2)), ⟨hz, hTI, ⟨_, _, hTO⟩, j1, j2⟩, fun c hcm => ?_, q⟩
      have hle : s1.heap.objs.size ≤ c := by
        have cs : c = s1.heap.objs.size + 4 ∨ c = s1.heap.objs.size + 2 ∨ c = s1.heap.objs.size + 3 ∨ c = s1.heap.objs.size ∨ c = s1.heap.objs.size + 1 := by simpa using hcm
        rcases cs with q | q | q | q | q <;> rw [q] <;> first | exact Nat.le_refl _ | exact Nat.le_add_right _ _
      exact I1.fpOk hle (I1.hok.fresh hle)
end ZS
namespace TF
open PySem PySem.Spec L2
section
variable {X : Cx} {an : An} {W W1 W2 W' : Wd} {e e2 : Expr} {ρ : TF.Env} {Ps Rs : List SP}
theorem ri_zip {p pos tpos kpos cpos : Pos} {j : Nat} {elts : List Expr} {kk : Nat} (hm : X.mg "zip" = none) (ha : RV X an e ρ W W1 (tupP X.K Ps)) (hb : RV X an e2 ρ W1 W2 (tupP X.K Rs)) (hl : Ps.length = Rs.length) (hz : Ps.length ≤ 1000) (hg : Gl X "zip" := by rfl)
    (h1 : starEach [e, e2] X.env = (false, eval e X.env) :: starEach [e2] X.env := by rfl) (h2 : starEach [e2] X.env = (false, eval e2 X.env) :: starEach [] X.env := by rfl)
    (hs : backTo pos (starEach [e, e2] X.env) = (false, eval e X.env) :: backTo pos (starEach [e2] X.env) := by rfl) (hpl : (backTo pos (starEach [e, e2] X.env)).any (·.1) = false := by rfl) :
    RI X an (.Tuple elts kk tpos) (.Call (.Name "zip" p) [e, e2] [⟨some "strict", .Constant (.bool true) j cpos, kpos⟩] pos) ρ W W2 (fun i => tupP X.K [Ps.getD i default, Rs.getD i default]) Ps.length := by
  have hp := ZS.pi_zs (tpos := tpos) (kpos := kpos) (cpos := cpos) (p := p) (j := j) (elts := elts) (kk := kk) hg hm (ra_cons ha (ra_cons hb ra_nil h2) h1) hs hpl
  refine ⟨fun pins s σ H R I ⟨O, m, h⟩ => hp.run pins s σ H R I ⟨O, m, fun vs H1 m1 s1 sat => ?_⟩⟩
  cases sat with
  | cons q1 t =>
    cases t with
    | cons q2 t =>
      cases t
      obtain ⟨a, xs, ex, hx, sx⟩ := q1
      obtain ⟨b, ys, ey, hy, sy⟩ := q2
      subst ex ey
      refine ⟨a, b, xs, ys, Ps.length, rfl, same_t mn_le hx, same_t mn_le hy, sx.length.symm, by rw [← sy.length, hl], ?_⟩
      refine h _ H1 m1 s1 ?_ ⟨fun i H2 hi g => ⟨xs, ys, same_t g hx, same_t g hy, sx.length.symm, by rw [← sy.length, hl], hi⟩, fun H2 g => ⟨xs, ys, same_t g hx, same_t g hy, sx.length.symm, by rw [← sy.length, hl], rfl⟩, fun i H2 v H3 hi g y => ?_⟩
      · exact Nat.le_of_lt (small1000 hz)
      · obtain ⟨T, x, y, ev, hT, e3, f1, f2⟩ := y
        subst ev e3
        refine ⟨same_new hT, fun O' l' s' => ⟨T, [x, y], rfl, SqT.of (mn_new l' hT), ?_⟩⟩
        have k : Same (mn H1 O) (mn (upd H2 T (.tup [x, y])) O') := s'.trans (mn_mono (same_new hT))
        exact .cons ((sx.same k).get (f1 xs (same_t g hx))) (.cons ((sy.same k).get (f2 ys (same_t g hy))) .nil)
end
end TF
set_option Elab.async false
set_option linter.all false
set_option maxRecDepth 100000
set_option maxHeartbeats 4000000
/-! E3: enumerate of a tuple, of a list. -/
namespace ZS
open PySem PySem.Spec PyProof.Rows L2
theorem meets_en (t : Addr) (items : Array Value) : Meets (Builtin.«enumerate.__new__» ⟨[.type "enumerate", .ref t], []⟩) (fun _ R s => s.heap.IsTuple t items ∧
      R (.ok (.ret (.ref (s.heap.push { cls := .type "tuple_iterator", data := .fields #[.ref t, .int 0 0] }).objs.size)))
        { s with heap := (s.heap.push { cls := .type "tuple_iterator", data := .fields #[.ref t, .int 0 0] }).push { cls := .type "enumerate", data := .fields #[.none, .bool false, .ref s.heap.objs.size, rawInt 0, .none, .none] } }) :=
  .of_wp fun prog w A R s h => by
    obtain ⟨hp, g, d, tk, os⟩ := s; obtain ⟨hl, h⟩ := h
    have hsub := sub_enumerate
    have hL : Heap.IsTuple (Shared.heap ⟨hp, g, d, tk, os⟩) t items := hl
    wp_walk using wpAny_pyIter_tuple hL
    refine wpAny_stack_any fun st => wpAny_pure ?_
    split
    · rename_i c tl kw x r eq
      cases (c == Value.type "enumerate") <;> (wp_walk using wpAny_pyIter_tuple hL; exact ⟨_, rfl, h⟩)
    · (wp_walk using wpAny_pyIter_tuple hL; exact ⟨_, rfl, h⟩)
section
variable {prog : Program} {w : World} {A : Around} {E : Value → Shared → Prop} {s : Shared}
theorem call_en {t : Addr} {items : Array Value} {Q : Value → Shared → Prop} (hL : s.heap.IsTuple t items)
    (h : ∀ g, IsEnum g (s.heap.objs.size + 1) s.heap.objs.size 0 .none → g.IsTupleIter s.heap.objs.size t 0 → g.objs.size = s.heap.objs.size + 2 → (∀ b o, s.heap.get? b = some o → g.get? b = some o) → Q (.ref (s.heap.objs.size + 1)) { s with heap := g }) :
    wpAny (model prog w) A (call (.type "enumerate") [.ref t]) Q E s := by
  refine callType_new F.called_enumerate (by decide) (F.typeCall_enumerate_1 _) (F.newCall_enumerate_1 _) (fun o => F.args_object_init_2 o _) F.entry_enumerate_new (meets_en t items) ⟨hL, ?_⟩
  have n1 : (h1 s.heap t).objs.size = s.heap.objs.size + 1 := Heap.size_push ..
  show _ ∧ _
  rw [n1]
  have he : IsEnum ((h1 s.heap t).push { cls := .type "enumerate", data := .fields #[.none, .bool false, .ref s.heap.objs.size, rawInt 0, .none, .none] }) (s.heap.objs.size + 1) s.heap.objs.size 0 .none := by
    have q := Heap.get?_push_size (h1 s.heap t) (o := { cls := .type "enumerate", data := .fields #[.none, .bool false, .ref s.heap.objs.size, rawInt 0, .none, .none] }) rfl
    rw [n1] at q
    exact q
  refine ⟨⟨_, he, rfl⟩, h _ he ⟨_, Heap.get?_push_of_some _ (Heap.get?_push_size _ rfl), rfl, rfl⟩ (by rw [Heap.size_push, n1]) fun b o x => ?_⟩
  exact Heap.get?_push_of_some _ (Heap.get?_push_of_some _ x)
end
def ItE (K : PySem.W.Frag) (a : Addr) : It :=
  ⟨fun i H => ∃ (xs : List V) (x : V), SqT K H a xs ∧ xs[i]? = some x, fun i H v H' => ∃ T x, v = .ref T ∧ H T = none ∧ H' = upd H T (.tup [.int (i : Nat), x]) ∧ ∀ xs, SqT K H a xs → xs[i]? = some x, fun i H => ∃ xs : List V, SqT K H a xs ∧ xs.length = i⟩
theorem turn_en {P : Program} {w : World} {K : PySem.W.Frag} {elts : List Expr} {kk : Nat} {tpos : Pos} (a e it : Addr) :
    Turn P w K (.Tuple elts kk tpos) (ItE K a) [e, it] e (fun i h => (∃ old, IsEnum h e it ((i : Nat) : Int) old) ∧ h.IsTupleIter it a i ∧ e ≠ it ∧ a ≠ it ∧ e ≠ a) where
  mem := List.mem_cons_self
  obj := fun i h st b hb => by
    obtain ⟨⟨old, he⟩, ⟨o, ho, hc, hd⟩, _⟩ := st
    have cs : b = e ∨ b = it := by simpa using hb
    rcases cs with z | z <;> rw [z]
    · exact ⟨_, he, fun v q => nomatch q⟩
    · exact ⟨o, ho, fun v q => by rw [hd] at q; cases q⟩
  keep := fun i h h' ⟨⟨old, he⟩, hi, hne⟩ k => ⟨⟨old, k e (by simp) _ he⟩, hi.at fun o q => k it (by simp) o q, hne⟩
  item := by
    intro X hP hw hK hc i pins s σ H E I hf st hg
    subst hP hw hK
    obtain ⟨⟨old, he⟩, hit, hne, hai, hea⟩ := st
    obtain ⟨xs, x, hq, hx⟩ := hg
    obtain ⟨its, rv, p, hz⟩ := I.tuple hq
    obtain ⟨u, hu, ru⟩ := rv.get hx
    have hel : e < s.heap.objs.size := Heap.lt_size he
    have hil : it < s.heap.objs.size := by obtain ⟨_, q, _⟩ := hit; exact Heap.lt_size q
    have hlt : i < its.toArray.size := by
      have := (List.getElem?_eq_some_iff.mp hu).1
      simpa using this
    refine wpAny_pyNext_enum_itemD (Draws.tuple (A := X.A.in1) (show X.A.in1.handled = none from I.ok.hd hc) it a hai its.toArray) he ⟨hit, p⟩ hlt hne (by simp [hne, hea]) fun x2 g tk hx2 ho st2 hT hsz hk => ?_
    obtain ⟨hit2, p2⟩ := st2
    have ex : x2 = u := by
      have q : its.toArray[i]? = some u := by simpa using hu
      rw [q] at hx2
      exact (Option.some.inj hx2).symm
    subst ex
    refine ⟨_, rfl, wpAny_letOwnedTupleGo_enum (s := { s with heap := g, toks := tk + 1 }) ho fun g2 he2 sb => ?_⟩
    have hT2 : g2.get? s.heap.objs.size = some { cls := .type "tuple", data := .seq #[.int i tk, x2] } := (sb.2 _ (Nat.ne_of_gt hel)).trans hT
    have new : ObjOk X.prog X.w (upd H s.heap.objs.size (.tup [.int (i : Nat), x])) g2 s.heap.objs.size (.tup [.int (i : Nat), x]) := ⟨by show 2 ≤ sizeLine; decide, [.int i tk, x2], .cons ⟨_, rfl⟩ (.cons ru .nil), ⟨_, hT2, rfl, _, rfl⟩⟩
    have I1 : Inv X pins σ (upd H s.heap.objs.size (.tup [.int (i : Nat), x])) { s with heap := g2, toks := tk + 1 } := I.turnedNew (ch := [e, it]) (fun b ob hb q => by
      have n1 : b ≠ e := fun z => hb (by simp [z])
      have n2 : b ≠ it := fun z => hb (by simp [z])
      exact (sb.2 b n1).trans (hk b ob n1 n2 q)) hf (Nat.le_refl _) new
    refine ⟨.ref s.heap.objs.size, _, I1, rfl, ⟨_, x, rfl, I.hok.fresh (Nat.le_refl _), rfl, fun ys hy => by rw [I.tuple_inj hy hq]; exact hx⟩, ⟨⟨x2, ?_⟩, hit2.at fun o q => (sb.2 it (Ne.symm hne)).trans q, hne, hai, hea⟩, fun b hb => ?_⟩
    · have e1 : ((i + 1 : Nat) : Int) = (i : Int) + 1 := by omega
      rw [e1]
      exact he2
    · have blt : b < s.heap.objs.size := by
        have cs : b = e ∨ b = it := by simpa using hb
        rcases cs with z | z <;> rw [z]
        · exact hel
        · exact hil
      rw [upd_ne (Nat.ne_of_lt blt)]
      exact (hf b hb).1
  done := by
    intro X hP hw hK hc i pins s σ H E I hf st hg
    subst hP hw hK
    obtain ⟨⟨old, he⟩, hit, hne, hai, hea⟩ := st
    obtain ⟨xs, hq, hx⟩ := hg
    obtain ⟨its, rv, p, hz⟩ := I.tuple hq
    obtain ⟨f0, f1, f2, f3, f4, f5⟩ := hf it (by simp)
    have hl := rv.length
    have ei : i = its.toArray.size := by simp; omega
    refine wpAny_pyNext_enum_endD (Draws.tuple (A := X.A.in1) (show X.A.in1.handled = none from I.ok.hd hc) it a hai its.toArray) he ⟨ei ▸ hit, p⟩ fun g eb => ⟨rfl, ?_⟩
    exact I.turned (t' := s.toks) (fun b o hb q => eb b o hb q) f0 f1 f3 f4 f5
  self := fun A i s Q E st h => let ⟨⟨_, he⟩, _⟩ := st; wpAny_pyIter_enum he h
def iEn (K : PySem.W.Frag) (ta : TA) : TI := fun σ H R => ta σ H fun vs H1 => ∃ a xs, vs = [.ref a] ∧ SqT K H1 a xs ∧ R (ItE K a) H1
theorem pi_en {X : Cx} {e : Expr} {ta : TA} {p pos tpos : Pos} {elts : List Expr} {kk : Nat} (hg : Gl X "enumerate") (hm : X.mg "enumerate" = none) (ha : PA X [e] ta) (hs : starEach [e] X.env = [(false, eval e X.env)]) :
    PI X (.Tuple elts kk tpos) (.Call (.Name "enumerate" p) [e] [] pos) (iEn X.K ta) := by
  refine ⟨fun pins s σ H R I h => ?_⟩
  refine Call_ (ld_blt I hg hm boot_enumerate (PyProof.Rows.callWith_type1 (thn (ha.run pos pins s σ H _ I h) fun us s1 ⟨vs, H1, I1, r1, q1⟩ => ?_) hs rfl))
  obtain ⟨a, xs, ex, hq, q⟩ := q1
  subst ex
  cases r1 with
  | cons r rr =>
    cases rr
    cases r
    obtain ⟨its, rv, p2, hz⟩ := I1.tuple hq
    obtain ⟨oa, hoa, _⟩ := id p2
    have al : a < s1.heap.objs.size := Heap.lt_size hoa
    refine call_en (show s1.heap.IsTuple a its.toArray from p2) fun g he hit hsz hk => wpAny_pyIter_enum he ?_
    have I2 : Inv X pins σ H1 { s1 with heap := g } := I1.kept (t' := s1.toks) hk
    refine ⟨s1.heap.objs.size + 1, [s1.heap.objs.size + 1, s1.heap.objs.size], _, _, H1, rfl, I2, turn_en a (s1.heap.objs.size + 1) s1.heap.objs.size, ⟨⟨.none, he⟩, hit, Nat.succ_ne_self _, Nat.ne_of_lt al, Nat.ne_of_gt (Nat.lt_succ_of_lt al)⟩, fun b hb => ?_, q⟩
    have hle : s1.heap.objs.size ≤ b := by
      have cs : b = s1.heap.objs.size + 1 ∨ b = s1.heap.objs.size := by simpa using hb
      rcases cs with z | z <;> rw [z] <;> first | exact Nat.le_refl _ | exact Nat.le_add_right _ _
    exact I1.fpOk hle (I1.hok.fresh hle)
end ZS
namespace TF
open PySem PySem.Spec L2
section
variable {X : Cx} {an : An} {W W1 W2 W' : Wd} {e e2 : Expr} {ρ : TF.Env} {Ps Rs : List SP}
theorem ri_enumT {p pos tpos : Pos} {elts : List Expr} {kk : Nat} (hm : X.mg "enumerate" = none) (ha : RV X an e ρ W W' (tupP X.K Ps)) (hz : Ps.length ≤ 1000) (hg : Gl X "enumerate" := by rfl)
    (hs : starEach [e] X.env = (false, eval e X.env) :: starEach [] X.env := by rfl) (hs1 : starEach [e] X.env = [(false, eval e X.env)] := by rfl) :
    RI X an (.Tuple elts kk tpos) (.Call (.Name "enumerate" p) [e] [] pos) ρ W W' (fun i => tupP X.K [dat X.K (.int (i : Int)), Ps.getD i default]) Ps.length := by
  have hp := ZS.pi_en (tpos := tpos) (p := p) (pos := pos) (elts := elts) (kk := kk) hg hm (ra_cons ha ra_nil hs) hs1
  refine ⟨fun pins s σ H R I ⟨O, m, h⟩ => hp.run pins s σ H R I ⟨O, m, fun vs H1 m1 s1 sat => ?_⟩⟩
  cases sat with
  | cons q1 t =>
    cases t
    obtain ⟨a, xs, ex, hx, sx⟩ := q1
    subst ex
    refine ⟨a, xs, rfl, same_t mn_le hx, h _ H1 m1 s1 (Nat.le_of_lt (small1000 hz)) ⟨fun i H2 hi g => ?_, fun H2 g => ⟨xs, same_t g hx, sx.length.symm⟩, fun i H2 v H3 hi g y => ?_⟩⟩
    · have hl : i < xs.length := sx.length ▸ hi
      exact ⟨xs, xs[i], same_t g hx, List.getElem?_eq_getElem hl⟩
    · obtain ⟨T, x, ev, hT, e3, f1⟩ := y
      subst ev e3
      refine ⟨same_new hT, fun O' l' s' => ⟨T, [.int (i : Nat), x], rfl, SqT.of (mn_new l' hT), ?_⟩⟩
      have k : Same (mn H1 O) (mn (upd H2 T (.tup [.int (i : Nat), x])) O') := s'.trans (mn_mono (same_new hT))
      exact .cons (.int _) (.cons ((sx.same k).get (f1 xs (same_t g hx))) .nil)
theorem ri_enumL {p pos tpos : Pos} {elts : List Expr} {kk : Nat} (hm : X.mg "enumerate" = none) (ha : RV X an e ρ W W' (lstP X.K Ps)) (hz : Ps.length ≤ 1000000) (hg : Gl X "enumerate" := by rfl)
    (hs : starEach [e] X.env = (false, eval e X.env) :: starEach [] X.env := by rfl) (hs1 : starEach [e] X.env = [(false, eval e X.env)] := by rfl) :
    RI X an (.Tuple elts kk tpos) (.Call (.Name "enumerate" p) [e] [] pos) ρ W W' (fun i => tupP X.K [dat X.K (.int (i : Int)), Ps.getD i default]) Ps.length := by
  have hp := pi_enum (tpos := tpos) (p := p) (pos := pos) (elts := elts) (kk := kk) hg hm (ra_cons ha ra_nil hs) hs1
  refine ⟨fun pins s σ H R I ⟨O, m, h⟩ => hp.run pins s σ H R I ⟨O, m, fun vs H1 m1 s1 sat => ?_⟩⟩
  cases sat with
  | cons q1 t =>
    cases t
    obtain ⟨a, xs, ex, hx, sx⟩ := q1
    subst ex
    have hz2 : Ps.length ≤ sizeLine := Nat.le_trans hz (by rw [sizeLine_eq]; decide)
    refine ⟨a, xs, rfl, mn_le.seq hx, h _ H1 m1 s1 hz2 ⟨fun i H2 hi g => ?_, fun H2 g => ⟨xs, g.seq hx, by rw [sx.length]; exact Nat.le_refl _⟩, fun i H2 v H3 hi g y => ?_⟩⟩
    · have hl : i < xs.length := sx.length ▸ hi
      exact ⟨xs, xs[i], g.seq hx, List.getElem?_eq_getElem hl⟩
    · obtain ⟨T, x, ev, hT, e3, f1⟩ := y
      subst ev e3
      refine ⟨same_new hT, fun O' l' s' => ⟨T, [.int (i : Nat), x], rfl, SqT.of (mn_new l' hT), ?_⟩⟩
      have k : Same (mn H1 O) (mn (upd H2 T (.tup [.int (i : Nat), x])) O') := s'.trans (mn_mono (same_new hT))
      exact .cons (.int _) (.cons ((sx.same k).get (f1 xs (g.seq hx))) .nil)
end
end TF
set_option Elab.async false
set_option linter.all false
set_option maxRecDepth 100000
set_option maxHeartbeats 4000000
/-! M5: dicts whose keys are texts. -/
namespace TF
open PySem PySem.Spec L2
/-- what a dict holds -/
def KVs (ks : List (Key × SP)) (H : Hp) (kvs : List (Key × V)) : Prop := Paired (fun (p : Key × SP) (q : Key × V) => p.1 = q.1 ∧ p.2.p H q.2) ks kvs
theorem KVs.same {H H' : Hp} (s : Same H H') : ∀ {ks : List (Key × SP)} {kvs : List (Key × V)}, KVs ks H kvs → KVs ks H' kvs
  | _, _, .nil => .nil
  | _, _, .cons ⟨h1, h2⟩ t => .cons ⟨h1, SP.st _ s h2⟩ (KVs.same s t)
def findK : List (Key × SP) → Key → Option SP
  | [], _ => none
  | (k, P) :: r, x => if k = x then some P else findK r x
theorem KVs.some {H : Hp} {x : Key} {P : SP} : ∀ {ks : List (Key × SP)} {kvs : List (Key × V)}, KVs ks H kvs → findK ks x = some P → ∃ u, valV kvs x = some u ∧ P.p H u
  | _, _, .nil, e => by simp [findK] at e
  | (k, Q) :: ks, (k', u) :: kvs, .cons ⟨h1, h2⟩ t, e => by
    have h1 : k = k' := h1
    subst h1
    unfold findK at e
    by_cases h : k = x
    · rw [if_pos h] at e
      cases e
      exact ⟨u, valV_pos (p := (k, u)) h, h2⟩
    · rw [if_neg h] at e
      rw [valV_neg (p := (k, u)) h]
      exact KVs.some t e
theorem KVs.none {H : Hp} {x : Key} : ∀ {ks : List (Key × SP)} {kvs : List (Key × V)}, KVs ks H kvs → findK ks x = none → valV kvs x = none
  | _, _, .nil, e => rfl
  | (k, Q) :: ks, (k', u) :: kvs, .cons ⟨h1, h2⟩ t, e => by
    have h1 : k = k' := h1
    subst h1
    unfold findK at e
    by_cases h : k = x
    · rw [if_pos h] at e
      cases e
    · rw [if_neg h] at e
      rw [valV_neg (p := (k, u)) h]
      exact KVs.none t e
theorem KVs.snoc {H : Hp} {k : Key} {P : SP} {u : V} (h : P.p H u) : ∀ {ks : List (Key × SP)} {kvs : List (Key × V)}, KVs ks H kvs → KVs (ks ++ [(k, P)]) H (kvs ++ [(k, u)])
  | _, _, .nil => .cons ⟨rfl, h⟩ .nil
  | _, _, .cons r t => .cons r (KVs.snoc h t)
def dctM (ks : List (Key × SP)) : MP := ⟨fun H o => ∃ kvs, o = .dK kvs ∧ KVs ks H kvs, fun e ⟨kvs, h1, h2⟩ => ⟨kvs, h1, h2.same e⟩⟩
def dctP (ks : List (Key × SP)) : SP := ⟨fun H v => ∃ a kvs, v = .ref a ∧ H a = some (.dK kvs) ∧ KVs ks H kvs, fun e ⟨a, kvs, h1, h2, h3⟩ => ⟨a, kvs, h1, e _ _ h2, h3.same e⟩⟩
section
variable {X : Cx} {an : An} {K : PySem.W.Frag} {ρ : TF.Env} {W W1 W2 W3 W' Wz : Wd} {P R : SP} {ks : List (Key × SP)} {x : Str} {N : TF.Env → Wd → Prop} {rest body : List Stmt} {o i e c : Expr} {pos pos' p1 : Pos} {b : Addr} {k : Nat}
theorem MX.dct {O : List Addr} {σ : St} {H : Hp} (m : MX an O ρ W σ H) (hk : W[k]? = some (b, dctM ks)) : ∃ kvs, H b = some (.dK kvs) ∧ KVs ks (mn H O) kvs := by
  obtain ⟨_, q, e, kvs, eo, sat⟩ := m.wo.at_ _ (List.mem_of_getElem? hk)
  subst eo
  exact ⟨kvs, e, sat⟩
/-- {} -/
theorem rn_dct : RN X an (.Dict [] [] pos) ρ W W (fun _ => dctM []) :=
  PEimp pe_dnewK fun σ H Q ⟨O, m, q⟩ p hp => by
    obtain ⟨m2, e2⟩ := m.new (mp := dctM []) (o := .dK []) hp ⟨[], rfl, .nil⟩
    exact q p _ (m.lv.new hp) (m.new0 hp) m2 (by rw [e2]; exact Same.refl _)
/-- o[i] = e, i a new key -/
theorem rs_dput (k : Nat) (hu : X.A.units + 1 < cLine) (he : RV X an e ρ W W1 P) (ho : RV X an o ρ W1 W2 (refP b)) (hi : RV X an i ρ W2 W3 (dat K (.str x))) (hk : W3[k]? = some (b, dctM ks)) (hn : findK ks (.inr x) = none) (h : RSs X an rest ρ (W3.set k (b, dctM (ks ++ [(.inr x, P)]))) N R Wz) (hl : ks.length ≤ 1000)
    (hs : swapsWith e (some (.Subscript o i pos')) pos.line X.env = pure false := by rfl) : RSs X an (.Assign [.Subscript o i pos'] e pos :: rest) ρ W N R Wz :=
  rs_cons (N1 := fun ρ1 W' => ρ1 = ρ ∧ W' = W3.set k (b, dctM (ks ++ [(.inr x, P)]))) (PSimp (ps_dput hu ho hi he hs) fun D σ H ⟨O, m, nx, rt⟩ => ⟨O, m, fun v H1 m1 s1 p1 => ⟨O, m1, fun y H2 m2 s2 p2 => ⟨O, m2, fun z H3 m3 s3 p3 => by
      have p2 : y = .ref b := p2
      subst p2
      obtain ⟨kvs, e3, sat⟩ := m3.dct hk
      have nn := KVs.none sat hn
      have e4 : putK kvs (.inr x) v = kvs ++ [(.inr x, v)] := putK_new v nn
      obtain ⟨m4, s4⟩ := m3.put (m' := dctM (ks ++ [(.inr x, P)])) (o' := .dK (kvs ++ [(.inr x, v)])) hk ⟨_, rfl, sat.snoc (P.st (s2.trans s3) p1)⟩
      refine ⟨b, _, rfl, ?_, nx _ _ _ _ O ⟨rfl, rfl⟩ m4 (((s1.trans s2).trans s3).trans s4)⟩
      have hz : kvs.length < sizeLine := by rw [← Paired.length sat]; exact small1000 hl
      have q := DPut.k (k := .inr x) (v := v) e3 hz
      rw [e4] at q
      rw [dat_str p3]
      exact q⟩⟩⟩) fun ρ1 W1 ⟨e1, e2⟩ => e1 ▸ e2 ▸ h
theorem rv_dinO (k : Nat) {bt : Bool} (hu : X.A.units + 1 < cLine) (hi : RV X an i ρ W W1 (dat K (.str x))) (ho : RV X an o ρ W1 W2 (refP b)) (hk : W2[k]? = some (b, dctM ks)) (hn : (findK ks (.inr x)).isSome = bt) (h1 : behindInMarks .In o = false := by first | rfl | with_unfolding_all rfl) : RV X an (.Compare i [.In] [o] pos) ρ W W2 (dat K (.bool bt)) :=
  PEimp (pe_cmp (pc_din hu hi ho) h1) fun σ H Q ⟨O, m, q⟩ => ⟨O, m, fun y H1 m1 s1 p1 => ⟨O, m1, fun z H2 m2 s2 p2 => by
    have p2 : z = .ref b := p2
    subst p2
    obtain ⟨kvs, e2, sat⟩ := m2.dct hk
    refine ⟨b, valV kvs (.inr x), rfl, by rw [dat_str p1]; exact DGet.k (k := .inr x) e2, q _ H2 m2 (s1.trans s2) ?_⟩
    have e : (valV kvs (.inr x)).isSome = bt := by
      rw [← hn]
      cases q : findK ks (.inr x) with
      | none =>
        rw [KVs.none sat q]
        rfl
      | some P =>
        obtain ⟨u, h, _⟩ := KVs.some sat q
        rw [h]
        rfl
    rw [e]
    exact .bl _⟩⟩
theorem rv_dnotO (k : Nat) {bt : Bool} (hu : X.A.units + 1 < cLine) (hi : RV X an i ρ W W1 (dat K (.str x))) (ho : RV X an o ρ W1 W2 (refP b)) (hk : W2[k]? = some (b, dctM ks)) (hn : (findK ks (.inr x)).isSome = bt) (h1 : behindInMarks .NotIn o = false := by first | rfl | with_unfolding_all rfl) : RV X an (.Compare i [.NotIn] [o] pos) ρ W W2 (dat K (.bool (!bt))) :=
  PEimp (pe_cmp (pc_dnotin hu hi ho) h1) fun σ H Q ⟨O, m, q⟩ => ⟨O, m, fun y H1 m1 s1 p1 => ⟨O, m1, fun z H2 m2 s2 p2 => by
    have p2 : z = .ref b := p2
    subst p2
    obtain ⟨kvs, e2, sat⟩ := m2.dct hk
    refine ⟨b, valV kvs (.inr x), rfl, by rw [dat_str p1]; exact DGet.k (k := .inr x) e2, q _ H2 m2 (s1.trans s2) ?_⟩
    have e : (valV kvs (.inr x)).isSome = bt := by
      rw [← hn]
      cases q : findK ks (.inr x) with
      | none =>
        rw [KVs.none sat q]
        rfl
      | some P =>
        obtain ⟨u, h, _⟩ := KVs.some sat q
        rw [h]
        rfl
    rw [e]
    exact .bl _⟩⟩
theorem rt_dinO (k : Nat) {bt : Bool} (hu : X.A.units + 1 < cLine) (hi : RV X an i ρ W W1 (dat K (.str x))) (ho : RV X an o ρ W1 W2 (refP b)) (hk : W2[k]? = some (b, dctM ks)) (hn : (findK ks (.inr x)).isSome = bt) (h1 : behindInMarks .In o = false := by first | rfl | with_unfolding_all rfl) : RT X an (.Compare i [.In] [o] pos) ρ W W2 bt :=
  PTimp (pt_cmp (pc_din hu hi ho) h1) fun σ H Q ⟨O, m, q⟩ => ⟨O, m, fun y H1 m1 s1 p1 => ⟨O, m1, fun z H2 m2 s2 p2 => by
    have p2 : z = .ref b := p2
    subst p2
    obtain ⟨kvs, e2, sat⟩ := m2.dct hk
    refine ⟨b, valV kvs (.inr x), rfl, by rw [dat_str p1]; exact DGet.k (k := .inr x) e2, _, rfl, ?_⟩
    have e : (valV kvs (.inr x)).isSome = bt := by
      rw [← hn]
      cases q : findK ks (.inr x) with
      | none =>
        rw [KVs.none sat q]
        rfl
      | some P =>
        obtain ⟨u, h, _⟩ := KVs.some sat q
        rw [h]
        rfl
    rw [e]
    exact q H2 m2 (s1.trans s2)⟩⟩
theorem rt_dnotO (k : Nat) {bt : Bool} (hu : X.A.units + 1 < cLine) (hi : RV X an i ρ W W1 (dat K (.str x))) (ho : RV X an o ρ W1 W2 (refP b)) (hk : W2[k]? = some (b, dctM ks)) (hn : (findK ks (.inr x)).isSome = bt) (h1 : behindInMarks .NotIn o = false := by first | rfl | with_unfolding_all rfl) : RT X an (.Compare i [.NotIn] [o] pos) ρ W W2 (!bt) :=
  PTimp (pt_cmp (pc_dnotin hu hi ho) h1) fun σ H Q ⟨O, m, q⟩ => ⟨O, m, fun y H1 m1 s1 p1 => ⟨O, m1, fun z H2 m2 s2 p2 => by
    have p2 : z = .ref b := p2
    subst p2
    obtain ⟨kvs, e2, sat⟩ := m2.dct hk
    refine ⟨b, valV kvs (.inr x), rfl, by rw [dat_str p1]; exact DGet.k (k := .inr x) e2, _, rfl, ?_⟩
    have e : (valV kvs (.inr x)).isSome = bt := by
      rw [← hn]
      cases q : findK ks (.inr x) with
      | none =>
        rw [KVs.none sat q]
        rfl
      | some P =>
        obtain ⟨u, h, _⟩ := KVs.some sat q
        rw [h]
        rfl
    rw [e]
    exact q H2 m2 (s1.trans s2)⟩⟩
theorem rv_dgetO (k : Nat) (hu : X.A.units + 1 < cLine) (ho : RV X an o ρ W W1 (refP b)) (hi : RV X an i ρ W1 W2 (dat K (.str x))) (hk : W2[k]? = some (b, dctM ks)) (hn : findK ks (.inr x) = some P) (hs : NoSl i := by exact fun _ _ => rfl) : RV X an (.Subscript o i pos) ρ W W2 P :=
  PEimp (pe_dget hu ho hi hs) fun σ H Q ⟨O, m, q⟩ => ⟨O, m, fun y H1 m1 s1 p1 => ⟨O, m1, fun z H2 m2 s2 p2 => by
    have p1 : y = .ref b := p1
    subst p1
    obtain ⟨kvs, e2, sat⟩ := m2.dct hk
    obtain ⟨u, h, pu⟩ := KVs.some sat hn
    refine ⟨b, u, rfl, ?_, q u H2 m2 (s1.trans s2) pu⟩
    rw [dat_str p2, ← h]
    exact DGet.k (k := .inr x) e2⟩⟩
theorem rv_dget (hu : X.A.units + 1 < cLine) (ho : RV X an o ρ W W1 (dctP ks)) (hi : RV X an i ρ W1 W2 (dat K (.str x))) (hn : findK ks (.inr x) = some P) (hs : NoSl i := by exact fun _ _ => rfl) : RV X an (.Subscript o i pos) ρ W W2 P :=
  PEimp (pe_dget hu ho hi hs) fun σ H Q ⟨O, m, q⟩ => ⟨O, m, fun y H1 m1 s1 p1 => ⟨O, m1, fun z H2 m2 s2 p2 => by
    obtain ⟨b, kvs, ey, e2, sat⟩ := (dctP ks).st s2 p1
    subst ey
    obtain ⟨u, h, pu⟩ := KVs.some sat hn
    refine ⟨b, u, rfl, ?_, q u H2 m2 (s1.trans s2) pu⟩
    rw [dat_str p2, ← h]
    exact DGet.k (k := .inr x) (mn_at e2)⟩⟩
/-! ### signs of a text, ranges -/
theorem ri_str {tg : Expr} {x : Str} (he : RV X an e ρ W W' (dat K (.str x))) (hx : x.cps.size ≤ 1000) : RI X an tg e ρ W W' (fun i => dat K (.str ⟨#[x.cps.getD i 0]⟩)) x.cps.size :=
  ⟨fun pins s σ H R I ⟨O, m, h⟩ => (pi_str he).run pins s σ H R I ⟨O, m, fun v H1 m1 s1 p1 => ⟨x, dat_str p1, h _ H1 m1 s1 (Nat.le_of_lt (small1000 hx)) (walk_str.mono (fun _ _ => trivial) fun i H2 y H3 hi g yy => by
    obtain ⟨e3, c, hc, ey⟩ := yy
    subst e3 ey
    refine ⟨Same.refl _, fun O' l' s' => ?_⟩
    have e : x.cps.getD i 0 = c := by
      rw [Array.getD_eq_getD_getElem?, hc]
      rfl
    show Dp K _ _ _
    rw [e]
    exact .str _)⟩⟩⟩
theorem ri_range {tg : Expr} {p : Pos} {n : Nat} (hm : X.mg "range" = none) (he : RV X an e ρ W W' (dat K (.int (n : Int)))) (hn : n ≤ 1000) (hg : Gl X "range" := by rfl) (hs : starEach [e] X.env = (false, eval e X.env) :: starEach [] X.env := by rfl) (hs1 : starEach [e] X.env = [(false, eval e X.env)] := by rfl) :
    RI X an tg (.Call (.Name "range" p) [e] [] pos) ρ W W' (fun i => dat K (.int (i : Int))) n :=
  ⟨fun pins s σ H R I ⟨O, m, h⟩ => (pi_range1 hg hm (ra_cons he ra_nil hs) hs1).run pins s σ H R I ⟨O, m, fun vs H1 m1 s1 p1 => by
    cases p1 with
    | cons q t =>
      cases t
      refine ⟨(n : Int), by rw [dat_int q], by omega, by omega, h _ H1 m1 s1 (Nat.le_of_lt (small1000 hn)) ?_⟩
      rw [Int.toNat_natCast]
      refine walk_range.mono (fun _ _ => trivial) fun i H2 y H3 hi g yy => ?_
      obtain ⟨e3, ey⟩ := yy
      subst e3 ey
      refine ⟨Same.refl _, fun O' l' s' => ?_⟩
      have e : (0 : Int) + (i : Int) = (i : Int) := by omega
      show Dp K _ (V.int ((0 : Int) + (i : Int))) (.int (i : Int))
      rw [e]
      exact .int _⟩⟩
end
end TF
set_option Elab.async false
set_option linter.all false
set_option maxRecDepth 100000
set_option maxHeartbeats 4000000
/-! E4: slices, t[::-1] of a tuple, +. -/
namespace ZS
open PySem PySem.Spec PyProof.Rows L2 HT
theorem adj_rev (n : Nat) : Builtin.Slice.sliceAdjust none none (-1) (n : Int) = ((n : Int) - 1, -1) := rfl
theorem pl_rev (n : Nat) : Builtin.Slice.slicePlaces ((n : Int) - 1) (-1) (-1) = n := by
  unfold Builtin.Slice.slicePlaces
  rw [if_neg (by decide)]
  by_cases h : (n : Int) - 1 > -1
  · rw [if_pos h]
    have e : ((n : Int) - 1 - -1 - 1) / -(-1) + 1 = (n : Int) := by
      rw [show -(-1 : Int) = 1 by rfl, Int.ediv_one]
      omega
    rw [e]
    simp
  · rw [if_neg h]
    omega
theorem fm_congr {α β : Type} {f g : α → Option β} : ∀ {l : List α}, (∀ x, x ∈ l → f x = g x) → l.filterMap f = l.filterMap g
  | [], _ => rfl
  | x :: l, h => by
    rw [List.filterMap_cons, List.filterMap_cons, h x List.mem_cons_self, fm_congr fun y hy => h y (List.mem_cons_of_mem _ hy)]
theorem pk_rev (xs : Array Value) : ((List.range xs.size).filterMap fun (m : Nat) => xs[((xs.size : Int) - 1 + (m : Int) * (-1)).toNat]?).toArray = xs.toList.reverse.toArray := by
  congr 1
  refine List.ext_getElem? fun i => ?_
  have e : (List.range xs.size).filterMap (fun (m : Nat) => xs[((xs.size : Int) - 1 + (m : Int) * (-1)).toNat]?) = (List.range xs.size).filterMap (fun (m : Nat) => some (xs.toList.reverse.getD m .none)) := by
    refine fm_congr fun m hm => ?_
    have hl : m < xs.size := List.mem_range.mp hm
    have e1 : ((xs.size : Int) - 1 + (m : Int) * (-1)).toNat = xs.size - 1 - m := by omega
    rw [e1, List.getD_eq_getElem?_getD, List.getElem?_reverse (by simpa using hl)]
    have h2 : xs.size - 1 - m < xs.size := by omega
    simp [h2]
  rw [e, List.filterMap_eq_map']
  by_cases h : i < xs.size
  · simp [h]
  · have h2 : xs.size ≤ i := by omega
    simp [h2]
section
variable {prog : Program} {w : World} {A : Around} {E : Value → Shared → Prop} {s : Shared}
theorem get_rev {t sl : Addr} {items : Array Value} {vl : Tok} {Q : Value → Shared → Prop} (ht : IsTup s.heap t items) (hs : s.heap.IsSliceOf sl .none .none (.int (-1) vl)) (hz : items.size ≤ sizeLine)
    (h : Q (.ref s.heap.objs.size) { s with heap := s.heap.push { cls := .type "tuple", data := .seq items.toList.reverse.toArray } }) : wpAny (model prog w) A (getItem (.ref t) (.ref sl)) Q E s := by
  have hok : sizeOk (.seq items.toList.reverse.toArray) := by
    show items.toList.reverse.toArray.size ≤ sizeLine
    simpa using hz
  obtain ⟨os, hos, hcs, hds⟩ := id hs
  have hTs : s.TypeIs (.ref sl) "slice" := ⟨os, hos, hcs⟩
  unfold getItem
  try with_reducible refine wpAny_holding ?_
  first | refine wpAny_bind (wpAny_pure ?_) | skip
  refine wpAny_bind (wpAny_sequenceKey ht.typeIs (by decide) ?_)
  refine wpAny_bind (wpAny_callSpecial?_slot (name := Str.ofString "__getitem__") ht.typeIs PyProof.Rows.slot_tuple_getitem (wpAny_call_entry PyProof.Rows.slot_tuple_getitem ht.typeIs entry_tuple_getitem ?_ (args_tuple_getitem _ _)))
  show wpAny _ _ (Builtin.Tuple.tupleItemsOf (.ref t) >>= _) _ _ s
  refine wpAny_bind (tupleItemsOf_ ht (wpAny_bind (wpAny_typeOf hTs ?_)))
  rw [if_pos (by decide)]
  refine wpAny_bind ?_
  unfold Builtin.Slice.sliceApplied Builtin.Slice.sliceFields
  refine wpAny_bind (wpAny_bind (wpAny_field hos hds (x := .none) rfl (wpAny_bind (wpAny_field hos hds (x := .none) rfl (wpAny_bind (wpAny_field hos hds (x := .int (-1) vl) rfl (wpAny_pure ?_)))))))
  refine wpAny_bind (slicePart_int ?_)
  show wpAny _ _ (if ((-1 : Int) == 0) = true then _ else _) _ _ s
  rw [if_neg (by decide)]
  refine wpAny_bind (slicePart_none (wpAny_bind (slicePart_none (wpAny_bind (wpAny_pure ?_)))))
  show wpAny _ _ (match Builtin.Slice.sliceAdjust none none (-1) (items.size : Int) with | (lo, hi) => pure (lo, (-1 : Int), Builtin.Slice.slicePlaces lo hi (-1))) _ _ s
  rw [adj_rev]
  show wpAny _ _ (pure ((items.size : Int) - 1, (-1 : Int), Builtin.Slice.slicePlaces ((items.size : Int) - 1) (-1) (-1))) _ _ s
  rw [pl_rev]
  refine wpAny_pure ?_
  show wpAny _ _ (if (((items.size : Int) - 1) == 0 && (-1 : Int) == 1 && items.size == items.size) = true then _ else _) _ _ s
  rw [if_neg (by simp), pk_rev]
  first
    | exact wpAny_bind (m := Builtin.Tuple.tupleExact _) (wpAny_newObj_type (wpAny_pure ⟨_, rfl, wpAny_pure h⟩) hok)
    | exact wpAny_bind (m := Builtin.Tuple.tupleExact _) (wpAny_newObj_type (wpAny_bind (wpAny_pure (wpAny_pure ⟨_, rfl, wpAny_pure h⟩))) hok)
    | exact wpAny_bind (wpAny_bind (m := Builtin.Tuple.tupleExact _) (wpAny_newObj_type (wpAny_pure (wpAny_pure ⟨_, rfl, wpAny_pure h⟩)) hok))
    | exact wpAny_bind (wpAny_bind (m := Builtin.Tuple.tupleExact _) (wpAny_newObj_type (wpAny_pure ⟨_, rfl, wpAny_pure h⟩) hok))
end
section
variable {X : Cx}
def tRevT (K : PySem.W.Frag) (te : TE) : TE := fun σ H Q => te σ H fun x H1 => ∃ a xs, x = .ref a ∧ SqT K H1 a xs ∧ ∀ p, H1 p = none → Q (.ref p) (upd H1 p (.tup xs.reverse))
theorem pe_revT {e : Expr} {te : TE} {k : Nat} {p1 p2 p3 pos : Pos} (he : PE X e te) : PE X (.Subscript e (.Slice none none (some (.UnaryOp .USub (.Constant (.int 1) k p1) p2)) p3) pos) (tRevT X.K te) := by
  refine ⟨fun pins s σ H Q I h => ?_⟩
  refine Subscript_ (thn (he.run pins s σ H _ I h) fun v s1 ⟨x, H1, I1, r1, a, xs, ex, hx, q⟩ => ?_)
  subst ex
  cases r1
  have hst : PO X (some (.UnaryOp .USub (.Constant (.int 1) k p1) p2)) (tPart (tUn (rU fun i => .int (-i)) (tC (.int 1)))) := po_some (pe_un un_neg pe_int)
  refine wpAny_Slice (thn (po_none.run pins s1 σ H1 (fun o H2 => o = none ∧ H2 = H1) I1 ⟨rfl, rfl⟩) fun vl s2 ⟨l, H2, I2, pl, el, e2⟩ => ?_)
  subst el e2
  refine thn (po_none.run pins s2 σ H2 (fun o H3 => o = none ∧ H3 = H2) I2 ⟨rfl, rfl⟩) fun vu s3 ⟨u, H3, I3, pu, eu, e3⟩ => ?_
  subst eu e3
  refine thn (hst.run pins s3 σ H3 (fun o H4 => o = some (-1) ∧ H4 = H3) I3 ⟨1, rfl, -1, rfl, rfl, rfl⟩) fun vs s4 ⟨o, H4, I4, ps, eo, e4⟩ => ?_
  subst eo e4
  cases pl
  cases pu
  cases ps with
  | int i t =>
    have I5 : Inv X pins σ H4 { s4 with heap := s4.heap.push { cls := .type "slice", data := .fields #[.none, .none, .int (-1) t] } } := I4.kept (t' := s4.toks) fun b ob q => Heap.get?_push_of_some _ q
    obtain ⟨its, r, ht, hz⟩ := I5.tuple hx
    show wpAny (model X.prog X.w) X.A (subscriptTail e (.Slice none none (some (.UnaryOp .USub (.Constant (.int 1) k p1) p2)) p3) (.ref a) (.ref s4.heap.objs.size)) (EP X pins σ Q) X.xe { s4 with heap := s4.heap.push { cls := .type "slice", data := .fields #[.none, .none, .int (-1) t] } }
    refine tail_any (ops := [.ref a, .ref s4.heap.objs.size]) ht.typeIs (PyProof.Rows.slot_tuple_getitem.lookup) ?_ (by with_unfolding_all rfl)
    refine get_rev ht (Heap.IsSliceOf.new _ _ _ _) (by rw [List.size_toArray, ← r.length]; exact hz) ?_
    refine ⟨.ref _, _, I5.laid (t' := s4.toks) (o := .tup xs.reverse) (fun b ob q => Heap.get?_push_of_some _ q) (Nat.le_refl _) ?_, rfl, q _ (I5.hok.fresh (Nat.le_refl _))⟩
    exact ⟨by rw [List.length_reverse]; exact hz, its.reverse, by simpa using r.reverse, IsTup.new _ _⟩

theorem pick2 (items : Array Value) (n : Nat) (h : items.size = n + 1) : slicePick items (some (-2)) none (some (-1)) = items.toList.dropLast.reverse.toArray := by
  have eb : sliceBounds (some (-2)) none (some (-1)) items.size = ((n : Int) - 1, -1, -1) := by
    rw [h]
    show (max (-1) (min ((-2 : Int) + ((n + 1 : Nat) : Int)) (((n + 1 : Nat) : Int) - 1)), (-1 : Int), (-1 : Int)) = _
    have e : max (-1) (min ((-2 : Int) + ((n + 1 : Nat) : Int)) (((n + 1 : Nat) : Int) - 1)) = (n : Int) - 1 := by omega
    rw [e]
  unfold slicePick
  rw [eb]
  show ((sliceRange ((n : Int) - 1) (-1) (-1)).filterMap (items[·]?)).toArray = _
  rw [PySem.W.krv_sliceRange, PySem.W.krv_range, List.filterMap_reverse]
  congr 2
  have e : (List.range n).filterMap (fun m => items[m]?) = (List.range n).filterMap (fun m => some (items.toList.getD m .none)) := by
    refine fm_congr fun m hm => ?_
    have hl : m < items.size := by
      have := List.mem_range.mp hm
      omega
    rw [List.getD_eq_getElem?_getD]
    simp [hl]
  rw [e, List.filterMap_eq_map']
  refine List.ext_getElem (by simp [h]) fun i h1 h2 => ?_
  have hl : i < items.size := by
    have : i < n := by simpa using h1
    omega
  rw [List.getElem_map, List.getElem_dropLast, List.getElem_range, List.getD_eq_getElem?_getD]
  simp [hl]
def tRev2 (K : PySem.W.Frag) (te : TE) : TE := fun σ H Q => te σ H fun x H1 => ∃ a xs, x = .ref a ∧ SqL K H1 a xs ∧ xs ≠ [] ∧ ∀ p, H1 p = none → Q (.ref p) (upd H1 p (.lst xs.dropLast.reverse))
theorem pe_rev2 {e : Expr} {te : TE} {k k2 : Nat} {p1 p2 p3 p4 p5 pos : Pos} (he : PE X e te) : PE X (.Subscript e (.Slice (some (.UnaryOp .USub (.Constant (.int 2) k2 p4) p5)) none (some (.UnaryOp .USub (.Constant (.int 1) k p1) p2)) p3) pos) (tRev2 X.K te) := by
  refine ⟨fun pins s σ H Q I h => ?_⟩
  refine Subscript_ (thn (he.run pins s σ H _ I h) fun v s1 ⟨x, H1, I1, r1, a, xs, ex, hx, hn, q⟩ => ?_)
  subst ex
  cases r1
  have hst : PO X (some (.UnaryOp .USub (.Constant (.int 1) k p1) p2)) (tPart (tUn (rU fun i => .int (-i)) (tC (.int 1)))) := po_some (pe_un un_neg pe_int)
  have hlo : PO X (some (.UnaryOp .USub (.Constant (.int 2) k2 p4) p5)) (tPart (tUn (rU fun i => .int (-i)) (tC (.int 2)))) := po_some (pe_un un_neg pe_int)
  refine wpAny_Slice (thn (hlo.run pins s1 σ H1 (fun o H2 => o = some (-2) ∧ H2 = H1) I1 ⟨2, rfl, -2, rfl, rfl, rfl⟩) fun vl s2 ⟨l, H2, I2, pl, el, e2⟩ => ?_)
  subst el e2
  refine thn (po_none.run pins s2 σ H2 (fun o H3 => o = none ∧ H3 = H2) I2 ⟨rfl, rfl⟩) fun vu s3 ⟨u, H3, I3, pu, eu, e3⟩ => ?_
  subst eu e3
  refine thn (hst.run pins s3 σ H3 (fun o H4 => o = some (-1) ∧ H4 = H3) I3 ⟨1, rfl, -1, rfl, rfl, rfl⟩) fun vs s4 ⟨o, H4, I4, ps, eo, e4⟩ => ?_
  subst eo e4
  have I5 : Inv X pins σ H4 { s4 with heap := s4.heap.push { cls := .type "slice", data := .fields #[vl, vu, vs] } } := I4.kept (t' := s4.toks) fun b ob q => Heap.get?_push_of_some _ q
  obtain ⟨its, r, ht, hz⟩ := I5.list hx
  have hlen := r.length
  have hpos : 0 < xs.length := List.length_pos_iff.mpr hn
  show wpAny (model X.prog X.w) X.A (subscriptTail e (.Slice (some (.UnaryOp .USub (.Constant (.int 2) k2 p4) p5)) none (some (.UnaryOp .USub (.Constant (.int 1) k p1) p2)) p3) (.ref a) (.ref s4.heap.objs.size)) (EP X pins σ Q) X.xe { s4 with heap := s4.heap.push { cls := .type "slice", data := .fields #[vl, vu, vs] } }
  refine tail_any (ops := [.ref a, .ref s4.heap.objs.size]) ht.isList.typeIs (PySem.slot_list_getitem.lookup) ?_ (by with_unfolding_all rfl)
  refine wpAny_getItem_list_slice ht.isList (Heap.IsSliceOf.new _ vl vu vs) pl pu ps (by decide) ?_ (by rw [List.size_toArray]; omega)
  rw [pick2 _ (xs.length - 1) (by rw [List.size_toArray]; omega)]
  refine ⟨.ref _, _, I5.laid (t' := s4.toks) (o := .lst xs.dropLast.reverse) (fun b ob q => Heap.get?_push_of_some _ q) (Nat.le_refl _) ?_, rfl, q _ (I5.hok.fresh (Nat.le_refl _))⟩
  exact ⟨by rw [List.length_reverse, List.length_dropLast]; omega, _, 0, r.dropLast.reverse, Heap.get?_push_size _ rfl⟩
end
end ZS
namespace TF
open PySem PySem.Spec L2
theorem Sat.reverse {H : Hp} {Ps : List SP} {vs : List V} (h : Sat Ps H vs) : Sat Ps.reverse H vs.reverse := by
  induction h with
  | nil => exact .nil
  | cons r t ih =>
    rw [List.reverse_cons, List.reverse_cons]
    exact Sat.snoc r ih
theorem Sat.drop {H : Hp} : ∀ {Ps : List SP} {vs : List V} (n : Nat), Sat Ps H vs → Sat (Ps.drop n) H (vs.drop n)
  | _, _, 0, h => h
  | _, _, _ + 1, .nil => .nil
  | _, _, n + 1, .cons _ t => Sat.drop n t
theorem Sat.take {H : Hp} : ∀ {Ps : List SP} {vs : List V} (n : Nat), Sat Ps H vs → Sat (Ps.take n) H (vs.take n)
  | _, _, 0, _ => .nil
  | _, _, _ + 1, .nil => .nil
  | _, _, n + 1, .cons r t => .cons r (Sat.take n t)
theorem Sat.dropLast {H : Hp} {Ps : List SP} {vs : List V} (h : Sat Ps H vs) : Sat Ps.dropLast H vs.dropLast := by
  rw [List.dropLast_eq_take, List.dropLast_eq_take, h.length]
  exact h.take _
def cutP (Ps : List SP) (lo hi : Option Int) : List SP := (Ps.drop (HT.sIx Ps.length 0 lo)).take (HT.sIx Ps.length Ps.length hi - HT.sIx Ps.length 0 lo)
section
variable {X : Cx} {an : An} {K : PySem.W.Frag} {ρ : TF.Env} {W W1 W2 W3 W' Wz : Wd} {P R : SP} {Ps Rs : List SP} {a b e : Expr} {pos pos' p1 p2 p3 : Pos} {bb : Addr} {lo hi : Option Expr} {l u : Option Int} {i : Int}
/-- a slice's part -/
abbrev RO (X : Cx) (an : An) (e : Option Expr) (ρ : TF.Env) (W W' : Wd) (o : Option Int) : Prop := PO X e (fun σ H Q => ∃ O, MX an O ρ W σ H ∧ ∀ H', MX an O ρ W' σ H' → Same (mn H O) (mn H' O) → Q o H')
theorem POimp {e : Option Expr} {t t' : TO} (h : PO X e t) (k : ∀ σ H Q, t' σ H Q → t σ H Q) : PO X e t' := ⟨fun pins s σ H Q I q => h.run pins s σ H Q I (k σ H Q q)⟩
theorem ro_none : RO X an none ρ W W none := POimp po_none fun σ H Q ⟨O, m, q⟩ => q H m (Same.refl _)
theorem ro_some (h : RV X an e ρ W W' (dat K (.int i))) : RO X an (some e) ρ W W' (some i) := POimp (po_some h) fun σ H Q ⟨O, m, q⟩ => ⟨O, m, fun v H' m' s p => ⟨i, dat_int p, q H' m' s⟩⟩
theorem rv_slT (he : RV X an e ρ W W1 (tupP X.K Ps)) (hl : RO X an lo ρ W1 W2 l) (hu : RO X an hi ρ W2 W3 u) : RV X an (.Subscript e (.Slice lo hi none p2) pos) ρ W W3 (tupP X.K (cutP Ps l u)) :=
  PEimp (pe_slice sl_tupA he hl hu) fun σ H Q ⟨O, m, q⟩ => ⟨O, m, fun x H1 m1 s1 p1 => ⟨O, m1, fun H2 m2 s2 => ⟨O, m2, fun H3 m3 s3 => by
    obtain ⟨c, xs, ex, hx, sat⟩ := (tupP X.K Ps).st (s2.trans s3) p1
    subst ex
    have e1 := sat.length
    have sc : Sat (cutP Ps l u) (mn H3 O) (cutV xs l u) := by
      unfold cutP cutV
      rw [e1]
      exact (sat.drop _).take _
    refine ⟨c, xs, rfl, same_t mn_le hx, fun hw => ?_, fun hw p hp => ?_⟩
    · refine q _ H3 m3 ((s1.trans s2).trans s3) ⟨c, xs, rfl, hx, ?_⟩
      have e2 : cutP Ps l u = Ps := by
        unfold cutP
        rw [e1, hw.1, hw.2, List.drop_zero, Nat.sub_zero, ← e1, List.take_length]
      rw [e2]
      exact sat
    · exact q _ _ (m3.same (same_new hp)) (((s1.trans s2).trans s3).trans (mn_mono (same_new hp))) ⟨p, _, rfl, SqT.of (mn_new m3.lv hp), sc.same (mn_mono (same_new hp))⟩⟩⟩⟩
theorem rv_slL (he : RV X an e ρ W W1 (lstP X.K Ps)) (hl : RO X an lo ρ W1 W2 l) (hu : RO X an hi ρ W2 W3 u) : RV X an (.Subscript e (.Slice lo hi none p2) pos) ρ W W3 (lstT (cutP Ps l u)) :=
  PEimp (pe_slice sl_list he hl hu) fun σ H Q ⟨O, m, q⟩ => ⟨O, m, fun x H1 m1 s1 p1 => ⟨O, m1, fun H2 m2 s2 => ⟨O, m2, fun H3 m3 s3 => by
    obtain ⟨c, xs, ex, hx, sat⟩ := (lstP X.K Ps).st (s2.trans s3) p1
    subst ex
    have e1 := sat.length
    have sc : Sat (cutP Ps l u) (mn H3 O) (cutV xs l u) := by
      unfold cutP cutV
      rw [e1]
      exact (sat.drop _).take _
    refine ⟨c, xs, rfl, mn_le.seq hx, fun p hp => ?_⟩
    exact q _ _ (m3.same (same_new hp)) (((s1.trans s2).trans s3).trans (mn_mono (same_new hp))) ⟨p, _, rfl, mn_new m3.lv hp, sc.same (mn_mono (same_new hp))⟩⟩⟩⟩
theorem rv_revT {j : Nat} (he : RV X an e ρ W W' (tupP X.K Ps)) : RV X an (.Subscript e (.Slice none none (some (.UnaryOp .USub (.Constant (.int 1) j p1) p2)) p3) pos) ρ W W' (tupP X.K Ps.reverse) :=
  PEimp (ZS.pe_revT he) fun σ H Q ⟨O, m, q⟩ => ⟨O, m, fun x H1 m1 s1 ⟨c, xs, ex, hx, sat⟩ => ⟨c, xs, ex, same_t mn_le hx, fun p hp => q _ _ (m1.same (same_new hp)) (s1.trans (mn_mono (same_new hp))) ⟨p, _, rfl, SqT.of (mn_new m1.lv hp), sat.reverse.same (mn_mono (same_new hp))⟩⟩⟩
theorem rv_revTD {j : Nat} {ds : List PyData} (he : RV X an e ρ W W' (dat X.K (.tuple ds))) : RV X an (.Subscript e (.Slice none none (some (.UnaryOp .USub (.Constant (.int 1) j p1) p2)) p3) pos) ρ W W' (dat X.K (.tuple ds.reverse)) := by
  have h := rv_revT (p1 := p1) (p2 := p2) (p3 := p3) (pos := pos) (j := j) (rv_sub he fun _ _ => dat_tupP)
  rw [← List.map_reverse] at h
  exact rv_sub h fun _ _ => tupP_dat
theorem rv_revL {j : Nat} (he : RV X an e ρ W W' (lstP X.K Ps)) : RV X an (.Subscript e (.Slice none none (some (.UnaryOp .USub (.Constant (.int 1) j p1) p2)) p3) pos) ρ W W' (lstT Ps.reverse) :=
  PEimp (pe_revL he) fun σ H Q ⟨O, m, q⟩ => ⟨O, m, fun x H1 m1 s1 ⟨c, xs, ex, hx, sat⟩ => ⟨c, xs, ex, mn_le.seq hx, fun p hp => q _ _ (m1.same (same_new hp)) (s1.trans (mn_mono (same_new hp))) ⟨p, _, rfl, mn_new m1.lv hp, sat.reverse.same (mn_mono (same_new hp))⟩⟩⟩
/-- o[-2::-1] of an owned list -/
theorem rv_rev2O (k : Nat) {j j2 : Nat} {p4 p5 : Pos} (he : RV X an e ρ W W' (refP bb)) (hk : W'[k]? = some (bb, lstM Ps)) (hn : Ps ≠ []) : RV X an (.Subscript e (.Slice (some (.UnaryOp .USub (.Constant (.int 2) j2 p4) p5)) none (some (.UnaryOp .USub (.Constant (.int 1) j p1) p2)) p3) pos) ρ W W' (lstT Ps.dropLast.reverse) :=
  PEimp (ZS.pe_rev2 he) fun σ H Q ⟨O, m, q⟩ => ⟨O, m, fun x H1 m1 s1 p1 => by
    obtain ⟨xs, e1, sat⟩ := m1.lst hk
    refine ⟨bb, xs, p1, SqL.of e1, fun z => ?_, fun p hp => q _ _ (m1.same (same_new hp)) (s1.trans (mn_mono (same_new hp))) ⟨p, _, rfl, mn_new m1.lv hp, sat.dropLast.reverse.same (mn_mono (same_new hp))⟩⟩
    subst z
    have := sat.length
    exact hn (List.length_eq_zero_iff.mp this)⟩
/-- + -/
theorem rv_catL (ha : RV X an a ρ W W1 (lstT Ps)) (hb : RV X an b ρ W1 W2 (lstT Rs)) (hl : Ps.length + Rs.length ≤ 1000000) : RV X an (.BinOp a .Add b pos) ρ W W2 (lstT (Ps ++ Rs)) :=
  rv_op (P1 := lstT Ps) (P2 := lstT Rs) op_cat (fun O H v w Q l ⟨p, xs, ep, hp, sp⟩ ⟨r, ys, er, hr, sr⟩ q => by
    subst ep er
    refine ⟨p, r, xs, ys, rfl, rfl, mn_at hp, mn_at hr, ?_, fun z hz => q _ _ (same_new hz) ⟨z, _, rfl, mn_new l hz, (sp.append sr).same (mn_mono (same_new hz))⟩⟩
    rw [← sp.length, ← sr.length, sizeLine_eq]
    omega) ha hb
theorem rv_catT (ha : RV X an a ρ W W1 (tupP X.K Ps)) (hb : RV X an b ρ W1 W2 (tupP X.K Rs)) (hl : Ps.length + Rs.length ≤ 1000000) : RV X an (.BinOp a .Add b pos) ρ W W2 (tupP X.K (Ps ++ Rs)) :=
  rv_op (P1 := tupP X.K Ps) (P2 := tupP X.K Rs) op_catA (fun O H v w Q l ⟨p, xs, ep, hp, sp⟩ ⟨r, ys, er, hr, sr⟩ q => by
    subst ep er
    refine ⟨p, r, xs, ys, rfl, rfl, same_t mn_le hp, same_t mn_le hr, ?_, fun e => ?_, fun e1 e2 => ?_, fun e1 e2 z hz => q _ _ (same_new hz) ⟨z, _, rfl, SqT.of (mn_new l hz), (sp.append sr).same (mn_mono (same_new hz))⟩⟩
    · rw [← sp.length, ← sr.length, sizeLine_eq]
      omega
    · subst e
      cases sp
      exact q _ _ (Same.refl H) ⟨r, ys, rfl, hr, sr⟩
    · subst e2
      cases sr
      rw [List.append_nil] at q
      exact q _ _ (Same.refl H) ⟨p, xs, rfl, hp, sp⟩) ha hb
end
end TF
set_option Elab.async false
set_option linter.all false
set_option maxRecDepth 100000
set_option maxHeartbeats 4000000
/-! D1: nets as data. -/
namespace TF
open PySem PySem.Spec L2
structure Fir where
  name : Str
  label : Str
  takes : List (Str × Int)
  gives : List (Str × Int)
structure Net where
  places : List (Str × Int)
  firs : List Fir
def partD (p : Str × Int) : PyData := .tuple [.str p.1, .int p.2]
def partsD (ps : List (Str × Int)) : PyData := .tuple (ps.map partD)
def firD (f : Fir) : PyData := .tuple [.str f.name, .str f.label, partsD f.takes, partsD f.gives]
def netD (n : Net) : PyData := .tuple [partsD n.places, .tuple (n.firs.map firD)]
def strsD (xs : List Str) : PyData := .list (xs.map .str)
def smallS : Str := "abcdefghijklmnopqrstuvwxyz"
def signS : Str := smallS ++ ("0123456789" : Str)
structure OkName (x : Str) : Prop where
  z1 : 1 ≤ x.cps.size
  z2 : x.cps.size ≤ 8
  nw : ¬ x ∈ (["place", "fire", "as"] : List Str)
  hd : x.cps.getD 0 0 ∈ smallS.cps.toList
  all : ∀ i, i < x.cps.size → x.cps.getD i 0 ∈ signS.cps.toList
structure OkParts (names : List Str) (ps : List (Str × Int)) : Prop where
  sub : (ps.map Prod.fst).Sublist names
  cnt : ∀ p, p ∈ ps → 1 ≤ p.2 ∧ p.2 ≤ 999999999
structure OkFir (names : List Str) (f : Fir) : Prop where
  nm : OkName f.name
  lb : OkName f.label ∨ f.label = ""
  tk : OkParts names f.takes
  gv : OkParts names f.gives
def Net.names (n : Net) : List Str := n.places.map Prod.fst
def Net.fnames (n : Net) : List Str := n.firs.map Fir.name
def Net.begin (n : Net) : List Int := n.places.map Prod.snd
structure OkNet (n : Net) : Prop where
  pn : ∀ p, p ∈ n.places → OkName p.1 ∧ 0 ≤ p.2 ∧ p.2 ≤ 999999999
  pd : n.names.Nodup
  p1 : 1 ≤ n.places.length
  p2 : n.places.length ≤ 40
  fo : ∀ f, f ∈ n.firs → OkFir n.names f
  fd : n.fnames.Nodup
  f2 : n.firs.length ≤ 60
section
variable {X : Cx} {an : An} {W W' : Wd} {tg e : Expr} {ρ : TF.Env}
theorem getD_mapD {α : Type} (f : α → PyData) (l : List α) (d : α) {i : Nat} (h : i < l.length) : (l.map f).getD i .none = f (l.getD i d) := by
  rw [List.getD_eq_getElem?_getD, List.getD_eq_getElem?_getD, List.getElem?_map, List.getElem?_eq_getElem h]
  rfl
theorem ri_tupM {α : Type} (f : α → PyData) (l : List α) (d : α) (he : RV X an e ρ W W' (dat X.K (.tuple (l.map f)))) : RI X an tg e ρ W W' (fun i => dat X.K (f (l.getD i d))) l.length := by
  have h := ri_sub (Y' := fun i => dat X.K (f (l.getD i d))) (ri_tupD (tg := tg) he) fun i hi => by
    rw [List.length_map] at hi
    show Imp (dat X.K ((l.map f).getD i .none)) _
    rw [getD_mapD f l d hi]
    exact Imp.refl
  rw [List.length_map] at h
  exact h
theorem ri_listM {α : Type} (f : α → PyData) (l : List α) (d : α) (he : RV X an e ρ W W' (dat X.K (.list (l.map f)))) : RI X an tg e ρ W W' (fun i => dat X.K (f (l.getD i d))) l.length := by
  have h := ri_sub (Y' := fun i => dat X.K (f (l.getD i d))) (ri_listD (tg := tg) he) fun i hi => by
    rw [List.length_map] at hi
    show Imp (dat X.K ((l.map f).getD i .none)) _
    rw [getD_mapD f l d hi]
    exact Imp.refl
  rw [List.length_map] at h
  exact h
/-- of a list told by its items -/
theorem ri_lstM {α : Type} (f : α → SP) (l : List α) (d : α) (he : RV X an e ρ W W' (lstP X.K (l.map f))) : RI X an tg e ρ W W' (fun i => f (l.getD i d)) l.length := by
  have h := ri_sub (Y' := fun i => f (l.getD i d)) (ri_list (tg := tg) he) fun i hi => by
    rw [List.length_map] at hi
    rw [getD_map (d := d) hi]
    exact Imp.refl
  rw [List.length_map] at h
  exact h
theorem ri_tupE {Ps : List SP} {Y : Nat → SP} {n : Nat} (he : RV X an e ρ W W' (tupP X.K Ps)) (hn : Ps.length = n) (hY : ∀ i, i < n → Imp (Ps.getD i default) (Y i)) : RI X an tg e ρ W W' Y n := by
  subst hn
  exact ri_sub (ri_tup he) hY
theorem ri_listE {Ps : List SP} {Y : Nat → SP} {n : Nat} (he : RV X an e ρ W W' (lstP X.K Ps)) (hn : Ps.length = n) (hY : ∀ i, i < n → Imp (Ps.getD i default) (Y i)) : RI X an tg e ρ W W' Y n := by
  subst hn
  exact ri_sub (ri_list he) hY
theorem rv_asT {K : PySem.W.Frag} {ds : List PyData} (h : RV X an e ρ W W' (dat K (.tuple ds))) : RV X an e ρ W W' (tupP K (ds.map (dat K))) := rv_sub h fun _ _ => dat_tupP
theorem rv_asL {K : PySem.W.Frag} {ds : List PyData} (h : RV X an e ρ W W' (dat K (.list ds))) : RV X an e ρ W W' (lstP K (ds.map (dat K))) := rv_sub h fun _ _ => dat_lstP
theorem getD_mem {α : Type} {l : List α} {d : α} {i : Nat} (h : i < l.length) : l.getD i d ∈ l := by
  rw [List.getD_eq_getElem?_getD, List.getElem?_eq_getElem h]
  exact List.getElem_mem h
end
end TF
set_option Elab.async false
set_option linter.all false
set_option maxRecDepth 100000
set_option maxHeartbeats 4000000
/-! B1: bindings (printed by gen_b.py). -/
namespace TF
open PySem PySem.Spec L2
theorem len1 {α : Type} {us : List α} (h : us.length = 1) : ∃ a, us = [a] := by
  match us, h with
  | [a], _ => exact ⟨a, rfl⟩
theorem len2 {α : Type} {us : List α} (h : us.length = 2) : ∃ a b, us = [a, b] := by
  match us, h with
  | [a, b], _ => exact ⟨a, b, rfl⟩
theorem len3 {α : Type} {us : List α} (h : us.length = 3) : ∃ a b c, us = [a, b, c] := by
  match us, h with
  | [a, b, c], _ => exact ⟨a, b, c, rfl⟩
theorem len4 {α : Type} {us : List α} (h : us.length = 4) : ∃ a b c d, us = [a, b, c, d] := by
  match us, h with
  | [a, b, c, d], _ => exact ⟨a, b, c, d, rfl⟩
section
variable {K : PySem.W.Frag} {mg : Str → Option Value} (T : TF.Txt K mg)
include T
theorem b_is_count_nets : Binds K (fdAt K (He.ga K "is_count_nets")) ["thing", "least"] [] := T.f_is_count_nets.bindsN fun _ _ _ _ _ _ us hl => by
  obtain ⟨a, b, rfl⟩ := len2 hl
  rfl
theorem b_is_name : Binds K (fdAt K (He.ga K "is_name")) ["thing"] [] := T.f_is_name.bindsN fun _ _ _ _ _ _ us hl => by
  obtain ⟨a, rfl⟩ := len1 hl
  rfl
theorem b_are_parts : Binds K (fdAt K (He.ga K "are_parts")) ["thing"] [] := T.f_are_parts.bindsN fun _ _ _ _ _ _ us hl => by
  obtain ⟨a, rfl⟩ := len1 hl
  rfl
theorem b_is_place : Binds K (fdAt K (He.ga K "is_place")) ["thing", "known"] [] := T.f_is_place.bindsN fun _ _ _ _ _ _ us hl => by
  obtain ⟨a, b, rfl⟩ := len2 hl
  rfl
theorem b_is_firing : Binds K (fdAt K (He.ga K "is_firing")) ["thing", "known"] [] := T.f_is_firing.bindsN fun _ _ _ _ _ _ us hl => by
  obtain ⟨a, b, rfl⟩ := len2 hl
  rfl
theorem b_part_wrong : Binds K (fdAt K (He.ga K "part_wrong")) ["firing", "numbers"] [] := T.f_part_wrong.bindsN fun _ _ _ _ _ _ us hl => by
  obtain ⟨a, b, rfl⟩ := len2 hl
  rfl
theorem b_net_wrong : Binds K (fdAt K (He.ga K "net_wrong")) ["thing"] [] := T.f_net_wrong.bindsN fun _ _ _ _ _ _ us hl => by
  obtain ⟨a, rfl⟩ := len1 hl
  rfl
theorem b_must_net : Binds K (fdAt K (He.ga K "must_net")) ["net"] [] := T.f_must_net.bindsN fun _ _ _ _ _ _ us hl => by
  obtain ⟨a, rfl⟩ := len1 hl
  rfl
theorem b_Look_init : Binds K (fdAt K (He.ma K (He.ga K "Look") "__init__")) ["self", "net"] [] := T.f_Look_init.bindsN fun _ _ _ _ _ _ us hl => by
  obtain ⟨a, b, rfl⟩ := len2 hl
  rfl
theorem b_Look_lacking : Binds K (fdAt K (He.ma K (He.ga K "Look") "lacking")) ["self", "heap", "name"] [] := T.f_Look_lacking.bindsN fun _ _ _ _ _ _ us hl => by
  obtain ⟨a, b, c, rfl⟩ := len3 hl
  rfl
theorem b_Look_behind : Binds K (fdAt K (He.ma K (He.ga K "Look") "behind")) ["self", "heap", "name"] [] := T.f_Look_behind.bindsN fun _ _ _ _ _ _ us hl => by
  obtain ⟨a, b, c, rfl⟩ := len3 hl
  rfl
theorem b_Look_can : Binds K (fdAt K (He.ma K (He.ga K "Look") "can")) ["self", "heap"] [] := T.f_Look_can.bindsN fun _ _ _ _ _ _ us hl => by
  obtain ⟨a, b, rfl⟩ := len2 hl
  rfl
theorem b_is_count_firing : Binds K (fdAt K (He.ga K "is_count_firing")) ["thing"] [] := T.f_is_count_firing.bindsN fun _ _ _ _ _ _ us hl => by
  obtain ⟨a, rfl⟩ := len1 hl
  rfl
theorem b_look_at : Binds K (fdAt K (He.ga K "look_at")) ["net"] [] := T.f_look_at.bindsN fun _ _ _ _ _ _ us hl => by
  obtain ⟨a, rfl⟩ := len1 hl
  rfl
theorem b_heap_fault : Binds K (fdAt K (He.ga K "heap_fault")) ["many", "thing"] [] := T.f_heap_fault.bindsN fun _ _ _ _ _ _ us hl => by
  obtain ⟨a, b, rfl⟩ := len2 hl
  rfl
theorem b_must_heap : Binds K (fdAt K (He.ga K "must_heap")) ["net", "heap"] [] := T.f_must_heap.bindsN fun _ _ _ _ _ _ us hl => by
  obtain ⟨a, b, rfl⟩ := len2 hl
  rfl
theorem b_is_row : Binds K (fdAt K (He.ga K "is_row")) ["look", "thing"] [] := T.f_is_row.bindsN fun _ _ _ _ _ _ us hl => by
  obtain ⟨a, b, rfl⟩ := len2 hl
  rfl
theorem b_row_end : Binds K (fdAt K (He.ga K "row_end")) ["look", "row"] [] := T.f_row_end.bindsN fun _ _ _ _ _ _ us hl => by
  obtain ⟨a, b, rfl⟩ := len2 hl
  rfl
theorem b_is_over : Binds K (fdAt K (He.ga K "is_over")) ["one", "other"] [] := T.f_is_over.bindsN fun _ _ _ _ _ _ us hl => by
  obtain ⟨a, b, rfl⟩ := len2 hl
  rfl
theorem b_wide_can : Binds K (fdAt K (He.ga K "wide_can")) ["look", "heap", "name"] [] := T.f_wide_can.bindsN fun _ _ _ _ _ _ us hl => by
  obtain ⟨a, b, c, rfl⟩ := len3 hl
  rfl
theorem b_wide_behind : Binds K (fdAt K (He.ga K "wide_behind")) ["look", "heap", "name"] [] := T.f_wide_behind.bindsN fun _ _ _ _ _ _ us hl => by
  obtain ⟨a, b, c, rfl⟩ := len3 hl
  rfl
theorem b_widened : Binds K (fdAt K (He.ga K "widened")) ["heap", "base"] [] := T.f_widened.bindsN fun _ _ _ _ _ _ us hl => by
  obtain ⟨a, b, rfl⟩ := len2 hl
  rfl
theorem b_greatest : Binds K (fdAt K (He.ga K "greatest")) ["heaps"] [] := T.f_greatest.bindsN fun _ _ _ _ _ _ us hl => by
  obtain ⟨a, rfl⟩ := len1 hl
  rfl
theorem b_least : Binds K (fdAt K (He.ga K "least")) ["heaps"] [] := T.f_least.bindsN fun _ _ _ _ _ _ us hl => by
  obtain ⟨a, rfl⟩ := len1 hl
  rfl
theorem b_before : Binds K (fdAt K (He.ga K "before")) ["look", "heap", "name"] [] := T.f_before.bindsN fun _ _ _ _ _ _ us hl => by
  obtain ⟨a, b, c, rfl⟩ := len3 hl
  rfl
theorem b_over_some : Binds K (fdAt K (He.ga K "over_some")) ["heap", "some"] [] := T.f_over_some.bindsN fun _ _ _ _ _ _ us hl => by
  obtain ⟨a, b, rfl⟩ := len2 hl
  rfl
theorem b_Levels_init : Binds K (fdAt K (He.ma K (He.ga K "Levels") "__init__")) ["self", "look", "heap", "most"] [] := T.f_Levels_init.bindsN fun _ _ _ _ _ _ us hl => by
  obtain ⟨a, b, c, d, rfl⟩ := len4 hl
  rfl
theorem b_Levels_is_come_to : Binds K (fdAt K (He.ma K (He.ga K "Levels") "is_come_to")) ["self"] [] := T.f_Levels_is_come_to.bindsN fun _ _ _ _ _ _ us hl => by
  obtain ⟨a, rfl⟩ := len1 hl
  rfl
theorem b_Levels_go_on : Binds K (fdAt K (He.ma K (He.ga K "Levels") "go_on")) ["self"] [] := T.f_Levels_go_on.bindsN fun _ _ _ _ _ _ us hl => by
  obtain ⟨a, rfl⟩ := len1 hl
  rfl
theorem b_Levels_first_row : Binds K (fdAt K (He.ma K (He.ga K "Levels") "first_row")) ["self"] [] := T.f_Levels_first_row.bindsN fun _ _ _ _ _ _ us hl => by
  obtain ⟨a, rfl⟩ := len1 hl
  rfl
theorem b_covered_by : Binds K (fdAt K (He.ga K "covered_by")) ["look", "heap", "most"] [] := T.f_covered_by.bindsN fun _ _ _ _ _ _ us hl => by
  obtain ⟨a, b, c, rfl⟩ := len3 hl
  rfl
theorem b_basis_wrong : Binds K (fdAt K (He.ga K "basis_wrong")) ["look", "heap", "basis"] [] := T.f_basis_wrong.bindsN fun _ _ _ _ _ _ us hl => by
  obtain ⟨a, b, c, rfl⟩ := len3 hl
  rfl
theorem b_covered_wrong : Binds K (fdAt K (He.ga K "covered_wrong")) ["net", "heap", "thing"] [] := T.f_covered_wrong.bindsN fun _ _ _ _ _ _ us hl => by
  obtain ⟨a, b, c, rfl⟩ := len3 hl
  rfl
theorem b_Spot_init : Binds K (fdAt K (He.ma K (He.ga K "Spot") "__init__")) ["self", "wide", "parent", "name"] [] := T.f_Spot_init.bindsN fun _ _ _ _ _ _ us hl => by
  obtain ⟨a, b, c, d, rfl⟩ := len4 hl
  rfl
theorem b_Spot_way_from : Binds K (fdAt K (He.ma K (He.ga K "Spot") "way_from")) ["self", "other"] [] := T.f_Spot_way_from.bindsN fun _ _ _ _ _ _ us hl => by
  obtain ⟨a, b, rfl⟩ := len2 hl
  rfl
theorem b_Spot_pump : Binds K (fdAt K (He.ma K (He.ga K "Spot") "pump")) ["self"] [] := T.f_Spot_pump.bindsN fun _ _ _ _ _ _ us hl => by
  obtain ⟨a, rfl⟩ := len1 hl
  rfl
theorem b_Growth_init : Binds K (fdAt K (He.ma K (He.ga K "Growth") "__init__")) ["self", "look", "most"] [] := T.f_Growth_init.bindsN fun _ _ _ _ _ _ us hl => by
  obtain ⟨a, b, c, rfl⟩ := len3 hl
  rfl
theorem b_Growth_grow : Binds K (fdAt K (He.ma K (He.ga K "Growth") "grow")) ["self", "most"] [] := T.f_Growth_grow.bindsN fun _ _ _ _ _ _ us hl => by
  obtain ⟨a, b, rfl⟩ := len2 hl
  rfl
theorem b_Growth_put : Binds K (fdAt K (He.ma K (He.ga K "Growth") "put")) ["self", "spot", "most"] [] := T.f_Growth_put.bindsN fun _ _ _ _ _ _ us hl => by
  obtain ⟨a, b, c, rfl⟩ := len3 hl
  rfl
theorem b_wides_of : Binds K (fdAt K (He.ga K "wides_of")) ["spots"] [] := T.f_wides_of.bindsN fun _ _ _ _ _ _ us hl => by
  obtain ⟨a, rfl⟩ := len1 hl
  rfl
theorem b_place_number : Binds K (fdAt K (He.ga K "place_number")) ["look", "place"] [] := T.f_place_number.bindsN fun _ _ _ _ _ _ us hl => by
  obtain ⟨a, b, rfl⟩ := len2 hl
  rfl
theorem b_stair_of : Binds K (fdAt K (He.ga K "stair_of")) ["spot"] [] := T.f_stair_of.bindsN fun _ _ _ _ _ _ us hl => by
  obtain ⟨a, rfl⟩ := len1 hl
  rfl
theorem b_L_at : Binds K (fdAt K (He.ga K "_law_at")) ["_law_script", "_law_k"] [] := T.f_L_at.bindsN fun _ _ _ _ _ _ us hl => by
  obtain ⟨a, b, rfl⟩ := len2 hl
  rfl
theorem b_L_mixed : Binds K (fdAt K (He.ga K "_law_mixed")) ["_law_cell", "_law_k"] [] := T.f_L_mixed.bindsN fun _ _ _ _ _ _ us hl => by
  obtain ⟨a, b, rfl⟩ := len2 hl
  rfl
theorem b_L_purse : Binds K (fdAt K (He.ga K "_law_purse")) ["_law_script", "_law_at_here"] [] := T.f_L_purse.bindsN fun _ _ _ _ _ _ us hl => by
  obtain ⟨a, b, rfl⟩ := len2 hl
  rfl
theorem b_L_draw : Binds K (fdAt K (He.ga K "_law_draw")) ["_law_purse_here", "_law_out_of"] [] := T.f_L_draw.bindsN fun _ _ _ _ _ _ us hl => by
  obtain ⟨a, b, rfl⟩ := len2 hl
  rfl
theorem b_L_parts : Binds K (fdAt K (He.ga K "_law_parts")) ["_law_purse_here", "_law_names", "_law_many"] [] := T.f_L_parts.bindsN fun _ _ _ _ _ _ us hl => by
  obtain ⟨a, b, c, rfl⟩ := len3 hl
  rfl
theorem b_L_even : Binds K (fdAt K (He.ga K "_law_even")) ["_law_purse_here", "_law_names"] [] := T.f_L_even.bindsN fun _ _ _ _ _ _ us hl => by
  obtain ⟨a, b, rfl⟩ := len2 hl
  rfl
theorem b_L_net : Binds K (fdAt K (He.ga K "_law_net")) ["_law_purse_here", "_law_sort"] [] := T.f_L_net.bindsN fun _ _ _ _ _ _ us hl => by
  obtain ⟨a, b, rfl⟩ := len2 hl
  rfl
theorem b_L_over : Binds K (fdAt K (He.ga K "_law_over")) ["_law_one", "_law_other"] [] := T.f_L_over.bindsN fun _ _ _ _ _ _ us hl => by
  obtain ⟨a, b, rfl⟩ := len2 hl
  rfl
theorem b_L_goal : Binds K (fdAt K (He.ga K "_law_goal")) ["_law_purse_here", "_law_net_here"] [] := T.f_L_goal.bindsN fun _ _ _ _ _ _ us hl => by
  obtain ⟨a, b, rfl⟩ := len2 hl
  rfl
theorem b_L_rank : Binds K (fdAt K (He.ga K "_law_rank")) ["_law_heap"] [] := T.f_L_rank.bindsN fun _ _ _ _ _ _ us hl => by
  obtain ⟨a, rfl⟩ := len1 hl
  rfl
theorem b_L_told : Binds K (fdAt K (He.ga K "_law_told")) ["_law_net_here", "_law_goal_here"] [] := T.f_L_told.bindsN fun _ _ _ _ _ _ us hl => by
  obtain ⟨a, b, rfl⟩ := len2 hl
  rfl
theorem b_L_wides : Binds K (fdAt K (He.ga K "_law_wides")) ["_law_net_here"] [] := T.f_L_wides.bindsN fun _ _ _ _ _ _ us hl => by
  obtain ⟨a, rfl⟩ := len1 hl
  rfl
theorem b_L_bound : Binds K (fdAt K (He.ga K "_law_bound")) ["_law_net_here", "_law_place"] [] := T.f_L_bound.bindsN fun _ _ _ _ _ _ us hl => by
  obtain ⟨a, b, rfl⟩ := len2 hl
  rfl
theorem b_L_more_right : Binds K (fdAt K (He.ga K "_law_more_right")) ["_law_one", "_law_greater", "_law_goal_here"] [] := T.f_L_more_right.bindsN fun _ _ _ _ _ _ us hl => by
  obtain ⟨a, b, c, rfl⟩ := len3 hl
  rfl
theorem b_L_turned : Binds K (fdAt K (He.ga K "_law_turned")) ["_law_net_here"] [] := T.f_L_turned.bindsN fun _ _ _ _ _ _ us hl => by
  obtain ⟨a, rfl⟩ := len1 hl
  rfl
theorem b_L_alike_right : Binds K (fdAt K (He.ga K "_law_alike_right")) ["_law_net_here", "_law_told_here", "_law_goal_here"] [] := T.f_L_alike_right.bindsN fun _ _ _ _ _ _ us hl => by
  obtain ⟨a, b, c, rfl⟩ := len3 hl
  rfl
theorem b_L_wides_right : Binds K (fdAt K (He.ga K "_law_wides_right")) ["_law_net_here", "_law_greater"] [] := T.f_L_wides_right.bindsN fun _ _ _ _ _ _ us hl => by
  obtain ⟨a, b, rfl⟩ := len2 hl
  rfl
theorem b_law : Binds K (fdAt K (He.ga K "law")) ["_law_script"] [] := T.f_law.bindsN fun _ _ _ _ _ _ us hl => by
  obtain ⟨a, rfl⟩ := len1 hl
  rfl
end
abbrev N_NoNet_init : List Str := ["self", "wrong"]
abbrev O_NoNet_init (P : Program) (w : World) (K : PySem.W.Frag) (mg : Str → Option Value) (base : Heap) (CX : CXT) (k : Nat) (sp : Sp) : Prop := FnOk P w K mg base CX k (He.ma K (He.ga K "NoNet") "__init__") (fdAt K (He.ma K (He.ga K "NoNet") "__init__")) ["self", "wrong"] sp
abbrev N_NoHeap_init : List Str := ["self", "wrong"]
abbrev O_NoHeap_init (P : Program) (w : World) (K : PySem.W.Frag) (mg : Str → Option Value) (base : Heap) (CX : CXT) (k : Nat) (sp : Sp) : Prop := FnOk P w K mg base CX k (He.ma K (He.ga K "NoHeap") "__init__") (fdAt K (He.ma K (He.ga K "NoHeap") "__init__")) ["self", "wrong"] sp
abbrev N_NoPlace_init : List Str := ["self", "place"]
abbrev O_NoPlace_init (P : Program) (w : World) (K : PySem.W.Frag) (mg : Str → Option Value) (base : Heap) (CX : CXT) (k : Nat) (sp : Sp) : Prop := FnOk P w K mg base CX k (He.ma K (He.ga K "NoPlace") "__init__") (fdAt K (He.ma K (He.ga K "NoPlace") "__init__")) ["self", "place"] sp
abbrev N_TooGreat_init : List Str := ["self", "most"]
abbrev O_TooGreat_init (P : Program) (w : World) (K : PySem.W.Frag) (mg : Str → Option Value) (base : Heap) (CX : CXT) (k : Nat) (sp : Sp) : Prop := FnOk P w K mg base CX k (He.ma K (He.ga K "TooGreat") "__init__") (fdAt K (He.ma K (He.ga K "TooGreat") "__init__")) ["self", "most"] sp
abbrev N_is_count_nets : List Str := ["thing", "least"]
abbrev O_is_count_nets (P : Program) (w : World) (K : PySem.W.Frag) (mg : Str → Option Value) (base : Heap) (CX : CXT) (k : Nat) (sp : Sp) : Prop := FnOk P w K mg base CX k (He.ga K "is_count_nets") (fdAt K (He.ga K "is_count_nets")) ["thing", "least"] sp
abbrev N_is_name : List Str := ["thing", "sign"]
abbrev O_is_name (P : Program) (w : World) (K : PySem.W.Frag) (mg : Str → Option Value) (base : Heap) (CX : CXT) (k : Nat) (sp : Sp) : Prop := FnOk P w K mg base CX k (He.ga K "is_name") (fdAt K (He.ga K "is_name")) ["thing"] sp
abbrev N_are_parts : List Str := ["thing", "part"]
abbrev O_are_parts (P : Program) (w : World) (K : PySem.W.Frag) (mg : Str → Option Value) (base : Heap) (CX : CXT) (k : Nat) (sp : Sp) : Prop := FnOk P w K mg base CX k (He.ga K "are_parts") (fdAt K (He.ga K "are_parts")) ["thing"] sp
abbrev N_is_place : List Str := ["thing", "known"]
abbrev O_is_place (P : Program) (w : World) (K : PySem.W.Frag) (mg : Str → Option Value) (base : Heap) (CX : CXT) (k : Nat) (sp : Sp) : Prop := FnOk P w K mg base CX k (He.ga K "is_place") (fdAt K (He.ga K "is_place")) ["thing", "known"] sp
abbrev N_is_firing : List Str := ["thing", "known"]
abbrev O_is_firing (P : Program) (w : World) (K : PySem.W.Frag) (mg : Str → Option Value) (base : Heap) (CX : CXT) (k : Nat) (sp : Sp) : Prop := FnOk P w K mg base CX k (He.ga K "is_firing") (fdAt K (He.ga K "is_firing")) ["thing", "known"] sp
abbrev N_part_wrong : List Str := ["firing", "numbers", "at", "parts", "last", "name", "count"]
abbrev O_part_wrong (P : Program) (w : World) (K : PySem.W.Frag) (mg : Str → Option Value) (base : Heap) (CX : CXT) (k : Nat) (sp : Sp) : Prop := FnOk P w K mg base CX k (He.ga K "part_wrong") (fdAt K (He.ga K "part_wrong")) ["firing", "numbers"] sp
abbrev N_net_wrong : List Str := ["thing", "numbers", "k", "place", "known", "firing", "at"]
abbrev O_net_wrong (P : Program) (w : World) (K : PySem.W.Frag) (mg : Str → Option Value) (base : Heap) (CX : CXT) (k : Nat) (sp : Sp) : Prop := FnOk P w K mg base CX k (He.ga K "net_wrong") (fdAt K (He.ga K "net_wrong")) ["thing"] sp
abbrev N_must_net : List Str := ["net", "wrong"]
abbrev O_must_net (P : Program) (w : World) (K : PySem.W.Frag) (mg : Str → Option Value) (base : Heap) (CX : CXT) (k : Nat) (sp : Sp) : Prop := FnOk P w K mg base CX k (He.ga K "must_net") (fdAt K (He.ga K "must_net")) ["net"] sp
abbrev N_Look_init : List Str := ["self", "net", "places", "firings", "name", "begin", "firing", "rank", "at", "place", "count"]
abbrev O_Look_init (P : Program) (w : World) (K : PySem.W.Frag) (mg : Str → Option Value) (base : Heap) (CX : CXT) (k : Nat) (sp : Sp) : Prop := FnOk P w K mg base CX k (He.ma K (He.ga K "Look") "__init__") (fdAt K (He.ma K (He.ga K "Look") "__init__")) ["self", "net"] sp
abbrev N_Look_lacking : List Str := ["self", "heap", "name", "at", "count"]
abbrev O_Look_lacking (P : Program) (w : World) (K : PySem.W.Frag) (mg : Str → Option Value) (base : Heap) (CX : CXT) (k : Nat) (sp : Sp) : Prop := FnOk P w K mg base CX k (He.ma K (He.ga K "Look") "lacking") (fdAt K (He.ma K (He.ga K "Look") "lacking")) ["self", "heap", "name"] sp
abbrev N_Look_behind : List Str := ["self", "heap", "name", "found", "at", "count"]
abbrev O_Look_behind (P : Program) (w : World) (K : PySem.W.Frag) (mg : Str → Option Value) (base : Heap) (CX : CXT) (k : Nat) (sp : Sp) : Prop := FnOk P w K mg base CX k (He.ma K (He.ga K "Look") "behind") (fdAt K (He.ma K (He.ga K "Look") "behind")) ["self", "heap", "name"] sp
abbrev N_Look_can : List Str := ["self", "heap", "name"]
abbrev O_Look_can (P : Program) (w : World) (K : PySem.W.Frag) (mg : Str → Option Value) (base : Heap) (CX : CXT) (k : Nat) (sp : Sp) : Prop := FnOk P w K mg base CX k (He.ma K (He.ga K "Look") "can") (fdAt K (He.ma K (He.ga K "Look") "can")) ["self", "heap"] sp
abbrev N_is_count_firing : List Str := ["thing"]
abbrev O_is_count_firing (P : Program) (w : World) (K : PySem.W.Frag) (mg : Str → Option Value) (base : Heap) (CX : CXT) (k : Nat) (sp : Sp) : Prop := FnOk P w K mg base CX k (He.ga K "is_count_firing") (fdAt K (He.ga K "is_count_firing")) ["thing"] sp
abbrev N_look_at : List Str := ["net"]
abbrev O_look_at (P : Program) (w : World) (K : PySem.W.Frag) (mg : Str → Option Value) (base : Heap) (CX : CXT) (k : Nat) (sp : Sp) : Prop := FnOk P w K mg base CX k (He.ga K "look_at") (fdAt K (He.ga K "look_at")) ["net"] sp
abbrev N_heap_fault : List Str := ["many", "thing", "k", "count"]
abbrev O_heap_fault (P : Program) (w : World) (K : PySem.W.Frag) (mg : Str → Option Value) (base : Heap) (CX : CXT) (k : Nat) (sp : Sp) : Prop := FnOk P w K mg base CX k (He.ga K "heap_fault") (fdAt K (He.ga K "heap_fault")) ["many", "thing"] sp
abbrev N_must_heap : List Str := ["net", "heap", "wrong"]
abbrev O_must_heap (P : Program) (w : World) (K : PySem.W.Frag) (mg : Str → Option Value) (base : Heap) (CX : CXT) (k : Nat) (sp : Sp) : Prop := FnOk P w K mg base CX k (He.ga K "must_heap") (fdAt K (He.ga K "must_heap")) ["net", "heap"] sp
abbrev N_is_row : List Str := ["look", "thing", "name"]
abbrev O_is_row (P : Program) (w : World) (K : PySem.W.Frag) (mg : Str → Option Value) (base : Heap) (CX : CXT) (k : Nat) (sp : Sp) : Prop := FnOk P w K mg base CX k (He.ga K "is_row") (fdAt K (He.ga K "is_row")) ["look", "thing"] sp
abbrev N_row_end : List Str := ["look", "row", "heap", "k", "name"]
abbrev O_row_end (P : Program) (w : World) (K : PySem.W.Frag) (mg : Str → Option Value) (base : Heap) (CX : CXT) (k : Nat) (sp : Sp) : Prop := FnOk P w K mg base CX k (He.ga K "row_end") (fdAt K (He.ga K "row_end")) ["look", "row"] sp
abbrev N_is_over : List Str := ["one", "other", "a", "b"]
abbrev O_is_over (P : Program) (w : World) (K : PySem.W.Frag) (mg : Str → Option Value) (base : Heap) (CX : CXT) (k : Nat) (sp : Sp) : Prop := FnOk P w K mg base CX k (He.ga K "is_over") (fdAt K (He.ga K "is_over")) ["one", "other"] sp
abbrev N_wide_can : List Str := ["look", "heap", "name", "at", "count"]
abbrev O_wide_can (P : Program) (w : World) (K : PySem.W.Frag) (mg : Str → Option Value) (base : Heap) (CX : CXT) (k : Nat) (sp : Sp) : Prop := FnOk P w K mg base CX k (He.ga K "wide_can") (fdAt K (He.ga K "wide_can")) ["look", "heap", "name"] sp
abbrev N_wide_behind : List Str := ["look", "heap", "name", "found", "at", "count"]
abbrev O_wide_behind (P : Program) (w : World) (K : PySem.W.Frag) (mg : Str → Option Value) (base : Heap) (CX : CXT) (k : Nat) (sp : Sp) : Prop := FnOk P w K mg base CX k (He.ga K "wide_behind") (fdAt K (He.ga K "wide_behind")) ["look", "heap", "name"] sp
abbrev N_widened : List Str := ["heap", "base", "a", "b"]
abbrev O_widened (P : Program) (w : World) (K : PySem.W.Frag) (mg : Str → Option Value) (base : Heap) (CX : CXT) (k : Nat) (sp : Sp) : Prop := FnOk P w K mg base CX k (He.ga K "widened") (fdAt K (He.ga K "widened")) ["heap", "base"] sp
abbrev N_greatest : List Str := ["heaps", "unlike", "heap", "some", "one", "ranks", "count", "rank"]
abbrev O_greatest (P : Program) (w : World) (K : PySem.W.Frag) (mg : Str → Option Value) (base : Heap) (CX : CXT) (k : Nat) (sp : Sp) : Prop := FnOk P w K mg base CX k (He.ga K "greatest") (fdAt K (He.ga K "greatest")) ["heaps"] sp
abbrev N_least : List Str := ["heaps", "found", "heap", "one"]
abbrev O_least (P : Program) (w : World) (K : PySem.W.Frag) (mg : Str → Option Value) (base : Heap) (CX : CXT) (k : Nat) (sp : Sp) : Prop := FnOk P w K mg base CX k (He.ga K "least") (fdAt K (He.ga K "least")) ["heaps"] sp
abbrev N_before : List Str := ["look", "heap", "name", "found", "at", "count"]
abbrev O_before (P : Program) (w : World) (K : PySem.W.Frag) (mg : Str → Option Value) (base : Heap) (CX : CXT) (k : Nat) (sp : Sp) : Prop := FnOk P w K mg base CX k (He.ga K "before") (fdAt K (He.ga K "before")) ["look", "heap", "name"] sp
abbrev N_over_some : List Str := ["heap", "some", "one"]
abbrev O_over_some (P : Program) (w : World) (K : PySem.W.Frag) (mg : Str → Option Value) (base : Heap) (CX : CXT) (k : Nat) (sp : Sp) : Prop := FnOk P w K mg base CX k (He.ga K "over_some") (fdAt K (He.ga K "over_some")) ["heap", "some"] sp
abbrev N_Levels_init : List Str := ["self", "look", "heap", "most"]
abbrev O_Levels_init (P : Program) (w : World) (K : PySem.W.Frag) (mg : Str → Option Value) (base : Heap) (CX : CXT) (k : Nat) (sp : Sp) : Prop := FnOk P w K mg base CX k (He.ma K (He.ga K "Levels") "__init__") (fdAt K (He.ma K (He.ga K "Levels") "__init__")) ["self", "look", "heap", "most"] sp
abbrev N_Levels_is_come_to : List Str := ["self"]
abbrev O_Levels_is_come_to (P : Program) (w : World) (K : PySem.W.Frag) (mg : Str → Option Value) (base : Heap) (CX : CXT) (k : Nat) (sp : Sp) : Prop := FnOk P w K mg base CX k (He.ma K (He.ga K "Levels") "is_come_to") (fdAt K (He.ma K (He.ga K "Levels") "is_come_to")) ["self"] sp
abbrev N_Levels_go_on : List Str := ["self", "more", "heap", "name", "level"]
abbrev O_Levels_go_on (P : Program) (w : World) (K : PySem.W.Frag) (mg : Str → Option Value) (base : Heap) (CX : CXT) (k : Nat) (sp : Sp) : Prop := FnOk P w K mg base CX k (He.ma K (He.ga K "Levels") "go_on") (fdAt K (He.ma K (He.ga K "Levels") "go_on")) ["self"] sp
abbrev N_Levels_first_row : List Str := ["self", "heap", "found", "level", "some", "name"]
abbrev O_Levels_first_row (P : Program) (w : World) (K : PySem.W.Frag) (mg : Str → Option Value) (base : Heap) (CX : CXT) (k : Nat) (sp : Sp) : Prop := FnOk P w K mg base CX k (He.ma K (He.ga K "Levels") "first_row") (fdAt K (He.ma K (He.ga K "Levels") "first_row")) ["self"] sp
abbrev N_covered_by : List Str := ["look", "heap", "most", "search"]
abbrev O_covered_by (P : Program) (w : World) (K : PySem.W.Frag) (mg : Str → Option Value) (base : Heap) (CX : CXT) (k : Nat) (sp : Sp) : Prop := FnOk P w K mg base CX k (He.ga K "covered_by") (fdAt K (He.ga K "covered_by")) ["look", "heap", "most"] sp
abbrev N_covered : List Str := ["net", "heap", "most", "look"]
abbrev O_covered (P : Program) (w : World) (K : PySem.W.Frag) (mg : Str → Option Value) (base : Heap) (CX : CXT) (k : Nat) (sp : Sp) : Prop := FnOk P w K mg base CX k (He.ga K "covered") (fdAt K (He.ga K "covered")) ["net", "heap", "most"] sp
abbrev N_basis_wrong : List Str := ["look", "heap", "basis", "k", "one", "j", "name"]
abbrev O_basis_wrong (P : Program) (w : World) (K : PySem.W.Frag) (mg : Str → Option Value) (base : Heap) (CX : CXT) (k : Nat) (sp : Sp) : Prop := FnOk P w K mg base CX k (He.ga K "basis_wrong") (fdAt K (He.ga K "basis_wrong")) ["look", "heap", "basis"] sp
abbrev N_covered_wrong : List Str := ["net", "heap", "thing", "look", "behind", "at", "right", "one"]
abbrev O_covered_wrong (P : Program) (w : World) (K : PySem.W.Frag) (mg : Str → Option Value) (base : Heap) (CX : CXT) (k : Nat) (sp : Sp) : Prop := FnOk P w K mg base CX k (He.ga K "covered_wrong") (fdAt K (He.ga K "covered_wrong")) ["net", "heap", "thing"] sp
abbrev N_Spot_init : List Str := ["self", "wide", "parent", "name"]
abbrev O_Spot_init (P : Program) (w : World) (K : PySem.W.Frag) (mg : Str → Option Value) (base : Heap) (CX : CXT) (k : Nat) (sp : Sp) : Prop := FnOk P w K mg base CX k (He.ma K (He.ga K "Spot") "__init__") (fdAt K (He.ma K (He.ga K "Spot") "__init__")) ["self", "wide", "parent", "name"] sp
abbrev N_Spot_way_from : List Str := ["self", "other", "found", "here"]
abbrev O_Spot_way_from (P : Program) (w : World) (K : PySem.W.Frag) (mg : Str → Option Value) (base : Heap) (CX : CXT) (k : Nat) (sp : Sp) : Prop := FnOk P w K mg base CX k (He.ma K (He.ga K "Spot") "way_from") (fdAt K (He.ma K (He.ga K "Spot") "way_from")) ["self", "other"] sp
abbrev N_Spot_pump : List Str := ["self", "here", "wider"]
abbrev O_Spot_pump (P : Program) (w : World) (K : PySem.W.Frag) (mg : Str → Option Value) (base : Heap) (CX : CXT) (k : Nat) (sp : Sp) : Prop := FnOk P w K mg base CX k (He.ma K (He.ga K "Spot") "pump") (fdAt K (He.ma K (He.ga K "Spot") "pump")) ["self"] sp
abbrev N_Growth_init : List Str := ["self", "look", "most"]
abbrev O_Growth_init (P : Program) (w : World) (K : PySem.W.Frag) (mg : Str → Option Value) (base : Heap) (CX : CXT) (k : Nat) (sp : Sp) : Prop := FnOk P w K mg base CX k (He.ma K (He.ga K "Growth") "__init__") (fdAt K (He.ma K (He.ga K "Growth") "__init__")) ["self", "look", "most"] sp
abbrev N_Growth_grow : List Str := ["self", "most", "at", "spot", "name"]
abbrev O_Growth_grow (P : Program) (w : World) (K : PySem.W.Frag) (mg : Str → Option Value) (base : Heap) (CX : CXT) (k : Nat) (sp : Sp) : Prop := FnOk P w K mg base CX k (He.ma K (He.ga K "Growth") "grow") (fdAt K (He.ma K (He.ga K "Growth") "grow")) ["self", "most"] sp
abbrev N_Growth_put : List Str := ["self", "spot", "most"]
abbrev O_Growth_put (P : Program) (w : World) (K : PySem.W.Frag) (mg : Str → Option Value) (base : Heap) (CX : CXT) (k : Nat) (sp : Sp) : Prop := FnOk P w K mg base CX k (He.ma K (He.ga K "Growth") "put") (fdAt K (He.ma K (He.ga K "Growth") "put")) ["self", "spot", "most"] sp
abbrev N_wides_of : List Str := ["spots", "spot"]
abbrev O_wides_of (P : Program) (w : World) (K : PySem.W.Frag) (mg : Str → Option Value) (base : Heap) (CX : CXT) (k : Nat) (sp : Sp) : Prop := FnOk P w K mg base CX k (He.ga K "wides_of") (fdAt K (He.ga K "wides_of")) ["spots"] sp
abbrev N_widest : List Str := ["net", "most"]
abbrev O_widest (P : Program) (w : World) (K : PySem.W.Frag) (mg : Str → Option Value) (base : Heap) (CX : CXT) (k : Nat) (sp : Sp) : Prop := FnOk P w K mg base CX k (He.ga K "widest") (fdAt K (He.ga K "widest")) ["net", "most"] sp
abbrev N_place_number : List Str := ["look", "place"]
abbrev O_place_number (P : Program) (w : World) (K : PySem.W.Frag) (mg : Str → Option Value) (base : Heap) (CX : CXT) (k : Nat) (sp : Sp) : Prop := FnOk P w K mg base CX k (He.ga K "place_number") (fdAt K (He.ga K "place_number")) ["look", "place"] sp
abbrev N_stair_of : List Str := ["spot", "found", "row", "loop"]
abbrev O_stair_of (P : Program) (w : World) (K : PySem.W.Frag) (mg : Str → Option Value) (base : Heap) (CX : CXT) (k : Nat) (sp : Sp) : Prop := FnOk P w K mg base CX k (He.ga K "stair_of") (fdAt K (He.ga K "stair_of")) ["spot"] sp
abbrev N_bound : List Str := ["net", "place", "most", "look", "at", "spots", "endless_spots", "spot", "count"]
abbrev O_bound (P : Program) (w : World) (K : PySem.W.Frag) (mg : Str → Option Value) (base : Heap) (CX : CXT) (k : Nat) (sp : Sp) : Prop := FnOk P w K mg base CX k (He.ga K "bound") (fdAt K (He.ga K "bound")) ["net", "place", "most"] sp
abbrev N_L_at : List Str := ["_law_script", "_law_k"]
abbrev O_L_at (P : Program) (w : World) (K : PySem.W.Frag) (mg : Str → Option Value) (base : Heap) (CX : CXT) (k : Nat) (sp : Sp) : Prop := FnOk P w K mg base CX k (He.ga K "_law_at") (fdAt K (He.ga K "_law_at")) ["_law_script", "_law_k"] sp
abbrev N_L_mixed : List Str := ["_law_cell", "_law_k", "_law_number"]
abbrev O_L_mixed (P : Program) (w : World) (K : PySem.W.Frag) (mg : Str → Option Value) (base : Heap) (CX : CXT) (k : Nat) (sp : Sp) : Prop := FnOk P w K mg base CX k (He.ga K "_law_mixed") (fdAt K (He.ga K "_law_mixed")) ["_law_cell", "_law_k"] sp
abbrev N_L_purse : List Str := ["_law_script", "_law_at_here", "_law_cell"]
abbrev O_L_purse (P : Program) (w : World) (K : PySem.W.Frag) (mg : Str → Option Value) (base : Heap) (CX : CXT) (k : Nat) (sp : Sp) : Prop := FnOk P w K mg base CX k (He.ga K "_law_purse") (fdAt K (He.ga K "_law_purse")) ["_law_script", "_law_at_here"] sp
abbrev N_L_draw : List Str := ["_law_purse_here", "_law_out_of", "_law_drawn", "_law_number", "_law_k"]
abbrev O_L_draw (P : Program) (w : World) (K : PySem.W.Frag) (mg : Str → Option Value) (base : Heap) (CX : CXT) (k : Nat) (sp : Sp) : Prop := FnOk P w K mg base CX k (He.ga K "_law_draw") (fdAt K (He.ga K "_law_draw")) ["_law_purse_here", "_law_out_of"] sp
abbrev N_L_parts : List Str := ["_law_purse_here", "_law_names", "_law_many", "_law_found", "_law_name"]
abbrev O_L_parts (P : Program) (w : World) (K : PySem.W.Frag) (mg : Str → Option Value) (base : Heap) (CX : CXT) (k : Nat) (sp : Sp) : Prop := FnOk P w K mg base CX k (He.ga K "_law_parts") (fdAt K (He.ga K "_law_parts")) ["_law_purse_here", "_law_names", "_law_many"] sp
abbrev N_L_even : List Str := ["_law_purse_here", "_law_names", "_law_one", "_law_other", "_law_choice", "_law_both", "_law_name", "_law_third"]
abbrev O_L_even (P : Program) (w : World) (K : PySem.W.Frag) (mg : Str → Option Value) (base : Heap) (CX : CXT) (k : Nat) (sp : Sp) : Prop := FnOk P w K mg base CX k (He.ga K "_law_even") (fdAt K (He.ga K "_law_even")) ["_law_purse_here", "_law_names"] sp
abbrev N_L_net : List Str := ["_law_purse_here", "_law_sort", "_law_names", "_law_places", "_law_name", "_law_firings", "_law_k", "_law_takes", "_law_gives", "_law_j", "_law_label"]
abbrev O_L_net (P : Program) (w : World) (K : PySem.W.Frag) (mg : Str → Option Value) (base : Heap) (CX : CXT) (k : Nat) (sp : Sp) : Prop := FnOk P w K mg base CX k (He.ga K "_law_net") (fdAt K (He.ga K "_law_net")) ["_law_purse_here", "_law_sort"] sp
abbrev N_L_over : List Str := ["_law_one", "_law_other", "_law_k"]
abbrev O_L_over (P : Program) (w : World) (K : PySem.W.Frag) (mg : Str → Option Value) (base : Heap) (CX : CXT) (k : Nat) (sp : Sp) : Prop := FnOk P w K mg base CX k (He.ga K "_law_over") (fdAt K (He.ga K "_law_over")) ["_law_one", "_law_other"] sp
abbrev N_L_goal : List Str := ["_law_purse_here", "_law_net_here", "_law_found", "_law_place", "_law_k", "_law_at_here"]
abbrev O_L_goal (P : Program) (w : World) (K : PySem.W.Frag) (mg : Str → Option Value) (base : Heap) (CX : CXT) (k : Nat) (sp : Sp) : Prop := FnOk P w K mg base CX k (He.ga K "_law_goal") (fdAt K (He.ga K "_law_goal")) ["_law_purse_here", "_law_net_here"] sp
abbrev N_L_rank : List Str := ["_law_heap", "_law_count"]
abbrev O_L_rank (P : Program) (w : World) (K : PySem.W.Frag) (mg : Str → Option Value) (base : Heap) (CX : CXT) (k : Nat) (sp : Sp) : Prop := FnOk P w K mg base CX k (He.ga K "_law_rank") (fdAt K (He.ga K "_law_rank")) ["_law_heap"] sp
abbrev N_L_told : List Str := ["_law_net_here", "_law_goal_here", "_law_caught", "_law_found", "e"]
abbrev O_L_told (P : Program) (w : World) (K : PySem.W.Frag) (mg : Str → Option Value) (base : Heap) (CX : CXT) (k : Nat) (sp : Sp) : Prop := FnOk P w K mg base CX k (He.ga K "_law_told") (fdAt K (He.ga K "_law_told")) ["_law_net_here", "_law_goal_here"] sp
abbrev N_L_wides : List Str := ["_law_net_here", "_law_caught", "_law_found", "e"]
abbrev O_L_wides (P : Program) (w : World) (K : PySem.W.Frag) (mg : Str → Option Value) (base : Heap) (CX : CXT) (k : Nat) (sp : Sp) : Prop := FnOk P w K mg base CX k (He.ga K "_law_wides") (fdAt K (He.ga K "_law_wides")) ["_law_net_here"] sp
abbrev N_L_bound : List Str := ["_law_net_here", "_law_place", "_law_caught", "_law_found", "e"]
abbrev O_L_bound (P : Program) (w : World) (K : PySem.W.Frag) (mg : Str → Option Value) (base : Heap) (CX : CXT) (k : Nat) (sp : Sp) : Prop := FnOk P w K mg base CX k (He.ga K "_law_bound") (fdAt K (He.ga K "_law_bound")) ["_law_net_here", "_law_place"] sp
abbrev N_L_more_right : List Str := ["_law_one", "_law_greater", "_law_goal_here", "_law_other"]
abbrev O_L_more_right (P : Program) (w : World) (K : PySem.W.Frag) (mg : Str → Option Value) (base : Heap) (CX : CXT) (k : Nat) (sp : Sp) : Prop := FnOk P w K mg base CX k (He.ga K "_law_more_right") (fdAt K (He.ga K "_law_more_right")) ["_law_one", "_law_greater", "_law_goal_here"] sp
abbrev N_L_turned : List Str := ["_law_net_here", "_law_firings", "_law_name", "_law_label", "_law_takes", "_law_gives"]
abbrev O_L_turned (P : Program) (w : World) (K : PySem.W.Frag) (mg : Str → Option Value) (base : Heap) (CX : CXT) (k : Nat) (sp : Sp) : Prop := FnOk P w K mg base CX k (He.ga K "_law_turned") (fdAt K (He.ga K "_law_turned")) ["_law_net_here"] sp
abbrev N_L_alike_right : List Str := ["_law_net_here", "_law_told_here", "_law_goal_here", "_law_back", "_law_about", "_law_heap"]
abbrev O_L_alike_right (P : Program) (w : World) (K : PySem.W.Frag) (mg : Str → Option Value) (base : Heap) (CX : CXT) (k : Nat) (sp : Sp) : Prop := FnOk P w K mg base CX k (He.ga K "_law_alike_right") (fdAt K (He.ga K "_law_alike_right")) ["_law_net_here", "_law_told_here", "_law_goal_here"] sp
abbrev N_L_wides_right : List Str := ["_law_net_here", "_law_greater", "_law_one", "_law_other", "_law_some", "_law_heap", "_law_wide", "_law_about", "_law_due", "_law_place", "_law_few", "_law_many"]
abbrev O_L_wides_right (P : Program) (w : World) (K : PySem.W.Frag) (mg : Str → Option Value) (base : Heap) (CX : CXT) (k : Nat) (sp : Sp) : Prop := FnOk P w K mg base CX k (He.ga K "_law_wides_right") (fdAt K (He.ga K "_law_wides_right")) ["_law_net_here", "_law_greater"] sp
abbrev N_law : List Str := ["_law_script", "_law_cell", "_law_purse_here", "_law_net_here", "_law_places", "_law_name", "_law_count", "_law_extra", "_law_names", "_law_place", "_law_parts_here", "_law_some", "_law_part", "_law_wider", "_law_greater", "_law_goal_here", "_law_told_here"]
abbrev O_law (P : Program) (w : World) (K : PySem.W.Frag) (mg : Str → Option Value) (base : Heap) (CX : CXT) (k : Nat) (sp : Sp) : Prop := FnOk P w K mg base CX k (He.ga K "law") (fdAt K (He.ga K "law")) ["_law_script"] sp
theorem rv_is_count_nets {X : Cx} {an : An} {W W' : Wd} {e : Expr} {es : List Expr} {ρ : TF.Env} {Ps : List SP} {P : SP} {pos p : Pos} {k : Nat} {sp : Sp} (T : TF.Txt X.K X.mg) (F : O_is_count_nets X.prog X.w X.K X.mg X.base CX0 k sp) (kk : SpOk sp Ps P) (hr : Room k X.A) (ha : RA X an (e :: es) ρ W W' Ps) (hg : Gl X "is_count_nets" := by rfl) (he : starEach (e :: es) X.env = (false, eval e X.env) :: starEach es X.env := by rfl) (hpl : (backTo pos (starEach es X.env)).any (·.1) = false := by rfl) : RV X an (.Call (.Name "is_count_nets" p) (e :: es) [] pos) ρ W W' P :=
  rv_call F kk hr T.g_is_count_nets T.f_is_count_nets.kp (b_is_count_nets T) pass0 ha hg (by decide) he hpl
theorem rm_is_count_nets {X : Cx} {an : An} {W Wi Wo Wr : Wd} {e : Expr} {es : List Expr} {ρ : TF.Env} {Ps : List SP} {P : SP} {pos p : Pos} {k : Nat} {sp : Sp} (T : TF.Txt X.K X.mg) (F : O_is_count_nets X.prog X.w X.K X.mg X.base CX0 k sp) (kk : SpM sp Ps P Wi Wo) (ho : Wo.map Prod.fst = Wi.map Prod.fst) (hr : Room k X.A) (ha : RA X an (e :: es) ρ W (Wi ++ Wr) Ps) (hg : Gl X "is_count_nets" := by rfl) (he : starEach (e :: es) X.env = (false, eval e X.env) :: starEach es X.env := by rfl) (hpl : (backTo pos (starEach es X.env)).any (·.1) = false := by rfl) : RV X an (.Call (.Name "is_count_nets" p) (e :: es) [] pos) ρ W (Wo ++ Wr) P :=
  rv_callM F kk ho hr T.g_is_count_nets T.f_is_count_nets.kp (b_is_count_nets T) pass0 ha hg (by decide) he hpl
theorem rv_is_name {X : Cx} {an : An} {W W' : Wd} {e : Expr} {es : List Expr} {ρ : TF.Env} {Ps : List SP} {P : SP} {pos p : Pos} {k : Nat} {sp : Sp} (T : TF.Txt X.K X.mg) (F : O_is_name X.prog X.w X.K X.mg X.base CX0 k sp) (kk : SpOk sp Ps P) (hr : Room k X.A) (ha : RA X an (e :: es) ρ W W' Ps) (hg : Gl X "is_name" := by rfl) (he : starEach (e :: es) X.env = (false, eval e X.env) :: starEach es X.env := by rfl) (hpl : (backTo pos (starEach es X.env)).any (·.1) = false := by rfl) : RV X an (.Call (.Name "is_name" p) (e :: es) [] pos) ρ W W' P :=
  rv_call F kk hr T.g_is_name T.f_is_name.kp (b_is_name T) pass0 ha hg (by decide) he hpl
theorem rm_is_name {X : Cx} {an : An} {W Wi Wo Wr : Wd} {e : Expr} {es : List Expr} {ρ : TF.Env} {Ps : List SP} {P : SP} {pos p : Pos} {k : Nat} {sp : Sp} (T : TF.Txt X.K X.mg) (F : O_is_name X.prog X.w X.K X.mg X.base CX0 k sp) (kk : SpM sp Ps P Wi Wo) (ho : Wo.map Prod.fst = Wi.map Prod.fst) (hr : Room k X.A) (ha : RA X an (e :: es) ρ W (Wi ++ Wr) Ps) (hg : Gl X "is_name" := by rfl) (he : starEach (e :: es) X.env = (false, eval e X.env) :: starEach es X.env := by rfl) (hpl : (backTo pos (starEach es X.env)).any (·.1) = false := by rfl) : RV X an (.Call (.Name "is_name" p) (e :: es) [] pos) ρ W (Wo ++ Wr) P :=
  rv_callM F kk ho hr T.g_is_name T.f_is_name.kp (b_is_name T) pass0 ha hg (by decide) he hpl
theorem rv_are_parts {X : Cx} {an : An} {W W' : Wd} {e : Expr} {es : List Expr} {ρ : TF.Env} {Ps : List SP} {P : SP} {pos p : Pos} {k : Nat} {sp : Sp} (T : TF.Txt X.K X.mg) (F : O_are_parts X.prog X.w X.K X.mg X.base CX0 k sp) (kk : SpOk sp Ps P) (hr : Room k X.A) (ha : RA X an (e :: es) ρ W W' Ps) (hg : Gl X "are_parts" := by rfl) (he : starEach (e :: es) X.env = (false, eval e X.env) :: starEach es X.env := by rfl) (hpl : (backTo pos (starEach es X.env)).any (·.1) = false := by rfl) : RV X an (.Call (.Name "are_parts" p) (e :: es) [] pos) ρ W W' P :=
  rv_call F kk hr T.g_are_parts T.f_are_parts.kp (b_are_parts T) pass0 ha hg (by decide) he hpl
theorem rm_are_parts {X : Cx} {an : An} {W Wi Wo Wr : Wd} {e : Expr} {es : List Expr} {ρ : TF.Env} {Ps : List SP} {P : SP} {pos p : Pos} {k : Nat} {sp : Sp} (T : TF.Txt X.K X.mg) (F : O_are_parts X.prog X.w X.K X.mg X.base CX0 k sp) (kk : SpM sp Ps P Wi Wo) (ho : Wo.map Prod.fst = Wi.map Prod.fst) (hr : Room k X.A) (ha : RA X an (e :: es) ρ W (Wi ++ Wr) Ps) (hg : Gl X "are_parts" := by rfl) (he : starEach (e :: es) X.env = (false, eval e X.env) :: starEach es X.env := by rfl) (hpl : (backTo pos (starEach es X.env)).any (·.1) = false := by rfl) : RV X an (.Call (.Name "are_parts" p) (e :: es) [] pos) ρ W (Wo ++ Wr) P :=
  rv_callM F kk ho hr T.g_are_parts T.f_are_parts.kp (b_are_parts T) pass0 ha hg (by decide) he hpl
theorem rv_is_place {X : Cx} {an : An} {W W' : Wd} {e : Expr} {es : List Expr} {ρ : TF.Env} {Ps : List SP} {P : SP} {pos p : Pos} {k : Nat} {sp : Sp} (T : TF.Txt X.K X.mg) (F : O_is_place X.prog X.w X.K X.mg X.base CX0 k sp) (kk : SpOk sp Ps P) (hr : Room k X.A) (ha : RA X an (e :: es) ρ W W' Ps) (hg : Gl X "is_place" := by rfl) (he : starEach (e :: es) X.env = (false, eval e X.env) :: starEach es X.env := by rfl) (hpl : (backTo pos (starEach es X.env)).any (·.1) = false := by rfl) : RV X an (.Call (.Name "is_place" p) (e :: es) [] pos) ρ W W' P :=
  rv_call F kk hr T.g_is_place T.f_is_place.kp (b_is_place T) pass0 ha hg (by decide) he hpl
theorem rm_is_place {X : Cx} {an : An} {W Wi Wo Wr : Wd} {e : Expr} {es : List Expr} {ρ : TF.Env} {Ps : List SP} {P : SP} {pos p : Pos} {k : Nat} {sp : Sp} (T : TF.Txt X.K X.mg) (F : O_is_place X.prog X.w X.K X.mg X.base CX0 k sp) (kk : SpM sp Ps P Wi Wo) (ho : Wo.map Prod.fst = Wi.map Prod.fst) (hr : Room k X.A) (ha : RA X an (e :: es) ρ W (Wi ++ Wr) Ps) (hg : Gl X "is_place" := by rfl) (he : starEach (e :: es) X.env = (false, eval e X.env) :: starEach es X.env := by rfl) (hpl : (backTo pos (starEach es X.env)).any (·.1) = false := by rfl) : RV X an (.Call (.Name "is_place" p) (e :: es) [] pos) ρ W (Wo ++ Wr) P :=
  rv_callM F kk ho hr T.g_is_place T.f_is_place.kp (b_is_place T) pass0 ha hg (by decide) he hpl
theorem rv_is_firing {X : Cx} {an : An} {W W' : Wd} {e : Expr} {es : List Expr} {ρ : TF.Env} {Ps : List SP} {P : SP} {pos p : Pos} {k : Nat} {sp : Sp} (T : TF.Txt X.K X.mg) (F : O_is_firing X.prog X.w X.K X.mg X.base CX0 k sp) (kk : SpOk sp Ps P) (hr : Room k X.A) (ha : RA X an (e :: es) ρ W W' Ps) (hg : Gl X "is_firing" := by rfl) (he : starEach (e :: es) X.env = (false, eval e X.env) :: starEach es X.env := by rfl) (hpl : (backTo pos (starEach es X.env)).any (·.1) = false := by rfl) : RV X an (.Call (.Name "is_firing" p) (e :: es) [] pos) ρ W W' P :=
  rv_call F kk hr T.g_is_firing T.f_is_firing.kp (b_is_firing T) pass0 ha hg (by decide) he hpl
theorem rm_is_firing {X : Cx} {an : An} {W Wi Wo Wr : Wd} {e : Expr} {es : List Expr} {ρ : TF.Env} {Ps : List SP} {P : SP} {pos p : Pos} {k : Nat} {sp : Sp} (T : TF.Txt X.K X.mg) (F : O_is_firing X.prog X.w X.K X.mg X.base CX0 k sp) (kk : SpM sp Ps P Wi Wo) (ho : Wo.map Prod.fst = Wi.map Prod.fst) (hr : Room k X.A) (ha : RA X an (e :: es) ρ W (Wi ++ Wr) Ps) (hg : Gl X "is_firing" := by rfl) (he : starEach (e :: es) X.env = (false, eval e X.env) :: starEach es X.env := by rfl) (hpl : (backTo pos (starEach es X.env)).any (·.1) = false := by rfl) : RV X an (.Call (.Name "is_firing" p) (e :: es) [] pos) ρ W (Wo ++ Wr) P :=
  rv_callM F kk ho hr T.g_is_firing T.f_is_firing.kp (b_is_firing T) pass0 ha hg (by decide) he hpl
theorem rv_part_wrong {X : Cx} {an : An} {W W' : Wd} {e : Expr} {es : List Expr} {ρ : TF.Env} {Ps : List SP} {P : SP} {pos p : Pos} {k : Nat} {sp : Sp} (T : TF.Txt X.K X.mg) (F : O_part_wrong X.prog X.w X.K X.mg X.base CX0 k sp) (kk : SpOk sp Ps P) (hr : Room k X.A) (ha : RA X an (e :: es) ρ W W' Ps) (hg : Gl X "part_wrong" := by rfl) (he : starEach (e :: es) X.env = (false, eval e X.env) :: starEach es X.env := by rfl) (hpl : (backTo pos (starEach es X.env)).any (·.1) = false := by rfl) : RV X an (.Call (.Name "part_wrong" p) (e :: es) [] pos) ρ W W' P :=
  rv_call F kk hr T.g_part_wrong T.f_part_wrong.kp (b_part_wrong T) pass0 ha hg (by decide) he hpl
theorem rm_part_wrong {X : Cx} {an : An} {W Wi Wo Wr : Wd} {e : Expr} {es : List Expr} {ρ : TF.Env} {Ps : List SP} {P : SP} {pos p : Pos} {k : Nat} {sp : Sp} (T : TF.Txt X.K X.mg) (F : O_part_wrong X.prog X.w X.K X.mg X.base CX0 k sp) (kk : SpM sp Ps P Wi Wo) (ho : Wo.map Prod.fst = Wi.map Prod.fst) (hr : Room k X.A) (ha : RA X an (e :: es) ρ W (Wi ++ Wr) Ps) (hg : Gl X "part_wrong" := by rfl) (he : starEach (e :: es) X.env = (false, eval e X.env) :: starEach es X.env := by rfl) (hpl : (backTo pos (starEach es X.env)).any (·.1) = false := by rfl) : RV X an (.Call (.Name "part_wrong" p) (e :: es) [] pos) ρ W (Wo ++ Wr) P :=
  rv_callM F kk ho hr T.g_part_wrong T.f_part_wrong.kp (b_part_wrong T) pass0 ha hg (by decide) he hpl
theorem rv_net_wrong {X : Cx} {an : An} {W W' : Wd} {e : Expr} {es : List Expr} {ρ : TF.Env} {Ps : List SP} {P : SP} {pos p : Pos} {k : Nat} {sp : Sp} (T : TF.Txt X.K X.mg) (F : O_net_wrong X.prog X.w X.K X.mg X.base CX0 k sp) (kk : SpOk sp Ps P) (hr : Room k X.A) (ha : RA X an (e :: es) ρ W W' Ps) (hg : Gl X "net_wrong" := by rfl) (he : starEach (e :: es) X.env = (false, eval e X.env) :: starEach es X.env := by rfl) (hpl : (backTo pos (starEach es X.env)).any (·.1) = false := by rfl) : RV X an (.Call (.Name "net_wrong" p) (e :: es) [] pos) ρ W W' P :=
  rv_call F kk hr T.g_net_wrong T.f_net_wrong.kp (b_net_wrong T) pass0 ha hg (by decide) he hpl
theorem rm_net_wrong {X : Cx} {an : An} {W Wi Wo Wr : Wd} {e : Expr} {es : List Expr} {ρ : TF.Env} {Ps : List SP} {P : SP} {pos p : Pos} {k : Nat} {sp : Sp} (T : TF.Txt X.K X.mg) (F : O_net_wrong X.prog X.w X.K X.mg X.base CX0 k sp) (kk : SpM sp Ps P Wi Wo) (ho : Wo.map Prod.fst = Wi.map Prod.fst) (hr : Room k X.A) (ha : RA X an (e :: es) ρ W (Wi ++ Wr) Ps) (hg : Gl X "net_wrong" := by rfl) (he : starEach (e :: es) X.env = (false, eval e X.env) :: starEach es X.env := by rfl) (hpl : (backTo pos (starEach es X.env)).any (·.1) = false := by rfl) : RV X an (.Call (.Name "net_wrong" p) (e :: es) [] pos) ρ W (Wo ++ Wr) P :=
  rv_callM F kk ho hr T.g_net_wrong T.f_net_wrong.kp (b_net_wrong T) pass0 ha hg (by decide) he hpl
theorem rv_must_net {X : Cx} {an : An} {W W' : Wd} {e : Expr} {es : List Expr} {ρ : TF.Env} {Ps : List SP} {P : SP} {pos p : Pos} {k : Nat} {sp : Sp} (T : TF.Txt X.K X.mg) (F : O_must_net X.prog X.w X.K X.mg X.base CX0 k sp) (kk : SpOk sp Ps P) (hr : Room k X.A) (ha : RA X an (e :: es) ρ W W' Ps) (hg : Gl X "must_net" := by rfl) (he : starEach (e :: es) X.env = (false, eval e X.env) :: starEach es X.env := by rfl) (hpl : (backTo pos (starEach es X.env)).any (·.1) = false := by rfl) : RV X an (.Call (.Name "must_net" p) (e :: es) [] pos) ρ W W' P :=
  rv_call F kk hr T.g_must_net T.f_must_net.kp (b_must_net T) pass0 ha hg (by decide) he hpl
theorem rm_must_net {X : Cx} {an : An} {W Wi Wo Wr : Wd} {e : Expr} {es : List Expr} {ρ : TF.Env} {Ps : List SP} {P : SP} {pos p : Pos} {k : Nat} {sp : Sp} (T : TF.Txt X.K X.mg) (F : O_must_net X.prog X.w X.K X.mg X.base CX0 k sp) (kk : SpM sp Ps P Wi Wo) (ho : Wo.map Prod.fst = Wi.map Prod.fst) (hr : Room k X.A) (ha : RA X an (e :: es) ρ W (Wi ++ Wr) Ps) (hg : Gl X "must_net" := by rfl) (he : starEach (e :: es) X.env = (false, eval e X.env) :: starEach es X.env := by rfl) (hpl : (backTo pos (starEach es X.env)).any (·.1) = false := by rfl) : RV X an (.Call (.Name "must_net" p) (e :: es) [] pos) ρ W (Wo ++ Wr) P :=
  rv_callM F kk ho hr T.g_must_net T.f_must_net.kp (b_must_net T) pass0 ha hg (by decide) he hpl
theorem rv_is_count_firing {X : Cx} {an : An} {W W' : Wd} {e : Expr} {es : List Expr} {ρ : TF.Env} {Ps : List SP} {P : SP} {pos p : Pos} {k : Nat} {sp : Sp} (T : TF.Txt X.K X.mg) (F : O_is_count_firing X.prog X.w X.K X.mg X.base CX0 k sp) (kk : SpOk sp Ps P) (hr : Room k X.A) (ha : RA X an (e :: es) ρ W W' Ps) (hg : Gl X "is_count_firing" := by rfl) (he : starEach (e :: es) X.env = (false, eval e X.env) :: starEach es X.env := by rfl) (hpl : (backTo pos (starEach es X.env)).any (·.1) = false := by rfl) : RV X an (.Call (.Name "is_count_firing" p) (e :: es) [] pos) ρ W W' P :=
  rv_call F kk hr T.g_is_count_firing T.f_is_count_firing.kp (b_is_count_firing T) pass0 ha hg (by decide) he hpl
theorem rm_is_count_firing {X : Cx} {an : An} {W Wi Wo Wr : Wd} {e : Expr} {es : List Expr} {ρ : TF.Env} {Ps : List SP} {P : SP} {pos p : Pos} {k : Nat} {sp : Sp} (T : TF.Txt X.K X.mg) (F : O_is_count_firing X.prog X.w X.K X.mg X.base CX0 k sp) (kk : SpM sp Ps P Wi Wo) (ho : Wo.map Prod.fst = Wi.map Prod.fst) (hr : Room k X.A) (ha : RA X an (e :: es) ρ W (Wi ++ Wr) Ps) (hg : Gl X "is_count_firing" := by rfl) (he : starEach (e :: es) X.env = (false, eval e X.env) :: starEach es X.env := by rfl) (hpl : (backTo pos (starEach es X.env)).any (·.1) = false := by rfl) : RV X an (.Call (.Name "is_count_firing" p) (e :: es) [] pos) ρ W (Wo ++ Wr) P :=
  rv_callM F kk ho hr T.g_is_count_firing T.f_is_count_firing.kp (b_is_count_firing T) pass0 ha hg (by decide) he hpl
theorem rv_look_at {X : Cx} {an : An} {W W' : Wd} {e : Expr} {es : List Expr} {ρ : TF.Env} {Ps : List SP} {P : SP} {pos p : Pos} {k : Nat} {sp : Sp} (T : TF.Txt X.K X.mg) (F : O_look_at X.prog X.w X.K X.mg X.base CX0 k sp) (kk : SpOk sp Ps P) (hr : Room k X.A) (ha : RA X an (e :: es) ρ W W' Ps) (hg : Gl X "look_at" := by rfl) (he : starEach (e :: es) X.env = (false, eval e X.env) :: starEach es X.env := by rfl) (hpl : (backTo pos (starEach es X.env)).any (·.1) = false := by rfl) : RV X an (.Call (.Name "look_at" p) (e :: es) [] pos) ρ W W' P :=
  rv_call F kk hr T.g_look_at T.f_look_at.kp (b_look_at T) pass0 ha hg (by decide) he hpl
theorem rm_look_at {X : Cx} {an : An} {W Wi Wo Wr : Wd} {e : Expr} {es : List Expr} {ρ : TF.Env} {Ps : List SP} {P : SP} {pos p : Pos} {k : Nat} {sp : Sp} (T : TF.Txt X.K X.mg) (F : O_look_at X.prog X.w X.K X.mg X.base CX0 k sp) (kk : SpM sp Ps P Wi Wo) (ho : Wo.map Prod.fst = Wi.map Prod.fst) (hr : Room k X.A) (ha : RA X an (e :: es) ρ W (Wi ++ Wr) Ps) (hg : Gl X "look_at" := by rfl) (he : starEach (e :: es) X.env = (false, eval e X.env) :: starEach es X.env := by rfl) (hpl : (backTo pos (starEach es X.env)).any (·.1) = false := by rfl) : RV X an (.Call (.Name "look_at" p) (e :: es) [] pos) ρ W (Wo ++ Wr) P :=
  rv_callM F kk ho hr T.g_look_at T.f_look_at.kp (b_look_at T) pass0 ha hg (by decide) he hpl
theorem rv_heap_fault {X : Cx} {an : An} {W W' : Wd} {e : Expr} {es : List Expr} {ρ : TF.Env} {Ps : List SP} {P : SP} {pos p : Pos} {k : Nat} {sp : Sp} (T : TF.Txt X.K X.mg) (F : O_heap_fault X.prog X.w X.K X.mg X.base CX0 k sp) (kk : SpOk sp Ps P) (hr : Room k X.A) (ha : RA X an (e :: es) ρ W W' Ps) (hg : Gl X "heap_fault" := by rfl) (he : starEach (e :: es) X.env = (false, eval e X.env) :: starEach es X.env := by rfl) (hpl : (backTo pos (starEach es X.env)).any (·.1) = false := by rfl) : RV X an (.Call (.Name "heap_fault" p) (e :: es) [] pos) ρ W W' P :=
  rv_call F kk hr T.g_heap_fault T.f_heap_fault.kp (b_heap_fault T) pass0 ha hg (by decide) he hpl
theorem rm_heap_fault {X : Cx} {an : An} {W Wi Wo Wr : Wd} {e : Expr} {es : List Expr} {ρ : TF.Env} {Ps : List SP} {P : SP} {pos p : Pos} {k : Nat} {sp : Sp} (T : TF.Txt X.K X.mg) (F : O_heap_fault X.prog X.w X.K X.mg X.base CX0 k sp) (kk : SpM sp Ps P Wi Wo) (ho : Wo.map Prod.fst = Wi.map Prod.fst) (hr : Room k X.A) (ha : RA X an (e :: es) ρ W (Wi ++ Wr) Ps) (hg : Gl X "heap_fault" := by rfl) (he : starEach (e :: es) X.env = (false, eval e X.env) :: starEach es X.env := by rfl) (hpl : (backTo pos (starEach es X.env)).any (·.1) = false := by rfl) : RV X an (.Call (.Name "heap_fault" p) (e :: es) [] pos) ρ W (Wo ++ Wr) P :=
  rv_callM F kk ho hr T.g_heap_fault T.f_heap_fault.kp (b_heap_fault T) pass0 ha hg (by decide) he hpl
theorem rv_must_heap {X : Cx} {an : An} {W W' : Wd} {e : Expr} {es : List Expr} {ρ : TF.Env} {Ps : List SP} {P : SP} {pos p : Pos} {k : Nat} {sp : Sp} (T : TF.Txt X.K X.mg) (F : O_must_heap X.prog X.w X.K X.mg X.base CX0 k sp) (kk : SpOk sp Ps P) (hr : Room k X.A) (ha : RA X an (e :: es) ρ W W' Ps) (hg : Gl X "must_heap" := by rfl) (he : starEach (e :: es) X.env = (false, eval e X.env) :: starEach es X.env := by rfl) (hpl : (backTo pos (starEach es X.env)).any (·.1) = false := by rfl) : RV X an (.Call (.Name "must_heap" p) (e :: es) [] pos) ρ W W' P :=
  rv_call F kk hr T.g_must_heap T.f_must_heap.kp (b_must_heap T) pass0 ha hg (by decide) he hpl
theorem rm_must_heap {X : Cx} {an : An} {W Wi Wo Wr : Wd} {e : Expr} {es : List Expr} {ρ : TF.Env} {Ps : List SP} {P : SP} {pos p : Pos} {k : Nat} {sp : Sp} (T : TF.Txt X.K X.mg) (F : O_must_heap X.prog X.w X.K X.mg X.base CX0 k sp) (kk : SpM sp Ps P Wi Wo) (ho : Wo.map Prod.fst = Wi.map Prod.fst) (hr : Room k X.A) (ha : RA X an (e :: es) ρ W (Wi ++ Wr) Ps) (hg : Gl X "must_heap" := by rfl) (he : starEach (e :: es) X.env = (false, eval e X.env) :: starEach es X.env := by rfl) (hpl : (backTo pos (starEach es X.env)).any (·.1) = false := by rfl) : RV X an (.Call (.Name "must_heap" p) (e :: es) [] pos) ρ W (Wo ++ Wr) P :=
  rv_callM F kk ho hr T.g_must_heap T.f_must_heap.kp (b_must_heap T) pass0 ha hg (by decide) he hpl
theorem rv_is_row {X : Cx} {an : An} {W W' : Wd} {e : Expr} {es : List Expr} {ρ : TF.Env} {Ps : List SP} {P : SP} {pos p : Pos} {k : Nat} {sp : Sp} (T : TF.Txt X.K X.mg) (F : O_is_row X.prog X.w X.K X.mg X.base CX0 k sp) (kk : SpOk sp Ps P) (hr : Room k X.A) (ha : RA X an (e :: es) ρ W W' Ps) (hg : Gl X "is_row" := by rfl) (he : starEach (e :: es) X.env = (false, eval e X.env) :: starEach es X.env := by rfl) (hpl : (backTo pos (starEach es X.env)).any (·.1) = false := by rfl) : RV X an (.Call (.Name "is_row" p) (e :: es) [] pos) ρ W W' P :=
  rv_call F kk hr T.g_is_row T.f_is_row.kp (b_is_row T) pass0 ha hg (by decide) he hpl
theorem rm_is_row {X : Cx} {an : An} {W Wi Wo Wr : Wd} {e : Expr} {es : List Expr} {ρ : TF.Env} {Ps : List SP} {P : SP} {pos p : Pos} {k : Nat} {sp : Sp} (T : TF.Txt X.K X.mg) (F : O_is_row X.prog X.w X.K X.mg X.base CX0 k sp) (kk : SpM sp Ps P Wi Wo) (ho : Wo.map Prod.fst = Wi.map Prod.fst) (hr : Room k X.A) (ha : RA X an (e :: es) ρ W (Wi ++ Wr) Ps) (hg : Gl X "is_row" := by rfl) (he : starEach (e :: es) X.env = (false, eval e X.env) :: starEach es X.env := by rfl) (hpl : (backTo pos (starEach es X.env)).any (·.1) = false := by rfl) : RV X an (.Call (.Name "is_row" p) (e :: es) [] pos) ρ W (Wo ++ Wr) P :=
  rv_callM F kk ho hr T.g_is_row T.f_is_row.kp (b_is_row T) pass0 ha hg (by decide) he hpl
theorem rv_row_end {X : Cx} {an : An} {W W' : Wd} {e : Expr} {es : List Expr} {ρ : TF.Env} {Ps : List SP} {P : SP} {pos p : Pos} {k : Nat} {sp : Sp} (T : TF.Txt X.K X.mg) (F : O_row_end X.prog X.w X.K X.mg X.base CX0 k sp) (kk : SpOk sp Ps P) (hr : Room k X.A) (ha : RA X an (e :: es) ρ W W' Ps) (hg : Gl X "row_end" := by rfl) (he : starEach (e :: es) X.env = (false, eval e X.env) :: starEach es X.env := by rfl) (hpl : (backTo pos (starEach es X.env)).any (·.1) = false := by rfl) : RV X an (.Call (.Name "row_end" p) (e :: es) [] pos) ρ W W' P :=
  rv_call F kk hr T.g_row_end T.f_row_end.kp (b_row_end T) pass0 ha hg (by decide) he hpl
theorem rm_row_end {X : Cx} {an : An} {W Wi Wo Wr : Wd} {e : Expr} {es : List Expr} {ρ : TF.Env} {Ps : List SP} {P : SP} {pos p : Pos} {k : Nat} {sp : Sp} (T : TF.Txt X.K X.mg) (F : O_row_end X.prog X.w X.K X.mg X.base CX0 k sp) (kk : SpM sp Ps P Wi Wo) (ho : Wo.map Prod.fst = Wi.map Prod.fst) (hr : Room k X.A) (ha : RA X an (e :: es) ρ W (Wi ++ Wr) Ps) (hg : Gl X "row_end" := by rfl) (he : starEach (e :: es) X.env = (false, eval e X.env) :: starEach es X.env := by rfl) (hpl : (backTo pos (starEach es X.env)).any (·.1) = false := by rfl) : RV X an (.Call (.Name "row_end" p) (e :: es) [] pos) ρ W (Wo ++ Wr) P :=
  rv_callM F kk ho hr T.g_row_end T.f_row_end.kp (b_row_end T) pass0 ha hg (by decide) he hpl
theorem rv_is_over {X : Cx} {an : An} {W W' : Wd} {e : Expr} {es : List Expr} {ρ : TF.Env} {Ps : List SP} {P : SP} {pos p : Pos} {k : Nat} {sp : Sp} (T : TF.Txt X.K X.mg) (F : O_is_over X.prog X.w X.K X.mg X.base CX0 k sp) (kk : SpOk sp Ps P) (hr : Room k X.A) (ha : RA X an (e :: es) ρ W W' Ps) (hg : Gl X "is_over" := by rfl) (he : starEach (e :: es) X.env = (false, eval e X.env) :: starEach es X.env := by rfl) (hpl : (backTo pos (starEach es X.env)).any (·.1) = false := by rfl) : RV X an (.Call (.Name "is_over" p) (e :: es) [] pos) ρ W W' P :=
  rv_call F kk hr T.g_is_over T.f_is_over.kp (b_is_over T) pass0 ha hg (by decide) he hpl
theorem rm_is_over {X : Cx} {an : An} {W Wi Wo Wr : Wd} {e : Expr} {es : List Expr} {ρ : TF.Env} {Ps : List SP} {P : SP} {pos p : Pos} {k : Nat} {sp : Sp} (T : TF.Txt X.K X.mg) (F : O_is_over X.prog X.w X.K X.mg X.base CX0 k sp) (kk : SpM sp Ps P Wi Wo) (ho : Wo.map Prod.fst = Wi.map Prod.fst) (hr : Room k X.A) (ha : RA X an (e :: es) ρ W (Wi ++ Wr) Ps) (hg : Gl X "is_over" := by rfl) (he : starEach (e :: es) X.env = (false, eval e X.env) :: starEach es X.env := by rfl) (hpl : (backTo pos (starEach es X.env)).any (·.1) = false := by rfl) : RV X an (.Call (.Name "is_over" p) (e :: es) [] pos) ρ W (Wo ++ Wr) P :=
  rv_callM F kk ho hr T.g_is_over T.f_is_over.kp (b_is_over T) pass0 ha hg (by decide) he hpl
theorem rv_wide_can {X : Cx} {an : An} {W W' : Wd} {e : Expr} {es : List Expr} {ρ : TF.Env} {Ps : List SP} {P : SP} {pos p : Pos} {k : Nat} {sp : Sp} (T : TF.Txt X.K X.mg) (F : O_wide_can X.prog X.w X.K X.mg X.base CX0 k sp) (kk : SpOk sp Ps P) (hr : Room k X.A) (ha : RA X an (e :: es) ρ W W' Ps) (hg : Gl X "wide_can" := by rfl) (he : starEach (e :: es) X.env = (false, eval e X.env) :: starEach es X.env := by rfl) (hpl : (backTo pos (starEach es X.env)).any (·.1) = false := by rfl) : RV X an (.Call (.Name "wide_can" p) (e :: es) [] pos) ρ W W' P :=
  rv_call F kk hr T.g_wide_can T.f_wide_can.kp (b_wide_can T) pass0 ha hg (by decide) he hpl
theorem rm_wide_can {X : Cx} {an : An} {W Wi Wo Wr : Wd} {e : Expr} {es : List Expr} {ρ : TF.Env} {Ps : List SP} {P : SP} {pos p : Pos} {k : Nat} {sp : Sp} (T : TF.Txt X.K X.mg) (F : O_wide_can X.prog X.w X.K X.mg X.base CX0 k sp) (kk : SpM sp Ps P Wi Wo) (ho : Wo.map Prod.fst = Wi.map Prod.fst) (hr : Room k X.A) (ha : RA X an (e :: es) ρ W (Wi ++ Wr) Ps) (hg : Gl X "wide_can" := by rfl) (he : starEach (e :: es) X.env = (false, eval e X.env) :: starEach es X.env := by rfl) (hpl : (backTo pos (starEach es X.env)).any (·.1) = false := by rfl) : RV X an (.Call (.Name "wide_can" p) (e :: es) [] pos) ρ W (Wo ++ Wr) P :=
  rv_callM F kk ho hr T.g_wide_can T.f_wide_can.kp (b_wide_can T) pass0 ha hg (by decide) he hpl
theorem rv_wide_behind {X : Cx} {an : An} {W W' : Wd} {e : Expr} {es : List Expr} {ρ : TF.Env} {Ps : List SP} {P : SP} {pos p : Pos} {k : Nat} {sp : Sp} (T : TF.Txt X.K X.mg) (F : O_wide_behind X.prog X.w X.K X.mg X.base CX0 k sp) (kk : SpOk sp Ps P) (hr : Room k X.A) (ha : RA X an (e :: es) ρ W W' Ps) (hg : Gl X "wide_behind" := by rfl) (he : starEach (e :: es) X.env = (false, eval e X.env) :: starEach es X.env := by rfl) (hpl : (backTo pos (starEach es X.env)).any (·.1) = false := by rfl) : RV X an (.Call (.Name "wide_behind" p) (e :: es) [] pos) ρ W W' P :=
  rv_call F kk hr T.g_wide_behind T.f_wide_behind.kp (b_wide_behind T) pass0 ha hg (by decide) he hpl
theorem rm_wide_behind {X : Cx} {an : An} {W Wi Wo Wr : Wd} {e : Expr} {es : List Expr} {ρ : TF.Env} {Ps : List SP} {P : SP} {pos p : Pos} {k : Nat} {sp : Sp} (T : TF.Txt X.K X.mg) (F : O_wide_behind X.prog X.w X.K X.mg X.base CX0 k sp) (kk : SpM sp Ps P Wi Wo) (ho : Wo.map Prod.fst = Wi.map Prod.fst) (hr : Room k X.A) (ha : RA X an (e :: es) ρ W (Wi ++ Wr) Ps) (hg : Gl X "wide_behind" := by rfl) (he : starEach (e :: es) X.env = (false, eval e X.env) :: starEach es X.env := by rfl) (hpl : (backTo pos (starEach es X.env)).any (·.1) = false := by rfl) : RV X an (.Call (.Name "wide_behind" p) (e :: es) [] pos) ρ W (Wo ++ Wr) P :=
  rv_callM F kk ho hr T.g_wide_behind T.f_wide_behind.kp (b_wide_behind T) pass0 ha hg (by decide) he hpl
theorem rv_widened {X : Cx} {an : An} {W W' : Wd} {e : Expr} {es : List Expr} {ρ : TF.Env} {Ps : List SP} {P : SP} {pos p : Pos} {k : Nat} {sp : Sp} (T : TF.Txt X.K X.mg) (F : O_widened X.prog X.w X.K X.mg X.base CX0 k sp) (kk : SpOk sp Ps P) (hr : Room k X.A) (ha : RA X an (e :: es) ρ W W' Ps) (hg : Gl X "widened" := by rfl) (he : starEach (e :: es) X.env = (false, eval e X.env) :: starEach es X.env := by rfl) (hpl : (backTo pos (starEach es X.env)).any (·.1) = false := by rfl) : RV X an (.Call (.Name "widened" p) (e :: es) [] pos) ρ W W' P :=
  rv_call F kk hr T.g_widened T.f_widened.kp (b_widened T) pass0 ha hg (by decide) he hpl
theorem rm_widened {X : Cx} {an : An} {W Wi Wo Wr : Wd} {e : Expr} {es : List Expr} {ρ : TF.Env} {Ps : List SP} {P : SP} {pos p : Pos} {k : Nat} {sp : Sp} (T : TF.Txt X.K X.mg) (F : O_widened X.prog X.w X.K X.mg X.base CX0 k sp) (kk : SpM sp Ps P Wi Wo) (ho : Wo.map Prod.fst = Wi.map Prod.fst) (hr : Room k X.A) (ha : RA X an (e :: es) ρ W (Wi ++ Wr) Ps) (hg : Gl X "widened" := by rfl) (he : starEach (e :: es) X.env = (false, eval e X.env) :: starEach es X.env := by rfl) (hpl : (backTo pos (starEach es X.env)).any (·.1) = false := by rfl) : RV X an (.Call (.Name "widened" p) (e :: es) [] pos) ρ W (Wo ++ Wr) P :=
  rv_callM F kk ho hr T.g_widened T.f_widened.kp (b_widened T) pass0 ha hg (by decide) he hpl
theorem rv_greatest {X : Cx} {an : An} {W W' : Wd} {e : Expr} {es : List Expr} {ρ : TF.Env} {Ps : List SP} {P : SP} {pos p : Pos} {k : Nat} {sp : Sp} (T : TF.Txt X.K X.mg) (F : O_greatest X.prog X.w X.K X.mg X.base CX0 k sp) (kk : SpOk sp Ps P) (hr : Room k X.A) (ha : RA X an (e :: es) ρ W W' Ps) (hg : Gl X "greatest" := by rfl) (he : starEach (e :: es) X.env = (false, eval e X.env) :: starEach es X.env := by rfl) (hpl : (backTo pos (starEach es X.env)).any (·.1) = false := by rfl) : RV X an (.Call (.Name "greatest" p) (e :: es) [] pos) ρ W W' P :=
  rv_call F kk hr T.g_greatest T.f_greatest.kp (b_greatest T) pass0 ha hg (by decide) he hpl
theorem rm_greatest {X : Cx} {an : An} {W Wi Wo Wr : Wd} {e : Expr} {es : List Expr} {ρ : TF.Env} {Ps : List SP} {P : SP} {pos p : Pos} {k : Nat} {sp : Sp} (T : TF.Txt X.K X.mg) (F : O_greatest X.prog X.w X.K X.mg X.base CX0 k sp) (kk : SpM sp Ps P Wi Wo) (ho : Wo.map Prod.fst = Wi.map Prod.fst) (hr : Room k X.A) (ha : RA X an (e :: es) ρ W (Wi ++ Wr) Ps) (hg : Gl X "greatest" := by rfl) (he : starEach (e :: es) X.env = (false, eval e X.env) :: starEach es X.env := by rfl) (hpl : (backTo pos (starEach es X.env)).any (·.1) = false := by rfl) : RV X an (.Call (.Name "greatest" p) (e :: es) [] pos) ρ W (Wo ++ Wr) P :=
  rv_callM F kk ho hr T.g_greatest T.f_greatest.kp (b_greatest T) pass0 ha hg (by decide) he hpl
theorem rv_least {X : Cx} {an : An} {W W' : Wd} {e : Expr} {es : List Expr} {ρ : TF.Env} {Ps : List SP} {P : SP} {pos p : Pos} {k : Nat} {sp : Sp} (T : TF.Txt X.K X.mg) (F : O_least X.prog X.w X.K X.mg X.base CX0 k sp) (kk : SpOk sp Ps P) (hr : Room k X.A) (ha : RA X an (e :: es) ρ W W' Ps) (hg : Gl X "least" := by rfl) (he : starEach (e :: es) X.env = (false, eval e X.env) :: starEach es X.env := by rfl) (hpl : (backTo pos (starEach es X.env)).any (·.1) = false := by rfl) : RV X an (.Call (.Name "least" p) (e :: es) [] pos) ρ W W' P :=
  rv_call F kk hr T.g_least T.f_least.kp (b_least T) pass0 ha hg (by decide) he hpl
theorem rm_least {X : Cx} {an : An} {W Wi Wo Wr : Wd} {e : Expr} {es : List Expr} {ρ : TF.Env} {Ps : List SP} {P : SP} {pos p : Pos} {k : Nat} {sp : Sp} (T : TF.Txt X.K X.mg) (F : O_least X.prog X.w X.K X.mg X.base CX0 k sp) (kk : SpM sp Ps P Wi Wo) (ho : Wo.map Prod.fst = Wi.map Prod.fst) (hr : Room k X.A) (ha : RA X an (e :: es) ρ W (Wi ++ Wr) Ps) (hg : Gl X "least" := by rfl) (he : starEach (e :: es) X.env = (false, eval e X.env) :: starEach es X.env := by rfl) (hpl : (backTo pos (starEach es X.env)).any (·.1) = false := by rfl) : RV X an (.Call (.Name "least" p) (e :: es) [] pos) ρ W (Wo ++ Wr) P :=
  rv_callM F kk ho hr T.g_least T.f_least.kp (b_least T) pass0 ha hg (by decide) he hpl
theorem rv_before {X : Cx} {an : An} {W W' : Wd} {e : Expr} {es : List Expr} {ρ : TF.Env} {Ps : List SP} {P : SP} {pos p : Pos} {k : Nat} {sp : Sp} (T : TF.Txt X.K X.mg) (F : O_before X.prog X.w X.K X.mg X.base CX0 k sp) (kk : SpOk sp Ps P) (hr : Room k X.A) (ha : RA X an (e :: es) ρ W W' Ps) (hg : Gl X "before" := by rfl) (he : starEach (e :: es) X.env = (false, eval e X.env) :: starEach es X.env := by rfl) (hpl : (backTo pos (starEach es X.env)).any (·.1) = false := by rfl) : RV X an (.Call (.Name "before" p) (e :: es) [] pos) ρ W W' P :=
  rv_call F kk hr T.g_before T.f_before.kp (b_before T) pass0 ha hg (by decide) he hpl
theorem rm_before {X : Cx} {an : An} {W Wi Wo Wr : Wd} {e : Expr} {es : List Expr} {ρ : TF.Env} {Ps : List SP} {P : SP} {pos p : Pos} {k : Nat} {sp : Sp} (T : TF.Txt X.K X.mg) (F : O_before X.prog X.w X.K X.mg X.base CX0 k sp) (kk : SpM sp Ps P Wi Wo) (ho : Wo.map Prod.fst = Wi.map Prod.fst) (hr : Room k X.A) (ha : RA X an (e :: es) ρ W (Wi ++ Wr) Ps) (hg : Gl X "before" := by rfl) (he : starEach (e :: es) X.env = (false, eval e X.env) :: starEach es X.env := by rfl) (hpl : (backTo pos (starEach es X.env)).any (·.1) = false := by rfl) : RV X an (.Call (.Name "before" p) (e :: es) [] pos) ρ W (Wo ++ Wr) P :=
  rv_callM F kk ho hr T.g_before T.f_before.kp (b_before T) pass0 ha hg (by decide) he hpl
theorem rv_over_some {X : Cx} {an : An} {W W' : Wd} {e : Expr} {es : List Expr} {ρ : TF.Env} {Ps : List SP} {P : SP} {pos p : Pos} {k : Nat} {sp : Sp} (T : TF.Txt X.K X.mg) (F : O_over_some X.prog X.w X.K X.mg X.base CX0 k sp) (kk : SpOk sp Ps P) (hr : Room k X.A) (ha : RA X an (e :: es) ρ W W' Ps) (hg : Gl X "over_some" := by rfl) (he : starEach (e :: es) X.env = (false, eval e X.env) :: starEach es X.env := by rfl) (hpl : (backTo pos (starEach es X.env)).any (·.1) = false := by rfl) : RV X an (.Call (.Name "over_some" p) (e :: es) [] pos) ρ W W' P :=
  rv_call F kk hr T.g_over_some T.f_over_some.kp (b_over_some T) pass0 ha hg (by decide) he hpl
theorem rm_over_some {X : Cx} {an : An} {W Wi Wo Wr : Wd} {e : Expr} {es : List Expr} {ρ : TF.Env} {Ps : List SP} {P : SP} {pos p : Pos} {k : Nat} {sp : Sp} (T : TF.Txt X.K X.mg) (F : O_over_some X.prog X.w X.K X.mg X.base CX0 k sp) (kk : SpM sp Ps P Wi Wo) (ho : Wo.map Prod.fst = Wi.map Prod.fst) (hr : Room k X.A) (ha : RA X an (e :: es) ρ W (Wi ++ Wr) Ps) (hg : Gl X "over_some" := by rfl) (he : starEach (e :: es) X.env = (false, eval e X.env) :: starEach es X.env := by rfl) (hpl : (backTo pos (starEach es X.env)).any (·.1) = false := by rfl) : RV X an (.Call (.Name "over_some" p) (e :: es) [] pos) ρ W (Wo ++ Wr) P :=
  rv_callM F kk ho hr T.g_over_some T.f_over_some.kp (b_over_some T) pass0 ha hg (by decide) he hpl
theorem rv_covered_by {X : Cx} {an : An} {W W' : Wd} {e : Expr} {es : List Expr} {ρ : TF.Env} {Ps : List SP} {P : SP} {pos p : Pos} {k : Nat} {sp : Sp} (T : TF.Txt X.K X.mg) (F : O_covered_by X.prog X.w X.K X.mg X.base CX0 k sp) (kk : SpOk sp Ps P) (hr : Room k X.A) (ha : RA X an (e :: es) ρ W W' Ps) (hg : Gl X "covered_by" := by rfl) (he : starEach (e :: es) X.env = (false, eval e X.env) :: starEach es X.env := by rfl) (hpl : (backTo pos (starEach es X.env)).any (·.1) = false := by rfl) : RV X an (.Call (.Name "covered_by" p) (e :: es) [] pos) ρ W W' P :=
  rv_call F kk hr T.g_covered_by T.f_covered_by.kp (b_covered_by T) pass0 ha hg (by decide) he hpl
theorem rm_covered_by {X : Cx} {an : An} {W Wi Wo Wr : Wd} {e : Expr} {es : List Expr} {ρ : TF.Env} {Ps : List SP} {P : SP} {pos p : Pos} {k : Nat} {sp : Sp} (T : TF.Txt X.K X.mg) (F : O_covered_by X.prog X.w X.K X.mg X.base CX0 k sp) (kk : SpM sp Ps P Wi Wo) (ho : Wo.map Prod.fst = Wi.map Prod.fst) (hr : Room k X.A) (ha : RA X an (e :: es) ρ W (Wi ++ Wr) Ps) (hg : Gl X "covered_by" := by rfl) (he : starEach (e :: es) X.env = (false, eval e X.env) :: starEach es X.env := by rfl) (hpl : (backTo pos (starEach es X.env)).any (·.1) = false := by rfl) : RV X an (.Call (.Name "covered_by" p) (e :: es) [] pos) ρ W (Wo ++ Wr) P :=
  rv_callM F kk ho hr T.g_covered_by T.f_covered_by.kp (b_covered_by T) pass0 ha hg (by decide) he hpl
theorem rv_basis_wrong {X : Cx} {an : An} {W W' : Wd} {e : Expr} {es : List Expr} {ρ : TF.Env} {Ps : List SP} {P : SP} {pos p : Pos} {k : Nat} {sp : Sp} (T : TF.Txt X.K X.mg) (F : O_basis_wrong X.prog X.w X.K X.mg X.base CX0 k sp) (kk : SpOk sp Ps P) (hr : Room k X.A) (ha : RA X an (e :: es) ρ W W' Ps) (hg : Gl X "basis_wrong" := by rfl) (he : starEach (e :: es) X.env = (false, eval e X.env) :: starEach es X.env := by rfl) (hpl : (backTo pos (starEach es X.env)).any (·.1) = false := by rfl) : RV X an (.Call (.Name "basis_wrong" p) (e :: es) [] pos) ρ W W' P :=
  rv_call F kk hr T.g_basis_wrong T.f_basis_wrong.kp (b_basis_wrong T) pass0 ha hg (by decide) he hpl
theorem rm_basis_wrong {X : Cx} {an : An} {W Wi Wo Wr : Wd} {e : Expr} {es : List Expr} {ρ : TF.Env} {Ps : List SP} {P : SP} {pos p : Pos} {k : Nat} {sp : Sp} (T : TF.Txt X.K X.mg) (F : O_basis_wrong X.prog X.w X.K X.mg X.base CX0 k sp) (kk : SpM sp Ps P Wi Wo) (ho : Wo.map Prod.fst = Wi.map Prod.fst) (hr : Room k X.A) (ha : RA X an (e :: es) ρ W (Wi ++ Wr) Ps) (hg : Gl X "basis_wrong" := by rfl) (he : starEach (e :: es) X.env = (false, eval e X.env) :: starEach es X.env := by rfl) (hpl : (backTo pos (starEach es X.env)).any (·.1) = false := by rfl) : RV X an (.Call (.Name "basis_wrong" p) (e :: es) [] pos) ρ W (Wo ++ Wr) P :=
  rv_callM F kk ho hr T.g_basis_wrong T.f_basis_wrong.kp (b_basis_wrong T) pass0 ha hg (by decide) he hpl
theorem rv_covered_wrong {X : Cx} {an : An} {W W' : Wd} {e : Expr} {es : List Expr} {ρ : TF.Env} {Ps : List SP} {P : SP} {pos p : Pos} {k : Nat} {sp : Sp} (T : TF.Txt X.K X.mg) (F : O_covered_wrong X.prog X.w X.K X.mg X.base CX0 k sp) (kk : SpOk sp Ps P) (hr : Room k X.A) (ha : RA X an (e :: es) ρ W W' Ps) (hg : Gl X "covered_wrong" := by rfl) (he : starEach (e :: es) X.env = (false, eval e X.env) :: starEach es X.env := by rfl) (hpl : (backTo pos (starEach es X.env)).any (·.1) = false := by rfl) : RV X an (.Call (.Name "covered_wrong" p) (e :: es) [] pos) ρ W W' P :=
  rv_call F kk hr T.g_covered_wrong T.f_covered_wrong.kp (b_covered_wrong T) pass0 ha hg (by decide) he hpl
theorem rm_covered_wrong {X : Cx} {an : An} {W Wi Wo Wr : Wd} {e : Expr} {es : List Expr} {ρ : TF.Env} {Ps : List SP} {P : SP} {pos p : Pos} {k : Nat} {sp : Sp} (T : TF.Txt X.K X.mg) (F : O_covered_wrong X.prog X.w X.K X.mg X.base CX0 k sp) (kk : SpM sp Ps P Wi Wo) (ho : Wo.map Prod.fst = Wi.map Prod.fst) (hr : Room k X.A) (ha : RA X an (e :: es) ρ W (Wi ++ Wr) Ps) (hg : Gl X "covered_wrong" := by rfl) (he : starEach (e :: es) X.env = (false, eval e X.env) :: starEach es X.env := by rfl) (hpl : (backTo pos (starEach es X.env)).any (·.1) = false := by rfl) : RV X an (.Call (.Name "covered_wrong" p) (e :: es) [] pos) ρ W (Wo ++ Wr) P :=
  rv_callM F kk ho hr T.g_covered_wrong T.f_covered_wrong.kp (b_covered_wrong T) pass0 ha hg (by decide) he hpl
theorem rv_wides_of {X : Cx} {an : An} {W W' : Wd} {e : Expr} {es : List Expr} {ρ : TF.Env} {Ps : List SP} {P : SP} {pos p : Pos} {k : Nat} {sp : Sp} (T : TF.Txt X.K X.mg) (F : O_wides_of X.prog X.w X.K X.mg X.base CX0 k sp) (kk : SpOk sp Ps P) (hr : Room k X.A) (ha : RA X an (e :: es) ρ W W' Ps) (hg : Gl X "wides_of" := by rfl) (he : starEach (e :: es) X.env = (false, eval e X.env) :: starEach es X.env := by rfl) (hpl : (backTo pos (starEach es X.env)).any (·.1) = false := by rfl) : RV X an (.Call (.Name "wides_of" p) (e :: es) [] pos) ρ W W' P :=
  rv_call F kk hr T.g_wides_of T.f_wides_of.kp (b_wides_of T) pass0 ha hg (by decide) he hpl
theorem rm_wides_of {X : Cx} {an : An} {W Wi Wo Wr : Wd} {e : Expr} {es : List Expr} {ρ : TF.Env} {Ps : List SP} {P : SP} {pos p : Pos} {k : Nat} {sp : Sp} (T : TF.Txt X.K X.mg) (F : O_wides_of X.prog X.w X.K X.mg X.base CX0 k sp) (kk : SpM sp Ps P Wi Wo) (ho : Wo.map Prod.fst = Wi.map Prod.fst) (hr : Room k X.A) (ha : RA X an (e :: es) ρ W (Wi ++ Wr) Ps) (hg : Gl X "wides_of" := by rfl) (he : starEach (e :: es) X.env = (false, eval e X.env) :: starEach es X.env := by rfl) (hpl : (backTo pos (starEach es X.env)).any (·.1) = false := by rfl) : RV X an (.Call (.Name "wides_of" p) (e :: es) [] pos) ρ W (Wo ++ Wr) P :=
  rv_callM F kk ho hr T.g_wides_of T.f_wides_of.kp (b_wides_of T) pass0 ha hg (by decide) he hpl
theorem rv_place_number {X : Cx} {an : An} {W W' : Wd} {e : Expr} {es : List Expr} {ρ : TF.Env} {Ps : List SP} {P : SP} {pos p : Pos} {k : Nat} {sp : Sp} (T : TF.Txt X.K X.mg) (F : O_place_number X.prog X.w X.K X.mg X.base CX0 k sp) (kk : SpOk sp Ps P) (hr : Room k X.A) (ha : RA X an (e :: es) ρ W W' Ps) (hg : Gl X "place_number" := by rfl) (he : starEach (e :: es) X.env = (false, eval e X.env) :: starEach es X.env := by rfl) (hpl : (backTo pos (starEach es X.env)).any (·.1) = false := by rfl) : RV X an (.Call (.Name "place_number" p) (e :: es) [] pos) ρ W W' P :=
  rv_call F kk hr T.g_place_number T.f_place_number.kp (b_place_number T) pass0 ha hg (by decide) he hpl
theorem rm_place_number {X : Cx} {an : An} {W Wi Wo Wr : Wd} {e : Expr} {es : List Expr} {ρ : TF.Env} {Ps : List SP} {P : SP} {pos p : Pos} {k : Nat} {sp : Sp} (T : TF.Txt X.K X.mg) (F : O_place_number X.prog X.w X.K X.mg X.base CX0 k sp) (kk : SpM sp Ps P Wi Wo) (ho : Wo.map Prod.fst = Wi.map Prod.fst) (hr : Room k X.A) (ha : RA X an (e :: es) ρ W (Wi ++ Wr) Ps) (hg : Gl X "place_number" := by rfl) (he : starEach (e :: es) X.env = (false, eval e X.env) :: starEach es X.env := by rfl) (hpl : (backTo pos (starEach es X.env)).any (·.1) = false := by rfl) : RV X an (.Call (.Name "place_number" p) (e :: es) [] pos) ρ W (Wo ++ Wr) P :=
  rv_callM F kk ho hr T.g_place_number T.f_place_number.kp (b_place_number T) pass0 ha hg (by decide) he hpl
theorem rv_stair_of {X : Cx} {an : An} {W W' : Wd} {e : Expr} {es : List Expr} {ρ : TF.Env} {Ps : List SP} {P : SP} {pos p : Pos} {k : Nat} {sp : Sp} (T : TF.Txt X.K X.mg) (F : O_stair_of X.prog X.w X.K X.mg X.base CX0 k sp) (kk : SpOk sp Ps P) (hr : Room k X.A) (ha : RA X an (e :: es) ρ W W' Ps) (hg : Gl X "stair_of" := by rfl) (he : starEach (e :: es) X.env = (false, eval e X.env) :: starEach es X.env := by rfl) (hpl : (backTo pos (starEach es X.env)).any (·.1) = false := by rfl) : RV X an (.Call (.Name "stair_of" p) (e :: es) [] pos) ρ W W' P :=
  rv_call F kk hr T.g_stair_of T.f_stair_of.kp (b_stair_of T) pass0 ha hg (by decide) he hpl
theorem rm_stair_of {X : Cx} {an : An} {W Wi Wo Wr : Wd} {e : Expr} {es : List Expr} {ρ : TF.Env} {Ps : List SP} {P : SP} {pos p : Pos} {k : Nat} {sp : Sp} (T : TF.Txt X.K X.mg) (F : O_stair_of X.prog X.w X.K X.mg X.base CX0 k sp) (kk : SpM sp Ps P Wi Wo) (ho : Wo.map Prod.fst = Wi.map Prod.fst) (hr : Room k X.A) (ha : RA X an (e :: es) ρ W (Wi ++ Wr) Ps) (hg : Gl X "stair_of" := by rfl) (he : starEach (e :: es) X.env = (false, eval e X.env) :: starEach es X.env := by rfl) (hpl : (backTo pos (starEach es X.env)).any (·.1) = false := by rfl) : RV X an (.Call (.Name "stair_of" p) (e :: es) [] pos) ρ W (Wo ++ Wr) P :=
  rv_callM F kk ho hr T.g_stair_of T.f_stair_of.kp (b_stair_of T) pass0 ha hg (by decide) he hpl
theorem rv_L_at {X : Cx} {an : An} {W W' : Wd} {e : Expr} {es : List Expr} {ρ : TF.Env} {Ps : List SP} {P : SP} {pos p : Pos} {k : Nat} {sp : Sp} (T : TF.Txt X.K X.mg) (F : O_L_at X.prog X.w X.K X.mg X.base CX0 k sp) (kk : SpOk sp Ps P) (hr : Room k X.A) (ha : RA X an (e :: es) ρ W W' Ps) (hg : Gl X "_law_at" := by rfl) (he : starEach (e :: es) X.env = (false, eval e X.env) :: starEach es X.env := by rfl) (hpl : (backTo pos (starEach es X.env)).any (·.1) = false := by rfl) : RV X an (.Call (.Name "_law_at" p) (e :: es) [] pos) ρ W W' P :=
  rv_call F kk hr T.g__law_at T.f_L_at.kp (b_L_at T) pass0 ha hg (by decide) he hpl
theorem rm_L_at {X : Cx} {an : An} {W Wi Wo Wr : Wd} {e : Expr} {es : List Expr} {ρ : TF.Env} {Ps : List SP} {P : SP} {pos p : Pos} {k : Nat} {sp : Sp} (T : TF.Txt X.K X.mg) (F : O_L_at X.prog X.w X.K X.mg X.base CX0 k sp) (kk : SpM sp Ps P Wi Wo) (ho : Wo.map Prod.fst = Wi.map Prod.fst) (hr : Room k X.A) (ha : RA X an (e :: es) ρ W (Wi ++ Wr) Ps) (hg : Gl X "_law_at" := by rfl) (he : starEach (e :: es) X.env = (false, eval e X.env) :: starEach es X.env := by rfl) (hpl : (backTo pos (starEach es X.env)).any (·.1) = false := by rfl) : RV X an (.Call (.Name "_law_at" p) (e :: es) [] pos) ρ W (Wo ++ Wr) P :=
  rv_callM F kk ho hr T.g__law_at T.f_L_at.kp (b_L_at T) pass0 ha hg (by decide) he hpl
theorem rv_L_mixed {X : Cx} {an : An} {W W' : Wd} {e : Expr} {es : List Expr} {ρ : TF.Env} {Ps : List SP} {P : SP} {pos p : Pos} {k : Nat} {sp : Sp} (T : TF.Txt X.K X.mg) (F : O_L_mixed X.prog X.w X.K X.mg X.base CX0 k sp) (kk : SpOk sp Ps P) (hr : Room k X.A) (ha : RA X an (e :: es) ρ W W' Ps) (hg : Gl X "_law_mixed" := by rfl) (he : starEach (e :: es) X.env = (false, eval e X.env) :: starEach es X.env := by rfl) (hpl : (backTo pos (starEach es X.env)).any (·.1) = false := by rfl) : RV X an (.Call (.Name "_law_mixed" p) (e :: es) [] pos) ρ W W' P :=
  rv_call F kk hr T.g__law_mixed T.f_L_mixed.kp (b_L_mixed T) pass0 ha hg (by decide) he hpl
theorem rm_L_mixed {X : Cx} {an : An} {W Wi Wo Wr : Wd} {e : Expr} {es : List Expr} {ρ : TF.Env} {Ps : List SP} {P : SP} {pos p : Pos} {k : Nat} {sp : Sp} (T : TF.Txt X.K X.mg) (F : O_L_mixed X.prog X.w X.K X.mg X.base CX0 k sp) (kk : SpM sp Ps P Wi Wo) (ho : Wo.map Prod.fst = Wi.map Prod.fst) (hr : Room k X.A) (ha : RA X an (e :: es) ρ W (Wi ++ Wr) Ps) (hg : Gl X "_law_mixed" := by rfl) (he : starEach (e :: es) X.env = (false, eval e X.env) :: starEach es X.env := by rfl) (hpl : (backTo pos (starEach es X.env)).any (·.1) = false := by rfl) : RV X an (.Call (.Name "_law_mixed" p) (e :: es) [] pos) ρ W (Wo ++ Wr) P :=
  rv_callM F kk ho hr T.g__law_mixed T.f_L_mixed.kp (b_L_mixed T) pass0 ha hg (by decide) he hpl
theorem rv_L_purse {X : Cx} {an : An} {W W' : Wd} {e : Expr} {es : List Expr} {ρ : TF.Env} {Ps : List SP} {P : SP} {pos p : Pos} {k : Nat} {sp : Sp} (T : TF.Txt X.K X.mg) (F : O_L_purse X.prog X.w X.K X.mg X.base CX0 k sp) (kk : SpOk sp Ps P) (hr : Room k X.A) (ha : RA X an (e :: es) ρ W W' Ps) (hg : Gl X "_law_purse" := by rfl) (he : starEach (e :: es) X.env = (false, eval e X.env) :: starEach es X.env := by rfl) (hpl : (backTo pos (starEach es X.env)).any (·.1) = false := by rfl) : RV X an (.Call (.Name "_law_purse" p) (e :: es) [] pos) ρ W W' P :=
  rv_call F kk hr T.g__law_purse T.f_L_purse.kp (b_L_purse T) pass0 ha hg (by decide) he hpl
theorem rm_L_purse {X : Cx} {an : An} {W Wi Wo Wr : Wd} {e : Expr} {es : List Expr} {ρ : TF.Env} {Ps : List SP} {P : SP} {pos p : Pos} {k : Nat} {sp : Sp} (T : TF.Txt X.K X.mg) (F : O_L_purse X.prog X.w X.K X.mg X.base CX0 k sp) (kk : SpM sp Ps P Wi Wo) (ho : Wo.map Prod.fst = Wi.map Prod.fst) (hr : Room k X.A) (ha : RA X an (e :: es) ρ W (Wi ++ Wr) Ps) (hg : Gl X "_law_purse" := by rfl) (he : starEach (e :: es) X.env = (false, eval e X.env) :: starEach es X.env := by rfl) (hpl : (backTo pos (starEach es X.env)).any (·.1) = false := by rfl) : RV X an (.Call (.Name "_law_purse" p) (e :: es) [] pos) ρ W (Wo ++ Wr) P :=
  rv_callM F kk ho hr T.g__law_purse T.f_L_purse.kp (b_L_purse T) pass0 ha hg (by decide) he hpl
theorem rv_L_draw {X : Cx} {an : An} {W W' : Wd} {e : Expr} {es : List Expr} {ρ : TF.Env} {Ps : List SP} {P : SP} {pos p : Pos} {k : Nat} {sp : Sp} (T : TF.Txt X.K X.mg) (F : O_L_draw X.prog X.w X.K X.mg X.base CX0 k sp) (kk : SpOk sp Ps P) (hr : Room k X.A) (ha : RA X an (e :: es) ρ W W' Ps) (hg : Gl X "_law_draw" := by rfl) (he : starEach (e :: es) X.env = (false, eval e X.env) :: starEach es X.env := by rfl) (hpl : (backTo pos (starEach es X.env)).any (·.1) = false := by rfl) : RV X an (.Call (.Name "_law_draw" p) (e :: es) [] pos) ρ W W' P :=
  rv_call F kk hr T.g__law_draw T.f_L_draw.kp (b_L_draw T) pass0 ha hg (by decide) he hpl
theorem rm_L_draw {X : Cx} {an : An} {W Wi Wo Wr : Wd} {e : Expr} {es : List Expr} {ρ : TF.Env} {Ps : List SP} {P : SP} {pos p : Pos} {k : Nat} {sp : Sp} (T : TF.Txt X.K X.mg) (F : O_L_draw X.prog X.w X.K X.mg X.base CX0 k sp) (kk : SpM sp Ps P Wi Wo) (ho : Wo.map Prod.fst = Wi.map Prod.fst) (hr : Room k X.A) (ha : RA X an (e :: es) ρ W (Wi ++ Wr) Ps) (hg : Gl X "_law_draw" := by rfl) (he : starEach (e :: es) X.env = (false, eval e X.env) :: starEach es X.env := by rfl) (hpl : (backTo pos (starEach es X.env)).any (·.1) = false := by rfl) : RV X an (.Call (.Name "_law_draw" p) (e :: es) [] pos) ρ W (Wo ++ Wr) P :=
  rv_callM F kk ho hr T.g__law_draw T.f_L_draw.kp (b_L_draw T) pass0 ha hg (by decide) he hpl
theorem rv_L_parts {X : Cx} {an : An} {W W' : Wd} {e : Expr} {es : List Expr} {ρ : TF.Env} {Ps : List SP} {P : SP} {pos p : Pos} {k : Nat} {sp : Sp} (T : TF.Txt X.K X.mg) (F : O_L_parts X.prog X.w X.K X.mg X.base CX0 k sp) (kk : SpOk sp Ps P) (hr : Room k X.A) (ha : RA X an (e :: es) ρ W W' Ps) (hg : Gl X "_law_parts" := by rfl) (he : starEach (e :: es) X.env = (false, eval e X.env) :: starEach es X.env := by rfl) (hpl : (backTo pos (starEach es X.env)).any (·.1) = false := by rfl) : RV X an (.Call (.Name "_law_parts" p) (e :: es) [] pos) ρ W W' P :=
  rv_call F kk hr T.g__law_parts T.f_L_parts.kp (b_L_parts T) pass0 ha hg (by decide) he hpl
theorem rm_L_parts {X : Cx} {an : An} {W Wi Wo Wr : Wd} {e : Expr} {es : List Expr} {ρ : TF.Env} {Ps : List SP} {P : SP} {pos p : Pos} {k : Nat} {sp : Sp} (T : TF.Txt X.K X.mg) (F : O_L_parts X.prog X.w X.K X.mg X.base CX0 k sp) (kk : SpM sp Ps P Wi Wo) (ho : Wo.map Prod.fst = Wi.map Prod.fst) (hr : Room k X.A) (ha : RA X an (e :: es) ρ W (Wi ++ Wr) Ps) (hg : Gl X "_law_parts" := by rfl) (he : starEach (e :: es) X.env = (false, eval e X.env) :: starEach es X.env := by rfl) (hpl : (backTo pos (starEach es X.env)).any (·.1) = false := by rfl) : RV X an (.Call (.Name "_law_parts" p) (e :: es) [] pos) ρ W (Wo ++ Wr) P :=
  rv_callM F kk ho hr T.g__law_parts T.f_L_parts.kp (b_L_parts T) pass0 ha hg (by decide) he hpl
theorem rv_L_even {X : Cx} {an : An} {W W' : Wd} {e : Expr} {es : List Expr} {ρ : TF.Env} {Ps : List SP} {P : SP} {pos p : Pos} {k : Nat} {sp : Sp} (T : TF.Txt X.K X.mg) (F : O_L_even X.prog X.w X.K X.mg X.base CX0 k sp) (kk : SpOk sp Ps P) (hr : Room k X.A) (ha : RA X an (e :: es) ρ W W' Ps) (hg : Gl X "_law_even" := by rfl) (he : starEach (e :: es) X.env = (false, eval e X.env) :: starEach es X.env := by rfl) (hpl : (backTo pos (starEach es X.env)).any (·.1) = false := by rfl) : RV X an (.Call (.Name "_law_even" p) (e :: es) [] pos) ρ W W' P :=
  rv_call F kk hr T.g__law_even T.f_L_even.kp (b_L_even T) pass0 ha hg (by decide) he hpl
theorem rm_L_even {X : Cx} {an : An} {W Wi Wo Wr : Wd} {e : Expr} {es : List Expr} {ρ : TF.Env} {Ps : List SP} {P : SP} {pos p : Pos} {k : Nat} {sp : Sp} (T : TF.Txt X.K X.mg) (F : O_L_even X.prog X.w X.K X.mg X.base CX0 k sp) (kk : SpM sp Ps P Wi Wo) (ho : Wo.map Prod.fst = Wi.map Prod.fst) (hr : Room k X.A) (ha : RA X an (e :: es) ρ W (Wi ++ Wr) Ps) (hg : Gl X "_law_even" := by rfl) (he : starEach (e :: es) X.env = (false, eval e X.env) :: starEach es X.env := by rfl) (hpl : (backTo pos (starEach es X.env)).any (·.1) = false := by rfl) : RV X an (.Call (.Name "_law_even" p) (e :: es) [] pos) ρ W (Wo ++ Wr) P :=
  rv_callM F kk ho hr T.g__law_even T.f_L_even.kp (b_L_even T) pass0 ha hg (by decide) he hpl
theorem rv_L_net {X : Cx} {an : An} {W W' : Wd} {e : Expr} {es : List Expr} {ρ : TF.Env} {Ps : List SP} {P : SP} {pos p : Pos} {k : Nat} {sp : Sp} (T : TF.Txt X.K X.mg) (F : O_L_net X.prog X.w X.K X.mg X.base CX0 k sp) (kk : SpOk sp Ps P) (hr : Room k X.A) (ha : RA X an (e :: es) ρ W W' Ps) (hg : Gl X "_law_net" := by rfl) (he : starEach (e :: es) X.env = (false, eval e X.env) :: starEach es X.env := by rfl) (hpl : (backTo pos (starEach es X.env)).any (·.1) = false := by rfl) : RV X an (.Call (.Name "_law_net" p) (e :: es) [] pos) ρ W W' P :=
  rv_call F kk hr T.g__law_net T.f_L_net.kp (b_L_net T) pass0 ha hg (by decide) he hpl
theorem rm_L_net {X : Cx} {an : An} {W Wi Wo Wr : Wd} {e : Expr} {es : List Expr} {ρ : TF.Env} {Ps : List SP} {P : SP} {pos p : Pos} {k : Nat} {sp : Sp} (T : TF.Txt X.K X.mg) (F : O_L_net X.prog X.w X.K X.mg X.base CX0 k sp) (kk : SpM sp Ps P Wi Wo) (ho : Wo.map Prod.fst = Wi.map Prod.fst) (hr : Room k X.A) (ha : RA X an (e :: es) ρ W (Wi ++ Wr) Ps) (hg : Gl X "_law_net" := by rfl) (he : starEach (e :: es) X.env = (false, eval e X.env) :: starEach es X.env := by rfl) (hpl : (backTo pos (starEach es X.env)).any (·.1) = false := by rfl) : RV X an (.Call (.Name "_law_net" p) (e :: es) [] pos) ρ W (Wo ++ Wr) P :=
  rv_callM F kk ho hr T.g__law_net T.f_L_net.kp (b_L_net T) pass0 ha hg (by decide) he hpl
theorem rv_L_over {X : Cx} {an : An} {W W' : Wd} {e : Expr} {es : List Expr} {ρ : TF.Env} {Ps : List SP} {P : SP} {pos p : Pos} {k : Nat} {sp : Sp} (T : TF.Txt X.K X.mg) (F : O_L_over X.prog X.w X.K X.mg X.base CX0 k sp) (kk : SpOk sp Ps P) (hr : Room k X.A) (ha : RA X an (e :: es) ρ W W' Ps) (hg : Gl X "_law_over" := by rfl) (he : starEach (e :: es) X.env = (false, eval e X.env) :: starEach es X.env := by rfl) (hpl : (backTo pos (starEach es X.env)).any (·.1) = false := by rfl) : RV X an (.Call (.Name "_law_over" p) (e :: es) [] pos) ρ W W' P :=
  rv_call F kk hr T.g__law_over T.f_L_over.kp (b_L_over T) pass0 ha hg (by decide) he hpl
theorem rm_L_over {X : Cx} {an : An} {W Wi Wo Wr : Wd} {e : Expr} {es : List Expr} {ρ : TF.Env} {Ps : List SP} {P : SP} {pos p : Pos} {k : Nat} {sp : Sp} (T : TF.Txt X.K X.mg) (F : O_L_over X.prog X.w X.K X.mg X.base CX0 k sp) (kk : SpM sp Ps P Wi Wo) (ho : Wo.map Prod.fst = Wi.map Prod.fst) (hr : Room k X.A) (ha : RA X an (e :: es) ρ W (Wi ++ Wr) Ps) (hg : Gl X "_law_over" := by rfl) (he : starEach (e :: es) X.env = (false, eval e X.env) :: starEach es X.env := by rfl) (hpl : (backTo pos (starEach es X.env)).any (·.1) = false := by rfl) : RV X an (.Call (.Name "_law_over" p) (e :: es) [] pos) ρ W (Wo ++ Wr) P :=
  rv_callM F kk ho hr T.g__law_over T.f_L_over.kp (b_L_over T) pass0 ha hg (by decide) he hpl
theorem rv_L_goal {X : Cx} {an : An} {W W' : Wd} {e : Expr} {es : List Expr} {ρ : TF.Env} {Ps : List SP} {P : SP} {pos p : Pos} {k : Nat} {sp : Sp} (T : TF.Txt X.K X.mg) (F : O_L_goal X.prog X.w X.K X.mg X.base CX0 k sp) (kk : SpOk sp Ps P) (hr : Room k X.A) (ha : RA X an (e :: es) ρ W W' Ps) (hg : Gl X "_law_goal" := by rfl) (he : starEach (e :: es) X.env = (false, eval e X.env) :: starEach es X.env := by rfl) (hpl : (backTo pos (starEach es X.env)).any (·.1) = false := by rfl) : RV X an (.Call (.Name "_law_goal" p) (e :: es) [] pos) ρ W W' P :=
  rv_call F kk hr T.g__law_goal T.f_L_goal.kp (b_L_goal T) pass0 ha hg (by decide) he hpl
theorem rm_L_goal {X : Cx} {an : An} {W Wi Wo Wr : Wd} {e : Expr} {es : List Expr} {ρ : TF.Env} {Ps : List SP} {P : SP} {pos p : Pos} {k : Nat} {sp : Sp} (T : TF.Txt X.K X.mg) (F : O_L_goal X.prog X.w X.K X.mg X.base CX0 k sp) (kk : SpM sp Ps P Wi Wo) (ho : Wo.map Prod.fst = Wi.map Prod.fst) (hr : Room k X.A) (ha : RA X an (e :: es) ρ W (Wi ++ Wr) Ps) (hg : Gl X "_law_goal" := by rfl) (he : starEach (e :: es) X.env = (false, eval e X.env) :: starEach es X.env := by rfl) (hpl : (backTo pos (starEach es X.env)).any (·.1) = false := by rfl) : RV X an (.Call (.Name "_law_goal" p) (e :: es) [] pos) ρ W (Wo ++ Wr) P :=
  rv_callM F kk ho hr T.g__law_goal T.f_L_goal.kp (b_L_goal T) pass0 ha hg (by decide) he hpl
theorem rv_L_rank {X : Cx} {an : An} {W W' : Wd} {e : Expr} {es : List Expr} {ρ : TF.Env} {Ps : List SP} {P : SP} {pos p : Pos} {k : Nat} {sp : Sp} (T : TF.Txt X.K X.mg) (F : O_L_rank X.prog X.w X.K X.mg X.base CX0 k sp) (kk : SpOk sp Ps P) (hr : Room k X.A) (ha : RA X an (e :: es) ρ W W' Ps) (hg : Gl X "_law_rank" := by rfl) (he : starEach (e :: es) X.env = (false, eval e X.env) :: starEach es X.env := by rfl) (hpl : (backTo pos (starEach es X.env)).any (·.1) = false := by rfl) : RV X an (.Call (.Name "_law_rank" p) (e :: es) [] pos) ρ W W' P :=
  rv_call F kk hr T.g__law_rank T.f_L_rank.kp (b_L_rank T) pass0 ha hg (by decide) he hpl
theorem rm_L_rank {X : Cx} {an : An} {W Wi Wo Wr : Wd} {e : Expr} {es : List Expr} {ρ : TF.Env} {Ps : List SP} {P : SP} {pos p : Pos} {k : Nat} {sp : Sp} (T : TF.Txt X.K X.mg) (F : O_L_rank X.prog X.w X.K X.mg X.base CX0 k sp) (kk : SpM sp Ps P Wi Wo) (ho : Wo.map Prod.fst = Wi.map Prod.fst) (hr : Room k X.A) (ha : RA X an (e :: es) ρ W (Wi ++ Wr) Ps) (hg : Gl X "_law_rank" := by rfl) (he : starEach (e :: es) X.env = (false, eval e X.env) :: starEach es X.env := by rfl) (hpl : (backTo pos (starEach es X.env)).any (·.1) = false := by rfl) : RV X an (.Call (.Name "_law_rank" p) (e :: es) [] pos) ρ W (Wo ++ Wr) P :=
  rv_callM F kk ho hr T.g__law_rank T.f_L_rank.kp (b_L_rank T) pass0 ha hg (by decide) he hpl
theorem rv_L_told {X : Cx} {an : An} {W W' : Wd} {e : Expr} {es : List Expr} {ρ : TF.Env} {Ps : List SP} {P : SP} {pos p : Pos} {k : Nat} {sp : Sp} (T : TF.Txt X.K X.mg) (F : O_L_told X.prog X.w X.K X.mg X.base CX0 k sp) (kk : SpOk sp Ps P) (hr : Room k X.A) (ha : RA X an (e :: es) ρ W W' Ps) (hg : Gl X "_law_told" := by rfl) (he : starEach (e :: es) X.env = (false, eval e X.env) :: starEach es X.env := by rfl) (hpl : (backTo pos (starEach es X.env)).any (·.1) = false := by rfl) : RV X an (.Call (.Name "_law_told" p) (e :: es) [] pos) ρ W W' P :=
  rv_call F kk hr T.g__law_told T.f_L_told.kp (b_L_told T) pass0 ha hg (by decide) he hpl
theorem rm_L_told {X : Cx} {an : An} {W Wi Wo Wr : Wd} {e : Expr} {es : List Expr} {ρ : TF.Env} {Ps : List SP} {P : SP} {pos p : Pos} {k : Nat} {sp : Sp} (T : TF.Txt X.K X.mg) (F : O_L_told X.prog X.w X.K X.mg X.base CX0 k sp) (kk : SpM sp Ps P Wi Wo) (ho : Wo.map Prod.fst = Wi.map Prod.fst) (hr : Room k X.A) (ha : RA X an (e :: es) ρ W (Wi ++ Wr) Ps) (hg : Gl X "_law_told" := by rfl) (he : starEach (e :: es) X.env = (false, eval e X.env) :: starEach es X.env := by rfl) (hpl : (backTo pos (starEach es X.env)).any (·.1) = false := by rfl) : RV X an (.Call (.Name "_law_told" p) (e :: es) [] pos) ρ W (Wo ++ Wr) P :=
  rv_callM F kk ho hr T.g__law_told T.f_L_told.kp (b_L_told T) pass0 ha hg (by decide) he hpl
theorem rv_L_wides {X : Cx} {an : An} {W W' : Wd} {e : Expr} {es : List Expr} {ρ : TF.Env} {Ps : List SP} {P : SP} {pos p : Pos} {k : Nat} {sp : Sp} (T : TF.Txt X.K X.mg) (F : O_L_wides X.prog X.w X.K X.mg X.base CX0 k sp) (kk : SpOk sp Ps P) (hr : Room k X.A) (ha : RA X an (e :: es) ρ W W' Ps) (hg : Gl X "_law_wides" := by rfl) (he : starEach (e :: es) X.env = (false, eval e X.env) :: starEach es X.env := by rfl) (hpl : (backTo pos (starEach es X.env)).any (·.1) = false := by rfl) : RV X an (.Call (.Name "_law_wides" p) (e :: es) [] pos) ρ W W' P :=
  rv_call F kk hr T.g__law_wides T.f_L_wides.kp (b_L_wides T) pass0 ha hg (by decide) he hpl
theorem rm_L_wides {X : Cx} {an : An} {W Wi Wo Wr : Wd} {e : Expr} {es : List Expr} {ρ : TF.Env} {Ps : List SP} {P : SP} {pos p : Pos} {k : Nat} {sp : Sp} (T : TF.Txt X.K X.mg) (F : O_L_wides X.prog X.w X.K X.mg X.base CX0 k sp) (kk : SpM sp Ps P Wi Wo) (ho : Wo.map Prod.fst = Wi.map Prod.fst) (hr : Room k X.A) (ha : RA X an (e :: es) ρ W (Wi ++ Wr) Ps) (hg : Gl X "_law_wides" := by rfl) (he : starEach (e :: es) X.env = (false, eval e X.env) :: starEach es X.env := by rfl) (hpl : (backTo pos (starEach es X.env)).any (·.1) = false := by rfl) : RV X an (.Call (.Name "_law_wides" p) (e :: es) [] pos) ρ W (Wo ++ Wr) P :=
  rv_callM F kk ho hr T.g__law_wides T.f_L_wides.kp (b_L_wides T) pass0 ha hg (by decide) he hpl
theorem rv_L_bound {X : Cx} {an : An} {W W' : Wd} {e : Expr} {es : List Expr} {ρ : TF.Env} {Ps : List SP} {P : SP} {pos p : Pos} {k : Nat} {sp : Sp} (T : TF.Txt X.K X.mg) (F : O_L_bound X.prog X.w X.K X.mg X.base CX0 k sp) (kk : SpOk sp Ps P) (hr : Room k X.A) (ha : RA X an (e :: es) ρ W W' Ps) (hg : Gl X "_law_bound" := by rfl) (he : starEach (e :: es) X.env = (false, eval e X.env) :: starEach es X.env := by rfl) (hpl : (backTo pos (starEach es X.env)).any (·.1) = false := by rfl) : RV X an (.Call (.Name "_law_bound" p) (e :: es) [] pos) ρ W W' P :=
  rv_call F kk hr T.g__law_bound T.f_L_bound.kp (b_L_bound T) pass0 ha hg (by decide) he hpl
theorem rm_L_bound {X : Cx} {an : An} {W Wi Wo Wr : Wd} {e : Expr} {es : List Expr} {ρ : TF.Env} {Ps : List SP} {P : SP} {pos p : Pos} {k : Nat} {sp : Sp} (T : TF.Txt X.K X.mg) (F : O_L_bound X.prog X.w X.K X.mg X.base CX0 k sp) (kk : SpM sp Ps P Wi Wo) (ho : Wo.map Prod.fst = Wi.map Prod.fst) (hr : Room k X.A) (ha : RA X an (e :: es) ρ W (Wi ++ Wr) Ps) (hg : Gl X "_law_bound" := by rfl) (he : starEach (e :: es) X.env = (false, eval e X.env) :: starEach es X.env := by rfl) (hpl : (backTo pos (starEach es X.env)).any (·.1) = false := by rfl) : RV X an (.Call (.Name "_law_bound" p) (e :: es) [] pos) ρ W (Wo ++ Wr) P :=
  rv_callM F kk ho hr T.g__law_bound T.f_L_bound.kp (b_L_bound T) pass0 ha hg (by decide) he hpl
theorem rv_L_more_right {X : Cx} {an : An} {W W' : Wd} {e : Expr} {es : List Expr} {ρ : TF.Env} {Ps : List SP} {P : SP} {pos p : Pos} {k : Nat} {sp : Sp} (T : TF.Txt X.K X.mg) (F : O_L_more_right X.prog X.w X.K X.mg X.base CX0 k sp) (kk : SpOk sp Ps P) (hr : Room k X.A) (ha : RA X an (e :: es) ρ W W' Ps) (hg : Gl X "_law_more_right" := by rfl) (he : starEach (e :: es) X.env = (false, eval e X.env) :: starEach es X.env := by rfl) (hpl : (backTo pos (starEach es X.env)).any (·.1) = false := by rfl) : RV X an (.Call (.Name "_law_more_right" p) (e :: es) [] pos) ρ W W' P :=
  rv_call F kk hr T.g__law_more_right T.f_L_more_right.kp (b_L_more_right T) pass0 ha hg (by decide) he hpl
theorem rm_L_more_right {X : Cx} {an : An} {W Wi Wo Wr : Wd} {e : Expr} {es : List Expr} {ρ : TF.Env} {Ps : List SP} {P : SP} {pos p : Pos} {k : Nat} {sp : Sp} (T : TF.Txt X.K X.mg) (F : O_L_more_right X.prog X.w X.K X.mg X.base CX0 k sp) (kk : SpM sp Ps P Wi Wo) (ho : Wo.map Prod.fst = Wi.map Prod.fst) (hr : Room k X.A) (ha : RA X an (e :: es) ρ W (Wi ++ Wr) Ps) (hg : Gl X "_law_more_right" := by rfl) (he : starEach (e :: es) X.env = (false, eval e X.env) :: starEach es X.env := by rfl) (hpl : (backTo pos (starEach es X.env)).any (·.1) = false := by rfl) : RV X an (.Call (.Name "_law_more_right" p) (e :: es) [] pos) ρ W (Wo ++ Wr) P :=
  rv_callM F kk ho hr T.g__law_more_right T.f_L_more_right.kp (b_L_more_right T) pass0 ha hg (by decide) he hpl
theorem rv_L_turned {X : Cx} {an : An} {W W' : Wd} {e : Expr} {es : List Expr} {ρ : TF.Env} {Ps : List SP} {P : SP} {pos p : Pos} {k : Nat} {sp : Sp} (T : TF.Txt X.K X.mg) (F : O_L_turned X.prog X.w X.K X.mg X.base CX0 k sp) (kk : SpOk sp Ps P) (hr : Room k X.A) (ha : RA X an (e :: es) ρ W W' Ps) (hg : Gl X "_law_turned" := by rfl) (he : starEach (e :: es) X.env = (false, eval e X.env) :: starEach es X.env := by rfl) (hpl : (backTo pos (starEach es X.env)).any (·.1) = false := by rfl) : RV X an (.Call (.Name "_law_turned" p) (e :: es) [] pos) ρ W W' P :=
  rv_call F kk hr T.g__law_turned T.f_L_turned.kp (b_L_turned T) pass0 ha hg (by decide) he hpl
theorem rm_L_turned {X : Cx} {an : An} {W Wi Wo Wr : Wd} {e : Expr} {es : List Expr} {ρ : TF.Env} {Ps : List SP} {P : SP} {pos p : Pos} {k : Nat} {sp : Sp} (T : TF.Txt X.K X.mg) (F : O_L_turned X.prog X.w X.K X.mg X.base CX0 k sp) (kk : SpM sp Ps P Wi Wo) (ho : Wo.map Prod.fst = Wi.map Prod.fst) (hr : Room k X.A) (ha : RA X an (e :: es) ρ W (Wi ++ Wr) Ps) (hg : Gl X "_law_turned" := by rfl) (he : starEach (e :: es) X.env = (false, eval e X.env) :: starEach es X.env := by rfl) (hpl : (backTo pos (starEach es X.env)).any (·.1) = false := by rfl) : RV X an (.Call (.Name "_law_turned" p) (e :: es) [] pos) ρ W (Wo ++ Wr) P :=
  rv_callM F kk ho hr T.g__law_turned T.f_L_turned.kp (b_L_turned T) pass0 ha hg (by decide) he hpl
theorem rv_L_alike_right {X : Cx} {an : An} {W W' : Wd} {e : Expr} {es : List Expr} {ρ : TF.Env} {Ps : List SP} {P : SP} {pos p : Pos} {k : Nat} {sp : Sp} (T : TF.Txt X.K X.mg) (F : O_L_alike_right X.prog X.w X.K X.mg X.base CX0 k sp) (kk : SpOk sp Ps P) (hr : Room k X.A) (ha : RA X an (e :: es) ρ W W' Ps) (hg : Gl X "_law_alike_right" := by rfl) (he : starEach (e :: es) X.env = (false, eval e X.env) :: starEach es X.env := by rfl) (hpl : (backTo pos (starEach es X.env)).any (·.1) = false := by rfl) : RV X an (.Call (.Name "_law_alike_right" p) (e :: es) [] pos) ρ W W' P :=
  rv_call F kk hr T.g__law_alike_right T.f_L_alike_right.kp (b_L_alike_right T) pass0 ha hg (by decide) he hpl
theorem rm_L_alike_right {X : Cx} {an : An} {W Wi Wo Wr : Wd} {e : Expr} {es : List Expr} {ρ : TF.Env} {Ps : List SP} {P : SP} {pos p : Pos} {k : Nat} {sp : Sp} (T : TF.Txt X.K X.mg) (F : O_L_alike_right X.prog X.w X.K X.mg X.base CX0 k sp) (kk : SpM sp Ps P Wi Wo) (ho : Wo.map Prod.fst = Wi.map Prod.fst) (hr : Room k X.A) (ha : RA X an (e :: es) ρ W (Wi ++ Wr) Ps) (hg : Gl X "_law_alike_right" := by rfl) (he : starEach (e :: es) X.env = (false, eval e X.env) :: starEach es X.env := by rfl) (hpl : (backTo pos (starEach es X.env)).any (·.1) = false := by rfl) : RV X an (.Call (.Name "_law_alike_right" p) (e :: es) [] pos) ρ W (Wo ++ Wr) P :=
  rv_callM F kk ho hr T.g__law_alike_right T.f_L_alike_right.kp (b_L_alike_right T) pass0 ha hg (by decide) he hpl
theorem rv_L_wides_right {X : Cx} {an : An} {W W' : Wd} {e : Expr} {es : List Expr} {ρ : TF.Env} {Ps : List SP} {P : SP} {pos p : Pos} {k : Nat} {sp : Sp} (T : TF.Txt X.K X.mg) (F : O_L_wides_right X.prog X.w X.K X.mg X.base CX0 k sp) (kk : SpOk sp Ps P) (hr : Room k X.A) (ha : RA X an (e :: es) ρ W W' Ps) (hg : Gl X "_law_wides_right" := by rfl) (he : starEach (e :: es) X.env = (false, eval e X.env) :: starEach es X.env := by rfl) (hpl : (backTo pos (starEach es X.env)).any (·.1) = false := by rfl) : RV X an (.Call (.Name "_law_wides_right" p) (e :: es) [] pos) ρ W W' P :=
  rv_call F kk hr T.g__law_wides_right T.f_L_wides_right.kp (b_L_wides_right T) pass0 ha hg (by decide) he hpl
theorem rm_L_wides_right {X : Cx} {an : An} {W Wi Wo Wr : Wd} {e : Expr} {es : List Expr} {ρ : TF.Env} {Ps : List SP} {P : SP} {pos p : Pos} {k : Nat} {sp : Sp} (T : TF.Txt X.K X.mg) (F : O_L_wides_right X.prog X.w X.K X.mg X.base CX0 k sp) (kk : SpM sp Ps P Wi Wo) (ho : Wo.map Prod.fst = Wi.map Prod.fst) (hr : Room k X.A) (ha : RA X an (e :: es) ρ W (Wi ++ Wr) Ps) (hg : Gl X "_law_wides_right" := by rfl) (he : starEach (e :: es) X.env = (false, eval e X.env) :: starEach es X.env := by rfl) (hpl : (backTo pos (starEach es X.env)).any (·.1) = false := by rfl) : RV X an (.Call (.Name "_law_wides_right" p) (e :: es) [] pos) ρ W (Wo ++ Wr) P :=
  rv_callM F kk ho hr T.g__law_wides_right T.f_L_wides_right.kp (b_L_wides_right T) pass0 ha hg (by decide) he hpl
theorem rv_law {X : Cx} {an : An} {W W' : Wd} {e : Expr} {es : List Expr} {ρ : TF.Env} {Ps : List SP} {P : SP} {pos p : Pos} {k : Nat} {sp : Sp} (T : TF.Txt X.K X.mg) (F : O_law X.prog X.w X.K X.mg X.base CX0 k sp) (kk : SpOk sp Ps P) (hr : Room k X.A) (ha : RA X an (e :: es) ρ W W' Ps) (hg : Gl X "law" := by rfl) (he : starEach (e :: es) X.env = (false, eval e X.env) :: starEach es X.env := by rfl) (hpl : (backTo pos (starEach es X.env)).any (·.1) = false := by rfl) : RV X an (.Call (.Name "law" p) (e :: es) [] pos) ρ W W' P :=
  rv_call F kk hr T.g_law T.f_law.kp (b_law T) pass0 ha hg (by decide) he hpl
theorem rm_law {X : Cx} {an : An} {W Wi Wo Wr : Wd} {e : Expr} {es : List Expr} {ρ : TF.Env} {Ps : List SP} {P : SP} {pos p : Pos} {k : Nat} {sp : Sp} (T : TF.Txt X.K X.mg) (F : O_law X.prog X.w X.K X.mg X.base CX0 k sp) (kk : SpM sp Ps P Wi Wo) (ho : Wo.map Prod.fst = Wi.map Prod.fst) (hr : Room k X.A) (ha : RA X an (e :: es) ρ W (Wi ++ Wr) Ps) (hg : Gl X "law" := by rfl) (he : starEach (e :: es) X.env = (false, eval e X.env) :: starEach es X.env := by rfl) (hpl : (backTo pos (starEach es X.env)).any (·.1) = false := by rfl) : RV X an (.Call (.Name "law" p) (e :: es) [] pos) ρ W (Wo ++ Wr) P :=
  rv_callM F kk ho hr T.g_law T.f_law.kp (b_law T) pass0 ha hg (by decide) he hpl
end TF
set_option Elab.async false
set_option linter.all false
set_option maxRecDepth 100000
set_option maxHeartbeats 4000000
/-! D2: plain laws of data, of numbered names. -/
namespace TF
open PySem PySem.Spec L2
section
variable {X : Cx} {an : An} {W W' : Wd} {e : Expr} {ρ : TF.Env}
theorem ri_enumTM {α : Type} (f : α → PyData) (l : List α) (d : α) {p pos tpos : Pos} {elts : List Expr} {kk : Nat} (hm : X.mg "enumerate" = none) (ha : RV X an e ρ W W' (dat X.K (.tuple (l.map f)))) (hz : l.length ≤ 1000) (hg : Gl X "enumerate" := by rfl)
    (hs : starEach [e] X.env = (false, eval e X.env) :: starEach [] X.env := by rfl) (hs1 : starEach [e] X.env = [(false, eval e X.env)] := by rfl) :
    RI X an (.Tuple elts kk tpos) (.Call (.Name "enumerate" p) [e] [] pos) ρ W W' (fun i => tupP X.K [dat X.K (.int (i : Int)), dat X.K (f (l.getD i d))]) l.length := by
  have h := ri_enumT (tpos := tpos) (p := p) (pos := pos) (elts := elts) (kk := kk) hm (rv_asT ha) (by rw [List.length_map, List.length_map]; exact hz) hg hs hs1
  rw [List.length_map, List.length_map] at h
  refine ri_sub h fun i hi => ?_
  have e : ((l.map f).map (dat X.K)).getD i default = dat X.K (f (l.getD i d)) := by
    rw [List.map_map]
    exact getD_map (f := dat X.K ∘ f) hi
  show Imp (tupP X.K [dat X.K (.int (i : Int)), ((l.map f).map (dat X.K)).getD i default]) _
  rw [e]
  exact Imp.refl
theorem ri_enumLM {α : Type} (f : α → PyData) (l : List α) (d : α) {p pos tpos : Pos} {elts : List Expr} {kk : Nat} (hm : X.mg "enumerate" = none) (ha : RV X an e ρ W W' (dat X.K (.list (l.map f)))) (hz : l.length ≤ 1000000) (hg : Gl X "enumerate" := by rfl)
    (hs : starEach [e] X.env = (false, eval e X.env) :: starEach [] X.env := by rfl) (hs1 : starEach [e] X.env = [(false, eval e X.env)] := by rfl) :
    RI X an (.Tuple elts kk tpos) (.Call (.Name "enumerate" p) [e] [] pos) ρ W W' (fun i => tupP X.K [dat X.K (.int (i : Int)), dat X.K (f (l.getD i d))]) l.length := by
  have h := ri_enumL (tpos := tpos) (p := p) (pos := pos) (elts := elts) (kk := kk) hm (rv_asL ha) (by rw [List.length_map, List.length_map]; exact hz) hg hs hs1
  rw [List.length_map, List.length_map] at h
  refine ri_sub h fun i hi => ?_
  have e : ((l.map f).map (dat X.K)).getD i default = dat X.K (f (l.getD i d)) := by
    rw [List.map_map]
    exact getD_map (f := dat X.K ∘ f) hi
  show Imp (tupP X.K [dat X.K (.int (i : Int)), ((l.map f).map (dat X.K)).getD i default]) _
  rw [e]
  exact Imp.refl
end
/-- of depth n at most, no dicts -/
def Flt (n : Nat) (d : PyData) : Prop := d.canLay0 = true ∧ d.depth ≤ n
theorem flt_int (i : Int) : Flt 0 (.int i) := ⟨by simp [PyData.canLay0], by simp [PyData.depth]⟩
theorem flt_str {i : Str} (h : PyData.strOk i = true) : Flt 0 (.str i) := ⟨by simp [PyData.canLay0, h], by simp [PyData.depth]⟩
theorem flt_bool (i : Bool) : Flt 0 (.bool i) := ⟨by simp [PyData.canLay0], by simp [PyData.depth]⟩
theorem flt_none : Flt 0 .none := ⟨by simp [PyData.canLay0], by simp [PyData.depth]⟩
theorem Flt.up {n m : Nat} {d : PyData} (h : Flt n d) (k : n ≤ m) : Flt m d := ⟨h.1, Nat.le_trans h.2 k⟩
theorem flt_all {n : Nat} : ∀ {ds : List PyData}, (∀ d, d ∈ ds → Flt n d) → PyData.canLayAll0 ds = true ∧ PyData.depthAll ds ≤ n
  | [], _ => ⟨by simp [PyData.canLayAll0], by simp [PyData.depthAll]⟩
  | d :: ds, h => by
    have h1 := h d List.mem_cons_self
    have h2 := flt_all fun x hx => h x (List.mem_cons_of_mem _ hx)
    refine ⟨by simp [PyData.canLayAll0, h1.1, h2.1], ?_⟩
    rw [PyData.depthAll]
    have := h1.2
    have := h2.2
    omega
theorem flt_tup {n : Nat} {ds : List PyData} (h : ∀ d, d ∈ ds → Flt n d) : Flt (n + 1) (.tuple ds) := by
  have z := flt_all h
  refine ⟨by rw [PyData.canLay0]; exact z.1, ?_⟩
  rw [PyData.depth]
  have := z.2
  omega
theorem flt_lst {n : Nat} {ds : List PyData} (h : ∀ d, d ∈ ds → Flt n d) : Flt (n + 1) (.list ds) := by
  have z := flt_all h
  refine ⟨by rw [PyData.canLay0]; exact z.1, ?_⟩
  rw [PyData.depth]
  have := z.2
  omega
theorem Flt.shaped {n : Nat} {d : PyData} (h : Flt n d) (k : n ≤ 64 := by decide) : SeqAt.shaped d = true := by
  unfold SeqAt.shaped
  rw [h.1, decide_eq_true (Nat.le_trans h.2 k)]
  rfl
mutual
/-- no bools, no dicts within -/
def nb : PyData → Bool
  | .none => true
  | .bool _ => false
  | .int _ => true
  | .str _ => true
  | .list xs => nbs xs
  | .tuple xs => nbs xs
  | .dict _ => false
def nbs : List PyData → Bool
  | [] => true
  | x :: xs => nb x && nbs xs
end
mutual
theorem eqv_iff : ∀ (d e : PyData), nb d = true → nb e = true → (PyData.eqv d e = true ↔ d = e)
  | .none, e, _, he => by cases e <;> simp [PyData.eqv]
  | .int i, e, _, he => by
    cases e with
    | bool b => cases he
    | _ => simp [PyData.eqv]
  | .str x, e, _, he => by cases e <;> simp [PyData.eqv]
  | .list xs, e, hd, he => by
    cases e with
    | list ys =>
      have h := eqvAll_iff xs ys (by simpa [nb] using hd) (by simpa [nb] using he)
      simp [PyData.eqv, h]
    | _ => simp [PyData.eqv]
  | .tuple xs, e, hd, he => by
    cases e with
    | tuple ys =>
      have h := eqvAll_iff xs ys (by simpa [nb] using hd) (by simpa [nb] using he)
      simp [PyData.eqv, h]
    | _ => simp [PyData.eqv]
  | .bool b, _, hd, _ => by cases hd
  | .dict _, _, hd, _ => by cases hd
theorem eqvAll_iff : ∀ (ds es : List PyData), nbs ds = true → nbs es = true → (PyData.eqvAll ds es = true ↔ ds = es)
  | [], [], _, _ => by simp [PyData.eqvAll]
  | [], _ :: _, _, _ => by simp [PyData.eqvAll]
  | _ :: _, [], _, _ => by simp [PyData.eqvAll]
  | d :: ds, e :: es, h1, h2 => by
    rw [nbs, Bool.and_eq_true] at h1 h2
    have a := eqv_iff d e h1.1 h2.1
    have b := eqvAll_iff ds es h1.2 h2.2
    simp [PyData.eqvAll, a, b]
end
theorem nbs_map {α : Type} {f : α → PyData} : ∀ {l : List α}, (∀ x, x ∈ l → nb (f x) = true) → nbs (l.map f) = true
  | [], _ => by simp [nbs]
  | x :: l, h => by
    rw [List.map_cons, nbs, h x List.mem_cons_self, nbs_map fun y hy => h y (List.mem_cons_of_mem _ hy)]
    rfl
theorem eqv_dec {d e : PyData} (h1 : nb d = true) (h2 : nb e = true) [Decidable (d = e)] : PyData.eqv d e = decide (d = e) := by
  have h := eqv_iff d e h1 h2
  by_cases q : d = e
  · rw [decide_eq_true q, h.mpr q]
  · rw [decide_eq_false q]
    cases z : PyData.eqv d e with
    | false => rfl
    | true => exact absurd (h.mp z) q
/-! ### names by their number -/
def numK (K : PySem.W.Frag) (names : List Str) : List (Key × SP) := names.zipIdx.map fun p => (.inr p.1, dat K (.int (p.2 : Int)))
theorem numK_snoc (K : PySem.W.Frag) (names : List Str) (x : Str) : numK K (names ++ [x]) = numK K names ++ [(.inr x, dat K (.int (names.length : Int)))] := by
  unfold numK
  rw [List.zipIdx_append, List.map_append]
  simp
theorem findK_none {ks : List (Key × SP)} {k : Key} (h : ∀ p, p ∈ ks → p.1 ≠ k) : findK ks k = none := by
  induction ks with
  | nil => rfl
  | cons p r ih =>
    unfold findK
    rw [if_neg (h p List.mem_cons_self)]
    exact ih fun q hq => h q (List.mem_cons_of_mem _ hq)
theorem findK_at {ks : List (Key × SP)} {k : Key} {P : SP} {i : Nat} (h : ks[i]? = some (k, P)) (hn : ∀ j p, j < i → ks[j]? = some p → p.1 ≠ k) : findK ks k = some P := by
  induction ks generalizing i with
  | nil => simp at h
  | cons p r ih =>
    unfold findK
    cases i with
    | zero =>
      simp at h
      subst h
      rw [if_pos rfl]
    | succ i =>
      rw [if_neg (hn 0 p (Nat.succ_pos i) rfl)]
      exact ih (by simpa using h) fun j q hj hq => hn (j + 1) q (Nat.succ_lt_succ hj) (by simpa using hq)
theorem numK_none {K : PySem.W.Frag} {names : List Str} {x : Str} (h : ¬ x ∈ names) : findK (numK K names) (.inr x) = none := by
  refine findK_none fun p hp => ?_
  obtain ⟨q, hq, e⟩ := List.mem_map.mp hp
  subst e
  intro e
  have e : q.1 = x := Sum.inr.inj e
  exact h (e ▸ (List.mem_zipIdx' hq).2 ▸ List.getElem_mem _)
theorem idx_lt {names : List Str} {x : Str} (h : x ∈ names) : names.idxOf x < names.length := List.idxOf_lt_length_of_mem h
theorem idx_get {names : List Str} {x : Str} (h : x ∈ names) : names[names.idxOf x]? = some x := by
  rw [List.getElem?_eq_getElem (idx_lt h), List.getElem_idxOf]
theorem numK_some {K : PySem.W.Frag} {names : List Str} {x : Str} (h : x ∈ names) (nd : names.Nodup) : findK (numK K names) (.inr x) = some (dat K (.int (names.idxOf x : Int))) := by
  refine findK_at (i := names.idxOf x) ?_ fun j p hj hp => ?_
  · unfold numK
    rw [List.getElem?_map, List.getElem?_zipIdx, idx_get h]
    simp
  · unfold numK at hp
    rw [List.getElem?_map, List.getElem?_zipIdx] at hp
    have hl : j < names.length := Nat.lt_trans hj (idx_lt h)
    rw [List.getElem?_eq_getElem hl] at hp
    simp at hp
    subst hp
    intro e
    have e : names[j] = x := Sum.inr.inj e
    have z := (List.getElem_inj (h₀ := hl) (h₁ := idx_lt h) nd).mp (e.trans (List.getElem_idxOf (idx_lt h)).symm)
    omega
/-- in a list without doubles what comes later has the greater number -/
theorem idx_pairwise {names : List Str} (nd : names.Nodup) : names.Pairwise fun a b => names.idxOf a < names.idxOf b := by
  rw [List.pairwise_iff_getElem]
  intro i j hi hj hij
  rw [List.Nodup.idxOf_getElem nd i hi, List.Nodup.idxOf_getElem nd j hj]
  exact hij
theorem idx_sub {names xs : List Str} (nd : names.Nodup) (h : xs.Sublist names) {i j : Nat} {x y : Str} (hi : xs[i]? = some x) (hj : xs[j]? = some y) (hij : i < j) : names.idxOf x < names.idxOf y := by
  have p := (idx_pairwise nd).sublist h
  rw [List.pairwise_iff_getElem] at p
  obtain ⟨h1, e1⟩ := List.getElem?_eq_some_iff.mp hi
  obtain ⟨h2, e2⟩ := List.getElem?_eq_some_iff.mp hj
  rw [← e1, ← e2]
  exact p i j h1 h2 hij
theorem OkName.ok {x : Str} (h : OkName x) : PyData.strOk x = true := by
  unfold PyData.strOk
  rw [Array.all_eq_true]
  intro i hi
  have hs : ∀ c, c ∈ signS.cps.toList → c < 0x110000 := by
    have e : signS.cps.toList.all (fun c => decide (c < 0x110000)) = true := by decide +kernel
    intro c hc
    exact of_decide_eq_true (List.all_eq_true.mp e c hc)
  have z := h.all i hi
  rw [Array.getD_eq_getD_getElem?, Array.getElem?_eq_getElem hi] at z
  exact decide_eq_true (hs _ z)
end TF
set_option Elab.async false
set_option linter.all false
set_option maxRecDepth 100000
set_option maxHeartbeats 4000000
/-! W1: what nets holds of. -/
namespace TF
open PySem PySem.Spec L2
open PyProof.Rows (envOfC)
section
variable {P : Program} {w : World} {K : PySem.W.Frag} {mg : Str → Option Value} {base : Heap} (T : TF.Txt K mg)
include T
theorem w_is_count_nets : FnOk P w K mg base CX0 2 (He.ga K "is_count_nets") (fdAt K (He.ga K "is_count_nets")) ["thing", "least"]
    (pureSp (ι := Int × Int) (fun i => [dat K (.int i.1), dat K (.int i.2)]) (fun _ => True) (fun i => dat K (.bool (decide (i.2 ≤ i.1) && decide (i.1 ≤ 999999999))))) := by
  refine okPure T.f_is_count_nets (N := ["thing", "least"]) (by constructor <;> first | rfl | decide | decide +kernel) (fun _ => rfl) fun cdv A1 outer s H E hr i _ an => ?_
  refine rs_end (rv_to (rv_and (v := true) (rv_isi (K := K) (n := "int") rfl T.n_isinstance T.n_int (rv_var 0)) fun _ => rv_and (v := true) (rv_to (rv_not (rv_isi (K := K) (n := "bool") rfl T.n_isinstance T.n_bool (rv_var 0))) rfl) fun _ => rv_one (rv_chainLE (rv_var 1) (rv_var 0) (rv_globI T.i_MOST_COUNT))) (by simp))
theorem w_is_name : O_is_name P w K mg base CX0 2 (pureSp (ι := Str × Bool) (fun x => [dat K (.str x.1)]) (fun x => (OkName x.1 ∧ x.2 = true) ∨ (x.1 = "" ∧ x.2 = false)) (fun x => dat K (.bool x.2))) := by
  refine okPure T.f_is_name (N := N_is_name) (by constructor <;> first | rfl | decide | decide +kernel) (fun _ => rfl) fun cdv A1 outer s H E hr q hq an => ?_
  obtain ⟨x, b⟩ := q
  rcases hq with ⟨hx, eb⟩ | ⟨ex, eb⟩
  · have eb : b = true := eb
    subst eb
    have hx : OkName x := hx
    refine rs_when (v := false) (rt_w (rw_or (v := false) (rt_to (rt_not (rt_val (rv_isi (K := K) (n := "str") (c := true) rfl T.n_isinstance T.n_str (rv_var 0)))) rfl) fun _ =>
      rw_or (v := false) (rt_to (rt_not (rt_chainLE (K := K) rv_int (rv_lenS (x := x) (by have := hx.z2; unfold Str.length; omega) T.n_len (rv_var 0)) (rv_globI T.i_MOST_SIGNS))) ?_) fun _ => rw_or1 (rt_to (rt_inStrs (ss := ["place", "fire", "as"]) (.inr rfl) (rv_var 0) (rv_globR T.g_WORDS fun H => ?_)) ?_))) (fun h => by cases h) fun _ => ?_
    · have h1 := hx.z1
      have h2 := hx.z2
      unfold Str.length
      have e1 : (1 : Int) ≤ (x.cps.size : Int) := by omega
      have e2 : (x.cps.size : Int) ≤ 8 := by omega
      simp [e1, e2]
    · exact .tup (T.words H) (.cons (.str _) (.cons (.str _) (.cons (.str _) .nil)))
    · exact decide_eq_false hx.nw
    refine rs_end (rv_to (rv_and (v := true) (rv_to (rv_inSign (c := x.cps.getD 0 0) (y := smallS) (rv_ixS (k := 0) (x := x) (by have := hx.z2; unfold Str.length; omega) ?_ (rv_var 0) rv_int) (rv_globS T.t_SMALL)) ?_) fun _ => rv_one (rv_all (bs := List.replicate x.cps.size true) T.n_all ?_)) ?_)
    · have e : (0 : Nat) < x.cps.size := hx.z1
      simp [e]
    · rw [decide_eq_true hx.hd]
    · refine rv_sub (rv_lc (n := x.cps.size) (bt := fun _ => true) (E := fun _ => dat K (.bool true)) (own := [("sign", 1)]) (js := [1]) (f := fun i ρ => ρ.set 1 (some (dat K (.str ⟨#[x.cps.getD i 0]⟩)))) (ri_str (rv_var 0) (by have := hx.z2; omega)) (fun s H C cl fp => pg_name (i := 1) (of_decide_eq_true (by kernel_rfl)) rfl (.inl rfl)) (fun i hi => gk_name) (by decide) (fun s H C cl fp i W hi => rts_nil) (fun s H C cl fp i W hi _ => ?_)) ?_
      · refine rv_to (rv_inSign (c := x.cps.getD i 0) (y := signS) (rv_var 1) (rv_catS ?_ (rv_globS T.t_SMALL) (rv_globS T.t_FIGURES))) ?_
        · decide
        · rw [decide_eq_true (hx.all i hi)]
      · have e : selP x.cps.size (fun _ => true) (fun _ => dat K (.bool true)) = (List.replicate x.cps.size true).map fun c => dat K (.bool c) := by
          unfold selP
          rw [List.filter_eq_self.mpr (fun _ _ => rfl), List.map_const', List.length_range, List.map_replicate]
        rw [e]
        exact Imp.refl
    · have e : (List.replicate x.cps.size true).all id = true := by simp
      rw [e]
      rfl
  · have eb : b = false := eb
    have ex : x = "" := ex
    subst eb ex
    exact rs_when (v := true) (rt_w (rw_or (v := false) (rt_to (rt_not (rt_val (rv_isi (K := K) (n := "str") (c := true) rfl T.n_isinstance T.n_str (rv_var 0)))) rfl) fun _ =>
      rw_or (v := true) (w := false) (rt_to (rt_not (rt_chainLE (K := K) rv_int (rv_lenS (x := "") (by decide) T.n_len (rv_var 0)) (rv_globI T.i_MOST_SIGNS))) (by decide)) fun h => by cases h)) (fun _ => rs_end rv_bl) fun h => by cases h
theorem w_are_parts : O_are_parts P w K mg base CX0 3 (pureSp (ι := List (Str × Int)) (fun ps => [dat K (partsD ps)]) (fun ps => ∀ p, p ∈ ps → OkName p.1 ∧ 1 ≤ p.2 ∧ p.2 ≤ 999999999) (fun _ => dat K (.bool true))) := by
  refine okPure T.f_are_parts (N := N_are_parts) (by constructor <;> first | rfl | decide | decide +kernel) (fun _ => rfl) fun cdv A1 outer s H E hr ps hp an => ?_
  refine rs_when (v := false) (rt_to (rt_not (rt_val (rv_isi (K := K) (n := "tuple") (c := true) rfl T.n_isinstance T.n_tuple (rv_var 0)))) rfl) (fun h => by cases h) fun _ => ?_
  refine rs_cons (rs_for (ri_tupM partD ps ("", 0) (rv_var 0)) (pg_name (i := 1) (of_decide_eq_true (by kernel_rfl)) rfl (.inl rfl)) (fun i hi => gk_name) (fun i ρ W => (∃ x, ρ = [some (dat K (partsD ps)), x]) ∧ W = []) ⟨⟨_, rfl⟩, rfl⟩ ?_) fun ρ1 W1 ⟨⟨x, e1⟩, e2⟩ => ?_
  · rintro i _ _ hi ⟨⟨x, rfl⟩, rfl⟩
    have hp1 := hp _ (getD_mem (d := (("", 0) : Str × Int)) hi)
    refine rs_one (rs_ifS (v := false) (rt_w (rw_or (v := false) (rt_to (rt_not (rt_val (rv_isi (K := K) (n := "tuple") (c := true) rfl T.n_isinstance T.n_tuple (rv_var 1)))) rfl) fun _ => rw_or (v := false) (rt_to (rt_neI (K := K) (rv_lenTD T.n_len (rv_var 1)) rv_int) (by simp)) fun _ =>
      rw_or (v := false) (rt_to (rt_not (rt_val (rv_is_name T (w_is_name T) (pureSp_ok (_, true) (.inl ⟨hp1.1, rfl⟩)) hr (ra_cons (rv_ixTD (K := K) (k := 0) rfl (rv_var 1) rv_int) ra_nil)))) rfl) fun _ =>
      rw_or1 (rt_to (rt_not (rt_val (rv_is_count_nets T (w_is_count_nets T) (pureSp_ok ((ps.getD i ("", 0)).2, 1) trivial) hr (ra_cons (rv_ixTD (K := K) (k := 1) rfl (rv_var 1) rv_int) (ra_cons rv_int ra_nil))))) (by rw [decide_eq_true hp1.2.1, decide_eq_true hp1.2.2] <;> rfl))))
      (fun h => by cases h) fun _ => rs_nil ⟨⟨_, rfl⟩, rfl⟩)
  · subst e1 e2
    exact rs_end rv_bl
theorem OkParts.parts {names : List Str} {ps : List (Str × Int)} (h : OkParts names ps) (hn : ∀ x, x ∈ names → OkName x) : ∀ p, p ∈ ps → OkName p.1 ∧ 1 ≤ p.2 ∧ p.2 ≤ 999999999 := fun p hp => ⟨hn _ (h.sub.subset (List.mem_map.mpr ⟨p, hp, rfl⟩)), h.cnt p hp⟩
/-- a place and what is known so far -/
structure KnQ where
  p : Str × Int
  b : Addr
  ks : List (Key × SP)
theorem w_is_place : O_is_place P w K mg base CX0 3 (mkSp (ι := KnQ) (fun q => [dat K (partD q.p), refP q.b]) (fun q => [(q.b, dctM q.ks)]) (fun q => [(q.b, dctM q.ks)]) (fun q => OkName q.p.1 ∧ 0 ≤ q.p.2 ∧ q.p.2 ≤ 999999999 ∧ findK q.ks (.inr q.p.1) = none) (fun _ => dat K (.bool true))) := by
  refine okM T.f_is_place (N := N_is_place) (by constructor <;> first | rfl | decide | decide +kernel) (fun _ => rfl) fun cdv A1 outer s H E hr q ⟨h1, h2, h3, h4⟩ an hO => ?_
  have hu : (A1.deeper (envOfC "is_place" (defScope s_is_place) s.heap.objs.size (He.ga K "is_place") cdv)).units + 1 < cLine := by
    have := hr.units
    omega
  have hW : WEnd an [(q.b, dctM q.ks)] [(q.b, dctM q.ks)] := ⟨by simp, fun c hc => ⟨hO c hc, c, hc, rfl, fun _ _ z => z⟩⟩
  refine rs_when (v := false) (rt_w (rw_or (v := false) (rt_to (rt_not (rt_val (rv_isi (K := K) (n := "tuple") (c := true) rfl T.n_isinstance T.n_tuple (rv_var 0)))) rfl) fun _ => rw_or1 (rt_to (rt_neI (K := K) (rv_lenTD T.n_len (rv_var 0)) rv_int) (by simp)))) (fun h => by cases h) fun _ => ?_
  refine rs_endW (rv_to (rv_and (v := true) (rv_is_name T (w_is_name T) (pureSp_ok (_, true) (.inl ⟨h1, rfl⟩)) hr (ra_cons (rv_ixTD (K := K) (k := 0) rfl (rv_var 0) rv_int) ra_nil)) fun _ => rv_and (v := true) (rv_dnotO (bt := false) 0 hu (rv_ixTD (K := K) (k := 0) rfl (rv_var 0) rv_int) (rv_var 1) rfl (by rw [h4]; rfl)) fun _ =>
    rv_one (rv_is_count_nets T (w_is_count_nets T) (pureSp_ok (q.p.2, 0) trivial) hr (ra_cons (rv_ixTD (K := K) (k := 1) rfl (rv_var 0) rv_int) (ra_cons rv_int ra_nil)))) ?_) hW
  show PyData.bool (true && (!false && (decide (0 ≤ q.p.2) && decide (q.p.2 ≤ 999999999)))) = _
  rw [decide_eq_true h2, decide_eq_true h3]
  rfl
end
end TF
set_option Elab.async false
set_option linter.all false
set_option maxRecDepth 100000
set_option maxHeartbeats 4000000
/-! W2: is_firing, part_wrong, net_wrong, must_net. -/
namespace TF
open PySem PySem.Spec L2
open PyProof.Rows (envOfC)
/-- name op= e, of ints -/
theorem rs_aug (i : Nat) {X : Cx} {an : An} {K : PySem.W.Frag} {ρ : TF.Env} {W Wz : Wd} {R : SP} {N : TF.Env → Wd → Prop} {rest : List Stmt} {e : Expr} {pos pos' : Pos} {x : Str} {op : Operator} {f : Int → Int → Int} {u v : Int} (hp : PIp X op (ipI f)) (he : RV X an e ρ W W (dat K (.int v))) (h : RSs X an rest (ρ.set i (some (dat K (.int (f u v))))) W N R Wz) (hv : ρ[i]? = some (some (dat K (.int u))) := by rfl)
    (hN : X.N.Nodup := by exact of_decide_eq_true (by kernel_rfl)) (hi : X.N[i]? = some x := by rfl) (hx : Loc X.env.scope x := by first | exact Or.inl rfl | exact Or.inr rfl) (hf : X.fn x = true ∨ X.env.scope.names.lookup x = some .local := by first | exact .inl rfl | exact .inr rfl) :
    RSs X an (.AugAssign (.Name x pos') op e pos :: rest) ρ W N R Wz :=
  rs_cons (N1 := fun ρ1 W1 => ρ1 = ρ.set i (some (dat K (.int (f u v)))) ∧ W1 = W) (PSimp (ps_aug hN hi hx he hp hf) fun D σ H ⟨O, m, nx, rt⟩ => by
    obtain ⟨z, h1, h2⟩ := m.ds.2 i _ hv
    refine ⟨z, h1, O, m, fun y H1 m1 s1 p1 => ⟨u, v, dat_int h2, dat_int p1, nx _ _ _ _ O ⟨rfl, rfl⟩ (m1.re (m1.ds.set i (show (dat K (.int (f u v))).p _ _ from .int _))) s1⟩⟩) fun ρ1 W1 ⟨e1, e2⟩ => e1 ▸ e2 ▸ h
section
variable {P : Program} {w : World} {K : PySem.W.Frag} {mg : Str → Option Value} {base : Heap} (T : TF.Txt K mg)
include T
structure KnF where
  f : Fir
  b : Addr
  ks : List (Key × SP)
  names : List Str
theorem w_is_firing : O_is_firing P w K mg base CX0 4 (mkSp (ι := KnF) (fun q => [dat K (firD q.f), refP q.b]) (fun q => [(q.b, dctM q.ks)]) (fun q => [(q.b, dctM q.ks)]) (fun q => OkFir q.names q.f ∧ (∀ x, x ∈ q.names → OkName x) ∧ findK q.ks (.inr q.f.name) = none) (fun _ => dat K (.bool true))) := by
  refine okM T.f_is_firing (N := N_is_firing) (by constructor <;> first | rfl | decide | decide +kernel) (fun _ => rfl) fun cdv A1 outer s H E hr q ⟨h1, h2, h3⟩ an hO => ?_
  have hu : (A1.deeper (envOfC "is_firing" (defScope s_is_firing) s.heap.objs.size (He.ga K "is_firing") cdv)).units + 1 < cLine := by
    have := hr.units
    omega
  have hr2 := hr.mono (j := 2) (by omega)
  have hW : WEnd an [(q.b, dctM q.ks)] [(q.b, dctM q.ks)] := ⟨by simp, fun c hc => ⟨hO c hc, c, hc, rfl, fun _ _ z => z⟩⟩
  refine rs_when (v := false) (rt_w (rw_or (v := false) (rt_to (rt_not (rt_val (rv_isi (K := K) (n := "tuple") (c := true) rfl T.n_isinstance T.n_tuple (rv_var 0)))) rfl) fun _ => rw_or (v := false) (rt_to (rt_neI (K := K) (rv_lenTD T.n_len (rv_var 0)) rv_int) (by simp)) fun _ =>
    rw_or (v := false) (rt_to (rt_not (rt_val (rv_is_name T (w_is_name T) (pureSp_ok (_, true) (.inl ⟨h1.nm, rfl⟩)) hr2 (ra_cons (rv_ixTD (K := K) (k := 0) rfl (rv_var 0) rv_int) ra_nil)))) rfl) fun _ =>
    rw_or1 (rt_dinO (K := K) (bt := false) 0 hu (rv_ixTD (K := K) (k := 0) rfl (rv_var 0) rv_int) (rv_var 1) rfl (by rw [h3]; rfl)))) (fun h => by cases h) fun _ => ?_
  refine rs_when (v := false) (W' := [(q.b, dctM q.ks)]) (rt_w ?_) (fun h => by cases h) fun _ => ?_
  · rcases h1.lb with hl | hl
    · exact rw_and (v := false) (w := false) (rt_to (rt_not (rt_val (rv_is_name T (w_is_name T) (pureSp_ok (q.f.label, true) (.inl ⟨hl, rfl⟩)) hr2 (ra_cons (rv_ixTD (K := K) (k := 1) rfl (rv_var 0) rv_int) ra_nil)))) rfl) fun h => by cases h
    · exact rw_and (v := true) (w := false) (rt_to (rt_not (rt_val (rv_is_name T (w_is_name T) (pureSp_ok (q.f.label, false) (.inr ⟨hl, rfl⟩)) hr2 (ra_cons (rv_ixTD (K := K) (k := 1) rfl (rv_var 0) rv_int) ra_nil)))) rfl) fun _ =>
        rw_and1 (rt_to (rt_not (rt_w (rw_and (v := true) (rt_val (rv_isi (K := K) (n := "str") (c := true) rfl T.n_isinstance T.n_str (rv_ixTD (K := K) (k := 1) rfl (rv_var 0) rv_int))) fun _ => rw_and1 (rt_to (rt_eqS (K := K) (rv_ixTD (K := K) (k := 1) rfl (rv_var 0) rv_int) rv_str) (decide_eq_true hl))))) rfl)
  · exact rs_endW (rv_and (v := true) (rv_are_parts T (w_are_parts T) (pureSp_ok q.f.takes (h1.tk.parts T h2)) hr (ra_cons (rv_ixTD (K := K) (k := 2) rfl (rv_var 0) rv_int) ra_nil)) fun _ =>
      rv_one (rv_are_parts T (w_are_parts T) (pureSp_ok q.f.gives (h1.gv.parts T h2)) hr (ra_cons (rv_ixTD (K := K) (k := 3) rfl (rv_var 0) rv_int) ra_nil))) hW
structure KnP where
  f : Fir
  b : Addr
  names : List Str
theorem w_part_wrong : O_part_wrong P w K mg base CX0 2 (mkSp (ι := KnP) (fun q => [dat K (firD q.f), refP q.b]) (fun q => [(q.b, dctM (numK K q.names))]) (fun q => [(q.b, dctM (numK K q.names))]) (fun q => OkParts q.names q.f.takes ∧ OkParts q.names q.f.gives ∧ q.names.Nodup) (fun _ => dat K .none)) := by
  refine okM T.f_part_wrong (N := N_part_wrong) (by constructor <;> first | rfl | decide | decide +kernel) (fun _ => rfl) fun cdv A1 outer s H E hr q ⟨h1, h2, nd⟩ an hO => ?_
  have hu : (A1.deeper (envOfC "part_wrong" (defScope s_part_wrong) s.heap.objs.size (He.ga K "part_wrong") cdv)).units + 1 < cLine := by
    have := hr.units
    omega
  have hW : WEnd an [(q.b, dctM (numK K q.names))] [(q.b, dctM (numK K q.names))] := ⟨by simp, fun c hc => ⟨hO c hc, c, hc, rfl, fun _ _ z => z⟩⟩
  refine rs_set 2 (rv_int (K := K)) ?_
  refine rs_cons (rs_for (W' := [(q.b, dctM (numK K q.names))]) (n := 2) (Y := fun i => dat K (partsD (if i = 0 then q.f.takes else q.f.gives))) ?it (pg_name (i := 3) (of_decide_eq_true (by kernel_rfl)) rfl (.inl rfl)) (fun i hi => gk_name)
    (fun i ρ W => (∃ (a : Int) (x3 x4 x5 x6 : Option SP), ρ = [some (dat K (firD q.f)), some (refP q.b), some (dat K (.int a)), x3, x4, x5, x6]) ∧ W = [(q.b, dctM (numK K q.names))]) ⟨⟨0, none, none, none, none, rfl⟩, rfl⟩ ?_) fun ρ1 W1 ⟨⟨a, x3, x4, x5, x6, e1⟩, e2⟩ => ?_
  case it =>
    refine ri_tupE (rv_slT (l := some 2) (u := none) (rv_asT (rv_var 0)) (ro_some (K := K) rv_int) ro_none) rfl fun i hi => ?_
    match i, hi with
    | 0, _ => exact Imp.refl
    | 1, _ => exact Imp.refl
  · rintro i _ _ hi ⟨⟨a, x3, x4, x5, x6, rfl⟩, rfl⟩
    have hp : OkParts q.names (if i = 0 then q.f.takes else q.f.gives) := by
      split
      · exact h1
      · exact h2
    generalize (if i = 0 then q.f.takes else q.f.gives) = ps at hp ⊢
    refine rs_set 4 (rv_neg (K := K) rv_int) ?_
    refine rs_one (rs_impS (rs_for (ri_tupM partD ps ("", 0) (rv_var 3)) (pg_tup rfl (pgs_cons (pg_name (i := 5) (of_decide_eq_true (by kernel_rfl)) rfl (.inl rfl)) (pgs_cons (pg_name (i := 6) (of_decide_eq_true (by kernel_rfl)) rfl (.inl rfl)) pgs_nil))) (fun j hj => gk_tupD (ds := [.str (ps.getD j ("", 0)).1, .int (ps.getD j ("", 0)).2]) (gks_cons (gks_cons gks_nil)))
      (fun j ρ W => (∃ (a : Int) (x5 x6 : Option SP), ρ = [some (dat K (firD q.f)), some (refP q.b), some (dat K (.int a)), some (dat K (partsD ps)), some (dat K (.int (if j = 0 then -1 else (q.names.idxOf (ps.getD (j - 1) ("", 0)).1 : Int)))), x5, x6]) ∧ W = [(q.b, dctM (numK K q.names))]) ⟨⟨_, _, _, rfl⟩, rfl⟩ ?_) fun ρ' W' ⟨⟨a, x5, x6, e⟩, e2⟩ => ⟨⟨a, _, _, x5, x6, e⟩, e2⟩)
    rintro j _ _ hj ⟨⟨a, x5, x6, rfl⟩, rfl⟩
    have hm : (ps.getD j ("", 0)).1 ∈ q.names := hp.sub.subset (List.mem_map.mpr ⟨_, getD_mem hj, rfl⟩)
    have hlt : ¬ (q.names.idxOf (ps.getD j ("", 0)).1 : Int) ≤ (if j = 0 then -1 else (q.names.idxOf (ps.getD (j - 1) ("", 0)).1 : Int)) := by
      split
      · omega
      · rename_i hj0
        have hj1 : j - 1 < ps.length := by omega
        have z := idx_sub nd hp.sub (i := j - 1) (j := j) (x := (ps.getD (j - 1) ("", 0)).1) (y := (ps.getD j ("", 0)).1) (by rw [List.getElem?_map, List.getD_eq_getElem?_getD, List.getElem?_eq_getElem hj1]; rfl) (by rw [List.getElem?_map, List.getD_eq_getElem?_getD, List.getElem?_eq_getElem hj]; rfl) (by omega)
        omega
    refine rs_when (v := false) (rt_w (rw_or (v := false) (rt_to (rt_dnotO (K := K) (bt := true) 0 hu (rv_var 5) (rv_var 1) rfl (by rw [numK_some hm nd]; rfl)) rfl) fun _ => rw_or1 (rt_to (rt_le (K := K) (rv_dgetO 0 hu (rv_var 1) (rv_var 5) rfl (numK_some hm nd)) (rv_var 4)) (decide_eq_false hlt)))) (fun h => by cases h) fun _ => ?_
    refine rs_set 4 (rv_dgetO 0 hu (rv_var 1) (rv_var 5) rfl (numK_some hm nd)) ?_
    refine rs_aug 2 (K := K) (u := a) (v := 1) ip_add rv_int (rs_nil ⟨⟨_, _, _, rfl⟩, rfl⟩)
  · subst e1 e2
    exact rs_endW rv_non hW
end
end TF
set_option Elab.async false
set_option linter.all false
set_option maxRecDepth 100000
set_option maxHeartbeats 4000000
/-! W3: net_wrong, must_net. -/
namespace TF
open PySem PySem.Spec L2
open PyProof.Rows (envOfC)
theorem MX.perm {an : An} {O : List Addr} {ρ : TF.Env} {W W2 : Wd} {σ : St} {H : Hp} (p : W.Perm W2) (m : MX an O ρ W σ H) : MX an O ρ W2 σ H := ⟨m.a0, m.l0, m.sub, m.fr, m.lv, m.ds, ⟨(p.map Prod.fst).nodup_iff.mp m.wo.nd, fun c hc => m.wo.at_ c (p.mem_iff.mpr hc)⟩, fun c hc => m.wa c (p.mem_iff.mpr hc), m.sb⟩
theorem rv_perm {X : Cx} {an : An} {W W1 W2 W' : Wd} {e : Expr} {ρ : TF.Env} {P : SP} (h1 : W.Perm W1) (he : RV X an e ρ W1 W2 P) (h2 : W2.Perm W') : RV X an e ρ W W' P :=
  PEimp he fun σ H Q ⟨O, m, q⟩ => ⟨O, m.perm h1, fun v H' m' s p => q v H' (m'.perm h2) s p⟩
theorem rv_swap {X : Cx} {an : An} {c1 c2 d1 d2 : Addr × MP} {e : Expr} {ρ : TF.Env} {P : SP} (he : RV X an e ρ [c2, c1] [d2, d1] P) : RV X an e ρ [c1, c2] [d1, d2] P := rv_perm (.swap _ _ _) he (.swap _ _ _)
theorem snoc_take {α : Type} (l : List α) (d : α) {i : Nat} (h : i < l.length) : l.take (i + 1) = l.take i ++ [l.getD i d] := by
  rw [List.take_add_one, List.getElem?_eq_getElem h, List.getD_eq_getElem?_getD, List.getElem?_eq_getElem h]
  rfl
theorem nodup_take {α : Type} {l : List α} {d : α} (nd : l.Nodup) {i : Nat} (h : i < l.length) : ¬ l.getD i d ∈ l.take i := by
  have e := snoc_take l d h
  have n2 : (l.take (i + 1)).Nodup := nd.sublist (List.take_sublist _ _)
  rw [e] at n2
  intro hm
  exact (List.nodup_append.mp n2).2.2 _ hm _ (by simp) rfl
theorem getD_mapN {α β : Type} (f : α → β) (l : List α) (d : α) (d' : β) {i : Nat} (h : i < l.length) : (l.map f).getD i d' = f (l.getD i d) := by
  rw [List.getD_eq_getElem?_getD, List.getD_eq_getElem?_getD, List.getElem?_map, List.getElem?_eq_getElem h]
  rfl
theorem numK_next (K : PySem.W.Frag) (names : List Str) {i : Nat} (h : i < names.length) : numK K (names.take (i + 1)) = numK K (names.take i) ++ [(.inr (names.getD i ""), dat K (.int (i : Int)))] := by
  rw [snoc_take names "" h, numK_snoc, List.length_take]
  have e : min i names.length = i := by omega
  rw [e]
section
variable {P : Program} {w : World} {K : PySem.W.Frag} {mg : Str → Option Value} {base : Heap} (T : TF.Txt K mg)
include T
theorem w_net_wrong : O_net_wrong P w K mg base CX0 5 (pureSp (ι := Net) (fun n => [dat K (netD n)]) OkNet (fun _ => dat K .none)) := by
  refine okPure T.f_net_wrong (N := N_net_wrong) (by constructor <;> first | rfl | decide | decide +kernel) (fun _ => rfl) fun cdv A1 outer s H E hr n hn an => ?_
  have hu : (A1.deeper (envOfC "net_wrong" (defScope s_net_wrong) s.heap.objs.size (He.ga K "net_wrong") cdv)).units + 64 < cLine := hr.units
  have hu1 : (A1.deeper (envOfC "net_wrong" (defScope s_net_wrong) s.heap.objs.size (He.ga K "net_wrong") cdv)).units + 1 < cLine := by omega
  have hr3 := hr.mono (j := 3) (by omega)
  have hr2 := hr.mono (j := 2) (by omega)
  have hz1 : n.places.length ≤ 1000 := by have := hn.p2; omega
  have hz2 : n.firs.length ≤ 1000 := by have := hn.f2; omega
  have hnl : n.names.length = n.places.length := List.length_map ..
  have hfl : n.fnames.length = n.firs.length := List.length_map ..
  refine rs_when (v := false) (rt_w (rw_or (v := false) (rt_to (rt_not (rt_val (rv_isi (K := K) (n := "tuple") (c := true) rfl T.n_isinstance T.n_tuple (rv_var 0)))) rfl) fun _ => rw_or1 (rt_to (rt_neI (K := K) (rv_lenTD T.n_len (rv_var 0)) rv_int) (by simp)))) (fun h => by cases h) fun _ => ?_
  refine rs_when (v := false) (W' := []) (rt_w (rw_or (v := false) (rt_to (rt_not (rt_val (rv_isi (K := K) (n := "tuple") (c := true) rfl T.n_isinstance T.n_tuple (rv_ixTD (K := K) (k := 0) rfl (rv_var 0) rv_int)))) rfl) fun _ =>
    rw_or (v := false) (rt_to (rt_not (rt_val (rv_isi (K := K) (n := "tuple") (c := true) rfl T.n_isinstance T.n_tuple (rv_ixTD (K := K) (k := 1) rfl (rv_var 0) rv_int)))) rfl) fun _ =>
    rw_or1 (rt_to (rt_eqD hu ?sh1 ?sh2 (rv_ixTD (K := K) (k := 0) rfl (rv_var 0) rv_int) (rv_tupD (ds := []) ra_nil)) ?ne))) (fun h => by cases h) fun _ => ?_
  case sh1 =>
    refine (flt_tup (n := 1) fun d hd => ?_).shaped
    obtain ⟨p, hp, e⟩ := List.mem_map.mp hd
    subst e
    refine flt_tup fun d hd => ?_
    rcases List.mem_cons.mp hd with e | hd
    · subst e
      exact flt_str (hn.pn p hp).1.ok
    · have e : d = .int p.2 := by simpa using hd
      subst e
      exact flt_int _
  case sh2 => exact (flt_tup (n := 0) fun d hd => by simp at hd).shaped
  case ne =>
    have h := hn.p1
    show PyData.eqv (.tuple (n.places.map partD)) (.tuple []) = false
    cases e : n.places with
    | nil =>
      rw [e] at h
      cases h
    | cons p ps => simp [PyData.eqv, PyData.eqvAll]
  refine rs_new 1 rn_dct fun b1 hb1 => ?_
  refine rs_cons (rs_for (ri_enumTM partD n.places ("", 0) T.n_enumerate (rv_ixTD (K := K) (k := 0) rfl (rv_var 0) rv_int) hz1) (pg_tup rfl (pgs_cons (pg_name (i := 2) (of_decide_eq_true (by kernel_rfl)) rfl (.inl rfl)) (pgs_cons (pg_name (i := 3) (of_decide_eq_true (by kernel_rfl)) rfl (.inl rfl)) pgs_nil))) (fun j hj => gk_tup (gks_cons (gks_cons gks_nil)))
    (fun j ρ W => (∃ (x2 x3 : Option SP), ρ = [some (dat K (netD n)), some (refP b1), x2, x3, none, none, none]) ∧ W = [(b1, dctM (numK K (n.names.take j)))]) ⟨⟨none, none, rfl⟩, rfl⟩ ?_) fun ρ1 W1 ⟨⟨x2, x3, e1⟩, e2⟩ => ?_
  · rintro j _ _ hj ⟨⟨x2, x3, rfl⟩, rfl⟩
    have hm := hn.pn _ (getD_mem (d := (("", 0) : Str × Int)) hj)
    have hjn : j < n.names.length := hnl ▸ hj
    have eN : n.names.getD j "" = (n.places.getD j ("", 0)).1 := getD_mapN Prod.fst n.places ("", 0) "" hj
    have hnk : findK (numK K (n.names.take j)) (.inr (n.places.getD j ("", 0)).1) = none := by
      rw [← eN]
      exact numK_none (nodup_take hn.pd hjn)
    refine rs_when (v := false) (rt_to (rt_not (rt_val (rm_is_place T (w_is_place T) (mkSp_ok (⟨n.places.getD j ("", 0), b1, numK K (n.names.take j)⟩ : KnQ) ⟨hm.1, hm.2.1, hm.2.2, hnk⟩) rfl hr3 (Wr := []) (ra_cons (rv_var 3) (ra_cons (rv_var 1) ra_nil))))) rfl) (fun h => by cases h) fun _ => ?_
    refine rs_dput 0 hu1 (rv_var 2) (rv_var 1) (rv_ixTD (K := K) (k := 0) rfl (rv_var 3) rv_int) rfl hnk (rs_nil ⟨⟨_, _, rfl⟩, ?_⟩) ?_
    · show [(b1, dctM (numK K (n.names.take j) ++ [(Sum.inr (n.places.getD j ("", 0)).1, dat K (.int (j : Int)))]))] = _
      rw [numK_next K n.names hjn, eN]
    · unfold numK
      rw [List.length_map, List.length_zipIdx, List.length_take]
      omega
  subst e1 e2
  rw [← hnl, List.take_length]
  refine rs_new 4 rn_dct fun b2 hb2 => ?_
  refine rs_cons (rs_for (ri_enumTM firD n.firs ⟨"", "", [], []⟩ T.n_enumerate (rv_ixTD (K := K) (k := 1) rfl (rv_var 0) rv_int) hz2) (pg_tup rfl (pgs_cons (pg_name (i := 2) (of_decide_eq_true (by kernel_rfl)) rfl (.inl rfl)) (pgs_cons (pg_name (i := 5) (of_decide_eq_true (by kernel_rfl)) rfl (.inl rfl)) pgs_nil))) (fun j hj => gk_tup (gks_cons (gks_cons gks_nil)))
    (fun j ρ W => (∃ (x2 x3 x5 x6 : Option SP), ρ = [some (dat K (netD n)), some (refP b1), x2, x3, some (refP b2), x5, x6]) ∧ W = [(b1, dctM (numK K n.names)), (b2, dctM (numK K (n.fnames.take j)))]) ⟨⟨_, _, _, _, rfl⟩, rfl⟩ ?_) fun ρ1 W1 ⟨⟨x2, x3, x5, x6, e1⟩, e2⟩ => ?_
  · rintro j _ _ hj ⟨⟨x2, x3, x5, x6, rfl⟩, rfl⟩
    have hm := hn.fo _ (getD_mem (d := (⟨"", "", [], []⟩ : Fir)) hj)
    have hjn : j < n.fnames.length := hfl ▸ hj
    have eN : n.fnames.getD j "" = (n.firs.getD j ⟨"", "", [], []⟩).name := getD_mapN Fir.name n.firs ⟨"", "", [], []⟩ "" hj
    have hnk : findK (numK K (n.fnames.take j)) (.inr (n.firs.getD j ⟨"", "", [], []⟩).name) = none := by
      rw [← eN]
      exact numK_none (nodup_take hn.fd hjn)
    have hpn : ∀ x, x ∈ n.names → OkName x := fun x hx => by
      obtain ⟨p, hp, e⟩ := List.mem_map.mp hx
      exact e ▸ (hn.pn p hp).1
    show RSs _ an _ [some (dat K (netD n)), some (refP b1), some (dat K (.int (j : Int))), x3, some (refP b2), some (dat K (firD (n.firs.getD j ⟨"", "", [], []⟩))), x6] _ _ _ _
    generalize n.firs.getD j ⟨"", "", [], []⟩ = f at hm eN hnk ⊢
    refine rs_when (v := false) (rt_to (rt_not (rt_val (rv_swap (rm_is_firing T (w_is_firing T) (mkSp_ok (⟨f, b2, numK K (n.fnames.take j), n.names⟩ : KnF) ⟨hm, hpn, hnk⟩) rfl hr (Wr := [(b1, dctM (numK K n.names))]) (ra_cons (rv_var 5) (ra_cons (rv_var 4) ra_nil)))))) rfl) (fun h => by cases h) fun _ => ?_
    refine rs_dput 1 hu1 (rv_var 2) (rv_var 4) (rv_ixTD (K := K) (k := 0) rfl (rv_var 5) rv_int) rfl hnk ?_ ?_
    · show RSs _ an _ _ [(b1, dctM (numK K n.names)), (b2, dctM (numK K (n.fnames.take j) ++ [(Sum.inr f.name, dat K (.int (j : Int)))]))] _ _ _
      rw [← eN, ← numK_next K n.fnames hjn]
      refine rs_set 6 (rm_part_wrong T (w_part_wrong T) (mkSp_ok (⟨f, b1, n.names⟩ : KnP) ⟨hm.tk, hm.gv, hn.pd⟩) rfl hr2 (Wr := [(b2, dctM (numK K (n.fnames.take (j + 1))))]) (ra_cons (rv_var 5) (ra_cons (rv_var 1) ra_nil))) ?_
      exact rs_when (v := false) (rt_to (rt_notN K (nonP_dat (d := .none)) (rv_var 6)) rfl) (fun h => by cases h) fun _ => rs_nil ⟨⟨_, _, _, _, rfl⟩, rfl⟩
    · unfold numK
      rw [List.length_map, List.length_zipIdx, List.length_take]
      omega
  subst e1 e2
  refine rs_when (v := false) (W' := [(b1, dctM (numK K n.names)), (b2, dctM (numK K (n.fnames.take n.firs.length)))]) (rt_w (rw_or (v := false) (rt_to (rt_gt (K := K) (rv_lenTD T.n_len (rv_ixTD (K := K) (k := 0) rfl (rv_var 0) rv_int)) (rv_globI T.i_MOST_PLACES)) ?_) fun _ => rw_or1 (rt_to (rt_gt (K := K) (rv_lenTD T.n_len (rv_ixTD (K := K) (k := 1) rfl (rv_var 0) rv_int)) (rv_globI T.i_MOST_FIRINGS)) ?_))) (fun h => by cases h) fun _ => rs_end rv_non
  · have := hn.p2
    rw [List.length_map]
    exact decide_eq_false (by omega)
  · have := hn.f2
    rw [List.length_map]
    exact decide_eq_false (by omega)
theorem w_must_net : O_must_net P w K mg base CX0 6 (pureSp (ι := Net) (fun n => [dat K (netD n)]) OkNet (fun _ => dat K .none)) := by
  refine okPure T.f_must_net (N := N_must_net) (by constructor <;> first | rfl | decide | decide +kernel) (fun _ => rfl) fun cdv A1 outer s H E hr n hn an => ?_
  refine rs_set 1 (rv_net_wrong T (w_net_wrong T) (pureSp_ok n hn) hr (ra_cons (rv_var 0) ra_nil)) ?_
  exact rs_one (rs_ifS (v := false) (rt_to (rt_notN K (nonP_dat (d := .none)) (rv_var 1)) rfl) (fun h => by cases h) fun _ => rs_nil fun H => .non)
end
end TF
set_option Elab.async false
set_option linter.all false
set_option maxRecDepth 100000
set_option maxHeartbeats 4000000
/-! M6: new instances, dict comprehensions (keys: texts). -/
namespace TF
open PySem PySem.Spec L2
section
variable {X : Cx} {an : An} {K : PySem.W.Frag} {ρ : TF.Env} {W W1 W2 W' Wz : Wd} {P R : SP} {Ps : List SP} {e : Expr} {es : List Expr} {pos pos' : Pos}
/-- C(e, ..): a new instance, owned -/
theorem rn_make {CX : CXT} {k : Nat} {C f : Addr} {fd : FuncData} {ps : List Str} {sp : Sp} {x : Str} {p : Pos} {fs : List (Str × SP)} (M : Mk X.K C f) (F : FnOk X.prog X.w X.K X.mg X.base CX k f fd ps sp) (kk : ∀ y, SpM sp (refP y :: Ps) (dat X.K .none) [(y, insM C [])] [(y, insM C fs)]) (hr : Room (k + 1) X.A) (hm : X.mg x = some (.ref C)) (hb : Binds X.K fd ps []) (hx : Passes CX X E0)
    (ha : RA X an (e :: es) ρ W W' Ps) (hg : Gl X x := by rfl) (hdb : (x == ("__debug__" : Str)) = false := by decide) (he : starEach (e :: es) X.env = (false, eval e X.env) :: starEach es X.env := by rfl) (hpl : (backTo pos (starEach es X.env)).any (·.1) = false := by rfl) :
    RN X an (.Call (.Name x p) (e :: es) [] pos) ρ W W' (fun _ => insM C fs) :=
  PEimp (pe_make M F hr hg hm hb .nil hx ha hdb he hpl) fun σ H Q ⟨O, m, q⟩ => ⟨O, m, fun vs H1 m1 s1 p1 y dx hy hdx hne => by
    have m2 := m1.same (same_new (o := .own y) hdx)
    have hy2 : upd H1 dx (.own y) y = none := by rw [upd_ne (Ne.symm hne)]; exact hy
    obtain ⟨m3, e3⟩ := m2.new (mp := insM C []) (o := .ins C dx []) hy2 ⟨dx, [], rfl, .nil⟩
    rw [List.append_nil]
    have m3p : MX an (y :: O) ρ ([(y, insM C [])] ++ W') σ (upd (upd H1 dx (.own y)) y (.ins C dx [])) := m3.perm List.perm_append_comm
    have s13 : Same (mn H1 O) (mn (upd (upd H1 dx (.own y)) y (.ins C dx [])) (y :: O)) := by
      rw [e3]
      exact mn_mono (same_new hdx)
    refine kk y (y :: O) _ (.ref y :: vs) _ m3p.lv ⟨by simp, fun c hc => m3p.wo.at_ c (List.mem_append_left _ hc)⟩ (.cons rfl (p1.same s13)) fun v H' sb wo p2 => ⟨dat_non p2, ?_⟩
    obtain ⟨m4, s4⟩ := m3p.call sb wo rfl
    exact q y H' (m1.lv.new hy) (m1.new0 hy) (m4.perm List.perm_append_comm) ((s1.trans s13).trans s4)⟩
/-! ### {k: v for ..} -/
def ksP (n : Nat) (kf : Nat → Str) (E : Nat → SP) : List (Key × SP) := (List.range n).map fun i => (.inr (kf i), E i)
theorem ksP_succ {n : Nat} {kf : Nat → Str} {E : Nat → SP} : ksP (n + 1) kf E = ksP n kf E ++ [(.inr (kf n), E n)] := by
  unfold ksP
  rw [List.range_succ, List.map_append]
  rfl
theorem ksP_new {n : Nat} {kf : Nat → Str} {E : Nat → SP} (h : ∀ i, i < n → kf i ≠ kf n) : findK (ksP n kf E) (.inr (kf n)) = none := findK_none fun p hp => by
  obtain ⟨i, hi, e⟩ := List.mem_map.mp hp
  subst e
  intro e
  exact h i (List.mem_range.mp hi) (Sum.inr.inj e)
theorem ksP_len {n : Nat} {kf : Nat → Str} {E : Nat → SP} : (ksP n kf E).length = n := by
  unfold ksP
  simp
variable {kx vx tg iter : Expr} {ifs : List Expr} {scope : Scope} {own : List (Str × Nat)} {js : List Nat} {g : TG} {Y E : Nat → SP} {n : Nat} {kf : Nat → Str} {f : Nat → TF.Env → TF.Env}
theorem dc_read {vs : List Nat} {σ : St} {H : Hp} {Q : VK} (hk : ∀ i, i < n → GOk g (Y i) js (f i)) (hjs : ∀ j, j ∈ js → j ∈ vs) (hn1 : n ≤ 1000) (hinj : ∀ i j, i < j → j < n → kf i ≠ kf j) (h : tN an ρ W W' (fun _ => dctM (ksP n kf E)) σ H Q) :
    tDc (tI an ρ W W' Y n) g (tTi an n (fun i => f i (wipeE ρ vs)) (fun _ => W') (fun _ => true)) (tVi an n (fun i => f i (wipeE ρ vs)) (fun _ => W') (fun _ => true) (fun i => dat K (.str (kf i)))) (tVi an n (fun i => f i (wipeE ρ vs)) (fun _ => W') (fun _ => true) E) vs σ H Q := by
  obtain ⟨O, m, q⟩ := h
  refine ⟨O, m, fun J H' m' ss hn w D hD => ?_⟩
  obtain ⟨mD, eD⟩ := m'.new (mp := dctM []) (o := .dK []) hD ⟨[], rfl, .nil⟩
  let Pv : Nat → Hp → Prop := fun i H1 => MX an (D :: O) ρ (W' ++ [(D, dctM (ksP i kf E))]) σ H1 ∧ Same (mn H' O) (mn H1 (D :: O))
  refine ⟨fun i k H1 => k = n - i ∧ i ≤ n ∧ Pv i H1, ⟨n, rfl, Nat.zero_le _, mD, by rw [eD]; exact Same.refl _⟩, ?_⟩
  rintro i k H1 ⟨rfl, hi, m1, s1⟩
  by_cases hlt : i < n
  · refine .inr ⟨w.goes i H1 hlt (s1.trans mn_le), Pv (i + 1), fun H2 p2 => ⟨n - (i + 1), by omega, rfl, hlt, p2⟩, fun x H2 y => ?_⟩
    obtain ⟨s2, py⟩ := w.yields i H1 x H2 hlt (s1.trans mn_le) y
    have m2 := m1.same s2
    have s12 : Same (mn H' O) (mn H2 (D :: O)) := s1.trans (mn_mono s2)
    refine hk i hlt (D :: O) (wipeE ρ vs) (L2.wipe σ vs) H2 x _ m2.lv (m2.ds.wipe vs) (py (D :: O) m1.lv s1) fun xs ds => ?_
    refine ⟨by rw [wipe_setL hjs]; exact wipe_wipe fun u hu => hu, ?_⟩
    refine ⟨(i, (D, dctM (ksP i kf E))), hlt, D :: O, m2.re ds, fun H3 m3 s3 => iteT ?_⟩
    refine ⟨(i, (D, dctM (ksP i kf E))), ⟨hlt, rfl⟩, D :: O, m3, fun y H4 m4 s4 pk => ?_⟩
    refine ⟨(i, (D, dctM (ksP i kf E))), ⟨hlt, rfl⟩, D :: O, m4, fun z H5 m5 s5 pz => ?_⟩
    obtain ⟨kvs, e5, sat⟩ := m5.dct (k := W'.length) get_last
    have nn := KVs.none sat (ksP_new (E := E) fun j hj => hinj j i hj hlt)
    have e4 : putK kvs (.inr (kf i)) z = kvs ++ [(.inr (kf i), z)] := putK_new z nn
    refine ⟨kvs, .inr (kf i), dat_str pk, e5, ?_, ?_⟩
    · rw [← Paired.length sat, ksP_len]
      exact small1000 (by omega)
    · obtain ⟨m6, s6⟩ := m5.put (m' := dctM (ksP (i + 1) kf E)) (o' := .dK (putK kvs (.inr (kf i)) z)) get_last ⟨_, rfl, by rw [e4, ksP_succ]; exact sat.snoc pz⟩
      rw [set_last] at m6
      have sx := ((s3.trans s4).trans s5).trans s6
      exact ⟨m6.re (m2.ds.same sx), s12.trans sx⟩
  · have e : i = n := by omega
    subst e
    exact .inl ⟨w.stops H1 (s1.trans mn_le), q D H1 (m'.lv.new hD) (m'.new0 hD) m1 (ss.trans s1)⟩
theorem rn_dc (hi : RI X an tg iter ρ W W' Y n) (hg : ∀ (s : Shared) (H : Hp) (C : Addr) (cl : List (Str × Addr)) (fp : List Addr), PG (X.blk s H scope (compEnvC scope cl C X.env) fp) tg g)
    (hk : ∀ i, i < n → GOk g (Y i) js (f i)) (hjs : ∀ j, j ∈ js → j ∈ own.map (·.2)) (hn1 : n ≤ 1000) (hinj : ∀ i j, i < j → j < n → kf i ≠ kf j)
    (hkx : ∀ (s : Shared) (H : Hp) (C : Addr) (cl : List (Str × Addr)) (fp : List Addr) (i : Nat) (W : Wd), i < n → RV (X.blk s H scope (compEnvC scope cl C X.env) fp) an kx (f i (wipeE ρ (own.map (·.2)))) W W (dat K (.str (kf i))))
    (hvx : ∀ (s : Shared) (H : Hp) (C : Addr) (cl : List (Str × Addr)) (fp : List Addr) (i : Nat) (W : Wd), i < n → RV (X.blk s H scope (compEnvC scope cl C X.env) fp) an vx (f i (wipeE ρ (own.map (·.2)))) W W (E i))
    (ok : BlkOk X.N X.env.scope scope own := by exact blk (by kernel_rfl)) (hc : X.calm = true := by rfl) (hN : X.N.Nodup := by exact of_decide_eq_true (by kernel_rfl)) (hs : ∀ x, foldedSetIterable iter X.env x = pure x := by intro _; rfl) :
    RN X an (.DictComp kx vx [⟨tg, iter, [], 0⟩] scope pos) ρ W W' (fun _ => dctM (ksP n kf E)) :=
  PEimp (pe_dc hc hN hi ok hg (fun s H C cl fp => PTsex fun q => PTsifp fun _ => rts_nil) (fun s H C cl fp => PEex fun q => PEifp fun h => hkx s H C cl fp q.1 _ h.1) (fun s H C cl fp => PEex fun q => PEifp fun h => hvx s H C cl fp q.1 _ h.1) hs) fun σ H Q q => dc_read hk hjs hn1 hinj q
theorem rn_dctP (h : RN X an e ρ W W' (fun _ => dctM ks)) : RV X an e ρ W W' (dctP ks) := rn_rv h fun H p o e ⟨kvs, e2, sat⟩ => ⟨p, kvs, rfl, e2 ▸ e, sat⟩
end
end TF
set_option Elab.async false
set_option linter.all false
set_option maxRecDepth 100000
set_option maxHeartbeats 4000000
/-! D3: a look at a net as data. -/
namespace TF
open PySem PySem.Spec L2
structure SF where
  name : Str
  label : Str
  tk : List (Nat × Int)
  gv : List (Nat × Int)
instance : Inhabited SF := ⟨⟨"", "", [], []⟩⟩
structure Lk where
  places : List Str
  begin : List Int
  fs : List SF
def rkOf (names : List Str) (ps : List (Str × Int)) : List (Nat × Int) := ps.map fun p => (names.idxOf p.1, p.2)
def sfOf (names : List Str) (f : Fir) : SF := ⟨f.name, f.label, rkOf names f.takes, rkOf names f.gives⟩
def lkOf (n : Net) : Lk := ⟨n.names, n.begin, n.firs.map (sfOf n.names)⟩
def Lk.fnames (L : Lk) : List Str := L.fs.map SF.name
def rpD (p : Nat × Int) : PyData := .tuple [.int (p.1 : Int), .int p.2]
def rpsD (ps : List (Nat × Int)) : PyData := .list (ps.map rpD)
def intsT (h : List Int) : PyData := .tuple (h.map .int)
def tksK (K : PySem.W.Frag) (fs : List SF) : List (Key × SP) := fs.map fun f => (.inr f.name, dat K (rpsD f.tk))
def gvsK (K : PySem.W.Frag) (fs : List SF) : List (Key × SP) := fs.map fun f => (.inr f.name, dat K (rpsD f.gv))
def anyP : SP := ⟨fun _ _ => True, fun _ h => h⟩
abbrev lookF (K : PySem.W.Frag) (L : Lk) : List (Str × SP) := [("places", dat K (strsD L.places)), ("begin", dat K (intsT L.begin)), ("names", dat K (strsD L.fnames)), ("labels", anyP), ("takes", dctP (tksK K L.fs)), ("gives", dctP (gvsK K L.fs))]
def lookP (K : PySem.W.Frag) (L : Lk) : SP := insP (He.ga K "Look") (lookF K L)
theorem putP_new {f : Str} {P : SP} : ∀ {fs : List (Str × SP)}, fs.all (fun p => !decide (p.1 = f)) = true → putP f P fs = fs ++ [(f, P)]
  | [], _ => rfl
  | (g, Q) :: r, h => by
    rw [List.all_cons, Bool.and_eq_true] at h
    have h1 : ¬ g = f := by simpa using h.1
    unfold putP
    rw [if_neg h1, putP_new h.2]
    rfl
theorem pg_one {X : Cx} (i : Nat) {x : Str} {pos : Pos} (hN : X.N.Nodup := by exact of_decide_eq_true (by kernel_rfl)) (hi : X.N[i]? = some x := by rfl) (hx : Loc X.env.scope x := by first | exact Or.inl rfl | exact Or.inr rfl) (hf : X.fn x = true ∨ X.env.scope.names.lookup x = some .local := by first | exact .inl rfl | exact .inr rfl) : PG X (.Name x pos) (gName i) := pg_name hN hi hx hf
theorem pg_two {X : Cx} (i j : Nat) {x y : Str} {k : Nat} {px py pos : Pos} (hN : X.N.Nodup := by exact of_decide_eq_true (by kernel_rfl)) (hi : X.N[i]? = some x := by rfl) (hj : X.N[j]? = some y := by rfl) (hx : Loc X.env.scope x := by first | exact Or.inl rfl | exact Or.inr rfl) (hy : Loc X.env.scope y := by first | exact Or.inl rfl | exact Or.inr rfl)
    (hf : X.fn x = true ∨ X.env.scope.names.lookup x = some .local := by first | exact .inl rfl | exact .inr rfl) (hg : X.fn y = true ∨ X.env.scope.names.lookup y = some .local := by first | exact .inl rfl | exact .inr rfl) (hc : X.calm = true := by rfl) : PG X (.Tuple [.Name x px, .Name y py] k pos) (gTup X.K 2 (gCons (gName i) (gCons (gName j) gNil))) :=
  pg_tup hc (pgs_cons (pg_name hN hi hx hf) (pgs_cons (pg_name hN hj hy hg) pgs_nil))
theorem gk_two {K : PySem.W.Frag} {P1 P2 : SP} {i j : Nat} : GOk (gTup K 2 (gCons (gName i) (gCons (gName j) gNil))) (tupP K [P1, P2]) [i, j] (fun ρ => (ρ.set i (some P1)).set j (some P2)) := gk_tup (gks_cons (gks_cons gks_nil))
theorem gk_twoD {K : PySem.W.Frag} {d1 d2 : PyData} {i j : Nat} : GOk (gTup K 2 (gCons (gName i) (gCons (gName j) gNil))) (dat K (.tuple [d1, d2])) [i, j] (fun ρ => (ρ.set i (some (dat K d1))).set j (some (dat K d2))) := gk_tupD (ds := [d1, d2]) (gks_cons (gks_cons gks_nil))
section
variable {X : Cx} {an : An} {K : PySem.W.Frag} {ρ : TF.Env} {W W1 W2 W3 W' Wz : Wd} {P R : SP} {Ps : List SP} {N : TF.Env → Wd → Prop} {rest body : List Stmt} {o i e c : Expr} {pos pos' p1 : Pos} {b : Addr} {k : Nat}
/-- o.f = e, a new field -/
theorem rs_fldN (k : Nat) {C : Addr} {fs : List (Str × SP)} {f : Str} (he : RV X an e ρ W W1 P) (ho : RV X an o ρ W1 W2 (refP b)) (hk : W2[k]? = some (b, insM C fs)) (c : Cls X.K C) (n : NoAttr X.K C f) (h : RSs X an rest ρ (W2.set k (b, insM C (fs ++ [(f, P)]))) N R Wz) (hf : fs.all (fun p => !decide (p.1 = f)) = true := by kernel_rfl) (hl : fs.length < 1000 := by exact of_decide_eq_true rfl)
    (hs : swapsWith e (some (.Attribute o f pos')) pos.line X.env = pure false := by rfl) : RSs X an (.Assign [.Attribute o f pos'] e pos :: rest) ρ W N R Wz :=
  rs_fld k he ho hk c n (by rw [putP_new hf]; exact h) hl hs
end
theorem FldsOk.imp {H : Hp} : ∀ {fs gs : List (Str × SP)} {vs : List (Str × V)}, Paired (fun (p q : Str × SP) => p.1 = q.1 ∧ Imp p.2 q.2) fs gs → FldsOk fs H vs → FldsOk gs H vs
  | _, _, _, .nil, .nil => .nil
  | _, _, _, .cons h t, .cons r u => .cons ⟨h.1 ▸ r.1, h.2 _ _ r.2⟩ (FldsOk.imp t u)
end TF
set_option Elab.async false
set_option linter.all false
set_option maxRecDepth 100000
set_option maxHeartbeats 4000000
/-! W4: Look. -/
namespace TF
open PySem PySem.Spec L2
open PyProof.Rows (envOfC)
section
variable {P : Program} {w : World} {K : PySem.W.Frag} {mg : Str → Option Value} {base : Heap} (T : TF.Txt K mg)
include T
theorem selP_all {α : Type} (f : α → SP) (l : List α) (d : α) {n : Nat} (hn : l.length = n) : selP n (fun _ => true) (fun i => f (l.getD i d)) = l.map f := by
  subst hn
  rw [selP_items (d := d) l (fun _ => true) f, List.filter_eq_self.mpr fun _ _ => rfl]
theorem w_Look_init : O_Look_init P w K mg base CX0 2 (mkSp (ι := Net × Addr) (fun q => [refP q.2, dat K (netD q.1)]) (fun q => [(q.2, insM (He.ga K "Look") [])]) (fun q => [(q.2, insM (He.ga K "Look") (lookF K (lkOf q.1)))]) (fun q => OkNet q.1) (fun _ => dat K .none)) := by
  refine okM T.f_Look_init (N := N_Look_init) (by constructor <;> first | rfl | decide | decide +kernel) (fun _ => rfl) fun cdv A1 outer s H E hr q hn an hO => ?_
  obtain ⟨n, x⟩ := q
  have hn : OkNet n := hn
  have hu : (A1.deeper (envOfC "Look.__init__" (defScope s_Look_init) s.heap.objs.size (He.ma K (He.ga K "Look") "__init__") cdv)).units + 1 < cLine := by
    have := hr.units
    omega
  refine rs_asg (rv_var 1) (pg_two 2 3) (gk_twoD (d1 := partsD n.places) (d2 := .tuple (n.firs.map firD))) ?_
  refine rs_fldN 0 (P := dat K (strsD n.names)) (rv_sub (rv_lc (n := n.places.length) (bt := fun _ => true) (E := fun i => dat K (.str (n.places.getD i ("", 0)).1)) (own := [("name", 4), ("begin", 5)]) (ri_tupM partD n.places ("", 0) (rv_var 2))
    (fun s H C cl fp => pg_two 4 5) (fun i hi => gk_twoD (d1 := .str (n.places.getD i ("", 0)).1) (d2 := .int (n.places.getD i ("", 0)).2)) (by decide) (fun s H C cl fp i W hi => rts_nil) (fun s H C cl fp i W hi _ => rv_var 4)) ?_) (rv_var 0) rfl T.c_Look T.a_Look_places ?_
  · rw [selP_all T (fun p : Str × Int => dat K (.str p.1)) n.places ("", 0) rfl]
    have e : n.places.map (fun p : Str × Int => dat K (.str p.1)) = (n.names.map PyData.str).map (dat K) := by
      unfold Net.names
      rw [List.map_map, List.map_map]
      rfl
    rw [e]
    exact fun H v z => lstP_dat (lstT_P z)
  refine rs_fldN 0 (P := dat K (intsT n.begin)) (rv_sub (rv_tupleOf T.n_tuple (rv_sub (rv_lc (n := n.places.length) (bt := fun _ => true) (E := fun i => dat K (.int (n.places.getD i ("", 0)).2)) (own := [("name", 4), ("begin", 5)]) (ri_tupM partD n.places ("", 0) (rv_var 2))
    (fun s H C cl fp => pg_two 4 5) (fun i hi => gk_twoD (d1 := .str (n.places.getD i ("", 0)).1) (d2 := .int (n.places.getD i ("", 0)).2)) (by decide) (fun s H C cl fp i W hi => rts_nil) (fun s H C cl fp i W hi _ => rv_var 5)) (fun H v z => lstT_P (K := K) z))) ?_) (rv_var 0) rfl T.c_Look T.a_Look_begin ?_
  · rw [selP_all T (fun p : Str × Int => dat K (.int p.2)) n.places ("", 0) rfl]
    have e : n.places.map (fun p : Str × Int => dat K (.int p.2)) = (n.begin.map PyData.int).map (dat K) := by
      unfold Net.begin
      rw [List.map_map, List.map_map]
      rfl
    rw [e]
    exact fun H v z => tupP_dat z
  refine rs_fldN 0 (P := dat K (strsD n.fnames)) (rv_sub (rv_lc (n := n.firs.length) (bt := fun _ => true) (E := fun i => dat K (.str (n.firs.getD i ⟨"", "", [], []⟩).name)) (own := [("firing", 6)]) (ri_tupM firD n.firs ⟨"", "", [], []⟩ (rv_var 3))
    (fun s H C cl fp => pg_one 6) (fun i hi => gk_name) (by decide) (fun s H C cl fp i W hi => rts_nil) (fun s H C cl fp i W hi _ => rv_ixTD (K := K) (k := 0) rfl (rv_var 6) rv_int)) ?_) (rv_var 0) rfl T.c_Look T.a_Look_names ?_
  · rw [selP_all T (fun p : Fir => dat K (.str p.name)) n.firs ⟨"", "", [], []⟩ rfl]
    have e : n.firs.map (fun p : Fir => dat K (.str p.name)) = (n.fnames.map PyData.str).map (dat K) := by
      unfold Net.fnames
      rw [List.map_map, List.map_map]
      rfl
    rw [e]
    exact fun H v z => lstP_dat (lstT_P z)
  have hz2 : n.firs.length ≤ 1000 := by have := hn.f2; omega
  have hinj : ∀ i j, i < j → j < n.firs.length → (n.firs.getD i ⟨"", "", [], []⟩).name ≠ (n.firs.getD j ⟨"", "", [], []⟩).name := fun i j hij hj e => by
    have hfl : n.fnames.length = n.firs.length := List.length_map ..
    have h1 : n.fnames.getD i "" = (n.firs.getD i ⟨"", "", [], []⟩).name := getD_mapN Fir.name n.firs ⟨"", "", [], []⟩ "" (by omega)
    have h2 : n.fnames.getD j "" = (n.firs.getD j ⟨"", "", [], []⟩).name := getD_mapN Fir.name n.firs ⟨"", "", [], []⟩ "" hj
    rw [← h1, ← h2, List.getD_eq_getElem?_getD, List.getD_eq_getElem?_getD, List.getElem?_eq_getElem (by omega), List.getElem?_eq_getElem (by omega)] at e
    have z := (List.getElem_inj (h₀ := by omega) (h₁ := by omega) hn.fd).mp e
    omega
  refine rs_fldN 0 (P := anyP) (rv_sub (rn_dctP (rn_dc (n := n.firs.length) (kf := fun i => (n.firs.getD i ⟨"", "", [], []⟩).name) (E := fun i => dat K (.str (n.firs.getD i ⟨"", "", [], []⟩).label)) (own := [("firing", 6)]) (ri_tupM firD n.firs ⟨"", "", [], []⟩ (rv_var 3))
    (fun s H C cl fp => pg_one 6) (fun i hi => gk_name) (by decide) hz2 hinj (fun s H C cl fp i W hi => rv_ixTD (K := K) (k := 0) rfl (rv_var 6) rv_int) (fun s H C cl fp i W hi => rv_ixTD (K := K) (k := 1) rfl (rv_var 6) rv_int))) fun _ _ _ => trivial) (rv_var 0) rfl T.c_Look T.a_Look_labels ?_
  have hz1 : n.names.length ≤ 1000 := by
    have := hn.p2
    unfold Net.names
    rw [List.length_map]
    omega
  have hrank : ∀ x, x ∈ n.names → findK (ksP n.names.length (fun i => n.names.getD i "") fun i => dat K (.int (i : Int))) (.inr x) = some (dat K (.int (n.names.idxOf x : Int))) := fun x hx => by
    refine findK_at (i := n.names.idxOf x) ?_ fun j p hj hp => ?_
    · unfold ksP
      rw [List.getElem?_map, List.getElem?_range (idx_lt hx)]
      simp only [Option.map_some]
      rw [List.getD_eq_getElem?_getD, idx_get hx]
      rfl
    · unfold ksP at hp
      have hl : j < n.names.length := Nat.lt_trans hj (idx_lt hx)
      rw [List.getElem?_map, List.getElem?_range hl] at hp
      have hp := (Option.some.inj hp).symm
      subst hp
      intro e
      have e : n.names.getD j "" = x := Sum.inr.inj e
      rw [List.getD_eq_getElem?_getD, List.getElem?_eq_getElem hl] at e
      have e : n.names[j] = x := e
      have z := (List.getElem_inj (h₀ := hl) (h₁ := idx_lt hx) hn.pd).mp (e.trans (List.getElem_idxOf (idx_lt hx)).symm)
      omega
  refine rs_set 7 (rn_dctP (rn_dc (n := n.names.length) (kf := fun i => n.names.getD i "") (E := fun i => dat K (.int (i : Int))) (own := [("at", 8), ("name", 4)]) (ri_enumLM PyData.str n.names "" T.n_enumerate (rv_fldO 0 (rv_var 0) rfl T.c_Look T.a_Look_places rfl) (by omega))
    (fun s H C cl fp => pg_two 8 4) (fun i hi => gk_two) (by decide) hz1 (fun i j hij hj e => ?_) (fun s H C cl fp i W hi => rv_var 4) (fun s H C cl fp i W hi => rv_var 8))) ?_
  · rw [List.getD_eq_getElem?_getD, List.getD_eq_getElem?_getD, List.getElem?_eq_getElem (by omega), List.getElem?_eq_getElem (by omega)] at e
    have z := (List.getElem_inj (h₀ := by omega) (h₁ := by omega) hn.pd).mp e
    omega
  refine rs_fldN 0 (P := dctP (ksP n.firs.length (fun i => (n.firs.getD i ⟨"", "", [], []⟩).name) fun i => dat K (rpsD (rkOf n.names (n.firs.getD i ⟨"", "", [], []⟩).takes)))) (rn_dctP (rn_dc (own := [("firing", 6)]) (ri_tupM firD n.firs ⟨"", "", [], []⟩ (rv_var 3))
    (fun s H C cl fp => pg_one 6) (fun i hi => gk_name) (by decide) hz2 hinj (fun s H C cl fp i W hi => rv_ixTD (K := K) (k := 0) rfl (rv_var 6) rv_int) (fun s H C cl fp i W hi => ?_))) (rv_var 0) rfl T.c_Look T.a_Look_takes ?_
  · have hp := (hn.fo _ (getD_mem (d := (⟨"", "", [], []⟩ : Fir)) hi)).tk
    refine rv_sub (rv_lc (n := (n.firs.getD i ⟨"", "", [], []⟩).takes.length) (bt := fun _ => true) (E := fun j => dat K (rpD (n.names.idxOf ((n.firs.getD i ⟨"", "", [], []⟩).takes.getD j ("", 0)).1, ((n.firs.getD i ⟨"", "", [], []⟩).takes.getD j ("", 0)).2))) (own := [("place", 9), ("count", 10)]) (ri_tupM partD (n.firs.getD i ⟨"", "", [], []⟩).takes ("", 0) (rv_ixTD (K := K) (k := 2) rfl (rv_var 6) rv_int))
      (fun s H C cl fp => pg_two 9 10) (fun j hj => gk_twoD (d1 := .str ((n.firs.getD i ⟨"", "", [], []⟩).takes.getD j ("", 0)).1) (d2 := .int ((n.firs.getD i ⟨"", "", [], []⟩).takes.getD j ("", 0)).2)) (by decide) (fun s H C cl fp j W hj => rts_nil) (fun s H C cl fp j W hj _ => ?_)) ?_
    · exact rv_tupD (ds := [.int _, .int _]) (ra_cons (rv_dget hu (rv_var 7) (rv_var 9) (hrank _ (hp.sub.subset (List.mem_map.mpr ⟨_, getD_mem hj, rfl⟩)))) (ra_cons (rv_var 10) ra_nil))
    · rw [selP_all T (fun p : Str × Int => dat K (rpD (n.names.idxOf p.1, p.2))) (n.firs.getD i ⟨"", "", [], []⟩).takes ("", 0) rfl]
      have e : (n.firs.getD i ⟨"", "", [], []⟩).takes.map (fun p : Str × Int => dat K (rpD (n.names.idxOf p.1, p.2))) = ((rkOf n.names (n.firs.getD i ⟨"", "", [], []⟩).takes).map rpD).map (dat K) := by
        unfold rkOf
        rw [List.map_map, List.map_map]
        rfl
      rw [e]
      exact fun H v z => lstP_dat (lstT_P z)
  refine rs_fldN 0 (P := dctP (ksP n.firs.length (fun i => (n.firs.getD i ⟨"", "", [], []⟩).name) fun i => dat K (rpsD (rkOf n.names (n.firs.getD i ⟨"", "", [], []⟩).gives)))) (rn_dctP (rn_dc (own := [("firing", 6)]) (ri_tupM firD n.firs ⟨"", "", [], []⟩ (rv_var 3))
    (fun s H C cl fp => pg_one 6) (fun i hi => gk_name) (by decide) hz2 hinj (fun s H C cl fp i W hi => rv_ixTD (K := K) (k := 0) rfl (rv_var 6) rv_int) (fun s H C cl fp i W hi => ?_))) (rv_var 0) rfl T.c_Look T.a_Look_gives ?_
  · have hp := (hn.fo _ (getD_mem (d := (⟨"", "", [], []⟩ : Fir)) hi)).gv
    refine rv_sub (rv_lc (n := (n.firs.getD i ⟨"", "", [], []⟩).gives.length) (bt := fun _ => true) (E := fun j => dat K (rpD (n.names.idxOf ((n.firs.getD i ⟨"", "", [], []⟩).gives.getD j ("", 0)).1, ((n.firs.getD i ⟨"", "", [], []⟩).gives.getD j ("", 0)).2))) (own := [("place", 9), ("count", 10)]) (ri_tupM partD (n.firs.getD i ⟨"", "", [], []⟩).gives ("", 0) (rv_ixTD (K := K) (k := 3) rfl (rv_var 6) rv_int))
      (fun s H C cl fp => pg_two 9 10) (fun j hj => gk_twoD (d1 := .str ((n.firs.getD i ⟨"", "", [], []⟩).gives.getD j ("", 0)).1) (d2 := .int ((n.firs.getD i ⟨"", "", [], []⟩).gives.getD j ("", 0)).2)) (by decide) (fun s H C cl fp j W hj => rts_nil) (fun s H C cl fp j W hj _ => ?_)) ?_
    · exact rv_tupD (ds := [.int _, .int _]) (ra_cons (rv_dget hu (rv_var 7) (rv_var 9) (hrank _ (hp.sub.subset (List.mem_map.mpr ⟨_, getD_mem hj, rfl⟩)))) (ra_cons (rv_var 10) ra_nil))
    · rw [selP_all T (fun p : Str × Int => dat K (rpD (n.names.idxOf p.1, p.2))) (n.firs.getD i ⟨"", "", [], []⟩).gives ("", 0) rfl]
      have e : (n.firs.getD i ⟨"", "", [], []⟩).gives.map (fun p : Str × Int => dat K (rpD (n.names.idxOf p.1, p.2))) = ((rkOf n.names (n.firs.getD i ⟨"", "", [], []⟩).gives).map rpD).map (dat K) := by
        unfold rkOf
        rw [List.map_map, List.map_map]
        rfl
      rw [e]
      exact fun H v z => lstP_dat (lstT_P z)
  refine rs_nil ⟨⟨by simp, fun c hc => ?_⟩, fun H => .non⟩
  have ec : c = (x, insM (He.ga K "Look") (lookF K (lkOf n))) := by simpa using hc
  subst ec
  refine ⟨hO (x, insM (He.ga K "Look") []) List.mem_cons_self, _, List.mem_cons_self, rfl, ?_⟩
  rintro H o ⟨dx, vs, e1, e2⟩
  have ek : ∀ g : Fir → PyData, ksP n.firs.length (fun i => (n.firs.getD i ⟨"", "", [], []⟩).name) (fun i => dat K (g (n.firs.getD i ⟨"", "", [], []⟩))) = n.firs.map fun f => (.inr f.name, dat K (g f)) := fun g => by
    unfold ksP
    have z := range_getD (d := (⟨"", "", [], []⟩ : Fir)) n.firs
    conv => rhs; rw [← z]
    rw [List.map_map]
    rfl
  refine ⟨dx, vs, e1, FldsOk.imp ?_ e2⟩
  have eb : (lkOf n).begin = n.begin := rfl
  have en : (lkOf n).fnames = n.fnames := by
    show (n.firs.map (sfOf n.names)).map SF.name = n.firs.map Fir.name
    rw [List.map_map]
    rfl
  refine .cons ⟨rfl, Imp.refl⟩ (.cons ⟨rfl, Imp.refl⟩ (.cons ⟨rfl, ?_⟩ (.cons ⟨rfl, Imp.refl⟩ (.cons ⟨rfl, ?_⟩ (.cons ⟨rfl, ?_⟩ .nil)))))
  · rw [en]
    exact Imp.refl
  · have e : tksK K (lkOf n).fs = n.firs.map fun f => (.inr f.name, dat K (rpsD (rkOf n.names f.takes))) := by
      show (n.firs.map (sfOf n.names)).map _ = _
      rw [List.map_map]
      rfl
    rw [e, ← ek fun f => rpsD (rkOf n.names f.takes)]
    exact Imp.refl
  · have e : gvsK K (lkOf n).fs = n.firs.map fun f => (.inr f.name, dat K (rpsD (rkOf n.names f.gives))) := by
      show (n.firs.map (sfOf n.names)).map _ = _
      rw [List.map_map]
      rfl
    rw [e, ← ek fun f => rpsD (rkOf n.names f.gives)]
    exact Imp.refl
theorem w_look_at : O_look_at P w K mg base CX0 7 (pureSp (ι := Net) (fun n => [dat K (netD n)]) OkNet (fun n => lookP K (lkOf n))) := by
  refine okPure T.f_look_at (N := N_look_at) (by constructor <;> first | rfl | decide | decide +kernel) (fun _ => rfl) fun cdv A1 outer s H E hr n hn an => ?_
  refine rs_expr (rv_must_net T (w_must_net T) (pureSp_ok n hn) hr (ra_cons (rv_var 0) ra_nil)) ?_
  exact rs_end (rn_rv (rn_make T.m_Look (w_Look_init T) (fun y => mkSp_ok (n, y) hn) (hr.mono (by omega)) T.g_Look (b_Look_init T) pass0 (ra_cons (rv_var 0) ra_nil)) fun H p o e h => insM_P H p o e h)
end
end TF
set_option Elab.async false
set_option linter.all false
set_option maxRecDepth 100000
set_option maxHeartbeats 4000000
/-! D4: what the program reckons with heaps, in plain words. -/
namespace TF
open PySem PySem.Spec L2
abbrev Heap0 := List Int
abbrev Wide := List (Option Int)
abbrev Rps := List (Nat × Int)
def oD : Option Int → PyData
  | some i => .int i
  | none => .none
def wD (w : Wide) : PyData := .tuple (w.map oD)
def wsD (ws : List Wide) : PyData := .list (ws.map wD)
theorem intsT_wD (h : Heap0) : intsT h = wD (h.map some) := by
  unfold intsT wD
  rw [List.map_map]
  rfl
def hsD (hs : List Heap0) : PyData := .list (hs.map intsT)
theorem hsD_wsD (hs : List Heap0) : hsD hs = wsD (hs.map fun h => h.map some) := by
  unfold hsD wsD
  rw [List.map_map]
  congr 1
  exact List.map_congr_left fun h _ => intsT_wD h
/-- what is taken is there -/
def enab (tk : Rps) (h : Heap0) : Bool := tk.all fun p => decide (p.2 ≤ h.getD p.1 0)
def subv (h : Heap0) (ps : Rps) : Heap0 := ps.foldl (fun h p => h.set p.1 (h.getD p.1 0 - p.2)) h
def addv (h : Heap0) (ps : Rps) : Heap0 := ps.foldl (fun h p => h.set p.1 (h.getD p.1 0 + p.2)) h
def cutv (h : Heap0) (ps : Rps) : Heap0 := ps.foldl (fun h p => h.set p.1 (max 0 (h.getD p.1 0 - p.2))) h
def beh (f : SF) (h : Heap0) : Heap0 := addv (subv h f.tk) f.gv
def bef (f : SF) (h : Heap0) : Heap0 := addv (cutv h f.gv) f.tk
def ovE (a b : Option Int) : Bool := match a with
  | none => true
  | some x => match b with
    | none => false
    | some y => decide (y ≤ x)
def isOver (a b : Wide) : Bool := (List.range a.length).all fun i => ovE (a.getD i none) (b.getD i none)
def wids (a b : Wide) : Wide := (List.range a.length).map fun i => if a.getD i none = b.getD i none then a.getD i none else none
def wcan (tk : Rps) (w : Wide) : Bool := tk.all fun p => match w.getD p.1 none with
  | none => true
  | some x => decide (p.2 ≤ x)
def wsub (w : Wide) (ps : Rps) : Wide := ps.foldl (fun w p => w.set p.1 ((w.getD p.1 none).map (· - p.2))) w
def wadd (w : Wide) (ps : Rps) : Wide := ps.foldl (fun w p => w.set p.1 ((w.getD p.1 none).map (· + p.2))) w
def wbeh (f : SF) (w : Wide) : Wide := wadd (wsub w f.tk) f.gv
structure LkOk (L : Lk) : Prop where
  nd : L.fnames.Nodup
  tr : ∀ f, f ∈ L.fs → ∀ p, p ∈ f.tk → p.1 < L.places.length ∧ 1 ≤ p.2
  gr : ∀ f, f ∈ L.fs → ∀ p, p ∈ f.gv → p.1 < L.places.length ∧ 1 ≤ p.2
  td : ∀ f, f ∈ L.fs → (f.tk.map Prod.fst).Nodup
  gd : ∀ f, f ∈ L.fs → (f.gv.map Prod.fst).Nodup
  bl : L.begin.length = L.places.length
  b0 : ∀ x, x ∈ L.begin → 0 ≤ x
  z1 : 1 ≤ L.places.length
  z2 : L.places.length ≤ 40
  z3 : L.fs.length ≤ 60
  no : ∀ f, f ∈ L.fs → OkName f.name
  pd : L.places.Nodup
theorem rk_ok {names : List Str} {ps : List (Str × Int)} (nd : names.Nodup) (h : OkParts names ps) : (∀ p, p ∈ rkOf names ps → p.1 < names.length ∧ 1 ≤ p.2) ∧ ((rkOf names ps).map Prod.fst).Nodup := by
  refine ⟨fun p hp => ?_, ?_⟩
  · obtain ⟨q, hq, e⟩ := List.mem_map.mp hp
    subst e
    exact ⟨idx_lt (h.sub.subset (List.mem_map.mpr ⟨q, hq, rfl⟩)), (h.cnt q hq).1⟩
  · unfold rkOf
    rw [List.map_map]
    have p := (idx_pairwise nd).sublist h.sub
    rw [List.pairwise_map] at p
    refine List.pairwise_map.mpr (p.imp fun {a b} z e => ?_)
    have e : names.idxOf a.1 = names.idxOf b.1 := e
    omega
theorem lk_ok {n : Net} (h : OkNet n) : LkOk (lkOf n) := by
  have hnl : n.names.length = n.places.length := List.length_map ..
  have hf : ∀ f, f ∈ (lkOf n).fs → ∃ g, g ∈ n.firs ∧ sfOf n.names g = f := fun f hf => List.mem_map.mp hf
  have en : (lkOf n).fnames = n.fnames := by
    show (n.firs.map (sfOf n.names)).map SF.name = n.firs.map Fir.name
    rw [List.map_map]
    rfl
  refine ⟨by rw [en]; exact h.fd, ?_, ?_, ?_, ?_, ?_, ?_, ?_, ?_, ?_, ?_, h.pd⟩
  · intro f hm
    obtain ⟨g, hg, e⟩ := hf f hm
    subst e
    exact (rk_ok h.pd (h.fo g hg).tk).1
  · intro f hm
    obtain ⟨g, hg, e⟩ := hf f hm
    subst e
    exact (rk_ok h.pd (h.fo g hg).gv).1
  · intro f hm
    obtain ⟨g, hg, e⟩ := hf f hm
    subst e
    exact (rk_ok h.pd (h.fo g hg).tk).2
  · intro f hm
    obtain ⟨g, hg, e⟩ := hf f hm
    subst e
    exact (rk_ok h.pd (h.fo g hg).gv).2
  · show n.begin.length = n.names.length
    unfold Net.begin Net.names
    rw [List.length_map, List.length_map]
  · intro x hx
    obtain ⟨p, hp, e⟩ := List.mem_map.mp hx
    exact e ▸ (h.pn p hp).2.1
  · show 1 ≤ n.names.length
    rw [hnl]
    exact h.p1
  · show n.names.length ≤ 40
    rw [hnl]
    exact h.p2
  · show (n.firs.map (sfOf n.names)).length ≤ 60
    rw [List.length_map]
    exact h.f2
  · intro f hm
    obtain ⟨g, hg, e⟩ := hf f hm
    subst e
    exact (h.fo g hg).nm
theorem Lk.inj {L : Lk} (h : L.fnames.Nodup) {f g : SF} (hf : f ∈ L.fs) (hg : g ∈ L.fs) (e : f.name = g.name) : f = g := by
  obtain ⟨i, hi, e1⟩ := List.mem_iff_getElem.mp hf
  obtain ⟨j, hj, e2⟩ := List.mem_iff_getElem.mp hg
  have z : i = j := by
    refine (List.getElem_inj (xs := L.fnames) (h₀ := by unfold Lk.fnames; rw [List.length_map]; exact hi) (h₁ := by unfold Lk.fnames; rw [List.length_map]; exact hj) h).mp ?_
    unfold Lk.fnames
    rw [List.getElem_map, List.getElem_map, e1, e2, e]
  subst z
  rw [← e1, ← e2]
theorem find_tks {K : PySem.W.Frag} {g : SF → SP} {L : Lk} (h : L.fnames.Nodup) {f : SF} (hf : f ∈ L.fs) : findK (L.fs.map fun f => (Sum.inr f.name, g f)) (.inr f.name) = some (g f) := by
  obtain ⟨i, hi, e1⟩ := List.mem_iff_getElem.mp hf
  refine findK_at (i := i) (by rw [List.getElem?_map, List.getElem?_eq_getElem hi, e1]; rfl) fun j p hj hp => ?_
  rw [List.getElem?_map, List.getElem?_eq_getElem (by omega)] at hp
  have hp := (Option.some.inj hp).symm
  subst hp
  intro e
  have e : L.fs[j].name = f.name := Sum.inr.inj e
  have z := Lk.inj h (List.getElem_mem _) hf e
  rw [← e1] at z
  have q := (List.getElem_inj (xs := L.fnames) (i := j) (j := i) (h₀ := by unfold Lk.fnames; rw [List.length_map]; omega) (h₁ := by unfold Lk.fnames; rw [List.length_map]; exact hi) h).mp (by
    unfold Lk.fnames
    rw [List.getElem_map, List.getElem_map, z])
  omega
theorem len_subv (ps : Rps) : ∀ h : Heap0, (subv h ps).length = h.length := by
  induction ps with
  | nil => intro h; rfl
  | cons p r ih =>
    intro h
    show (subv (h.set p.1 (h.getD p.1 0 - p.2)) r).length = _
    rw [ih, List.length_set]
theorem len_addv (ps : Rps) : ∀ h : Heap0, (addv h ps).length = h.length := by
  induction ps with
  | nil => intro h; rfl
  | cons p r ih =>
    intro h
    show (addv (h.set p.1 (h.getD p.1 0 + p.2)) r).length = _
    rw [ih, List.length_set]
theorem len_cutv (ps : Rps) : ∀ h : Heap0, (cutv h ps).length = h.length := by
  induction ps with
  | nil => intro h; rfl
  | cons p r ih =>
    intro h
    show (cutv (h.set p.1 (max 0 (h.getD p.1 0 - p.2))) r).length = _
    rw [ih, List.length_set]
theorem len_beh (f : SF) (h : Heap0) : (beh f h).length = h.length := by
  unfold beh
  rw [len_addv, len_subv]
theorem len_bef (f : SF) (h : Heap0) : (bef f h).length = h.length := by
  unfold bef
  rw [len_addv, len_cutv]
theorem len_wsub (ps : Rps) : ∀ h : Wide, (wsub h ps).length = h.length := by
  induction ps with
  | nil => intro h; rfl
  | cons p r ih =>
    intro h
    show (wsub (h.set p.1 ((h.getD p.1 none).map (· - p.2))) r).length = _
    rw [ih, List.length_set]
theorem len_wadd (ps : Rps) : ∀ h : Wide, (wadd h ps).length = h.length := by
  induction ps with
  | nil => intro h; rfl
  | cons p r ih =>
    intro h
    show (wadd (h.set p.1 ((h.getD p.1 none).map (· + p.2))) r).length = _
    rw [ih, List.length_set]
theorem len_wbeh (f : SF) (h : Wide) : (wbeh f h).length = h.length := by
  unfold wbeh
  rw [len_wadd, len_wsub]
theorem len_wids (a b : Wide) : (wids a b).length = a.length := by
  unfold wids
  rw [List.length_map, List.length_range]
end TF
set_option Elab.async false
set_option linter.all false
set_option maxRecDepth 100000
set_option maxHeartbeats 4000000
/-! W5: heaps. -/
namespace TF
open PySem PySem.Spec L2
open PyProof.Rows (envOfC)
section
variable {X : Cx} {an : An} {W W' : Wd} {e : Expr} {ρ : TF.Env} {Ps : List SP} {pos : Pos}
/-- list(a tuple), owned -/
theorem rn_listTup {p : Pos} (hm : X.mg "list" = none) (ha : RV X an e ρ W W' (tupP X.K Ps)) (hg : Gl X "list" := by rfl) (hs : starEach [e] X.env = (false, eval e X.env) :: starEach [] X.env := by rfl) (hpl : (backTo pos (starEach [] X.env)).any (·.1) = false := by rfl) : RN X an (.Call (.Name "list" p) [e] [] pos) ρ W W' (fun _ => lstM Ps) :=
  PEimp (pe_callTy call_list_of hg hm (by decide +kernel) (pa_cons ha pa_nil hs) (by decide) (by decide) hs hpl) fun σ H Q ⟨O, m, q⟩ => ⟨O, m, fun x H1 m1 s1 ⟨a, xs, ex, hq, sat⟩ => by
    refine ⟨a, xs, by rw [ex], .inr (same_t mn_le hq), fun p hp => ?_⟩
    obtain ⟨m2, e2⟩ := m1.new (mp := lstM Ps) (o := .lst xs) hp ⟨xs, rfl, sat⟩
    exact q p _ (m1.lv.new hp) (m1.new0 hp) m2 (by rw [e2]; exact s1)⟩
end
/-- ints as what is held -/
abbrev iP (K : PySem.W.Frag) (h : Heap0) : List SP := h.map fun x => dat K (.int x)
abbrev oP (K : PySem.W.Frag) (h : Wide) : List SP := h.map fun x => dat K (oD x)
theorem iP_intsT {K : PySem.W.Frag} {h : Heap0} : Imp (tupP K (iP K h)) (dat K (intsT h)) := fun H v z => by
  have e : iP K h = (h.map PyData.int).map (dat K) := by
    rw [List.map_map]
    rfl
  rw [e] at z
  exact tupP_dat z
theorem intsT_iP {K : PySem.W.Frag} {h : Heap0} : Imp (dat K (intsT h)) (tupP K (iP K h)) := fun H v z => by
  have e : iP K h = (h.map PyData.int).map (dat K) := by
    rw [List.map_map]
    rfl
  rw [e]
  exact dat_tupP z
theorem oP_wD {K : PySem.W.Frag} {h : Wide} : Imp (tupP K (oP K h)) (dat K (wD h)) := fun H v z => by
  have e : oP K h = (h.map oD).map (dat K) := by
    rw [List.map_map]
    rfl
  rw [e] at z
  exact tupP_dat z
theorem wD_oP {K : PySem.W.Frag} {h : Wide} : Imp (dat K (wD h)) (tupP K (oP K h)) := fun H v z => by
  have e : oP K h = (h.map oD).map (dat K) := by
    rw [List.map_map]
    rfl
  rw [e]
  exact dat_tupP z
theorem iP_at {K : PySem.W.Frag} {h : Heap0} {i : Nat} (hi : i < h.length) : (iP K h)[i]? = some (dat K (.int (h.getD i 0))) := by
  rw [List.getElem?_map, List.getElem?_eq_getElem hi, List.getD_eq_getElem?_getD, List.getElem?_eq_getElem hi]
  rfl
theorem oP_at {K : PySem.W.Frag} {h : Wide} {i : Nat} (hi : i < h.length) : (oP K h)[i]? = some (dat K (oD (h.getD i none))) := by
  rw [List.getElem?_map, List.getElem?_eq_getElem hi, List.getD_eq_getElem?_getD, List.getElem?_eq_getElem hi]
  rfl
theorem iP_set {K : PySem.W.Frag} {h : Heap0} {i : Nat} {x : Int} : (iP K h).set i (dat K (.int x)) = iP K (h.set i x) := (List.map_set ..).symm
theorem oP_set {K : PySem.W.Frag} {h : Wide} {i : Nat} {x : Option Int} : (oP K h).set i (dat K (oD x)) = oP K (h.set i x) := (List.map_set ..).symm
theorem fold_snoc {α β : Type} (g : β → α → β) (b : β) (l : List α) (d : α) {j : Nat} (hj : j < l.length) : (l.take (j + 1)).foldl g b = g ((l.take j).foldl g b) (l.getD j d) := by
  rw [snoc_take l d hj, List.foldl_append]
  rfl
theorem look_tk {X : Cx} {an : An} {W W' : Wd} {e : Expr} {ρ : TF.Env} {L : Lk} {pos : Pos} (T : TF.Txt X.K X.mg) (h : RV X an e ρ W W' (lookP X.K L)) (hb : attributeBase e "takes" X.env (eval e X.env) = eval e X.env := by rfl) : RV X an (.Attribute e "takes" pos) ρ W W' (dctP (tksK X.K L.fs)) := rv_fld h (insP_fld T.c_Look T.a_Look_takes rfl) hb
theorem look_gv {X : Cx} {an : An} {W W' : Wd} {e : Expr} {ρ : TF.Env} {L : Lk} {pos : Pos} (T : TF.Txt X.K X.mg) (h : RV X an e ρ W W' (lookP X.K L)) (hb : attributeBase e "gives" X.env (eval e X.env) = eval e X.env := by rfl) : RV X an (.Attribute e "gives" pos) ρ W W' (dctP (gvsK X.K L.fs)) := rv_fld h (insP_fld T.c_Look T.a_Look_gives rfl) hb
theorem look_places {X : Cx} {an : An} {W W' : Wd} {e : Expr} {ρ : TF.Env} {L : Lk} {pos : Pos} (T : TF.Txt X.K X.mg) (h : RV X an e ρ W W' (lookP X.K L)) (hb : attributeBase e "places" X.env (eval e X.env) = eval e X.env := by rfl) : RV X an (.Attribute e "places" pos) ρ W W' (dat X.K (strsD L.places)) := rv_fld h (insP_fld T.c_Look T.a_Look_places rfl) hb
theorem look_begin {X : Cx} {an : An} {W W' : Wd} {e : Expr} {ρ : TF.Env} {L : Lk} {pos : Pos} (T : TF.Txt X.K X.mg) (h : RV X an e ρ W W' (lookP X.K L)) (hb : attributeBase e "begin" X.env (eval e X.env) = eval e X.env := by rfl) : RV X an (.Attribute e "begin" pos) ρ W W' (dat X.K (intsT L.begin)) := rv_fld h (insP_fld T.c_Look T.a_Look_begin rfl) hb
theorem look_names {X : Cx} {an : An} {W W' : Wd} {e : Expr} {ρ : TF.Env} {L : Lk} {pos : Pos} (T : TF.Txt X.K X.mg) (h : RV X an e ρ W W' (lookP X.K L)) (hb : attributeBase e "names" X.env (eval e X.env) = eval e X.env := by rfl) : RV X an (.Attribute e "names" pos) ρ W W' (dat X.K (strsD L.fnames)) := rv_fld h (insP_fld T.c_Look T.a_Look_names rfl) hb
section
variable {P : Program} {w : World} {K : PySem.W.Frag} {mg : Str → Option Value} {base : Heap} (T : TF.Txt K mg)
include T
theorem w_is_count_firing : O_is_count_firing P w K mg base CX0 2 (pureSp (ι := Int) (fun i => [dat K (.int i)]) (fun _ => True) (fun i => dat K (.bool (decide (0 ≤ i))))) := by
  refine okPure T.f_is_count_firing (N := N_is_count_firing) (by constructor <;> first | rfl | decide | decide +kernel) (fun _ => rfl) fun cdv A1 outer s H E hr i _ an => ?_
  exact rs_end (rv_to (rv_and (v := true) (rv_isi (K := K) (n := "int") rfl T.n_isinstance T.n_int (rv_var 0)) fun _ => rv_and (v := true) (rv_to (rv_not (rv_isi (K := K) (n := "bool") rfl T.n_isinstance T.n_bool (rv_var 0))) rfl) fun _ => rv_one (rv_ge (rv_var 0) rv_int)) (by simp))
/-- a look, a heap, a firing of it -/
structure LH where
  L : Lk
  h : Heap0
  f : SF
structure LHok (q : LH) : Prop where
  ok : LkOk q.L
  hl : q.h.length = q.L.places.length
  hf : q.f ∈ q.L.fs
def lackP (K : PySem.W.Frag) (b : Bool) : SP := match b with
  | true => dat K .none
  | false => exP fun x : Str => dat K (.str x)
theorem w_Look_lacking : O_Look_lacking P w K mg base CX0 2 (pureSp (ι := LH) (fun q => [lookP K q.L, dat K (intsT q.h), dat K (.str q.f.name)]) LHok (fun q => lackP K (enab q.f.tk q.h))) := by
  refine okPure T.f_Look_lacking (N := N_Look_lacking) (by constructor <;> first | rfl | decide | decide +kernel) (fun _ => rfl) fun cdv A1 outer s H E hr q hq an => ?_
  obtain ⟨L, h, f⟩ := q
  obtain ⟨ok, hl, hf⟩ := hq
  have hl : h.length = L.places.length := hl
  have hu : (A1.deeper (envOfC "Look.lacking" (defScope s_Look_lacking) s.heap.objs.size (He.ma K (He.ga K "Look") "lacking") cdv)).units + 1 < cLine := by
    have := hr.units
    omega
  refine rs_cons (rs_for (ri_listM rpD f.tk (0, 0) (rv_dget hu (look_tk T (rv_var 0)) (rv_var 2) (by exact find_tks (K := K) (g := fun f => dat K (rpsD f.tk)) ok.nd hf))) (pg_two 3 4) (fun i hi => gk_twoD (d1 := .int ((f.tk.getD i (0, 0)).1 : Int)) (d2 := .int (f.tk.getD i (0, 0)).2))
    (fun j ρ W => (∃ (x3 x4 : Option SP), ρ = [some (lookP K L), some (dat K (intsT h)), some (dat K (.str f.name)), x3, x4]) ∧ W = [] ∧ enab (f.tk.take j) h = true) ⟨⟨none, none, rfl⟩, rfl, rfl⟩ ?_) fun ρ1 W1 ⟨⟨x3, x4, e1⟩, e2, e3⟩ => ?_
  · rintro j _ _ hj ⟨⟨x3, x4, rfl⟩, rfl, he⟩
    have hm : f.tk.getD j (0, 0) ∈ f.tk := getD_mem hj
    have hp := ok.tr f hf _ hm
    have hph : (f.tk.getD j (0, 0)).1 < h.length := hl ▸ hp.1
    refine rs_one (rs_ifS (rt_lt (K := K) (i := h.getD (f.tk.getD j (0, 0)).1 0) (rv_ixT (iP_at hph) (rv_sub (rv_var 1) intsT_iP) (rv_var 3)) (rv_var 4)) (fun hlt => ?_) fun hge => ?_)
    · have hn : enab f.tk h = false := by
        unfold enab
        rw [List.all_eq_false]
        refine ⟨_, hm, ?_⟩
        have := of_decide_eq_true hlt
        simp only [decide_eq_true_eq]
        omega
      have hpl : (L.places.map PyData.str)[(f.tk.getD j (0, 0)).1]? = some (.str L.places[(f.tk.getD j (0, 0)).1]) := by
        rw [List.getElem?_map, List.getElem?_eq_getElem hp.1]
        rfl
      show RSs _ an _ _ [] _ (lackP K (enab f.tk h)) []
      rw [hn]
      exact rs_end (rv_sub (rv_ixLD (K := K) hpl (look_places T (rv_var 0)) (rv_var 3)) fun H v z => ⟨_, z⟩)
    · refine rs_nil ⟨⟨_, _, rfl⟩, rfl, ?_⟩
      rw [snoc_take f.tk (0, 0) hj]
      unfold enab at he ⊢
      rw [List.all_append, he]
      have := of_decide_eq_false hge
      simp only [Bool.true_and, List.all_cons, List.all_nil, Bool.and_true, decide_eq_true_eq]
      omega
  · subst e1 e2
    rw [List.take_length] at e3
    show RSs _ an _ _ [] _ (lackP K (enab f.tk h)) []
    rw [e3]
    exact rs_end rv_non
theorem w_Look_behind : O_Look_behind P w K mg base CX0 2 (pureSp (ι := LH) (fun q => [lookP K q.L, dat K (intsT q.h), dat K (.str q.f.name)]) LHok (fun q => dat K (intsT (beh q.f q.h)))) := by
  refine okPure T.f_Look_behind (N := N_Look_behind) (by constructor <;> first | rfl | decide | decide +kernel) (fun _ => rfl) fun cdv A1 outer s H E hr q hq an => ?_
  obtain ⟨L, h, f⟩ := q
  obtain ⟨ok, hl, hf⟩ := hq
  have hl : h.length = L.places.length := hl
  have hu : (A1.deeper (envOfC "Look.behind" (defScope s_Look_behind) s.heap.objs.size (He.ma K (He.ga K "Look") "behind") cdv)).units + 1 < cLine := by
    have := hr.units
    omega
  refine rs_new 3 (rn_listTup T.n_list (rv_sub (rv_var 1) intsT_iP)) fun b hb => ?_
  refine rs_cons (rs_for (ri_listM rpD f.tk (0, 0) (rv_dget hu (look_tk T (rv_var 0)) (rv_var 2) (by exact find_tks (K := K) (g := fun f => dat K (rpsD f.tk)) ok.nd hf))) (pg_two 4 5) (fun i hi => gk_twoD (d1 := .int ((f.tk.getD i (0, 0)).1 : Int)) (d2 := .int (f.tk.getD i (0, 0)).2))
    (fun j ρ W => (∃ (x4 x5 : Option SP), ρ = [some (lookP K L), some (dat K (intsT h)), some (dat K (.str f.name)), some (refP b), x4, x5]) ∧ W = [(b, lstM (iP K (subv h (f.tk.take j))))]) ⟨⟨none, none, rfl⟩, rfl⟩ ?_) fun ρ1 W1 ⟨⟨x4, x5, e1⟩, e2⟩ => ?_
  · rintro j _ _ hj ⟨⟨x4, x5, rfl⟩, rfl⟩
    have hp := ok.tr f hf _ (getD_mem (d := ((0, 0) : Nat × Int)) hj)
    have hph : (f.tk.getD j (0, 0)).1 < (subv h (f.tk.take j)).length := by rw [len_subv, hl]; exact hp.1
    refine rs_augI 0 (K := K) ip_sub (rv_var 3) (rv_var 4) (rv_var 5) rfl (iP_at hph) (rs_nil ⟨⟨_, _, rfl⟩, ?_⟩)
    show [(b, lstM ((iP K (subv h (f.tk.take j))).set _ _))] = _
    rw [iP_set]
    have e := fold_snoc (fun (h : Heap0) (p : Nat × Int) => h.set p.1 (h.getD p.1 0 - p.2)) h f.tk (0, 0) hj
    unfold subv
    rw [e]
  subst e1 e2
  rw [List.take_length]
  refine rs_cons (rs_for (ri_listM rpD f.gv (0, 0) (rv_dget hu (look_gv T (rv_var 0)) (rv_var 2) (by exact find_tks (K := K) (g := fun f => dat K (rpsD f.gv)) ok.nd hf))) (pg_two 4 5) (fun i hi => gk_twoD (d1 := .int ((f.gv.getD i (0, 0)).1 : Int)) (d2 := .int (f.gv.getD i (0, 0)).2))
    (fun j ρ W => (∃ (x4 x5 : Option SP), ρ = [some (lookP K L), some (dat K (intsT h)), some (dat K (.str f.name)), some (refP b), x4, x5]) ∧ W = [(b, lstM (iP K (addv (subv h f.tk) (f.gv.take j))))]) ⟨⟨_, _, rfl⟩, rfl⟩ ?_) fun ρ1 W1 ⟨⟨x4, x5, e1⟩, e2⟩ => ?_
  · rintro j _ _ hj ⟨⟨x4, x5, rfl⟩, rfl⟩
    have hp := ok.gr f hf _ (getD_mem (d := ((0, 0) : Nat × Int)) hj)
    have hph : (f.gv.getD j (0, 0)).1 < (addv (subv h f.tk) (f.gv.take j)).length := by rw [len_addv, len_subv, hl]; exact hp.1
    refine rs_augI 0 (K := K) ip_add (rv_var 3) (rv_var 4) (rv_var 5) rfl (iP_at hph) (rs_nil ⟨⟨_, _, rfl⟩, ?_⟩)
    show [(b, lstM ((iP K (addv (subv h f.tk) (f.gv.take j))).set _ _))] = _
    rw [iP_set]
    have e := fold_snoc (fun (h : Heap0) (p : Nat × Int) => h.set p.1 (h.getD p.1 0 + p.2)) (subv h f.tk) f.gv (0, 0) hj
    unfold addv
    rw [e]
  subst e1 e2
  rw [List.take_length]
  refine rs_freeT (W := []) 3 hb ?_
  exact rs_end (rv_sub (rv_tupleOf T.n_tuple (rv_sub (rv_var 3) fun _ _ => lstT_P)) iP_intsT)
end
end TF
set_option Elab.async false
set_option linter.all false
set_option maxRecDepth 100000
set_option maxHeartbeats 4000000
/-! W6: heaps and wides. -/
namespace TF
open PySem PySem.Spec L2
open PyProof.Rows (envOfC)
theorem lackP_non {K : PySem.W.Frag} {b : Bool} : NonP (lackP K b) b := fun H v h => by
  cases b with
  | true =>
    have h : (dat K .none).p H v := h
    rw [dat_non h]
    rfl
  | false =>
    obtain ⟨x, h⟩ := h
    have h : (dat K (.str x)).p H v := h
    rw [dat_str h]
    rfl
section
variable {X : Cx} {an : An} {W W1 W2 : Wd} {o e e2 : Expr} {ρ : TF.Env} {L : Lk} {h : Heap0} {f : SF} {pos apos : Pos} {pl : Sem Bool}
theorem rv_lacking (T : TF.Txt X.K X.mg) (hq : LHok ⟨L, h, f⟩) (F : O_Look_lacking X.prog X.w X.K X.mg X.base CX0 2 (pureSp (ι := LH) (fun q => [lookP X.K q.L, dat X.K (intsT q.h), dat X.K (.str q.f.name)]) LHok (fun q => lackP X.K (enab q.f.tk q.h)))) (hr : Room 2 X.A)
    (ho : RV X an o ρ W W1 (lookP X.K L)) (ha : RA X an [e, e2] ρ W1 W2 [dat X.K (intsT h), dat X.K (.str f.name)]) (hst : starEach [e, e2] X.env = (false, eval e X.env) :: starEach [e2] X.env := by rfl) (hpl : (backTo pos (starEach [e2] X.env)).any (·.1) = false := by rfl)
    (ht : eval (.Call (.Attribute o "lacking" apos) [e, e2] [] pos) X.env = (do
      let ov ← eval o X.env
      standAt apos.atName
      let (f, first) ← holding [ov] (getMethod ov "lacking" pl)
      callWith pos f first (backTo pos (starEach [e, e2] X.env)) (backToKw pos (keywordEach [] X.env))) := by rfl) : RV X an (.Call (.Attribute o "lacking" apos) [e, e2] [] pos) ρ W W2 (lackP X.K (enab f.tk h)) :=
  rv_meth ho (insP_ins rfl) T.c_Look T.h_Look_lacking F (pureSp_ok (⟨L, h, f⟩ : LH) hq) hr (b_Look_lacking T) pass0 ha hst hpl ht
theorem rv_behind (T : TF.Txt X.K X.mg) (hq : LHok ⟨L, h, f⟩) (F : O_Look_behind X.prog X.w X.K X.mg X.base CX0 2 (pureSp (ι := LH) (fun q => [lookP X.K q.L, dat X.K (intsT q.h), dat X.K (.str q.f.name)]) LHok (fun q => dat X.K (intsT (beh q.f q.h))))) (hr : Room 2 X.A)
    (ho : RV X an o ρ W W1 (lookP X.K L)) (ha : RA X an [e, e2] ρ W1 W2 [dat X.K (intsT h), dat X.K (.str f.name)]) (hst : starEach [e, e2] X.env = (false, eval e X.env) :: starEach [e2] X.env := by rfl) (hpl : (backTo pos (starEach [e2] X.env)).any (·.1) = false := by rfl)
    (ht : eval (.Call (.Attribute o "behind" apos) [e, e2] [] pos) X.env = (do
      let ov ← eval o X.env
      standAt apos.atName
      let (f, first) ← holding [ov] (getMethod ov "behind" pl)
      callWith pos f first (backTo pos (starEach [e, e2] X.env)) (backToKw pos (keywordEach [] X.env))) := by rfl) : RV X an (.Call (.Attribute o "behind" apos) [e, e2] [] pos) ρ W W2 (dat X.K (intsT (beh f h))) :=
  rv_meth ho (insP_ins rfl) T.c_Look T.h_Look_behind F (pureSp_ok (⟨L, h, f⟩ : LH) hq) hr (b_Look_behind T) pass0 ha hst hpl ht
end
theorem ri_zipW {X : Cx} {an : An} {W W1 W2 : Wd} {e e2 : Expr} {ρ : TF.Env} {a b : Wide} {p pos tpos kpos cpos : Pos} {j : Nat} {elts : List Expr} {kk : Nat} (hm : X.mg "zip" = none) (ha : RV X an e ρ W W1 (dat X.K (wD a))) (hb : RV X an e2 ρ W1 W2 (dat X.K (wD b))) (hl : a.length = b.length) (hz : a.length ≤ 1000) (hg : Gl X "zip" := by rfl)
    (h1 : starEach [e, e2] X.env = (false, eval e X.env) :: starEach [e2] X.env := by rfl) (h2 : starEach [e2] X.env = (false, eval e2 X.env) :: starEach [] X.env := by rfl)
    (hs : backTo pos (starEach [e, e2] X.env) = (false, eval e X.env) :: backTo pos (starEach [e2] X.env) := by rfl) (hpl : (backTo pos (starEach [e, e2] X.env)).any (·.1) = false := by rfl) :
    RI X an (.Tuple elts kk tpos) (.Call (.Name "zip" p) [e, e2] [⟨some "strict", .Constant (.bool true) j cpos, kpos⟩] pos) ρ W W2 (fun i => tupP X.K [dat X.K (oD (a.getD i none)), dat X.K (oD (b.getD i none))]) a.length := by
  have ea : (oP X.K a).length = a.length := List.length_map ..
  have eb : (oP X.K b).length = b.length := List.length_map ..
  have z := ri_zip (elts := elts) (kk := kk) (tpos := tpos) (p := p) (pos := pos) (kpos := kpos) (cpos := cpos) (j := j) hm (rv_sub ha wD_oP) (rv_sub hb wD_oP) (by rw [ea, eb]; exact hl) (by rw [ea]; exact hz) hg h1 h2 hs hpl
  rw [ea] at z
  refine ri_sub z fun i hi => ?_
  have e1 : (oP X.K a).getD i default = dat X.K (oD (a.getD i none)) := getD_map (f := fun x => dat X.K (oD x)) hi
  have e2 : (oP X.K b).getD i default = dat X.K (oD (b.getD i none)) := getD_map (f := fun x => dat X.K (oD x)) (hl ▸ hi)
  show Imp (tupP X.K [(oP X.K a).getD i default, (oP X.K b).getD i default]) _
  rw [e1, e2]
  exact Imp.refl
theorem strsD_fs (L : Lk) : strsD L.fnames = .list (L.fs.map fun f => .str f.name) := by
  unfold strsD Lk.fnames
  rw [List.map_map]
  rfl
theorem lst_strs {K : PySem.W.Frag} (l : List SF) : Imp (lstT (l.map fun f => dat K (.str f.name))) (dat K (.list (l.map fun f => .str f.name))) := fun H v z => by
  have e : (l.map fun f => dat K (.str f.name)) = (l.map fun f => PyData.str f.name).map (dat K) := by
    rw [List.map_map]
    rfl
  rw [e] at z
  exact lstP_dat (lstT_P z)
theorem all_range {n : Nat} {p : Nat → Bool} : ((List.range n).map p).all id = (List.range n).all p := by
  rw [List.all_map]
  rfl
theorem selP_map {n : Nat} (g : Nat → PyData) (K : PySem.W.Frag) : selP n (fun _ => true) (fun i => dat K (g i)) = ((List.range n).map g).map (dat K) := by
  unfold selP
  rw [List.filter_eq_self.mpr fun _ _ => rfl, List.map_map]
  rfl
theorem selP_bools {n : Nat} (p : Nat → Bool) (K : PySem.W.Frag) : selP n (fun _ => true) (fun i => dat K (.bool (p i))) = ((List.range n).map p).map fun c => dat K (.bool c) := by
  unfold selP
  rw [List.filter_eq_self.mpr fun _ _ => rfl, List.map_map]
  rfl
section
variable {P : Program} {w : World} {K : PySem.W.Frag} {mg : Str → Option Value} {base : Heap} (T : TF.Txt K mg)
include T
theorem w_Look_can : O_Look_can P w K mg base CX0 3 (pureSp (ι := Lk × Heap0) (fun q => [lookP K q.1, dat K (intsT q.2)]) (fun q => LkOk q.1 ∧ q.2.length = q.1.places.length) (fun q => dat K (.list ((q.1.fs.filter fun f => enab f.tk q.2).map fun f => .str f.name)))) := by
  refine okPure T.f_Look_can (N := N_Look_can) (by constructor <;> first | rfl | decide | decide +kernel) (fun _ => rfl) fun cdv A1 outer s H E hr q hq an => ?_
  obtain ⟨L, h⟩ := q
  obtain ⟨ok, hl⟩ := hq
  refine rs_end (rv_sub (rv_lc (n := L.fs.length) (bt := fun i => enab (L.fs.getD i default).tk h) (E := fun i => dat K (.str (L.fs.getD i default).name)) (own := [("name", 2)]) (ri_listM (fun f : SF => PyData.str f.name) L.fs default (rv_to (look_names T (rv_var 0)) (strsD_fs L))) (fun s H C cl fp => pg_one 2) (fun i hi => gk_name) (by decide)
    (fun s H C cl fp i W hi => rts_one (rt_isN K lackP_non (rv_lacking T ⟨ok, hl, getD_mem hi⟩ (w_Look_lacking T) hr (rv_var 0) (ra_cons (rv_var 1) (ra_cons (rv_var 2) ra_nil))))) (fun s H C cl fp i W hi _ => rv_var 2)) ?_)
  rw [selP_items (d := default) L.fs (fun f => enab f.tk h) fun f => dat K (.str f.name)]
  exact lst_strs _
structure TwoW where
  a : Wide
  b : Wide
theorem w_is_over : O_is_over P w K mg base CX0 2 (pureSp (ι := TwoW) (fun q => [dat K (wD q.a), dat K (wD q.b)]) (fun q => q.a.length = q.b.length ∧ q.a.length ≤ 40) (fun q => dat K (.bool (isOver q.a q.b)))) := by
  refine okPure T.f_is_over (N := N_is_over) (by constructor <;> first | rfl | decide | decide +kernel) (fun _ => rfl) fun cdv A1 outer s H E hr q hq an => ?_
  obtain ⟨a, b⟩ := q
  obtain ⟨hl, hz⟩ := hq
  have hl : a.length = b.length := hl
  have hz : a.length ≤ 40 := hz
  refine rs_end (rv_to (rv_all (bs := (List.range a.length).map fun i => ovE (a.getD i none) (b.getD i none)) T.n_all (rv_sub (rv_lc (n := a.length) (bt := fun _ => true) (E := fun i => dat K (.bool (ovE (a.getD i none) (b.getD i none)))) (own := [("a", 2), ("b", 3)]) (ri_zipW (a := a) (b := b) T.n_zip (rv_var 0) (rv_var 1) hl (by omega)) (fun s H C cl fp => pg_two 2 3)
    (fun i hi => gk_two) (by decide) (fun s H C cl fp i W hi => rts_nil) (fun s H C cl fp i W hi _ => ?_)) (by rw [selP_bools]; exact Imp.refl))) (by rw [all_range]; rfl))
  generalize a.getD i none = x
  generalize b.getD i none = y
  cases x with
  | none => exact rv_or (v := true) (w := false) (rv_isN nonP_dat (rv_var 2)) fun h => by cases h
  | some x =>
    cases y with
    | none => exact rv_or (v := false) (w := false) (rv_isN nonP_dat (rv_var 2)) fun _ => rv_one (rv_and (v := false) (w := false) (rv_to (rv_notN nonP_dat (rv_var 3)) rfl) fun h => by cases h)
    | some y => exact rv_or (v := false) (rv_isN nonP_dat (rv_var 2)) fun _ => rv_one (rv_and (v := true) (rv_to (rv_notN nonP_dat (rv_var 3)) rfl) fun _ => rv_one (rv_ge (rv_var 2) (rv_var 3)))
theorem w_widened : O_widened P w K mg base CX0 2 (pureSp (ι := TwoW) (fun q => [dat K (wD q.a), dat K (wD q.b)]) (fun q => q.a.length = q.b.length ∧ q.a.length ≤ 40) (fun q => dat K (wD (wids q.a q.b)))) := by
  refine okPure T.f_widened (N := N_widened) (by constructor <;> first | rfl | decide | decide +kernel) (fun _ => rfl) fun cdv A1 outer s H E hr q hq an => ?_
  obtain ⟨a, b⟩ := q
  obtain ⟨hl, hz⟩ := hq
  have hl : a.length = b.length := hl
  have hz : a.length ≤ 40 := hz
  have hu : (A1.deeper (envOfC "widened" (defScope s_widened) s.heap.objs.size (He.ga K "widened") cdv)).units + 64 < cLine := hr.units
  refine rs_end (rv_sub (rv_tupleOf T.n_tuple (rv_sub (rv_lc (n := a.length) (bt := fun _ => true) (E := fun i => dat K (oD (if a.getD i none = b.getD i none then a.getD i none else none))) (own := [("a", 2), ("b", 3)]) (ri_zipW (a := a) (b := b) T.n_zip (rv_var 0) (rv_var 1) hl (by omega)) (fun s H C cl fp => pg_two 2 3)
    (fun i hi => gk_two) (by decide) (fun s H C cl fp i W hi => rts_nil) (fun s H C cl fp i W hi _ => ?_)) fun H v z => lstT_P (K := K) z)) ?_)
  · have hsh : ∀ x : Option Int, SeqAt.shaped (oD x) = true ∧ nb (oD x) = true := fun x => by
      cases x with
      | none => exact ⟨flt_none.shaped, rfl⟩
      | some x => exact ⟨(flt_int x).shaped, rfl⟩
    generalize a.getD i none = x
    generalize b.getD i none = y
    refine rv_if (rt_eqD hu (hsh x).1 (hsh y).1 (rv_var 2) (rv_var 3)) (fun h => ?_) fun h => ?_
    · have e : x = y := by
        have z := (eqv_iff _ _ (hsh x).2 (hsh y).2).mp h
        cases x <;> cases y <;> simp_all [oD]
      rw [if_pos e]
      exact rv_var 2
    · have e : ¬ x = y := fun e => by
        subst e
        rw [(eqv_iff _ _ (hsh x).2 (hsh x).2).mpr rfl] at h
        cases h
      rw [if_neg e]
      exact rv_non
  · have e : selP a.length (fun _ => true) (fun i => dat K (oD (if a.getD i none = b.getD i none then a.getD i none else none))) = oP K (wids a b) := by
      rw [selP_map (fun i => oD (if a.getD i none = b.getD i none then a.getD i none else none)) K]
      unfold wids
      rw [List.map_map]
      show _ = List.map (fun x => dat K (oD x)) (List.map (fun i => if List.getD a i none = List.getD b i none then List.getD a i none else none) (List.range a.length))
      rw [List.map_map]
      rfl
    rw [e]
    exact oP_wD
theorem w_over_some : O_over_some P w K mg base CX0 3 (pureSp (ι := Wide × List Wide) (fun q => [dat K (wD q.1), dat K (wsD q.2)]) (fun q => q.1.length ≤ 40 ∧ ∀ x, x ∈ q.2 → x.length = q.1.length) (fun q => dat K (.bool (q.2.any fun x => isOver q.1 x)))) := by
  refine okPure T.f_over_some (N := N_over_some) (by constructor <;> first | rfl | decide | decide +kernel) (fun _ => rfl) fun cdv A1 outer s H E hr q hq an => ?_
  obtain ⟨h, ws⟩ := q
  obtain ⟨hz, hl⟩ := hq
  refine rs_end (rv_to (rv_any (bs := ws.map fun x => isOver h x) T.n_any (rv_sub (rv_lc (n := ws.length) (bt := fun _ => true) (E := fun i => dat K (.bool (isOver h (ws.getD i [])))) (own := [("one", 2)]) (ri_listM wD ws [] (rv_var 1)) (fun s H C cl fp => pg_one 2)
    (fun i hi => gk_name) (by decide) (fun s H C cl fp i W hi => rts_nil) (fun s H C cl fp i W hi _ => rv_is_over T (w_is_over T) (pureSp_ok (⟨h, ws.getD i []⟩ : TwoW) ⟨(hl _ (getD_mem hi)).symm, hz⟩) hr (ra_cons (rv_var 0) (ra_cons (rv_var 2) ra_nil)))) ?_)) ?_)
  · rw [selP_all T (fun x => dat K (.bool (isOver h x))) ws [] rfl, List.map_map]
    exact Imp.refl
  · rw [List.any_map]
    rfl
structure LW where
  L : Lk
  h : Wide
  f : SF
structure LWok (q : LW) : Prop where
  ok : LkOk q.L
  hl : q.h.length = q.L.places.length
  hf : q.f ∈ q.L.fs
theorem w_wide_can : O_wide_can P w K mg base CX0 2 (pureSp (ι := LW) (fun q => [lookP K q.L, dat K (wD q.h), dat K (.str q.f.name)]) LWok (fun q => dat K (.bool (wcan q.f.tk q.h)))) := by
  refine okPure T.f_wide_can (N := N_wide_can) (by constructor <;> first | rfl | decide | decide +kernel) (fun _ => rfl) fun cdv A1 outer s H E hr q hq an => ?_
  obtain ⟨L, h, f⟩ := q
  obtain ⟨ok, hl, hf⟩ := hq
  have hl : h.length = L.places.length := hl
  have hu : (A1.deeper (envOfC "wide_can" (defScope s_wide_can) s.heap.objs.size (He.ga K "wide_can") cdv)).units + 1 < cLine := by
    have := hr.units
    omega
  let g : Nat × Int → Bool := fun p => match h.getD p.1 none with
    | none => true
    | some x => decide (p.2 ≤ x)
  refine rs_end (rv_to (rv_all (bs := f.tk.map g) T.n_all (rv_sub (rv_lc (n := f.tk.length) (bt := fun _ => true) (E := fun i => dat K (.bool (g (f.tk.getD i (0, 0))))) (own := [("at", 3), ("count", 4)]) (ri_listM rpD f.tk (0, 0) (rv_dget hu (look_tk T (rv_var 0)) (rv_var 2) (by exact find_tks (K := K) (g := fun f => dat K (rpsD f.tk)) ok.nd hf)))
    (fun s H C cl fp => pg_two 3 4) (fun i hi => gk_twoD (d1 := .int ((f.tk.getD i (0, 0)).1 : Int)) (d2 := .int (f.tk.getD i (0, 0)).2)) (by decide) (fun s H C cl fp i W hi => rts_nil) (fun s H C cl fp i W hi _ => ?_)) ?_)) ?_)
  · have hp := ok.tr f hf _ (getD_mem (d := ((0, 0) : Nat × Int)) hi)
    have hph : (f.tk.getD i (0, 0)).1 < h.length := hl ▸ hp.1
    have hat := oP_at (K := K) hph
    show RV _ an _ _ W W (dat K (.bool (match h.getD (f.tk.getD i (0, 0)).1 none with
      | none => true
      | some x => decide ((f.tk.getD i (0, 0)).2 ≤ x))))
    generalize h.getD (f.tk.getD i (0, 0)).1 none = y at hat
    cases y with
    | none => exact rv_or (v := true) (w := false) (rv_isN nonP_dat (rv_ixT hat (rv_sub (rv_var 1) wD_oP) (rv_var 3))) fun h => by cases h
    | some x => exact rv_or (v := false) (rv_isN nonP_dat (rv_ixT hat (rv_sub (rv_var 1) wD_oP) (rv_var 3))) fun _ => rv_one (rv_ge (rv_ixT hat (rv_sub (rv_var 1) wD_oP) (rv_var 3)) (rv_var 4))
  · rw [selP_all T (fun x => dat K (.bool (g x))) f.tk (0, 0) rfl, List.map_map]
    exact Imp.refl
  · rw [List.all_map]
    rfl
end
end TF
set_option Elab.async false
set_option linter.all false
set_option maxRecDepth 100000
set_option maxHeartbeats 4000000
/-! W7: wide_behind, before, heap_fault, must_heap, is_row, row_end. -/
namespace TF
open PySem PySem.Spec L2
open PyProof.Rows (envOfC)
theorem set_getD_self {α : Type} {l : List α} {d : α} {i : Nat} (h : i < l.length) : l.set i (l.getD i d) = l := by
  have e : l.getD i d = l[i] := by
    rw [List.getD_eq_getElem?_getD, List.getElem?_eq_getElem h]
    rfl
  rw [e]
  exact List.set_getElem_self h
def runTo (h : Heap0) (row : List SF) : Heap0 := row.foldl (fun h f => beh f h) h
theorem len_run (row : List SF) : ∀ h : Heap0, (runTo h row).length = h.length := by
  induction row with
  | nil => intro h; rfl
  | cons f r ih =>
    intro h
    show (runTo (beh f h) r).length = _
    rw [ih, len_beh]
section
variable {P : Program} {w : World} {K : PySem.W.Frag} {mg : Str → Option Value} {base : Heap} (T : TF.Txt K mg)
include T
theorem w_wide_behind : O_wide_behind P w K mg base CX0 2 (pureSp (ι := LW) (fun q => [lookP K q.L, dat K (wD q.h), dat K (.str q.f.name)]) LWok (fun q => dat K (wD (wbeh q.f q.h)))) := by
  refine okPure T.f_wide_behind (N := N_wide_behind) (by constructor <;> first | rfl | decide | decide +kernel) (fun _ => rfl) fun cdv A1 outer s H E hr q hq an => ?_
  obtain ⟨L, h, f⟩ := q
  obtain ⟨ok, hl, hf⟩ := hq
  have hl : h.length = L.places.length := hl
  have hu : (A1.deeper (envOfC "wide_behind" (defScope s_wide_behind) s.heap.objs.size (He.ga K "wide_behind") cdv)).units + 1 < cLine := by
    have := hr.units
    omega
  refine rs_new 3 (rn_listTup T.n_list (rv_sub (rv_var 1) wD_oP)) fun b hb => ?_
  refine rs_cons (rs_for (ri_listM rpD f.tk (0, 0) (rv_dget hu (look_tk T (rv_var 0)) (rv_var 2) (by exact find_tks (K := K) (g := fun f => dat K (rpsD f.tk)) ok.nd hf))) (pg_two 4 5) (fun i hi => gk_twoD (d1 := .int ((f.tk.getD i (0, 0)).1 : Int)) (d2 := .int (f.tk.getD i (0, 0)).2))
    (fun j ρ W => (∃ (x4 x5 : Option SP), ρ = [some (lookP K L), some (dat K (wD h)), some (dat K (.str f.name)), some (refP b), x4, x5]) ∧ W = [(b, lstM (oP K (wsub h (f.tk.take j))))]) ⟨⟨none, none, rfl⟩, rfl⟩ ?_) fun ρ1 W1 ⟨⟨x4, x5, e1⟩, e2⟩ => ?_
  · rintro j _ _ hj ⟨⟨x4, x5, rfl⟩, rfl⟩
    have hp := ok.tr f hf _ (getD_mem (d := ((0, 0) : Nat × Int)) hj)
    have hph : (f.tk.getD j (0, 0)).1 < (wsub h (f.tk.take j)).length := by rw [len_wsub, hl]; exact hp.1
    have e := fold_snoc (fun (h : Wide) (p : Nat × Int) => h.set p.1 ((h.getD p.1 none).map (· - p.2))) h f.tk (0, 0) hj
    have e : wsub h (f.tk.take (j + 1)) = (wsub h (f.tk.take j)).set (f.tk.getD j (0, 0)).1 (((wsub h (f.tk.take j)).getD (f.tk.getD j (0, 0)).1 none).map (· - (f.tk.getD j (0, 0)).2)) := e
    have hat := oP_at (K := K) hph
    rw [e]
    generalize hy : (wsub h (f.tk.take j)).getD (f.tk.getD j (0, 0)).1 none = y at hat ⊢
    refine rs_one (rs_ifS (rt_notN K nonP_dat (rv_ixO 0 (rv_var 3) (rv_var 4) rfl hat)) (fun hn => ?_) fun hn => ?_)
    · cases y with
      | none => cases hn
      | some u =>
        refine rs_augI 0 (K := K) (u := u) ip_sub (rv_var 3) (rv_var 4) (rv_var 5) rfl hat (rs_nil ⟨⟨_, _, rfl⟩, ?_⟩)
        show [(b, lstM ((oP K (wsub h (f.tk.take j))).set _ (dat K (oD (some (u - (f.tk.getD j (0, 0)).2))))))] = _
        rw [oP_set]
        rfl
    · cases y with
      | some u => cases hn
      | none =>
        refine rs_nil ⟨⟨_, _, rfl⟩, ?_⟩
        have es : (wsub h (f.tk.take j)).set (f.tk.getD j (0, 0)).1 (none : Option Int) = wsub h (f.tk.take j) := by
          rw [← hy]
          exact set_getD_self hph
        show _ = [(b, lstM (oP K ((wsub h (f.tk.take j)).set (f.tk.getD j (0, 0)).1 (none : Option Int))))]
        rw [es]
  subst e1 e2
  rw [List.take_length]
  refine rs_cons (rs_for (ri_listM rpD f.gv (0, 0) (rv_dget hu (look_gv T (rv_var 0)) (rv_var 2) (by exact find_tks (K := K) (g := fun f => dat K (rpsD f.gv)) ok.nd hf))) (pg_two 4 5) (fun i hi => gk_twoD (d1 := .int ((f.gv.getD i (0, 0)).1 : Int)) (d2 := .int (f.gv.getD i (0, 0)).2))
    (fun j ρ W => (∃ (x4 x5 : Option SP), ρ = [some (lookP K L), some (dat K (wD h)), some (dat K (.str f.name)), some (refP b), x4, x5]) ∧ W = [(b, lstM (oP K (wadd (wsub h f.tk) (f.gv.take j))))]) ⟨⟨_, _, rfl⟩, rfl⟩ ?_) fun ρ1 W1 ⟨⟨x4, x5, e1⟩, e2⟩ => ?_
  · rintro j _ _ hj ⟨⟨x4, x5, rfl⟩, rfl⟩
    have hp := ok.gr f hf _ (getD_mem (d := ((0, 0) : Nat × Int)) hj)
    have hph : (f.gv.getD j (0, 0)).1 < (wadd (wsub h f.tk) (f.gv.take j)).length := by rw [len_wadd, len_wsub, hl]; exact hp.1
    have e := fold_snoc (fun (h : Wide) (p : Nat × Int) => h.set p.1 ((h.getD p.1 none).map (· + p.2))) (wsub h f.tk) f.gv (0, 0) hj
    have e : wadd (wsub h f.tk) (f.gv.take (j + 1)) = (wadd (wsub h f.tk) (f.gv.take j)).set (f.gv.getD j (0, 0)).1 (((wadd (wsub h f.tk) (f.gv.take j)).getD (f.gv.getD j (0, 0)).1 none).map (· + (f.gv.getD j (0, 0)).2)) := e
    have hat := oP_at (K := K) hph
    rw [e]
    generalize hy : (wadd (wsub h f.tk) (f.gv.take j)).getD (f.gv.getD j (0, 0)).1 none = y at hat ⊢
    refine rs_one (rs_ifS (rt_notN K nonP_dat (rv_ixO 0 (rv_var 3) (rv_var 4) rfl hat)) (fun hn => ?_) fun hn => ?_)
    · cases y with
      | none => cases hn
      | some u =>
        refine rs_augI 0 (K := K) (u := u) ip_add (rv_var 3) (rv_var 4) (rv_var 5) rfl hat (rs_nil ⟨⟨_, _, rfl⟩, ?_⟩)
        show [(b, lstM ((oP K (wadd (wsub h f.tk) (f.gv.take j))).set _ (dat K (oD (some (u + (f.gv.getD j (0, 0)).2))))))] = _
        rw [oP_set]
        rfl
    · cases y with
      | some u => cases hn
      | none =>
        refine rs_nil ⟨⟨_, _, rfl⟩, ?_⟩
        have es : (wadd (wsub h f.tk) (f.gv.take j)).set (f.gv.getD j (0, 0)).1 (none : Option Int) = wadd (wsub h f.tk) (f.gv.take j) := by
          rw [← hy]
          exact set_getD_self hph
        show _ = [(b, lstM (oP K ((wadd (wsub h f.tk) (f.gv.take j)).set (f.gv.getD j (0, 0)).1 (none : Option Int))))]
        rw [es]
  subst e1 e2
  rw [List.take_length]
  refine rs_freeT (W := []) 3 hb ?_
  exact rs_end (rv_sub (rv_tupleOf T.n_tuple (rv_sub (rv_var 3) fun _ _ => lstT_P)) oP_wD)
theorem w_before : O_before P w K mg base CX0 2 (pureSp (ι := LH) (fun q => [lookP K q.L, dat K (intsT q.h), dat K (.str q.f.name)]) LHok (fun q => dat K (intsT (bef q.f q.h)))) := by
  refine okPure T.f_before (N := N_before) (by constructor <;> first | rfl | decide | decide +kernel) (fun _ => rfl) fun cdv A1 outer s H E hr q hq an => ?_
  obtain ⟨L, h, f⟩ := q
  obtain ⟨ok, hl, hf⟩ := hq
  have hl : h.length = L.places.length := hl
  have hu : (A1.deeper (envOfC "before" (defScope s_before) s.heap.objs.size (He.ga K "before") cdv)).units + 1 < cLine := by
    have := hr.units
    omega
  refine rs_new 3 (rn_listTup T.n_list (rv_sub (rv_var 1) intsT_iP)) fun b hb => ?_
  refine rs_cons (rs_for (ri_listM rpD f.gv (0, 0) (rv_dget hu (look_gv T (rv_var 0)) (rv_var 2) (by exact find_tks (K := K) (g := fun f => dat K (rpsD f.gv)) ok.nd hf))) (pg_two 4 5) (fun i hi => gk_twoD (d1 := .int ((f.gv.getD i (0, 0)).1 : Int)) (d2 := .int (f.gv.getD i (0, 0)).2))
    (fun j ρ W => (∃ (x4 x5 : Option SP), ρ = [some (lookP K L), some (dat K (intsT h)), some (dat K (.str f.name)), some (refP b), x4, x5]) ∧ W = [(b, lstM (iP K (cutv h (f.gv.take j))))]) ⟨⟨none, none, rfl⟩, rfl⟩ ?_) fun ρ1 W1 ⟨⟨x4, x5, e1⟩, e2⟩ => ?_
  · rintro j _ _ hj ⟨⟨x4, x5, rfl⟩, rfl⟩
    have hp := ok.gr f hf _ (getD_mem (d := ((0, 0) : Nat × Int)) hj)
    have hph : (f.gv.getD j (0, 0)).1 < (cutv h (f.gv.take j)).length := by rw [len_cutv, hl]; exact hp.1
    have e : cutv h (f.gv.take (j + 1)) = (cutv h (f.gv.take j)).set (f.gv.getD j (0, 0)).1 (max 0 ((cutv h (f.gv.take j)).getD (f.gv.getD j (0, 0)).1 0 - (f.gv.getD j (0, 0)).2)) := fold_snoc (fun (h : Heap0) (p : Nat × Int) => h.set p.1 (max 0 (h.getD p.1 0 - p.2))) h f.gv (0, 0) hj
    rw [e]
    refine rs_setI 0 (K := K) (rv_max2 T.n_max rv_int (rv_subI (rv_ixO 0 (rv_var 3) (rv_var 4) rfl (iP_at hph)) (rv_var 5))) (rv_var 3) (rv_var 4) rfl (by rw [List.length_map]; exact hph) (rs_nil ⟨⟨_, _, rfl⟩, ?_⟩)
    show [(b, lstM ((iP K (cutv h (f.gv.take j))).set _ _))] = _
    rw [iP_set]
  subst e1 e2
  rw [List.take_length]
  refine rs_cons (rs_for (ri_listM rpD f.tk (0, 0) (rv_dget hu (look_tk T (rv_var 0)) (rv_var 2) (by exact find_tks (K := K) (g := fun f => dat K (rpsD f.tk)) ok.nd hf))) (pg_two 4 5) (fun i hi => gk_twoD (d1 := .int ((f.tk.getD i (0, 0)).1 : Int)) (d2 := .int (f.tk.getD i (0, 0)).2))
    (fun j ρ W => (∃ (x4 x5 : Option SP), ρ = [some (lookP K L), some (dat K (intsT h)), some (dat K (.str f.name)), some (refP b), x4, x5]) ∧ W = [(b, lstM (iP K (addv (cutv h f.gv) (f.tk.take j))))]) ⟨⟨_, _, rfl⟩, rfl⟩ ?_) fun ρ1 W1 ⟨⟨x4, x5, e1⟩, e2⟩ => ?_
  · rintro j _ _ hj ⟨⟨x4, x5, rfl⟩, rfl⟩
    have hp := ok.tr f hf _ (getD_mem (d := ((0, 0) : Nat × Int)) hj)
    have hph : (f.tk.getD j (0, 0)).1 < (addv (cutv h f.gv) (f.tk.take j)).length := by rw [len_addv, len_cutv, hl]; exact hp.1
    refine rs_augI 0 (K := K) ip_add (rv_var 3) (rv_var 4) (rv_var 5) rfl (iP_at hph) (rs_nil ⟨⟨_, _, rfl⟩, ?_⟩)
    show [(b, lstM ((iP K (addv (cutv h f.gv) (f.tk.take j))).set _ _))] = _
    rw [iP_set]
    have e := fold_snoc (fun (h : Heap0) (p : Nat × Int) => h.set p.1 (h.getD p.1 0 + p.2)) (cutv h f.gv) f.tk (0, 0) hj
    unfold addv
    rw [e]
  subst e1 e2
  rw [List.take_length]
  refine rs_freeT (W := []) 3 hb ?_
  exact rs_end (rv_sub (rv_tupleOf T.n_tuple (rv_sub (rv_var 3) fun _ _ => lstT_P)) iP_intsT)
theorem w_heap_fault : O_heap_fault P w K mg base CX0 3 (pureSp (ι := Heap0) (fun h => [dat K (.int (h.length : Int)), dat K (intsT h)]) (fun h => h.length ≤ 1000 ∧ ∀ x, x ∈ h → 0 ≤ x) (fun _ => dat K .none)) := by
  refine okPure T.f_heap_fault (N := N_heap_fault) (by constructor <;> first | rfl | decide | decide +kernel) (fun _ => rfl) fun cdv A1 outer s H E hr h hq an => ?_
  obtain ⟨hz, h0⟩ := hq
  refine rs_when (v := false) (rt_w (rw_or (v := false) (rt_to (rt_not (rt_val (rv_isi (K := K) (n := "tuple") (c := true) rfl T.n_isinstance T.n_tuple (rv_var 1)))) rfl) fun _ => rw_or1 (rt_to (rt_neI (K := K) (rv_lenTD T.n_len (rv_var 1)) (rv_var 0)) (by rw [List.length_map]; simp)))) (fun h => by cases h) fun _ => ?_
  refine rs_cons (rs_for (ri_enumTM PyData.int h 0 T.n_enumerate (rv_var 1) hz) (pg_two 2 3) (fun i hi => gk_two)
    (fun j ρ W => (∃ (x2 x3 : Option SP), ρ = [some (dat K (.int (h.length : Int))), some (dat K (intsT h)), x2, x3]) ∧ W = []) ⟨⟨none, none, rfl⟩, rfl⟩ ?_) fun ρ1 W1 ⟨⟨x2, x3, e1⟩, e2⟩ => ?_
  · rintro j _ _ hj ⟨⟨x2, x3, rfl⟩, rfl⟩
    exact rs_one (rs_ifS (v := false) (rt_to (rt_not (rt_val (rv_is_count_firing T (w_is_count_firing T) (pureSp_ok (h.getD j 0) trivial) hr (ra_cons (rv_var 3) ra_nil)))) (by rw [decide_eq_true (h0 _ (getD_mem hj))]; rfl)) (fun h => by cases h) fun _ => rs_nil ⟨⟨_, _, rfl⟩, rfl⟩)
  · subst e1 e2
    exact rs_end rv_non
theorem w_must_heap : O_must_heap P w K mg base CX0 4 (pureSp (ι := Net × Heap0) (fun q => [dat K (netD q.1), dat K (intsT q.2)]) (fun q => q.2.length = q.1.places.length ∧ q.2.length ≤ 1000 ∧ ∀ x, x ∈ q.2 → 0 ≤ x) (fun _ => dat K .none)) := by
  refine okPure T.f_must_heap (N := N_must_heap) (by constructor <;> first | rfl | decide | decide +kernel) (fun _ => rfl) fun cdv A1 outer s H E hr q hq an => ?_
  obtain ⟨n, h⟩ := q
  obtain ⟨hl, hz, h0⟩ := hq
  have hl : h.length = n.places.length := hl
  refine rs_set 2 (rv_heap_fault T (w_heap_fault T) (pureSp_ok h ⟨hz, h0⟩) hr (ra_cons (rv_to (rv_lenTD (K := K) T.n_len (rv_ixTD (K := K) (k := 0) rfl (rv_var 0) rv_int)) (show PyData.int ((n.places.map partD).length : Int) = .int (h.length : Int) by rw [List.length_map, hl])) (ra_cons (rv_var 1) ra_nil))) ?_
  exact rs_one (rs_ifS (v := false) (rt_to (rt_notN K (nonP_dat (d := .none)) (rv_var 2)) rfl) (fun h => by cases h) fun _ => rs_nil fun H => .non)
theorem w_is_row : O_is_row P w K mg base CX0 2 (pureSp (ι := Lk × List SF) (fun q => [lookP K q.1, dat K (.list (q.2.map fun f => .str f.name))]) (fun q => ∀ f, f ∈ q.2 → f ∈ q.1.fs) (fun _ => dat K (.bool true))) := by
  refine okPure T.f_is_row (N := N_is_row) (by constructor <;> first | rfl | decide | decide +kernel) (fun _ => rfl) fun cdv A1 outer s H E hr q hq an => ?_
  obtain ⟨L, row⟩ := q
  refine rs_end (rv_to (rv_and (v := true) (rv_isi (K := K) (n := "list") (c := true) rfl T.n_isinstance T.n_list (rv_var 1)) fun _ => rv_one (rv_all (bs := (List.range row.length).map fun _ => true) T.n_all (rv_sub (rv_lc (n := row.length) (bt := fun _ => true) (E := fun i => dat K (.bool true)) (own := [("name", 2)]) (ri_listM (fun f : SF => PyData.str f.name) row default (rv_var 1)) (fun s H C cl fp => pg_one 2)
    (fun i hi => gk_name) (by decide) (fun s H C cl fp i W hi => rts_nil) (fun s H C cl fp i W hi _ => ?_)) (by rw [selP_bools (fun _ => true)]; exact Imp.refl)))) (by simp))
  refine rv_to (rv_and (v := true) (rv_isi (K := K) (n := "str") (c := true) rfl T.n_isinstance T.n_str (rv_var 2)) fun _ => rv_one (rv_inStrs (ss := L.fnames) (.inl rfl) (rv_var 2) (look_names T (rv_var 0)))) ?_
  have hm : (row.getD i default).name ∈ L.fnames := List.mem_map.mpr ⟨_, hq _ (getD_mem hi), rfl⟩
  rw [decide_eq_true hm]
  rfl
structure LR where
  L : Lk
  row : List SF
structure LRok (q : LR) : Prop where
  ok : LkOk q.L
  mem : ∀ f, f ∈ q.row → f ∈ q.L.fs
  go : ∀ j, j < q.row.length → enab (q.row.getD j default).tk (runTo q.L.begin (q.row.take j)) = true
  z : q.row.length ≤ 1000
theorem w_row_end : O_row_end P w K mg base CX0 3 (pureSp (ι := LR) (fun q => [lookP K q.L, dat K (.list (q.row.map fun f => .str f.name))]) LRok (fun q => dat K (.tuple [intsT (runTo q.L.begin q.row), .none]))) := by
  refine okPure T.f_row_end (N := N_row_end) (by constructor <;> first | rfl | decide | decide +kernel) (fun _ => rfl) fun cdv A1 outer s H E hr q hq an => ?_
  obtain ⟨L, row⟩ := q
  obtain ⟨ok, hm, hg, hz⟩ := hq
  refine rs_set 2 (look_begin T (rv_var 0)) ?_
  refine rs_cons (rs_for (ri_enumLM (fun f : SF => PyData.str f.name) row default T.n_enumerate (rv_var 1) (by have hz : row.length ≤ 1000 := hz; omega)) (pg_two 3 4) (fun i hi => gk_two)
    (fun j ρ W => (∃ (x3 x4 : Option SP), ρ = [some (lookP K L), some (dat K (.list (row.map fun f => .str f.name))), some (dat K (intsT (runTo L.begin (row.take j)))), x3, x4]) ∧ W = []) ⟨⟨none, none, rfl⟩, rfl⟩ ?_) fun ρ1 W1 ⟨⟨x2, x3, e1⟩, e2⟩ => ?_
  · rintro j _ _ hj ⟨⟨x3, x4, rfl⟩, rfl⟩
    have hk : LHok ⟨L, runTo L.begin (row.take j), row.getD j default⟩ := ⟨ok, (len_run _ _).trans ok.bl, hm _ (getD_mem hj)⟩
    refine rs_when (v := false) (rt_to (rt_notN K lackP_non (rv_lacking T hk (w_Look_lacking T) hr (rv_var 0) (ra_cons (rv_var 2) (ra_cons (rv_var 4) ra_nil)))) (by rw [show enab (row.getD j default).tk (runTo L.begin (row.take j)) = true from hg j hj]; rfl)) (fun h => by cases h) fun _ => ?_
    refine rs_set 2 (rv_behind T hk (w_Look_behind T) hr (rv_var 0) (ra_cons (rv_var 2) (ra_cons (rv_var 4) ra_nil))) (rs_nil ⟨⟨some (dat K (.int (j : Int))), some (dat K (.str (row.getD j default).name)), ?_⟩, rfl⟩)
    have e : runTo L.begin (row.take (j + 1)) = beh (row.getD j default) (runTo L.begin (row.take j)) := fold_snoc (fun (h : Heap0) (f : SF) => beh f h) L.begin row default hj
    rw [e]
    rfl
  · subst e1 e2
    rw [List.take_length]
    exact rs_end (rv_tupD (ds := [_, .none]) (ra_cons (rv_var 2) (ra_cons rv_non ra_nil)))
end
end TF
set_option Elab.async false
set_option linter.all false
set_option maxRecDepth 100000
set_option maxHeartbeats 4000000
/-! E5: dicts whose keys are wide heaps (tuples of numbers and None). -/
namespace WD
open PySem PySem.Spec PyProof.Rows L2
abbrev NK := NestedKey
def kO : Option Int → NK
  | some i => .num i
  | none => .none
def kW (w : List (Option Int)) : NK := .tup (w.map kO)
theorem kO_inj {a b : Option Int} (e : kO a = kO b) : a = b := by
  cases a <;> cases b <;> simp_all [kO]
theorem kOs_inj : ∀ {a b : List (Option Int)}, a.map kO = b.map kO → a = b
  | [], [], _ => rfl
  | [], _ :: _, e => by simp at e
  | _ :: _, [], e => by simp at e
  | x :: xs, y :: ys, e => by
    rw [List.map_cons, List.map_cons] at e
    injection e with e1 e2
    rw [kO_inj e1, kOs_inj e2]
theorem kW_inj {a b : List (Option Int)} (e : kW a = kW b) : a = b := kOs_inj (NestedKey.tup.inj e)
theorem dep_kOs : ∀ w : List (Option Int), NestedKey.depthAll (w.map kO) = 0
  | [] => rfl
  | x :: xs => by
    rw [List.map_cons, NestedKey.depthAll, dep_kOs xs]
    cases x <;> rfl
theorem dep_kW (w : List (Option Int)) : (kW w).depth ≤ 8 := by
  unfold kW
  rw [NestedKey.depth, dep_kOs]
  decide
section
variable {X : Cx} {pins : List (Addr × Obj)} {σ : L2.St} {H : Hp} {s : Shared}
theorem all_of {K : PySem.W.Frag} {h : Heap} : ∀ {w : List (Option Int)} {xs : List V} {us : List Value}, DpAll K H xs (w.map TF.oD) → Vals xs us → NestedAll h (w.map kO) us
  | [], _, _, d, r => by
    cases d
    cases r
    exact .nil
  | o :: w, _, _, d, r => by
    cases d with
    | cons d1 d2 =>
      cases r with
      | cons r1 r2 =>
        refine .cons ?_ (all_of d2 r2)
        cases o with
        | none =>
          have d1 : Dp K H _ .none := d1
          cases d1
          cases r1
          exact .none
        | some i =>
          have d1 : Dp K H _ (.int i) := d1
          cases d1
          obtain ⟨t, rfl⟩ := r1
          exact .int i t
theorem wide_is (I : Inv X pins σ H s) {w : List (Option Int)} {a : Addr} (d : Dp X.K H (.ref a) (TF.wD w)) : NestedIs s.heap (kW w) (.ref a) := by
  have d : Dp X.K H (.ref a) (.tuple (w.map TF.oD)) := d
  cases d with
  | tup hs ha =>
    obtain ⟨its, rv, pt, _⟩ := I.tuple hs
    obtain ⟨o, ho, hc, n, hd⟩ := pt
    exact .tup ho hc hd (by simpa using all_of (h := s.heap) ha rv)
theorem wide_key (I : Inv X pins σ H s) {w : List (Option Int)} {a : Addr} (d : Dp X.K H (.ref a) (TF.wD w)) : (nestedKind X.prog X.w).is s.heap (kW w) a := ⟨wide_is I d, dep_kW w⟩
end
/-- the wides with the places of their tuples -/
abbrev Ps := List (List (Option Int) × Addr)
def ents (ps : Ps) : List (NK × Addr × Value) := ps.map fun p => (kW p.1, p.2, .bool true)
def wO (P : Program) (w : World) (d : Addr) (ps : Ps) : HO := .ext fun h => ∃ o es ep, h.get? d = some o ∧ o.ExactDict ∧ o.data = .dict es ep ∧ es.toList = (ents ps).map (entryOfKey (nestedKind P w))
structure Ok (P : Program) (w : World) (K : PySem.W.Frag) (H : Hp) (d : Addr) (ps : Ps) : Prop where
  keys : ∀ p, p ∈ ps → Dp K H (.ref p.2) (TF.wD p.1)
  nd : (ps.map Prod.fst).Nodup
  sm : (d == sysModules) = false
  sz : ps.length ≤ 1000000
section
variable {X : Cx} {pins : List (Addr × Obj)} {σ : L2.St} {H : Hp} {s : Shared} {d : Addr} {ps : Ps}
theorem ents_nodup (h : (ps.map Prod.fst).Nodup) : ((ents ps).map (·.1)).Nodup := by
  have e : (ents ps).map (·.1) = (ps.map Prod.fst).map kW := by
    unfold ents
    rw [List.map_map, List.map_map]
    rfl
  rw [e]
  exact List.pairwise_map.mpr (h.imp fun {a b} n e => n (kW_inj e))
theorem dictOf (I : Inv X pins σ H s) (hd : H d = some (wO X.prog X.w d ps)) (ok : Ok X.prog X.w X.K H d ps) : s.heap.DictOfH (nestedKind X.prog X.w) d (ents ps) := by
  have z : ObjOk X.prog X.w H s.heap d (wO X.prog X.w d ps) := I.hok d _ hd
  obtain ⟨⟨o, es, ep, h1, h2, h3, h4⟩, _⟩ := z
  refine ⟨o, es, ep, h1, h2, h3, h4, fun x hx => ?_, ents_nodup ok.nd⟩
  obtain ⟨p, hp, e⟩ := List.mem_map.mp hx
  subst e
  exact wide_key I (ok.keys p hp)
theorem objOk {P : Program} {w : World} {h : Heap} (hd : h.DictOfH (nestedKind P w) d (ents ps)) : ObjOk P w H h d (wO P w d ps) := by
  obtain ⟨o, es, ep, h1, h2, h3, h4, _, _⟩ := hd
  refine ⟨⟨o, es, ep, h1, h2, h3, h4⟩, ⟨o, h1⟩, ?_⟩
  rintro g1 g2 ⟨o, es, ep, h1, h2, h3, h4⟩ k
  exact ⟨o, es, ep, k o h1, h2, h3, h4⟩
def inPs (ps : Ps) (w : List (Option Int)) : Bool := decide (w ∈ ps.map Prod.fst)
theorem atKey_ents (w : List (Option Int)) : ∀ ps : Ps, (atKey (ents ps) (kW w)).isSome = inPs ps w := by
  intro ps
  induction ps with
  | nil => rfl
  | cons p r ih =>
    unfold inPs atKey ents at ih ⊢
    rw [List.map_cons, List.find?_cons]
    by_cases e : p.1 = w
    · subst e
      simp
    · have e2 : ¬ kW p.1 = kW w := fun z => e (kW_inj z)
      have e3 : ¬ w = p.1 := fun z => e z.symm
      simp only [e2, decide_false, List.map_cons, List.mem_cons, e3, false_or]
      exact ih
/-- w not in d -/
theorem notIn (hu : X.A.units + 64 < cLine) {a : Addr} {w : List (Option Int)} {Q : Value → Shared → Prop} {E : Value → Shared → Prop} (I : Inv X pins σ H s) (hd : H d = some (wO X.prog X.w d ps)) (ok : Ok X.prog X.w X.K H d ps) (hw : Dp X.K H (.ref a) (TF.wD w)) (h : ∀ s', Inv X pins σ H s' → Q (.bool (!inPs ps w)) s') :
    wpAny (model X.prog X.w) X.A (compareOp .NotIn (.ref a) (.ref d)) Q E s := by
  have hm := dictOf I hd ok
  refine notIn_keyed (knd := nestedKind X.prog X.w) (kvs := pairsH (ents ps)) (by show X.A.units + 1 + 8 < cLine; omega) (wide_key I hw) ok.sm ⟨_, hm, rfl⟩ ?_
  have e : (valueAt (pairsH (ents ps)) (kW w)).isSome = inPs ps w := by
    rw [valueAt_pairsH, Option.isSome_map]
    exact atKey_ents w ps
  rw [e]
  exact h _ (I.tok _)
end
end WD
set_option Elab.async false
set_option linter.all false
set_option maxRecDepth 100000
set_option maxHeartbeats 4000000
/-! S1: sorted(..) of data, of a list or of the keys of a dict. -/
namespace TF
open PySem PySem.Spec PyProof.Rows L2
open PySem.W (EachIs AllAlike Sortable dataLe alike KdlSrc)
abbrev srtD (ds : List PyData) : List PyData := ds.mergeSort (dataLe false fun d => d)
theorem eachZip {K : PySem.W.Frag} {H : Hp} : ∀ {xs : List V} {us : List Value} {ds : List PyData}, Vals xs us → DpAll K H xs ds → EachIs (fun u (b : V × PyData) => RelV b.1 u ∧ Dp K H b.1 b.2) us (xs.zip ds)
  | _, _, _, .nil, .nil => .nil
  | _, _, _, .cons r t, .cons d e => .cons ⟨r, d⟩ (eachZip t e)
theorem zip_snd {K : PySem.W.Frag} {H : Hp} : ∀ {xs : List V} {ds : List PyData}, DpAll K H xs ds → (xs.zip ds).map Prod.snd = ds
  | _, _, .nil => rfl
  | _, _, .cons d e => by rw [List.zip_cons_cons, List.map_cons, zip_snd e]
theorem eachBack {K : PySem.W.Frag} {H : Hp} : ∀ {us : List Value} {zs : List (V × PyData)}, EachIs (fun u (b : V × PyData) => RelV b.1 u ∧ Dp K H b.1 b.2) us zs → Vals (zs.map Prod.fst) us
  | _, _, .nil => .nil
  | _, _, .cons h t => .cons h.1 (eachBack t)
theorem dps_of {K : PySem.W.Frag} {H : Hp} : ∀ {zs : List (V × PyData)}, (∀ z, z ∈ zs → Dp K H z.1 z.2) → DpAll K H (zs.map Prod.fst) (zs.map Prod.snd)
  | [], _ => .nil
  | z :: zs, h => .cons (h z List.mem_cons_self) (dps_of fun y hy => h y (List.mem_cons_of_mem _ hy))
theorem zip_dps {K : PySem.W.Frag} {H : Hp} : ∀ {xs : List V} {ds : List PyData}, DpAll K H xs ds → ∀ z, z ∈ xs.zip ds → Dp K H z.1 z.2
  | _, _, .nil, z, h => by simp at h
  | _, _, .cons d e, z, h => by
    rw [List.zip_cons_cons] at h
    rcases List.mem_cons.mp h with h | h
    · rw [h]
      exact d
    · exact zip_dps e z h
theorem srt_dps {K : PySem.W.Frag} {H : Hp} {zs : List (V × PyData)} (h : ∀ z, z ∈ zs → Dp K H z.1 z.2) : DpAll K H ((zs.mergeSort (dataLe false Prod.snd)).map Prod.fst) ((zs.map Prod.snd).mergeSort (dataLe false fun d => d)) := by
  have e : (zs.mergeSort (dataLe false Prod.snd)).map Prod.snd = (zs.map Prod.snd).mergeSort (dataLe false fun d => d) := List.map_mergeSort fun a _ b _ => rfl
  rw [← e]
  exact dps_of fun z hz => h z (List.mem_mergeSort.mp hz)
theorem srt_snd (zs : List (V × PyData)) : (zs.mergeSort (dataLe false Prod.snd)).map Prod.snd = srtD (zs.map Prod.snd) := List.map_mergeSort fun a _ b _ => rfl
def rSortedD (K : PySem.W.Frag) : List V → Hp → VK → Prop := fun vs H Q => ∃ (a : Addr) (xs : List V) (ds : List PyData), vs = [V.ref a] ∧ SqL K H a xs ∧ DpAll K H xs ds ∧ AllAlike ds ∧ Sortable ds ∧ (∀ d, d ∈ ds → d.depth ≤ 8) ∧
  ∀ ys p, (∀ H2, DpAll K H2 xs ds → DpAll K H2 ys (srtD ds)) → H p = none → Q (.ref p) (upd H p (.lst ys))
section
variable {X : Cx}
theorem cr_sortedD (hu : X.A.units + 64 < cLine) : CallR X (.builtin "sorted") (rSortedD X.K) := by
  intro pins s σ H vs us Q I r h
  obtain ⟨a, xs, ds, rfl, hs, hx, hal, hk, hdp, q⟩ := h
  obtain ⟨its, rv, hl, hz⟩ := I.list hs
  obtain ⟨u, rfl, ru⟩ := vals1 r
  obtain rfl : u = Value.ref a := ru
  have ez := eachZip rv hx
  have es := zip_snd hx
  have hlen : (xs.zip ds).length = xs.length := by
    have z := congrArg List.length es
    rw [List.length_map] at z
    rw [z]
    exact ((Paired.length (sat_of_all hx)).symm.trans (List.length_map ..)).symm
  refine PySem.W.sorted_data (enc := Prod.snd) hl.isList ez (ez.mono fun u b z => Dp.reads I _ _ _ z.2 z.1) (by rw [es]; exact hal) (by rw [es]; exact hk) (by rw [hlen]; exact hz) (fun b hb => ?_) fun out ho eo => ?_
  · have hm : b.2 ∈ ds := by
      rw [← es]
      exact List.mem_map.mpr ⟨b, hb, rfl⟩
    have := hdp _ hm
    omega
  · have h1 := eachBack eo
    obtain ⟨n, e⟩ := sortedAll_at s.heap its (List.toArray out)
    have h2 : ∀ H2, DpAll X.K H2 xs ds → DpAll X.K H2 (((xs.zip ds).mergeSort (dataLe false Prod.snd)).map Prod.fst) (srtD ds) := fun H2 hx2 => by
      have z := srt_dps (zip_dps hx2)
      rw [es] at z
      exact z
    have hd : s.heap.objs.size ≤ s.heap.objs.size + 1 := Nat.le_succ _
    have hol : out.length = xs.length := ho.trans hlen
    refine ⟨.ref (s.heap.objs.size + 1), upd H (s.heap.objs.size + 1) (.lst _), I.laid (t' := s.toks) (fun b o e => sortedAll_old e) hd ⟨?_, out, n, h1, e⟩, rfl, q _ _ h2 (I.hok.fresh hd)⟩
    rw [h1.length, hol]
    exact hz
end
end TF
namespace WD
open PySem PySem.Spec PyProof.Rows L2
open PySem.W (EachIs AllAlike Sortable dataLe alike KdlSrc)
section
variable {X : Cx} {pins : List (Addr × Obj)} {σ : L2.St} {H : Hp} {s : Shared} {d : Addr} {ps : Ps}
theorem rawOf (I : Inv X pins σ H s) (hd : H d = some (wO X.prog X.w d ps)) : ∃ es ep, s.heap.DictRaw d es ep ∧ es.toList = (ents ps).map (entryOfKey (nestedKind X.prog X.w)) := by
  have z : ObjOk X.prog X.w H s.heap d (wO X.prog X.w d ps) := I.hok d _ hd
  obtain ⟨⟨o, es, ep, h1, h2, h3, h4⟩, _⟩ := z
  exact ⟨es, ep, ⟨o, h1, h2, h3⟩, h4⟩
/-- the keys of the dict, in their order -/
theorem items_keys {es : Array DictEntry} {acc : Array Value} (he : es.toList = (ents ps).map (entryOfKey (nestedKind X.prog X.w))) (h : ItemsOf (fun i v => ∃ hi : i < es.size, v = es[i].key) acc es.size) : acc.toList = ps.map fun p => .ref p.2 := by
  have hs : es.size = ps.length := by
    have := congrArg List.length he
    simpa [ents] using this
  refine List.ext_getElem? fun i => ?_
  by_cases hi : i < ps.length
  · have ha : i < acc.size := by rw [h.1, hs]; exact hi
    have e1 : acc.toList[i]? = some acc[i] := by rw [Array.getElem?_toList]; exact Array.getElem?_eq_getElem ha
    obtain ⟨h1, h2⟩ := h.2 i acc[i] (Array.getElem?_eq_getElem ha)
    have e3 : es.toList[i]? = some es[i] := by rw [Array.getElem?_toList]; exact Array.getElem?_eq_getElem h1
    rw [he] at e3
    unfold ents at e3
    rw [List.getElem?_map, List.getElem?_map, List.getElem?_eq_getElem hi] at e3
    have e4 : es[i] = entryOfKey (nestedKind X.prog X.w) (kW (ps[i]).1, (ps[i]).2, .bool true) := (Option.some.inj e3).symm
    rw [e1, h2, e4, List.getElem?_map, List.getElem?_eq_getElem hi]
    rfl
  · rw [List.getElem?_eq_none (by rw [Array.length_toList, h.1, hs]; omega), List.getElem?_eq_none (by rw [List.length_map]; omega)]
end
end WD
namespace WD
open PySem PySem.Spec PyProof.Rows L2
open PySem.W (EachIs AllAlike Sortable dataLe alike KdlSrc)
/-- the keys, read as data -/
theorem keys_each {P : Program} {w : World} {K : PySem.W.Frag} {H : Hp} {d : Addr} : ∀ {ps : Ps}, (∀ p, p ∈ ps → Dp K H (.ref p.2) (TF.wD p.1)) → EachIs (fun u (b : V × PyData) => RelV b.1 u ∧ Dp K H b.1 b.2) (ps.map fun p => Value.ref p.2) (ps.map fun p => (V.ref p.2, TF.wD p.1))
  | [], _ => .nil
  | p :: ps, h => .cons ⟨rfl, h p List.mem_cons_self⟩ (keys_each (P := P) (w := w) (d := d) fun q hq => h q (List.mem_cons_of_mem _ hq))
theorem reads_opts {h : Heap} : ∀ {w : List (Option Int)} {vs : List Value} {as : List Addr}, ReadsAll h vs (w.map TF.oD) as → as = []
  | [], _, _, r => by
    cases r
    rfl
  | o :: w, _, _, r => by
    cases r with
    | cons r1 r2 =>
      rw [reads_opts r2]
      cases o with
      | none =>
        have r1 : Reads h _ .none _ := r1
        cases r1
        rfl
      | some i =>
        have r1 : Reads h _ (.int i) _ := r1
        cases r1
        rfl
theorem reads_wide {h : Heap} {w : List (Option Int)} {v : Value} {as : List Addr} (r : Reads h v (TF.wD w) as) : as = [] := by
  have r : Reads h v (.tuple (w.map TF.oD)) as := r
  cases r with
  | tuple h1 h2 h3 h4 => exact reads_opts h4
def rSortedW (P : Program) (w : World) (K : PySem.W.Frag) : List V → Hp → VK → Prop := fun vs H Q => ∃ (a : Addr) (ps : Ps), vs = [V.ref a] ∧ H a = some (wO P w a ps) ∧ Ok P w K H a ps ∧ AllAlike (ps.map fun p => TF.wD p.1) ∧ Sortable (ps.map fun p => TF.wD p.1) ∧ (∀ p, p ∈ ps → (TF.wD p.1).depth ≤ 8) ∧
  ∀ ys p, (∀ H2, (∀ p, p ∈ ps → Dp K H2 (.ref p.2) (TF.wD p.1)) → DpAll K H2 ys (TF.srtD (ps.map fun p => TF.wD p.1))) → H p = none → Q (.ref p) (upd H p (.lst ys))
section
variable {X : Cx}
theorem cr_sortedW (hu : X.A.units + 64 < cLine) (hc : X.calm = true) : CallR X (.builtin "sorted") (rSortedW X.prog X.w X.K) := by
  intro pins s σ H vs us Q I r h
  obtain ⟨a, ps, rfl, hd, ok, hal, hk, hdp, q⟩ := h
  obtain ⟨u, rfl, ru⟩ := vals1 r
  obtain rfl : u = Value.ref a := ru
  obtain ⟨es, ep, raw, he⟩ := rawOf I hd
  have hs : es.size = ps.length := by
    have := congrArg List.length he
    simpa [ents] using this
  have hz : ps.length ≤ sizeLine := by
    have := ok.sz
    have : (1000000 : Nat) < sizeLine := by rw [sizeLine_eq]; decide
    omega
  refine PySem.Calls.call_function_entry kind_sorted plain_sorted entry_sorted (args_sorted1 _) ?_
  unfold Builtin.«sorted»
  refine wpAny_bind (m := checkCount "sorted" 1 1 _) (wpAny_pure ?_)
  refine wpAny_bind (PySem.W.kdu_collect (A := X.A.in1) (KdlSrc.rawDict ok.sm) (I.ok.hd hc) raw (by rw [hs]; exact hz) fun h' tk acc kp hi => ?_)
  have hacc := items_keys he hi
  have hal2 : acc.toList.length ≤ sizeLine := by rw [hacc, List.length_map]; exact hz
  refine wpAny_bind (wpAny_newList ?_ hal2)
  have I1 : Inv X pins σ H { s with heap := h', toks := tk } := I.kept kp
  have I2 : Inv X pins σ H { s with heap := h'.push (seqObj "list" acc.toList.toArray 0), toks := tk } := I1.kept (t' := tk) fun b o e => Heap.get?_push_of_some _ e
  have ho : (h'.push (seqObj "list" acc.toList.toArray 0)).get? h'.objs.size = some (seqObj "list" acc.toList.toArray 0) := Heap.get?_push_size _ rfl
  have ez := keys_each (P := X.prog) (w := X.w) (d := a) ok.keys
  rw [← hacc] at ez
  have nl : ∀ b o, s.heap.get? b = some o → b ≠ h'.objs.size := fun b o e => Nat.ne_of_lt (Heap.lt_size (kp b o e))
  refine wpAny_bind (wpAny_holding (PySem.W.list_sort_data (A := X.A.in1) (enc := Prod.snd) (s := { s with heap := h'.push (seqObj "list" acc.toList.toArray 0), toks := tk }) ho ez ((PySem.W.each_mem ez).mono fun u b z => ?_) (by rw [List.map_map]; exact hal) (by rw [List.map_map]; exact hk) (by rw [List.length_map]; exact hz) (fun b hb => ?_) fun out hol eo => ?_))
  · obtain ⟨z, zm⟩ := z
    obtain ⟨as, rd⟩ := Dp.reads I2 _ _ _ z.2 z.1
    obtain ⟨p, hp, rfl⟩ := List.mem_map.mp zm
    exact ⟨as, rd, by rw [reads_wide rd]; simp⟩
  · obtain ⟨p, hp, rfl⟩ := List.mem_map.mp hb
    have := hdp p hp
    show X.A.in1.units + 1 + (TF.wD p.1).depth < cLine
    have : X.A.in1.units = X.A.units + 1 := rfl
    omega
  · refine wpAny_pure ⟨_, rfl, ?_⟩
    have h1 := TF.eachBack eo
    have h2 : ∀ H2, (∀ p, p ∈ ps → Dp X.K H2 (.ref p.2) (TF.wD p.1)) → DpAll X.K H2 (((ps.map fun p => (V.ref p.2, TF.wD p.1)).mergeSort (dataLe false Prod.snd)).map Prod.fst) (TF.srtD (ps.map fun p => TF.wD p.1)) := fun H2 hx2 => by
      have z := TF.srt_dps (K := X.K) (H := H2) (zs := ps.map fun p => (V.ref p.2, TF.wD p.1)) fun z hz => by
        obtain ⟨p, hp, rfl⟩ := List.mem_map.mp hz
        exact hx2 p hp
      rw [List.map_map] at z
      exact z
    obtain ⟨n, e⟩ := sortedHeap_at (vs := acc.toList) (out := List.toArray out) ho
    refine ⟨.ref h'.objs.size, upd H h'.objs.size (.lst _), I1.laid (t' := tk) (fun b o e => ?_) (Nat.le_refl _) ⟨?_, out, n, h1, e⟩, rfl, q _ _ h2 (I1.hok.fresh (Nat.le_refl _))⟩
    · have hlt := Heap.lt_size e
      rw [sortedHeap_old (Nat.ne_of_lt hlt) (by rw [Heap.size_push]; exact Nat.lt_succ_of_lt hlt)]
      exact Heap.get?_push_of_some _ e
    · rw [h1.length, hol, List.length_map]
      exact hz
end
end WD
set_option Elab.async false
set_option linter.all false
set_option maxRecDepth 100000
set_option maxHeartbeats 4000000
/-! S2: {heap: True for heap in heaps}, and what is asked of such dicts. -/
namespace WD
open PySem PySem.Spec PyProof.Rows L2 TF
open PySem.W (EachIs AllAlike Sortable dataLe alike KdlSrc)
/-- in the order of first coming -/
def ddp (ws : List Wide) : List Wide := ws.foldl (fun acc w => if w ∈ acc then acc else acc ++ [w]) []
theorem ddp_snoc (ws : List Wide) (w : Wide) : ddp (ws ++ [w]) = if w ∈ ddp ws then ddp ws else ddp ws ++ [w] := by
  unfold ddp
  rw [List.foldl_append]
  rfl
theorem ddp_nodup : ∀ n : Nat, ∀ ws : List Wide, ws.length = n → (ddp ws).Nodup
  | 0, ws, h => by
    rw [List.eq_nil_of_length_eq_zero h]
    exact List.nodup_nil
  | n + 1, ws, h => by
    obtain ⟨vs, v, rfl⟩ : ∃ vs v, ws = vs ++ [v] := ⟨ws.dropLast, ws.getLast (by intro e; rw [e] at h; cases h), (List.dropLast_concat_getLast _).symm⟩
    have ih := ddp_nodup n vs (by simpa using h)
    rw [ddp_snoc]
    split
    · exact ih
    · rename_i hn
      exact List.nodup_append.mpr ⟨ih, by simp, fun a ha b hb e => hn (by rw [List.mem_singleton.mp hb] at e; rw [← e]; exact ha)⟩
theorem mem_ddp {w : Wide} : ∀ n : Nat, ∀ ws : List Wide, ws.length = n → (w ∈ ddp ws ↔ w ∈ ws)
  | 0, ws, h => by
    rw [List.eq_nil_of_length_eq_zero h]
    exact Iff.rfl
  | n + 1, ws, hw => by
    obtain ⟨vs, v, rfl⟩ : ∃ vs v, ws = vs ++ [v] := ⟨ws.dropLast, ws.getLast (by intro e; rw [e] at hw; cases hw), (List.dropLast_concat_getLast _).symm⟩
    have ih := mem_ddp (w := w) n vs (by simpa using hw)
    rw [ddp_snoc]
    split
    · rename_i hm
      have hm' : v ∈ vs := (mem_ddp (w := v) n vs (by simpa using hw)).mp hm
      rw [List.mem_append, List.mem_singleton, ih]
      constructor
      · exact .inl
      · rintro (h | h)
        · exact h
        · rw [h]; exact hm'
    · rw [List.mem_append, List.mem_append, ih]
theorem len_ddp : ∀ n : Nat, ∀ ws : List Wide, ws.length = n → (ddp ws).length ≤ n
  | 0, ws, h => by
    rw [List.eq_nil_of_length_eq_zero h]
    exact Nat.le_refl _
  | n + 1, ws, h => by
    obtain ⟨vs, v, rfl⟩ : ∃ vs v, ws = vs ++ [v] := ⟨ws.dropLast, ws.getLast (by intro e; rw [e] at h; cases h), (List.dropLast_concat_getLast _).symm⟩
    have ih := len_ddp n vs (by simpa using h)
    rw [ddp_snoc]
    split
    · omega
    · rw [List.length_append, List.length_singleton]
      omega
def wdM (P : Program) (w : World) (K : PySem.W.Frag) (ws : List Wide) (d : Addr) : MP := ⟨fun H o => ∃ ps, o = wO P w d ps ∧ ps.map Prod.fst = ws ∧ Ok P w K H d ps, fun e ⟨ps, h1, h2, h3⟩ => ⟨ps, h1, h2, ⟨fun p hp => Dp.same e _ _ (h3.keys p hp), h3.nd, h3.sm, h3.sz⟩⟩⟩
def wdP (P : Program) (w : World) (K : PySem.W.Frag) (ws : List Wide) : SP := ⟨fun H v => ∃ d, v = .ref d ∧ ∃ o, H d = some o ∧ (wdM P w K ws d).p H o, fun e ⟨d, h1, o, h2, h3⟩ => ⟨d, h1, o, e _ _ h2, MP.st _ e h3⟩⟩
section
variable {X : Cx} {an : An} {K : PySem.W.Frag} {ρ : TF.Env} {W W1 W2 W3 W' Wz : Wd} {P R : SP} {N : TF.Env → Wd → Prop} {rest body : List Stmt} {o i e c it : Expr} {pos pos' p1 : Pos} {b : Addr} {k : Nat} {ws : List Wide}
theorem rn_wdP (h : RN X an e ρ W W' (wdM X.prog X.w X.K ws)) : RV X an e ρ W W' (wdP X.prog X.w X.K ws) := rn_rv h fun H p o e h => ⟨p, rfl, o, e, h⟩
end
section
variable {X : Cx} {pins : List (Addr × Obj)} {σ : L2.St} {H : Hp} {s : Shared}
theorem stored_ents {ps : Ps} {w : Wide} {a : Addr} : storedH (ents ps) (kW w) a (.bool true) = if w ∈ ps.map Prod.fst then ents ps else ents (ps ++ [(w, a)]) := by
  have e := atKey_ents w ps
  unfold inPs at e
  by_cases h : w ∈ ps.map Prod.fst
  · rw [if_pos h]
    rw [decide_eq_true h] at e
    obtain ⟨z, hz⟩ := Option.isSome_iff_exists.mp e
    rw [storedH_old hz]
    unfold ents
    rw [List.map_map]
    refine List.map_congr_left fun p hp => ?_
    show putAt (kW w) (.bool true) (kW p.1, p.2, .bool true) = _
    unfold putAt
    split <;> rfl
  · rw [if_neg h]
    rw [decide_eq_false h] at e
    rw [storedH_new (by cases q : atKey (ents ps) (kW w) with
      | none => rfl
      | some z => rw [q] at e; cases e)]
    unfold ents
    rw [List.map_append]
    rfl
/-- the dict as the comprehension goes: the first i of ws are in it -/
def Bd (P : Program) (w : World) (ws : List Wide) (as : List Addr) (h : Heap) (D : Addr) (i : Nat) : Prop := ∃ ps : Ps, (∃ o es ep, h.get? D = some o ∧ o.ExactDict ∧ o.data = .dict es ep ∧ es.toList = (ents ps).map (entryOfKey (nestedKind P w))) ∧ ps.map Prod.fst = ddp (ws.take i) ∧ ∀ p : Wide × Addr, p ∈ ps → ∃ j : Nat, ws[j]? = some p.1 ∧ as[j]? = some p.2
theorem take_snoc {α : Type} {l : List α} {i : Nat} {x : α} (h : l[i]? = some x) : l.take (i + 1) = l.take i ++ [x] := by
  rw [List.take_add_one, h]
  rfl
theorem Bd.dictOf {P : Program} {w : World} {ws : List Wide} {as : List Addr} {h : Heap} {D : Addr} {ps : Ps} {i : Nat} (hd : ∃ o es ep, h.get? D = some o ∧ o.ExactDict ∧ o.data = .dict es ep ∧ es.toList = (ents ps).map (entryOfKey (nestedKind P w))) (e : ps.map Prod.fst = ddp (ws.take i)) (m : ∀ p : Wide × Addr, p ∈ ps → ∃ j : Nat, ws[j]? = some p.1 ∧ as[j]? = some p.2)
    (hks : ∀ (j : Nat) (w' : Wide) (a : Addr), ws[j]? = some w' → as[j]? = some a → (nestedKind P w).is h (kW w') a) : h.DictOfH (nestedKind P w) D (ents ps) := by
  obtain ⟨o, es, ep, h1, h2, h3, h4⟩ := hd
  refine ⟨o, es, ep, h1, h2, h3, h4, fun x hx => ?_, ents_nodup (by rw [e]; exact ddp_nodup _ _ rfl)⟩
  obtain ⟨p, hp, e⟩ := List.mem_map.mp hx
  subst e
  obtain ⟨j, j1, j2⟩ := m p hp
  exact hks j p.1 p.2 j1 j2
theorem wd_eval {x : Str} {kp vp tp : Pos} {vj : Nat} {scope : Scope} {cl : List (Str × Addr)} {l : Addr} {ws : List Wide} {as : List Addr} {Q : Value → Shared → Prop} (hu : X.A.units + 64 < cLine) (hh : X.A.handled = none)
    (hclos : closureFor scope X.env = pure cl) (hcell : ∀ y ∈ scope.names, y.2 ≠ .cell) (hkind : scope.kind = .function) (hnames : ∀ y ∈ scope.names, y.2 = .local → scope.names.lookup y.1 = some .local) (hx : ∀ C, (compEnvC scope cl C X.env).kindOf x = some .local) (hxd : (x == ("__debug__" : Str)) = false) (hkC : ∀ C, (compEnvC scope cl C X.env).scope.kind = .function)
    (hp : ∀ C, ((compEnvC scope cl C X.env).scope.kind == .class || ((compEnvC scope cl C X.env).scope.kind == .module && (compEnvC scope cl C X.env).locals != (compEnvC scope cl C X.env).globals)) = false)
    (hz : ws.length ≤ 1000000) (hl : s.heap.IsList l (as.map Value.ref).toArray) (hk : as.length = ws.length)
    (hks : ∀ h' : Heap, (∀ b o, s.heap.get? b = some o → h'.get? b = some o) → ∀ (j : Nat) (w : Wide) (a : Addr), ws[j]? = some w → as[j]? = some a → (nestedKind X.prog X.w).is h' (kW w) a)
    (h : ∀ D h' tk, s.heap.objs.size ≤ D → (∀ b o, s.heap.get? b = some o → h'.get? b = some o) → Bd X.prog X.w ws as h' D ws.length → Q (.ref D) { s with heap := h', toks := tk }) :
    wpAny (model X.prog X.w) X.A (pyIter (.ref l)) (DcGoes X.prog X.w X.A X.xe X.env scope cl (.Name x tp) [] (.Name x kp) (.Constant (.bool true) vj vp) none Q) X.xe s := by
  refine PySem.wpAny_pyIter_list hl ?_
  refine ⟨s.heap.objs.size, _, _, _, _, _, rfl, Goes.list (prog := X.prog) (w := X.w) hh s.heap.objs.size l (Nat.ne_of_lt (let ⟨_, e, _⟩ := hl; Heap.lt_size e)) (as.map Value.ref).toArray, ⟨⟨_, Heap.get?_push_size _ rfl, rfl, rfl⟩, hl.push _⟩, ?_⟩
  intro D C s3 cb hD
  obtain ⟨⟨g3, tk3, e3⟩, old, newD, newC, ne, names⟩ := cb
  have nD : s.heap.objs.size + 1 ≤ D := Nat.le_trans (Nat.le_of_eq (Heap.size_push s.heap _).symm) newD
  have nC : s.heap.objs.size + 1 ≤ C := Nat.le_trans (Nat.le_of_eq (Heap.size_push s.heap _).symm) newC
  have nI1 : D ≠ s.heap.objs.size := Nat.ne_of_gt nD
  have nI2 : C ≠ s.heap.objs.size := Nat.ne_of_gt nC
  have oD : ∀ b o, s.heap.get? b = some o → b ≠ D := fun b o e => Nat.ne_of_lt (Nat.lt_of_lt_of_le (Heap.lt_size e) (Nat.le_of_succ_le nD))
  have oC : ∀ b o, s.heap.get? b = some o → b ≠ C := fun b o e => Nat.ne_of_lt (Nat.lt_of_lt_of_le (Heap.lt_size e) (Nat.le_of_succ_le nC))
  refine ⟨fun i s1 => (∃ tk h, s1 = { s with heap := h, toks := tk }) ∧ (∀ b o, s.heap.get? b = some o → s1.heap.get? b = some o) ∧ (∃ m, s1.heap.Ns C m) ∧ Bd X.prog X.w ws as s1.heap D i, ?_, ?_, ?_, ?_⟩
  · subst e3
    exact ⟨⟨_, _, rfl⟩, fun b o e => old b o (Heap.get?_push_of_some _ e), ⟨_, names⟩, [], ⟨_, _, _, hD, ⟨rfl, rfl, rfl⟩, rfl, rfl⟩, rfl, fun p hp => absurd hp (by simp)⟩
  · rintro i s1 h' tk ⟨⟨tk1, h1, rfl⟩, g1, ⟨m, g2⟩, ps, ⟨o, es, ep, q1, q2, q3, q4⟩, q5, q6⟩ kp _
    exact ⟨⟨_, _, rfl⟩, fun b o e => kp b o (fun z => by rw [List.mem_singleton.mp z] at e; exact absurd (Heap.lt_size e) (Nat.lt_irrefl _)) (g1 b o e), ⟨m, g2.at fun o e => kp _ _ (fun z => nI2 (List.mem_singleton.mp z)) e⟩, ps, ⟨o, es, ep, kp _ _ (fun z => nI1 (List.mem_singleton.mp z)) q1, q2, q3, q4⟩, q5, q6⟩
  · rintro i v s1 hi hv st ⟨⟨tk1, h1, rfl⟩, g1, ⟨m, g2⟩, ps, hd, q5, q6⟩
    obtain ⟨a, ha, rfl⟩ : ∃ a, as[i]? = some a ∧ v = .ref a := by
      have z : (as.map Value.ref)[i]? = some v := by simpa using hv
      rw [List.getElem?_map] at z
      cases q : as[i]? with
      | none =>
        rw [q] at z
        cases z
      | some a =>
        rw [q] at z
        exact ⟨a, rfl, (Option.some.inj z).symm⟩
    obtain ⟨w, hw⟩ : ∃ w, ws[i]? = some w := by
      have hl : i < ws.length := by
        rw [← hk]
        exact (List.getElem?_eq_some_iff.mp ha).1
      exact ⟨_, List.getElem?_eq_getElem hl⟩
    refine wpAny_assign_Name (wpAny_storeName_local (hx C) g2 (fun h2 hn2 hs2 => ?_) (hp C))
    have f2 : ∀ b o, s.heap.get? b = some o → h2.get? b = some o := fun b o e => (hs2.2 b (oC b o e)).trans (g1 b o e)
    show wpAny _ _ (pure true) _ _ _
    refine wpAny_pure ?_
    rw [if_pos rfl]
    refine wpAny_Name (wpAny_loadName_local (hkC C) (hx C) hn2 (v := .ref a) (if_pos rfl) ?_) hxd
    refine Constant_bool ?_
    have hd2 : ∃ o es ep, h2.get? D = some o ∧ o.ExactDict ∧ o.data = .dict es ep ∧ es.toList = (ents ps).map (entryOfKey (nestedKind X.prog X.w)) := by
      obtain ⟨o, es, ep, q1, q2⟩ := hd
      exact ⟨o, es, ep, (hs2.2 D ne).trans q1, q2⟩
    have dd := Bd.dictOf hd2 q5 q6 (hks h2 f2)
    have hlen : ps.length ≤ i := by
      have z := congrArg List.length q5
      rw [List.length_map] at z
      rw [z]
      have y := len_ddp _ (ws.take i) rfl
      rw [List.length_take] at y
      omega
    have hi' : i < ws.length := (List.getElem?_eq_some_iff.mp hw).1
    refine wpAny_dictSet_heap (knd := nestedKind X.prog X.w) (by show X.A.units + 8 < cLine; omega) (hks h2 f2 i w a hw ha) dd (fun h3 hm3 hs3 => ?_) (by
      have : (1000000 : Nat) < sizeLine := by rw [sizeLine_eq]; decide
      unfold ents
      rw [List.length_map]
      omega)
    have f3 : ∀ b o, s.heap.get? b = some o → h3.get? b = some o := fun b o e => (hs3.2 b (oD b o e)).trans (f2 b o e)
    rw [stored_ents, q5] at hm3
    refine ⟨⟨⟨_, _, rfl⟩, f3, ⟨_, hn2.at fun o e => (hs3.2 C (Ne.symm ne)).trans e⟩, ?_⟩, ?_⟩
    · by_cases hin : w ∈ ddp (ws.take i)
      · rw [if_pos hin] at hm3
        obtain ⟨o, es, ep, r1, r2, r3, r4, _⟩ := hm3
        refine ⟨ps, ⟨o, es, ep, r1, r2, r3, r4⟩, ?_, q6⟩
        rw [take_snoc hw, ddp_snoc, if_pos hin]
        exact q5
      · rw [if_neg hin] at hm3
        obtain ⟨o, es, ep, r1, r2, r3, r4, _⟩ := hm3
        refine ⟨ps ++ [(w, a)], ⟨o, es, ep, r1, r2, r3, r4⟩, ?_, fun p hp => ?_⟩
        · rw [take_snoc hw, ddp_snoc, if_neg hin, List.map_append, q5]
          rfl
        · rcases List.mem_append.mp hp with hp | hp
          · exact q6 p hp
          · rw [List.mem_singleton.mp hp]
            exact ⟨i, hw, ha⟩
    · refine (Goes.list (prog := X.prog) (w := X.w) (A := X.A) (target := .Name x tp) hh s.heap.objs.size l (Nat.ne_of_lt (let ⟨_, e, _⟩ := hl; Heap.lt_size e)) (as.map Value.ref).toArray).frame _ _ _ st fun b hb o e => ?_
      have bD : b ≠ D := by
        rcases List.mem_cons.mp hb with z | z
        · rw [z]
          exact Ne.symm nI1
        · rw [List.mem_singleton.mp z]
          obtain ⟨o, e, _⟩ := hl
          exact oD l o e
      have bC : b ≠ C := by
        rcases List.mem_cons.mp hb with z | z
        · rw [z]
          exact Ne.symm nI2
        · rw [List.mem_singleton.mp z]
          obtain ⟨o, e, _⟩ := hl
          exact oC l o e
      exact (hs3.2 b bD).trans ((hs2.2 b bC).trans e)
  · rintro s1 ⟨⟨tk1, h1, rfl⟩, g1, ⟨m, g2⟩, hb⟩
    have hn : (as.map Value.ref).toArray.size = ws.length := by simp [hk]
    rw [hn] at hb
    refine ⟨m, g2, fun h' sb => ?_⟩
    refine h D h' tk1 (by omega) (fun b o e => (sb.2 b (oC b o e)).trans (g1 b o e)) ?_
    obtain ⟨ps, ⟨o, es, ep, q1, q2⟩, q5⟩ := hb
    exact ⟨ps, ⟨o, es, ep, (sb.2 D ne).trans q1, q2⟩, q5⟩
end
end WD
namespace WD
open PySem PySem.Spec PyProof.Rows L2 TF
section
variable {X : Cx} {an : An} {ρ : TF.Env} {W W' : Wd} {ws : List Wide}
theorem refs_of {K : PySem.W.Frag} {H : Hp} : ∀ {ws : List Wide} {xs : List V} {us : List Value}, Sat (ws.map fun w => dat K (wD w)) H xs → Vals xs us → ∃ as : List Addr, us = as.map Value.ref ∧ as.length = ws.length ∧ ∀ (j : Nat) (w : Wide) (a : Addr), ws[j]? = some w → as[j]? = some a → Dp K H (.ref a) (wD w)
  | [], _, _, s, r => by
    cases s
    cases r
    exact ⟨[], rfl, rfl, fun j w a e => by simp at e⟩
  | w :: ws, _, _, s, r => by
    cases s with
    | cons s1 s2 =>
      cases r with
      | cons r1 r2 =>
        obtain ⟨as, e1, e2, e3⟩ := refs_of s2 r2
        have s1 : Dp K H _ (.tuple (w.map oD)) := s1
        cases s1 with
        | @tup a xs ds hs ha =>
          cases r1
          refine ⟨a :: as, by rw [e1]; rfl, by simp [e2], fun j w' a' h1 h2 => ?_⟩
          cases j with
          | zero =>
            simp at h1 h2
            subst h1 h2
            exact .tup hs ha
          | succ j => exact e3 j w' a' (by simpa using h1) (by simpa using h2)
theorem rn_wdc {x : Str} {kp vp tp pos : Pos} {vj : Nat} {iter : Expr} {scope : Scope} {cl : List (Str × Addr)} (hu : X.A.units + 64 < cLine) (he : RV X an iter ρ W W' (lstP X.K (ws.map fun w => dat X.K (wD w)))) (hz : ws.length ≤ 1000000)
    (hc : X.calm = true := by rfl) (hclos : closureFor scope X.env = pure cl := by rfl) (hcell : ∀ y ∈ scope.names, y.2 ≠ .cell := by decide) (hkind : scope.kind = .function := by rfl) (hnames : ∀ y ∈ scope.names, y.2 = .local → scope.names.lookup y.1 = some .local := by decide) (hx : ∀ C, (compEnvC scope cl C X.env).kindOf x = some .local := by intro _; rfl) (hxd : (x == ("__debug__" : Str)) = false := by decide) (hkC : ∀ C, (compEnvC scope cl C X.env).scope.kind = .function := by intro _; rfl)
    (hp : ∀ C, ((compEnvC scope cl C X.env).scope.kind == .class || ((compEnvC scope cl C X.env).scope.kind == .module && (compEnvC scope cl C X.env).locals != (compEnvC scope cl C X.env).globals)) = false := by intro _; rfl) (hs : ∀ x, foldedSetIterable iter X.env x = pure x := by intro _; rfl) :
    RN X an (.DictComp (.Name x kp) (.Constant (.bool true) vj vp) [⟨.Name x tp, iter, [], 0⟩] scope pos) ρ W W' (wdM X.prog X.w X.K (ddp ws)) := by
  refine ⟨fun pins s σ H Q I ⟨O, m, q⟩ => ?_⟩
  refine DictComp_goes hclos hcell hkind hnames ?_ hs
  refine thn (he.run pins s σ H (fun v H' => MX an O ρ W' σ H' ∧ Same (mn H O) (mn H' O) ∧ (lstP X.K (ws.map fun w => dat X.K (wD w))).p (mn H' O) v) I ⟨O, m, fun v H' m' s p => ⟨m', s, p⟩⟩) fun v s1 ⟨y, H1, I1, r1, m1, ss, a, xs, ex, hq, sat⟩ => ?_
  subst ex
  cases r1
  have hq1 : SqL X.K H1 a xs := mn_le.seq hq
  obtain ⟨its, rv, pl, hzl⟩ := I1.list hq1
  obtain ⟨as, e1, e2, e3⟩ := refs_of sat rv
  subst e1
  have e4 : ∀ (j : Nat) (w : Wide) (a : Addr), ws[j]? = some w → as[j]? = some a → Dp X.K H1 (.ref a) (wD w) := fun j w a h1 h2 => Dp.same mn_le _ _ (e3 j w a h1 h2)
  refine wd_eval hu (I1.ok.hd hc) hclos hcell hkind hnames hx hxd hkC hp hz pl.isList e2 (fun h' kp j w a h1 h2 => wide_key (I1.kept (t' := s1.toks) kp) (e4 j w a h1 h2)) fun D h' tk hD kp hb => ?_
  obtain ⟨ps, hd, q5, q6⟩ := hb
  have hn : H1 D = none := I1.hok.fresh hD
  have dd := Bd.dictOf hd q5 q6 (fun j w a h1 h2 => wide_key (I1.kept (t' := s1.toks) kp) (e4 j w a h1 h2))
  have ok : Ok X.prog X.w X.K (mn H1 O) D ps := ⟨fun p hp => by
    obtain ⟨j, j1, j2⟩ := q6 p hp
    exact e3 j p.1 p.2 j1 j2, by rw [q5]; exact ddp_nodup _ _ rfl, ?_, ?_⟩
  · rw [List.take_length] at q5
    obtain ⟨m2, e⟩ := m1.new (mp := wdM X.prog X.w X.K (ddp ws) D) (o := wO X.prog X.w D ps) hn ⟨ps, rfl, q5, ok⟩
    exact ⟨.ref D, _, I1.laid (t' := tk) kp hD (objOk dd), rfl, q D _ (m1.lv.new hn) (m1.new0 hn) m2 (by rw [e]; exact ss)⟩
  · exact beq_eq_false_iff_ne.mpr (Ne.symm (Nat.ne_of_lt (Nat.lt_of_lt_of_le I1.big hD)))
  · have z := congrArg List.length q5
    rw [List.length_map] at z
    rw [z]
    have y := len_ddp _ (ws.take ws.length) rfl
    rw [List.length_take] at y
    omega
end
end WD
set_option Elab.async false
set_option linter.all false
set_option maxRecDepth 100000
set_option maxHeartbeats 4000000
/-! S3: rules for sorted(..) and dicts of wides. -/
namespace TF
open PySem PySem.Spec L2
open PySem.W (AllAlike Sortable)
section
variable {X : Cx} {an : An} {K : PySem.W.Frag} {ρ : TF.Env} {W W1 W2 W3 W' Wz : Wd} {P R : SP} {N : TF.Env → Wd → Prop} {rest body : List Stmt} {o i e c it : Expr} {pos pos' p1 p : Pos} {b : Addr} {k : Nat}
/-- sorted(l), a list of data -/
theorem rv_sortedD {ds : List PyData} (hu : X.A.units + 64 < cLine) (hm : X.mg "sorted" = none) (ha : RV X an e ρ W W' (lstP X.K (ds.map (dat X.K)))) (hal : AllAlike ds) (hk : Sortable ds) (hd : ∀ d, d ∈ ds → d.depth ≤ 8) (hg : Gl X "sorted" := by rfl) (hs : starEach [e] X.env = (false, eval e X.env) :: starEach [] X.env := by rfl) (hpl : (backTo pos (starEach [] X.env)).any (·.1) = false := by rfl) :
    RV X an (.Call (.Name "sorted" p) [e] [] pos) ρ W W' (lstT ((srtD ds).map (dat X.K))) :=
  rv_callB (cr_sortedD hu) (fun O H vs Q l s q => by
    cases s with
    | cons s1 s2 =>
      cases s2
      obtain ⟨a, xs, rfl, h2, h3⟩ := s1
      refine ⟨a, xs, ds, rfl, mn_le.seq h2, DpAll.same mn_le _ _ (all_of_sat h3), hal, hk, hd, fun ys p hy hp => ?_⟩
      exact q _ _ (same_new hp) ⟨p, ys, rfl, mn_new l hp, (sat_of_all (hy _ (all_of_sat h3))).same (mn_mono (same_new hp))⟩) hm (ra_cons ha ra_nil hs) (hg := hg) (he := hs) (hpl := hpl)
end
end TF
namespace WD
open PySem PySem.Spec PyProof.Rows L2 TF
open PySem.W (AllAlike Sortable KdlSrc)
/-- list(d) -/
def rListW (P : Program) (w : World) (K : PySem.W.Frag) : List V → Hp → VK → Prop := fun vs H Q => ∃ (a : Addr) (ps : Ps), vs = [V.ref a] ∧ H a = some (wO P w a ps) ∧ Ok P w K H a ps ∧ ∀ p, H p = none → Q (.ref p) (upd H p (.lst (ps.map fun p => .ref p.2)))
section
variable {X : Cx}
theorem cr_listW (hc : X.calm = true) : CallR X (.type "list") (rListW X.prog X.w X.K) := by
  intro pins s σ H vs us Q I r h
  obtain ⟨a, ps, rfl, hd, ok, q⟩ := h
  obtain ⟨u, rfl, ru⟩ := vals1 r
  obtain rfl : u = Value.ref a := ru
  obtain ⟨es, ep, raw, he⟩ := rawOf I hd
  have hs : es.size = ps.length := by
    have := congrArg List.length he
    simpa [ents] using this
  have hz : ps.length ≤ sizeLine := by
    have := ok.sz
    have : (1000000 : Nat) < sizeLine := by rw [sizeLine_eq]; decide
    omega
  refine PySem.W.kdl_call (KdlSrc.rawDict ok.sm) (I.ok.hd hc) raw (by rw [hs]; exact hz) fun h' tk acc c' kp hD hi => ?_
  have hacc := items_keys he hi
  have hv : Vals (ps.map fun p => V.ref p.2) (ps.map fun p => Value.ref p.2) := by
    clear hacc hi hs hz he q ok hd
    induction ps with
    | nil => exact .nil
    | cons p ps ih => exact .cons rfl ih
  refine ⟨.ref s.heap.objs.size, upd H s.heap.objs.size (.lst _), I.laid (t' := tk) kp (Nat.le_refl _) ⟨?_, acc.toList, c', by rw [hacc]; exact hv, by rw [Array.toArray_toList]; exact hD⟩, rfl, q _ (I.hok.fresh (Nat.le_refl _))⟩
  rw [List.length_map]
  exact hz
end
section
variable {X : Cx} {an : An} {K : PySem.W.Frag} {ρ : TF.Env} {W W1 W2 W3 W' Wz : Wd} {P R : SP} {N : TF.Env → Wd → Prop} {rest body : List Stmt} {o i e c it : Expr} {pos pos' p1 p : Pos} {b : Addr} {k : Nat} {ws : List Wide}
theorem dps_ps {K : PySem.W.Frag} {H : Hp} : ∀ {ps : Ps}, (∀ p, p ∈ ps → Dp K H (.ref p.2) (TF.wD p.1)) → Sat ((ps.map Prod.fst).map fun w => dat K (wD w)) H (ps.map fun p => .ref p.2)
  | [], _ => .nil
  | p :: ps, h => .cons (h p List.mem_cons_self) (dps_ps fun q hq => h q (List.mem_cons_of_mem _ hq))
theorem rv_listW (hc : X.calm = true) (hm : X.mg "list" = none) (ha : RV X an e ρ W W' (wdP X.prog X.w X.K ws)) (hg : Gl X "list" := by rfl) (hs : starEach [e] X.env = (false, eval e X.env) :: starEach [] X.env := by rfl) (hpl : (backTo pos (starEach [] X.env)).any (·.1) = false := by rfl) :
    RV X an (.Call (.Name "list" p) [e] [] pos) ρ W W' (lstT (ws.map fun w => dat X.K (wD w))) :=
  rv_callTy (cr_listW hc) (fun O H vs Q l s q => by
    cases s with
    | cons s1 s2 =>
      cases s2
      obtain ⟨d, rfl, o, h2, ps, rfl, e, ok⟩ := s1
      refine ⟨d, ps, rfl, mn_at h2, ⟨fun p hp => Dp.same mn_le _ _ (ok.keys p hp), ok.nd, ok.sm, ok.sz⟩, fun p hp => ?_⟩
      exact q _ _ (same_new hp) ⟨p, _, rfl, mn_new l hp, by rw [← e]; exact (dps_ps ok.keys).same (mn_mono (same_new hp))⟩) hm (ra_cons ha ra_nil hs) (hg := hg) (he := hs) (hpl := hpl)
/-- sorted(d) -/
theorem rv_sortedW (hu : X.A.units + 64 < cLine) (hc : X.calm = true) (hm : X.mg "sorted" = none) (ha : RV X an e ρ W W' (wdP X.prog X.w X.K ws)) (hal : AllAlike (ws.map wD)) (hk : Sortable (ws.map wD)) (hd : ∀ w, w ∈ ws → (wD w).depth ≤ 8) (hg : Gl X "sorted" := by rfl) (hs : starEach [e] X.env = (false, eval e X.env) :: starEach [] X.env := by rfl) (hpl : (backTo pos (starEach [] X.env)).any (·.1) = false := by rfl) :
    RV X an (.Call (.Name "sorted" p) [e] [] pos) ρ W W' (lstT ((srtD (ws.map wD)).map (dat X.K))) :=
  rv_callB (cr_sortedW hu hc) (fun O H vs Q l s q => by
    cases s with
    | cons s1 s2 =>
      cases s2
      obtain ⟨d, rfl, o, h2, ps, rfl, e, ok⟩ := s1
      have e2 : ps.map (fun p => wD p.1) = ws.map wD := by rw [← e, List.map_map]; rfl
      refine ⟨d, ps, rfl, mn_at h2, ⟨fun p hp => Dp.same mn_le _ _ (ok.keys p hp), ok.nd, ok.sm, ok.sz⟩, by rw [e2]; exact hal, by rw [e2]; exact hk, fun p hp => hd _ (by rw [← e]; exact List.mem_map.mpr ⟨p, hp, rfl⟩), fun ys p hy hp => ?_⟩
      have y := hy _ ok.keys
      rw [e2] at y
      exact q _ _ (same_new hp) ⟨p, ys, rfl, mn_new l hp, (sat_of_all y).same (mn_mono (same_new hp))⟩) hm (ra_cons ha ra_nil hs) (hg := hg) (he := hs) (hpl := hpl)
end
end WD
set_option Elab.async false
set_option linter.all false
set_option maxRecDepth 100000
set_option maxHeartbeats 4000000
/-! S4: a dict of wides, made, asked, written. -/
namespace WD
open PySem PySem.Spec PyProof.Rows L2 TF
section
variable {X : Cx}
def rSetW (P : Program) (w : World) (K : PySem.W.Frag) : V → V → V → Hp → (Hp → Prop) → Prop := fun o i v H Q => ∃ (d : Addr) (ps : Ps) (w' : Wide) (a : Addr), o = .ref d ∧ i = .ref a ∧ v = .bl true ∧ H d = some (wO P w d ps) ∧ Ok P w K H d ps ∧ Dp K H (.ref a) (wD w') ∧ ¬ w' ∈ ps.map Prod.fst ∧ ps.length < 1000000 ∧ Q (upd H d (wO P w d (ps ++ [(w', a)])))
theorem set_wide (hu : X.A.units + 64 < cLine) : PSet X (rSetW X.prog X.w X.K) := by
  intro pins s σ H o i v ov iv u Q I ro ri rv h
  obtain ⟨d, ps, w, a, rfl, rfl, rfl, hd, ok, hw, hn, hl, q⟩ := h
  cases ro
  cases ri
  cases rv
  have dd := dictOf I hd ok
  refine wpAny_setItem_heap (knd := nestedKind X.prog X.w) (by show X.A.units + 1 + 8 < cLine; omega) (wide_key I hw) dd (fun h' hm' hs' => ?_) (by
    have : (1000000 : Nat) < sizeLine := by rw [sizeLine_eq]; decide
    unfold ents
    rw [List.length_map]
    omega)
  rw [stored_ents, if_neg hn] at hm'
  refine ⟨_, d_write I (by rw [hd]; exact True.intro) hs' ?_ (objOk hm'), q⟩
  obtain ⟨o, es, ep, r1, _⟩ := hm'
  exact ⟨o, r1⟩
end
section
variable {X : Cx} {an : An} {K : PySem.W.Frag} {ρ : TF.Env} {W W1 W2 W3 W' Wz : Wd} {P R : SP} {N : TF.Env → Wd → Prop} {rest body : List Stmt} {o i e c it : Expr} {pos pos' p1 p : Pos} {b : Addr} {k : Nat} {ws : List Wide} {w0 : Wide}
theorem MX.wd {O : List Addr} {σ : L2.St} {H : Hp} (m : MX an O ρ W σ H) (hk : W[k]? = some (b, wdM X.prog X.w X.K ws b)) : ∃ ps, H b = some (wO X.prog X.w b ps) ∧ ps.map Prod.fst = ws ∧ Ok X.prog X.w X.K (mn H O) b ps := by
  obtain ⟨_, q, e, ps, eo, h1, h2⟩ := m.wo.at_ _ (List.mem_of_getElem? hk)
  subst eo
  exact ⟨ps, e, h1, h2⟩
theorem Ok.up {P : Program} {w : World} {K : PySem.W.Frag} {H H' : Hp} {d : Addr} {ps : Ps} (s : Same H H') (ok : Ok P w K H d ps) : Ok P w K H' d ps := ⟨fun p hp => Dp.same s _ _ (ok.keys p hp), ok.nd, ok.sm, ok.sz⟩
theorem wide_ref {K : PySem.W.Frag} {H : Hp} {v : V} {w : Wide} (h : (dat K (wD w)).p H v) : ∃ a, v = .ref a ∧ Dp K H (.ref a) (wD w) := by
  have h : Dp K H v (.tuple (w.map oD)) := h
  cases h with
  | tup hs ha => exact ⟨_, rfl, .tup hs ha⟩
/-- o[i] = True, i a new key -/
theorem rs_wput (k : Nat) {vj : Nat} {vp : Pos} (hu : X.A.units + 64 < cLine) (ho : RV X an o ρ W W1 (refP b)) (hi : RV X an i ρ W1 W2 (dat X.K (wD w0))) (hk : W2[k]? = some (b, wdM X.prog X.w X.K ws b)) (hn : ¬ w0 ∈ ws) (hl : ws.length < 1000000) (h : RSs X an rest ρ (W2.set k (b, wdM X.prog X.w X.K (ws ++ [w0]) b)) N R Wz)
    (hs : swapsWithSole [.Subscript o i pos'] (.Constant (.bool true) vj vp) pos.line X.env = pure false := by rfl) (hw : swappedStores [.Subscript o i pos'] (.Constant (.bool true) vj vp) X.env = pure none := by rfl)
    (h1 : (assignEach [.Subscript o i pos'] X.env).map (·.2) = [assign (.Subscript o i pos') X.env] := by rfl)
    (ha : ∀ v, assign (.Subscript o i pos') X.env v = (do
      let ov ← holding [v] (eval o X.env)
      let iv ← holding [v, ov] (eval i X.env)
      standAt pos'
      holding [v, ov, iv] (setItem ov iv v)
      release [v, ov, iv] []) := by intro _; rfl) : RSs X an (.Assign [.Subscript o i pos'] (.Constant (.bool true) vj vp) pos :: rest) ρ W N R Wz :=
  rs_cons (N1 := fun ρ1 W' => ρ1 = ρ ∧ W' = W2.set k (b, wdM X.prog X.w X.K (ws ++ [w0]) b)) (PSimp (ps_asg (rv_bl (K := X.K)) (pg_sub ho hi (set_wide hu) ha) hs hw h1) fun D σ H ⟨O, m, nx, rt⟩ => ⟨O, m, fun v H1 m1 s1 p1 => ⟨O, m1, fun x H2 m2 s2 p2 => ⟨O, m2, fun y H3 m3 s3 p3 => by
      have p2 : x = .ref b := p2
      subst p2
      obtain ⟨ps, e3, q1, ok⟩ := MX.wd m3 hk
      obtain ⟨a, rfl, hw⟩ := wide_ref p3
      have hn' : ¬ w0 ∈ ps.map Prod.fst := by rw [q1]; exact hn
      have hlp : ps.length < 1000000 := by
        have z := congrArg List.length q1
        rw [List.length_map] at z
        omega
      refine ⟨b, ps, w0, a, rfl, rfl, dat_bool p1, e3, ok.up mn_le, Dp.same mn_le _ _ hw, hn', hlp, ?_⟩
      have ok2 : Ok X.prog X.w X.K (mn H3 O) b (ps ++ [(w0, a)]) := ⟨fun p hp => by
        rcases List.mem_append.mp hp with hp | hp
        · exact ok.keys p hp
        · rw [List.mem_singleton.mp hp]
          exact hw, by
        rw [List.map_append]
        exact List.nodup_append.mpr ⟨ok.nd, by simp, fun x hx y hy e => hn' ((show x = w0 from e.trans (List.mem_singleton.mp hy)) ▸ hx)⟩, ok.sm, by rw [List.length_append, List.length_singleton]; omega⟩
      obtain ⟨m4, s4⟩ := m3.put (m' := wdM X.prog X.w X.K (ws ++ [w0]) b) (o' := wO X.prog X.w b (ps ++ [(w0, a)])) hk ⟨_, rfl, by rw [List.map_append, q1]; rfl, ok2⟩
      exact nx _ _ _ _ O ⟨rfl, rfl⟩ m4 (((s1.trans s2).trans s3).trans s4)⟩⟩⟩) fun ρ1 W1 ⟨e1, e2⟩ => e1 ▸ e2 ▸ h
/-- i not in o -/
theorem pc_wnot (hu : X.A.units + 64 < cLine) : OpR X (compareOp .NotIn) (fun x y H Q => ∃ (a d : Addr) (w : Wide) (ps : Ps), x = .ref a ∧ y = .ref d ∧ H d = some (wO X.prog X.w d ps) ∧ Ok X.prog X.w X.K H d ps ∧ Dp X.K H (.ref a) (wD w) ∧ Q (.bl (!decide (w ∈ ps.map Prod.fst))) H) := by
  intro pins s σ H x y v u Q I rx ry h
  obtain ⟨a, d, w, ps, rfl, rfl, hd, ok, hw, q⟩ := h
  cases rx
  cases ry
  exact notIn hu I hd ok hw fun s' I' => ⟨.bl _, H, I', rfl, q⟩
theorem rt_wnotO (k : Nat) (hu : X.A.units + 64 < cLine) (hi : RV X an i ρ W W1 (dat X.K (wD w0))) (ho : RV X an o ρ W1 W2 (refP b)) (hk : W2[k]? = some (b, wdM X.prog X.w X.K ws b)) (h1 : behindInMarks .NotIn o = false := by first | rfl | with_unfolding_all rfl) : RT X an (.Compare i [.NotIn] [o] pos) ρ W W2 (!decide (w0 ∈ ws)) :=
  PTimp (pt_cmpR (pc_wnot hu) hi ho h1) fun σ H Q ⟨O, m, q⟩ => ⟨O, m, fun y H1 m1 s1 p1 => ⟨O, m1, fun z H2 m2 s2 p2 => by
    have p2 : z = .ref b := p2
    subst p2
    obtain ⟨ps, e2, q1, ok⟩ := MX.wd m2 hk
    obtain ⟨a, rfl, hw⟩ := wide_ref ((dat X.K (wD w0)).st s2 p1)
    refine ⟨a, b, w0, ps, rfl, rfl, e2, ok.up mn_le, Dp.same mn_le _ _ hw, ?_⟩
    rw [q1]
    exact ⟨_, rfl, q H2 m2 (s1.trans s2)⟩⟩⟩
end
end WD
set_option Elab.async false
set_option linter.all false
set_option maxRecDepth 100000
set_option maxHeartbeats 4000000
/-! S5: {w: True}. -/
namespace WD
open PySem PySem.Spec PyProof.Rows L2 TF
section
variable {X : Cx} {an : An} {K : PySem.W.Frag} {ρ : TF.Env} {W W1 W2 W3 W' Wz : Wd} {P R : SP} {N : TF.Env → Wd → Prop} {rest body : List Stmt} {o i e c it kx : Expr} {pos pos' p1 p : Pos} {b : Addr} {k : Nat} {ws : List Wide} {w0 : Wide}
theorem raw_empty {P : Program} {w : World} {h : Heap} : (h.push { cls := .type "dict", data := .dict #[] }).DictOfH (nestedKind P w) h.objs.size (ents []) :=
  ⟨_, _, _, Heap.get?_push_size _ rfl, ⟨rfl, rfl, rfl⟩, rfl, rfl, fun x hx => absurd hx (by simp [ents]), by simp [ents]⟩
theorem rn_wdisp {vj : Nat} {vp : Pos} (hu : X.A.units + 64 < cLine) (hk : ∀ c, RV X an kx ρ (W ++ [c]) (W' ++ [c]) (dat X.K (wD w0)))
    (hshape : (evalEachOpt [some kx] X.env).zip ((evalEach [.Constant (.bool true) vj vp] X.env).map fun v => do let x ← v; standAt pos; pure x) = [(eval kx X.env, (do let x ← eval (.Constant (.bool true) vj vp) X.env; standAt pos; pure x))].map fun p => (some p.1, p.2) := by rfl) :
    RN X an (.Dict [some kx] [.Constant (.bool true) vj vp] pos) ρ W W' (wdM X.prog X.w X.K [w0]) := by
  refine ⟨fun pins s σ H Q I ⟨O, m, q⟩ => ?_⟩
  rw [arm_eval_Dict, hshape, dictDisplay_pairs [(eval kx X.env, (do let x ← eval (.Constant (.bool true) vj vp) X.env; standAt pos; pure x))] (by simp) (by simp)]
  refine wpAny_bind (wpAny_standAt (wpAny_bind (wpAny_subDictH (knd := nestedKind X.prog X.w) (by show X.A.units + 8 < cLine; omega) (by simp) ?_)))
  have hD : s.heap.objs.size ≤ s.heap.objs.size := Nat.le_refl _
  have hn : H s.heap.objs.size = none := I.hok.fresh hD
  have hsm : (s.heap.objs.size == sysModules) = false := beq_eq_false_iff_ne.mpr (Ne.symm (Nat.ne_of_lt I.big))
  have ok0 : Ok X.prog X.w X.K (mn H O) s.heap.objs.size [] := ⟨fun p hp => absurd hp (by simp), by simp, hsm, by simp⟩
  obtain ⟨m1, e1⟩ := m.new (mp := wdM X.prog X.w X.K [] s.heap.objs.size) (o := wO X.prog X.w s.heap.objs.size []) hn ⟨[], rfl, rfl, ok0⟩
  have I1 : Inv X pins σ (upd H s.heap.objs.size (wO X.prog X.w s.heap.objs.size [])) { s with heap := s.heap.push { cls := .type "dict", data := .dict #[] } } := I.laid (t' := s.toks) (fun b o e => Heap.get?_push_of_some _ e) hD (objOk raw_empty)
  refine evalPairs_cons ?_
  refine thn ((hk _).run pins _ σ _ (fun v H' => MX an (s.heap.objs.size :: O) ρ (W' ++ [(s.heap.objs.size, wdM X.prog X.w X.K [] s.heap.objs.size)]) σ H' ∧ Same (mn (upd H s.heap.objs.size (wO X.prog X.w s.heap.objs.size [])) (s.heap.objs.size :: O)) (mn H' (s.heap.objs.size :: O)) ∧ (dat X.K (wD w0)).p (mn H' (s.heap.objs.size :: O)) v) I1 ⟨_, m1, fun v H' m' s p => ⟨m', s, p⟩⟩) fun v s1 ⟨y, H1, I2, r1, m2, ss, pv⟩ => ?_
  obtain ⟨a, rfl, hw⟩ := wide_ref pv
  cases r1
  refine wpAny_bind (Constant_bool (wpAny_bind (wpAny_standAt (wpAny_pure ?_))))
  refine evalPairs_nil ?_
  obtain ⟨ps, e2, q1, ok⟩ := MX.wd m2 get_last
  have hps : ps = [] := List.map_eq_nil_iff.mp q1
  subst hps
  refine ⟨[(kW w0, a, .bool true)], ⟨rfl, rfl, wide_key I2 (Dp.same mn_le _ _ hw), trivial⟩, dictOf I2 e2 (ok.up mn_le), fun h' tk dd sb => ?_⟩
  have es : storedAllH [] [(kW w0, a, .bool true)] = ents [(w0, a)] := by
    show storedH (ents []) (kW w0) a (.bool true) = _
    rw [stored_ents, if_neg (by simp)]
    rfl
  rw [es] at dd
  have ok2 : Ok X.prog X.w X.K (mn H1 (s.heap.objs.size :: O)) s.heap.objs.size [(w0, a)] := ⟨fun p hp => by
    rw [List.mem_singleton.mp hp]
    exact hw, by simp, hsm, by simp⟩
  obtain ⟨m3, s3⟩ := m2.put (m' := wdM X.prog X.w X.K [w0] s.heap.objs.size) (o' := wO X.prog X.w s.heap.objs.size [(w0, a)]) get_last ⟨_, rfl, rfl, ok2⟩
  rw [set_last] at m3
  refine wpAny_pure ⟨.ref s.heap.objs.size, _, d_write (t' := tk) I2 (by rw [e2]; exact True.intro) sb ?_ (objOk dd), rfl, q _ _ (m.lv.new hn) (m.new0 hn) m3 ?_⟩
  · obtain ⟨o, es, ep, r1, _⟩ := dd
    exact ⟨o, r1⟩
  · rw [e1] at ss
    exact ss.trans s3
end
end WD
set_option Elab.async false
set_option linter.all false
set_option maxRecDepth 100000
set_option maxHeartbeats 4000000
/-! S6: orders, in plain words; what the order of data is on heaps and on ranks. -/
namespace TF
open PySem PySem.Spec PyProof.Rows
open PySem.W (dataLt dataLe alike alikeAll rowLt)
structure Tot {α : Type} (lt : α → α → Bool) : Prop where
  irr : ∀ a, lt a a = false
  tr : ∀ a b c, lt a b = true → lt b c = true → lt a c = true
  tri : ∀ a b, lt a b = false → lt b a = false → a = b
def lexL {α : Type} [DecidableEq α] (lt : α → α → Bool) : List α → List α → Bool
  | _, [] => false
  | [], _ :: _ => true
  | x :: xs, y :: ys => if x = y then lexL lt xs ys else lt x y
theorem Tot.asym {α : Type} {lt : α → α → Bool} (T : Tot lt) {a b : α} (h : lt a b = true) : lt b a = false := by
  cases q : lt b a with
  | false => rfl
  | true =>
    have z := T.tr a b a h q
    rw [T.irr a] at z
    cases z
section
variable {α : Type} [DecidableEq α] {lt : α → α → Bool}
theorem lexL_irr (T : Tot lt) : ∀ a : List α, lexL lt a a = false
  | [] => rfl
  | x :: xs => by
    unfold lexL
    rw [if_pos rfl]
    exact lexL_irr T xs
theorem lexL_tr (T : Tot lt) : ∀ a b c : List α, lexL lt a b = true → lexL lt b c = true → lexL lt a c = true
  | _, [], _, h, _ => by simp [lexL] at h
  | _, _ :: _, [], _, h => by simp [lexL] at h
  | [], _ :: _, _ :: _, _, _ => rfl
  | x :: xs, y :: ys, z :: zs, h1, h2 => by
    unfold lexL at h1 h2 ⊢
    by_cases e1 : x = y
    · subst e1
      rw [if_pos rfl] at h1
      by_cases e2 : x = z
      · rw [if_pos e2] at h2 ⊢
        exact lexL_tr T xs ys zs h1 h2
      · rw [if_neg e2] at h2 ⊢
        exact h2
    · rw [if_neg e1] at h1
      by_cases e2 : y = z
      · subst e2
        rw [if_neg e1]
        exact h1
      · rw [if_neg e2] at h2
        have h3 := T.tr x y z h1 h2
        by_cases e3 : x = z
        · subst e3
          rw [T.irr x] at h3
          cases h3
        · rw [if_neg e3]
          exact h3
theorem lexL_tri (T : Tot lt) : ∀ a b : List α, lexL lt a b = false → lexL lt b a = false → a = b
  | [], [], _, _ => rfl
  | [], _ :: _, h, _ => by simp [lexL] at h
  | _ :: _, [], _, h => by simp [lexL] at h
  | x :: xs, y :: ys, h1, h2 => by
    unfold lexL at h1 h2
    by_cases e : x = y
    · subst e
      rw [if_pos rfl] at h1 h2
      rw [lexL_tri T xs ys h1 h2]
    · rw [if_neg e] at h1
      rw [if_neg fun z => e z.symm] at h2
      exact absurd (T.tri x y h1 h2) e
theorem lexL_tot (T : Tot lt) : Tot (lexL lt) := ⟨lexL_irr T, lexL_tr T, lexL_tri T⟩
end
section
variable {α : Type} {lt : α → α → Bool}
/-- in order -/
def srt (lt : α → α → Bool) (l : List α) : List α := l.mergeSort fun a b => !lt b a
theorem srt_perm (l : List α) : (srt lt l).Perm l := List.mergeSort_perm _ _
theorem mem_srt {l : List α} {x : α} : x ∈ srt lt l ↔ x ∈ l := (srt_perm l).mem_iff
theorem len_srt (l : List α) : (srt lt l).length = l.length := (srt_perm l).length_eq
def InOrd (lt : α → α → Bool) (l : List α) : Prop := l.Pairwise fun a b => lt b a = false
theorem srt_ord (T : Tot lt) (l : List α) : InOrd lt (srt lt l) := by
  have h := List.pairwise_mergeSort (le := fun a b => !lt b a) (fun a b c h1 h2 => by
    simp only [Bool.not_eq_true'] at h1 h2 ⊢
    cases q : lt c a with
    | false => rfl
    | true =>
      cases q2 : lt a b with
      | true => rw [T.tr c a b q q2] at h2; cases h2
      | false =>
        have e := T.tri a b q2 h1
        subst e
        rw [h2] at q
        cases q) (fun a b => by
    cases q : lt b a with
    | false => rfl
    | true => simp [T.asym q]) l
  exact h.imp fun {a b} z => by simpa using z
theorem ord_uniq (T : Tot lt) : ∀ {l m : List α}, InOrd lt l → InOrd lt m → l.Perm m → l = m
  | [], m, _, _, h => (List.Perm.eq_nil h.symm).symm
  | x :: l, [], _, _, h => absurd h.length_eq (by simp)
  | x :: l, y :: m, hl, hm, h => by
    have h1 : lt x y = false := by
      rcases List.mem_cons.mp (h.mem_iff.mp (List.mem_cons_self (a := x) (l := l))) with e | hx
      · rw [e]
        exact T.irr y
      · exact (List.pairwise_cons.mp hm).1 x hx
    have h2 : lt y x = false := by
      rcases List.mem_cons.mp (h.mem_iff.mpr (List.mem_cons_self (a := y) (l := m))) with e | hy
      · rw [e]
        exact T.irr x
      · exact (List.pairwise_cons.mp hl).1 y hy
    have e := T.tri x y h1 h2
    subst e
    rw [ord_uniq T (List.pairwise_cons.mp hl).2 (List.pairwise_cons.mp hm).2 h.cons_inv]
theorem srt_eq (T : Tot lt) {l m : List α} (h : l.Perm m) : srt lt l = srt lt m := ord_uniq T (srt_ord T l) (srt_ord T m) ((srt_perm l).trans (h.trans (srt_perm m).symm))
theorem srt_of (T : Tot lt) {l : List α} (h : InOrd lt l) : srt lt l = l := ord_uniq T (srt_ord T l) h (srt_perm l)
end
def iLt (a b : Int) : Bool := decide (a < b)
theorem iLt_tot : Tot iLt := ⟨fun a => by simp [iLt], fun a b c h1 h2 => by
  have h1 := of_decide_eq_true h1
  have h2 := of_decide_eq_true h2
  exact decide_eq_true (by omega), fun a b h1 h2 => by
  have h1 := of_decide_eq_false h1
  have h2 := of_decide_eq_false h2
  omega⟩
def oLt : Option Int → Option Int → Bool
  | some a, some b => decide (a < b)
  | some _, none => true
  | none, _ => false
theorem oLt_tot : Tot oLt := ⟨fun a => by cases a <;> simp [oLt], fun a b c h1 h2 => by
  cases a <;> cases b <;> cases c <;> simp [oLt] at h1 h2 ⊢
  omega, fun a b h1 h2 => by
  cases a <;> cases b <;> simp [oLt] at h1 h2 ⊢
  omega⟩
abbrev hLt : Heap0 → Heap0 → Bool := lexL iLt
abbrev wLt : Wide → Wide → Bool := lexL oLt
theorem hLt_tot : Tot hLt := lexL_tot iLt_tot
theorem wLt_tot : Tot wLt := lexL_tot oLt_tot
/-- the order of rows of data that are all of one kind -/
theorem rowLt_lex {α : Type} [DecidableEq α] {lt : α → α → Bool} {enc : α → PyData} (ha : ∀ a b, alike (enc a) (enc b) = true) (he : ∀ a b, PyData.eqv (enc a) (enc b) = decide (a = b)) (hl : ∀ a b, a ≠ b → dataLt (enc a) (enc b) = lt a b) : ∀ xs ys : List α, rowLt (xs.map enc) (ys.map enc) = lexL lt xs ys
  | [], [] => PyProof.Rows.lex_irrefl _
  | [], y :: ys => by
    show rowLt [] (enc y :: ys.map enc) = true
    unfold rowLt
    rw [PySem.W.toks_all_cons]
    simp only [PySem.W.keyToksAll]
    rw [PyProof.Rows.lex_diff (O := itemOrd) (by simp)]
    rfl
  | x :: xs, [] => by
    show rowLt (enc x :: xs.map enc) [] = false
    unfold rowLt
    rw [PySem.W.toks_all_cons]
    simp only [PySem.W.keyToksAll]
    rw [PyProof.Rows.lex_diff (O := itemOrd) (by simp)]
    rfl
  | x :: xs, y :: ys => by
    show rowLt (enc x :: xs.map enc) (enc y :: ys.map enc) = if x = y then lexL lt xs ys else lt x y
    have e : rowLt (enc x :: xs.map enc) (enc y :: ys.map enc) = if PyData.eqv (enc x) (enc y) = true then rowLt (xs.map enc) (ys.map enc) else dataLt (enc x) (enc y) := PySem.W.dataLt_cons (ha x y) _ _
    rw [e, he]
    by_cases q : x = y
    · rw [if_pos (decide_eq_true q), if_pos q, rowLt_lex ha he hl xs ys]
    · rw [if_neg (by simpa using q), if_neg q, hl x y q]
/-- a place's rank -/
def oR : Option Int → PyData
  | none => .tuple [.int 1, .int 0]
  | some c => .tuple [.int 0, .int c]
theorem oR_alike (a b : Option Int) : alike (oR a) (oR b) = true := by cases a <;> cases b <;> simp [oR, alike, alikeAll]
theorem oR_nb (a : Option Int) : nb (oR a) = true := by cases a <;> rfl
theorem oR_inj {a b : Option Int} (h : oR a = oR b) : a = b := by cases a <;> cases b <;> simp [oR] at h ⊢ <;> exact h
theorem oR_eqv (a b : Option Int) : PyData.eqv (oR a) (oR b) = decide (a = b) := by
  have h := eqv_iff (oR a) (oR b) (oR_nb a) (oR_nb b)
  by_cases e : a = b
  · rw [decide_eq_true e]
    exact h.mpr (by rw [e])
  · rw [decide_eq_false e]
    cases q : PyData.eqv (oR a) (oR b) with
    | false => rfl
    | true => exact absurd (oR_inj (h.mp q)) e
theorem oR_lt (a b : Option Int) (h : a ≠ b) : dataLt (oR a) (oR b) = oLt a b := by
  cases a <;> cases b <;> simp [oR, oLt, PySem.W.dataLt_ii] at h ⊢
def rkD (w : Wide) : PyData := .list (w.map oR)
def rtD (w : Wide) : PyData := .tuple (w.map oR)
theorem rkD_lt (a b : Wide) : dataLt (rkD a) (rkD b) = wLt a b := by
  unfold rkD
  rw [PySem.W.dataLt_list]
  exact rowLt_lex oR_alike oR_eqv oR_lt a b
theorem rtD_lt (a b : Wide) : dataLt (rtD a) (rtD b) = wLt a b := by
  unfold rtD
  rw [PySem.W.dataLt_tuple]
  exact rowLt_lex oR_alike oR_eqv oR_lt a b
theorem intsT_lt (a b : Heap0) : dataLt (intsT a) (intsT b) = hLt a b := by
  unfold intsT
  rw [PySem.W.dataLt_tuple]
  refine rowLt_lex (enc := PyData.int) (fun a b => rfl) (fun a b => ?_) (fun a b _ => PySem.W.dataLt_int a b) a b
  simp only [PyData.eqv]
  by_cases e : a = b <;> simp [e]
/-- sorted data, by what they stand for -/
theorem srtD_enc {α : Type} {lt : α → α → Bool} {enc : α → PyData} (h : ∀ a b, dataLt (enc a) (enc b) = lt a b) (l : List α) : srtD (l.map enc) = (srt lt l).map enc := by
  refine (List.map_mergeSort fun a _ b _ => ?_).symm
  show (!lt b a) = dataLe false (fun d => d) (enc a) (enc b)
  rw [PySem.W.dataLe_eq]
  show _ = !dataLt (enc b) (enc a)
  rw [h]
end TF
set_option Elab.async false
set_option linter.all false
set_option maxRecDepth 100000
set_option maxHeartbeats 4000000
/-! S7: sorted(..) of pairs of a rank and a wide. -/
namespace TF
open PySem PySem.Spec PyProof.Rows L2
open PySem.W (alike alikeAll dataLt)
def pkD (w : Wide) : PyData := .tuple [rkD w, wD w]
theorem oD_inj {a b : Option Int} (h : oD a = oD b) : a = b := by cases a <;> cases b <;> simp [oD] at h ⊢ <;> exact h
theorem oDs_inj : ∀ {a b : Wide}, a.map oD = b.map oD → a = b
  | [], [], _ => rfl
  | [], _ :: _, e => by simp at e
  | _ :: _, [], e => by simp at e
  | x :: xs, y :: ys, e => by
    rw [List.map_cons, List.map_cons] at e
    injection e with e1 e2
    rw [oD_inj e1, oDs_inj e2]
theorem wD_inj {a b : Wide} (h : wD a = wD b) : a = b := oDs_inj (PyData.tuple.inj h)
theorem pkD_inj {a b : Wide} (h : pkD a = pkD b) : a = b := by
  have h := PyData.tuple.inj h
  injection h with h1 h2
  injection h2 with h3
  exact wD_inj h3
theorem oDs_alike : ∀ w : Wide, alikeAll (w.map oD) (w.map oD) = true
  | [] => by simp [alikeAll]
  | o :: w => by
    show alikeAll (oD o :: w.map oD) (oD o :: w.map oD) = true
    rw [alikeAll, oDs_alike w]
    cases o <;> simp [oD, alike]
theorem oRs_alike : ∀ w v : Wide, alikeAll (w.map oR) (v.map oR) = true
  | [], _ => by simp [alikeAll]
  | _ :: _, [] => by simp [alikeAll]
  | o :: w, p :: v => by
    show alikeAll (oR o :: w.map oR) (oR p :: v.map oR) = true
    rw [alikeAll, oRs_alike w v, oR_alike]
    rfl
theorem rkD_alike (w v : Wide) : alike (rkD w) (rkD v) = true := by
  unfold rkD
  rw [alike]
  exact oRs_alike w v
theorem wD_alike (w : Wide) : alike (wD w) (wD w) = true := by
  unfold wD
  rw [alike]
  exact oDs_alike w
theorem oDs_depth : ∀ w : Wide, PyData.depthAll (w.map oD) = 0
  | [] => by simp [PyData.depthAll]
  | o :: w => by
    show PyData.depthAll (oD o :: w.map oD) = 0
    rw [PyData.depthAll, oDs_depth w]
    cases o <;> simp [oD, PyData.depth]
theorem oRs_depth : ∀ w : Wide, PyData.depthAll (w.map oR) ≤ 1
  | [] => by simp [PyData.depthAll]
  | o :: w => by
    have h := oRs_depth w
    show PyData.depthAll (oR o :: w.map oR) ≤ 1
    rw [PyData.depthAll]
    cases o <;> simp [oR, PyData.depth, PyData.depthAll] <;> omega
theorem wD_depth (w : Wide) : (wD w).depth ≤ 1 := by
  unfold wD
  rw [PyData.depth, oDs_depth]
  decide
theorem rkD_depth (w : Wide) : (rkD w).depth ≤ 2 := by
  unfold rkD
  rw [PyData.depth]
  have := oRs_depth w
  omega
theorem rkD_eqv (a b : Wide) : PyData.eqv (rkD a) (rkD b) = decide (a = b) := by
  have key : ∀ a b : Wide, PyData.eqvAll (a.map oR) (b.map oR) = decide (a = b) := by
    intro a
    induction a with
    | nil => intro b; cases b <;> simp [PyData.eqvAll]
    | cons x xs ih =>
      intro b
      cases b with
      | nil => simp [PyData.eqvAll]
      | cons y ys =>
        show PyData.eqvAll (oR x :: xs.map oR) (oR y :: ys.map oR) = _
        rw [PyData.eqvAll, ih, oR_eqv]
        simp
  unfold rkD
  rw [PyData.eqv]
  exact key a b
/-- what a value stands for -/
noncomputable def wideOf (h : Heap) (v : Value) : Wide := by
  classical exact if e : ∃ w as, Reads h v (pkD w) as then e.choose else []
theorem wideOf_eq {h : Heap} {v : Value} {w : Wide} {as : List Addr} (r : Reads h v (pkD w) as) : wideOf h v = w := by
  unfold wideOf
  have e : ∃ w as, Reads h v (pkD w) as := ⟨w, as, r⟩
  rw [dif_pos e]
  obtain ⟨as', r'⟩ := e.choose_spec
  exact pkD_inj (Reads.unique r' _ _ r).1
/-- the parts of a pair -/
theorem pk_parts {h : Heap} {v : Value} {w : Wide} {as : List Addr} (r : Reads h v (pkD w) as) : ∃ (a : Addr) (o : Obj) (n : Nat) (x y : Value), v = .ref a ∧ h.get? a = some o ∧ o.cls = .type "tuple" ∧ o.data = .seq #[x, y] n ∧ (∃ bs, Reads h x (rkD w) bs) ∧ ∃ bs, Reads h y (wD w) bs := by
  have r : Reads h v (.tuple [rkD w, wD w]) as := r
  cases r with
  | @tuple a o vs n _ _ h1 h2 h3 h4 =>
    obtain ⟨vs, rfl⟩ : ∃ l : List Value, vs = l.toArray := ⟨vs.toList, by simp⟩
    have h4 : ReadsAll h vs [rkD w, wD w] as := h4
    cases h4 with
    | cons q1 q2 =>
      cases q2 with
      | cons q3 q4 =>
        cases q4
        exact ⟨a, o, n, _, _, rfl, h1, h2, h3, ⟨_, q1⟩, ⟨_, q3⟩⟩
section
variable {prog : Program} {w : World} {A : Around} {E : Value → Shared → Prop} {s : Shared}
theorem pk_cmp {h : Heap} {vs : List Value} (hu : A.units + 8 < cLine) (hp : ∀ v ∈ vs, ∃ x as, Reads s.heap v (pkD x) as ∧ wideOf h v = x) : SrtO.Cmp prog w A s (tuples' true) (fun p => p.1 ∈ vs) (SrtO.lt2 fun v u => wLt (wideOf h v) (wideOf h u)) := by
  intro p q hm hm'
  obtain ⟨x, as, rx, ex⟩ := hp _ hm
  obtain ⟨y, bs, ry, ey⟩ := hp _ hm'
  show wpAny (model prog w) A (keyLt' (tuples' true) p.1 q.1) (fun r s' => s' = s ∧ r = wLt (wideOf h p.1) (wideOf h q.1)) (fun _ _ => False) s
  rw [ex, ey]
  obtain ⟨a, o, n, u1, u2, e1, ho, hc, hd, ⟨_, k1⟩, ⟨_, k2⟩⟩ := pk_parts rx
  obtain ⟨a', o', n', v1, v2, e1', ho', hc', hd', ⟨_, k1'⟩, ⟨_, k2'⟩⟩ := pk_parts ry
  rw [e1, e1']
  refine PySem.W.kat_lt ho hd ho' hd' ?_
  show PySem.W.KatLex prog w A true (decide (2 < 2)) _ [(u1, v1), (u2, v2)] 0 s
  have hx := rkD_depth x
  have hy := wD_depth x
  refine PySem.W.kat_cons (PySem.W.eqAt_alike (rkD x) (rkD y) A s _ _ _ _ k1 k1' (rkD_alike x y) (by omega) prog w _ _ ?_)
  rw [rkD_eqv]
  refine PySem.W.kat_go (fun e1 => ?_) (fun e1 => ?_)
  · have e : x = y := of_decide_eq_true e1
    subst e
    refine PySem.W.kat_yes (PySem.W.kat_cons (PySem.W.eqAt_alike (wD x) (wD x) A s _ _ _ _ k2 k2' (wD_alike x) (by omega) prog w _ _ ?_))
    rw [PySem.W.eqv_refl_alike _ (wD_alike x)]
    exact PySem.W.kat_yes (PySem.W.kat_nil ⟨rfl, (wLt_tot.irr x).symm⟩)
  · refine PySem.W.kat_no (PySem.W.oneLt_alike (fun _ xs z => ?_) k1 k1' (rkD_alike x y) (fun z => ?_) (by omega) ⟨rfl, rkD_lt x y⟩)
    · cases z
    · cases z
theorem pk_firsts {h : Heap} : ∀ {vs : List Value}, (∀ v ∈ vs, ∃ x as, Reads h v (pkD x) as) → ∃ fs : List Value, PySem.W.KatTups h vs fs ∧ fs.length = vs.length ∧ ∀ f ∈ fs, ∃ (a : Addr) (o : Obj), f = .ref a ∧ h.get? a = some o ∧ o.cls = .type "list"
  | [], _ => ⟨[], PySem.W.KatTups.nil, rfl, fun _ hm => by simp at hm⟩
  | v :: vs, hp => by
    obtain ⟨fs, h1, h2, h3⟩ := pk_firsts (vs := vs) fun v' hm => hp v' (List.mem_cons_of_mem _ hm)
    obtain ⟨x, as, r⟩ := hp v (List.mem_cons_self ..)
    obtain ⟨a, o, n, u1, u2, rfl, ho, hc, hd, ⟨_, k1⟩, _⟩ := pk_parts r
    refine ⟨u1 :: fs, PySem.W.KatTups.cons ho hc hd rfl h1, by rw [List.length_cons, List.length_cons, h2], fun f hm => ?_⟩
    rcases List.mem_cons.mp hm with rfl | hm
    · have k1 : Reads h f (.list (x.map oR)) _ := k1
      cases k1 with
      | list q1 q2 q3 q4 => exact ⟨_, _, rfl, q1, q2⟩
    · exact h3 f hm
theorem pk_sortable {a : Addr} {vs : List Value} (hu : A.units + 8 < cLine) (h0 : 0 < vs.length) {g : Heap} (hg : ∀ b o, g.get? b = some o → b ≠ a ∧ s.heap.get? b = some o) (hp : ∀ v ∈ vs, ∃ x as, Reads g v (pkD x) as) : SrtO.SortableO prog w A s a vs fun v u => wLt (wideOf g v) (wideOf g u) := by
  intro h' keep
  have up : ∀ b o, g.get? b = some o → h'.get? b = some o := fun b o e => keep b o (hg b o e).1 (hg b o e).2
  have hp' : ∀ v ∈ vs, ∃ x as, Reads h' v (pkD x) as := fun v hm => by
    obtain ⟨x, as, r⟩ := hp v hm
    exact ⟨x, as, PyProof.Rows.Reads.keeps up r⟩
  obtain ⟨fs, h1, h2, h3⟩ := pk_firsts hp'
  refine ⟨tuples' true, fun Q E hq => ?_, pk_cmp (s := { s with heap := h' }) hu fun v hm => ?_⟩
  · refine PySem.W.kat_kind (T := .type "list") h1 (by omega) (fun f hm => ?_) (by rfl) ?_
    · obtain ⟨b, o, rfl, ho, hc⟩ := h3 f hm
      exact hc ▸ (PySem.W.Looks.ld ho).andThen .now
    · have e : (Value.type "list" != Value.type "tuple") = true := by first | decide +kernel | rfl | decide
      rw [e]
      exact hq
  · obtain ⟨x, as, r⟩ := hp v hm
    exact ⟨x, as, PyProof.Rows.Reads.keeps up r, wideOf_eq r⟩
end
end TF
set_option Elab.async false
set_option linter.all false
set_option maxRecDepth 100000
set_option maxHeartbeats 4000000
/-! S8: sorted(..) of pairs, as a rule. -/
namespace TF
open PySem PySem.Spec PyProof.Rows L2
open PySem.W (alike alikeAll dataLt)
def rSortedR (K : PySem.W.Frag) : List V → Hp → VK → Prop := fun vs H Q => ∃ (a : Addr) (xs : List V) (ws : List Wide), vs = [V.ref a] ∧ SqL K H a xs ∧ DpAll K H xs (ws.map pkD) ∧
  ∀ ys p, (∀ H2, DpAll K H2 xs (ws.map pkD) → DpAll K H2 ys ((srt wLt ws).map pkD)) → H p = none → Q (.ref p) (upd H p (.lst ys))
theorem swo_of {α β : Type} {lt : α → α → Bool} (T : Tot lt) (k : β → α) : SrtO.Swo fun v u => lt (k v) (k u) := ⟨fun x y h => T.asym h, fun x y z h1 h2 => by
  cases q : lt (k z) (k x) with
  | false => rfl
  | true =>
    cases q2 : lt (k x) (k y) with
    | true => rw [T.tr _ _ _ q q2] at h2; cases h2
    | false =>
      have e := T.tri _ _ q2 h1
      rw [e, h2] at q
      cases q⟩
theorem wides_its {K : PySem.W.Frag} {h : Heap} : ∀ {ws : List Wide} {its : List Value}, (∃ as, ReadsAll h its (ws.map pkD) as) → its.map (wideOf h) = ws
  | [], _, ⟨_, r⟩ => by
    cases r
    rfl
  | w :: ws, _, ⟨_, r⟩ => by
    cases r with
    | cons r1 r2 => rw [List.map_cons, wideOf_eq r1, wides_its (K := K) ⟨_, r2⟩]
theorem wides_each {h : Heap} : ∀ {ws : List Wide} {its : List Value} {as : List Addr}, ReadsAll h its (ws.map pkD) as → ∀ v ∈ its, ∃ x as, Reads h v (pkD x) as
  | [], _, _, r, v, hv => by
    cases r
    simp at hv
  | w :: ws, _, _, r, v, hv => by
    cases r with
    | cons r1 r2 =>
      rcases List.mem_cons.mp hv with e | hv
      · rw [e]
        exact ⟨w, _, r1⟩
      · exact wides_each r2 v hv
section
variable {X : Cx}
theorem cr_sortedR (hu : X.A.units + 64 < cLine) : CallR X (.builtin "sorted") (rSortedR X.K) := by
  intro pins s σ H vs us Q I r h
  obtain ⟨a, xs, ws, rfl, hs, hx, q⟩ := h
  obtain ⟨its, rv, hl, hz⟩ := I.list hs
  obtain ⟨u, rfl, ru⟩ := vals1 r
  obtain rfl : u = Value.ref a := ru
  have hrd := Dp.readsAll I _ _ _ hx rv
  have hw : its.map (wideOf s.heap) = ws := wides_its (K := X.K) hrd
  have hpk : ∀ v ∈ its, ∃ x as, Reads s.heap v (pkD x) as := by
    obtain ⟨as, hrd⟩ := hrd
    exact wides_each hrd
  obtain ⟨e1, e2⟩ := refs_back rv fun x m => by
    have : ∀ {xs : List V} {ws : List Wide}, DpAll X.K H xs (ws.map pkD) → ∀ x ∈ xs, ∃ a, x = V.ref a := by
      intro xs
      induction xs with
      | nil => intro ws _ x hx; simp at hx
      | cons y ys ih =>
        intro ws d x hx
        cases ws with
        | nil => cases d
        | cons w ws =>
          cases d with
          | cons d1 d2 =>
            rcases List.mem_cons.mp hx with e | hx
            · rw [e]
              have d1 : Dp X.K H y (.tuple [rkD w, wD w]) := d1
              cases d1
              exact ⟨_, rfl⟩
            · exact ih d2 x hx
    exact this hx x m
  refine SrtO.sorted_ord (ltv := fun v u => wLt (wideOf s.heap v) (wideOf s.heap u)) (swo_of wLt_tot (wideOf s.heap)) hl.isList (by rw [← rv.length]; exact hz) (fun h2 h1 b hb kk => pk_sortable (A := X.A.in1.in1) (by show X.A.units + 1 + 1 + 8 < cLine; omega) (by omega) kk hpk) fun out hs1 hs2 => ?_
  obtain ⟨n, e⟩ := sortedAll_at s.heap its (List.toArray out)
  have hd : s.heap.objs.size ≤ s.heap.objs.size + 1 := Nat.le_succ _
  have h3 : ∀ u ∈ out, ∃ a, u = Value.ref a := fun u hu => e2 u (hs2.perm.mem_iff.mp hu)
  have ew : out.map (wideOf s.heap) = srt wLt ws := by
    refine ord_uniq wLt_tot (List.pairwise_map.mpr hs1) (srt_ord wLt_tot ws) ?_
    exact (hs2.perm.map _).trans (by rw [hw]; exact (srt_perm ws).symm)
  refine ⟨.ref (s.heap.objs.size + 1), upd H (s.heap.objs.size + 1) (.lst (out.map backV)), I.laid (t' := s.toks) (fun b o e => sortedAll_old e) hd ⟨?_, out, n, vals_back h3, e⟩, rfl, q _ _ (fun H2 d2 => ?_) (I.hok.fresh hd)⟩
  · rw [List.length_map, hs2.len, ← rv.length]
    exact hz
  · rw [← ew, List.map_map]
    have key : ∀ (l : List Value), DpAll X.K H2 (l.map backV) ((l.map (wideOf s.heap)).map pkD) → ∀ u, u ∈ l → Dp X.K H2 (backV u) (pkD (wideOf s.heap u)) := by
      intro l
      induction l with
      | nil => intro _ u hu; simp at hu
      | cons y l ih =>
        intro d u hu
        cases d with
        | cons d1 d2 =>
          rcases List.mem_cons.mp hu with e | hu
          · rw [e]
            exact d1
          · exact ih d2 u hu
    have k2 := key its (by rw [hw, ← e1]; exact d2)
    have k3 : ∀ l : List Value, (∀ u, u ∈ l → Dp X.K H2 (backV u) (pkD (wideOf s.heap u))) → DpAll X.K H2 (l.map backV) (l.map (pkD ∘ wideOf s.heap)) := by
      intro l
      induction l with
      | nil => intro _; exact .nil
      | cons y l ih => intro h; exact .cons (h y List.mem_cons_self) (ih fun u hu => h u (List.mem_cons_of_mem _ hu))
    exact k3 out fun u hu => k2 u (hs2.perm.mem_iff.mp hu)
end
section
variable {X : Cx} {an : An} {K : PySem.W.Frag} {ρ : TF.Env} {W W' : Wd} {e : Expr} {pos p : Pos} {ws : List Wide}
theorem rv_sortedR (hu : X.A.units + 64 < cLine) (hm : X.mg "sorted" = none) (ha : RV X an e ρ W W' (lstP X.K ((ws.map pkD).map (dat X.K)))) (hg : Gl X "sorted" := by rfl) (hs : starEach [e] X.env = (false, eval e X.env) :: starEach [] X.env := by rfl) (hpl : (backTo pos (starEach [] X.env)).any (·.1) = false := by rfl) :
    RV X an (.Call (.Name "sorted" p) [e] [] pos) ρ W W' (lstT (((srt wLt ws).map pkD).map (dat X.K))) :=
  rv_callB (cr_sortedR hu) (fun O H vs Q l s q => by
    cases s with
    | cons s1 s2 =>
      cases s2
      obtain ⟨a, xs, rfl, h2, h3⟩ := s1
      refine ⟨a, xs, ws, rfl, mn_le.seq h2, DpAll.same mn_le _ _ (all_of_sat h3), fun ys p hy hp => ?_⟩
      exact q _ _ (same_new hp) ⟨p, ys, rfl, mn_new l hp, (sat_of_all (hy _ (all_of_sat h3))).same (mn_mono (same_new hp))⟩) hm (ra_cons ha ra_nil hs) (hg := hg) (he := hs) (hpl := hpl)
end
end TF
set_option Elab.async false
set_option linter.all false
set_option maxRecDepth 100000
set_option maxHeartbeats 4000000
/-! W8: greatest, least. -/
namespace TF
open PySem PySem.Spec L2 WD
open PyProof.Rows (envOfC)
theorem sat_map {α : Type} {f g : α → SP} {H : Hp} (k : ∀ x, Imp (f x) (g x)) : ∀ {l : List α} {vs : List V}, Sat (l.map f) H vs → Sat (l.map g) H vs
  | [], _, h => by
    cases h
    exact .nil
  | x :: l, _, h => by
    cases h with
    | cons h1 h2 => exact .cons (k x _ _ h1) (sat_map k h2)
theorem lstT_D {α : Type} {K : PySem.W.Frag} {f : α → PyData} {l : List α} {H : Hp} {v : V} (h : (lstT (l.map fun x => dat K (f x))).p H v) : (dat K (.list (l.map f))).p H v := lstP_dat (lstT_P (K := K) (by rw [List.map_map]; exact h))
theorem D_lstP {α : Type} {K : PySem.W.Frag} {f : α → PyData} {l : List α} {H : Hp} {v : V} (h : (dat K (.list (l.map f))).p H v) : (lstP K (l.map fun x => dat K (f x))).p H v := by
  have z := dat_lstP h
  rw [List.map_map] at z
  exact z
theorem wide_sh (w : Wide) : SeqAt.shaped (wD w) = true := (flt_tup (n := 0) fun d hd => by
  obtain ⟨o, _, rfl⟩ := List.mem_map.mp hd
  cases o with
  | none => exact flt_none
  | some x => exact flt_int x).shaped
theorem wide_nb (w : Wide) : nb (wD w) = true := nbs_map fun o _ => by cases o <;> rfl
theorem wide_eqv (a b : Wide) : PyData.eqv (wD a) (wD b) = decide (a = b) := by
  have h := eqv_iff (wD a) (wD b) (wide_nb a) (wide_nb b)
  by_cases e : a = b
  · rw [decide_eq_true e]
    exact h.mpr (by rw [e])
  · rw [decide_eq_false e]
    cases q : PyData.eqv (wD a) (wD b) with
    | false => rfl
    | true => exact absurd (wD_inj (h.mp q)) e
def maxW (ws : List Wide) : List Wide := (ddp ws).filter fun h => !(ddp ws).any fun o => !decide (o = h) && isOver o h
def grt (ws : List Wide) : List Wide := srt wLt (maxW ws)
/-- all of one length -/
def LenW (n : Nat) (ws : List Wide) : Prop := n ≤ 40 ∧ ws.length ≤ 1000000 ∧ ∀ w, w ∈ ws → w.length = n
section
variable {P : Program} {w : World} {K : PySem.W.Frag} {mg : Str → Option Value} {base : Heap} (T : TF.Txt K mg)
include T
theorem w_greatest : O_greatest P w K mg base CX0 3 (pureSp (ι := Nat × List Wide) (fun q => [dat K (wsD q.2)]) (fun q => LenW q.1 q.2) (fun q => dat K (wsD (grt q.2)))) := by
  refine okPure T.f_greatest (N := N_greatest) (by constructor <;> first | rfl | decide | decide +kernel) (fun _ => rfl) fun cdv A1 outer s H E hr q hq an => ?_
  obtain ⟨n, ws⟩ := q
  obtain ⟨hn, hz, hl⟩ := hq
  have hl : ∀ w, w ∈ ws → w.length = n := hl
  have hz : ws.length ≤ 1000000 := hz
  have hu : (A1.deeper (envOfC "greatest" (defScope s_greatest) s.heap.objs.size (He.ga K "greatest") cdv)).units + 64 < cLine := hr.units
  have hld : ∀ w, w ∈ ddp ws → w.length = n := fun w h => hl w ((mem_ddp _ ws rfl).mp h)
  refine rs_set 1 (rv_sub (rv_listW (ws := ddp ws) rfl T.n_list (rn_wdP (rn_wdc (ws := ws) hu (rv_sub (rv_var 0) fun H v z => D_lstP (f := wD) z) hz))) fun H v z => lstT_D (K := K) (f := wD) z) ?_
  refine rs_setLc 3 (n := (ddp ws).length) (Wf := fun _ => []) (bt := fun i => (fun h => !(ddp ws).any fun o => !decide (o = h) && isOver o h) ((ddp ws).getD i [])) (E := fun i => (fun w => dat K (wD w)) ((ddp ws).getD i [])) (own := [("heap", 2)]) (ri_listM wD (ddp ws) [] (rv_var 1)) (fun s H C cl fp => pg_one 2) (fun i hi => gk_name) (by decide) (fun _ _ _ => rfl)
    (fun s H C cl fp i c hi => rts_one (rt_to (rt_not (rt_val (rv_any (bs := (ddp ws).map fun o => !decide (o = (ddp ws).getD i []) && isOver o ((ddp ws).getD i [])) T.n_any (rv_sub (rv_lc (n := (ddp ws).length) (bt := fun _ => true) (E := fun j => (fun o => dat K (.bool (!decide (o = (ddp ws).getD i []) && isOver o ((ddp ws).getD i [])))) ((ddp ws).getD j [])) (own := [("one", 4)]) (ri_listM wD (ddp ws) [] (rv_var 1)) (fun s H C cl fp => pg_one 4) (fun i hi => gk_name) (by decide) (fun s H C cl fp i W hi => rts_nil)
      (fun s H C cl fp j W hj _ => ?_)) ?_)))) ?_)) (fun s H C cl fp i c hi _ => rv_var 2) fun b hb => ?_
  · refine rv_and (rv_to (rv_neD hu (wide_sh _) (wide_sh _) (rv_var 4) (rv_var 2)) (by rw [wide_eqv])) fun _ => rv_one (rv_is_over T (w_is_over T) (pureSp_ok (⟨(ddp ws).getD j [], (ddp ws).getD i []⟩ : TwoW) ⟨?_, ?_⟩) hr (ra_cons (rv_var 4) (ra_cons (rv_var 2) ra_nil)))
    · show ((ddp ws).getD j []).length = ((ddp ws).getD i []).length
      rw [hld _ (getD_mem hj), hld _ (getD_mem hi)]
    · show ((ddp ws).getD j []).length ≤ 40
      rw [hld _ (getD_mem hj)]
      exact hn
  · rw [selP_all T (fun o => dat K (.bool (!decide (o = (ddp ws).getD i []) && isOver o ((ddp ws).getD i [])))) (ddp ws) [] rfl, List.map_map]
    exact Imp.refl
  · rw [List.any_map]
    rfl
  rw [selP_items (d := []) (ddp ws) (fun h => !(ddp ws).any fun o => !decide (o = h) && isOver o h) (fun w => dat K (wD w))]
  refine rs_freeT (W := []) 3 hb ?_
  generalize hM : (ddp ws).filter (fun h => !(ddp ws).any fun o => !decide (o = h) && isOver o h) = M
  refine rs_setLc 5 (n := M.length) (Wf := fun _ => []) (bt := fun _ => true) (E := fun i => (fun w => dat K (pkD w)) (M.getD i [])) (own := [("heap", 2)]) (ri_listM wD M [] (rv_sub (rv_var 3) fun H v z => lstT_D (K := K) (f := wD) z)) (fun s H C cl fp => pg_one 2) (fun i hi => gk_name) (by decide) (fun _ _ _ => rfl)
    (fun s H C cl fp i c hi => rts_nil) (fun s H C cl fp i c hi _ => ?_) fun b2 hb2 => ?_
  · refine rv_tupD (ds := [rkD (M.getD i []), wD (M.getD i [])]) (ra_cons (rv_sub (rv_lc (n := (M.getD i []).length) (bt := fun _ => true) (E := fun j => (fun o => dat K (oR o)) ((M.getD i []).getD j none)) (own := [("count", 6)]) (ri_tupM oD (M.getD i []) none (rv_var 2)) (fun s H C cl fp => pg_one 6) (fun i hi => gk_name) (by decide) (fun s H C cl fp i W hi => rts_nil)
      (fun s H C cl fp j W hj _ => ?_)) ?_) (ra_cons (rv_var 2) ra_nil))
    · generalize (M.getD i []).getD j none = o
      cases o with
      | none => exact rv_if (v := true) (rt_isN K nonP_dat (rv_var 6)) (fun _ => rv_tupD (ds := [.int 1, .int 0]) (ra_cons rv_int (ra_cons rv_int ra_nil))) fun h => by cases h
      | some x => exact rv_if (v := false) (rt_isN K nonP_dat (rv_var 6)) (fun h => by cases h) fun _ => rv_tupD (ds := [.int 0, .int x]) (ra_cons rv_int (ra_cons (rv_var 6) ra_nil))
    · rw [selP_all T (fun o => dat K (oR o)) (M.getD i []) none rfl]
      exact fun H v z => lstT_D (K := K) (f := oR) z
  rw [selP_all T (fun w => dat K (pkD w)) M [] rfl]
  refine rs_freeT (W := []) 5 hb2 ?_
  refine rs_end (rv_sub (rv_lc (n := (srt wLt M).length) (bt := fun _ => true) (E := fun i => (fun w => dat K (wD w)) ((srt wLt M).getD i [])) (own := [("rank", 7), ("heap", 2)]) (ri_listM pkD (srt wLt M) [] (rv_sub (rv_sortedR (ws := M) hu T.n_sorted (rv_sub (rv_var 5) fun H v z => dat_lstP (lstT_D (K := K) (f := pkD) z))) fun H v z => lstT_D (K := K) (f := pkD) (by rw [List.map_map] at z; exact z))) (fun s H C cl fp => pg_two 7 2)
    (fun i hi => gk_twoD (d1 := rkD ((srt wLt M).getD i [])) (d2 := wD ((srt wLt M).getD i []))) (by decide) (fun s H C cl fp i W hi => rts_nil) (fun s H C cl fp i W hi _ => rv_var 2)) ?_)
  rw [selP_all T (fun w => dat K (wD w)) (srt wLt M) [] rfl, ← hM]
  exact fun H v z => lstT_D (K := K) (f := wD) z
end
end TF
set_option Elab.async false
set_option linter.all false
set_option maxRecDepth 100000
set_option maxHeartbeats 4000000
/-! M7: what only reads, told from the whole heap. -/
namespace TF
open PySem PySem.Spec L2
section
variable {X : Cx} {an : An} {K : PySem.W.Frag} {ρ ρ' : TF.Env} {W : Wd} {P : SP} {c e : Expr} {v : Bool}
theorem peek_MX {σ : St} {H : Hp} (d : DS ρ' σ H) : MX ⟨H, [], []⟩ [] ρ' [] σ H :=
  ⟨fun b h => by simp at h, Live.nil, fun b h => h, fun b h => by simp at h, Live.nil, by rw [mn_nil]; exact d, WOk.nil, fun c h => by simp at h, SameB.refl _⟩
theorem rt_peek (hp : ∀ O σ H, MX an O ρ W σ H → DS ρ' σ H) (h : ∀ an', RT X an' c ρ' [] [] v) : RT X an c ρ W W v :=
  PTimp (PTex h) fun σ H Q ⟨O, m, q⟩ => ⟨⟨H, [], []⟩, [], peek_MX (hp O σ H m), fun H' m' s' => q H' (m.same m'.sb.nil) (mn_mono m'.sb.nil)⟩
def Flat (P : SP) : Prop := ∀ H H' v, P.p H v → P.p H' v
theorem flat_bool {K : PySem.W.Frag} {b : Bool} : Flat (dat K (.bool b)) := fun H H' v h => by
  rw [dat_bool h]
  exact .bl b
theorem flat_int {K : PySem.W.Frag} {b : Int} : Flat (dat K (.int b)) := fun H H' v h => by
  rw [dat_int h]
  exact .int b
theorem rv_peek (hf : Flat P) (hp : ∀ O σ H, MX an O ρ W σ H → DS ρ' σ H) (h : ∀ an', RV X an' e ρ' [] [] P) : RV X an e ρ W W P :=
  PEimp (PEex h) fun σ H Q ⟨O, m, q⟩ => ⟨⟨H, [], []⟩, [], peek_MX (hp O σ H m), fun v H' m' s' p => q v H' (m.same m'.sb.nil) (mn_mono m'.sb.nil) (hf _ _ v p)⟩
/-- an owned thing in slot i, as it is told -/
theorem peek_slot {b : Addr} {mp : MP} {k : Nat} (i : Nat) (hi : ρ[i]? = some (some (refP b))) (hk : W[k]? = some (b, mp)) (kP : ∀ H o, H b = some o → mp.p H o → P.p H (.ref b)) : ∀ O σ H, MX an O ρ W σ H → DS (ρ.set i (some P)) σ H := fun O σ H m => by
  have d := m.ds.same mn_le
  obtain ⟨v, v1, v2⟩ := d.2 i _ hi
  have v2 : v = .ref b := v2
  subst v2
  obtain ⟨_, o, e, h⟩ := m.wo.at_ _ (List.mem_of_getElem? hk)
  have z := d.set i (kP H o e (mp.st mn_le h))
  have e2 : σ.set i (some (V.ref b)) = σ := by
    obtain ⟨hl, e⟩ := List.getElem?_eq_some_iff.mp v1
    rw [← e]
    exact List.set_getElem_self hl
  rw [e2] at z
  exact z
theorem peek_lst {b : Addr} {Ps : List SP} {k : Nat} (i : Nat) (hi : ρ[i]? = some (some (refP b))) (hk : W[k]? = some (b, lstM Ps)) : ∀ O σ H, MX an O ρ W σ H → DS (ρ.set i (some (lstT Ps))) σ H :=
  peek_slot i hi hk fun H o e ⟨xs, e2, sat⟩ => ⟨b, xs, rfl, e2 ▸ e, sat⟩
end
end TF
set_option Elab.async false
set_option linter.all false
set_option maxRecDepth 100000
set_option maxHeartbeats 4000000
/-! W9: least. -/
namespace TF
open PySem PySem.Spec L2 WD
open PyProof.Rows (envOfC)
abbrev up (h : Heap0) : Wide := h.map some
def dn (w : Wide) : Heap0 := w.map fun o => o.getD 0
theorem dn_up (h : Heap0) : dn (up h) = h := by
  unfold dn up
  rw [List.map_map]
  exact List.map_id'' (fun _ => rfl) h
theorem up_inj {a b : Heap0} (h : up a = up b) : a = b := by rw [← dn_up a, h, dn_up]
theorem up_ints (h : Heap0) : wD (up h) = intsT h := (intsT_wD h).symm
/-- the unlike ones, in the order of their coming -/
def dd0 (hs : List Heap0) : List Heap0 := (ddp (hs.map up)).map dn
theorem dd0_up (hs : List Heap0) : (dd0 hs).map up = ddp (hs.map up) := by
  unfold dd0
  rw [List.map_map]
  refine (List.map_congr_left fun w hw => ?_).trans (List.map_id _)
  obtain ⟨h, _, rfl⟩ := List.mem_map.mp ((mem_ddp _ _ rfl).mp hw)
  show up (dn (up h)) = up h
  rw [dn_up]
theorem mem_dd0 {hs : List Heap0} {h : Heap0} : h ∈ dd0 hs ↔ h ∈ hs := by
  constructor
  · intro m
    obtain ⟨w, hw, rfl⟩ := List.mem_map.mp m
    obtain ⟨g, hg, rfl⟩ := List.mem_map.mp ((mem_ddp _ _ rfl).mp hw)
    rw [dn_up]
    exact hg
  · intro m
    refine List.mem_map.mpr ⟨up h, (mem_ddp _ _ rfl).mpr (List.mem_map.mpr ⟨h, m, rfl⟩), dn_up h⟩
theorem dd0_nodup (hs : List Heap0) : (dd0 hs).Nodup := by
  have h := ddp_nodup _ (hs.map up) rfl
  rw [← dd0_up, List.Nodup, List.pairwise_map] at h
  exact h.imp fun {a b} n e => n (by rw [e])
def ov (a b : Heap0) : Bool := isOver (up a) (up b)
def leaGo (acc : List Heap0) (h : Heap0) : List Heap0 := if acc.any (fun o => ov h o) then acc else acc ++ [h]
def lea (hs : List Heap0) : List Heap0 := (srt hLt (dd0 hs)).foldl leaGo []
def LenH (n : Nat) (hs : List Heap0) : Prop := 1 ≤ n ∧ n ≤ 40 ∧ hs.length ≤ 1000000 ∧ ∀ h, h ∈ hs → h.length = n
theorem lea_mem {n : Nat} {hs : List Heap0} (hl : ∀ h, h ∈ hs → h.length = n) : ∀ (l acc : List Heap0), (∀ h, h ∈ l → h.length = n) → (∀ h, h ∈ acc → h.length = n) → ∀ h, h ∈ l.foldl leaGo acc → h.length = n
  | [], acc, _, ha, h, hm => ha h hm
  | x :: l, acc, hx, ha, h, hm => by
    refine lea_mem hl l (leaGo acc x) (fun y hy => hx y (List.mem_cons_of_mem _ hy)) (fun y hy => ?_) h hm
    unfold leaGo at hy
    split at hy
    · exact ha y hy
    · rcases List.mem_append.mp hy with hy | hy
      · exact ha y hy
      · rw [List.mem_singleton.mp hy]
        exact hx x List.mem_cons_self
theorem lea_len : ∀ (l acc : List Heap0), (l.foldl leaGo acc).length ≤ acc.length + l.length
  | [], acc => Nat.le_refl _
  | x :: l, acc => by
    have h := lea_len l (leaGo acc x)
    have h2 : (leaGo acc x).length ≤ acc.length + 1 := by
      unfold leaGo
      split
      · omega
      · rw [List.length_append, List.length_singleton]
        exact Nat.le_refl _
    show (l.foldl leaGo (leaGo acc x)).length ≤ _
    rw [List.length_cons]
    omega
/-- a level, as a list that is tracked -/
def lvl (K : PySem.W.Frag) (hs : List Heap0) : SP := lstT (hs.map fun h => dat K (intsT h))
theorem lvl_hs {K : PySem.W.Frag} {hs : List Heap0} {H : Hp} {v : V} (h : (lvl K hs).p H v) : (dat K (hsD hs)).p H v := lstT_D (K := K) (f := intsT) h
theorem lvl_ws {K : PySem.W.Frag} {hs : List Heap0} {H : Hp} {v : V} (h : (lvl K hs).p H v) : (dat K (wsD (hs.map up))).p H v := by
  have z := lvl_hs h
  rw [hsD_wsD] at z
  exact z
theorem ints_alike (hs : List Heap0) : PySem.W.AllAlike (hs.map intsT) := PySem.W.AllAlike.of fun a b => by
  unfold intsT
  rw [PySem.W.alike]
  exact PySem.W.alike_ints a b
theorem ints_sortable {n : Nat} (h1 : 1 ≤ n) {hs : List Heap0} (hl : ∀ h, h ∈ hs → h.length = n) : PySem.W.Sortable (hs.map intsT) := .inl fun d hd => by
  obtain ⟨h, hh, rfl⟩ := List.mem_map.mp hd
  have e := hl h hh
  cases h with
  | nil =>
    rw [List.length_nil] at e
    omega
  | cons x r => exact ⟨.int x, r.map .int, rfl⟩
section
variable {P : Program} {w : World} {K : PySem.W.Frag} {mg : Str → Option Value} {base : Heap} (T : TF.Txt K mg)
include T
theorem w_least : O_least P w K mg base CX0 3 (pureSp (ι := Nat × List Heap0) (fun q => [dat K (hsD q.2)]) (fun q => LenH q.1 q.2) (fun q => lvl K (lea q.2))) := by
  refine okPure T.f_least (N := N_least) (by constructor <;> first | rfl | decide | decide +kernel) (fun _ => rfl) fun cdv A1 outer s H E hr q hq an => ?_
  obtain ⟨n, hs⟩ := q
  obtain ⟨h1, hn, hz, hl⟩ := hq
  have hl : ∀ w, w ∈ hs → w.length = n := hl
  have hz : hs.length ≤ 1000000 := hz
  have hu : (A1.deeper (envOfC "least" (defScope s_least) s.heap.objs.size (He.ga K "least") cdv)).units + 64 < cLine := hr.units
  have hld : ∀ w, w ∈ dd0 hs → w.length = n := fun w h => hl w (mem_dd0.mp h)
  have eD : (ddp (hs.map up)).map wD = (dd0 hs).map intsT := by
    rw [← dd0_up, List.map_map]
    exact List.map_congr_left fun h _ => up_ints h
  refine rs_new 1 (rn_lst ra_nil) fun b hb => ?_
  generalize hS : srt hLt (dd0 hs) = S
  have hSl : ∀ h, h ∈ S → h.length = n := fun h hh => hld h (mem_srt.mp (by rw [hS]; exact hh))
  have hSz : S.length ≤ 1000000 := by
    rw [← hS, len_srt]
    have z := len_ddp _ (hs.map up) rfl
    rw [List.length_map] at z
    unfold dd0
    rw [List.length_map]
    omega
  refine rs_cons (rs_for (ri_listM intsT S [] (rv_sub (rv_sortedW (ws := ddp (hs.map up)) hu rfl T.n_sorted (rn_wdP (rn_wdc (ws := hs.map up) hu (rv_sub (rv_var 0) fun H v z => ?_) (by rw [List.length_map]; exact hz))) (by rw [eD]; exact ints_alike _) (by rw [eD]; exact ints_sortable h1 hld) (fun w _ => Nat.le_trans (wD_depth w) (by decide))) fun H v z => ?_)) (pg_one 2) (fun i hi => gk_name)
    (fun j ρ W => (∃ (x2 x3 : Option SP), ρ = [some (dat K (hsD hs)), some (refP b), x2, x3]) ∧ W = [(b, lstM (((S.take j).foldl leaGo []).map fun h => dat K (intsT h)))]) ⟨⟨none, none, rfl⟩, rfl⟩ ?_) fun ρ1 W1 ⟨⟨x2, x3, e1⟩, e2⟩ => ?_
  · have z : (dat K (hsD hs)).p H v := z
    rw [hsD_wsD] at z
    exact D_lstP (f := wD) z
  · rw [eD, srtD_enc intsT_lt, hS, List.map_map] at z
    exact lstT_D (K := K) (f := intsT) z
  · rintro j _ _ hj ⟨⟨x2, x3, rfl⟩, rfl⟩
    have e : (S.take (j + 1)).foldl leaGo [] = leaGo ((S.take j).foldl leaGo []) (S.getD j []) := fold_snoc leaGo [] S [] hj
    rw [e]
    have hml := lea_mem hl (S.take j) [] (fun h hh => hSl h (List.mem_of_mem_take hh)) (fun h hh => by simp at hh)
    have hmz := lea_len (S.take j) []
    generalize (S.take j).foldl leaGo [] = L at hml hmz ⊢
    generalize hx : S.getD j [] = x
    have hxl : x.length = n := by
      rw [← hx]
      exact hSl _ (getD_mem hj)
    refine rs_one (rs_ifS (v := !L.any fun o => ov x o) (rt_peek (peek_lst (k := 0) 1 rfl rfl) fun an' => rt_to (rt_not (rt_val (rv_any (bs := L.map fun o => ov x o) T.n_any (rv_sub (rv_lc (n := L.length) (bt := fun _ => true) (E := fun j => (fun o => dat K (.bool (ov x o))) (L.getD j [])) (own := [("one", 3)]) (ri_listM intsT L [] (rv_sub (rv_var 1) fun H v z => lstT_D (K := K) (f := intsT) z)) (fun s H C cl fp => pg_one 3) (fun i hi => gk_name) (by decide) (fun s H C cl fp i W hi => rts_nil)
      (fun s H C cl fp j W hj _ => ?_)) ?_)))) ?_) (fun hc => ?_) fun hc => ?_)
    · refine rv_is_over T (w_is_over T) (pureSp_ok (⟨up x, up (L.getD j [])⟩ : TwoW) ⟨?_, ?_⟩) hr (ra_cons (rv_sub (rv_var 2) fun H v z => ?_) (ra_cons (rv_sub (rv_var 3) fun H v z => ?_) ra_nil))
      · show (up x).length = (up (L.getD j [])).length
        rw [List.length_map, List.length_map, hxl, hml _ (getD_mem hj)]
      · show (up x).length ≤ 40
        rw [List.length_map, hxl]
        exact hn
      · show (dat K (wD (up x))).p H v
        rw [up_ints]
        exact z
      · show (dat K (wD (up (L.getD j [])))).p H v
        rw [up_ints]
        exact z
    · rw [selP_all T (fun o => dat K (.bool (ov x o))) L [] rfl, List.map_map]
      exact Imp.refl
    · rw [List.any_map]
      rfl
    · refine rs_app 0 (rv_var 1) (rv_var 2) rfl rfl (rs_nil ⟨⟨_, _, rfl⟩, ?_⟩) ?_
      · unfold leaGo
        rw [if_neg (by simpa using hc), List.map_append]
        rfl
      · rw [List.length_map]
        rw [List.length_take] at hmz
        simp only [List.length_nil] at hmz
        omega
    · refine rs_nil ⟨⟨_, _, rfl⟩, ?_⟩
      unfold leaGo
      rw [if_pos (by simpa using hc)]
  · subst e1 e2
    rw [List.take_length]
    refine rs_freeT (W := []) 1 hb ?_
    refine rs_end (rv_sub (rv_var 1) fun H v z => ?_)
    rw [← hS] at z
    exact z
end
end TF
set_option Elab.async false
set_option linter.all false
set_option maxRecDepth 100000
set_option maxHeartbeats 4000000
/-! M8: what raises. -/
namespace TF
open PySem PySem.Spec L2
open PyProof.Rows (envOfC)
abbrev TGa (K : PySem.W.Frag) : Addr := He.ga K "TooGreat"
/-- what this body may let out: the one exception, nothing changed but what is owned -/
def Rz (X : Cx) (an : An) (xo : Prop) : Prop := ∃ Wx : WX, Takes X Wx ∧ (xo → ∀ d σ H', SameB an.A0 an.H0 H' → Wx (.ref (TGa X.K)) d σ H')
def tgSp (K : PySem.W.Frag) : Sp := fun vs H Q _ => ∃ (a C : Addr) (v : V), vs = [.ref a, v] ∧ OexC K C ∧ PySem.W.findIn K (.ref C) "most" = some none ∧ H a = some (exo a C none) ∧ ∀ dx, H dx = none → dx ≠ a → Q .non (upd (upd H dx (exd dx [("most", v)])) a (exo a C (some dx)))
section
variable {P : Program} {w : World} {K : PySem.W.Frag} {mg : Str → Option Value} {base : Heap} (T : TF.Txt K mg)
include T
theorem b_TG : Binds K (fdAt K (He.ma K (TGa K) "__init__")) ["self", "most"] [] := by
  obtain ⟨ds, h1, h2⟩ := T.f_TooGreat_init.binds1 (ps := ["self", "most"]) 2 1 (by simp) rfl fun T kV doc pm an cdv ct us its hl hi => by
    obtain ⟨a, b, rfl⟩ := len2 hl
    obtain ⟨c, rfl⟩ := len1 hi
    exact ⟨_, rfl, rfl⟩
  cases h1
  exact h2
theorem w_TG : FnOk P w K mg base CX0 1 (He.ma K (TGa K) "__init__") (fdAt K (He.ma K (TGa K) "__init__")) ["self", "most"] (tgSp K) := by
  refine T.f_TooGreat_init.ok (N := ["self", "most"]) (by constructor <;> first | rfl | decide | decide +kernel) (fun vs H Q E q => ?_) (fun cdv A1 outer s H vs Q E hr q => ?_)
  · obtain ⟨a, C, v, rfl, _⟩ := q
    rfl
  · obtain ⟨a, C, v, rfl, h1, h2, h3, h4⟩ := q
    refine ⟨_, (pss_one (ps_ost (pe_var (i := 0) (x := "self") rfl (Or.inl rfl)) (pe_var (i := 1) (x := "most") rfl (Or.inl rfl)))).nox, ?_⟩
    refine ⟨v, rfl, .ref a, rfl, a, C, rfl, h1, h2, .inl ⟨h3, fun dx d1 d2 => h4 dx d1 d2⟩⟩
end
theorem samB_upd {A : List Addr} {H H1 : Hp} {a : Addr} {o : HO} (s : SameB A H H1) (h : H a = none) : SameB A H (upd H1 a o) := fun b u n e => by
  rw [upd_ne (ne_of_none e h)]
  exact s b u n e
section
variable {X : Cx} {an : An} {ρ : TF.Env} {W W' Wz : Wd} {P R : SP} {N : TF.Env → Wd → Prop} {rest : List Stmt} {e : Expr} {pos p pos2 : Pos}
/-- raise TooGreat(e) -/
theorem rs_raise {xo : Prop} (T : TF.Txt X.K X.mg) (z : Rz X an xo) (xh : xo) (hr : Room 2 X.A) (he : RV X an e ρ W W' P) (hc : X.calm = true := by rfl) (hg : Gl X "TooGreat" := by rfl) (hs : starEach [e] X.env = (false, eval e X.env) :: starEach [] X.env := by rfl) (hpl : (backTo pos (starEach [] X.env)).any (·.1) = false := by rfl) :
    RS X an (.Raise (some (.Call (.Name "TooGreat" p) [e] [] pos)) none pos2) ρ W N R Wz := by
  obtain ⟨Wx, tk, hW⟩ := z
  have hW := hW xh
  have F : FnOk X.prog X.w X.K X.mg X.base CX0 1 (He.ma X.K (TGa X.K) "__init__") (fdAt X.K (He.ma X.K (TGa X.K) "__init__")) ["self", "most"] (tgSp X.K) := w_TG T
  refine PSimp (ps_raise hc tk (pmk_oex T.exc T.excI T.excT F hr (b_TG T) .nil pass0 hg T.g_TooGreat (pa_cons he ra_nil hs) (he := hs) (hpl := hpl))) fun D σ H ⟨O, m, nx, rt⟩ => ⟨O, m, fun v H1 m1 s1 p1 => ⟨O, m1, fun vs H2 m2 s2 p2 => ?_⟩⟩
  cases p2
  refine ⟨by show 1 ≤ 1000; decide, fun a ha => ?_⟩
  refine ⟨a, TGa X.K, v, rfl, T.exc, T.excA, upd_same, fun dx d1 d2 => ?_⟩
  have hdx : H2 dx = none := by rw [upd_ne d2] at d1; exact d1
  refine ⟨rfl, dx, [("most", v)], upd_same, by rw [upd_ne d2]; exact upd_same, hdx, ?_⟩
  refine hW _ _ _ (samB_upd (fun b o n e => ?_) (m2.new0 hdx))
  have ea : an.H0 a = none := m2.new0 ha
  have ed : an.H0 dx = none := m2.new0 hdx
  have e2 := m2.sb b o n e
  rw [del_ne (ne_of_none e ea), upd_ne (ne_of_none e ea), upd_ne (ne_of_none e ed), upd_ne (ne_of_none e ea)]
  exact e2
end
end TF
set_option Elab.async false
set_option linter.all false
set_option maxRecDepth 100000
set_option maxHeartbeats 4000000
/-! M9: comprehensions with two fors. -/
namespace TF
open PySem PySem.Spec L2
def flatP (n : Nat) (n1 : Nat → Nat) (E : Nat → Nat → SP) : List SP := (List.range n).flatMap fun i => (List.range (n1 i)).map (E i)
theorem flatP_succ {n : Nat} {n1 : Nat → Nat} {E : Nat → Nat → SP} : flatP (n + 1) n1 E = flatP n n1 E ++ (List.range (n1 n)).map (E n) := by
  unfold flatP
  rw [List.range_succ, List.flatMap_append]
  simp
theorem flatP_len {n : Nat} {n1 : Nat → Nat} {E : Nat → Nat → SP} {k : Nat} (h : ∀ i, i < n → n1 i ≤ k) : (flatP n n1 E).length ≤ n * k := by
  induction n with
  | zero => simp [flatP]
  | succ n ih =>
    rw [flatP_succ, List.length_append, List.length_map, List.length_range]
    have h1 := ih fun i hi => h i (by omega)
    have h2 := h n (by omega)
    rw [Nat.succ_mul]
    omega
section
variable {X : Cx} {an : An} {K : PySem.W.Frag} {elt tg iter tg1 iter1 : Expr} {scope : Scope} {own : List (Str × Nat)} {js js1 vs1 : List Nat} {pos : Pos} {g g1 : TG} {ρ : TF.Env} {W W' Wz : Wd} {Y : Nat → SP} {Y1 E : Nat → Nat → SP} {n : Nat} {n1 : Nat → Nat} {f : Nat → TF.Env → TF.Env} {f1 : Nat → Nat → TF.Env → TF.Env}
theorem PIex {ι : Type} {e1 e2 : Expr} {t : ι → TI} (h : ∀ i, PI X e1 e2 (t i)) : PI X e1 e2 (fun σ H R => ∃ i, t i σ H R) := ⟨fun pins s σ H R I ⟨i, q⟩ => (h i).run pins s σ H R I q⟩
theorem PIifp {p : Prop} {e1 e2 : Expr} {t : TI} (h : p → PI X e1 e2 t) : PI X e1 e2 (fun σ H R => p ∧ t σ H R) := ⟨fun pins s σ H R I ⟨i, q⟩ => (h i).run pins s σ H R I q⟩
def tI1 (an : An) (n : Nat) (r : Nat → TF.Env) (W : Wd) (Y1 : Nat → Nat → SP) (n1 : Nat → Nat) : TI := fun σ H R => ∃ q : Nat × (Addr × MP), q.1 < n ∧ tI an (r q.1) (W ++ [q.2]) (W ++ [q.2]) (Y1 q.1) (n1 q.1) σ H R
def tV2i (an : An) (n : Nat) (n1 : Nat → Nat) (r : Nat → Nat → TF.Env) (W : Wd) (E : Nat → Nat → SP) : TE := fun σ H Q => ∃ q : Nat × Nat × (Addr × MP), (q.1 < n ∧ q.2.1 < n1 q.1) ∧ tV an (r q.1 q.2.1) (W ++ [q.2.2]) (W ++ [q.2.2]) (E q.1 q.2.1) σ H Q
theorem lc2_read {vs : List Nat} {σ : St} {H : Hp} {Q : VK} {k : Nat} (hk : ∀ i, i < n → GOk g (Y i) js (f i)) (hk1 : ∀ i j, i < n → j < n1 i → GOk g1 (Y1 i j) js1 (f1 i j)) (hjs : ∀ j, j ∈ js → j ∈ vs) (hjs1 : ∀ j, j ∈ js1 → j ∈ vs1) (hn1 : ∀ i, i < n → n1 i ≤ k) (hz : n * k + k ≤ 1000000) (h : tN an ρ W W' (fun _ => lstM (flatP n n1 E)) σ H Q) :
    tLc2 (tI an ρ W W' Y n) g (fun σ H Q => Q true H) (tI1 an n (fun i => f i (wipeE ρ vs)) W' Y1 n1) g1 (fun σ H Q => Q true H) (tV2i an n n1 (fun i j => f1 i j (wipeE (f i (wipeE ρ vs)) vs1)) W' E) vs vs1 σ H Q := by
  obtain ⟨O, m, q⟩ := h
  refine ⟨O, m, fun J H' m' ss hn w D hD => ?_⟩
  obtain ⟨mD, eD⟩ := m'.new (mp := lstM []) (o := .lst []) hD ⟨[], rfl, .nil⟩
  let Pv : Nat → Hp → Prop := fun i H1 => MX an (D :: O) ρ (W' ++ [(D, lstM (flatP i n1 E))]) σ H1 ∧ Same (mn H' O) (mn H1 (D :: O))
  refine ⟨fun i k H1 => k = n - i ∧ i ≤ n ∧ Pv i H1, ⟨n, rfl, Nat.zero_le _, mD, by rw [eD]; exact Same.refl _⟩, ?_⟩
  rintro i _ H1 ⟨rfl, hi, m1, s1⟩
  by_cases hlt : i < n
  · refine .inr ⟨w.goes i H1 hlt (s1.trans mn_le), Pv (i + 1), fun H2 p2 => ⟨n - (i + 1), by omega, rfl, hlt, p2⟩, fun x H2 y => ?_⟩
    obtain ⟨s2, py⟩ := w.yields i H1 x H2 hlt (s1.trans mn_le) y
    have m2 := m1.same s2
    have s12 : Same (mn H' O) (mn H2 (D :: O)) := s1.trans (mn_mono s2)
    refine hk i hlt (D :: O) (wipeE ρ vs) (L2.wipe σ vs) H2 x _ m2.lv (m2.ds.wipe vs) (py (D :: O) m1.lv s1) fun xs ds => ?_
    refine ⟨by rw [wipe_setL hjs]; exact wipe_wipe fun u hu => hu, ?_⟩
    refine iteT ?_
    generalize hσ2 : setL (L2.wipe σ vs) js xs = σ2 at ds ⊢
    refine ⟨(i, (D, lstM (flatP i n1 E))), hlt, D :: O, m2.re ds, fun J1 H4 m4 s4 hn4 w4 => ?_⟩
    let Pv1 : Nat → Hp → Prop := fun j H5 => MX an (D :: O) (f i (wipeE ρ vs)) (W' ++ [(D, lstM (flatP i n1 E ++ (List.range j).map (E i)))]) σ2 H5 ∧ Same (mn H4 (D :: O)) (mn H5 (D :: O))
    refine ⟨fun j k H5 => k = n1 i - j ∧ j ≤ n1 i ∧ Pv1 j H5, ⟨n1 i, rfl, Nat.zero_le _, by simpa using m4, Same.refl _⟩, ?_⟩
    rintro j _ H5 ⟨rfl, hj, m5, s5⟩
    by_cases hjl : j < n1 i
    · refine .inr ⟨w4.goes j H5 hjl (s5.trans mn_le), Pv1 (j + 1), fun H6 p6 => ⟨n1 i - (j + 1), by omega, rfl, hjl, p6⟩, fun x1 H6 y1 => ?_⟩
      obtain ⟨s6, py1⟩ := w4.yields j H5 x1 H6 hjl (s5.trans mn_le) y1
      have m6 := m5.same s6
      refine hk1 i j hlt hjl (D :: O) (wipeE (f i (wipeE ρ vs)) vs1) (L2.wipe σ2 vs1) H6 x1 _ m6.lv (m6.ds.wipe vs1) (py1 (D :: O) m5.lv s5) fun xs1 ds1 => ?_
      refine ⟨by rw [wipe_setL hjs1]; exact wipe_wipe fun u hu => hu, ?_⟩
      refine iteT ?_
      refine ⟨(i, j, (D, lstM (flatP i n1 E ++ (List.range j).map (E i)))), ⟨hlt, hjl⟩, D :: O, m6.re ds1, fun v H7 m7 s7 pv => ?_⟩
      obtain ⟨_, o, e7, acc, eo, sat⟩ := m7.wo.at_ (D, lstM (flatP i n1 E ++ (List.range j).map (E i))) (by simp)
      subst eo
      refine ⟨acc, e7, ?_, ?_⟩
      · have a1 := sat.length
        rw [List.length_append, List.length_map, List.length_range] at a1
        have a2 := flatP_len (E := E) (n := i) (n1 := n1) (k := k) fun i' hi' => hn1 i' (by omega)
        have a3 := hn1 i hlt
        have a4 : i * k ≤ n * k := Nat.mul_le_mul_right _ (by omega)
        have : (1000000 : Nat) < sizeLine := by rw [sizeLine_eq]; decide
        omega
      · obtain ⟨m8, s8⟩ := m7.put (m' := lstM (flatP i n1 E ++ (List.range (j + 1)).map (E i))) (o' := .lst (acc ++ [v])) get_last ⟨_, rfl, by
          rw [List.range_succ, List.map_append, ← List.append_assoc]
          exact sat.snoc pv⟩
        rw [set_last] at m8
        have sx := (s7.trans s8)
        exact ⟨m8.re (m6.ds.same sx), (s5.trans (mn_mono s6)).trans sx⟩
    · have e : j = n1 i := by omega
      subst e
      refine .inl ⟨w4.stops H5 (s5.trans mn_le), ?_, ?_⟩
      · rw [flatP_succ]
        exact m5.re (m2.ds.same (s4.trans s5))
      · exact s12.trans (s4.trans s5)
  · have e : i = n := by omega
    subst e
    exact .inl ⟨w.stops H1 (s1.trans mn_le), q D H1 (m'.lv.new hD) (m'.new0 hD) m1 (ss.trans s1)⟩
theorem rs_setLc2 (i : Nat) {y : Str} {py spos : Pos} {rest : List Stmt} {R : SP} {N : TF.Env → Wd → Prop} (k : Nat) (hi : RI X an tg iter ρ W W' Y n)
    (hg : ∀ (s : Shared) (H : Hp) (C : Addr) (cl : List (Str × Addr)) (fp : List Addr), PG (X.blk s H scope (compEnvC scope cl C X.env) fp) tg g)
    (hk : ∀ i, i < n → GOk g (Y i) js (f i)) (hjs : ∀ j, j ∈ js → j ∈ own.map (·.2))
    (hi1 : ∀ (s : Shared) (H : Hp) (C : Addr) (cl : List (Str × Addr)) (fp : List Addr) (i : Nat) (c : Addr × MP), i < n → RI (X.blk s H scope (compEnvC scope cl C X.env) fp) an tg1 iter1 (f i (wipeE ρ (own.map (·.2)))) (W' ++ [c]) (W' ++ [c]) (Y1 i) (n1 i))
    (hg1 : ∀ (s : Shared) (H : Hp) (C : Addr) (cl : List (Str × Addr)) (fp : List Addr), PG (X.blk s H scope (compEnvC scope cl C X.env) fp) tg1 g1)
    (hk1 : ∀ i j, i < n → j < n1 i → GOk g1 (Y1 i j) js1 (f1 i j)) (hjs1 : ∀ j, j ∈ js1 → j ∈ vs1) (hv : ∀ i ∈ vs1, i ∈ own.map (·.2))
    (he : ∀ (s : Shared) (H : Hp) (C : Addr) (cl : List (Str × Addr)) (fp : List Addr) (i j : Nat) (c : Addr × MP), i < n → j < n1 i → RV (X.blk s H scope (compEnvC scope cl C X.env) fp) an elt (f1 i j (wipeE (f i (wipeE ρ (own.map (·.2)))) vs1)) (W' ++ [c]) (W' ++ [c]) (E i j))
    (hn1 : ∀ i, i < n → n1 i ≤ k) (hz : n * k + k ≤ 1000000)
    (h : ∀ b, an.H0 b = none → RSs X an rest (ρ.set i (some (refP b))) (W' ++ [(b, lstM (flatP n n1 E))]) N R Wz)
    (ok : BlkOk X.N X.env.scope scope own := by exact blk (by kernel_rfl)) (hc : X.calm = true := by rfl) (hN : X.N.Nodup := by exact of_decide_eq_true (by kernel_rfl)) (hy : X.N[i]? = some y := by rfl) (hyl : X.env.scope.names.lookup y = some .local := by rfl)
    (hsw : swapsWith (.ListComp elt [⟨tg, iter, [], 0⟩, ⟨tg1, iter1, [], 0⟩] scope pos) (some (.Name y py)) spos.line X.env = pure true := by exact sw_true rfl rfl rfl (by kernel_rfl)) (hs : ∀ x, foldedSetIterable iter X.env x = pure x := by intro _; rfl) (hs1 : ∀ env x, foldedSetIterable iter1 env x = pure x := by intro _ _; rfl) :
    RSs X an (.Assign [.Name y py] (.ListComp elt [⟨tg, iter, [], 0⟩, ⟨tg1, iter1, [], 0⟩] scope pos) spos :: rest) ρ W N R Wz :=
  rs_cons (N1 := fun ρ1 W1 => ∃ b, an.H0 b = none ∧ ρ1 = ρ.set i (some (refP b)) ∧ W1 = W' ++ [(b, lstM (flatP n n1 E))]) (PSimp (ps_setLc2 hc hN hy hyl hsw hi ok hv hg (fun s H C cl fp => pts_nil)
    (fun s H C cl fp => PIex fun q => PIifp fun h => hi1 s H C cl fp q.1 q.2 h) hg1 (fun s H C cl fp => pts_nil) (fun s H C cl fp => PEex fun q => PEifp fun h => he s H C cl fp q.1 q.2.1 q.2.2 h.1 h.2) hs hs1)
    fun D σ H ⟨O, m, nx, rt⟩ => lc2_read hk hk1 hjs hjs1 hn1 hz ⟨O, m, fun p H1 hp h0 m1 s1 => nx _ _ _ _ (p :: O) ⟨p, h0, rfl, rfl⟩ (m1.re (m1.ds.set i rfl)) s1⟩) fun ρ1 W1 ⟨b, h0, e1, e2⟩ => e1 ▸ e2 ▸ h b h0
end
end TF
set_option Elab.async false
set_option linter.all false
set_option maxRecDepth 100000
set_option maxHeartbeats 4000000
/-! M10: calls of what may raise, of methods of owned instances; their promises. -/
namespace TF
open PySem PySem.Spec L2
open PyProof.Rows (envOfC)
/-- a call that may let the one exception out -/
def CallX (sp : Sp) (C : Addr) (Ps : List SP) (P : SP) (Wi Wo : Wd) (xo : Prop) : Prop := ∀ (O : List Addr) (H : Hp) (vs : List V) (Q : VK) (E : XK), Live H O → WOk Wi O H → Sat Ps (mn H O) vs →
  (∀ v H', SameB (Wi.map Prod.fst) H H' → WOk Wo O H' → P.p (mn H' O) v → Q v H') → (xo → ∀ d H', SameB (Wi.map Prod.fst) H H' → E (.ref C) d H') → sp vs H Q E
/-- what is told by mkSp, and when it may raise -/
def mkSpX {ι : Type} (C : Addr) (A : ι → List SP) (Wi Wo : ι → Wd) (pre xT : ι → Prop) (R : ι → SP) : Sp := fun vs H Q E => ∃ i O, Live H O ∧ WOk (Wi i) O H ∧ Sat (A i) (mn H O) vs ∧ pre i ∧
  (∀ v H', SameB ((Wi i).map Prod.fst) H H' → WOk (Wo i) O H' → (R i).p (mn H' O) v → Q v H') ∧ (xT i → ∀ d H', SameB ((Wi i).map Prod.fst) H H' → E (.ref C) d H')
theorem mkSpX_ok {ι : Type} {C : Addr} {A : ι → List SP} {Wi Wo : ι → Wd} {pre xT : ι → Prop} {R : ι → SP} (i : ι) (h : pre i) : CallX (mkSpX C A Wi Wo pre xT R) C (A i) (R i) (Wi i) (Wo i) (xT i) := fun O H vs Q E l w s k ke => ⟨i, O, l, w, s, h, k, ke⟩
theorem mkSp_okX {ι : Type} {C : Addr} {A : ι → List SP} {Wi Wo : ι → Wd} {pre : ι → Prop} {R : ι → SP} (i : ι) (h : pre i) : CallX (mkSp A Wi Wo pre R) C (A i) (R i) (Wi i) (Wo i) False := fun O H vs Q E l w s k ke => ⟨i, O, l, w, s, h, k⟩
def XKa (C : Addr) (an : An) (xo : Prop) : XK := fun cls _ H' => xo ∧ cls = .ref C ∧ SameB an.A0 an.H0 H'
theorem px_of {X : Cx} {an : An} {xo : Prop} (z : Rz X an xo) : Passes (L2.CX X.prog X.w) X (XKa (TGa X.K) an xo) := by
  obtain ⟨Wx, tk, hW⟩ := z
  exact passes_call tk fun cls d σ H ⟨xh, e, s⟩ => by
    subst e
    exact hW xh d σ H s
section
variable {X : Cx} {an : An} {K : PySem.W.Frag} {ρ : TF.Env} {W W1 W2 W' Wz Wi Wo Wr : Wd} {P P1 R : SP} {Ps : List SP} {N : TF.Env → Wd → Prop} {rest body : List Stmt} {o e c : Expr} {es : List Expr} {pos pos' p apos : Pos} {b : Addr} {CX : CXT} {k : Nat} {f C : Addr} {fd : FuncData} {ps : List Str} {sp : Sp} {x m : Str} {xo xc : Prop}
/-- what a call may change is ours -/
theorem MX.sbx {O : List Addr} {σ : St} {H H' : Hp} (mx : MX an O ρ (Wi ++ Wr) σ H) (sb : SameB (Wi.map Prod.fst) H H') : SameB an.A0 an.H0 H' := fun b o n e => by
  have e1 := mx.sb b o n e
  refine sb b o (fun z => ?_) e1
  obtain ⟨c, hc, e2⟩ := List.mem_map.mp z
  rcases mx.wa c (List.mem_append_left _ hc) with h | h
  · exact n (e2 ▸ h)
  · rw [e2, e] at h
    cases h
theorem WOk.left {O : List Addr} {H : Hp} (w : WOk (Wi ++ Wr) O H) : WOk Wi O H := ⟨by
  have nd := w.nd
  rw [List.map_append] at nd
  exact (List.nodup_append.mp nd).1, fun c hc => w.at_ c (List.mem_append_left _ hc)⟩
theorem rv_callX (F : FnOk X.prog X.w X.K X.mg X.base CX k f fd ps sp) (kk : CallX sp (TGa X.K) Ps P Wi Wo xc) (ho : Wo.map Prod.fst = Wi.map Prod.fst) (hx : Passes CX X (XKa (TGa X.K) an xo)) (hxo : xc → xo) (hr : Room k X.A) (hm : X.mg x = some (.ref f)) (hk : PySem.W.keepIn X.K (.ref f) = true) (hb : Binds X.K fd ps [])
    (ha : RA X an (e :: es) ρ W (Wi ++ Wr) Ps) (hg : Gl X x := by rfl) (hdb : (x == ("__debug__" : Str)) = false := by decide) (he : starEach (e :: es) X.env = (false, eval e X.env) :: starEach es X.env := by rfl) (hpl : (backTo pos (starEach es X.env)).any (·.1) = false := by rfl) : RV X an (.Call (.Name x p) (e :: es) [] pos) ρ W (Wo ++ Wr) P :=
  PEimp (pe_call F hr hg hm hk hb .nil hx ha hdb he hpl) fun σ H Q ⟨O, m, q⟩ => ⟨O, m, fun vs H1 m1 s1 p1 => by
    show sp (vs ++ []) H1 Q _
    rw [List.append_nil]
    refine kk O H1 vs Q _ m1.lv m1.wo.left p1 (fun v H' sb wo p2 => ?_) fun xh d H' sb => ⟨hxo xh, rfl, m1.sbx sb⟩
    obtain ⟨m2, s2⟩ := m1.call sb wo ho
    exact q v H' m2 (s1.trans s2) p2⟩
/-- o.m(..), o an owned instance -/
theorem rv_methX (j : Nat) {fs : List (Str × SP)} {pl : Sem Bool} (hob : RV X an o ρ W W1 (refP b)) (hj : W1[j]? = some (b, insM C fs)) (hl : fs.lookup m = none) (c : Cls X.K C) (hm : Meth X.K C m f) (F : FnOk X.prog X.w X.K X.mg X.base CX k f fd ps sp) (kk : CallX sp (TGa X.K) (refP b :: Ps) P Wi Wo xc) (ho : Wo.map Prod.fst = Wi.map Prod.fst)
    (hx : Passes CX X (XKa (TGa X.K) an xo)) (hxo : xc → xo) (hr : Room k X.A) (hb : Binds X.K fd ps []) (ha : RA X an (e :: es) ρ W1 (Wi ++ Wr) Ps) (hst : starEach (e :: es) X.env = (false, eval e X.env) :: starEach es X.env := by rfl) (hpl : (backTo pos (starEach es X.env)).any (·.1) = false := by rfl)
    (ht : eval (.Call (.Attribute o m apos) (e :: es) [] pos) X.env = (do
      let ov ← eval o X.env
      standAt apos.atName
      let (f, first) ← holding [ov] (getMethod ov m pl)
      callWith pos f first (backTo pos (starEach (e :: es) X.env)) (backToKw pos (keywordEach [] X.env))) := by rfl) : RV X an (.Call (.Attribute o m apos) (e :: es) [] pos) ρ W (Wo ++ Wr) P :=
  PEimp (pe_meth hob c hm F hr hb .nil hx ha hst hpl ht) fun σ H Q ⟨O, mx, q⟩ => ⟨O, mx, fun u H1 m1 s1 p1 => by
    have p1 : u = .ref b := p1
    subst p1
    obtain ⟨dx, vs0, e1, sat⟩ := m1.ins hj
    refine ⟨b, dx, vs0, rfl, e1, FldsOk.no sat hl, O, m1, fun vs H2 m2 s2 p2 => ?_⟩
    show sp (.ref b :: (vs ++ [])) H2 Q _
    rw [List.append_nil]
    refine kk O H2 (.ref b :: vs) Q _ m2.lv m2.wo.left (.cons rfl p2) (fun v H' sb wo p3 => ?_) fun xh d H' sb => ⟨hxo xh, rfl, m2.sbx sb⟩
    obtain ⟨m3, s3⟩ := m2.call sb wo ho
    exact q v H' m3 ((s1.trans s2).trans s3) p3⟩
theorem rv_methX0 (j : Nat) {fs : List (Str × SP)} {pl : Sem Bool} (hob : RV X an o ρ W (Wi ++ Wr) (refP b)) (hj : (Wi ++ Wr)[j]? = some (b, insM C fs)) (hl : fs.lookup m = none) (c : Cls X.K C) (hm : Meth X.K C m f) (F : FnOk X.prog X.w X.K X.mg X.base CX k f fd ps sp) (kk : CallX sp (TGa X.K) [refP b] P Wi Wo xc) (ho : Wo.map Prod.fst = Wi.map Prod.fst)
    (hx : Passes CX X (XKa (TGa X.K) an xo)) (hxo : xc → xo) (hr : Room k X.A) (hb : Binds X.K fd ps [])
    (ht : eval (.Call (.Attribute o m apos) [] [] pos) X.env = (do
      let ov ← eval o X.env
      standAt apos.atName
      let (f, first) ← holding [ov] (getMethod ov m pl)
      callWith pos f first (backTo pos (starEach [] X.env)) (backToKw pos (keywordEach [] X.env))) := by rfl) : RV X an (.Call (.Attribute o m apos) [] [] pos) ρ W (Wo ++ Wr) P :=
  PEimp (pe_meth0 hob c hm F hr hb .nil hx ht) fun σ H Q ⟨O, mx, q⟩ => ⟨O, mx, fun u H1 m1 s1 p1 => by
    have p1 : u = .ref b := p1
    subst p1
    obtain ⟨dx, vs0, e1, sat⟩ := m1.ins hj
    refine ⟨b, dx, vs0, rfl, e1, FldsOk.no sat hl, ?_⟩
    refine kk O H1 [.ref b] Q _ m1.lv m1.wo.left (.cons rfl .nil) (fun v H' sb wo p3 => ?_) fun xh d H' sb => ⟨hxo xh, rfl, m1.sbx sb⟩
    obtain ⟨m3, s3⟩ := m1.call sb wo ho
    exact q v H' m3 (s1.trans s3) p3⟩
/-- the same, where no address is told: a call of a def that only reads -/
theorem callX_pure {sp : Sp} {C : Addr} (h : ∀ (O : List Addr) (H : Hp) (vs : List V) (Q : VK) (E : XK), Live H O → Sat Ps (mn H O) vs → (∀ v H', Same H H' → P.p (mn H' O) v → Q v H') → sp vs H Q E) : CallX sp C Ps P [] [] xo := fun O H vs Q E l w s k ke => h O H vs Q E l s fun v H' sm p => k v H' (SameB.of sm) WOk.nil p
end
section
variable {P : Program} {w : World} {K : PySem.W.Frag} {mg : Str → Option Value} {base : Heap} {x qual : Str} {params : Arguments} {body : List Stmt} {scope : Scope} {dvs : List V} {kws : List (Str × V)} {f : Addr} {fd : FuncData}
theorem okX {ι : Type} {A : ι → List SP} {Wi Wo : ι → Wd} {pre xT : ι → Prop} {R : ι → SP} {N ps : List Str} {k : Nat} (F : FunD K x qual params body scope dvs kws f fd) (S : FnScope N ps scope) (hl : ∀ i, (A i).length = ps.length)
    (h : ∀ (cdv : Value) (A1 : Around) (outer : List PySem.Env) (s : Shared) (H : Hp) (E : XK), Room k (A1.deeper (envOfC qual scope s.heap.objs.size f cdv)) → ∀ i, pre i → ∀ an : An, (∀ c, c ∈ Wi i → c.1 ∈ an.O0) → Rz (cxOf (L2.CX P w) P w K mg base N qual scope f cdv A1 outer s H E) an (xT i) →
      RSs (cxOf (L2.CX P w) P w K mg base N qual scope f cdv A1 outer s H E) an body (env0 N (A i)) (Wi i) (fun _ W => WEnd an W (Wo i) ∧ ∀ H, (R i).p H .non) (R i) (Wo i)) : FnOk P w K mg base (L2.CX P w) (k + 1) f fd ps (mkSpX (TGa K) A Wi Wo pre xT R) := by
  refine F.ok S (fun vs H Q E q => ?_) (fun cdv A1 outer s H vs Q E hr q => ?_)
  · obtain ⟨i, O, l, wo, sat, _⟩ := q
    rw [← sat.length, hl]
  · obtain ⟨i, O, l, wo, sat, hp, q, qe⟩ := q
    refine ⟨_, h cdv A1 outer s H E hr i hp ⟨H, (Wi i).map Prod.fst, O⟩ (fun c hc => (wo.at_ c hc).1) ⟨fun cls d _ H' => E cls d H', takes_of rfl rfl rfl rfl, fun xh d σ H' sb => qe xh d H' sb⟩, O, start_MX l wo sat, fun ρ' W' σ' H' O' hn m' s' => ?_, fun v H' e => q v H' e.sb e.wo e.rp⟩
    have e := m'.end_ (R := R i) (v := .non) hn.1 (hn.2 _)
    exact q .non H' e.sb e.wo e.rp
end
end TF
set_option Elab.async false
set_option linter.all false
set_option maxRecDepth 100000
set_option maxHeartbeats 4000000
/-! M11: an instance that is made with a list of its own. -/
namespace TF
open PySem PySem.Spec L2
open PyProof.Rows (envOfC)
def mkSpN {ι : Type} (A : ι → List SP) (Wi : ι → Wd) (Wn : ι → Addr → Wd) (pre : ι → Prop) : Sp := fun vs H Q _ => ∃ i O, Live H O ∧ WOk (Wi i) O H ∧ Sat (A i) (mn H O) vs ∧ pre i ∧ ∀ b H', H b = none → SameB ((Wi i).map Prod.fst) H H' → WOk (Wn i b) (b :: O) H' → Q .non H'
def tNN (an : An) (ρ : TF.Env) (W W' : Wd) (Wn : Addr → Addr → Wd) : TE := fun σ H Q => ∃ O, MX an O ρ W σ H ∧ ∀ p b H', an.H0 p = none → an.H0 b = none → MX an (b :: p :: O) ρ (W' ++ Wn p b) σ H' → Same (mn H O) (mn H' (b :: p :: O)) → Q (.ref p) H'
abbrev RNN (X : Cx) (an : An) (e : Expr) (ρ : TF.Env) (W W' : Wd) (Wn : Addr → Addr → Wd) : Prop := PE X e (tNN an ρ W W' Wn)
section
variable {X : Cx} {an : An} {K : PySem.W.Frag} {ρ : TF.Env} {W W1 W2 W' Wz Wi Wo Wr : Wd} {P P1 R : SP} {Ps : List SP} {N : TF.Env → Wd → Prop} {rest body : List Stmt} {o e c : Expr} {es : List Expr} {pos pos' p apos : Pos} {b : Addr} {CX : CXT} {k : Nat} {f C : Addr} {fd : FuncData} {ps : List Str} {sp : Sp} {x m : Str}
/-- o.f = e, e a new thing -/
theorem rs_fldR (j : Nat) {fs : List (Str × SP)} {g : Str} {mp : Addr → MP} (he : RN X an e ρ W W1 mp) (ho : ∀ p, RV X an o ρ (W1 ++ [(p, mp p)]) (W1 ++ [(p, mp p)]) (refP b)) (hk : ∀ p, (W1 ++ [(p, mp p)])[j]? = some (b, insM C fs)) (c : Cls X.K C) (n : NoAttr X.K C g)
    (h : ∀ p, an.H0 p = none → RSs X an rest ρ ((W1 ++ [(p, mp p)]).set j (b, insM C (fs ++ [(g, refP p)]))) N R Wz) (hf : fs.all (fun p => !decide (p.1 = g)) = true := by kernel_rfl) (hl : fs.length < 1000 := by exact of_decide_eq_true rfl)
    (hs : swapsWith e (some (.Attribute o g pos')) pos.line X.env = pure false := by rfl) : RSs X an (.Assign [.Attribute o g pos'] e pos :: rest) ρ W N R Wz :=
  rs_cons (N1 := fun ρ1 W' => ∃ p, an.H0 p = none ∧ ρ1 = ρ ∧ W' = (W1 ++ [(p, mp p)]).set j (b, insM C (fs ++ [(g, refP p)]))) (PSimp (ps_fld (PEex ho) he hs) fun D σ H ⟨O, m, nx, rt⟩ => ⟨O, m, fun q H1 hq h0 m1 s1 => ⟨q, q :: O, m1, fun x H2 m2 s2 p2 => by
      have p2 : x = .ref b := p2
      subst p2
      obtain ⟨dx, vs, e2, sat⟩ := m2.ins (hk q)
      refine ⟨b, C, dx, vs, rfl, e2, c, n, by rw [← Paired.length sat]; exact hl, ?_⟩
      obtain ⟨m3, s3⟩ := m2.put (m' := insM C (putP g (refP q) fs)) (o' := .ins C dx (putF g (.ref q) vs)) (hk q) ⟨dx, _, rfl, FldsOk.put (P := refP q) (v := V.ref q) rfl sat⟩
      rw [putP_new hf] at m3
      exact nx _ _ _ _ (q :: O) ⟨q, h0, rfl, rfl⟩ m3 ((s1.trans s2).trans s3)⟩⟩) fun ρ1 W1 ⟨q, h0, e1, e2⟩ => e1 ▸ e2 ▸ h q h0
theorem MX.callN {O : List Addr} {σ : St} {H H' : Hp} (m : MX an O ρ (Wi ++ Wr) σ H) {Wo : Wd} (hb : H b = none) (sb : SameB (Wi.map Prod.fst) H H') (wo : WOk Wo (b :: O) H') (he : Wo.map Prod.fst = Wi.map Prod.fst ++ [b]) : MX an (b :: O) ρ (Wo ++ Wr) σ H' ∧ Same (mn H O) (mn H' (b :: O)) := by
  have hi : ∀ c, c ∈ Wi.map Prod.fst → c ∈ O := fun c hc => by
    obtain ⟨d, hd, e⟩ := List.mem_map.mp hc
    rw [← e]
    exact (m.wo.at_ d (List.mem_append_left _ hd)).1
  have nbO : ¬ b ∈ O := m.lv.new hb
  have sm : Same (mn H O) (mn H' (b :: O)) := fun c o e => by
    by_cases h : c ∈ O
    · rw [mn_in h] at e
      cases e
    · rw [mn_out h] at e
      have hcb : c ≠ b := ne_of_none e hb
      rw [mn_out fun z => (List.mem_cons.mp z).elim hcb h]
      exact sb c o (fun z => h (hi c z)) e
  have nd := m.wo.nd
  rw [List.map_append] at nd
  have nd2 := List.nodup_append.mp nd
  have key : ∀ c, c ∈ Wr → ¬ c.1 ∈ Wi.map Prod.fst := fun c hc z => nd2.2.2 c.1 z c.1 (List.mem_map.mpr ⟨c, hc, rfl⟩) rfl
  have cb : ∀ c, c ∈ Wi ++ Wr → c.1 ≠ b := fun c hc z => by
    obtain ⟨_, o, h2, _⟩ := m.wo.at_ c hc
    rw [z, hb] at h2
    cases h2
  have live : ∀ c, c ∈ b :: O → ∃ o, H' c = some o := fun c hc => by
    by_cases z : c ∈ Wi.map Prod.fst ++ [b]
    · rw [← he] at z
      obtain ⟨d, hd, e⟩ := List.mem_map.mp z
      obtain ⟨_, o, h2, _⟩ := wo.at_ d hd
      exact ⟨o, e ▸ h2⟩
    · have hcb : c ≠ b := fun y => z (List.mem_append_right _ (by rw [y]; simp))
      have hcO : c ∈ O := (List.mem_cons.mp hc).resolve_left hcb
      obtain ⟨o, e⟩ := m.lv c hcO
      exact ⟨o, sb c o (fun y => z (List.mem_append_left _ y)) e⟩
  refine ⟨⟨m.a0, m.l0, fun c hc => List.mem_cons_of_mem _ (m.sub c hc), fun c hc => ?_, live, m.ds.same sm, ⟨?_, fun c hc => ?_⟩, fun c hc => ?_, m.sbx sb⟩, sm⟩
  · rcases List.mem_cons.mp hc with z | z
    · exact .inr (by rw [z]; exact m.new0 hb)
    · exact m.fr c z
  · rw [List.map_append]
    refine List.nodup_append.mpr ⟨wo.nd, nd2.2.1, fun a ha c hc e => ?_⟩
    rw [he] at ha
    rcases List.mem_append.mp ha with ha | ha
    · exact nd2.2.2 a ha c hc e
    · obtain ⟨d, hd, e2⟩ := List.mem_map.mp hc
      exact cb d (List.mem_append_right _ hd) (e2.trans (e.symm.trans (List.mem_singleton.mp ha)))
  · rcases List.mem_append.mp hc with h | h
    · exact wo.at_ c h
    · obtain ⟨h1, o, h2, h3⟩ := m.wo.at_ c (List.mem_append_right _ h)
      exact ⟨List.mem_cons_of_mem _ h1, o, sb _ _ (key c h) h2, c.2.st sm h3⟩
  · rcases List.mem_append.mp hc with h | h
    · have z : c.1 ∈ Wi.map Prod.fst ++ [b] := by
        rw [← he]
        exact List.mem_map.mpr ⟨c, h, rfl⟩
      rcases List.mem_append.mp z with z | z
      · obtain ⟨c', hc', e⟩ := List.mem_map.mp z
        rw [← e]
        exact m.wa c' (List.mem_append_left _ hc')
      · exact .inr (by rw [List.mem_singleton.mp z]; exact m.new0 hb)
    · exact m.wa c (List.mem_append_right _ h)
/-- C(e, ..), a list of its own made with it -/
theorem rn_makeN {Wn : Addr → Addr → Wd} (M : Mk X.K C f) (F : FnOk X.prog X.w X.K X.mg X.base CX k f fd ps sp)
    (kk : ∀ (y : Addr) (O : List Addr) (H : Hp) (vs : List V) (Q : VK) (E : XK), Live H O → WOk [(y, insM C [])] O H → Sat (refP y :: Ps) (mn H O) vs → (∀ b H', H b = none → SameB [y] H H' → WOk (Wn y b) (b :: O) H' → Q .non H') → sp vs H Q E) (hn : ∀ y b, (Wn y b).map Prod.fst = [y, b])
    (hr : Room (k + 1) X.A) (hm : X.mg x = some (.ref C)) (hb : Binds X.K fd ps []) (hx : Passes CX X E0)
    (ha : RA X an (e :: es) ρ W W' Ps) (hg : Gl X x := by rfl) (hdb : (x == ("__debug__" : Str)) = false := by decide) (he : starEach (e :: es) X.env = (false, eval e X.env) :: starEach es X.env := by rfl) (hpl : (backTo pos (starEach es X.env)).any (·.1) = false := by rfl) :
    RNN X an (.Call (.Name x p) (e :: es) [] pos) ρ W W' Wn :=
  PEimp (pe_make M F hr hg hm hb .nil hx ha hdb he hpl) fun σ H Q ⟨O, m, q⟩ => ⟨O, m, fun vs H1 m1 s1 p1 y dx hy hdx hne => by
    have m2 := m1.same (same_new (o := .own y) hdx)
    have hy2 : upd H1 dx (.own y) y = none := by rw [upd_ne (Ne.symm hne)]; exact hy
    obtain ⟨m3, e3⟩ := m2.new (mp := insM C []) (o := .ins C dx []) hy2 ⟨dx, [], rfl, .nil⟩
    rw [List.append_nil]
    have m3p : MX an (y :: O) ρ ([(y, insM C [])] ++ W') σ (upd (upd H1 dx (.own y)) y (.ins C dx [])) := m3.perm List.perm_append_comm
    have s13 : Same (mn H1 O) (mn (upd (upd H1 dx (.own y)) y (.ins C dx [])) (y :: O)) := by
      rw [e3]
      exact mn_mono (same_new hdx)
    refine kk y (y :: O) _ (.ref y :: vs) _ _ m3p.lv m3p.wo.left (.cons rfl (p1.same s13)) fun b H' hb sb wo => ⟨rfl, ?_⟩
    obtain ⟨m4, s4⟩ := MX.callN (Wo := Wn y b) m3p hb sb wo (hn y b)
    exact q y b H' (m1.new0 hy) (m3p.new0 hb) (m4.perm List.perm_append_comm) ((s1.trans s13).trans s4)⟩
theorem rs_newN (i : Nat) {y : Str} {Wn : Addr → Addr → Wd} (he : RNN X an e ρ W W' Wn) (hw : ∀ p b, (Wn p b).map Prod.fst = [p, b]) (h : ∀ p b, an.H0 p = none → an.H0 b = none → p ≠ b → RSs X an rest (ρ.set i (some (refP p))) (W' ++ Wn p b) N R Wz) (hN : X.N.Nodup := by exact of_decide_eq_true (by kernel_rfl)) (hi : X.N[i]? = some y := by rfl) (hx : Loc X.env.scope y := by first | exact Or.inl rfl | exact Or.inr rfl) (hs : swapsWith e (some (.Name y pos')) pos.line X.env = pure false := by rfl)
    (hf : X.fn y = true ∨ X.env.scope.names.lookup y = some .local := by first | exact .inl rfl | exact .inr rfl) : RSs X an (.Assign [.Name y pos'] e pos :: rest) ρ W N R Wz :=
  rs_cons (N1 := fun ρ1 W1 => ∃ p b, an.H0 p = none ∧ an.H0 b = none ∧ p ≠ b ∧ ρ1 = ρ.set i (some (refP p)) ∧ W1 = W' ++ Wn p b) (PSimp (ps_set hN hi hx he hs hf) fun D σ H ⟨O, m, nx, rt⟩ => ⟨O, m, fun p b H1 h1 h2 m1 s1 => nx _ _ _ _ (b :: p :: O) ⟨p, b, h1, h2, by
      have nd := m1.wo.nd
      rw [List.map_append, hw] at nd
      have nd := (List.nodup_append.mp nd).2.1
      simpa using nd, rfl, rfl⟩ (m1.re (m1.ds.set i rfl)) s1⟩) fun ρ1 W1 ⟨p, b, h1, h2, h3, e1, e2⟩ => e1 ▸ e2 ▸ h p b h1 h2 h3
end
section
variable {P : Program} {w : World} {K : PySem.W.Frag} {mg : Str → Option Value} {base : Heap} {x qual : Str} {params : Arguments} {body : List Stmt} {scope : Scope} {dvs : List V} {kws : List (Str × V)} {f : Addr} {fd : FuncData}
theorem okN {ι : Type} {A : ι → List SP} {Wi : ι → Wd} {Wn : ι → Addr → Wd} {pre : ι → Prop} {N ps : List Str} {k : Nat} (F : FunD K x qual params body scope dvs kws f fd) (S : FnScope N ps scope) (hl : ∀ i, (A i).length = ps.length) (hn : ∀ i b, (Wn i b).map Prod.fst = (Wi i).map Prod.fst ++ [b])
    (h : ∀ (cdv : Value) (A1 : Around) (outer : List PySem.Env) (s : Shared) (H : Hp) (E : XK), Room k (A1.deeper (envOfC qual scope s.heap.objs.size f cdv)) → ∀ i, pre i → ∀ an : An, (∀ c, c ∈ Wi i → c.1 ∈ an.O0) →
      RSs (cxOf CX0 P w K mg base N qual scope f cdv A1 outer s H E).nox an body (env0 N (A i)) (Wi i) (fun _ W => ∃ b, an.H0 b = none ∧ W = Wn i b) ⟨fun _ _ => False, fun _ h => h⟩ []) : FnOk P w K mg base CX0 (k + 1) f fd ps (mkSpN A Wi Wn pre) := by
  refine F.ok S (fun vs H Q E q => ?_) (fun cdv A1 outer s H vs Q E hr q => ?_)
  · obtain ⟨i, O, l, wo, sat, _⟩ := q
    rw [← sat.length, hl]
  · obtain ⟨i, O, l, wo, sat, hp, q⟩ := q
    refine ⟨_, (h cdv A1 outer s H E hr i hp ⟨H, (Wi i).map Prod.fst, O⟩ fun c hc => (wo.at_ c hc).1).nox, O, start_MX l wo sat, fun ρ' W' σ' H' O' hW m' s' => ?_, fun v H' e => e.rp.elim⟩
    obtain ⟨b, h0, rfl⟩ := hW
    have hbm : b ∈ (Wn i b).map Prod.fst := by rw [hn]; simp
    have hbO : b ∈ O' := by
      obtain ⟨d, hd, e⟩ := List.mem_map.mp hbm
      rw [← e]
      exact (m'.wo.at_ d hd).1
    refine q b H' h0 m'.sb ⟨m'.wo.nd, fun c hc => ?_⟩
    obtain ⟨h1, o, h2, h3⟩ := m'.wo.at_ c hc
    refine ⟨?_, o, h2, c.2.st (mn_anti fun a ha => ?_) h3⟩
    · have z : c.1 ∈ (Wi i).map Prod.fst ++ [b] := by
        rw [← hn]
        exact List.mem_map.mpr ⟨c, hc, rfl⟩
      rcases List.mem_append.mp z with z | z
      · obtain ⟨d, hd, e⟩ := List.mem_map.mp z
        rw [← e]
        exact List.mem_cons_of_mem _ (wo.at_ d hd).1
      · rw [List.mem_singleton.mp z]
        exact List.mem_cons_self
    · rcases List.mem_cons.mp ha with z | z
      · rw [z]
        exact hbO
      · exact m'.sub a z
end
end TF
set_option Elab.async false
set_option linter.all false
set_option maxRecDepth 100000
set_option maxHeartbeats 4000000
/-! W10: the levels. -/
namespace TF
open PySem PySem.Spec L2 WD
open PyProof.Rows (envOfC)
/-- where a search stands: the levels but the last, the last, what is new in it -/
structure LS where
  y : Addr
  b : Addr
  L : Lk
  most : Nat
  ini : List (List Heap0)
  last : List Heap0
  fresh : List Heap0
abbrev lvF (K : PySem.W.Frag) (b : Addr) (L : Lk) (most : Nat) (fresh : List Heap0) : List (Str × SP) := [("look", lookP K L), ("most", dat K (.int (most : Int))), ("levels", refP b), ("fresh", dat K (hsD fresh))]
abbrev lvC (K : PySem.W.Frag) (ini : List (List Heap0)) (last : List Heap0) : MP := lstM (ini.map (lvl K) ++ [lvl K last])
abbrev lvW (K : PySem.W.Frag) (q : LS) : Wd := [(q.y, insM (He.ga K "Levels") (lvF K q.b q.L q.most q.fresh)), (q.b, lvC K q.ini q.last)]
structure LSok (q : LS) : Prop where
  ne : q.y ≠ q.b
  ok : LkOk q.L
  ll : ∀ h, h ∈ q.last → h.length = q.L.places.length
  fl : ∀ h, h ∈ q.fresh → h.length = q.L.places.length
  fz : q.fresh.length ≤ q.last.length
  mz : q.most ≤ 1000
  il : q.ini.length ≤ q.most
def comeTo (L : Lk) (last : List Heap0) : Bool := last.any fun x => ov L.begin x
def moreOf (L : Lk) (fresh : List Heap0) : List Heap0 := fresh.flatMap fun h => L.fs.map fun f => bef f h
def nextLv (L : Lk) (last fresh : List Heap0) : List Heap0 := lea (last ++ moreOf L fresh)
def freshOf (level last : List Heap0) : List Heap0 := level.filter fun h => !decide (h ∈ last)
def tooGr (q : LS) : Prop := q.most < q.last.length ∨ q.most < q.ini.length + 1
def goOn (q : LS) : LS := { q with ini := q.ini ++ [q.last], last := nextLv q.L q.last q.fresh, fresh := freshOf (nextLv q.L q.last q.fresh) q.last }
theorem more_flat {K : PySem.W.Frag} (L : Lk) (fresh : List Heap0) : flatP fresh.length (fun _ => L.fs.length) (fun i j => dat K (intsT (bef (L.fs.getD j default) (fresh.getD i [])))) = (moreOf L fresh).map fun h => dat K (intsT h) := by
  have e1 : ∀ h : Heap0, (List.range L.fs.length).map (fun j => dat K (intsT (bef (L.fs.getD j default) h))) = (L.fs.map fun f => bef f h).map fun h => dat K (intsT h) := fun h => by
    have z := range_getD (d := default) L.fs
    conv => rhs; rw [← z]
    rw [List.map_map, List.map_map]
    rfl
  have e2 := range_getD (d := []) fresh
  unfold flatP moreOf
  conv => rhs; rw [← e2]
  rw [List.flatMap_map, List.map_flatMap]
  congr 1
  funext i
  exact e1 _
theorem len_more (L : Lk) (fresh : List Heap0) : (moreOf L fresh).length = fresh.length * L.fs.length := by
  induction fresh with
  | nil => simp [moreOf]
  | cons h r ih =>
    have e : moreOf L (h :: r) = (L.fs.map fun f => bef f h) ++ moreOf L r := rfl
    rw [e, List.length_append, List.length_map, ih, List.length_cons, Nat.succ_mul]
    omega
theorem more_lens {L : Lk} {n : Nat} {fresh : List Heap0} (h : ∀ x, x ∈ fresh → x.length = n) : ∀ x, x ∈ moreOf L fresh → x.length = n := fun x hx => by
  obtain ⟨g, hg, hx⟩ := List.mem_flatMap.mp hx
  obtain ⟨f, hf, rfl⟩ := List.mem_map.mp hx
  rw [len_bef]
  exact h g hg
theorem lea_sub {hs : List Heap0} : ∀ h, h ∈ lea hs → h ∈ hs := by
  have key : ∀ (l acc : List Heap0) (h : Heap0), h ∈ l.foldl leaGo acc → h ∈ acc ∨ h ∈ l := by
    intro l
    induction l with
    | nil => exact fun acc h m => .inl m
    | cons x l ih =>
      intro acc h m
      rcases ih _ _ m with m | m
      · unfold leaGo at m
        split at m
        · exact .inl m
        · rcases List.mem_append.mp m with m | m
          · exact .inl m
          · exact .inr (by rw [List.mem_singleton.mp m]; exact List.mem_cons_self)
      · exact .inr (List.mem_cons_of_mem _ m)
  intro h m
  rcases key _ _ _ m with m | m
  · simp at m
  · exact mem_dd0.mp (mem_srt.mp m)
theorem goOn_ok {q : LS} (ok : LSok q) (h : ¬ tooGr q) : LSok (goOn q) := by
  have hl : ∀ x, x ∈ nextLv q.L q.last q.fresh → x.length = q.L.places.length := fun x hx => by
    rcases List.mem_append.mp (lea_sub x hx) with m | m
    · exact ok.ll x m
    · exact more_lens ok.fl x m
  refine ⟨ok.ne, ok.ok, hl, fun x hx => hl x (List.mem_filter.mp hx).1, List.length_filter_le _ _, ok.mz, ?_⟩
  show (q.ini ++ [q.last]).length ≤ q.most
  rw [List.length_append, List.length_singleton]
  unfold tooGr at h
  omega
section
variable {X : Cx} {an : An} {K : PySem.W.Frag} {ρ : TF.Env} {W W1 W2 : Wd} {a b : Expr} {pos : Pos}
theorem hs_any (x : Heap0) (hs : List Heap0) : ((hs.map intsT).any fun z => PyData.eqv z (intsT x)) = decide (x ∈ hs) := by
  rw [List.any_map]
  by_cases h : x ∈ hs
  · rw [decide_eq_true h]
    refine List.any_eq_true.mpr ⟨x, h, ?_⟩
    show PyData.eqv (intsT x) (intsT x) = true
    rw [← up_ints, wide_eqv]
    simp
  · rw [decide_eq_false h]
    refine Bool.eq_false_iff.mpr fun e => h ?_
    obtain ⟨z, hz, e⟩ := List.any_eq_true.mp e
    have e : PyData.eqv (intsT z) (intsT x) = true := e
    rw [← up_ints, ← up_ints, wide_eqv] at e
    rw [← up_inj (of_decide_eq_true e)]
    exact hz
theorem ints_sh (x : Heap0) : SeqAt.shaped (intsT x) = true := by
  rw [← up_ints]
  exact wide_sh _
theorem hs_sh (hs : List Heap0) : SeqAt.shaped (hsD hs) = true := (flt_lst (n := 1) fun d hd => by
  obtain ⟨h, _, rfl⟩ := List.mem_map.mp hd
  exact flt_tup (n := 0) fun d hd => by
    obtain ⟨o, _, rfl⟩ := List.mem_map.mp hd
    exact flt_int o).shaped
/-- x not in hs -/
theorem rt_notInH {x : Heap0} {hs : List Heap0} (hu : X.A.units + 65 < cLine) (ha : RV X an a ρ W W1 (dat X.K (intsT x))) (hb : RV X an b ρ W1 W2 (dat X.K (hsD hs))) (hm : behindInMarks .NotIn b = false := by with_unfolding_all rfl) : RT X an (.Compare a [.NotIn] [b] pos) ρ W W2 (!decide (x ∈ hs)) :=
  rt_cmp (K := X.K) (op_notInD hu) (fun O H v w Q l p1 p2 q => ⟨intsT x, hs.map intsT, Dp.same mn_le _ _ p1, Dp.same mn_le _ _ p2, ints_sh x, hs_sh hs, q _ H (Same.refl H) (by rw [hs_any]; exact .bl _)⟩) ha hb hm
end
section
variable {P : Program} {w : World} {K : PySem.W.Frag} {mg : Str → Option Value} {base : Heap} (T : TF.Txt K mg)
include T
theorem w_Levels_init : O_Levels_init P w K mg base CX0 2 (mkSpN (ι := Addr × Lk × Heap0 × Nat) (fun q => [refP q.1, lookP K q.2.1, dat K (intsT q.2.2.1), dat K (.int (q.2.2.2 : Int))]) (fun q => [(q.1, insM (He.ga K "Levels") [])]) (fun q b => lvW K ⟨q.1, b, q.2.1, q.2.2.2, [], [q.2.2.1], [q.2.2.1]⟩) (fun _ => True)) := by
  refine okN T.f_Levels_init (N := N_Levels_init) (by constructor <;> first | rfl | decide | decide +kernel) (fun _ => rfl) (fun _ _ => rfl) fun cdv A1 outer s H E hr q hq an hO => ?_
  obtain ⟨y, L, h, most⟩ := q
  refine rs_fldN 0 (P := lookP K L) (rv_var 1) (rv_var 0) rfl T.c_Levels T.a_Levels_look ?_
  refine rs_fldN 0 (P := dat K (.int (most : Int))) (rv_var 3) (rv_var 0) rfl T.c_Levels T.a_Levels_most ?_
  refine rs_fldR 0 (rn_lst (Ps := [lvl K [h]]) (ra_cons (rv_lst (Ps := [dat K (intsT h)]) (ra_cons (rv_var 2) ra_nil)) ra_nil)) (fun p => rv_var 0) (fun p => rfl) T.c_Levels T.a_Levels_levels fun p hp => ?_
  refine rs_fldN 0 (P := dat K (hsD [h])) (rv_lstD (ds := [intsT h]) (ra_cons (rv_var 2) ra_nil)) (rv_var 0) rfl T.c_Levels T.a_Levels_fresh ?_
  exact rs_nil ⟨p, hp, rfl⟩
theorem w_Levels_is_come_to : O_Levels_is_come_to P w K mg base CX0 4 (mkSp (ι := LS) (fun q => [refP q.y]) (fun q => lvW K q) (fun q => lvW K q) LSok (fun q => dat K (.bool (comeTo q.L q.last)))) := by
  refine okM T.f_Levels_is_come_to (N := N_Levels_is_come_to) (by constructor <;> first | rfl | decide | decide +kernel) (fun _ => rfl) fun cdv A1 outer s H E hr q hq an hO => ?_
  obtain ⟨y, b, L, most, ini, last, fresh⟩ := q
  obtain ⟨ne, ok, ll, fl, fz, mz, il⟩ := hq
  have ll : ∀ h, h ∈ last → h.length = L.places.length := ll
  refine rs_endW (rv_to (rv_over_some T (w_over_some T) (pureSp_ok (ι := Wide × List Wide) (up L.begin, last.map up) ⟨?_, fun x hx => ?_⟩) hr (ra_cons (rv_sub (look_begin T (rv_fldO 0 (rv_var 0) rfl T.c_Levels T.a_Levels_look rfl)) fun H v z => ?_) (ra_cons (rv_sub (rv_ixLastO (K := K) (P := lvl K last) 1 (rv_fldO 0 (rv_var 0) rfl T.c_Levels T.a_Levels_levels rfl) (rv_neg rv_int) rfl) fun H v z => lvl_ws z) ra_nil))) ?_) ⟨?_, fun c hc => ⟨hO c hc, c, hc, rfl, fun _ _ h => h⟩⟩
  · show (up L.begin).length ≤ 40
    rw [List.length_map, ok.bl]
    exact ok.z2
  · obtain ⟨h, hh, rfl⟩ := List.mem_map.mp hx
    show (up h).length = (up L.begin).length
    rw [List.length_map, List.length_map, ok.bl, ll h hh]
  · show (dat K (wD (up L.begin))).p H v
    rw [up_ints]
    exact z
  · show PyData.bool ((last.map up).any fun x => isOver (up L.begin) x) = .bool (comeTo L last)
    rw [List.any_map]
    rfl
  · have ne : y ≠ b := ne
    simp [lvW, ne]
end
end TF
set_option Elab.async false
set_option linter.all false
set_option maxRecDepth 100000
set_option maxHeartbeats 4000000
/-! W11: a search goes on. -/
namespace TF
open PySem PySem.Spec L2 WD
open PyProof.Rows (envOfC)
section
variable {P : Program} {w : World} {K : PySem.W.Frag} {mg : Str → Option Value} {base : Heap} (T : TF.Txt K mg)
include T
theorem w_Levels_go_on : O_Levels_go_on P w K mg base (L2.CX P w) 5 (mkSpX (TGa K) (ι := LS) (fun q => [refP q.y]) (fun q => lvW K q) (fun q => lvW K (goOn q)) LSok tooGr (fun q => ⟨fun H v => ¬ tooGr q ∧ v = .non, fun _ h => h⟩)) := by
  refine okX T.f_Levels_go_on (N := N_Levels_go_on) (by constructor <;> first | rfl | decide | decide +kernel) (fun _ => rfl) fun cdv A1 outer s H E hr q hq an hO z => ?_
  have hq0 := hq
  obtain ⟨y, b, L, most, ini, last, fresh⟩ := q
  obtain ⟨ne, ok, ll, fl, fz, mz, il⟩ := hq
  have ne : y ≠ b := ne
  have ll : ∀ h, h ∈ last → h.length = L.places.length := ll
  have fl : ∀ h, h ∈ fresh → h.length = L.places.length := fl
  have fz : fresh.length ≤ last.length := fz
  have mz : most ≤ 1000 := mz
  have il : ini.length ≤ most := il
  have hu : (A1.deeper (envOfC "Levels.go_on" (defScope s_Levels_go_on) s.heap.objs.size (He.ma K (He.ga K "Levels") "go_on") cdv)).units + 65 < cLine := by
    have := hr.un
    omega
  refine rs_when (v := decide (most < last.length) || decide (most < ini.length + 1)) (W' := lvW K ⟨y, b, L, most, ini, last, fresh⟩) (rt_w (rw_or (rt_to (rt_gt (K := K) (rv_lenL (Ps := last.map fun h => dat K (intsT h)) T.n_len (rv_sub (rv_ixLastO (K := K) (P := lvl K last) 1 (rv_fldO 0 (rv_var 0) rfl T.c_Levels T.a_Levels_levels rfl) (rv_neg rv_int) rfl) fun H v z => lstT_P z)) (rv_fldO 0 (rv_var 0) rfl T.c_Levels T.a_Levels_most rfl)) (by rw [List.length_map]; simp)) fun _ => rw_or1 (rt_to (rt_gt (K := K) (rv_lenO 1 T.n_len (rv_fldO 0 (rv_var 0) rfl T.c_Levels T.a_Levels_levels rfl) rfl) (rv_fldO 0 (rv_var 0) rfl T.c_Levels T.a_Levels_most rfl)) (by rw [List.length_append, List.length_map, List.length_singleton]; norm_cast)))) (fun hv => ?_) fun hv => ?_
  · have hg : tooGr ⟨y, b, L, most, ini, last, fresh⟩ := by
      unfold tooGr
      simpa using hv
    exact rs_one (rs_raise T z hg (hr.mono (by omega)) (rv_fldO (P := dat K (.int (most : Int))) 0 (rv_var 0) rfl T.c_Levels T.a_Levels_most rfl))
  have hg : ¬ tooGr ⟨y, b, L, most, ini, last, fresh⟩ := by
    unfold tooGr
    simpa using hv
  have hg2 : last.length ≤ most ∧ ini.length + 1 ≤ most := by
    unfold tooGr at hg
    simp only at hg
    omega
  have hlen := len_more L fresh
  have z3 : L.fs.length ≤ 60 := ok.z3
  have hmz : fresh.length * L.fs.length ≤ 1000 * 60 := Nat.mul_le_mul (by omega) z3
  refine rs_setLc2 1 (n := fresh.length) (n1 := fun _ => L.fs.length) (Y := fun i => dat K (intsT (fresh.getD i []))) (E := fun i j => dat K (intsT (bef (L.fs.getD j default) (fresh.getD i [])))) (own := [("heap", 2), ("name", 3)]) (js := [2]) (js1 := [3]) (vs1 := [3]) (f := fun i ρ => ρ.set 2 (some (dat K (intsT (fresh.getD i []))))) (f1 := fun i j ρ => ρ.set 3 (some (dat K (.str (L.fs.getD j default).name)))) (W' := lvW K ⟨y, b, L, most, ini, last, fresh⟩) L.fs.length
    (ri_listM intsT fresh [] (rv_fldO (P := dat K (hsD fresh)) 0 (rv_var 0) rfl T.c_Levels T.a_Levels_fresh rfl)) (fun s H C cl fp => pg_one 2) (fun i hi => gk_name) (by decide)
    (fun s H C cl fp i c hi => ri_listM (fun f : SF => PyData.str f.name) L.fs default (by exact rv_to (look_names (L := L) T (rv_fldO (P := lookP K L) 0 (rv_var 0) rfl T.c_Levels T.a_Levels_look rfl)) (strsD_fs L))) (fun s H C cl fp => pg_one 3) (fun i j hi hj => gk_name) (by decide) (by decide)
    (fun s H C cl fp i j c hi hj => rv_before T (w_before T) (pureSp_ok (⟨L, fresh.getD i [], L.fs.getD j default⟩ : LH) ⟨ok, fl _ (getD_mem hi), getD_mem hj⟩) (hr.mono (by omega)) (ra_cons (rv_fldO (P := lookP K L) 0 (rv_var 0) rfl T.c_Levels T.a_Levels_look rfl) (ra_cons (rv_var 2) (ra_cons (rv_var 3) ra_nil)))) (fun i hi => Nat.le_refl _) (by omega) fun b2 hb2 => ?_
  rw [more_flat]
  refine rs_freeT 1 hb2 ?_
  have hll : ∀ h, h ∈ last ++ moreOf L fresh → h.length = L.places.length := fun h hh => by
    rcases List.mem_append.mp hh with hh | hh
    · exact ll h hh
    · exact more_lens fl h hh
  refine rs_set 4 (rv_least T (w_least T) (pureSp_ok (ι := Nat × List Heap0) (L.places.length, last ++ moreOf L fresh) ⟨ok.z1, ok.z2, ?_, hll⟩) (hr.mono (by omega)) (ra_cons (rv_sub (rv_catL (Ps := last.map fun h => dat K (intsT h)) (Rs := (moreOf L fresh).map fun h => dat K (intsT h)) (rv_ixLastO (K := K) (P := lvl K last) 1 (rv_fldO 0 (rv_var 0) rfl T.c_Levels T.a_Levels_levels rfl) (rv_neg rv_int) rfl) (rv_var 1) ?_) fun H v z => ?_) ra_nil)) ?_
  · show (last ++ moreOf L fresh).length ≤ 1000000
    rw [List.length_append, hlen]
    omega
  · rw [List.length_map, List.length_map, hlen]
    omega
  · rw [← List.map_append] at z
    exact lvl_hs z
  refine rs_fld 0 (P := dat K (hsD (freshOf (nextLv L last fresh) last))) (fs := lvF K b L most fresh) (rv_sub (rn_lstT (rn_lc (n := (nextLv L last fresh).length) (Wf := fun _ => lvW K ⟨y, b, L, most, ini, last, fresh⟩) (bt := fun i => (fun h => !decide (h ∈ last)) ((nextLv L last fresh).getD i [])) (E := fun i => (fun h => dat K (intsT h)) ((nextLv L last fresh).getD i [])) (own := [("heap", 2)]) (ri_listM intsT (nextLv L last fresh) [] (rv_sub (rv_var 4) fun H v z => lvl_hs z)) (fun s H C cl fp => pg_one 2) (fun i hi => gk_name) (by decide) (fun _ _ _ => rfl)
    (fun s H C cl fp i c hi => ?_) (fun s H C cl fp i c hi _ => rv_var 2))) ?_) (rv_var 0) rfl T.c_Levels T.a_Levels_fresh ?_
  · refine rts_one (rt_notInH (x := (nextLv L last fresh).getD i []) (hs := last) hu (rv_var 2) (rv_sub (rv_ixLastO (K := K) (P := lvl K last) 1 (rv_fldO (P := refP b) 0 (rv_var 0) rfl T.c_Levels T.a_Levels_levels rfl) (rv_neg rv_int) rfl) fun H v z => lvl_hs z))
  · rw [selP_items (d := []) (nextLv L last fresh) (fun h => !decide (h ∈ last)) (fun h => dat K (intsT h))]
    exact fun H v z => lvl_hs z
  have ep : ∀ P : SP, putP "fresh" P (lvF K b L most fresh) = ([("look", lookP K L), ("most", dat K (.int (most : Int))), ("levels", refP b), ("fresh", P)] : List (Str × SP)) := fun P => by
    unfold putP
    rw [if_neg (by decide)]
    unfold putP
    rw [if_neg (by decide)]
    unfold putP
    rw [if_neg (by decide)]
    unfold putP
    rw [if_pos rfl]
  rw [ep]
  refine rs_app 1 (P := lvl K (nextLv L last fresh)) (rv_fldO (P := refP b) 0 (rv_var 0) rfl T.c_Levels T.a_Levels_levels rfl) (rv_var 4) rfl rfl (rs_nil ⟨⟨?_, fun c hc => ?_⟩, fun H => ⟨hg, rfl⟩⟩) ?_
  · simp [lvW, goOn, ne]
  · have e : lvC K (ini ++ [last]) (nextLv L last fresh) = lstM ((ini.map (lvl K) ++ [lvl K last]) ++ [lvl K (nextLv L last fresh)]) := by
      unfold lvC
      rw [List.map_append]
      rfl
    have hc : c ∈ [(y, insM (He.ga K "Levels") (lvF K b L most (freshOf (nextLv L last fresh) last))), (b, lvC K (ini ++ [last]) (nextLv L last fresh))] := hc
    rw [e] at hc
    rcases List.mem_cons.mp hc with h | h
    · rw [h]
      exact ⟨hO (y, insM (He.ga K "Levels") (lvF K b L most fresh)) List.mem_cons_self, _, List.mem_cons_self, rfl, fun _ _ h => h⟩
    · rw [List.mem_singleton.mp h]
      exact ⟨hO (b, lvC K ini last) (List.mem_cons_of_mem _ List.mem_cons_self), _, List.mem_cons_of_mem _ List.mem_cons_self, rfl, fun _ _ h => h⟩
  · rw [List.length_append, List.length_map, List.length_singleton]
    omega
end
end TF
set_option Elab.async false
set_option linter.all false
set_option maxRecDepth 100000
set_option maxHeartbeats 4000000
/-! W12: the row that a search has found. -/
namespace TF
open PySem PySem.Spec L2 WD
open PyProof.Rows (envOfC)
def pick (L : Lk) (h : Heap0) (lv : List Heap0) : List SF := (L.fs.filter fun f => enab f.tk h).filter fun f => lv.any fun x => ov (beh f h) x
def rowOf (L : Lk) : Heap0 → List (List Heap0) → List SF
  | _, [] => []
  | h, lv :: r => (pick L h lv).headD default :: rowOf L (beh ((pick L h lv).headD default) h) r
def RowOk (L : Lk) : Heap0 → List (List Heap0) → Prop
  | _, [] => True
  | h, lv :: r => pick L h lv ≠ [] ∧ RowOk L (beh ((pick L h lv).headD default) h) r
theorem rowOf_len (L : Lk) : ∀ (h : Heap0) (ls : List (List Heap0)), (rowOf L h ls).length = ls.length
  | _, [] => rfl
  | h, lv :: r => by
    show (rowOf L _ r).length + 1 = _
    rw [rowOf_len L _ r]
    rfl
theorem row_at (L : Lk) : ∀ (ls : List (List Heap0)) (h : Heap0) (j : Nat), RowOk L h ls → j < ls.length → ∃ rest, pick L (runTo h ((rowOf L h ls).take j)) (ls.getD j []) = (rowOf L h ls).getD j default :: rest
  | [], _, j, _, hj => by simp at hj
  | lv :: r, h, 0, ok, _ => by
    show ∃ rest, pick L h lv = (pick L h lv).headD default :: rest
    cases e : pick L h lv with
    | nil => exact absurd e ok.1
    | cons f rest => exact ⟨rest, rfl⟩
  | lv :: r, h, j + 1, ok, hj => by
    have := row_at L r (beh ((pick L h lv).headD default) h) j ok.2 (by simpa using hj)
    simpa [rowOf, runTo] using this
theorem pick_mem {L : Lk} {h : Heap0} {lv : List Heap0} {f : SF} (m : f ∈ pick L h lv) : f ∈ L.fs ∧ enab f.tk h = true := by
  have m1 := List.mem_filter.mp (List.mem_filter.mp m).1
  exact m1
section
variable {X : Cx} {an : An} {K : PySem.W.Frag} {ρ : TF.Env} {W W1 W2 : Wd} {o e : Expr} {pos apos : Pos} {L : Lk} {h : Heap0} {pl : Sem Bool}
theorem rv_can (T : TF.Txt X.K X.mg) (hq : LkOk L ∧ h.length = L.places.length) (F : O_Look_can X.prog X.w X.K X.mg X.base CX0 3 (pureSp (ι := Lk × Heap0) (fun q => [lookP X.K q.1, dat X.K (intsT q.2)]) (fun q => LkOk q.1 ∧ q.2.length = q.1.places.length) (fun q => dat X.K (.list ((q.1.fs.filter fun f => enab f.tk q.2).map fun f => .str f.name))))) (hr : Room 3 X.A)
    (ho : RV X an o ρ W W1 (lookP X.K L)) (ha : RA X an [e] ρ W1 W2 [dat X.K (intsT h)]) (hst : starEach [e] X.env = (false, eval e X.env) :: starEach [] X.env := by rfl) (hpl : (backTo pos (starEach [] X.env)).any (·.1) = false := by rfl)
    (ht : eval (.Call (.Attribute o "can" apos) [e] [] pos) X.env = (do
      let ov ← eval o X.env
      standAt apos.atName
      let (f, first) ← holding [ov] (getMethod ov "can" pl)
      callWith pos f first (backTo pos (starEach [e] X.env)) (backToKw pos (keywordEach [] X.env))) := by rfl) : RV X an (.Call (.Attribute o "can" apos) [e] [] pos) ρ W W2 (dat X.K (.list ((L.fs.filter fun f => enab f.tk h).map fun f => .str f.name))) :=
  rv_meth ho (insP_ins rfl) T.c_Look T.h_Look_can F (pureSp_ok (ι := Lk × Heap0) (L, h) hq) hr (b_Look_can T) pass0 ha hst hpl ht
end
section
variable {P : Program} {w : World} {K : PySem.W.Frag} {mg : Str → Option Value} {base : Heap} (T : TF.Txt K mg)
include T
structure LSrow (q : LS) : Prop where
  ls : LSok q
  il : ∀ lv, lv ∈ q.ini → ∀ x, x ∈ lv → x.length = q.L.places.length
  row : RowOk q.L q.L.begin q.ini.reverse
theorem w_Levels_first_row : O_Levels_first_row P w K mg base CX0 4 (mkSp (ι := LS) (fun q => [refP q.y]) (fun q => lvW K q) (fun q => lvW K q) LSrow (fun q => dat K (.list ((rowOf q.L q.L.begin q.ini.reverse).map fun f => .str f.name)))) := by
  refine okM T.f_Levels_first_row (N := N_Levels_first_row) (by constructor <;> first | rfl | decide | decide +kernel) (fun _ => rfl) fun cdv A1 outer s H E hr q hq an hO => ?_
  obtain ⟨y, b, L, most, ini, last, fresh⟩ := q
  obtain ⟨⟨ne, ok, ll, fl, fz, mz, il⟩, ilv, hrow⟩ := hq
  have ne : y ≠ b := ne
  have ilv : ∀ lv, lv ∈ ini → ∀ x, x ∈ lv → x.length = L.places.length := ilv
  have hrow : RowOk L L.begin ini.reverse := hrow
  have mz : most ≤ 1000 := mz
  have il : ini.length ≤ most := il
  generalize hRv : ini.reverse = rv at hrow
  have hrl : rv.length = ini.length := by rw [← hRv, List.length_reverse]
  have rvl : ∀ lv, lv ∈ rv → ∀ x, x ∈ lv → x.length = L.places.length := fun lv hlv => ilv lv (by rw [← hRv] at hlv; simpa using hlv)
  generalize hRow : rowOf L L.begin rv = row
  have hrowl : row.length = rv.length := by rw [← hRow]; exact rowOf_len L _ _
  have hat : ∀ j, j < rv.length → ∃ rest, pick L (runTo L.begin (row.take j)) (rv.getD j []) = row.getD j default :: rest := fun j hj => by rw [← hRow]; exact row_at L rv L.begin j hrow hj
  refine rs_set 1 (look_begin (L := L) T (rv_fldO (P := lookP K L) 0 (rv_var 0) rfl T.c_Levels T.a_Levels_look rfl)) ?_
  refine rs_new 2 (rn_lst ra_nil) fun b3 hb3 => ?_
  refine rs_cons (rs_for (ri_lstM (lvl K) rv [] (rv_sub (rv_rev2O 1 (Ps := ini.map (lvl K) ++ [lvl K last]) (rv_fldO (P := refP b) 0 (rv_var 0) rfl T.c_Levels T.a_Levels_levels rfl) rfl (by simp)) fun H v z => by
      rw [List.dropLast_concat, ← List.map_reverse, hRv] at z
      exact lstT_P z)) (pg_one 3) (fun i hi => gk_name)
    (fun j ρ W => (∃ (x3 x4 x5 : Option SP), ρ = [some (refP y), some (dat K (intsT (runTo L.begin (row.take j)))), some (refP b3), x3, x4, x5]) ∧ W = lvW K ⟨y, b, L, most, ini, last, fresh⟩ ++ [(b3, lstM ((row.take j).map fun f => dat K (.str f.name)))]) ⟨⟨none, none, none, rfl⟩, rfl⟩ ?_) fun ρ1 W1 ⟨⟨x3, x4, x5, e1⟩, e2⟩ => ?_
  · rintro j _ _ hj ⟨⟨x3, x4, x5, rfl⟩, rfl⟩
    obtain ⟨rest, hp⟩ := hat j hj
    have hlv := rvl _ (getD_mem (d := []) hj)
    have hbl : (runTo L.begin (row.take j)).length = L.places.length := (len_run _ _).trans ok.bl
    have hrun : runTo L.begin (row.take (j + 1)) = beh (row.getD j default) (runTo L.begin (row.take j)) := fold_snoc (fun (h : Heap0) (f : SF) => beh f h) L.begin row default (by rw [hrowl]; exact hj)
    have htk : row.take (j + 1) = row.take j ++ [row.getD j default] := by
      have hjr : j < row.length := by rw [hrowl]; exact hj
      rw [List.take_add_one, List.getD_eq_getElem?_getD, List.getElem?_eq_getElem hjr]
      rfl
    have hrz : (row.take j).length ≤ 1000000 := by
      rw [List.length_take]
      omega
    rw [hrun, htk]
    generalize runTo L.begin (row.take j) = h at hp hbl ⊢
    generalize row.take j = done at hrz ⊢
    generalize hf0 : row.getD j default = f0 at hp ⊢
    generalize rv.getD j [] = lv at hp hlv ⊢
    have hf0m : f0 ∈ L.fs := (pick_mem (by rw [hp]; exact List.mem_cons_self)).1
    refine rs_setLc 4 (n := (L.fs.filter fun f => enab f.tk h).length) (Wf := fun _ => lvW K ⟨y, b, L, most, ini, last, fresh⟩ ++ [(b3, lstM (done.map fun f => dat K (.str f.name)))]) (bt := fun i => (fun f => lv.any fun x => ov (beh f h) x) ((L.fs.filter fun f => enab f.tk h).getD i default)) (E := fun i => (fun f : SF => dat K (.str f.name)) ((L.fs.filter fun f => enab f.tk h).getD i default)) (own := [("name", 5)]) (js := [5]) (f := fun i ρ => ρ.set 5 (some (dat K (.str ((L.fs.filter fun f => enab f.tk h).getD i default).name))))
      (ri_listM (fun f : SF => PyData.str f.name) (L.fs.filter fun f => enab f.tk h) default (rv_can T ⟨ok, hbl⟩ (w_Look_can T) hr (rv_fldO (P := lookP K L) 0 (rv_var 0) rfl T.c_Levels T.a_Levels_look rfl) (ra_cons (rv_var 1) ra_nil))) (fun s H C cl fp => pg_one 5) (fun i hi => gk_name) (by decide) (fun _ _ _ => rfl)
      (fun s H C cl fp i c hi => rts_one ?_) (fun s H C cl fp i c hi _ => rv_var 5) fun b4 hb4 => ?_
    · have hm := (List.mem_filter.mp (getD_mem (d := default) hi)).1
      generalize (L.fs.filter fun f => enab f.tk h).getD i default = f at hm ⊢
      refine rt_to (rt_val (rv_over_some T (w_over_some T) (pureSp_ok (ι := Wide × List Wide) (up (beh f h), lv.map up) ⟨?_, fun x hx => ?_⟩) hr (ra_cons (rv_sub (rv_behind (f := f) (h := h) T ⟨ok, hbl, hm⟩ (w_Look_behind T) (hr.mono (by omega)) (rv_fldO (P := lookP K L) 0 (rv_var 0) rfl T.c_Levels T.a_Levels_look rfl) (ra_cons (rv_var 1) (ra_cons (rv_var 5) ra_nil))) fun H v z => ?_) (ra_cons (rv_sub (rv_var 3) fun H v z => lvl_ws z) ra_nil)))) ?_
      · show (up (beh f h)).length ≤ 40
        rw [List.length_map, len_beh, hbl]
        exact ok.z2
      · obtain ⟨g, hg, rfl⟩ := List.mem_map.mp hx
        show (up g).length = (up (beh f h)).length
        rw [List.length_map, List.length_map, len_beh, hbl, hlv g hg]
      · show (dat K (wD (up (beh f h)))).p H v
        rw [up_ints]
        exact z
      · show ((lv.map up).any fun x => isOver (up (beh f h)) x) = lv.any fun x => ov (beh f h) x
        rw [List.any_map]
        rfl
    rw [selP_items (d := default) (L.fs.filter fun f => enab f.tk h) (fun f => lv.any fun x => ov (beh f h) x) (fun f : SF => dat K (.str f.name))]
    rw [show (L.fs.filter fun f => enab f.tk h).filter (fun f => lv.any fun x => ov (beh f h) x) = f0 :: rest from hp]
    refine rs_freeT 4 hb4 ?_
    refine rs_app 2 (P := dat K (.str f0.name)) (rv_var 2) (rv_ixL (K := K) (k := 0) rfl (rv_sub (rv_var 4) fun H v z => lstT_P z) rv_int) rfl rfl ?_ (by rw [List.length_map]; exact hrz)
    refine rs_set 1 (rv_behind (f := f0) (h := h) T ⟨ok, hbl, hf0m⟩ (w_Look_behind T) (hr.mono (by omega)) (rv_fldO (P := lookP K L) 0 (rv_var 0) rfl T.c_Levels T.a_Levels_look rfl) (ra_cons (rv_var 1) (ra_cons (rv_ixL (K := K) (k := 0) rfl (rv_sub (rv_var 4) fun H v z => lstT_P z) rv_int) ra_nil))) (rs_nil ⟨⟨_, _, _, rfl⟩, ?_⟩)
    rw [List.map_append]
    rfl
  · subst e1 e2
    rw [show row.take rv.length = row by rw [← hrowl, List.take_length]]
    refine rs_freeT 2 hb3 ?_
    refine rs_endW (rv_sub (rv_var 2) fun H v z => ?_) ⟨?_, fun c hc => ⟨hO c hc, c, hc, rfl, fun _ _ h => h⟩⟩
    · exact lstT_D (K := K) (f := fun f : SF => PyData.str f.name) z
    · simp [lvW, ne]
end
end TF
set_option Elab.async false
set_option linter.all false
set_option maxRecDepth 100000
set_option maxHeartbeats 4000000
/-! Q1: heaps, place by place. -/
namespace TF
def amt : Rps → Nat → Int
  | [], _ => 0
  | p :: r, i => (if p.1 = i then p.2 else 0) + amt r i
theorem amt_cons {p : Nat × Int} {r : Rps} {i : Nat} : amt (p :: r) i = (if p.1 = i then p.2 else 0) + amt r i := rfl
theorem getD_set {α : Type} {h : List α} {i j : Nat} {v d : α} : (h.set j v).getD i d = if i = j ∧ j < h.length then v else h.getD i d := by
  rw [List.getD_eq_getElem?_getD, List.getD_eq_getElem?_getD, List.getElem?_set]
  by_cases e : j = i
  · subst e
    by_cases hl : j < h.length
    · simp [hl]
    · simp [hl]
  · rw [if_neg e, if_neg fun z => e z.1.symm]
theorem amt_not {i : Nat} : ∀ {ps : Rps}, ¬ i ∈ ps.map Prod.fst → amt ps i = 0
  | [], _ => rfl
  | p :: r, h => by
    have h1 : ¬ p.1 = i := fun e => h (by rw [List.map_cons, e]; exact List.mem_cons_self)
    rw [amt_cons]
    rw [if_neg h1, amt_not (ps := r) fun z => h (List.mem_cons_of_mem _ z)]
    rfl
theorem amt_mem {p : Nat × Int} : ∀ {ps : Rps}, (ps.map Prod.fst).Nodup → p ∈ ps → amt ps p.1 = p.2
  | [], _, h => by simp at h
  | q :: r, nd, h => by
    rw [List.map_cons, List.nodup_cons] at nd
    rw [amt_cons]
    rcases List.mem_cons.mp h with e | h
    · subst e
      rw [if_pos rfl, amt_not nd.1]
      omega
    · have h1 : ¬ q.1 = p.1 := fun e => nd.1 (by rw [e]; exact List.mem_map.mpr ⟨p, h, rfl⟩)
      rw [if_neg h1, amt_mem nd.2 h]
      omega
theorem amt_pos {i : Nat} : ∀ {ps : Rps}, (∀ p, p ∈ ps → 1 ≤ p.2) → 0 ≤ amt ps i
  | [], _ => Int.le_refl _
  | p :: r, h => by
    have h1 := h p List.mem_cons_self
    have h2 := amt_pos (i := i) (ps := r) fun q hq => h q (List.mem_cons_of_mem _ hq)
    rw [amt_cons]
    split <;> omega
theorem addv_at {i : Nat} : ∀ (ps : Rps) (h : Heap0), i < h.length → (addv h ps).getD i 0 = h.getD i 0 + amt ps i
  | [], h, _ => by
    show h.getD i 0 = h.getD i 0 + 0
    omega
  | p :: r, h, hi => by
    show (addv (h.set p.1 (h.getD p.1 0 + p.2)) r).getD i 0 = _
    rw [addv_at r _ (by rw [List.length_set]; exact hi), getD_set]
    rw [amt_cons]
    by_cases e : p.1 = i
    · subst e
      rw [if_pos ⟨rfl, hi⟩, if_pos rfl]
      omega
    · rw [if_neg fun z => e z.1.symm, if_neg e]
      omega
theorem subv_at {i : Nat} : ∀ (ps : Rps) (h : Heap0), i < h.length → (subv h ps).getD i 0 = h.getD i 0 - amt ps i
  | [], h, _ => by
    show h.getD i 0 = h.getD i 0 - 0
    omega
  | p :: r, h, hi => by
    show (subv (h.set p.1 (h.getD p.1 0 - p.2)) r).getD i 0 = _
    rw [subv_at r _ (by rw [List.length_set]; exact hi), getD_set]
    rw [amt_cons]
    by_cases e : p.1 = i
    · subst e
      rw [if_pos ⟨rfl, hi⟩, if_pos rfl]
      omega
    · rw [if_neg fun z => e z.1.symm, if_neg e]
      omega
theorem cutv_at {i : Nat} : ∀ (ps : Rps) (h : Heap0), (ps.map Prod.fst).Nodup → i < h.length → 0 ≤ h.getD i 0 → (cutv h ps).getD i 0 = max 0 (h.getD i 0 - amt ps i)
  | [], h, _, _, h0 => by
    show h.getD i 0 = max 0 (h.getD i 0 - 0)
    omega
  | p :: r, h, nd, hi, h0 => by
    rw [List.map_cons, List.nodup_cons] at nd
    show (cutv (h.set p.1 (max 0 (h.getD p.1 0 - p.2))) r).getD i 0 = _
    by_cases e : p.1 = i
    · subst e
      have e1 : (h.set p.1 (max 0 (h.getD p.1 0 - p.2))).getD p.1 0 = max 0 (h.getD p.1 0 - p.2) := by
        rw [getD_set, if_pos ⟨rfl, hi⟩]
      rw [cutv_at r _ nd.2 (by rw [List.length_set]; exact hi) (by rw [e1]; omega), e1, amt_not nd.1]
      rw [amt_cons]
      rw [if_pos rfl, amt_not nd.1]
      omega
    · have e1 : (h.set p.1 (max 0 (h.getD p.1 0 - p.2))).getD i 0 = h.getD i 0 := by
        rw [getD_set, if_neg fun z => e z.1.symm]
      rw [cutv_at r _ nd.2 (by rw [List.length_set]; exact hi) (by rw [e1]; exact h0), e1]
      rw [amt_cons]
      rw [if_neg e]
      congr 2
      omega
/-- a heap of n places -/
structure IsH (n : Nat) (h : Heap0) : Prop where
  l : h.length = n
  p : ∀ x, x ∈ h → 0 ≤ x
theorem IsH.at {n : Nat} {h : Heap0} (k : IsH n h) (i : Nat) : 0 ≤ h.getD i 0 := by
  rw [List.getD_eq_getElem?_getD]
  cases e : h[i]? with
  | none => exact Int.le_refl _
  | some x => exact k.p x (List.mem_of_getElem? e)
theorem IsH.of {n : Nat} {h : Heap0} (l : h.length = n) (p : ∀ i, i < n → 0 ≤ h.getD i 0) : IsH n h := ⟨l, fun x hx => by
  obtain ⟨i, hi, e⟩ := List.mem_iff_getElem.mp hx
  have z := p i (by omega)
  rw [List.getD_eq_getElem?_getD, List.getElem?_eq_getElem hi, e] at z
  exact z⟩
theorem heap_ext {n : Nat} {a b : Heap0} (ha : a.length = n) (hb : b.length = n) (h : ∀ i, i < n → a.getD i 0 = b.getD i 0) : a = b := by
  refine List.ext_getElem (by omega) fun i h1 h2 => ?_
  have z := h i (by omega)
  rw [List.getD_eq_getElem?_getD, List.getD_eq_getElem?_getD, List.getElem?_eq_getElem h1, List.getElem?_eq_getElem h2] at z
  exact z
/-- a firing of a net of n places -/
structure IsF (n : Nat) (f : SF) : Prop where
  tr : ∀ p, p ∈ f.tk → p.1 < n ∧ 1 ≤ p.2
  gr : ∀ p, p ∈ f.gv → p.1 < n ∧ 1 ≤ p.2
  td : (f.tk.map Prod.fst).Nodup
  gd : (f.gv.map Prod.fst).Nodup
theorem LkOk.isF {L : Lk} (ok : LkOk L) {f : SF} (h : f ∈ L.fs) : IsF L.places.length f := ⟨ok.tr f h, ok.gr f h, ok.td f h, ok.gd f h⟩
section
variable {n : Nat} {f : SF} {a h : Heap0}
theorem IsF.t0 (k : IsF n f) (i : Nat) : 0 ≤ amt f.tk i := amt_pos fun p hp => (k.tr p hp).2
theorem IsF.g0 (k : IsF n f) (i : Nat) : 0 ≤ amt f.gv i := amt_pos fun p hp => (k.gr p hp).2
theorem beh_at (ha : a.length = n) {i : Nat} (hi : i < n) : (beh f a).getD i 0 = a.getD i 0 - amt f.tk i + amt f.gv i := by
  unfold beh
  rw [addv_at _ _ (by rw [len_subv]; omega), subv_at _ _ (by omega)]
theorem bef_at (k : IsF n f) (hh : IsH n h) {i : Nat} (hi : i < n) : (bef f h).getD i 0 = max 0 (h.getD i 0 - amt f.gv i) + amt f.tk i := by
  unfold bef
  rw [addv_at _ _ (by rw [len_cutv, hh.l]; exact hi), cutv_at _ _ k.gd (by rw [hh.l]; exact hi) (hh.at i)]
theorem enab_iff (k : IsF n f) (ha : IsH n a) : enab f.tk a = true ↔ ∀ i, i < n → amt f.tk i ≤ a.getD i 0 := by
  unfold enab
  rw [List.all_eq_true]
  constructor
  · intro h i hi
    by_cases m : i ∈ f.tk.map Prod.fst
    · obtain ⟨p, hp, rfl⟩ := List.mem_map.mp m
      rw [amt_mem k.td hp]
      exact of_decide_eq_true (h p hp)
    · rw [amt_not m]
      exact ha.at i
  · intro h p hp
    have z := h p.1 (k.tr p hp).1
    rw [amt_mem k.td hp] at z
    exact decide_eq_true z
theorem beh_is (k : IsF n f) (ha : IsH n a) (e : enab f.tk a = true) : IsH n (beh f a) := .of ((len_beh f a).trans ha.l) fun i hi => by
  rw [beh_at ha.l hi]
  have := (enab_iff k ha).mp e i hi
  have := k.g0 i
  omega
theorem bef_is (k : IsF n f) (hh : IsH n h) : IsH n (bef f h) := .of ((len_bef f h).trans hh.l) fun i hi => by
  rw [bef_at k hh hi]
  have := k.t0 i
  omega
theorem ov_iff (e : a.length = h.length) : ov a h = true ↔ ∀ i, i < a.length → h.getD i 0 ≤ a.getD i 0 := by
  unfold ov isOver
  rw [List.all_eq_true, List.length_map]
  have g : ∀ (l : Heap0) (i : Nat), i < l.length → (up l).getD i none = some (l.getD i 0) := fun l i hi => by
    rw [List.getD_eq_getElem?_getD, List.getD_eq_getElem?_getD, List.getElem?_map, List.getElem?_eq_getElem hi]
    rfl
  constructor
  · intro z i hi
    have y := z i (List.mem_range.mpr hi)
    rw [g a i hi, g h i (by omega)] at y
    exact of_decide_eq_true y
  · intro z i hi
    have hi := List.mem_range.mp hi
    rw [g a i hi, g h i (by omega)]
    exact decide_eq_true (z i hi)
/-- the least heap from which f leads over h -/
theorem ov_bef (k : IsF n f) (ha : IsH n a) (hh : IsH n h) : ov a (bef f h) = true ↔ enab f.tk a = true ∧ ov (beh f a) h = true := by
  rw [ov_iff (by rw [ha.l, len_bef, hh.l]), enab_iff k ha, ov_iff (by rw [len_beh, ha.l, hh.l]), len_beh, ha.l]
  constructor
  · intro z
    refine ⟨fun i hi => ?_, fun i hi => ?_⟩
    · have y := z i hi
      rw [bef_at k hh hi] at y
      omega
    · have y := z i hi
      rw [bef_at k hh hi] at y
      rw [beh_at ha.l hi]
      omega
  · rintro ⟨z1, z2⟩ i hi
    have y1 := z1 i hi
    have y2 := z2 i hi
    rw [beh_at ha.l hi] at y2
    rw [bef_at k hh hi]
    omega
end
theorem ov_refl (a : Heap0) : ov a a = true := (ov_iff rfl).mpr fun i _ => Int.le_refl _
theorem ov_trans {n : Nat} {a b c : Heap0} (ha : a.length = n) (hb : b.length = n) (hc : c.length = n) (h1 : ov a b = true) (h2 : ov b c = true) : ov a c = true := by
  rw [ov_iff (by omega)] at h1 h2 ⊢
  intro i hi
  have := h1 i hi
  have := h2 i (by omega)
  omega
theorem ov_anti {n : Nat} {a b : Heap0} (ha : a.length = n) (hb : b.length = n) (h1 : ov a b = true) (h2 : ov b a = true) : a = b := by
  rw [ov_iff (by omega)] at h1 h2
  refine heap_ext ha hb fun i hi => ?_
  have := h1 i (by omega)
  have := h2 i (by omega)
  omega
/-- the order of lists is one beyond the places' -/
theorem ov_lt : ∀ {a b : Heap0}, a.length = b.length → ov a b = true → hLt a b = false
  | [], [], _, _ => rfl
  | [], _ :: _, e, _ => by simp at e
  | _ :: _, [], e, _ => by simp at e
  | x :: xs, y :: ys, e, h => by
    have h := (ov_iff e).mp h
    show (if x = y then hLt xs ys else iLt x y) = false
    by_cases q : x = y
    · rw [if_pos q]
      exact ov_lt (by simpa using e) ((ov_iff (by simpa using e)).mpr fun i hi => by simpa using h (i + 1) (by simpa using hi))
    · rw [if_neg q]
      have z := h 0 (by simp)
      simp at z
      unfold iLt
      exact decide_eq_false (by omega)
end TF
set_option Elab.async false
set_option linter.all false
set_option maxRecDepth 100000
set_option maxHeartbeats 4000000
/-! Q2: the least of some heaps. -/
namespace TF
def Up (l : List Heap0) (a : Heap0) : Prop := ∃ x, x ∈ l ∧ ov a x = true
theorem up_any {l : List Heap0} {a : Heap0} : (l.any fun x => ov a x) = true ↔ Up l a := List.any_eq_true
theorem up_app {l m : List Heap0} {a : Heap0} : Up (l ++ m) a ↔ Up l a ∨ Up m a := by
  unfold Up
  constructor
  · rintro ⟨x, h, e⟩
    rcases List.mem_append.mp h with h | h
    · exact .inl ⟨x, h, e⟩
    · exact .inr ⟨x, h, e⟩
  · rintro (⟨x, h, e⟩ | ⟨x, h, e⟩)
    · exact ⟨x, List.mem_append_left _ h, e⟩
    · exact ⟨x, List.mem_append_right _ h, e⟩
/-- all heaps are of n places -/
def LenN (n : Nat) (l : List Heap0) : Prop := ∀ x, x ∈ l → x.length = n
def Anti (l : List Heap0) : Prop := ∀ x y, x ∈ l → y ∈ l → ov x y = true → y = x
theorem go_sub : ∀ (l acc : List Heap0), (l.foldl leaGo acc).Sublist (acc ++ l)
  | [], acc => by
    rw [List.append_nil]
    exact List.Sublist.refl _
  | x :: l, acc => by
    show (l.foldl leaGo (leaGo acc x)).Sublist (acc ++ x :: l)
    refine (go_sub l (leaGo acc x)).trans ?_
    unfold leaGo
    split
    · exact List.Sublist.append (List.Sublist.refl _) (List.sublist_cons_self x l)
    · rw [List.append_assoc]
      exact List.Sublist.refl _
theorem go_up {n : Nat} {a : Heap0} (ha : a.length = n) : ∀ (l acc : List Heap0), LenN n l → LenN n acc → (Up (l.foldl leaGo acc) a ↔ Up (acc ++ l) a)
  | [], acc, _, _ => by
    rw [List.append_nil]
    exact Iff.rfl
  | x :: l, acc, hl, hc => by
    show Up (l.foldl leaGo (leaGo acc x)) a ↔ _
    have hx := hl x List.mem_cons_self
    have hl' : LenN n l := fun y hy => hl y (List.mem_cons_of_mem _ hy)
    by_cases h : acc.any (fun o => ov x o) = true
    · have e : leaGo acc x = acc := by
        unfold leaGo
        rw [if_pos h]
      rw [e, go_up ha l acc hl' hc, up_app, up_app]
      constructor
      · rintro (h | ⟨y, hy, e⟩)
        · exact .inl h
        · exact .inr ⟨y, List.mem_cons_of_mem _ hy, e⟩
      · rintro (h | ⟨y, hy, e3⟩)
        · exact .inl h
        · rcases List.mem_cons.mp hy with z | hy
          · subst z
            obtain ⟨o, ho, e2⟩ := List.any_eq_true.mp h
            exact .inl ⟨o, ho, ov_trans ha hx (hc o ho) e3 e2⟩
          · exact .inr ⟨y, hy, e3⟩
    · have e : leaGo acc x = acc ++ [x] := by
        unfold leaGo
        rw [if_neg h]
      rw [e, go_up ha l _ hl' fun y hy => (List.mem_append.mp hy).elim (hc y) fun z => by rw [List.mem_singleton.mp z]; exact hx, List.append_assoc]
      rfl
theorem go_anti {n : Nat} : ∀ (l acc : List Heap0), LenN n l → LenN n acc → InOrd hLt (acc ++ l) → Anti acc → Anti (l.foldl leaGo acc)
  | [], acc, _, _, _, h => h
  | x :: l, acc, hl, hc, ho, h => by
    show Anti (l.foldl leaGo (leaGo acc x))
    have hx := hl x List.mem_cons_self
    have hl' : LenN n l := fun y hy => hl y (List.mem_cons_of_mem _ hy)
    by_cases k : acc.any (fun o => ov x o) = true
    · have e : leaGo acc x = acc := by
        unfold leaGo
        rw [if_pos k]
      rw [e]
      refine go_anti l acc hl' hc (ho.sublist (List.Sublist.append (List.Sublist.refl _) (List.sublist_cons_self x l))) h
    · have e : leaGo acc x = acc ++ [x] := by
        unfold leaGo
        rw [if_neg k]
      rw [e]
      have hc' : LenN n (acc ++ [x]) := fun y hy => (List.mem_append.mp hy).elim (hc y) fun z => by rw [List.mem_singleton.mp z]; exact hx
      refine go_anti l _ hl' hc' (by rw [List.append_assoc]; exact ho) fun u v hu hv e => ?_
      rcases List.mem_append.mp hu with hu | hu
      · rcases List.mem_append.mp hv with hv | hv
        · exact h u v hu hv e
        · rw [List.mem_singleton.mp hv] at e ⊢
          have e1 := ov_lt (by rw [hc u hu, hx]) e
          have e2 := (List.pairwise_append.mp ho).2.2 u hu x List.mem_cons_self
          exact hLt_tot.tri _ _ e2 e1
      · rw [List.mem_singleton.mp hu] at e ⊢
        rcases List.mem_append.mp hv with hv | hv
        · exact absurd (List.any_eq_true.mpr ⟨v, hv, e⟩) k
        · rw [List.mem_singleton.mp hv]
section
variable {n : Nat} {hs : List Heap0} (hl : LenN n hs)
include hl
theorem srt_len : LenN n (srt hLt (dd0 hs)) := fun x hx => hl x (mem_dd0.mp (mem_srt.mp hx))
theorem lea_lenN : LenN n (lea hs) := fun x hx => hl x (lea_sub x hx)
theorem lea_up {a : Heap0} (ha : a.length = n) : Up (lea hs) a ↔ Up hs a := by
  unfold lea
  rw [go_up ha _ _ (srt_len hl) (fun x hx => by simp at hx), List.nil_append]
  constructor
  · rintro ⟨x, hx, e⟩
    exact ⟨x, mem_dd0.mp (mem_srt.mp hx), e⟩
  · rintro ⟨x, hx, e⟩
    exact ⟨x, mem_srt.mpr (mem_dd0.mpr hx), e⟩
theorem lea_anti : Anti (lea hs) := go_anti _ _ (srt_len hl) (fun x hx => by simp at hx) (by rw [List.nil_append]; exact srt_ord hLt_tot _) fun x y hx => by simp at hx
theorem mem_lea {x : Heap0} : x ∈ lea hs ↔ x ∈ hs ∧ ∀ y, y ∈ hs → ov x y = true → y = x := by
  constructor
  · intro hx
    refine ⟨lea_sub x hx, fun y hy e => ?_⟩
    obtain ⟨z, hz, e2⟩ := (lea_up hl (hl y hy)).mpr ⟨y, hy, ov_refl y⟩
    have lx := hl x (lea_sub x hx)
    have e3 := ov_trans lx (hl y hy) (hl z (lea_sub z hz)) e e2
    have e4 := lea_anti hl x z hx hz e3
    rw [e4] at e2
    exact ov_anti (hl y hy) lx e2 e
  · rintro ⟨hx, hm⟩
    obtain ⟨z, hz, e⟩ := (lea_up hl (hl x hx)).mpr ⟨x, hx, ov_refl x⟩
    rw [← hm z (lea_sub z hz) e]
    exact hz
end
theorem lea_ord (hs : List Heap0) : InOrd hLt (lea hs) := by
  have z := (srt_ord hLt_tot (dd0 hs)).sublist (by
    have y := go_sub (srt hLt (dd0 hs)) []
    rw [List.nil_append] at y
    exact y)
  exact z
theorem lea_nodup (hs : List Heap0) : (lea hs).Nodup := by
  have y := go_sub (srt hLt (dd0 hs)) []
  rw [List.nil_append] at y
  exact y.nodup ((srt_perm (lt := hLt) (dd0 hs)).nodup_iff.mpr (dd0_nodup hs))
theorem lists_eq {l m : List Heap0} (ol : InOrd hLt l) (om : InOrd hLt m) (nl : l.Nodup) (nm : m.Nodup) (h : ∀ x, x ∈ l ↔ x ∈ m) : l = m := ord_uniq hLt_tot ol om ((List.perm_ext_iff_of_nodup nl nm).mpr h)
theorem lea_mem_of {n : Nat} {hs ks : List Heap0} (hl : LenN n hs) (kl : LenN n ks) (h : ∀ a : Heap0, a.length = n → (Up hs a ↔ Up ks a)) {x : Heap0} (hx : x ∈ lea hs) : x ∈ lea ks := by
  obtain ⟨h1, h2⟩ := (mem_lea hl).mp hx
  have lx := hl x h1
  have key : ∀ z, z ∈ ks → ov x z = true → z = x := fun z hz e => by
    obtain ⟨y, hy, e2⟩ := (h z (kl z hz)).mpr ⟨z, hz, ov_refl z⟩
    have e3 := h2 y hy (ov_trans lx (kl z hz) (hl y hy) e e2)
    rw [e3] at e2
    exact ov_anti (kl z hz) lx e2 e
  obtain ⟨z, hz, e⟩ := (h x lx).mp ⟨x, h1, ov_refl x⟩
  have e2 := key z hz e
  subst e2
  exact (mem_lea kl).mpr ⟨hz, key⟩
/-- the least heaps hang on what is over them alone -/
theorem lea_eq {n : Nat} {hs ks : List Heap0} (hl : LenN n hs) (kl : LenN n ks) (h : ∀ a : Heap0, a.length = n → (Up hs a ↔ Up ks a)) : lea hs = lea ks :=
  lists_eq (lea_ord hs) (lea_ord ks) (lea_nodup hs) (lea_nodup ks) fun x => ⟨lea_mem_of hl kl h, lea_mem_of kl hl fun a ha => (h a ha).symm⟩
end TF
set_option Elab.async false
set_option linter.all false
set_option maxRecDepth 100000
set_option maxHeartbeats 4000000
/-! Q3: the search for a row, in plain words. -/
namespace TF
/-- from a, at most k firings lead over the goal -/
def U (fs : List SF) (goal : Heap0) : Nat → Heap0 → Prop
  | 0, a => ov a goal = true
  | k + 1, a => U fs goal k a ∨ ∃ f, f ∈ fs ∧ enab f.tk a = true ∧ U fs goal k (beh f a)
theorem U_mono {fs : List SF} {goal a : Heap0} : ∀ {j k : Nat}, j ≤ k → U fs goal j a → U fs goal k a
  | j, 0, h, u => by
    have e : j = 0 := by omega
    rw [e] at u
    exact u
  | j, k + 1, h, u => by
    by_cases e : j = k + 1
    · rw [e] at u
      exact u
    · exact .inl (U_mono (by omega) u)
inductive Told where
  | row (r : List SF)
  | never (l : List Heap0)
open Classical in
/-- what is told, n turns at the most -/
noncomputable def told (L : Lk) (most : Nat) : Nat → List (List Heap0) → List Heap0 → List Heap0 → Option Told
  | 0, _, _, _ => none
  | n + 1, ini, last, fresh => if comeTo L last = true then some (.row (rowOf L L.begin ini.reverse)) else if fresh = [] then some (.never last)
    else if most < last.length ∨ most < ini.length + 1 then none else told L most n (ini ++ [last]) (nextLv L last fresh) (freshOf (nextLv L last fresh) last)
noncomputable def toldBy (L : Lk) (most : Nat) (goal : Heap0) : Option Told := told L most (most + 1) [] [goal] [goal]
structure SInv (L : Lk) (goal : Heap0) (ini : List (List Heap0)) (last fresh : List Heap0) : Prop where
  ok : LkOk L
  g : IsH L.places.length goal
  ll : ∀ x, x ∈ last → IsH L.places.length x
  fl : ∀ x, x ∈ fresh → x ∈ last
  fz : fresh.length ≤ last.length
  il : ∀ lv, lv ∈ ini → ∀ x, x ∈ lv → IsH L.places.length x
  up : ∀ a, IsH L.places.length a → (Up last a ↔ U L.fs goal ini.length a)
  iu : ∀ j, j < ini.length → ∀ a, IsH L.places.length a → (Up (ini.getD j []) a ↔ U L.fs goal j a)
  old : ∀ x, x ∈ last → ¬ x ∈ fresh → ∀ f, f ∈ L.fs → Up last (bef f x)
  nc : ∀ j, j < ini.length → ¬ U L.fs goal j L.begin
  an : Anti last
  so : InOrd hLt last
  nd : last.Nodup
section
variable {L : Lk} {goal : Heap0} {ini : List (List Heap0)} {last fresh : List Heap0}
theorem begin_is (ok : LkOk L) : IsH L.places.length L.begin := ⟨ok.bl, ok.b0⟩
theorem more_is (ok : LkOk L) (h : ∀ x, x ∈ fresh → IsH L.places.length x) : ∀ x, x ∈ moreOf L fresh → IsH L.places.length x := fun x hx => by
  obtain ⟨g, hg, hx⟩ := List.mem_flatMap.mp hx
  obtain ⟨f, hf, rfl⟩ := List.mem_map.mp hx
  exact bef_is (ok.isF hf) (h g hg)
theorem SInv.next_up (s : SInv L goal ini last fresh) {a : Heap0} (ha : IsH L.places.length a) : Up (last ++ moreOf L fresh) a ↔ U L.fs goal (ini.length + 1) a := by
  rw [up_app]
  constructor
  · rintro (h | ⟨x, hx, e⟩)
    · exact .inl ((s.up a ha).mp h)
    · obtain ⟨g, hg, hx⟩ := List.mem_flatMap.mp hx
      obtain ⟨f, hf, rfl⟩ := List.mem_map.mp hx
      have kf := s.ok.isF hf
      obtain ⟨e1, e2⟩ := (ov_bef kf ha (s.ll g (s.fl g hg))).mp e
      exact .inr ⟨f, hf, e1, (s.up _ (beh_is kf ha e1)).mp ⟨g, s.fl g hg, e2⟩⟩
  · rintro (h | ⟨f, hf, e1, h⟩)
    · exact .inl ((s.up a ha).mpr h)
    · have kf := s.ok.isF hf
      obtain ⟨x, hx, e⟩ := (s.up _ (beh_is kf ha e1)).mpr h
      have e2 := (ov_bef kf ha (s.ll x hx)).mpr ⟨e1, e⟩
      by_cases hm : x ∈ fresh
      · exact .inr ⟨_, List.mem_flatMap.mpr ⟨x, hm, List.mem_map.mpr ⟨f, hf, rfl⟩⟩, e2⟩
      · obtain ⟨y, hy, e3⟩ := s.old x hx hm f hf
        exact .inl ⟨y, hy, ov_trans ha.l (bef_is kf (s.ll x hx)).l (s.ll y hy).l e2 e3⟩
theorem SInv.lens (s : SInv L goal ini last fresh) : LenN L.places.length (last ++ moreOf L fresh) := fun x hx => (List.mem_append.mp hx).elim (fun h => (s.ll x h).l) fun h => (more_is s.ok (fun y hy => s.ll y (s.fl y hy)) x h).l
theorem SInv.next (s : SInv L goal ini last fresh) (hc : comeTo L last = false) : SInv L goal (ini ++ [last]) (nextLv L last fresh) (freshOf (nextLv L last fresh) last) := by
  have nb : ¬ Up last L.begin := fun h => by
    have z : comeTo L last = true := up_any.mpr h
    rw [hc] at z
    cases z
  have hll : ∀ x, x ∈ nextLv L last fresh → IsH L.places.length x := fun x hx => (List.mem_append.mp (lea_sub x hx)).elim (s.ll x) (more_is s.ok (fun y hy => s.ll y (s.fl y hy)) x)
  have hup : ∀ a, IsH L.places.length a → (Up (nextLv L last fresh) a ↔ U L.fs goal (ini.length + 1) a) := fun a ha => (lea_up s.lens ha.l).trans (s.next_up ha)
  have hlen : (ini ++ [last]).length = ini.length + 1 := by rw [List.length_append, List.length_singleton]
  have hat : ∀ j, j < ini.length → (ini ++ [last]).getD j [] = ini.getD j [] := fun j hj => by
    rw [List.getD_eq_getElem?_getD, List.getD_eq_getElem?_getD, List.getElem?_append_left hj]
  have hlast : (ini ++ [last]).getD ini.length [] = last := by
    rw [List.getD_eq_getElem?_getD, List.getElem?_append_right (Nat.le_refl _)]
    simp
  refine ⟨s.ok, s.g, hll, fun x hx => (List.mem_filter.mp hx).1, List.length_filter_le _ _, fun lv hlv => ?_, fun a ha => by rw [hlen]; exact hup a ha, fun j hj a ha => ?_, fun x hx hn f hf => ?_, fun j hj => ?_, lea_anti s.lens, lea_ord _, lea_nodup _⟩
  · rcases List.mem_append.mp hlv with h | h
    · exact s.il lv h
    · rw [List.mem_singleton.mp h]
      exact s.ll
  · rw [hlen] at hj
    by_cases e : j = ini.length
    · subst e
      rw [hlast]
      exact s.up a ha
    · rw [hat j (by omega)]
      exact s.iu j (by omega) a ha
  · have hxl : x ∈ last := by
      by_cases m : x ∈ last
      · exact m
      · exact absurd (List.mem_filter.mpr ⟨hx, by simpa using m⟩) hn
    have hb := bef_is (s.ok.isF hf) (s.ll x hxl)
    refine (lea_up s.lens hb.l).mpr (up_app.mpr ?_)
    by_cases m : x ∈ fresh
    · exact .inr ⟨_, List.mem_flatMap.mpr ⟨x, m, List.mem_map.mpr ⟨f, hf, rfl⟩⟩, ov_refl _⟩
    · exact .inl (s.old x hxl m f hf)
  · rw [hlen] at hj
    by_cases e : j = ini.length
    · subst e
      exact fun u => nb ((s.up _ (begin_is s.ok)).mpr u)
    · exact s.nc j (by omega)
theorem SInv.start (ok : LkOk L) (g : IsH L.places.length goal) : SInv L goal [] [goal] [goal] where
  ok := ok
  g := g
  ll := fun x hx => by rw [List.mem_singleton.mp hx]; exact g
  fl := fun x hx => hx
  fz := Nat.le_refl _
  il := fun lv h => by simp at h
  up := fun a ha => by
    constructor
    · rintro ⟨x, hx, e⟩
      rw [List.mem_singleton.mp hx] at e
      exact e
    · exact fun e => ⟨goal, List.mem_singleton.mpr rfl, e⟩
  iu := fun j h => by simp at h
  old := fun x hx hn => absurd hx hn
  nc := fun j h => by simp at h
  an := fun x y hx hy _ => by rw [List.mem_singleton.mp hx, List.mem_singleton.mp hy]
  so := List.pairwise_singleton _ _
  nd := List.pairwise_singleton _ _
/-- where nothing is new, nothing more comes -/
theorem SInv.shut (s : SInv L goal ini last fresh) (h : fresh = []) : ∀ k a, IsH L.places.length a → U L.fs goal k a → U L.fs goal ini.length a := by
  have key : ∀ a, IsH L.places.length a → U L.fs goal (ini.length + 1) a → U L.fs goal ini.length a := fun a ha u => by
    have z := (s.next_up ha).mpr u
    subst h
    have e : last ++ moreOf L [] = last := List.append_nil _
    rw [e] at z
    exact (s.up a ha).mp z
  intro k
  induction k with
  | zero => exact fun a ha u => U_mono (Nat.zero_le _) u
  | succ k ih =>
    rintro a ha (u | ⟨f, hf, e, u⟩)
    · exact ih a ha u
    · exact key a ha (.inr ⟨f, hf, e, ih _ (beh_is (s.ok.isF hf) ha e) u⟩)
theorem SInv.bas (s : SInv L goal ini last fresh) (h : fresh = []) : ∀ x, x ∈ last → ∀ f, f ∈ L.fs → Up last (bef f x) := fun x hx f hf => s.old x hx (by rw [h]; simp) f hf
theorem SInv.pick (s : SInv L goal ini last fresh) : ∀ (j : Nat) (a : Heap0), j ≤ ini.length → IsH L.places.length a → U L.fs goal j a → (∀ i, i < j → ¬ U L.fs goal i a) → RowOk L a (ini.take j).reverse ∧
    (∀ i, i < j → enab ((rowOf L a (ini.take j).reverse).getD i default).tk (runTo a ((rowOf L a (ini.take j).reverse).take i)) = true) ∧ ov (runTo a (rowOf L a (ini.take j).reverse)) goal = true ∧ ∀ f, f ∈ rowOf L a (ini.take j).reverse → f ∈ L.fs
  | 0, a, _, ha, u, _ => ⟨trivial, fun i h => by omega, u, fun f h => by simp [rowOf] at h⟩
  | j + 1, a, hj, ha, u, hn => by
    have hlt : j < ini.length := by omega
    have et : (ini.take (j + 1)).reverse = ini.getD j [] :: (ini.take j).reverse := by
      rw [List.take_add_one, List.getElem?_eq_getElem hlt, List.getD_eq_getElem?_getD, List.getElem?_eq_getElem hlt]
      simp
    rw [et]
    have hpk : ∀ f, f ∈ TF.pick L a (ini.getD j []) → f ∈ L.fs ∧ enab f.tk a = true ∧ U L.fs goal j (beh f a) := fun f hf => by
      obtain ⟨h1, h2⟩ := pick_mem hf
      refine ⟨h1, h2, (s.iu j hlt _ (beh_is (s.ok.isF h1) ha h2)).mp (up_any.mp (List.mem_filter.mp hf).2)⟩
    have hne : TF.pick L a (ini.getD j []) ≠ [] := by
      rcases u with u | ⟨f, hf, e, u⟩
      · exact absurd u (hn j (by omega))
      · have m : f ∈ TF.pick L a (ini.getD j []) := List.mem_filter.mpr ⟨List.mem_filter.mpr ⟨hf, e⟩, up_any.mpr ((s.iu j hlt _ (beh_is (s.ok.isF hf) ha e)).mpr u)⟩
        intro z
        rw [z] at m
        simp at m
    cases hp : TF.pick L a (ini.getD j []) with
    | nil => exact absurd hp hne
    | cons f rest =>
      obtain ⟨h1, h2, h3⟩ := hpk f (by rw [hp]; exact List.mem_cons_self)
      have hb := beh_is (s.ok.isF h1) ha h2
      have hn' : ∀ i, i < j → ¬ U L.fs goal i (beh f a) := fun i hi u => hn (i + 1) (by omega) (.inr ⟨f, h1, h2, u⟩)
      obtain ⟨r1, r2, r3, r4⟩ := SInv.pick s j (beh f a) (by omega) hb h3 hn'
      have er : rowOf L a (ini.getD j [] :: (ini.take j).reverse) = f :: rowOf L (beh f a) (ini.take j).reverse := by
        show (TF.pick L a (ini.getD j [])).headD default :: rowOf L (beh ((TF.pick L a (ini.getD j [])).headD default) a) _ = _
        rw [hp]
        rfl
      rw [er]
      refine ⟨⟨hne, by rw [hp]; exact r1⟩, fun i hi => ?_, r3, fun g hg => ?_⟩
      · cases i with
        | zero => exact h2
        | succ i => exact r2 i (by omega)
      · rcases List.mem_cons.mp hg with e | hg
        · rw [e]
          exact h1
        · exact r4 g hg
end
end TF
set_option Elab.async false
set_option linter.all false
set_option maxRecDepth 100000
set_option maxHeartbeats 4000000
/-! W13: covered_by, covered. -/
namespace TF
open PySem PySem.Spec L2 WD
open PyProof.Rows (envOfC)
section
variable {X : Cx} {an : An} {ρ : TF.Env} {W Wz : Wd} {R : SP} {N : TF.Env → Wd → Prop} {rest body : List Stmt} {c : Expr} {pos : Pos}
/-- a loop, told by an index that says what the test is -/
theorem rs_whileI {ι : Type} {I : ι → TF.Env → Wd → Prop} {bt : ι → Bool} {ms : ι → Nat} (hc : ∀ i ρ' W1, I i ρ' W1 → RT X an c ρ' W1 W1 (bt i)) (hs : ∀ i ρ' W1, I i ρ' W1 → bt i = true → RSs X an body ρ' W1 (fun ρ2 W2 => ∃ i', ms i' < ms i ∧ I i' ρ2 W2) R Wz) (i : ι) (h0 : I i ρ W) (h : ∀ i' ρ' W1, I i' ρ' W1 → bt i' = false → RSs X an rest ρ' W1 N R Wz)
    (hp : PassesOwn (model X.prog X.w) X.A X.env X.xe := by exact PassesOwn.never) : RSs X an (.While c body [] pos :: rest) ρ W N R Wz :=
  rs_cons (N1 := fun ρ1 W1 => ∃ i', I i' ρ1 W1 ∧ bt i' = false) (PSimp (ps_while hp (PTex (ι := ι × TF.Env × Wd) fun q => PTifp (hc q.1 q.2.1 q.2.2)) (PSsex (ι := ι × TF.Env × Wd) fun q => PSsifp (p := I q.1 q.2.1 q.2.2 ∧ bt q.1 = true) fun h => hs q.1 q.2.1 q.2.2 h.1 h.2))
    fun D σ H ⟨O, m, nx, rt⟩ => by
      refine ⟨fun k' σ' H' => ∃ i' ρ' W' O', ms i' = k' ∧ I i' ρ' W' ∧ MX an O' ρ' W' σ' H' ∧ Same (mn H O) (mn H' O'), ⟨ms i, i, ρ, W, O, rfl, h0, m, Same.refl _⟩, ?_⟩
      rintro k' σ' H' ⟨i', ρ', W', O', rfl, hI, m', s'⟩
      refine ⟨(i', ρ', W'), hI, O', m', fun H1 m1 s1 => ?_⟩
      cases hb : bt i' with
      | true =>
        refine iteT ⟨fun σ2 H2 => ∃ k2, k2 < ms i' ∧ ∃ i2 ρ' W' O', ms i2 = k2 ∧ I i2 ρ' W' ∧ MX an O' ρ' W' σ2 H2 ∧ Same (mn H O) (mn H2 O'), fun σ2 H2 ⟨k2, hk, z⟩ => ⟨k2, hk, z⟩, (i', ρ', W'), ⟨hI, hb⟩, O', m1, fun ρ2 W2 σ2 H2 O2 ⟨i2, hk2, hI2⟩ m2 s2 => ⟨ms i2, hk2, i2, ρ2, W2, O2, rfl, hI2, m2, (s'.trans s1).trans s2⟩, rt⟩
      | false => exact iteF (nx ρ' W' σ' H1 O' ⟨i', hI, hb⟩ m1 (s'.trans s1))) fun ρ1 W1 ⟨i', hI, hb⟩ => h i' ρ1 W1 hI hb
theorem rs_exprE {W' : Wd} {P : SP} {e : Expr} (he : RV X an e ρ W W' P) (h : (∃ H v, P.p H v) → RSs X an rest ρ W' N R Wz) (hs : swapsWith e none pos.line X.env = pure false := by rfl) : RSs X an (.Expr e pos :: rest) ρ W N R Wz :=
  rs_cons (N1 := fun ρ1 W1 => ρ1 = ρ ∧ W1 = W' ∧ ∃ H v, P.p H v) (PSimp (ps_expr he hs) fun D σ H ⟨O, m, nx, rt⟩ => ⟨O, m, fun v H1 m1 s1 p1 => nx _ _ _ _ O ⟨rfl, rfl, _, _, p1⟩ m1 s1⟩) fun ρ1 W1 ⟨e1, e2, e3⟩ => e1 ▸ e2 ▸ h e3
end
def namesD (r : List SF) : PyData := .list (r.map fun f => .str f.name)
def tolD : Told → PyData
  | .row r => .tuple [.str "row", namesD r]
  | .never l => .tuple [.str "never", hsD l]
def toldP (K : PySem.W.Frag) (t : Option Told) : SP := ⟨fun H v => ∃ u, t = some u ∧ (dat K (tolD u)).p H v, fun s ⟨u, h, p⟩ => ⟨u, h, SP.st _ s p⟩⟩
structure CQ where
  L : Lk
  h : Heap0
  most : Nat
structure CQok (q : CQ) : Prop where
  ok : LkOk q.L
  g : IsH q.L.places.length q.h
  mz : q.most ≤ 1000
/-- where the loop stands -/
structure CS where
  ini : List (List Heap0)
  last : List Heap0
  fresh : List Heap0
theorem told_succ {L : Lk} {most n : Nat} {ini : List (List Heap0)} {last fresh : List Heap0} : told L most (n + 1) ini last fresh = if comeTo L last = true then some (.row (rowOf L L.begin ini.reverse)) else if fresh = [] then some (.never last)
    else if most < last.length ∨ most < ini.length + 1 then none else told L most n (ini ++ [last]) (nextLv L last fresh) (freshOf (nextLv L last fresh) last) := by
  show (if comeTo L last = true then _ else _) = _
  congr
section
variable {P : Program} {w : World} {K : PySem.W.Frag} {mg : Str → Option Value} {base : Heap} (T : TF.Txt K mg)
include T
theorem w_covered_by : O_covered_by P w K mg base (L2.CX P w) 6 (mkSpX (TGa K) (ι := CQ) (fun q => [lookP K q.L, dat K (intsT q.h), dat K (.int (q.most : Int))]) (fun _ => []) (fun _ => []) CQok (fun q => toldBy q.L q.most q.h = none) (fun q => toldP K (toldBy q.L q.most q.h))) := by
  refine okX T.f_covered_by (N := N_covered_by) (by constructor <;> first | rfl | decide | decide +kernel) (fun _ => rfl) fun cdv A1 outer s H E hr q hq an hO z => ?_
  obtain ⟨L, h, most⟩ := q
  obtain ⟨ok, hg, mz⟩ := hq
  have hg : IsH L.places.length h := hg
  have mz : most ≤ 1000 := mz
  refine rs_newN 3 (Wn := fun y b => lvW K ⟨y, b, L, most, [], [h], [h]⟩) (rn_makeN T.m_Levels (w_Levels_init T) (fun y O H vs Q E l wo sat k => ⟨(y, L, h, most), O, l, wo, sat, trivial, k⟩) (fun y b => rfl) (hr.mono (by omega)) T.g_Levels (b_Levels_init T) pass0 (ra_cons (rv_var 0) (ra_cons (rv_var 1) (ra_cons (rv_var 2) ra_nil)))) (fun y b => rfl) fun y b hy hb ne => ?_
  have hu : (A1.deeper (envOfC "covered_by" (defScope s_covered_by) s.heap.objs.size (He.ga K "covered_by") cdv)).units + 64 < cLine := hr.units
  have lsok : ∀ i : CS, SInv L h i.ini i.last i.fresh → i.ini.length ≤ most → LSok ⟨y, b, L, most, i.ini, i.last, i.fresh⟩ := fun i si hl => ⟨ne, ok, fun x hx => (si.ll x hx).l, fun x hx => (si.ll x (si.fl x hx)).l, si.fz, mz, hl⟩
  refine rs_whileI (ι := CS) (ms := fun i => most + 1 - i.ini.length) (bt := fun i => !comeTo L i.last) (I := fun i ρ W => ρ = [some (lookP K L), some (dat K (intsT h)), some (dat K (.int (most : Int))), some (refP y)] ∧ W = lvW K ⟨y, b, L, most, i.ini, i.last, i.fresh⟩ ∧ SInv L h i.ini i.last i.fresh ∧ i.ini.length ≤ most ∧ toldBy L most h = told L most (most + 1 - i.ini.length) i.ini i.last i.fresh)
    ?_ ?_ ⟨[], [h], [h]⟩ ⟨rfl, rfl, SInv.start ok hg, Nat.zero_le _, rfl⟩ ?_ (passes_of rfl)
  · rintro i _ _ ⟨rfl, rfl, si, hl, ht⟩
    exact rt_not (rt_val (rv_methX0 (xo := False) 0 (Wi := lvW K ⟨y, b, L, most, i.ini, i.last, i.fresh⟩) (Wo := lvW K ⟨y, b, L, most, i.ini, i.last, i.fresh⟩) (Wr := []) (rv_var 3) rfl rfl T.c_Levels T.h_Levels_is_come_to (w_Levels_is_come_to T) (mkSp_okX (⟨y, b, L, most, i.ini, i.last, i.fresh⟩ : LS) (lsok i si hl)) rfl pass0 (fun h => h.elim) (hr.mono (by omega)) (b_Levels_is_come_to T)))
  · rintro i _ _ ⟨rfl, rfl, si, hl, ht⟩ hb
    have hb : comeTo L i.last = false := by simpa using hb
    have hfuel : most + 1 - i.ini.length = (most - i.ini.length) + 1 := by omega
    rw [hfuel, told_succ, if_neg (by rw [hb]; decide)] at ht
    obtain ⟨ini, last, fresh⟩ := i
    have hl : ini.length ≤ most := hl
    refine rs_when (v := decide (fresh = [])) (rt_to (rt_eqD hu (hs_sh fresh) (hs_sh []) (rv_fldO (P := dat K (hsD fresh)) 0 (rv_var 3) rfl T.c_Levels T.a_Levels_fresh rfl) (rv_lstD (ds := []) ra_nil)) ?_) (fun hv => ?_) fun hv => ?_
    · cases fresh with
      | nil => rfl
      | cons x r => rfl
    · have hv : fresh = [] := of_decide_eq_true hv
      rw [if_pos hv] at ht
      refine rs_end (rv_sub (rv_tupD (ds := [.str "never", hsD last]) (ra_cons rv_str (ra_cons (rv_sub (rv_ixLastO (K := K) (P := lvl K last) 1 (rv_fldO (P := refP b) 0 (rv_var 3) rfl T.c_Levels T.a_Levels_levels rfl) (rv_neg rv_int) rfl) fun H v z => lvl_hs z) ra_nil))) fun H v z => ⟨.never last, ht, z⟩)
    · have hv : ¬ fresh = [] := by simpa using hv
      rw [if_neg hv] at ht
      refine rs_exprE (rv_methX0 (xo := toldBy L most h = none) 0 (Wi := lvW K ⟨y, b, L, most, ini, last, fresh⟩) (Wo := lvW K (goOn ⟨y, b, L, most, ini, last, fresh⟩)) (Wr := []) (rv_var 3) rfl rfl T.c_Levels T.h_Levels_go_on (w_Levels_go_on T) (mkSpX_ok (⟨y, b, L, most, ini, last, fresh⟩ : LS) (lsok ⟨ini, last, fresh⟩ si hl)) rfl (px_of z) (fun hg => ht.trans (if_pos hg)) hr (b_Levels_go_on T)) fun ⟨_, _, hg, _⟩ => ?_
      have hg : ¬ (most < last.length ∨ most < ini.length + 1) := hg
      rw [if_neg hg] at ht
      refine rs_nil ⟨⟨ini ++ [last], nextLv L last fresh, freshOf (nextLv L last fresh) last⟩, ?_, rfl, rfl, si.next hb, ?_, ?_⟩
      · show most + 1 - (ini ++ [last]).length < most + 1 - ini.length
        rw [List.length_append, List.length_singleton]
        omega
      · show (ini ++ [last]).length ≤ most
        rw [List.length_append, List.length_singleton]
        omega
      · rw [ht]
        show told L most (most - ini.length) _ _ _ = told L most (most + 1 - (ini ++ [last]).length) _ _ _
        rw [List.length_append, List.length_singleton]
        congr 1
        omega
  · rintro i _ _ ⟨rfl, rfl, si, hl, ht⟩ hb
    have hb : comeTo L i.last = true := by simpa using hb
    have hfuel : most + 1 - i.ini.length = (most - i.ini.length) + 1 := by omega
    rw [hfuel, told_succ, if_pos hb] at ht
    obtain ⟨ini, last, fresh⟩ := i
    have hl : ini.length ≤ most := hl
    have hu2 : U L.fs h ini.length L.begin := (si.up _ (begin_is ok)).mp (up_any.mp hb)
    have hp := (si.pick ini.length L.begin (Nat.le_refl _) (begin_is ok) hu2 si.nc).1
    rw [List.take_length] at hp
    refine rs_end (rv_sub (rv_tupD (ds := [.str "row", namesD (rowOf L L.begin ini.reverse)]) (ra_cons rv_str (ra_cons (rv_methX0 (xo := False) 0 (Wi := lvW K ⟨y, b, L, most, ini, last, fresh⟩) (Wo := lvW K ⟨y, b, L, most, ini, last, fresh⟩) (Wr := []) (rv_var 3) rfl rfl T.c_Levels T.h_Levels_first_row (w_Levels_first_row T) (mkSp_okX (⟨y, b, L, most, ini, last, fresh⟩ : LS) ⟨lsok ⟨ini, last, fresh⟩ si hl, fun lv hlv x hx => (si.il lv hlv x hx).l, hp⟩) rfl pass0 (fun h => h.elim) (hr.mono (by omega)) (b_Levels_first_row T)) ra_nil))) fun H v z => ⟨.row _, ht, z⟩)
structure NQ where
  n : Net
  h : Heap0
  most : Nat
structure NQok (q : NQ) : Prop where
  ok : OkNet q.n
  g : IsH q.n.places.length q.h
  mz : q.most ≤ 1000
theorem w_covered : O_covered P w K mg base (L2.CX P w) 8 (mkSpX (TGa K) (ι := NQ) (fun q => [dat K (netD q.n), dat K (intsT q.h), dat K (.int (q.most : Int))]) (fun _ => []) (fun _ => []) NQok (fun q => toldBy (lkOf q.n) q.most q.h = none) (fun q => toldP K (toldBy (lkOf q.n) q.most q.h))) := by
  refine okX T.f_covered (N := N_covered) (by constructor <;> first | rfl | decide | decide +kernel) (fun _ => rfl) fun cdv A1 outer s H E hr q hq an hO z => ?_
  obtain ⟨n, h, most⟩ := q
  obtain ⟨ok, hg, mz⟩ := hq
  have hg : IsH n.places.length h := hg
  have mz : most ≤ 1000 := mz
  have hpl : (lkOf n).places.length = n.places.length := List.length_map ..
  have hz : h.length ≤ 1000 := by
    have h1 : n.places.length ≤ 40 := ok.p2
    have h2 : h.length = n.places.length := hg.l
    omega
  refine rs_set 3 (rv_look_at T (w_look_at T) (pureSp_ok n ok) (hr.mono (by omega)) (ra_cons (rv_var 0) ra_nil)) ?_
  refine rs_expr (rv_must_heap T (w_must_heap T) (pureSp_ok (ι := Net × Heap0) (n, h) ⟨hg.l, hz, hg.p⟩) (hr.mono (by omega)) (ra_cons (rv_var 0) (ra_cons (rv_var 1) ra_nil))) ?_
  exact rs_end (rv_callX (xo := toldBy (lkOf n) most h = none) (Wi := []) (Wo := []) (Wr := []) (w_covered_by T) (mkSpX_ok (⟨lkOf n, h, most⟩ : CQ) ⟨lk_ok ok, by rw [hpl]; exact hg, mz⟩) rfl (px_of z) (fun h => h) (hr.mono (by omega)) T.g_covered_by T.f_covered_by.kp (b_covered_by T) (ra_cons (rv_var 3) (ra_cons (rv_var 1) (ra_cons (rv_var 2) ra_nil))))
end
end TF
set_option Elab.async false
set_option linter.all false
set_option maxRecDepth 100000
set_option maxHeartbeats 4000000
/-! W14: basis_wrong, covered_wrong. -/
namespace TF
open PySem PySem.Spec L2 WD
open PyProof.Rows (envOfC)
structure BQ where
  L : Lk
  h : Heap0
  l : List Heap0
structure BQok (q : BQ) : Prop where
  ok : LkOk q.L
  g : IsH q.L.places.length q.h
  ll : ∀ x, x ∈ q.l → IsH q.L.places.length x
  z : q.l.length ≤ 1000000
  up : Up q.l q.h
  cl : ∀ x, x ∈ q.l → ∀ f, f ∈ q.L.fs → Up q.l (bef f x)
  nb : ∀ x, x ∈ q.l → ov q.L.begin x = false
section
variable {X : Cx} {an : An} {ρ : TF.Env} {W W1 W2 : Wd} {a b : Expr} {pos p : Pos}
/-- over_some(a, b) of heaps -/
theorem rv_overS {P : Program} {w : World} {n : Nat} {h : Heap0} {l : List Heap0} (T : TF.Txt X.K X.mg) (hn : n ≤ 40) (hh : h.length = n) (hl : ∀ x, x ∈ l → x.length = n) (hr : Room 3 X.A) (ha : RA X an [a, b] ρ W W1 [dat X.K (intsT h), dat X.K (hsD l)]) (hg : Gl X "over_some" := by rfl) (he : starEach [a, b] X.env = (false, eval a X.env) :: starEach [b] X.env := by rfl) (hpl : (backTo pos (starEach [b] X.env)).any (·.1) = false := by rfl) :
    RV X an (.Call (.Name "over_some" p) [a, b] [] pos) ρ W W1 (dat X.K (.bool (l.any fun x => ov h x))) := by
  have e1 : (l.map up).any (fun x => isOver (up h) x) = l.any fun x => ov h x := by
    rw [List.any_map]
    rfl
  rw [← e1]
  refine rv_over_some T (w_over_some T) (pureSp_ok (ι := Wide × List Wide) (up h, l.map up) ⟨?_, fun x hx => ?_⟩) hr ?_ hg he hpl
  · show (up h).length ≤ 40
    rw [List.length_map, hh]
    exact hn
  · obtain ⟨g, hg, rfl⟩ := List.mem_map.mp hx
    show (up g).length = (up h).length
    rw [List.length_map, List.length_map, hl g hg, hh]
  · show RA X an [a, b] ρ W W1 [dat X.K (wD (up h)), dat X.K (wsD (l.map up))]
    rw [up_ints, ← hsD_wsD]
    exact ha
/-- is_over(a, b) of heaps -/
theorem rv_overH {n : Nat} {h g : Heap0} (T : TF.Txt X.K X.mg) (hn : n ≤ 40) (hh : h.length = n) (hl : g.length = n) (hr : Room 2 X.A) (ha : RA X an [a, b] ρ W W1 [dat X.K (intsT h), dat X.K (intsT g)]) (hg : Gl X "is_over" := by rfl) (he : starEach [a, b] X.env = (false, eval a X.env) :: starEach [b] X.env := by rfl) (hpl : (backTo pos (starEach [b] X.env)).any (·.1) = false := by rfl) :
    RV X an (.Call (.Name "is_over" p) [a, b] [] pos) ρ W W1 (dat X.K (.bool (ov h g))) := by
  refine rv_is_over T (w_is_over T) (pureSp_ok (⟨up h, up g⟩ : TwoW) ⟨?_, ?_⟩) hr ?_ hg he hpl
  · show (up h).length = (up g).length
    rw [List.length_map, List.length_map, hl, hh]
  · show (up h).length ≤ 40
    rw [List.length_map, hh]
    exact hn
  · show RA X an [a, b] ρ W W1 [dat X.K (wD (up h)), dat X.K (wD (up g))]
    rw [up_ints, up_ints]
    exact ha
end
section
variable {P : Program} {w : World} {K : PySem.W.Frag} {mg : Str → Option Value} {base : Heap} (T : TF.Txt K mg)
include T
theorem w_basis_wrong : O_basis_wrong P w K mg base CX0 4 (pureSp (ι := BQ) (fun q => [lookP K q.L, dat K (intsT q.h), dat K (hsD q.l)]) BQok (fun _ => dat K .none)) := by
  refine okPure T.f_basis_wrong (N := N_basis_wrong) (by constructor <;> first | rfl | decide | decide +kernel) (fun _ => rfl) fun cdv A1 outer s H E hr q hq an => ?_
  obtain ⟨L, h, l⟩ := q
  obtain ⟨ok, g, ll, z, hup, cl, nb⟩ := hq
  have ll : ∀ x, x ∈ l → IsH L.places.length x := ll
  have hl : ∀ x, x ∈ l → x.length = L.places.length := fun x hx => (ll x hx).l
  refine rs_when (v := false) (rt_to (rt_not (rt_val (rv_overS (P := P) (w := w) T ok.z2 g.l hl hr (ra_cons (rv_var 1) (ra_cons (rv_var 2) ra_nil))))) (by rw [up_any.mpr hup]; rfl)) (fun h => by cases h) fun _ => ?_
  refine rs_cons (rs_for (ri_enumLM intsT l [] T.n_enumerate (rv_var 2) z) (pg_two 3 4) (fun i hi => gk_two)
    (fun j ρ W => (∃ (x3 x4 x5 x6 : Option SP), ρ = [some (lookP K L), some (dat K (intsT h)), some (dat K (hsD l)), x3, x4, x5, x6]) ∧ W = []) ⟨⟨none, none, none, none, rfl⟩, rfl⟩ ?_) fun ρ1 W1 ⟨⟨x3, x4, x5, x6, e1⟩, e2⟩ => ?_
  · rintro j _ _ hj ⟨⟨x3, x4, x5, x6, rfl⟩, rfl⟩
    have hx := getD_mem (d := []) hj
    generalize l.getD j [] = x at hx
    refine rs_one (rs_impS (rs_for (ri_enumLM (fun f : SF => PyData.str f.name) L.fs default T.n_enumerate (rv_to (look_names T (rv_var 0)) (strsD_fs L)) (Nat.le_trans ok.z3 (by decide))) (pg_two 5 6) (fun i hi => gk_two)
      (fun k ρ W => (∃ (x3 x5 x6 : Option SP), ρ = [some (lookP K L), some (dat K (intsT h)), some (dat K (hsD l)), x3, some (dat K (intsT x)), x5, x6]) ∧ W = []) ⟨⟨_, _, _, rfl⟩, rfl⟩ ?_) fun ρ' W' ⟨⟨x3, x5, x6, e1⟩, e2⟩ => ⟨⟨_, _, _, _, e1⟩, e2⟩)
    rintro k _ _ hk ⟨⟨x3, x5, x6, rfl⟩, rfl⟩
    have hf := getD_mem (d := default) hk
    refine rs_one (rs_ifS (v := false) (rt_to (rt_not (rt_val (rv_overS (P := P) (w := w) (h := bef (L.fs.getD k default) x) T ok.z2 (by rw [len_bef]; exact hl x hx) hl hr (ra_cons (rv_before T (w_before T) (pureSp_ok (⟨L, x, L.fs.getD k default⟩ : LH) ⟨ok, hl x hx, hf⟩) (hr.mono (by omega)) (ra_cons (rv_var 0) (ra_cons (rv_var 4) (ra_cons (rv_var 6) ra_nil)))) (ra_cons (rv_var 2) ra_nil))))) (by rw [up_any.mpr (cl x hx _ hf)]; rfl)) (fun h => by cases h) fun _ => rs_nil ⟨⟨_, _, _, rfl⟩, rfl⟩)
  · subst e1 e2
    refine rs_cons (rs_for (ri_enumLM intsT l [] T.n_enumerate (rv_var 2) z) (pg_two 3 4) (fun i hi => gk_two)
      (fun j ρ W => (∃ (x3 x4 x5 x6 : Option SP), ρ = [some (lookP K L), some (dat K (intsT h)), some (dat K (hsD l)), x3, x4, x5, x6]) ∧ W = []) ⟨⟨_, _, _, _, rfl⟩, rfl⟩ ?_) fun ρ1 W1 ⟨⟨x3, x4, x5, x6, e1⟩, e2⟩ => ?_
    · rintro j _ _ hj ⟨⟨x3, x4, x5, x6, rfl⟩, rfl⟩
      have hx := getD_mem (d := []) hj
      refine rs_one (rs_ifS (v := false) (rt_to (rt_val (rv_overH T ok.z2 ok.bl (hl _ hx) (hr.mono (by omega)) (ra_cons (look_begin (L := L) T (rv_var 0)) (ra_cons (rv_var 4) ra_nil)))) (nb _ hx)) (fun h => by cases h) fun _ => rs_nil ⟨⟨_, _, _, _, rfl⟩, rfl⟩)
    · subst e1 e2
      exact rs_end rv_non
structure WQ where
  n : Net
  h : Heap0
  t : Told
def WQt (L : Lk) (h : Heap0) : Told → Prop
  | .row r => (∀ f, f ∈ r → f ∈ L.fs) ∧ (∀ j, j < r.length → enab (r.getD j default).tk (runTo L.begin (r.take j)) = true) ∧ r.length ≤ 1000 ∧ ov (runTo L.begin r) h = true
  | .never l => BQok ⟨L, h, l⟩
structure WQok (q : WQ) : Prop where
  ok : OkNet q.n
  g : IsH q.n.places.length q.h
  t : WQt (lkOf q.n) q.h q.t
theorem w_covered_wrong : O_covered_wrong P w K mg base CX0 8 (pureSp (ι := WQ) (fun q => [dat K (netD q.n), dat K (intsT q.h), dat K (tolD q.t)]) WQok (fun _ => dat K .none)) := by
  refine okPure T.f_covered_wrong (N := N_covered_wrong) (by constructor <;> first | rfl | decide | decide +kernel) (fun _ => rfl) fun cdv A1 outer s H E hr q hq an => ?_
  obtain ⟨n, h, t⟩ := q
  obtain ⟨ok, hg, ht⟩ := hq
  have hg : IsH n.places.length h := hg
  have hpl : (lkOf n).places.length = n.places.length := List.length_map ..
  have h1 : n.places.length ≤ 40 := ok.p2
  have h2 : h.length = n.places.length := hg.l
  have hz : h.length ≤ 1000 := by omega
  have lk := lk_ok ok
  refine rs_set 3 (rv_look_at T (w_look_at T) (pureSp_ok n ok) (hr.mono (by omega)) (ra_cons (rv_var 0) ra_nil)) ?_
  refine rs_expr (rv_must_heap T (w_must_heap T) (pureSp_ok (ι := Net × Heap0) (n, h) ⟨hg.l, hz, hg.p⟩) (hr.mono (by omega)) (ra_cons (rv_var 0) (ra_cons (rv_var 1) ra_nil))) ?_
  cases t with
  | row r =>
    obtain ⟨t1, t2, t3, t4⟩ := ht
    refine rs_when (v := false) (rt_w (rw_or (v := false) (w := false) (rt_to (rt_not (rt_val (rv_isi (K := K) (n := "tuple") (c := true) rfl T.n_isinstance T.n_tuple (rv_var 2)))) rfl) fun _ => rw_or (v := false) (w := false) (rt_to (rt_neI (K := K) (rv_lenTD (ds := [.str "row", namesD r]) T.n_len (rv_var 2)) rv_int) (by rfl)) fun _ => rw_or1 (rt_to (rt_not (rt_val (rv_isi (K := K) (n := "str") (c := true) rfl T.n_isinstance T.n_str (rv_ixTD (ds := [.str "row", namesD r]) (K := K) (k := 0) rfl (rv_var 2) rv_int)))) rfl))) (fun h => by cases h) fun _ => ?_
    refine rs_cons (rs_ifS (v := true) (N := fun _ _ => False) (rt_w (rw_and (v := true) (rt_to (rt_eqS (K := K) (rv_ixTD (ds := [.str "row", namesD r]) (K := K) (k := 0) rfl (rv_var 2) rv_int) rv_str) (by rfl)) fun _ => rw_and1 (rt_val (rv_is_row T (w_is_row T) (pureSp_ok (ι := Lk × List SF) (lkOf n, r) t1) (hr.mono (by omega)) (ra_cons (rv_var 3) (ra_cons (rv_ixTD (ds := [.str "row", namesD r]) (K := K) (k := 1) rfl (rv_var 2) rv_int) ra_nil)))))) (fun _ => ?_) fun h => by cases h) fun _ _ h => h.elim
    refine rs_asg (rv_row_end T (w_row_end T) (pureSp_ok (⟨lkOf n, r⟩ : LR) ⟨lk, t1, t2, t3⟩) (hr.mono (by omega)) (ra_cons (rv_var 3) (ra_cons (rv_ixTD (ds := [.str "row", namesD r]) (K := K) (k := 1) rfl (rv_var 2) rv_int) ra_nil))) (pg_two 4 5) (gk_twoD (d1 := intsT (runTo (lkOf n).begin r)) (d2 := .none)) ?_
    refine rs_when (v := false) (rt_to (rt_notN K (nonP_dat (d := .none)) (rv_var 5)) rfl) (fun h => by cases h) fun _ => ?_
    refine rs_end (rv_if (v := true) (rt_to (rt_val (rv_overH (h := runTo (lkOf n).begin r) (g := h) T h1 (by rw [len_run, lk.bl, hpl]) h2 (hr.mono (by omega)) (ra_cons (rv_var 4) (ra_cons (rv_var 1) ra_nil)))) t4) (fun _ => rv_non) fun h => by cases h)
  | never l =>
    have bq : BQok ⟨lkOf n, h, l⟩ := ht
    refine rs_when (v := false) (rt_w (rw_or (v := false) (w := false) (rt_to (rt_not (rt_val (rv_isi (K := K) (n := "tuple") (c := true) rfl T.n_isinstance T.n_tuple (rv_var 2)))) rfl) fun _ => rw_or (v := false) (w := false) (rt_to (rt_neI (K := K) (rv_lenTD (ds := [.str "never", hsD l]) T.n_len (rv_var 2)) rv_int) (by rfl)) fun _ => rw_or1 (rt_to (rt_not (rt_val (rv_isi (K := K) (n := "str") (c := true) rfl T.n_isinstance T.n_str (rv_ixTD (ds := [.str "never", hsD l]) (K := K) (k := 0) rfl (rv_var 2) rv_int)))) rfl))) (fun h => by cases h) fun _ => ?_
    refine rs_when (v := false) (rt_w (rw_and (v := false) (w := false) (rt_to (rt_eqS (K := K) (rv_ixTD (ds := [.str "never", hsD l]) (K := K) (k := 0) rfl (rv_var 2) rv_int) rv_str) (by rfl)) fun h => by cases h)) (fun h => by cases h) fun _ => ?_
    refine rs_set 6 (rv_and (K := K) (v := true) (w := true) (rv_to (rv_eqS (rv_ixTD (ds := [.str "never", hsD l]) (K := K) (k := 0) rfl (rv_var 2) rv_int) rv_str) (by rfl)) fun _ => rv_one (rv_isi (K := K) (n := "list") (c := true) rfl T.n_isinstance T.n_list (rv_ixTD (ds := [.str "never", hsD l]) (K := K) (k := 1) rfl (rv_var 2) rv_int))) ?_
    refine rs_when (v := false) (rt_w (rw_or (v := false) (w := false) (rt_to (rt_not (rt_val (K := K) (rv_var 6))) rfl) fun _ => rw_or1 (rt_to (rt_not (rt_val (rv_all (bs := l.map fun _ => true) T.n_all (rv_sub (rv_lc (n := l.length) (bt := fun _ => true) (E := fun i => (fun _ => dat K (.bool true)) (l.getD i [])) (own := [("one", 7)]) (ri_listM intsT l [] (rv_ixTD (ds := [.str "never", hsD l]) (K := K) (k := 1) rfl (rv_var 2) rv_int)) (fun s H C cl fp => pg_one 7) (fun i hi => gk_name) (by decide) (fun s H C cl fp i W hi => rts_nil)
      (fun s H C cl fp i W hi _ => ?_)) ?_)))) ?_))) (fun h => by cases h) fun _ => ?_
    · have hx := bq.ll _ (getD_mem (d := []) hi)
      have hx : IsH (lkOf n).places.length (l.getD i []) := hx
      refine rv_isN nonP_dat (rv_heap_fault T (w_heap_fault T) (pureSp_ok (l.getD i []) ⟨by rw [hx.l, hpl]; omega, hx.p⟩) (hr.mono (by omega)) (ra_cons (rv_to (rv_lenTD T.n_len (rv_var 1)) (by rw [List.length_map, hx.l, hpl, h2])) (ra_cons (rv_var 7) ra_nil)))
    · rw [selP_all T (fun _ => dat K (.bool true)) l [] rfl, List.map_map]
      exact Imp.refl
    · simp
    · exact rs_end (rv_basis_wrong T (w_basis_wrong T) (pureSp_ok (⟨lkOf n, h, l⟩ : BQ) bq) (hr.mono (by omega)) (ra_cons (rv_var 3) (ra_cons (rv_var 1) (ra_cons (rv_ixTD (ds := [.str "never", hsD l]) (K := K) (k := 1) rfl (rv_var 2) rv_int) ra_nil))))
end
end TF
set_option Elab.async false
set_option linter.all false
set_option maxRecDepth 100000
set_option maxHeartbeats 4000000
/-! W15: calls with a keyword, in a try. -/
namespace TF
open PySem PySem.Spec L2
open PyProof.Rows (envOfC)
section
variable {X : Cx} {CX : CXT} {k n : Nat} {f : Addr} {fd : FuncData} {ps ks : List Str} {sp : Sp} {E : St → XK} {x : Str} {p pos : Pos} {e : Expr} {es : List Expr} {kws : List Keyword} {t tk : TA} {g : List Value → List Value → List Value} {gV : List V → List V → List V}
/-- f(e, .., k = v), the exception's wish by the slots -/
theorem pe_callNS (F : FnOk X.prog X.w X.K X.mg X.base CX k f fd ps sp) (hr : Room k X.A) (hg : Gl X x) (hm : X.mg x = some (.ref f)) (hk : PySem.W.keepIn X.K (.ref f) = true) (hb : KBn X.K fd ps n ks g gV) (hx : ∀ σ, PassesAt CX X σ (E σ))
    (ha : PA X (e :: es) t) (hkw : PK X kws tk) (hall : (backToKw pos (keywordEach kws X.env)).all (·.1.isSome) = true := by rfl) (hks : (backToKw pos (keywordEach kws X.env)).filterMap (·.1) = ks := by rfl)
    (hdb : (x == ("__debug__" : Str)) = false := by decide) (he : starEach (e :: es) X.env = (false, eval e X.env) :: starEach es X.env := by rfl)
    (hpl : ((backTo pos (starEach (e :: es) X.env)).any (·.1) || (backToKw pos (keywordEach kws X.env)).any (·.1.isNone)) = false := by rfl) :
    PE X (.Call (.Name x p) (e :: es) kws pos) (fun σ H Q => t σ H fun vs H1 => tk σ H1 fun zs H2 => vs.length = n ∧ zs.length = ks.length ∧ sp (gV vs zs) H2 Q (E σ)) := by
  refine ⟨fun pins s σ H Q I h => ?_⟩
  refine wpAny_Call_Name_kw (ld_glob I hg hm ?_ hdb)
  refine PySem.W.callWith_KW (h₀ := X.base) I.ok.mod.kin hk hall (thn (ha.run pos pins s σ H _ I h) fun us s1 ⟨vs, H1, I1, r, q⟩ => ?_) hpl he
  refine thn (hkw.run pos pins s1 σ H1 _ I1 q) fun ws s2 ⟨zs, H2, I2, rz, l1, l2, q2⟩ => ⟨I2.kIn, ?_⟩
  rw [hks]
  have r2 := hb.rel r rz
  refine wpAny_call (codeAny_mono (F.run X.A X.stack s2 H2 ⟨us, ks.zip ws⟩ (g us ws) (gV vs zs) Q (E σ) hr I2.env0 (hb.to s2 us ws I2.kIn (r.length.symm.trans l1) (rz.length.symm.trans l2)) r2 q2) fun r s' hq => ?_)
  cases r with
  | error e => exact hx σ pins H2 s2 e s' I2 hq
  | ok fl =>
    cases fl with
    | ret u => exact I2.after hq
    | next => exact False.elim hq
    | brk => exact False.elim hq
    | cont => exact False.elim hq
end
section
variable {K : PySem.W.Frag} {mg : Str → Option Value} (T : TF.Txt K mg)
include T
theorem kb_covered : KBn K (fdAt K (He.ga K "covered")) ["net", "heap", "most"] 2 ["most"] (fun us ws => us ++ ws) (fun vs zs => vs ++ zs) := by
  obtain ⟨oc, od, dV, kV, doc, pm, an, cdv, ct, osl, e, lk, hcd, hD, hK⟩ := T.f_covered.ex
  rw [e]
  obtain ⟨_, rfl⟩ := hD.resolve_right fun z => z.1 rfl
  obtain ⟨D, rfl, _⟩ := hK.resolve_left fun z => by cases z
  refine ⟨fun s us ws _ h1 h2 => ?_, fun r1 r2 => r1.append r2⟩
  obtain ⟨a, b, rfl⟩ := len2 h1
  obtain ⟨c, rfl⟩ := len1 h2
  exact .of_eq rfl
theorem kb_widest : KBn K (fdAt K (He.ga K "widest")) ["net", "most"] 1 ["most"] (fun us ws => us ++ ws) (fun vs zs => vs ++ zs) := by
  obtain ⟨oc, od, dV, kV, doc, pm, an, cdv, ct, osl, e, lk, hcd, hD, hK⟩ := T.f_widest.ex
  rw [e]
  obtain ⟨_, rfl⟩ := hD.resolve_right fun z => z.1 rfl
  obtain ⟨D, rfl, _⟩ := hK.resolve_left fun z => by cases z
  refine ⟨fun s us ws _ h1 h2 => ?_, fun r1 r2 => r1.append r2⟩
  obtain ⟨a, rfl⟩ := len1 h1
  obtain ⟨c, rfl⟩ := len1 h2
  exact .of_eq rfl
end
end TF
set_option Elab.async false
set_option linter.all false
set_option maxRecDepth 100000
set_option maxHeartbeats 4000000
/-! W16: try: y = f(..) / except C as e: z = e. -/
namespace TF
open PySem PySem.Spec L2
open PyProof.Rows (envOfC)
/-- some object -/
def refA : SP := ⟨fun _ v => ∃ a, v = .ref a, fun _ h => h⟩
theorem takes_none {X : Cx} : Takes X (fun _ _ _ _ => False) := fun u s' x => by
  obtain ⟨a, B, sI, pins, σ, H, cls, d, _, _, _, _, _, _, _, _, w⟩ := x
  exact w.elim
section
variable {X : Cx} {an : An} {K : PySem.W.Frag} {ρ : TF.Env} {W W' Wz : Wd} {P R : SP} {Ps : List SP} {N : TF.Env → Wd → Prop} {x y z ev cl : Str} {ee : Expr} {py pz pe np pos pos' pos2 apos : Pos} {C : Addr} {xo : Prop} {i j k : Nat}
theorem rs_try (t : TA) (sp : Sp) (F : ∀ (W : WX) (pn : List (Addr × Obj)) (xe : Value → Shared → Prop), Takes (X.tr pn xe) W → PE (X.tr pn xe) ee (fun σ H Q => t σ H fun vs H1 => sp vs H1 Q (fun cls d H' => W cls d σ H')))
    (ht : ∀ σ H Q, tA an ρ W W' Ps σ H Q → t σ H Q) (kk : CallX sp (TGa X.K) Ps P [] [] xo)
    (hN : X.N.Nodup) (hi : X.N[i]? = some y) (hj : X.N[j]? = some z) (hk : X.N[k]? = some ev) (hly : X.env.kindOf y = some .local) (hlz : X.env.kindOf z = some .local) (hle : X.env.kindOf ev = some .local) (hc : Names X cl (.ref C)) (hx : PySem.W.exmOne X.K (.ref (TGa X.K)) (.ref C) = some true)
    (hs : X.stack = X.env :: X.outer) (hf : X.env.frame = some X.env.locals) (hkl : k < ρ.length) (hsw : swapsWith ee (some (.Name y py)) apos.line X.env = pure false) (hsw2 : swapsWith (.Name ev pe) (some (.Name z pz)) pos2.line X.env = pure false) (hfy : X.env.scope.names.lookup y = some .local) (hfz : X.env.scope.names.lookup z = some .local) (hfe : X.env.scope.names.lookup ev = some .local) (hd : (ev == ("__debug__" : Str)) = false) (hcd : (ev == ("__classdict__" : Str)) = false) :
    RS X an (.Try [.Assign [.Name y py] ee apos] [.ExceptHandler (some (.Name cl np)) (some ev) [.Assign [.Name z pz] (.Name ev pe) pos2] pos'] [] [] pos) ρ W (fun ρ1 W1 => W1 = W' ∧ (ρ1 = ρ.set i (some P) ∨ (xo ∧ ρ1 = ((ρ.set k none).set j (some refA)).set k none))) R Wz := by
  refine PSimp (ps_try_as hs hf hN hk hle hc takes_none (fun W pn xe tk _ => pss_one (ps_set (X := X.tr pn xe) hN hi (Or.inl hfy) (F W pn xe tk) hsw (.inr hfy))) (fun a oe cls d pn _ _ => pss_one (ps_set (X := X.suite a ((a, oe) :: pn)) hN hj (Or.inl hfz) (pe_var (X := X.suite a ((a, oe) :: pn)) hk (Or.inl hfe) hd hcd) hsw2 (.inr hfz)))) fun D σ H ⟨O, m, nx, rt⟩ => ?_
  refine ht σ H _ ⟨O, m, fun vs H1 m1 s1 sat => ?_⟩
  refine kk O H1 vs _ _ m1.lv WOk.nil sat (fun v H' sb _ p => ?_) fun xh d H' sb => ?_
  · exact nx _ _ _ _ O ⟨rfl, .inl rfl⟩ ((m1.same sb.nil).re ((m1.same sb.nil).ds.set i p)) (s1.trans (mn_mono sb.nil))
  · refine ⟨true, hx, fun _ a ha => ?_, fun h => by cases h⟩
    have m2 := m1.same (SameB.nil sb)
    have hl : k < σ.length := by rw [← m2.ds.1]; exact hkl
    refine ⟨.ref a, by rw [List.getElem?_set_self hl], ?_⟩
    have d1 := (((m2.ds.clear (x := some (V.ref a)) k).set (P := refA) (v := .ref a) j ⟨a, rfl⟩).clear (x := none) k)
    exact nx _ _ _ _ O ⟨rfl, .inr ⟨xh, rfl⟩⟩ (m2.re d1) (s1.trans (mn_mono (SameB.nil sb)))
end
end TF
set_option Elab.async false
set_option linter.all false
set_option maxRecDepth 100000
set_option maxHeartbeats 4000000
/-! W17: what the law is told. -/
namespace TF
open PySem PySem.Spec L2
open PyProof.Rows (envOfC)
def toD : Option Told → PyData
  | none => .none
  | some u => tolD u
theorem nonP_ref : NonP refA false := fun H v ⟨a, e⟩ => by
  subst e
  rfl
section
variable {P : Program} {w : World} {K : PySem.W.Frag} {mg : Str → Option Value} {base : Heap} (T : TF.Txt K mg)
include T
theorem w_L_told : O_L_told P w K mg base CX0 9 (pureSp (ι := NQ) (fun q => [dat K (netD q.n), dat K (intsT q.h)]) (fun q => NQok q ∧ q.most = 25) (fun q => dat K (toD (toldBy (lkOf q.n) 25 q.h)))) := by
  refine okPure T.f_L_told (N := N_L_told) (by constructor <;> first | rfl | decide | decide +kernel) (fun _ => rfl) fun cdv A1 outer s H E hr q hq an => ?_
  obtain ⟨n, h, most⟩ := q
  obtain ⟨hq, hm⟩ := hq
  have hm : most = 25 := hm
  subst hm
  refine rs_set 2 (rv_non (K := K)) ?_
  refine rs_set 3 (rv_non (K := K)) ?_
  refine rs_cons (rs_try (i := 3) (j := 2) (k := 4) (xo := toldBy (lkOf n) 25 h = none) (P := toldP K (toldBy (lkOf n) 25 h)) (Ps := [dat K (netD n), dat K (intsT h), dat K (.int 25)]) (W' := []) (C := He.ga K "NetError")
    (tA an _ [] [] [dat K (netD n), dat K (intsT h), dat K (.int 25)]) (mkSpX (TGa K) (ι := NQ) (fun q => [dat K (netD q.n), dat K (intsT q.h), dat K (.int (q.most : Int))]) (fun _ => []) (fun _ => []) NQok (fun q => toldBy (lkOf q.n) q.most q.h = none) (fun q => toldP K (toldBy (lkOf q.n) q.most q.h)))
    ?F (fun σ H Q q => q) (mkSpX_ok (⟨n, h, 25⟩ : NQ) hq) (by exact of_decide_eq_true (by kernel_rfl)) rfl rfl rfl rfl rfl rfl ⟨rfl, rfl, .inl T.g_NetError⟩ T.exmN rfl rfl (of_decide_eq_true (by rfl)) rfl rfl rfl rfl rfl rfl rfl) ?_
  case F =>
    intro W pn xe tk
    refine PEimp (pe_callNS (w_covered T) hr rfl T.g_covered T.f_covered.kp (kb_covered T) (fun σ => passAt tk σ) (ra_cons (rv_var 0) (ra_cons (rv_var 1) ra_nil)) (pk_cons pe_int pk_nil)) fun σ H Q ⟨O, m, q⟩ => ⟨O, m, fun vs H1 m1 s1 sat => ?_⟩
    have hl := sat.length
    exact ⟨hl.symm, rfl, q (vs ++ [V.int 25]) H1 m1 s1 (sat.snoc (P := dat K (.int 25)) (.int 25))⟩
  rintro ρ1 W1 ⟨rfl, h⟩
  rcases h with rfl | ⟨hx, rfl⟩
  · refine rs_end (rv_sub (P := toldP K (toldBy (lkOf n) 25 h)) (rv_ixL (K := K) (k := 0) rfl (rv_sub (rv_lst (Ps := [toldP K (toldBy (lkOf n) 25 h), dat K .none]) (ra_cons (rv_var 3) (ra_cons rv_non ra_nil))) fun H v z => lstT_P z) (rv_to (rv_intB T.n_int (rv_notN (K := K) (nonP_dat (d := .none)) (rv_var 2))) rfl)) fun H v ⟨u, e, z⟩ => ?_)
    show (dat K (toD (toldBy (lkOf n) 25 h))).p H v
    rw [e]
    exact z
  · refine rs_end (rv_to (rv_ixL (K := K) (k := 1) rfl (rv_sub (rv_lst (Ps := [dat K .none, dat K .none]) (ra_cons (rv_var 3) (ra_cons rv_non ra_nil))) fun H v z => lstT_P z) (rv_to (rv_intB T.n_int (rv_notN (K := K) nonP_ref (rv_var 2))) rfl)) ?_)
    show PyData.none = toD (toldBy (lkOf n) 25 h)
    rw [hx]
    rfl
end
end TF
set_option Elab.async false
set_option linter.all false
set_option maxRecDepth 100000
set_option maxHeartbeats 4000000
/-! W18: ranks, the places' numbers. -/
namespace TF
open PySem PySem.Spec L2
open PyProof.Rows (envOfC)
section
variable {X : Cx} {an : An} {K : PySem.W.Frag} {ρ : TF.Env} {W W1 : Wd} {a : Expr} {pos p : Pos}
/-- c or 0 -/
theorem rv_or0 {o : Option Int} {j : Nat} (ha : RV X an a ρ W W1 (dat X.K (oD o))) : RV X an (.BoolOp .Or [a, .Constant (.int 0) j p] pos) ρ W W1 (dat X.K (.int (o.getD 0))) :=
  PEimp (pe_orT ha (rv_one (rv_int (K := X.K)))) fun σ H Q ⟨O, m, q⟩ => ⟨O, m, fun u H1 m1 s1 p1 => by
    cases o with
    | none =>
      rw [dat_non p1]
      exact ⟨false, rfl, iteF ⟨O, m1, fun v H2 m2 s2 p2 => q v H2 m2 (s1.trans s2) p2⟩⟩
    | some c =>
      rw [dat_int (K := X.K) p1]
      by_cases e : c = 0
      · subst e
        exact ⟨false, rfl, iteF ⟨O, m1, fun v H2 m2 s2 p2 => q v H2 m2 (s1.trans s2) p2⟩⟩
      · exact ⟨true, by simp [TruV, e], iteT (q _ H1 m1 s1 (.int c))⟩⟩
end
section
variable {P : Program} {w : World} {K : PySem.W.Frag} {mg : Str → Option Value} {base : Heap} (T : TF.Txt K mg)
include T
theorem w_L_at : O_L_at P w K mg base CX0 1 (pureSp (ι := List Int × Nat) (fun q => [dat K (.list (q.1.map .int)), dat K (.int (q.2 : Int))]) (fun _ => True) (fun q => dat K (.int (q.1.getD q.2 0)))) := by
  refine okPure T.f_L_at (N := N_L_at) (by constructor <;> first | rfl | decide | decide +kernel) (fun _ => rfl) fun cdv A1 outer s H E hr q hq an => ?_
  obtain ⟨l, k⟩ := q
  refine rs_when (v := decide (k < l.length)) (rt_to (rt_lt (K := K) (rv_var 1) (rv_lenLD T.n_len (rv_var 0))) (by rw [List.length_map]; norm_cast)) (fun hv => ?_) fun hv => ?_
  · have hv : k < l.length := of_decide_eq_true hv
    refine rs_end (rv_ixLD (K := K) (k := k) ?_ (rv_var 0) (rv_var 1))
    rw [List.getElem?_map, List.getD_eq_getElem?_getD, List.getElem?_eq_getElem hv]
    rfl
  · have hv : ¬ k < l.length := of_decide_eq_false hv
    refine rs_end (rv_to rv_int ?_)
    show PyData.int 0 = .int (l.getD k 0)
    rw [List.getD_eq_getElem?_getD, List.getElem?_eq_none (by omega)]
    rfl
theorem w_L_rank : O_L_rank P w K mg base CX0 1 (pureSp (ι := Wide) (fun q => [dat K (wD q)]) (fun _ => True) (fun q => dat K (rtD q))) := by
  refine okPure T.f_L_rank (N := N_L_rank) (by constructor <;> first | rfl | decide | decide +kernel) (fun _ => rfl) fun cdv A1 outer s H E hr q hq an => ?_
  refine rs_end (rv_sub (rv_tupleOf T.n_tuple (rv_sub (rv_lc (n := q.length) (bt := fun _ => true) (E := fun j => (fun o => dat K (oR o)) (q.getD j none)) (own := [("_law_count", 1)]) (ri_tupM oD q none (rv_var 0)) (fun s H C cl fp => pg_one 1) (fun i hi => gk_name) (by decide) (fun s H C cl fp i W hi => rts_nil)
      (fun s H C cl fp j W hj _ => ?_)) fun H v z => lstT_P (K := K) z)) ?_)
  · generalize q.getD j none = o
    cases o with
    | none => exact rv_tupD (ds := [.int 1, .int 0]) (ra_cons (rv_to (rv_intB T.n_int (rv_isN (K := K) (nonP_dat (d := .none)) (rv_var 1))) rfl) (ra_cons (rv_or0 (o := none) (rv_var 1)) ra_nil))
    | some x => exact rv_tupD (ds := [.int 0, .int x]) (ra_cons (rv_to (rv_intB T.n_int (rv_isN (K := K) (nonP_dat (d := .int x)) (rv_var 1))) rfl) (ra_cons (rv_or0 (o := some x) (rv_var 1)) ra_nil))
  · rw [selP_all T (fun o => dat K (oR o)) q none rfl]
    intro H v z
    refine tupP_dat ?_
    rw [List.map_map]
    exact z
end
end TF
set_option Elab.async false
set_option linter.all false
set_option maxRecDepth 100000
set_option maxHeartbeats 4000000
/-! W19: the places' numbers; _law_over. -/
namespace TF
open PySem PySem.Spec L2
open PyProof.Rows (envOfC)
section
variable {P : Program} {w : World} {K : PySem.W.Frag} {mg : Str → Option Value} {base : Heap} (T : TF.Txt K mg)
include T
/-- a is over b: a law's own words -/
theorem w_L_over : O_L_over P w K mg base CX0 1 (pureSp (ι := TwoW) (fun q => [dat K (wD q.a), dat K (wD q.b)]) (fun q => q.a.length = q.b.length ∧ q.a.length ≤ 40) (fun q => dat K (.bool (isOver q.a q.b)))) := by
  refine okPure T.f_L_over (N := N_L_over) (by constructor <;> first | rfl | decide | decide +kernel) (fun _ => rfl) fun cdv A1 outer s H E hr q hq an => ?_
  obtain ⟨a, b⟩ := q
  obtain ⟨hl, hz⟩ := hq
  have hl : a.length = b.length := hl
  have hz : a.length ≤ 40 := hz
  have hu : (A1.deeper (envOfC "_law_over" (defScope s_L_over) s.heap.objs.size (He.ga K "_law_over") cdv)).units + 64 < cLine := hr.units
  refine rs_end (rv_to (rv_eqD (d := .list (((List.range a.length).filter fun i => !ovE (a.getD i none) (b.getD i none)).map fun i : Nat => .int (i : Int))) (d' := .list []) hu ?_ ?_ (rv_sub (rv_lc (n := a.length) (bt := fun i => !ovE (a.getD i none) (b.getD i none)) (E := fun i => dat K (.int (i : Int))) (own := [("_law_k", 2)]) (ri_range (K := K) T.n_range (by exact rv_to (rv_lenTD (ds := a.map oD) T.n_len (rv_var 0)) (by rw [List.length_map])) (by omega)) (fun s H C cl fp => pg_one 2) (fun i hi => gk_name) (by decide) (fun s H C cl fp i W hi => rts_one ?_) (fun s H C cl fp i W hi _ => rv_var 2)) ?_) (rv_lstD (ds := []) ra_nil)) ?_)
  · exact (flt_lst (n := 0) fun d hd => by
      obtain ⟨i, _, rfl⟩ := List.mem_map.mp hd
      exact flt_int _).shaped
  · exact (flt_lst (n := 0) fun d hd => by simp at hd).shaped
  · have e1 : (a.map oD)[i]? = some (oD (a.getD i none)) := by
      rw [List.getElem?_map, List.getD_eq_getElem?_getD, List.getElem?_eq_getElem hi]
      rfl
    have e2 : (b.map oD)[i]? = some (oD (b.getD i none)) := by
      rw [List.getElem?_map, List.getD_eq_getElem?_getD, List.getElem?_eq_getElem (hl ▸ hi)]
      rfl
    generalize a.getD i none = x at e1 ⊢
    generalize b.getD i none = y at e2 ⊢
    cases x with
    | none => exact rt_to (rt_w (rw_and (v := false) (w := false) (rt_to (rt_notN K nonP_dat (rv_ixTD (K := K) (k := i) e1 (rv_var 0) (rv_var 2))) rfl) fun h => by cases h)) rfl
    | some x =>
      cases y with
      | none => exact rt_to (rt_w (rw_and (v := true) (w := true) (rt_to (rt_notN K nonP_dat (rv_ixTD (K := K) (k := i) e1 (rv_var 0) (rv_var 2))) rfl) fun _ => rw_and1 (rt_w (rw_or (v := true) (w := false) (rt_isN K nonP_dat (rv_ixTD (K := K) (k := i) e2 (rv_var 1) (rv_var 2))) fun h => by cases h)))) rfl
      | some y => exact rt_to (rt_w (rw_and (v := true) (rt_to (rt_notN K nonP_dat (rv_ixTD (K := K) (k := i) e1 (rv_var 0) (rv_var 2))) rfl) fun _ => rw_and1 (rt_w (rw_or (v := false) (rt_isN K nonP_dat (rv_ixTD (K := K) (k := i) e2 (rv_var 1) (rv_var 2))) fun _ => rw_or1 (rt_lt (K := K) (rv_ixTD (K := K) (k := i) e1 (rv_var 0) (rv_var 2)) (rv_ixTD (K := K) (k := i) e2 (rv_var 1) (rv_var 2))))))) (by
          show (true && (false || decide (x < y))) = !decide (y ≤ x)
          by_cases h : x < y
          · simp [h]
          · have h2 : y ≤ x := by omega
            simp [h, h2])
  · unfold selP
    exact fun H v z => lstT_D (K := K) (f := fun i : Nat => PyData.int (i : Int)) z
  · have key : ∀ l : List PyData, PyData.eqv (.list l) (.list []) = l.isEmpty := by
      intro l
      cases l <;> simp [PyData.eqv, PyData.eqvAll]
    rw [key]
    show PyData.bool _ = .bool (isOver a b)
    unfold isOver
    congr 1
    generalize List.range a.length = r
    induction r with
    | nil => rfl
    | cons i r ih =>
      rw [List.filter_cons, List.all_cons]
      cases h : ovE (a.getD i none) (b.getD i none) with
      | true => simpa using ih
      | false => simp
end
end TF
set_option Elab.async false
set_option linter.all false
set_option maxRecDepth 100000
set_option maxHeartbeats 4000000
/-! W20: the law's numbers. -/
namespace TF
open PySem PySem.Spec L2
open PyProof.Rows (envOfC)
/-- a number in a range -/
def inP (K : PySem.W.Frag) (a b : Int) : SP := exP (ι := { i : Int // a ≤ i ∧ i < b }) fun i => dat K (.int i.1)
section
variable {P : Program} {w : World} {K : PySem.W.Frag} {mg : Str → Option Value} {base : Heap} (T : TF.Txt K mg)
include T
theorem w_L_mixed : O_L_mixed P w K mg base CX0 1 (pureSp (ι := Int × Int) (fun q => [dat K (.int q.1), dat K (.int q.2)]) (fun q => 0 ≤ q.1 ∧ q.1 < 2147483647 ∧ 0 ≤ q.2 ∧ q.2 < 1000000000) (fun _ => inP K 0 2147483587)) := by
  refine okPure T.f_L_mixed (N := N_L_mixed) (by constructor <;> first | rfl | decide | decide +kernel) (fun _ => rfl) fun cdv A1 outer s H E hr q hq an => ?_
  obtain ⟨c, k⟩ := q
  obtain ⟨c0, c1, k0, k1⟩ := hq
  have c0 : 0 ≤ c := c0
  have c1 : c < 2147483647 := c1
  have k0 : 0 ≤ k := k0
  have k1 : k < 1000000000 := k1
  refine rs_set 2 (rv_mod (K := K) (j := 2147483647) (by decide) (rv_add (rv_add (rv_add (rv_mul ?_ (rv_var 0) rv_int) (rv_mul ?_ (rv_mul ?_ rv_int (rv_var 1)) (rv_var 1))) (rv_var 1)) rv_int) rv_int) ?_
  · right; constructor <;> decide
  · left; constructor <;> omega
  · left; constructor <;> decide
  generalize hx : Int.fmod (c * 1103515245 + 7919 * k * k + k + 1) 2147483647 = x
  have x1 : 0 ≤ x ∧ x < 2147483647 := by
    rw [← hx, Int.fmod_eq_emod_of_nonneg _ (by decide)]
    exact ⟨Int.emod_nonneg _ (by decide), Int.emod_lt_of_pos _ (by decide)⟩
  refine rs_set 2 (rv_mod (K := K) (j := 2147483629) (by decide) (rv_add (rv_mul ?_ (rv_var 2) (rv_var 2)) rv_int) rv_int) ?_
  · left; constructor <;> omega
  generalize hz : Int.fmod (x * x + 69621) 2147483629 = z
  have z1 : 0 ≤ z ∧ z < 2147483629 := by
    rw [← hz, Int.fmod_eq_emod_of_nonneg _ (by decide)]
    exact ⟨Int.emod_nonneg _ (by decide), Int.emod_lt_of_pos _ (by decide)⟩
  have hr3 : 0 ≤ Int.fmod (z * 48271) 2147483587 ∧ Int.fmod (z * 48271) 2147483587 < 2147483587 := by
    rw [Int.fmod_eq_emod_of_nonneg _ (by decide)]
    exact ⟨Int.emod_nonneg _ (by decide), Int.emod_lt_of_pos _ (by decide)⟩
  refine rs_end (rv_sub (rv_mod (K := K) (j := 2147483587) (by decide) (rv_mul ?_ (rv_var 2) rv_int) rv_int) fun H v p => ⟨⟨_, hr3⟩, p⟩)
  · right; constructor <;> decide
end
end TF
set_option Elab.async false
set_option linter.all false
set_option maxRecDepth 100000
set_option maxHeartbeats 4000000
/-! M13: a def that gives a new list of numbers. -/
namespace TF
open PySem PySem.Spec L2
open PyProof.Rows (envOfC)
theorem flat_in {K : PySem.W.Frag} {a b : Int} : Flat (inP K a b) := fun H H' v ⟨i, p⟩ => ⟨i, flat_int H H' v p⟩
theorem flat_sat {H H' : Hp} : ∀ {Ps : List SP} {vs : List V}, (∀ P, P ∈ Ps → Flat P) → Sat Ps H vs → Sat Ps H' vs
  | _, _, _, .nil => .nil
  | P :: Ps, _, h, .cons p t => .cons (h P List.mem_cons_self _ _ _ p) (flat_sat (fun Q hq => h Q (List.mem_cons_of_mem _ hq)) t)
def newSp {ι : Type} (A : ι → List SP) (pre : ι → Prop) (Ps : ι → List SP) : Sp := fun vs H Q _ => ∃ i O, Live H O ∧ Sat (A i) (mn H O) vs ∧ pre i ∧ ∀ p H', H p = none → Same H H' → WOk [(p, lstM (Ps i))] (p :: O) H' → Q (.ref p) H'
/-- a list, new to H0 -/
def frP (H0 : Hp) (Ps : List SP) : SP := ⟨fun H v => ∃ p xs, v = .ref p ∧ H0 p = none ∧ H p = some (.lst xs) ∧ Sat Ps H xs, fun s ⟨p, xs, h1, h2, h3, h4⟩ => ⟨p, xs, h1, h2, s _ _ h3, h4.same s⟩⟩
theorem rn_frP {X : Cx} {an : An} {e : Expr} {ρ : TF.Env} {W W' : Wd} {Ps : List SP} (h : RN X an e ρ W W' (fun _ => lstM Ps)) : RV X an e ρ W W' (frP an.H0 Ps) :=
  PEimp h fun σ H Q ⟨O, m, q⟩ => ⟨O, m, fun p H' hp h0 m' s' => by
    obtain ⟨m2, s2⟩ := m'.free (O1 := O) h0 (fun b hb => List.mem_cons_of_mem _ hb) (fun b hb hn => (List.mem_cons.mp hb).elim (fun z => (hn z).elim) id)
    obtain ⟨_, o, h2, xs, e, sat⟩ := m'.wo.at_ (p, lstM Ps) (by simp)
    exact q _ H' m2 (s'.trans s2) ⟨p, xs, rfl, h0, by rw [mn_out hp, h2, e], sat.same s2⟩⟩
section
variable {P : Program} {w : World} {K : PySem.W.Frag} {mg : Str → Option Value} {base : Heap} {x qual : Str} {params : Arguments} {body : List Stmt} {scope : Scope} {dvs : List V} {kws : List (Str × V)} {f : Addr} {fd : FuncData}
theorem okNew {ι : Type} {A : ι → List SP} {pre : ι → Prop} {Ps : ι → List SP} {N ps : List Str} {k : Nat} (F : FunD K x qual params body scope dvs kws f fd) (S : FnScope N ps scope) (hl : ∀ i, (A i).length = ps.length) (hf : ∀ i P, P ∈ Ps i → Flat P)
    (h : ∀ (cdv : Value) (A1 : Around) (outer : List PySem.Env) (s : Shared) (H : Hp) (E : XK), Room k (A1.deeper (envOfC qual scope s.heap.objs.size f cdv)) → ∀ i, pre i → ∀ an : An,
      RSs (cxOf CX0 P w K mg base N qual scope f cdv A1 outer s H E).nox an body (env0 N (A i)) [] (fun _ _ => False) (frP an.H0 (Ps i)) []) : FnOk P w K mg base CX0 (k + 1) f fd ps (newSp A pre Ps) := by
  refine F.ok S (fun vs H Q E q => ?_) (fun cdv A1 outer s H vs Q E hr q => ?_)
  · obtain ⟨i, O, l, sat, _⟩ := q
    rw [← sat.length, hl]
  · obtain ⟨i, O, l, sat, hp, q⟩ := q
    refine ⟨_, (h cdv A1 outer s H E hr i hp ⟨H, [], O⟩).nox, O, start_MX (W := []) l WOk.nil sat, fun ρ' W' σ' H' O' hn m' s' => hn.elim, fun v H' e => ?_⟩
    obtain ⟨p, xs, rfl, h0, h1, h2⟩ := e.rp
    exact q p H' h0 e.sb.nil ⟨by simp, fun c hc => by
      rw [List.mem_singleton.mp hc]
      exact ⟨List.mem_cons_self, .lst xs, mn_at h1, xs, rfl, flat_sat (hf i) h2⟩⟩
end
section
variable {X : Cx} {an : An} {ρ : TF.Env} {W W' : Wd} {Ps Rs : List SP} {e : Expr} {es : List Expr} {pos p : Pos} {CX : CXT} {k : Nat} {f : Addr} {fd : FuncData} {ps : List Str} {sp : Sp} {x : Str}
theorem rn_call (F : FnOk X.prog X.w X.K X.mg X.base CX k f fd ps sp) (kk : ∀ (O : List Addr) (H : Hp) (vs : List V) (Q : VK), Live H O → Sat Ps (mn H O) vs → (∀ p H', H p = none → Same H H' → WOk [(p, lstM Rs)] (p :: O) H' → Q (.ref p) H') → sp vs H Q E0) (hr : Room k X.A) (hm : X.mg x = some (.ref f)) (hk : PySem.W.keepIn X.K (.ref f) = true) (hb : Binds X.K fd ps []) (hx : Passes CX X E0)
    (ha : RA X an (e :: es) ρ W W' Ps) (hg : Gl X x := by rfl) (hdb : (x == ("__debug__" : Str)) = false := by decide) (he : starEach (e :: es) X.env = (false, eval e X.env) :: starEach es X.env := by rfl) (hpl : (backTo pos (starEach es X.env)).any (·.1) = false := by rfl) : RN X an (.Call (.Name x p) (e :: es) [] pos) ρ W W' (fun _ => lstM Rs) :=
  PEimp (pe_call F hr hg hm hk hb .nil hx ha hdb he hpl) fun σ H Q ⟨O, m, q⟩ => ⟨O, m, fun vs H1 m1 s1 p1 => by
    show sp (vs ++ []) H1 Q E0
    rw [List.append_nil]
    refine kk O H1 vs Q m1.lv p1 fun p H' hp sm wo => ?_
    obtain ⟨m2, s2⟩ := MX.callN (Wi := []) (Wr := W') (Wo := [(p, lstM Rs)]) m1 hp (SameB.of sm) wo rfl
    exact q p H' (m1.lv.new hp) (m1.new0 hp) (m2.perm List.perm_append_comm) (s1.trans s2)⟩
end
end TF
set_option Elab.async false
set_option linter.all false
set_option maxRecDepth 100000
set_option maxHeartbeats 4000000
/-! W21: the purse. -/
namespace TF
open PySem PySem.Spec PyProof.Rows L2
open PyProof.Rows (envOfC)
def CPowX (i j : Int) : Prop := 0 ≤ j ∧ (Builtin.Int.intBits i : Int) * j ≤ 2 ^ 27
section
variable {X : Cx} {an : An} {K : PySem.W.Frag} {ρ : TF.Env} {W W1 W2 : Wd} {a b : Expr} {pos : Pos} {i j : Int}
theorem op_powX : OpR X (binaryOp .Pow) (rI CPowX fun i j => .int (i ^ j.toNat)) := opI fun _ _ _ _ _ _ _ hc q => pow_int hc.1 hc.2 q
theorem rv_powX (hc : CPowX i j) (ha : RV X an a ρ W W1 (dat K (.int i))) (hb : RV X an b ρ W1 W2 (dat K (.int j))) : RV X an (.BinOp a .Pow b pos) ρ W W2 (dat K (.int (i ^ j.toNat))) := rv_op op_powX (k_IC hc fun _ => .int _) ha hb
end
/-- what a purse holds: its counter is below n -/
def purP (K : PySem.W.Frag) (n : Nat) : List SP := [inP K 0 (10 ^ 600), inP K 0 2147483647, inP K 0 (n : Int)]
theorem pur_flat {K : PySem.W.Frag} {n : Nat} : ∀ P, P ∈ purP K n → Flat P := fun P h => by
  rcases List.mem_cons.mp h with rfl | h
  · exact flat_in
  · rcases List.mem_cons.mp h with rfl | h
    · exact flat_in
    · rw [List.mem_singleton.mp h]
      exact flat_in
theorem max_nn (a : Int) : 0 ≤ max 0 a := by omega
section
variable {P : Program} {w : World} {K : PySem.W.Frag} {mg : Str → Option Value} {base : Heap} (T : TF.Txt K mg)
include T
theorem w_L_purse : O_L_purse P w K mg base CX0 2 (newSp (ι := List Int × Nat) (fun q => [dat K (.list (q.1.map .int)), dat K (.int (q.2 : Int))]) (fun q => q.2 < 3) (fun _ => purP K 3000)) := by
  refine okNew T.f_L_purse (N := N_L_purse) (by constructor <;> first | rfl | decide | decide +kernel) (fun _ => rfl) (fun _ => pur_flat) fun cdv A1 outer s H E hr q hq an => ?_
  obtain ⟨l, k⟩ := q
  have hq : k < 3 := hq
  refine rs_set 2 (rv_L_at T (w_L_at T) (pureSp_ok (ι := List Int × Nat) (l, k) trivial) hr (ra_cons (rv_var 0) (ra_cons (rv_var 1) ra_nil))) ?_
  generalize l.getD k 0 = c
  have hm : ∀ x : Int, 0 ≤ Int.fmod x ((10 ^ 60) ^ 10) ∧ Int.fmod x ((10 ^ 60) ^ 10) < 10 ^ 600 := fun x => by
    rw [Int.fmod_eq_emod_of_nonneg _ (by decide)]
    exact ⟨Int.emod_nonneg _ (by decide), by
      have e : ((10 : Int) ^ 60) ^ 10 = 10 ^ 600 := by decide
      rw [e]
      exact Int.emod_lt_of_pos _ (by decide)⟩
  have hm2 : ∀ x : Int, 0 ≤ Int.fmod x 2147483647 ∧ Int.fmod x 2147483647 < 2147483647 := fun x => by
    rw [Int.fmod_eq_emod_of_nonneg _ (by decide)]
    exact ⟨Int.emod_nonneg _ (by decide), Int.emod_lt_of_pos _ (by decide)⟩
  refine rs_end (rn_frP (rn_lst (Ps := purP K 3000) (ra_cons (rv_sub (rv_mod (K := K) (j := (10 ^ 60) ^ 10) (by decide) (rv_max2 T.n_max (rv_subI (rv_var 2) (rv_powX (i := 10) (j := 18) ?_ rv_int rv_int)) rv_int) (rv_powX (i := 10 ^ 60) (j := 10) ?_ (rv_powX (i := 10) (j := 60) ?_ rv_int rv_int) rv_int)) fun H v p => ⟨⟨_, hm _⟩, p⟩) (ra_cons (rv_sub (rv_mod (K := K) (j := 2147483647) (by decide) (rv_var 2) rv_int) fun H v p => ⟨⟨_, hm2 _⟩, p⟩) (ra_cons (rv_sub (rv_mul (K := K) (i := 1000) (j := (k : Int)) ?_ rv_int (rv_var 1)) fun H v p => ⟨⟨_, ?_⟩, p⟩) ra_nil)))))
  · exact ⟨by decide, by decide⟩
  · exact ⟨by decide, by decide⟩
  · exact ⟨by decide, by decide⟩
  · left; constructor <;> decide
  · constructor <;> omega
end
end TF
set_option Elab.async false
set_option linter.all false
set_option maxRecDepth 100000
set_option maxHeartbeats 4000000
/-! M14: numbers that are known by their range alone. -/
namespace TF
open PySem PySem.Spec PyProof.Rows L2
open PyProof.Rows (envOfC)
theorem k_ex {ι : Type} {f : ι → SP} {P2 P : SP} {r : R2} (h : ∀ i, R2Ok r (f i) P2 P) : R2Ok r (exP f) P2 P := fun O H x y Q l ⟨i, p⟩ p2 q => h i O H x y Q l p p2 q
theorem k_ex2 {ι : Type} {f : ι → SP} {P1 P : SP} {r : R2} (h : ∀ i, R2Ok r P1 (f i) P) : R2Ok r P1 (exP f) P := fun O H x y Q l p1 ⟨i, p⟩ q => h i O H x y Q l p1 p q
theorem k_imp {P1 P2 P P' : SP} {r : R2} (h : R2Ok r P1 P2 P) (k : Imp P P') : R2Ok r P1 P2 P' := fun O H x y Q l p1 p2 q => h O H x y Q l p1 p2 fun v H' s p => q v H' s (k _ _ p)
theorem in_of {K : PySem.W.Frag} {a b i : Int} (h : a ≤ i ∧ i < b) : Imp (dat K (.int i)) (inP K a b) := fun H v p => ⟨⟨i, h⟩, p⟩
theorem in_mono {K : PySem.W.Frag} {a b c d : Int} (h1 : c ≤ a) (h2 : b ≤ d) : Imp (inP K a b) (inP K c d) := fun H v ⟨⟨i, h⟩, p⟩ => ⟨⟨i, by omega, by omega⟩, p⟩
theorem bool_of {K : PySem.W.Frag} {b : Bool} : Imp (dat K (.bool b)) boolP := fun H v p => ⟨b, dat_bool p⟩
theorem k_eqI {K : PySem.W.Frag} {i j : Int} : R2Ok rEq (dat K (.int i)) (dat K (.int j)) (dat K (.bool (decide (i = j)))) := fun O H v w Q l p1 p2 q => by
  rw [dat_int p1, dat_int p2]
  exact ⟨rfl, q _ H (Same.refl H) (by rw [dec_int, Bool.beq_eq_decide_eq]; exact .bl _)⟩
theorem k_in {K : PySem.W.Frag} {lo hi : Int} {P2 P : SP} {r : R2} (h : ∀ i, lo ≤ i → i < hi → R2Ok r (dat K (.int i)) P2 P) : R2Ok r (inP K lo hi) P2 P := fun O H x y Q l ⟨i, p⟩ p2 q => h i.1 i.2.1 i.2.2 O H x y Q l p p2 q
theorem k_in2 {K : PySem.W.Frag} {lo hi : Int} {P1 P : SP} {r : R2} (h : ∀ i, lo ≤ i → i < hi → R2Ok r P1 (dat K (.int i)) P) : R2Ok r P1 (inP K lo hi) P := fun O H x y Q l p1 ⟨i, p⟩ q => h i.1 i.2.1 i.2.2 O H x y Q l p1 p q
section
variable {X : Cx} {an : An} {K : PySem.W.Frag} {ρ : TF.Env} {W W1 W2 W' Wz : Wd} {a b o e : Expr} {pos : Pos} {i j lo hi : Int} {P P1 P2 R : SP}
theorem rv_modE (hj : 0 < j) (ha : RV X an a ρ W W1 (inP K lo hi)) (hb : RV X an b ρ W1 W2 (dat K (.int j))) : RV X an (.BinOp a .Mod b pos) ρ W W2 (inP K 0 j) :=
  rv_op op_mod (k_in fun q _ _ => k_imp (k_IC (K := K) (d := .int (q % j)) hj fun _ => .int _) (in_of ⟨Int.emod_nonneg _ (by omega), Int.emod_lt_of_pos _ hj⟩)) ha hb
theorem rv_fdivE (h0 : 0 < j) (hj : j < 1073741824) (ha : RV X an a ρ W W1 (inP K 0 hi)) (hb : RV X an b ρ W1 W2 (dat K (.int j))) : RV X an (.BinOp a .FloorDiv b pos) ρ W W2 (inP K 0 hi) :=
  rv_op op_fdiv (k_in fun q h1 h2 => k_imp (k_IC (K := K) (d := .int (q / j)) ⟨h0, hj⟩ fun _ => .int _) (in_of (by
    have h3 := Int.ediv_nonneg h1 (by omega : (0 : Int) ≤ j)
    have h4 := Int.ediv_le_self j h1
    omega))) ha hb
theorem rv_addE (ha : RV X an a ρ W W1 (dat K (.int i))) (hb : RV X an b ρ W1 W2 (inP K lo hi)) : RV X an (.BinOp a .Add b pos) ρ W W2 (inP K (i + lo) (i + hi)) :=
  rv_op op_add (k_in2 fun q h1 h2 => k_imp (k_I (K := K) (d := .int (i + q)) fun _ => .int _) (in_of (by omega))) ha hb
theorem rv_addE2 (ha : RV X an a ρ W W1 (inP K lo hi)) (hb : RV X an b ρ W1 W2 (dat K (.int j))) : RV X an (.BinOp a .Add b pos) ρ W W2 (inP K (lo + j) (hi + j)) :=
  rv_op op_add (k_in fun q h1 h2 => k_imp (k_I (K := K) (d := .int (q + j)) fun _ => .int _) (in_of (by omega))) ha hb
theorem rx_gtE (ha : RV X an a ρ W W1 (inP K lo hi)) (hb : RV X an b ρ W1 W2 (dat K (.int j))) (hm : behindInMarks .Gt b = false := by first | exact nomark _ | rfl | with_unfolding_all rfl) : RX X an (.Compare a [.Gt] [b] pos) ρ W W2 :=
  rx_cmp op_gt (k_in fun q _ _ => k_imp (k_I (K := K) (d := .bool (decide (j < q))) fun _ => .bl _) bool_of) ha hb hm
theorem rx_eqE (ha : RV X an a ρ W W1 (inP K lo hi)) (hb : RV X an b ρ W1 W2 (dat K (.int j))) (hm : behindInMarks .Eq b = false := by first | exact nomark _ | rfl | with_unfolding_all rfl) : RX X an (.Compare a [.Eq] [b] pos) ρ W W2 :=
  rx_cmp op_eq (k_in fun q _ _ => k_imp k_eqI bool_of) ha hb hm
/-- x.bit_length() -/
theorem rv_bits {apos : Pos} (ho : RV X an o ρ W W' (dat K (.int i))) (hbase : attributeBase o "bit_length" X.env (eval o X.env) = eval o X.env := by rfl) (hline : (apos.endLine == pos.line) = true := by rfl) : RV X an (.Call (.Attribute o "bit_length" apos) [] [] pos) ρ W W' (dat K (.int (Builtin.Int.intBits i : Nat))) :=
  PEimp (pe_bits ho hbase hline) fun σ H Q ⟨O, m, q⟩ => ⟨O, m, fun v H1 m1 s1 p1 => ⟨i, dat_int p1, q _ H1 m1 s1 (.int _)⟩⟩
/-- one of the items -/
def memP (K : PySem.W.Frag) (ds : List PyData) : SP := exP (ι := { d : PyData // d ∈ ds }) fun d => dat K d.1
theorem rv_ixE {ds : List PyData} (ha : RV X an a ρ W W1 (dat X.K (.list ds))) (hb : RV X an b ρ W1 W2 (inP K 0 (ds.length : Int))) (hs : PlainIx b := by exact fun _ _ => rfl) : RV X an (.Subscript a b pos) ρ W W2 (memP X.K ds) :=
  rv_ix (P1 := dat X.K (.list ds)) (P2 := inP K 0 (ds.length : Int)) ix_list (fun O H v w Q l p1 ⟨⟨i, h0, h1⟩, p2⟩ q => by
    obtain ⟨k, rfl⟩ := Int.eq_ofNat_of_zero_le h0
    have hk : k < ds.length := by omega
    obtain ⟨p, xs, e, hq, sat⟩ := dat_lstP p1
    obtain ⟨u, hu, hp⟩ := sat_at sat (k := k) (P := dat X.K ds[k]) (by rw [List.getElem?_map, List.getElem?_eq_getElem hk]; rfl)
    exact ⟨p, xs, _, u, e, dat_int p2, mn_le.seq hq, atI_nat hu, q u H (Same.refl H) ⟨⟨ds[k], List.getElem_mem hk⟩, hp⟩⟩) ha hb hs
/-- a, b = [.., ..] -/
theorem gk_lst {n : Nat} {g : TGs} {Ps : List SP} {js : List Nat} {f : TF.Env → TF.Env} (h : GsOk g Ps js f) (hn : Ps.length = n := by rfl) : GOk (gLst K n g) (lstP K Ps) js f := fun O ρ σ H v Q l d ⟨a, xs, e, hq, sat⟩ q =>
  ⟨a, xs, e, mn_le.seq hq, by rw [← sat.length, hn], h O ρ σ H xs Q l d sat q⟩
theorem gk_lst2 {P1 P2 : SP} {i j : Nat} : GOk (gLst K 2 (gCons (gName i) (gCons (gName j) gNil))) (lstP K [P1, P2]) [i, j] (fun ρ => (ρ.set i (some P1)).set j (some P2)) := gk_lst (gks_cons (gks_cons gks_nil))
theorem pg_lst2 (i j : Nat) {x y : Str} {k : Nat} {px py pos : Pos} (hN : X.N.Nodup := by exact of_decide_eq_true (by kernel_rfl)) (hi : X.N[i]? = some x := by rfl) (hj : X.N[j]? = some y := by rfl) (hx : Loc X.env.scope x := by first | exact Or.inl rfl | exact Or.inr rfl) (hy : Loc X.env.scope y := by first | exact Or.inl rfl | exact Or.inr rfl)
    (hf : X.fn x = true ∨ X.env.scope.names.lookup x = some .local := by first | exact .inl rfl | exact .inr rfl) (hg : X.fn y = true ∨ X.env.scope.names.lookup y = some .local := by first | exact .inl rfl | exact .inr rfl) (hc : X.calm = true := by rfl) : PG X (.Tuple [.Name x px, .Name y py] k pos) (gLst X.K 2 (gCons (gName i) (gCons (gName j) gNil))) :=
  pg_lst hc (pgs_cons (pg_name hN hi hx (hf := hf)) (pgs_cons (pg_name hN hj hy (hf := hg)) pgs_nil))
/-- what is owned is told weaker -/
theorem lstM_imp {Ps Rs : List SP} (h : Paired (fun P R => Imp P R) Ps Rs) : ∀ H o, (lstM Ps).p H o → (lstM Rs).p H o := by
  have key : ∀ {Ps Rs : List SP} {vs : List V} {H : Hp}, Paired (fun P R => Imp P R) Ps Rs → Sat Ps H vs → Sat Rs H vs := by
    intro Ps Rs vs H h s
    induction h generalizing vs with
    | nil => cases s; exact .nil
    | cons r _ ih =>
      cases s with
      | cons p t => exact .cons (r _ _ p) (ih t)
  exact fun H o ⟨xs, e, s⟩ => ⟨xs, e, key h s⟩
theorem pur_imp {n m : Nat} (h : n ≤ m) : ∀ H o, (lstM (purP K n)).p H o → (lstM (purP K m)).p H o := lstM_imp (.cons Imp.refl (.cons Imp.refl (.cons (in_mono (Int.le_refl _) (by omega)) .nil)))
theorem wimp_head {p : Addr} {m m' : MP} (h : ∀ H o, m.p H o → m'.p H o) : WImp ((p, m) :: W) ((p, m') :: W) := fun O H w => ⟨⟨w.nd, fun c hc => by
  rcases List.mem_cons.mp hc with e | hc
  · subst e
    obtain ⟨h1, o, h2, h3⟩ := w.at_ (p, m) List.mem_cons_self
    exact ⟨h1, o, h2, h _ _ h3⟩
  · exact w.at_ c (List.mem_cons_of_mem _ hc)⟩, fun c hc => by
  rcases List.mem_cons.mp hc with e | hc
  · subst e
    exact ⟨(p, m), List.mem_cons_self, rfl⟩
  · exact ⟨c, List.mem_cons_of_mem _ hc, rfl⟩⟩
theorem rv_weak {W3 : Wd} (h : RV X an e ρ W W1 P) (k : WImp W1 W3) : RV X an e ρ W W3 P := PEimp h fun σ H Q ⟨O, m, q⟩ => ⟨O, m, fun v H' m' s p => q v H' (m'.weak k) s p⟩
end
end TF
set_option Elab.async false
set_option linter.all false
set_option maxRecDepth 100000
set_option maxHeartbeats 4000000
/-! W22: what is drawn. -/
namespace TF
open PySem PySem.Spec PyProof.Rows L2
open PyProof.Rows (envOfC)
theorem bits_small {c : Nat} (h : c ≤ 8) : ((Builtin.Int.intBits ((c : Nat) : Int) : Nat) : Int) / 30 = 0 := by
  have b := PyProof.Rows.intBits_le (k := 4) (a := ((c : Nat) : Int)) (by
    rw [Int.natAbs_natCast]
    have e : (2 : Nat) ^ 4 = 16 := by decide
    omega)
  omega
structure DQ where
  p : Addr
  n : Nat
  c : Nat
abbrev purW (K : PySem.W.Frag) (p : Addr) (n : Nat) : Wd := [(p, lstM (purP K n))]
section
variable {P : Program} {w : World} {K : PySem.W.Frag} {mg : Str → Option Value} {base : Heap} (T : TF.Txt K mg)
include T
theorem mixed_ok {n : Nat} (hn : n < 900000000) : SpOk (pureSp (ι := Int × Int) (fun q => [dat K (.int q.1), dat K (.int q.2)]) (fun q => 0 ≤ q.1 ∧ q.1 < 2147483647 ∧ 0 ≤ q.2 ∧ q.2 < 1000000000) (fun _ => inP K 0 2147483587)) [inP K 0 2147483647, inP K 0 ((n : Int) + 1)] (inP K 0 2147483587) := fun O H vs Q l s k => by
  cases s with
  | cons a s =>
    cases s with
    | cons b s =>
      cases s
      obtain ⟨⟨i, hi⟩, pa⟩ := a
      obtain ⟨⟨j, hj⟩, pb⟩ := b
      exact ⟨(i, j), O, l, WOk.nil, .cons pa (.cons pb .nil), ⟨hi.1, hi.2, hj.1, by show j < 1000000000; omega⟩, fun v H' sb _ p => k v H' sb.nil p⟩
theorem w_L_draw : O_L_draw P w K mg base CX0 2 (mkSp (ι := DQ) (fun q => [refP q.p, dat K (.int (q.c : Int))]) (fun q => purW K q.p q.n) (fun q => purW K q.p (q.n + 1)) (fun q => 1 ≤ q.c ∧ q.c ≤ 8 ∧ q.n < 900000000) (fun q => inP K 0 (q.c : Int))) := by
  refine okM T.f_L_draw (N := N_L_draw) (by constructor <;> first | rfl | decide | decide +kernel) (fun _ => rfl) fun cdv A1 outer s H E hr q hq an hO => ?_
  obtain ⟨p, n, c⟩ := q
  obtain ⟨c1, c8, hn⟩ := hq
  have c1 : 1 ≤ c := c1
  have c8 : c ≤ 8 := c8
  have hn : n < 900000000 := hn
  have hend : ∀ m, m ≤ n + 1 → WEnd an [(p, lstM (purP K m))] (purW K p (n + 1)) := fun m hm => ⟨by simp, fun d hd => by
    have hd : d = (p, lstM (purP K (n + 1))) := List.mem_singleton.mp hd
    subst hd
    exact ⟨hO (p, lstM (purP K n)) (List.mem_singleton.mpr rfl), (p, lstM (purP K m)), List.mem_singleton.mpr rfl, rfl, pur_imp hm⟩⟩
  refine rs_cons (N1 := fun ρ1 W1 => ρ1 = [some (refP p), some (dat K (.int (c : Int))), none, none, none] ∧ W1 = purW K p n) (rs_ifX (rx_gtE (K := K) (lo := 0) (hi := 10 ^ 600) (rv_ixO (K := K) (b := p) 0 (j := 0) (rv_var 0) rv_int rfl rfl) (rv_int (K := K))) ?_ (rs_nil ⟨rfl, rfl⟩)) ?_
  · refine rs_set 2 (rv_modE (K := K) (j := (c : Int)) (lo := 0) (hi := 10 ^ 600) (by omega) (rv_ixO (K := K) (b := p) 0 (j := 0) (rv_var 0) rv_int rfl rfl) (rv_var 1)) ?_
    refine rs_setI (K := K) (P := inP K 0 (10 ^ 600)) (b := p) 0 (j := 0) (rv_fdivE (K := K) (j := (c : Int)) (hi := 10 ^ 600) (by omega) (by omega) (rv_ixO (K := K) (b := p) 0 (j := 0) (rv_var 0) rv_int rfl rfl) (rv_var 1)) (rv_var 0) rv_int rfl (of_decide_eq_true rfl) ?_
    exact rs_endW (rv_var 2) (hend n (by omega))
  rintro ρ1 W1 ⟨rfl, rfl⟩
  refine rs_set 3 (rv_int (K := K)) ?_
  refine rs_cons (rs_for (ri_range (K := K) (n := 1) T.n_range (rv_to (rv_add (rv_int (K := K)) (rv_fdiv (j := 30) ⟨by decide, by decide⟩ (rv_bits (rv_var 1)) rv_int)) ?_) (by decide)) (pg_one 4) (fun i hi => gk_name)
    (fun j ρ W => (∃ x3 x4 : Option SP, ρ = [some (refP p), some (dat K (.int (c : Int))), none, x3, x4] ∧ ((j = 0 → x3 = some (dat K (.int 0))) ∧ (j = 1 → x3 = some (inP K 0 2147483587)))) ∧ W = purW K p (n + j)) ⟨⟨_, _, rfl, fun _ => rfl, (fun h => nomatch h)⟩, rfl⟩ ?_) ?_
  · rw [bits_small c8]
    rfl
  · rintro j _ _ hj ⟨⟨x3, x4, rfl, h0, _⟩, rfl⟩
    have ej : j = 0 := by omega
    subst ej
    have h0 := h0 rfl
    subst h0
    refine rs_setI (K := K) (P := inP K 0 ((n : Int) + 1)) (b := p) 0 (j := 2) (rv_sub (rv_addE2 (K := K) (j := 1) (lo := 0) (hi := (n : Int)) (rv_ixO (K := K) (b := p) 0 (j := 2) (rv_var 0) rv_int rfl rfl) rv_int) (in_mono (by decide) (Int.le_refl _))) (rv_var 0) rv_int rfl (of_decide_eq_true rfl) ?_
    refine rs_set 3 (rv_sub (rv_addE (K := K) (i := 0 * 2147483587) (rv_mul (by left; constructor <;> decide) (rv_var 3) rv_int) (rv_L_mixed T (w_L_mixed T) (mixed_ok T hn) (hr.mono (by omega)) (ra_cons (rv_ixO (K := K) (b := p) 0 (j := 1) (rv_var 0) rv_int rfl rfl) (ra_cons (rv_ixO (K := K) (b := p) 0 (j := 2) (rv_var 0) rv_int rfl rfl) ra_nil)))) (P' := inP K 0 2147483587) ?_) ?_
    · exact in_mono (by decide) (by decide)
    · exact rs_nil ⟨⟨_, _, rfl, (fun h => nomatch h), fun _ => rfl⟩, rfl⟩
  rintro ρ1 W1 ⟨⟨x3, x4, rfl, _, h1⟩, rfl⟩
  have h1 := h1 rfl
  subst h1
  exact rs_endW (rv_modE (K := K) (j := (c : Int)) (lo := 0) (hi := 2147483587) (by omega) (rv_var 3) (rv_var 1)) (hend (n + 1) (by omega))
end
end TF
set_option Elab.async false
set_option linter.all false
set_option maxRecDepth 100000
set_option maxHeartbeats 4000000
/-! W23: parts that are drawn. -/
namespace TF
open PySem PySem.Spec PyProof.Rows L2
open PyProof.Rows (envOfC)
def partP (K : PySem.W.Frag) (x : Str) : SP := exP (ι := { c : Int // 1 ≤ c ∧ c ≤ 2 }) fun c => dat K (partD (x, c.1))
structure OkP (names : List Str) (ps : List (Str × Int)) : Prop where
  sub : (ps.map Prod.fst).Sublist names
  cnt : ∀ p, p ∈ ps → 1 ≤ p.2 ∧ p.2 ≤ 2
def partsP (K : PySem.W.Frag) (names : List Str) : SP := exP (ι := { ps : List (Str × Int) // OkP names ps }) fun ps => dat K (partsD ps.1)
theorem parts_all {K : PySem.W.Frag} {H : Hp} : ∀ {sub : List Str} {vs : List V}, Sat (sub.map (partP K)) H vs → ∃ ps : List (Str × Int), ps.map Prod.fst = sub ∧ (∀ p, p ∈ ps → 1 ≤ p.2 ∧ p.2 ≤ 2) ∧ Sat ((ps.map partD).map (dat K)) H vs
  | [], _, h => by
    cases h
    exact ⟨[], rfl, fun p hp => (by simp at hp), .nil⟩
  | x :: sub, _, h => by
    cases h with
    | cons h1 h2 =>
      obtain ⟨ps, e, c, s⟩ := parts_all h2
      obtain ⟨⟨i, hi⟩, p⟩ := h1
      refine ⟨(x, i) :: ps, by rw [List.map_cons, e], fun q hq => ?_, .cons p s⟩
      rcases List.mem_cons.mp hq with e | hq
      · rw [e]
        exact hi
      · exact c q hq
theorem parts_imp {K : PySem.W.Frag} {names sub : List Str} (h : sub.Sublist names) : Imp (tupP K (sub.map (partP K))) (partsP K names) := fun H v ⟨a, xs, e, hs, s⟩ => by
  obtain ⟨ps, e2, c, s2⟩ := parts_all s
  exact ⟨⟨ps, by rw [e2]; exact h, c⟩, tupP_dat ⟨a, xs, e, hs, s2⟩⟩
theorem part_imp {K : PySem.W.Frag} {x : Str} : Imp (tupP K [dat K (.str x), inP K 1 3]) (partP K x) := fun H v ⟨a, xs, e, hs, s⟩ => by
  cases s with
  | cons h1 s =>
    cases s with
    | cons h2 s =>
      cases s
      obtain ⟨⟨i, hi⟩, p⟩ := h2
      exact ⟨⟨i, hi.1, by omega⟩, tupP_dat ⟨a, _, e, hs, .cons h1 (.cons p .nil)⟩⟩
theorem pur_end {K : PySem.W.Frag} {an : An} {p : Addr} {n m k : Nat} (hO : ∀ c, c ∈ purW K p n → c.1 ∈ an.O0) (h : m ≤ k) : WEnd an [(p, lstM (purP K m))] (purW K p k) := ⟨by simp, fun d hd => by
  have hd : d = (p, lstM (purP K k)) := List.mem_singleton.mp hd
  subst hd
  exact ⟨hO (p, lstM (purP K n)) (List.mem_singleton.mpr rfl), (p, lstM (purP K m)), List.mem_singleton.mpr rfl, rfl, pur_imp h⟩⟩
section
variable {X : Cx} {an : An} {K : PySem.W.Frag} {ρ : TF.Env} {W W1 W2 W' Wz Wr : Wd} {a b o e : Expr} {pos pp pos' p' : Pos} {i j lo hi : Int} {P P1 P2 R : SP}
theorem rv_fdivE2 (h0 : 0 < j) (hj : j < 1073741824) (ha : RV X an a ρ W W1 (inP K 0 hi)) (hb : RV X an b ρ W1 W2 (dat K (.int j))) : RV X an (.BinOp a .FloorDiv b pos) ρ W W2 (inP K 0 (hi / j + 1)) :=
  rv_op op_fdiv (k_in fun q h1 h2 => k_imp (k_IC (K := K) (d := .int (q / j)) ⟨h0, hj⟩ fun _ => .int _) (in_of (by
    have h3 := Int.ediv_nonneg h1 (by omega : (0 : Int) ≤ j)
    have h4 := Int.ediv_le_ediv h0 (Int.le_of_lt h2)
    omega))) ha hb
/-- a draw -/
theorem rv_draw {p : Addr} {n c : Nat} (T : TF.Txt X.K X.mg) (hr : Room 2 X.A) (c1 : 1 ≤ c) (c8 : c ≤ 8) (hn : n < 900000000) (ho : RV X an o ρ W W (refP p)) (hc : RV X an e ρ W (purW X.K p n ++ Wr) (dat X.K (.int (c : Int)))) (hg : Gl X "_law_draw" := by rfl) (he : starEach [o, e] X.env = (false, eval o X.env) :: starEach [e] X.env := by rfl) (he2 : starEach [e] X.env = (false, eval e X.env) :: starEach [] X.env := by rfl) (hpl : (backTo pos (starEach [e] X.env)).any (·.1) = false := by rfl) :
    RV X an (.Call (.Name "_law_draw" pp) [o, e] [] pos) ρ W (purW X.K p (n + 1) ++ Wr) (inP X.K 0 (c : Int)) :=
  rm_L_draw T (w_L_draw T) (mkSp_ok (⟨p, n, c⟩ : DQ) ⟨c1, c8, hn⟩) rfl hr (ra_cons ho (ra_cons hc ra_nil he2) he) hg he hpl
end
structure PQ where
  p : Addr
  n : Nat
  names : List Str
structure PQok (q : PQ) : Prop where
  n : q.n < 800000000
  l1 : 1 ≤ q.names.length
  l5 : q.names.length ≤ 5
section
variable {P : Program} {w : World} {K : PySem.W.Frag} {mg : Str → Option Value} {base : Heap} (T : TF.Txt K mg)
include T
theorem w_L_parts : O_L_parts P w K mg base CX0 3 (mkSp (ι := PQ) (fun q => [refP q.p, dat K (strsD q.names), dat K (.int 3)]) (fun q => purW K q.p q.n) (fun q => purW K q.p (q.n + 10)) PQok (fun q => partsP K q.names)) := by
  refine okM T.f_L_parts (N := N_L_parts) (by constructor <;> first | rfl | decide | decide +kernel) (fun _ => rfl) fun cdv A1 outer s H E hr q hq an hO => ?_
  obtain ⟨p, n, names⟩ := q
  obtain ⟨hn, l1, l5⟩ := hq
  have hn : n < 800000000 := hn
  have l5 : names.length ≤ 5 := l5
  refine rs_new 3 (rn_lst (Ps := []) ra_nil) fun b hb => ?_
  refine rs_cons (rs_for (ri_listM PyData.str names "" (rv_var 1)) (pg_one 4) (fun i hi => gk_name)
    (fun j ρ W => ∃ (sub : List Str) (m : Nat) (x4 : Option SP), sub.Sublist (names.take j) ∧ m ≤ n + 2 * j ∧ ρ = [some (refP p), some (dat K (strsD names)), some (dat K (.int 3)), some (refP b), x4] ∧ W = [(p, lstM (purP K m)), (b, lstM (sub.map (partP K)))]) ⟨[], n, _, List.nil_sublist _, by omega, rfl, rfl⟩ ?_) ?_
  · rintro j _ _ hj ⟨sub, m, x4, hs, hm, rfl, rfl⟩
    have hl := hs.length_le
    rw [List.length_take] at hl
    have e := snoc_take names "" hj
    refine rs_one (rs_ifX (W' := [(p, lstM (purP K (m + 1))), (b, lstM (sub.map (partP K)))]) (rx_w (rwx_and (rx_eqE (K := K) (lo := 0) (hi := 3) (rv_draw (n := m) (c := 3) (Wr := [(b, lstM (sub.map (partP K)))]) T hr (by decide) (by decide) (by omega) (rv_var 0) (rv_int (i := 3))) (rv_int (i := 0))) (rwx_and1 (rx_of (rt_lt (K := K) (rv_lenO (K := K) 1 T.n_len (rv_var 3) rfl) (rv_var 2)))) WImp.refl)) ?_ ?_)
    · refine rs_app (P := partP K (names.getD j "")) (b := b) 1 (rv_var 3) (rv_sub (rv_tup (ra_cons (rv_var 4) (ra_cons (rv_addE (K := K) (i := 1) rv_int (rv_fdivE2 (K := K) (j := 6) (hi := 8) (by decide) (by decide) (rv_draw (n := m + 1) (c := 8) (Wr := [(b, lstM (sub.map (partP K)))]) T hr (by decide) (by decide) (by omega) (rv_var 0) (rv_int (i := 8))) rv_int)) ra_nil))) part_imp) rfl rfl ?_ (by rw [List.length_map]; omega)
      refine rs_nil ⟨sub ++ [names.getD j ""], m + 2, _, by rw [e]; exact hs.append (List.Sublist.refl _), by omega, rfl, ?_⟩
      rw [List.map_append]
      rfl
    · exact rs_nil ⟨sub, m + 1, _, by rw [e]; exact hs.trans (List.sublist_append_left _ _), by omega, rfl, rfl⟩
  rintro ρ1 W1 ⟨sub, m, x4, hs, hm, rfl, rfl⟩
  rw [List.take_length] at hs
  refine rs_freeT (W := [(p, lstM (purP K m))]) 3 hb ?_
  exact rs_endW (rv_sub (rv_tupleOf T.n_tuple (rv_sub (rv_var 3) fun _ _ => lstT_P)) (parts_imp hs)) (pur_end (m := m) (k := n + 10) hO (by omega))
end
end TF
set_option Elab.async false
set_option linter.all false
set_option maxRecDepth 100000
set_option maxHeartbeats 4000000
/-! M15: a loop over range(e), e known by its range alone. -/
namespace TF
open PySem PySem.Spec PyProof.Rows L2
section
variable {X : Cx} {an : An} {K : PySem.W.Frag} {ρ : TF.Env} {W W' Wz : Wd} {R : SP} {N : TF.Env → Wd → Prop} {body : List Stmt} {e tg : Expr} {pos p cpos : Pos} {g : TG} {js : List Nat} {f : Nat → TF.Env → TF.Env} {lo hi : Nat}
theorem rs_forR (hm : X.mg "range" = none) (he : RV X an e ρ W W' (inP K (lo : Int) (hi : Int))) (hh : hi ≤ 1000) (hg : PG X tg g) (hk : ∀ i : Nat, GOk g (dat K (.int (i : Int))) js (f i)) (I : Nat → TF.Env → Wd → Prop) (h0 : I 0 ρ W')
    (hs : ∀ i ρ' W1, i < hi → I i ρ' W1 → RSs X an body (f i ρ') W1 (I (i + 1)) R Wz) (hgl : Gl X "range" := by rfl) (hst : starEach [e] X.env = (false, eval e X.env) :: starEach [] X.env := by rfl) (hs1 : starEach [e] X.env = [(false, eval e X.env)] := by rfl)
    (hp : PassesOwn (model X.prog X.w) X.A X.env X.xe := by exact PassesOwn.never) (hc : X.calm = true := by rfl) (hf : ∀ x, foldedSetIterable (.Call (.Name "range" p) [e] [] cpos) X.env x = pure x := by intro _; rfl) :
    RS X an (.For tg (.Call (.Name "range" p) [e] [] cpos) body [] pos) ρ W (fun ρ1 W1 => ∃ n : Nat, lo ≤ n ∧ n < hi ∧ I n ρ1 W1) R Wz :=
  PSimp (ps_for hp hc (pi_range1 hgl hm (ra_cons he ra_nil hst) hs1) hg (PSsex (ι := Nat × TF.Env × Wd) fun q => PSsifp (p := q.1 < hi ∧ I q.1 q.2.1 q.2.2) fun h => hs q.1 q.2.1 q.2.2 h.1 h.2) hf) fun D σ H ⟨O, m, nx, rt⟩ => ⟨O, m, fun vs H' m' ss p1 => by
    cases p1 with
    | cons q t =>
      cases t
      obtain ⟨⟨i, hi0, hi1⟩, q⟩ := q
      have i0 : 0 ≤ i := by omega
      obtain ⟨n, rfl⟩ := Int.eq_ofNat_of_zero_le i0
      have hn : n < hi := by omega
      refine ⟨(n : Int), by rw [dat_int q], by omega, by omega, ?_⟩
      have w0 := walk_range (n := ((n : Nat) : Int).toNat) (lo := 0)
      rw [Int.toNat_natCast] at w0 ⊢
      refine for_it (w0.mono (Y' := YFr H' O fun i => dat K (.int (i : Int))) (fun _ _ => trivial) fun i H2 y H3 hi g yy => ?_) (g := g) (tb := fun D σ H => ∃ i : Nat × TF.Env × Wd, (i.1 < hi ∧ I i.1 i.2.1 i.2.2) ∧ tS an (f i.1 i.2.1) i.2.2 (I (i.1 + 1)) R Wz D σ H) (D := D) (fun i σ' H1 => ∃ ρ' W1 O1, I i ρ' W1 ∧ MX an O1 ρ' W1 σ' H1 ∧ Same (mn H' O) (mn H1 O1)) ⟨ρ, W', O, h0, m', Same.refl _⟩ (fun i σ' H1 _ ⟨_, _, _, _, _, s1⟩ => s1.trans mn_le) ?_ ?_
      · obtain ⟨e3, ey⟩ := yy
        subst e3 ey
        refine ⟨Same.refl _, fun O' l' s' => ?_⟩
        have e : (0 : Int) + (i : Int) = (i : Int) := by omega
        show Dp K _ (V.int ((0 : Int) + (i : Int))) (.int (i : Int))
        rw [e]
        exact .int _
      · rintro i x σ' H1 H2 hin ⟨ρ', W1, O1, hI, m1, s1⟩ ⟨s2, py⟩
        have m2 := m1.same s2
        refine hk i O1 ρ' σ' H2 x _ m2.lv m2.ds (py O1 m1.lv s1) fun xs dd => ?_
        exact ⟨(i, ρ', W1), ⟨by show i < hi; omega, hI⟩, O1, m2.re dd, fun ρ2 W2 σ2 H3 O3 h3 m3 s3 => ⟨ρ2, W2, O3, h3, m3, (s1.trans (mn_mono s2)).trans s3⟩, rt⟩
      · rintro σ' H1 ⟨ρ', W1, O1, hI, m1, s1⟩
        exact nx ρ' W1 σ' H1 O1 ⟨n, by omega, hn, hI⟩ m1 (ss.trans s1)⟩
end
end TF
set_option Elab.async false
set_option linter.all false
set_option maxRecDepth 100000
set_option maxHeartbeats 4000000
/-! W24: the even firings that are drawn. -/
namespace TF
open PySem PySem.Spec PyProof.Rows L2
open PyProof.Rows (envOfC)
theorem okp_one {names : List Str} {x : Str} {c : Int} (h : x ∈ names) (c1 : 1 ≤ c) (c2 : c ≤ 2) : OkP names [(x, c)] := ⟨List.singleton_sublist.mpr h, fun p hp => by
  rw [List.mem_singleton.mp hp]
  exact ⟨c1, c2⟩⟩
theorem okp_imp {K : PySem.W.Frag} {names : List Str} {ps : List (Str × Int)} (h : OkP names ps) : Imp (dat K (partsD ps)) (partsP K names) := fun H v p => ⟨⟨ps, h⟩, p⟩
theorem mem_str {K : PySem.W.Frag} {names : List Str} (d : { d : PyData // d ∈ names.map PyData.str }) : ∃ x, x ∈ names ∧ d.1 = .str x := by
  obtain ⟨x, hx, e⟩ := List.mem_map.mp d.2
  exact ⟨x, hx, e.symm⟩
section
variable {X : Cx} {an : An} {K : PySem.W.Frag} {ρ : TF.Env} {W W' Wr : Wd} {a o : Expr} {pos pp pos' p' : Pos} {names : List Str}
/-- names[draw(len(names))] -/
theorem rv_some {a2 : Expr} {p : Addr} {n : Nat} {lp dp : Pos} (T : TF.Txt X.K X.mg) (hr : Room 2 X.A) (l1 : 1 ≤ names.length) (l5 : names.length ≤ 5) (hn : n < 900000000) (ho : RV X an o ρ W W (refP p)) (ha : RV X an a ρ W W (dat X.K (strsD names))) (ha2 : RV X an a2 ρ W (purW X.K p n ++ Wr) (dat X.K (strsD names))) (hg : Gl X "_law_draw" := by rfl) (hgl : Gl X "len" := by rfl)
    (he : starEach [o, .Call (.Name "len" lp) [a2] [] pos'] X.env = (false, eval o X.env) :: starEach [.Call (.Name "len" lp) [a2] [] pos'] X.env := by rfl) (he2 : starEach [.Call (.Name "len" lp) [a2] [] pos'] X.env = (false, eval (.Call (.Name "len" lp) [a2] [] pos') X.env) :: starEach [] X.env := by rfl) (hpl : (backTo p' (starEach [.Call (.Name "len" lp) [a2] [] pos'] X.env)).any (·.1) = false := by rfl)
    (hs1 : starEach [a2] X.env = (false, eval a2 X.env) :: starEach [] X.env := by rfl) (hpl1 : (backTo pos' (starEach [] X.env)).any (·.1) = false := by rfl) (hs : PlainIx (.Call (.Name "_law_draw" dp) [o, .Call (.Name "len" lp) [a2] [] pos'] [] p') := by exact fun _ _ => rfl) :
    RV X an (.Subscript a (.Call (.Name "_law_draw" dp) [o, .Call (.Name "len" lp) [a2] [] pos'] [] p') pos) ρ W (purW X.K p (n + 1) ++ Wr) (memP X.K (names.map PyData.str)) := by
  refine rv_ixE (K := X.K) (ds := names.map PyData.str) ha (rv_sub (rv_draw (n := n) (c := names.length) T hr l1 (by omega) hn ho (rv_to (rv_lenLD (K := X.K) T.n_len ha2 hgl hs1 hpl1) ?_) hg he he2 hpl) ?_) hs
  · rw [List.length_map]
  · rw [List.length_map]
    exact Imp.refl
end
section
variable {P : Program} {w : World} {K : PySem.W.Frag} {mg : Str → Option Value} {base : Heap} (T : TF.Txt K mg)
include T
theorem w_L_even : O_L_even P w K mg base CX0 3 (mkSp (ι := PQ) (fun q => [refP q.p, dat K (strsD q.names)]) (fun q => purW K q.p q.n) (fun q => purW K q.p (q.n + 4)) PQok (fun q => lstP K [partsP K q.names, partsP K q.names])) := by
  refine okM T.f_L_even (N := N_L_even) (by constructor <;> first | rfl | decide | decide +kernel) (fun _ => rfl) fun cdv A1 outer s H E hr q hq an hO => ?_
  obtain ⟨p, n, names⟩ := q
  obtain ⟨hn, l1, l5⟩ := hq
  have hn : n < 800000000 := hn
  have l1 : 1 ≤ names.length := l1
  have l5 : names.length ≤ 5 := l5
  refine rs_set 2 (rv_some (Wr := []) (p := p) (n := n) T hr l1 l5 (by omega) (rv_var 0) (rv_var 1) (rv_var 1)) ?_
  refine rs_open (f := fun d : { d : PyData // d ∈ names.map PyData.str } => dat K d.1) 2 fun d => ?_
  obtain ⟨x, hx, ex⟩ := mem_str (K := K) d
  rw [ex]
  refine rs_set 3 (rv_some (Wr := []) (p := p) (n := n + 1) T hr l1 l5 (by omega) (rv_var 0) (rv_var 1) (rv_var 1)) ?_
  refine rs_open (f := fun d : { d : PyData // d ∈ names.map PyData.str } => dat K d.1) 3 fun d => ?_
  obtain ⟨y, hy, ey⟩ := mem_str (K := K) d
  rw [ey]
  refine rs_set 4 (rv_draw (Wr := []) (n := n + 1 + 1) (c := 3) T hr (by decide) (by decide) (by omega) (rv_var 0) (rv_int (i := 3))) ?_
  refine rs_open (f := fun i : { i : Int // 0 ≤ i ∧ i < 3 } => dat K (.int i.1)) 4 fun i => ?_
  obtain ⟨i, i0, i3⟩ := i
  refine rs_when (v := decide (i = 0) || decide (x = y)) (rt_w (rw_or (rt_eqI (K := K) (rv_var 4) rv_int) fun _ => rw_or1 (rt_eqS (K := K) (rv_var 2) (rv_var 3)))) (fun _ => ?_) fun hv => ?_
  · refine rs_endW (rv_sub (rv_lst (Ps := [partsP K names, partsP K names]) (ra_cons (rv_sub (rv_tupD (K := K) (ds := [partD (x, 1)]) (ra_cons (rv_tupD (K := K) (ds := [.str x, .int 1]) (ra_cons (rv_var 2) (ra_cons rv_int ra_nil))) ra_nil)) (okp_imp (okp_one hx (by decide) (by decide)))) (ra_cons (rv_sub (rv_tupD (K := K) (ds := [partD (y, 1)]) (ra_cons (rv_tupD (K := K) (ds := [.str y, .int 1]) (ra_cons (rv_var 3) (ra_cons rv_int ra_nil))) ra_nil)) (okp_imp (okp_one hy (by decide) (by decide)))) ra_nil))) fun H v z => lstT_P z) (pur_end (n := n) (m := n + 1 + 1 + 1) (k := n + 4) hO (by omega))
  have hv : ¬ i = 0 := by
    intro e
    rw [decide_eq_true e] at hv
    cases hv
  have hsub : OkP names ((names.filter fun z => decide (z ∈ [x, y])).map fun z => (z, 1)) := ⟨by
    rw [List.map_map]
    have e : (Prod.fst ∘ fun z : Str => (z, (1 : Int))) = id := rfl
    rw [e, List.map_id]
    exact List.filter_sublist, fun q hq => by
    obtain ⟨z, _, rfl⟩ := List.mem_map.mp hq
    exact ⟨Int.le_refl 1, by show (1 : Int) ≤ 2; decide⟩⟩
  refine rs_set 5 (rv_sub (rv_tupleOf T.n_tuple (rv_sub (rv_lc (n := names.length) (bt := fun i => (fun z => decide (z ∈ [x, y])) (names.getD i "")) (E := fun i => (fun z => dat K (partD (z, 1))) (names.getD i "")) (own := [("_law_name", 6)]) (ri_listM PyData.str names "" (rv_var 1)) (fun s H C cl fp => pg_one 6) (fun i hi => gk_name) (by decide)
    (fun s H C cl fp i W hi => rts_one (rt_inStrs (ss := [x, y]) (.inr rfl) (rv_var 6) (rv_tupD (ds := [.str x, .str y]) (ra_cons (rv_var 2) (ra_cons (rv_var 3) ra_nil)))))
    (fun s H C cl fp j W hj _ => rv_tupD (ds := [.str (names.getD j ""), .int 1]) (ra_cons (rv_var 6) (ra_cons rv_int ra_nil)))) fun H v z => lstT_P (K := K) z)) (P' := partsP K names) ?_) ?_
  · rw [selP_items (d := ("" : Str)) names (fun z => decide (z ∈ [x, y])) (fun z => dat K (partD (z, 1)))]
    intro H v z
    refine okp_imp hsub H v (tupP_dat ?_)
    rw [List.map_map, List.map_map]
    exact z
  refine rs_set 7 (rv_some (Wr := []) (p := p) (n := n + 1 + 1 + 1) T hr l1 l5 (by omega) (rv_var 0) (rv_var 1) (rv_var 1)) ?_
  refine rs_open (f := fun d : { d : PyData // d ∈ names.map PyData.str } => dat K d.1) 7 fun d => ?_
  obtain ⟨u, hu, eu⟩ := mem_str (K := K) d
  rw [eu]
  have hl : ∀ k : Nat, k < 2 → i - 1 = (k : Int) → RSs (cxOf CX0 P w K mg base N_L_even "_law_even" (defScope s_L_even) (He.ga K "_law_even") cdv A1 outer s H E).nox an [(defBody s_L_even).getD 6 (.Pass ⟨0, 0, 0, 0⟩)]
      [some (refP p), some (dat K (strsD names)), some (dat K (.str x)), some (dat K (.str y)), some (dat K (.int i)), some (partsP K names), none, some (dat K (.str u))] (purW K p (n + 1 + 1 + 1 + 1)) (fun _ W => WEnd an W (purW K p (n + 4)) ∧ ∀ H, (lstP K [partsP K names, partsP K names]).p H .non) (lstP K [partsP K names, partsP K names]) (purW K p (n + 4)) := fun k hk ek => by
    refine rs_endW (rv_ixL (K := K) (Ps := [lstP K [partsP K names, partsP K names], lstP K [partsP K names, partsP K names]]) (k := k) ?_ (rv_sub (rv_lst (Ps := [lstP K [partsP K names, partsP K names], lstP K [partsP K names, partsP K names]]) (ra_cons (rv_sub (rv_lst (Ps := [partsP K names, partsP K names]) (ra_cons (rv_var 5) (ra_cons (rv_sub (rv_tupD (K := K) (ds := [partD (u, 2)]) (ra_cons (rv_tupD (K := K) (ds := [.str u, .int 2]) (ra_cons (rv_var 7) (ra_cons rv_int ra_nil))) ra_nil)) (okp_imp (okp_one hu (by decide) (by decide)))) ra_nil))) fun H v z => lstT_P z)
      (ra_cons (rv_sub (rv_lst (Ps := [partsP K names, partsP K names]) (ra_cons (rv_sub (rv_tupD (K := K) (ds := [partD (u, 2)]) (ra_cons (rv_tupD (K := K) (ds := [.str u, .int 2]) (ra_cons (rv_var 7) (ra_cons rv_int ra_nil))) ra_nil)) (okp_imp (okp_one hu (by decide) (by decide)))) (ra_cons (rv_var 5) ra_nil))) fun H v z => lstT_P z) ra_nil))) fun H v z => lstT_P z) (rv_to (rv_subI (rv_var 4) rv_int) (by rw [ek]))) (pur_end (n := n) (m := n + 1 + 1 + 1 + 1) (k := n + 4) hO (by omega))
    match k, hk with
    | 0, _ => rfl
    | 1, _ => rfl
  by_cases e1 : i = 1
  · exact hl 0 (by decide) (by omega)
  · exact hl 1 (by decide) (by omega)
end
end TF
set_option Elab.async false
set_option linter.all false
set_option maxRecDepth 100000
set_option maxHeartbeats 4000000
/-! D5: the nets that are drawn, as data. -/
namespace TF
open PySem PySem.Spec PyProof.Rows L2
def base5 : List Str := ["pa", "b", "c2", "dd", "e"]
def tnS (k : Nat) : Str := ("t" : Str) ++ Str.ofString (toString ((k : Nat) : Int))
theorem okn (x : Str) (h : (decide (1 ≤ x.cps.size) && decide (x.cps.size ≤ 8) && !decide (x ∈ (["place", "fire", "as"] : List Str)) && decide (x.cps.getD 0 0 ∈ smallS.cps.toList) && (List.range x.cps.size).all fun i => decide (x.cps.getD i 0 ∈ signS.cps.toList)) = true) : OkName x := by
  simp only [Bool.and_eq_true, Bool.not_eq_true', List.all_eq_true] at h
  obtain ⟨⟨⟨⟨h1, h2⟩, h3⟩, h4⟩, h5⟩ := h
  exact ⟨of_decide_eq_true h1, of_decide_eq_true h2, of_decide_eq_false h3, of_decide_eq_true h4, fun i hi => of_decide_eq_true (h5 i (List.mem_range.mpr hi))⟩
theorem base_ok : ∀ x, x ∈ base5 → OkName x := fun x h => by
  rcases List.mem_cons.mp h with rfl | h
  · exact okn _ (by decide +kernel)
  rcases List.mem_cons.mp h with rfl | h
  · exact okn _ (by decide +kernel)
  rcases List.mem_cons.mp h with rfl | h
  · exact okn _ (by decide +kernel)
  rcases List.mem_cons.mp h with rfl | h
  · exact okn _ (by decide +kernel)
  rw [List.mem_singleton.mp h]
  exact okn _ (by decide +kernel)
theorem base_nd : base5.Nodup := by decide +kernel
theorem tn_is : ∀ k, k < 7 → OkName (tnS k) ∧ tnS k ≠ "extra" ∧ ("t" : Str).length + (Str.ofString (toString ((k : Nat) : Int))).length ≤ 1000
  | 0, _ => ⟨okn _ (by decide +kernel), by decide +kernel, by decide +kernel⟩
  | 1, _ => ⟨okn _ (by decide +kernel), by decide +kernel, by decide +kernel⟩
  | 2, _ => ⟨okn _ (by decide +kernel), by decide +kernel, by decide +kernel⟩
  | 3, _ => ⟨okn _ (by decide +kernel), by decide +kernel, by decide +kernel⟩
  | 4, _ => ⟨okn _ (by decide +kernel), by decide +kernel, by decide +kernel⟩
  | 5, _ => ⟨okn _ (by decide +kernel), by decide +kernel, by decide +kernel⟩
  | 6, _ => ⟨okn _ (by decide +kernel), by decide +kernel, by decide +kernel⟩
  | n + 7, h => by omega
theorem tn_nd7 : ((List.range 7).map tnS).Nodup := by decide +kernel
theorem tn_nd {m : Nat} (h : m ≤ 7) : ((List.range m).map tnS).Nodup := by
  refine List.Nodup.sublist ((List.Sublist.map tnS ?_)) tn_nd7
  have e : List.range m = (List.range 7).take m := by
    rw [List.take_range]
    congr 1
    omega
  rw [e]
  exact List.take_sublist _ _
structure GNet (n : Net) : Prop where
  ok : OkNet n
  nm : ∃ k, 1 ≤ k ∧ k ≤ 5 ∧ n.names = base5.take k
  f1 : 1 ≤ n.firs.length
  f6 : n.firs.length ≤ 6
  fn : ∀ f, f ∈ n.firs → f.name ≠ "extra"
  pc : ∀ p, p ∈ n.places → p.2 ≤ 2
  fp : ∀ f, f ∈ n.firs → OkP n.names f.takes ∧ OkP n.names f.gives
def netP (K : PySem.W.Frag) : SP := exP (ι := { n : Net // GNet n }) fun n => dat K (netD n.1)
/-- a count in a range with its name -/
def rgP (K : PySem.W.Frag) (t : Str × Int × Int) : SP := exP (ι := { c : Int // t.2.1 ≤ c ∧ c ≤ t.2.2 }) fun c => dat K (partD (t.1, c.1))
def Rg (l : List (Str × Int × Int)) (ps : List (Str × Int)) : Prop := Paired (fun t p => t.1 = p.1 ∧ t.2.1 ≤ p.2 ∧ p.2 ≤ t.2.2) l ps
def rgsP (K : PySem.W.Frag) (l : List (Str × Int × Int)) : SP := exP (ι := { ps : List (Str × Int) // Rg l ps }) fun ps => dat K (partsD ps.1)
theorem rg_all {K : PySem.W.Frag} {H : Hp} : ∀ {l : List (Str × Int × Int)} {vs : List V}, Sat (l.map (rgP K)) H vs → ∃ ps, Rg l ps ∧ Sat ((ps.map partD).map (dat K)) H vs
  | [], _, h => by
    cases h
    exact ⟨[], .nil, .nil⟩
  | t :: l, _, h => by
    cases h with
    | cons h1 h2 =>
      obtain ⟨ps, r, s⟩ := rg_all h2
      obtain ⟨⟨i, hi⟩, p⟩ := h1
      exact ⟨(t.1, i) :: ps, .cons ⟨rfl, hi⟩ r, .cons p s⟩
theorem rgs_imp {K : PySem.W.Frag} {l : List (Str × Int × Int)} : Imp (tupP K (l.map (rgP K))) (rgsP K l) := fun H v ⟨a, xs, e, hs, s⟩ => by
  obtain ⟨ps, r, s2⟩ := rg_all s
  exact ⟨⟨ps, r⟩, tupP_dat ⟨a, xs, e, hs, s2⟩⟩
theorem rg_imp {K : PySem.W.Frag} {x : Str} {lo hi : Int} : Imp (tupP K [dat K (.str x), inP K lo hi]) (rgP K (x, lo, hi - 1)) := fun H v ⟨a, xs, e, hs, s⟩ => by
  cases s with
  | cons h1 s =>
    cases s with
    | cons h2 s =>
      cases s
      obtain ⟨⟨i, hi⟩, p⟩ := h2
      exact ⟨⟨i, hi.1, by show i ≤ _ - 1; omega⟩, tupP_dat ⟨a, _, e, hs, .cons h1 (.cons p .nil)⟩⟩
theorem Rg.names : ∀ {l : List (Str × Int × Int)} {ps : List (Str × Int)}, Rg l ps → ps.map Prod.fst = l.map Prod.fst
  | _, _, .nil => rfl
  | _, _, .cons h t => by rw [List.map_cons, List.map_cons, Rg.names t, h.1]
theorem Rg.all {Q : Int → Prop} : ∀ {l : List (Str × Int × Int)} {ps : List (Str × Int)}, Rg l ps → (∀ t, t ∈ l → ∀ c, t.2.1 ≤ c → c ≤ t.2.2 → Q c) → ∀ p, p ∈ ps → Q p.2
  | _, _, .nil, _, p, hp => by simp at hp
  | _, _, .cons h t, k, p, hp => by
    rcases List.mem_cons.mp hp with rfl | hp
    · exact k _ List.mem_cons_self _ h.2.1 h.2.2
    · exact Rg.all t (fun u hu => k u (List.mem_cons_of_mem _ hu)) p hp
/-- a label -/
def labP (K : PySem.W.Frag) : SP := exP (ι := { x : Str // OkName x ∨ x = "" }) fun x => dat K (.str x.1)
structure GFir (names : List Str) (k : Nat) (f : Fir) : Prop where
  nm : f.name = tnS k
  lb : OkName f.label ∨ f.label = ""
  tk : OkP names f.takes
  gv : OkP names f.gives
def firP (K : PySem.W.Frag) (names : List Str) (k : Nat) : SP := exP (ι := { f : Fir // GFir names k f }) fun f => dat K (firD f.1)
theorem fir_imp {K : PySem.W.Frag} {names : List Str} {k : Nat} : Imp (tupP K [dat K (.str (tnS k)), labP K, partsP K names, partsP K names]) (firP K names k) := fun H v ⟨a, xs, e, hs, s⟩ => by
  cases s with
  | cons h1 s =>
    cases s with
    | cons h2 s =>
      cases s with
      | cons h3 s =>
        cases s with
        | cons h4 s =>
          cases s
          obtain ⟨⟨lb, hlb⟩, p2⟩ := h2
          obtain ⟨⟨tk, htk⟩, p3⟩ := h3
          obtain ⟨⟨gv, hgv⟩, p4⟩ := h4
          exact ⟨⟨⟨tnS k, lb, tk, gv⟩, rfl, hlb, htk, hgv⟩, tupP_dat ⟨a, _, e, hs, .cons h1 (.cons p2 (.cons p3 (.cons p4 .nil)))⟩⟩
theorem firs_all {K : PySem.W.Frag} {names : List Str} {H : Hp} : ∀ {ks : List Nat} {vs : List V}, Sat (ks.map (firP K names)) H vs → ∃ fs, Paired (GFir names) ks fs ∧ Sat ((fs.map firD).map (dat K)) H vs
  | [], _, h => by
    cases h
    exact ⟨[], .nil, .nil⟩
  | k :: ks, _, h => by
    cases h with
    | cons h1 h2 =>
      obtain ⟨fs, r, s⟩ := firs_all h2
      obtain ⟨⟨f, hf⟩, p⟩ := h1
      exact ⟨f :: fs, .cons hf r, .cons p s⟩
theorem firs_names {names : List Str} : ∀ {ks : List Nat} {fs : List Fir}, Paired (GFir names) ks fs → fs.map Fir.name = ks.map tnS
  | _, _, .nil => rfl
  | _, _, .cons h t => by rw [List.map_cons, List.map_cons, firs_names t, h.nm]
theorem firs_mem {names : List Str} : ∀ {ks : List Nat} {fs : List Fir}, Paired (GFir names) ks fs → ∀ f, f ∈ fs → ∃ k, k ∈ ks ∧ GFir names k f
  | _, _, .nil, f, h => by simp at h
  | _, _, .cons r t, f, h => by
    rcases List.mem_cons.mp h with rfl | h
    · exact ⟨_, List.mem_cons_self, r⟩
    · obtain ⟨k, hk, g⟩ := firs_mem t f h
      exact ⟨k, List.mem_cons_of_mem _ hk, g⟩
theorem okp_parts {names : List Str} {ps : List (Str × Int)} (h : OkP names ps) : OkParts names ps := ⟨h.sub, fun p hp => by
  have := h.cnt p hp
  omega⟩
theorem take_nd (k : Nat) : (base5.take k).Nodup := base_nd.sublist (List.take_sublist _ _)
def pl5 (names : List Str) : List (Str × Int × Int) := names.map fun x => (x, 0, 2)
theorem pl5_names (names : List Str) : (pl5 names).map Prod.fst = names := by
  unfold pl5
  rw [List.map_map]
  have e : (Prod.fst ∘ fun x : Str => (x, (0 : Int), (2 : Int))) = id := rfl
  rw [e, List.map_id]
theorem net_imp {K : PySem.W.Frag} {k m : Nat} (k1 : 1 ≤ k) (k5 : k ≤ 5) (m1 : 1 ≤ m) (m6 : m ≤ 6) : Imp (tupP K [rgsP K (pl5 (base5.take k)), tupP K ((List.range m).map (firP K (base5.take k)))]) (netP K) := fun H v ⟨a, xs, e, hs, s⟩ => by
  cases s with
  | cons h1 s =>
    cases s with
    | cons h2 s =>
      cases s
      obtain ⟨⟨ps, hps⟩, p1⟩ := h1
      obtain ⟨a2, xs2, e2, hs2, s2⟩ := h2
      obtain ⟨fs, hfs, s3⟩ := firs_all s2
      have p2 := tupP_dat ⟨a2, xs2, e2, hs2, s3⟩
      have hn : ps.map Prod.fst = base5.take k := hps.names.trans (pl5_names _)
      have hlen : (base5.take k).length = k := by
        rw [List.length_take]
        show min k 5 = k
        omega
      have hpl : ps.length = k := by rw [← List.length_map (f := Prod.fst), hn, hlen]
      have hfl : fs.length = m := by rw [← hfs.length, List.length_range]
      have hpc := hps.all (Q := fun c => 0 ≤ c ∧ c ≤ 2) fun t ht c h1 h2 => by
        obtain ⟨x, _, rfl⟩ := List.mem_map.mp ht
        exact ⟨h1, h2⟩
      have hnm : ∀ p, p ∈ ps → p.1 ∈ base5 := fun p hp => List.mem_of_mem_take (hn ▸ List.mem_map.mpr ⟨p, hp, rfl⟩)
      have hf : ∀ f, f ∈ fs → ∃ j, j < 7 ∧ GFir (base5.take k) j f := fun f hf => by
        obtain ⟨j, hj, g⟩ := firs_mem hfs f hf
        exact ⟨j, by have := List.mem_range.mp hj; omega, g⟩
      refine ⟨⟨⟨ps, fs⟩, ⟨⟨fun p hp => ⟨base_ok _ (hnm p hp), (hpc p hp).1, ?_⟩, ?_, ?_, ?_, fun f hfm => ?_, ?_, ?_⟩, ⟨k, k1, k5, hn⟩, ?_, ?_, fun f hfm => ?_, fun p hp => (hpc p hp).2, fun f hfm => ?_⟩⟩, tupP_dat ⟨a, _, e, hs, .cons p1 (.cons p2 .nil)⟩⟩
      · have := (hpc p hp).2
        omega
      · show (ps.map Prod.fst).Nodup
        rw [hn]
        exact take_nd k
      · show 1 ≤ ps.length
        omega
      · show ps.length ≤ 40
        omega
      · obtain ⟨j, hj, g⟩ := hf f hfm
        show OkFir (ps.map Prod.fst) f
        rw [hn]
        exact ⟨by rw [g.nm]; exact (tn_is j hj).1, g.lb, okp_parts g.tk, okp_parts g.gv⟩
      · show (fs.map Fir.name).Nodup
        rw [firs_names hfs]
        exact tn_nd (by omega)
      · show fs.length ≤ 60
        omega
      · show 1 ≤ fs.length
        omega
      · show fs.length ≤ 6
        omega
      · obtain ⟨j, hj, g⟩ := hf f hfm
        rw [g.nm]
        exact (tn_is j hj).2.1
      · obtain ⟨j, hj, g⟩ := hf f hfm
        show OkP (ps.map Prod.fst) f.takes ∧ OkP (ps.map Prod.fst) f.gives
        rw [hn]
        exact ⟨g.tk, g.gv⟩
end TF
set_option Elab.async false
set_option linter.all false
set_option maxRecDepth 100000
set_option maxHeartbeats 4000000
/-! W25: the net that is drawn. -/
namespace TF
open PySem PySem.Spec PyProof.Rows L2
open PyProof.Rows (envOfC)
section
variable {X : Cx} {an : An} {K : PySem.W.Frag} {ρ : TF.Env} {W W1 W2 W' : Wd} {a e eu : Expr} {pos p p2 : Pos} {Ps : List SP} {lo hi i : Int}
/-- xs[:e], e known by its range -/
theorem rv_slE (he : RV X an e ρ W W1 (lstP X.K Ps)) (hu : RV X an eu ρ W1 W2 (inP K lo hi)) : RV X an (.Subscript e (.Slice none (some eu) none p2) pos) ρ W W2 (exP (ι := { i : Int // lo ≤ i ∧ i < hi }) fun u => lstT (cutP Ps none (some u.1))) :=
  PEimp (pe_slice sl_list he po_none (po_some hu)) fun σ H Q ⟨O, m, q⟩ => ⟨O, m, fun x H1 m1 s1 p1 => ⟨O, m1, fun v H3 m3 s3 ⟨⟨u, hu⟩, pv⟩ => ⟨u, dat_int pv, by
    obtain ⟨c, xs, ex, hx, sat⟩ := (lstP X.K Ps).st s3 p1
    subst ex
    have e1 := sat.length
    have sc : Sat (cutP Ps none (some u)) (mn H3 O) (cutV xs none (some u)) := by
      unfold cutP cutV
      rw [e1]
      exact (sat.drop _).take _
    refine ⟨c, xs, rfl, mn_le.seq hx, fun p hp => ?_⟩
    exact q _ _ (m3.same (same_new hp)) ((s1.trans s3).trans (mn_mono (same_new hp))) ⟨⟨u, hu⟩, p, _, rfl, mn_new m3.lv hp, sc.same (mn_mono (same_new hp))⟩⟩⟩⟩
theorem rv_strI (hb : i.natAbs.log2 < 1920) (hm : X.mg "str" = none) (ha : RV X an e ρ W W' (dat K (.int i))) (hg : Gl X "str" := by rfl) (hs : starEach [e] X.env = (false, eval e X.env) :: starEach [] X.env := by rfl) (hpl : (backTo pos (starEach [] X.env)).any (·.1) = false := by rfl) : RV X an (.Call (.Name "str" p) [e] [] pos) ρ W W' (dat K (.str (Str.ofString (toString i)))) :=
  rv_callTy call_str_int (fun O H vs Q l s q => by
    cases s with
    | cons h t =>
      cases t
      exact ⟨i, by rw [dat_int h], hb, q _ H (Same.refl H) (.str _)⟩) hm (ra_cons ha ra_nil hs) (hg := hg) (he := hs) (hpl := hpl)
end
theorem sub_slot {ρ : TF.Env} {P P' : SP} {i : Nat} (hi : ρ[i]? = some (some P)) (k : Imp P P') : Sub (ρ.set i (some P')) ρ := ⟨by rw [List.length_set], fun j Q hQ => by
  by_cases e : i = j
  · subst e
    have hl := (List.getElem?_eq_some_iff.mp hi).1
    rw [List.getElem?_set_self hl] at hQ
    cases hQ
    exact ⟨P, hi, k⟩
  · rw [List.getElem?_set_ne e] at hQ
    exact ⟨Q, hQ, Imp.refl⟩⟩
theorem rs_slot {X : Cx} {an : An} {ρ : TF.Env} {W Wz : Wd} {R P P' : SP} {N : TF.Env → Wd → Prop} {rest : List Stmt} (i : Nat) (k : Imp P P') (h : RSs X an rest (ρ.set i (some P')) W N R Wz) (hi : ρ[i]? = some (some P) := by rfl) : RSs X an rest ρ W N R Wz := rs_weak (sub_slot hi k) WImp.refl h
theorem cut_names {K : PySem.W.Frag} (u : Int) (h1 : 1 ≤ u) (h2 : u < 6) : Imp (lstT (cutP (base5.map fun x => dat K (.str x)) none (some u))) (dat K (strsD (base5.take u.toNat))) := by
  obtain ⟨k, rfl⟩ := Int.eq_ofNat_of_zero_le (show 0 ≤ u by omega)
  have hk : k = 1 ∨ k = 2 ∨ k = 3 ∨ k = 4 ∨ k = 5 := by omega
  intro H v z
  have z2 := lstP_dat (K := K) (ds := (base5.take k).map PyData.str) (H := H) (v := v) (by
    refine lstT_P ?_
    rcases hk with rfl | rfl | rfl | rfl | rfl <;> exact z)
  rw [Int.toNat_natCast]
  exact z2
theorem rg0_imp {K : PySem.W.Frag} {x : Str} : Imp (tupP K [dat K (.str x), inP K 0 3]) (rgP K (x, 0, 2)) := rg_imp
structure NtQ where
  p : Addr
  n : Nat
section
variable {P : Program} {w : World} {K : PySem.W.Frag} {mg : Str → Option Value} {base : Heap} (T : TF.Txt K mg)
include T
theorem w_L_net : O_L_net P w K mg base CX0 4 (mkSp (ι := NtQ) (fun q => [refP q.p, inP K 0 3]) (fun q => purW K q.p q.n) (fun q => purW K q.p (q.n + 500)) (fun q => q.n < 700000000) (fun _ => netP K)) := by
  refine okM T.f_L_net (N := N_L_net) (by constructor <;> first | rfl | decide | decide +kernel) (fun _ => rfl) fun cdv A1 outer s H E hr q hq an hO => ?_
  obtain ⟨p, n⟩ := q
  have hn : n < 700000000 := hq
  have hr2 : Room 2 (A1.deeper (envOfC "_law_net" (defScope s_L_net) s.heap.objs.size (He.ga K "_law_net") cdv)) := hr.mono (by omega)
  refine rs_set 2 (rv_slE (K := K) (Ps := base5.map fun x => dat K (.str x)) (lo := 1) (hi := 6) (rv_sub (rv_lst (Ps := base5.map fun x => dat K (.str x)) (ra_cons rv_str (ra_cons rv_str (ra_cons rv_str (ra_cons rv_str (ra_cons rv_str ra_nil)))))) fun _ _ => lstT_P) (rv_sub (rv_addE (K := K) (i := 1) rv_int (rv_draw (Wr := []) (n := n) (c := 5) T hr2 (by decide) (by decide) (by omega) (rv_var 0) (rv_int (i := 5)))) (in_mono (by decide) (by decide)))) ?_
  refine rs_open (f := fun u : { i : Int // 1 ≤ i ∧ i < 6 } => lstT (cutP (base5.map fun x => dat K (.str x)) none (some u.1))) 2 fun u => ?_
  obtain ⟨u, u1, u6⟩ := u
  refine rs_slot 2 (cut_names u u1 u6) ?_
  have k1 : 1 ≤ u.toNat := by omega
  have k5 : u.toNat ≤ 5 := by omega
  generalize u.toNat = k at k1 k5
  have hlen : (base5.take k).length = k := by
    rw [List.length_take]
    show min k 5 = k
    omega
  have pq : ∀ m, m < 700001000 → PQok ⟨p, m, base5.take k⟩ := fun m hm => ⟨by show m < 800000000; omega, by show 1 ≤ (base5.take k).length; omega, by show (base5.take k).length ≤ 5; omega⟩
  refine rs_set 3 (rv_sub (rv_tupleOf T.n_tuple (rv_sub (rn_lstT (rn_lc (n := (base5.take k).length) (bt := fun _ => true) (E := fun i => (fun x => rgP K (x, 0, 2)) ((base5.take k).getD i "")) (own := [("_law_name", 4)]) (Wf := fun i => purW K p (n + 1 + i)) (ri_listM PyData.str (base5.take k) "" (rv_var 2)) (fun s H C cl fp => pg_one 4) (fun i hi => gk_name) (by decide) (fun _ _ h => nomatch h) (fun s H C cl fp i c hi => rts_nil)
    (fun s H C cl fp j c hj _ => rv_sub (rv_tup (ra_cons (rv_var 4) (ra_cons (rv_fdivE2 (K := K) (j := 3) (hi := 8) (by decide) (by decide) (rv_draw (n := n + 1 + j) (c := 8) (Wr := [c]) T hr2 (by decide) (by decide) (by omega) (rv_var 0) (rv_int (i := 8))) rv_int) ra_nil))) rg0_imp))) fun H v z => lstT_P (K := K) z)) (P' := rgsP K (pl5 (base5.take k))) ?_) ?_
  · rw [selP_all T (fun x => rgP K (x, 0, 2)) (base5.take k) ("" : Str) rfl]
    have e : (base5.take k).map (fun x => rgP K (x, 0, 2)) = (pl5 (base5.take k)).map (rgP K) := by
      unfold pl5
      rw [List.map_map]
      rfl
    rw [e]
    exact rgs_imp
  refine rs_new 5 (rn_lst (Ps := []) ra_nil) fun b hb => ?_
  refine rs_cons (rs_forR (K := K) (lo := 1) (hi := 7) T.n_range (rv_sub (rv_addE (K := K) (i := 1) rv_int (rv_draw (Wr := [(b, lstM [])]) (n := n + 1 + (base5.take k).length) (c := 6) T hr2 (by decide) (by decide) (by omega) (rv_var 0) (rv_int (i := 6)))) (in_mono (by decide) (by decide))) (by decide) (pg_one 6) (fun i => gk_name)
    (fun j ρ W => ∃ (m : Nat) (x6 x7 x8 x9 x10 : Option SP), m ≤ n + 10 + 40 * j ∧ ρ = [some (refP p), some (inP K 0 3), some (dat K (strsD (base5.take k))), some (rgsP K (pl5 (base5.take k))), none, some (refP b), x6, x7, x8, x9, x10] ∧ W = [(p, lstM (purP K m)), (b, lstM ((List.range j).map (firP K (base5.take k))))]) ⟨n + 1 + (base5.take k).length + 1, _, _, _, _, _, by omega, rfl, rfl⟩ ?_) ?_
  · rintro j _ _ hj ⟨m, x6, x7, x8, x9, x10, hm, rfl, rfl⟩
    have tj := tn_is j hj
    refine rs_asg (P := lstP K [partsP K (base5.take k), partsP K (base5.take k)]) (W' := [(p, lstM (purP K (m + 4))), (b, lstM ((List.range j).map (firP K (base5.take k))))]) (rm_L_even (Wr := [(b, lstM ((List.range j).map (firP K (base5.take k))))]) T (w_L_even T) (mkSp_ok (⟨p, m, base5.take k⟩ : PQ) (pq m (by omega))) rfl (hr.mono (by omega)) (ra_cons (rv_var 0) (ra_cons (rv_var 2) ra_nil))) (pg_lst2 7 8) gk_lst2 ?_
    refine rs_cons (N1 := fun ρ1 W1 => (∃ x9 : Option SP, ρ1 = [some (refP p), some (inP K 0 3), some (dat K (strsD (base5.take k))), some (rgsP K (pl5 (base5.take k))), none, some (refP b), some (dat K (.int (j : Int))), some (partsP K (base5.take k)), some (partsP K (base5.take k)), x9, x10]) ∧ ∃ m2, m2 ≤ m + 30 ∧ W1 = [(p, lstM (purP K m2)), (b, lstM ((List.range j).map (firP K (base5.take k))))])
      (rs_ifX (W' := [(p, lstM (purP K (m + 5))), (b, lstM ((List.range j).map (firP K (base5.take k))))]) (rx_w (rwx_or (W1 := [(p, lstM (purP K (m + 4))), (b, lstM ((List.range j).map (firP K (base5.take k))))]) (rx_eqE (K := K) (lo := 0) (hi := 3) (rv_var 1) (rv_int (i := 1))) (rwx_or1 (rx_w (rwx_and (W1 := [(p, lstM (purP K (m + 4))), (b, lstM ((List.range j).map (firP K (base5.take k))))]) (rx_eqE (K := K) (lo := 0) (hi := 3) (rv_var 1) (rv_int (i := 2))) (rwx_and1 (rx_eqE (K := K) (lo := 0) (hi := 3) (rv_draw (Wr := [(b, lstM ((List.range j).map (firP K (base5.take k))))]) (n := m + 4) (c := 3) T hr2 (by decide) (by decide) (by omega) (rv_var 0) (rv_int (i := 3))) (rv_int (i := 0)))) (wimp_head (pur_imp (by omega)))))) (wimp_head (pur_imp (by omega))))) ?_ (rs_nil ⟨⟨_, rfl⟩, m + 5, by omega, rfl⟩)) ?_
    · refine rs_asg (P := lstP K [partsP K (base5.take k), partsP K (base5.take k)]) (W' := [(p, lstM (purP K (m + 5 + 10 * 2))), (b, lstM ((List.range j).map (firP K (base5.take k))))]) (rv_sub (rn_lstT (rn_lc (n := 2) (bt := fun _ => true) (E := fun _ => partsP K (base5.take k)) (own := [("_law_j", 9)]) (Wf := fun i => [(p, lstM (purP K (m + 5 + 10 * i))), (b, lstM ((List.range j).map (firP K (base5.take k))))]) (ri_range (K := K) (n := 2) T.n_range (rv_int (i := 2)) (by decide)) (fun s H C cl fp => pg_one 9) (fun i hi => gk_name) (by decide) (fun _ _ h => nomatch h) (fun s H C cl fp i c hi => rts_nil)
        (fun s H C cl fp i c hi _ => rm_L_parts (Wr := [(b, lstM ((List.range j).map (firP K (base5.take k)))), c]) T (w_L_parts T) (mkSp_ok (⟨p, m + 5 + 10 * i, base5.take k⟩ : PQ) (pq _ (by omega))) rfl (hr.mono (by omega)) (ra_cons (rv_var 0) (ra_cons (rv_var 2) (ra_cons rv_int ra_nil)))))) fun _ _ => lstT_P) (pg_lst2 7 8) gk_lst2 (rs_nil ⟨⟨_, rfl⟩, m + 5 + 10 * 2, by omega, rfl⟩)
    rintro ρ1 W1 ⟨⟨x9', rfl⟩, m2, hm2, rfl⟩
    have hlog : ((j : Int)).natAbs.log2 < 1920 := by
      rw [Int.natAbs_natCast]
      have h1 := Nat.log2_le_self j
      omega
    refine rs_set 10 (rv_sub (rv_ixE (K := K) (ds := [.str "", .str "x", .str "y", .str (tnS j)]) (rv_lstD (ds := [.str "", .str "x", .str "y", .str (tnS j)]) (ra_cons rv_str (ra_cons rv_str (ra_cons rv_str (ra_cons (rv_catS tj.2.2 rv_str (rv_strI hlog T.n_str (rv_var 6))) ra_nil))))) (rv_draw (Wr := [(b, lstM ((List.range j).map (firP K (base5.take k))))]) (n := m2) (c := 4) T hr2 (by decide) (by decide) (by omega) (rv_var 0) (rv_int (i := 4)))) (P' := labP K) ?_) ?_
    · rintro H v ⟨⟨d, hd⟩, z⟩
      have hd2 : ∃ x : Str, d = .str x ∧ (OkName x ∨ x = "") := by
        rcases List.mem_cons.mp hd with rfl | hd
        · exact ⟨_, rfl, .inr rfl⟩
        rcases List.mem_cons.mp hd with rfl | hd
        · exact ⟨_, rfl, .inl (okn _ (by decide +kernel))⟩
        rcases List.mem_cons.mp hd with rfl | hd
        · exact ⟨_, rfl, .inl (okn _ (by decide +kernel))⟩
        rw [List.mem_singleton.mp hd]
        exact ⟨_, rfl, .inl tj.1⟩
      obtain ⟨x, rfl, hx⟩ := hd2
      exact ⟨⟨x, hx⟩, z⟩
    refine rs_app (P := firP K (base5.take k) j) (b := b) 1 (rv_var 5) (rv_sub (rv_tup (ra_cons (rv_catS tj.2.2 rv_str (rv_strI hlog T.n_str (rv_var 6))) (ra_cons (rv_var 10) (ra_cons (rv_var 7) (ra_cons (rv_var 8) ra_nil))))) fir_imp) rfl rfl ?_ (by rw [List.length_map, List.length_range]; omega)
    refine rs_nil ⟨m2 + 1, _, _, _, _, _, by omega, rfl, ?_⟩
    rw [List.range_succ, List.map_append]
    rfl
  rintro ρ1 W1 ⟨m', m1, m6, m, x6, x7, x8, x9, x10, hm, rfl, rfl⟩
  refine rs_freeT (W := [(p, lstM (purP K m))]) 5 hb ?_
  exact rs_endW (rv_sub (rv_tup (Ps := [rgsP K (pl5 (base5.take k)), tupP K ((List.range m').map (firP K (base5.take k)))]) (ra_cons (rv_var 3) (ra_cons (rv_tupleOf T.n_tuple (rv_sub (rv_var 5) fun _ _ => lstT_P)) ra_nil))) (net_imp k1 k5 m1 (by omega))) (pur_end (n := n) (m := m) (k := n + 500) hO (by omega))
end
end TF
set_option Elab.async false
set_option linter.all false
set_option maxRecDepth 100000
set_option maxHeartbeats 4000000
/-! P1: rows of firings, wide heaps as limits. -/
namespace TF
/-- rows of firings, from a to b -/
inductive Run (fs : List SF) : Heap0 → Heap0 → Prop
  | nil (a : Heap0) : Run fs a a
  | step {a b : Heap0} {f : SF} (hf : f ∈ fs) (e : enab f.tk a = true) (r : Run fs (beh f a) b) : Run fs a b
theorem Run.trans {fs : List SF} {a b c : Heap0} (h : Run fs a b) (k : Run fs b c) : Run fs a c := by
  induction h with
  | nil a => exact k
  | step hf e r ih => exact .step hf e (ih k)
theorem Run.snoc {fs : List SF} {a b : Heap0} {f : SF} (h : Run fs a b) (hf : f ∈ fs) (e : enab f.tk b = true) : Run fs a (beh f b) := h.trans (.step hf e (.nil _))
theorem Run.mono {fs fs' : List SF} (k : ∀ f, f ∈ fs → f ∈ fs') {a b : Heap0} (h : Run fs a b) : Run fs' a b := by
  induction h with
  | nil a => exact .nil a
  | step hf e r ih => exact .step (k _ hf) e ih
section
variable {n : Nat} {fs : List SF} (hfs : ∀ f, f ∈ fs → IsF n f)
include hfs
theorem Run.isH {a b : Heap0} (h : Run fs a b) (ha : IsH n a) : IsH n b := by
  induction h with
  | nil a => exact ha
  | step hf e r ih => exact ih (beh_is (hfs _ hf) ha e)
/-- from more, more -/
theorem Run.up {a b : Heap0} (h : Run fs a b) : ∀ {a' : Heap0}, IsH n a → IsH n a' → (∀ i, i < n → a.getD i 0 ≤ a'.getD i 0) → ∃ b', Run fs a' b' ∧ IsH n b' ∧ ∀ i, i < n → b'.getD i 0 = b.getD i 0 + (a'.getD i 0 - a.getD i 0) := by
  induction h with
  | nil a => exact fun {a'} ha ha' h => ⟨a', .nil _, ha', fun i hi => by omega⟩
  | @step a b f hf e r ih =>
    intro a' ha ha' h
    have kf := hfs _ hf
    have e1 := (enab_iff kf ha).mp e
    have e' : enab f.tk a' = true := (enab_iff kf ha').mpr fun i hi => Int.le_trans (e1 i hi) (h i hi)
    obtain ⟨b', r', hb', q⟩ := ih (a' := beh f a') (beh_is kf ha e) (beh_is kf ha' e') fun i hi => by
      rw [beh_at ha.l hi, beh_at ha'.l hi]
      have := h i hi
      omega
    refine ⟨b', .step hf e' r', hb', fun i hi => ?_⟩
    rw [q i hi, beh_at ha.l hi, beh_at ha'.l hi]
    omega
end
theorem ov_at {n : Nat} {a b : Heap0} (ha : a.length = n) (hb : b.length = n) : ov a b = true ↔ ∀ i, i < n → b.getD i 0 ≤ a.getD i 0 := by
  have h := ov_iff (a := a) (h := b) (ha.trans hb.symm)
  rw [ha] at h
  exact h
theorem Run.ovup {n : Nat} {fs : List SF} (hfs : ∀ f, f ∈ fs → IsF n f) {a b a' : Heap0} (h : Run fs a b) (ha : IsH n a) (ha' : IsH n a') (k : ov a' a = true) : ∃ b', Run fs a' b' ∧ IsH n b' ∧ ov b' b = true := by
  have k' := (ov_at ha'.l ha.l).mp k
  obtain ⟨b', r, hb', q⟩ := Run.up hfs h ha ha' k'
  refine ⟨b', r, hb', (ov_at hb'.l (h.isH hfs ha).l).mpr fun i hi => ?_⟩
  have := k' i hi
  rw [q i hi]
  omega
/-- a wide heap of n places -/
structure IsW (n : Nat) (w : Wide) : Prop where
  l : w.length = n
  p : ∀ i x, w.getD i none = some x → 0 ≤ x
/-- a heap under a wide one of n places -/
def Und (n : Nat) (h : Heap0) (w : Wide) : Prop := ∀ i, i < n → ∀ x, w.getD i none = some x → h.getD i 0 ≤ x
theorem isOver_at {n : Nat} {a b : Wide} (ha : a.length = n) : isOver a b = true ↔ ∀ i, i < n → ovE (a.getD i none) (b.getD i none) = true := by
  unfold isOver
  rw [List.all_eq_true, ha]
  exact ⟨fun h i hi => h i (List.mem_range.mpr hi), fun h i hi => h i (List.mem_range.mp hi)⟩
theorem ovE_iff {a b : Option Int} : ovE a b = true ↔ ∀ x, a = some x → ∃ y, b = some y ∧ y ≤ x := by
  cases a with
  | none => exact ⟨fun _ x h => (by cases h), fun _ => rfl⟩
  | some x =>
    cases b with
    | none => exact ⟨fun h => (by cases h), fun h => by obtain ⟨y, e, _⟩ := h x rfl; cases e⟩
    | some y =>
      constructor
      · intro h z e
        cases e
        exact ⟨y, rfl, of_decide_eq_true h⟩
      · intro h
        obtain ⟨z, e, k⟩ := h x rfl
        cases e
        exact decide_eq_true k
theorem ovE_refl (a : Option Int) : ovE a a = true := ovE_iff.mpr fun x e => ⟨x, e, Int.le_refl _⟩
theorem ovE_trans {a b c : Option Int} (h : ovE a b = true) (k : ovE b c = true) : ovE a c = true := ovE_iff.mpr fun x e => by
  obtain ⟨y, e2, l⟩ := ovE_iff.mp h x e
  obtain ⟨z, e3, l2⟩ := ovE_iff.mp k y e2
  exact ⟨z, e3, Int.le_trans l2 l⟩
theorem ovE_anti {a b : Option Int} (h : ovE a b = true) (k : ovE b a = true) : a = b := by
  cases a with
  | none =>
    cases b with
    | none => rfl
    | some y => obtain ⟨z, e, _⟩ := ovE_iff.mp k y rfl; cases e
  | some x =>
    obtain ⟨y, e, l⟩ := ovE_iff.mp h x rfl
    subst e
    obtain ⟨z, e, l2⟩ := ovE_iff.mp k y rfl
    cases e
    rw [Int.le_antisymm l l2]
theorem wide_ext {n : Nat} {a b : Wide} (ha : a.length = n) (hb : b.length = n) (h : ∀ i, i < n → a.getD i none = b.getD i none) : a = b := by
  refine List.ext_getElem (ha.trans hb.symm) fun i h1 h2 => ?_
  have z := h i (ha ▸ h1)
  rw [List.getD_eq_getElem?_getD, List.getD_eq_getElem?_getD, List.getElem?_eq_getElem h1, List.getElem?_eq_getElem h2] at z
  exact z
theorem isOver_refl (a : Wide) : isOver a a = true := (isOver_at rfl).mpr fun i _ => ovE_refl _
theorem isOver_trans {n : Nat} {a b c : Wide} (ha : a.length = n) (hb : b.length = n) (h : isOver a b = true) (k : isOver b c = true) : isOver a c = true := (isOver_at ha).mpr fun i hi => ovE_trans ((isOver_at ha).mp h i hi) ((isOver_at hb).mp k i hi)
theorem isOver_anti {n : Nat} {a b : Wide} (ha : a.length = n) (hb : b.length = n) (h : isOver a b = true) (k : isOver b a = true) : a = b := wide_ext ha hb fun i hi => ovE_anti ((isOver_at ha).mp h i hi) ((isOver_at hb).mp k i hi)
theorem up_at {h : Heap0} {i : Nat} (hi : i < h.length) : (up h).getD i none = some (h.getD i 0) := by
  show (h.map some).getD i none = _
  rw [List.getD_eq_getElem?_getD, List.getD_eq_getElem?_getD, List.getElem?_map, List.getElem?_eq_getElem hi]
  rfl
theorem up_isW {n : Nat} {h : Heap0} (hh : IsH n h) : IsW n (up h) := ⟨by rw [show up h = h.map some from rfl, List.length_map, hh.l], fun i x e => by
  by_cases hi : i < h.length
  · rw [up_at hi] at e
    cases e
    exact hh.at i
  · rw [show up h = h.map some from rfl, List.getD_eq_getElem?_getD, List.getElem?_eq_none (by rw [List.length_map]; omega)] at e
    cases e⟩
theorem und_up {n : Nat} {h g : Heap0} (hh : h.length = n) (hg : g.length = n) : Und n h (up g) ↔ ov g h = true := by
  rw [ov_at hg hh]
  constructor
  · exact fun k i hi => k i hi _ (up_at (by omega))
  · intro k i hi x e
    rw [up_at (by omega)] at e
    cases e
    exact k i hi
theorem und_over {n : Nat} {h : Heap0} {v w : Wide} (hw : w.length = n) (k : isOver w v = true) (u : Und n h v) : Und n h w := fun i hi x e => by
  obtain ⟨y, e2, l⟩ := ovE_iff.mp ((isOver_at hw).mp k i hi) x e
  exact Int.le_trans (u i hi y e2) l
theorem und_le {n : Nat} {h g : Heap0} {w : Wide} (k : ∀ i, i < n → h.getD i 0 ≤ g.getD i 0) (u : Und n g w) : Und n h w := fun i hi x e => Int.le_trans (k i hi) (u i hi x e)
/-- of whatever under v there is a row from something under u over it -/
def Rl (n : Nat) (fs : List SF) (u v : Wide) : Prop := ∀ h, IsH n h → Und n h v → ∃ g g', IsH n g ∧ Und n g u ∧ Run fs g g' ∧ IsH n g' ∧ ov g' h = true
theorem R_over {n : Nat} {fs : List SF} {u v : Wide} (hu : u.length = n) (k : isOver u v = true) : Rl n fs u v := fun h hh uh => ⟨h, h, hh, und_over hu k uh, .nil _, hh, ov_refl h⟩
section
variable {n : Nat} {fs : List SF} (hfs : ∀ f, f ∈ fs → IsF n f)
include hfs
theorem R_trans {u v w : Wide} (h1 : Rl n fs u v) (h2 : Rl n fs v w) : Rl n fs u w := fun h hh uh => by
  obtain ⟨g, g', hg, ug, r, hg', o⟩ := h2 h hh uh
  obtain ⟨k, k', hk, uk, r2, hk', o2⟩ := h1 g hg ug
  obtain ⟨b, r3, hb, o3⟩ := r.ovup hfs hg hk' o2
  exact ⟨k, b, hk, uk, r2.trans r3, hb, ov_trans hb.l hg'.l hh.l o3 o⟩
end
/-! ### firings of wide heaps -/
theorem wsub_at {i : Nat} : ∀ (ps : Rps) (w : Wide), i < w.length → (wsub w ps).getD i none = (w.getD i none).map (· - amt ps i)
  | [], w, _ => by
    show w.getD i none = (w.getD i none).map (· - 0)
    cases w.getD i none <;> simp
  | p :: r, w, hi => by
    show (wsub (w.set p.1 ((w.getD p.1 none).map (· - p.2))) r).getD i none = _
    rw [wsub_at r _ (by rw [List.length_set]; exact hi), getD_set, amt_cons]
    by_cases e : p.1 = i
    · subst e
      rw [if_pos ⟨rfl, hi⟩, if_pos rfl]
      cases w.getD p.1 none with
      | none => rfl
      | some x =>
        show some (x - p.2 - amt r p.1) = some (x - (p.2 + amt r p.1))
        congr 1
        omega
    · rw [if_neg fun z => e z.1.symm, if_neg e, Int.zero_add]
theorem wadd_at {i : Nat} : ∀ (ps : Rps) (w : Wide), i < w.length → (wadd w ps).getD i none = (w.getD i none).map (· + amt ps i)
  | [], w, _ => by
    show w.getD i none = (w.getD i none).map (· + 0)
    cases w.getD i none <;> simp
  | p :: r, w, hi => by
    show (wadd (w.set p.1 ((w.getD p.1 none).map (· + p.2))) r).getD i none = _
    rw [wadd_at r _ (by rw [List.length_set]; exact hi), getD_set, amt_cons]
    by_cases e : p.1 = i
    · subst e
      rw [if_pos ⟨rfl, hi⟩, if_pos rfl]
      cases w.getD p.1 none with
      | none => rfl
      | some x =>
        show some (x + p.2 + amt r p.1) = some (x + (p.2 + amt r p.1))
        congr 1
        omega
    · rw [if_neg fun z => e z.1.symm, if_neg e, Int.zero_add]
theorem wbeh_at {f : SF} {w : Wide} {i : Nat} (hi : i < w.length) : (wbeh f w).getD i none = (w.getD i none).map (fun x => x - amt f.tk i + amt f.gv i) := by
  show (wadd (wsub w f.tk) f.gv).getD i none = _
  rw [wadd_at _ _ (by rw [len_wsub]; exact hi), wsub_at _ _ hi]
  cases w.getD i none <;> rfl
theorem wcan_iff {n : Nat} {f : SF} {w : Wide} (k : IsF n f) (hw : IsW n w) : wcan f.tk w = true ↔ ∀ i, i < n → ∀ x, w.getD i none = some x → amt f.tk i ≤ x := by
  unfold wcan
  rw [List.all_eq_true]
  constructor
  · intro h i hi x e
    by_cases m : i ∈ f.tk.map Prod.fst
    · obtain ⟨p, hp, rfl⟩ := List.mem_map.mp m
      have z := h p hp
      rw [e] at z
      rw [amt_mem k.td hp]
      exact of_decide_eq_true z
    · rw [amt_not m]
      exact hw.p i x e
  · intro h p hp
    have z := h p.1 (k.tr p hp).1
    rw [amt_mem k.td hp] at z
    cases e : w.getD p.1 none with
    | none => rfl
    | some x => exact decide_eq_true (z x e)
theorem wbeh_is {n : Nat} {f : SF} {w : Wide} (k : IsF n f) (hw : IsW n w) (e : wcan f.tk w = true) : IsW n (wbeh f w) := ⟨by rw [len_wbeh, hw.l], fun i x h => by
  by_cases hi : i < n
  · rw [wbeh_at (by rw [hw.l]; exact hi)] at h
    cases q : w.getD i none with
    | none => rw [q] at h; cases h
    | some y =>
      rw [q] at h
      have h : some (y - amt f.tk i + amt f.gv i) = some x := h
      cases h
      have z := (wcan_iff k hw).mp e i hi y q
      have z2 := k.g0 i
      omega
  · rw [List.getD_eq_getElem?_getD, List.getElem?_eq_none (by rw [len_wbeh, hw.l]; omega)] at h
    cases h⟩
theorem R_fire {n : Nat} {fs : List SF} {f : SF} {w : Wide} (k : IsF n f) (hf : f ∈ fs) (hw : IsW n w) (e : wcan f.tk w = true) : Rl n fs w (wbeh f w) := fun h hh uh => by
  have hb := bef_is k hh
  have o := (ov_bef k hb hh).mp (ov_refl _)
  refine ⟨bef f h, beh f (bef f h), hb, fun i hi x q => ?_, .step hf o.1 (.nil _), beh_is k hb o.1, o.2⟩
  rw [bef_at k hh hi]
  have z := (wcan_iff k hw).mp e i hi x q
  have z2 := uh i hi (x - amt f.tk i + amt f.gv i) (by rw [wbeh_at (by rw [hw.l]; exact hi), q]; rfl)
  omega
theorem wids_at {a b : Wide} {i : Nat} (hi : i < a.length) : (wids a b).getD i none = if a.getD i none = b.getD i none then a.getD i none else none := by
  unfold wids
  rw [List.getD_eq_getElem?_getD, List.getElem?_map, List.getElem?_range hi]
  rfl
theorem wids_is {n : Nat} {a b : Wide} (ha : IsW n a) : IsW n (wids a b) := ⟨by rw [len_wids, ha.l], fun i x h => by
  by_cases hi : i < n
  · rw [wids_at (by rw [ha.l]; exact hi)] at h
    split at h
    · exact ha.p i x h
    · cases h
  · rw [List.getD_eq_getElem?_getD, List.getElem?_eq_none (by rw [len_wids, ha.l]; omega)] at h
    cases h⟩
theorem wids_over {n : Nat} {a b : Wide} (ha : a.length = n) : isOver (wids a b) a = true := (isOver_at (by rw [len_wids, ha])).mpr fun i hi => by
  rw [wids_at (by omega)]
  split
  · exact ovE_refl _
  · rfl
end TF
set_option Elab.async false
set_option linter.all false
set_option maxRecDepth 100000
set_option maxHeartbeats 4000000
/-! P2: lists of wide heaps under which just what is covered is. -/
namespace TF
open WD
/-- a with k more where w has more -/
def lift (a w : Wide) (k : Int) : Wide := (List.range a.length).map fun i => if w.getD i none = a.getD i none then a.getD i none else (a.getD i none).map (· + k)
theorem lift_at {a w : Wide} {k : Int} {i : Nat} (hi : i < a.length) : (lift a w k).getD i none = if w.getD i none = a.getD i none then a.getD i none else (a.getD i none).map (· + k) := by
  unfold lift
  rw [List.getD_eq_getElem?_getD, List.getElem?_map, List.getElem?_range hi]
  rfl
def mkH (n : Nat) (g : Nat → Int) : Heap0 := (List.range n).map g
theorem mkH_at {n : Nat} {g : Nat → Int} {i : Nat} (hi : i < n) : (mkH n g).getD i 0 = g i := by
  unfold mkH
  rw [List.getD_eq_getElem?_getD, List.getElem?_map, List.getElem?_range hi]
  rfl
theorem mkH_is {n : Nat} {g : Nat → Int} (h : ∀ i, i < n → 0 ≤ g i) : IsH n (mkH n g) := .of (by unfold mkH; rw [List.length_map, List.length_range]) fun i hi => by
  rw [mkH_at hi]
  exact h i hi
section
variable {n : Nat} {fs : List SF} (hfs : ∀ f, f ∈ fs → IsF n f)
include hfs
theorem R_lift {a w : Wide} (ha : IsW n a) (hw : IsW n w) (o : isOver w a = true) (r : Rl n fs a w) : ∀ k : Nat, Rl n fs a (lift a w (k : Int))
  | 0 => R_over ha.l ((isOver_at ha.l).mpr fun i hi => by
      rw [lift_at (by rw [ha.l]; exact hi)]
      split
      · exact ovE_refl _
      · cases a.getD i none with
        | none => rfl
        | some x => exact ovE_iff.mpr fun y e => ⟨x + 0, rfl, by cases e; omega⟩)
  | k + 1 => fun h hh uh => by
    have ow := (isOver_at hw.l).mp o
    have h1is : IsH n (mkH n fun i => if w.getD i none = a.getD i none then h.getD i 0 else max 0 (h.getD i 0 - k)) := mkH_is fun i hi => by
      show 0 ≤ if w.getD i none = a.getD i none then h.getD i 0 else max 0 (h.getD i 0 - k)
      split
      · exact hh.at i
      · omega
    have h1u : Und n (mkH n fun i => if w.getD i none = a.getD i none then h.getD i 0 else max 0 (h.getD i 0 - k)) w := fun i hi x e => by
      rw [mkH_at hi]
      have z := uh i hi
      rw [lift_at (by rw [ha.l]; exact hi)] at z
      by_cases q : w.getD i none = a.getD i none
      · rw [if_pos q]
        rw [if_pos q] at z
        exact z x (q ▸ e)
      · rw [if_neg q]
        rw [if_neg q] at z
        obtain ⟨y, ey, ly⟩ := ovE_iff.mp (ow i hi) x e
        have ne : y ≠ x := fun c => q (by rw [e, ey, c])
        have y0 := ha.p i y ey
        have z := z (y + ((k + 1 : Nat) : Int)) (by rw [ey]; rfl)
        omega
    obtain ⟨g, g', hg, ug, rg, hg', og⟩ := r _ h1is h1u
    have g2is : IsH n (mkH n fun i => if w.getD i none = a.getD i none then g.getD i 0 else g.getD i 0 + k) := mkH_is fun i hi => by
      show 0 ≤ if w.getD i none = a.getD i none then g.getD i 0 else g.getD i 0 + k
      have := hg.at i
      split <;> omega
    have g2u : Und n (mkH n fun i => if w.getD i none = a.getD i none then g.getD i 0 else g.getD i 0 + k) (lift a w (k : Int)) := fun i hi x e => by
      rw [mkH_at hi]
      rw [lift_at (by rw [ha.l]; exact hi)] at e
      by_cases q : w.getD i none = a.getD i none
      · rw [if_pos q] at e ⊢
        exact ug i hi x e
      · rw [if_neg q] at e ⊢
        cases ey : a.getD i none with
        | none => rw [ey] at e; cases e
        | some y =>
          rw [ey] at e
          have e : some (y + (k : Int)) = some x := e
          cases e
          have := ug i hi y ey
          omega
    obtain ⟨b', rb, hb', qb⟩ := rg.up hfs hg g2is fun i hi => by
      rw [mkH_at hi]
      split <;> omega
    obtain ⟨c, c', hc, uc, rc, hc', oc⟩ := R_lift ha hw o r k _ g2is g2u
    obtain ⟨d, rd, hd, od⟩ := rb.ovup hfs g2is hc' oc
    refine ⟨c, d, hc, uc, rc.trans rd, hd, (ov_at hd.l hh.l).mpr fun i hi => ?_⟩
    have z1 := (ov_at hd.l hb'.l).mp od i hi
    have z2 := (ov_at hg'.l h1is.l).mp og i hi
    rw [qb i hi, mkH_at hi] at z1
    rw [mkH_at hi] at z2
    split at z1 <;> rename_i q
    · rw [if_pos q] at z2
      omega
    · rw [if_neg q] at z2
      omega
theorem bnd_h : ∀ l : Heap0, ∃ k : Nat, ∀ i, l.getD i 0 ≤ (k : Int)
  | [] => ⟨0, fun i => by simp⟩
  | x :: l => by
    obtain ⟨k, h⟩ := bnd_h l
    refine ⟨k + x.toNat, fun i => ?_⟩
    cases i with
    | zero =>
      show x ≤ _
      omega
    | succ i =>
      have := h i
      show l.getD i 0 ≤ _
      omega
theorem R_wids {a w : Wide} (ha : IsW n a) (hw : IsW n w) (o : isOver w a = true) (r : Rl n fs a w) : Rl n fs a (wids w a) := fun h hh uh => by
  obtain ⟨k, hk⟩ := bnd_h hfs h
  refine R_lift hfs ha hw o r k h hh fun i hi x e => ?_
  rw [lift_at (by rw [ha.l]; exact hi)] at e
  have z := uh i hi
  rw [wids_at (by rw [hw.l]; exact hi)] at z
  by_cases q : w.getD i none = a.getD i none
  · rw [if_pos q] at e z
    exact z x (q.trans e)
  · rw [if_neg q] at e
    cases ey : a.getD i none with
    | none => rw [ey] at e; cases e
    | some y =>
      rw [ey] at e
      have e : some (y + (k : Int)) = some x := e
      cases e
      have := ha.p i y ey
      have := hk i
      omega
/-- what a pump leads to: from all that led to w -/
theorem R_pump {u a w : Wide} (ha : IsW n a) (hw : IsW n w) (o : isOver w a = true) (r : Rl n fs a w) (ru : Rl n fs u w) : Rl n fs u (wids w a) := R_trans hfs (R_trans hfs ru (R_over hw.l o)) (R_wids hfs ha hw o r)
end
def Cvr (fs : List SF) (b h : Heap0) : Prop := ∃ m, Run fs b m ∧ ov m h = true
/-- wide heaps under which just that is what is covered -/
structure Cov (n : Nat) (fs : List SF) (b : Heap0) (S : List Wide) : Prop where
  is : ∀ w, w ∈ S → IsW n w
  iff : ∀ h, IsH n h → ((∃ w, w ∈ S ∧ Und n h w) ↔ Cvr fs b h)
section
variable {n : Nat} {fs : List SF} (hfs : ∀ f, f ∈ fs → IsF n f)
include hfs
theorem und_fire {f : SF} {a : Heap0} {w : Wide} (hf : f ∈ fs) (ha : IsH n a) (hw : IsW n w) (u : Und n a w) (e : enab f.tk a = true) : wcan f.tk w = true ∧ Und n (beh f a) (wbeh f w) := by
  have k := hfs f hf
  have ea := (enab_iff k ha).mp e
  refine ⟨(wcan_iff k hw).mpr fun i hi x q => Int.le_trans (ea i hi) (u i hi x q), fun i hi x q => ?_⟩
  rw [wbeh_at (by rw [hw.l]; exact hi)] at q
  rw [beh_at ha.l hi]
  cases ey : w.getD i none with
  | none => rw [ey] at q; cases q
  | some y =>
    rw [ey] at q
    have q : some (y - amt f.tk i + amt f.gv i) = some x := q
    cases q
    have := u i hi y ey
    omega
theorem run_und {S : List Wide} (is : ∀ w, w ∈ S → IsW n w) (cl : ∀ w, w ∈ S → ∀ f, f ∈ fs → wcan f.tk w = true → ∃ v, v ∈ S ∧ isOver v (wbeh f w) = true) {a m : Heap0} (r : Run fs a m) : IsH n a → (∃ w, w ∈ S ∧ Und n a w) → ∃ w, w ∈ S ∧ Und n m w := by
  induction r with
  | nil a => exact fun _ h => h
  | @step a b f hf e r ih =>
    intro ha ⟨w, hw, u⟩
    obtain ⟨c, u2⟩ := und_fire hfs hf ha (is w hw) u e
    obtain ⟨v, hv, o⟩ := cl w hw f hf c
    exact ih (beh_is (hfs f hf) ha e) ⟨v, hv, und_over (is v hv).l o u2⟩
theorem cov_of {b : Heap0} {S : List Wide} (hb : IsH n b) (is : ∀ w, w ∈ S → IsW n w) (so : ∀ w, w ∈ S → Rl n fs (up b) w) (be : ∃ w, w ∈ S ∧ isOver w (up b) = true) (cl : ∀ w, w ∈ S → ∀ f, f ∈ fs → wcan f.tk w = true → ∃ v, v ∈ S ∧ isOver v (wbeh f w) = true) : Cov n fs b S := ⟨is, fun h hh => by
  constructor
  · rintro ⟨w, hw, u⟩
    obtain ⟨g, g', hg, ug, r, hg', o⟩ := so w hw h hh u
    obtain ⟨b', r2, hb', o2⟩ := r.ovup hfs hg hb ((und_up hg.l hb.l).mp ug)
    exact ⟨b', r2, ov_trans hb'.l hg'.l hh.l o2 o⟩
  · rintro ⟨m, r, o⟩
    obtain ⟨w0, hw0, o0⟩ := be
    obtain ⟨w, hw, u⟩ := run_und hfs is cl r hb ⟨w0, hw0, und_over (is w0 hw0).l o0 ((und_up hb.l hb.l).mpr (ov_refl b))⟩
    exact ⟨w, hw, und_le ((ov_at (r.isH hfs hb).l hh.l).mp o) u⟩⟩
end
theorem bnd_o : ∀ l : List (Option Int), ∃ k : Int, 0 ≤ k ∧ ∀ x, some x ∈ l → x < k
  | [] => ⟨0, Int.le_refl _, fun x h => by simp at h⟩
  | o :: l => by
    obtain ⟨k, h0, h⟩ := bnd_o l
    cases o with
    | none => exact ⟨k, h0, fun x hx => by
        rcases List.mem_cons.mp hx with e | hx
        · cases e
        · exact h x hx⟩
    | some y => exact ⟨max k (y + 1), by omega, fun x hx => by
        rcases List.mem_cons.mp hx with e | hx
        · cases e
          omega
        · have := h x hx
          omega⟩
theorem getD_some {w : Wide} {i : Nat} {x : Int} (h : w.getD i none = some x) : some x ∈ w := by
  rw [List.getD_eq_getElem?_getD] at h
  cases e : w[i]? with
  | none => rw [e] at h; cases h
  | some o =>
    rw [e] at h
    have h : o = some x := h
    rw [← h]
    exact List.mem_of_getElem? e
theorem bnd_s (S : List Wide) : ∃ k : Int, 0 ≤ k ∧ ∀ w, w ∈ S → ∀ i x, w.getD i none = some x → x < k := by
  obtain ⟨k, h0, h⟩ := bnd_o S.flatten
  exact ⟨k, h0, fun w hw i x e => h x (List.mem_flatten.mpr ⟨w, hw, getD_some e⟩)⟩
/-- what all that is under w is under, some one is over w -/
theorem ideal {n : Nat} {S : List Wide} (hS : ∀ w, w ∈ S → IsW n w) {w : Wide} (hw : IsW n w) (h : ∀ h, IsH n h → Und n h w → ∃ v, v ∈ S ∧ Und n h v) : ∃ v, v ∈ S ∧ isOver v w = true := by
  obtain ⟨k, k0, hk⟩ := bnd_s S
  obtain ⟨v, hv, u⟩ := h (mkH n fun i => (w.getD i none).getD k) (mkH_is fun i hi => by
    cases e : w.getD i none with
    | none => exact k0
    | some x => exact hw.p i x e) fun i hi x e => by
      rw [mkH_at hi, e]
      exact Int.le_refl _
  refine ⟨v, hv, (isOver_at (hS v hv).l).mpr fun i hi => ovE_iff.mpr fun x e => ?_⟩
  have z := u i hi x e
  rw [mkH_at hi] at z
  cases ew : w.getD i none with
  | none =>
    rw [ew] at z
    have z : k ≤ x := z
    have := hk v hv i x e
    omega
  | some y =>
    rw [ew] at z
    exact ⟨y, rfl, z⟩
theorem Cov.over {n : Nat} {fs fs' : List SF} {b b' : Heap0} {S S' : List Wide} (c : Cov n fs b S) (c' : Cov n fs' b' S') (k : ∀ h, IsH n h → Cvr fs b h → Cvr fs' b' h) {w : Wide} (hw : w ∈ S) : ∃ v, v ∈ S' ∧ isOver v w = true := ideal c'.is (c.is w hw) fun h hh u => (c'.iff h hh).mpr (k h hh ((c.iff h hh).mp ⟨w, hw, u⟩))
theorem mem_maxW {S : List Wide} {v : Wide} : v ∈ maxW S ↔ v ∈ S ∧ ∀ o, o ∈ S → isOver o v = true → o = v := by
  unfold maxW
  rw [List.mem_filter, mem_ddp _ S rfl, Bool.not_eq_true']
  refine and_congr_right fun hv => ?_
  constructor
  · intro h o ho k
    apply Classical.byContradiction
    intro ne
    rw [List.any_eq_false] at h
    exact h o ((mem_ddp _ S rfl).mpr ho) (by rw [k, decide_eq_false ne]; rfl)
  · intro h
    rw [List.any_eq_false]
    intro o ho z
    rw [Bool.and_eq_true] at z
    have e := h o ((mem_ddp _ S rfl).mp ho) z.2
    rw [decide_eq_true e] at z
    cases z.1
theorem max_above {n : Nat} {S : List Wide} (hS : ∀ w, w ∈ S → w.length = n) : ∀ (k : Nat) (w : Wide), w ∈ S → (S.filter fun o => isOver o w && !decide (o = w)).length ≤ k → ∃ v, v ∈ maxW S ∧ isOver v w = true := by
  intro k
  induction k with
  | zero =>
    intro w hw hk
    refine ⟨w, mem_maxW.mpr ⟨hw, fun o ho q => ?_⟩, isOver_refl w⟩
    apply Classical.byContradiction
    intro ne
    have hm : o ∈ S.filter fun o => isOver o w && !decide (o = w) := List.mem_filter.mpr ⟨ho, by rw [q, decide_eq_false ne]; rfl⟩
    have := List.length_pos_of_mem hm
    omega
  | succ k ih =>
    intro w hw hk
    by_cases h : ∃ o, o ∈ S ∧ isOver o w = true ∧ o ≠ w
    · obtain ⟨o, ho, q, ne⟩ := h
      have hlt : (S.filter fun x => isOver x o && !decide (x = o)).length < (S.filter fun x => isOver x w && !decide (x = w)).length := by
        have e : (S.filter fun x => isOver x o && !decide (x = o)) = ((S.filter fun x => isOver x w && !decide (x = w)).filter fun x => isOver x o && !decide (x = o)) := by
          rw [List.filter_filter]
          refine List.filter_congr fun x hx => ?_
          cases z : (isOver x o && !decide (x = o)) with
          | false => rfl
          | true =>
            rw [Bool.and_eq_true] at z
            have zw := isOver_trans (hS x hx) (hS o ho) z.1 q
            have nw : x ≠ w := fun c => by
              subst c
              have e2 := isOver_anti (hS x hx) (hS o ho) z.1 q
              rw [decide_eq_true e2] at z
              cases z.2
            rw [zw, decide_eq_false nw]
            rfl
        rw [e]
        refine List.length_filter_lt_length_iff_exists.mpr ⟨o, List.mem_filter.mpr ⟨ho, by rw [q, decide_eq_false ne]; rfl⟩, ?_⟩
        simp
      obtain ⟨v, hv, qv⟩ := ih o ho (by omega)
      have hv' := (mem_maxW.mp hv).1
      exact ⟨v, hv, isOver_trans (hS v hv') (hS o ho) qv q⟩
    · refine ⟨w, mem_maxW.mpr ⟨hw, fun o ho q => ?_⟩, isOver_refl w⟩
      apply Classical.byContradiction
      intro ne
      exact h ⟨o, ho, q, ne⟩
theorem mem_grt {S : List Wide} {v : Wide} : v ∈ grt S ↔ v ∈ S ∧ ∀ o, o ∈ S → isOver o v = true → o = v := mem_srt.trans mem_maxW
/-- what covers more has wider ones -/
theorem grt_over {n : Nat} {fs fs' : List SF} {b b' : Heap0} {S S' : List Wide} (c : Cov n fs b S) (c' : Cov n fs' b' S') (k : ∀ h, IsH n h → Cvr fs b h → Cvr fs' b' h) {w : Wide} (hw : w ∈ grt S) : ∃ v, v ∈ grt S' ∧ isOver v w = true := by
  obtain ⟨v, hv, q⟩ := c.over c' k (mem_grt.mp hw).1
  have hl : ∀ x, x ∈ S' → x.length = n := fun x hx => (c'.is x hx).l
  obtain ⟨u, hu, q2⟩ := max_above hl _ v hv (Nat.le_refl _)
  exact ⟨u, mem_srt.mpr hu, isOver_trans (hl u (mem_maxW.mp hu).1) (hl v hv) q2 q⟩
theorem max_sub {n : Nat} {fs fs' : List SF} {b b' : Heap0} {S S' : List Wide} (c : Cov n fs b S) (c' : Cov n fs' b' S') (k : ∀ h, IsH n h → (Cvr fs b h ↔ Cvr fs' b' h)) {w : Wide} (hw : w ∈ maxW S) : w ∈ maxW S' := by
  obtain ⟨h1, h2⟩ := mem_maxW.mp hw
  have hl : ∀ x, x ∈ S → x.length = n := fun x hx => (c.is x hx).l
  have hl' : ∀ x, x ∈ S' → x.length = n := fun x hx => (c'.is x hx).l
  obtain ⟨v, hv, q⟩ := c.over c' (fun h hh => (k h hh).mp) h1
  obtain ⟨u, hu, q2⟩ := c'.over c (fun h hh => (k h hh).mpr) hv
  have e := h2 u hu (isOver_trans (hl u hu) (hl' v hv) q2 q)
  subst e
  have e := isOver_anti (hl' v hv) (hl u hu) q q2
  subst e
  refine mem_maxW.mpr ⟨hv, fun o ho q3 => ?_⟩
  obtain ⟨s, hs, q4⟩ := c'.over c (fun h hh => (k h hh).mpr) ho
  have e := h2 s hs (isOver_trans (hl s hs) (hl' o ho) q4 q3)
  subst e
  exact isOver_anti (hl' o ho) (hl' s hv) q3 q4
theorem maxW_nodup (S : List Wide) : (maxW S).Nodup := (ddp_nodup _ S rfl).filter _
theorem grt_eq {n : Nat} {fs fs' : List SF} {b b' : Heap0} {S S' : List Wide} (c : Cov n fs b S) (c' : Cov n fs' b' S') (k : ∀ h, IsH n h → (Cvr fs b h ↔ Cvr fs' b' h)) : grt S = grt S' :=
  srt_eq wLt_tot ((List.perm_ext_iff_of_nodup (maxW_nodup S) (maxW_nodup S')).mpr fun w => ⟨max_sub c c' k, max_sub c' c fun h hh => (k h hh).symm⟩)
end TF
set_option Elab.async false
set_option linter.all false
set_option maxRecDepth 100000
set_option maxHeartbeats 4000000
/-! P3: what is told of a net, and of another one. -/
namespace TF
open WD
structure TRow (L : Lk) (goal : Heap0) (most : Nat) (r : List SF) : Prop where
  mem : ∀ f, f ∈ r → f ∈ L.fs
  en : ∀ j, j < r.length → enab (r.getD j default).tk (runTo L.begin (r.take j)) = true
  ov : ov (runTo L.begin r) goal = true
  u : U L.fs goal r.length L.begin
  nu : ∀ j, j < r.length → ¬ U L.fs goal j L.begin
  z : r.length ≤ most
structure TNev (L : Lk) (goal : Heap0) (most : Nat) (l : List Heap0) : Prop where
  h : ∀ x, x ∈ l → IsH L.places.length x
  up : Up l goal
  cl : ∀ x, x ∈ l → ∀ f, f ∈ L.fs → Up l (bef f x)
  nb : ∀ x, x ∈ l → TF.ov L.begin x = false
  nu : ∀ k, ¬ U L.fs goal k L.begin
  z : l.length ≤ 1 + most * 61
  so : InOrd hLt l
  nd : l.Nodup
def TOk (L : Lk) (goal : Heap0) (most : Nat) : Option Told → Prop
  | none => True
  | some (.row r) => TRow L goal most r
  | some (.never l) => TNev L goal most l
theorem lea_le (hs : List Heap0) : (lea hs).length ≤ hs.length := by
  have h := lea_len (srt hLt (dd0 hs)) []
  rw [len_srt] at h
  have h2 : (dd0 hs).length ≤ hs.length := by
    show ((ddp (hs.map up)).map dn).length ≤ _
    rw [List.length_map]
    have := len_ddp _ (hs.map up) rfl
    rwa [List.length_map] at this
  have h3 : (lea hs).length ≤ ([] : List Heap0).length + (dd0 hs).length := h
  simp at h3
  omega
theorem told_ok {L : Lk} {goal : Heap0} {most : Nat} : ∀ (n : Nat) (ini : List (List Heap0)) (last fresh : List Heap0), SInv L goal ini last fresh → last.length ≤ 1 + most * 61 → ini.length ≤ most → TOk L goal most (told L most n ini last fresh)
  | 0, _, _, _, _, _, _ => trivial
  | n + 1, ini, last, fresh, s, hz, hi => by
    rw [told_succ]
    by_cases hc : comeTo L last = true
    · rw [if_pos hc]
      have hu : U L.fs goal ini.length L.begin := (s.up _ (begin_is s.ok)).mp (up_any.mp hc)
      obtain ⟨h1, h2, h3, h4⟩ := s.pick ini.length L.begin (Nat.le_refl _) (begin_is s.ok) hu s.nc
      rw [List.take_length] at h1 h2 h3 h4
      have hl : (rowOf L L.begin ini.reverse).length = ini.length := by rw [rowOf_len, List.length_reverse]
      refine ⟨h4, fun j hj => h2 j (by omega), h3, ?_, fun j hj => s.nc j (by omega), by omega⟩
      rw [hl]
      exact hu
    · rw [if_neg hc]
      have hc' : comeTo L last = false := by simpa using hc
      by_cases hf : fresh = []
      · rw [if_pos hf]
        refine ⟨s.ll, (s.up goal s.g).mpr (U_mono (Nat.zero_le _) (ov_refl goal)), s.bas hf, fun x hx => ?_, fun k u => ?_, hz, s.so, s.nd⟩
        · have hc' : (last.any fun x => ov L.begin x) = false := hc'
          rw [List.any_eq_false] at hc'
          simpa using hc' x hx
        · exact hc (up_any.mpr ((s.up _ (begin_is s.ok)).mpr (s.shut hf k _ (begin_is s.ok) u)))
      · rw [if_neg hf]
        by_cases hg : most < last.length ∨ most < ini.length + 1
        · rw [if_pos hg]
          trivial
        · rw [if_neg hg]
          refine told_ok n _ _ _ (s.next hc') ?_ (by rw [List.length_append, List.length_singleton]; omega)
          have h1 : (nextLv L last fresh).length ≤ (last ++ moreOf L fresh).length := lea_le _
          rw [List.length_append, len_more] at h1
          have h2 := s.fz
          have h3 := s.ok.z3
          have h4 : fresh.length * L.fs.length ≤ most * 60 := Nat.mul_le_mul (by omega) h3
          omega
theorem toldBy_ok {L : Lk} {goal : Heap0} (most : Nat) (ok : LkOk L) (g : IsH L.places.length goal) : TOk L goal most (toldBy L most goal) := told_ok _ _ _ _ (SInv.start ok g) (by simp) (Nat.zero_le _)
/-! ### of a greater net -/
structure Mor (L L' : Lk) : Prop where
  ok : LkOk L
  ok' : LkOk L'
  pl : L'.places = L.places
  be : ov L'.begin L.begin = true
  fs : ∀ f, f ∈ L.fs → f ∈ L'.fs
theorem U_more {fs fs' : List SF} {n : Nat} {goal : Heap0} (hg : IsH n goal) (hfs : ∀ f, f ∈ fs → IsF n f) (k : ∀ f, f ∈ fs → f ∈ fs') : ∀ (j : Nat) (a a' : Heap0), IsH n a → IsH n a' → ov a' a = true → U fs goal j a → U fs' goal j a'
  | 0, a, a', ha, ha', o, u => ov_trans ha'.l ha.l hg.l o u
  | j + 1, a, a', ha, ha', o, u => by
    rcases u with u | ⟨f, hf, e, u⟩
    · exact .inl (U_more hg hfs k j a a' ha ha' o u)
    · have kf := hfs f hf
      have o' := (ov_at ha'.l ha.l).mp o
      have e' : enab f.tk a' = true := (enab_iff kf ha').mpr fun i hi => Int.le_trans ((enab_iff kf ha).mp e i hi) (o' i hi)
      have b1 := beh_is kf ha e
      have b2 := beh_is kf ha' e'
      refine .inr ⟨f, k f hf, e', U_more hg hfs k j _ _ b1 b2 ((ov_at b2.l b1.l).mpr fun i hi => ?_) u⟩
      rw [beh_at ha.l hi, beh_at ha'.l hi]
      have := o' i hi
      omega
theorem Mor.u {L L' : Lk} (m : Mor L L') {goal : Heap0} (hg : IsH L.places.length goal) {j : Nat} (u : U L.fs goal j L.begin) : U L'.fs goal j L'.begin := by
  have b' := begin_is m.ok'
  rw [m.pl] at b'
  exact U_more hg (fun f hf => m.ok.isF hf) m.fs j _ _ (begin_is m.ok) b' m.be u
theorem run_ge {n : Nat} : ∀ (r : List SF) (a a' : Heap0), a.length = n → a'.length = n → (∀ i, i < n → a.getD i 0 ≤ a'.getD i 0) → ∀ i, i < n → (runTo a r).getD i 0 ≤ (runTo a' r).getD i 0
  | [], _, _, _, _, h => h
  | f :: r, a, a', ha, ha', h => run_ge r (beh f a) (beh f a') (by rw [len_beh, ha]) (by rw [len_beh, ha']) fun i hi => by
    rw [beh_at ha hi, beh_at ha' hi]
    have := h i hi
    omega
theorem enab_ge {n : Nat} {f : SF} (k : IsF n f) {a a' : Heap0} (h : ∀ i, i < n → a.getD i 0 ≤ a'.getD i 0) (e : enab f.tk a = true) : enab f.tk a' = true := by
  unfold enab at e ⊢
  rw [List.all_eq_true] at e ⊢
  intro p hp
  have z := of_decide_eq_true (e p hp)
  exact decide_eq_true (Int.le_trans z (h p.1 (k.tr p hp).1))
/-- a row that is right stays so -/
theorem Mor.row {L L' : Lk} (m : Mor L L') {goal : Heap0} {r : List SF} (hg : IsH L.places.length goal) (h1 : ∀ f, f ∈ r → f ∈ L.fs) (h2 : ∀ j, j < r.length → enab (r.getD j default).tk (runTo L.begin (r.take j)) = true) (h3 : ov (runTo L.begin r) goal = true) :
    (∀ f, f ∈ r → f ∈ L'.fs) ∧ (∀ j, j < r.length → enab (r.getD j default).tk (runTo L'.begin (r.take j)) = true) ∧ ov (runTo L'.begin r) goal = true := by
  have b := begin_is m.ok
  have b' := begin_is m.ok'
  rw [m.pl] at b'
  have o := (ov_at b'.l b.l).mp m.be
  refine ⟨fun f hf => m.fs f (h1 f hf), fun j hj => enab_ge (m.ok.isF (h1 _ (getD_mem hj))) (run_ge _ _ _ b.l b'.l o) (h2 j hj), ?_⟩
  refine (ov_at (by rw [len_run, b'.l]) hg.l).mpr fun i hi => ?_
  have z := (ov_at (by rw [len_run, b.l]) hg.l).mp h3 i hi
  have z2 := run_ge r _ _ b.l b'.l o i hi
  omega
theorem Mor.cvr {L L' : Lk} (m : Mor L L') {h : Heap0} (hh : IsH L.places.length h) (c : Cvr L.fs L.begin h) : Cvr L'.fs L'.begin h := by
  obtain ⟨g, r, o⟩ := c
  have b := begin_is m.ok
  have b' := begin_is m.ok'
  rw [m.pl] at b'
  obtain ⟨d, r2, hd, o2⟩ := r.ovup (fun f hf => m.ok.isF hf) b b' m.be
  exact ⟨d, r2.mono m.fs, ov_trans hd.l (r.isH (fun f hf => m.ok.isF hf) b).l hh.l o2 o⟩
/-! ### of a net turned about -/
structure Iso (L L' : Lk) (ph : Heap0 → Heap0) : Prop where
  ok : LkOk L
  ok' : LkOk L'
  n : L'.places.length = L.places.length
  is : ∀ h, IsH L.places.length h → IsH L.places.length (ph h)
  inv : ∀ h, ph (ph h) = h
  ov : ∀ a b, IsH L.places.length a → IsH L.places.length b → TF.ov (ph a) (ph b) = TF.ov a b
  be : L'.begin = ph L.begin
  fw : ∀ f, f ∈ L.fs → ∃ g, g ∈ L'.fs ∧ ∀ h, IsH L.places.length h → bef g (ph h) = ph (bef f h)
  bw : ∀ g, g ∈ L'.fs → ∃ f, f ∈ L.fs ∧ ∀ h, IsH L.places.length h → bef g (ph h) = ph (bef f h)
abbrev Pm (ph : Heap0 → Heap0) (l l' : List Heap0) : Prop := l'.Perm (l.map ph)
section
variable {L L' : Lk} {ph : Heap0 → Heap0}
theorem Pm.mem (inv : ∀ h, ph (ph h) = h) {l l' : List Heap0} (p : Pm ph l l') {x : Heap0} : ph x ∈ l' ↔ x ∈ l := by
  rw [p.mem_iff, List.mem_map]
  constructor
  · rintro ⟨y, hy, e⟩
    have e2 := congrArg ph e
    rw [inv, inv] at e2
    exact e2 ▸ hy
  · exact fun h => ⟨x, h, rfl⟩
theorem Pm.mem2 (inv : ∀ h, ph (ph h) = h) {l l' : List Heap0} (p : Pm ph l l') {y : Heap0} : y ∈ l' ↔ ph y ∈ l := by
  have h := Pm.mem inv p (x := ph y)
  rw [inv] at h
  exact h
theorem Pm.come (i : Iso L L' ph) {l l' : List Heap0} (hl : ∀ x, x ∈ l → IsH L.places.length x) (p : Pm ph l l') : comeTo L' l' = comeTo L l := by
  have key : comeTo L' l' = true ↔ comeTo L l = true := by
    unfold comeTo
    rw [List.any_eq_true, List.any_eq_true]
    constructor
    · rintro ⟨y, hy, e⟩
      have hx := (Pm.mem2 i.inv p).mp hy
      refine ⟨ph y, hx, ?_⟩
      rw [← i.ov _ _ (begin_is i.ok) (hl _ hx), i.inv, ← i.be]
      exact e
    · rintro ⟨x, hx, e⟩
      refine ⟨ph x, (Pm.mem i.inv p).mpr hx, ?_⟩
      rw [i.be, i.ov _ _ (begin_is i.ok) (hl x hx)]
      exact e
  cases h : comeTo L l with
  | true => exact key.mpr h
  | false =>
    cases h' : comeTo L' l' with
    | false => rfl
    | true => rw [key.mp h'] at h; cases h
theorem Pm.nextLv (i : Iso L L' ph) {last last' fresh fresh' : List Heap0} (hl : ∀ x, x ∈ last → IsH L.places.length x) (hf : ∀ x, x ∈ fresh → IsH L.places.length x) (p : Pm ph last last') (q : Pm ph fresh fresh') : Pm ph (nextLv L last fresh) (nextLv L' last' fresh') := by
  have hall : ∀ x, x ∈ last ++ moreOf L fresh → IsH L.places.length x := fun x hx => (List.mem_append.mp hx).elim (hl x) (more_is i.ok hf x)
  have hm : ∀ x, x ∈ last' ++ moreOf L' fresh' ↔ ph x ∈ last ++ moreOf L fresh := fun x => by
    rw [List.mem_append, List.mem_append, Pm.mem2 i.inv p]
    refine or_congr Iff.rfl ?_
    constructor
    · intro h
      obtain ⟨y, hy, h⟩ := List.mem_flatMap.mp h
      obtain ⟨g, hg, rfl⟩ := List.mem_map.mp h
      have hy2 := (Pm.mem2 i.inv q).mp hy
      obtain ⟨f, hf2, e⟩ := i.bw g hg
      have e2 := e (ph y) (hf _ hy2)
      rw [i.inv] at e2
      rw [e2, i.inv]
      exact List.mem_flatMap.mpr ⟨ph y, hy2, List.mem_map.mpr ⟨f, hf2, rfl⟩⟩
    · intro h
      obtain ⟨y, hy, h⟩ := List.mem_flatMap.mp h
      obtain ⟨f, hf2, e0⟩ := List.mem_map.mp h
      obtain ⟨g, hg, e⟩ := i.fw f hf2
      have e2 := congrArg ph e0
      have e2 : ph (bef f y) = ph (ph x) := e2
      rw [i.inv] at e2
      rw [← e2, ← e y (hf y hy)]
      exact List.mem_flatMap.mpr ⟨ph y, (Pm.mem i.inv q).mpr hy, List.mem_map.mpr ⟨g, hg, rfl⟩⟩
  have hall' : ∀ x, x ∈ last' ++ moreOf L' fresh' → IsH L.places.length x := fun x hx => by
    have z := i.is _ (hall _ ((hm x).mp hx))
    rw [i.inv] at z
    exact z
  have len : LenN L.places.length (last ++ moreOf L fresh) := fun x hx => (hall x hx).l
  have len' : LenN L.places.length (last' ++ moreOf L' fresh') := fun x hx => (hall' x hx).l
  refine (List.perm_ext_iff_of_nodup (lea_nodup _) (List.Pairwise.map ph (fun a b h e => h (by have z := congrArg ph e; rw [i.inv, i.inv] at z; exact z)) (lea_nodup _))).mpr fun x => ?_
  have hx : x ∈ (TF.nextLv L last fresh).map ph ↔ ph x ∈ TF.nextLv L last fresh := Pm.mem2 i.inv (List.Perm.refl _)
  refine Iff.trans ?_ hx.symm
  show x ∈ lea (last' ++ moreOf L' fresh') ↔ ph x ∈ lea (last ++ moreOf L fresh)
  rw [mem_lea len, mem_lea len', hm x]
  refine and_congr_right fun hx => ?_
  have ix : IsH L.places.length x := by
    have z := i.is _ (hall _ hx)
    rw [i.inv] at z
    exact z
  constructor
  · intro h y hy e
    have e2 := h (ph y) ((hm _).mpr (by rw [i.inv]; exact hy)) (by
      have z := i.ov (ph x) y (hall _ hx) (hall y hy)
      rw [i.inv] at z
      rw [z]
      exact e)
    rw [← e2, i.inv]
  · intro h y hy e
    have hy2 := (hm y).mp hy
    have e2 := h (ph y) hy2 (by rw [i.ov x y ix (hall' y hy)]; exact e)
    have e3 := congrArg ph e2
    rw [i.inv, i.inv] at e3
    exact e3
theorem Pm.freshOf (inv : ∀ h, ph (ph h) = h) {a a' b b' : List Heap0} (p : Pm ph a a') (q : Pm ph b b') : Pm ph (freshOf a b) (freshOf a' b') := by
  unfold TF.freshOf
  refine (p.filter _).trans ?_
  rw [List.filter_map]
  have e : ((fun h => !decide (h ∈ b')) ∘ ph) = fun h => !decide (h ∈ b) := funext fun x => by
    show (!decide (ph x ∈ b')) = _
    rw [decide_eq_decide.mpr (Pm.mem inv q)]
  rw [e]
/-- levels that are alike -/
def PmL (ph : Heap0 → Heap0) (ls ls' : List (List Heap0)) : Prop := ls'.length = ls.length ∧ ∀ j, Pm ph (ls.getD j []) (ls'.getD j [])
def TR (L L' : Lk) (ph : Heap0 → Heap0) (t t' : Option Told) : Prop := match t, t' with
  | none, none => True
  | some (.row r), some (.row r') => ∃ ls ls', PmL ph ls ls' ∧ (∀ lv, lv ∈ ls → ∀ x, x ∈ lv → IsH L.places.length x) ∧ RowOk L L.begin ls ∧ r = rowOf L L.begin ls ∧ r' = rowOf L' L'.begin ls'
  | some (.never l), some (.never l') => Pm ph l l'
  | _, _ => False
theorem PmL.snoc {ls ls' : List (List Heap0)} {a a' : List Heap0} (p : PmL ph ls ls') (q : Pm ph a a') : PmL ph (ls ++ [a]) (ls' ++ [a']) := by
  refine ⟨by rw [List.length_append, List.length_append, p.1]; rfl, fun j => ?_⟩
  by_cases h : j < ls.length
  · have e1 : (ls ++ [a]).getD j [] = ls.getD j [] := by rw [List.getD_eq_getElem?_getD, List.getD_eq_getElem?_getD, List.getElem?_append_left h]
    have e2 : (ls' ++ [a']).getD j [] = ls'.getD j [] := by rw [List.getD_eq_getElem?_getD, List.getD_eq_getElem?_getD, List.getElem?_append_left (by rw [p.1]; exact h)]
    rw [e1, e2]
    exact p.2 j
  · rw [List.getD_eq_getElem?_getD, List.getD_eq_getElem?_getD, List.getElem?_append_right (by omega), List.getElem?_append_right (by rw [p.1]; omega), p.1]
    cases j - ls.length with
    | zero => exact q
    | succ k => exact List.Perm.refl _
theorem PmL.rev {ls ls' : List (List Heap0)} (p : PmL ph ls ls') : PmL ph ls.reverse ls'.reverse := by
  refine ⟨by rw [List.length_reverse, List.length_reverse, p.1], fun j => ?_⟩
  by_cases h : j < ls.length
  · have e1 : ls.reverse.getD j [] = ls.getD (ls.length - 1 - j) [] := by rw [List.getD_eq_getElem?_getD, List.getD_eq_getElem?_getD, List.getElem?_reverse h]
    have e2 : ls'.reverse.getD j [] = ls'.getD (ls.length - 1 - j) [] := by rw [List.getD_eq_getElem?_getD, List.getD_eq_getElem?_getD, List.getElem?_reverse (by rw [p.1]; exact h), p.1]
    rw [e1, e2]
    exact p.2 _
  · rw [List.getD_eq_getElem?_getD, List.getD_eq_getElem?_getD, List.getElem?_eq_none (by rw [List.length_reverse]; omega), List.getElem?_eq_none (by rw [List.length_reverse, p.1]; omega)]
    exact List.Perm.refl _
theorem told_iso (i : Iso L L' ph) {goal : Heap0} {most : Nat} : ∀ (n : Nat) (ini ini' : List (List Heap0)) (last last' fresh fresh' : List Heap0), SInv L goal ini last fresh → PmL ph ini ini' → Pm ph last last' → Pm ph fresh fresh' → TR L L' ph (told L most n ini last fresh) (told L' most n ini' last' fresh')
  | 0, _, _, _, _, _, _, _, _, _, _ => trivial
  | n + 1, ini, ini', last, last', fresh, fresh', s, pi, pl, pf => by
    rw [told_succ, told_succ, Pm.come i s.ll pl]
    by_cases hc : comeTo L last = true
    · rw [if_pos hc, if_pos hc]
      have hu : U L.fs goal ini.length L.begin := (s.up _ (begin_is s.ok)).mp (up_any.mp hc)
      have h1 := (s.pick ini.length L.begin (Nat.le_refl _) (begin_is s.ok) hu s.nc).1
      rw [List.take_length] at h1
      exact ⟨ini.reverse, ini'.reverse, pi.rev, fun lv h => s.il lv (List.mem_reverse.mp h), h1, rfl, rfl⟩
    · rw [if_neg hc, if_neg hc]
      have hc' : comeTo L last = false := by simpa using hc
      by_cases hf : fresh = []
      · have hf' : fresh' = [] := by
          rw [hf] at pf
          exact pf.eq_nil
        rw [if_pos hf, if_pos hf']
        exact pl
      · have hf' : ¬ fresh' = [] := fun e => hf (by
          rw [e] at pf
          exact List.map_eq_nil_iff.mp pf.nil_eq.symm)
        rw [if_neg hf, if_neg hf']
        have e1 : last'.length = last.length := by rw [pl.length_eq, List.length_map]
        rw [e1, pi.1]
        by_cases hg : most < last.length ∨ most < ini.length + 1
        · rw [if_pos hg, if_pos hg]
          trivial
        · rw [if_neg hg, if_neg hg]
          have hnx := Pm.nextLv i s.ll (fun x hx => s.ll x (s.fl x hx)) pl pf
          exact told_iso i n _ _ _ _ _ _ (s.next hc') (pi.snoc pl) hnx (Pm.freshOf i.inv hnx pl)
theorem toldBy_iso (i : Iso L L' ph) {goal : Heap0} (g : IsH L.places.length goal) (most : Nat) : TR L L' ph (toldBy L most goal) (toldBy L' most (ph goal)) :=
  told_iso i _ _ _ _ _ _ _ (SInv.start i.ok g) ⟨rfl, fun _ => List.Perm.refl _⟩ (List.Perm.refl _) (List.Perm.refl _)
/-- rows of a net whose firings are led along -/
theorem rowOf_map (i : Iso L L' ph) {t : SF → SF} (td : t default = default) (ef : L'.fs = L.fs.map t) (en : ∀ f, f ∈ L.fs → ∀ a, IsH L.places.length a → enab (t f).tk (ph a) = enab f.tk a) (bh : ∀ f, f ∈ L.fs → ∀ a, IsH L.places.length a → beh (t f) (ph a) = ph (beh f a)) :
    ∀ (ls ls' : List (List Heap0)) (a : Heap0), IsH L.places.length a → RowOk L a ls → (∀ lv, lv ∈ ls → ∀ x, x ∈ lv → IsH L.places.length x) → PmL ph ls ls' → rowOf L' (ph a) ls' = (rowOf L a ls).map t
  | [], ls', a, ha, ok, hl, p => by
    have e : ls' = [] := List.length_eq_zero_iff.mp p.1
    rw [e]
    rfl
  | lv :: ls, [], a, ha, ok, hl, p => by
    have := p.1
    simp at this
  | lv :: ls, lv' :: ls', a, ha, ok, hl, p => by
    have p0 : Pm ph lv lv' := p.2 0
    have ps : PmL ph ls ls' := ⟨by have := p.1; simpa using this, fun j => p.2 (j + 1)⟩
    have epk : pick L' (ph a) lv' = (pick L a lv).map t := by
      unfold pick
      rw [ef, List.filter_map, List.filter_map]
      congr 1
      rw [List.filter_filter, List.filter_filter]
      refine List.filter_congr fun f hf => ?_
      show (lv'.any (fun x => ov (beh (t f) (ph a)) x) && enab (t f).tk (ph a)) = _
      rw [en f hf a ha, bh f hf a ha]
      cases e : enab f.tk a with
      | false => rw [Bool.and_false, Bool.and_false]
      | true =>
        rw [Bool.and_true, Bool.and_true]
        have hb := beh_is (i.ok.isF hf) ha e
        have key : (lv'.any fun x => ov (ph (beh f a)) x) = true ↔ (lv.any fun x => ov (beh f a) x) = true := by
          rw [List.any_eq_true, List.any_eq_true]
          constructor
          · rintro ⟨y, hy, o⟩
            have hx := (Pm.mem2 i.inv p0).mp hy
            refine ⟨ph y, hx, ?_⟩
            rw [← i.ov _ _ hb (hl lv List.mem_cons_self _ hx), i.inv]
            exact o
          · rintro ⟨x, hx, o⟩
            refine ⟨ph x, (Pm.mem i.inv p0).mpr hx, ?_⟩
            rw [i.ov _ _ hb (hl lv List.mem_cons_self _ hx)]
            exact o
        exact Bool.eq_iff_iff.mpr key
    obtain ⟨f, rest, ep⟩ : ∃ f rest, pick L a lv = f :: rest := by
      cases h : pick L a lv with
      | nil => exact absurd h ok.1
      | cons f rest => exact ⟨f, rest, rfl⟩
    have hfm : f ∈ pick L a lv := by rw [ep]; exact List.mem_cons_self
    have hf := pick_mem hfm
    have e1 : (pick L a lv).headD default = f := by rw [ep]; rfl
    have e2 : (pick L' (ph a) lv').headD default = t f := by rw [epk, ep]; rfl
    have hok := ok.2
    show (pick L' (ph a) lv').headD default :: rowOf L' (beh ((pick L' (ph a) lv').headD default) (ph a)) ls' = ((pick L a lv).headD default :: rowOf L (beh ((pick L a lv).headD default) a) ls).map t
    have hok : RowOk L (beh ((pick L a lv).headD default) a) ls := hok
    rw [e1] at hok
    rw [e1, e2, bh f hf.1 a ha, rowOf_map i td ef en bh ls ls' (beh f a) (beh_is (i.ok.isF hf.1) ha hf.2) hok (fun lv h => hl lv (List.mem_cons_of_mem _ h)) ps]
    rfl
end
end TF
set_option Elab.async false
set_option linter.all false
set_option maxRecDepth 100000
set_option maxHeartbeats 4000000
/-! P4: nets whose firings, whose places are turned about. -/
namespace TF
open PySem WD
theorem nd_rev {α : Type} {l : List α} (h : l.Nodup) : l.reverse.Nodup := (List.reverse_perm l).nodup_iff.mpr h
theorem rev_inj {α : Type} {a b : List α} (e : a.reverse = b.reverse) : a = b := by
  rw [← List.reverse_reverse a, e, List.reverse_reverse]
def Net.bk (n : Net) : Net := ⟨n.places, n.firs.reverse⟩
def trFir (f : Fir) : Fir := ⟨f.name, f.label, f.takes.reverse, f.gives.reverse⟩
def Net.tn (n : Net) : Net := ⟨n.places.reverse, n.firs.map trFir⟩
def trR (n : Nat) (ps : Rps) : Rps := (ps.map fun p => (n - 1 - p.1, p.2)).reverse
def trS (n : Nat) (f : SF) : SF := ⟨f.name, f.label, trR n f.tk, trR n f.gv⟩
theorem bk_ok {n : Net} (h : OkNet n) : OkNet n.bk := ⟨h.pn, h.pd, h.p1, h.p2, fun f hf => h.fo f (List.mem_reverse.mp hf), by
  show (n.firs.reverse.map Fir.name).Nodup
  rw [List.map_reverse]
  exact nd_rev h.fd, by
  show n.firs.reverse.length ≤ 60
  rw [List.length_reverse]
  exact h.f2⟩
theorem tr_parts {names : List Str} {ps : List (Str × Int)} (h : OkParts names ps) : OkParts names.reverse ps.reverse := ⟨by
  rw [List.map_reverse]
  exact List.reverse_sublist.mpr h.sub, fun p hp => h.cnt p (List.mem_reverse.mp hp)⟩
theorem tn_names (n : Net) : n.tn.names = n.names.reverse := List.map_reverse
theorem tn_ok {n : Net} (h : OkNet n) : OkNet n.tn := ⟨fun p hp => h.pn p (List.mem_reverse.mp hp), by
  rw [tn_names]
  exact nd_rev h.pd, by
  show 1 ≤ n.places.reverse.length
  rw [List.length_reverse]
  exact h.p1, by
  show n.places.reverse.length ≤ 40
  rw [List.length_reverse]
  exact h.p2, fun f hf => by
  obtain ⟨g, hg, rfl⟩ := List.mem_map.mp hf
  have k := h.fo g hg
  rw [tn_names]
  exact ⟨k.nm, k.lb, tr_parts k.tk, tr_parts k.gv⟩, by
  show ((n.firs.map trFir).map Fir.name).Nodup
  rw [List.map_map]
  exact h.fd, by
  show (n.firs.map trFir).length ≤ 60
  rw [List.length_map]
  exact h.f2⟩
theorem idx_rev {names : List Str} (nd : names.Nodup) {x : Str} (h : x ∈ names) : names.reverse.idxOf x = names.length - 1 - names.idxOf x := by
  have h1 := idx_get h
  have h2 := idx_get (names := names.reverse) (List.mem_reverse.mpr h)
  have l1 := idx_lt h
  have l2 := idx_lt (names := names.reverse) (List.mem_reverse.mpr h)
  rw [List.length_reverse] at l2
  rw [List.getElem?_reverse l2] at h2
  have h3 : names[names.idxOf x]? = names[names.length - 1 - names.reverse.idxOf x]? := h1.trans h2.symm
  have e := (List.getElem?_inj l1 nd).mp h3
  omega
theorem rk_rev {names : List Str} (nd : names.Nodup) {ps : List (Str × Int)} (h : OkParts names ps) : rkOf names.reverse ps.reverse = trR names.length (rkOf names ps) := by
  unfold rkOf trR
  rw [List.map_reverse, List.map_map]
  congr 1
  refine List.map_congr_left fun p hp => ?_
  have hm : p.1 ∈ names := h.sub.subset (List.mem_map.mpr ⟨p, hp, rfl⟩)
  show (names.reverse.idxOf p.1, p.2) = (names.length - 1 - names.idxOf p.1, p.2)
  rw [idx_rev nd hm]
theorem bk_lk (n : Net) : lkOf n.bk = ⟨(lkOf n).places, (lkOf n).begin, (lkOf n).fs.reverse⟩ := by
  unfold lkOf
  congr 1
  exact List.map_reverse
theorem tn_fs {n : Net} (h : OkNet n) : (lkOf n.tn).fs = (lkOf n).fs.map (trS n.names.length) := by
  show (n.firs.map trFir).map (sfOf n.tn.names) = (n.firs.map (sfOf n.names)).map _
  rw [List.map_map, List.map_map]
  refine List.map_congr_left fun f hf => ?_
  have k := h.fo f hf
  show (⟨f.name, f.label, rkOf n.tn.names f.takes.reverse, rkOf n.tn.names f.gives.reverse⟩ : SF) = ⟨f.name, f.label, _, _⟩
  rw [tn_names, rk_rev h.pd k.tk, rk_rev h.pd k.gv]
  rfl
theorem tn_begin (n : Net) : (lkOf n.tn).begin = (lkOf n).begin.reverse := List.map_reverse
theorem tn_places (n : Net) : (lkOf n.tn).places = (lkOf n).places.reverse := List.map_reverse
theorem amt_app (a b : Rps) (i : Nat) : amt (a ++ b) i = amt a i + amt b i := by
  induction a with
  | nil => simp [amt]
  | cons p r ih =>
    rw [List.cons_append, amt_cons, amt_cons, ih]
    omega
theorem amt_rev (a : Rps) (i : Nat) : amt a.reverse i = amt a i := by
  induction a with
  | nil => rfl
  | cons p r ih =>
    rw [List.reverse_cons, amt_app, ih, amt_cons, amt_cons]
    show amt r i + ((if p.1 = i then p.2 else 0) + 0) = _
    omega
theorem amt_tr {n i : Nat} (hi : i < n) : ∀ {ps : Rps}, (∀ p, p ∈ ps → p.1 < n) → amt (ps.map fun p => (n - 1 - p.1, p.2)) i = amt ps (n - 1 - i)
  | [], _ => rfl
  | p :: r, h => by
    have hp := h p List.mem_cons_self
    rw [List.map_cons, amt_cons, amt_cons, amt_tr hi fun q hq => h q (List.mem_cons_of_mem _ hq)]
    congr 1
    by_cases e : n - 1 - p.1 = i
    · rw [if_pos e, if_pos (by omega)]
    · rw [if_neg e, if_neg (by omega)]
theorem amt_trR {n i : Nat} (hi : i < n) {ps : Rps} (h : ∀ p, p ∈ ps → p.1 < n) : amt (trR n ps) i = amt ps (n - 1 - i) := (amt_rev _ _).trans (amt_tr hi h)
theorem rev_at {h : Heap0} {i n : Nat} (hl : h.length = n) (hi : i < n) : h.reverse.getD i 0 = h.getD (n - 1 - i) 0 := by
  rw [List.getD_eq_getElem?_getD, List.getD_eq_getElem?_getD, List.getElem?_reverse (by omega), hl]
theorem rev_isH {n : Nat} {h : Heap0} (k : IsH n h) : IsH n h.reverse := ⟨by rw [List.length_reverse, k.l], fun x hx => k.p x (List.mem_reverse.mp hx)⟩
theorem rev_ov {n : Nat} {a b : Heap0} (ha : a.length = n) (hb : b.length = n) : ov a.reverse b.reverse = ov a b := by
  refine Bool.eq_iff_iff.mpr ?_
  rw [ov_at (n := n) (by rw [List.length_reverse, ha]) (by rw [List.length_reverse, hb]), ov_at ha hb]
  constructor
  · intro h i hi
    have z := h (n - 1 - i) (by omega)
    rw [rev_at ha (by omega), rev_at hb (by omega)] at z
    have e : n - 1 - (n - 1 - i) = i := by omega
    rw [e] at z
    exact z
  · intro h i hi
    rw [rev_at ha hi, rev_at hb hi]
    exact h _ (by omega)
section
variable {n : Nat} {f : SF} (k : IsF n f)
include k
theorem trS_is : IsF n (trS n f) := by
  have inj : ∀ {ps : Rps}, (∀ p, p ∈ ps → p.1 < n ∧ 1 ≤ p.2) → (ps.map Prod.fst).Nodup → ((trR n ps).map Prod.fst).Nodup := fun {ps} h nd => by
    unfold trR
    rw [List.map_reverse, List.map_map]
    refine nd_rev ?_
    have nd2 : ps.Pairwise fun p q => p.1 ≠ q.1 := List.pairwise_map.mp nd
    refine List.pairwise_map.mpr (nd2.imp_of_mem fun {p q} hp hq ne c => ne ?_)
    have h1 := (h p hp).1
    have h2 := (h q hq).1
    have c : n - 1 - p.1 = n - 1 - q.1 := c
    omega
  have mem : ∀ {ps : Rps}, (∀ p, p ∈ ps → p.1 < n ∧ 1 ≤ p.2) → ∀ p, p ∈ trR n ps → p.1 < n ∧ 1 ≤ p.2 := fun {ps} h p hp => by
    obtain ⟨q, hq, rfl⟩ := List.mem_map.mp (List.mem_reverse.mp hp)
    have z := h q hq
    exact ⟨by show n - 1 - q.1 < n; omega, z.2⟩
  exact ⟨mem k.tr, mem k.gr, inj k.tr k.td, inj k.gr k.gd⟩
theorem trS_enab {a : Heap0} (ha : IsH n a) : enab (trS n f).tk a.reverse = enab f.tk a := by
  refine Bool.eq_iff_iff.mpr ?_
  rw [enab_iff (trS_is k) (rev_isH ha), enab_iff k ha]
  constructor
  · intro h i hi
    have z := h (n - 1 - i) (by omega)
    rw [rev_at ha.l (by omega), show amt (trS n f).tk (n - 1 - i) = amt (trR n f.tk) (n - 1 - i) from rfl, amt_trR (by omega) fun p hp => (k.tr p hp).1] at z
    have e : n - 1 - (n - 1 - i) = i := by omega
    rw [e] at z
    exact z
  · intro h i hi
    rw [rev_at ha.l hi, show amt (trS n f).tk i = amt (trR n f.tk) i from rfl, amt_trR hi fun p hp => (k.tr p hp).1]
    exact h _ (by omega)
theorem trS_beh {a : Heap0} (ha : a.length = n) : beh (trS n f) a.reverse = (beh f a).reverse := by
  refine heap_ext (n := n) (by rw [len_beh, List.length_reverse, ha]) (by rw [List.length_reverse, len_beh, ha]) fun i hi => ?_
  rw [beh_at (by rw [List.length_reverse, ha]) hi, rev_at (h := beh f a) (by rw [len_beh, ha]) hi, beh_at ha (by omega), rev_at ha hi, show amt (trS n f).tk i = amt (trR n f.tk) i from rfl, show amt (trS n f).gv i = amt (trR n f.gv) i from rfl, amt_trR hi fun p hp => (k.tr p hp).1, amt_trR hi fun p hp => (k.gr p hp).1]
theorem trS_bef {a : Heap0} (ha : IsH n a) : bef (trS n f) a.reverse = (bef f a).reverse := by
  refine heap_ext (n := n) (by rw [len_bef, List.length_reverse, ha.l]) (by rw [List.length_reverse, len_bef, ha.l]) fun i hi => ?_
  rw [bef_at (trS_is k) (rev_isH ha) hi, rev_at (h := bef f a) (by rw [len_bef, ha.l]) hi, bef_at k ha (by omega), rev_at ha.l hi, show amt (trS n f).tk i = amt (trR n f.tk) i from rfl, show amt (trS n f).gv i = amt (trR n f.gv) i from rfl, amt_trR hi fun p hp => (k.tr p hp).1, amt_trR hi fun p hp => (k.gr p hp).1]
end
theorem lk_n (n : Net) : (lkOf n).places.length = n.names.length := rfl
theorem bk_iso {n : Net} (h : OkNet n) : Iso (lkOf n) (lkOf n.bk) (fun x => x) := by
  refine ⟨lk_ok h, lk_ok (bk_ok h), ?_, fun _ k => k, fun _ => rfl, fun _ _ _ _ => rfl, ?_, fun f hf => ⟨f, ?_, fun _ _ => rfl⟩, fun f hf => ⟨f, ?_, fun _ _ => rfl⟩⟩
  · rw [bk_lk]
  · rw [bk_lk]
  · rw [bk_lk]
    exact List.mem_reverse.mpr hf
  · rw [bk_lk] at hf
    exact List.mem_reverse.mp hf
theorem tn_iso {n : Net} (h : OkNet n) : Iso (lkOf n) (lkOf n.tn) List.reverse := by
  have ok := lk_ok h
  refine ⟨ok, lk_ok (tn_ok h), ?_, fun _ k => rev_isH k, fun _ => List.reverse_reverse _, fun _ _ a b => rev_ov a.l b.l, tn_begin n, fun f hf => ⟨trS n.names.length f, ?_, fun x hx => trS_bef (ok.isF hf) hx⟩, fun g hg => ?_⟩
  · rw [tn_places, List.length_reverse]
  · rw [tn_fs h]
    exact List.mem_map.mpr ⟨f, hf, rfl⟩
  · rw [tn_fs h] at hg
    obtain ⟨f, hf, rfl⟩ := List.mem_map.mp hg
    exact ⟨f, hf, fun x hx => trS_bef (ok.isF hf) hx⟩
/-- what is told of the places turned about -/
def revT : Told → Told
  | .row r => .row r
  | .never l => .never (srt hLt (l.map List.reverse))
theorem trS_def (n : Nat) : trS n default = default := rfl
theorem tn_told {n : Net} (h : OkNet n) {goal : Heap0} (g : IsH n.names.length goal) (most : Nat) : match toldBy (lkOf n) most goal, toldBy (lkOf n.tn) most goal.reverse with
    | none, none => True
    | some (.row r), some (.row r') => r' = r.map (trS n.names.length)
    | some (.never l), some (.never l') => l' = srt hLt (l.map List.reverse)
    | _, _ => False := by
  have i := tn_iso h
  have z := toldBy_iso i g most
  have z2 := toldBy_ok (L := lkOf n.tn) (goal := goal.reverse) most (lk_ok (tn_ok h)) (by rw [tn_places, List.length_reverse]; exact rev_isH g)
  generalize toldBy (lkOf n) most goal = t at z ⊢
  generalize toldBy (lkOf n.tn) most goal.reverse = t' at z z2 ⊢
  cases t with
  | none =>
    cases t' with
    | none => trivial
    | some u => exact z
  | some u =>
    cases t' with
    | none => cases u <;> exact z
    | some u' =>
      cases u with
      | row r =>
        cases u' with
        | row r' =>
          obtain ⟨ls, ls', p, hl, ok, rfl, rfl⟩ := z
          show rowOf _ _ _ = _
          rw [tn_begin]
          exact rowOf_map i (trS_def _) (tn_fs h) (fun f hf a ha => trS_enab (i.ok.isF hf) ha) (fun f hf a ha => trS_beh (i.ok.isF hf) ha.l) ls ls' _ (begin_is i.ok) ok hl p
        | never l' => exact z
      | never l =>
        cases u' with
        | row r' => exact z
        | never l' =>
          have z : l'.Perm (l.map List.reverse) := z
          have z2 : TNev _ _ _ _ := z2
          show l' = _
          rw [← srt_eq hLt_tot z]
          exact (srt_of hLt_tot z2.so).symm
theorem bk_told {n : Net} (h : OkNet n) {goal : Heap0} (g : IsH n.names.length goal) (most : Nat) : match toldBy (lkOf n) most goal, toldBy (lkOf n.bk) most goal with
    | none, none => True
    | some (.row r), some (.row r') => r'.length = r.length
    | some (.never l), some (.never l') => l' = l
    | _, _ => False := by
  have i := bk_iso h
  have z := toldBy_iso i g most
  have z1 := toldBy_ok (L := lkOf n) (goal := goal) most (lk_ok h) g
  have z2 := toldBy_ok (L := lkOf n.bk) (goal := goal) most (lk_ok (bk_ok h)) (by rw [bk_lk]; exact g)
  generalize toldBy (lkOf n) most goal = t at z z1 ⊢
  have z : TR (lkOf n) (lkOf n.bk) (fun x => x) t (toldBy (lkOf n.bk) most goal) := z
  generalize toldBy (lkOf n.bk) most goal = t' at z z2 ⊢
  cases t with
  | none =>
    cases t' with
    | none => trivial
    | some u => exact z
  | some u =>
    cases t' with
    | none => cases u <;> exact z
    | some u' =>
      cases u with
      | row r =>
        cases u' with
        | row r' =>
          obtain ⟨ls, ls', p, hl, ok, rfl, rfl⟩ := z
          show (rowOf _ _ _).length = (rowOf _ _ _).length
          rw [rowOf_len, rowOf_len, p.1]
        | never l' => exact z
      | never l =>
        cases u' with
        | row r' => exact z
        | never l' =>
          have z : l'.Perm (l.map fun x => x) := z
          rw [List.map_id'] at z
          have z2 : TNev _ _ _ _ := z2
          have z1 : TNev _ _ _ _ := z1
          exact ord_uniq hLt_tot z2.so z1.so z
/-! ### wide heaps of the net turned about -/
theorem tn_run {n : Net} (h : OkNet n) {a b : Heap0} (r : Run (lkOf n).fs a b) : IsH n.names.length a → Run (lkOf n.tn).fs a.reverse b.reverse := by
  have i := tn_iso h
  rw [tn_fs h]
  induction r with
  | nil a => exact fun _ => .nil _
  | @step a b f hf e r ih =>
    intro ha
    have k : IsF n.names.length f := i.ok.isF hf
    have z := ih (beh_is k ha e)
    rw [← trS_beh k ha.l] at z
    exact .step (List.mem_map.mpr ⟨f, hf, rfl⟩) (by rw [trS_enab k ha]; exact e) z
theorem tn_cvr1 {n : Net} (h : OkNet n) {x : Heap0} (hx : IsH n.names.length x) (c : Cvr (lkOf n).fs (lkOf n).begin x) : Cvr (lkOf n.tn).fs (lkOf n.tn).begin x.reverse := by
  obtain ⟨m, r, o⟩ := c
  have ok := lk_ok h
  have hm := r.isH (fun f hf => ok.isF hf) (begin_is ok)
  refine ⟨m.reverse, ?_, by rw [rev_ov hm.l hx.l]; exact o⟩
  rw [tn_begin]
  exact tn_run h r (begin_is ok)
theorem trFir_inv (f : Fir) : trFir (trFir f) = f := by
  unfold trFir
  rw [List.reverse_reverse, List.reverse_reverse]
theorem tn_tn (n : Net) : n.tn.tn = n := by
  unfold Net.tn
  show (⟨n.places.reverse.reverse, (n.firs.map trFir).map trFir⟩ : Net) = n
  rw [List.reverse_reverse, List.map_map]
  have e : trFir ∘ trFir = id := funext trFir_inv
  rw [e, List.map_id]
theorem tn_cvr {n : Net} (h : OkNet n) {x : Heap0} (hx : IsH n.names.length x) : Cvr (lkOf n.tn).fs (lkOf n.tn).begin x ↔ Cvr (lkOf n).fs (lkOf n).begin x.reverse := by
  constructor
  · intro c
    have z := tn_cvr1 (tn_ok h) (by rw [tn_names, List.length_reverse]; exact hx) c
    rw [tn_tn] at z
    exact z
  · intro c
    have z := tn_cvr1 h (rev_isH hx) c
    rw [List.reverse_reverse] at z
    exact z
theorem wrev_at {w : Wide} {i n : Nat} (hl : w.length = n) (hi : i < n) : w.reverse.getD i none = w.getD (n - 1 - i) none := by
  rw [List.getD_eq_getElem?_getD, List.getD_eq_getElem?_getD, List.getElem?_reverse (by omega), hl]
theorem rev_isW {n : Nat} {w : Wide} (k : IsW n w) : IsW n w.reverse := ⟨by rw [List.length_reverse, k.l], fun i x e => by
  by_cases hi : i < n
  · rw [wrev_at k.l hi] at e
    exact k.p _ x e
  · rw [List.getD_eq_getElem?_getD, List.getElem?_eq_none (by rw [List.length_reverse, k.l]; omega)] at e
    cases e⟩
theorem rev_und {n : Nat} {h : Heap0} {w : Wide} (hh : h.length = n) (hw : w.length = n) : Und n h w.reverse ↔ Und n h.reverse w := by
  constructor
  · intro u i hi x e
    rw [rev_at hh hi]
    exact u (n - 1 - i) (by omega) x (by rw [wrev_at hw (by omega)]; rw [show n - 1 - (n - 1 - i) = i from by omega]; exact e)
  · intro u i hi x e
    rw [wrev_at hw hi] at e
    have z := u (n - 1 - i) (by omega) x e
    rw [rev_at hh (by omega), show n - 1 - (n - 1 - i) = i from by omega] at z
    exact z
theorem rev_over {n : Nat} {a b : Wide} (ha : a.length = n) (hb : b.length = n) : isOver a.reverse b.reverse = isOver a b := by
  refine Bool.eq_iff_iff.mpr ?_
  rw [isOver_at (n := n) (by rw [List.length_reverse, ha]), isOver_at ha]
  constructor
  · intro h i hi
    have z := h (n - 1 - i) (by omega)
    rw [wrev_at ha (by omega), wrev_at hb (by omega)] at z
    rw [show n - 1 - (n - 1 - i) = i from by omega] at z
    exact z
  · intro h i hi
    rw [wrev_at ha hi, wrev_at hb hi]
    exact h _ (by omega)
/-- widest heaps are turned with the places -/
theorem tn_grt {n : Net} (h : OkNet n) {S S' : List Wide} (c : Cov n.names.length (lkOf n).fs (lkOf n).begin S) (c' : Cov n.names.length (lkOf n.tn).fs (lkOf n.tn).begin S') : grt S' = srt wLt ((grt S).map List.reverse) := by
  have c2 : Cov n.names.length (lkOf n.tn).fs (lkOf n.tn).begin (S.map List.reverse) := ⟨fun w hw => by
    obtain ⟨v, hv, rfl⟩ := List.mem_map.mp hw
    exact rev_isW (c.is v hv), fun x hx => by
    rw [tn_cvr h hx, ← c.iff _ (rev_isH hx)]
    constructor
    · rintro ⟨w, hw, u⟩
      obtain ⟨v, hv, rfl⟩ := List.mem_map.mp hw
      exact ⟨v, hv, (rev_und hx.l (c.is v hv).l).mp u⟩
    · rintro ⟨v, hv, u⟩
      exact ⟨v.reverse, List.mem_map.mpr ⟨v, hv, rfl⟩, (rev_und hx.l (c.is v hv).l).mpr u⟩⟩
  rw [grt_eq c' c2 fun _ _ => Iff.rfl]
  have inj : ∀ {l : List Wide}, l.Nodup → (l.map List.reverse).Nodup := fun {l} nd => List.Pairwise.map _ (fun a b ne e => ne (rev_inj e)) nd
  refine srt_eq wLt_tot ((List.perm_ext_iff_of_nodup (maxW_nodup _) (inj ((srt_perm (lt := wLt) (maxW S)).nodup_iff.mpr (maxW_nodup S)))).mpr fun v => ?_)
  rw [mem_maxW]
  constructor
  · rintro ⟨hv, k⟩
    obtain ⟨s, hs, rfl⟩ := List.mem_map.mp hv
    refine List.mem_map.mpr ⟨s, mem_grt.mpr ⟨hs, fun o ho q => ?_⟩, rfl⟩
    exact rev_inj (k o.reverse (List.mem_map.mpr ⟨o, ho, rfl⟩) (by rw [rev_over (c.is o ho).l (c.is s hs).l]; exact q))
  · intro hv
    obtain ⟨s, hs, rfl⟩ := List.mem_map.mp hv
    obtain ⟨hs, k⟩ := mem_grt.mp hs
    refine ⟨List.mem_map.mpr ⟨s, hs, rfl⟩, fun o ho q => ?_⟩
    obtain ⟨t, ht, rfl⟩ := List.mem_map.mp ho
    rw [k t ht (by rw [rev_over (c.is t ht).l (c.is s hs).l] at q; exact q)]
end TF
set_option Elab.async false
set_option linter.all false
set_option maxRecDepth 100000
set_option maxHeartbeats 4000000
/-! W26: the heap to be covered that is drawn. -/
namespace TF
open PySem PySem.Spec PyProof.Rows L2
open PyProof.Rows (envOfC)
def natP (K : PySem.W.Frag) : SP := exP (ι := { i : Int // 0 ≤ i }) fun i => dat K (.int i.1)
def goalP (K : PySem.W.Frag) (m : Nat) : SP := exP (ι := { h : Heap0 // IsH m h }) fun h => dat K (intsT h.1)
theorem k_nat {K : PySem.W.Frag} {P2 P : SP} {r : R2} (h : ∀ i : Int, 0 ≤ i → R2Ok r (dat K (.int i)) P2 P) : R2Ok r (natP K) P2 P := fun O H x y Q l ⟨i, p⟩ p2 q => h i.1 i.2 O H x y Q l p p2 q
theorem nat_of {K : PySem.W.Frag} {i : Int} (h : 0 ≤ i) : Imp (dat K (.int i)) (natP K) := fun H v p => ⟨⟨i, h⟩, p⟩
theorem nats_all {K : PySem.W.Frag} {H : Hp} : ∀ {m : Nat} {vs : List V}, Sat (List.replicate m (natP K)) H vs → ∃ h, IsH m h ∧ Sat ((h.map PyData.int).map (dat K)) H vs
  | 0, _, h => by
    cases h
    exact ⟨[], ⟨rfl, fun x hx => by simp at hx⟩, .nil⟩
  | m + 1, _, h => by
    rw [List.replicate_succ] at h
    cases h with
    | cons h1 h2 =>
      obtain ⟨g, hg, s⟩ := nats_all h2
      obtain ⟨⟨i, hi⟩, p⟩ := h1
      refine ⟨i :: g, ⟨by rw [List.length_cons, hg.l], fun x hx => ?_⟩, .cons p s⟩
      rcases List.mem_cons.mp hx with rfl | hx
      · exact hi
      · exact hg.p x hx
theorem goal_imp {K : PySem.W.Frag} {m : Nat} : Imp (tupP K (List.replicate m (natP K))) (goalP K m) := fun H v ⟨a, xs, e, hs, s⟩ => by
  obtain ⟨h, hh, s2⟩ := nats_all s
  exact ⟨⟨h, hh⟩, tupP_dat ⟨a, xs, e, hs, s2⟩⟩
theorem sel_const {P : SP} : ∀ n : Nat, selP n (fun _ => true) (fun _ => P) = List.replicate n P
  | 0 => rfl
  | n + 1 => by
    rw [selP_yes rfl, sel_const n, ← List.replicate_succ']
section
variable {X : Cx} {an : An} {K : PySem.W.Frag} {ρ : TF.Env} {W W1 W2 W' : Wd} {a b e eu : Expr} {pos p p2 : Pos} {hi j : Int} {n : Net}
theorem rv_addNI (ha : RV X an a ρ W W1 (natP K)) (hb : RV X an b ρ W1 W2 (inP K 0 hi)) : RV X an (.BinOp a .Add b pos) ρ W W2 (natP K) :=
  rv_op op_add (k_nat fun i hi => k_in2 fun q h1 h2 => k_imp (k_I (K := K) (d := .int (i + q)) fun _ => .int _) (nat_of (by omega))) ha hb
theorem rv_addN (hj : 0 ≤ j) (ha : RV X an a ρ W W1 (natP K)) (hb : RV X an b ρ W1 W2 (dat K (.int j))) : RV X an (.BinOp a .Add b pos) ρ W W2 (natP K) :=
  rv_op op_add (k_nat fun i hi => k_imp (k_I (K := K) (d := .int (i + j)) fun _ => .int _) (nat_of (by omega))) ha hb
theorem rv_net0 (ha : RV X an a ρ W W1 (dat X.K (netD n))) (hb : RV X an b ρ W1 W2 (dat X.K (.int 0))) (hs : PlainIx b := by exact fun _ _ => rfl) : RV X an (.Subscript a b pos) ρ W W2 (dat X.K (partsD n.places)) := rv_ixTD (K := X.K) (k := 0) rfl ha hb hs
theorem rv_net1 (ha : RV X an a ρ W W1 (dat X.K (netD n))) (hb : RV X an b ρ W1 W2 (dat X.K (.int 1))) (hs : PlainIx b := by exact fun _ _ => rfl) : RV X an (.Subscript a b pos) ρ W W2 (dat X.K (.tuple (n.firs.map firD))) := rv_ixTD (K := X.K) (k := 1) rfl ha hb hs
end
structure GoQ where
  p : Addr
  n : Nat
  net : Net
section
variable {P : Program} {w : World} {K : PySem.W.Frag} {mg : Str → Option Value} {base : Heap} (T : TF.Txt K mg)
include T
theorem w_L_goal : O_L_goal P w K mg base CX0 3 (mkSp (ι := GoQ) (fun q => [refP q.p, dat K (netD q.net)]) (fun q => purW K q.p q.n) (fun q => purW K q.p (q.n + 10)) (fun q => q.n < 700000000 ∧ 1 ≤ q.net.places.length ∧ q.net.places.length ≤ 5) (fun q => goalP K q.net.places.length)) := by
  refine okM T.f_L_goal (N := N_L_goal) (by constructor <;> first | rfl | decide | decide +kernel) (fun _ => rfl) fun cdv A1 outer s H E hr q hq an hO => ?_
  obtain ⟨p, n, net⟩ := q
  obtain ⟨hn, l1, l5⟩ := hq
  have hn : n < 700000000 := hn
  have l1 : 1 ≤ net.places.length := l1
  have l5 : net.places.length ≤ 5 := l5
  refine rs_setLc 2 (n := net.places.length) (Wf := fun _ => purW K p n) (bt := fun _ => true) (E := fun _ => natP K) (own := [("_law_place", 3)]) (ri_tupM partD net.places ("", 0) (rv_net0 (rv_var 1) rv_int)) (fun s H C cl fp => pg_one 3) (fun i hi => gk_name) (by decide) (fun _ _ _ => rfl)
    (fun s H C cl fp i c hi => rts_nil) (fun s H C cl fp i c hi _ => rv_sub (rv_int (K := K)) (nat_of (by decide))) fun b hb => ?_
  rw [sel_const]
  refine rs_cons (rs_forR (K := K) (lo := 0) (hi := 3) T.n_range (rv_sub (rv_draw (Wr := [(b, lstM (List.replicate net.places.length (natP K)))]) (n := n) (c := 3) T hr (by decide) (by decide) (by omega) (rv_var 0) (rv_int (i := 3))) (in_mono (by decide) (by decide))) (by decide) (pg_one 4) (fun i => gk_name)
    (fun j ρ W => ∃ (m : Nat) (x4 x5 : Option SP), m ≤ n + 1 + 2 * j ∧ ρ = [some (refP p), some (dat K (netD net)), some (refP b), none, x4, x5] ∧ W = [(p, lstM (purP K m)), (b, lstM (List.replicate net.places.length (natP K)))]) ⟨n + 1, _, _, by omega, rfl, rfl⟩ ?_) ?_
  · rintro j _ _ hj ⟨m, x4, x5, hm, rfl, rfl⟩
    refine rs_set 5 (rv_draw (Wr := [(b, lstM (List.replicate net.places.length (natP K)))]) (n := m) (c := net.places.length) T hr l1 (by omega) (by omega) (rv_var 0) (rv_to (rv_lenO (K := K) 1 T.n_len (rv_var 2) rfl) (by rw [List.length_replicate]))) ?_
    refine rs_open (f := fun i : { i : Int // 0 ≤ i ∧ i < (net.places.length : Int) } => dat K (.int i.1)) 5 fun i => ?_
    obtain ⟨i, i0, i1⟩ := i
    obtain ⟨k, rfl⟩ := Int.eq_ofNat_of_zero_le i0
    have hk : k < net.places.length := by omega
    have hat : (List.replicate net.places.length (natP K))[k]? = some (natP K) := by rw [List.getElem?_replicate, if_pos hk]
    refine rs_setI (K := K) (P := natP K) (b := b) 1 (j := k) (rv_addNI (hi := 2) (rv_addN (K := K) (j := 1) (by decide) (rv_ixO (K := K) (b := b) 1 (j := k) (rv_var 2) (rv_var 5) rfl hat) rv_int) (rv_draw (Wr := [(b, lstM (List.replicate net.places.length (natP K)))]) (n := m + 1) (c := 2) T hr (by decide) (by decide) (by omega) (rv_var 0) (rv_int (i := 2)))) (rv_var 2) (rv_var 5) rfl (by rw [List.length_replicate]; exact hk) ?_
    refine rs_nil ⟨m + 1 + 1, _, _, by omega, rfl, ?_⟩
    show [(p, lstM (purP K (m + 1 + 1))), (b, lstM ((List.replicate net.places.length (natP K)).set k (natP K)))] = _
    rw [List.set_replicate_self]
  rintro ρ1 W1 ⟨j, _, hj, m, x4, x5, hm, rfl, rfl⟩
  refine rs_freeT (W := [(p, lstM (purP K m))]) 2 hb ?_
  exact rs_endW (rv_sub (rv_tupleOf T.n_tuple (rv_sub (rv_var 2) fun _ _ => lstT_P)) goal_imp) (pur_end (n := n) (m := m) (k := n + 10) hO (by omega))
end
end TF
set_option Elab.async false
set_option linter.all false
set_option maxRecDepth 100000
set_option maxHeartbeats 4000000
/-! W27: the net with its places turned about. -/
namespace TF
open PySem PySem.Spec PyProof.Rows L2
open PyProof.Rows (envOfC)
theorem pg_four {X : Cx} (i j k l : Nat) {x y z u : Str} {kk : Nat} {px py pz pu pos : Pos} (hN : X.N.Nodup := by exact of_decide_eq_true (by kernel_rfl)) (hi : X.N[i]? = some x := by rfl) (hj : X.N[j]? = some y := by rfl) (hk : X.N[k]? = some z := by rfl) (hl : X.N[l]? = some u := by rfl)
    (hx : Loc X.env.scope x := by first | exact Or.inl rfl | exact Or.inr rfl) (hy : Loc X.env.scope y := by first | exact Or.inl rfl | exact Or.inr rfl) (hz : Loc X.env.scope z := by first | exact Or.inl rfl | exact Or.inr rfl) (hu : Loc X.env.scope u := by first | exact Or.inl rfl | exact Or.inr rfl)
    (hf : X.fn x = true ∨ X.env.scope.names.lookup x = some .local := by first | exact .inl rfl | exact .inr rfl) (hg : X.fn y = true ∨ X.env.scope.names.lookup y = some .local := by first | exact .inl rfl | exact .inr rfl) (hh : X.fn z = true ∨ X.env.scope.names.lookup z = some .local := by first | exact .inl rfl | exact .inr rfl) (hm : X.fn u = true ∨ X.env.scope.names.lookup u = some .local := by first | exact .inl rfl | exact .inr rfl) (hc : X.calm = true := by rfl) :
    PG X (.Tuple [.Name x px, .Name y py, .Name z pz, .Name u pu] kk pos) (gTup X.K 4 (gCons (gName i) (gCons (gName j) (gCons (gName k) (gCons (gName l) gNil))))) :=
  pg_tup hc (pgs_cons (pg_name hN hi hx (hf := hf)) (pgs_cons (pg_name hN hj hy (hf := hg)) (pgs_cons (pg_name hN hk hz (hf := hh)) (pgs_cons (pg_name hN hl hu (hf := hm)) pgs_nil))))
theorem gk_fir {K : PySem.W.Frag} {f : Fir} {i j k l : Nat} : GOk (gTup K 4 (gCons (gName i) (gCons (gName j) (gCons (gName k) (gCons (gName l) gNil))))) (dat K (firD f)) [i, j, k, l] (fun ρ => (((ρ.set i (some (dat K (.str f.name)))).set j (some (dat K (.str f.label)))).set k (some (dat K (partsD f.takes)))).set l (some (dat K (partsD f.gives)))) :=
  gk_tupD (ds := [.str f.name, .str f.label, partsD f.takes, partsD f.gives]) (gks_cons (gks_cons (gks_cons (gks_cons gks_nil))))
instance : Inhabited Fir := ⟨⟨"", "", [], []⟩⟩
section
variable {X : Cx} {an : An} {K : PySem.W.Frag} {ρ : TF.Env} {W W1 W' : Wd} {e : Expr} {pos p p1 p2 p3 pos2 : Pos} {ps : List (Str × Int)} {j : Nat}
/-- tuple(ps)[::-1] -/
theorem rv_revP (hm : X.mg "tuple" = none) (ha : RV X an e ρ W W' (dat X.K (partsD ps))) (hg : Gl X "tuple" := by rfl) (hs : starEach [e] X.env = (false, eval e X.env) :: starEach [] X.env := by rfl) (hpl : (backTo pos (starEach [] X.env)).any (·.1) = false := by rfl) :
    RV X an (.Subscript (.Call (.Name "tuple" p) [e] [] pos) (.Slice none none (some (.UnaryOp .USub (.Constant (.int 1) j p1) p2)) p3) pos2) ρ W W' (dat X.K (partsD ps.reverse)) :=
  rv_to (rv_revTD (ds := ps.map partD) (rv_sub (rv_tupleTup hm (rv_asT ha) hg hs hpl) fun H v z => tupP_dat z)) (by rw [← List.map_reverse]; rfl)
theorem rv_revPl (ha : RV X an e ρ W W' (dat X.K (partsD ps))) : RV X an (.Subscript e (.Slice none none (some (.UnaryOp .USub (.Constant (.int 1) j p1) p2)) p3) pos2) ρ W W' (dat X.K (partsD ps.reverse)) :=
  rv_to (rv_revTD (ds := ps.map partD) ha) (by rw [← List.map_reverse]; rfl)
end
section
variable {P : Program} {w : World} {K : PySem.W.Frag} {mg : Str → Option Value} {base : Heap} (T : TF.Txt K mg)
include T
theorem w_L_turned : O_L_turned P w K mg base CX0 1 (pureSp (ι := Net) (fun n => [dat K (netD n)]) OkNet (fun n => dat K (netD n.tn))) := by
  refine okPure T.f_L_turned (N := N_L_turned) (by constructor <;> first | rfl | decide | decide +kernel) (fun _ => rfl) fun cdv A1 outer s H E hr n hq an => ?_
  have f2 := hq.f2
  refine rs_new 1 (rn_lst (Ps := []) ra_nil) fun b hb => ?_
  refine rs_cons (rs_for (ri_tupM firD n.firs default (rv_net1 (rv_var 0) rv_int)) (pg_four 2 3 4 5) (fun i hi => gk_fir)
    (fun j ρ W => (∃ x2 x3 x4 x5 : Option SP, ρ = [some (dat K (netD n)), some (refP b), x2, x3, x4, x5]) ∧ W = [(b, lstM ((n.firs.take j).map fun f => dat K (firD (trFir f))))]) ⟨⟨_, _, _, _, rfl⟩, rfl⟩ ?_) ?_
  · rintro j _ _ hj ⟨⟨x2, x3, x4, x5, rfl⟩, rfl⟩
    refine rs_app (P := dat K (firD (trFir (n.firs.getD j default)))) (b := b) 0 (rv_var 1) (rv_tupD (ds := [.str (n.firs.getD j default).name, .str (n.firs.getD j default).label, partsD (n.firs.getD j default).takes.reverse, partsD (n.firs.getD j default).gives.reverse]) (ra_cons (rv_var 2) (ra_cons (rv_var 3) (ra_cons (rv_revP T.n_tuple (rv_var 4)) (ra_cons (rv_revP T.n_tuple (rv_var 5)) ra_nil))))) rfl rfl ?_ (by rw [List.length_map, List.length_take]; omega)
    refine rs_nil ⟨⟨_, _, _, _, rfl⟩, ?_⟩
    rw [snoc_take n.firs default hj, List.map_append]
    rfl
  rintro ρ1 W1 ⟨⟨x2, x3, x4, x5, rfl⟩, rfl⟩
  rw [List.take_length]
  refine rs_freeT (W := []) 1 hb ?_
  refine rs_end (rv_tupD (ds := [partsD n.places.reverse, .tuple ((n.firs.map trFir).map firD)]) (ra_cons (rv_revPl (rv_net0 (rv_var 0) rv_int)) (ra_cons (rv_sub (rv_tupleOf T.n_tuple (rv_sub (rv_var 1) fun _ _ => lstT_P)) fun H v z => tupP_dat ?_) ra_nil)))
  rw [List.map_map, List.map_map]
  exact z
end
end TF
set_option Elab.async false
set_option linter.all false
set_option maxRecDepth 100000
set_option maxHeartbeats 4000000
/-! W28: what is covered with more tokens, a firing more. -/
namespace TF
open PySem PySem.Spec PyProof.Rows L2
open PyProof.Rows (envOfC)
structure MrQ where
  n : Net
  n' : Net
  h : Heap0
  t : Option Told
structure MrOk (q : MrQ) : Prop where
  ok : OkNet q.n
  ok' : OkNet q.n'
  m : Mor (lkOf q.n) (lkOf q.n')
  h : IsH q.n.places.length q.h
  t : q.t = toldBy (lkOf q.n) 25 q.h
theorem lk_len (n : Net) : (lkOf n).places.length = n.places.length := List.length_map _
theorem Mor.len {n n' : Net} (m : Mor (lkOf n) (lkOf n')) : n'.places.length = n.places.length := by
  rw [← lk_len, ← lk_len, m.pl]
theorem told_q {n : Net} {h : Heap0} (ok : OkNet n) (hh : IsH n.places.length h) : TOk (lkOf n) h 25 (toldBy (lkOf n) 25 h) := toldBy_ok 25 (lk_ok ok) (by rw [lk_len]; exact hh)
theorem wq_row {n : Net} {h : Heap0} {r : List SF} (ok : OkNet n) (hh : IsH n.places.length h) (h1 : ∀ f, f ∈ r → f ∈ (lkOf n).fs) (h2 : ∀ j, j < r.length → enab (r.getD j default).tk (runTo (lkOf n).begin (r.take j)) = true) (h3 : ov (runTo (lkOf n).begin r) h = true) (hz : r.length ≤ 1000) : WQok ⟨n, h, .row r⟩ := ⟨ok, hh, h1, h2, hz, h3⟩
theorem wq_never {n : Net} {h : Heap0} {l : List Heap0} (ok : OkNet n) (hh : IsH n.places.length h) (t : TNev (lkOf n) h 25 l) : WQok ⟨n, h, .never l⟩ := ⟨ok, hh, ⟨lk_ok ok, by rw [lk_len]; exact hh, t.h, by have z := t.z; show l.length ≤ 1000000; omega, t.up, t.cl, t.nb⟩⟩
section
variable {P : Program} {w : World} {K : PySem.W.Frag} {mg : Str → Option Value} {base : Heap} (T : TF.Txt K mg)
include T
theorem w_L_more_right : O_L_more_right P w K mg base CX0 10 (pureSp (ι := MrQ) (fun q => [dat K (toD q.t), dat K (netD q.n'), dat K (intsT q.h)]) MrOk (fun _ => dat K (.bool true))) := by
  refine okPure T.f_L_more_right (N := N_L_more_right) (by constructor <;> first | rfl | decide | decide +kernel) (fun _ => rfl) fun cdv A1 outer s H E hr q hq an => ?_
  obtain ⟨n, n', h, t⟩ := q
  obtain ⟨ok, ok', m, hh, ht⟩ := hq
  have m : Mor (lkOf n) (lkOf n') := m
  have hh : IsH n.places.length h := hh
  have hh' : IsH n'.places.length h := by rw [m.len]; exact hh
  have ht : t = toldBy (lkOf n) 25 h := ht
  have q1 := told_q ok hh
  rw [← ht] at q1
  have q2 := told_q ok' hh'
  refine rs_set 3 (rv_L_told T (w_L_told T) (pureSp_ok (⟨n', h, 25⟩ : NQ) ⟨⟨ok', hh', by show 25 ≤ 1000; decide⟩, rfl⟩) hr (ra_cons (rv_var 1) (ra_cons (rv_var 2) ra_nil))) ?_
  show RSs _ an _ [some (dat K (toD t)), some (dat K (netD n')), some (dat K (intsT h)), some (dat K (toD (toldBy (lkOf n') 25 h)))] [] _ _ _
  generalize toldBy (lkOf n') 25 h = t' at q2 ⊢
  cases t with
  | none =>
    refine rs_when (v := true) (rt_w (rw_or (v := true) (w := true) (rt_isN K (nonP_dat (d := .none)) (rv_var 0)) fun e => nomatch e)) (fun _ => ?_) fun e => nomatch e
    exact rs_end (rv_or (v := true) (w := true) (rv_isN (K := K) (nonP_dat (d := .none)) (rv_var 0)) fun e => nomatch e)
  | some u =>
    have nu : NonP (dat K (toD (some u))) false := by cases u <;> exact nonP_dat
    cases t' with
    | none =>
      refine rs_when (v := true) (rt_w (rw_or (v := false) (w := true) (rt_isN K nu (rv_var 0)) fun _ => rw_or (v := true) (w := true) (rt_isN K (nonP_dat (d := .none)) (rv_var 3)) fun e => nomatch e)) (fun _ => ?_) fun e => nomatch e
      exact rs_end (rv_or (v := false) (w := true) (rv_isN (K := K) nu (rv_var 0)) fun _ => rv_or (v := true) (w := true) (rv_isN (K := K) (nonP_dat (d := .none)) (rv_var 3)) fun e => nomatch e)
    | some u' =>
      have nu' : NonP (dat K (toD (some u'))) false := by cases u' <;> exact nonP_dat
      cases u with
      | never l =>
        refine rs_when (v := true) (rt_w (rw_or (v := false) (w := true) (rt_isN K nu (rv_var 0)) fun _ => rw_or (v := false) (w := true) (rt_isN K nu' (rv_var 3)) fun _ => rw_or1 (rt_to (rt_eqS (K := K) (x := "never") (y := "never") (rv_ixTD (K := K) (ds := [.str "never", hsD l]) (k := 0) rfl (rv_var 0) rv_int) rv_str) (by decide)))) (fun _ => ?_) fun e => nomatch e
        cases u' with
        | row r' =>
          exact rs_end (rv_or (v := false) (w := true) (rv_isN (K := K) nu (rv_var 0)) fun _ => rv_or (v := false) (w := true) (rv_isN (K := K) nu' (rv_var 3)) fun _ => rv_or (v := true) (w := true) (rv_to (rv_eqS (K := K) (x := "row") (y := "row") (rv_ixTD (K := K) (ds := [.str "row", namesD r']) (k := 0) rfl (rv_var 3) rv_int) rv_str) (congrArg PyData.bool (by decide))) fun e => nomatch e)
        | never l' =>
          exact rs_end (rv_or (v := false) (w := true) (rv_isN (K := K) nu (rv_var 0)) fun _ => rv_or (v := false) (w := true) (rv_isN (K := K) nu' (rv_var 3)) fun _ => rv_or (v := false) (w := true) (rv_to (rv_eqS (K := K) (x := "never") (y := "row") (rv_ixTD (K := K) (ds := [.str "never", hsD l']) (k := 0) rfl (rv_var 3) rv_int) rv_str) (congrArg PyData.bool (by decide))) fun _ => rv_one (rv_isN (K := K) (nonP_dat (d := .none)) (rv_covered_wrong T (w_covered_wrong T) (pureSp_ok (⟨n', h, .never l'⟩ : WQ) (wq_never ok' hh' q2)) (hr.mono (by omega)) (ra_cons (rv_var 1) (ra_cons (rv_var 2) (ra_cons (rv_var 3) ra_nil))))))
      | row r =>
        refine rs_when (v := false) (rt_w (rw_or (v := false) (w := false) (rt_isN K nu (rv_var 0)) fun _ => rw_or (v := false) (w := false) (rt_isN K nu' (rv_var 3)) fun _ => rw_or1 (rt_to (rt_eqS (K := K) (x := "row") (y := "never") (rv_ixTD (K := K) (ds := [.str "row", namesD r]) (k := 0) rfl (rv_var 0) rv_int) rv_str) (by decide)))) (fun e => nomatch e) fun _ => ?_
        have q1 : TRow (lkOf n) h 25 r := q1
        have hu := m.u (by rw [lk_len]; exact hh) q1.u
        cases u' with
        | never l' =>
          have q2 : TNev (lkOf n') h 25 l' := q2
          exact absurd hu (q2.nu _)
        | row r' =>
          have q2 : TRow (lkOf n') h 25 r' := q2
          have hle : r'.length ≤ r.length := by
            apply Classical.byContradiction
            intro c
            exact q2.nu r.length (by omega) hu
          obtain ⟨g1, g2, g3⟩ := m.row (by rw [lk_len]; exact hh) q1.mem q1.en q1.ov
          refine rs_end (rv_and (v := true) (w := true) (rv_to (rv_eqS (K := K) (x := "row") (y := "row") (rv_ixTD (K := K) (ds := [.str "row", namesD r']) (k := 0) rfl (rv_var 3) rv_int) rv_str) (congrArg PyData.bool (by decide))) fun _ => rv_and (v := true) (w := true) (rv_to (rv_le (K := K) (rv_lenLD (K := K) (ds := r'.map fun f => .str f.name) T.n_len (rv_ixTD (K := K) (ds := [.str "row", namesD r']) (k := 1) rfl (rv_var 3) rv_int)) (rv_lenLD (K := K) (ds := r.map fun f => .str f.name) T.n_len (rv_ixTD (K := K) (ds := [.str "row", namesD r]) (k := 1) rfl (rv_var 0) rv_int))) ?_) fun _ => rv_one (rv_isN (K := K) (nonP_dat (d := .none)) (rv_covered_wrong T (w_covered_wrong T) (pureSp_ok (⟨n', h, .row r⟩ : WQ) (wq_row ok' hh' g1 g2 g3 (by have z := q1.z; omega))) (hr.mono (by omega)) (ra_cons (rv_var 1) (ra_cons (rv_var 2) (ra_cons (rv_var 0) ra_nil))))))
          rw [List.length_map, List.length_map, decide_eq_true (by omega)]
end
end TF
set_option Elab.async false
set_option linter.all false
set_option maxRecDepth 100000
set_option maxHeartbeats 4000000
/-! W29: what is covered of nets turned about. -/
namespace TF
open PySem PySem.Spec PyProof.Rows L2
open PyProof.Rows (envOfC)
structure ArQ where
  n : Net
  h : Heap0
  t : Option Told
structure ArOk (q : ArQ) : Prop where
  ok : OkNet q.n
  h : IsH q.n.places.length q.h
  t : q.t = toldBy (lkOf q.n) 25 q.h
theorem bk_mor {n : Net} (ok : OkNet n) : Mor (lkOf n) (lkOf n.bk) := by
  refine ⟨lk_ok ok, lk_ok (bk_ok ok), ?_, ?_, fun f hf => ?_⟩
  · rw [bk_lk]
  · rw [bk_lk]
    exact ov_refl _
  · rw [bk_lk]
    exact List.mem_reverse.mpr hf
theorem names_nb (r : List SF) : nb (namesD r) = true := nbs_map fun f _ => rfl
theorem hs_nb (l : List Heap0) : nb (hsD l) = true := nbs_map fun h _ => nbs_map fun i _ => rfl
theorem names_sh {n : Net} {r : List SF} (ok : OkNet n) (h : ∀ f, f ∈ r → f ∈ (lkOf n).fs) : Flt 1 (namesD r) := flt_lst (n := 0) fun d hd => by
  obtain ⟨f, hf, rfl⟩ := List.mem_map.mp hd
  exact flt_str ((lk_ok ok).no f (h f hf)).ok
theorem flt_str0 (x : Str) (h : PyData.strOk x = true) : Flt 2 (.str x) := (flt_str h).up (by decide)
theorem hs_flt (l : List Heap0) : Flt 2 (hsD l) := flt_lst (n := 1) fun d hd => by
  obtain ⟨h, _, rfl⟩ := List.mem_map.mp hd
  exact flt_tup (n := 0) fun d hd => by
    obtain ⟨o, _, rfl⟩ := List.mem_map.mp hd
    exact flt_int o
theorem row_sh {n : Net} {r : List SF} (ok : OkNet n) (h : ∀ f, f ∈ r → f ∈ (lkOf n).fs) : SeqAt.shaped (tolD (.row r)) = true := (flt_tup (n := 2) fun d hd => by
  rcases List.mem_cons.mp hd with rfl | hd
  · exact flt_str0 _ (by kernel_rfl)
  · rw [List.mem_singleton.mp hd]
    exact (names_sh ok h).up (by decide)).shaped
theorem never_sh (l : List Heap0) : SeqAt.shaped (tolD (.never l)) = true := (flt_tup (n := 2) fun d hd => by
  rcases List.mem_cons.mp hd with rfl | hd
  · exact flt_str0 _ (by kernel_rfl)
  · rw [List.mem_singleton.mp hd]
    exact hs_flt l).shaped
theorem hs_flt_d (x : Heap0) : (intsT x).depth ≤ 1 := (flt_tup (n := 0) (ds := x.map .int) fun d hd => by
  obtain ⟨o, _, rfl⟩ := List.mem_map.mp hd
  exact flt_int o).2
theorem tol_nb (t : Told) : nb (tolD t) = true := by
  cases t with
  | row r =>
    show nbs [.str "row", namesD r] = true
    rw [nbs, nbs, nbs, names_nb]
    rfl
  | never l =>
    show nbs [.str "never", hsD l] = true
    rw [nbs, nbs, nbs, hs_nb]
    rfl
theorem tol_eqv (t : Told) : PyData.eqv (tolD t) (tolD t) = true := (eqv_iff _ _ (tol_nb t) (tol_nb t)).mpr rfl
section
variable {X : Cx} {an : An} {K : PySem.W.Frag} {ρ : TF.Env} {W W1 W' : Wd} {a b e : Expr} {pos p p1 p2 p3 pos2 : Pos} {n : Net} {h : Heap0} {j : Nat}
/-- (net[0], net[1][::-1]) -/
theorem rv_bk {x1} (ha : RV X an a ρ W W1 (dat X.K (partsD n.places))) (hb : RV X an b ρ W1 W' (dat X.K (.tuple (n.firs.map firD)))) (hst : starEach [a, .Subscript b (.Slice none none (some (.UnaryOp .USub (.Constant (.int 1) j p1) p2)) p3) pos2] X.env = (false, eval a X.env) :: starEach [.Subscript b (.Slice none none (some (.UnaryOp .USub (.Constant (.int 1) j p1) p2)) p3) pos2] X.env := by rfl) (hst2 : starEach [.Subscript b (.Slice none none (some (.UnaryOp .USub (.Constant (.int 1) j p1) p2)) p3) pos2] X.env = (false, eval (.Subscript b (.Slice none none (some (.UnaryOp .USub (.Constant (.int 1) j p1) p2)) p3) pos2) X.env) :: starEach [] X.env := by rfl) :
    RV X an (.Tuple [a, .Subscript b (.Slice none none (some (.UnaryOp .USub (.Constant (.int 1) j p1) p2)) p3) pos2] x1 pos) ρ W W' (dat X.K (netD n.bk)) :=
  rv_tupD (ds := [partsD n.places, .tuple (n.firs.reverse.map firD)]) (ra_cons ha (ra_cons (rv_to (rv_revTD hb) (by rw [← List.map_reverse])) ra_nil hst2) hst)
theorem rv_revH (ha : RV X an e ρ W W' (dat X.K (intsT h))) : RV X an (.Subscript e (.Slice none none (some (.UnaryOp .USub (.Constant (.int 1) j p1) p2)) p3) pos2) ρ W W' (dat X.K (intsT h.reverse)) :=
  rv_to (rv_revTD (ds := h.map .int) ha) (by rw [← List.map_reverse]; rfl)
end
section
variable {P : Program} {w : World} {K : PySem.W.Frag} {mg : Str → Option Value} {base : Heap} (T : TF.Txt K mg)
include T
theorem w_L_alike_right : O_L_alike_right P w K mg base CX0 10 (pureSp (ι := ArQ) (fun q => [dat K (netD q.n), dat K (toD q.t), dat K (intsT q.h)]) ArOk (fun _ => dat K (.bool true))) := by
  refine okPure T.f_L_alike_right (N := N_L_alike_right) (by constructor <;> first | rfl | decide | decide +kernel) (fun _ => rfl) fun cdv A1 outer s H E hr q hq an => ?_
  obtain ⟨n, h, t⟩ := q
  obtain ⟨ok, hh, ht⟩ := hq
  have ok : OkNet n := ok
  have hh : IsH n.places.length h := hh
  have hn : n.names.length = n.places.length := List.length_map _
  have ht : t = toldBy (lkOf n) 25 h := ht
  have hu : (A1.deeper (envOfC "_law_alike_right" (defScope s_L_alike_right) s.heap.objs.size (He.ga K "_law_alike_right") cdv)).units + 64 < cLine := hr.units
  have q1 := told_q ok hh
  have qb := bk_told ok (by rw [hn]; exact hh) 25
  have qt := tn_told ok (by rw [hn]; exact hh) 25
  rw [← ht] at q1 qb qt
  have hrv : IsH n.tn.places.length h.reverse := by
    show IsH n.places.reverse.length h.reverse
    rw [List.length_reverse]
    exact rev_isH hh
  refine rs_set 3 (rv_L_told T (w_L_told T) (pureSp_ok (⟨n.bk, h, 25⟩ : NQ) ⟨⟨bk_ok ok, hh, by show 25 ≤ 1000; decide⟩, rfl⟩) hr (ra_cons (rv_bk (rv_net0 (rv_var 0) rv_int) (rv_net1 (rv_var 0) rv_int)) (ra_cons (rv_var 2) ra_nil))) ?_
  refine rs_set 4 (rv_L_told T (w_L_told T) (pureSp_ok (⟨n.tn, h.reverse, 25⟩ : NQ) ⟨⟨tn_ok ok, hrv, by show 25 ≤ 1000; decide⟩, rfl⟩) hr (ra_cons (rv_L_turned T (w_L_turned T) (pureSp_ok n ok) (hr.mono (by omega)) (ra_cons (rv_var 0) ra_nil)) (ra_cons (rv_revH (rv_var 2)) ra_nil))) ?_
  show RSs _ an _ [some (dat K (netD n)), some (dat K (toD t)), some (dat K (intsT h)), some (dat K (toD (toldBy (lkOf n.bk) 25 h))), some (dat K (toD (toldBy (lkOf n.tn) 25 h.reverse))), none] [] _ _ _
  generalize toldBy (lkOf n.bk) 25 h = tb at qb ⊢
  generalize toldBy (lkOf n.tn) 25 h.reverse = tt at qt ⊢
  have nn : NonP (dat K (toD none)) true := nonP_dat (d := .none)
  cases t with
  | none =>
    cases tb with
    | some u => exact qb.elim
    | none =>
      cases tt with
      | some u => exact qt.elim
      | none =>
        refine rs_when (v := true) (rt_w (rw_or (v := true) (w := true) (rt_isN K nn (rv_var 1)) fun e => nomatch e)) (fun _ => ?_) fun e => nomatch e
        exact rs_end (rv_and (v := true) (w := true) (rv_isN (K := K) nn (rv_var 1)) fun _ => rv_and (v := true) (w := true) (rv_isN (K := K) nn (rv_var 3)) fun _ => rv_one (rv_isN (K := K) nn (rv_var 4)))
  | some u =>
    have nu : ∀ u, NonP (dat K (toD (some u))) false := fun u => by cases u <;> exact nonP_dat
    cases tb with
    | none => cases u <;> exact qb.elim
    | some ub =>
      cases tt with
      | none => cases u <;> exact qt.elim
      | some ut =>
        refine rs_when (v := false) (rt_w (rw_or (v := false) (w := false) (rt_isN K (nu _) (rv_var 1)) fun _ => rw_or (v := false) (w := false) (rt_isN K (nu _) (rv_var 3)) fun _ => rw_or1 (rt_isN K (nu _) (rv_var 4)))) (fun e => nomatch e) fun _ => ?_
        cases u with
        | never l =>
          cases ub with
          | row r => exact qb.elim
          | never lb =>
            cases ut with
            | row r => exact qt.elim
            | never lt =>
              have qb : lb = l := qb
              subst qb
              have qt : lt = srt hLt (lb.map List.reverse) := qt
              subst qt
              have q1 : TNev (lkOf n) h 25 lb := q1
              have hl : ∀ x, x ∈ lb.map List.reverse → x.length = n.places.length := fun x hx => by
                obtain ⟨y, hy, rfl⟩ := List.mem_map.mp hx
                rw [List.length_reverse, (q1.h y hy).l, lk_len]
              refine rs_when (v := true) (rt_to (rt_eqS (K := K) (x := "never") (y := "never") (rv_ixTD (K := K) (ds := [.str "never", hsD lb]) (k := 0) rfl (rv_var 1) rv_int) rv_str) (by decide)) (fun _ => ?_) fun e => nomatch e
              refine rs_end (rv_and (v := true) (w := true) (rv_to (rv_eqD hu (never_sh lb) (never_sh lb) (rv_var 3) (rv_var 1)) (congrArg PyData.bool (tol_eqv _))) fun _ => rv_one (rv_to (rv_eqD hu (never_sh (srt hLt (lb.map List.reverse))) (never_sh (srt hLt (lb.map List.reverse))) (rv_var 4) (rv_tupD (ds := [.str "never", hsD (srt hLt (lb.map List.reverse))]) (ra_cons rv_str (ra_cons (rv_sub (rv_sortedD (ds := (lb.map List.reverse).map intsT) hu T.n_sorted (rv_sub (rv_lc (n := lb.length) (bt := fun _ => true) (E := fun i => (fun x : Heap0 => dat K (intsT x.reverse)) (lb.getD i [])) (own := [("_law_heap", 5)]) (ri_listM intsT lb [] (rv_ixTD (K := K) (ds := [.str "never", hsD lb]) (k := 1) rfl (rv_var 1) rv_int)) (fun s H C cl fp => pg_one 5) (fun i hi => gk_name) (by decide) (fun s H C cl fp i W hi => rts_nil)
                (fun s H C cl fp i W hi _ => rv_revH (rv_var 5))) fun H v z => lstT_P (K := K) ?_) (ints_alike _) (ints_sortable ok.p1 hl) (fun d hd => ?_)) fun H v z => ?_) ra_nil)))) (congrArg PyData.bool (tol_eqv _))))
              · rw [selP_all T (fun x : Heap0 => dat K (intsT x.reverse)) lb [] rfl] at z
                rw [List.map_map, List.map_map]
                exact z
              · obtain ⟨x, _, rfl⟩ := List.mem_map.mp hd
                exact Nat.le_trans (hs_flt_d x) (by decide)
              · rw [srtD_enc intsT_lt, List.map_map] at z
                exact lstT_D (K := K) (f := intsT) z
        | row r =>
          cases ub with
          | never l => exact qb.elim
          | row rb =>
            cases ut with
            | never l => exact qt.elim
            | row rt =>
              have qb : rb.length = r.length := qb
              have qt : rt = r.map (trS n.names.length) := qt
              have q1 : TRow (lkOf n) h 25 r := q1
              obtain ⟨g1, g2, g3⟩ := (bk_mor ok).row (by rw [lk_len]; exact hh) q1.mem q1.en q1.ov
              refine rs_when (v := false) (rt_to (rt_eqS (K := K) (x := "row") (y := "never") (rv_ixTD (K := K) (ds := [.str "row", namesD r]) (k := 0) rfl (rv_var 1) rv_int) rv_str) (by decide)) (fun e => nomatch e) fun _ => ?_
              refine rs_when (v := false) (rt_w (rw_or (v := false) (w := false) (rt_notN (c := true) K (nonP_dat (d := .none)) (rv_covered_wrong T (w_covered_wrong T) (pureSp_ok (⟨n.bk, h, .row r⟩ : WQ) (wq_row (bk_ok ok) hh g1 g2 g3 (by have z := q1.z; omega))) (hr.mono (by omega)) (ra_cons (rv_bk (rv_net0 (rv_var 0) rv_int) (rv_net1 (rv_var 0) rv_int)) (ra_cons (rv_var 2) (ra_cons (rv_var 1) ra_nil))))) fun _ => rw_or1 (rt_to (rt_neI (K := K) (rv_lenLD (K := K) (ds := rb.map fun f => .str f.name) T.n_len (rv_ixTD (K := K) (ds := [.str "row", namesD rb]) (k := 1) rfl (rv_var 3) rv_int)) (rv_lenLD (K := K) (ds := r.map fun f => .str f.name) T.n_len (rv_ixTD (K := K) (ds := [.str "row", namesD r]) (k := 1) rfl (rv_var 1) rv_int))) ?_))) (fun e => nomatch e) fun _ => ?_
              · rw [List.length_map, List.length_map, qb, decide_eq_true rfl]
                rfl
              have e : tolD (.row rt) = tolD (.row r) := by
                show PyData.tuple [.str "row", namesD rt] = .tuple [.str "row", namesD r]
                rw [qt]
                unfold namesD
                rw [List.map_map]
                rfl
              refine rs_end (rv_to (rv_eqD (d := tolD (.row r)) (d' := tolD (.row r)) hu (row_sh ok q1.mem) (row_sh ok q1.mem) (rv_to (rv_var 4) e) (rv_var 1)) (congrArg PyData.bool (tol_eqv _)))
end
end TF
set_option Elab.async false
set_option linter.all false
set_option maxRecDepth 100000
set_option maxHeartbeats 4000000
/-! M16: calls after which what is owned is one of many; what is owned given away. -/
namespace TF
open PySem PySem.Spec L2
open PyProof.Rows (envOfC)
theorem PAex {X : Cx} {ι : Type} {e : List Expr} {t : ι → TA} (h : ∀ i, PA X e (t i)) : PA X e (fun σ H Q => ∃ i, t i σ H Q) := ⟨fun pos pins s σ H Q I ⟨i, q⟩ => (h i).run pos pins s σ H Q I q⟩
def noP : SP := ⟨fun _ _ => False, fun _ h => h⟩
def mkSpE {ι κ : Type} (C : Addr) (A : ι → List SP) (Wi : ι → Wd) (Wo : ι → κ → Wd) (pre xT : ι → Prop) (post : ι → κ → Prop) : Sp := fun vs H Q E => ∃ i O, Live H O ∧ WOk (Wi i) O H ∧ Sat (A i) (mn H O) vs ∧ pre i ∧
  (∀ k H', post i k → SameB ((Wi i).map Prod.fst) H H' → WOk (Wo i k) O H' → Q .non H') ∧ (xT i → ∀ d H', SameB ((Wi i).map Prod.fst) H H' → E (.ref C) d H')
def CallE {κ : Type} (sp : Sp) (C : Addr) (Ps : List SP) (Wi : Wd) (Wo : κ → Wd) (post : κ → Prop) (xo : Prop) : Prop := ∀ (O : List Addr) (H : Hp) (vs : List V) (Q : VK) (E : XK), Live H O → WOk Wi O H → Sat Ps (mn H O) vs →
  (∀ k H', post k → SameB (Wi.map Prod.fst) H H' → WOk (Wo k) O H' → Q .non H') → (xo → ∀ d H', SameB (Wi.map Prod.fst) H H' → E (.ref C) d H') → sp vs H Q E
theorem mkSpE_ok {ι κ : Type} {C : Addr} {A : ι → List SP} {Wi : ι → Wd} {Wo : ι → κ → Wd} {pre xT : ι → Prop} {post : ι → κ → Prop} (i : ι) (h : pre i) : CallE (mkSpE C A Wi Wo pre xT post) C (A i) (Wi i) (Wo i) (post i) (xT i) := fun O H vs Q E l w s k ke => ⟨i, O, l, w, s, h, k, ke⟩
section
variable {P : Program} {w : World} {K : PySem.W.Frag} {mg : Str → Option Value} {base : Heap} {x qual : Str} {params : Arguments} {body : List Stmt} {scope : Scope} {dvs : List V} {kws : List (Str × V)} {f : Addr} {fd : FuncData}
theorem okE {ι κ : Type} {A : ι → List SP} {Wi : ι → Wd} {Wo : ι → κ → Wd} {pre xT : ι → Prop} {post : ι → κ → Prop} {N ps : List Str} {k : Nat} (F : FunD K x qual params body scope dvs kws f fd) (S : FnScope N ps scope) (hl : ∀ i, (A i).length = ps.length)
    (h : ∀ (cdv : Value) (A1 : Around) (outer : List PySem.Env) (s : Shared) (H : Hp) (E : XK), Room k (A1.deeper (envOfC qual scope s.heap.objs.size f cdv)) → ∀ i, pre i → ∀ an : An, (∀ c, c ∈ Wi i → c.1 ∈ an.O0) → Rz (cxOf (L2.CX P w) P w K mg base N qual scope f cdv A1 outer s H E) an (xT i) →
      RSs (cxOf (L2.CX P w) P w K mg base N qual scope f cdv A1 outer s H E) an body (env0 N (A i)) (Wi i) (fun _ W => ∃ j, post i j ∧ WEnd an W (Wo i j)) noP []) : FnOk P w K mg base (L2.CX P w) (k + 1) f fd ps (mkSpE (TGa K) A Wi Wo pre xT post) := by
  refine F.ok S (fun vs H Q E q => ?_) (fun cdv A1 outer s H vs Q E hr q => ?_)
  · obtain ⟨i, O, l, wo, sat, _⟩ := q
    rw [← sat.length, hl]
  · obtain ⟨i, O, l, wo, sat, hp, q, qe⟩ := q
    refine ⟨_, h cdv A1 outer s H E hr i hp ⟨H, (Wi i).map Prod.fst, O⟩ (fun c hc => (wo.at_ c hc).1) ⟨fun cls d _ H' => E cls d H', takes_of rfl rfl rfl rfl, fun xh d σ H' sb => qe xh d H' sb⟩, O, start_MX l wo sat, fun ρ' W' σ' H' O' hn m' s' => ?_, fun v H' e => e.rp.elim⟩
    obtain ⟨j, hj, hn⟩ := hn
    have e := m'.end_ (R := (⟨fun _ _ => True, fun _ h => h⟩ : SP)) (v := .non) hn trivial
    exact q j H' hj e.sb e.wo
end
/-- an owned thing given away: the address is the argument's -/
def CallC {κ : Type} (sp : Sp) (C : Addr) (b : Addr) (P2 : SP) (mp : MP) (Wi : Wd) (Wo : κ → Wd) (post : κ → Prop) (xo : Prop) : Prop := ∀ (O : List Addr) (H : Hp) (p : Addr) (v2 : V) (Q : VK) (E : XK), Live H (p :: O) → ¬ p ∈ O → WOk (Wi ++ [(p, mp)]) (p :: O) H → P2.p (mn H (p :: O)) v2 →
  (∀ k H', post k → SameB (p :: Wi.map Prod.fst) H H' → WOk (Wo k) O H' → Q .non H') → (xo → ∀ d H', SameB (p :: Wi.map Prod.fst) H H' → E (.ref C) d H') → sp [.ref b, .ref p, v2] H Q E
section
variable {X : Cx} {an : An} {K : PySem.W.Frag} {ρ : TF.Env} {W W1 W2 W3 W' Wz Wi Wr : Wd} {P P1 P2 R : SP} {Ps : List SP} {N : TF.Env → Wd → Prop} {rest body : List Stmt} {o e e2 c : Expr} {es : List Expr} {pos pos' p apos spos : Pos} {b y : Addr} {CX : CXT} {k : Nat} {f C D : Addr} {fd : FuncData} {ps : List Str} {sp : Sp} {x m : Str} {xo xc : Prop} {κ : Type} {Wo : κ → Wd} {post : κ → Prop} {mp mp' : MP}
/-- o.m(..) alone, o owned -/
theorem rs_methE (j : Nat) {fs : List (Str × SP)} {pl : Sem Bool} (hob : RV X an o ρ W W1 (refP b)) (hj : W1[j]? = some (b, insM C fs)) (hl : fs.lookup m = none) (c : Cls X.K C) (hm : Meth X.K C m f) (F : FnOk X.prog X.w X.K X.mg X.base CX k f fd ps sp) (kk : CallE sp (TGa X.K) (refP b :: Ps) Wi Wo post xc) (ho : ∀ k, post k → (Wo k).map Prod.fst = Wi.map Prod.fst)
    (hx : Passes CX X (XKa (TGa X.K) an xo)) (hxo : xc → xo) (hr : Room k X.A) (hb : Binds X.K fd ps []) (ha : RA X an (e :: es) ρ W1 (Wi ++ Wr) Ps) (h : ∀ k, post k → RSs X an rest ρ (Wo k ++ Wr) N R Wz) (hst : starEach (e :: es) X.env = (false, eval e X.env) :: starEach es X.env := by rfl) (hpl : (backTo pos (starEach es X.env)).any (·.1) = false := by rfl)
    (ht : eval (.Call (.Attribute o m apos) (e :: es) [] pos) X.env = (do
      let ov ← eval o X.env
      standAt apos.atName
      let (f, first) ← holding [ov] (getMethod ov m pl)
      callWith pos f first (backTo pos (starEach (e :: es) X.env)) (backToKw pos (keywordEach [] X.env))) := by rfl) (hs : swapsWith (.Call (.Attribute o m apos) (e :: es) [] pos) none spos.line X.env = pure false := by rfl) : RSs X an (.Expr (.Call (.Attribute o m apos) (e :: es) [] pos) spos :: rest) ρ W N R Wz :=
  rs_cons (N1 := fun ρ1 W1 => ∃ k, post k ∧ ρ1 = ρ ∧ W1 = Wo k ++ Wr) (PSimp (ps_expr (pe_meth hob c hm F hr hb .nil hx ha hst hpl ht) hs) fun D σ H ⟨O, mx, nx, rt⟩ => ⟨O, mx, fun u H1 m1 s1 p1 => by
    have p1 : u = .ref b := p1
    subst p1
    obtain ⟨dx, vs0, e1, sat⟩ := m1.ins hj
    refine ⟨b, dx, vs0, rfl, e1, FldsOk.no sat hl, O, m1, fun vs H2 m2 s2 p2 => ?_⟩
    show sp (.ref b :: (vs ++ [])) H2 _ _
    rw [List.append_nil]
    refine kk O H2 (.ref b :: vs) _ _ m2.lv m2.wo.left (.cons rfl p2) (fun k H' hk sb wo => ?_) fun xh d H' sb => ⟨hxo xh, rfl, m2.sbx sb⟩
    obtain ⟨m3, s3⟩ := m2.call sb wo (ho k hk)
    exact nx _ _ _ _ O ⟨k, hk, rfl, rfl⟩ m3 ((s1.trans s2).trans s3)⟩) fun ρ1 W1 ⟨k, hk, e1, e2⟩ => e1 ▸ e2 ▸ h k hk
theorem rs_methE0 (j : Nat) {fs : List (Str × SP)} {pl : Sem Bool} (hob : RV X an o ρ W (Wi ++ Wr) (refP b)) (hj : (Wi ++ Wr)[j]? = some (b, insM C fs)) (hl : fs.lookup m = none) (c : Cls X.K C) (hm : Meth X.K C m f) (F : FnOk X.prog X.w X.K X.mg X.base CX k f fd ps sp) (kk : CallE sp (TGa X.K) [refP b] Wi Wo post xc) (ho : ∀ k, post k → (Wo k).map Prod.fst = Wi.map Prod.fst)
    (hx : Passes CX X (XKa (TGa X.K) an xo)) (hxo : xc → xo) (hr : Room k X.A) (hb : Binds X.K fd ps []) (h : ∀ k, post k → RSs X an rest ρ (Wo k ++ Wr) N R Wz)
    (ht : eval (.Call (.Attribute o m apos) [] [] pos) X.env = (do
      let ov ← eval o X.env
      standAt apos.atName
      let (f, first) ← holding [ov] (getMethod ov m pl)
      callWith pos f first (backTo pos (starEach [] X.env)) (backToKw pos (keywordEach [] X.env))) := by rfl) (hs : swapsWith (.Call (.Attribute o m apos) [] [] pos) none spos.line X.env = pure false := by rfl) : RSs X an (.Expr (.Call (.Attribute o m apos) [] [] pos) spos :: rest) ρ W N R Wz :=
  rs_cons (N1 := fun ρ1 W1 => ∃ k, post k ∧ ρ1 = ρ ∧ W1 = Wo k ++ Wr) (PSimp (ps_expr (pe_meth0 hob c hm F hr hb .nil hx ht) hs) fun D σ H ⟨O, mx, nx, rt⟩ => ⟨O, mx, fun u H1 m1 s1 p1 => by
    have p1 : u = .ref b := p1
    subst p1
    obtain ⟨dx, vs0, e1, sat⟩ := m1.ins hj
    refine ⟨b, dx, vs0, rfl, e1, FldsOk.no sat hl, ?_⟩
    refine kk O H1 [.ref b] _ _ m1.lv m1.wo.left (.cons rfl .nil) (fun k H' hk sb wo => ?_) fun xh d H' sb => ⟨hxo xh, rfl, m1.sbx sb⟩
    obtain ⟨m3, s3⟩ := m1.call sb wo (ho k hk)
    exact nx _ _ _ _ O ⟨k, hk, rfl, rfl⟩ m3 (s1.trans s3)⟩) fun ρ1 W1 ⟨k, hk, e1, e2⟩ => e1 ▸ e2 ▸ h k hk
/-- what is owned in another order -/
theorem rs_perm (q : W.Perm W1) (h : RSs X an rest ρ W1 N R Wz) : RSs X an rest ρ W N R Wz := PSsimp h fun D σ H ⟨O, m, nx, rt⟩ => ⟨O, m.perm q, nx, rt⟩
theorem MX.retell {O : List Addr} {σ : St} {H : Hp} {j : Nat} (m : MX an O ρ W σ H) (hj : W[j]? = some (y, mp)) (hk : ∀ o, H y = some o → mp.p (mn H O) o → mp'.p (mn H O) o) : MX an O ρ (W.set j (y, mp')) σ H := by
  have hy := m.wo.at_ _ (List.mem_of_getElem? hj)
  refine ⟨m.a0, m.l0, m.sub, m.fr, m.lv, m.ds, ⟨by rw [map_fst_set hj]; exact m.wo.nd, fun c hc => ?_⟩, fun c hc => ?_, m.sb⟩
  · rcases mem_set_of hj m.wo.nd hc with q | ⟨q1, _⟩
    · subst q
      obtain ⟨h1, o, h2, h3⟩ := hy
      exact ⟨h1, o, h2, hk o h2 h3⟩
    · exact m.wo.at_ c q1
  · rcases mem_set_of hj m.wo.nd hc with q | ⟨q1, _⟩
    · subst q
      have hw := m.wa (y, mp) (List.mem_of_getElem? hj)
      exact hw
    · exact m.wa c q1
theorem rs_retell (j : Nat) (hj : W[j]? = some (y, mp)) (hk : ∀ H o, mp.p H o → mp'.p H o) (h : RSs X an rest ρ (W.set j (y, mp')) N R Wz) : RSs X an rest ρ W N R Wz := PSsimp h fun D σ H ⟨O, m, nx, rt⟩ => ⟨O, m.retell hj fun o _ h => hk _ o h, nx, rt⟩
theorem FldsOk.repl {H : Hp} {g : Str} {Q P : SP} (k : ∀ v, Q.p H v → P.p H v) : ∀ {fs : List (Str × SP)} {vs : List (Str × V)}, fs.lookup g = some Q → FldsOk fs H vs → FldsOk (putP g P fs) H vs
  | [], _, e, _ => by simp at e
  | (g', Q') :: fs, _, e, .cons ⟨h1, h2⟩ t => by
    unfold putP
    rw [List.lookup_cons] at e
    by_cases q : g' = g
    · subst q
      rw [if_pos rfl]
      rw [beq_self_eq_true] at e
      cases e
      exact .cons ⟨h1, k _ h2⟩ t
    · rw [if_neg q]
      have q2 : (g == g') = false := by simpa using fun z => q z.symm
      rw [q2] at e
      exact .cons ⟨h1, h2⟩ (FldsOk.repl k e t)
/-- what is owned last, and by a field, is let go -/
theorem rs_freeF (j : Nat) {fs : List (Str × SP)} {g : Str} (h0 : an.H0 b = none) (hj : W[j]? = some (y, insM C fs)) (hf : fs.lookup g = some (refP b)) (hk : ∀ H o, H b = some o → mp.p H o → P.p H (.ref b)) (h : RSs X an rest ρ (W.set j (y, insM C (putP g P fs))) N R Wz) : RSs X an rest ρ (W ++ [(b, mp)]) N R Wz :=
  PSsimp h fun D σ H ⟨O, m, nx, rt⟩ => by
    obtain ⟨m2, s2⟩ := m.free (O1 := O.filter fun a => decide (a ≠ b)) h0 (fun a ha => (List.mem_filter.mp ha).1) fun a ha hn => List.mem_filter.mpr ⟨ha, decide_eq_true hn⟩
    obtain ⟨_, o, h2, h3⟩ := m.wo.at_ (b, mp) (by simp)
    have hb : mn H (O.filter fun a => decide (a ≠ b)) b = some o := by
      rw [mn_out]
      · exact h2
      · intro z
        have z2 := (List.mem_filter.mp z).2
        simp at z2
    have hp := hk _ o hb (mp.st s2 h3)
    refine ⟨_, m2.retell hj fun u _ ⟨dx, vs, e, hfl⟩ => ⟨dx, vs, e, FldsOk.repl (fun v hv => ?_) hf hfl⟩, fun ρ' W' σ' H' O' hN m' s' => nx ρ' W' σ' H' O' hN m' (s2.trans s'), rt⟩
    have hv : v = .ref b := hv
    rw [hv]
    exact hp
/-- C(e, ..), one of many, let go at once -/
theorem rv_makeE (M : Mk X.K C f) (F : FnOk X.prog X.w X.K X.mg X.base CX k f fd ps sp) {mo : κ → MP} (kk : ∀ y, CallE sp (TGa X.K) (refP y :: Ps) [(y, insM C [])] (fun k => [(y, mo k)]) post xc) (hP : ∀ k, post k → ∀ H p o, H p = some o → (mo k).p H o → P.p H (.ref p)) (hr : Room (k + 1) X.A) (hm : X.mg x = some (.ref C)) (hb : Binds X.K fd ps []) (hx : Passes CX X (XKa (TGa X.K) an xo)) (hxo : xc → xo)
    (ha : RA X an (e :: es) ρ W W' Ps) (hg : Gl X x := by rfl) (hdb : (x == ("__debug__" : Str)) = false := by decide) (he : starEach (e :: es) X.env = (false, eval e X.env) :: starEach es X.env := by rfl) (hpl : (backTo pos (starEach es X.env)).any (·.1) = false := by rfl) :
    RV X an (.Call (.Name x p) (e :: es) [] pos) ρ W W' P :=
  PEimp (pe_make M F hr hg hm hb .nil hx ha hdb he hpl) fun σ H Q ⟨O, m, q⟩ => ⟨O, m, fun vs H1 m1 s1 p1 y dx hy hdx hne => by
    have m2 := m1.same (same_new (o := .own y) hdx)
    have hy2 : upd H1 dx (.own y) y = none := by rw [upd_ne (Ne.symm hne)]; exact hy
    obtain ⟨m3, e3⟩ := m2.new (mp := insM C []) (o := .ins C dx []) hy2 ⟨dx, [], rfl, .nil⟩
    rw [List.append_nil]
    have m3p : MX an (y :: O) ρ ([(y, insM C [])] ++ W') σ (upd (upd H1 dx (.own y)) y (.ins C dx [])) := m3.perm List.perm_append_comm
    have s13 : Same (mn H1 O) (mn (upd (upd H1 dx (.own y)) y (.ins C dx [])) (y :: O)) := by
      rw [e3]
      exact mn_mono (same_new hdx)
    refine kk y (y :: O) _ (.ref y :: vs) _ _ m3p.lv ⟨by simp, fun c hc => m3p.wo.at_ c (List.mem_append_left _ hc)⟩ (.cons rfl (p1.same s13)) (fun k H' hk sb wo => ⟨rfl, ?_⟩) fun xh d H' sb => ⟨hxo xh, rfl, m3p.sbx sb⟩
    obtain ⟨m4, s4⟩ := m3p.call sb wo rfl
    have m4p : MX an (y :: O) ρ (W' ++ [(y, mo k)]) σ H' := m4.perm List.perm_append_comm
    have nyO : ¬ y ∈ O := m1.lv.new hy
    obtain ⟨m5, s5⟩ := m4p.free (O1 := O) (m1.new0 hy) (fun b hb => List.mem_cons_of_mem _ hb) (fun b hb hn => (List.mem_cons.mp hb).elim (fun z => (hn z).elim) id)
    obtain ⟨_, o, h2, h3⟩ := m4p.wo.at_ (y, mo k) (by simp)
    exact q _ H' m5 (((s1.trans s13).trans s4).trans s5) (hP k hk _ y o (by rw [mn_out nyO]; exact h2) ((mo k).st s5 h3))⟩
/-- o.m(e, e2) alone, o owned, e a new thing that is given away -/
theorem rs_give (j : Nat) {fs : List (Str × SP)} {pl : Sem Bool} (hob : RV X an o ρ W W1 (refP b)) (hj : W1[j]? = some (b, insM C fs)) (hl : fs.lookup m = none) (c : Cls X.K C) (hm : Meth X.K C m f) (F : FnOk X.prog X.w X.K X.mg X.base CX k f fd ps sp) (kk : CallC sp (TGa X.K) b P2 mp Wi Wo post xc) (ho : ∀ k, post k → (Wo k).map Prod.fst = Wi.map Prod.fst)
    (hx : Passes CX X (XKa (TGa X.K) an xo)) (hxo : xc → xo) (hr : Room k X.A) (hb : Binds X.K fd ps []) (hN : RN X an e ρ W1 (Wi ++ Wr) (fun _ => mp)) (h2 : ∀ c, RV X an e2 ρ (Wi ++ Wr ++ [c]) (Wi ++ Wr ++ [c]) P2) (h : ∀ k, post k → RSs X an rest ρ (Wo k ++ Wr) N R Wz)
    (hst : starEach [e, e2] X.env = (false, eval e X.env) :: starEach [e2] X.env := by rfl) (hst2 : starEach [e2] X.env = (false, eval e2 X.env) :: starEach [] X.env := by rfl) (hpl : (backTo pos (starEach [e2] X.env)).any (·.1) = false := by rfl)
    (ht : eval (.Call (.Attribute o m apos) [e, e2] [] pos) X.env = (do
      let ov ← eval o X.env
      standAt apos.atName
      let (f, first) ← holding [ov] (getMethod ov m pl)
      callWith pos f first (backTo pos (starEach [e, e2] X.env)) (backToKw pos (keywordEach [] X.env))) := by rfl) (hs : swapsWith (.Call (.Attribute o m apos) [e, e2] [] pos) none spos.line X.env = pure false := by rfl) : RSs X an (.Expr (.Call (.Attribute o m apos) [e, e2] [] pos) spos :: rest) ρ W N R Wz :=
  rs_cons (N1 := fun ρ1 W1 => ∃ k, post k ∧ ρ1 = ρ ∧ W1 = Wo k ++ Wr) (PSimp (ps_expr (pe_meth hob c hm F hr hb .nil hx (pa_cons hN (PAex (ι := Addr × MP) fun c => ra_cons (h2 c) ra_nil hst2) hst) hst hpl ht) hs) fun D σ H ⟨O, mx, nx, rt⟩ => ⟨O, mx, fun u H1 m1 s1 p1 => by
    have p1 : u = .ref b := p1
    subst p1
    obtain ⟨dx, vs0, e1, sat⟩ := m1.ins hj
    refine ⟨b, dx, vs0, rfl, e1, FldsOk.no sat hl, O, m1, fun p H2 hpO hp0 m2 s2 => ⟨(p, mp), p :: O, m2, fun vs H3 m3 s3 p3 => ?_⟩⟩
    cases p3 with
    | cons pv t =>
      rename_i v2 vt
      cases t
      show sp [.ref b, .ref p, v2] H3 _ _
      have nd := m3.wo.nd
      rw [List.map_append, List.map_append] at nd
      have ndA := List.nodup_append.mp nd
      have ndB := List.nodup_append.mp ndA.1
      have wop : WOk (Wi ++ [(p, mp)]) (p :: O) H3 := ⟨by
        rw [List.map_append]
        refine List.nodup_append.mpr ⟨ndB.1, by simp, fun a ha c hc => ?_⟩
        exact ndA.2.2 a (List.mem_append_left _ ha) c hc, fun c hc => m3.wo.at_ c (by
          rcases List.mem_append.mp hc with h | h
          · exact List.mem_append_left _ (List.mem_append_left _ h)
          · exact List.mem_append_right _ h)⟩
      have hiO : ∀ a, a ∈ Wi.map Prod.fst → a ∈ O := fun a ha => by
        obtain ⟨c, hc, rfl⟩ := List.mem_map.mp ha
        have z := (m3.wo.at_ c (List.mem_append_left _ (List.mem_append_left _ hc))).1
        refine (List.mem_cons.mp z).resolve_left fun e => ?_
        exact ndA.2.2 c.1 (List.mem_append_left _ ha) p (by simp) e
      have sbx : ∀ {H' : Hp}, SameB (p :: Wi.map Prod.fst) H3 H' → SameB an.A0 an.H0 H' := fun {H'} sb a o n e => by
        have e1 := m3.sb a o n e
        refine sb a o (fun z => ?_) e1
        rcases List.mem_cons.mp z with z | z
        · rw [z, hp0] at e
          cases e
        · obtain ⟨c, hc, e2⟩ := List.mem_map.mp z
          rcases m3.wa c (List.mem_append_left _ (List.mem_append_left _ hc)) with h | h
          · exact n (e2 ▸ h)
          · rw [e2, e] at h
            cases h
      refine kk O H3 p v2 _ _ m3.lv hpO wop pv (fun k H' hk sb wo => ?_) fun xh d H' sb => ⟨hxo xh, rfl, sbx sb⟩
      have sm : Same (mn H3 (p :: O)) (mn H' O) := fun a o ea => by
        by_cases q : a ∈ p :: O
        · rw [mn_in q] at ea
          cases ea
        · rw [mn_out q] at ea
          rw [mn_out fun z => q (List.mem_cons_of_mem _ z)]
          exact sb a o (fun z => q ((List.mem_cons.mp z).elim (fun e => by rw [e]; exact List.mem_cons_self) fun z => List.mem_cons_of_mem _ (hiO a z))) ea
      have key : ∀ c, c ∈ Wr → ¬ c.1 ∈ p :: Wi.map Prod.fst := fun c hc z => by
        have hcr : c.1 ∈ Wr.map Prod.fst := List.mem_map.mpr ⟨c, hc, rfl⟩
        rcases List.mem_cons.mp z with z | z
        · exact ndA.2.2 c.1 (List.mem_append_right _ hcr) p (by simp) z
        · exact ndB.2.2 c.1 z c.1 hcr rfl
      have m4 : MX an O ρ (Wo k ++ Wr) σ H' := by
        refine ⟨mx.a0, mx.l0, mx.sub, mx.fr, fun a ha => ?_, m3.ds.same sm, ⟨?_, fun c hc => ?_⟩, fun c hc => ?_, sbx sb⟩
        · by_cases z : a ∈ Wi.map Prod.fst
          · rw [← ho k hk] at z
            obtain ⟨c, hc, e⟩ := List.mem_map.mp z
            obtain ⟨_, o, h2, _⟩ := wo.at_ c hc
            exact ⟨o, e ▸ h2⟩
          · obtain ⟨o, h⟩ := m3.lv a (List.mem_cons_of_mem _ ha)
            exact ⟨o, sb a o (fun y => (List.mem_cons.mp y).elim (fun e => hpO (e ▸ ha)) z) h⟩
        · rw [List.map_append, ho k hk]
          exact ndA.1
        · rcases List.mem_append.mp hc with h | h
          · exact wo.at_ c h
          · obtain ⟨h1, o, h2, h3⟩ := m3.wo.at_ c (List.mem_append_left _ (List.mem_append_right _ h))
            refine ⟨(List.mem_cons.mp h1).resolve_left fun e => key c h (by rw [e]; exact List.mem_cons_self), o, sb _ _ (key c h) h2, c.2.st sm h3⟩
        · rcases List.mem_append.mp hc with h | h
          · have z : c.1 ∈ Wi.map Prod.fst := by
              rw [← ho k hk]
              exact List.mem_map.mpr ⟨c, h, rfl⟩
            obtain ⟨c', hc', e⟩ := List.mem_map.mp z
            rw [← e]
            exact m3.wa c' (List.mem_append_left _ (List.mem_append_left _ hc'))
          · exact m3.wa c (List.mem_append_left _ (List.mem_append_right _ h))
      exact nx _ _ _ _ O ⟨k, hk, rfl, rfl⟩ m4 (((s1.trans s2).trans s3).trans sm)⟩) fun ρ1 W1 ⟨k, hk, e1, e2⟩ => e1 ▸ e2 ▸ h k hk
end
end TF
set_option Elab.async false
set_option linter.all false
set_option maxRecDepth 100000
set_option maxHeartbeats 4000000
/-! D6: spots. -/
namespace TF
open PySem PySem.Spec PyProof.Rows L2
open PyProof.Rows (envOfC)
inductive Sp0 where
  | root (w : Wide)
  | node (w : Wide) (par : Sp0) (nm : Str)
instance : Inhabited Sp0 := ⟨.root []⟩
namespace Sp0
def wide : Sp0 → Wide
  | .root w => w
  | .node w _ _ => w
def depth : Sp0 → Nat
  | .root _ => 0
  | .node _ p _ => p.depth + 1
def nm : Sp0 → Str
  | .root _ => ""
  | .node _ _ x => x
/-- the wide heaps on the way, itself first -/
def chain : Sp0 → List Wide
  | .root w => [w]
  | .node w p _ => w :: p.chain
end Sp0
def tailP (K : PySem.W.Frag) (n : Nat) : SP := exP (ι := { l : List Str // l.length ≤ n }) fun l => lstT (l.1.map fun x => dat K (.str x))
def pumpsP (K : PySem.W.Frag) (n : Nat) : SP := exP (ι := { m : Nat // m ≤ n }) fun m => lstT (List.replicate m.1 (tupP K [tailP K 2100, tailP K 2100]))
theorem tail_mono {K : PySem.W.Frag} {n m : Nat} (h : n ≤ m) : Imp (tailP K n) (tailP K m) := fun H v ⟨⟨l, hl⟩, p⟩ => ⟨⟨l, Nat.le_trans hl h⟩, p⟩
theorem pumps_mono {K : PySem.W.Frag} {n m : Nat} (h : n ≤ m) : Imp (pumpsP K n) (pumpsP K m) := fun H v ⟨⟨l, hl⟩, p⟩ => ⟨⟨l, Nat.le_trans hl h⟩, p⟩
abbrev spF (K : PySem.W.Frag) (w : Wide) (d : Nat) (pP : SP) (nm : Str) (m t : Nat) : List (Str × SP) := [("wide", dat K (wD w)), ("depth", dat K (.int (d : Int))), ("parent", pP), ("came_by", dat K (.str nm)), ("pumps", pumpsP K m), ("tail", tailP K t)]
def spotP (K : PySem.W.Frag) : Sp0 → SP
  | .root w => insP (He.ga K "Spot") (spF K w 0 (dat K .none) "" 0 0)
  | .node w p x => insP (He.ga K "Spot") (spF K w (p.depth + 1) (spotP K p) x (40 * (p.depth + 1)) (p.depth + 1))
/-- a spot or None -/
def opP (K : PySem.W.Frag) : Option Sp0 → SP
  | none => dat K .none
  | some s => spotP K s
def Sp0.par : Sp0 → Option Sp0
  | .root _ => none
  | .node _ p _ => some p
theorem spot_shape {K : PySem.W.Frag} (s : Sp0) : spotP K s = insP (He.ga K "Spot") (spF K s.wide s.depth (opP K s.par) s.nm (40 * s.depth) s.depth) := by cases s <;> rfl
def dO : Option Sp0 → Nat
  | none => 0
  | some s => s.depth + 1
def mO : Option Sp0 → Nat
  | none => 0
  | some s => s.depth
theorem nonP_spot {K : PySem.W.Frag} {s : Sp0} : NonP (spotP K s) false := fun H v h => by
  rw [spot_shape] at h
  obtain ⟨a, dx, vs, rfl, _⟩ := h
  rfl
theorem nonP_o {K : PySem.W.Frag} (o : Option Sp0) : NonP (opP K o) o.isNone := by
  cases o with
  | none => exact nonP_dat (d := .none)
  | some s => exact nonP_spot
section
variable {X : Cx} {an : An} {K : PySem.W.Frag} {ρ : TF.Env} {W W1 W2 W' : Wd} {a b e : Expr} {pos : Pos} {s : Sp0} {n m : Nat} {x : Str}
theorem rv_spw (T : TF.Txt X.K X.mg) (h : RV X an e ρ W W' (spotP X.K s)) (hb : attributeBase e "wide" X.env (eval e X.env) = eval e X.env := by rfl) : RV X an (.Attribute e "wide" pos) ρ W W' (dat X.K (wD s.wide)) := rv_fld (spot_shape s ▸ h) (insP_fld T.c_Spot T.a_Spot_wide rfl) hb
theorem rv_spd (T : TF.Txt X.K X.mg) (h : RV X an e ρ W W' (spotP X.K s)) (hb : attributeBase e "depth" X.env (eval e X.env) = eval e X.env := by rfl) : RV X an (.Attribute e "depth" pos) ρ W W' (dat X.K (.int (s.depth : Int))) := rv_fld (spot_shape s ▸ h) (insP_fld T.c_Spot T.a_Spot_depth rfl) hb
theorem rv_spp (T : TF.Txt X.K X.mg) (h : RV X an e ρ W W' (spotP X.K s)) (hb : attributeBase e "parent" X.env (eval e X.env) = eval e X.env := by rfl) : RV X an (.Attribute e "parent" pos) ρ W W' (opP X.K s.par) := rv_fld (spot_shape s ▸ h) (insP_fld T.c_Spot T.a_Spot_parent rfl) hb
theorem rv_spn (T : TF.Txt X.K X.mg) (h : RV X an e ρ W W' (spotP X.K s)) (hb : attributeBase e "came_by" X.env (eval e X.env) = eval e X.env := by rfl) : RV X an (.Attribute e "came_by" pos) ρ W W' (dat X.K (.str s.nm)) := rv_fld (spot_shape s ▸ h) (insP_fld T.c_Spot T.a_Spot_came_by rfl) hb
theorem rv_spm (T : TF.Txt X.K X.mg) (h : RV X an e ρ W W' (spotP X.K s)) (hb : attributeBase e "pumps" X.env (eval e X.env) = eval e X.env := by rfl) : RV X an (.Attribute e "pumps" pos) ρ W W' (pumpsP X.K (40 * s.depth)) := rv_fld (spot_shape s ▸ h) (insP_fld T.c_Spot T.a_Spot_pumps rfl) hb
theorem rv_spt (T : TF.Txt X.K X.mg) (h : RV X an e ρ W W' (spotP X.K s)) (hb : attributeBase e "tail" X.env (eval e X.env) = eval e X.env := by rfl) : RV X an (.Attribute e "tail" pos) ρ W W' (tailP X.K s.depth) := rv_fld (spot_shape s ▸ h) (insP_fld T.c_Spot T.a_Spot_tail rfl) hb
theorem k_cat {Ps Rs : List SP} (hl : Ps.length + Rs.length ≤ 1000000) : R2Ok rCat (lstT Ps) (lstT Rs) (lstT (Ps ++ Rs)) := fun O H v w Q l ⟨p, xs, ep, hp, sp⟩ ⟨r, ys, er, hr, sr⟩ q => by
  subst ep er
  refine ⟨p, r, xs, ys, rfl, rfl, mn_at hp, mn_at hr, ?_, fun z hz => q _ _ (same_new hz) ⟨z, _, rfl, mn_new l hz, (sp.append sr).same (mn_mono (same_new hz))⟩⟩
  rw [← sp.length, ← sr.length, sizeLine_eq]
  omega
/-- tail + [x] -/
theorem rv_tailS (hn : n ≤ 500000) (ha : RV X an a ρ W W1 (tailP K n)) (hb : RV X an b ρ W1 W2 (lstT [dat K (.str x)])) : RV X an (.BinOp a .Add b pos) ρ W W2 (tailP K (n + 1)) :=
  rv_op op_cat (k_ex (f := fun l : { l : List Str // l.length ≤ n } => lstT (l.1.map fun x => dat K (.str x))) fun l => k_imp (k_cat (Rs := [dat K (.str x)]) (by
    rw [List.length_map]
    have := l.2
    show _ + 1 ≤ _
    omega)) fun H v p => ⟨⟨l.1 ++ [x], by
    rw [List.length_append, List.length_singleton]
    have := l.2
    omega⟩, by
    show (lstT ((l.1 ++ [x]).map fun x => dat K (.str x))).p H v
    rw [List.map_append]
    exact p⟩) ha hb
/-- pumps + [(tail, way)] -/
theorem rv_pumpS (hn : n ≤ 500000) (ha : RV X an a ρ W W1 (pumpsP K n)) (hb : RV X an b ρ W1 W2 (lstT [tupP K [tailP K 2100, tailP K 2100]])) : RV X an (.BinOp a .Add b pos) ρ W W2 (pumpsP K (n + 1)) :=
  rv_op op_cat (k_ex (f := fun m : { m : Nat // m ≤ n } => lstT (List.replicate m.1 (tupP K [tailP K 2100, tailP K 2100]))) fun m => k_imp (k_cat (Rs := [tupP K [tailP K 2100, tailP K 2100]]) (by
    rw [List.length_replicate]
    have := m.2
    show _ + 1 ≤ _
    omega)) fun H v p => ⟨⟨m.1 + 1, by have := m.2; omega⟩, by
    show (lstT (List.replicate (m.1 + 1) (tupP K [tailP K 2100, tailP K 2100]))).p H v
    rw [List.replicate_succ']
    exact p⟩) ha hb
end
theorem rv_ifO {X : Cx} {an : An} {ρ : TF.Env} {W : Wd} {P : SP} {a b c : Expr} {pos : Pos} (o : Option Sp0) (hc : RT X an c ρ W W (!o.isNone)) (ha : ∀ s, o = some s → RV X an a ρ W W P) (hb : o = none → RV X an b ρ W W P) : RV X an (.IfExp c a b pos) ρ W W P := rv_if hc (fun h => by
  cases o with
  | none => cases h
  | some s => exact ha s rfl) fun h => by
  cases o with
  | none => exact hb rfl
  | some s => cases h
theorem tail_nil {K : PySem.W.Frag} {n : Nat} : Imp (lstT []) (tailP K n) := fun H v p => ⟨⟨[], Nat.zero_le _⟩, p⟩
theorem pumps_nil {K : PySem.W.Frag} {n : Nat} : Imp (lstT []) (pumpsP K n) := fun H v p => ⟨⟨0, Nat.zero_le _⟩, p⟩
structure SiQ where
  y : Addr
  w : Wide
  o : Option Sp0
  nm : Str
section
variable {P : Program} {w : World} {K : PySem.W.Frag} {mg : Str → Option Value} {base : Heap} (T : TF.Txt K mg)
include T
theorem w_Spot_init : O_Spot_init P w K mg base CX0 1 (mkSp (ι := SiQ) (fun q => [refP q.y, dat K (wD q.w), opP K q.o, dat K (.str q.nm)]) (fun q => [(q.y, insM (He.ga K "Spot") [])]) (fun q => [(q.y, insM (He.ga K "Spot") (spF K q.w (dO q.o) (opP K q.o) q.nm (40 * mO q.o) (dO q.o)))]) (fun q => mO q.o ≤ 2050) (fun _ => dat K .none)) := by
  refine okM T.f_Spot_init (N := N_Spot_init) (by constructor <;> first | rfl | decide | decide +kernel) (fun _ => rfl) fun cdv A1 outer s H E hr q hq an hO => ?_
  obtain ⟨y, wd, o, nm⟩ := q
  have hq : mO o ≤ 2050 := hq
  refine rs_fldN 0 (P := dat K (wD wd)) (rv_var 1) (rv_var 0) rfl T.c_Spot T.a_Spot_wide ?_
  refine rs_fldN 0 (P := dat K (.int (dO o : Int))) (rv_ifO o (rt_notN K (nonP_o o) (rv_var 2)) (fun s e => ?_) fun e => ?_) (rv_var 0) rfl T.c_Spot T.a_Spot_depth ?_
  · subst e
    exact rv_to (rv_add (K := K) (rv_spd T (rv_var 2)) rv_int) rfl
  · subst e
    exact rv_int
  refine rs_fldN 0 (P := opP K o) (rv_var 2) (rv_var 0) rfl T.c_Spot T.a_Spot_parent ?_
  refine rs_fldN 0 (P := dat K (.str nm)) (rv_var 3) (rv_var 0) rfl T.c_Spot T.a_Spot_came_by ?_
  refine rs_fldN 0 (P := pumpsP K (40 * mO o)) (rv_ifO o (rt_notN K (nonP_o o) (rv_var 2)) (fun s e => ?_) fun e => ?_) (rv_var 0) rfl T.c_Spot T.a_Spot_pumps ?_
  · subst e
    exact rv_spm T (rv_var 2)
  · exact rv_sub (rv_lst (Ps := []) ra_nil) pumps_nil
  refine rs_fldN 0 (P := tailP K (dO o)) (rv_ifO o (rt_notN K (nonP_o o) (rv_var 2)) (fun s e => ?_) fun e => ?_) (rv_var 0) rfl T.c_Spot T.a_Spot_tail ?_
  · subst e
    have hq : s.depth ≤ 2050 := hq
    exact rv_tailS (n := s.depth) (by omega) (rv_spt T (rv_var 2)) (rv_lst (Ps := [dat K (.str nm)]) (ra_cons (rv_var 3) ra_nil))
  · exact rv_sub (rv_lst (Ps := []) ra_nil) tail_nil
  refine rs_nil ⟨⟨by simp, fun c hc => ?_⟩, fun H => .non⟩
  rw [List.mem_singleton.mp hc]
  exact ⟨hO (y, insM (He.ga K "Spot") []) (List.mem_singleton.mpr rfl), _, List.mem_singleton.mpr rfl, rfl, fun _ _ h => h⟩
end
end TF
set_option Elab.async false
set_option linter.all false
set_option maxRecDepth 100000
set_option maxHeartbeats 4000000
/-! W30: ways from spots, pumps. -/
namespace TF
open PySem PySem.Spec PyProof.Rows L2
open PyProof.Rows (envOfC)
inductive Pumped (ch : List Wide) : Wide → Wide → Prop
  | refl (w : Wide) : Pumped ch w w
  | step {w a w' : Wide} (ha : a ∈ ch) (ho : isOver w a = true) (r : Pumped ch (wids w a) w') : Pumped ch w w'
theorem Pumped.trans {ch : List Wide} {a b c : Wide} (h : Pumped ch a b) (k : Pumped ch b c) : Pumped ch a c := by
  induction h with
  | refl w => exact k
  | step ha ho r ih => exact .step ha ho (ih k)
/-- how many have no end -/
def nons (w : Wide) : Nat := ((List.range w.length).filter fun i => decide (w.getD i none = none)).length
theorem nons_le (w : Wide) : nons w ≤ w.length := by
  unfold nons
  have h := List.length_filter_le (fun i => decide (w.getD i none = none)) (List.range w.length)
  rwa [List.length_range] at h
theorem nons_lt {w a : Wide} (h : wids w a ≠ w) : nons w < nons (wids w a) := by
  unfold nons
  rw [len_wids]
  have e : ((List.range w.length).filter fun i => decide (w.getD i none = none)) = (((List.range w.length).filter fun i => decide ((wids w a).getD i none = none)).filter fun i => decide (w.getD i none = none)) := by
    rw [List.filter_filter]
    refine List.filter_congr fun i hi => ?_
    have hi := List.mem_range.mp hi
    by_cases z : w.getD i none = none
    · rw [decide_eq_true z, Bool.true_and]
      refine (decide_eq_true ?_).symm
      rw [wids_at hi]
      split
      · exact z
      · rfl
    · rw [decide_eq_false z, Bool.false_and]
  rw [e]
  refine List.length_filter_lt_length_iff_exists.mpr ?_
  apply Classical.byContradiction
  intro k
  refine h (wide_ext (n := w.length) (len_wids w a) rfl fun i hi => ?_)
  rw [wids_at hi]
  split
  · rfl
  · rename_i q
    apply Classical.byContradiction
    intro c
    refine k ⟨i, List.mem_filter.mpr ⟨List.mem_range.mpr hi, decide_eq_true ?_⟩, ?_⟩
    · rw [wids_at hi, if_neg q]
    · rw [decide_eq_false fun z => c z.symm]
      exact Bool.false_ne_true
structure WfQ where
  y : Addr
  w : Wide
  par : Sp0
  nm : Str
  m : Nat
  t : Nat
  a : Sp0
abbrev spW (K : PySem.W.Frag) (y : Addr) (w : Wide) (par : Sp0) (nm : Str) (m t : Nat) : Wd := [(y, insM (He.ga K "Spot") (spF K w (par.depth + 1) (spotP K par) nm m t))]
/-- here: the spot itself, or one ahead -/
def hereP (K : PySem.W.Frag) (y : Addr) : Option Sp0 → SP
  | none => refP y
  | some s => spotP K s
def hd0 (par : Sp0) : Option Sp0 → Nat
  | none => par.depth + 1
  | some s => s.depth
theorem spW_end {K : PySem.W.Frag} {an : An} {y : Addr} {w : Wide} {par : Sp0} {nm : Str} {m t m' t' : Nat} {w' : Wide} (hO : ∀ c, c ∈ spW K y w par nm m t → c.1 ∈ an.O0) {m2 t2 : Nat} (hm : m' ≤ m2) (ht : t' ≤ t2) : WEnd an (spW K y w' par nm m' t') (spW K y w' par nm m2 t2) := ⟨by simp, fun c hc => by
  rw [List.mem_singleton.mp hc]
  refine ⟨hO (y, insM (He.ga K "Spot") (spF K w (par.depth + 1) (spotP K par) nm m t)) (List.mem_singleton.mpr rfl), _, List.mem_singleton.mpr rfl, rfl, fun H o ⟨dx, vs, e, h⟩ => ⟨dx, vs, e, FldsOk.imp ?_ h⟩⟩
  exact .cons ⟨rfl, Imp.refl⟩ (.cons ⟨rfl, Imp.refl⟩ (.cons ⟨rfl, Imp.refl⟩ (.cons ⟨rfl, Imp.refl⟩ (.cons ⟨rfl, pumps_mono hm⟩ (.cons ⟨rfl, tail_mono ht⟩ .nil)))))⟩
section
variable {P : Program} {w : World} {K : PySem.W.Frag} {mg : Str → Option Value} {base : Heap} (T : TF.Txt K mg)
include T
theorem w_Spot_way_from : O_Spot_way_from P w K mg base CX0 1 (mkSp (ι := WfQ) (fun q => [refP q.y, spotP K q.a]) (fun q => spW K q.y q.w q.par q.nm q.m q.t) (fun q => spW K q.y q.w q.par q.nm q.m q.t) (fun q => q.par.depth ≤ 2050) (fun q => tailP K (q.par.depth + 1))) := by
  refine okM T.f_Spot_way_from (N := N_Spot_way_from) (by constructor <;> first | rfl | decide | decide +kernel) (fun _ => rfl) fun cdv A1 outer s H E hr q hq an hO => ?_
  obtain ⟨y, wd, par, nm, m, t, a⟩ := q
  have hq : par.depth ≤ 2050 := hq
  refine rs_new 2 (rn_lst (Ps := []) ra_nil) fun b hb => ?_
  refine rs_set 3 (rv_var 0) ?_
  refine rs_whileI (ι := Option Sp0) (ms := hd0 par) (bt := fun i => decide (a.depth < hd0 par i)) (I := fun i ρ W => ∃ l : List Str, l.length + hd0 par i ≤ par.depth + 1 ∧ ρ = [some (refP y), some (spotP K a), some (refP b), some (hereP K y i)] ∧ W = spW K y wd par nm m t ++ [(b, lstM (l.map fun x => dat K (.str x)))]) ?_ ?_ none ⟨[], by show 0 + _ ≤ _; exact Nat.le_of_eq (Nat.zero_add _), rfl, rfl⟩ ?_
  · rintro i _ _ ⟨l, hl, rfl, rfl⟩
    cases i with
    | none => exact rt_to (rt_gt (K := K) (i := ((par.depth + 1 : Nat) : Int)) (j := (a.depth : Int)) (rv_fldO 0 (rv_var 3) rfl T.c_Spot T.a_Spot_depth rfl) (rv_spd T (rv_var 1))) (decide_eq_decide.mpr (by show ((a.depth : Int) < ((par.depth + 1 : Nat) : Int)) ↔ a.depth < par.depth + 1; omega))
    | some s => exact rt_to (rt_gt (K := K) (i := (s.depth : Int)) (j := (a.depth : Int)) (rv_spd T (rv_var 3)) (rv_spd T (rv_var 1))) (decide_eq_decide.mpr (by show ((a.depth : Int) < (s.depth : Int)) ↔ a.depth < s.depth; omega))
  · rintro i _ _ ⟨l, hl, rfl, rfl⟩ hbt
    have hlt : a.depth < hd0 par i := of_decide_eq_true hbt
    cases i with
    | none =>
      have hl : l.length + (par.depth + 1) ≤ par.depth + 1 := hl
      refine rs_app (P := dat K (.str nm)) (b := b) 1 (rv_var 2) (rv_fldO 0 (rv_var 3) rfl T.c_Spot T.a_Spot_came_by rfl) rfl rfl ?_ (by rw [List.length_map]; omega)
      refine rs_set 3 (rv_fldO 0 (P := spotP K par) (rv_var 3) rfl T.c_Spot T.a_Spot_parent rfl) ?_
      refine rs_nil ⟨some par, Nat.lt_succ_self _, l ++ [nm], ?_, rfl, ?_⟩
      · show (l ++ [nm]).length + par.depth ≤ par.depth + 1
        rw [List.length_append, List.length_singleton]
        omega
      · rw [List.map_append]
        rfl
    | some s =>
      cases s with
      | root w0 => exact absurd hlt (Nat.not_lt_zero _)
      | node w0 p0 x0 =>
        have hl : l.length + (p0.depth + 1) ≤ par.depth + 1 := hl
        refine rs_app (P := dat K (.str x0)) (b := b) 1 (rv_var 2) (rv_spn (s := .node w0 p0 x0) T (rv_var 3)) rfl rfl ?_ (by rw [List.length_map]; omega)
        refine rs_set 3 (rv_spp (s := .node w0 p0 x0) T (rv_var 3)) ?_
        refine rs_nil ⟨some p0, Nat.lt_succ_self _, l ++ [x0], ?_, rfl, ?_⟩
        · show (l ++ [x0]).length + p0.depth ≤ par.depth + 1
          rw [List.length_append, List.length_singleton]
          omega
        · rw [List.map_append]
          rfl
  · rintro i _ _ ⟨l, hl, rfl, rfl⟩ _
    refine rs_freeT 2 hb ?_
    refine rs_endW (rv_sub (rv_revL (rv_sub (rv_var 2) fun H v z => lstT_P z)) fun H v z => ⟨⟨l.reverse, by rw [List.length_reverse]; show l.length ≤ par.depth + 1; omega⟩, ?_⟩) (spW_end hO (Nat.le_refl _) (Nat.le_refl _))
    show (lstT (l.reverse.map fun x => dat K (.str x))).p H v
    rw [List.map_reverse]
    exact z
end
end TF
set_option Elab.async false
set_option linter.all false
set_option maxRecDepth 100000
set_option maxHeartbeats 4000000
/-! W31: a spot's pumps. -/
namespace TF
open PySem PySem.Spec PyProof.Rows L2
open PyProof.Rows (envOfC)
section
variable {K : PySem.W.Frag} {w : Wide} {d m t : Nat} {pP P : SP} {nm : Str}
theorem put_pumps : putP "pumps" P (spF K w d pP nm m t) = ([("wide", dat K (wD w)), ("depth", dat K (.int (d : Int))), ("parent", pP), ("came_by", dat K (.str nm)), ("pumps", P), ("tail", tailP K t)] : List (Str × SP)) := by
  unfold putP
  rw [if_neg (by decide)]
  unfold putP
  rw [if_neg (by decide)]
  unfold putP
  rw [if_neg (by decide)]
  unfold putP
  rw [if_neg (by decide)]
  unfold putP
  rw [if_pos rfl]
theorem put_tail : putP "tail" P (spF K w d pP nm m t) = ([("wide", dat K (wD w)), ("depth", dat K (.int (d : Int))), ("parent", pP), ("came_by", dat K (.str nm)), ("pumps", pumpsP K m), ("tail", P)] : List (Str × SP)) := by
  unfold putP
  rw [if_neg (by decide)]
  unfold putP
  rw [if_neg (by decide)]
  unfold putP
  rw [if_neg (by decide)]
  unfold putP
  rw [if_neg (by decide)]
  unfold putP
  rw [if_neg (by decide)]
  unfold putP
  rw [if_pos rfl]
theorem put_wide : putP "wide" P (spF K w d pP nm m t) = ([("wide", P), ("depth", dat K (.int (d : Int))), ("parent", pP), ("came_by", dat K (.str nm)), ("pumps", pumpsP K m), ("tail", tailP K t)] : List (Str × SP)) := by
  unfold putP
  rw [if_pos rfl]
end
structure PuQ where
  y : Addr
  w : Wide
  par : Sp0
  nm : Str
structure PuOk (q : PuQ) : Prop where
  d : q.par.depth ≤ 2050
  l : ∀ a, a ∈ q.par.chain → a.length = q.w.length
  z : q.w.length ≤ 40
/-- where the walk up stands -/
structure PuS where
  w : Wide
  c : Option Sp0
theorem chain_par {s p : Sp0} (h : s.par = some p) : ∀ a, a ∈ p.chain → a ∈ s.chain := by
  cases s with
  | root w => cases h
  | node w q x =>
    cases h
    exact fun a ha => List.mem_cons_of_mem _ ha
theorem wide_chain (s : Sp0) : s.wide ∈ s.chain := by cases s <;> exact List.mem_cons_self
theorem depth_par {s p : Sp0} (h : s.par = some p) : p.depth < s.depth := by
  cases s with
  | root w => cases h
  | node w q x =>
    cases h
    exact Nat.lt_succ_self _
section
variable {P : Program} {w : World} {K : PySem.W.Frag} {mg : Str → Option Value} {base : Heap} (T : TF.Txt K mg)
include T
theorem w_Spot_pump : O_Spot_pump P w K mg base (L2.CX P w) 3 (mkSpE (TGa K) (ι := PuQ) (κ := Wide) (fun q => [refP q.y]) (fun q => spW K q.y q.w q.par q.nm (40 * q.par.depth) (q.par.depth + 1)) (fun q w' => spW K q.y w' q.par q.nm (40 * (q.par.depth + 1)) (q.par.depth + 1)) PuOk (fun _ => False) (fun q w' => Pumped q.par.chain q.w w')) := by
  refine okE T.f_Spot_pump (N := N_Spot_pump) (by constructor <;> first | rfl | decide | decide +kernel) (fun _ => rfl) fun cdv A1 outer s H E hr q hq an hO z => ?_
  obtain ⟨y, wd, par, nm⟩ := q
  obtain ⟨hd, hl, hz⟩ := hq
  have hd : par.depth ≤ 2050 := hd
  have hl : ∀ a, a ∈ par.chain → a.length = wd.length := hl
  have hz : wd.length ≤ 40 := hz
  have hu : (A1.deeper (envOfC "Spot.pump" (defScope s_Spot_pump) s.heap.objs.size (He.ma K (He.ga K "Spot") "pump") cdv)).units + 64 < cLine := hr.units
  refine rs_set 1 (rv_fldO 0 (P := spotP K par) (rv_var 0) rfl T.c_Spot T.a_Spot_parent rfl) ?_
  refine rs_whileI (ι := PuS) (ms := fun i => (40 - nons i.w) * (par.depth + 3) + dO i.c) (bt := fun i => !i.c.isNone) (I := fun i ρ W => ∃ (x2 : Option SP) (k : Nat), k ≤ nons i.w ∧ i.w.length = wd.length ∧ Pumped par.chain wd i.w ∧ (∀ s, i.c = some s → (∀ a, a ∈ s.chain → a ∈ par.chain) ∧ s.depth ≤ par.depth) ∧ ρ = [some (refP y), some (opP K i.c), x2] ∧ W = spW K y i.w par nm (40 * par.depth + k) (par.depth + 1)) ?_ ?_ ⟨wd, some par⟩ ⟨_, 0, Nat.zero_le _, rfl, .refl _, fun s e => by cases e; exact ⟨fun a h => h, Nat.le_refl _⟩, rfl, rfl⟩ ?_ (passes_of rfl)
  · rintro ⟨wc, c⟩ _ _ ⟨x2, k, hk, hlen, hp, hc, rfl, rfl⟩
    exact rt_notN K (nonP_o c) (rv_var 1)
  · rintro ⟨wc, c⟩ _ _ ⟨x2, k, hk, hlen, hp, hc, rfl, rfl⟩ hb
    cases c with
    | none => cases hb
    | some sp =>
      obtain ⟨hch, hdp⟩ := hc sp rfl
      have hlen : wc.length = wd.length := hlen
      have hk : k ≤ nons wc := hk
      have hk40 : k ≤ 40 := Nat.le_trans hk (Nat.le_trans (nons_le wc) (by rw [hlen]; exact hz))
      have hsl : sp.wide.length = wc.length := by rw [hlen]; exact hl _ (hch _ (wide_chain sp))
      have hself : ∀ {ρ : TF.Env} {m : Nat}, ρ[0]? = some (some (refP y)) → True := fun _ => trivial
      refine rs_cons (N1 := fun ρ1 W1 => (∃ x2, ρ1 = [some (refP y), some (spotP K sp), x2] ∧ W1 = spW K y wc par nm (40 * par.depth + k) (par.depth + 1)) ∨ (∃ x2 k', ρ1 = [some (refP y), some (refP y), x2] ∧ k' ≤ nons (wids wc sp.wide) ∧ isOver wc sp.wide = true ∧ wids wc sp.wide ≠ wc ∧ W1 = spW K y (wids wc sp.wide) par nm (40 * par.depth + k') (par.depth + 1)))
        (rs_ifS (v := !decide (sp.wide = wc) && isOver wc sp.wide) (rt_w (rw_and (rt_to (rt_neD hu (wide_sh _) (wide_sh _) (rv_spw T (rv_var 1)) (rv_fldO 0 (P := dat K (wD wc)) (rv_var 0) rfl T.c_Spot T.a_Spot_wide rfl)) (by rw [wide_eqv])) fun _ => rw_and1 (rt_val (rv_is_over T (w_is_over T) (pureSp_ok (⟨wc, sp.wide⟩ : TwoW) ⟨hsl.symm, by show wc.length ≤ 40; omega⟩) (hr.mono (by omega)) (ra_cons (rv_fldO 0 (P := dat K (wD wc)) (rv_var 0) rfl T.c_Spot T.a_Spot_wide rfl) (ra_cons (rv_spw T (rv_var 1)) ra_nil))))))
          (fun hv => ?_) fun _ => rs_nil (.inl ⟨_, rfl, rfl⟩)) ?_
      · rw [Bool.and_eq_true] at hv
        have hov := hv.2
        refine rs_set 2 (rv_widened T (w_widened T) (pureSp_ok (⟨wc, sp.wide⟩ : TwoW) ⟨hsl.symm, by show wc.length ≤ 40; omega⟩) (hr.mono (by omega)) (ra_cons (rv_fldO 0 (P := dat K (wD wc)) (rv_var 0) rfl T.c_Spot T.a_Spot_wide rfl) (ra_cons (rv_spw T (rv_var 1)) ra_nil))) ?_
        refine rs_one (rs_ifS (v := !decide (wids wc sp.wide = wc)) (rt_to (rt_neD hu (wide_sh _) (wide_sh _) (rv_var 2) (rv_fldO 0 (P := dat K (wD wc)) (rv_var 0) rfl T.c_Spot T.a_Spot_wide rfl)) (by rw [wide_eqv])) (fun hn => ?_) fun _ => rs_nil (.inl ⟨_, rfl, rfl⟩))
        have hn : wids wc sp.wide ≠ wc := by simpa using hn
        have hnl := nons_lt hn
        refine rs_fld 0 (P := pumpsP K (40 * par.depth + k + 1)) (rv_pumpS (n := 40 * par.depth + k) (by omega) (rv_fldO 0 (P := pumpsP K (40 * par.depth + k)) (rv_var 0) rfl T.c_Spot T.a_Spot_pumps rfl) (rv_lst (Ps := [tupP K [tailP K 2100, tailP K 2100]]) (ra_cons (rv_tup (ra_cons (rv_sub (rv_fldO 0 (P := tailP K (par.depth + 1)) (rv_var 0) rfl T.c_Spot T.a_Spot_tail rfl) (tail_mono (by omega))) (ra_cons (rv_sub (rv_methX 0 (xo := False) (Wr := []) (rv_var 0) rfl rfl T.c_Spot T.h_Spot_way_from (w_Spot_way_from T) (mkSp_okX (⟨y, wc, par, nm, 40 * par.depth + k, par.depth + 1, sp⟩ : WfQ) hd) rfl pass0 (fun h => h.elim) (hr.mono (by omega)) (b_Spot_way_from T) (ra_cons (rv_var 1) ra_nil)) (tail_mono (by show par.depth + 1 ≤ 2100; omega))) ra_nil))) ra_nil))) (rv_var 0) rfl T.c_Spot T.a_Spot_pumps ?_
        rw [put_pumps]
        refine rs_fld 0 (fs := spF K wc (par.depth + 1) (spotP K par) nm (40 * par.depth + k + 1) (par.depth + 1)) (P := tailP K (par.depth + 1)) (rv_sub (rv_lst (Ps := []) ra_nil) tail_nil) (rv_var 0) rfl T.c_Spot T.a_Spot_tail ?_
        rw [put_tail]
        refine rs_fld 0 (fs := spF K wc (par.depth + 1) (spotP K par) nm (40 * par.depth + k + 1) (par.depth + 1)) (P := dat K (wD (wids wc sp.wide))) (rv_var 2) (rv_var 0) rfl T.c_Spot T.a_Spot_wide ?_
        rw [put_wide]
        refine rs_set 1 (rv_var 0) (rs_nil (.inr ⟨_, k + 1, rfl, by omega, hov, hn, rfl⟩))
      · rintro ρ1 W1 (⟨x2, rfl, rfl⟩ | ⟨x2, k', rfl, hk', hov, hn, rfl⟩)
        · refine rs_set 1 (rv_spp T (rv_var 1)) (rs_nil ⟨⟨wc, sp.par⟩, ?_, _, k, hk, hlen, hp, fun s2 e => ?_, rfl, rfl⟩)
          · show (40 - nons wc) * (par.depth + 3) + dO sp.par < (40 - nons wc) * (par.depth + 3) + (sp.depth + 1)
            cases sp with
            | root w0 => exact Nat.add_lt_add_left (Nat.succ_pos _) _
            | node w0 p0 x0 => exact Nat.add_lt_add_left (Nat.lt_succ_self _) _
          · have h1 := chain_par e
            have h2 := depth_par e
            exact ⟨fun a ha => hch a (h1 a ha), by omega⟩
        · refine rs_set 1 (rv_fldO 0 (P := spotP K par) (rv_var 1) rfl T.c_Spot T.a_Spot_parent rfl) (rs_nil ⟨⟨wids wc sp.wide, some par⟩, ?_, _, k', hk', by show (wids wc sp.wide).length = wd.length; rw [len_wids, hlen], hp.trans (.step (hch _ (wide_chain sp)) hov (.refl _)), fun s2 e => by cases e; exact ⟨fun a h => h, Nat.le_refl _⟩, rfl, rfl⟩)
          show (40 - nons (wids wc sp.wide)) * (par.depth + 3) + (par.depth + 1) < (40 - nons wc) * (par.depth + 3) + (sp.depth + 1)
          have h1 := nons_lt hn
          have h2 := nons_le (wids wc sp.wide)
          rw [len_wids, hlen] at h2
          have h3 : 40 - nons wc = (40 - nons (wids wc sp.wide)) + (nons (wids wc sp.wide) - nons wc) := by omega
          rw [h3, Nat.add_mul]
          have h4 : 1 * (par.depth + 3) ≤ (nons (wids wc sp.wide) - nons wc) * (par.depth + 3) := Nat.mul_le_mul_right _ (by omega)
          omega
  · rintro ⟨wc, c⟩ _ _ ⟨x2, k, hk, hlen, hp, hc, rfl, rfl⟩ _
    have hk40 : k ≤ 40 := Nat.le_trans hk (Nat.le_trans (nons_le wc) (by show wc.length ≤ 40; have hlen : wc.length = wd.length := hlen; omega))
    exact rs_nil ⟨wc, hp, spW_end (w := wd) (m := 40 * par.depth) (t := par.depth + 1) hO (by show 40 * par.depth + k ≤ 40 * (par.depth + 1); omega) (Nat.le_refl _)⟩
end
end TF
set_option Elab.async false
set_option linter.all false
set_option maxRecDepth 100000
set_option maxHeartbeats 4000000
/-! P5: the search for wide heaps, in plain words. -/
namespace TF
open PySem WD
def SOK (L : Lk) : Sp0 → Prop
  | .root w => w = up L.begin
  | .node w p _ => SOK L p ∧ IsW L.places.length w ∧ ∀ a, a ∈ p.chain → Rl L.places.length L.fs a w
section
variable {L : Lk} (ok : LkOk L)
include ok
theorem SOK.isW : ∀ {s : Sp0}, SOK L s → IsW L.places.length s.wide
  | .root w, h => by
    have h : w = up L.begin := h
    show IsW _ w
    rw [h]
    exact up_isW (begin_is ok)
  | .node w p x, h => h.2.1
theorem SOK.chW : ∀ {s : Sp0}, SOK L s → ∀ a, a ∈ s.chain → IsW L.places.length a ∧ Rl L.places.length L.fs a s.wide
  | .root w, h, a, ha => by
    have e : a = w := List.mem_singleton.mp ha
    subst e
    have hw := SOK.isW ok h
    exact ⟨hw, R_over hw.l (isOver_refl _)⟩
  | .node w p x, h, a, ha => by
    rcases List.mem_cons.mp ha with e | ha
    · subst e
      exact ⟨h.2.1, R_over h.2.1.l (isOver_refl _)⟩
    · exact ⟨(SOK.chW h.1 a ha).1, h.2.2 a ha⟩
theorem SOK.root_in : ∀ {s : Sp0}, SOK L s → up L.begin ∈ s.chain
  | .root w, h => by
    have h : w = up L.begin := h
    show up L.begin ∈ [w]
    rw [h]
    exact List.mem_singleton.mpr rfl
  | .node w p x, h => List.mem_cons_of_mem _ (SOK.root_in h.1)
theorem Pumped.good {ch : List Wide} (hc : ∀ a, a ∈ ch → IsW L.places.length a) {w w' : Wide} (h : Pumped ch w w') : IsW L.places.length w → (∀ a, a ∈ ch → Rl L.places.length L.fs a w) → IsW L.places.length w' ∧ (∀ a, a ∈ ch → Rl L.places.length L.fs a w') ∧ isOver w' w = true := by
  induction h with
  | refl w => exact fun h1 h2 => ⟨h1, h2, isOver_refl w⟩
  | @step w a w' ha ho r ih =>
    intro h1 h2
    have hfs : ∀ f, f ∈ L.fs → IsF L.places.length f := fun f hf => ok.isF hf
    have i1 := wids_is (b := a) h1
    obtain ⟨q1, q2, q3⟩ := ih i1 fun u hu => R_pump hfs (hc a ha) h1 ho (h2 a ha) (h2 u hu)
    exact ⟨q1, q2, isOver_trans q1.l i1.l q3 (wids_over h1.l)⟩
end
/-- where the search stands -/
structure GI (L : Lk) (most : Nat) (l : List Sp0) : Prop where
  ok : ∀ s, s ∈ l → SOK L s
  dp : ∀ (i : Nat) (s : Sp0), l[i]? = some s → s.depth ≤ i
  nd : (l.map Sp0.wide).Nodup
  z : l.length ≤ most
  b : ∃ s, s ∈ l ∧ isOver s.wide (up L.begin) = true
def Ovr (l : List Sp0) (w : Wide) : Prop := ∃ s, s ∈ l ∧ isOver s.wide w = true
/-- what keeping a spot makes of the spots -/
structure PutR (L : Lk) (most : Nat) (l : List Sp0) (w0 : Wide) (l' : List Sp0) : Prop where
  gi : GI L most l'
  pre : ∃ r, l' = l ++ r
  ov : Ovr l' w0
theorem Ovr.app {l r : List Sp0} {w : Wide} (h : Ovr l w) : Ovr (l ++ r) w := by
  obtain ⟨s, hs, o⟩ := h
  exact ⟨s, List.mem_append_left _ hs, o⟩
theorem fire_ok {L : Lk} (ok : LkOk L) {p : Sp0} (hp : SOK L p) {f : SF} (hf : f ∈ L.fs) (c : wcan f.tk p.wide = true) : IsW L.places.length (wbeh f p.wide) ∧ ∀ a, a ∈ p.chain → Rl L.places.length L.fs a (wbeh f p.wide) :=
  ⟨wbeh_is (ok.isF hf) (SOK.isW ok hp) c, fun a ha => R_trans (fun f hf => ok.isF hf) (SOK.chW ok hp a ha).2 (R_fire (ok.isF hf) hf (SOK.isW ok hp) c)⟩
theorem put_old {L : Lk} {most : Nat} {l : List Sp0} (g : GI L most l) {w0 w' : Wide} (h : w' ∈ l.map Sp0.wide) (o : isOver w' w0 = true) : PutR L most l w0 l := by
  obtain ⟨s, hs, e⟩ := List.mem_map.mp h
  exact ⟨g, ⟨[], (List.append_nil l).symm⟩, s, hs, by rw [e]; exact o⟩
theorem put_new {L : Lk} {most : Nat} {l : List Sp0} (g : GI L most l) {i : Nat} {p : Sp0} (hi : l[i]? = some p) {w0 w' : Wide} {x : Str} (hn : ¬ w' ∈ l.map Sp0.wide) (hz : l.length < most) (hw : IsW L.places.length w') (hr : ∀ a, a ∈ p.chain → Rl L.places.length L.fs a w') (o : isOver w' w0 = true) : PutR L most l w0 (l ++ [.node w' p x]) := by
  have hil := (List.getElem?_eq_some_iff.mp hi).1
  have hpm : p ∈ l := List.mem_of_getElem? hi
  refine ⟨⟨fun s hs => ?_, fun j s hj => ?_, ?_, ?_, ?_⟩, ⟨_, rfl⟩, .node w' p x, List.mem_append_right _ (List.mem_singleton.mpr rfl), o⟩
  · rcases List.mem_append.mp hs with h | h
    · exact g.ok s h
    · rw [List.mem_singleton.mp h]
      exact ⟨g.ok p hpm, hw, hr⟩
  · by_cases q : j < l.length
    · rw [List.getElem?_append_left q] at hj
      exact g.dp j s hj
    · rw [List.getElem?_append_right (by omega)] at hj
      have e : j - l.length = 0 := by
        cases h : j - l.length with
        | zero => rfl
        | succ n => rw [h] at hj; simp at hj
      rw [e] at hj
      cases hj
      have := g.dp i p hi
      show p.depth + 1 ≤ j
      omega
  · rw [List.map_append]
    refine List.nodup_append.mpr ⟨g.nd, by simp, fun a ha c hc e => hn ?_⟩
    have hc : c = w' := List.mem_singleton.mp hc
    rw [← hc, ← e]
    exact ha
  · rw [List.length_append, List.length_singleton]
    omega
  · obtain ⟨s, hs, o⟩ := g.b
    exact ⟨s, List.mem_append_left _ hs, o⟩
theorem PutR.trans {L : Lk} {most : Nat} {l l' l2 : List Sp0} {w0 w1 : Wide} (h : PutR L most l w0 l') (k : PutR L most l' w1 l2) : (∃ r, l2 = l ++ r) ∧ Ovr l2 w0 := by
  obtain ⟨r, e⟩ := h.pre
  obtain ⟨r2, e2⟩ := k.pre
  refine ⟨⟨r ++ r2, by rw [e2, e, List.append_assoc]⟩, ?_⟩
  rw [e2]
  exact h.ov.app
/-- where all is gone through -/
structure GDone (L : Lk) (l : List Sp0) : Prop where
  ok : ∀ s, s ∈ l → SOK L s
  b : Ovr l (up L.begin)
  cl : ∀ s, s ∈ l → ∀ f, f ∈ L.fs → wcan f.tk s.wide = true → Ovr l (wbeh f s.wide)
  z : l.length ≤ 2000
  ne : l ≠ []
  dp : ∀ s, s ∈ l → s.depth ≤ 2050
theorem GDone.cov {L : Lk} (ok : LkOk L) {l : List Sp0} (g : GDone L l) : Cov L.places.length L.fs L.begin (l.map Sp0.wide) := by
  have hfs : ∀ f, f ∈ L.fs → IsF L.places.length f := fun f hf => ok.isF hf
  refine cov_of hfs (begin_is ok) (fun w hw => ?_) (fun w hw => ?_) ?_ fun w hw f hf c => ?_
  · obtain ⟨s, hs, rfl⟩ := List.mem_map.mp hw
    exact SOK.isW ok (g.ok s hs)
  · obtain ⟨s, hs, rfl⟩ := List.mem_map.mp hw
    exact (SOK.chW ok (g.ok s hs) _ (SOK.root_in ok (g.ok s hs))).2
  · obtain ⟨s, hs, o⟩ := g.b
    exact ⟨s.wide, List.mem_map.mpr ⟨s, hs, rfl⟩, o⟩
  · obtain ⟨s, hs, rfl⟩ := List.mem_map.mp hw
    obtain ⟨t, ht, o⟩ := g.cl s hs f hf c
    exact ⟨t.wide, List.mem_map.mpr ⟨t, ht, rfl⟩, o⟩
end TF
set_option Elab.async false
set_option linter.all false
set_option maxRecDepth 100000
set_option maxHeartbeats 4000000
/-! W32: a spot kept. -/
namespace TF
open PySem PySem.Spec PyProof.Rows L2 WD
open PyProof.Rows (envOfC)
def mkSpC {ι κ : Type} (C : Addr) (b : ι → Addr) (A2 : ι → SP) (mp : ι → MP) (Wi : ι → Wd) (Wo : ι → κ → Wd) (pre xT : ι → Prop) (post : ι → κ → Prop) : Sp := fun vs H Q E => ∃ (i : ι) (O : List Addr) (p : Addr) (v2 : V), vs = [.ref (b i), .ref p, v2] ∧ Live H (p :: O) ∧ ¬ p ∈ O ∧ WOk (Wi i ++ [(p, mp i)]) (p :: O) H ∧ (A2 i).p (mn H (p :: O)) v2 ∧ pre i ∧
  (∀ k H', post i k → SameB (p :: (Wi i).map Prod.fst) H H' → WOk (Wo i k) O H' → Q .non H') ∧ (xT i → ∀ d H', SameB (p :: (Wi i).map Prod.fst) H H' → E (.ref C) d H')
theorem mkSpC_ok {ι κ : Type} {C : Addr} {b : ι → Addr} {A2 : ι → SP} {mp : ι → MP} {Wi : ι → Wd} {Wo : ι → κ → Wd} {pre xT : ι → Prop} {post : ι → κ → Prop} (i : ι) (h : pre i) : CallC (mkSpC C b A2 mp Wi Wo pre xT post) C (b i) (A2 i) (mp i) (Wi i) (Wo i) (post i) (xT i) := fun O H p v2 Q E l n w a k ke => ⟨i, O, p, v2, rfl, l, n, w, a, h, k, ke⟩
section
variable {P : Program} {w : World} {K : PySem.W.Frag} {mg : Str → Option Value} {base : Heap} {x qual : Str} {params : Arguments} {body : List Stmt} {scope : Scope} {dvs : List V} {kws : List (Str × V)} {f : Addr} {fd : FuncData}
theorem okC {ι κ : Type} {b : ι → Addr} {A2 : ι → SP} {mp : ι → MP} {Wi : ι → Wd} {Wo : ι → κ → Wd} {pre xT : ι → Prop} {post : ι → κ → Prop} {N ps : List Str} {k : Nat} (F : FunD K x qual params body scope dvs kws f fd) (S : FnScope N ps scope) (hl : ps.length = 3)
    (h : ∀ (cdv : Value) (A1 : Around) (outer : List PySem.Env) (s : Shared) (H : Hp) (E : XK), Room k (A1.deeper (envOfC qual scope s.heap.objs.size f cdv)) → ∀ i, pre i → ∀ (p : Addr) (an : An), (∀ c, c ∈ Wi i → c.1 ∈ an.O0) → an.H0 p = none → Rz (cxOf (L2.CX P w) P w K mg base N qual scope f cdv A1 outer s H E) an (xT i) →
      RSs (cxOf (L2.CX P w) P w K mg base N qual scope f cdv A1 outer s H E) an body (env0 N [refP (b i), refP p, A2 i]) (Wi i ++ [(p, mp i)]) (fun _ W => ∃ j, post i j ∧ WEnd an W (Wo i j)) noP []) : FnOk P w K mg base (L2.CX P w) (k + 1) f fd ps (mkSpC (TGa K) b A2 mp Wi Wo pre xT post) := by
  refine F.ok S (fun vs H Q E q => ?_) (fun cdv A1 outer s H vs Q E hr q => ?_)
  · obtain ⟨i, O, p, v2, rfl, _⟩ := q
    rw [hl]
    rfl
  · obtain ⟨i, O, p, v2, rfl, l, hpO, wo, sat, hp, q, qe⟩ := q
    have nd := wo.nd
    rw [List.map_append] at nd
    have nd2 := List.nodup_append.mp nd
    have hiO : ∀ a, a ∈ (Wi i).map Prod.fst → a ∈ O := fun a ha => by
      obtain ⟨c, hc, rfl⟩ := List.mem_map.mp ha
      have z := (wo.at_ c (List.mem_append_left _ hc)).1
      exact (List.mem_cons.mp z).resolve_left fun e => nd2.2.2 c.1 ha p (by simp) e
    have hpn : mn H [p] p = none := mn_in (List.mem_singleton.mpr rfl)
    have sbx : ∀ {H' : Hp}, SameB ((Wi i).map Prod.fst) (mn H [p]) H' → SameB (p :: (Wi i).map Prod.fst) H H' := fun {H'} sb a o n e => sb a o (fun z => n (List.mem_cons_of_mem _ z)) (by
      rw [mn_out fun z => n (by rw [List.mem_singleton.mp z]; exact List.mem_cons_self)]
      exact e)
    have m0 : MX ⟨mn H [p], (Wi i).map Prod.fst, O⟩ (p :: O) (env0 N [refP (b i), refP p, A2 i]) (Wi i ++ [(p, mp i)]) (L2.start N [.ref (b i), .ref p, v2]) H := by
      refine ⟨fun a ha => hiO a ha, fun a ha => ?_, fun a ha => List.mem_cons_of_mem _ ha, fun a ha => ?_, l, DS.start (.cons rfl (.cons rfl (.cons sat .nil))), wo, fun c hc => ?_, SameB.of mn_le⟩
      · obtain ⟨o, e⟩ := l a (List.mem_cons_of_mem _ ha)
        exact ⟨o, by
          show mn H [p] a = some o
          rw [mn_out fun z => hpO (by rw [← List.mem_singleton.mp z]; exact ha)]
          exact e⟩
      · rcases List.mem_cons.mp ha with e | ha
        · exact .inr (by rw [e]; exact hpn)
        · exact .inl ha
      · rcases List.mem_append.mp hc with h | h
        · exact .inl (List.mem_map.mpr ⟨c, h, rfl⟩)
        · exact .inr (by rw [List.mem_singleton.mp h]; exact hpn)
    refine ⟨_, h cdv A1 outer s H E hr i hp p ⟨mn H [p], (Wi i).map Prod.fst, O⟩ (fun c hc => hiO _ (List.mem_map.mpr ⟨c, hc, rfl⟩)) hpn ⟨fun cls d _ H' => E cls d H', takes_of rfl rfl rfl rfl, fun xh d σ H' sb => qe xh d H' (sbx sb)⟩, p :: O, m0, fun ρ' W' σ' H' O' hn m' s' => ?_, fun v H' e => e.rp.elim⟩
    obtain ⟨j, hj, hn⟩ := hn
    have e := m'.end_ (R := (⟨fun _ _ => True, fun _ h => h⟩ : SP)) (v := .non) hn trivial
    exact q j H' hj (sbx e.sb) e.wo
end
structure PtQ where
  y : Addr
  b : Addr
  d : Addr
  L : Lk
  most : Nat
  l : List Sp0
  i : Nat
  p : Sp0
  f : SF
abbrev grF (K : PySem.W.Frag) (L : Lk) (b d : Addr) : List (Str × SP) := [("look", lookP K L), ("spots", refP b), ("there", refP d)]
abbrev grW (P : Program) (w : World) (K : PySem.W.Frag) (y b d : Addr) (L : Lk) (l : List Sp0) : Wd := [(y, insM (He.ga K "Growth") (grF K L b d)), (b, lstM (l.map (spotP K))), (d, wdM P w K (l.map Sp0.wide) d)]
structure PtOk (q : PtQ) : Prop where
  ok : LkOk q.L
  g : GI q.L q.most q.l
  mz : q.most ≤ 2000
  hi : q.l[q.i]? = some q.p
  hf : q.f ∈ q.L.fs
  hc : wcan q.f.tk q.p.wide = true
theorem grW_end {P : Program} {w : World} {K : PySem.W.Frag} {an : An} {y b d : Addr} {L : Lk} {l l' : List Sp0} (nd : (([y, b, d] : List Addr)).Nodup) (hO : ∀ c, c ∈ grW P w K y b d L l → c.1 ∈ an.O0) : WEnd an (grW P w K y b d L l') (grW P w K y b d L l') := ⟨nd, fun c hc => by
  refine ⟨?_, c, hc, rfl, fun _ _ h => h⟩
  rcases List.mem_cons.mp hc with rfl | hc
  · exact hO (y, insM (He.ga K "Growth") (grF K L b d)) List.mem_cons_self
  rcases List.mem_cons.mp hc with rfl | hc
  · exact hO (b, lstM (l.map (spotP K))) (List.mem_cons_of_mem _ List.mem_cons_self)
  rw [List.mem_singleton.mp hc]
  exact hO (d, wdM P w K (l.map Sp0.wide) d) (List.mem_cons_of_mem _ (List.mem_cons_of_mem _ List.mem_cons_self))⟩
section
variable {P : Program} {w : World} {K : PySem.W.Frag} {mg : Str → Option Value} {base : Heap} (T : TF.Txt K mg)
include T
theorem w_Growth_put : O_Growth_put P w K mg base (L2.CX P w) 4 (mkSpC (TGa K) (ι := PtQ) (κ := List Sp0) (fun q => q.y) (fun q => dat K (.int (q.most : Int))) (fun q => insM (He.ga K "Spot") (spF K (wbeh q.f q.p.wide) (q.p.depth + 1) (spotP K q.p) q.f.name (40 * q.p.depth) (q.p.depth + 1))) (fun q => grW P w K q.y q.b q.d q.L q.l) (fun q l' => grW P w K q.y q.b q.d q.L l') (fun q => PtOk q ∧ (([q.y, q.b, q.d] : List Addr)).Nodup) (fun _ => True) (fun q l' => PutR q.L q.most q.l (wbeh q.f q.p.wide) l')) := by
  refine okC T.f_Growth_put (N := N_Growth_put) (by constructor <;> first | rfl | decide | decide +kernel) rfl fun cdv A1 outer s H E hr q hq p an hO hp0 z => ?_
  obtain ⟨y, b, d, L, most, l, i, pr, f⟩ := q
  obtain ⟨⟨ok, g, mz, hi, hf, hc⟩, nd⟩ := hq
  have ok : LkOk L := ok
  have g : GI L most l := g
  have mz : most ≤ 2000 := mz
  have hi : l[i]? = some pr := hi
  have hf : f ∈ L.fs := hf
  have hc : wcan f.tk pr.wide = true := hc
  have hil := (List.getElem?_eq_some_iff.mp hi).1
  have hprm : pr ∈ l := List.mem_of_getElem? hi
  have hpd := g.dp i pr hi
  have hz := g.z
  have sok := g.ok pr hprm
  obtain ⟨w0is, w0r⟩ := fire_ok ok sok hf hc
  have hchl : ∀ a, a ∈ pr.chain → a.length = (wbeh f pr.wide).length := fun a ha => by rw [(SOK.chW ok sok a ha).1.l, w0is.l]
  have hu : (A1.deeper (envOfC "Growth.put" (defScope s_Growth_put) s.heap.objs.size (He.ma K (He.ga K "Growth") "put") cdv)).units + 64 < cLine := hr.units
  have z0 : Rz (cxOf (L2.CX P w) P w K mg base N_Growth_put "Growth.put" (defScope s_Growth_put) (He.ma K (He.ga K "Growth") "put") cdv A1 outer s H E) an False := by
    obtain ⟨Wx, tk, _⟩ := z
    exact ⟨Wx, tk, fun h => h.elim⟩
  refine rs_perm (W1 := spW K p (wbeh f pr.wide) pr f.name (40 * pr.depth) (pr.depth + 1) ++ grW P w K y b d L l) List.perm_append_comm ?_
  refine rs_methE0 0 (Wi := spW K p (wbeh f pr.wide) pr f.name (40 * pr.depth) (pr.depth + 1)) (Wr := grW P w K y b d L l) (xo := False) (rv_var 1) rfl rfl T.c_Spot T.h_Spot_pump (w_Spot_pump T) (mkSpE_ok (⟨p, wbeh f pr.wide, pr, f.name⟩ : PuQ) ⟨by show pr.depth ≤ 2050; omega, hchl, by show (wbeh f pr.wide).length ≤ 40; rw [w0is.l]; exact ok.z2⟩) (fun k _ => rfl) (px_of z0) (fun h => h.elim) hr (b_Spot_pump T) fun w' hw' => ?_
  have hw' : Pumped pr.chain (wbeh f pr.wide) w' := hw'
  obtain ⟨wis, wr, wov⟩ := Pumped.good ok (fun a ha => (SOK.chW ok sok a ha).1) hw' w0is w0r
  refine rs_perm (W1 := grW P w K y b d L l ++ spW K p w' pr f.name (40 * (pr.depth + 1)) (pr.depth + 1)) List.perm_append_comm ?_
  refine rs_free (P := spotP K (.node w' pr f.name)) 1 hp0 rfl (fun H o e h => insM_P H p o e h) ?_
  refine rs_one (rs_ifS (v := !decide (w' ∈ l.map Sp0.wide)) (rt_wnotO 2 hu (rv_spw (s := .node w' pr f.name) T (rv_var 1)) (rv_fldO 0 (P := refP d) (rv_var 0) rfl T.c_Growth T.a_Growth_there rfl) rfl) (fun hn => ?_) fun hn => ?_)
  · have hn : ¬ w' ∈ l.map Sp0.wide := by simpa using hn
    refine rs_cons (N1 := fun ρ1 W1 => l.length < most ∧ ρ1 = [some (refP y), some (spotP K (.node w' pr f.name)), some (dat K (.int (most : Int)))] ∧ W1 = grW P w K y b d L l) (rs_ifS (v := decide (most ≤ l.length)) (rt_to (rt_ge (K := K) (rv_lenO (K := K) 1 T.n_len (rv_fldO 0 (P := refP b) (rv_var 0) rfl T.c_Growth T.a_Growth_spots rfl) rfl) (rv_var 2)) ?_) (fun _ => rs_one (rs_raise T z trivial (hr.mono (by omega)) (rv_var 2))) fun h => rs_nil ⟨by have := of_decide_eq_false h; omega, rfl, rfl⟩) ?_
    · rw [List.length_map]
      exact decide_eq_decide.mpr (by show ((most : Int) ≤ (l.length : Int)) ↔ most ≤ l.length; omega)
    rintro ρ1 W1 ⟨hlt, rfl, rfl⟩
    refine rs_wput 2 hu (rv_fldO 0 (P := refP d) (rv_var 0) rfl T.c_Growth T.a_Growth_there rfl) (rv_spw (s := .node w' pr f.name) T (rv_var 1)) rfl hn (by rw [List.length_map]; omega) ?_
    refine rs_app (P := spotP K (.node w' pr f.name)) (b := b) 1 (rv_fldO 0 (P := refP b) (rv_var 0) rfl T.c_Growth T.a_Growth_spots rfl) (rv_var 1) rfl rfl ?_ (by rw [List.length_map]; omega)
    refine rs_nil ⟨l ++ [.node w' pr f.name], put_new g hi hn hlt wis wr wov, ?_⟩
    have e : grW P w K y b d L (l ++ [.node w' pr f.name]) = [(y, insM (He.ga K "Growth") (grF K L b d)), (b, lstM (l.map (spotP K) ++ [spotP K (.node w' pr f.name)])), (d, wdM P w K (l.map Sp0.wide ++ [w']) d)] := by
      unfold grW
      rw [List.map_append, List.map_append]
      rfl
    show WEnd an [(y, insM (He.ga K "Growth") (grF K L b d)), (b, lstM (l.map (spotP K) ++ [spotP K (.node w' pr f.name)])), (d, wdM P w K (l.map Sp0.wide ++ [w']) d)] (grW P w K y b d L (l ++ [.node w' pr f.name]))
    rw [← e]
    exact grW_end nd hO
  · have hn : w' ∈ l.map Sp0.wide := by simpa using hn
    exact rs_nil ⟨l, put_old g hn wov, grW_end nd hO⟩
end
end TF
set_option Elab.async false
set_option linter.all false
set_option maxRecDepth 100000
set_option maxHeartbeats 4000000
/-! W33: the search for wide heaps. -/
namespace TF
open PySem PySem.Spec PyProof.Rows L2 WD
open PyProof.Rows (envOfC)
theorem spi_ok {K : PySem.W.Frag} (y : Addr) (w : Wide) (o : Option Sp0) (nm : Str) (h : mO o ≤ 2050) : SpM (mkSp (ι := SiQ) (fun q => [refP q.y, dat K (wD q.w), opP K q.o, dat K (.str q.nm)]) (fun q => [(q.y, insM (He.ga K "Spot") [])]) (fun q => [(q.y, insM (He.ga K "Spot") (spF K q.w (dO q.o) (opP K q.o) q.nm (40 * mO q.o) (dO q.o)))]) (fun q => mO q.o ≤ 2050) (fun _ => dat K .none)) [refP y, dat K (wD w), opP K o, dat K (.str nm)] (dat K .none) [(y, insM (He.ga K "Spot") [])] [(y, insM (He.ga K "Spot") (spF K w (dO o) (opP K o) nm (40 * mO o) (dO o)))] := mkSp_ok (⟨y, w, o, nm⟩ : SiQ) h
structure GrQ where
  y : Addr
  b : Addr
  d : Addr
  L : Lk
  most : Nat
  l : List Sp0
structure GrOk (q : GrQ) : Prop where
  ok : LkOk q.L
  g : GI q.L q.most q.l
  mz : q.most ≤ 2000
  nd : (([q.y, q.b, q.d] : List Addr)).Nodup
structure GrS where
  at_ : Nat
  l : List Sp0
/-- all of the spots ahead of at are gone through -/
def Thr (L : Lk) (l : List Sp0) (n : Nat) : Prop := ∀ (i : Nat) (s : Sp0), i < n → l[i]? = some s → ∀ f, f ∈ L.fs → wcan f.tk s.wide = true → Ovr l (wbeh f s.wide)
theorem Thr.app {L : Lk} {l r : List Sp0} {n : Nat} (h : Thr L l n) (hn : n ≤ l.length) : Thr L (l ++ r) n := fun i s hi e f hf c => by
  rw [List.getElem?_append_left (by omega)] at e
  exact (h i s hi e f hf c).app
theorem rs_nd {X : Cx} {an : An} {ρ : TF.Env} {W Wz : Wd} {R : SP} {N : TF.Env → Wd → Prop} {rest : List Stmt} (h : (W.map Prod.fst).Nodup → RSs X an rest ρ W N R Wz) : RSs X an rest ρ W N R Wz := PSsimp (PSsifp h) fun D σ H ⟨O, m, nx, rt⟩ => ⟨m.wo.nd, O, m, nx, rt⟩
theorem fs_take {α : Type} {l : List α} {d : α} {j : Nat} (hj : j < l.length) {x : α} (h : x ∈ l.take (j + 1)) : x ∈ l.take j ∨ x = l.getD j d := by
  rw [snoc_take l d hj] at h
  rcases List.mem_append.mp h with h | h
  · exact .inl h
  · exact .inr (List.mem_singleton.mp h)
section
variable {P : Program} {w : World} {K : PySem.W.Frag} {mg : Str → Option Value} {base : Heap} (T : TF.Txt K mg)
include T
theorem w_Growth_grow : O_Growth_grow P w K mg base (L2.CX P w) 5 (mkSpE (TGa K) (ι := GrQ) (κ := List Sp0) (fun q => [refP q.y, dat K (.int (q.most : Int))]) (fun q => grW P w K q.y q.b q.d q.L q.l) (fun q l' => grW P w K q.y q.b q.d q.L l') GrOk (fun _ => True) (fun q l' => GI q.L q.most l' ∧ (∃ r, l' = q.l ++ r) ∧ Thr q.L l' l'.length)) := by
  refine okE T.f_Growth_grow (N := N_Growth_grow) (by constructor <;> first | rfl | decide | decide +kernel) (fun _ => rfl) fun cdv A1 outer s H E hr q hq an hO z => ?_
  obtain ⟨y, b, d, L, most, l0⟩ := q
  obtain ⟨ok, g0, mz, nd⟩ := hq
  have ok : LkOk L := ok
  have g0 : GI L most l0 := g0
  have mz : most ≤ 2000 := mz
  have hx := px_of z
  refine rs_set 2 (rv_int (K := K)) ?_
  refine rs_whileI (ι := GrS) (ms := fun i => most - i.at_) (bt := fun i => decide (i.at_ < i.l.length)) (I := fun i ρ W => ∃ (x3 x4 : Option SP), GI L most i.l ∧ i.at_ ≤ i.l.length ∧ (∃ r, i.l = l0 ++ r) ∧ Thr L i.l i.at_ ∧ ρ = [some (refP y), some (dat K (.int (most : Int))), some (dat K (.int (i.at_ : Int))), x3, x4] ∧ W = grW P w K y b d L i.l) ?_ ?_ ⟨0, l0⟩ ⟨_, _, g0, Nat.zero_le _, ⟨[], (List.append_nil _).symm⟩, fun i s h => absurd h (Nat.not_lt_zero _), rfl, rfl⟩ ?_ (passes_of rfl)
  · rintro ⟨i, l⟩ _ _ ⟨x3, x4, g, hi, hp, ht, rfl, rfl⟩
    refine rt_to (rt_lt (K := K) (rv_var 2) (rv_lenO (K := K) 1 T.n_len (rv_fldO 0 (P := refP b) (rv_var 0) rfl T.c_Growth T.a_Growth_spots rfl) rfl)) ?_
    rw [List.length_map]
    exact decide_eq_decide.mpr (by show ((i : Int) < (l.length : Int)) ↔ i < l.length; omega)
  · rintro ⟨i, l⟩ _ _ ⟨x3, x4, g, hi, hp, ht, rfl, rfl⟩ hb
    have hil : i < l.length := of_decide_eq_true hb
    have g : GI L most l := g
    have hz : l.length ≤ most := g.z
    obtain ⟨sp, hsp⟩ : ∃ sp, l[i]? = some sp := ⟨l[i], List.getElem?_eq_getElem hil⟩
    have spm : sp ∈ l := List.mem_of_getElem? hsp
    have sok := g.ok sp spm
    have swl : sp.wide.length = L.places.length := (SOK.isW ok sok).l
    refine rs_set 3 (rv_ixO (K := K) (b := b) (P := spotP K sp) 1 (j := i) (rv_fldO 0 (P := refP b) (rv_var 0) rfl T.c_Growth T.a_Growth_spots rfl) (rv_var 2) rfl (by rw [List.getElem?_map, hsp]; rfl)) ?_
    refine rs_cons (rs_for (ri_listM (fun f : SF => PyData.str f.name) L.fs default (rv_to (look_names T (rv_fldO 0 (P := lookP K L) (rv_var 0) rfl T.c_Growth T.a_Growth_look rfl)) ?_)) (pg_one 4) (fun i hi => gk_name)
      (fun j ρ W => ∃ (l' : List Sp0) (x4 : Option SP), GI L most l' ∧ (∃ r, l' = l ++ r) ∧ (∀ f, f ∈ L.fs.take j → wcan f.tk sp.wide = true → Ovr l' (wbeh f sp.wide)) ∧ ρ = [some (refP y), some (dat K (.int (most : Int))), some (dat K (.int (i : Int))), some (spotP K sp), x4] ∧ W = grW P w K y b d L l') ⟨l, _, g, ⟨[], (List.append_nil _).symm⟩, fun f hf => by simp at hf, rfl, rfl⟩ ?_ (passes_of rfl)) ?_
    · show PyData.list ((L.fs.map SF.name).map PyData.str) = _
      rw [List.map_map]
      rfl
    · rintro j _ _ hj ⟨l', x4, g', ⟨r, er⟩, hf, rfl, rfl⟩
      have hfm : L.fs.getD j default ∈ L.fs := getD_mem hj
      have hz' := g'.z
      have hsp' : l'[i]? = some sp := by
        rw [er, List.getElem?_append_left hil]
        exact hsp
      have hdp := g'.dp i sp hsp'
      have hil' := (List.getElem?_eq_some_iff.mp hsp').1
      refine rs_one (rs_ifS (v := wcan (L.fs.getD j default).tk sp.wide) (rt_val (rv_wide_can T (w_wide_can T) (pureSp_ok (⟨L, sp.wide, L.fs.getD j default⟩ : LW) ⟨ok, swl, hfm⟩) (hr.mono (by omega)) (ra_cons (rv_fldO 0 (P := lookP K L) (rv_var 0) rfl T.c_Growth T.a_Growth_look rfl) (ra_cons (rv_spw T (rv_var 3)) (ra_cons (rv_var 4) ra_nil))))) (fun hc => ?_) fun hc => ?_)
      · refine rs_give 0 (Wr := []) (xo := True) (rv_var 0) rfl rfl T.c_Growth T.h_Growth_put (w_Growth_put T) (mkSpC_ok (⟨y, b, d, L, most, l', i, sp, L.fs.getD j default⟩ : PtQ) ⟨⟨ok, g', mz, hsp', hfm, hc⟩, nd⟩) (fun k _ => rfl) hx (fun h => h) (hr.mono (by omega)) (b_Growth_put T)
          (rn_make T.m_Spot (w_Spot_init T) (fun y' => spi_ok y' (wbeh (L.fs.getD j default) sp.wide) (some sp) (L.fs.getD j default).name (by show sp.depth ≤ 2050; omega)) (hr.mono (by omega)) T.g_Spot (b_Spot_init T) pass0
            (ra_cons (rv_wide_behind T (w_wide_behind T) (pureSp_ok (⟨L, sp.wide, L.fs.getD j default⟩ : LW) ⟨ok, swl, hfm⟩) (hr.mono (by omega)) (ra_cons (rv_fldO 0 (P := lookP K L) (rv_var 0) rfl T.c_Growth T.a_Growth_look rfl) (ra_cons (rv_spw T (rv_var 3)) (ra_cons (rv_var 4) ra_nil)))) (ra_cons (rv_var 3) (ra_cons (rv_var 4) ra_nil)))) (fun c => rv_var 1) fun l2 hl2 => ?_
        have hl2 : PutR L most l' (wbeh (L.fs.getD j default) sp.wide) l2 := hl2
        obtain ⟨r2, er2⟩ := hl2.pre
        refine rs_nil ⟨l2, _, hl2.gi, ⟨r ++ r2, by rw [er2, er, List.append_assoc]⟩, fun f hf2 c => ?_, rfl, rfl⟩
        rcases fs_take (d := default) hj hf2 with h | h
        · rw [er2]
          exact (hf f h c).app
        · rw [h]
          exact hl2.ov
      · refine rs_nil ⟨l', _, g', ⟨r, er⟩, fun f hf2 c => ?_, rfl, rfl⟩
        rcases fs_take (d := default) hj hf2 with h | h
        · exact hf f h c
        · rw [h] at c
          rw [hc] at c
          cases c
    rintro ρ1 W1 ⟨l', x4, g', ⟨r, er⟩, hf, rfl, rfl⟩
    rw [List.take_length] at hf
    have hlen : l.length ≤ l'.length := by
      rw [er, List.length_append]
      omega
    refine rs_aug 2 ip_add rv_int (rs_nil ⟨⟨i + 1, l'⟩, ?_, _, _, g', by show i + 1 ≤ l'.length; omega, ?_, fun k s hk hs f hfm c => ?_, rfl, rfl⟩)
    · show most - (i + 1) < most - i
      omega
    · obtain ⟨r0, e0⟩ := hp
      have e0 : l = l0 ++ r0 := e0
      exact ⟨r0 ++ r, by show l' = _; rw [er, e0, List.append_assoc]⟩
    · have hk : k < i + 1 := hk
      by_cases e : k = i
      · subst e
        have hs : l'[k]? = some s := hs
        rw [er, List.getElem?_append_left hil, hsp] at hs
        cases hs
        exact hf f hfm c
      · have ht' : Thr L (l ++ r) i := Thr.app ht hi
        rw [← er] at ht'
        exact ht' k s (by omega) hs f hfm c
  · rintro ⟨i, l⟩ _ _ ⟨x3, x4, g, hi, hp, ht, rfl, rfl⟩ hb
    have hil : ¬ i < l.length := of_decide_eq_false hb
    have hi : i ≤ l.length := hi
    have e : i = l.length := by omega
    subst e
    exact rs_nil ⟨l, ⟨g, hp, ht⟩, grW_end nd hO⟩
def gspotsP (K : PySem.W.Frag) (L : Lk) : SP := exP (ι := { l : List Sp0 // GDone L l }) fun l => lstT (l.1.map (spotP K))
def growP (K : PySem.W.Frag) (L : Lk) : SP := insP (He.ga K "Growth") [("look", lookP K L), ("spots", gspotsP K L), ("there", anyP)]
structure GnQ where
  y : Addr
  L : Lk
  most : Nat
theorem put_there {K : PySem.W.Frag} {L : Lk} {b d : Addr} {Q : SP} : putP "there" Q (grF K L b d) = ([("look", lookP K L), ("spots", refP b), ("there", Q)] : List (Str × SP)) := by
  unfold putP
  rw [if_neg (by decide)]
  unfold putP
  rw [if_neg (by decide)]
  unfold putP
  rw [if_pos rfl]
theorem put_spots {K : PySem.W.Frag} {L : Lk} {b : Addr} {Q R : SP} : putP "spots" Q ([("look", lookP K L), ("spots", refP b), ("there", R)] : List (Str × SP)) = ([("look", lookP K L), ("spots", Q), ("there", R)] : List (Str × SP)) := by
  unfold putP
  rw [if_neg (by decide)]
  unfold putP
  rw [if_pos rfl]
theorem root_GI {L : Lk} {most : Nat} (h : 1 ≤ most) : GI L most [.root (up L.begin)] := ⟨fun s hs => by
  rw [List.mem_singleton.mp hs]
  rfl, fun i s e => by
  cases i with
  | zero =>
    cases e
    exact Nat.le_refl _
  | succ i => simp at e, List.pairwise_singleton _ _, h, .root (up L.begin), List.mem_singleton.mpr rfl, isOver_refl _⟩
theorem w_Growth_init : O_Growth_init P w K mg base (L2.CX P w) 6 (mkSpE (TGa K) (ι := GnQ) (κ := List Sp0) (fun q => [refP q.y, lookP K q.L, dat K (.int (q.most : Int))]) (fun q => [(q.y, insM (He.ga K "Growth") [])]) (fun q l => [(q.y, insM (He.ga K "Growth") [("look", lookP K q.L), ("spots", lstT (l.map (spotP K))), ("there", anyP)])]) (fun q => LkOk q.L ∧ 1 ≤ q.most ∧ q.most ≤ 2000) (fun _ => True) (fun q l => GDone q.L l)) := by
  refine okE T.f_Growth_init (N := N_Growth_init) (by constructor <;> first | rfl | decide | decide +kernel) (fun _ => rfl) fun cdv A1 outer s H E hr q hq an hO z => ?_
  obtain ⟨y, L, most⟩ := q
  obtain ⟨ok, m1, mz⟩ := hq
  have ok : LkOk L := ok
  have m1 : 1 ≤ most := m1
  have mz : most ≤ 2000 := mz
  have hx := px_of z
  have hu : (A1.deeper (envOfC "Growth.__init__" (defScope s_Growth_init) s.heap.objs.size (He.ma K (He.ga K "Growth") "__init__") cdv)).units + 64 < cLine := hr.units
  refine rs_when (v := false) (rt_to (rt_lt (K := K) (rv_var 2) rv_int) (decide_eq_false (by show ¬ ((most : Int) < 1); omega))) (fun h => nomatch h) fun _ => ?_
  refine rs_fldN 0 (P := lookP K L) (rv_var 1) (rv_var 0) rfl T.c_Growth T.a_Growth_look ?_
  refine rs_fldR 0 (mp := fun _ => lstM [spotP K (.root (up L.begin))]) (rn_lst (Ps := [spotP K (.root (up L.begin))]) (ra_cons (rn_rv (rn_make T.m_Spot (w_Spot_init T) (fun y' => spi_ok y' (up L.begin) none "" (Nat.zero_le _)) (hr.mono (by omega)) T.g_Spot (b_Spot_init T) pass0 (ra_cons (rv_to (look_begin T (rv_var 1)) (up_ints _).symm) (ra_cons rv_non (ra_cons rv_str ra_nil)))) fun H p o e h => insM_P H p o e h) ra_nil)) (fun p => rv_var 0) (fun p => rfl) T.c_Growth T.a_Growth_spots fun b hb => ?_
  refine rs_fldR 0 (rn_wdisp (w0 := up L.begin) hu (fun c => rv_to (look_begin T (rv_var 1)) (up_ints _).symm)) (fun p => rv_var 0) (fun p => rfl) T.c_Growth T.a_Growth_there fun d hd => ?_
  refine rs_nd fun nd => ?_
  have nd : (([y, b, d] : List Addr)).Nodup := nd
  show RSs _ an _ _ (grW P w K y b d L [.root (up L.begin)]) _ _ _
  refine rs_methE 0 (Wr := []) (xo := True) (rv_var 0) rfl rfl T.c_Growth T.h_Growth_grow (w_Growth_grow T) (mkSpE_ok (⟨y, b, d, L, most, [.root (up L.begin)]⟩ : GrQ) ⟨ok, root_GI T m1, mz, nd⟩) (fun k _ => rfl) hx (fun h => h) hr (b_Growth_grow T) (ra_cons (rv_var 2) ra_nil) fun l hl => ?_
  obtain ⟨g, ⟨r, er⟩, ht⟩ := hl
  have g : GI L most l := g
  have hz := g.z
  refine rs_freeF 0 (g := "there") (W := [(y, insM (He.ga K "Growth") (grF K L b d)), (b, lstM (l.map (spotP K)))]) (b := d) (mp := wdM P w K (l.map Sp0.wide) d) (P := anyP) hd rfl rfl (fun _ _ _ _ => trivial) ?_
  rw [put_there T]
  refine rs_freeF 0 (g := "spots") (W := [(y, insM (He.ga K "Growth") [("look", lookP K L), ("spots", refP b), ("there", anyP)])]) (b := b) (mp := lstM (l.map (spotP K))) (P := lstT (l.map (spotP K))) hb rfl rfl (fun H o e ⟨xs, e2, sat⟩ => ⟨b, xs, rfl, e2 ▸ e, sat⟩) ?_
  rw [put_spots T]
  refine rs_nil ⟨l, ⟨g.ok, g.b, fun s hs f hf c => ?_, by omega, fun e => ?_, fun s hs => ?_⟩, ⟨by simp, fun c hc => ?_⟩⟩
  · obtain ⟨i, hi, e⟩ := List.getElem_of_mem hs
    exact ht i s hi (by rw [List.getElem?_eq_getElem hi, e]) f hf c
  · have er : l = [.root (up L.begin)] ++ r := er
    rw [er] at e
    simp at e
  · obtain ⟨i, hi, e⟩ := List.getElem_of_mem hs
    have := g.dp i s (by rw [List.getElem?_eq_getElem hi, e])
    omega
  · rw [List.mem_singleton.mp hc]
    exact ⟨hO (y, insM (He.ga K "Growth") []) (List.mem_singleton.mpr rfl), _, List.mem_singleton.mpr rfl, rfl, fun _ _ h => h⟩
end
end TF
set_option Elab.async false
set_option linter.all false
set_option maxRecDepth 100000
set_option maxHeartbeats 4000000
/-! W34: wides_of, place_number, stair_of. -/
namespace TF
open PySem PySem.Spec PyProof.Rows L2 WD
open PyProof.Rows (envOfC)
section
variable {X : Cx}
/-- a list is not [] -/
theorem op_neNil (hu : X.A.units + 64 < cLine) : OpR X (compareOp .NotEq) (fun x y H Q => ∃ a b xs, x = .ref a ∧ y = .ref b ∧ SqL X.K H a xs ∧ SqL X.K H b [] ∧ Q (.bl (!xs.isEmpty)) H) := by
  intro pins s σ H x y v u Q I rx ry h
  obtain ⟨a, b, xs, rfl, rfl, h1, h2, q⟩ := h
  cases xs with
  | nil => exact op_neD hu pins s σ H (.ref a) (.ref b) v u Q I rx ry ⟨.list [], .list [], .lst h1 .nil, .lst h2 .nil, rfl, rfl, q⟩
  | cons z zs =>
    cases rx
    cases ry
    obtain ⟨its, r, pl, hz⟩ := I.list h1
    obtain ⟨its2, r2, pl2, hz2⟩ := I.list h2
    cases r2
    have hne : (its.toArray.size != ([] : List Value).toArray.size) = true := by
      cases r
      simp
    exact (PySem.SeqAt.RcNeAt.lists_lengths pl.isList pl2.isList hne (by omega)) _ _ _ _ ⟨.bl true, H, I, rfl, q⟩
end
section
variable {X : Cx} {an : An} {K : PySem.W.Frag} {ρ : TF.Env} {W W1 W2 W' : Wd} {a b e : Expr} {es : List Expr} {pos p cpos apos : Pos} {Ps : List SP} {P : SP} {n : Nat}
theorem k_neNil : R2Ok (fun x y H Q => ∃ a b xs, x = .ref a ∧ y = .ref b ∧ SqL X.K H a xs ∧ SqL X.K H b [] ∧ Q (.bl (!xs.isEmpty)) H) (lstP X.K Ps) (lstP X.K []) (dat K (.bool (!Ps.isEmpty))) := fun O H v w Q l ⟨a, xs, e, hq, s⟩ ⟨b, ys, e2, hq2, s2⟩ q => by
  subst e e2
  cases s2
  refine ⟨a, b, xs, rfl, rfl, mn_le.seq hq, mn_le.seq hq2, ?_⟩
  have ee : xs.isEmpty = Ps.isEmpty := by
    cases s with
    | nil => rfl
    | cons _ _ => rfl
  rw [ee]
  exact q _ H (Same.refl H) (.bl _)
theorem rv_neNil (hu : X.A.units + 64 < cLine) (ha : RV X an a ρ W W1 (lstP X.K Ps)) (hb : RV X an b ρ W1 W2 (lstP X.K [])) : RV X an (.Compare a [.NotEq] [b] pos) ρ W W2 (dat K (.bool (!Ps.isEmpty))) := rv_cmp (op_neNil hu) k_neNil ha hb
theorem rt_neNil (hu : X.A.units + 64 < cLine) (ha : RV X an a ρ W W1 (lstP X.K Ps)) (hb : RV X an b ρ W1 W2 (lstP X.K [])) : RT X an (.Compare a [.NotEq] [b] pos) ρ W W2 (!Ps.isEmpty) := rt_cmp (K := X.K) (op_neNil hu) k_neNil ha hb
/-- list(tail) -/
theorem rv_listTl (hm : X.mg "list" = none) (ha : RV X an e ρ W W' (tailP X.K n)) (hg : Gl X "list" := by rfl) (hs : starEach [e] X.env = (false, eval e X.env) :: starEach [] X.env := by rfl) (hpl : (backTo pos (starEach [] X.env)).any (·.1) = false := by rfl) : RV X an (.Call (.Name "list" p) [e] [] pos) ρ W W' anyP :=
  rv_callTy call_list_of (Ps := [tailP X.K n]) (fun O H vs Q l s q => by
    cases s with
    | cons h t =>
      cases t
      obtain ⟨_, a, xs, e, hq, sat⟩ := h
      subst e
      exact ⟨a, xs, rfl, .inl (SqL.of (mn_at hq)), fun z hz => q _ _ (same_new hz) trivial⟩) hm (ra_cons ha ra_nil hs) (hg := hg) (he := hs) (hpl := hpl)
/-- [x] * int(b) -/
theorem rv_repB {c : Bool} (ha : RV X an a ρ W W1 (lstT [P])) (hb : RV X an b ρ W1 W2 (dat K (.int (if c then 1 else 0)))) : RV X an (.BinOp a .Mult b pos) ρ W W2 (lstT (List.replicate (if c then 1 else 0) P)) :=
  rv_op (P1 := lstT [P]) (P2 := dat K (.int (if c then 1 else 0))) op_rep (fun O H v w Q l ⟨x, xs, ex, hx, sx⟩ p2 q => by
    have hl := sx.length
    subst ex
    refine ⟨x, _, xs, rfl, dat_int p2, mn_at hx, ?_, ?_, ?_, fun z hz => q _ _ (same_new hz) ⟨z, _, rfl, mn_new l hz, ?_⟩⟩
    · cases c <;> decide
    · cases c <;> decide
    · rw [← hl, sizeLine_eq]
      show 1 * _ ≤ 16777216
      cases c <;> decide
    · cases c with
      | true =>
        show Sat [P] _ (List.replicate 1 xs).flatten
        rw [List.replicate_one, List.flatten_singleton]
        exact sx.same (mn_mono (same_new hz))
      | false => exact .nil) ha hb
/-- xs.index(x), texts -/
theorem rv_index {x : Str} {ss : List Str} (hx : x ∈ ss) (ha : RV X an a ρ W W1 (dat X.K (strsD ss))) (hb : RV X an b ρ W1 W2 (dat X.K (.str x)))
    (hbase : attributeBase a "index" X.env (eval a X.env) = eval a X.env := by rfl)
    (hfew : ((backTo cpos (starEach [b] X.env)).all (fun x => !x.1) && (backToKw cpos (keywordEach [] X.env)).all (fun x => x.1.isSome)
      && decide ([b].length + ([] : List Keyword).length + (if ([] : List Keyword).isEmpty then 0 else 1) < 30)) = true := by rfl)
    (hline : (apos.endLine == cpos.line) = true := by rfl) (hs : starEach [b] X.env = (false, eval b X.env) :: starEach [] X.env := by rfl) (hplain : (backTo cpos (starEach [] X.env)).any (·.1) = false := by rfl) :
    RV X an (.Call (.Attribute a "index" apos) [b] [] cpos) ρ W W2 (dat K (.int (ss.idxOf x : Int))) :=
  PEimp (pe_bm PySem.F.plainAttrs_list PySem.F.slot_list_index PySem.F.type_list_index mt_index ha (ra_cons hb ra_nil hs) hbase hfew hline hs hplain) fun σ H Q ⟨O, m, q⟩ => ⟨O, m, fun u H1 m1 s1 p1 => by
    have p1' : Dp X.K (mn H1 O) u (.list (ss.map PyData.str)) := p1
    cases p1' with
    | lst hq hal =>
      rename_i a0 vs0
      have hv := flat_strs hal
      subst hv
      refine ⟨.inl ⟨rfl, _, mn_le.seq hq⟩, O, m1, fun ys H2 m2 s2 p2 => ?_⟩
      cases p2 with
      | cons h t =>
        cases t
        have hy := dat_str h
        subst hy
        have hj := idx_lt hx
        refine ⟨a0, _, .str x, ss.idxOf x, .str x, rfl, rfl, mn_le.seq (s2.seq hq), rfl, allflat_strs ss, ?_, ?_, fun k z hk hz => ?_, q _ H2 m2 (s1.trans s2) (.int _)⟩
        · rw [List.getElem?_map, idx_get hx]
          rfl
        · show eqV (.str x) (.str x) = true
          simp [eqV]
        · rw [List.getElem?_map] at hz
          cases e : ss[k]? with
          | none => rw [e] at hz; cases hz
          | some y =>
            rw [e] at hz
            cases hz
            have hne : y ≠ x := fun c => by
              subst c
              obtain ⟨h1, h2⟩ := List.getElem?_eq_some_iff.mp e
              have h3 := List.not_of_lt_findIdx (p := fun z => z == y) (xs := ss) (i := k) hk
              rw [h2] at h3
              simp at h3
            show eqV (.str y) (.str x) = false
            simp [eqV, hne]⟩
end
/-- what the widest heaps of a net are -/
def Wid (L : Lk) (ws : List Wide) : Prop := ∃ S, Cov L.places.length L.fs L.begin S ∧ ws = grt S ∧ S.length ≤ 2000
def widP (K : PySem.W.Frag) (L : Lk) : SP := exP (ι := { ws : List Wide // Wid L ws }) fun ws => dat K (wsD ws.1)
section
variable {P : Program} {w : World} {K : PySem.W.Frag} {mg : Str → Option Value} {base : Heap} (T : TF.Txt K mg)
include T
theorem w_wides_of : O_wides_of P w K mg base CX0 4 (pureSp (ι := Lk × List Sp0) (fun q => [lstP K (q.2.map (spotP K))]) (fun q => LkOk q.1 ∧ GDone q.1 q.2) (fun q => widP K q.1)) := by
  refine okPure T.f_wides_of (N := N_wides_of) (by constructor <;> first | rfl | decide | decide +kernel) (fun _ => rfl) fun cdv A1 outer s H E hr q hq an => ?_
  obtain ⟨L, l⟩ := q
  obtain ⟨ok, g⟩ := hq
  have ok : LkOk L := ok
  have g : GDone L l := g
  refine rs_end (rv_sub (rv_greatest T (w_greatest T) (pureSp_ok (ι := Nat × List Wide) (L.places.length, l.map Sp0.wide) ⟨ok.z2, by show (l.map Sp0.wide).length ≤ 1000000; rw [List.length_map]; have := g.z; omega, fun wd hw => ((g.cov ok).is wd hw).l⟩) hr (ra_cons (rv_sub (rv_lc (n := l.length) (bt := fun _ => true) (E := fun i => (fun s : Sp0 => dat K (wD s.wide)) (l.getD i default)) (own := [("spot", 1)]) (ri_lstM (spotP K) l default (rv_var 0)) (fun s H C cl fp => pg_one 1) (fun i hi => gk_name) (by decide) (fun s H C cl fp i W hi => rts_nil) (fun s H C cl fp i W hi _ => rv_spw T (rv_var 1))) fun H v z => ?_) ra_nil)) fun H v z => ⟨⟨_, l.map Sp0.wide, g.cov ok, rfl, by rw [List.length_map]; exact g.z⟩, z⟩)
  rw [selP_all T (fun s : Sp0 => dat K (wD s.wide)) l default rfl] at z
  have e : l.map (fun s : Sp0 => dat K (wD s.wide)) = (l.map Sp0.wide).map fun x => dat K (wD x) := by rw [List.map_map]; rfl
  rw [e] at z
  exact lstT_D (K := K) (f := wD) z
theorem w_place_number : O_place_number P w K mg base CX0 1 (pureSp (ι := Lk × Str) (fun q => [lookP K q.1, dat K (.str q.2)]) (fun q => q.2 ∈ q.1.places) (fun q => dat K (.int (q.1.places.idxOf q.2 : Int)))) := by
  refine okPure T.f_place_number (N := N_place_number) (by constructor <;> first | rfl | decide | decide +kernel) (fun _ => rfl) fun cdv A1 outer s H E hr q hq an => ?_
  obtain ⟨L, x⟩ := q
  have hq : x ∈ L.places := hq
  have hp : ∀ {e : Expr} {ρ : TF.Env} {pos : Pos} {X : Cx} {an : An} {W : Wd} (T : TF.Txt X.K X.mg) (h : RV X an e ρ W W (lookP X.K L)) (hb : attributeBase e "places" X.env (eval e X.env) = eval e X.env), RV X an (.Attribute e "places" pos) ρ W W (dat X.K (strsD L.places)) := fun T h hb => rv_fld h (insP_fld T.c_Look T.a_Look_places rfl) hb
  refine rs_when (v := false) (rt_to (rt_notInStrs (ss := L.places) (.inl rfl) (rv_var 1) (hp T (rv_var 0) rfl)) (by rw [decide_eq_true hq]; rfl)) (fun h => nomatch h) fun _ => ?_
  exact rs_end (rv_index hq (hp T (rv_var 0) rfl) (rv_var 1))
abbrev spX (K : PySem.W.Frag) (s : Sp0) (m : Nat) (l : List Str) : List (Str × SP) := [("wide", dat K (wD s.wide)), ("depth", dat K (.int (s.depth : Int))), ("parent", opP K s.par), ("came_by", dat K (.str s.nm)), ("pumps", lstT (List.replicate m (tupP K [tailP K 2100, tailP K 2100]))), ("tail", lstT (l.map fun x => dat K (.str x)))]
theorem spot_open {K : PySem.W.Frag} {s : Sp0} : Imp (spotP K s) (exP (ι := { q : Nat × List Str // q.1 ≤ 40 * s.depth ∧ q.2.length ≤ s.depth }) fun q => insP (He.ga K "Spot") (spX K s q.1.1 q.1.2)) := fun H v h => by
  rw [spot_shape] at h
  obtain ⟨a, dx, vs, e, ha, f⟩ := h
  cases f with
  | cons h1 f =>
    cases f with
    | cons h2 f =>
      cases f with
      | cons h3 f =>
        cases f with
        | cons h4 f =>
          cases f with
          | cons h5 f =>
            cases f with
            | cons h6 f =>
              cases f
              obtain ⟨e5, ⟨m, hm⟩, p5⟩ := h5
              obtain ⟨e6, ⟨l, hl⟩, p6⟩ := h6
              exact ⟨⟨(m, l), hm, hl⟩, a, dx, _, e, ha, .cons h1 (.cons h2 (.cons h3 (.cons h4 (.cons ⟨e5, p5⟩ (.cons ⟨e6, p6⟩ .nil)))))⟩
theorem w_stair_of : O_stair_of P w K mg base CX0 1 (pureSp (ι := Sp0) (fun s => [spotP K s]) (fun s => s.depth ≤ 2050) (fun _ => anyP)) := by
  refine okPure T.f_stair_of (N := N_stair_of) (by constructor <;> first | rfl | decide | decide +kernel) (fun _ => rfl) fun cdv A1 outer s0 H E hr s hq an => ?_
  have hq : s.depth ≤ 2050 := hq
  have hu : (A1.deeper (envOfC "stair_of" (defScope s_stair_of) s0.heap.objs.size (He.ga K "stair_of") cdv)).units + 64 < cLine := hr.units
  refine rs_slot 0 (spot_open T) ?_
  refine rs_open (f := fun q : { q : Nat × List Str // q.1 ≤ 40 * s.depth ∧ q.2.length ≤ s.depth } => insP (He.ga K "Spot") (spX K s q.1.1 q.1.2)) 0 fun q => ?_
  obtain ⟨⟨m, l⟩, hm, hl⟩ := q
  have hm : m ≤ 40 * s.depth := hm
  refine rs_setLc 1 (n := m) (Wf := fun _ => []) (bt := fun _ => true) (E := fun _ => anyP) (own := [("row", 2), ("loop", 3)]) (ri_listE (Ps := List.replicate m (tupP K [tailP K 2100, tailP K 2100])) (Y := fun _ => tupP K [tailP K 2100, tailP K 2100]) (n := m) (rv_sub (rv_fld (P := insP (He.ga K "Spot") (spX K s m l)) (P' := lstT (List.replicate m (tupP K [tailP K 2100, tailP K 2100]))) (rv_var 0) (insP_fld T.c_Spot T.a_Spot_pumps rfl)) fun H v z => lstT_P z) (by rw [List.length_replicate]) fun i hi => ?_) (fun s H C cl fp => pg_two 2 3) (fun i hi => gk_two) (by decide) (fun _ _ h => nomatch h) (fun s H C cl fp i c hi => rts_nil)
    (fun s H C cl fp i c hi _ => rv_sub (rv_tup (K := K) (Ps := [anyP, anyP]) (ra_cons (rv_listTl T.n_list (rv_var 2)) (ra_cons (rv_listTl T.n_list (rv_var 3)) ra_nil))) fun _ _ _ => trivial) fun b hb => ?_
  · rw [List.getD_eq_getElem?_getD, List.getElem?_replicate, if_pos hi]
    exact Imp.refl
  rw [sel_const]
  refine rs_freeT (W := []) 1 hb ?_
  refine rs_end (rv_sub (rv_catL (rv_var 1) (rv_repB (K := K) (c := !(l.map fun x => dat K (.str x)).isEmpty) (P := anyP) (rv_lst (Ps := [anyP]) (ra_cons (rv_sub (rv_tup (K := K) (Ps := [anyP, anyP]) (ra_cons (rv_listTl (n := s.depth) T.n_list (rv_sub (rv_fld (P := insP (He.ga K "Spot") (spX K s m l)) (P' := lstT (l.map fun x => dat K (.str x))) (rv_var 0) (insP_fld T.c_Spot T.a_Spot_tail rfl)) fun H v z => ⟨⟨l, hl⟩, z⟩)) (ra_cons (rv_sub (rv_lst (Ps := []) ra_nil) fun _ _ _ => trivial) ra_nil))) fun _ _ _ => trivial) ra_nil)) (rv_intB T.n_int (rv_neNil hu (rv_sub (rv_fld (P := insP (He.ga K "Spot") (spX K s m l)) (P' := lstT (l.map fun x => dat K (.str x))) (rv_var 0) (insP_fld T.c_Spot T.a_Spot_tail rfl)) fun H v z => lstT_P z) (rv_sub (rv_lst (Ps := []) ra_nil) fun H v z => lstT_P z)))) ?_) fun _ _ _ => trivial)
  rw [List.length_replicate, List.length_replicate]
  split <;> omega
end
end TF
set_option Elab.async false
set_option linter.all false
set_option maxRecDepth 100000
set_option maxHeartbeats 4000000
/-! W35: widest, bound. -/
namespace TF
open PySem PySem.Spec PyProof.Rows L2 WD
open PyProof.Rows (envOfC)
/-- what is told of a place's bound: none, or the most -/
def Bd0 (L : Lk) (i : Nat) : Option Int → Prop
  | none => ∀ N : Int, ∃ m, Run L.fs L.begin m ∧ N ≤ m.getD i 0
  | some n => (∃ m, Run L.fs L.begin m ∧ n ≤ m.getD i 0) ∧ ∀ m, Run L.fs L.begin m → m.getD i 0 ≤ n
def bdS (K : PySem.W.Frag) : Option Int → SP
  | none => tupP K [dat K (.str "more"), anyP]
  | some n => tupP K [dat K (.str "most"), dat K (.int n), anyP, anyP]
def bndP (K : PySem.W.Frag) (L : Lk) (i : Nat) : SP := exP (ι := { r : Option Int // Bd0 L i r }) fun r => bdS K r.1
theorem Cov.reach {n : Nat} {fs : List SF} {b : Heap0} {S : List Wide} (c : Cov n fs b S) {w : Wide} (hw : w ∈ S) {i : Nat} (hi : i < n) {N : Int} (h0 : 0 ≤ N) (h : ∀ x, w.getD i none = some x → N ≤ x) : ∃ m, Run fs b m ∧ (IsH n m → N ≤ m.getD i 0) := by
  have hh : IsH n (mkH n fun j => if j = i then N else 0) := mkH_is fun j _ => by
    show 0 ≤ if j = i then N else 0
    split <;> omega
  obtain ⟨m, r, o⟩ := (c.iff _ hh).mp ⟨w, hw, fun j hj x e => by
    rw [mkH_at hj]
    split
    · rename_i q
      subst q
      exact h x e
    · exact (c.is w hw).p j x e⟩
  refine ⟨m, r, fun hm => ?_⟩
  have z := (ov_at hm.l hh.l).mp o i hi
  rw [mkH_at hi, if_pos rfl] at z
  exact z
theorem bd_more {L : Lk} (ok : LkOk L) {S : List Wide} (c : Cov L.places.length L.fs L.begin S) {i : Nat} (hi : i < L.places.length) {w : Wide} (hw : w ∈ S) (h : w.getD i none = none) : Bd0 L i none := fun N => by
  obtain ⟨m, r, k⟩ := c.reach hw hi (N := max N 0) (by omega) fun x e => by rw [h] at e; cases e
  have z := k (r.isH (fun f hf => ok.isF hf) (begin_is ok))
  exact ⟨m, r, by omega⟩
theorem bd_most {L : Lk} (ok : LkOk L) {S : List Wide} (c : Cov L.places.length L.fs L.begin S) {i : Nat} (hi : i < L.places.length) {w : Wide} (hw : w ∈ S) {n : Int} (h : w.getD i none = some n) (hall : ∀ v, v ∈ S → ∃ x, v.getD i none = some x ∧ x ≤ n) : Bd0 L i (some n) := by
  have hfs : ∀ f, f ∈ L.fs → IsF L.places.length f := fun f hf => ok.isF hf
  refine ⟨?_, fun m r => ?_⟩
  · obtain ⟨m, r, k⟩ := c.reach hw hi (N := n) ((c.is w hw).p i n h) fun x e => by rw [h] at e; cases e; exact Int.le_refl _
    exact ⟨m, r, k (r.isH hfs (begin_is ok))⟩
  · have hm := r.isH hfs (begin_is ok)
    obtain ⟨v, hv, u⟩ := (c.iff m hm).mpr ⟨m, r, ov_refl m⟩
    obtain ⟨x, e, hx⟩ := hall v hv
    have := u i hi x e
    omega
theorem max_ex : ∀ l : List Int, l ≠ [] → ∃ m, m ∈ l ∧ ∀ y, y ∈ l → y ≤ m
  | [], h => absurd rfl h
  | [x], _ => ⟨x, List.mem_singleton.mpr rfl, fun y hy => by rw [List.mem_singleton.mp hy]; exact Int.le_refl _⟩
  | x :: z :: l, _ => by
    obtain ⟨m, hm, h⟩ := max_ex (z :: l) (by simp)
    by_cases q : m ≤ x
    · refine ⟨x, List.mem_cons_self, fun y hy => ?_⟩
      rcases List.mem_cons.mp hy with rfl | hy
      · exact Int.le_refl _
      · exact Int.le_trans (h y hy) q
    · refine ⟨m, List.mem_cons_of_mem _ hm, fun y hy => ?_⟩
      rcases List.mem_cons.mp hy with rfl | hy
      · omega
      · exact h y hy
theorem gri_ok {P : Program} {w : World} {K : PySem.W.Frag} (y : Addr) (L : Lk) (most : Nat) (h : LkOk L ∧ 1 ≤ most ∧ most ≤ 2000) : CallE (mkSpE (TGa K) (ι := GnQ) (κ := List Sp0) (fun q => [refP q.y, lookP K q.L, dat K (.int (q.most : Int))]) (fun q => [(q.y, insM (He.ga K "Growth") [])]) (fun q l => [(q.y, insM (He.ga K "Growth") [("look", lookP K q.L), ("spots", lstT (l.map (spotP K))), ("there", anyP)])]) (fun q => LkOk q.L ∧ 1 ≤ q.most ∧ q.most ≤ 2000) (fun _ => True) (fun q l => GDone q.L l)) (TGa K) [refP y, lookP K L, dat K (.int (most : Int))] [(y, insM (He.ga K "Growth") [])] (fun l => [(y, insM (He.ga K "Growth") [("look", lookP K L), ("spots", lstT (l.map (spotP K))), ("there", anyP)])]) (fun l => GDone L l) True := mkSpE_ok (⟨y, L, most⟩ : GnQ) h
section
variable {X : Cx} {an : An} {ρ : TF.Env} {W W1 W2 : Wd} {a b : Expr} {pos p apos : Pos} {L : Lk} {most : Nat}
/-- Growth(a, b).spots -/
theorem rv_grow (T : TF.Txt X.K X.mg) (z : Rz X an True) (ok : LkOk L) (h1 : 1 ≤ most) (h2 : most ≤ 2000) (hr : Room 7 X.A) (ha : RA X an [a, b] ρ W W1 [lookP X.K L, dat X.K (.int (most : Int))]) (hg : Gl X "Growth" := by rfl) (he : starEach [a, b] X.env = (false, eval a X.env) :: starEach [b] X.env := by rfl) (hpl : (backTo pos (starEach [b] X.env)).any (·.1) = false := by rfl)
    (hb : attributeBase (.Call (.Name "Growth" p) [a, b] [] pos) "spots" X.env (eval (.Call (.Name "Growth" p) [a, b] [] pos) X.env) = eval (.Call (.Name "Growth" p) [a, b] [] pos) X.env := by rfl) : RV X an (.Attribute (.Call (.Name "Growth" p) [a, b] [] pos) "spots" apos) ρ W W1 (gspotsP X.K L) :=
  rv_fld (P := growP X.K L) (rv_makeE (κ := List Sp0) (mo := fun l : List Sp0 => insM (He.ga X.K "Growth") [("look", lookP X.K L), ("spots", lstT (l.map (spotP X.K))), ("there", anyP)]) T.m_Growth (w_Growth_init T) (fun y => gri_ok (P := X.prog) (w := X.w) y L most ⟨ok, h1, h2⟩) (fun l hl H p o e h => by
    obtain ⟨dx, vs, eo, f⟩ := h
    refine ⟨p, dx, vs, rfl, eo ▸ e, ?_⟩
    exact FldsOk.imp (fs := [("look", lookP X.K L), ("spots", lstT (l.map (spotP X.K))), ("there", anyP)]) (.cons ⟨rfl, Imp.refl⟩ (.cons ⟨rfl, fun H v z => ⟨⟨l, hl⟩, z⟩⟩ (.cons ⟨rfl, Imp.refl⟩ .nil))) f) hr T.g_Growth (b_Growth_init T) (px_of z) (fun h => h) ha hg (by decide) he hpl) (insP_fld T.c_Growth T.a_Growth_spots rfl) hb
end
structure BdQ where
  n : Net
  x : Str
  most : Nat
structure BdOk (q : BdQ) : Prop where
  ok : OkNet q.n
  hx : q.x ∈ q.n.names
  m1 : 1 ≤ q.most
  mz : q.most ≤ 2000
section
variable {P : Program} {w : World} {K : PySem.W.Frag} {mg : Str → Option Value} {base : Heap} (T : TF.Txt K mg)
include T
theorem wides_ok {L : Lk} (ok : LkOk L) : SpOk (pureSp (ι := Lk × List Sp0) (fun q => [lstP K (q.2.map (spotP K))]) (fun q => LkOk q.1 ∧ GDone q.1 q.2) (fun q => widP K q.1)) [gspotsP K L] (widP K L) := fun O H vs Q l s k => by
  cases s with
  | cons h t =>
    cases t
    obtain ⟨⟨ss, g⟩, p⟩ := h
    exact ⟨(L, ss), O, l, WOk.nil, .cons (lstT_P p) .nil, ⟨ok, g⟩, fun v H' sb _ p => k v H' sb.nil p⟩
theorem w_widest : O_widest P w K mg base (L2.CX P w) 8 (mkSpX (TGa K) (ι := Net × Nat) (fun q => [dat K (netD q.1), dat K (.int (q.2 : Int))]) (fun _ => []) (fun _ => []) (fun q => OkNet q.1 ∧ 1 ≤ q.2 ∧ q.2 ≤ 2000) (fun _ => True) (fun q => widP K (lkOf q.1))) := by
  refine okX T.f_widest (N := N_widest) (by constructor <;> first | rfl | decide | decide +kernel) (fun _ => rfl) fun cdv A1 outer s H E hr q hq an hO z => ?_
  obtain ⟨n, most⟩ := q
  obtain ⟨ok, m1, mz⟩ := hq
  have ok : OkNet n := ok
  exact rs_end (rv_wides_of T (w_wides_of T) (wides_ok T (lk_ok ok)) (hr.mono (by omega)) (ra_cons (rv_grow (most := most) T z (lk_ok ok) m1 mz hr (ra_cons (rv_look_at T (w_look_at T) (pureSp_ok n ok) (hr.mono (by omega)) (ra_cons (rv_var 0) ra_nil)) (ra_cons (rv_var 1) ra_nil))) ra_nil))
theorem w_bound : O_bound P w K mg base (L2.CX P w) 8 (mkSpX (TGa K) (ι := BdQ) (fun q => [dat K (netD q.n), dat K (.str q.x), dat K (.int (q.most : Int))]) (fun _ => []) (fun _ => []) BdOk (fun _ => True) (fun q => bndP K (lkOf q.n) (q.n.names.idxOf q.x))) := by
  refine okX T.f_bound (N := N_bound) (by constructor <;> first | rfl | decide | decide +kernel) (fun _ => rfl) fun cdv A1 outer s H E hr q hq an hO z => ?_
  obtain ⟨n, x, most⟩ := q
  obtain ⟨okn, hx, m1, mz⟩ := hq
  have okn : OkNet n := okn
  have ok := lk_ok okn
  have hx : x ∈ n.names := hx
  have hxp : x ∈ (lkOf n).places := hx
  have hi : n.names.idxOf x < (lkOf n).places.length := idx_lt hx
  have hu : (A1.deeper (envOfC "bound" (defScope s_bound) s.heap.objs.size (He.ga K "bound") cdv)).units + 64 < cLine := hr.units
  refine rs_set 3 (rv_look_at T (w_look_at T) (pureSp_ok n okn) (hr.mono (by omega)) (ra_cons (rv_var 0) ra_nil)) ?_
  refine rs_set 4 (rv_place_number T (w_place_number T) (pureSp_ok (ι := Lk × Str) (lkOf n, x) hxp) (hr.mono (by omega)) (ra_cons (rv_var 3) (ra_cons (rv_var 1) ra_nil))) ?_
  refine rs_set 5 (rv_grow (most := most) T z ok m1 mz hr (ra_cons (rv_var 3) (ra_cons (rv_var 2) ra_nil))) ?_
  refine rs_open (f := fun l : { l : List Sp0 // GDone (lkOf n) l } => lstT (l.1.map (spotP K))) 5 fun l => ?_
  obtain ⟨l, g⟩ := l
  show RSs _ an _ [some (dat K (netD n)), some (dat K (.str x)), some (dat K (.int (most : Int))), some (lookP K (lkOf n)), some (dat K (.int (n.names.idxOf x : Int))), some (lstT (l.map (spotP K))), none, none, none] [] _ _ _
  generalize n.names.idxOf x = i at hi ⊢
  have c := g.cov ok
  have hlz := g.z
  have hat : ∀ s : Sp0, s ∈ l → i < s.wide.length := fun s hs => by
    rw [(c.is s.wide (List.mem_map.mpr ⟨s, hs, rfl⟩)).l]
    exact hi
  have hix : ∀ s : Sp0, s ∈ l → (s.wide.map oD)[i]? = some (oD (s.wide.getD i none)) := fun s hs => by
    rw [List.getElem?_map, List.getD_eq_getElem?_getD, List.getElem?_eq_getElem (hat s hs)]
    rfl
  have hsd : ∀ s : Sp0, s ∈ l → s.depth ≤ 2050 ∨ True := fun s hs => .inr trivial
  have isN_o : ∀ o : Option Int, isN (oD o) = o.isNone := fun o => by cases o <;> rfl
  refine rs_setLc 6 (n := l.length) (Wf := fun _ => []) (bt := fun j => (fun s : Sp0 => (s.wide.getD i none).isNone) (l.getD j default)) (E := fun j => (fun s : Sp0 => spotP K s) (l.getD j default)) (own := [("spot", 7)]) (ri_lstM (spotP K) l default (rv_sub (rv_var 5) fun H v z => lstT_P z)) (fun s H C cl fp => pg_one 7) (fun i hi => gk_name) (by decide) (fun _ _ _ => rfl)
    (fun s H C cl fp j c hj => rts_one (rt_to (rt_isN K (nonP_dat (K := K) (d := oD ((l.getD j default).wide.getD i none))) (rv_ixTD (K := K) (k := i) (hix _ (getD_mem hj)) (rv_spw T (rv_var 7)) (rv_var 4))) (isN_o _))) (fun s H C cl fp j c hj _ => rv_var 7) fun b hb => ?_
  rw [selP_items (d := default) l (fun s : Sp0 => (s.wide.getD i none).isNone) (fun s : Sp0 => spotP K s)]
  refine rs_freeT (W := []) 6 hb ?_
  refine rs_when (v := !((l.filter fun s : Sp0 => (s.wide.getD i none).isNone).map (spotP K)).isEmpty) (rt_neNil hu (rv_sub (rv_var 6) fun H v z => lstT_P z) (rv_sub (rv_lst (Ps := []) ra_nil) fun H v z => lstT_P z)) (fun hv => ?_) fun hv => ?_
  · obtain ⟨s0, r, e⟩ : ∃ s0 r, (l.filter fun s : Sp0 => (s.wide.getD i none).isNone) = s0 :: r := by
      cases h : (l.filter fun s : Sp0 => (s.wide.getD i none).isNone) with
      | nil => rw [h] at hv; cases hv
      | cons s0 r => exact ⟨s0, r, rfl⟩
    have hm : s0 ∈ l.filter fun s : Sp0 => (s.wide.getD i none).isNone := by rw [e]; exact List.mem_cons_self
    obtain ⟨hm1, hm2⟩ := List.mem_filter.mp hm
    have hnone : s0.wide.getD i none = none := by simpa using hm2
    have hdp : s0.depth ≤ 2050 := g.dp s0 hm1
    refine rs_end (rv_sub (rv_tup (K := K) (Ps := [dat K (.str "more"), anyP]) (ra_cons rv_str (ra_cons (rv_stair_of T (w_stair_of T) (pureSp_ok s0 hdp) (hr.mono (by omega)) (ra_cons (rv_ixL (K := K) (P := spotP K s0) (Ps := (l.filter fun s : Sp0 => (s.wide.getD i none).isNone).map (spotP K)) (k := 0) (by rw [e]; rfl) (rv_sub (rv_var 6) fun H v z => lstT_P z) rv_int) ra_nil)) ra_nil))) fun H v z => ⟨⟨none, bd_more ok c hi (List.mem_map.mpr ⟨s0, hm1, rfl⟩) hnone⟩, z⟩)
  · have hnil : (l.filter fun s : Sp0 => (s.wide.getD i none).isNone) = [] := by
      cases h : (l.filter fun s : Sp0 => (s.wide.getD i none).isNone) with
      | nil => rfl
      | cons s0 r => rw [h] at hv; cases hv
    have hsome : ∀ s : Sp0, s ∈ l → s.wide.getD i none = some ((s.wide.getD i none).getD 0) := fun s hs => by
      cases h : s.wide.getD i none with
      | some v => rfl
      | none =>
        have hm : s ∈ l.filter fun s : Sp0 => (s.wide.getD i none).isNone := List.mem_filter.mpr ⟨hs, by rw [h]; rfl⟩
        rw [hnil] at hm
        simp at hm
    have hcn : ∀ j, j < l.length → oD ((l.getD j default).wide.getD i none) = .int (((l.getD j default).wide.getD i none).getD 0) := fun j hj => by
      rw [hsome _ (getD_mem hj)]
      rfl
    obtain ⟨mx, hmx, hle⟩ := max_ex (l.map fun s : Sp0 => (s.wide.getD i none).getD 0) fun e => g.ne (List.map_eq_nil_iff.mp e)
    refine rs_set 8 (rv_maxL (m := mx) (ns := l.map fun s : Sp0 => (s.wide.getD i none).getD 0) (List.length_pos_of_mem hmx) hmx hle T.n_max (rv_sub (rv_lc (n := l.length) (bt := fun _ => true) (E := fun j => (fun s : Sp0 => dat K (.int ((s.wide.getD i none).getD 0))) (l.getD j default)) (own := [("spot", 7)]) (ri_lstM (spotP K) l default (rv_sub (rv_var 5) fun H v z => lstT_P z)) (fun s H C cl fp => pg_one 7) (fun i hi => gk_name) (by decide) (fun s H C cl fp i W hi => rts_nil)
      (fun s H C cl fp j W hj _ => rv_to (rv_ixTD (K := K) (k := i) (hix _ (getD_mem hj)) (rv_spw T (rv_var 7)) (rv_var 4)) (hcn j hj))) fun H v z => ?_)) ?_
    · rw [selP_all T (fun s : Sp0 => dat K (.int ((s.wide.getD i none).getD 0))) l default rfl] at z
      rw [List.map_map]
      exact z
    obtain ⟨sm, hsm, esm⟩ := List.mem_map.mp hmx
    obtain ⟨s0, r, e⟩ : ∃ s0 r, (l.filter fun s : Sp0 => decide ((s.wide.getD i none).getD 0 = mx)) = s0 :: r := by
      cases h : (l.filter fun s : Sp0 => decide ((s.wide.getD i none).getD 0 = mx)) with
      | nil =>
        have hm : sm ∈ l.filter fun s : Sp0 => decide ((s.wide.getD i none).getD 0 = mx) := List.mem_filter.mpr ⟨hsm, decide_eq_true esm⟩
        rw [h] at hm
        simp at hm
      | cons s0 r => exact ⟨s0, r, rfl⟩
    have hm : s0 ∈ l.filter fun s : Sp0 => decide ((s.wide.getD i none).getD 0 = mx) := by rw [e]; exact List.mem_cons_self
    obtain ⟨hm1, hm2⟩ := List.mem_filter.mp hm
    have hv0 : (s0.wide.getD i none).getD 0 = mx := of_decide_eq_true hm2
    have hdp : s0.depth ≤ 2050 := g.dp s0 hm1
    refine rs_set 7 (P := spotP K s0) (rv_ixL (K := K) (Ps := (l.filter fun s : Sp0 => decide ((s.wide.getD i none).getD 0 = mx)).map (spotP K)) (k := 0) (by rw [e]; rfl) (rv_sub (rv_lc (n := l.length) (bt := fun j => (fun s : Sp0 => decide ((s.wide.getD i none).getD 0 = mx)) (l.getD j default)) (E := fun j => (fun s : Sp0 => spotP K s) (l.getD j default)) (own := [("spot", 7)]) (ri_lstM (spotP K) l default (rv_sub (rv_var 5) fun H v z => lstT_P z)) (fun s H C cl fp => pg_one 7) (fun i hi => gk_name) (by decide)
      (fun s H C cl fp j W hj => rts_one (rt_eqI (K := K) (rv_to (rv_ixTD (K := K) (k := i) (hix _ (getD_mem hj)) (rv_spw T (rv_var 7)) (rv_var 4)) (hcn j hj)) (rv_var 8))) (fun s H C cl fp j W hj _ => rv_var 7)) fun H v z => ?_) rv_int) ?_
    · rw [selP_items (d := default) l (fun s : Sp0 => decide ((s.wide.getD i none).getD 0 = mx)) (fun s : Sp0 => spotP K s)] at z
      exact lstT_P z
    have hbd : Bd0 (lkOf n) i (some mx) := bd_most ok c hi (List.mem_map.mpr ⟨s0, hm1, rfl⟩) (by rw [hsome s0 hm1, hv0]) fun v hv => by
      obtain ⟨s, hs, rfl⟩ := List.mem_map.mp hv
      exact ⟨_, hsome s hs, hle _ (List.mem_map.mpr ⟨s, hs, rfl⟩)⟩
    exact rs_end (rv_sub (rv_tup (K := K) (Ps := [dat K (.str "most"), dat K (.int mx), anyP, anyP]) (ra_cons rv_str (ra_cons (rv_var 8) (ra_cons (rv_stair_of T (w_stair_of T) (pureSp_ok s0 hdp) (hr.mono (by omega)) (ra_cons (rv_var 7) ra_nil)) (ra_cons (rv_sub (rv_wides_of T (w_wides_of T) (pureSp_ok (ι := Lk × List Sp0) (lkOf n, l) ⟨ok, g⟩) (hr.mono (by omega)) (ra_cons (rv_sub (rv_var 5) fun H v z => lstT_P z) ra_nil)) fun _ _ _ => trivial) ra_nil))))) fun H v z => ⟨⟨some mx, hbd⟩, z⟩)
end
end TF
set_option Elab.async false
set_option linter.all false
set_option maxRecDepth 100000
set_option maxHeartbeats 4000000
/-! W36: what the law is told of wide heaps, of bounds. -/
namespace TF
open PySem PySem.Spec PyProof.Rows L2 WD
open PyProof.Rows (envOfC)
def wtP (K : PySem.W.Frag) (L : Lk) : SP := exP (ι := { t : Option (List Wide) // ∀ ws, t = some ws → Wid L ws }) fun t => dat K (match t.1 with | none => .none | some ws => wsD ws)
def btS (K : PySem.W.Frag) : Option (Option Int) → SP
  | none => dat K .none
  | some r => bdS K r
def btP (K : PySem.W.Frag) (L : Lk) (i : Nat) : SP := exP (ι := { t : Option (Option Int) // ∀ r, t = some r → Bd0 L i r }) fun t => btS K t.1
section
variable {X : Cx} {an : An} {K : PySem.W.Frag} {ρ : TF.Env} {W : Wd} {a b c : Expr} {pos : Pos} {x y z : Str}
/-- x == y == z, texts -/
theorem rt_chainEqS (ha : RV X an a ρ W W (dat K (.str x))) (hb : RV X an b ρ W W (dat K (.str y))) (hc : RV X an c ρ W W (dat K (.str z))) (hm : lastMarks [.Eq, .Eq] [b, c] = false := by with_unfolding_all rfl) :
    RT X an (.Compare a [.Eq, .Eq] [b, c] pos) ρ W W (decide (x = y) && decide (y = z)) :=
  PTimp (pt_chain op_eq op_eq ha hb hc hm) fun σ H Q ⟨O, m, q⟩ => ⟨O, m, fun u H1 m1 s1 p1 => ⟨O, m1, fun v H2 m2 s2 p2 => by
    rw [dat_str p1, dat_str p2]
    refine ⟨rfl, _, rfl, ?_⟩
    rw [dec_str, Bool.beq_eq_decide_eq]
    by_cases h : x = y
    · have ed : (decide (x = y) && decide (y = z)) = decide (y = z) := by simp [h]
      rw [ed] at q
      rw [decide_eq_true h]
      refine iteT ⟨O, m2, fun w H3 m3 s3 p3 => ?_⟩
      rw [dat_str p3]
      refine ⟨rfl, _, rfl, ?_⟩
      rw [dec_str, Bool.beq_eq_decide_eq]
      exact q H3 m3 ((s1.trans s2).trans s3)
    · have ed : (decide (x = y) && decide (y = z)) = false := by simp [h]
      rw [ed] at q
      rw [decide_eq_false h]
      exact iteF ⟨false, rfl, q H2 m2 (s1.trans s2)⟩⟩⟩
end
section
variable {P : Program} {w : World} {K : PySem.W.Frag} {mg : Str → Option Value} {base : Heap} (T : TF.Txt K mg)
include T
theorem kb_bound : ∃ mv : List Value, KBn K (fdAt K (He.ga K "bound")) ["net", "place", "most"] 2 [] (fun us ws => us ++ (mv ++ ws)) (fun vs zs => vs ++ ([V.int 2000] ++ zs)) :=
  T.f_bound.kbinds0 2 [] [("most", V.int 2000)] (fun vs mz zs => vs ++ (mz ++ zs)) (by simp) (fun q h => h) (fun r1 r2 r3 => r1.append (r2.append r3)) fun D doc pm an cdv ct us mv ws h1 h2 h3 => by
    obtain ⟨a, b, rfl⟩ := len2 h1
    obtain ⟨c, rfl⟩ := len1 h2
    have e : ws = [] := List.length_eq_zero_iff.mp h3
    subst e
    exact ⟨_, _, _, _, _, _, rfl, rfl, rfl⟩
theorem w_L_wides : O_L_wides P w K mg base CX0 9 (pureSp (ι := Net) (fun n => [dat K (netD n)]) OkNet (fun n => wtP K (lkOf n))) := by
  refine okPure T.f_L_wides (N := N_L_wides) (by constructor <;> first | rfl | decide | decide +kernel) (fun _ => rfl) fun cdv A1 outer s H E hr n hq an => ?_
  have ok : OkNet n := hq
  refine rs_set 1 (rv_non (K := K)) ?_
  refine rs_set 2 (rv_non (K := K)) ?_
  refine rs_cons (rs_try (i := 2) (j := 1) (k := 3) (xo := True) (P := widP K (lkOf n)) (Ps := [dat K (netD n), dat K (.int 60)]) (W' := []) (C := He.ga K "NetError")
    (tA an _ [] [] [dat K (netD n), dat K (.int 60)]) (mkSpX (TGa K) (ι := Net × Nat) (fun q => [dat K (netD q.1), dat K (.int (q.2 : Int))]) (fun _ => []) (fun _ => []) (fun q => OkNet q.1 ∧ 1 ≤ q.2 ∧ q.2 ≤ 2000) (fun _ => True) (fun q => widP K (lkOf q.1)))
    ?F (fun σ H Q q => q) (mkSpX_ok ((n, 60) : Net × Nat) ⟨ok, by show 1 ≤ 60; decide, by show 60 ≤ 2000; decide⟩) (by exact of_decide_eq_true (by kernel_rfl)) rfl rfl rfl rfl rfl rfl ⟨rfl, rfl, .inl T.g_NetError⟩ T.exmN rfl rfl (of_decide_eq_true (by rfl)) rfl rfl rfl rfl rfl rfl rfl) ?_
  case F =>
    intro W pn xe tk
    refine PEimp (pe_callNS (w_widest T) hr rfl T.g_widest T.f_widest.kp (kb_widest T) (fun σ => passAt tk σ) (ra_cons (rv_var 0) ra_nil) (pk_cons pe_int pk_nil)) fun σ H Q ⟨O, m, q⟩ => ⟨O, m, fun vs H1 m1 s1 sat => ?_⟩
    have hl := sat.length
    exact ⟨hl.symm, rfl, q (vs ++ [V.int 60]) H1 m1 s1 (sat.snoc (P := dat K (.int 60)) (.int 60))⟩
  rintro ρ1 W1 ⟨rfl, h⟩
  rcases h with rfl | ⟨hx, rfl⟩
  · exact rs_end (rv_sub (P := widP K (lkOf n)) (rv_ixL (K := K) (k := 0) rfl (rv_sub (rv_lst (Ps := [widP K (lkOf n), dat K .none]) (ra_cons (rv_var 2) (ra_cons rv_non ra_nil))) fun H v z => lstT_P z) (rv_to (rv_intB T.n_int (rv_notN (K := K) (nonP_dat (d := .none)) (rv_var 1))) rfl)) fun H v ⟨⟨ws, hw⟩, z⟩ => ⟨⟨some ws, fun _ e => by cases e; exact hw⟩, z⟩)
  · exact rs_end (rv_sub (P := dat K .none) (rv_ixL (K := K) (k := 1) rfl (rv_sub (rv_lst (Ps := [dat K .none, dat K .none]) (ra_cons (rv_var 2) (ra_cons rv_non ra_nil))) fun H v z => lstT_P z) (rv_to (rv_intB T.n_int (rv_notN (K := K) nonP_ref (rv_var 1))) rfl)) fun H v z => ⟨⟨none, fun _ e => nomatch e⟩, z⟩)
structure LbQ where
  n : Net
  x : Str
theorem w_L_bound : O_L_bound P w K mg base CX0 9 (pureSp (ι := LbQ) (fun q => [dat K (netD q.n), dat K (.str q.x)]) (fun q => OkNet q.n ∧ q.x ∈ q.n.names) (fun q => btP K (lkOf q.n) (q.n.names.idxOf q.x))) := by
  refine okPure T.f_L_bound (N := N_L_bound) (by constructor <;> first | rfl | decide | decide +kernel) (fun _ => rfl) fun cdv A1 outer s H E hr q hq an => ?_
  obtain ⟨n, x⟩ := q
  obtain ⟨ok, hx⟩ := hq
  have ok : OkNet n := ok
  have hx : x ∈ n.names := hx
  refine rs_set 2 (rv_non (K := K)) ?_
  refine rs_set 3 (rv_non (K := K)) ?_
  refine rs_cons (rs_try (i := 3) (j := 2) (k := 4) (xo := True) (P := bndP K (lkOf n) (n.names.idxOf x)) (Ps := [dat K (netD n), dat K (.str x), dat K (.int 2000)]) (W' := []) (C := He.ga K "TooGreat")
    (tA an _ [] [] [dat K (netD n), dat K (.str x), dat K (.int 2000)]) (mkSpX (TGa K) (ι := BdQ) (fun q => [dat K (netD q.n), dat K (.str q.x), dat K (.int (q.most : Int))]) (fun _ => []) (fun _ => []) BdOk (fun _ => True) (fun q => bndP K (lkOf q.n) (q.n.names.idxOf q.x)))
    ?F (fun σ H Q q => q) (mkSpX_ok (⟨n, x, 2000⟩ : BdQ) ⟨ok, hx, by show 1 ≤ 2000; decide, by show 2000 ≤ 2000; decide⟩) (by exact of_decide_eq_true (by kernel_rfl)) rfl rfl rfl rfl rfl rfl ⟨rfl, rfl, .inl T.g_TooGreat⟩ T.exmT rfl rfl (of_decide_eq_true (by rfl)) rfl rfl rfl rfl rfl rfl rfl) ?_
  case F =>
    intro W pn xe tk
    obtain ⟨mv, kb⟩ := kb_bound T
    refine PEimp (pe_callNS (w_bound T) hr rfl T.g_bound T.f_bound.kp kb (fun σ => passAt tk σ) (ra_cons (rv_var 0) (ra_cons (rv_var 1) ra_nil)) pk_nil) fun σ H Q ⟨O, m, q⟩ => ⟨O, m, fun vs H1 m1 s1 sat => ?_⟩
    have hl := sat.length
    exact ⟨hl.symm, rfl, q (vs ++ [V.int 2000]) H1 m1 s1 (sat.snoc (P := dat K (.int 2000)) (.int 2000))⟩
  rintro ρ1 W1 ⟨rfl, h⟩
  rcases h with rfl | ⟨hx, rfl⟩
  · exact rs_end (rv_sub (P := bndP K (lkOf n) (n.names.idxOf x)) (rv_ixL (K := K) (k := 0) rfl (rv_sub (rv_lst (Ps := [bndP K (lkOf n) (n.names.idxOf x), dat K .none]) (ra_cons (rv_var 3) (ra_cons rv_non ra_nil))) fun H v z => lstT_P z) (rv_to (rv_intB T.n_int (rv_notN (K := K) (nonP_dat (d := .none)) (rv_var 2))) rfl)) fun H v ⟨⟨r, hr⟩, z⟩ => ⟨⟨some r, fun _ e => by cases e; exact hr⟩, z⟩)
  · exact rs_end (rv_sub (P := dat K .none) (rv_ixL (K := K) (k := 1) rfl (rv_sub (rv_lst (Ps := [dat K .none, dat K .none]) (ra_cons (rv_var 3) (ra_cons rv_non ra_nil))) fun H v z => lstT_P z) (rv_to (rv_intB T.n_int (rv_notN (K := K) nonP_ref (rv_var 2))) rfl)) fun H v z => ⟨⟨none, fun _ e => nomatch e⟩, z⟩)
end
end TF
set_option Elab.async false
set_option linter.all false
set_option maxRecDepth 100000
set_option maxHeartbeats 4000000
/-! W37: wide heaps and bounds of a net and a greater one. -/
namespace TF
open PySem PySem.Spec PyProof.Rows L2 WD
open PyProof.Rows (envOfC)
theorem bd_ge {L L' : Lk} (m : Mor L L') {i : Nat} (hi : i < L.places.length) {x : Heap0} (r : Run L.fs L.begin x) : ∃ y, Run L'.fs L'.begin y ∧ x.getD i 0 ≤ y.getD i 0 := by
  have b := begin_is m.ok
  have hx := r.isH (fun f hf => m.ok.isF hf) b
  obtain ⟨y, ry, o⟩ := m.cvr hx ⟨x, r, ov_refl x⟩
  have b' := begin_is m.ok'
  have hy := ry.isH (fun f hf => m.ok'.isF hf) b'
  rw [m.pl] at hy
  exact ⟨y, ry, (ov_at hy.l hx.l).mp o i hi⟩
theorem bd_mono1 {L L' : Lk} (m : Mor L L') {i : Nat} (hi : i < L.places.length) {n : Int} (h : Bd0 L i none) (k : Bd0 L' i (some n)) : False := by
  obtain ⟨x, r, hx⟩ := h (n + 1)
  obtain ⟨y, ry, hy⟩ := bd_ge m hi r
  have := k.2 y ry
  omega
theorem bd_mono2 {L L' : Lk} (m : Mor L L') {i : Nat} (hi : i < L.places.length) {a b : Int} (h : Bd0 L i (some a)) (k : Bd0 L' i (some b)) : a ≤ b := by
  obtain ⟨⟨x, r, hx⟩, _⟩ := h
  obtain ⟨y, ry, hy⟩ := bd_ge m hi r
  have := k.2 y ry
  omega
theorem wid_len {L : Lk} {ws : List Wide} (h : Wid L ws) : ∀ v, v ∈ ws → v.length = L.places.length := fun v hv => by
  obtain ⟨S, c, rfl, _⟩ := h
  exact (c.is v (mem_grt.mp hv).1).l
theorem wid_over {L L' : Lk} (m : Mor L L') {ws ws' : List Wide} (h : Wid L ws) (h' : Wid L' ws') {v : Wide} (hv : v ∈ ws) : ∃ u, u ∈ ws' ∧ isOver u v = true := by
  obtain ⟨S, c, rfl, _⟩ := h
  obtain ⟨S', c', rfl, _⟩ := h'
  have c' : Cov L.places.length L'.fs L'.begin S' := by
    rw [← m.pl]
    exact c'
  exact grt_over c c' (fun x hx k => m.cvr hx k) hv
theorem wid_tn {n : Net} (ok : OkNet n) {ws wt : List Wide} (h : Wid (lkOf n) ws) (ht : Wid (lkOf n.tn) wt) : wt = srt wLt (ws.map List.reverse) := by
  obtain ⟨S, c, rfl, _⟩ := h
  obtain ⟨S', c', rfl, _⟩ := ht
  refine tn_grt ok c ?_
  have e : (lkOf n.tn).places.length = n.names.length := by
    rw [tn_places, List.length_reverse]
    rfl
  rw [← e]
  exact c'
theorem ws_flt (l : List Wide) : Flt 2 (wsD l) := flt_lst (n := 1) fun d hd => by
  obtain ⟨w, _, rfl⟩ := List.mem_map.mp hd
  exact flt_tup (n := 0) fun d hd => by
    obtain ⟨o, _, rfl⟩ := List.mem_map.mp hd
    cases o with
    | none => exact flt_none
    | some x => exact flt_int x
theorem two_flt (a b : Int) : Flt 1 (.tuple [.int a, .int b]) := flt_tup (n := 0) fun d hd => by
  rcases List.mem_cons.mp hd with rfl | hd
  · exact flt_int _
  · rw [List.mem_singleton.mp hd]
    exact flt_int _
theorem oR_flt (o : Option Int) : Flt 1 (oR o) := by
  cases o with
  | none => exact two_flt 1 0
  | some x => exact two_flt 0 x
theorem rt_flt (w : Wide) : Flt 2 (rtD w) := flt_tup (n := 1) fun d hd => by
  obtain ⟨o, _, rfl⟩ := List.mem_map.mp hd
  exact oR_flt o
theorem rts_sh (l : List Wide) : SeqAt.shaped (.list (l.map rtD)) = true := (flt_lst (n := 2) fun d hd => by
  obtain ⟨w, _, rfl⟩ := List.mem_map.mp hd
  exact rt_flt w).shaped
theorem rts_eqv (l : List Wide) : PyData.eqv (.list (l.map rtD)) (.list (l.map rtD)) = true := by
  have h : nb (.list (l.map rtD)) = true := nbs_map fun w _ => nbs_map fun o _ => oR_nb o
  exact (eqv_iff _ _ h h).mpr rfl
theorem rtD_alike (w v : Wide) : PySem.W.alike (rtD w) (rtD v) = true := by
  unfold rtD
  rw [PySem.W.alike]
  exact oRs_alike w v
theorem rts_alike (l : List Wide) : PySem.W.AllAlike (l.map rtD) := PySem.W.AllAlike.of fun a b => rtD_alike a b
theorem rts_sortable {n : Nat} (h1 : 1 ≤ n) {l : List Wide} (hl : ∀ w, w ∈ l → w.length = n) : PySem.W.Sortable (l.map rtD) := .inl fun d hd => by
  obtain ⟨w, hw, rfl⟩ := List.mem_map.mp hd
  have e := hl w hw
  cases w with
  | nil =>
    rw [List.length_nil] at e
    omega
  | cons x r => exact ⟨oR x, r.map oR, rfl⟩
theorem ws_nil (l : List Wide) : PyData.eqv (wsD l) (.list []) = l.isEmpty := by
  unfold wsD
  cases l <;> simp [PyData.eqv, PyData.eqvAll]
theorem cut_take {Ps : List SP} {k : Nat} : cutP Ps none (some (k : Int)) = Ps.take k := by
  unfold cutP
  rw [HT.sIx_none, HT.sIx_nat, List.drop_zero, Nat.sub_zero]
  by_cases h : k ≤ Ps.length
  · rw [Nat.min_eq_left h]
  · rw [Nat.min_eq_right (by omega), List.take_length, List.take_of_length_le (by omega)]
structure WrQ where
  n : Net
  n' : Net
structure WrOk (q : WrQ) : Prop where
  ok : OkNet q.n
  ok' : OkNet q.n'
  m : Mor (lkOf q.n) (lkOf q.n')
section
variable {X : Cx} {an : An} {K : PySem.W.Frag} {ρ : TF.Env} {W W' : Wd} {e : Expr} {pos p p1 p2 p3 pos2 : Pos} {v : Wide} {j : Nat}
theorem rv_revW (ha : RV X an e ρ W W' (dat X.K (wD v))) : RV X an (.Subscript e (.Slice none none (some (.UnaryOp .USub (.Constant (.int 1) j p1) p2)) p3) pos2) ρ W W' (dat X.K (wD v.reverse)) :=
  rv_to (rv_revTD (ds := v.map oD) ha) (by rw [← List.map_reverse]; rfl)
end
section
variable {P : Program} {w : World} {K : PySem.W.Frag} {mg : Str → Option Value} {base : Heap} (T : TF.Txt K mg)
include T
theorem w_L_wides_right : O_L_wides_right P w K mg base CX0 10 (pureSp (ι := WrQ) (fun q => [dat K (netD q.n), dat K (netD q.n')]) WrOk (fun _ => dat K (.bool true))) := by
  refine okPure T.f_L_wides_right (N := N_L_wides_right) (by constructor <;> first | rfl | decide | decide +kernel) (fun _ => rfl) fun cdv A1 outer s H E hr q hq an => ?_
  obtain ⟨n, n'⟩ := q
  obtain ⟨ok, ok', m⟩ := hq
  have ok : OkNet n := ok
  have ok' : OkNet n' := ok'
  have m : Mor (lkOf n) (lkOf n') := m
  have hpl : (lkOf n').places.length = (lkOf n).places.length := by rw [m.pl]
  have z2 := (lk_ok ok).z2
  have z1 := (lk_ok ok).z1
  have hu : (A1.deeper (envOfC "_law_wides_right" (defScope s_L_wides_right) s.heap.objs.size (He.ga K "_law_wides_right") cdv)).units + 64 < cLine := hr.units
  have oks : ∀ j, j < 2 → OkNet (([n, n'] : List Net).getD j n) := fun j hj => by
    match j, hj with
    | 0, _ => exact ok
    | 1, _ => exact ok'
  refine rs_asg (P := lstP K [wtP K (lkOf n), wtP K (lkOf n')]) (rv_sub (rv_lc (n := 2) (bt := fun _ => true) (E := fun j => wtP K (lkOf (([n, n'] : List Net).getD j n))) (own := [("_law_some", 4)]) (ri_lstM (fun x : Net => dat K (netD x)) [n, n'] n (rv_sub (rv_lst (Ps := [dat K (netD n), dat K (netD n')]) (ra_cons (rv_var 0) (ra_cons (rv_var 1) ra_nil))) fun H v z => lstT_P z)) (fun s H C cl fp => pg_one 4) (fun i hi => gk_name) (by decide) (fun s H C cl fp i W hi => rts_nil)
    (fun s H C cl fp j W hj _ => rv_L_wides T (w_L_wides T) (pureSp_ok (([n, n'] : List Net).getD j n) (oks j hj)) hr (ra_cons (rv_var 4) ra_nil))) fun H v z => lstT_P z) (pg_lst2 2 3) gk_lst2 ?_
  refine rs_open (f := fun t : { t : Option (List Wide) // ∀ ws, t = some ws → Wid (lkOf n) ws } => dat K (match t.1 with | none => .none | some ws => wsD ws)) 2 fun t1 => ?_
  refine rs_open (f := fun t : { t : Option (List Wide) // ∀ ws, t = some ws → Wid (lkOf n') ws } => dat K (match t.1 with | none => .none | some ws => wsD ws)) 3 fun t2 => ?_
  obtain ⟨t1, h1⟩ := t1
  obtain ⟨t2, h2⟩ := t2
  cases t1 with
  | none =>
    exact rs_when (v := true) (rt_w (rw_or (v := true) (w := true) (rt_isN K (nonP_dat (d := .none)) (rv_var 2)) fun e => nomatch e)) (fun _ => rs_end rv_bl) fun e => nomatch e
  | some ws1 =>
    have nw : ∀ ws : List Wide, NonP (dat K (wsD ws)) false := fun ws => nonP_dat
    cases t2 with
    | none =>
      exact rs_when (v := true) (rt_w (rw_or (v := false) (w := true) (rt_isN K (nw ws1) (rv_var 2)) fun _ => rw_or1 (rt_isN K (nonP_dat (d := .none)) (rv_var 3)))) (fun _ => rs_end rv_bl) fun e => nomatch e
    | some ws2 =>
      have w1 : Wid (lkOf n) ws1 := h1 _ rfl
      have w2 : Wid (lkOf n') ws2 := h2 _ rfl
      have l1 := wid_len w1
      have l2 := wid_len w2
      rw [hpl] at l2
      refine rs_when (v := false) (rt_w (rw_or (v := false) (w := false) (rt_isN K (nw ws1) (rv_var 2)) fun _ => rw_or1 (rt_isN K (nw ws2) (rv_var 3)))) (fun e => nomatch e) fun _ => ?_
      refine rs_cons (rs_for (ri_listM wD ws1 [] (rv_var 2)) (pg_one 5) (fun i hi => gk_name)
        (fun j ρ W => (∃ x5 : Option SP, ρ = [some (dat K (netD n)), some (dat K (netD n')), some (dat K (wsD ws1)), some (dat K (wsD ws2)), none, x5, none, none, none, none, none, none]) ∧ W = []) ⟨⟨_, rfl⟩, rfl⟩ ?_) ?_
      · rintro j _ _ hj ⟨⟨x5, rfl⟩, rfl⟩
        obtain ⟨u, hu1, hu2⟩ := wid_over m w1 w2 (getD_mem (d := []) hj)
        have hem : (ws2.filter fun v => isOver v (ws1.getD j [])).isEmpty = false := by
          cases h : (ws2.filter fun v => isOver v (ws1.getD j [])) with
          | nil =>
            have : u ∈ ws2.filter fun v => isOver v (ws1.getD j []) := List.mem_filter.mpr ⟨hu1, hu2⟩
            rw [h] at this
            simp at this
          | cons a r => rfl
        refine rs_one (rs_ifS (v := false) (rt_to (rt_eqD (d := wsD (ws2.filter fun v => isOver v (ws1.getD j []))) (d' := .list []) hu (ws_flt _).shaped (flt_lst (n := 0) fun d hd => by simp at hd).shaped (rv_sub (rv_lc (n := ws2.length) (bt := fun i => (fun v : Wide => isOver v (ws1.getD j [])) (ws2.getD i [])) (E := fun i => (fun v : Wide => dat K (wD v)) (ws2.getD i [])) (own := [("_law_wide", 6)]) (ri_listM wD ws2 [] (rv_var 3)) (fun s H C cl fp => pg_one 6) (fun i hi => gk_name) (by decide)
          (fun s H C cl fp i W hi => rts_one (rt_val (rv_L_over T (w_L_over T) (pureSp_ok (⟨ws2.getD i [], ws1.getD j []⟩ : TwoW) ⟨by show (ws2.getD i []).length = (ws1.getD j []).length; rw [l2 _ (getD_mem hi), l1 _ (getD_mem hj)], by show (ws2.getD i []).length ≤ 40; rw [l2 _ (getD_mem hi)]; exact z2⟩) (hr.mono (by omega)) (ra_cons (rv_var 6) (ra_cons (rv_var 5) ra_nil))))) (fun s H C cl fp i W hi _ => rv_var 6)) fun H v z => ?_) (rv_lstD (ds := []) ra_nil)) ?_) (fun e => nomatch e) fun _ => rs_nil ⟨⟨_, rfl⟩, rfl⟩)
        · rw [selP_items (d := []) ws2 (fun v : Wide => isOver v (ws1.getD j [])) (fun v : Wide => dat K (wD v))] at z
          exact lstT_D (K := K) (f := wD) z
        · rw [ws_nil]
          exact hem
      rintro ρ1 W1 ⟨⟨x5, rfl⟩, rfl⟩
      refine rs_set 7 (rv_L_wides T (w_L_wides T) (pureSp_ok n.tn (tn_ok ok)) hr (ra_cons (rv_L_turned T (w_L_turned T) (pureSp_ok n ok) (hr.mono (by omega)) (ra_cons (rv_var 0) ra_nil)) ra_nil)) ?_
      refine rs_open (f := fun t : { t : Option (List Wide) // ∀ ws, t = some ws → Wid (lkOf n.tn) ws } => dat K (match t.1 with | none => .none | some ws => wsD ws)) 7 fun t3 => ?_
      obtain ⟨t3, h3⟩ := t3
      have lr : ∀ v, v ∈ ws1.map List.reverse → v.length = (lkOf n).places.length := fun v hv => by
        obtain ⟨x, hx, rfl⟩ := List.mem_map.mp hv
        rw [List.length_reverse]
        exact l1 x hx
      refine rs_set 8 (rv_sub (rv_sortedD (ds := (ws1.map List.reverse).map rtD) hu T.n_sorted (rv_sub (rv_lc (n := ws1.length) (bt := fun _ => true) (E := fun i => (fun v : Wide => dat K (rtD v.reverse)) (ws1.getD i [])) (own := [("_law_heap", 5)]) (ri_listM wD ws1 [] (rv_var 2)) (fun s H C cl fp => pg_one 5) (fun i hi => gk_name) (by decide) (fun s H C cl fp i W hi => rts_nil)
        (fun s H C cl fp i W hi _ => rv_L_rank T (w_L_rank T) (pureSp_ok (ws1.getD i []).reverse trivial) (hr.mono (by omega)) (ra_cons (rv_revW (rv_var 5)) ra_nil))) fun H v z => lstT_P (K := K) ?_) (rts_alike _) (rts_sortable z1 lr) (fun d hd => ?_)) (P' := dat K (.list ((srt wLt (ws1.map List.reverse)).map rtD))) fun H v z => ?_) ?_
      · rw [selP_all T (fun v : Wide => dat K (rtD v.reverse)) ws1 [] rfl] at z
        rw [List.map_map, List.map_map]
        exact z
      · obtain ⟨v, _, rfl⟩ := List.mem_map.mp hd
        exact Nat.le_trans (rt_flt v).2 (by decide)
      · rw [srtD_enc rtD_lt, List.map_map] at z
        exact lstT_D (K := K) (f := rtD) z
      have hlast : ∀ d7 : Option SP, RSs (cxOf CX0 P w K mg base N_L_wides_right "_law_wides_right" (defScope s_L_wides_right) (He.ga K "_law_wides_right") cdv A1 outer s H E).nox an [(defBody s_L_wides_right).getD 6 (.Pass ⟨0, 0, 0, 0⟩), (defBody s_L_wides_right).getD 7 (.Pass ⟨0, 0, 0, 0⟩)]
          [some (dat K (netD n)), some (dat K (netD n')), some (dat K (wsD ws1)), some (dat K (wsD ws2)), none, x5, none, d7, some (dat K (.list ((srt wLt (ws1.map List.reverse)).map rtD))), none, none, none] [] (fun _ _ => ∀ H, (dat K (.bool true)).p H .non) (dat K (.bool true)) [] := fun d7 => by
        have hnl : n.names.length = n.places.length := List.length_map _
        refine rs_cons (rs_for (ri_tupE (Y := fun j => dat K (partD (n.places.getD j ("", 0)))) (n := min 2 n.places.length) (rv_slT (Ps := n.places.map fun p => dat K (partD p)) (rv_sub (rv_net0 (rv_var 0) rv_int) fun H v z => ?_) ro_none (ro_some (rv_int (K := K) (i := ((2 : Nat) : Int))))) ?_ ?_) (pg_one 9) (fun i hi => gk_name)
          (fun j ρ W => (∃ x9 x10 x11 : Option SP, ρ = [some (dat K (netD n)), some (dat K (netD n')), some (dat K (wsD ws1)), some (dat K (wsD ws2)), none, x5, none, d7, some (dat K (.list ((srt wLt (ws1.map List.reverse)).map rtD))), x9, x10, x11]) ∧ W = []) ⟨⟨_, _, _, rfl⟩, rfl⟩ ?_) ?_
        · have z2 := dat_tupP (K := K) z
          rw [List.map_map] at z2
          exact z2
        · rw [cut_take, List.length_take, List.length_map]
        · intro i hi
          rw [cut_take]
          have hi2 : i < n.places.length := by omega
          rw [List.getD_eq_getElem?_getD, List.getElem?_take, if_pos (by omega), List.getElem?_map, List.getElem?_eq_getElem hi2, List.getD_eq_getElem?_getD, List.getElem?_eq_getElem hi2]
          exact Imp.refl
        · rintro j _ _ hj ⟨⟨x9, x10, x11, rfl⟩, rfl⟩
          have hjl : j < n.places.length := by omega
          have hpm : n.places.getD j ("", 0) ∈ n.places := getD_mem hjl
          have hxm : (n.places.getD j ("", 0)).1 ∈ n.names := List.mem_map.mpr ⟨_, hpm, rfl⟩
          have hnn : n'.names = n.names := m.pl
          have oksx : ∀ i, i < 2 → OkNet (([n, n'] : List Net).getD i n) ∧ (n.places.getD j ("", 0)).1 ∈ (([n, n'] : List Net).getD i n).names := fun i hi => by
            match i, hi with
            | 0, _ => exact ⟨ok, hxm⟩
            | 1, _ => exact ⟨ok', by show _ ∈ n'.names; rw [hnn]; exact hxm⟩
          have hix : n.names.idxOf (n.places.getD j ("", 0)).1 < (lkOf n).places.length := idx_lt hxm
          refine rs_asg (P := lstP K [btP K (lkOf n) (n.names.idxOf (n.places.getD j ("", 0)).1), btP K (lkOf n') (n'.names.idxOf (n.places.getD j ("", 0)).1)]) (rv_sub (rv_lc (n := 2) (bt := fun _ => true) (E := fun i => btP K (lkOf (([n, n'] : List Net).getD i n)) ((([n, n'] : List Net).getD i n).names.idxOf (n.places.getD j ("", 0)).1)) (own := [("_law_some", 4)]) (ri_lstM (fun x : Net => dat K (netD x)) [n, n'] n (rv_sub (rv_lst (Ps := [dat K (netD n), dat K (netD n')]) (ra_cons (rv_var 0) (ra_cons (rv_var 1) ra_nil))) fun H v z => lstT_P z)) (fun s H C cl fp => pg_one 4) (fun i hi => gk_name) (by decide) (fun s H C cl fp i W hi => rts_nil)
            (fun s H C cl fp i W hi _ => rv_L_bound T (w_L_bound T) (pureSp_ok (⟨([n, n'] : List Net).getD i n, (n.places.getD j ("", 0)).1⟩ : LbQ) (oksx i hi)) hr (ra_cons (rv_var 4) (ra_cons (rv_ixTD (K := K) (ds := [.str (n.places.getD j ("", 0)).1, .int (n.places.getD j ("", 0)).2]) (k := 0) rfl (rv_var 9) rv_int) ra_nil)))) fun H v z => lstT_P z) (pg_lst2 10 11) gk_lst2 ?_
          rw [hnn]
          generalize n.names.idxOf (n.places.getD j ("", 0)).1 = ix at hix ⊢
          refine rs_open (f := fun t : { t : Option (Option Int) // ∀ r, t = some r → Bd0 (lkOf n) ix r } => btS K t.1) 10 fun f1 => ?_
          refine rs_open (f := fun t : { t : Option (Option Int) // ∀ r, t = some r → Bd0 (lkOf n') ix r } => btS K t.1) 11 fun f2 => ?_
          obtain ⟨f1, g1⟩ := f1
          obtain ⟨f2, g2⟩ := f2
          have nb : ∀ r : Option Int, NonP (btS K (some r)) false := fun r H v h => by
            cases r with
            | none =>
              obtain ⟨a, xs, rfl, _⟩ := h
              rfl
            | some x =>
              obtain ⟨a, xs, rfl, _⟩ := h
              rfl
          cases f1 with
          | none => exact rs_one (rs_ifS (v := false) (rt_w (rw_and (v := false) (w := false) (rt_notN (c := true) K (nonP_dat (d := .none)) (rv_var 10)) fun e => nomatch e)) (fun e => nomatch e) fun _ => rs_nil ⟨⟨_, _, _, rfl⟩, rfl⟩)
          | some r1 =>
            cases f2 with
            | none => exact rs_one (rs_ifS (v := false) (rt_w (rw_and (v := true) (w := false) (rt_notN (c := false) K (nb r1) (rv_var 10)) fun _ => rw_and1 (rt_notN (c := true) K (nonP_dat (d := .none)) (rv_var 11)))) (fun e => nomatch e) fun _ => rs_nil ⟨⟨_, _, _, rfl⟩, rfl⟩)
            | some r2 =>
              have b1 := g1 _ rfl
              have b2 := g2 _ rfl
              refine rs_one (rs_ifS (v := true) (rt_w (rw_and (v := true) (w := true) (rt_notN (c := false) K (nb r1) (rv_var 10)) fun _ => rw_and1 (rt_notN (c := false) K (nb r2) (rv_var 11)))) (fun _ => ?_) fun e => nomatch e)
              cases r1 with
              | none =>
                cases r2 with
                | some y => exact (bd_mono1 m hix b1 b2).elim
                | none =>
                  refine rs_when (v := false) (rt_w (rw_and (v := true) (w := false) (rt_to (rt_eqS (K := K) (x := "more") (y := "more") (rv_ixT (K := K) (Ps := [dat K (.str "more"), anyP]) (k := 0) rfl (rv_var 10) rv_int) rv_str) (by decide)) fun _ => rw_and1 (rt_to (rt_neS (K := K) (x := "more") (y := "more") (rv_ixT (K := K) (Ps := [dat K (.str "more"), anyP]) (k := 0) rfl (rv_var 11) rv_int) rv_str) (by decide)))) (fun e => nomatch e) fun _ => ?_
                  exact rs_one (rs_ifS (v := false) (rt_w (rw_and (v := false) (w := false) (rt_to (rt_chainEqS (x := "more") (y := "most") (z := "more") (rv_ixT (K := K) (Ps := [dat K (.str "more"), anyP]) (k := 0) rfl (rv_var 10) rv_int) rv_str (rv_ixT (K := K) (Ps := [dat K (.str "more"), anyP]) (k := 0) rfl (rv_var 11) rv_int)) (by decide)) fun e => nomatch e)) (fun e => nomatch e) fun _ => rs_nil ⟨⟨_, _, _, rfl⟩, rfl⟩)
              | some x =>
                refine rs_when (v := false) (rt_w (rw_and (v := false) (w := false) (rt_to (rt_eqS (K := K) (x := "most") (y := "more") (rv_ixT (K := K) (Ps := [dat K (.str "most"), dat K (.int x), anyP, anyP]) (k := 0) rfl (rv_var 10) rv_int) rv_str) (by decide)) fun e => nomatch e)) (fun e => nomatch e) fun _ => ?_
                cases r2 with
                | none =>
                  exact rs_one (rs_ifS (v := false) (rt_w (rw_and (v := false) (w := false) (rt_to (rt_chainEqS (x := "most") (y := "most") (z := "more") (rv_ixT (K := K) (Ps := [dat K (.str "most"), dat K (.int x), anyP, anyP]) (k := 0) rfl (rv_var 10) rv_int) rv_str (rv_ixT (K := K) (Ps := [dat K (.str "more"), anyP]) (k := 0) rfl (rv_var 11) rv_int)) (by decide)) fun e => nomatch e)) (fun e => nomatch e) fun _ => rs_nil ⟨⟨_, _, _, rfl⟩, rfl⟩)
                | some y =>
                  have hxy := bd_mono2 m hix b1 b2
                  exact rs_one (rs_ifS (v := false) (rt_w (rw_and (v := true) (w := false) (rt_to (rt_chainEqS (x := "most") (y := "most") (z := "most") (rv_ixT (K := K) (Ps := [dat K (.str "most"), dat K (.int x), anyP, anyP]) (k := 0) rfl (rv_var 10) rv_int) rv_str (rv_ixT (K := K) (Ps := [dat K (.str "most"), dat K (.int y), anyP, anyP]) (k := 0) rfl (rv_var 11) rv_int)) (by decide)) fun _ => rw_and1 (rt_to (rt_gt (K := K) (rv_ixT (K := K) (Ps := [dat K (.str "most"), dat K (.int x), anyP, anyP]) (k := 1) rfl (rv_var 10) rv_int) (rv_ixT (K := K) (Ps := [dat K (.str "most"), dat K (.int y), anyP, anyP]) (k := 1) rfl (rv_var 11) rv_int)) (decide_eq_false (by omega))))) (fun e => nomatch e) fun _ => rs_nil ⟨⟨_, _, _, rfl⟩, rfl⟩)
        · rintro ρ1 W1 ⟨⟨x9, x10, x11, rfl⟩, rfl⟩
          exact rs_end rv_bl
      cases t3 with
      | none => exact rs_when (v := false) (rt_w (rw_and (v := false) (w := false) (rt_notN (c := true) K (nonP_dat (d := .none)) (rv_var 7)) fun e => nomatch e)) (fun e => nomatch e) fun _ => hlast _
      | some ws3 =>
        have e3 := wid_tn ok w1 (h3 _ rfl)
        subst e3
        refine rs_when (v := false) (rt_w (rw_and (v := true) (w := false) (rt_notN (c := false) K (nw _) (rv_var 7)) fun _ => rw_and1 (rt_to (rt_neD (d := .list ((srt wLt (ws1.map List.reverse)).map rtD)) (d' := .list ((srt wLt (ws1.map List.reverse)).map rtD)) hu (rts_sh _) (rts_sh _) (rv_var 8) (rv_sub (rv_lc (n := (srt wLt (ws1.map List.reverse)).length) (bt := fun _ => true) (E := fun i => (fun v : Wide => dat K (rtD v)) ((srt wLt (ws1.map List.reverse)).getD i [])) (own := [("_law_heap", 5)]) (ri_listM wD (srt wLt (ws1.map List.reverse)) [] (rv_var 7)) (fun s H C cl fp => pg_one 5) (fun i hi => gk_name) (by decide) (fun s H C cl fp i W hi => rts_nil)
          (fun s H C cl fp i W hi _ => rv_L_rank T (w_L_rank T) (pureSp_ok ((srt wLt (ws1.map List.reverse)).getD i []) trivial) (hr.mono (by omega)) (ra_cons (rv_var 5) ra_nil))) fun H v z => ?_)) (by rw [rts_eqv]; rfl)))) (fun e => nomatch e) fun _ => hlast _
        rw [selP_all T (fun v : Wide => dat K (rtD v)) (srt wLt (ws1.map List.reverse)) [] rfl] at z
        exact lstT_D (K := K) (f := rtD) z
end
end TF
set_option Elab.async false
set_option linter.all false
set_option maxRecDepth 100000
set_option maxHeartbeats 4000000
/-! D7: the greater nets of the law. -/
namespace TF
open PySem PySem.Spec PyProof.Rows L2 WD
def plG (n : Net) : List (Str × Int × Int) := n.places.map fun p => (p.1, p.2, p.2 + 3 - 1)
def Net.pl (n : Net) (ps : List (Str × Int)) : Net := ⟨ps, n.firs⟩
def fltP (names : List Str) (ps : List (Str × Int)) : List (Str × Int) := ps.filter fun p => decide (p.1 ∈ names)
def exF (n : Net) (f : Fir) : Fir := ⟨"extra", "", fltP n.names f.takes, fltP n.names f.gives⟩
def Net.wd (n : Net) (f : Fir) : Net := ⟨n.places, n.firs ++ [exF n f]⟩
/-- a firing over some of the five names -/
structure XFir (f : Fir) : Prop where
  tk : (f.takes.map Prod.fst).Sublist base5 ∧ ∀ p, p ∈ f.takes → 1 ≤ p.2 ∧ p.2 ≤ 2
  gv : (f.gives.map Prod.fst).Sublist base5 ∧ ∀ p, p ∈ f.gives → 1 ≤ p.2 ∧ p.2 ≤ 2
theorem gnet_x {n : Net} (g : GNet n) {f : Fir} (hf : f ∈ n.firs) : XFir f := by
  obtain ⟨k, _, _, e⟩ := g.nm
  obtain ⟨h1, h2⟩ := g.fp f hf
  rw [e] at h1 h2
  exact ⟨⟨h1.sub.trans (List.take_sublist _ _), h1.cnt⟩, ⟨h2.sub.trans (List.take_sublist _ _), h2.cnt⟩⟩
theorem base_flt : ∀ k, 1 ≤ k → k ≤ 5 → base5.filter (fun x => decide (x ∈ base5.take k)) = base5.take k
  | 0, h, _ => by omega
  | 1, _, _ => by decide +kernel
  | 2, _, _ => by decide +kernel
  | 3, _, _ => by decide +kernel
  | 4, _, _ => by decide +kernel
  | 5, _, _ => by decide +kernel
  | n + 6, _, h => by omega
theorem flt_ok {n : Net} (g : GNet n) {ps : List (Str × Int)} (h : (ps.map Prod.fst).Sublist base5 ∧ ∀ p, p ∈ ps → 1 ≤ p.2 ∧ p.2 ≤ 2) : OkParts n.names (fltP n.names ps) := by
  obtain ⟨k, k1, k5, e⟩ := g.nm
  refine ⟨?_, fun p hp => ?_⟩
  · have e1 : (fltP n.names ps).map Prod.fst = (ps.map Prod.fst).filter fun x => decide (x ∈ n.names) := by
      unfold fltP
      rw [List.filter_map]
      rfl
    rw [e1, e]
    have h2 := h.1.filter fun x => decide (x ∈ base5.take k)
    rw [base_flt k k1 k5] at h2
    exact h2
  · have := h.2 p (List.mem_filter.mp hp).1
    omega
theorem ex_ok : OkName "extra" := okn _ (by decide +kernel)
theorem wd_ok {n : Net} (g : GNet n) {f : Fir} (x : XFir f) : OkNet (n.wd f) := ⟨g.ok.pn, g.ok.pd, g.ok.p1, g.ok.p2, fun h hh => by
  rcases List.mem_append.mp hh with m | m
  · exact g.ok.fo h m
  · rw [List.mem_singleton.mp m]
    exact ⟨ex_ok, .inr rfl, flt_ok g x.tk, flt_ok g x.gv⟩, by
  show ((n.firs ++ [exF n f]).map Fir.name).Nodup
  rw [List.map_append]
  refine List.nodup_append.mpr ⟨g.ok.fd, by simp, fun a ha b hb e => ?_⟩
  obtain ⟨h, hh, rfl⟩ := List.mem_map.mp ha
  have hb : b = "extra" := List.mem_singleton.mp hb
  exact g.fn h hh (e.trans hb), by
  show (n.firs ++ [exF n f]).length ≤ 60
  rw [List.length_append]
  have := g.f6
  show n.firs.length + 1 ≤ 60
  omega⟩
theorem wd_mor {n : Net} (g : GNet n) {f : Fir} (x : XFir f) : Mor (lkOf n) (lkOf (n.wd f)) := ⟨lk_ok g.ok, lk_ok (wd_ok g x), rfl, ov_refl _, fun h hh => by
  obtain ⟨a, ha, rfl⟩ := List.mem_map.mp hh
  exact List.mem_map.mpr ⟨a, List.mem_append_left _ ha, rfl⟩⟩
theorem plG_names (n : Net) : (plG n).map Prod.fst = n.names := by
  unfold plG
  rw [List.map_map]
  rfl
theorem pl_names {n : Net} {ps : List (Str × Int)} (r : Rg (plG n) ps) : (n.pl ps).names = n.names := r.names.trans (plG_names n)
theorem pl_ok {n : Net} (g : GNet n) {ps : List (Str × Int)} (r : Rg (plG n) ps) : OkNet (n.pl ps) := by
  have en := pl_names r
  have hlen : ps.length = n.places.length := by
    have z := congrArg List.length en
    rw [show (n.pl ps).names = ps.map Prod.fst from rfl, show n.names = n.places.map Prod.fst from rfl, List.length_map, List.length_map] at z
    exact z
  have hc := r.all (Q := fun c => 0 ≤ c ∧ c ≤ 999999999) fun t ht c h1 h2 => by
    obtain ⟨p, hp, rfl⟩ := List.mem_map.mp ht
    have a := (g.ok.pn p hp).2.1
    have b := g.pc p hp
    have h1 : p.2 ≤ c := h1
    have h2 : c ≤ p.2 + 3 - 1 := h2
    omega
  refine ⟨fun p hp => ⟨?_, hc p hp⟩, by rw [en]; exact g.ok.pd, by show 1 ≤ ps.length; rw [hlen]; exact g.ok.p1, by show ps.length ≤ 40; rw [hlen]; exact g.ok.p2, fun f hf => by rw [en]; exact g.ok.fo f hf, g.ok.fd, g.ok.f2⟩
  have hm : p.1 ∈ (n.pl ps).names := List.mem_map.mpr ⟨p, hp, rfl⟩
  rw [en] at hm
  obtain ⟨q, hq, e⟩ := List.mem_map.mp hm
  rw [← e]
  exact (g.ok.pn q hq).1
theorem rg_ge : ∀ {l : List (Str × Int)} {ps : List (Str × Int)}, Rg (l.map fun p => (p.1, p.2, p.2 + 3 - 1)) ps → ∀ i, (l.map Prod.snd).getD i 0 ≤ (ps.map Prod.snd).getD i 0
  | [], _, h, i => by
    cases h
    exact Int.le_refl _
  | p :: l, _, h, i => by
    cases h with
    | cons h t =>
      cases i with
      | zero => exact h.2.1
      | succ i => exact rg_ge t i
theorem pl_mor {n : Net} (g : GNet n) {ps : List (Str × Int)} (r : Rg (plG n) ps) : Mor (lkOf n) (lkOf (n.pl ps)) := by
  have en := pl_names r
  have ok := lk_ok g.ok
  have ok' := lk_ok (pl_ok g r)
  refine ⟨ok, ok', en, ?_, fun f hf => ?_⟩
  · have hl : (lkOf (n.pl ps)).begin.length = (lkOf n).places.length := by
      rw [ok'.bl]
      show (n.pl ps).names.length = n.names.length
      rw [en]
    exact (ov_at hl ok.bl).mpr fun i hi => rg_ge r i
  · show f ∈ n.firs.map (sfOf (n.pl ps).names)
    rw [en]
    exact hf
end TF
set_option Elab.async false
set_option linter.all false
set_option maxRecDepth 100000
set_option maxHeartbeats 4000000
/-! W38: the law. -/
namespace TF
open PySem PySem.Spec PyProof.Rows L2 WD
open PyProof.Rows (envOfC)
theorem k_pre {P1 P1' P2 P : SP} {r : R2} (i : Imp P1 P1') (h : R2Ok r P1' P2 P) : R2Ok r P1 P2 P := fun O H x y Q l p1 p2 q => h O H x y Q l (i _ _ p1) p2 q
def firsP (K : PySem.W.Frag) : SP := exP (ι := { n : Net // GNet n }) fun n => dat K (.tuple (n.1.firs.map firD))
def xfP (K : PySem.W.Frag) : SP := exP (ι := { f : Fir // XFir f }) fun f => dat K (firD f.1)
section
variable {X : Cx} {an : An} {K : PySem.W.Frag} {ρ : TF.Env} {W W1 W2 : Wd} {a b : Expr} {pos : Pos} {Ps : List SP} {P : SP} {k : Nat}
theorem k_ixT (hk : Ps[k]? = some P) : R2Ok (rIxT X.K) (tupP X.K Ps) (dat K (.int (k : Int))) P := fun O H v w Q l ⟨p, xs, e, hq, sat⟩ p2 q => by
  obtain ⟨u, hu, hp⟩ := sat_at sat hk
  exact ⟨p, xs, _, u, e, dat_int p2, same_t mn_le hq, atI_nat hu, q u H (Same.refl H) hp⟩
theorem rv_net1E (ha : RV X an a ρ W W1 (netP X.K)) (hb : RV X an b ρ W1 W2 (dat X.K (.int 1))) (hs : PlainIx b := by exact fun _ _ => rfl) : RV X an (.Subscript a b pos) ρ W W2 (firsP X.K) :=
  rv_ix (P1 := netP X.K) (P2 := dat X.K (.int ((1 : Nat) : Int))) ix_tup (k_ex (f := fun n : { n : Net // GNet n } => dat X.K (netD n.1)) fun n => k_imp (k_pre (P1' := tupP X.K ([partsD n.1.places, .tuple (n.1.firs.map firD)].map (dat X.K))) (fun H v z => dat_tupP z) (k_ixT (X := X) (k := 1) (P := dat X.K (.tuple (n.1.firs.map firD))) rfl)) fun H v z => ⟨n, z⟩) ha hb hs
theorem rv_fir0E (ha : RV X an a ρ W W1 (firsP X.K)) (hb : RV X an b ρ W1 W2 (dat X.K (.int 0))) (hs : PlainIx b := by exact fun _ _ => rfl) : RV X an (.Subscript a b pos) ρ W W2 (xfP X.K) :=
  rv_ix (P1 := firsP X.K) (P2 := dat X.K (.int ((0 : Nat) : Int))) ix_tup (k_ex (f := fun n : { n : Net // GNet n } => dat X.K (.tuple (n.1.firs.map firD))) fun n => by
    obtain ⟨n, g⟩ := n
    obtain ⟨f, r, e⟩ : ∃ f r, n.firs = f :: r := by
      cases h : n.firs with
      | nil =>
        have := g.f1
        rw [h] at this
        simp at this
      | cons f r => exact ⟨f, r, rfl⟩
    refine k_imp (k_pre (P1' := tupP X.K ((n.firs.map firD).map (dat X.K))) (fun H v z => dat_tupP z) (k_ixT (X := X) (k := 0) (P := dat X.K (firD f)) (by rw [e]; rfl))) fun H v z => ⟨⟨f, gnet_x g (by rw [e]; exact List.mem_cons_self)⟩, z⟩) ha hb hs
end
theorem ints_sat {K : PySem.W.Frag} {H : Hp} : ∀ ns : List Int, DpAll K H (ns.map V.int) (ns.map PyData.int)
  | [] => .nil
  | n :: ns => .cons (.int n) (ints_sat ns)
section
variable {P : Program} {w : World} {K : PySem.W.Frag} {mg : Str → Option Value} {base : Heap} (T : TF.Txt K mg)
include T
theorem law_body (cdv : Value) (A1 : Around) (outer : List PySem.Env) (s : Shared) (H : Hp) (E : XK) (hr : Room 39 (A1.deeper (envOfC "law" (defScope s_law) s.heap.objs.size (He.ga K "law") cdv))) (ns : List Int) (an : An) :
    RSs (cxOf CX0 P w K mg base N_law "law" (defScope s_law) (He.ga K "law") cdv A1 outer s H E).nox an (defBody s_law) (env0 N_law [dat K (.list (ns.map .int))]) [] (fun _ _ => False) (dat K (.bool true)) [] := by
  have hr2 : Room 2 (A1.deeper (envOfC "law" (defScope s_law) s.heap.objs.size (He.ga K "law") cdv)) := hr.mono (by omega)
  refine rs_cons (rs_for (ri_range (K := K) (n := 3) T.n_range (rv_int (i := 3)) (by decide)) (pg_one 1) (fun i hi => gk_name)
    (fun j ρ W => (∃ x1 x2 x3 x4 x5 x6 x7 x8 x9 x10 x11 x12 x13 x14 x15 x16 : Option SP, ρ = [some (dat K (.list (ns.map .int))), x1, x2, x3, x4, x5, x6, x7, x8, x9, x10, x11, x12, x13, x14, x15, x16]) ∧ W = []) ⟨⟨_, _, _, _, _, _, _, _, _, _, _, _, _, _, _, _, rfl⟩, rfl⟩ ?_) ?_
  · rintro j _ _ hj ⟨⟨x1, x2, x3, x4, x5, x6, x7, x8, x9, x10, x11, x12, x13, x14, x15, x16, rfl⟩, rfl⟩
    refine rs_new 2 (mp := fun _ => lstM (purP K 3000)) (rn_call (w_L_purse T) (fun O H vs Q l sat k => ⟨(ns, j), O, l, sat, hj, k⟩) (hr.mono (by omega)) T.g__law_purse T.f_L_purse.kp (b_L_purse T) pass0 (ra_cons (rv_var 0) (ra_cons (rv_var 1) ra_nil))) fun p hp => ?_
    refine rs_set 3 (rm_L_net (Wr := []) (Wi := purW K p 3001) T (w_L_net T) (mkSp_ok (⟨p, 3001⟩ : NtQ) (by show 3001 < 700000000; decide)) rfl (hr.mono (by omega)) (ra_cons (rv_var 2) (ra_cons (rv_draw (Wr := []) (n := 3000) (c := 3) T hr2 (by decide) (by decide) (by decide) (rv_var 2) (rv_int (i := 3))) ra_nil))) ?_
    refine rs_open (f := fun n : { n : Net // GNet n } => dat K (netD n.1)) 3 fun n => ?_
    obtain ⟨n, g⟩ := n
    obtain ⟨kk, kk1, kk5, ekk⟩ := g.nm
    have hlen : n.places.length ≤ 5 := by
      have z := congrArg List.length ekk
      rw [show n.names = n.places.map Prod.fst from rfl, List.length_map, List.length_take] at z
      omega
    have hlen1 : 1 ≤ n.places.length := g.ok.p1
    refine rs_set 4 (rv_sub (rv_tupleOf T.n_tuple (rv_sub (rn_lstT (rn_lc (n := n.places.length) (bt := fun _ => true) (E := fun i => (fun q : Str × Int => rgP K (q.1, q.2, q.2 + 3 - 1)) (n.places.getD i ("", 0))) (own := [("_law_name", 5), ("_law_count", 6)]) (Wf := fun i => purW K p (3501 + i)) (ri_tupM partD n.places ("", 0) (rv_net0 (rv_var 3) rv_int)) (fun s H C cl fp => pg_two 5 6) (fun i hi => gk_twoD (d1 := .str (n.places.getD i ("", 0)).1) (d2 := .int (n.places.getD i ("", 0)).2)) (by decide) (fun _ _ h => nomatch h) (fun s H C cl fp i c hi => rts_nil)
      (fun s H C cl fp i c hi _ => rv_sub (rv_tup (K := K) (Ps := [dat K (.str (n.places.getD i ("", 0)).1), inP K (n.places.getD i ("", 0)).2 ((n.places.getD i ("", 0)).2 + 3)]) (ra_cons (rv_var 5) (ra_cons (rv_sub (rv_addE (K := K) (rv_var 6) (rv_draw (n := 3501 + i) (c := 3) (Wr := [c]) T hr2 (by decide) (by decide) (by omega) (rv_var 2) (rv_int (i := 3)))) (in_mono (by omega) (by show _ + 3 ≤ _; omega))) ra_nil))) rg_imp))) fun H v z => lstT_P (K := K) z)) (P' := rgsP K (plG n)) ?_) ?_
    · rw [selP_all T (fun q : Str × Int => rgP K (q.1, q.2, q.2 + 3 - 1)) n.places ("", 0) rfl]
      have e : n.places.map (fun q => rgP K (q.1, q.2, q.2 + 3 - 1)) = (plG n).map (rgP K) := by
        unfold plG
        rw [List.map_map]
        rfl
      rw [e]
      exact rgs_imp
    refine rs_open (f := fun ps : { ps : List (Str × Int) // Rg (plG n) ps } => dat K (partsD ps.1)) 4 fun ps => ?_
    obtain ⟨ps, rg⟩ := ps
    refine rs_set 7 (rv_fir0E (rv_net1E (rm_L_net (Wr := []) (Wi := purW K p (3501 + n.places.length)) T (w_L_net T) (mkSp_ok (⟨p, 3501 + n.places.length⟩ : NtQ) (by show 3501 + n.places.length < 700000000; omega)) rfl (hr.mono (by omega)) (ra_cons (rv_var 2) (ra_cons (rv_sub (rv_int (K := K)) (in_of ⟨by decide, by decide⟩)) ra_nil))) rv_int) rv_int) ?_
    refine rs_open (f := fun f : { f : Fir // XFir f } => dat K (firD f.1)) 7 fun f => ?_
    obtain ⟨f, xf⟩ := f
    refine rs_new 8 (rn_lc (n := n.places.length) (Wf := fun _ => purW K p (3501 + n.places.length + 500)) (bt := fun _ => true) (E := fun i => (fun q : Str × Int => dat K (.str q.1)) (n.places.getD i ("", 0))) (own := [("_law_place", 9)]) (ri_tupM partD n.places ("", 0) (rv_net0 (rv_var 3) rv_int)) (fun s H C cl fp => pg_one 9) (fun i hi => gk_name) (by decide) (fun _ _ _ => rfl)
      (fun s H C cl fp i c hi => rts_nil) (fun s H C cl fp i c hi _ => rv_ixTD (K := K) (ds := [.str (n.places.getD i ("", 0)).1, .int (n.places.getD i ("", 0)).2]) (k := 0) rfl (rv_var 9) rv_int)) fun b hb => ?_
    rw [selP_all T (fun q : Str × Int => dat K (.str q.1)) n.places ("", 0) rfl]
    refine rs_freeT (W := purW K p (3501 + n.places.length + 500)) 8 hb ?_
    refine rs_slot 8 (P' := dat K (strsD n.names)) (fun H v z => ?_) ?_
    · have e : n.places.map (fun q => dat K (.str q.1)) = n.names.map fun x => dat K (.str x) := by
        rw [show n.names = n.places.map Prod.fst from rfl, List.map_map]
        rfl
      rw [e] at z
      exact lstT_D (K := K) (f := PyData.str) z
    have hflt : ∀ i, i < 2 → XFir f := fun _ _ => xf
    refine rs_setLc 10 (n := 2) (Wf := fun _ => purW K p (3501 + n.places.length + 500)) (bt := fun _ => true) (E := fun i => dat K (partsD (fltP n.names (([f.takes, f.gives] : List (List (Str × Int))).getD i [])))) (own := [("_law_some", 11), ("_law_part", 12)]) (ri_tupE (Ps := [dat K (partsD f.takes), dat K (partsD f.gives)]) (Y := fun i => dat K (partsD (([f.takes, f.gives] : List (List (Str × Int))).getD i []))) (n := 2) (rv_sub (rv_slT (Ps := [dat K (.str f.name), dat K (.str f.label), dat K (partsD f.takes), dat K (partsD f.gives)]) (rv_sub (rv_var 7) fun H v z => dat_tupP z) (ro_some (rv_int (K := K))) ro_none) fun H v z => z) rfl fun i hi => ?_) (fun s H C cl fp => pg_one 11) (fun i hi => gk_name) (by decide) (fun _ _ h => nomatch h)
      (fun s H C cl fp i c hi => rts_nil) (fun s H C cl fp i c hi _ => rv_sub (rv_tupleOf T.n_tuple (rv_sub (rv_lc (n := (([f.takes, f.gives] : List (List (Str × Int))).getD i []).length) (bt := fun u => (fun q : Str × Int => decide (q.1 ∈ n.names)) ((([f.takes, f.gives] : List (List (Str × Int))).getD i []).getD u ("", 0))) (E := fun u => (fun q : Str × Int => dat K (partD q)) ((([f.takes, f.gives] : List (List (Str × Int))).getD i []).getD u ("", 0))) (own := [("_law_part", 12)]) (ri_tupM partD (([f.takes, f.gives] : List (List (Str × Int))).getD i []) ("", 0) (rv_var 11)) (fun s H C cl fp => pg_one 12) (fun i hi => gk_name) (by decide)
        (fun s H C cl fp u W hu => rts_one (rt_inStrs (ss := n.names) (.inl rfl) (rv_ixTD (K := K) (ds := [.str ((([f.takes, f.gives] : List (List (Str × Int))).getD i []).getD u ("", 0)).1, .int ((([f.takes, f.gives] : List (List (Str × Int))).getD i []).getD u ("", 0)).2]) (k := 0) rfl (rv_var 12) rv_int) (rv_var 8))) (fun s H C cl fp u W hu _ => rv_var 12)) fun H v z => lstT_P (K := K) z)) fun H v z => ?_) fun b2 hb2 => ?_
    · match i, hi with
      | 0, _ => exact Imp.refl
      | 1, _ => exact Imp.refl
    · rw [selP_items (d := (("" : Str), (0 : Int))) (([f.takes, f.gives] : List (List (Str × Int))).getD i []) (fun q : Str × Int => decide (q.1 ∈ n.names)) (fun q : Str × Int => dat K (partD q))] at z
      refine tupP_dat ?_
      rw [List.map_map]
      exact z
    refine rs_freeT (W := purW K p (3501 + n.places.length + 500)) 10 hb2 ?_
    refine rs_set 13 (rv_tupD (K := K) (ds := [partsD n.places, .tuple ((n.firs ++ [exF n f]).map firD)]) (ra_cons (rv_net0 (rv_var 3) rv_int) (ra_cons (rv_sub (rv_catT (Ps := (n.firs.map firD).map (dat K)) (Rs := [dat K (firD (exF n f))]) (rv_sub (rv_net1 (rv_var 3) rv_int) fun H v z => dat_tupP z) (rv_tup (K := K) (Ps := [dat K (firD (exF n f))]) (ra_cons (rv_tupD (K := K) (ds := [.str "extra", .str "", partsD (fltP n.names f.takes), partsD (fltP n.names f.gives)]) (ra_cons rv_str (ra_cons rv_str (ra_cons (rv_ixL (K := K) (P := dat K (partsD (fltP n.names f.takes))) (Ps := [dat K (partsD (fltP n.names f.takes)), dat K (partsD (fltP n.names f.gives))]) (k := 0) rfl (rv_sub (rv_var 10) fun H v z => lstT_P z) rv_int) (ra_cons (rv_ixL (K := K) (P := dat K (partsD (fltP n.names f.gives))) (Ps := [dat K (partsD (fltP n.names f.takes)), dat K (partsD (fltP n.names f.gives))]) (k := 1) rfl (rv_sub (rv_var 10) fun H v z => lstT_P z) rv_int) ra_nil))))) ra_nil)) ?_) fun H v z => tupP_dat ?_) ra_nil))) ?_
    · rw [List.length_map, List.length_map]
      have := g.f6
      show _ + 1 ≤ _
      omega
    · rw [List.map_append, List.map_append]
      exact z
    have gr : ∀ i, i < 2 → OkNet (([n.pl ps, n.wd f] : List Net).getD i n) ∧ Mor (lkOf n) (lkOf (([n.pl ps, n.wd f] : List Net).getD i n)) := fun i hi => by
      match i, hi with
      | 0, _ => exact ⟨pl_ok g rg, pl_mor g rg⟩
      | 1, _ => exact ⟨wd_ok g xf, wd_mor g xf⟩
    refine rs_cons (rs_for (ri_lstM (fun x : Net => dat K (netD x)) [n.pl ps, n.wd f] n (rv_sub (rv_lst (Ps := [dat K (netD (n.pl ps)), dat K (netD (n.wd f))]) (ra_cons (rv_tupD (K := K) (ds := [partsD ps, .tuple (n.firs.map firD)]) (ra_cons (rv_var 4) (ra_cons (rv_net1 (rv_var 3) rv_int) ra_nil))) (ra_cons (rv_var 13) ra_nil))) fun H v z => lstT_P z)) (pg_one 14) (fun i hi => gk_name)
      (fun i ρ W => ∃ (m : Nat) (x4 x7 x8 x10 x14 x15 x16 : Option SP), m ≤ 5000 + 10 * i ∧ ρ = [some (dat K (.list (ns.map .int))), some (dat K (.int (j : Int))), some (refP p), some (dat K (netD n)), x4, x5, x6, x7, x8, x9, x10, x11, x12, some (dat K (netD (n.wd f))), x14, x15, x16] ∧ W = purW K p m) ⟨3501 + n.places.length + 500, _, _, _, _, _, _, _, by omega, rfl, rfl⟩ ?_) ?_
    · rintro i _ _ hi ⟨m, y4, y7, y8, y10, y14, y15, y16, hm, rfl, rfl⟩
      have hi : i < 2 := hi
      obtain ⟨gok, gm⟩ := gr i hi
      refine rs_when (v := false) (rt_not (v := true) (rt_val (rv_L_wides_right T (w_L_wides_right T) (pureSp_ok (⟨n, ([n.pl ps, n.wd f] : List Net).getD i n⟩ : WrQ) ⟨g.ok, gok, gm⟩) (hr.mono (by omega)) (ra_cons (rv_var 3) (ra_cons (rv_var 14) ra_nil))))) (fun e => nomatch e) fun _ => ?_
      refine rs_set 15 (rm_L_goal (Wr := []) (Wi := purW K p m) T (w_L_goal T) (mkSp_ok (⟨p, m, n⟩ : GoQ) ⟨by show m < 700000000; omega, hlen1, hlen⟩) rfl (hr.mono (by omega)) (ra_cons (rv_var 2) (ra_cons (rv_var 3) ra_nil))) ?_
      refine rs_open (f := fun h : { h : Heap0 // IsH n.places.length h } => dat K (intsT h.1)) 15 fun h => ?_
      obtain ⟨h, hh⟩ := h
      refine rs_set 16 (rv_L_told T (w_L_told T) (pureSp_ok (⟨n, h, 25⟩ : NQ) ⟨⟨g.ok, hh, by show 25 ≤ 1000; decide⟩, rfl⟩) (hr.mono (by omega)) (ra_cons (rv_var 3) (ra_cons (rv_var 15) ra_nil))) ?_
      refine rs_one (rs_ifS (v := false) (rt_w (rw_or (v := false) (w := false) (rt_not (v := true) (rt_val (rv_L_more_right T (w_L_more_right T) (pureSp_ok (⟨n, ([n.pl ps, n.wd f] : List Net).getD i n, h, toldBy (lkOf n) 25 h⟩ : MrQ) ⟨g.ok, gok, gm, hh, rfl⟩) (hr.mono (by omega)) (ra_cons (rv_var 16) (ra_cons (rv_var 14) (ra_cons (rv_var 15) ra_nil)))))) fun _ => rw_or1 (rt_not (v := true) (rt_val (rv_L_alike_right T (w_L_alike_right T) (pureSp_ok (⟨n, h, toldBy (lkOf n) 25 h⟩ : ArQ) ⟨g.ok, hh, rfl⟩) (hr.mono (by omega)) (ra_cons (rv_var 3) (ra_cons (rv_var 16) (ra_cons (rv_var 15) ra_nil)))))))) (fun e => nomatch e) fun _ => ?_)
      exact rs_nil ⟨m + 10, _, _, _, _, _, _, _, by omega, rfl, rfl⟩
    · rintro ρ1 W1 ⟨m, y4, y7, y8, y10, y14, y15, y16, hm, rfl, rfl⟩
      exact rs_drop (W := []) (rs_nil ⟨⟨_, _, _, _, _, _, _, _, _, _, _, _, _, _, _, _, rfl⟩, rfl⟩)
  · rintro ρ1 W1 ⟨_, rfl⟩
    exact rs_end rv_bl
theorem w_law : FnOk P w K mg base CX0 40 (He.ga K "law") (fdAt K (He.ga K "law")) ["_law_script"] (fun vs H Q _ => ∃ (a : Addr) (ns : List Int), vs = [.ref a] ∧ SqL K H a (ns.map V.int) ∧ ns.length ≤ 63 ∧ ∀ H', Q (.bl true) H') := by
  refine T.f_law.ok (N := N_law) (by constructor <;> first | rfl | decide | decide +kernel) (fun vs H Q E ⟨a, ns, e, _⟩ => by rw [e]; rfl) (fun cdv A1 outer s H vs Q E hr ⟨a, ns, e, hq, hl, q⟩ => ?_)
  subst e
  have sat : Sat [dat K (.list (ns.map .int))] (mn H []) [V.ref a] := by
    rw [mn_nil]
    exact .cons (.lst hq (ints_sat ns)) .nil
  refine ⟨_, (law_body T cdv A1 outer s H E hr ns ⟨H, [], []⟩).nox, [], start_MX (W := []) Live.nil WOk.nil sat, fun ρ' W' σ' H' O' hn m' s' => hn.elim, fun v H' e => ?_⟩
  have hv := dat_bool e.rp
  subst hv
  exact q H'
end
end TF
set_option Elab.async false
set_option linter.all false
set_option maxRecDepth 100000
set_option maxHeartbeats 0
namespace TF
open PySem PySem.Spec PyProof.Rows L2
/-! ### the head: facts by names, one run -/
def oexB (K : PySem.W.Frag) (C : Addr) : Bool := match K.lookup C with
  | some ⟨.type c, _, .cls cd, sl⟩ => (match cd.mro, sl.toList with
    | .ref C' :: bm, [_, _, _, _, some (.builtin n), _] => decide (c = "type") && (C' == C && (n == "ValueError.__new__" && (!cd.hasDel && (cd.hasDict && PySem.HandSPX.refsVE bm))))
    | _, _ => false)
  | _ => false
theorem oexB_ok {K : PySem.W.Frag} {C : Addr} (q : oexB K C = true) : ∃ nm q N bs bm sn sub ab col dd k0 k1 k2 k3 k5, K.lookup C = some (excClassObj nm q C N bs bm true sn sub ab col dd k0 k1 k2 k3 k5 "ValueError.__new__") ∧ PySem.HandSPX.refsVE bm = true := by
  unfold oexB at q
  split at q
  · rename_i c dd cd sl ho
    split at q
    · rename_i C' bm k0 k1 k2 k3 n k5 hm hs
      simp only [Bool.and_eq_true, beq_iff_eq, Bool.not_eq_true', decide_eq_true_eq] at q
      obtain ⟨rfl, rfl, rfl, hdel, hdict, hv⟩ := q
      obtain ⟨nm, bs, mro, ns, qn, hd, sn, sub, ab, col, del⟩ := cd
      dsimp only at hm hdel hdict
      subst hm hdel hdict
      have hsl : sl = #[k0, k1, k2, k3, some (.builtin "ValueError.__new__"), k5] := by
        obtain ⟨l⟩ := sl
        simp only at hs
        rw [hs]
      subst hsl
      exact ⟨nm, qn, ns, bs, bm, sn, sub, ab, col, dd, k0, k1, k2, k3, k5, ho, hv⟩
    · cases q
  · cases q
abbrev cT (K : PySem.W.Frag) : Addr := He.ga K "TooGreat"
abbrev iT (K : PySem.W.Frag) : Addr := He.ma K (He.ga K "TooGreat") "__init__"
def exB (K : PySem.W.Frag) : Bool := He.tupB K "WORDS" [.str "place", .str "fire", .str "as"] && (oexB K (cT K) && (He.eqO (PySem.W.findIn K (.ref (cT K)) "__setattr__") (some (some (.builtin "object.__setattr__"))) &&
  (decide (PySem.W.subIn K (.ref (cT K)) (.type "BaseException") = some true) && (decide (PySem.W.typeIn K (.ref (cT K)) = some (.type "type")) && (PySem.W.keepIn K (.ref (cT K)) &&
  (He.eqO (PySem.W.findIn K (.ref (cT K)) "__init__") (some (some (.ref (iT K)))) && (decide (PySem.W.typeIn K (.ref (iT K)) = some (.type "function")) && (He.eqO (PySem.W.findIn K (.ref (cT K)) "most") (some none) &&
  (decide (PySem.W.exmOne K (.ref (cT K)) (.ref (He.ga K "NetError")) = some true) && decide (PySem.W.exmOne K (.ref (cT K)) (.ref (cT K)) = some true))))))))))
/-! ### the hook -/
abbrev AlM : Type := He.AlD × Bool
def obsM (n : Nat) (fa : List He.Fa) (fn : List He.DefD) (g : Addr → Option Obj) : AlM := (He.obsD fa fn (He.frG g (He.asD g n)), exB (He.frG g (He.asD g n)))
def hookM (n : Nat) (fa : List He.Fa) (fn : List He.DefD) : PySem.W.Hook where
  α := AlM
  obs := fun s => obsM n fa fn s.heap.get?
  val := fun _ => (He.valD fn, true)
  says := fun _ h => ∃ K : PySem.W.Frag, K.In h ∧ He.SaysD fa fn K ∧ exB K = true
  of := fun _ _ e => ⟨_, He.frG_in, congrArg (fun z : AlM => z.1) e, congrArg (fun z : AlM => z.2) e⟩
  keeps := fun _ _ _ ⟨K, hK, c⟩ k => ⟨K, PySem.W.Frag.In.keeps hK k, c⟩
theorem obsM_eq {n : Nat} {fa : List He.Fa} {fn : List He.DefD} {g : Addr → Option Obj} {s : Shared} (h : ∀ a, g a = s.heap.get? a) : obsM n fa fn g = (hookM n fa fn).obs s := by
  have e : g = s.heap.get? := funext h
  rw [e] <;> rfl

def d_TooGreat_init : He.DefD := ⟨("TooGreat", some "__init__"), "__init__", "TooGreat.__init__", defArgs s_TooGreat_init, defBody s_TooGreat_init, defScope s_TooGreat_init, [.int 0], []⟩
def d_is_count_nets : He.DefD := ⟨("is_count_nets", none), "is_count", "is_count", defArgs s_is_count_nets, defBody s_is_count_nets, defScope s_is_count_nets, [], []⟩
def d_is_name : He.DefD := ⟨("is_name", none), "is_name", "is_name", defArgs s_is_name, defBody s_is_name, defScope s_is_name, [], []⟩
def d_are_parts : He.DefD := ⟨("are_parts", none), "are_parts", "are_parts", defArgs s_are_parts, defBody s_are_parts, defScope s_are_parts, [], []⟩
def d_is_place : He.DefD := ⟨("is_place", none), "is_place", "is_place", defArgs s_is_place, defBody s_is_place, defScope s_is_place, [], []⟩
def d_is_firing : He.DefD := ⟨("is_firing", none), "is_firing", "is_firing", defArgs s_is_firing, defBody s_is_firing, defScope s_is_firing, [], []⟩
def d_part_wrong : He.DefD := ⟨("part_wrong", none), "part_wrong", "part_wrong", defArgs s_part_wrong, defBody s_part_wrong, defScope s_part_wrong, [], []⟩
def d_net_wrong : He.DefD := ⟨("net_wrong", none), "net_wrong", "net_wrong", defArgs s_net_wrong, defBody s_net_wrong, defScope s_net_wrong, [], []⟩
def d_must_net : He.DefD := ⟨("must_net", none), "must_net", "must_net", defArgs s_must_net, defBody s_must_net, defScope s_must_net, [], []⟩
def d_Look_init : He.DefD := ⟨("Look", some "__init__"), "__init__", "Look.__init__", defArgs s_Look_init, defBody s_Look_init, defScope s_Look_init, [], []⟩
def d_Look_lacking : He.DefD := ⟨("Look", some "lacking"), "lacking", "Look.lacking", defArgs s_Look_lacking, defBody s_Look_lacking, defScope s_Look_lacking, [], []⟩
def d_Look_behind : He.DefD := ⟨("Look", some "behind"), "behind", "Look.behind", defArgs s_Look_behind, defBody s_Look_behind, defScope s_Look_behind, [], []⟩
def d_Look_can : He.DefD := ⟨("Look", some "can"), "can", "Look.can", defArgs s_Look_can, defBody s_Look_can, defScope s_Look_can, [], []⟩
def d_is_count_firing : He.DefD := ⟨("is_count_firing", none), "is_count", "is_count", defArgs s_is_count_firing, defBody s_is_count_firing, defScope s_is_count_firing, [], []⟩
def d_look_at : He.DefD := ⟨("look_at", none), "look_at", "look_at", defArgs s_look_at, defBody s_look_at, defScope s_look_at, [], []⟩
def d_heap_fault : He.DefD := ⟨("heap_fault", none), "heap_fault", "heap_fault", defArgs s_heap_fault, defBody s_heap_fault, defScope s_heap_fault, [], []⟩
def d_must_heap : He.DefD := ⟨("must_heap", none), "must_heap", "must_heap", defArgs s_must_heap, defBody s_must_heap, defScope s_must_heap, [], []⟩
def d_is_row : He.DefD := ⟨("is_row", none), "is_row", "is_row", defArgs s_is_row, defBody s_is_row, defScope s_is_row, [], []⟩
def d_row_end : He.DefD := ⟨("row_end", none), "row_end", "row_end", defArgs s_row_end, defBody s_row_end, defScope s_row_end, [], []⟩
def d_is_over : He.DefD := ⟨("is_over", none), "is_over", "is_over", defArgs s_is_over, defBody s_is_over, defScope s_is_over, [], []⟩
def d_wide_can : He.DefD := ⟨("wide_can", none), "wide_can", "wide_can", defArgs s_wide_can, defBody s_wide_can, defScope s_wide_can, [], []⟩
def d_wide_behind : He.DefD := ⟨("wide_behind", none), "wide_behind", "wide_behind", defArgs s_wide_behind, defBody s_wide_behind, defScope s_wide_behind, [], []⟩
def d_widened : He.DefD := ⟨("widened", none), "widened", "widened", defArgs s_widened, defBody s_widened, defScope s_widened, [], []⟩
def d_greatest : He.DefD := ⟨("greatest", none), "greatest", "greatest", defArgs s_greatest, defBody s_greatest, defScope s_greatest, [], []⟩
def d_least : He.DefD := ⟨("least", none), "least", "least", defArgs s_least, defBody s_least, defScope s_least, [], []⟩
def d_before : He.DefD := ⟨("before", none), "before", "before", defArgs s_before, defBody s_before, defScope s_before, [], []⟩
def d_over_some : He.DefD := ⟨("over_some", none), "over_some", "over_some", defArgs s_over_some, defBody s_over_some, defScope s_over_some, [], []⟩
def d_Levels_init : He.DefD := ⟨("Levels", some "__init__"), "__init__", "Levels.__init__", defArgs s_Levels_init, defBody s_Levels_init, defScope s_Levels_init, [], []⟩
def d_Levels_is_come_to : He.DefD := ⟨("Levels", some "is_come_to"), "is_come_to", "Levels.is_come_to", defArgs s_Levels_is_come_to, defBody s_Levels_is_come_to, defScope s_Levels_is_come_to, [], []⟩
def d_Levels_go_on : He.DefD := ⟨("Levels", some "go_on"), "go_on", "Levels.go_on", defArgs s_Levels_go_on, defBody s_Levels_go_on, defScope s_Levels_go_on, [], []⟩
def d_Levels_first_row : He.DefD := ⟨("Levels", some "first_row"), "first_row", "Levels.first_row", defArgs s_Levels_first_row, defBody s_Levels_first_row, defScope s_Levels_first_row, [], []⟩
def d_covered_by : He.DefD := ⟨("covered_by", none), "covered_by", "covered_by", defArgs s_covered_by, defBody s_covered_by, defScope s_covered_by, [], []⟩
def d_covered : He.DefD := ⟨("covered", none), "covered", "covered", defArgs s_covered, defBody s_covered, defScope s_covered, [], [("most", .int 2000)]⟩
def d_basis_wrong : He.DefD := ⟨("basis_wrong", none), "basis_wrong", "basis_wrong", defArgs s_basis_wrong, defBody s_basis_wrong, defScope s_basis_wrong, [], []⟩
def d_covered_wrong : He.DefD := ⟨("covered_wrong", none), "covered_wrong", "covered_wrong", defArgs s_covered_wrong, defBody s_covered_wrong, defScope s_covered_wrong, [], []⟩
def d_Spot_init : He.DefD := ⟨("Spot", some "__init__"), "__init__", "Spot.__init__", defArgs s_Spot_init, defBody s_Spot_init, defScope s_Spot_init, [], []⟩
def d_Spot_way_from : He.DefD := ⟨("Spot", some "way_from"), "way_from", "Spot.way_from", defArgs s_Spot_way_from, defBody s_Spot_way_from, defScope s_Spot_way_from, [], []⟩
def d_Spot_pump : He.DefD := ⟨("Spot", some "pump"), "pump", "Spot.pump", defArgs s_Spot_pump, defBody s_Spot_pump, defScope s_Spot_pump, [], []⟩
def d_Growth_init : He.DefD := ⟨("Growth", some "__init__"), "__init__", "Growth.__init__", defArgs s_Growth_init, defBody s_Growth_init, defScope s_Growth_init, [], []⟩
def d_Growth_grow : He.DefD := ⟨("Growth", some "grow"), "grow", "Growth.grow", defArgs s_Growth_grow, defBody s_Growth_grow, defScope s_Growth_grow, [], []⟩
def d_Growth_put : He.DefD := ⟨("Growth", some "put"), "put", "Growth.put", defArgs s_Growth_put, defBody s_Growth_put, defScope s_Growth_put, [], []⟩
def d_wides_of : He.DefD := ⟨("wides_of", none), "wides_of", "wides_of", defArgs s_wides_of, defBody s_wides_of, defScope s_wides_of, [], []⟩
def d_widest : He.DefD := ⟨("widest", none), "widest", "widest", defArgs s_widest, defBody s_widest, defScope s_widest, [], [("most", .int 2000)]⟩
def d_place_number : He.DefD := ⟨("place_number", none), "place_number", "place_number", defArgs s_place_number, defBody s_place_number, defScope s_place_number, [], []⟩
def d_stair_of : He.DefD := ⟨("stair_of", none), "stair_of", "stair_of", defArgs s_stair_of, defBody s_stair_of, defScope s_stair_of, [], []⟩
def d_bound : He.DefD := ⟨("bound", none), "bound", "bound", defArgs s_bound, defBody s_bound, defScope s_bound, [], [("most", .int 2000)]⟩
def d_L_at : He.DefD := ⟨("_law_at", none), "_law_at", "_law_at", defArgs s_L_at, defBody s_L_at, defScope s_L_at, [], []⟩
def d_L_mixed : He.DefD := ⟨("_law_mixed", none), "_law_mixed", "_law_mixed", defArgs s_L_mixed, defBody s_L_mixed, defScope s_L_mixed, [], []⟩
def d_L_purse : He.DefD := ⟨("_law_purse", none), "_law_purse", "_law_purse", defArgs s_L_purse, defBody s_L_purse, defScope s_L_purse, [], []⟩
def d_L_draw : He.DefD := ⟨("_law_draw", none), "_law_draw", "_law_draw", defArgs s_L_draw, defBody s_L_draw, defScope s_L_draw, [], []⟩
def d_L_parts : He.DefD := ⟨("_law_parts", none), "_law_parts", "_law_parts", defArgs s_L_parts, defBody s_L_parts, defScope s_L_parts, [], []⟩
def d_L_even : He.DefD := ⟨("_law_even", none), "_law_even", "_law_even", defArgs s_L_even, defBody s_L_even, defScope s_L_even, [], []⟩
def d_L_net : He.DefD := ⟨("_law_net", none), "_law_net", "_law_net", defArgs s_L_net, defBody s_L_net, defScope s_L_net, [], []⟩
def d_L_over : He.DefD := ⟨("_law_over", none), "_law_over", "_law_over", defArgs s_L_over, defBody s_L_over, defScope s_L_over, [], []⟩
def d_L_goal : He.DefD := ⟨("_law_goal", none), "_law_goal", "_law_goal", defArgs s_L_goal, defBody s_L_goal, defScope s_L_goal, [], []⟩
def d_L_rank : He.DefD := ⟨("_law_rank", none), "_law_rank", "_law_rank", defArgs s_L_rank, defBody s_L_rank, defScope s_L_rank, [], []⟩
def d_L_told : He.DefD := ⟨("_law_told", none), "_law_told", "_law_told", defArgs s_L_told, defBody s_L_told, defScope s_L_told, [], []⟩
def d_L_wides : He.DefD := ⟨("_law_wides", none), "_law_wides", "_law_wides", defArgs s_L_wides, defBody s_L_wides, defScope s_L_wides, [], []⟩
def d_L_bound : He.DefD := ⟨("_law_bound", none), "_law_bound", "_law_bound", defArgs s_L_bound, defBody s_L_bound, defScope s_L_bound, [], []⟩
def d_L_more_right : He.DefD := ⟨("_law_more_right", none), "_law_more_right", "_law_more_right", defArgs s_L_more_right, defBody s_L_more_right, defScope s_L_more_right, [], []⟩
def d_L_turned : He.DefD := ⟨("_law_turned", none), "_law_turned", "_law_turned", defArgs s_L_turned, defBody s_L_turned, defScope s_L_turned, [], []⟩
def d_L_alike_right : He.DefD := ⟨("_law_alike_right", none), "_law_alike_right", "_law_alike_right", defArgs s_L_alike_right, defBody s_L_alike_right, defScope s_L_alike_right, [], []⟩
def d_L_wides_right : He.DefD := ⟨("_law_wides_right", none), "_law_wides_right", "_law_wides_right", defArgs s_L_wides_right, defBody s_L_wides_right, defScope s_L_wides_right, [], []⟩
def d_law : He.DefD := ⟨("law", none), "law", "law", defArgs s_law, defBody s_law, defScope s_law, [], []⟩
def fn_0 : List He.DefD := [d_TooGreat_init, d_is_count_nets, d_is_name, d_are_parts, d_is_place, d_is_firing, d_part_wrong, d_net_wrong, d_must_net, d_Look_init, d_Look_lacking, d_Look_behind, d_Look_can, d_is_count_firing, d_look_at, d_heap_fault, d_must_heap, d_is_row, d_row_end, d_is_over, d_wide_can, d_wide_behind, d_widened, d_greatest, d_least, d_before, d_over_some, d_Levels_init, d_Levels_is_come_to, d_Levels_go_on]
def fn_1 : List He.DefD := [d_Levels_first_row, d_covered_by, d_covered, d_basis_wrong, d_covered_wrong, d_Spot_init, d_Spot_way_from, d_Spot_pump, d_Growth_init, d_Growth_grow, d_Growth_put, d_wides_of, d_widest, d_place_number, d_stair_of, d_bound, d_L_at, d_L_mixed, d_L_purse, d_L_draw, d_L_parts, d_L_even, d_L_net, d_L_over, d_L_goal, d_L_rank, d_L_told, d_L_wides, d_L_bound, d_L_more_right]
def fn_2 : List He.DefD := [d_L_turned, d_L_alike_right, d_L_wides_right, d_law]
def fn : List He.DefD := fn_0 ++ fn_1 ++ fn_2
def fa_0 : List He.Fa := [.glo "is_count_nets", .glo "is_name", .glo "are_parts", .glo "is_place", .glo "is_firing", .glo "part_wrong", .glo "net_wrong", .glo "must_net", .glo "is_count_firing", .glo "look_at", .glo "heap_fault", .glo "must_heap", .glo "is_row", .glo "row_end", .glo "is_over", .glo "wide_can", .glo "wide_behind", .glo "widened", .glo "greatest", .glo "least", .glo "before", .glo "over_some", .glo "covered_by", .glo "covered", .glo "basis_wrong", .glo "covered_wrong", .glo "wides_of", .glo "widest", .glo "place_number", .glo "stair_of"]
def fa_1 : List He.Fa := [.glo "bound", .glo "_law_at", .glo "_law_mixed", .glo "_law_purse", .glo "_law_draw", .glo "_law_parts", .glo "_law_even", .glo "_law_net", .glo "_law_over", .glo "_law_goal", .glo "_law_rank", .glo "_law_told", .glo "_law_wides", .glo "_law_bound", .glo "_law_more_right", .glo "_law_turned", .glo "_law_alike_right", .glo "_law_wides_right", .glo "law", .glo "Look", .glo "Levels", .glo "Spot", .glo "Growth", .glo "TooGreat", .glo "NetError", .glo "WORDS", .free "isinstance", .free "int", .free "bool", .free "str"]
def fa_2 : List He.Fa := [.free "tuple", .free "list", .free "len", .free "all", .free "any", .free "enumerate", .free "zip", .free "sorted", .free "max", .free "range", .int "MOST_SIGNS" 8, .int "MOST_COUNT" 999999999, .int "MOST_PLACES" 40, .int "MOST_FIRINGS" 60, .int "MOST_HEAPS" 2000, .str "SMALL" "abcdefghijklmnopqrstuvwxyz", .str "FIGURES" "0123456789", .cls "Look", .mkr "Look", .noat "Look" "places", .noat "Look" "begin", .noat "Look" "names", .noat "Look" "labels", .noat "Look" "takes", .noat "Look" "gives", .cls "Levels", .mkr "Levels", .noat "Levels" "look", .noat "Levels" "most", .noat "Levels" "levels"]
def fa_3 : List He.Fa := [.noat "Levels" "fresh", .cls "Spot", .mkr "Spot", .noat "Spot" "wide", .noat "Spot" "depth", .noat "Spot" "parent", .noat "Spot" "came_by", .noat "Spot" "pumps", .noat "Spot" "tail", .cls "Growth", .mkr "Growth", .noat "Growth" "look", .noat "Growth" "spots", .noat "Growth" "there", .meth "Look" "lacking", .meth "Look" "behind", .meth "Look" "can", .meth "Levels" "is_come_to", .meth "Levels" "go_on", .meth "Levels" "first_row", .meth "Spot" "way_from", .meth "Spot" "pump", .meth "Growth" "grow", .meth "Growth" "put"]
def fa : List He.Fa := fa_0 ++ fa_1 ++ fa_2 ++ fa_3
abbrev R : PySem.W.OpenRow := PySem.W.OpenLaw.row PySem.Challenge.rw_tokenfold_k28_whole_more_tokens
abbrev hk : PySem.W.Hook := hookM 5 fa fn
def ob (s : PySem.W.SharedT) : AlM := obsM 5 fa fn (HandSHeadRun.getT s)
theorem ob_eq (s : PySem.W.SharedT) : ob s = hk.obs s.abs := obsM_eq (HandSHeadRun.getT_eq s)
def loose_0 : List PySem.Str := ["_wall", "NetError", "NoNet", "NoHeap", "NoPlace", "TooGreat", "WORDS", "SMALL", "FIGURES", "MOST_SIGNS", "MOST_COUNT", "MOST_PLACES", "MOST_FIRINGS", "is_count", "is_count_nets", "is_name", "are_parts", "is_place", "is_firing", "part_wrong", "net_wrong", "must_net", "Look", "is_count_firing", "look_at", "heap_fault", "must_heap", "MOST_HEAPS", "is_row", "row_end"]
def loose_1 : List PySem.Str := ["is_over", "wide_can", "wide_behind", "widened", "greatest", "least", "before", "over_some", "Levels", "covered_by", "covered", "basis_wrong", "covered_wrong", "Spot", "Growth", "wides_of", "widest", "place_number", "stair_of", "bound", "_law_at", "_law_mixed", "_law_purse", "_law_draw", "_law_parts", "_law_even", "_law_net", "_law_over", "_law_goal", "_law_rank"]
def loose_2 : List PySem.Str := ["_law_told", "_law_wides", "_law_bound", "_law_more_right", "_law_turned", "_law_alike_right", "_law_wides_right"]
def loose : List PySem.Str := loose_0 ++ loose_1 ++ loose_2
abbrev qv : Program := PySem.W.view R.prog [76]
theorem run (w : World) : HandSHeadRun.RunEq R qv hk ob 4400 loose w := by
  intro os
  kernel_rfl
end TF
set_option Elab.async false
set_option linter.all false
set_option maxRecDepth 100000
set_option maxHeartbeats 0
namespace TF
open PySem PySem.Spec PyProof.Rows L2
theorem txt_of {K : PySem.W.Frag} {h : Heap} {mg : Str → Option Value} (X : K.In h) (G : h.Ns mainGlobals mg) (c : He.SaysD fa fn K) (e : exB K = true) : Txt K mg := by
  obtain ⟨e1, e⟩ := He.ba e
  obtain ⟨e2, e⟩ := He.ba e
  obtain ⟨e3, e⟩ := He.ba e
  obtain ⟨e4, e⟩ := He.ba e
  obtain ⟨e5, e⟩ := He.ba e
  obtain ⟨e6, e⟩ := He.ba e
  obtain ⟨e7, e⟩ := He.ba e
  obtain ⟨e8, e⟩ := He.ba e
  obtain ⟨e9, e⟩ := He.ba e
  obtain ⟨e10, e11⟩ := He.ba e
  exact {
    f_TooGreat_init := fdAt_of (c.def_ 0 (d := d_TooGreat_init) rfl)
    f_is_count_nets := fdAt_of (c.def_ 1 (d := d_is_count_nets) rfl)
    f_is_name := fdAt_of (c.def_ 2 (d := d_is_name) rfl)
    f_are_parts := fdAt_of (c.def_ 3 (d := d_are_parts) rfl)
    f_is_place := fdAt_of (c.def_ 4 (d := d_is_place) rfl)
    f_is_firing := fdAt_of (c.def_ 5 (d := d_is_firing) rfl)
    f_part_wrong := fdAt_of (c.def_ 6 (d := d_part_wrong) rfl)
    f_net_wrong := fdAt_of (c.def_ 7 (d := d_net_wrong) rfl)
    f_must_net := fdAt_of (c.def_ 8 (d := d_must_net) rfl)
    f_Look_init := fdAt_of (c.def_ 9 (d := d_Look_init) rfl)
    f_Look_lacking := fdAt_of (c.def_ 10 (d := d_Look_lacking) rfl)
    f_Look_behind := fdAt_of (c.def_ 11 (d := d_Look_behind) rfl)
    f_Look_can := fdAt_of (c.def_ 12 (d := d_Look_can) rfl)
    f_is_count_firing := fdAt_of (c.def_ 13 (d := d_is_count_firing) rfl)
    f_look_at := fdAt_of (c.def_ 14 (d := d_look_at) rfl)
    f_heap_fault := fdAt_of (c.def_ 15 (d := d_heap_fault) rfl)
    f_must_heap := fdAt_of (c.def_ 16 (d := d_must_heap) rfl)
    f_is_row := fdAt_of (c.def_ 17 (d := d_is_row) rfl)
    f_row_end := fdAt_of (c.def_ 18 (d := d_row_end) rfl)
    f_is_over := fdAt_of (c.def_ 19 (d := d_is_over) rfl)
    f_wide_can := fdAt_of (c.def_ 20 (d := d_wide_can) rfl)
    f_wide_behind := fdAt_of (c.def_ 21 (d := d_wide_behind) rfl)
    f_widened := fdAt_of (c.def_ 22 (d := d_widened) rfl)
    f_greatest := fdAt_of (c.def_ 23 (d := d_greatest) rfl)
    f_least := fdAt_of (c.def_ 24 (d := d_least) rfl)
    f_before := fdAt_of (c.def_ 25 (d := d_before) rfl)
    f_over_some := fdAt_of (c.def_ 26 (d := d_over_some) rfl)
    f_Levels_init := fdAt_of (c.def_ 27 (d := d_Levels_init) rfl)
    f_Levels_is_come_to := fdAt_of (c.def_ 28 (d := d_Levels_is_come_to) rfl)
    f_Levels_go_on := fdAt_of (c.def_ 29 (d := d_Levels_go_on) rfl)
    f_Levels_first_row := fdAt_of (c.def_ 30 (d := d_Levels_first_row) rfl)
    f_covered_by := fdAt_of (c.def_ 31 (d := d_covered_by) rfl)
    f_covered := fdAt_of (c.def_ 32 (d := d_covered) rfl)
    f_basis_wrong := fdAt_of (c.def_ 33 (d := d_basis_wrong) rfl)
    f_covered_wrong := fdAt_of (c.def_ 34 (d := d_covered_wrong) rfl)
    f_Spot_init := fdAt_of (c.def_ 35 (d := d_Spot_init) rfl)
    f_Spot_way_from := fdAt_of (c.def_ 36 (d := d_Spot_way_from) rfl)
    f_Spot_pump := fdAt_of (c.def_ 37 (d := d_Spot_pump) rfl)
    f_Growth_init := fdAt_of (c.def_ 38 (d := d_Growth_init) rfl)
    f_Growth_grow := fdAt_of (c.def_ 39 (d := d_Growth_grow) rfl)
    f_Growth_put := fdAt_of (c.def_ 40 (d := d_Growth_put) rfl)
    f_wides_of := fdAt_of (c.def_ 41 (d := d_wides_of) rfl)
    f_widest := fdAt_of (c.def_ 42 (d := d_widest) rfl)
    f_place_number := fdAt_of (c.def_ 43 (d := d_place_number) rfl)
    f_stair_of := fdAt_of (c.def_ 44 (d := d_stair_of) rfl)
    f_bound := fdAt_of (c.def_ 45 (d := d_bound) rfl)
    f_L_at := fdAt_of (c.def_ 46 (d := d_L_at) rfl)
    f_L_mixed := fdAt_of (c.def_ 47 (d := d_L_mixed) rfl)
    f_L_purse := fdAt_of (c.def_ 48 (d := d_L_purse) rfl)
    f_L_draw := fdAt_of (c.def_ 49 (d := d_L_draw) rfl)
    f_L_parts := fdAt_of (c.def_ 50 (d := d_L_parts) rfl)
    f_L_even := fdAt_of (c.def_ 51 (d := d_L_even) rfl)
    f_L_net := fdAt_of (c.def_ 52 (d := d_L_net) rfl)
    f_L_over := fdAt_of (c.def_ 53 (d := d_L_over) rfl)
    f_L_goal := fdAt_of (c.def_ 54 (d := d_L_goal) rfl)
    f_L_rank := fdAt_of (c.def_ 55 (d := d_L_rank) rfl)
    f_L_told := fdAt_of (c.def_ 56 (d := d_L_told) rfl)
    f_L_wides := fdAt_of (c.def_ 57 (d := d_L_wides) rfl)
    f_L_bound := fdAt_of (c.def_ 58 (d := d_L_bound) rfl)
    f_L_more_right := fdAt_of (c.def_ 59 (d := d_L_more_right) rfl)
    f_L_turned := fdAt_of (c.def_ 60 (d := d_L_turned) rfl)
    f_L_alike_right := fdAt_of (c.def_ 61 (d := d_L_alike_right) rfl)
    f_L_wides_right := fdAt_of (c.def_ 62 (d := d_L_wides_right) rfl)
    f_law := fdAt_of (c.def_ 63 (d := d_law) rfl)
    g_is_count_nets := He.glo_ok X G (c.fact 0 (f := .glo "is_count_nets") rfl)
    g_is_name := He.glo_ok X G (c.fact 1 (f := .glo "is_name") rfl)
    g_are_parts := He.glo_ok X G (c.fact 2 (f := .glo "are_parts") rfl)
    g_is_place := He.glo_ok X G (c.fact 3 (f := .glo "is_place") rfl)
    g_is_firing := He.glo_ok X G (c.fact 4 (f := .glo "is_firing") rfl)
    g_part_wrong := He.glo_ok X G (c.fact 5 (f := .glo "part_wrong") rfl)
    g_net_wrong := He.glo_ok X G (c.fact 6 (f := .glo "net_wrong") rfl)
    g_must_net := He.glo_ok X G (c.fact 7 (f := .glo "must_net") rfl)
    g_is_count_firing := He.glo_ok X G (c.fact 8 (f := .glo "is_count_firing") rfl)
    g_look_at := He.glo_ok X G (c.fact 9 (f := .glo "look_at") rfl)
    g_heap_fault := He.glo_ok X G (c.fact 10 (f := .glo "heap_fault") rfl)
    g_must_heap := He.glo_ok X G (c.fact 11 (f := .glo "must_heap") rfl)
    g_is_row := He.glo_ok X G (c.fact 12 (f := .glo "is_row") rfl)
    g_row_end := He.glo_ok X G (c.fact 13 (f := .glo "row_end") rfl)
    g_is_over := He.glo_ok X G (c.fact 14 (f := .glo "is_over") rfl)
    g_wide_can := He.glo_ok X G (c.fact 15 (f := .glo "wide_can") rfl)
    g_wide_behind := He.glo_ok X G (c.fact 16 (f := .glo "wide_behind") rfl)
    g_widened := He.glo_ok X G (c.fact 17 (f := .glo "widened") rfl)
    g_greatest := He.glo_ok X G (c.fact 18 (f := .glo "greatest") rfl)
    g_least := He.glo_ok X G (c.fact 19 (f := .glo "least") rfl)
    g_before := He.glo_ok X G (c.fact 20 (f := .glo "before") rfl)
    g_over_some := He.glo_ok X G (c.fact 21 (f := .glo "over_some") rfl)
    g_covered_by := He.glo_ok X G (c.fact 22 (f := .glo "covered_by") rfl)
    g_covered := He.glo_ok X G (c.fact 23 (f := .glo "covered") rfl)
    g_basis_wrong := He.glo_ok X G (c.fact 24 (f := .glo "basis_wrong") rfl)
    g_covered_wrong := He.glo_ok X G (c.fact 25 (f := .glo "covered_wrong") rfl)
    g_wides_of := He.glo_ok X G (c.fact 26 (f := .glo "wides_of") rfl)
    g_widest := He.glo_ok X G (c.fact 27 (f := .glo "widest") rfl)
    g_place_number := He.glo_ok X G (c.fact 28 (f := .glo "place_number") rfl)
    g_stair_of := He.glo_ok X G (c.fact 29 (f := .glo "stair_of") rfl)
    g_bound := He.glo_ok X G (c.fact 30 (f := .glo "bound") rfl)
    g__law_at := He.glo_ok X G (c.fact 31 (f := .glo "_law_at") rfl)
    g__law_mixed := He.glo_ok X G (c.fact 32 (f := .glo "_law_mixed") rfl)
    g__law_purse := He.glo_ok X G (c.fact 33 (f := .glo "_law_purse") rfl)
    g__law_draw := He.glo_ok X G (c.fact 34 (f := .glo "_law_draw") rfl)
    g__law_parts := He.glo_ok X G (c.fact 35 (f := .glo "_law_parts") rfl)
    g__law_even := He.glo_ok X G (c.fact 36 (f := .glo "_law_even") rfl)
    g__law_net := He.glo_ok X G (c.fact 37 (f := .glo "_law_net") rfl)
    g__law_over := He.glo_ok X G (c.fact 38 (f := .glo "_law_over") rfl)
    g__law_goal := He.glo_ok X G (c.fact 39 (f := .glo "_law_goal") rfl)
    g__law_rank := He.glo_ok X G (c.fact 40 (f := .glo "_law_rank") rfl)
    g__law_told := He.glo_ok X G (c.fact 41 (f := .glo "_law_told") rfl)
    g__law_wides := He.glo_ok X G (c.fact 42 (f := .glo "_law_wides") rfl)
    g__law_bound := He.glo_ok X G (c.fact 43 (f := .glo "_law_bound") rfl)
    g__law_more_right := He.glo_ok X G (c.fact 44 (f := .glo "_law_more_right") rfl)
    g__law_turned := He.glo_ok X G (c.fact 45 (f := .glo "_law_turned") rfl)
    g__law_alike_right := He.glo_ok X G (c.fact 46 (f := .glo "_law_alike_right") rfl)
    g__law_wides_right := He.glo_ok X G (c.fact 47 (f := .glo "_law_wides_right") rfl)
    g_law := He.glo_ok X G (c.fact 48 (f := .glo "law") rfl)
    g_Look := He.glo_ok X G (c.fact 49 (f := .glo "Look") rfl)
    g_Levels := He.glo_ok X G (c.fact 50 (f := .glo "Levels") rfl)
    g_Spot := He.glo_ok X G (c.fact 51 (f := .glo "Spot") rfl)
    g_Growth := He.glo_ok X G (c.fact 52 (f := .glo "Growth") rfl)
    g_TooGreat := He.glo_ok X G (c.fact 53 (f := .glo "TooGreat") rfl)
    g_NetError := He.glo_ok X G (c.fact 54 (f := .glo "NetError") rfl)
    g_WORDS := He.glo_ok X G (c.fact 55 (f := .glo "WORDS") rfl)
    n_isinstance := He.free_ok X G (c.fact 56 (f := .free "isinstance") rfl)
    n_int := He.free_ok X G (c.fact 57 (f := .free "int") rfl)
    n_bool := He.free_ok X G (c.fact 58 (f := .free "bool") rfl)
    n_str := He.free_ok X G (c.fact 59 (f := .free "str") rfl)
    n_tuple := He.free_ok X G (c.fact 60 (f := .free "tuple") rfl)
    n_list := He.free_ok X G (c.fact 61 (f := .free "list") rfl)
    n_len := He.free_ok X G (c.fact 62 (f := .free "len") rfl)
    n_all := He.free_ok X G (c.fact 63 (f := .free "all") rfl)
    n_any := He.free_ok X G (c.fact 64 (f := .free "any") rfl)
    n_enumerate := He.free_ok X G (c.fact 65 (f := .free "enumerate") rfl)
    n_zip := He.free_ok X G (c.fact 66 (f := .free "zip") rfl)
    n_sorted := He.free_ok X G (c.fact 67 (f := .free "sorted") rfl)
    n_max := He.free_ok X G (c.fact 68 (f := .free "max") rfl)
    n_range := He.free_ok X G (c.fact 69 (f := .free "range") rfl)
    i_MOST_SIGNS := He.int_ok X G (c.fact 70 (f := .int "MOST_SIGNS" 8) rfl)
    i_MOST_COUNT := He.int_ok X G (c.fact 71 (f := .int "MOST_COUNT" 999999999) rfl)
    i_MOST_PLACES := He.int_ok X G (c.fact 72 (f := .int "MOST_PLACES" 40) rfl)
    i_MOST_FIRINGS := He.int_ok X G (c.fact 73 (f := .int "MOST_FIRINGS" 60) rfl)
    i_MOST_HEAPS := He.int_ok X G (c.fact 74 (f := .int "MOST_HEAPS" 2000) rfl)
    t_SMALL := He.str_ok X G (c.fact 75 (f := .str "SMALL" "abcdefghijklmnopqrstuvwxyz") rfl)
    t_FIGURES := He.str_ok X G (c.fact 76 (f := .str "FIGURES" "0123456789") rfl)
    c_Look := He.cls_ok (c.fact 77 (f := .cls "Look") rfl)
    m_Look := He.mkr_ok (c.fact 78 (f := .mkr "Look") rfl)
    a_Look_places := He.noat_ok (c.fact 79 (f := .noat "Look" "places") rfl)
    a_Look_begin := He.noat_ok (c.fact 80 (f := .noat "Look" "begin") rfl)
    a_Look_names := He.noat_ok (c.fact 81 (f := .noat "Look" "names") rfl)
    a_Look_labels := He.noat_ok (c.fact 82 (f := .noat "Look" "labels") rfl)
    a_Look_takes := He.noat_ok (c.fact 83 (f := .noat "Look" "takes") rfl)
    a_Look_gives := He.noat_ok (c.fact 84 (f := .noat "Look" "gives") rfl)
    c_Levels := He.cls_ok (c.fact 85 (f := .cls "Levels") rfl)
    m_Levels := He.mkr_ok (c.fact 86 (f := .mkr "Levels") rfl)
    a_Levels_look := He.noat_ok (c.fact 87 (f := .noat "Levels" "look") rfl)
    a_Levels_most := He.noat_ok (c.fact 88 (f := .noat "Levels" "most") rfl)
    a_Levels_levels := He.noat_ok (c.fact 89 (f := .noat "Levels" "levels") rfl)
    a_Levels_fresh := He.noat_ok (c.fact 90 (f := .noat "Levels" "fresh") rfl)
    c_Spot := He.cls_ok (c.fact 91 (f := .cls "Spot") rfl)
    m_Spot := He.mkr_ok (c.fact 92 (f := .mkr "Spot") rfl)
    a_Spot_wide := He.noat_ok (c.fact 93 (f := .noat "Spot" "wide") rfl)
    a_Spot_depth := He.noat_ok (c.fact 94 (f := .noat "Spot" "depth") rfl)
    a_Spot_parent := He.noat_ok (c.fact 95 (f := .noat "Spot" "parent") rfl)
    a_Spot_came_by := He.noat_ok (c.fact 96 (f := .noat "Spot" "came_by") rfl)
    a_Spot_pumps := He.noat_ok (c.fact 97 (f := .noat "Spot" "pumps") rfl)
    a_Spot_tail := He.noat_ok (c.fact 98 (f := .noat "Spot" "tail") rfl)
    c_Growth := He.cls_ok (c.fact 99 (f := .cls "Growth") rfl)
    m_Growth := He.mkr_ok (c.fact 100 (f := .mkr "Growth") rfl)
    a_Growth_look := He.noat_ok (c.fact 101 (f := .noat "Growth" "look") rfl)
    a_Growth_spots := He.noat_ok (c.fact 102 (f := .noat "Growth" "spots") rfl)
    a_Growth_there := He.noat_ok (c.fact 103 (f := .noat "Growth" "there") rfl)
    h_Look_lacking := He.meth_ok (c.fact 104 (f := .meth "Look" "lacking") rfl)
    h_Look_behind := He.meth_ok (c.fact 105 (f := .meth "Look" "behind") rfl)
    h_Look_can := He.meth_ok (c.fact 106 (f := .meth "Look" "can") rfl)
    h_Levels_is_come_to := He.meth_ok (c.fact 107 (f := .meth "Levels" "is_come_to") rfl)
    h_Levels_go_on := He.meth_ok (c.fact 108 (f := .meth "Levels" "go_on") rfl)
    h_Levels_first_row := He.meth_ok (c.fact 109 (f := .meth "Levels" "first_row") rfl)
    h_Spot_way_from := He.meth_ok (c.fact 110 (f := .meth "Spot" "way_from") rfl)
    h_Spot_pump := He.meth_ok (c.fact 111 (f := .meth "Spot" "pump") rfl)
    h_Growth_grow := He.meth_ok (c.fact 112 (f := .meth "Growth" "grow") rfl)
    h_Growth_put := He.meth_ok (c.fact 113 (f := .meth "Growth" "put") rfl)
    words := fun H => He.tupB_ok e1 H
    exc := ⟨oexB_ok e2, He.eqO_ok e3, of_decide_eq_true e4, of_decide_eq_true e5, e6⟩
    excI := He.eqO_ok e7
    excT := of_decide_eq_true e8
    excA := He.eqO_ok e9
    exmN := of_decide_eq_true e10
    exmT := of_decide_eq_true e11 }
end TF
open PySem PySem.W PySem.Calls PyProof.Rows
theorem head_test (HH : ∀ (P : Program) (w : World) (K : PySem.W.Frag) (mg : Str → Option Value) (T : TF.Txt K mg), ∀ base : Heap, K.In base → base.Ns mainGlobals mg → L2.FnOk P w K mg base L2.CX0 40 (He.ga K "law") (TF.fdAt K (He.ga K "law")) ["_law_script"] (fun vs H Q _ => ∃ (a : Addr) (ns : List Int), vs = [.ref a] ∧ L2.SqL K H a (ns.map L2.V.int) ∧ ns.length ≤ 63 ∧ ∀ H', Q (.bl true) H')) : PySem.Challenge.rw_tokenfold_k28_whole_more_tokens.Holds := by
  w_on; o_law
  refine HandSHeadRun.head_any (r := OpenLaw.row PySem.Challenge.rw_tokenfold_k28_whole_more_tokens) (q := TF.qv) (H := TF.hk) (ob := TF.ob) (M := 4400) (loose := TF.loose) (d := HandSHeadRun.topDef (OpenLaw.row PySem.Challenge.rw_tokenfold_k28_whole_more_tokens).prog 76) (kwd := []) TF.ob_eq
    (by kernel_rfl) (fun s => by kernel_rfl) TF.run (by kernel_rfl) (by kernel_rfl) (by kernel_rfl) (by rfl) (by first | assumption | decide +kernel) (by decide +kernel) ⟨rfl, rfl, rfl, rfl, rfl, by decide +kernel⟩ ?hw ?hc
  case hw => w_witness2
  case hc =>
    refine L2.walk_ofE (l := PySem.Challenge.rw_tokenfold_k28_whole_more_tokens) (n := 63) (k := 40) (x := "_law_script") (CX := L2.CX0) rfl (by decide) (by kernel_rfl) ⟨rfl, by decide, by decide⟩ ?F (fun _ _ _ _ z => z)
    intro w mg fa h Y G hmg0
    obtain ⟨K, KX, c, e⟩ := Y
    have T := TF.txt_of KX G c e
    have hmg : mg ("law" : PySem.Str) = some (.ref fa) := by
      have e : (HandSHeadRun.topDef (OpenLaw.row PySem.Challenge.rw_tokenfold_k28_whole_more_tokens).prog 76).name = ("law" : PySem.Str) := by kernel_rfl
      rw [← e]
      exact hmg0
    have ef := T.g_law.symm.trans hmg
    cases ef
    exact ⟨K, TF.fdAt K (He.ga K "law"), _, KX, fun s u => L2.FunD.bindsA (ps := ["_law_script"]) T.f_law (fun _ _ _ _ _ _ us hl => match us, hl with | [_], _ => rfl) s [u] rfl, fun H a ns hl _ hS => ⟨a, ns, rfl, hS, hl, fun _ => rfl⟩, HH _ w K mg T⟩
set_option Elab.async false
set_option linter.all false
/-! Fin: the join. -/
theorem PySem.Challenge.cw_tokenfold_k28_whole_more_tokens_holds : PySem.Challenge.rw_tokenfold_k28_whole_more_tokens.Holds :=
  head_test fun P w K mg T base _ _ => TF.w_law T
