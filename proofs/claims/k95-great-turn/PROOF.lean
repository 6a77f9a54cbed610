import PyProof.Rows.All
import Wide.All
import OpenK.AllK
import Wide.FinOn
import HandS.Base
import HandS.Call
import HandS.Ends
import HandS.Words
import HandS.Defaults
import PySem.Challenge.RW_loopgyre_k95_whole_from_text_to_great_tu
import KE.KStateDown
import Lean
import HandS.More
import HandS.WordsExc
import HandS.Head0
import HandS.Head1
import HandS.Head2
import HandS.HeadEnd
import HandS.HeadHook1
import HandS.HeadHook2
import HandS.ForMost
import HandS.Evl
import HandS.Walk
import HandS.IsInst
import HandS.Strs
import HandS.SetFor
import HandS.Replace
import HandS.Conv
section
set_option Elab.async false
set_option linter.all false
set_option maxRecDepth 100000
set_option maxHeartbeats 0
namespace GY
open PySem PySem.Spec PyProof.Rows L2
/-! ### the text by places -/
def top (i : Nat) : Stmt := PySem.Challenge.pw_loopgyre_k95_whole_from_text_to_great_tu.main.body.getD i (.Pass ⟨0, 0, 0, 0⟩)
abbrev s_is_whole : Stmt := top 7
abbrev s_look_size : Stmt := top 8
abbrev s_squares : Stmt := top 9
abbrev s_is_table : Stmt := top 11
abbrev s_is_form : Stmt := top 12
abbrev s_signs_fault : Stmt := top 13
abbrev s_is_state : Stmt := top 14
abbrev s_heights_of : Stmt := top 16
abbrev s_rim_height : Stmt := top 17
abbrev s_is_amiss : Stmt := top 18
abbrev s_look_heights : Stmt := top 19
abbrev s_state_of_heights : Stmt := top 20
abbrev s_is_level : Stmt := top 22
abbrev s_turn_point : Stmt := top 23
abbrev s_half_turn : Stmt := top 27
abbrev s_great_turn : Stmt := top 28
abbrev s_great_turn_back : Stmt := top 29
abbrev s_across_of : Stmt := top 32
abbrev s_arrows_of : Stmt := top 33
abbrev s_are_lists : Stmt := top 34
abbrev s_has_form : Stmt := top 35
abbrev s_is_right_place : Stmt := top 36
abbrev s_fault_of : Stmt := top 37
abbrev s_state_of_arrows : Stmt := top 38
abbrev s_walked : Stmt := top 40
abbrev s_sides_of : Stmt := top 41
abbrev s_pointed : Stmt := top 42
abbrev s_state_of_sides : Stmt := top 43
abbrev s_triangle_of : Stmt := top 45
abbrev s_is_list : Stmt := top 46
abbrev s_look_triangle : Stmt := top 47
abbrev s_state_of_triangle : Stmt := top 48
abbrev s_marked : Stmt := top 53
abbrev s_by_turns : Stmt := top 54
abbrev s_counted : Stmt := top 55
abbrev s_show : Stmt := top 56
abbrev s_unmarked : Stmt := top 57
abbrev s_figures_in : Stmt := top 58
abbrev s_numbers_in : Stmt := top 59
abbrev s_size_of : Stmt := top 60
abbrev s_pair_in : Stmt := top 61
abbrev s_signs_in : Stmt := top 62
abbrev s_heights_in : Stmt := top 63
abbrev s_triangle_in : Stmt := top 64
abbrev s_read : Stmt := top 65
abbrev s__law_cell_at : Stmt := top 67
abbrev s__law_mixed : Stmt := top 68
abbrev s__law_size_by : Stmt := top 69
abbrev s__law_triangle_by : Stmt := top 70
abbrev s__law_signs_of : Stmt := top 71
abbrev s__law_walked : Stmt := top 72
abbrev s__law_road_of : Stmt := top 73
abbrev s__law_next : Stmt := top 74
abbrev s__law_ways : Stmt := top 75
abbrev s__law_look : Stmt := top 76
abbrev s__law_led : Stmt := top 77
abbrev s_law : Stmt := top 78
abbrev FnP (K : PySem.W.Frag) (x : Str) (st : Stmt) (f : Addr) (fd : FuncData) : Prop := FunD K x x (defArgs st) (defBody st) (defScope st) [] [] f fd
end GY
end
section
set_option Elab.async false
set_option linter.all false
set_option maxRecDepth 100000
set_option maxHeartbeats 0
namespace GY
open PySem PySem.Spec PyProof.Rows L2
/-! ### the head -/
def d_is_whole : He.DefD := ⟨("is_whole", none), "is_whole", "is_whole", defArgs s_is_whole, defBody s_is_whole, defScope s_is_whole, [], []⟩
def d_look_size : He.DefD := ⟨("look_size", none), "look_size", "look_size", defArgs s_look_size, defBody s_look_size, defScope s_look_size, [], []⟩
def d_squares : He.DefD := ⟨("squares", none), "squares", "squares", defArgs s_squares, defBody s_squares, defScope s_squares, [], []⟩
def d_is_table : He.DefD := ⟨("is_table", none), "is_table", "is_table", defArgs s_is_table, defBody s_is_table, defScope s_is_table, [], []⟩
def d_is_form : He.DefD := ⟨("is_form", none), "is_form", "is_form", defArgs s_is_form, defBody s_is_form, defScope s_is_form, [], []⟩
def d_signs_fault : He.DefD := ⟨("signs_fault", none), "signs_fault", "signs_fault", defArgs s_signs_fault, defBody s_signs_fault, defScope s_signs_fault, [], []⟩
def d_is_state : He.DefD := ⟨("is_state", none), "is_state", "is_state", defArgs s_is_state, defBody s_is_state, defScope s_is_state, [], []⟩
def d_heights_of : He.DefD := ⟨("heights_of", none), "heights_of", "heights_of", defArgs s_heights_of, defBody s_heights_of, defScope s_heights_of, [], []⟩
def d_rim_height : He.DefD := ⟨("rim_height", none), "rim_height", "rim_height", defArgs s_rim_height, defBody s_rim_height, defScope s_rim_height, [], []⟩
def d_is_amiss : He.DefD := ⟨("is_amiss", none), "is_amiss", "is_amiss", defArgs s_is_amiss, defBody s_is_amiss, defScope s_is_amiss, [], []⟩
def d_look_heights : He.DefD := ⟨("look_heights", none), "look_heights", "look_heights", defArgs s_look_heights, defBody s_look_heights, defScope s_look_heights, [], []⟩
def d_state_of_heights : He.DefD := ⟨("state_of_heights", none), "state_of_heights", "state_of_heights", defArgs s_state_of_heights, defBody s_state_of_heights, defScope s_state_of_heights, [], []⟩
def d_is_level : He.DefD := ⟨("is_level", none), "is_level", "is_level", defArgs s_is_level, defBody s_is_level, defScope s_is_level, [], []⟩
def d_turn_point : He.DefD := ⟨("turn_point", none), "turn_point", "turn_point", defArgs s_turn_point, defBody s_turn_point, defScope s_turn_point, [], []⟩
def d_half_turn : He.DefD := ⟨("half_turn", none), "half_turn", "half_turn", defArgs s_half_turn, defBody s_half_turn, defScope s_half_turn, [], []⟩
def d_great_turn : He.DefD := ⟨("great_turn", none), "great_turn", "great_turn", defArgs s_great_turn, defBody s_great_turn, defScope s_great_turn, [], []⟩
def d_great_turn_back : He.DefD := ⟨("great_turn_back", none), "great_turn_back", "great_turn_back", defArgs s_great_turn_back, defBody s_great_turn_back, defScope s_great_turn_back, [], []⟩
def d_across_of : He.DefD := ⟨("across_of", none), "across_of", "across_of", defArgs s_across_of, defBody s_across_of, defScope s_across_of, [], []⟩
def d_arrows_of : He.DefD := ⟨("arrows_of", none), "arrows_of", "arrows_of", defArgs s_arrows_of, defBody s_arrows_of, defScope s_arrows_of, [], []⟩
def d_are_lists : He.DefD := ⟨("are_lists", none), "are_lists", "are_lists", defArgs s_are_lists, defBody s_are_lists, defScope s_are_lists, [], []⟩
def d_has_form : He.DefD := ⟨("has_form", none), "has_form", "has_form", defArgs s_has_form, defBody s_has_form, defScope s_has_form, [], []⟩
def d_is_right_place : He.DefD := ⟨("is_right_place", none), "is_right_place", "is_right_place", defArgs s_is_right_place, defBody s_is_right_place, defScope s_is_right_place, [], []⟩
def d_fault_of : He.DefD := ⟨("fault_of", none), "fault_of", "fault_of", defArgs s_fault_of, defBody s_fault_of, defScope s_fault_of, [], []⟩
def d_state_of_arrows : He.DefD := ⟨("state_of_arrows", none), "state_of_arrows", "state_of_arrows", defArgs s_state_of_arrows, defBody s_state_of_arrows, defScope s_state_of_arrows, [], []⟩
def d_walked : He.DefD := ⟨("walked", none), "walked", "walked", defArgs s_walked, defBody s_walked, defScope s_walked, [], []⟩
def d_sides_of : He.DefD := ⟨("sides_of", none), "sides_of", "sides_of", defArgs s_sides_of, defBody s_sides_of, defScope s_sides_of, [], []⟩
def d_pointed : He.DefD := ⟨("pointed", none), "pointed", "pointed", defArgs s_pointed, defBody s_pointed, defScope s_pointed, [], []⟩
def d_state_of_sides : He.DefD := ⟨("state_of_sides", none), "state_of_sides", "state_of_sides", defArgs s_state_of_sides, defBody s_state_of_sides, defScope s_state_of_sides, [], []⟩
def d_triangle_of : He.DefD := ⟨("triangle_of", none), "triangle_of", "triangle_of", defArgs s_triangle_of, defBody s_triangle_of, defScope s_triangle_of, [], []⟩
def d_is_list : He.DefD := ⟨("is_list", none), "is_list", "is_list", defArgs s_is_list, defBody s_is_list, defScope s_is_list, [], []⟩
def d_look_triangle : He.DefD := ⟨("look_triangle", none), "look_triangle", "look_triangle", defArgs s_look_triangle, defBody s_look_triangle, defScope s_look_triangle, [], []⟩
def d_state_of_triangle : He.DefD := ⟨("state_of_triangle", none), "state_of_triangle", "state_of_triangle", defArgs s_state_of_triangle, defBody s_state_of_triangle, defScope s_state_of_triangle, [], []⟩
def d_marked : He.DefD := ⟨("marked", none), "marked", "marked", defArgs s_marked, defBody s_marked, defScope s_marked, [], []⟩
def d_by_turns : He.DefD := ⟨("by_turns", none), "by_turns", "by_turns", defArgs s_by_turns, defBody s_by_turns, defScope s_by_turns, [], []⟩
def d_counted : He.DefD := ⟨("counted", none), "counted", "counted", defArgs s_counted, defBody s_counted, defScope s_counted, [], []⟩
def d_show : He.DefD := ⟨("show", none), "show", "show", defArgs s_show, defBody s_show, defScope s_show, [], []⟩
def d_unmarked : He.DefD := ⟨("unmarked", none), "unmarked", "unmarked", defArgs s_unmarked, defBody s_unmarked, defScope s_unmarked, [], []⟩
def d_figures_in : He.DefD := ⟨("figures_in", none), "figures_in", "figures_in", defArgs s_figures_in, defBody s_figures_in, defScope s_figures_in, [], []⟩
def d_numbers_in : He.DefD := ⟨("numbers_in", none), "numbers_in", "numbers_in", defArgs s_numbers_in, defBody s_numbers_in, defScope s_numbers_in, [], []⟩
def d_size_of : He.DefD := ⟨("size_of", none), "size_of", "size_of", defArgs s_size_of, defBody s_size_of, defScope s_size_of, [], []⟩
def d_pair_in : He.DefD := ⟨("pair_in", none), "pair_in", "pair_in", defArgs s_pair_in, defBody s_pair_in, defScope s_pair_in, [], []⟩
def d_signs_in : He.DefD := ⟨("signs_in", none), "signs_in", "signs_in", defArgs s_signs_in, defBody s_signs_in, defScope s_signs_in, [], []⟩
def d_heights_in : He.DefD := ⟨("heights_in", none), "heights_in", "heights_in", defArgs s_heights_in, defBody s_heights_in, defScope s_heights_in, [], []⟩
def d_triangle_in : He.DefD := ⟨("triangle_in", none), "triangle_in", "triangle_in", defArgs s_triangle_in, defBody s_triangle_in, defScope s_triangle_in, [], []⟩
def d_read : He.DefD := ⟨("read", none), "read", "read", defArgs s_read, defBody s_read, defScope s_read, [], []⟩
def d__law_cell_at : He.DefD := ⟨("_law_cell_at", none), "_law_cell_at", "_law_cell_at", defArgs s__law_cell_at, defBody s__law_cell_at, defScope s__law_cell_at, [], []⟩
def d__law_mixed : He.DefD := ⟨("_law_mixed", none), "_law_mixed", "_law_mixed", defArgs s__law_mixed, defBody s__law_mixed, defScope s__law_mixed, [], []⟩
def d__law_size_by : He.DefD := ⟨("_law_size_by", none), "_law_size_by", "_law_size_by", defArgs s__law_size_by, defBody s__law_size_by, defScope s__law_size_by, [], []⟩
def d__law_triangle_by : He.DefD := ⟨("_law_triangle_by", none), "_law_triangle_by", "_law_triangle_by", defArgs s__law_triangle_by, defBody s__law_triangle_by, defScope s__law_triangle_by, [], []⟩
def d__law_signs_of : He.DefD := ⟨("_law_signs_of", none), "_law_signs_of", "_law_signs_of", defArgs s__law_signs_of, defBody s__law_signs_of, defScope s__law_signs_of, [], []⟩
def d__law_walked : He.DefD := ⟨("_law_walked", none), "_law_walked", "_law_walked", defArgs s__law_walked, defBody s__law_walked, defScope s__law_walked, [], []⟩
def d__law_road_of : He.DefD := ⟨("_law_road_of", none), "_law_road_of", "_law_road_of", defArgs s__law_road_of, defBody s__law_road_of, defScope s__law_road_of, [], []⟩
def d__law_next : He.DefD := ⟨("_law_next", none), "_law_next", "_law_next", defArgs s__law_next, defBody s__law_next, defScope s__law_next, [], []⟩
def d__law_ways : He.DefD := ⟨("_law_ways", none), "_law_ways", "_law_ways", defArgs s__law_ways, defBody s__law_ways, defScope s__law_ways, [], []⟩
def d__law_look : He.DefD := ⟨("_law_look", none), "_law_look", "_law_look", defArgs s__law_look, defBody s__law_look, defScope s__law_look, [], []⟩
def d__law_led : He.DefD := ⟨("_law_led", none), "_law_led", "_law_led", defArgs s__law_led, defBody s__law_led, defScope s__law_led, [], []⟩
def d_law : He.DefD := ⟨("law", none), "law", "law", defArgs s_law, defBody s_law, defScope s_law, [], []⟩
def fn0 : List He.DefD := [d_is_whole, d_look_size, d_squares, d_is_table, d_is_form, d_signs_fault, d_is_state, d_heights_of, d_rim_height, d_is_amiss, d_look_heights, d_state_of_heights, d_is_level, d_turn_point, d_half_turn, d_great_turn, d_great_turn_back, d_across_of, d_arrows_of, d_are_lists]
def fn1 : List He.DefD := [d_has_form, d_is_right_place, d_fault_of, d_state_of_arrows, d_walked, d_sides_of, d_pointed, d_state_of_sides, d_triangle_of, d_is_list, d_look_triangle, d_state_of_triangle, d_marked, d_by_turns, d_counted, d_show, d_unmarked, d_figures_in, d_numbers_in, d_size_of]
def fn2 : List He.DefD := [d_pair_in, d_signs_in, d_heights_in, d_triangle_in, d_read, d__law_cell_at, d__law_mixed, d__law_size_by, d__law_triangle_by, d__law_signs_of, d__law_walked, d__law_road_of, d__law_next, d__law_ways, d__law_look, d__law_led, d_law]
def fn : List He.DefD := fn0 ++ fn1 ++ fn2
def fa0 : List He.Fa := [.glo "is_whole", .glo "look_size", .glo "squares", .glo "is_table", .glo "is_form", .glo "signs_fault", .glo "is_state", .glo "heights_of", .glo "rim_height", .glo "is_amiss", .glo "look_heights", .glo "state_of_heights", .glo "is_level", .glo "turn_point", .glo "half_turn", .glo "great_turn", .glo "great_turn_back", .glo "across_of", .glo "arrows_of", .glo "are_lists"]
def fa1 : List He.Fa := [.glo "has_form", .glo "is_right_place", .glo "fault_of", .glo "state_of_arrows", .glo "walked", .glo "sides_of", .glo "pointed", .glo "state_of_sides", .glo "triangle_of", .glo "is_list", .glo "look_triangle", .glo "state_of_triangle", .glo "marked", .glo "by_turns", .glo "counted", .glo "show", .glo "unmarked", .glo "figures_in", .glo "numbers_in", .glo "size_of"]
def fa2 : List He.Fa := [.glo "pair_in", .glo "signs_in", .glo "heights_in", .glo "triangle_in", .glo "read", .glo "_law_cell_at", .glo "_law_mixed", .glo "_law_size_by", .glo "_law_triangle_by", .glo "_law_signs_of", .glo "_law_walked", .glo "_law_road_of", .glo "_law_next", .glo "_law_ways", .glo "_law_look", .glo "_law_led", .glo "law", .free "len", .free "range", .free "list"]
def fa3 : List He.Fa := [.free "isinstance", .free "int", .free "enumerate", .free "str", .free "zip", .free "bool", .free "tuple", .free "sum", .free "min", .free "max", .free "abs", .int "MOST" 12, .int "MOST_SIZE_arrows" 12, .int "MOST_SIZE_texts" 12, .int "MOST_HEIGHT" 24, .str "LIGHT" "light", .str "DARK" "dark", .str "FIGURES" "0123456789"]
def fa : List He.Fa := fa0 ++ fa1 ++ fa2 ++ fa3
def loose0 : List PySem.Str := ["GyreError", "NoState", "NoSize", "NoText", "MOST", "is_whole", "look_size", "squares", "is_table", "is_form", "signs_fault", "is_state", "heights_of", "rim_height", "is_amiss", "look_heights", "state_of_heights", "is_level", "turn_point", "LIGHT"]
def loose1 : List PySem.Str := ["DARK", "half_turn", "great_turn", "great_turn_back", "MOST_SIZE_arrows", "across_of", "arrows_of", "are_lists", "has_form", "is_right_place", "fault_of", "state_of_arrows", "walked", "sides_of", "pointed", "state_of_sides", "triangle_of", "is_list", "look_triangle", "state_of_triangle"]
def loose2 : List PySem.Str := ["MOST_SIZE_texts", "MOST_HEIGHT", "FIGURES", "marked", "by_turns", "counted", "show", "unmarked", "figures_in", "numbers_in", "size_of", "pair_in", "signs_in", "heights_in", "triangle_in", "read", "_law_cell_at", "_law_mixed", "_law_size_by", "_law_triangle_by"]
def loose3 : List PySem.Str := ["_law_signs_of", "_law_walked", "_law_road_of", "_law_next", "_law_ways", "_law_look", "_law_led"]
def loose : List PySem.Str := loose0 ++ loose1 ++ loose2 ++ loose3
abbrev RR : PySem.W.OpenRow := PySem.W.OpenLaw.row PySem.Challenge.rw_loopgyre_k95_whole_from_text_to_great_tu
abbrev qv : Program := PySem.W.view RR.prog [78]
abbrev hk : PySem.W.Hook := He.hookD 4 fa fn
def ob (s : PySem.W.SharedT) : He.AlD := He.obsDG 4 fa fn (HandSHeadRun.getT s)
theorem ob_eq (s : PySem.W.SharedT) : ob s = hk.obs s.abs := He.obsDG_eq (HandSHeadRun.getT_eq s)
theorem run (w : World) : HandSHeadRun.RunEq RR qv hk ob 6000 loose w := by
  intro os
  kernel_rfl
end GY
end
section
set_option Elab.async false
set_option linter.all false
set_option maxRecDepth 100000
set_option maxHeartbeats 4000000
/-! a layer of data over HandS: slots hold data, lists that a def makes are its own -/
namespace GY
open PySem PySem.Spec PyProof.Rows L2
open Evl (Ex fresh_back)

/-! ### data -/
inductive Dt where
  | non | bl (b : Bool) | int (i : Int) | str (x : Str)
  | lst (xs : List Dt) | tup (xs : List Dt)
  | dic (kvs : List ((Int × Int) × Bool))
  /-- a written tuple of ints whose methods are called -/
  | fix (ns : List Int)
def Dt.sc : Dt → Bool
  | .non => true
  | .bl _ => true
  | .int _ => true
  | .str _ => true
  | _ => false
def Dt.sv : Dt → V
  | .bl b => .bl b
  | .int i => .int i
  | .str x => .str x
  | _ => .non
/-- an entry of a dict whose keys are pairs -/
def entT (p : (Int × Int) × Bool) : List Key × V := ([Sum.inl p.1.1, Sum.inl p.1.2], V.bl p.2)
/-- an entry of a dict from ints to ints -/
def entK (p : Int × Int) : Key × V := (Sum.inl p.1, V.int p.2)
/-- a plain tuple without a dict -/
def fixT (p : Addr) (ns : List Int) : HO := .ext fun h => ∃ (its : List Value) (n : Nat), Vals (ns.map V.int) its ∧ h.get? p = some { cls := .type "tuple", data := .seq its.toArray n }
mutual
inductive Rp (K : PySem.W.Frag) (H : Hp) : V → Dt → Prop
  | non : Rp K H .non .non
  | bl (b : Bool) : Rp K H (.bl b) (.bl b)
  | int (i : Int) : Rp K H (.int i) (.int i)
  | str (x : Str) : Rp K H (.str x) (.str x)
  | lst {a : Addr} {xs : List V} {ds : List Dt} : SqL K H a xs → RpA K H xs ds → Rp K H (.ref a) (.lst ds)
  | tup {a : Addr} {xs : List V} {ds : List Dt} : H a = some (.tup xs) → RpA K H xs ds → Rp K H (.ref a) (.tup ds)
  | dic {a : Addr} {kvs : List ((Int × Int) × Bool)} : Rd H a (.dT (kvs.map entT)) → Rp K H (.ref a) (.dic kvs)
  | fix {a : Addr} {ns : List Int} : H a = some (fixT a ns) → Rp K H (.ref a) (.fix ns)
inductive RpA (K : PySem.W.Frag) (H : Hp) : List V → List Dt → Prop
  | nil : RpA K H [] []
  | cons {v : V} {vs : List V} {d : Dt} {ds : List Dt} : Rp K H v d → RpA K H vs ds → RpA K H (v :: vs) (d :: ds)
end
mutual
theorem Rp.mono {K : PySem.W.Frag} {H H' : Hp} (e : Ex H H') : ∀ (d : Dt) {v : V}, Rp K H v d → Rp K H' v d
  | .non, _, h => by cases h; exact .non
  | .bl b, _, h => by cases h; exact .bl b
  | .int i, _, h => by cases h; exact .int i
  | .str x, _, h => by cases h; exact .str x
  | .lst ds, _, h => by
    cases h with
    | lst a b => exact .lst (Evl.ex_l e a) (RpA.mono e ds b)
  | .tup ds, _, h => by
    cases h with
    | tup a b => exact .tup (e _ _ a) (RpA.mono e ds b)
  | .dic kvs, _, h => by
    cases h with
    | dic a => exact .dic (Evl.ex_rd e a)
  | .fix ns, _, h => by
    cases h with
    | fix a => exact .fix (e _ _ a)
theorem RpA.mono {K : PySem.W.Frag} {H H' : Hp} (e : Ex H H') : ∀ (ds : List Dt) {vs : List V}, RpA K H vs ds → RpA K H' vs ds
  | [], _, h => by cases h; exact .nil
  | d :: ds, _, h => by
    cases h with
    | cons a b => exact .cons (Rp.mono e d a) (RpA.mono e ds b)
end
theorem Rp.up {K : PySem.W.Frag} {H H' : Hp} {d : Dt} {v : V} (h : Rp K H v d) (e : Ex H H') : Rp K H' v d := Rp.mono e d h
theorem RpA.up {K : PySem.W.Frag} {H H' : Hp} {ds : List Dt} {vs : List V} (h : RpA K H vs ds) (e : Ex H H') : RpA K H' vs ds := RpA.mono e ds h
section
variable {K : PySem.W.Frag} {H H' : Hp} {v : V} {d : Dt} {vs ws : List V} {ds es : List Dt}
theorem Rp.scal (h : Rp K H v d) (s : d.sc = true) : v = d.sv := by
  cases h <;> first | rfl | cases s
theorem Rp.of_sc (s : d.sc = true) : Rp K H d.sv d := by
  cases d with
  | non => exact .non
  | bl b => exact .bl b
  | int i => exact .int i
  | str x => exact .str x
  | _ => cases s
theorem Rp.sc (h : Rp K H v d) (s : d.sc = true) : Rp K H' v d := by
  rw [h.scal s]
  exact .of_sc s
theorem Rp.int_inv {i : Int} (h : Rp K H v (.int i)) : v = .int i := by cases h; rfl
theorem Rp.bl_inv {b : Bool} (h : Rp K H v (.bl b)) : v = .bl b := by cases h; rfl
theorem Rp.str_inv {x : Str} (h : Rp K H v (.str x)) : v = .str x := by cases h; rfl
theorem Rp.non_inv (h : Rp K H v .non) : v = .non := by cases h; rfl
theorem Rp.lst_inv (h : Rp K H v (.lst ds)) : ∃ a xs, v = .ref a ∧ SqL K H a xs ∧ RpA K H xs ds := by
  cases h with
  | lst a b => exact ⟨_, _, rfl, a, b⟩
theorem Rp.tup_inv (h : Rp K H v (.tup ds)) : ∃ a xs, v = .ref a ∧ H a = some (.tup xs) ∧ RpA K H xs ds := by
  cases h with
  | tup a b => exact ⟨_, _, rfl, a, b⟩
theorem Rp.dic_inv {kvs : List ((Int × Int) × Bool)} (h : Rp K H v (.dic kvs)) : ∃ a, v = .ref a ∧ Rd H a (.dT (kvs.map entT)) := by
  cases h with
  | dic a => exact ⟨_, rfl, a⟩
theorem Rp.fix_inv {ns : List Int} (h : Rp K H v (.fix ns)) : ∃ a, v = .ref a ∧ H a = some (fixT a ns) := by
  cases h with
  | fix a => exact ⟨_, rfl, a⟩
theorem RpA.len : ∀ {vs : List V} {ds : List Dt}, RpA K H vs ds → vs.length = ds.length
  | _, [], h => by cases h; rfl
  | _, d :: ds, h => by
    cases h with
    | cons a b => exact congrArg Nat.succ (RpA.len b)
theorem RpA.get : ∀ {vs : List V} {ds : List Dt} {i : Nat} {d : Dt}, RpA K H vs ds → ds[i]? = some d → ∃ v, vs[i]? = some v ∧ Rp K H v d
  | _, [], _, _, _, e => by simp at e
  | _, d :: ds, 0, _, h, e => by
    cases h with
    | cons a b =>
      simp at e
      subst e
      exact ⟨_, rfl, a⟩
  | _, d :: ds, i + 1, x, h, e => by
    cases h with
    | cons a b =>
      obtain ⟨v, h1, h2⟩ := RpA.get (i := i) (d := x) b (by simpa using e)
      exact ⟨v, by simpa using h1, h2⟩
theorem RpA.app : ∀ {vs : List V} {ds : List Dt}, RpA K H vs ds → RpA K H ws es → RpA K H (vs ++ ws) (ds ++ es)
  | _, [], h, g => by cases h; exact g
  | _, d :: ds, h, g => by
    cases h with
    | cons a b => exact .cons a (RpA.app b g)
theorem RpA.one (h : Rp K H v d) : RpA K H [v] [d] := .cons h .nil
theorem RpA.set : ∀ {vs : List V} {ds : List Dt} (i : Nat), RpA K H vs ds → Rp K H v d → RpA K H (vs.set i v) (ds.set i d)
  | _, [], _, h, _ => by cases h; exact .nil
  | _, e :: ds, 0, h, g => by
    cases h with
    | cons a b => exact .cons g b
  | _, e :: ds, i + 1, h, g => by
    cases h with
    | cons a b => exact .cons a (RpA.set i b g)
theorem RpA.rev : ∀ {vs : List V} {ds : List Dt}, RpA K H vs ds → RpA K H vs.reverse ds.reverse
  | _, [], h => by cases h; exact .nil
  | _, d :: ds, h => by
    cases h with
    | cons a b =>
      rw [List.reverse_cons, List.reverse_cons]
      exact RpA.app (RpA.rev b) (.one a)
theorem RpA.take : ∀ {vs : List V} {ds : List Dt} (n : Nat), RpA K H vs ds → RpA K H (vs.take n) (ds.take n)
  | _, _, 0, _ => .nil
  | _, [], _ + 1, h => by cases h; exact .nil
  | _, d :: ds, n + 1, h => by
    cases h with
    | cons a b => exact .cons a (RpA.take n b)
theorem RpA.drop : ∀ {vs : List V} {ds : List Dt} (n : Nat), RpA K H vs ds → RpA K H (vs.drop n) (ds.drop n)
  | _, _, 0, h => h
  | _, [], _ + 1, h => by cases h; exact .nil
  | _, d :: ds, n + 1, h => by
    cases h with
    | cons a b => exact RpA.drop n b
theorem RpA.sv : ∀ {vs : List V} {ds : List Dt}, RpA K H vs ds → ds.all Dt.sc = true → vs = ds.map Dt.sv
  | _, [], h, _ => by cases h; rfl
  | _, d :: ds, h, g => by
    cases h with
    | cons a b =>
      simp only [List.all_cons, Bool.and_eq_true] at g
      rw [List.map_cons, ← a.scal g.1, ← RpA.sv b g.2]
theorem RpA.of_sc : ∀ {ds : List Dt}, ds.all Dt.sc = true → RpA K H (ds.map Dt.sv) ds
  | [], _ => .nil
  | d :: ds, g => by
    simp only [List.all_cons, Bool.and_eq_true] at g
    exact .cons (.of_sc g.1) (RpA.of_sc g.2)
end
abbrev dI (ns : List Int) : List Dt := ns.map Dt.int
abbrev dS (ns : List Str) : List Dt := ns.map Dt.str
section
variable {K : PySem.W.Frag} {H : Hp} {vs : List V}
theorem RpA.ints {ns : List Int} (h : RpA K H vs (dI ns)) : vs = ns.map V.int := by
  have e := h.sv (by rw [List.all_map]; exact List.all_eq_true.mpr fun _ _ => rfl)
  rw [e, List.map_map]
  rfl
theorem RpA.of_ints (ns : List Int) : RpA K H (ns.map V.int) (dI ns) := by
  have e := RpA.of_sc (K := K) (H := H) (ds := dI ns) (by rw [List.all_map]; exact List.all_eq_true.mpr fun _ _ => rfl)
  rw [List.map_map] at e
  exact e
theorem RpA.strs {ns : List Str} (h : RpA K H vs (dS ns)) : vs = ns.map V.str := by
  have e := h.sv (by rw [List.all_map]; exact List.all_eq_true.mpr fun _ _ => rfl)
  rw [e, List.map_map]
  rfl
theorem RpA.of_strs (ns : List Str) : RpA K H (ns.map V.str) (dS ns) := by
  have e := RpA.of_sc (K := K) (H := H) (ds := dS ns) (by rw [List.all_map]; exact List.all_eq_true.mpr fun _ _ => rfl)
  rw [List.map_map] at e
  exact e
end

/-! ### parts of the heap -/
def mnu (os : List Addr) (H : Hp) : Hp := fun a => if a ∈ os then none else H a
def nw (H0 H : Hp) : Hp := fun a => if (H0 a).isSome = true then none else H a
/-- how a value may be read: as the heap stands; by what is not our own; by what is new and not our own -/
inductive Md where | r | s | f
  deriving DecidableEq
def hp : Md → List Addr → Hp → Hp → Hp
  | .r, _, _, H => H
  | .s, os, _, H => mnu os H
  | .f, os, H0, H => mnu os (nw H0 H)
theorem mnu_some {os : List Addr} {H : Hp} {a : Addr} {o : HO} : mnu os H a = some o ↔ a ∉ os ∧ H a = some o := by
  unfold mnu
  by_cases h : a ∈ os
  · rw [if_pos h]
    exact ⟨fun e => (by cases e), fun e => absurd h e.1⟩
  · rw [if_neg h]
    exact ⟨fun e => ⟨h, e⟩, fun e => e.2⟩
theorem nw_some {H0 H : Hp} {a : Addr} {o : HO} : nw H0 H a = some o ↔ H0 a = none ∧ H a = some o := by
  unfold nw
  cases h : H0 a with
  | none =>
    rw [if_neg (by simp)]
    exact ⟨fun e => ⟨rfl, e⟩, fun e => e.2⟩
  | some u =>
    rw [if_pos (by simp)]
    exact ⟨fun e => (by cases e), fun e => (by cases e.1)⟩
theorem ex_mnu {os : List Addr} {H : Hp} : Ex (mnu os H) H := fun _ _ h => (mnu_some.mp h).2
theorem ex_nw {H0 H : Hp} : Ex (nw H0 H) H := fun _ _ h => (nw_some.mp h).2
theorem mnu_ex {os : List Addr} {H H' : Hp} (e : Ex H H') : Ex (mnu os H) (mnu os H') := fun a o h => mnu_some.mpr ⟨(mnu_some.mp h).1, e a o (mnu_some.mp h).2⟩
theorem nw_ex {H0 H H' : Hp} (e : Ex H H') : Ex (nw H0 H) (nw H0 H') := fun a o h => nw_some.mpr ⟨(nw_some.mp h).1, e a o (nw_some.mp h).2⟩
theorem mnu_sub {os os' : List Addr} {H : Hp} (h : ∀ p ∈ os', p ∈ os) : Ex (mnu os H) (mnu os' H) := fun a o e => mnu_some.mpr ⟨fun z => (mnu_some.mp e).1 (h a z), (mnu_some.mp e).2⟩
theorem hp_ex {m : Md} {os : List Addr} {H0 H H' : Hp} (e : Ex H H') : Ex (hp m os H0 H) (hp m os H0 H') := by
  cases m with
  | r => exact e
  | s => exact mnu_ex e
  | f => exact mnu_ex (nw_ex e)
theorem hp_r {m : Md} {os : List Addr} {H0 H : Hp} : Ex (hp m os H0 H) H := by
  cases m with
  | r => exact Ex.refl _
  | s => exact ex_mnu
  | f => exact ex_mnu.trans ex_nw
theorem hp_f {m : Md} {os : List Addr} {H0 H : Hp} : Ex (hp .f os H0 H) (hp m os H0 H) := by
  cases m with
  | r => exact hp_r
  | s => exact mnu_ex ex_nw
  | f => exact Ex.refl _
theorem hp_sub {m : Md} {os os' : List Addr} {H0 H : Hp} (h : ∀ p ∈ os', p ∈ os) : Ex (hp m os H0 H) (hp m os' H0 H) := by
  cases m with
  | r => exact Ex.refl _
  | s => exact mnu_sub h
  | f => exact mnu_sub h
/-- an own object changed is not seen -/
theorem hp_upd {m : Md} {os : List Addr} {H0 H : Hp} {p : Addr} {o : HO} (h : p ∈ os) (hm : m ≠ .r) : hp m os H0 (upd H p o) = hp m os H0 H := by
  have q : ∀ G : Hp, mnu os (upd G p o) = mnu os G := fun G => by
    funext a
    unfold mnu
    by_cases ha : a ∈ os
    · rw [if_pos ha, if_pos ha]
    · rw [if_neg ha, if_neg ha, upd_ne (fun z => ha (by rw [z]; exact h))]
  cases m with
  | r => exact absurd rfl hm
  | s => exact q H
  | f =>
    show mnu os (nw H0 (upd H p o)) = mnu os (nw H0 H)
    funext a
    unfold mnu
    by_cases ha : a ∈ os
    · rw [if_pos ha, if_pos ha]
    · rw [if_neg ha, if_neg ha]
      unfold nw
      rw [upd_ne (fun z => ha (by rw [z]; exact h))]
/-- a new own object is not seen -/
theorem hp_new {m : Md} {os : List Addr} {H0 H : Hp} {p : Addr} {o : HO} (h : H p = none) (hm : m ≠ .r) : Ex (hp m os H0 H) (hp m (p :: os) H0 (upd H p o)) := by
  intro a u e
  have ha : H a = some u := hp_r _ _ e
  have hne : a ≠ p := fun z => by rw [z, h] at ha; cases ha
  cases m with
  | r => exact absurd rfl hm
  | s =>
    obtain ⟨h1, h2⟩ := mnu_some.mp (show mnu os H a = some u from e)
    exact mnu_some.mpr ⟨fun z => by rcases List.mem_cons.mp z with z | z; exact hne z; exact h1 z, by rw [upd_ne hne]; exact h2⟩
  | f =>
    obtain ⟨h1, h2⟩ := mnu_some.mp (show mnu os (nw H0 H) a = some u from e)
    obtain ⟨h3, h4⟩ := nw_some.mp h2
    exact mnu_some.mpr ⟨fun z => by rcases List.mem_cons.mp z with z | z; exact hne z; exact h1 z, nw_some.mpr ⟨h3, by rw [upd_ne hne]; exact h4⟩⟩

/-! ### slots -/
inductive Sl where
  | no
  /-- any data -/
  | d (x : Dt)
  /-- data that is new since the def's entry -/
  | f (x : Dt)
  /-- a list of our own (of new things) -/
  | own (xs : List Dt)
  /-- dicts of our own -/
  | dT (kvs : List ((Int × Int) × Bool)) | dK (kvs : List (Int × Int))
  /-- rows of our own -/
  | mx (rows : List (List Int))
  /-- a dict of our own while a loop walks it -/
  | lk (p : Addr) (w : Obj) (kvs : List ((Int × Int) × Bool))
abbrev Ga := List Sl
def Sl.get : Md → Sl → Option Dt
  | .f, .d x => if x.sc = true then some x else none
  | _, .d x => some x
  | _, .f x => some x
  | .r, .own xs => some (.lst xs)
  | .r, .dT kvs => some (.dic kvs)
  | .r, .lk _ _ kvs => some (.dic kvs)
  | .r, .mx rows => some (.lst (rows.map fun r => .lst (dI r)))
  | _, _ => none
def SlOk (K : PySem.W.Frag) (H0 : Hp) (os : List Addr) (H : Hp) : Sl → Option (Option V) → List Addr → Prop
  | .no, _, _ => True
  | .d x, o, _ => ∃ v, o = some (some v) ∧ Rp K (hp .s os H0 H) v x
  | .f x, o, _ => ∃ v, o = some (some v) ∧ Rp K (hp .f os H0 H) v x
  | .own ds, o, A => ∃ p xs, o = some (some (.ref p)) ∧ A = [p] ∧ H p = some (.lst xs) ∧ RpA K (hp .f os H0 H) xs ds
  | .dT kvs, o, A => ∃ p, o = some (some (.ref p)) ∧ A = [p] ∧ H p = some (.dT (kvs.map entT))
  | .dK kvs, o, A => ∃ p, o = some (some (.ref p)) ∧ A = [p] ∧ H p = some (.dK (kvs.map entK))
  | .mx rows, o, A => ∃ p as, o = some (some (.ref p)) ∧ A = p :: as ∧ (p :: as).Nodup ∧ H p = some (.lst (as.map V.ref)) ∧ Paired (fun a ns => H a = some (.lst (ns.map V.int))) as rows
  | .lk p w kvs, o, A => o = some (some (.ref p)) ∧ A = [p] ∧ H p = some (.frz w (.dT (kvs.map entT)))
theorem SlOk.up {K : PySem.W.Frag} {H0 : Hp} {os : List Addr} {H H' : Hp} {s : Sl} {o : Option (Option V)} {A : List Addr} (h : SlOk K H0 os H s o A) (e : Ex H H') : SlOk K H0 os H' s o A := by
  cases s with
  | no => trivial
  | d x => obtain ⟨v, h1, h2⟩ := h; exact ⟨v, h1, h2.up (hp_ex e)⟩
  | f x => obtain ⟨v, h1, h2⟩ := h; exact ⟨v, h1, h2.up (hp_ex e)⟩
  | own ds => obtain ⟨p, xs, h1, h2, h3, h4⟩ := h; exact ⟨p, xs, h1, h2, e _ _ h3, h4.up (hp_ex e)⟩
  | dT kvs => obtain ⟨p, h1, h2, h3⟩ := h; exact ⟨p, h1, h2, e _ _ h3⟩
  | dK kvs => obtain ⟨p, h1, h2, h3⟩ := h; exact ⟨p, h1, h2, e _ _ h3⟩
  | mx rows => obtain ⟨p, as, h1, h2, h3, h4, h5⟩ := h; exact ⟨p, as, h1, h2, h3, e _ _ h4, Paired.mapP h5 fun a ns q => e _ _ q⟩
  | lk p w kvs => obtain ⟨h1, h2, h3⟩ := h; exact ⟨h1, h2, e _ _ h3⟩
/-- an own object of another slot has changed, the set of own objects too -/
theorem SlOk.mut {K : PySem.W.Frag} {H0 : Hp} {os os' : List Addr} {H H' : Hp} {s : Sl} {o : Option (Option V)} {A : List Addr} (h : SlOk K H0 os H s o A) (e1 : Ex (hp .s os H0 H) (hp .s os' H0 H')) (e2 : Ex (hp .f os H0 H) (hp .f os' H0 H'))
    (ea : ∀ q ∈ A, ∀ u, H q = some u → H' q = some u) : SlOk K H0 os' H' s o A := by
  cases s with
  | no => trivial
  | d x => obtain ⟨v, h1, h2⟩ := h; exact ⟨v, h1, h2.up e1⟩
  | f x => obtain ⟨v, h1, h2⟩ := h; exact ⟨v, h1, h2.up e2⟩
  | own ds => obtain ⟨p, xs, h1, h2, h3, h4⟩ := h; exact ⟨p, xs, h1, h2, ea _ (by rw [h2]; simp) _ h3, h4.up e2⟩
  | dT kvs => obtain ⟨p, h1, h2, h3⟩ := h; exact ⟨p, h1, h2, ea _ (by rw [h2]; simp) _ h3⟩
  | dK kvs => obtain ⟨p, h1, h2, h3⟩ := h; exact ⟨p, h1, h2, ea _ (by rw [h2]; simp) _ h3⟩
  | lk p w kvs => obtain ⟨h1, h2, h3⟩ := h; exact ⟨h1, h2, ea _ (by rw [h2]; simp) _ h3⟩
  | mx rows =>
    obtain ⟨p, as, h1, h2, h3, h4, h5⟩ := h
    refine ⟨p, as, h1, h2, h3, ea _ (by rw [h2]; simp) _ h4, ?_⟩
    have sub : ∀ a ∈ as, a ∈ A := fun a ha => by rw [h2]; exact List.mem_cons_of_mem _ ha
    clear h2 h3 h4
    induction h5 with
    | nil => exact .nil
    | cons q t ih => exact .cons (ea _ (sub _ (by simp)) _ q) (ih fun a ha => sub a (List.mem_cons_of_mem _ ha))
structure EnvA (K : PySem.W.Frag) (H0 : Hp) (gh : List (V × Dt)) (Γ : Ga) (os : List Addr) (A : Nat → List Addr) (σ : L2.St) (H : Hp) : Prop where
  ex : Ex H0 H
  fr : ∀ p ∈ os, H0 p = none
  th : ∀ p ∈ os, ∃ o, H p = some o ∧ ∀ xs, o ≠ .tup xs
  len : σ.length = Γ.length
  sl : ∀ (i : Nat) s, Γ[i]? = some s → SlOk K H0 os H s σ[i]? (A i)
  sub : ∀ i p, p ∈ A i → p ∈ os
  dis : ∀ i j p, p ∈ A i → p ∈ A j → i = j
  gh : ∀ g ∈ gh, Rp K (hp .s os H0 H) g.1 g.2
def Env (K : PySem.W.Frag) (H0 : Hp) (gh : List (V × Dt)) (Γ : Ga) (σ : L2.St) (H : Hp) : Prop := ∃ os A, EnvA K H0 gh Γ os A σ H
section
variable {K : PySem.W.Frag} {H0 : Hp} {gh : List (V × Dt)} {Γ Γ' : Ga} {os : List Addr} {A : Nat → List Addr} {σ : L2.St} {H H' : Hp}
theorem EnvA.up (E : EnvA K H0 gh Γ os A σ H) (e : Ex H H') : EnvA K H0 gh Γ os A σ H' :=
  ⟨E.ex.trans e, E.fr, fun p hp => let ⟨o, h1, h2⟩ := E.th p hp; ⟨o, e _ _ h1, h2⟩, E.len, fun i s h => (E.sl i s h).up e, E.sub, E.dis, fun g hg => (E.gh g hg).up (hp_ex e)⟩
theorem EnvA.fresh_os (E : EnvA K H0 gh Γ os A σ H) {p : Addr} (h : H p = none) : p ∉ os := fun z => by
  obtain ⟨o, h1, _⟩ := E.th p z
  rw [h] at h1
  cases h1
theorem EnvA.fresh0 (E : EnvA K H0 gh Γ os A σ H) {p : Addr} (h : H p = none) : H0 p = none := fresh_back E.ex h
/-- a new object is seen, whichever way -/
theorem EnvA.hp_at (E : EnvA K H0 gh Γ os A σ H) {m : Md} {p : Addr} {o : HO} (h : H p = none) (h' : H' p = some o) : hp m os H0 H' p = some o := by
  cases m with
  | r => exact h'
  | s => exact mnu_some.mpr ⟨E.fresh_os h, h'⟩
  | f => exact mnu_some.mpr ⟨E.fresh_os h, nw_some.mpr ⟨E.fresh0 h, h'⟩⟩
/-- what is new since H is seen, whichever way -/
theorem EnvA.hp_nw (E : EnvA K H0 gh Γ os A σ H) {m : Md} : Ex (nw H H') (hp m os H0 H') := fun a o e => by
  obtain ⟨h1, h2⟩ := nw_some.mp e
  exact E.hp_at h1 h2
/-- a slot set to data -/
theorem EnvA.set_d (E : EnvA K H0 gh Γ os A σ H) {i : Nat} {v : V} {s : Sl} (h : (∃ x, s = .d x ∧ Rp K (hp .s os H0 H) v x) ∨ (∃ x, s = .f x ∧ Rp K (hp .f os H0 H) v x) ∨ s = .no) :
    EnvA K H0 gh (Γ.set i s) os (fun j => if j = i then [] else A j) (σ.set i (some v)) H := by
  refine ⟨E.ex, E.fr, E.th, by rw [List.length_set, List.length_set, E.len], fun j t hj => ?_, fun j p hp => ?_, fun j k p h1 h2 => ?_, E.gh⟩
  · by_cases e : i = j
    · subst e
      have hl : i < Γ.length := by
        have := (List.getElem?_eq_some_iff.mp hj).1
        rw [List.length_set] at this
        exact this
      rw [List.getElem?_set_self hl] at hj
      have et : s = t := Option.some.inj hj
      rw [List.getElem?_set_self (by rw [E.len]; exact hl), ← et]
      rcases h with ⟨x, rfl, h⟩ | ⟨x, rfl, h⟩ | rfl
      · exact ⟨v, rfl, h⟩
      · exact ⟨v, rfl, h⟩
      · trivial
    · rw [List.getElem?_set_ne e] at hj
      rw [List.getElem?_set_ne e, if_neg (Ne.symm e)]
      exact E.sl j t hj
  · by_cases e : j = i
    · rw [if_pos e] at hp; cases hp
    · rw [if_neg e] at hp; exact E.sub j p hp
  · by_cases e : j = i
    · rw [if_pos e] at h1; cases h1
    · by_cases e2 : k = i
      · rw [if_pos e2] at h2; cases h2
      · rw [if_neg e] at h1; rw [if_neg e2] at h2; exact E.dis j k p h1 h2
/-- a slot forgotten -/
theorem EnvA.wipe1 (E : EnvA K H0 gh Γ os A σ H) (i : Nat) : EnvA K H0 gh (Γ.set i .no) os A (σ.set i none) H := by
  refine ⟨E.ex, E.fr, E.th, by rw [List.length_set, List.length_set, E.len], fun j t hj => ?_, E.sub, E.dis, E.gh⟩
  by_cases e : i = j
  · subst e
    have hl : i < Γ.length := by
      have := (List.getElem?_eq_some_iff.mp hj).1
      rw [List.length_set] at this
      exact this
    rw [List.getElem?_set_self hl] at hj
    have et : Sl.no = t := Option.some.inj hj
    rw [← et]
    trivial
  · rw [List.getElem?_set_ne e] at hj
    rw [List.getElem?_set_ne e]
    exact E.sl j t hj
def wipeG (Γ : Ga) : List Nat → Ga
  | [] => Γ
  | v :: vs => (wipeG Γ vs).set v .no
theorem EnvA.wipe (E : EnvA K H0 gh Γ os A σ H) : ∀ vs : List Nat, EnvA K H0 gh (wipeG Γ vs) os A (L2.wipe σ vs) H
  | [] => E
  | v :: vs => (EnvA.wipe E vs).wipe1 v
/-- a new own object, in no slot yet -/
theorem EnvA.new (E : EnvA K H0 gh Γ os A σ H) {p : Addr} {o : HO} (h : H p = none) (ho : ∀ xs, o ≠ .tup xs) : EnvA K H0 gh Γ (p :: os) A σ (upd H p o) := by
  refine ⟨E.ex.trans (Ex.new h), fun q hq => ?_, fun q hq => ?_, E.len, fun i s hs => (E.sl i s hs).mut (hp_new h (by decide)) (hp_new h (by decide)) fun q hq u hu => by
    rw [upd_ne (ne_of_none hu h)]
    exact hu, fun i q hq => List.mem_cons_of_mem _ (E.sub i q hq), E.dis, fun g hg => (E.gh g hg).up (hp_new h (by decide))⟩
  · rcases List.mem_cons.mp hq with rfl | hq
    · exact E.fresh0 h
    · exact E.fr q hq
  · rcases List.mem_cons.mp hq with rfl | hq
    · exact ⟨o, upd_same, ho⟩
    · obtain ⟨u, h1, h2⟩ := E.th q hq
      exact ⟨u, by rw [upd_ne (ne_of_none h1 h)]; exact h1, h2⟩
/-- an own object that stands in no slot changes -/
theorem EnvA.chg (E : EnvA K H0 gh Γ os A σ H) {p : Addr} {o : HO} (h : p ∈ os) (hn : ∀ i, p ∉ A i) (ho : ∀ xs, o ≠ .tup xs) : EnvA K H0 gh Γ os A σ (upd H p o) := by
  refine ⟨Evl.Ex.mut E.ex (E.fr p h), E.fr, fun q hq => ?_, E.len, fun i s hs => (E.sl i s hs).mut (by rw [hp_upd h (by decide)]; exact Ex.refl _) (by rw [hp_upd h (by decide)]; exact Ex.refl _) fun q hq u hu => ?_, E.sub, E.dis, fun g hg => ?_⟩
  · by_cases e : q = p
    · subst e; exact ⟨o, upd_same, ho⟩
    · obtain ⟨u, h1, h2⟩ := E.th q hq
      exact ⟨u, by rw [upd_ne e]; exact h1, h2⟩
  · rw [upd_ne (fun z => hn i (by rw [← z]; exact hq))]
    exact hu
  · rw [hp_upd h (by decide)]
    exact E.gh g hg
/-- own objects that stand in no slot are given away -/
theorem EnvA.give (E : EnvA K H0 gh Γ os A σ H) {os' : List Addr} (h1 : ∀ p ∈ os', p ∈ os) (h2 : ∀ i p, p ∈ A i → p ∈ os') : EnvA K H0 gh Γ os' A σ H :=
  ⟨E.ex, fun p hp => E.fr p (h1 p hp), fun p hp => E.th p (h1 p hp), E.len, fun i s hs => (E.sl i s hs).mut (hp_sub h1) (hp_sub h1) fun _ _ _ hu => hu, h2, E.dis, fun g hg => (E.gh g hg).up (hp_sub h1)⟩
end
end GY
end
section
set_option Elab.async false
set_option linter.all false
set_option maxRecDepth 100000
set_option maxHeartbeats 4000000
/-! judgements of expressions by data -/
namespace GY
open PySem PySem.Spec PyProof.Rows L2
open Evl (Ex fresh_back)

section
variable (K : PySem.W.Frag)
/-- te gives the data x -/
def G (m : Md) (te : TE) (Γ : Ga) (x : Dt) : Prop := ∀ H0 gh os A σ H, EnvA K H0 gh Γ os A σ H → ∀ Q : VK, (∀ v H', Ex H H' → Rp K (hp m os H0 H') v x → Q v H') → te σ H Q
/-- te gives a new list -/
def GN (te : TE) (Γ : Ga) (ds : List Dt) : Prop := ∀ H0 gh os A σ H, EnvA K H0 gh Γ os A σ H → ∀ Q : VK, (∀ p xs H', H p = none → Ex H H' → H' p = some (.lst xs) → RpA K (hp .f (p :: os) H0 H') xs ds → Q (.ref p) H') → te σ H Q
/-- a test gives b -/
def GT (tt : TT) (Γ : Ga) (b : Bool) : Prop := ∀ H0 gh os A σ H, EnvA K H0 gh Γ os A σ H → ∀ Q : Bool → Hp → Prop, (∀ H', Ex H H' → Q b H') → tt σ H Q
/-- arguments -/
def GA (m : Md) (ta : TA) (Γ : Ga) (ds : List Dt) : Prop := ∀ H0 gh os A σ H, EnvA K H0 gh Γ os A σ H → ∀ Q : List V → Hp → Prop, (∀ vs H', Ex H H' → RpA K (hp m os H0 H') vs ds → Q vs H') → ta σ H Q
end
section
variable {K : PySem.W.Frag} {m : Md} {Γ : Ga} {te ta tb tc : TE} {tt tu : TT} {x y : Dt} {ds es : List Dt} {i j k : Int} {a b c : Bool} {s t : Str}
theorem g_var {n : Nat} {l : Sl} (h : Γ[n]? = some l) (hx : l.get m = some x) : G K m (tVar n) Γ x := fun H0 gh os A σ H E Q q => by
  have o := E.sl n l h
  cases l with
  | no => cases m <;> cases hx
  | d z =>
    obtain ⟨v, h1, h2⟩ := o
    refine ⟨v, h1, q v H (Ex.refl H) ?_⟩
    cases m with
    | r =>
      cases hx
      exact h2.up hp_r
    | s =>
      cases hx
      exact h2
    | f =>
      have e : (if z.sc = true then some z else none) = some x := hx
      by_cases hz : z.sc = true
      · rw [if_pos hz] at e
        cases e
        exact h2.sc hz
      · rw [if_neg hz] at e
        cases e
  | f z =>
    obtain ⟨v, h1, h2⟩ := o
    have e : z = x := by cases m <;> exact Option.some.inj hx
    subst e
    exact ⟨v, h1, q v H (Ex.refl H) (h2.up hp_f)⟩
  | own zs =>
    obtain ⟨p, xs, h1, h2, h3, h4⟩ := o
    cases m with
    | r =>
      cases hx
      exact ⟨_, h1, q _ H (Ex.refl H) (.lst (.of h3) (h4.up hp_r))⟩
    | s => cases hx
    | f => cases hx
  | dT kvs =>
    obtain ⟨p, h1, h2, h3⟩ := o
    cases m with
    | r =>
      cases hx
      exact ⟨_, h1, q _ H (Ex.refl H) (.dic (.of h3))⟩
    | s => cases hx
    | f => cases hx
  | dK kvs => cases m <;> cases hx
  | lk p w kvs =>
    obtain ⟨h1, h2, h3⟩ := o
    cases m with
    | r =>
      cases hx
      exact ⟨_, h1, q _ H (Ex.refl H) (.dic (.inr ⟨w, h3⟩))⟩
    | s => cases hx
    | f => cases hx
  | mx rows =>
    obtain ⟨p, as, h1, h2, h3, h4, h5⟩ := o
    cases m with
    | r =>
      cases hx
      refine ⟨_, h1, q _ H (Ex.refl H) (.lst (.of h4) ?_)⟩
      clear h h1 h2 h3 h4 q
      induction h5 with
      | nil => exact .nil
      | cons e t ih => exact .cons (.lst (.of e) (.of_ints _)) ih
    | s => cases hx
    | f => cases hx
theorem g_int : G K m (tC (.int i)) Γ (.int i) := fun _ _ _ _ _ H _ Q q => q _ H (Ex.refl H) (.int i)
theorem g_bl : G K m (tC (.bl a)) Γ (.bl a) := fun _ _ _ _ _ H _ Q q => q _ H (Ex.refl H) (.bl a)
theorem g_str : G K m (tC (.str s)) Γ (.str s) := fun _ _ _ _ _ H _ Q q => q _ H (Ex.refl H) (.str s)
theorem g_non : G K m (tC .non) Γ .non := fun _ _ _ _ _ H _ Q q => q _ H (Ex.refl H) .non
theorem g_is (h : G K m te Γ x) (e : x = y) : G K m te Γ y := e ▸ h
theorem gn_is (h : GN K te Γ ds) (e : ds = es) : GN K te Γ es := e ▸ h
theorem gt_is (h : GT K tt Γ a) (e : a = b) : GT K tt Γ b := e ▸ h
theorem g_f (h : G K .f te Γ x) : G K m te Γ x := fun H0 gh os A σ H E Q q => h H0 gh os A σ H E Q fun v H' e r => q v H' e (r.up hp_f)
theorem g_r (h : G K m te Γ x) : G K .r te Γ x := fun H0 gh os A σ H E Q q => h H0 gh os A σ H E Q fun v H' e r => q v H' e (r.up hp_r)
theorem g_sc (h : G K .r te Γ x) (s : x.sc = true := by rfl) : G K m te Γ x := fun H0 gh os A σ H E Q q => h H0 gh os A σ H E Q fun v H' e r => q v H' e (r.sc s)
theorem gn_f (h : GN K te Γ ds) : G K m te Γ (.lst ds) := fun H0 gh os A σ H E Q q => h H0 gh os A σ H E Q fun p xs H' h1 e h2 r =>
  q _ H' e (.lst (.of (E.hp_at h1 h2)) ((r.up (hp_sub fun z hz => List.mem_cons_of_mem _ hz)).up hp_f))

/-! two operands -/
theorem g_two {r : R2} (ha : G K .r ta Γ x) (hb : G K .r tb Γ y) (hr : ∀ (H : Hp) v u Q, Rp K H v x → Rp K H u y → (∀ w, Rp K H w (.int i) → Q w H) → r v u H Q) : G K m (tOp r ta tb) Γ (.int i) := fun H0 gh os A σ H E Q q =>
  ha H0 gh os A σ H E _ fun v H1 e1 r1 => hb H0 gh os A σ H1 (E.up e1) _ fun u H2 e2 r2 => hr H2 v u Q (r1.up e2) r2 fun w rw' => q w H2 (e1.trans e2) (rw'.sc rfl)
theorem g_opI {g : Int → Int → V} (ha : G K .r ta Γ (.int i)) (hb : G K .r tb Γ (.int j)) (hg : g i j = x.sv) (hs : x.sc = true) : G K m (tOp (rI0 g) ta tb) Γ x := fun H0 gh os A σ H E Q q =>
  ha H0 gh os A σ H E _ fun v H1 e1 r1 => hb H0 gh os A σ H1 (E.up e1) _ fun u H2 e2 r2 => ⟨i, j, r1.int_inv, r2.int_inv, by rw [hg]; exact q _ H2 (e1.trans e2) (.of_sc hs)⟩
theorem g_opC {C : Int → Int → Prop} {g : Int → Int → V} (ha : G K .r ta Γ (.int i)) (hb : G K .r tb Γ (.int j)) (hc : C i j) (hg : g i j = x.sv) (hs : x.sc = true) : G K m (tOp (rI C g) ta tb) Γ x := fun H0 gh os A σ H E Q q =>
  ha H0 gh os A σ H E _ fun v H1 e1 r1 => hb H0 gh os A σ H1 (E.up e1) _ fun u H2 e2 r2 => ⟨i, j, r1.int_inv, r2.int_inv, hc, by rw [hg]; exact q _ H2 (e1.trans e2) (.of_sc hs)⟩
theorem g_add (ha : G K .r ta Γ (.int i)) (hb : G K .r tb Γ (.int j)) : G K m (tOp (rI0 fun i j => .int (i + j)) ta tb) Γ (.int (i + j)) := g_opI ha hb rfl rfl
theorem g_sub (ha : G K .r ta Γ (.int i)) (hb : G K .r tb Γ (.int j)) : G K m (tOp (rI0 fun i j => .int (i - j)) ta tb) Γ (.int (i - j)) := g_opI ha hb rfl rfl
theorem g_mul (ha : G K .r ta Γ (.int i)) (hb : G K .r tb Γ (.int j)) (hc : CMul i j) : G K m (tOp (rI CMul fun i j => .int (i * j)) ta tb) Γ (.int (i * j)) := g_opC ha hb hc rfl rfl
theorem g_fdiv (ha : G K .r ta Γ (.int i)) (hb : G K .r tb Γ (.int j)) (hc : CDiv i j) : G K m (tOp (rI CDiv fun i j => .int (i / j)) ta tb) Γ (.int (i / j)) := g_opC ha hb hc rfl rfl
theorem g_mod (ha : G K .r ta Γ (.int i)) (hb : G K .r tb Γ (.int j)) (hc : 0 < j) : G K m (tOp (rI (fun _ j => 0 < j) fun i j => .int (i % j)) ta tb) Γ (.int (i % j)) := g_opC ha hb hc rfl rfl
theorem g_pow (ha : G K .r ta Γ (.int i)) (hb : G K .r tb Γ (.int j)) (hc : CPow i j) : G K m (tOp (rI CPow fun i j => .int (i ^ j.toNat)) ta tb) Γ (.int (i ^ j.toNat)) := g_opC ha hb hc rfl rfl
theorem g_lt (ha : G K .r ta Γ (.int i)) (hb : G K .r tb Γ (.int j)) : G K m (tOp (rI0 fun i j => .bl (decide (i < j))) ta tb) Γ (.bl (decide (i < j))) := g_opI ha hb rfl rfl
theorem g_le (ha : G K .r ta Γ (.int i)) (hb : G K .r tb Γ (.int j)) : G K m (tOp (rI0 fun i j => .bl (decide (i ≤ j))) ta tb) Γ (.bl (decide (i ≤ j))) := g_opI ha hb rfl rfl
theorem g_gt (ha : G K .r ta Γ (.int i)) (hb : G K .r tb Γ (.int j)) : G K m (tOp (rI0 fun i j => .bl (decide (j < i))) ta tb) Γ (.bl (decide (j < i))) := g_opI ha hb rfl rfl
theorem g_ge (ha : G K .r ta Γ (.int i)) (hb : G K .r tb Γ (.int j)) : G K m (tOp (rI0 fun i j => .bl (decide (j ≤ i))) ta tb) Γ (.bl (decide (j ≤ i))) := g_opI ha hb rfl rfl
theorem g_neg (ha : G K .r ta Γ (.int i)) : G K m (tUn (rU fun i => .int (-i)) ta) Γ (.int (-i)) := fun H0 gh os A σ H E Q q =>
  ha H0 gh os A σ H E _ fun v H1 e1 r1 => ⟨i, r1.int_inv, q _ H1 e1 (.int _)⟩
theorem g_eqV (ha : G K .r ta Γ x) (hb : G K .r tb Γ y) (hx : x.sc = true) (hy : y.sc = true) (hs : scal x.sv y.sv = true) (he : decide (x.sv = y.sv) = a) : G K m (tOp rEq ta tb) Γ (.bl a) := fun H0 gh os A σ H E Q q =>
  ha H0 gh os A σ H E _ fun v H1 e1 r1 => hb H0 gh os A σ H1 (E.up e1) _ fun u H2 e2 r2 => by
    rw [r1.scal hx, r2.scal hy]
    exact ⟨hs, by rw [he]; exact q _ H2 (e1.trans e2) (.bl a)⟩
theorem g_neV (ha : G K .r ta Γ x) (hb : G K .r tb Γ y) (hx : x.sc = true) (hy : y.sc = true) (hs : scal x.sv y.sv = true) (he : decide (x.sv = y.sv) = a) : G K m (tOp rNe ta tb) Γ (.bl (!a)) := fun H0 gh os A σ H E Q q =>
  ha H0 gh os A σ H E _ fun v H1 e1 r1 => hb H0 gh os A σ H1 (E.up e1) _ fun u H2 e2 r2 => by
    rw [r1.scal hx, r2.scal hy]
    exact ⟨hs, by rw [he]; exact q _ H2 (e1.trans e2) (.bl (!a))⟩
theorem dec_iff {P Q : Prop} [Decidable P] [Decidable Q] (h : P ↔ Q) : decide P = decide Q := by
  by_cases p : P
  · rw [decide_eq_true p, decide_eq_true (h.mp p)]
  · rw [decide_eq_false p, decide_eq_false fun q => p (h.mpr q)]
theorem g_eqI (ha : G K .r ta Γ (.int i)) (hb : G K .r tb Γ (.int j)) : G K m (tOp rEq ta tb) Γ (.bl (decide (i = j))) := g_eqV ha hb rfl rfl rfl (dec_iff ⟨V.int.inj, congrArg V.int⟩)
theorem g_eqB (ha : G K .r ta Γ (.bl a)) (hb : G K .r tb Γ (.bl b)) : G K m (tOp rEq ta tb) Γ (.bl (decide (a = b))) := g_eqV ha hb rfl rfl rfl (dec_iff ⟨V.bl.inj, congrArg V.bl⟩)
theorem g_eqS (ha : G K .r ta Γ (.str s)) (hb : G K .r tb Γ (.str t)) : G K m (tOp rEq ta tb) Γ (.bl (decide (s = t))) := g_eqV ha hb rfl rfl rfl (dec_iff ⟨V.str.inj, congrArg V.str⟩)
theorem g_neI (ha : G K .r ta Γ (.int i)) (hb : G K .r tb Γ (.int j)) : G K m (tOp rNe ta tb) Γ (.bl (!decide (i = j))) := g_neV ha hb rfl rfl rfl (dec_iff ⟨V.int.inj, congrArg V.int⟩)
theorem g_neB (ha : G K .r ta Γ (.bl a)) (hb : G K .r tb Γ (.bl b)) : G K m (tOp rNe ta tb) Γ (.bl (!decide (a = b))) := g_neV ha hb rfl rfl rfl (dec_iff ⟨V.bl.inj, congrArg V.bl⟩)
theorem g_neS (ha : G K .r ta Γ (.str s)) (hb : G K .r tb Γ (.str t)) : G K m (tOp rNe ta tb) Γ (.bl (!decide (s = t))) := g_neV ha hb rfl rfl rfl (dec_iff ⟨V.str.inj, congrArg V.str⟩)
/-- is None, by the operators' rules -/
abbrev rIsN : R2 := fun x y H Q => y = .non ∧ Q (.bl (decide (x = .non))) H
abbrev rNotN : R2 := fun x y H Q => y = .non ∧ Q (.bl (!decide (x = .non))) H
def Dt.isN : Dt → Bool
  | .non => true
  | _ => false
theorem Rp.isN {H : Hp} {v : V} (h : Rp K H v x) : decide (v = .non) = x.isN := by
  cases h <;> first | rfl | exact decide_eq_false (by intro z; cases z)
theorem g_isN (ha : G K .r ta Γ x) : G K m (tOp rIsN ta (tC .non)) Γ (.bl x.isN) := fun H0 gh os A σ H E Q q =>
  ha H0 gh os A σ H E _ fun v H1 e1 r1 => ⟨rfl, by rw [r1.isN]; exact q _ H1 e1 (.bl _)⟩
theorem g_notN (ha : G K .r ta Γ x) : G K m (tOp rNotN ta (tC .non)) Γ (.bl (!x.isN)) := fun H0 gh os A σ H E Q q =>
  ha H0 gh os A σ H E _ fun v H1 e1 r1 => ⟨rfl, by rw [r1.isN]; exact q _ H1 e1 (.bl _)⟩
/-! and, or, not: values -/
theorem g_and (ha : G K .r ta Γ (.bl a)) (hb : a = true → G K .r tb Γ (.bl b)) : G K m (tAndV ta tb) Γ (.bl (a && b)) := fun H0 gh os A σ H E Q q =>
  ha H0 gh os A σ H E _ fun v H1 e1 r1 => ⟨a, r1.bl_inv, by
    cases a with
    | true => exact iteT (hb rfl H0 gh os A σ H1 (E.up e1) Q fun u H2 e2 r2 => q u H2 (e1.trans e2) (r2.sc rfl))
    | false => exact iteF (q _ H1 e1 (.bl _))⟩
theorem g_or (ha : G K .r ta Γ (.bl a)) (hb : a = false → G K .r tb Γ (.bl b)) : G K m (tOrV ta tb) Γ (.bl (a || b)) := fun H0 gh os A σ H E Q q =>
  ha H0 gh os A σ H E _ fun v H1 e1 r1 => ⟨a, r1.bl_inv, by
    cases a with
    | true => exact iteT (q _ H1 e1 (.bl _))
    | false => exact iteF (hb rfl H0 gh os A σ H1 (E.up e1) Q fun u H2 e2 r2 => q u H2 (e1.trans e2) (r2.sc rfl))⟩
theorem g_not (ha : G K .r ta Γ (.bl a)) : G K m (tNotV ta) Γ (.bl (!a)) := fun H0 gh os A σ H E Q q =>
  ha H0 gh os A σ H E _ fun v H1 e1 r1 => ⟨a, r1.bl_inv, q _ H1 e1 (.bl _)⟩
/-! chains of ints -/
theorem g_chain {g g' : Int → Int → Bool} (ha : G K .r ta Γ (.int i)) (hb : G K .r tb Γ (.int j)) (hc : g i j = true → G K .r tc Γ (.int k)) :
    G K m (tChain (rI0 fun i j => .bl (g i j)) (rI0 fun i j => .bl (g' i j)) ta tb tc) Γ (.bl (g i j && g' j k)) := fun H0 gh os A σ H E Q q =>
  ha H0 gh os A σ H E _ fun v H1 e1 r1 => hb H0 gh os A σ H1 (E.up e1) _ fun u H2 e2 r2 => ⟨i, j, r1.int_inv, r2.int_inv, g i j, rfl, by
    cases e : g i j with
    | true => exact iteT (hc e H0 gh os A σ H2 (E.up (e1.trans e2)) _ fun w H3 e3 r3 => ⟨j, k, r2.int_inv, r3.int_inv, q _ H3 ((e1.trans e2).trans e3) (by rw [e]; exact .bl _)⟩)
    | false => exact iteF (q _ H2 (e1.trans e2) (by rw [e]; exact .bl _))⟩
/-! tests -/
theorem gt_val (h : G K .r te Γ (.bl a)) : GT K (tB te) Γ a := fun H0 gh os A σ H E Q q => h H0 gh os A σ H E _ fun v H1 e1 r1 => ⟨a, r1.bl_inv, q H1 e1⟩
theorem gt_test (h : G K .r te Γ (.bl a)) : GT K (tTest te) Γ a := fun H0 gh os A σ H E Q q => h H0 gh os A σ H E _ fun v H1 e1 r1 => ⟨a, r1.bl_inv, q H1 e1⟩
theorem gt_and (h : GT K tt Γ a) (g : a = true → GT K tu Γ b) : GT K (tAnd tt tu) Γ (a && b) := fun H0 gh os A σ H E Q q => h H0 gh os A σ H E _ fun H1 e1 => by
  cases a with
  | true => exact iteT (g rfl H0 gh os A σ H1 (E.up e1) Q fun H2 e2 => q H2 (e1.trans e2))
  | false => exact iteF (q H1 e1)
theorem gt_or (h : GT K tt Γ a) (g : a = false → GT K tu Γ b) : GT K (tOr tt tu) Γ (a || b) := fun H0 gh os A σ H E Q q => h H0 gh os A σ H E _ fun H1 e1 => by
  cases a with
  | true => exact iteT (q H1 e1)
  | false => exact iteF (g rfl H0 gh os A σ H1 (E.up e1) Q fun H2 e2 => q H2 (e1.trans e2))
theorem gt_not (h : GT K tt Γ a) : GT K (tNot tt) Γ (!a) := fun H0 gh os A σ H E Q q => h H0 gh os A σ H E _ fun H1 e1 => q H1 e1
theorem gt_yes : GT K tYes Γ true := fun H0 gh os A σ H E Q q => q H (Ex.refl H)
/-! arguments -/
theorem ga_nil : GA K m tNil Γ [] := fun H0 gh os A σ H E Q q => q [] H (Ex.refl H) .nil
theorem ga_cons {tr : TA} (h : G K m te Γ x) (g : GA K m tr Γ ds) : GA K m (tCons te tr) Γ (x :: ds) := fun H0 gh os A σ H E Q q =>
  h H0 gh os A σ H E _ fun v H1 e1 r1 => g H0 gh os A σ H1 (E.up e1) _ fun vs H2 e2 r2 => q _ H2 (e1.trans e2) (.cons (r1.up (hp_ex e2)) r2)
/-! displays -/
theorem g_tup {tr : TA} (h : GA K m tr Γ ds) (hl : ds.length ≤ 100000 := by simp) : G K m (tTup tr) Γ (.tup ds) := fun H0 gh os A σ H E Q q =>
  h H0 gh os A σ H E _ fun vs H1 e1 r1 => ⟨by rw [r1.len]; exact Evl.sz_of hl, fun p hp => by
    have E1 := E.up e1
    refine q _ _ (e1.trans (Ex.new hp)) (.tup (E1.hp_at hp upd_same) (r1.up (hp_ex (Ex.new hp))))⟩
theorem g_lst {tr : TA} (h : GA K m tr Γ ds) (hl : ds.length ≤ 100000 := by simp) : G K m (tLst tr) Γ (.lst ds) := fun H0 gh os A σ H E Q q =>
  h H0 gh os A σ H E _ fun vs H1 e1 r1 => ⟨by rw [r1.len]; exact Evl.sz_of hl, fun p hp => by
    have E1 := E.up e1
    refine q _ _ (e1.trans (Ex.new hp)) (.lst (.of (E1.hp_at hp upd_same)) (r1.up (hp_ex (Ex.new hp))))⟩
theorem gn_lst {tr : TA} (h : GA K .f tr Γ ds) (hl : ds.length ≤ 100000 := by simp) : GN K (tLst tr) Γ ds := fun H0 gh os A σ H E Q q =>
  h H0 gh os A σ H E _ fun vs H1 e1 r1 => ⟨by rw [r1.len]; exact Evl.sz_of hl, fun p hp => by
    refine q p vs _ (fresh_back e1 hp) (e1.trans (Ex.new hp)) upd_same (r1.up (hp_new hp (by decide)))⟩
/-! subscripts -/
theorem ixN_map {α β : Type} (f : α → β) (xs : List α) (i : Int) : ixN (xs.map f).length i = ixN xs.length i := by rw [List.length_map]
theorem RpA.atI {H : Hp} {vs : List V} {i : Int} {d : Dt} (h : RpA K H vs ds) (e : L2.atI ds i = some d) : ∃ v, L2.atI vs i = some v ∧ Rp K H v d := by
  unfold L2.atI at e ⊢
  rw [h.len]
  cases q : ixN ds.length i with
  | none => rw [q] at e; cases e
  | some j =>
    rw [q] at e
    exact h.get e
theorem g_ixL {d : Dt} (ha : G K m ta Γ (.lst ds)) (hb : G K .r tb Γ (.int i)) (e : L2.atI ds i = some d) : G K m (tOp (rIxL K) ta tb) Γ d := fun H0 gh os A σ H E Q q =>
  ha H0 gh os A σ H E _ fun v H1 e1 r1 => hb H0 gh os A σ H1 (E.up e1) _ fun u H2 e2 r2 => by
    obtain ⟨a, xs, rfl, h1, h2⟩ := (r1.up (hp_ex e2)).lst_inv
    obtain ⟨v, h3, h4⟩ := h2.atI e
    exact ⟨a, xs, i, v, rfl, r2.int_inv, Evl.ex_l hp_r h1, h3, q v H2 (e1.trans e2) h4⟩
theorem g_ixT {d : Dt} (ha : G K m ta Γ (.tup ds)) (hb : G K .r tb Γ (.int i)) (e : L2.atI ds i = some d) : G K m (tOp (rIxT K) ta tb) Γ d := fun H0 gh os A σ H E Q q =>
  ha H0 gh os A σ H E _ fun v H1 e1 r1 => hb H0 gh os A σ H1 (E.up e1) _ fun u H2 e2 r2 => by
    obtain ⟨a, xs, rfl, h1, h2⟩ := (r1.up (hp_ex e2)).tup_inv
    obtain ⟨v, h3, h4⟩ := h2.atI e
    exact ⟨a, xs, i, v, rfl, r2.int_inv, .of (hp_r _ _ h1), h3, q v H2 (e1.trans e2) h4⟩
/-- a scalar of them -/
theorem g_ixLs {d : Dt} (ha : G K .r ta Γ (.lst ds)) (hb : G K .r tb Γ (.int i)) (e : L2.atI ds i = some d) (s : d.sc = true := by rfl) : G K m (tOp (rIxL K) ta tb) Γ d := g_sc (g_ixL ha hb e) s
theorem g_ixTs {d : Dt} (ha : G K .r ta Γ (.tup ds)) (hb : G K .r tb Γ (.int i)) (e : L2.atI ds i = some d) (s : d.sc = true := by rfl) : G K m (tOp (rIxT K) ta tb) Γ d := g_sc (g_ixT ha hb e) s
theorem g_ixS {c : Nat} (ha : G K .r ta Γ (.str s)) (hb : G K .r tb Γ (.int i)) (hl : s.length ≤ 100000) (e : L2.atI s.cps.toList i = some c) : G K m (tOp rIxS ta tb) Γ (.str ⟨#[c]⟩) := fun H0 gh os A σ H E Q q =>
  ha H0 gh os A σ H E _ fun v H1 e1 r1 => hb H0 gh os A σ H1 (E.up e1) _ fun u H2 e2 r2 => ⟨s, i, c, r1.str_inv, r2.int_inv, Evl.sz_of hl, e, q _ H2 (e1.trans e2) (.str _)⟩
/-! slices -/
def cutD (xs : List Dt) (lo hi : Option Int) : List Dt := (xs.drop (HT.sIx xs.length 0 lo)).take (HT.sIx xs.length xs.length hi - HT.sIx xs.length 0 lo)
def GO (K : PySem.W.Frag) (to : TO) (Γ : Ga) (o : Option Int) : Prop := ∀ H0 gh os A σ H, EnvA K H0 gh Γ os A σ H → ∀ Q : Option Int → Hp → Prop, (∀ H', Ex H H' → Q o H') → to σ H Q
theorem go_none : GO K tNoPart Γ none := fun H0 gh os A σ H E Q q => q H (Ex.refl H)
theorem go_some (h : G K .r te Γ (.int i)) : GO K (tPart te) Γ (some i) := fun H0 gh os A σ H E Q q => h H0 gh os A σ H E _ fun v H1 e1 r1 => ⟨i, r1.int_inv, q H1 e1⟩
theorem g_slice {tl th : TO} {lo hi : Option Int} (h : G K m te Γ (.lst ds)) (h1 : GO K tl Γ lo) (h2 : GO K th Γ hi) : G K m (tSl (rSlL K) te tl th) Γ (.lst (cutD ds lo hi)) := fun H0 gh os A σ H E Q q =>
  h H0 gh os A σ H E _ fun v H1 e1 r1 => h1 H0 gh os A σ H1 (E.up e1) _ fun H2 e2 => h2 H0 gh os A σ H2 (E.up (e1.trans e2)) _ fun H3 e3 => by
    obtain ⟨a, xs, rfl, g1, g2⟩ := ((r1.up (hp_ex e2)).up (hp_ex e3)).lst_inv
    have e := (e1.trans e2).trans e3
    refine ⟨a, xs, rfl, Evl.ex_l hp_r g1, fun p hp => q _ _ (e.trans (Ex.new hp)) (.lst (.of ((E.up e).hp_at hp upd_same)) (RpA.up ?_ (hp_ex (Ex.new hp))))⟩
    unfold cutV cutD
    rw [g2.len]
    exact (g2.drop _).take _
/-! in -/
theorem inV_ints (i : Int) : ∀ ns : List Int, inV (.int i) (ns.map V.int) = decide (i ∈ ns)
  | [] => rfl
  | n :: ns => by
    have ih := inV_ints i ns
    unfold inV at ih ⊢
    rw [List.map_cons, List.any_cons, ih]
    by_cases e : n = i
    · subst e
      simp [eqV]
    · simp [eqV, e, Ne.symm e]
theorem flat_ints (ns : List Int) : (ns.map V.int).all flatV = true := by
  rw [List.all_map]
  exact List.all_eq_true.mpr fun _ _ => rfl
theorem g_in {ns : List Int} (neg : Bool) (ha : G K .r ta Γ (.int i)) (hb : G K .r tb Γ (.lst (dI ns))) : G K m (tOp (rIn K neg) ta tb) Γ (.bl (if neg then !decide (i ∈ ns) else decide (i ∈ ns))) := fun H0 gh os A σ H E Q q =>
  ha H0 gh os A σ H E _ fun v H1 e1 r1 => hb H0 gh os A σ H1 (E.up e1) _ fun u H2 e2 r2 => by
    obtain ⟨a, xs, rfl, g1, g2⟩ := r2.lst_inv
    cases g2.ints
    cases r1.int_inv
    refine ⟨a, _, rfl, .inl g1, rfl, flat_ints ns, ?_⟩
    rw [inV_ints]
    exact q _ H2 (e1.trans e2) (.bl _)
theorem g_inT {ns : List Int} (neg : Bool) (ha : G K .r ta Γ (.int i)) (hb : G K .r tb Γ (.tup (dI ns))) : G K m (tOp (rIn K neg) ta tb) Γ (.bl (if neg then !decide (i ∈ ns) else decide (i ∈ ns))) := fun H0 gh os A σ H E Q q =>
  ha H0 gh os A σ H E _ fun v H1 e1 r1 => hb H0 gh os A σ H1 (E.up e1) _ fun u H2 e2 r2 => by
    obtain ⟨a, xs, rfl, g1, g2⟩ := r2.tup_inv
    cases g2.ints
    cases r1.int_inv
    refine ⟨a, _, rfl, .inr (.of g1), rfl, flat_ints ns, ?_⟩
    rw [inV_ints]
    exact q _ H2 (e1.trans e2) (.bl _)
abbrev rInC : R2 := fun x y H Q => ∃ (c : Nat) (z : Str), x = .str ⟨#[c]⟩ ∧ y = .str z ∧ Q (.bl (decide (c ∈ z.cps.toList))) H
abbrev rNiC : R2 := fun x y H Q => ∃ (c : Nat) (z : Str), x = .str ⟨#[c]⟩ ∧ y = .str z ∧ Q (.bl (!decide (c ∈ z.cps.toList))) H
theorem g_niC {c : Nat} (ha : G K .r ta Γ (.str ⟨#[c]⟩)) (hb : G K .r tb Γ (.str s)) : G K m (tOp rNiC ta tb) Γ (.bl (!decide (c ∈ s.cps.toList))) := fun H0 gh os A σ H E Q q =>
  ha H0 gh os A σ H E _ fun v H1 e1 r1 => hb H0 gh os A σ H1 (E.up e1) _ fun u H2 e2 r2 => ⟨c, s, r1.str_inv, r2.str_inv, q _ H2 (e1.trans e2) (.bl _)⟩
end
end GY
end
section
set_option Elab.async false
set_option linter.all false
set_option maxRecDepth 100000
set_option maxHeartbeats 4000000
/-! built-ins, methods, calls, what is walked, comprehensions -/
namespace GY
open PySem PySem.Spec PyProof.Rows L2
open Evl (Ex fresh_back)

/-! ### rules that the library lacks: a written tuple's index, list.count of flat things -/
section
variable {X : Cx} {pos : Pos}
def tTupX (t : TA) : TE := fun σ H Q => t σ H fun xs H1 => ∃ ns : List Int, xs = ns.map V.int ∧ ns.length ≤ 1000 ∧ ∀ p, H1 p = none → Q (.ref p) (upd H1 p (fixT p ns))
theorem pe_tupX {es : List Expr} {t : TA} {x1} (h : PA X es t) : PE X (.Tuple es x1 pos) (tTupX t) := by
  refine ⟨fun pins s σ H Q I hq => ?_⟩
  refine wpAny_Tuple_spliced (thn (h.run pos pins s σ H _ I hq) fun us s1 ⟨xs, H1, I1, r, ns, hxs, z, q⟩ => ⟨?_, ?_⟩)
  · rw [← r.length, hxs, List.length_map]
    exact Nat.le_trans z (by decide)
  have hf : H1 s1.heap.objs.size = none := I1.hok.fresh (Nat.le_refl _)
  rw [hxs] at r
  refine ⟨.ref s1.heap.objs.size, upd H1 s1.heap.objs.size (fixT s1.heap.objs.size ns), I1.laid (t' := s1.toks) (fun b u e => Heap.get?_push_of_some _ e) (Nat.le_refl _) ?_, rfl, q _ hf⟩
  refine ⟨⟨us, _, r, Heap.get?_push_size _ rfl⟩, ⟨_, Heap.get?_push_size _ rfl⟩, fun h1 h2 g k => ?_⟩
  obtain ⟨its, n, a, b⟩ := g
  exact ⟨its, n, a, k _ b⟩
def tFixIx (to te : TE) : TE := fun σ H Q => to σ H fun x H1 => ∃ (p : Addr) (ns : List Int), x = .ref p ∧ H1 p = some (fixT p ns) ∧ te σ H1 fun y H2 => ∃ (z : Int) (j : Nat), y = .int z ∧ H2 p = some (fixT p ns) ∧ ns[j]? = some z ∧ (∀ m, m < j → ns[m]? ≠ some z) ∧ Q (.int (j : Nat)) H2
theorem fix_at {pins : List (Addr × Obj)} {σ : L2.St} {H : Hp} {s : Shared} {p : Addr} {ns : List Int} (I : Inv X pins σ H s) (h : H p = some (fixT p ns)) : ∃ (its : List Value) (n : Nat), Vals (ns.map V.int) its ∧ s.heap.get? p = some { cls := .type "tuple", data := .seq its.toArray n } := by
  have z := I.hok p _ h
  exact z.1
/-- where te leaves what it finds (Inv.tuple's like for the object at p) -/
theorem pe_fixIx {o e : Expr} {to te : TE} {apos cpos : Pos} (ho : PE X o to) (he : PE X e te)
    (hbase : attributeBase o "index" X.env (eval o X.env) = eval o X.env := by rfl)
    (hfew : ((backTo cpos (starEach [e] X.env)).all (fun x => !x.1) && (backToKw cpos (keywordEach [] X.env)).all (fun x => x.1.isSome)
      && decide (([e] : List Expr).length + ([] : List Keyword).length + (if ([] : List Keyword).isEmpty then 0 else 1) < 30)) = true := by rfl)
    (hline : (apos.endLine == cpos.line) = true := by rfl) (hs : starEach [e] X.env = (false, eval e X.env) :: starEach [] X.env := by rfl) :
    PE X (.Call (.Attribute o "index" apos) [e] [] cpos) (tFixIx to te) := by
  refine ⟨fun pins s σ H Q I h => ?_⟩
  refine wpAny_Call_method_late hbase hfew hline rfl (thn (ho.run pins s σ H _ I h) fun v s1 ⟨x, H1, I1, r1, p, ns, ex, hp, q1⟩ => ?_)
  subst ex
  cases r1
  obtain ⟨its1, n1, rv1, g1⟩ := fix_at I1 hp
  refine ⟨"tuple", "tuple.index", PySem.F.plainAttrs_tuple, PySem.F.slot_tuple_index, PySem.F.type_tuple_index, ⟨_, g1, rfl⟩, fun a ea => ?_, ?_⟩
  · cases ea
    exact ⟨_, g1, rfl⟩
  have hA := (pa_cons he pa_nil hs).run cpos pins s1 σ H1 (fun vs H2 => ∃ (y : V), vs = [y] ∧ ∃ (z : Int) (j : Nat), y = .int z ∧ H2 p = some (fixT p ns) ∧ ns[j]? = some z ∧ (∀ m, m < j → ns[m]? ≠ some z) ∧ Q (.int (j : Nat)) H2) I1 (by
    show te σ H1 fun y H2 => tNil σ H2 fun xs H3 => ∃ (y' : V), y :: xs = [y'] ∧ ∃ (z : Int) (j : Nat), y' = .int z ∧ H3 p = some (fixT p ns) ∧ ns[j]? = some z ∧ (∀ m, m < j → ns[m]? ≠ some z) ∧ Q (.int (j : Nat)) H3
    refine cast (congrArg (te σ H1) ?_) q1
    funext y H2
    refine propext ⟨fun w => ⟨y, rfl, w⟩, fun ⟨y', w, u⟩ => ?_⟩
    have e2 : y = y' := by injection w
    rw [e2]
    exact u)
  rw [hs] at hA ⊢
  refine Calls.callWith_builtin (by rfl) (Calls.evalArgs_plain ?_)
  refine thn hA fun us s2 ⟨vs, H2, I2, r2, y, evs, z, j, ey, hp2, hj, hno, q⟩ => ?_
  subst evs
  subst ey
  obtain ⟨u, rfl, t, rfl⟩ := vals1 r2
  obtain ⟨its, n, rv, g⟩ := fix_at I2 hp2
  have hl : its.toArray.size = ns.length := by rw [List.size_toArray, ← rv.length, List.length_map]
  have hjl : j < its.toArray.size := by rw [hl]; exact (List.getElem?_eq_some_iff.mp hj).1
  have at' : ∀ (m : Nat) (hm : m < its.toArray.size), ∃ y t', ns[m]? = some y ∧ its.toArray[m] = Value.int y t' := fun m hm => by
    have hm' : m < ns.length := by rw [← hl]; exact hm
    obtain ⟨w, hw, t', hw'⟩ := rv.get (i := m) (x := .int ns[m]) (by simp [hm'])
    refine ⟨ns[m], t', List.getElem?_eq_getElem hm', ?_⟩
    have e := (List.getElem?_eq_some_iff.mp hw).2
    rw [← hw', ← e]
    simp
  refine call_meets PySem.F.slot_tuple_index ⟨_, g, rfl⟩ PySem.F.entry_tuple_index (PySem.F.args_tuple_index_2 _ _) (TI.tuple_indexAt p its.toArray n none _ (.int z t) (eqU (.int z)) j hjl ?_ ?_)
    ⟨g, fun w hw => mem_eqAt (x := .int z) ⟨t, rfl⟩ rfl rv (flat_ints ns) w (by simpa using hw), ⟨.int (j : Nat), H2, I2.tok _, ⟨_, rfl⟩, q⟩⟩
  · obtain ⟨y, t', h1, h2⟩ := at' j hjl
    rw [hj] at h1
    cases h1
    rw [h2]
    show (z == z) = true
    exact beq_self_eq_true z
  · intro m hm hmj
    obtain ⟨y, t', h1, h2⟩ := at' m hm
    rw [h2]
    have hne : y ≠ z := fun e => hno m hmj (by rw [h1, e])
    show (y == z) = false
    exact beq_eq_false_iff_ne.mpr hne
def rCntV (K : PySem.W.Frag) : V → List V → Hp → VK → Prop := fun x xs H Q => ∃ (p : Addr) (ys : List V) (z : V), x = .ref p ∧ xs = [z] ∧ SqL K H p ys ∧ flatV z = true ∧ ys.all flatV = true ∧ Q (.int ((ys.countP fun y => eqV y z : Nat) : Int)) H
theorem countP_eqU {x : V} : ∀ {xs : List V} {us : List Value}, Vals xs us → xs.all flatV = true → us.countP (eqU x) = xs.countP fun y => eqV y x
  | _, _, .nil, _ => rfl
  | y :: xs, u :: us, .cons r t, f => by
    rw [List.all_cons, Bool.and_eq_true] at f
    rw [List.countP_cons, List.countP_cons, countP_eqU t f.2, eqU_of r f.1]
theorem mt_cntV : MtR X "list.count" (rCntV X.K) := by
  intro pins s σ H x xs v us Q I rx rxs h
  obtain ⟨p, ys, z, rfl, rfl, hs, fz, fy, q⟩ := h
  cases rx
  obtain ⟨u, rfl, ru⟩ := rxs.one
  obtain ⟨its, rv, ⟨⟨cls, dd, data, sl⟩, n, ho, hc, hdn, hd⟩, hlen⟩ := I.list hs
  simp only at hc hd
  subst hc hd
  refine call_meets PySem.F.slot_list_count ⟨_, ho, rfl⟩ PySem.F.entry_list_count (PySem.F.args_list_count_2 _ _)
    (SeqAt.list_countAt p its.toArray n dd sl u (eqU z)) ⟨ho, fun y hy => mem_eqAt ru fz rv fy y (by simpa using hy), ?_⟩
  have ec : its.toArray.toList.countP (eqU z) = ys.countP fun y => eqV y z := countP_eqU rv fy
  refine ⟨.int ((ys.countP fun y => eqV y z : Nat) : Int), H, I.tok _, ⟨s.toks, ?_⟩, q⟩
  rw [ec]
end
end GY
end
section
set_option Elab.async false
set_option linter.all false
set_option maxRecDepth 100000
set_option maxHeartbeats 4000000
/-! built-ins, methods, calls, what is walked, comprehensions: judgements -/
namespace GY
open PySem PySem.Spec PyProof.Rows L2
open Evl (Ex fresh_back)

section
variable {K : PySem.W.Frag} {m : Md} {Γ : Ga} {te ta tb tc : TE} {tt tu : TT} {x y : Dt} {ds es : List Dt} {i j k : Int} {a b c : Bool} {s t : Str}
/-! ### built-ins -/
abbrev rLenL (K : PySem.W.Frag) : List V → Hp → VK → Prop := fun xs H Q => ∃ p ys, xs = [V.ref p] ∧ (SqL K H p ys ∨ SqT K H p ys) ∧ Q (.int ys.length) H
abbrev rLenS : List V → Hp → VK → Prop := fun xs H Q => ∃ z, xs = [V.str z] ∧ z.length ≤ sizeLine ∧ Q (.int z.length) H
theorem g_len (h : G K .r te Γ (.lst ds)) : G K m (tCB (rLenL K) (tCons te tNil)) Γ (.int (ds.length : Int)) := fun H0 gh os A σ H E Q q => h H0 gh os A σ H E _ fun v H1 e1 r1 => by
  obtain ⟨a, xs, rfl, h1, h2⟩ := r1.lst_inv
  refine ⟨a, xs, rfl, .inl h1, ?_⟩
  rw [h2.len]
  exact q _ H1 e1 (.int _)
theorem g_lenT (h : G K .r te Γ (.tup ds)) : G K m (tCB (rLenL K) (tCons te tNil)) Γ (.int (ds.length : Int)) := fun H0 gh os A σ H E Q q => h H0 gh os A σ H E _ fun v H1 e1 r1 => by
  obtain ⟨a, xs, rfl, h1, h2⟩ := r1.tup_inv
  refine ⟨a, xs, rfl, .inr (.of h1), ?_⟩
  rw [h2.len]
  exact q _ H1 e1 (.int _)
theorem g_lenS (h : G K .r te Γ (.str s)) (hl : s.length ≤ 100000) : G K m (tCB rLenS (tCons te tNil)) Γ (.int (s.length : Int)) := fun H0 gh os A σ H E Q q => h H0 gh os A σ H E _ fun v H1 e1 r1 =>
  ⟨s, by rw [r1.str_inv], Evl.sz_of hl, q _ H1 e1 (.int _)⟩
abbrev rAbs : List V → Hp → VK → Prop := fun xs H Q => ∃ i, xs = [V.int i] ∧ Q (.int (if i < 0 then -i else i)) H
theorem g_abs (h : G K .r te Γ (.int i)) : G K m (tCB rAbs (tCons te tNil)) Γ (.int (if i < 0 then -i else i)) := fun H0 gh os A σ H E Q q => h H0 gh os A σ H E _ fun v H1 e1 r1 =>
  ⟨i, by rw [r1.int_inv], q _ H1 e1 (.int _)⟩
abbrev rInt1 : List V → Hp → VK → Prop := fun xs H Q => (∃ i, xs = [V.int i] ∧ Q (.int i) H) ∨ ∃ k, xs = [V.bl k] ∧ Q (.int (if k then 1 else 0)) H
theorem g_intB (h : G K .r te Γ (.bl a)) : G K m (tCB rInt1 (tCons te tNil)) Γ (.int (if a = true then 1 else 0)) := fun H0 gh os A σ H E Q q => h H0 gh os A σ H E _ fun v H1 e1 r1 =>
  .inr ⟨a, by rw [r1.bl_inv], q _ H1 e1 (.int _)⟩
abbrev rIntS : List V → Hp → VK → Prop := fun xs H Q => ∃ a n, xs = [V.str a] ∧ PySem.intText? a = some n ∧ a.length ≤ 640 ∧ Q (.int n) H
theorem g_intS (h : G K .r te Γ (.str s)) (e : PySem.intText? s = some i) (hl : s.length ≤ 640) : G K m (tCB rIntS (tCons te tNil)) Γ (.int i) := fun H0 gh os A σ H E Q q => h H0 gh os A σ H E _ fun v H1 e1 r1 =>
  ⟨s, i, by rw [r1.str_inv], e, hl, q _ H1 e1 (.int _)⟩
abbrev rStrI : List V → Hp → VK → Prop := fun xs H Q => ∃ i, xs = [V.int i] ∧ i.natAbs.log2 < 1920 ∧ Q (.str (toString i)) H
theorem g_strI (h : G K .r te Γ (.int i)) (hl : i.natAbs.log2 < 1920) : G K m (tCB rStrI (tCons te tNil)) Γ (.str (toString i)) := fun H0 gh os A σ H E Q q => h H0 gh os A σ H E _ fun v H1 e1 r1 =>
  ⟨i, by rw [r1.int_inv], hl, q _ H1 e1 (.str _)⟩
theorem g_sum {ns : List Int} (h : G K .r te Γ (.lst (dI ns))) : G K m (tCB (rSum K) (tCons te tNil)) Γ (.int ns.sum) := fun H0 gh os A σ H E Q q => h H0 gh os A σ H E _ fun v H1 e1 r1 => by
  obtain ⟨a, xs, rfl, h1, h2⟩ := r1.lst_inv
  cases h2.ints
  exact ⟨a, ns, rfl, h1, q _ H1 e1 (.int _)⟩
abbrev rMin2 : List V → Hp → VK → Prop := fun xs H Q => ∃ i j, xs = [V.int i, V.int j] ∧ Q (.int (if j < i then j else i)) H
abbrev rMax2 : List V → Hp → VK → Prop := fun xs H Q => ∃ i j, xs = [V.int i, V.int j] ∧ Q (.int (if j > i then j else i)) H
theorem g_min (h : G K .r ta Γ (.int i)) (g : G K .r tb Γ (.int j)) : G K m (tCB rMin2 (tCons ta (tCons tb tNil))) Γ (.int (if j < i then j else i)) := fun H0 gh os A σ H E Q q =>
  h H0 gh os A σ H E _ fun v H1 e1 r1 => g H0 gh os A σ H1 (E.up e1) _ fun u H2 e2 r2 => ⟨i, j, by rw [r1.int_inv, r2.int_inv], q _ H2 (e1.trans e2) (.int _)⟩
theorem g_max (h : G K .r ta Γ (.int i)) (g : G K .r tb Γ (.int j)) : G K m (tCB rMax2 (tCons ta (tCons tb tNil))) Γ (.int (if j > i then j else i)) := fun H0 gh os A σ H E Q q =>
  h H0 gh os A σ H E _ fun v H1 e1 r1 => g H0 gh os A σ H1 (E.up e1) _ fun u H2 e2 r2 => ⟨i, j, by rw [r1.int_inv, r2.int_inv], q _ H2 (e1.trans e2) (.int _)⟩
/-- list(range(n)) -/
theorem gn_listRg (h : G K .r te Γ (.int i)) (hl : 0 ≤ i ∧ i ≤ 100000) : GN K (tLstRg (tRg1 te)) Γ ((List.range i.toNat).map fun z => .int (z : Nat)) := fun H0 gh os A σ H E Q q => h H0 gh os A σ H E _ fun v H1 e1 r1 =>
  ⟨i, r1.int_inv, RgOk.of_le (by omega) (by omega) (by omega) (by omega), fun p hp => q p _ _ (fresh_back e1 hp) (e1.trans (Ex.new hp)) upd_same (by
    have e : rgV 0 i = ((List.range i.toNat).map fun z => ((z : Nat) : Int)).map V.int := by
      unfold rgV
      rw [List.map_map, Int.sub_zero]
      refine List.map_congr_left fun z _ => ?_
      show V.int (0 + (z : Nat)) = V.int (z : Nat)
      rw [Int.zero_add]
    rw [e, show ((List.range i.toNat).map fun z => Dt.int (z : Nat)) = dI ((List.range i.toNat).map fun z => ((z : Nat) : Int)) by simp [dI]]
    exact .of_ints _)⟩
/-- isinstance -/
def Dt.ty : Dt → Option String
  | .non => some "NoneType"
  | .bl _ => some "bool"
  | .int _ => some "int"
  | .str _ => some "str"
  | .lst _ => some "list"
  | .tup _ => some "tuple"
  | _ => none
theorem Rp.tyX {H : Hp} {v : V} {T : String} (h : Rp K H v x) (e : x.ty = some T) : TyX K H v (.type T) := by
  cases h with
  | non => cases e; exact .base .non
  | bl b => cases e; exact .base (.bl b)
  | int i => cases e; exact .base (.int i)
  | str z => cases e; exact .base (.str z)
  | lst g r =>
    cases e
    rcases g with (g | ⟨o, g⟩) | ⟨o, its, n, g, c, _⟩
    · exact .base (.lst g)
    · exact .base (.frz g)
    · exact .kList g c
  | tup g r => cases e; exact .base (.tup g)
  | dic g => cases e
  | fix g => cases e
theorem g_isi {T U : String} (h : G K .r te Γ x) (ht : x.ty = some T) (hk : kitB T U = some a) : G K m (tCB (rIsi K) (tCons te (tCons (tC (.ty U)) tNil))) Γ (.bl a) := fun H0 gh os A σ H E Q q => h H0 gh os A σ H E _ fun v H1 e1 r1 =>
  ⟨v, .ty U, .type T, .type U, a, rfl, .ty U, r1.tyX ht, kit_ty hk, q _ H1 e1 (.bl _)⟩
/-! ### methods -/
abbrev rJoin (K : PySem.W.Frag) : V → List V → Hp → VK → Prop := fun x xs H Q => ∃ a p, ∃ ys : List Str, x = .str a ∧ xs = [.ref p] ∧ (SqL K H p (ys.map V.str) ∨ SqT K H p (ys.map V.str)) ∧ (ys.map (·.length)).sum + ys.length * a.length ≤ 16777216 ∧ Q (.str (Txt.join a ys)) H
theorem g_join {ys : List Str} (h : G K .r ta Γ (.str s)) (g : G K .r tb Γ (.lst (dS ys))) (hl : (ys.map (·.length)).sum + ys.length * s.length ≤ 16777216) : G K m (tM1 (rJoin K) ta tb) Γ (.str (Txt.join s ys)) := fun H0 gh os A σ H E Q q =>
  h H0 gh os A σ H E _ fun v H1 e1 r1 => ⟨⟨s, r1.str_inv⟩, g H0 gh os A σ H1 (E.up e1) _ fun u H2 e2 r2 => by
    obtain ⟨p, xs, rfl, h1, h2⟩ := r2.lst_inv
    cases h2.strs
    exact ⟨s, p, ys, r1.str_inv, rfl, .inl h1, hl, q _ H2 (e1.trans e2) (.str _)⟩⟩
abbrev rSplit : V → List V → Hp → VK → Prop := fun x xs H Q => ∃ a b : Str, x = .str a ∧ xs = [.str b] ∧ (b.length == 0) = false ∧ a.length + 2 ≤ sizeLine ∧ rNewStrs (Txt.split a b) H Q
theorem gn_split (h : G K .r ta Γ (.str s)) (g : G K .r tb Γ (.str t)) (hb : (t.length == 0) = false) (hl : s.length ≤ 100000) : GN K (tM1 rSplit ta tb) Γ (dS (Txt.split s t)) := fun H0 gh os A σ H E Q q =>
  h H0 gh os A σ H E _ fun v H1 e1 r1 => ⟨⟨s, r1.str_inv⟩, g H0 gh os A σ H1 (E.up e1) _ fun u H2 e2 r2 =>
    ⟨s, t, r1.str_inv, by rw [r2.str_inv], hb, Nat.le_trans (Nat.add_le_add_right hl 2) (by decide), fun p hp => q p _ _ (fresh_back (e1.trans e2) hp) ((e1.trans e2).trans (Ex.new hp)) upd_same (.of_strs _)⟩⟩
abbrev rSIdx : V → List V → Hp → VK → Prop := fun x xs H Q => ∃ a b i rest, x = .str a ∧ xs = [.str b] ∧ Builtin.Str.occurrences a b 0 a.length 1 = i :: rest ∧ Q (.int (i : Nat)) H
theorem g_sidx {n : Nat} {rest : List Nat} (h : G K .r ta Γ (.str s)) (g : G K .r tb Γ (.str t)) (e : Builtin.Str.occurrences s t 0 s.length 1 = n :: rest) : G K m (tBM K "str" rSIdx ta (tCons tb tNil)) Γ (.int (n : Nat)) := fun H0 gh os A σ H E Q q =>
  h H0 gh os A σ H E _ fun v H1 e1 r1 => ⟨by rw [r1.str_inv]; rfl, g H0 gh os A σ H1 (E.up e1) _ fun u H2 e2 r2 => ⟨s, t, n, rest, r1.str_inv, by rw [r2.str_inv], e, q _ H2 (e1.trans e2) (.int _)⟩⟩
theorem g_tupX {tr : TA} {ns : List Int} (h : GA K .r tr Γ (dI ns)) (hl : ns.length ≤ 1000 := by decide) : G K m (tTupX tr) Γ (.fix ns) := fun H0 gh os A σ H E Q q =>
  h H0 gh os A σ H E _ fun vs H1 e1 r1 => ⟨ns, r1.ints, hl, fun p hp => q _ _ (e1.trans (Ex.new hp)) (.fix ((E.up e1).hp_at hp upd_same))⟩
theorem g_fixIx {ns : List Int} {n : Nat} (h : G K .r ta Γ (.fix ns)) (g : G K .r tb Γ (.int i)) (e : ns[n]? = some i) (hno : ∀ m, m < n → ns[m]? ≠ some i) : G K m (tFixIx ta tb) Γ (.int (n : Nat)) := fun H0 gh os A σ H E Q q =>
  h H0 gh os A σ H E _ fun v H1 e1 r1 => by
    obtain ⟨p, rfl, hp⟩ := r1.fix_inv
    exact ⟨p, ns, rfl, hp, g H0 gh os A σ H1 (E.up e1) _ fun u H2 e2 r2 => ⟨i, n, r2.int_inv, e2 _ _ hp, e, hno, q _ H2 (e1.trans e2) (.int _)⟩⟩
/-- xs.count(True) -/
theorem g_cntB {bs : List Bool} (h : G K .r ta Γ (.lst (bs.map Dt.bl))) (g : G K .r tb Γ (.bl a)) : G K m (tBM K "list" (rCntV K) ta (tCons tb tNil)) Γ (.int ((bs.countP fun b => b == a : Nat) : Int)) := fun H0 gh os A σ H E Q q =>
  h H0 gh os A σ H E _ fun v H1 e1 r1 => by
    obtain ⟨p, xs, rfl, h1, h2⟩ := r1.lst_inv
    have ex : xs = bs.map V.bl := by
      have := h2.sv (by rw [List.all_map]; exact List.all_eq_true.mpr fun _ _ => rfl)
      rw [this, List.map_map]
      rfl
    subst ex
    refine ⟨.inl ⟨rfl, _, h1⟩, g H0 gh os A σ H1 (E.up e1) _ fun u H2 e2 r2 => ⟨p, bs.map V.bl, .bl a, rfl, by rw [r2.bl_inv], Evl.ex_l e2 h1, rfl, ?_, ?_⟩⟩
    · rw [List.all_map]; exact List.all_eq_true.mpr fun _ _ => rfl
    · rw [List.countP_map]
      have ef : ((fun y => eqV y (V.bl a)) ∘ V.bl) = fun b => b == a := by
        funext z
        cases z <;> cases a <;> rfl
      rw [ef]
      exact q _ H2 (e1.trans e2) (.int _)
/-! ### dicts -/
def lookD (kvs : List ((Int × Int) × Bool)) (k : Int × Int) : Option Bool := (kvs.find? fun kv => decide (kv.1 = k)).map (·.2)
theorem valV_ent (kvs : List ((Int × Int) × Bool)) (p q : Int) : valV (kvs.map entT) ([Sum.inl p, Sum.inl q] : List Key) = (lookD kvs (p, q)).map V.bl := by
  induction kvs with
  | nil => rfl
  | cons kv r ih =>
    obtain ⟨⟨c, d⟩, b⟩ := kv
    unfold valV lookD at ih ⊢
    rw [List.map_cons, List.find?_cons, List.find?_cons]
    by_cases e : (c, d) = (p, q)
    · obtain ⟨rfl, rfl⟩ : c = p ∧ d = q := by simpa using e
      rw [show decide ((entT ((c, d), b)).1 = ([Sum.inl c, Sum.inl d] : List Key)) = true from decide_eq_true rfl, show decide ((((c, d), b) : (Int × Int) × Bool).1 = (c, d)) = true from decide_eq_true rfl]
      rfl
    · have e1 : ¬ (entT ((c, d), b)).1 = ([Sum.inl p, Sum.inl q] : List Key) := fun z => e (by
        have z' : ([Sum.inl c, Sum.inl d] : List Key) = [Sum.inl p, Sum.inl q] := z
        injection z' with z1 z2
        injection z2 with z3 _
        rw [Sum.inl.inj z1, Sum.inl.inj z3])
      rw [decide_eq_false e1, decide_eq_false (show ¬ ((((c, d), b) : (Int × Int) × Bool).1 = (p, q)) from e)]
      exact ih
theorem dget_at {H : Hp} {v u : V} {kvs : List ((Int × Int) × Bool)} {p q : Int} (h1 : Rp K H v (.dic kvs)) (h2 : Rp K H u (.tup [.int p, .int q])) : ∃ a, v = .ref a ∧ DGet H a u ((lookD kvs (p, q)).map V.bl) := by
  obtain ⟨a, rfl, g⟩ := h1.dic_inv
  obtain ⟨b, xs, rfl, g2, g3⟩ := h2.tup_inv
  refine ⟨a, rfl, .inr ⟨_, [Sum.inl p, Sum.inl q], b, g, rfl, ?_, (valV_ent kvs p q).symm⟩⟩
  rw [g2, show xs = [V.int p, V.int q] from RpA.ints (ns := [p, q]) g3]
  rfl
theorem g_dget {kvs : List ((Int × Int) × Bool)} {p q : Int} (h : G K .r ta Γ (.dic kvs)) (g : G K .r tb Γ (.tup [.int p, .int q])) (e : lookD kvs (p, q) = some a) : G K m (tDGet ta tb) Γ (.bl a) := fun H0 gh os A σ H E Q k =>
  h H0 gh os A σ H E _ fun v H1 e1 r1 => g H0 gh os A σ H1 (E.up e1) _ fun u H2 e2 r2 => by
    obtain ⟨d, rfl, w⟩ := dget_at (r1.up e2) r2
    rw [e] at w
    exact ⟨d, .bl a, rfl, w, k _ H2 (e1.trans e2) (.bl _)⟩
theorem g_din {kvs : List ((Int × Int) × Bool)} {p q : Int} (g : G K .r tb Γ (.tup [.int p, .int q])) (h : G K .r ta Γ (.dic kvs)) : G K m (tDIn tb ta) Γ (.bl (lookD kvs (p, q)).isSome) := fun H0 gh os A σ H E Q k =>
  g H0 gh os A σ H E _ fun u H1 e1 r1 => h H0 gh os A σ H1 (E.up e1) _ fun v H2 e2 r2 => by
    obtain ⟨d, rfl, w⟩ := dget_at r2 (r1.up e2)
    refine ⟨d, _, rfl, w, ?_⟩
    rw [Option.isSome_map]
    exact k _ H2 (e1.trans e2) (.bl _)
theorem g_dni {kvs : List ((Int × Int) × Bool)} {p q : Int} (g : G K .r tb Γ (.tup [.int p, .int q])) (h : G K .r ta Γ (.dic kvs)) : G K m (tDNotIn tb ta) Γ (.bl (!(lookD kvs (p, q)).isSome)) := fun H0 gh os A σ H E Q k =>
  g H0 gh os A σ H E _ fun u H1 e1 r1 => h H0 gh os A σ H1 (E.up e1) _ fun v H2 e2 r2 => by
    obtain ⟨d, rfl, w⟩ := dget_at r2 (r1.up e2)
    refine ⟨d, _, rfl, w, ?_⟩
    rw [Option.isSome_map]
    exact k _ H2 (e1.trans e2) (.bl _)
/-! ### a def's promise by data; its call -/
def spD (K : PySem.W.Frag) (R : List Dt → Dt → Prop) : Sp := fun vs H Q _ => ∃ ds x, RpA K H vs ds ∧ R ds x ∧ ∀ v H', Ex H H' → Rp K (nw H H') v x → Q v H'
theorem g_call {R : List Dt → Dt → Prop} {Er : XK} {tr : TA} (h : GA K .r tr Γ ds) (hr : R ds x) : G K m (tCall (spD K R) [] Er tr) Γ x := fun H0 gh os A σ H E Q q =>
  h H0 gh os A σ H E _ fun vs H1 e1 r1 => by
    rw [List.append_nil]
    exact ⟨ds, x, r1, hr, fun v H2 e2 r2 => q v H2 (e1.trans e2) (r2.up (E.up e1).hp_nw)⟩
/-! ### == of data -/
mutual
def Dt.py : Dt → PyData
  | .non => .none
  | .bl b => .bool b
  | .int i => .int i
  | .str x => .str x
  | .lst xs => .list (pyA xs)
  | .tup xs => .tuple (pyA xs)
  | .dic _ => .none
  | .fix _ => .none
def pyA : List Dt → List PyData
  | [] => []
  | d :: ds => d.py :: pyA ds
end
mutual
/-- nothing but numbers, truths, texts, lists, tuples -/
def Dt.pl : Dt → Bool
  | .lst xs => plA xs
  | .tup xs => plA xs
  | .dic _ => false
  | .fix _ => false
  | _ => true
def plA : List Dt → Bool
  | [] => true
  | d :: ds => d.pl && plA ds
end
mutual
theorem Rp.dp {H : Hp} : ∀ (d : Dt) {v : V}, Rp K H v d → d.pl = true → Dp K H v d.py
  | .non, _, h, _ => by cases h; exact .non
  | .bl b, _, h, _ => by cases h; exact .bl b
  | .int i, _, h, _ => by cases h; exact .int i
  | .str x, _, h, _ => by cases h; exact .str x
  | .lst ds, _, h, e => by
    cases h with
    | lst a b => exact .lst a (RpA.dp ds b e)
  | .tup ds, _, h, e => by
    cases h with
    | tup a b => exact .tup (.of a) (RpA.dp ds b e)
  | .dic _, _, _, e => by cases e
  | .fix _, _, _, e => by cases e
theorem RpA.dp {H : Hp} : ∀ (ds : List Dt) {vs : List V}, RpA K H vs ds → plA ds = true → DpAll K H vs (pyA ds)
  | [], _, h, _ => by cases h; exact .nil
  | d :: ds, _, h, e => by
    cases h with
    | cons a b =>
      have e' := Bool.and_eq_true_iff.mp (show (d.pl && plA ds) = true from e)
      exact .cons (Rp.dp d a e'.1) (RpA.dp ds b e'.2)
end
theorem g_eqD (h : G K .r ta Γ x) (g : G K .r tb Γ y) (px : x.pl = true) (py : y.pl = true) (sx : SeqAt.shaped x.py = true) (sy : SeqAt.shaped y.py = true) (e : PyData.eqv x.py y.py = a) : G K m (tOp (rEqD K) ta tb) Γ (.bl a) := fun H0 gh os A σ H E Q q =>
  h H0 gh os A σ H E _ fun v H1 e1 r1 => g H0 gh os A σ H1 (E.up e1) _ fun u H2 e2 r2 => ⟨x.py, y.py, Rp.dp x (r1.up e2) px, Rp.dp y r2 py, sx, sy, by rw [e]; exact q _ H2 (e1.trans e2) (.bl _)⟩
theorem g_neD (h : G K .r ta Γ x) (g : G K .r tb Γ y) (px : x.pl = true) (py : y.pl = true) (sx : SeqAt.shaped x.py = true) (sy : SeqAt.shaped y.py = true) (e : PyData.eqv x.py y.py = a) : G K m (tOp (rNeD K) ta tb) Γ (.bl (!a)) := fun H0 gh os A σ H E Q q =>
  h H0 gh os A σ H E _ fun v H1 e1 r1 => g H0 gh os A σ H1 (E.up e1) _ fun u H2 e2 r2 => ⟨x.py, y.py, Rp.dp x (r1.up e2) px, Rp.dp y r2 py, sx, sy, by rw [e]; exact q _ H2 (e1.trans e2) (.bl _)⟩
end
/-! ### what is walked -/
section
variable {K : PySem.W.Frag} {m : Md} {Γ Γ' : Ga} {te ta tb tc : TE} {tt tu : TT} {x y : Dt} {xs ys ds es : List Dt} {i j k : Int} {a b c : Bool} {s t : Str}
/-- none of these is a tuple -/
def NoTup (os : List Addr) (H : Hp) : Prop := ∀ p ∈ os, ∃ o, H p = some o ∧ ∀ xs, o ≠ .tup xs
def YD (K : PySem.W.Frag) (gs : List (V × Dt)) (xs : List Dt) : Nat → Hp → V → Hp → Prop := fun i H v H' => Ex H H' ∧ ∀ os, NoTup os H → (∀ g ∈ gs, Rp K (mnu os H) g.1 g.2) → ∃ x, xs[i]? = some x ∧ Rp K (mnu os H') v x
def GI (K : PySem.W.Frag) (wi : TI) (Γ : Ga) (xs : List Dt) : Prop := ∀ H0 gh os A σ H, EnvA K H0 gh Γ os A σ H → ∀ R : It → Hp → Prop,
  (∀ J gs H', Ex H H' → (∀ g ∈ gs, Rp K (mnu os H') g.1 g.2) → Walk J xs.length (fun H => ∀ g ∈ gs, Rp K H g.1 g.2) (YD K gs xs) → R J H') → wi σ H R
theorem gi_list (h : G K .s te Γ (.lst xs)) : GI K (iList K te) Γ xs := fun H0 gh os A σ H E R q => h H0 gh os A σ H E _ fun v H1 e1 r1 => by
  obtain ⟨a, vs, rfl, h1, h2⟩ := r1.lst_inv
  refine ⟨a, rfl, ⟨vs, Evl.ex_l ex_mnu h1⟩, q _ [(V.ref a, Dt.lst xs)] H1 e1 (fun g hg => by cases List.mem_singleton.mp hg; exact r1) ⟨fun i H hi g => ?_, fun H g => ?_, fun i H v H' hi g y => ?_⟩⟩
  · obtain ⟨a', ws, ea, g1, g2⟩ := (g _ (List.mem_singleton.mpr rfl)).lst_inv
    cases ea
    obtain ⟨w, hw, _⟩ := g2.get (List.getElem?_eq_getElem hi)
    exact ⟨ws, w, g1, hw⟩
  · obtain ⟨a', ws, ea, g1, g2⟩ := (g _ (List.mem_singleton.mpr rfl)).lst_inv
    cases ea
    exact ⟨ws, g1, Nat.le_of_eq g2.len⟩
  · obtain ⟨rfl, y⟩ := y
    refine ⟨Ex.refl _, fun os' _ g' => ?_⟩
    obtain ⟨a', ws, ea, g1, g2⟩ := (g' _ (List.mem_singleton.mpr rfl)).lst_inv
    cases ea
    obtain ⟨w, hw, rw'⟩ := g2.get (List.getElem?_eq_getElem hi)
    have e := y ws (Evl.ex_l ex_mnu g1)
    rw [hw] at e
    cases e
    exact ⟨_, List.getElem?_eq_getElem hi, rw'⟩
theorem gi_tup (h : G K .s te Γ (.tup xs)) : GI K (iTup K te) Γ xs := fun H0 gh os A σ H E R q => h H0 gh os A σ H E _ fun v H1 e1 r1 => by
  obtain ⟨a, vs, rfl, h1, h2⟩ := r1.tup_inv
  refine ⟨a, rfl, ⟨vs, .of (ex_mnu _ _ h1)⟩, q _ [(V.ref a, Dt.tup xs)] H1 e1 (fun g hg => by cases List.mem_singleton.mp hg; exact r1) ⟨fun i H hi g => ?_, fun H g => ?_, fun i H v H' hi g y => ?_⟩⟩
  · obtain ⟨a', ws, ea, g1, g2⟩ := (g _ (List.mem_singleton.mpr rfl)).tup_inv
    cases ea
    obtain ⟨w, hw, _⟩ := g2.get (List.getElem?_eq_getElem hi)
    exact ⟨ws, w, .of g1, hw⟩
  · obtain ⟨a', ws, ea, g1, g2⟩ := (g _ (List.mem_singleton.mpr rfl)).tup_inv
    cases ea
    exact ⟨ws, .of g1, Nat.le_of_eq g2.len⟩
  · obtain ⟨rfl, y⟩ := y
    refine ⟨Ex.refl _, fun os' _ g' => ?_⟩
    obtain ⟨a', ws, ea, g1, g2⟩ := (g' _ (List.mem_singleton.mpr rfl)).tup_inv
    cases ea
    obtain ⟨w, hw, rw'⟩ := g2.get (List.getElem?_eq_getElem hi)
    have e := y ws (.of (ex_mnu _ _ g1))
    rw [hw] at e
    cases e
    exact ⟨_, List.getElem?_eq_getElem hi, rw'⟩
/-- the ints lo, lo + c, .. -/
def rgD (lo c : Int) (n : Nat) : List Dt := (List.range n).map fun z => .int (lo + (z : Nat) * c)
theorem rgD_len {lo c : Int} {n : Nat} : (rgD lo c n).length = n := by unfold rgD; rw [List.length_map, List.length_range]
theorem rgD_get {lo c : Int} {n z : Nat} (h : z < n) : (rgD lo c n)[z]? = some (.int (lo + (z : Nat) * c)) := by
  unfold rgD
  rw [List.getElem?_map, List.getElem?_range h]
  rfl
theorem walk_rg {lo c : Int} {n : Nat} {J : It} (h : Walk J n (fun _ => True) (YFn fun z => .int (lo + (z : Nat) * c))) : Walk J (rgD lo c n).length (fun H => ∀ g ∈ ([] : List (V × Dt)), Rp K H g.1 g.2) (YD K [] (rgD lo c n)) := by
  rw [rgD_len]
  refine h.mono (fun _ _ => trivial) fun z H v H' hz _ y => ?_
  obtain ⟨rfl, rfl⟩ := y
  exact ⟨Ex.refl _, fun os _ _ => ⟨_, rgD_get hz, .int _⟩⟩
theorem gi_rng1 {tr : TA} (h : GA K .r tr Γ [.int j]) (hl : j < 2 ^ 62 := by omega) (h0 : -(2 ^ 62) ≤ j := by omega) : GI K (iRng1 tr) Γ (rgD 0 1 j.toNat) := fun H0 gh os A σ H E R q => h H0 gh os A σ H E _ fun vs H1 e1 r1 => by
  refine ⟨j, RpA.ints (ns := [j]) r1, h0, hl, q _ [] H1 e1 (fun g hg => nomatch hg) (walk_rg (walk_range.mono (fun _ h => h) fun z H v H' _ _ y => ⟨y.1, y.2.trans (by simp)⟩))⟩
theorem gi_rng2 {tr : TA} (h : GA K .r tr Γ [.int i, .int j]) (hl : -(2 ^ 62) ≤ i ∧ i < 2 ^ 62 ∧ -(2 ^ 62) ≤ j ∧ j < 2 ^ 62 := by omega) : GI K (iRng2 tr) Γ (rgD i 1 (j - i).toNat) := fun H0 gh os A σ H E R q => h H0 gh os A σ H E _ fun vs H1 e1 r1 => by
  refine ⟨i, j, RpA.ints (ns := [i, j]) r1, hl, q _ [] H1 e1 (fun g hg => nomatch hg) (walk_rg (walk_range.mono (fun _ h => h) fun z H v H' _ _ y => ⟨y.1, y.2.trans (by simp)⟩))⟩
theorem gi_rng3 {tr : TA} {n : Nat} (h : GA K .r tr Γ [.int i, .int j, .int k]) (hr : RgC i j k n) : GI K (iRng3 tr) Γ (rgD i k n) := fun H0 gh os A σ H E R q => h H0 gh os A σ H E _ fun vs H1 e1 r1 => by
  refine ⟨i, j, k, n, RpA.ints (ns := [i, j, k]) r1, hr, q _ [] H1 e1 (fun g hg => nomatch hg) (walk_rg walk_rangeC)⟩
def chars (z : Str) : List Dt := z.cps.toList.map fun c => .str ⟨#[c]⟩
theorem gi_str (h : G K .r te Γ (.str s)) : GI K (iStr te) Γ (chars s) := fun H0 gh os A σ H E R q => h H0 gh os A σ H E _ fun v H1 e1 r1 => by
  refine ⟨s, r1.str_inv, q _ [] H1 e1 (fun g hg => nomatch hg) ?_⟩
  have el : (chars s).length = s.cps.size := by unfold chars; rw [List.length_map, Array.length_toList]
  rw [el]
  refine walk_str.mono (fun _ _ => trivial) fun z H v H' hz _ y => ?_
  obtain ⟨rfl, c, hc, rfl⟩ := y
  refine ⟨Ex.refl _, fun os _ _ => ⟨.str ⟨#[c]⟩, ?_, .str _⟩⟩
  unfold chars
  rw [List.getElem?_map, Array.getElem?_toList, hc]
  rfl
def enumD (xs : List Dt) : List Dt := (List.range xs.length).map fun i => .tup [.int (i : Nat), xs.getD i .non]
theorem enumD_get {z : Nat} {x : Dt} (h : xs[z]? = some x) : (enumD xs)[z]? = some (.tup [.int (z : Nat), x]) := by
  unfold enumD
  rw [List.getElem?_map, List.getElem?_range (List.getElem?_eq_some_iff.mp h).1]
  show some (Dt.tup [Dt.int (z : Nat), xs.getD z Dt.non]) = _
  rw [List.getD_eq_getElem?_getD, h]
  rfl
theorem gi_enum {tr : TA} (h : GA K .s tr Γ [.lst xs]) : GI K (iEnum K tr) Γ (enumD xs) := fun H0 gh os A σ H E R q => h H0 gh os A σ H E _ fun vs H1 e1 r1 => by
  cases r1 with
  | cons r1 rn =>
    cases rn
    obtain ⟨a, vs, rfl, h1, h2⟩ := r1.lst_inv
    have el : (enumD xs).length = xs.length := by unfold enumD; rw [List.length_map, List.length_range]
    refine ⟨a, vs, rfl, Evl.ex_l ex_mnu h1, q _ [(V.ref a, Dt.lst xs)] H1 e1 (fun g hg => by cases List.mem_singleton.mp hg; exact r1) ?_⟩
    rw [el]
    refine ⟨fun i H hi g => ?_, fun H g => ?_, fun i H v H' hi g y => ?_⟩
    · obtain ⟨a', ws, ea, g1, g2⟩ := (g _ (List.mem_singleton.mpr rfl)).lst_inv
      cases ea
      obtain ⟨w, hw, _⟩ := g2.get (List.getElem?_eq_getElem hi)
      exact ⟨ws, w, g1, hw⟩
    · obtain ⟨a', ws, ea, g1, g2⟩ := (g _ (List.mem_singleton.mpr rfl)).lst_inv
      cases ea
      exact ⟨ws, g1, Nat.le_of_eq g2.len⟩
    · obtain ⟨T, w, rfl, hT, rfl, y⟩ := y
      refine ⟨Ex.new hT, fun os' nt g' => ?_⟩
      obtain ⟨a', ws, ea, g1, g2⟩ := (g' _ (List.mem_singleton.mpr rfl)).lst_inv
      cases ea
      obtain ⟨w', hw, rw'⟩ := g2.get (List.getElem?_eq_getElem hi)
      have e := y ws (Evl.ex_l ex_mnu g1)
      rw [hw] at e
      cases e
      have hTo : T ∉ os' := fun z => by
        obtain ⟨o, h3, _⟩ := nt T z
        rw [hT] at h3
        cases h3
      exact ⟨_, enumD_get (List.getElem?_eq_getElem hi), .tup (mnu_some.mpr ⟨hTo, upd_same⟩) (.cons (.int _) (.one (rw'.up (mnu_ex (Ex.new hT)))))⟩
def zipD (xs ys : List Dt) : List Dt := (List.range (min xs.length ys.length)).map fun i => .tup [xs.getD i .non, ys.getD i .non]
theorem zipD_get {z : Nat} {x y : Dt} (h : xs[z]? = some x) (g : ys[z]? = some y) : (zipD xs ys)[z]? = some (.tup [x, y]) := by
  unfold zipD
  have h1 := (List.getElem?_eq_some_iff.mp h).1
  have h2 := (List.getElem?_eq_some_iff.mp g).1
  rw [List.getElem?_map, List.getElem?_range (by omega)]
  show some (Dt.tup [xs.getD z Dt.non, ys.getD z Dt.non]) = _
  rw [List.getD_eq_getElem?_getD, h, List.getD_eq_getElem?_getD, g]
  rfl
theorem gi_zip {tr : TA} (h : GA K .s tr Γ [.lst xs, .lst ys]) : GI K (iZip K tr) Γ (zipD xs ys) := fun H0 gh os A σ H E R q => h H0 gh os A σ H E _ fun vs H1 e1 r1 => by
  cases r1 with
  | cons r1 r2 =>
  cases r2 with
  | cons r2 rn =>
    cases rn
    obtain ⟨a, vs, rfl, h1, h2⟩ := r1.lst_inv
    obtain ⟨b, us, rfl, k1, k2⟩ := r2.lst_inv
    have el : (zipD xs ys).length = min xs.length ys.length := by unfold zipD; rw [List.length_map, List.length_range]
    refine ⟨a, b, vs, us, rfl, Evl.ex_l ex_mnu h1, Evl.ex_l ex_mnu k1, q _ [(V.ref a, Dt.lst xs), (V.ref b, Dt.lst ys)] H1 e1 (fun g hg => by
      rcases List.mem_cons.mp hg with e | hg
      · cases e; exact r1
      · cases List.mem_singleton.mp hg; exact r2) ?_⟩
    rw [el]
    have two : ∀ {P : V × Dt → Prop}, (∀ g ∈ [(V.ref a, Dt.lst xs), (V.ref b, Dt.lst ys)], P g) → P (V.ref a, Dt.lst xs) ∧ P (V.ref b, Dt.lst ys) := fun h => ⟨h _ (by simp), h _ (by simp)⟩
    refine ⟨fun i H hi g => ?_, fun H g => ?_, fun i H v H' hi g y => ?_⟩
    · obtain ⟨ga, gb⟩ := two g
      obtain ⟨a', ws, ea, g1, g2⟩ := ga.lst_inv
      cases ea
      obtain ⟨b', zs, eb, l1, l2⟩ := gb.lst_inv
      cases eb
      obtain ⟨w, hw, _⟩ := g2.get (List.getElem?_eq_getElem (show i < xs.length by omega))
      obtain ⟨z, hz, _⟩ := l2.get (List.getElem?_eq_getElem (show i < ys.length by omega))
      exact ⟨ws, zs, w, z, g1, l1, hw, hz⟩
    · obtain ⟨ga, gb⟩ := two g
      obtain ⟨a', ws, ea, g1, g2⟩ := ga.lst_inv
      cases ea
      obtain ⟨b', zs, eb, l1, l2⟩ := gb.lst_inv
      cases eb
      refine ⟨ws, zs, g1, l1, ?_⟩
      rw [g2.len, l2.len]
      omega
    · obtain ⟨T, w, z, rfl, hT, rfl, y1, y2⟩ := y
      refine ⟨Ex.new hT, fun os' nt g' => ?_⟩
      obtain ⟨ga, gb⟩ := two g'
      obtain ⟨a', ws, ea, g1, g2⟩ := ga.lst_inv
      cases ea
      obtain ⟨b', zs, eb, l1, l2⟩ := gb.lst_inv
      cases eb
      have hx := List.getElem?_eq_getElem (show i < xs.length by omega)
      have hy := List.getElem?_eq_getElem (show i < ys.length by omega)
      obtain ⟨w', hw, rw'⟩ := g2.get hx
      obtain ⟨z', hz, rz'⟩ := l2.get hy
      have e := y1 ws (Evl.ex_l ex_mnu g1)
      rw [hw] at e
      cases e
      have e := y2 zs (Evl.ex_l ex_mnu l1)
      rw [hz] at e
      cases e
      have hTo : T ∉ os' := fun z => by
        obtain ⟨o, h3, _⟩ := nt T z
        rw [hT] at h3
        cases h3
      exact ⟨_, zipD_get hx hy, .tup (mnu_some.mpr ⟨hTo, upd_same⟩) (.cons (rw'.up (mnu_ex (Ex.new hT))) (.one (rz'.up (mnu_ex (Ex.new hT)))))⟩
/-! ### targets -/
def Sames (ts : List Nat) (σ σ' : L2.St) : Prop := σ'.length = σ.length ∧ ∀ k, k ∉ ts → σ'[k]? = σ[k]?
def GG (K : PySem.W.Frag) (g : TG) (x : Dt) (Γ Γ' : Ga) (ts : List Nat) : Prop := ∀ H0 gh os A σ H v, EnvA K H0 gh Γ os A σ H → Rp K (mnu os H) v x → ∀ Q : L2.St → Hp → Prop,
  (∀ A' σ', EnvA K H0 gh Γ' os A' σ' H → (∀ i p, p ∈ A' i → p ∈ A i) → Sames ts σ σ' → Q σ' H) → g v σ H Q
theorem sames_set {ts : List Nat} {σ : L2.St} {n : Nat} {v : Option V} (h : n ∈ ts) : Sames ts σ (σ.set n v) := ⟨List.length_set .., fun k hk => List.getElem?_set_ne (fun e => hk (by rw [← e]; exact h))⟩
theorem Sames.trans {ts : List Nat} {σ σ1 σ2 : L2.St} (a : Sames ts σ σ1) (b : Sames ts σ1 σ2) : Sames ts σ σ2 := ⟨b.1.trans a.1, fun k hk => (b.2 k hk).trans (a.2 k hk)⟩
theorem gg_name {n : Nat} : GG K (gName n) x Γ (Γ.set n (.d x)) [n] := fun H0 gh os A σ H v E r Q q =>
  q _ _ (E.set_d (.inl ⟨x, rfl, r⟩)) (fun i p hp => by
    by_cases e : i = n
    · rw [if_pos e] at hp; cases hp
    · rw [if_neg e] at hp; exact hp) (sames_set (List.mem_singleton.mpr rfl))
theorem gg_two {n k : Nat} : GG K (gTup K 2 (gCons (gName n) (gCons (gName k) gNil))) (.tup [x, y]) Γ ((Γ.set n (.d x)).set k (.d y)) [n, k] := fun H0 gh os A σ H v E r Q q => by
  obtain ⟨a, xs, rfl, h1, h2⟩ := r.tup_inv
  cases h2 with
  | cons r1 r2 =>
  cases r2 with
  | cons r2 rn =>
    cases rn
    refine ⟨a, _, rfl, .of (ex_mnu _ _ h1), rfl, _, _, rfl, _, _, rfl, rfl, ?_⟩
    refine q _ _ ((E.set_d (.inl ⟨x, rfl, r1⟩)).set_d (.inl ⟨y, rfl, r2⟩)) (fun i p hp => ?_) ((sames_set (by simp)).trans (sames_set (by simp)))
    by_cases e : i = k
    · rw [if_pos e] at hp; cases hp
    · rw [if_neg e] at hp
      by_cases e2 : i = n
      · rw [if_pos e2] at hp; cases hp
      · rw [if_neg e2] at hp; exact hp
theorem wipe_get {σ : L2.St} : ∀ {vs : List Nat} {k : Nat}, (L2.wipe σ vs)[k]? = if k ∈ vs ∧ k < σ.length then some none else σ[k]?
  | [], k => by simp [L2.wipe]
  | v :: vs, k => by
    unfold L2.wipe
    by_cases e : v = k
    · subst e
      by_cases hv : v < σ.length
      · rw [List.getElem?_set_self (by rw [wipe_length]; exact hv), if_pos ⟨by simp, hv⟩]
      · rw [if_neg (fun z => hv z.2), List.getElem?_eq_none (by rw [List.length_set, wipe_length]; omega), List.getElem?_eq_none (by omega)]
    · rw [List.getElem?_set_ne e, wipe_get]
      have : (k ∈ v :: vs ∧ k < σ.length) ↔ (k ∈ vs ∧ k < σ.length) := by simp [Ne.symm e]
      by_cases c : k ∈ vs ∧ k < σ.length
      · rw [if_pos c, if_pos (this.mpr c)]
      · rw [if_neg c, if_neg (fun z => c (this.mp z))]
theorem wipe_same {σ σ' : L2.St} {vs ts : List Nat} (h : Sames ts (L2.wipe σ vs) σ') (hs : ∀ k ∈ ts, k ∈ vs) : L2.wipe σ' vs = L2.wipe σ vs := by
  have el : σ'.length = σ.length := h.1.trans (wipe_length σ vs)
  refine List.ext_getElem? fun k => ?_
  rw [wipe_get, wipe_get, el]
  by_cases c : k ∈ vs ∧ k < σ.length
  · rw [if_pos c, if_pos c]
  · rw [if_neg c, if_neg c]
    by_cases hk : k ∈ vs
    · have hl : ¬ k < σ.length := fun z => c ⟨hk, z⟩
      rw [List.getElem?_eq_none (by omega), List.getElem?_eq_none (by omega)]
    · rw [h.2 k (fun z => hk (hs k z)), wipe_get, if_neg c]
/-! ### comprehensions -/
def givenD (n : Nat) (f : Nat → Bool) (w : Nat → Dt) : List Dt := ((List.range n).filter f).map w
theorem givenD_yes {n : Nat} {f : Nat → Bool} {w : Nat → Dt} (h : f n = true) : givenD (n + 1) f w = givenD n f w ++ [w n] := by
  unfold givenD
  rw [List.range_succ, List.filter_append, List.map_append, List.filter_cons, if_pos h] <;> rfl
theorem givenD_no {n : Nat} {f : Nat → Bool} {w : Nat → Dt} (h : f n = false) : givenD (n + 1) f w = givenD n f w := by
  unfold givenD
  rw [List.range_succ, List.filter_append, List.map_append, List.filter_cons, if_neg (by rw [h]; decide)]
  show _ ++ [] = _
  rw [List.append_nil]
theorem givenD_len (n : Nat) (f : Nat → Bool) (w : Nat → Dt) : (givenD n f w).length ≤ n := by
  unfold givenD
  rw [List.length_map]
  have h := List.length_filter_le f (List.range n)
  rw [List.length_range] at h
  exact h
theorem hp_grow {m : Md} {os : List Addr} {H0 H H' : Hp} {D : Addr} (h : H D = none) (e : Ex H H') (hm : m ≠ .r) : Ex (hp m os H0 H) (hp m (D :: os) H0 H') := by
  intro q u g
  have hq : H q = some u := hp_r _ _ g
  have hne : q ≠ D := fun z => by rw [z, h] at hq; cases hq
  cases m with
  | r => exact absurd rfl hm
  | s =>
    obtain ⟨h1, _⟩ := mnu_some.mp (show mnu os H q = some u from g)
    exact mnu_some.mpr ⟨fun z => by rcases List.mem_cons.mp z with z | z; exact hne z; exact h1 z, e _ _ hq⟩
  | f =>
    obtain ⟨h1, h2⟩ := mnu_some.mp (show mnu os (nw H0 H) q = some u from g)
    exact mnu_some.mpr ⟨fun z => by rcases List.mem_cons.mp z with z | z; exact hne z; exact h1 z, nw_some.mpr ⟨(nw_some.mp h2).1, e _ _ hq⟩⟩
theorem EnvA.grow {H0 : Hp} {gh : List (V × Dt)} {os : List Addr} {A : Nat → List Addr} {σ : L2.St} {H H' : Hp} {D : Addr} {acc : List V} (E : EnvA K H0 gh Γ os A σ H) (h : H D = none) (e : Ex H H') (hD : H' D = some (.lst acc)) : EnvA K H0 gh Γ (D :: os) A σ H' := by
  refine ⟨E.ex.trans e, fun q hq => ?_, fun q hq => ?_, E.len, fun i s hs => (E.sl i s hs).mut (hp_grow h e (by decide)) (hp_grow h e (by decide)) fun q _ u hu => e _ _ hu, fun i q hq => List.mem_cons_of_mem _ (E.sub i q hq), E.dis, fun g hg => (E.gh g hg).up (hp_grow h e (by decide))⟩
  · rcases List.mem_cons.mp hq with rfl | hq
    · exact E.fresh0 h
    · exact E.fr q hq
  · rcases List.mem_cons.mp hq with rfl | hq
    · exact ⟨_, hD, fun xs z => by cases z⟩
    · obtain ⟨u, h1, h2⟩ := E.th q hq
      exact ⟨u, e _ _ h1, h2⟩
theorem gn_lc {wi : TI} {g : TG} {vs ts : List Nat} {f : Nat → Bool} {w : Nat → Dt} (hi : GI K wi Γ xs) (hz : xs.length ≤ 40000) (hs : ∀ k ∈ ts, k ∈ vs)
    (he : ∀ (n : Nat) x, xs[n]? = some x → ∃ Γ', GG K g x (wipeG Γ vs) Γ' ts ∧ GT K tt Γ' (f n) ∧ (f n = true → G K .f te Γ' (w n))) : GN K (tLc wi g tt te vs) Γ (givenD xs.length f w) := fun H0 gh os A σ H E Q q =>
  hi H0 gh os A σ H E _ fun J gs H1 e1 hgs W => fun D hD => by
    have E1 := E.up e1
    refine lc_it W (fun i H' => Ex H1 H' ∧ ∃ acc, H' D = some (.lst acc) ∧ RpA K (hp .f (D :: os) H0 H') acc (givenD i f w)) ⟨Ex.new hD, [], upd_same, .nil⟩
      (fun i H' _ p g hg => ((hgs g hg).up ex_mnu).up p.1) (fun i x H2 H3 hlt p y => ?_) (fun H' p => ?_)
    · obtain ⟨p1, acc, p2, p3⟩ := p
      obtain ⟨y1, y2⟩ := y
      have E2 : EnvA K H0 gh Γ (D :: os) A σ H2 := E1.grow hD p1 p2
      obtain ⟨xd, hx, rx⟩ := y2 (D :: os) E2.th (fun g hg => (hgs g hg).up (hp_grow (m := .s) (H0 := H0) hD p1 (by decide)))
      obtain ⟨Γ', g1, g2, g3⟩ := he i xd hx
      have E3 := (E2.up y1).wipe vs
      refine g1 H0 gh (D :: os) A _ H3 x E3 rx _ fun A' σ' E4 hA hsm => ⟨wipe_same hsm hs, ?_⟩
      have p2' := y1 _ _ p2
      refine g2 H0 gh (D :: os) A' σ' H3 E4 _ fun H4 e4 => ?_
      cases hf : f i with
      | true =>
        refine iteT (g3 hf H0 gh (D :: os) A' σ' H4 (E4.up e4) _ fun v H5 e5 r5 => ?_)
        have hDo : D ∈ D :: os := List.mem_cons_self ..
        have e15 := ((p1.trans y1).trans e4).trans e5
        refine ⟨acc, e5 _ _ (e4 _ _ p2'), Evl.sz_lt (by rw [p3.len]; have := givenD_len i f w; omega), Evl.Ex.mut e15 hD, _, upd_same, ?_⟩
        rw [hp_upd hDo (by decide), givenD_yes hf]
        exact (p3.up (hp_ex ((y1.trans e4).trans e5))).app (.one r5)
      | false =>
        refine iteF ⟨(p1.trans y1).trans e4, acc, e4 _ _ p2', ?_⟩
        rw [givenD_no hf]
        exact p3.up (hp_ex (y1.trans e4))
    · obtain ⟨p1, acc, p2, p3⟩ := p
      exact q D acc H' (fresh_back e1 hD) (e1.trans p1) p2 p3
/-- without a test -/
theorem gn_lc0 {wi : TI} {g : TG} {vs ts : List Nat} {w : Nat → Dt} (hi : GI K wi Γ xs) (hz : xs.length ≤ 40000) (hs : ∀ k ∈ ts, k ∈ vs)
    (he : ∀ (n : Nat) x, xs[n]? = some x → ∃ Γ', GG K g x (wipeG Γ vs) Γ' ts ∧ G K .f te Γ' (w n)) : GN K (tLc wi g tYes te vs) Γ ((List.range xs.length).map w) := by
  have h := gn_lc (K := K) (tt := tYes) (te := te) (g := g) (f := fun _ => true) (w := w) hi hz hs fun n x hx => let ⟨Γ', h1, h2⟩ := he n x hx; ⟨Γ', h1, gt_yes, fun _ => h2⟩
  unfold givenD at h
  rw [List.filter_eq_self.mpr (fun _ _ => rfl)] at h
  exact h
end
end GY
end
section
set_option Elab.async false
set_option linter.all false
set_option maxRecDepth 100000
set_option maxHeartbeats 4000000
/-! statements by data; a def's promise from its body -/
namespace GY
open PySem PySem.Spec PyProof.Rows L2
open Evl (Ex fresh_back)

/-- things of our own handed out: rows, a dict, a tuple of a list, a dict and a dict -/
inductive Rm where
  | rows (r : List (List Int))
  | dict (S : List ((Int × Int) × Bool) → Prop)
  | ways (es : List Dt) (S : List ((Int × Int) × Bool) → List ((Int × Int) × Bool) → Prop)
/-- p: a new list of new rows, all of them different -/
def MxAt (H0 H : Hp) (p : Addr) (rows : List (List Int)) : Prop := ∃ as : List Addr, (∀ a ∈ p :: as, H0 a = none) ∧ (p :: as).Nodup ∧ H p = some (.lst (as.map V.ref)) ∧ Paired (fun a ns => H a = some (.lst (ns.map V.int))) as rows
def RmAt (K : PySem.W.Frag) (H0 H : Hp) (v : V) : Rm → Prop
  | .rows r => ∃ p, v = .ref p ∧ MxAt H0 H p r
  | .dict S => ∃ p kvs, v = .ref p ∧ S kvs ∧ H0 p = none ∧ H p = some (.dT (kvs.map entT))
  | .ways es S => ∃ t va b p sides seen, v = .ref t ∧ S sides seen ∧ H t = some (.tup [va, .ref b, .ref p]) ∧ H0 p = none ∧ H p = some (.dT (seen.map entT)) ∧ Rp K (mnu [p] (nw H0 H)) va (.lst es) ∧ Rp K (mnu [p] (nw H0 H)) (.ref b) (.dic sides)
/-- what is wanted behind a statement, by data -/
structure Po where
  nx : Ga → Prop
  rt : Dt → Prop
  bk : Ga → Prop := fun _ => False
  ct : Ga → Prop := fun _ => False
  /-- things of our own handed out -/
  rm : Rm → Prop := fun _ => False
structure Meets (K : PySem.W.Frag) (H0 : Hp) (gh : List (V × Dt)) (P : Po) (D : Ends) : Prop where
  nx : ∀ Γ σ H, P.nx Γ → Env K H0 gh Γ σ H → D.nx σ H
  rt : ∀ x v H, P.rt x → Ex H0 H → Rp K (nw H0 H) v x → D.rt v H
  bk : ∀ Γ σ H, P.bk Γ → Env K H0 gh Γ σ H → D.bk σ H
  ct : ∀ Γ σ H, P.ct Γ → Env K H0 gh Γ σ H → D.ct σ H
  rm : ∀ r v H, P.rm r → Ex H0 H → RmAt K H0 H v r → D.rt v H
def Run (K : PySem.W.Frag) (ts : TS) (Γ : Ga) (P : Po) : Prop := ∀ H0 gh D σ H, Env K H0 gh Γ σ H → Meets K H0 gh P D → ts D σ H
/-! ### weaker knowledge -/
inductive SLe : Sl → Sl → Prop
  | rfl {s : Sl} : SLe s s
  | no {s : Sl} : SLe s .no
  | fd {x : Dt} : SLe (.f x) (.d x)
  | sc {x : Dt} (h : x.sc = true) : SLe (.d x) (.f x)
  | of {xs : List Dt} : SLe (.own xs) (.f (.lst xs))
  | od {xs : List Dt} : SLe (.own xs) (.d (.lst xs))
  | tf {kvs : List ((Int × Int) × Bool)} : SLe (.dT kvs) (.f (.dic kvs))
theorem SLe.eq {s t : Sl} (h : s = t) : SLe s t := h ▸ .rfl
def Le : Ga → Ga → Prop
  | [], [] => True
  | a :: as, b :: bs => SLe a b ∧ Le as bs
  | _, _ => False
theorem Le.refl : ∀ Γ : Ga, Le Γ Γ
  | [] => trivial
  | _ :: as => ⟨.rfl, Le.refl as⟩
theorem Le.eq {Γ Γ' : Ga} (h : Γ = Γ') : Le Γ Γ' := h ▸ Le.refl Γ
section
variable {K : PySem.W.Frag} {H0 : Hp} {gh gs : List (V × Dt)} {Γ Γ' : Ga} {os : List Addr} {A : Nat → List Addr} {σ : L2.St} {H H' : Hp}
theorem EnvA.weak1 (E : EnvA K H0 gh Γ os A σ H) {i : Nat} {s s' : Sl} (h : Γ[i]? = some s) (e : SLe s s') : ∃ os' A', EnvA K H0 gh (Γ.set i s') os' A' σ H := by
  have hl : i < Γ.length := (List.getElem?_eq_some_iff.mp h).1
  -- slots that keep their objects
  have keep : ∀ t, SlOk K H0 os H t σ[i]? (A i) → EnvA K H0 gh (Γ.set i t) os A σ H := fun t ht => by
    refine ⟨E.ex, E.fr, E.th, by rw [List.length_set, E.len], fun j u hj => ?_, E.sub, E.dis, E.gh⟩
    by_cases ij : i = j
    · subst ij
      rw [List.getElem?_set_self hl] at hj
      cases hj
      exact ht
    · rw [List.getElem?_set_ne ij] at hj
      exact E.sl j u hj
  -- slots that give their objects away
  have give : ∀ t, (∀ os', (∀ p ∈ os', p ∈ os) → (∀ p ∈ os', p ∉ A i) → SlOk K H0 os' H t σ[i]? []) → ∃ os' A', EnvA K H0 gh (Γ.set i t) os' A' σ H := fun t ht => by
    have hs : ∀ p ∈ os.filter (fun p => decide (p ∉ A i)), p ∈ os := fun p hp => (List.mem_filter.mp hp).1
    have hn : ∀ p ∈ os.filter (fun p => decide (p ∉ A i)), p ∉ A i := fun p hp => of_decide_eq_true (List.mem_filter.mp hp).2
    refine ⟨os.filter (fun p => decide (p ∉ A i)), fun j => if j = i then [] else A j, ⟨E.ex, fun p hp => E.fr p (hs p hp), fun p hp => E.th p (hs p hp), by rw [List.length_set, E.len], fun j u hj => ?_, fun j p hp => ?_, fun j k p h1 h2 => ?_, fun g hg => (E.gh g hg).up (hp_sub hs)⟩⟩
    · by_cases ij : i = j
      · subst ij
        rw [List.getElem?_set_self hl] at hj
        cases hj
        rw [if_pos rfl]
        exact ht _ hs hn
      · rw [List.getElem?_set_ne ij] at hj
        rw [if_neg (Ne.symm ij)]
        exact (E.sl j u hj).mut (hp_sub hs) (hp_sub hs) fun _ _ _ z => z
    · by_cases ij : j = i
      · rw [if_pos ij] at hp; cases hp
      · rw [if_neg ij] at hp
        exact List.mem_filter.mpr ⟨E.sub j p hp, decide_eq_true fun z => ij (E.dis j i p hp z)⟩
    · by_cases ij : j = i
      · rw [if_pos ij] at h1; cases h1
      · by_cases ik : k = i
        · rw [if_pos ik] at h2; cases h2
        · rw [if_neg ij] at h1; rw [if_neg ik] at h2; exact E.dis j k p h1 h2
  have o := E.sl i s h
  cases e with
  | rfl => exact ⟨os, A, keep _ o⟩
  | no => exact ⟨os, A, keep .no trivial⟩
  | fd =>
    obtain ⟨v, h1, h2⟩ := o
    exact ⟨os, A, keep (.d _) ⟨v, h1, h2.up hp_f⟩⟩
  | sc hx =>
    obtain ⟨v, h1, h2⟩ := o
    exact ⟨os, A, keep (.f _) ⟨v, h1, h2.sc hx⟩⟩
  | of =>
    obtain ⟨p, xs, h1, h2, h3, h4⟩ := o
    refine give _ fun os' q1 q2 => ⟨.ref p, h1, .lst (.of ?_) (h4.up (hp_sub q1))⟩
    have pn : p ∉ os' := fun z => q2 p z (by rw [h2]; exact List.mem_singleton.mpr rfl)
    exact mnu_some.mpr ⟨pn, nw_some.mpr ⟨E.fr p (E.sub i p (by rw [h2]; exact List.mem_singleton.mpr rfl)), h3⟩⟩
  | od =>
    obtain ⟨p, xs, h1, h2, h3, h4⟩ := o
    refine give _ fun os' q1 q2 => ⟨.ref p, h1, .lst (.of ?_) ((h4.up (hp_sub q1)).up hp_f)⟩
    have pn : p ∉ os' := fun z => q2 p z (by rw [h2]; exact List.mem_singleton.mpr rfl)
    exact mnu_some.mpr ⟨pn, h3⟩
  | tf =>
    obtain ⟨p, h1, h2, h3⟩ := o
    refine give _ fun os' q1 q2 => ⟨.ref p, h1, .dic (.of ?_)⟩
    have pn : p ∉ os' := fun z => q2 p z (by rw [h2]; exact List.mem_singleton.mpr rfl)
    exact mnu_some.mpr ⟨pn, nw_some.mpr ⟨E.fr p (E.sub i p (by rw [h2]; exact List.mem_singleton.mpr rfl)), h3⟩⟩
theorem Env.weak1 (E : Env K H0 gh Γ σ H) {i : Nat} {s s' : Sl} (h : Γ[i]? = some s) (e : SLe s s') : Env K H0 gh (Γ.set i s') σ H := let ⟨_, _, E⟩ := E; E.weak1 h e
theorem Env.le_pre : ∀ (Γ Γ' pre : Ga), Le Γ Γ' → Env K H0 gh (pre ++ Γ) σ H → Env K H0 gh (pre ++ Γ') σ H
  | [], [], _, _, E => E
  | [], _ :: _, _, h, _ => h.elim
  | _ :: _, [], _, h, _ => h.elim
  | a :: as, b :: bs, pre, h, E => by
    have E1 := E.weak1 (i := pre.length) (s := a) (s' := b) (by simp) h.1
    have e1 : (pre ++ a :: as).set pre.length b = (pre ++ [b]) ++ as := by simp
    rw [e1] at E1
    have E2 := Env.le_pre as bs (pre ++ [b]) h.2 E1
    rw [List.append_assoc] at E2
    exact E2
theorem Env.le (E : Env K H0 gh Γ σ H) (h : Le Γ Γ') : Env K H0 gh Γ' σ H := Env.le_pre Γ Γ' [] h E
theorem Env.drop (E : Env K H0 (gs ++ gh) Γ σ H) : Env K H0 gh Γ σ H := let ⟨os, A, E⟩ := E; ⟨os, A, ⟨E.ex, E.fr, E.th, E.len, E.sl, E.sub, E.dis, fun g hg => E.gh g (List.mem_append_right _ hg)⟩⟩
/-- an own slot's object changes, and what its slot says -/
theorem EnvA.own_set (E : EnvA K H0 gh Γ os A σ H) {i : Nat} {s : Sl} {p : Addr} {o : HO} (hi : i < Γ.length) (hA : A i = [p]) (ho : ∀ xs, o ≠ .tup xs)
    (hs : (∃ xs ds, s = .own ds ∧ o = .lst xs ∧ RpA K (hp .f os H0 H) xs ds) ∨ (∃ kvs, s = .dT kvs ∧ o = .dT (kvs.map entT)) ∨ (∃ kvs, s = .dK kvs ∧ o = .dK (kvs.map entK))) (hσ : σ[i]? = some (some (.ref p))) : EnvA K H0 gh (Γ.set i s) os A σ (upd H p o) := by
  have po : p ∈ os := E.sub i p (by rw [hA]; exact List.mem_singleton.mpr rfl)
  refine ⟨Evl.Ex.mut E.ex (E.fr p po), E.fr, fun q hq => ?_, by rw [List.length_set, E.len], fun j t hj => ?_, E.sub, E.dis, fun g hg => ?_⟩
  · by_cases e : q = p
    · subst e; exact ⟨o, upd_same, ho⟩
    · obtain ⟨u, h1, h2⟩ := E.th q hq
      exact ⟨u, by rw [upd_ne e]; exact h1, h2⟩
  · by_cases ij : i = j
    · subst ij
      rw [List.getElem?_set_self hi] at hj
      cases hj
      rcases hs with ⟨xs, ds, rfl, rfl, h⟩ | ⟨kvs, rfl, rfl⟩ | ⟨kvs, rfl, rfl⟩
      · refine ⟨p, xs, hσ, hA, upd_same, ?_⟩
        rw [hp_upd po (by decide)]
        exact h
      · exact ⟨p, hσ, hA, upd_same⟩
      · exact ⟨p, hσ, hA, upd_same⟩
    · rw [List.getElem?_set_ne ij] at hj
      refine (E.sl j t hj).mut (by rw [hp_upd po (by decide)]; exact Ex.refl _) (by rw [hp_upd po (by decide)]; exact Ex.refl _) fun q hq u hu => ?_
      have qp : q ≠ p := fun z => ij (E.dis i j p (by rw [hA]; exact List.mem_singleton.mpr rfl) (by rw [← z]; exact hq))
      rw [upd_ne qp]
      exact hu
  · rw [hp_upd po (by decide)]
    exact E.gh g hg
/-- a slot takes a new own object -/
theorem EnvA.own_new (E : EnvA K H0 gh Γ os A σ H) {i : Nat} {s : Sl} {p : Addr} {o : HO} (ex : Ex H H') (hn : H p = none) (hv : H' p = some o) (ho : ∀ xs, o ≠ .tup xs)
    (hs : (∃ xs ds, s = .own ds ∧ o = .lst xs ∧ RpA K (hp .f (p :: os) H0 H') xs ds) ∨ (∃ kvs, s = .dT kvs ∧ o = .dT (kvs.map entT)) ∨ (∃ kvs, s = .dK kvs ∧ o = .dK (kvs.map entK))) :
    EnvA K H0 gh (Γ.set i s) (p :: os) (fun j => if j = i then [p] else A j) (σ.set i (some (.ref p))) H' := by
  have po := E.fresh_os hn
  refine ⟨E.ex.trans ex, fun q hq => ?_, fun q hq => ?_, by rw [List.length_set, List.length_set, E.len], fun j t hj => ?_, fun j q hq => ?_, fun j k q h1 h2 => ?_, fun g hg => (E.gh g hg).up (hp_grow hn ex (by decide))⟩
  · rcases List.mem_cons.mp hq with rfl | hq
    · exact E.fresh0 hn
    · exact E.fr q hq
  · rcases List.mem_cons.mp hq with rfl | hq
    · exact ⟨o, hv, ho⟩
    · obtain ⟨u, h1, h2⟩ := E.th q hq
      exact ⟨u, ex _ _ h1, h2⟩
  · by_cases ij : i = j
    · subst ij
      have hl : i < Γ.length := by
        have := (List.getElem?_eq_some_iff.mp hj).1
        rw [List.length_set] at this
        exact this
      rw [List.getElem?_set_self hl] at hj
      cases hj
      rw [List.getElem?_set_self (by rw [E.len]; exact hl), if_pos rfl]
      rcases hs with ⟨xs, ds, rfl, rfl, h⟩ | ⟨kvs, rfl, rfl⟩ | ⟨kvs, rfl, rfl⟩
      · exact ⟨p, xs, rfl, rfl, hv, h⟩
      · exact ⟨p, rfl, rfl, hv⟩
      · exact ⟨p, rfl, rfl, hv⟩
    · rw [List.getElem?_set_ne ij] at hj
      rw [List.getElem?_set_ne ij, if_neg (Ne.symm ij)]
      exact (E.sl j t hj).mut (hp_grow hn ex (by decide)) (hp_grow hn ex (by decide)) fun q _ u hu => ex _ _ hu
  · by_cases ij : j = i
    · rw [if_pos ij] at hq
      exact List.mem_cons.mpr (.inl (List.mem_singleton.mp hq))
    · rw [if_neg ij] at hq
      exact List.mem_cons_of_mem _ (E.sub j q hq)
  · by_cases ij : j = i
    · by_cases ik : k = i
      · rw [ij, ik]
      · rw [if_pos ij] at h1
        rw [if_neg ik] at h2
        cases List.mem_singleton.mp h1
        exact absurd (E.sub k p h2) po
    · by_cases ik : k = i
      · rw [if_neg ij] at h1
        rw [if_pos ik] at h2
        cases List.mem_singleton.mp h2
        exact absurd (E.sub j p h1) po
      · rw [if_neg ij] at h1
        rw [if_neg ik] at h2
        exact E.dis j k q h1 h2
end
section
variable {K : PySem.W.Frag} {Γ Γ' : Ga} {P P' : Po} {t u tb : TS} {te ta tv : TE} {tt : TT} {x : Dt} {xs ds es : List Dt} {b : Bool} {i : Nat}
theorem Po.mono {H0 : Hp} {gh : List (V × Dt)} {D : Ends} (M : Meets K H0 gh P' D) (h1 : ∀ Γ, P.nx Γ → P'.nx Γ) (h2 : ∀ x, P.rt x → P'.rt x) (h3 : ∀ Γ, P.bk Γ → P'.bk Γ) (h4 : ∀ Γ, P.ct Γ → P'.ct Γ) (h5 : ∀ r, P.rm r → P'.rm r) : Meets K H0 gh P D :=
  ⟨fun Γ σ H p => M.nx Γ σ H (h1 Γ p), fun x v H p => M.rt x v H (h2 x p), fun Γ σ H p => M.bk Γ σ H (h3 Γ p), fun Γ σ H p => M.ct Γ σ H (h4 Γ p), fun r p H q => M.rm r p H (h5 r q)⟩
theorem run_seq (h : Run K t Γ { P with nx := fun Γ' => Run K u Γ' P }) : Run K (tSeq t u) Γ P := fun H0 gh D σ H E M =>
  h H0 gh { D with nx := u D } σ H E ⟨fun Γ' σ' H' r E' => r H0 gh D σ' H' E' M, M.rt, M.bk, M.ct, M.rm⟩
theorem run_le (e : Le Γ Γ') (h : Run K t Γ' P) : Run K t Γ P := fun H0 gh D σ H E M => h H0 gh D σ H (E.le e) M
theorem run_weak {s s' : Sl} (hi : Γ[i]? = some s) (e : SLe s s') (h : Run K t (Γ.set i s') P) : Run K t Γ P := fun H0 gh D σ H E M => h H0 gh D σ H (E.weak1 hi e) M
theorem run_next (h : P.nx Γ) : Run K tNext Γ P := fun H0 gh D σ H E M => M.nx Γ σ H h E
theorem run_asg (g : G K .s te Γ x) (h : P.nx (Γ.set i (.d x))) : Run K (tAsg te (gName i)) Γ P := fun H0 gh D σ H ⟨os, A, E⟩ M =>
  g H0 gh os A σ H E _ fun v H1 e1 r1 => M.nx _ _ H1 h ⟨os, _, (E.up e1).set_d (.inl ⟨x, rfl, r1⟩)⟩
theorem run_asgF (g : G K .f te Γ x) (h : P.nx (Γ.set i (.f x))) : Run K (tAsg te (gName i)) Γ P := fun H0 gh D σ H ⟨os, A, E⟩ M =>
  g H0 gh os A σ H E _ fun v H1 e1 r1 => M.nx _ _ H1 h ⟨os, _, (E.up e1).set_d (.inr (.inl ⟨x, rfl, r1⟩))⟩
theorem run_asgO (g : GN K te Γ ds) (h : P.nx (Γ.set i (.own ds))) : Run K (tAsg te (gName i)) Γ P := fun H0 gh D σ H ⟨os, A, E⟩ M =>
  g H0 gh os A σ H E _ fun p xs H1 hn e1 hp r1 => M.nx _ _ H1 h ⟨_, _, E.own_new (o := .lst xs) e1 hn hp (fun _ z => by cases z) (.inl ⟨xs, ds, rfl, rfl, r1⟩)⟩
theorem run_asgG {g : TG} {ts : List Nat} (h : G K .s te Γ x) (hg : GG K g x Γ Γ' ts) (hn : P.nx Γ') : Run K (tAsg te g) Γ P := fun H0 gh D σ H ⟨os, A, E⟩ M =>
  h H0 gh os A σ H E _ fun v H1 e1 r1 => hg H0 gh os A σ H1 v (E.up e1) r1 _ fun A' σ' E' _ _ => M.nx _ _ H1 hn ⟨os, A', E'⟩
theorem run_newT (h : P.nx (Γ.set i (.dT []))) : Run K (tAsg tDNewT (gName i)) Γ P := fun H0 gh D σ H ⟨os, A, E⟩ M =>
  fun p hp => M.nx _ _ _ h ⟨_, _, E.own_new (o := .dT []) (Ex.new hp) hp upd_same (fun _ z => by cases z) (.inr (.inl ⟨[], rfl, rfl⟩))⟩
theorem run_newK (h : P.nx (Γ.set i (.dK []))) : Run K (tAsg tDNewK (gName i)) Γ P := fun H0 gh D σ H ⟨os, A, E⟩ M =>
  fun p hp => M.nx _ _ _ h ⟨_, _, E.own_new (o := .dK []) (Ex.new hp) hp upd_same (fun _ z => by cases z) (.inr (.inr ⟨[], rfl, rfl⟩))⟩
theorem run_ret (g : G K .f te Γ x) (h : P.rt x) : Run K (tRet te) Γ P := fun H0 gh D σ H ⟨os, A, E⟩ M =>
  g H0 gh os A σ H E _ fun v H1 e1 r1 => M.rt x v H1 h (E.ex.trans e1) (r1.up ex_mnu)
theorem run_if (g : GT K tt Γ b) (h1 : b = true → Run K t Γ P) (h2 : b = false → Run K u Γ P) : Run K (tIfS tt t u) Γ P := fun H0 gh D σ H ⟨os, A, E⟩ M =>
  g H0 gh os A σ H E _ fun H1 e1 => by
    cases b with
    | true => exact iteT (h1 rfl H0 gh D σ H1 ⟨os, A, E.up e1⟩ M)
    | false => exact iteF (h2 rfl H0 gh D σ H1 ⟨os, A, E.up e1⟩ M)
/-- a test known beforehand -/
theorem run_ifT (g : GT K tt Γ b) (hb : b = true) (h : Run K t Γ P) : Run K (tIfS tt t u) Γ P := run_if g (fun _ => h) fun z => by rw [hb] at z; cases z
theorem run_ifF (g : GT K tt Γ b) (hb : b = false) (h : Run K u Γ P) : Run K (tIfS tt t u) Γ P := run_if g (fun z => by rw [hb] at z; cases z) fun _ => h
theorem run_drop (g : G K .r te Γ x) (h : P.nx Γ) : Run K (tDrop te) Γ P := fun H0 gh D σ H ⟨os, A, E⟩ M =>
  g H0 gh os A σ H E _ fun v H1 e1 r1 => M.nx _ _ H1 h ⟨os, A, E.up e1⟩
theorem own_at {H0 : Hp} {gh : List (V × Dt)} {os : List Addr} {A : Nat → List Addr} {σ : L2.St} {H : Hp} (E : EnvA K H0 gh Γ os A σ H) (h : Γ[i]? = some (.own xs)) :
    ∃ p vs, σ[i]? = some (some (.ref p)) ∧ A i = [p] ∧ H p = some (.lst vs) ∧ RpA K (hp .f os H0 H) vs xs := E.sl i _ h
theorem run_app (hi : Γ[i]? = some (.own xs)) (g : G K .f te Γ x) (hl : xs.length < 100000) (h : P.nx (Γ.set i (.own (xs ++ [x])))) : Run K (tDrop (tBM K "list" rAppend (tVar i) (tCons te tNil))) Γ P := fun H0 gh D σ H ⟨os, A, E⟩ M => by
  obtain ⟨p, vs, h1, h2, h3, h4⟩ := own_at E hi
  refine ⟨_, h1, .inl ⟨rfl, vs, .of h3⟩, g H0 gh os A σ H E _ fun v H1 e1 r1 => ⟨p, vs, v, rfl, rfl, e1 _ _ h3, Evl.sz_lt (by rw [h4.len]; exact hl), ?_⟩⟩
  refine M.nx _ _ _ h ⟨os, A, (E.up e1).own_set (List.getElem?_eq_some_iff.mp hi).1 h2 (fun _ z => by cases z) (.inl ⟨_, _, rfl, rfl, (h4.up (hp_ex e1)).app (.one r1)⟩) h1⟩
theorem run_ext (hi : Γ[i]? = some (.own xs)) (g : GN K te Γ es) (hl : xs.length + es.length ≤ 100000) (h : P.nx (Γ.set i (.own (xs ++ es)))) : Run K (tDrop (tBM K "list" rExtend (tVar i) (tCons te tNil))) Γ P := fun H0 gh D σ H ⟨os, A, E⟩ M => by
  obtain ⟨p, vs, h1, h2, h3, h4⟩ := own_at E hi
  refine ⟨_, h1, .inl ⟨rfl, vs, .of h3⟩, g H0 gh os A σ H E _ fun q ws H1 hn e1 hq r1 => ⟨p, q, vs, ws, rfl, rfl, e1 _ _ h3, hq, Evl.sz_of (by rw [h4.len, r1.len]; exact hl), ?_⟩⟩
  refine M.nx _ _ _ h ⟨os, A, (E.up e1).own_set (List.getElem?_eq_some_iff.mp hi).1 h2 (fun _ z => by cases z) (.inl ⟨_, _, rfl, rfl, (h4.up (hp_ex e1)).app (r1.up (hp_sub fun z hz => List.mem_cons_of_mem _ hz))⟩) h1⟩
theorem run_rev (hi : Γ[i]? = some (.own xs)) (h : P.nx (Γ.set i (.own xs.reverse))) : Run K (tDrop (tBM0 K "list" rReverse (tVar i))) Γ P := fun H0 gh D σ H ⟨os, A, E⟩ M => by
  obtain ⟨p, vs, h1, h2, h3, h4⟩ := own_at E hi
  refine ⟨_, h1, .inl ⟨rfl, vs, .of h3⟩, p, vs, rfl, rfl, h3, ?_⟩
  exact M.nx _ _ _ h ⟨os, A, E.own_set (List.getElem?_eq_some_iff.mp hi).1 h2 (fun _ z => by cases z) (.inl ⟨_, _, rfl, rfl, h4.rev⟩) h1⟩
/-- xs[j] = e -/
theorem run_setL {j : Nat} (hi : Γ[i]? = some (.own xs)) (g : G K .f te Γ x) (g2 : G K .r ta Γ (.int (j : Int))) (hl : j < xs.length) (h : P.nx (Γ.set i (.own (xs.set j x)))) : Run K (tAsg te (gSub (tVar i) ta rSetL)) Γ P := fun H0 gh D σ H ⟨os, A, E⟩ M => by
  obtain ⟨p, vs, h1, h2, h3, h4⟩ := own_at E hi
  refine g H0 gh os A σ H E _ fun v H1 e1 r1 => ⟨_, h1, g2 H0 gh os A σ H1 (E.up e1) _ fun w H2 e2 r2 => ⟨p, vs, (j : Int), j, rfl, r2.int_inv, e2 _ _ (e1 _ _ h3), Evl.ixN_nat (by rw [h4.len]; exact hl), ?_⟩⟩
  refine M.nx _ _ _ h ⟨os, A, (E.up (e1.trans e2)).own_set (List.getElem?_eq_some_iff.mp hi).1 h2 (fun _ z => by cases z) (.inl ⟨_, _, rfl, rfl, (h4.up (hp_ex (e1.trans e2))).set j (r1.up (hp_ex e2))⟩) h1⟩
/-! ### stores to own dicts -/
def putD {κ β : Type} [DecidableEq κ] (kvs : List (κ × β)) (k : κ) (v : β) : List (κ × β) := if (kvs.any fun kv => decide (kv.1 = k)) = true then kvs.map (fun kv => if kv.1 = k then (kv.1, v) else kv) else kvs ++ [(k, v)]
/-- a dict's entries by a map that tells keys apart -/
theorem putK_map {κ κ' β : Type} [DecidableEq κ] [DecidableEq κ'] (f : κ → κ') (g : β → V) (hf : ∀ a b, f a = f b → a = b) (kvs : List (κ × β)) (k : κ) (v : β) :
    putK (kvs.map fun p => (f p.1, g p.2)) (f k) (g v) = (putD kvs k v).map fun p => (f p.1, g p.2) := by
  have dec : ∀ a b : κ, decide (f a = f b) = decide (a = b) := fun a b => dec_iff ⟨hf a b, congrArg f⟩
  unfold putK putD
  rw [List.any_map]
  have e : ((fun kv : κ' × V => decide (kv.1 = f k)) ∘ fun p : κ × β => (f p.1, g p.2)) = fun kv => decide (kv.1 = k) := by
    funext p
    exact dec p.1 k
  rw [e]
  by_cases c : (kvs.any fun kv => decide (kv.1 = k)) = true
  · rw [if_pos c, if_pos c, List.map_map, List.map_map]
    refine List.map_congr_left fun p _ => ?_
    show (if f p.1 = f k then (f p.1, g v) else (f p.1, g p.2)) = (fun q : κ × β => (f q.1, g q.2)) (if p.1 = k then (p.1, v) else p)
    by_cases ek : p.1 = k
    · rw [if_pos ek, if_pos (congrArg f ek)]
    · rw [if_neg ek, if_neg (fun z => ek (hf _ _ z))]
  · rw [if_neg c, if_neg c, List.map_append]
    rfl
theorem keyT_inj (a b : Int × Int) (h : ([Sum.inl a.1, Sum.inl a.2] : List Key) = [Sum.inl b.1, Sum.inl b.2]) : a = b := by
  injection h with h1 h2
  injection h2 with h3 _
  exact Prod.ext (Sum.inl.inj h1) (Sum.inl.inj h3)
theorem keyK_inj (a b : Int) (h : (Sum.inl a : Key) = Sum.inl b) : a = b := Sum.inl.inj h
theorem run_dput {kvs : List ((Int × Int) × Bool)} {p q : Int} (hi : Γ[i]? = some (.dT kvs)) (g : G K .r tv Γ (.bl b)) (g2 : G K .r ta Γ (.tup [.int p, .int q])) (hl : kvs.length < 100000) (h : P.nx (Γ.set i (.dT (putD kvs (p, q) b)))) : Run K (sDPut (tVar i) ta tv) Γ P := fun H0 gh D σ H ⟨os, A, E⟩ M => by
  obtain ⟨d, h1, h2, h3⟩ : ∃ d, σ[i]? = some (some (.ref d)) ∧ A i = [d] ∧ H d = some (.dT (kvs.map entT)) := E.sl i _ hi
  refine g H0 gh os A σ H E _ fun v H1 e1 r1 => ⟨_, h1, g2 H0 gh os A σ H1 (E.up e1) _ fun w H2 e2 r2 => ?_⟩
  obtain ⟨t, ws, rfl, w1, w2⟩ := r2.tup_inv
  have ew : ws = [V.int p, V.int q] := RpA.ints (ns := [p, q]) w2
  refine ⟨d, _, rfl, DPut.t (kvs := kvs.map entT) (k := [Sum.inl p, Sum.inl q]) (e2 _ _ (e1 _ _ h3)) (by rw [ew] at w1; exact w1) (by rw [List.length_map]; exact Evl.sz_lt hl), ?_⟩
  have ek : putK (kvs.map entT) [Sum.inl p, Sum.inl q] v = (putD kvs (p, q) b).map entT := by
    rw [r1.bl_inv]
    exact putK_map (κ := Int × Int) (κ' := List Key) (fun a => [Sum.inl a.1, Sum.inl a.2]) V.bl keyT_inj kvs (p, q) b
  rw [ek]
  exact M.nx _ _ _ h ⟨os, A, (E.up (e1.trans e2)).own_set (List.getElem?_eq_some_iff.mp hi).1 h2 (fun _ z => by cases z) (.inr (.inl ⟨_, rfl, rfl⟩)) h1⟩
theorem run_dputK {kvs : List (Int × Int)} {p q : Int} (hi : Γ[i]? = some (.dK kvs)) (g : G K .r tv Γ (.int q)) (g2 : G K .r ta Γ (.int p)) (hl : kvs.length < 100000) (h : P.nx (Γ.set i (.dK (putD kvs p q)))) : Run K (sDPut (tVar i) ta tv) Γ P := fun H0 gh D σ H ⟨os, A, E⟩ M => by
  obtain ⟨d, h1, h2, h3⟩ : ∃ d, σ[i]? = some (some (.ref d)) ∧ A i = [d] ∧ H d = some (.dK (kvs.map entK)) := E.sl i _ hi
  refine g H0 gh os A σ H E _ fun v H1 e1 r1 => ⟨_, h1, g2 H0 gh os A σ H1 (E.up e1) _ fun w H2 e2 r2 => ?_⟩
  cases r2.int_inv
  refine ⟨d, _, rfl, DPut.k (kvs := kvs.map entK) (k := Sum.inl p) (e2 _ _ (e1 _ _ h3)) (by rw [List.length_map]; exact Evl.sz_lt hl), ?_⟩
  have ek : putK (kvs.map entK) (Sum.inl p) v = (putD kvs p q).map entK := by
    rw [r1.int_inv]
    exact putK_map (κ := Int) (κ' := Key) (fun a => Sum.inl a) V.int keyK_inj kvs p q
  rw [ek]
  exact M.nx _ _ _ h ⟨os, A, (E.up (e1.trans e2)).own_set (List.getElem?_eq_some_iff.mp hi).1 h2 (fun _ z => by cases z) (.inr (.inr ⟨_, rfl, rfl⟩)) h1⟩
/-- an own dict from ints to ints, read -/
theorem g_dgetK {m : Md} {kvs : List (Int × Int)} {p q : Int} (hi : Γ[i]? = some (.dK kvs)) (g : G K .r ta Γ (.int p)) (e : (kvs.find? fun kv => decide (kv.1 = p)).map (·.2) = some q) : G K m (tDGet (tVar i) ta) Γ (.int q) := fun H0 gh os A σ H E Q k => by
  obtain ⟨d, h1, h2, h3⟩ : ∃ d, σ[i]? = some (some (.ref d)) ∧ A i = [d] ∧ H d = some (.dK (kvs.map entK)) := E.sl i _ hi
  refine ⟨_, h1, g H0 gh os A σ H E _ fun w H1 e1 r1 => ?_⟩
  cases r1.int_inv
  refine ⟨d, .int q, rfl, .inl ⟨kvs.map entK, Sum.inl p, .inl (e1 _ _ h3), rfl, ?_⟩, k _ H1 e1 (.int _)⟩
  clear h1 h2 h3 hi
  induction kvs with
  | nil => cases e
  | cons kv r ih =>
    unfold valV
    rw [List.map_cons, List.find?_cons]
    rw [List.find?_cons] at e
    by_cases c : kv.1 = p
    · rw [decide_eq_true c] at e
      rw [show decide ((entK kv).1 = (Sum.inl p : Key)) = true from decide_eq_true (congrArg Sum.inl c)]
      have : kv.2 = q := Option.some.inj e
      rw [← this]
      rfl
    · rw [decide_eq_false c] at e
      rw [show decide ((entK kv).1 = (Sum.inl p : Key)) = false from decide_eq_false (fun z => c (Sum.inl.inj z))]
      exact ih e
/-! ### rows of our own -/
theorem mx_at {H0 : Hp} {gh : List (V × Dt)} {os : List Addr} {A : Nat → List Addr} {σ : L2.St} {H : Hp} {rows : List (List Int)} (E : EnvA K H0 gh Γ os A σ H) (h : Γ[i]? = some (.mx rows)) :
    ∃ p as, σ[i]? = some (some (.ref p)) ∧ A i = p :: as ∧ (p :: as).Nodup ∧ H p = some (.lst (as.map V.ref)) ∧ Paired (fun a ns => H a = some (.lst (ns.map V.int))) as rows := E.sl i _ h
/-- a slot takes new rows of our own -/
theorem EnvA.mx_new {H0 : Hp} {gh : List (V × Dt)} {os : List Addr} {A : Nat → List Addr} {σ : L2.St} {H H' : Hp} {p : Addr} {as : List Addr} {rows : List (List Int)} (E : EnvA K H0 gh Γ os A σ H) (ex : Ex H H') (hn : ∀ a ∈ p :: as, H a = none) (nd : (p :: as).Nodup)
    (hv : H' p = some (.lst (as.map V.ref))) (hr : Paired (fun a ns => H' a = some (.lst (ns.map V.int))) as rows) : EnvA K H0 gh (Γ.set i (.mx rows)) (p :: as ++ os) (fun j => if j = i then p :: as else A j) (σ.set i (some (.ref p))) H' := by
  have grow : ∀ m : Md, m ≠ .r → Ex (hp m os H0 H) (hp m (p :: as ++ os) H0 H') := fun m hm q u g => by
    have hq : H q = some u := hp_r _ _ g
    have hne : q ∉ p :: as := fun z => by rw [hn q z] at hq; cases hq
    have no : ∀ G : Hp, mnu os G q = some u → q ∉ p :: as ++ os := fun G w z => by
      rcases List.mem_append.mp z with z | z
      · exact hne z
      · exact (mnu_some.mp w).1 z
    cases m with
    | r => exact absurd rfl hm
    | s => exact mnu_some.mpr ⟨no _ g, ex _ _ hq⟩
    | f =>
      obtain ⟨h1, h2⟩ := mnu_some.mp (show mnu os (nw H0 H) q = some u from g)
      exact mnu_some.mpr ⟨no _ g, nw_some.mpr ⟨(nw_some.mp h2).1, ex _ _ hq⟩⟩
  have rth : ∀ a ∈ as, ∃ o, H' a = some o ∧ ∀ xs, o ≠ .tup xs := by
    intro a ha
    clear nd hv hn grow
    induction hr with
    | nil => cases ha
    | cons q t ih =>
      rcases List.mem_cons.mp ha with e | ha
      · rw [e]; exact ⟨_, q, fun _ z => by cases z⟩
      · exact ih ha
  refine ⟨E.ex.trans ex, fun q hq => ?_, fun q hq => ?_, by rw [List.length_set, List.length_set, E.len], fun j t hj => ?_, fun j q hq => ?_, fun j k q h1 h2 => ?_, fun g hg => (E.gh g hg).up (grow .s (by decide))⟩
  · rcases List.mem_append.mp hq with hq | hq
    · exact E.fresh0 (hn q hq)
    · exact E.fr q hq
  · rcases List.mem_append.mp hq with hq | hq
    · rcases List.mem_cons.mp hq with e | hq
      · rw [e]; exact ⟨_, hv, fun _ z => by cases z⟩
      · exact rth q hq
    · obtain ⟨u, h1, h2⟩ := E.th q hq
      exact ⟨u, ex _ _ h1, h2⟩
  · by_cases ij : i = j
    · subst ij
      have hl : i < Γ.length := by
        have := (List.getElem?_eq_some_iff.mp hj).1
        rw [List.length_set] at this
        exact this
      rw [List.getElem?_set_self hl] at hj
      cases hj
      rw [List.getElem?_set_self (by rw [E.len]; exact hl), if_pos rfl]
      exact ⟨p, as, rfl, rfl, nd, hv, hr⟩
    · rw [List.getElem?_set_ne ij] at hj
      rw [List.getElem?_set_ne ij, if_neg (Ne.symm ij)]
      exact (E.sl j t hj).mut (grow .s (by decide)) (grow .f (by decide)) fun q _ u hu => ex _ _ hu
  · by_cases ij : j = i
    · rw [if_pos ij] at hq
      exact List.mem_append_left _ hq
    · rw [if_neg ij] at hq
      exact List.mem_append_right _ (E.sub j q hq)
  · have ne : ∀ k q, q ∈ p :: as → q ∈ A k → False := fun k q z1 z2 => E.fresh_os (hn q z1) (E.sub k q z2)
    by_cases ij : j = i
    · by_cases ik : k = i
      · rw [ij, ik]
      · rw [if_pos ij] at h1
        rw [if_neg ik] at h2
        exact (ne k q h1 h2).elim
    · by_cases ik : k = i
      · rw [if_neg ij] at h1
        rw [if_pos ik] at h2
        exact (ne j q h2 h1).elim
      · rw [if_neg ij] at h1
        rw [if_neg ik] at h2
        exact E.dis j k q h1 h2
/-- made = [a new list of ints] -/
theorem run_mxNew {ns : List Int} (g : GN K te Γ (dI ns)) (h : P.nx (Γ.set i (.mx [ns]))) : Run K (tAsg (tLst (tCons te tNil)) (gName i)) Γ P := fun H0 gh D σ H ⟨os, A, E⟩ M =>
  g H0 gh os A σ H E _ fun a xs H1 hn e1 ha r1 => ⟨by show 1 ≤ sizeLine; decide, fun p hp => by
    cases r1.ints
    have hpa : p ≠ a := fun z => by rw [z, ha] at hp; cases hp
    refine M.nx _ _ _ h ⟨_, _, E.mx_new (e1.trans (Ex.new hp)) (as := [a]) (rows := [ns]) ?_ (by simp [hpa]) upd_same (.cons (by rw [upd_ne (Ne.symm hpa)]; exact ha) .nil)⟩
    intro q hq
    rcases List.mem_cons.mp hq with e | hq
    · rw [e]; exact fresh_back e1 hp
    · cases List.mem_singleton.mp hq; exact hn⟩
theorem paired_upd {H : Hp} {p : Addr} {o : HO} : ∀ {as : List Addr} {rows : List (List Int)}, Paired (fun a ns => H a = some (.lst (ns.map V.int))) as rows → (∀ a ∈ as, a ≠ p) → Paired (fun a ns => upd H p o a = some (.lst (ns.map V.int))) as rows
  | _, _, .nil, _ => .nil
  | _, _, .cons q t, h => .cons (by rw [upd_ne (h _ (List.mem_cons_self ..))]; exact q) (paired_upd t fun a ha => h a (List.mem_cons_of_mem _ ha))
theorem Paired.snoc {α β : Type} {F : α → β → Prop} {a : α} {b : β} : ∀ {l : List α} {l' : List β}, Paired F l l' → F a b → Paired F (l ++ [a]) (l' ++ [b])
  | _, _, .nil, h => .cons h .nil
  | _, _, .cons q t, h => .cons q (Paired.snoc t h)
/-- made.append(row) -/
theorem run_mxApp {j : Nat} {rows : List (List Int)} {ns : List Int} (hi : Γ[i]? = some (.mx rows)) (hj : Γ[j]? = some (.own (dI ns))) (hl : rows.length < 100000) (h : P.nx ((Γ.set j .no).set i (.mx (rows ++ [ns])))) : Run K (tDrop (tBM K "list" rAppend (tVar i) (tCons (tVar j) tNil))) Γ P := fun H0 gh D σ H ⟨os, A, E⟩ M => by
  obtain ⟨p, as, h1, h2, h3, h4, h5⟩ := mx_at E hi
  obtain ⟨q, vs, k1, k2, k3, k4⟩ := own_at E hj
  cases k4.ints
  have ij : i ≠ j := fun z => by rw [z] at hi; rw [hi] at hj; cases hj
  have hil : i < Γ.length := (List.getElem?_eq_some_iff.mp hi).1
  have pin : p ∈ os := E.sub i p (by rw [h2]; exact List.mem_cons_self ..)
  have qno : q ∉ p :: as := fun z => ij (E.dis i j q (by rw [h2]; exact z) (by rw [k2]; exact List.mem_singleton.mpr rfl))
  have hlen : ∀ {l : List Addr} {r : List (List Int)}, Paired (fun a ns => H a = some (.lst (ns.map V.int))) l r → l.length = r.length := fun h => Paired.length h
  refine ⟨_, h1, .inl ⟨rfl, _, .of h4⟩, _, k1, p, _, .ref q, rfl, rfl, h4, Evl.sz_lt (by rw [List.length_map, hlen h5]; exact hl), ?_⟩
  have pas : ∀ a ∈ as, a ≠ p := fun a ha z => by rw [z] at ha; exact (List.nodup_cons.mp h3).1 ha
  refine M.nx _ _ _ h ⟨os, fun z => if z = j then [] else if z = i then p :: (as ++ [q]) else A z, ⟨Evl.Ex.mut E.ex (E.fr p pin), E.fr, fun z hz => ?_, by rw [List.length_set, List.length_set, E.len], fun z t hz => ?_, fun z r hr => ?_, fun z1 z2 r r1 r2 => ?_, fun g hg => by rw [hp_upd pin (by decide)]; exact E.gh g hg⟩⟩
  · by_cases e : z = p
    · rw [e]; exact ⟨_, upd_same, fun _ w => by cases w⟩
    · obtain ⟨u, u1, u2⟩ := E.th z hz
      exact ⟨u, by rw [upd_ne e]; exact u1, u2⟩
  · by_cases iz : i = z
    · subst iz
      rw [List.getElem?_set_self (by rw [List.length_set]; exact hil)] at hz
      cases hz
      rw [if_neg ij, if_pos rfl]
      refine ⟨p, as ++ [q], h1, rfl, ?_, by rw [upd_same, List.map_append]; rfl, Paired.snoc (l := as) ?_ (by rw [upd_ne (fun w => qno (by rw [w]; exact List.mem_cons_self ..))]; exact k3)⟩
      · have : (p :: (as ++ [q])) = (p :: as) ++ [q] := rfl
        rw [this, List.nodup_append]
        exact ⟨h3, by simp, fun a ha b hb w => qno (by cases List.mem_singleton.mp hb; rw [← w]; exact ha)⟩
      · exact paired_upd h5 pas
    · rw [List.getElem?_set_ne iz] at hz
      by_cases jz : j = z
      · subst jz
        rw [List.getElem?_set_self (List.getElem?_eq_some_iff.mp hj).1] at hz
        cases hz
        trivial
      · rw [List.getElem?_set_ne jz] at hz
        rw [if_neg (Ne.symm jz), if_neg (Ne.symm iz)]
        refine (E.sl z t hz).mut (by rw [hp_upd pin (by decide)]; exact Ex.refl _) (by rw [hp_upd pin (by decide)]; exact Ex.refl _) fun r hr u hu => ?_
        have : r ≠ p := fun w => iz (E.dis i z p (by rw [h2]; exact List.mem_cons_self ..) (by rw [← w]; exact hr))
        rw [upd_ne this]
        exact hu
  · by_cases jz : z = j
    · rw [if_pos jz] at hr; cases hr
    · rw [if_neg jz] at hr
      by_cases iz : z = i
      · rw [if_pos iz] at hr
        rcases List.mem_cons.mp hr with e | hr
        · rw [e]; exact pin
        · rcases List.mem_append.mp hr with hr | hr
          · exact E.sub i r (by rw [h2]; exact List.mem_cons_of_mem _ hr)
          · cases List.mem_singleton.mp hr
            exact E.sub j q (by rw [k2]; exact List.mem_singleton.mpr rfl)
      · rw [if_neg iz] at hr
        exact E.sub z r hr
  · have own : ∀ z r, r ∈ (if z = j then [] else if z = i then p :: (as ++ [q]) else A z) → z ≠ j ∧ ((z = i ∧ (r ∈ A i ∨ r ∈ A j)) ∨ (z ≠ i ∧ r ∈ A z)) := fun z r hr => by
      by_cases jz : z = j
      · rw [if_pos jz] at hr; cases hr
      · rw [if_neg jz] at hr
        refine ⟨jz, ?_⟩
        by_cases iz : z = i
        · rw [if_pos iz] at hr
          refine .inl ⟨iz, ?_⟩
          rcases List.mem_cons.mp hr with e | hr
          · exact .inl (by rw [e, h2]; exact List.mem_cons_self ..)
          · rcases List.mem_append.mp hr with hr | hr
            · exact .inl (by rw [h2]; exact List.mem_cons_of_mem _ hr)
            · cases List.mem_singleton.mp hr
              exact .inr (by rw [k2]; exact List.mem_singleton.mpr rfl)
        · rw [if_neg iz] at hr
          exact .inr ⟨iz, hr⟩
    obtain ⟨a1, a2⟩ := own z1 r r1
    obtain ⟨b1, b2⟩ := own z2 r r2
    rcases a2 with ⟨a2, a3⟩ | ⟨a2, a3⟩
    · rcases b2 with ⟨b2, b3⟩ | ⟨b2, b3⟩
      · rw [a2, b2]
      · rcases a3 with a3 | a3
        · exact absurd (E.dis z2 i r b3 a3) b2
        · exact absurd (E.dis z2 j r b3 a3) b1
    · rcases b2 with ⟨b2, b3⟩ | ⟨b2, b3⟩
      · rcases b3 with b3 | b3
        · exact absurd (E.dis z1 i r a3 b3) a2
        · exact absurd (E.dis z1 j r a3 b3) a1
      · exact E.dis z1 z2 r a3 b3
theorem run_mxRet {rows : List (List Int)} (hi : Γ[i]? = some (.mx rows)) (h : P.rm (.rows rows)) : Run K (tRet (tVar i)) Γ P := fun H0 gh D σ H ⟨os, A, E⟩ M => by
  obtain ⟨p, as, h1, h2, h3, h4, h5⟩ := mx_at E hi
  exact ⟨_, h1, M.rm (.rows rows) _ H h E.ex ⟨p, rfl, as, fun a ha => E.fr a (E.sub i a (by rw [h2]; exact ha)), h3, h4, h5⟩⟩
/-- a def that hands out new rows -/
def spM (K : PySem.W.Frag) (R : List Dt → List (List Int) → Prop) : Sp := fun vs H Q _ => ∃ ds rows, RpA K H vs ds ∧ R ds rows ∧ ∀ p H', Ex H H' → MxAt H H' p rows → Q (.ref p) H'
theorem run_callM {R : List Dt → List (List Int) → Prop} {Er : XK} {tr : TA} {rows : List (List Int)} (h : GA K .r tr Γ ds) (hr : R ds rows) (hn : P.nx (Γ.set i (.mx rows))) : Run K (tAsg (tCall (spM K R) [] Er tr) (gName i)) Γ P := fun H0 gh D σ H ⟨os, A, E⟩ M =>
  h H0 gh os A σ H E _ fun vs H1 e1 r1 => by
    rw [List.append_nil]
    refine ⟨ds, rows, r1, hr, fun p H2 e2 r2 => ?_⟩
    obtain ⟨as, q1, q2, q3, q4⟩ := r2
    exact M.nx _ _ _ hn ⟨_, _, (E.up e1).mx_new e2 q1 q2 q3 q4⟩
theorem spM_D {R : List Dt → List (List Int) → Prop} {R' : List Dt → Dt → Prop} (h : ∀ ds x, R' ds x → ∃ rows, R ds rows ∧ x = .lst (rows.map fun r => .lst (dI r))) {vs : List V} {H : Hp} {Q : VK} {E : XK} (s : spD K R' vs H Q E) : spM K R vs H Q E := by
  obtain ⟨ds, x, r, hr, q⟩ := s
  obtain ⟨rows, h1, rfl⟩ := h ds x hr
  refine ⟨ds, rows, r, h1, fun p H' e w => q _ _ e ?_⟩
  obtain ⟨as, w1, w2, w3, w4⟩ := w
  refine .lst (.of (nw_some.mpr ⟨w1 p (by simp), w3⟩)) ?_
  have wa : ∀ a ∈ as, H a = none := fun a ha => w1 a (List.mem_cons_of_mem _ ha)
  clear w1 w2 w3 q hr h1
  induction w4 with
  | nil => exact .nil
  | cons u t ih => exact .cons (.lst (.of (nw_some.mpr ⟨wa _ (by simp), u⟩)) (.of_ints _)) (ih fun a ha => wa a (List.mem_cons_of_mem _ ha))
/-! ### loops -/
theorem run_for {wi : TI} {g : TG} (hi : GI K wi Γ xs) (I : Nat → Ga) (h0 : Le Γ (I 0))
    (hs : ∀ (n : Nat) x, xs[n]? = some x → ∃ Γ' ts, GG K g x (I n) Γ' ts ∧ Run K tb Γ' { nx := fun Γ'' => Le Γ'' (I (n + 1)), rt := P.rt, bk := P.nx, ct := fun Γ'' => Le Γ'' (I (n + 1)), rm := P.rm }) (hd : P.nx (I xs.length)) : Run K (tFor wi g tb) Γ P := fun H0 gh D σ H ⟨os, A, E⟩ M =>
  hi H0 gh os A σ H E _ fun J gs H1 e1 hgs W => by
    have E1 : Env K H0 (gs ++ gh) Γ σ H1 := ⟨os, A, let E1 := E.up e1; ⟨E1.ex, E1.fr, E1.th, E1.len, E1.sl, E1.sub, E1.dis, fun g hg => (List.mem_append.mp hg).elim (fun z => hgs g z) (E1.gh g)⟩⟩
    refine for_it W (fun i σ' H' => Env K H0 (gs ++ gh) (I i) σ' H') (E1.le h0) (fun i σ' H' _ ⟨os', A', E'⟩ g hg => (E'.gh g (List.mem_append_left _ hg)).up ex_mnu) (fun i v σ' H2 H3 hlt p y => ?_) (fun σ' H' p => M.nx _ _ _ hd p.drop)
    obtain ⟨os', A', E'⟩ := p
    obtain ⟨y1, y2⟩ := y
    obtain ⟨xd, hx, rx⟩ := y2 os' E'.th fun g hg => E'.gh g (List.mem_append_left _ hg)
    obtain ⟨Γ', ts, g1, g2⟩ := hs i xd hx
    refine g1 H0 (gs ++ gh) os' A' σ' H3 v (E'.up y1) rx _ fun A2 σ2 E2 _ _ => ?_
    exact g2 H0 (gs ++ gh) _ σ2 H3 ⟨os', A2, E2⟩ ⟨fun Γ'' σ'' H'' le E'' => E''.le le, fun x v H h => M.rt x v H h, fun Γ'' σ'' H'' h E'' => M.nx _ _ _ h E''.drop, fun Γ'' σ'' H'' le E'' => E''.le le, fun r q H h => M.rm r q H h⟩
theorem run_while (W : Nat → Ga → Prop) (m0 : Nat) (h0 : W m0 Γ)
    (hs : ∀ m Γ', W m Γ' → ∃ b, GT K tt Γ' b ∧ (b = true → Run K tb Γ' { nx := fun Γ'' => ∃ m', m' < m ∧ W m' Γ'', rt := P.rt, bk := P.nx, ct := fun Γ'' => ∃ m', m' < m ∧ W m' Γ'', rm := P.rm }) ∧ (b = false → P.nx Γ')) : Run K (tWhile tt tb) Γ P := fun H0 gh D σ H E M => by
  refine ⟨fun m σ' H' => ∃ Γ', W m Γ' ∧ Env K H0 gh Γ' σ' H', ⟨m0, Γ, h0, E⟩, fun m σ' H' ⟨Γ', w, os, A, E'⟩ => ?_⟩
  obtain ⟨b, h1, h2, h3⟩ := hs m Γ' w
  refine h1 H0 gh os A σ' H' E' _ fun H1 e1 => ?_
  cases b with
  | true =>
    refine iteT ⟨fun σ2 H2 => ∃ m', m' < m ∧ ∃ Γ', W m' Γ' ∧ Env K H0 gh Γ' σ2 H2, fun σ2 H2 h => h, ?_⟩
    exact h2 rfl H0 gh _ σ' H1 ⟨os, A, E'.up e1⟩ ⟨fun Γ'' σ'' H'' ⟨m', l, w'⟩ E'' => ⟨m', l, Γ'', w', E''⟩, fun x v H h => M.rt x v H h, fun Γ'' σ'' H'' h E'' => M.nx _ _ _ h E'', fun Γ'' σ'' H'' ⟨m', l, w'⟩ E'' => ⟨m', l, Γ'', w', E''⟩, fun r q H h => M.rm r q H h⟩
  | false => exact iteF (M.nx _ _ _ (h3 rfl) ⟨os, A, E'.up e1⟩)
/-! ### a def -/
def entry (N : List Str) (ds : List Dt) : Ga := ds.map Sl.d ++ List.replicate (N.length - ds.length) .no
def ends (x : Dt) : Po := { nx := fun _ => x = .non, rt := fun y => y = x }
theorem entry_env {N : List Str} {vs : List V} {ds : List Dt} {H : Hp} (r : RpA K H vs ds) : EnvA K H [] (entry N ds) [] (fun _ => []) (start N vs) H := by
  have e0 : mnu [] H = H := by
    funext a
    unfold mnu
    rw [if_neg (by simp)]
  have el := r.len
  refine ⟨Ex.refl H, fun p hp => (nomatch hp), fun p hp => (nomatch hp), ?_, fun i s hs => ?_, fun i p hp => (nomatch hp), fun i j p hp => (nomatch hp), fun g hg => (nomatch hg)⟩
  · unfold entry L2.start
    rw [List.length_append, List.length_append, List.length_map, List.length_map, List.length_replicate, List.length_replicate, el]
  · unfold entry at hs
    unfold L2.start
    by_cases hi : i < ds.length
    · rw [List.getElem?_append_left (by rw [List.length_map]; exact hi), List.getElem?_map, List.getElem?_eq_getElem hi] at hs
      have es : Sl.d ds[i] = s := Option.some.inj hs
      rw [← es]
      obtain ⟨v, hv, rv⟩ := r.get (List.getElem?_eq_getElem hi)
      refine ⟨v, ?_, ?_⟩
      · rw [List.getElem?_append_left (by rw [List.length_map, el]; exact hi), List.getElem?_map, hv]
        rfl
      · show Rp K (mnu [] H) v _
        rw [e0]
        exact rv
    · rw [List.getElem?_append_right (by rw [List.length_map]; omega)] at hs
      have es : s = .no := (List.mem_replicate.mp (List.mem_of_getElem? hs)).2
      rw [es]
      trivial
theorem enter {R : List Dt → Dt → Prop} {N : List Str} {vs : List V} {H : Hp} {Q : VK} {E : XK} (h : spD K R vs H Q E) (hr : ∀ ds x, R ds x → Run K t (entry N ds) (ends x)) : t { nx := fun _ H' => Q .non H', rt := Q } (start N vs) H := by
  obtain ⟨ds, x, r, hR, q⟩ := h
  refine hr ds x hR H [] _ _ H ⟨[], _, entry_env r⟩ ⟨fun Γ σ H' hx ⟨os, A, E'⟩ => ?_, fun y v H' hy e rv => ?_, fun _ _ _ z => (nomatch z), fun _ _ _ z => (nomatch z), fun _ _ _ z => (nomatch z)⟩
  · have ex : x = .non := hx
    exact q .non H' E'.ex (by rw [ex]; exact .non)
  · have ey : y = x := hy
    rw [ey] at rv
    exact q v H' e rv
theorem enterM {R : List Dt → List (List Int) → Prop} {N : List Str} {vs : List V} {H : Hp} {Q : VK} {E : XK} (h : spM K R vs H Q E) (hr : ∀ ds rows, R ds rows → Run K t (entry N ds) { nx := fun _ => False, rt := fun _ => False, rm := fun r => r = .rows rows }) : t { nx := fun _ H' => Q .non H', rt := Q } (start N vs) H := by
  obtain ⟨ds, rows, r, hR, q⟩ := h
  refine hr ds rows hR H [] _ _ H ⟨[], _, entry_env r⟩ ⟨fun _ _ _ z => (nomatch z), fun _ _ _ z => (nomatch z), fun _ _ _ z => (nomatch z), fun _ _ _ z => (nomatch z), fun rs p H' e e2 m => ?_⟩
  have er : rs = .rows rows := e
  rw [er] at m
  obtain ⟨p', rfl, m⟩ := m
  exact q p' H' e2 m
/-- a def that hands out things of its own -/
def spR (K : PySem.W.Frag) (R : List Dt → Rm → Prop) : Sp := fun vs H Q _ => ∃ ds r, RpA K H vs ds ∧ R ds r ∧ ∀ v H', Ex H H' → RmAt K H H' v r → Q v H'
theorem enterR {R : List Dt → Rm → Prop} {N : List Str} {vs : List V} {H : Hp} {Q : VK} {E : XK} (h : spR K R vs H Q E) (hr : ∀ ds r, R ds r → Run K t (entry N ds) { nx := fun _ => False, rt := fun _ => False, rm := fun r' => r' = r }) : t { nx := fun _ H' => Q .non H', rt := Q } (start N vs) H := by
  obtain ⟨ds, rm, r, hR, q⟩ := h
  refine hr ds rm hR H [] _ _ H ⟨[], _, entry_env r⟩ ⟨fun _ _ _ z => (nomatch z), fun _ _ _ z => (nomatch z), fun _ _ _ z => (nomatch z), fun _ _ _ z => (nomatch z), fun rs v H' e e2 m => ?_⟩
  have er : rs = rm := e
  rw [er] at m
  exact q v H' e2 m
end
section
variable {Pg : Program} {w : World} {K : PySem.W.Frag} {mg : Str → Option Value} {base : Heap}
theorem of_data {R : List Dt → Dt → Prop} {x : Str} {params : Arguments} {body : List Stmt} {scope : Scope} {f : Addr} {fd : FuncData} {N ps : List Str} {k : Nat} (F : FunD K x x params body scope [] [] f fd) (S : FnScope N ps scope) (hl : ∀ ds y, R ds y → ds.length = ps.length)
    (hb : ∀ (cdv : Value) (A : Around) (outer : List PySem.Env) (s : Shared) (H : Hp) (E : XK), Room k (A.deeper (envOfC x scope s.heap.objs.size f cdv)) →
      ∃ t, PSs (cxOf CX0 Pg w K mg base N x scope f cdv A outer s H E).nox body t ∧ ∀ ds y, R ds y → Run K t (entry N ds) (ends y)) : FnOk Pg w K mg base CX0 (k + 1) f fd ps (spD K R) := by
  refine F.ok S (fun vs H Q E h => ?_) (fun cdv A outer s H vs Q E hr h => ?_)
  · obtain ⟨ds, y, r, hR, _⟩ := h
    rw [r.len, hl ds y hR]
  · obtain ⟨t, d, hrun⟩ := hb cdv A outer s H E hr
    exact ⟨t, PSs.nox d, enter h hrun⟩
theorem of_dataM {R : List Dt → List (List Int) → Prop} {x : Str} {params : Arguments} {body : List Stmt} {scope : Scope} {f : Addr} {fd : FuncData} {N ps : List Str} {k : Nat} (F : FunD K x x params body scope [] [] f fd) (S : FnScope N ps scope) (hl : ∀ ds y, R ds y → ds.length = ps.length)
    (hb : ∀ (cdv : Value) (A : Around) (outer : List PySem.Env) (s : Shared) (H : Hp) (E : XK), Room k (A.deeper (envOfC x scope s.heap.objs.size f cdv)) →
      ∃ t, PSs (cxOf CX0 Pg w K mg base N x scope f cdv A outer s H E).nox body t ∧ ∀ ds rows, R ds rows → Run K t (entry N ds) { nx := fun _ => False, rt := fun _ => False, rm := fun r => r = .rows rows }) : FnOk Pg w K mg base CX0 (k + 1) f fd ps (spM K R) := by
  refine F.ok S (fun vs H Q E h => ?_) (fun cdv A outer s H vs Q E hr h => ?_)
  · obtain ⟨ds, y, r, hR, _⟩ := h
    rw [r.len, hl ds y hR]
  · obtain ⟨t, d, hrun⟩ := hb cdv A outer s H E hr
    exact ⟨t, PSs.nox d, enterM h hrun⟩
theorem of_dataR {R : List Dt → Rm → Prop} {x : Str} {params : Arguments} {body : List Stmt} {scope : Scope} {f : Addr} {fd : FuncData} {N ps : List Str} {k : Nat} (F : FunD K x x params body scope [] [] f fd) (S : FnScope N ps scope) (hl : ∀ ds y, R ds y → ds.length = ps.length)
    (hb : ∀ (cdv : Value) (A : Around) (outer : List PySem.Env) (s : Shared) (H : Hp) (E : XK), Room k (A.deeper (envOfC x scope s.heap.objs.size f cdv)) →
      ∃ t, PSs (cxOf CX0 Pg w K mg base N x scope f cdv A outer s H E).nox body t ∧ ∀ ds rows, R ds rows → Run K t (entry N ds) { nx := fun _ => False, rt := fun _ => False, rm := fun r => r = rows }) : FnOk Pg w K mg base CX0 (k + 1) f fd ps (spR K R) := by
  refine F.ok S (fun vs H Q E h => ?_) (fun cdv A outer s H vs Q E hr h => ?_)
  · obtain ⟨ds, y, r, hR, _⟩ := h
    rw [r.len, hl ds y hR]
  · obtain ⟨t, d, hrun⟩ := hb cdv A outer s H E hr
    exact ⟨t, PSs.nox d, enterR h hrun⟩
end
end GY
end
section
set_option Elab.async false
set_option linter.all false
set_option maxRecDepth 100000
set_option maxHeartbeats 4000000
/-! a def as one thing for its callers -/
namespace GY
open PySem PySem.Spec PyProof.Rows L2
open Evl (Ex fresh_back)

/-- where a def stands -/
def Fs (K : PySem.W.Frag) (mg : Str → Option Value) (x : Str) (st : Stmt) : Prop := ∃ a fd, FnP K x st a fd ∧ mg x = some (.ref a)
/-- the module's other names -/
structure Tx (mg : Str → Option Value) : Prop where
  len : mg "len" = none
  range : mg "range" = none
  list : mg "list" = none
  isinstance : mg "isinstance" = none
  int : mg "int" = none
  enumerate : mg "enumerate" = none
  str : mg "str" = none
  zip : mg "zip" = none
  bool : mg "bool" = none
  tuple : mg "tuple" = none
  sum : mg "sum" = none
  min : mg "min" = none
  max : mg "max" = none
  abs : mg "abs" = none
  MOST : ∃ t, mg "MOST" = some (.int 12 t)
  MOST_SIZE_arrows : ∃ t, mg "MOST_SIZE_arrows" = some (.int 12 t)
  MOST_SIZE_texts : ∃ t, mg "MOST_SIZE_texts" = some (.int 12 t)
  MOST_HEIGHT : ∃ t, mg "MOST_HEIGHT" = some (.int 24 t)
  LIGHT : ∃ t, mg "LIGHT" = some (.str "light" t)
  DARK : ∃ t, mg "DARK" = some (.str "dark" t)
  FIGURES : ∃ t, mg "FIGURES" = some (.str "0123456789" t)
/-- a def that keeps its promise, for its callers -/
def CallS (Pg : Program) (w : World) (K : PySem.W.Frag) (mg : Str → Option Value) (base : Heap) (k : Nat) (x : Str) (ps : List Str) (sp : Sp) : Prop :=
  ∃ a fd, FnOk Pg w K mg base CX0 k a fd ps sp ∧ mg x = some (.ref a) ∧ PySem.W.keepIn K (.ref a) = true ∧ Binds K fd ps []
abbrev CallD (Pg : Program) (w : World) (K : PySem.W.Frag) (mg : Str → Option Value) (base : Heap) (k : Nat) (x : Str) (ps : List Str) (R : List Dt → Dt → Prop) : Prop := CallS Pg w K mg base k x ps (spD K R)
section
variable {X : Cx} {e : Expr} {es : List Expr} {t : TA} {k : Nat} {x : Str} {ps : List Str} {sp : Sp} {p pos : Pos}
theorem pe_callD (c : CallS X.prog X.w X.K X.mg X.base k x ps sp) (hr : Room k X.A) (hg : Gl X x) (ha : PA X (e :: es) t) (hdb : (x == ("__debug__" : Str)) = false := by decide) (he : starEach (e :: es) X.env = (false, eval e X.env) :: starEach es X.env := by rfl)
    (hpl : (backTo pos (starEach es X.env)).any (·.1) = false := by rfl) : PE X (.Call (.Name x p) (e :: es) [] pos) (tCall sp [] E0 t) := by
  obtain ⟨a, fd, F, hm, hk, hb⟩ := c
  exact pe_call F hr hg hm hk hb .nil pass0 ha hdb he hpl
end
/-! ### rules whose reading names the written part (within a comprehension it must not name the block) -/
section
variable {X : Cx} (K : PySem.W.Frag)
theorem ix_listK (h : X.K = K := by rfl) : IxR X (rIxL K) := h ▸ ix_list
theorem ix_tupK (h : X.K = K := by rfl) : IxR X (rIxT K) := h ▸ ix_tup
theorem op_inK (h : X.K = K := by rfl) : OpR X (compareOp .In) (rIn K false) := h ▸ op_in_seq
theorem op_niK (h : X.K = K := by rfl) : OpR X (compareOp .NotIn) (rIn K true) := h ▸ op_notIn_seq
theorem call_lenK (h : X.K = K := by rfl) : CallR X (.builtin "len") (rLenL K) := h ▸ call_len_seq
theorem pg_tupK {es : List Expr} {k : Nat} {pos : Pos} {t : TGs} {n : Nat} (hc : X.calm = true) (h : PGs X es t) (hK : X.K = K := by rfl)
    (hn : (assignEach es X.env).length = n := by rfl) (hst : (assignEach es X.env).findIdx? (·.1) = none := by rfl) : PG X (.Tuple es k pos) (gTup K n t) := hK ▸ pg_tup hc h hn hst
theorem pi_listK {tg l : Expr} {tl : TE} (h : PE X l tl) (hK : X.K = K := by rfl) : PI X tg l (iList K tl) := hK ▸ pi_list h
theorem pe_joinK {o e : Expr} {to te : TE} {apos pos : Pos} (ho : PE X o to) (he : PE X e te) (hK : X.K = K := by rfl) (hs : starEach [e] X.env = [(false, eval e X.env)] := by rfl)
    (hbase : attributeBase o "join" X.env (eval o X.env) = eval o X.env := by rfl) (hline : (apos.endLine == pos.line) = true := by rfl) : PE X (.Call (.Attribute o "join" apos) [e] [] pos) (tM1 (rJoin K) to te) := hK ▸ pe_join ho he hs hbase hline
theorem pi_enumK {e : Expr} {ta : TA} {p pos tpos : Pos} {elts : List Expr} {kk : Nat} (hg : Gl X "enumerate") (hm : X.mg "enumerate" = none) (ha : PA X [e] ta) (hK : X.K = K := by rfl) (hs : starEach [e] X.env = [(false, eval e X.env)] := by rfl) :
    PI X (.Tuple elts kk tpos) (.Call (.Name "enumerate" p) [e] [] pos) (iEnum K ta) := hK ▸ pi_enum hg hm ha hs
end
/-! ### numbers that index -/
section
variable {α : Type}
theorem atI_map {n : Nat} {f : Int → α} {i : Int} (h0 : 0 ≤ i) (h1 : i < n) : L2.atI ((List.range n).map fun z => f (z : Nat)) i = some (f i) := by
  obtain ⟨k, rfl⟩ := Int.eq_ofNat_of_zero_le h0
  refine atI_nat ?_
  rw [List.getElem?_map, List.getElem?_range (by omega)]
  rfl
end
/-- a row, a table of numbers -/
def dRow (m : Nat) (g : Int → Int) : List Dt := (List.range m).map fun j => .int (g (j : Nat))
def dM (n m : Nat) (f : Int → Int → Int) : List Dt := (List.range n).map fun i => .lst (dRow m (f (i : Nat)))
theorem dRow_len {m : Nat} {g : Int → Int} : (dRow m g).length = m := by unfold dRow; rw [List.length_map, List.length_range]
theorem dM_len {n m : Nat} {f : Int → Int → Int} : (dM n m f).length = n := by unfold dM; rw [List.length_map, List.length_range]
theorem at_row {m : Nat} {g : Int → Int} {i : Int} (h0 : 0 ≤ i) (h1 : i < m) : L2.atI (dRow m g) i = some (.int (g i)) := atI_map (f := fun i => Dt.int (g i)) h0 h1
theorem at_M {n m : Nat} {f : Int → Int → Int} {i : Int} (h0 : 0 ≤ i) (h1 : i < n) : L2.atI (dM n m f) i = some (.lst (dRow m (f i))) := atI_map (f := fun i => Dt.lst (dRow m (f i))) h0 h1
theorem dRow_succ {m : Nat} {g : Int → Int} : dRow (m + 1) g = dRow m g ++ [.int (g (m : Nat))] := by unfold dRow; rw [List.range_succ, List.map_append]; rfl
theorem dM_succ {n m : Nat} {f : Int → Int → Int} : dM (n + 1) m f = dM n m f ++ [.lst (dRow m (f (n : Nat)))] := by unfold dM; rw [List.range_succ, List.map_append]; rfl
theorem dRow_ext {m : Nat} {g g' : Int → Int} (h : ∀ i : Int, 0 ≤ i → i < m → g i = g' i) : dRow m g = dRow m g' := List.map_congr_left fun j hj => by
  have := List.mem_range.mp hj
  rw [h (j : Nat) (by omega) (by omega)]
theorem dM_ext {n m : Nat} {f f' : Int → Int → Int} (h : ∀ i j : Int, 0 ≤ i → i < n → 0 ≤ j → j < m → f i j = f' i j) : dM n m f = dM n m f' := List.map_congr_left fun i hi => by
  have := List.mem_range.mp hi
  rw [dRow_ext fun j h0 h1 => h (i : Nat) j (by omega) (by omega) h0 h1]
theorem dRow_ints {m : Nat} {g : Int → Int} : dRow m g = dI ((List.range m).map fun j => g (j : Nat)) := by unfold dRow dI; rw [List.map_map]; rfl
theorem get_row {m : Nat} {g : Int → Int} {z : Nat} {x : Dt} (h : (dRow m g)[z]? = some x) : z < m ∧ x = .int (g (z : Nat)) := by
  have hz : z < m := by have := (List.getElem?_eq_some_iff.mp h).1; rw [dRow_len] at this; exact this
  refine ⟨hz, ?_⟩
  unfold dRow at h
  rw [List.getElem?_map, List.getElem?_range hz] at h
  exact (Option.some.inj h).symm
theorem get_M {n m : Nat} {f : Int → Int → Int} {z : Nat} {x : Dt} (h : (dM n m f)[z]? = some x) : z < n ∧ x = .lst (dRow m (f (z : Nat))) := by
  have hz : z < n := by have := (List.getElem?_eq_some_iff.mp h).1; rw [dM_len] at this; exact this
  refine ⟨hz, ?_⟩
  unfold dM at h
  rw [List.getElem?_map, List.getElem?_range hz] at h
  exact (Option.some.inj h).symm
/-- a turn over lo, lo + 1, .. -/
theorem get_rg {lo : Int} {n z : Nat} {x : Dt} (h : (rgD lo 1 n)[z]? = some x) : z < n ∧ x = .int (lo + (z : Nat)) := by
  have hz : z < n := by have := (List.getElem?_eq_some_iff.mp h).1; rw [rgD_len] at this; exact this
  refine ⟨hz, ?_⟩
  rw [rgD_get hz, Int.mul_one] at h
  exact (Option.some.inj h).symm
theorem get_rg0 {n z : Nat} {x : Dt} (h : (rgD 0 1 n)[z]? = some x) : z < n ∧ x = .int (z : Nat) := by
  obtain ⟨h1, h2⟩ := get_rg h
  rw [Int.zero_add] at h2
  exact ⟨h1, h2⟩
theorem get_rgC {lo c : Int} {n z : Nat} {x : Dt} (h : (rgD lo c n)[z]? = some x) : z < n ∧ x = .int (lo + (z : Nat) * c) := by
  have hz : z < n := by have := (List.getElem?_eq_some_iff.mp h).1; rw [rgD_len] at this; exact this
  refine ⟨hz, ?_⟩
  rw [rgD_get hz] at h
  exact (Option.some.inj h).symm
theorem get_enum {xs : List Dt} {z : Nat} {x : Dt} (h : (enumD xs)[z]? = some x) : ∃ y, xs[z]? = some y ∧ x = .tup [.int (z : Nat), y] := by
  have hz : z < xs.length := by
    have := (List.getElem?_eq_some_iff.mp h).1
    unfold enumD at this
    rw [List.length_map, List.length_range] at this
    exact this
  refine ⟨xs[z], List.getElem?_eq_getElem hz, ?_⟩
  rw [enumD_get (List.getElem?_eq_getElem hz)] at h
  exact (Option.some.inj h).symm
theorem get_zip {xs ys : List Dt} {z : Nat} {x : Dt} (h : (zipD xs ys)[z]? = some x) : ∃ a b, xs[z]? = some a ∧ ys[z]? = some b ∧ x = .tup [a, b] := by
  have hz : z < min xs.length ys.length := by
    have := (List.getElem?_eq_some_iff.mp h).1
    unfold zipD at this
    rw [List.length_map, List.length_range] at this
    exact this
  have h1 := List.getElem?_eq_getElem (show z < xs.length by omega)
  have h2 := List.getElem?_eq_getElem (show z < ys.length by omega)
  refine ⟨_, _, h1, h2, ?_⟩
  rw [zipD_get h1 h2] at h
  exact (Option.some.inj h).symm
theorem enumD_len {xs : List Dt} : (enumD xs).length = xs.length := by unfold enumD; rw [List.length_map, List.length_range]
theorem zipD_len {xs ys : List Dt} : (zipD xs ys).length = min xs.length ys.length := by unfold zipD; rw [List.length_map, List.length_range]
def rowI (m : Nat) (g : Int → Int) : List Int := (List.range m).map fun j => g (j : Nat)
def rowsI (n m : Nat) (f : Int → Int → Int) : List (List Int) := (List.range n).map fun i => rowI m (f (i : Nat))
theorem dRow_rowI {m : Nat} {g : Int → Int} : dRow m g = dI (rowI m g) := dRow_ints
theorem rowI_succ {m : Nat} {g : Int → Int} : rowI (m + 1) g = rowI m g ++ [g (m : Nat)] := by unfold rowI; rw [List.range_succ, List.map_append]; rfl
theorem rowsI_succ {n m : Nat} {f : Int → Int → Int} : rowsI (n + 1) m f = rowsI n m f ++ [rowI m (f (n : Nat))] := by unfold rowsI; rw [List.range_succ, List.map_append]; rfl
theorem rowsI_len {n m : Nat} {f : Int → Int → Int} : (rowsI n m f).length = n := by unfold rowsI; rw [List.length_map, List.length_range]
theorem rowI_len {m : Nat} {g : Int → Int} : (rowI m g).length = m := by unfold rowI; rw [List.length_map, List.length_range]
theorem rowsI_dM {n m : Nat} {f : Int → Int → Int} : ((rowsI n m f).map fun r => Dt.lst (dI r)) = dM n m f := by
  unfold rowsI dM
  rw [List.map_map]
  exact List.map_congr_left fun i _ => congrArg Dt.lst dRow_rowI.symm
theorem dI_snoc {m : Nat} {g : Int → Int} {y : Int} (h : y = g (m : Nat)) : dI (rowI m g) ++ [.int y] = dI (rowI (m + 1) g) := by
  rw [rowI_succ, h]
  unfold dI
  rw [List.map_append]
  rfl
theorem rowsI_snoc {n m : Nat} {f : Int → Int → Int} {r : List Int} (h : r = rowI m (f (n : Nat))) : rowsI n m f ++ [r] = rowsI (n + 1) m f := by rw [rowsI_succ, h]
theorem dRow_snoc {m : Nat} {g : Int → Int} {y : Int} (h : y = g (m : Nat)) : dRow m g ++ [.int y] = dRow (m + 1) g := by rw [dRow_succ, h]
theorem dM_snoc {n m : Nat} {f : Int → Int → Int} {g : Int → Int} (h : dRow m g = dRow m (f (n : Nat))) : dM n m f ++ [.lst (dRow m g)] = dM (n + 1) m f := by rw [dM_succ, h]
theorem dRow_set {m u : Nat} {g : Int → Int} {y : Int} : (dRow m g).set u (.int y) = dRow m (fun j => if j = (u : Nat) then y else g j) := by
  refine List.ext_getElem? fun k => ?_
  unfold dRow
  by_cases hk : k < m
  · by_cases e : u = k
    · subst e
      rw [List.getElem?_set_self (by rw [List.length_map, List.length_range]; exact hk), List.getElem?_map, List.getElem?_range hk]
      show some (Dt.int y) = some (Dt.int (if ((u : Nat) : Int) = (u : Nat) then y else g (u : Nat)))
      rw [if_pos rfl]
    · rw [List.getElem?_set_ne e, List.getElem?_map, List.getElem?_map, List.getElem?_range hk]
      show some (Dt.int (g (k : Nat))) = some (Dt.int (if ((k : Nat) : Int) = (u : Nat) then y else g (k : Nat)))
      rw [if_neg (by omega)]
  · rw [List.getElem?_eq_none (by rw [List.length_set, List.length_map, List.length_range]; omega), List.getElem?_eq_none (by rw [List.length_map, List.length_range]; omega)]
theorem dRow_const {m : Nat} {y : Int} : (List.range m).map (fun _ => Dt.int y) = dRow m (fun _ => y) := rfl
/-- ways joined -/
theorem run_mid {K : PySem.W.Frag} {Γ : Ga} {P : Po} {t u : TS} (Γm : Ga) (h : Run K t Γ { P with nx := fun Γ' => Le Γ' Γm }) (g : Run K u Γm P) : Run K (tSeq t u) Γ P :=
  run_seq fun H0 gh D σ H E M => h H0 gh D σ H E (Po.mono M (fun Γ' le => run_le le g) (fun _ z => z) (fun _ z => z) (fun _ z => z) (fun _ z => z))
theorem Le.nil : Le [] [] := trivial
theorem Le.cons {a b : Sl} {as bs : Ga} (h : SLe a b) (g : Le as bs) : Le (a :: as) (b :: bs) := ⟨h, g⟩
theorem g_is' {K : PySem.W.Frag} {m : Md} {Γ : Ga} {te : TE} {x y : Dt} (e : x = y) (h : G K m te Γ x) : G K m te Γ y := e ▸ h
end GY
end
section
set_option linter.all false
/-! states by their heights: plain mathematics -/
namespace GY
/-- heights of a state of size n -/
structure HV (n : Nat) (h : Int → Int → Int) : Prop where
  pos : 1 ≤ n
  le : n ≤ 12
  top : ∀ j : Int, 0 ≤ j → j ≤ n → h 0 j = j
  left : ∀ i : Int, 0 ≤ i → i ≤ n → h i 0 = i
  bot : ∀ j : Int, 0 ≤ j → j ≤ n → h n j = n - j
  rig : ∀ i : Int, 0 ≤ i → i ≤ n → h i n = n - i
  hor : ∀ i j : Int, 0 ≤ i → i ≤ n → 0 ≤ j → j < n → h i (j + 1) = h i j + 1 ∨ h i (j + 1) = h i j - 1
  ver : ∀ i j : Int, 0 ≤ i → i < n → 0 ≤ j → j ≤ n → h (i + 1) j = h i j + 1 ∨ h (i + 1) j = h i j - 1
/-- the sign at a place -/
def sgn (h : Int → Int → Int) (r c : Int) : Int := (h r (c + 1) + h (r + 1) c - h r c - h (r + 1) (c + 1)) / 2
/-- the sums of a row, a column up to a place -/
def rsum (h : Int → Int → Int) (r j : Int) : Int := (h r j - h (r + 1) j + 1) / 2
def csum (h : Int → Int → Int) (i c : Int) : Int := (h i c - h i (c + 1) + 1) / 2
section
variable {n : Nat} {h : Int → Int → Int}
theorem HV.sgn2 (v : HV n h) {r c : Int} (h0 : 0 ≤ r) (h1 : r < n) (h2 : 0 ≤ c) (h3 : c < n) : 2 * sgn h r c = h r (c + 1) + h (r + 1) c - h r c - h (r + 1) (c + 1) := by
  have a := v.hor r c h0 (by omega) h2 h3
  have b := v.hor (r + 1) c (by omega) (by omega) h2 h3
  unfold sgn
  omega
theorem HV.rsum2 (v : HV n h) {r j : Int} (h0 : 0 ≤ r) (h1 : r < n) (h2 : 0 ≤ j) (h3 : j ≤ n) : 2 * rsum h r j = h r j - h (r + 1) j + 1 := by
  have a := v.ver r j h0 h1 h2 h3
  unfold rsum
  omega
theorem HV.csum2 (v : HV n h) {i c : Int} (h0 : 0 ≤ i) (h1 : i ≤ n) (h2 : 0 ≤ c) (h3 : c < n) : 2 * csum h i c = h i c - h i (c + 1) + 1 := by
  have a := v.hor i c h0 h1 h2 h3
  unfold csum
  omega
theorem HV.rsum0 (v : HV n h) {r : Int} (h0 : 0 ≤ r) (h1 : r < n) : rsum h r 0 = 0 := by
  have a := v.left r h0 (by omega)
  have b := v.left (r + 1) (by omega) (by omega)
  unfold rsum
  omega
theorem HV.rsumS (v : HV n h) {r c : Int} (h0 : 0 ≤ r) (h1 : r < n) (h2 : 0 ≤ c) (h3 : c < n) : rsum h r (c + 1) = rsum h r c + sgn h r c := by
  have a := v.sgn2 h0 h1 h2 h3
  have b := v.rsum2 h0 h1 h2 (by omega)
  have c := v.rsum2 h0 h1 (j := c + 1) (by omega) (by omega)
  omega
theorem HV.csum0 (v : HV n h) {c : Int} (h2 : 0 ≤ c) (h3 : c < n) : csum h 0 c = 0 := by
  have a := v.top c h2 (by omega)
  have b := v.top (c + 1) (by omega) (by omega)
  unfold csum
  omega
theorem HV.csumS (v : HV n h) {r c : Int} (h0 : 0 ≤ r) (h1 : r < n) (h2 : 0 ≤ c) (h3 : c < n) : csum h (r + 1) c = csum h r c + sgn h r c := by
  have a := v.sgn2 h0 h1 h2 h3
  have b := v.csum2 h0 (by omega) h2 h3
  have c := v.csum2 (i := r + 1) (by omega) (by omega) h2 h3
  omega
theorem HV.rsum01 (v : HV n h) {r j : Int} (h0 : 0 ≤ r) (h1 : r < n) (h2 : 0 ≤ j) (h3 : j ≤ n) : rsum h r j = 0 ∨ rsum h r j = 1 := by
  have a := v.ver r j h0 h1 h2 h3
  have b := v.rsum2 h0 h1 h2 h3
  omega
theorem HV.csum01 (v : HV n h) {i c : Int} (h0 : 0 ≤ i) (h1 : i ≤ n) (h2 : 0 ≤ c) (h3 : c < n) : csum h i c = 0 ∨ csum h i c = 1 := by
  have a := v.hor i c h0 h1 h2 h3
  have b := v.csum2 h0 h1 h2 h3
  omega
theorem HV.rsumN (v : HV n h) {r : Int} (h0 : 0 ≤ r) (h1 : r < n) : rsum h r n = 1 := by
  have a := v.rig r h0 (by omega)
  have b := v.rig (r + 1) (by omega) (by omega)
  unfold rsum
  omega
theorem HV.csumN (v : HV n h) {c : Int} (h2 : 0 ≤ c) (h3 : c < n) : csum h n c = 1 := by
  have a := v.bot c h2 (by omega)
  have b := v.bot (c + 1) (by omega) (by omega)
  unfold csum
  omega
theorem HV.sgn_range (v : HV n h) {r c : Int} (h0 : 0 ≤ r) (h1 : r < n) (h2 : 0 ≤ c) (h3 : c < n) : sgn h r c = -1 ∨ sgn h r c = 0 ∨ sgn h r c = 1 := by
  have a := v.rsumS h0 h1 h2 h3
  have b := v.rsum01 h0 h1 h2 (by omega)
  have c := v.rsum01 h0 h1 (j := c + 1) (by omega) (by omega)
  omega
end
end GY
end
section
set_option linter.all false
/-! half turns, by heights -/
namespace GY
/-- the four heights beside a point are alike -/
def lvl (h : Int → Int → Int) (i j : Int) : Bool := decide (h (i + 1) j = h (i - 1) j) && (decide (h i (j - 1) = h (i - 1) j) && decide (h i (j + 1) = h (i - 1) j))
theorem lvl_iff {h : Int → Int → Int} {i j : Int} : lvl h i j = true ↔ h (i + 1) j = h (i - 1) j ∧ h i (j - 1) = h (i - 1) j ∧ h i (j + 1) = h (i - 1) j := by
  unfold lvl
  rw [Bool.and_eq_true, Bool.and_eq_true, decide_eq_true_iff, decide_eq_true_iff, decide_eq_true_iff]
def par (dk : Bool) : Int := if dk = true then 1 else 0
/-- a small square of a shade -/
def isSq (n : Nat) (dk : Bool) (i j : Int) : Prop := 1 ≤ i ∧ i < n ∧ 1 ≤ j ∧ j < n ∧ (i + j) % 2 = par dk
instance (n : Nat) (dk : Bool) (i j : Int) : Decidable (isSq n dk i j) := by unfold isSq; infer_instance
def ht (n : Nat) (dk : Bool) (h : Int → Int → Int) (i j : Int) : Int := if isSq n dk i j ∧ lvl h i j = true then 2 * h (i - 1) j - h i j else h i j
theorem par01 (dk : Bool) : par dk = 0 ∨ par dk = 1 := by cases dk <;> simp [par]
section
variable {n : Nat} {h : Int → Int → Int} {dk : Bool}
theorem ht_no {i j : Int} (k : ¬ isSq n dk i j) : ht n dk h i j = h i j := by
  unfold ht
  rw [if_neg fun z => k z.1]
/-- a point beside a small square of a shade is none -/
theorem not_sq {i j i' j' : Int} (k : isSq n dk i j) (e : (i' + j') % 2 ≠ (i + j) % 2) : ¬ isSq n dk i' j' := fun z => e (by rw [z.2.2.2.2, k.2.2.2.2])
theorem HV.ht (v : HV n h) (dk : Bool) : HV n (ht n dk h) := by
  have p01 := par01 dk
  have rim : ∀ i j : Int, (i = 0 ∨ j = 0 ∨ i = n ∨ j = n) → GY.ht n dk h i j = h i j := fun i j e => ht_no fun z => by
    obtain ⟨z1, z2, z3, z4, _⟩ := z
    omega
  have step : ∀ i j i' j' : Int, (i' + j') % 2 ≠ (i + j) % 2 → (isSq n dk i j → h i' j' = h (i - 1) j ∨ lvl h i j = false) → (h i' j' = h i j + 1 ∨ h i' j' = h i j - 1) → ¬ isSq n dk i' j' → (GY.ht n dk h i' j' = GY.ht n dk h i j + 1 ∨ GY.ht n dk h i' j' = GY.ht n dk h i j - 1) := by
    intro i j i' j' e a b c
    rw [ht_no c]
    by_cases k : isSq n dk i j ∧ lvl h i j = true
    · unfold GY.ht
      rw [if_pos k]
      rcases a k.1 with a | a
      · omega
      · rw [k.2] at a; cases a
    · unfold GY.ht
      rw [if_neg k]
      exact b
  have nb : ∀ i j : Int, isSq n dk i j → ∀ i' j' : Int, (i' = i + 1 ∧ j' = j ∨ i' = i - 1 ∧ j' = j ∨ i' = i ∧ j' = j + 1 ∨ i' = i ∧ j' = j - 1) → h i' j' = h (i - 1) j ∨ lvl h i j = false := by
    intro i j k i' j' e
    cases q : lvl h i j with
    | false => exact .inr rfl
    | true =>
      obtain ⟨q1, q2, q3⟩ := lvl_iff.mp q
      rcases e with ⟨e1, e2⟩ | ⟨e1, e2⟩ | ⟨e1, e2⟩ | ⟨e1, e2⟩ <;> rw [e1, e2]
      · exact .inl q1
      · exact .inl rfl
      · exact .inl q3
      · exact .inl q2
  refine ⟨v.pos, v.le, fun j a b => ?_, fun i a b => ?_, fun j a b => ?_, fun i a b => ?_, fun i j a b c d => ?_, fun i j a b c d => ?_⟩
  · rw [rim 0 j (.inl rfl)]; exact v.top j a b
  · rw [rim i 0 (.inr (.inl rfl))]; exact v.left i a b
  · rw [rim n j (.inr (.inr (.inl rfl)))]; exact v.bot j a b
  · rw [rim i n (.inr (.inr (.inr rfl)))]; exact v.rig i a b
  · have q := v.hor i j a b c d
    by_cases k : isSq n dk i j
    · exact step i j i (j + 1) (by omega) (fun k => nb i j k i (j + 1) (by omega)) q (not_sq k (by omega))
    · by_cases k2 : isSq n dk i (j + 1)
      · have := step i (j + 1) i j (by omega) (fun k => nb i (j + 1) k i j (by omega)) (by omega) k
        omega
      · rw [ht_no k, ht_no k2]; exact q
  · have q := v.ver i j a b c d
    by_cases k : isSq n dk i j
    · exact step i j (i + 1) j (by omega) (fun k => nb i j k (i + 1) j (by omega)) q (not_sq k (by omega))
    · by_cases k2 : isSq n dk (i + 1) j
      · have := step (i + 1) j i j (by omega) (fun k => nb (i + 1) j k i j (by omega)) (by omega) k
        omega
      · rw [ht_no k, ht_no k2]; exact q
/-- done twice it leads back -/
theorem lvl_ht {i j : Int} (k : isSq n dk i j) : lvl (ht n dk h) i j = lvl h i j := by
  unfold lvl
  rw [ht_no (not_sq k (by omega)), ht_no (not_sq k (by omega)), ht_no (not_sq k (by omega)), ht_no (not_sq k (by omega))]
theorem ht_ht (i j : Int) : ht n dk (ht n dk h) i j = h i j := by
  by_cases k : isSq n dk i j
  · have e := lvl_ht (h := h) k
    by_cases q : lvl h i j = true
    · have e1 : ht n dk (ht n dk h) i j = 2 * ht n dk h (i - 1) j - ht n dk h i j := by
        show (if isSq n dk i j ∧ lvl (ht n dk h) i j = true then _ else _) = _
        rw [if_pos ⟨k, e.trans q⟩]
      have e2 : ht n dk h i j = 2 * h (i - 1) j - h i j := by
        show (if isSq n dk i j ∧ lvl h i j = true then _ else _) = _
        rw [if_pos ⟨k, q⟩]
      rw [e1, e2, ht_no (not_sq k (by omega))]
      omega
    · have e1 : ht n dk (ht n dk h) i j = ht n dk h i j := by
        show (if isSq n dk i j ∧ lvl (ht n dk h) i j = true then _ else _) = _
        rw [if_neg fun z => q (e ▸ z.2)]
      have e2 : ht n dk h i j = h i j := by
        show (if isSq n dk i j ∧ lvl h i j = true then _ else _) = _
        rw [if_neg fun z => q z.2]
      rw [e1, e2]
  · rw [ht_no k, ht_no k]
end
end GY
end
section
set_option linter.all false
/-! triangles and heights -/
namespace GY
/-- rows of columns: t k m the m-th column of the k-th row (both from 0) -/
structure TriOk (n : Nat) (t : Nat → Nat → Int) : Prop where
  lo : ∀ k m, k < n → m ≤ k → 0 ≤ t k m
  hi : ∀ k m, k < n → m ≤ k → t k m < n
  inc : ∀ k m, k < n → m + 1 ≤ k → t k m < t k (m + 1)
  il : ∀ k m, k + 1 < n → m ≤ k → t (k + 1) m ≤ t k m
  ir : ∀ k m, k + 1 < n → m ≤ k → t k m ≤ t (k + 1) (m + 1)
/-- how many of the first L are below j -/
def cnt (f : Nat → Int) : Nat → Int → Nat
  | 0, _ => 0
  | L + 1, j => cnt f L j + if f L < j then 1 else 0
theorem cnt_le (f g : Nat → Int) (j : Int) : ∀ L, (∀ m, m < L → f m < j → g m < j) → cnt f L j ≤ cnt g L j
  | 0, _ => Nat.le_refl _
  | L + 1, h => by
    have a := cnt_le f g j L fun m hm => h m (by omega)
    have b := h L (by omega)
    unfold cnt
    by_cases c : f L < j
    · rw [if_pos c, if_pos (b c)]; omega
    · rw [if_neg c]; omega
theorem cnt_shift (g : Nat → Int) (j : Int) : ∀ L, cnt g (L + 1) j = (if g 0 < j then 1 else 0) + cnt (fun m => g (m + 1)) L j
  | 0 => by simp [cnt]
  | L + 1 => by
    have a := cnt_shift g j L
    show cnt g (L + 1) j + (if g (L + 1) < j then 1 else 0) = _ + (cnt (fun m => g (m + 1)) L j + if g (L + 1) < j then 1 else 0)
    rw [a]
    omega
theorem cnt_no (f : Nat → Int) (j : Int) : ∀ L, (∀ m, m < L → ¬ f m < j) → cnt f L j = 0
  | 0, _ => rfl
  | L + 1, h => by
    unfold cnt
    rw [cnt_no f j L fun m hm => h m (by omega), if_neg (h L (by omega))]
theorem cnt_all (f : Nat → Int) (j : Int) : ∀ L, (∀ m, m < L → f m < j) → cnt f L j = L
  | 0, _ => rfl
  | L + 1, h => by
    unfold cnt
    rw [cnt_all f j L fun m hm => h m (by omega), if_pos (h L (by omega))]
theorem cnt_same (f : Nat → Int) (j : Int) : ∀ L, (∀ m, m < L → f m ≠ j) → cnt f L (j + 1) = cnt f L j
  | 0, _ => rfl
  | L + 1, h => by
    have b := h L (by omega)
    unfold cnt
    rw [cnt_same f j L fun m hm => h m (by omega)]
    by_cases c : f L < j
    · rw [if_pos c, if_pos (by omega)]
    · rw [if_neg c, if_neg (by omega)]
theorem cnt_one (f : Nat → Int) (j : Int) : ∀ L m, (∀ a b, a < L → b < L → f a = f b → a = b) → m < L → f m = j → cnt f L (j + 1) = cnt f L j + 1
  | 0, _, _, h, _ => absurd h (Nat.not_lt_zero _)
  | L + 1, m, inj, hm, e => by
    unfold cnt
    by_cases c : m = L
    · subst c
      rw [cnt_same f j m fun a ha z => by have := inj a m (by omega) (by omega) (by rw [z, e]); omega, if_pos (by omega), if_neg (by omega)]
    · rw [cnt_one f j L m (fun a b ha hb => inj a b (by omega) (by omega)) (by omega) e]
      have ne : f L ≠ j := fun z => by
        have := inj m L (by omega) (by omega) (by rw [z, e])
        omega
      by_cases d : f L < j
      · rw [if_pos d, if_pos (by omega)]
      · rw [if_neg d, if_neg (by omega)]
section
variable {n : Nat} {t : Nat → Nat → Int}
theorem TriOk.lt (T : TriOk n t) {k : Nat} (hk : k < n) : ∀ d a : Nat, a + (d + 1) ≤ k → t k a < t k (a + (d + 1))
  | 0, a, h => T.inc k a hk h
  | d + 1, a, h => Int.lt_trans (TriOk.lt T hk d a (by omega)) (T.inc k (a + (d + 1)) hk h)
theorem TriOk.inj (T : TriOk n t) {k : Nat} (hk : k < n) (a b : Nat) (ha : a < k + 1) (hb : b < k + 1) (e : t k a = t k b) : a = b := by
  rcases Nat.lt_trichotomy a b with c | c | c
  · have := T.lt hk (b - a - 1) a (by omega)
    rw [show a + (b - a - 1 + 1) = b by omega] at this
    omega
  · exact c
  · have := T.lt hk (a - b - 1) b (by omega)
    rw [show b + (a - b - 1 + 1) = a by omega] at this
    omega
/-- the last row has all columns -/
theorem TriOk.ge (T : TriOk n t) {k : Nat} (hk : k < n) : ∀ m : Nat, m ≤ k → (m : Int) ≤ t k m
  | 0, h => T.lo k 0 hk h
  | m + 1, h => by
    have := TriOk.ge T hk m (by omega)
    have := T.inc k m hk h
    omega
theorem TriOk.last (T : TriOk n t) (hn : 1 ≤ n) : ∀ d m : Nat, m + d = n - 1 → t (n - 1) m = m
  | 0, m, h => by
    have a := T.ge (k := n - 1) (by omega) m (by omega)
    have b := T.hi (n - 1) m (by omega) (by omega)
    omega
  | d + 1, m, h => by
    have a := T.ge (k := n - 1) (by omega) m (by omega)
    have b := TriOk.last T hn d (m + 1) (by omega)
    have c := T.inc (n - 1) m (by omega) (by omega)
    omega
/-- the number of columns below j in the row behind i rows -/
def tcnt (t : Nat → Nat → Int) (i : Nat) (j : Int) : Nat := match i with
  | 0 => 0
  | k + 1 => cnt (t k) (k + 1) j
/-- heights of a triangle -/
def triH (t : Nat → Nat → Int) (i j : Int) : Int := i + j - 2 * (tcnt t i.toNat j : Nat)
theorem TriOk.col (T : TriOk n t) {k : Nat} (hk : k < n) (j : Int) : (cnt (t k) (k + 1) (j + 1) = cnt (t k) (k + 1) j + 1 ∧ ∃ m, m ≤ k ∧ t k m = j) ∨ (cnt (t k) (k + 1) (j + 1) = cnt (t k) (k + 1) j ∧ ¬ ∃ m, m ≤ k ∧ t k m = j) := by
  by_cases c : ∃ m, m ≤ k ∧ t k m = j
  · obtain ⟨m, hm, e⟩ := c
    exact .inl ⟨cnt_one (t k) j (k + 1) m (T.inj hk) (by omega) e, m, hm, e⟩
  · exact .inr ⟨cnt_same (t k) j (k + 1) fun m hm e => c ⟨m, by omega, e⟩, c⟩
theorem TriOk.row (T : TriOk n t) {i : Nat} (hi : i < n) (j : Int) : tcnt t (i + 1) j = tcnt t i j ∨ tcnt t (i + 1) j = tcnt t i j + 1 := by
  cases i with
  | zero =>
    show cnt (t 0) 1 j = 0 ∨ cnt (t 0) 1 j = 0 + 1
    unfold cnt cnt
    by_cases c : t 0 0 < j
    · rw [if_pos c]; exact .inr rfl
    · rw [if_neg c]; exact .inl rfl
  | succ k =>
    show cnt (t (k + 1)) (k + 2) j = cnt (t k) (k + 1) j ∨ cnt (t (k + 1)) (k + 2) j = cnt (t k) (k + 1) j + 1
    have a : cnt (t k) (k + 1) j ≤ cnt (t (k + 1)) (k + 1) j := cnt_le _ _ j _ fun m hm h => Int.lt_of_le_of_lt (T.il k m hi (by omega)) h
    have b : cnt (t (k + 1)) (k + 1) j ≤ cnt (t (k + 1)) (k + 2) j := Nat.le_add_right _ _
    have c : cnt (t (k + 1)) (k + 2) j = (if t (k + 1) 0 < j then 1 else 0) + cnt (fun m => t (k + 1) (m + 1)) (k + 1) j := cnt_shift (t (k + 1)) j (k + 1)
    have d : cnt (fun m => t (k + 1) (m + 1)) (k + 1) j ≤ cnt (t k) (k + 1) j := cnt_le _ _ j _ fun m hm h => Int.lt_of_le_of_lt (T.ir k m hi (by omega)) h
    have e : (if t (k + 1) 0 < j then 1 else 0) ≤ 1 := by by_cases c : t (k + 1) 0 < j <;> simp [c]
    omega
theorem TriOk.hv (T : TriOk n t) (h1 : 1 ≤ n) (h2 : n ≤ 12) : HV n (triH t) := by
  have hc : ∀ (i : Nat) (j : Int), i ≤ n → tcnt t i (j + 1) = tcnt t i j + 1 ∨ tcnt t i (j + 1) = tcnt t i j := fun i j hi => by
    cases i with
    | zero => exact .inr rfl
    | succ k => exact (T.col (k := k) (by omega) j).elim (fun z => .inl z.1) fun z => .inr z.1
  have nat : ∀ i : Int, 0 ≤ i → ((i.toNat : Nat) : Int) = i := fun i h => by omega
  refine ⟨h1, h2, fun j a b => ?_, fun i a b => ?_, fun j a b => ?_, fun i a b => ?_, fun i j a b c d => ?_, fun i j a b c d => ?_⟩
  · show 0 + j - 2 * ((tcnt t (0 : Int).toNat j : Nat) : Int) = j
    show 0 + j - 2 * ((0 : Nat) : Int) = j
    omega
  · show i + 0 - 2 * ((tcnt t i.toNat 0 : Nat) : Int) = i
    have : tcnt t i.toNat 0 = 0 := by
      cases e : i.toNat with
      | zero => rfl
      | succ k => exact cnt_no _ _ _ fun m hm => by have := T.lo k m (by omega) (by omega); omega
    rw [this]
    omega
  · show n + j - 2 * ((tcnt t (n : Int).toNat j : Nat) : Int) = n - j
    have key : ∀ q : Nat, q ≤ n → tcnt t n q = q := fun q => by
      induction q with
      | zero =>
        intro _
        cases e : n with
        | zero => rfl
        | succ k => exact cnt_no _ _ _ fun m hm => by have := T.lo k m (by omega) (by omega); omega
      | succ q ih =>
        intro hq
        have ihq := ih (by omega)
        obtain ⟨k, rfl⟩ : ∃ k, n = k + 1 := ⟨n - 1, by omega⟩
        rcases T.col (k := k) (by omega) (q : Int) with z | z
        · have : tcnt t (k + 1) ((q + 1 : Nat) : Int) = tcnt t (k + 1) (q : Int) + 1 := z.1
          omega
        · refine absurd ⟨q, by omega, ?_⟩ z.2
          have := T.last (by omega) (k - q) q (by omega)
          rw [show k + 1 - 1 = k by omega] at this
          exact this
    obtain ⟨q, rfl⟩ := Int.eq_ofNat_of_zero_le a
    have := key q (by omega)
    rw [show (n : Int).toNat = n by omega]
    have e : ((tcnt t n (q : Int) : Nat) : Int) = q := by rw [this]
    omega
  · show i + n - 2 * ((tcnt t i.toNat n : Nat) : Int) = n - i
    have : tcnt t i.toNat n = i.toNat := by
      cases e : i.toNat with
      | zero => rfl
      | succ k => exact cnt_all _ _ _ fun m hm => T.hi k m (by omega) (by omega)
    rw [this, nat i a]
    omega
  · show i + (j + 1) - 2 * ((tcnt t i.toNat (j + 1) : Nat) : Int) = i + j - 2 * ((tcnt t i.toNat j : Nat) : Int) + 1 ∨ i + (j + 1) - 2 * ((tcnt t i.toNat (j + 1) : Nat) : Int) = i + j - 2 * ((tcnt t i.toNat j : Nat) : Int) - 1
    have := hc i.toNat j (by omega)
    omega
  · show i + 1 + j - 2 * ((tcnt t (i + 1).toNat j : Nat) : Int) = i + j - 2 * ((tcnt t i.toNat j : Nat) : Int) + 1 ∨ i + 1 + j - 2 * ((tcnt t (i + 1).toNat j : Nat) : Int) = i + j - 2 * ((tcnt t i.toNat j : Nat) : Int) - 1
    have := T.row (i := i.toNat) (by omega) j
    rw [show (i + 1).toNat = i.toNat + 1 by omega]
    omega
/-- a column stands in a row just where the signs so far come to 1 -/
theorem TriOk.mem (T : TriOk n t) {k : Nat} (hk : k < n) (c : Int) : (∃ m, m ≤ k ∧ t k m = c) ↔ csum (triH t) ((k + 1 : Nat) : Int) c = 1 := by
  have e : csum (triH t) ((k + 1 : Nat) : Int) c = ((tcnt t (k + 1) (c + 1) : Nat) : Int) - (tcnt t (k + 1) c : Nat) := by
    unfold csum triH
    rw [show ((k + 1 : Nat) : Int).toNat = k + 1 by omega]
    omega
  rw [e]
  show _ ↔ ((cnt (t k) (k + 1) (c + 1) : Nat) : Int) - (cnt (t k) (k + 1) c : Nat) = 1
  rcases T.col hk c with ⟨z1, z2⟩ | ⟨z1, z2⟩
  · rw [z1]
    exact ⟨fun _ => by omega, fun _ => z2⟩
  · rw [z1]
    exact ⟨fun w => absurd w z2, fun w => by omega⟩
end
/-! ### a state's triangle -/
/-- the places below n of a kind, in order -/
def plc (p : Nat → Bool) (n : Nat) : List Nat := (List.range n).filter p
theorem plc_succ (p : Nat → Bool) (n : Nat) : plc p (n + 1) = plc p n ++ if p n = true then [n] else [] := by
  unfold plc
  rw [List.range_succ, List.filter_append, List.filter_cons]
  rfl
theorem plc_lt {p : Nat → Bool} {n m : Nat} {x : Nat} (h : (plc p n)[m]? = some x) : x < n ∧ p x = true := by
  have := List.mem_of_getElem? h
  unfold plc at this
  obtain ⟨a, b⟩ := List.mem_filter.mp this
  exact ⟨List.mem_range.mp a, b⟩
/-- the m-th is below j just where more than m are -/
theorem plc_iff {p : Nat → Bool} : ∀ {n m x : Nat}, (plc p n)[m]? = some x → ∀ j, j ≤ n → (x < j ↔ m < (plc p j).length)
  | 0, m, x, h, j, _ => by simp [plc] at h
  | n + 1, m, x, h, j, hj => by
    rw [plc_succ] at h
    by_cases c : m < (plc p n).length
    · rw [List.getElem?_append_left c] at h
      by_cases e : j = n + 1
      · subst e
        have := plc_lt h
        refine ⟨fun _ => ?_, fun _ => by omega⟩
        rw [plc_succ, List.length_append]
        omega
      · exact plc_iff h j (by omega)
    · rw [List.getElem?_append_right (by omega)] at h
      by_cases q : p n = true
      · rw [if_pos q] at h
        have hm : m - (plc p n).length = 0 := by
          have := (List.getElem?_eq_some_iff.mp h).1
          simp at this
          exact this
        rw [hm] at h
        have hx : n = x := by simpa using h
        subst hx
        have mono : ∀ a b, a ≤ b → (plc p a).length ≤ (plc p b).length := fun a b hab => by
          induction b with
          | zero => have : a = 0 := by omega
                    subst this; exact Nat.le_refl _
          | succ b ih =>
            by_cases e : a = b + 1
            · subst e; exact Nat.le_refl _
            · rw [plc_succ, List.length_append]
              have := ih (by omega)
              omega
        refine ⟨fun w => ?_, fun w => ?_⟩
        · have e : j = n + 1 := by omega
          rw [e, plc_succ, List.length_append, if_pos q]
          simp
          omega
        · by_cases e : j ≤ n
          · have := mono j n e
            omega
          · omega
      · rw [if_neg q] at h
        simp at h
section
variable {n : Nat} {h : Int → Int → Int}
def inCol (h : Int → Int → Int) (i : Int) (c : Nat) : Bool := decide (csum h i c = 1)
theorem HV.plc_len (v : HV n h) {i : Int} (h0 : 0 ≤ i) (h1 : i ≤ n) : ∀ j : Nat, j ≤ n → 2 * ((plc (inCol h i) j).length : Int) = i + j - h i j
  | 0, _ => by
    have := v.left i h0 h1
    show 2 * ((0 : Nat) : Int) = i + ((0 : Nat) : Int) - h i ((0 : Nat) : Int)
    rw [show ((0 : Nat) : Int) = 0 from rfl, this]
    omega
  | j + 1, hj => by
    have ih := HV.plc_len v h0 h1 j (by omega)
    have c := v.csum2 (i := i) (c := j) h0 h1 (by omega) (by omega)
    have c01 := v.csum01 (i := i) (c := j) h0 h1 (by omega) (by omega)
    rw [plc_succ, List.length_append, show ((j + 1 : Nat) : Int) = (j : Int) + 1 by omega]
    by_cases q : csum h i j = 1
    · rw [if_pos (show inCol h i j = true from decide_eq_true q)]
      simp only [List.length_singleton]
      omega
    · rw [if_neg (show ¬ inCol h i j = true from fun z => q (of_decide_eq_true z))]
      simp only [List.length_nil]
      omega
/-- a state's triangle -/
def triOf (n : Nat) (h : Int → Int → Int) (k m : Nat) : Int := (((plc (inCol h ((k + 1 : Nat) : Int)) n).getD m 0 : Nat) : Int)
theorem HV.tri_row (v : HV n h) {k : Nat} (hk : k < n) : (plc (inCol h ((k + 1 : Nat) : Int)) n).length = k + 1 := by
  have a := v.plc_len (i := ((k + 1 : Nat) : Int)) (by omega) (by omega) n (Nat.le_refl _)
  have b := v.rig ((k + 1 : Nat) : Int) (by omega) (by omega)
  omega
theorem HV.tri_get (v : HV n h) {k m : Nat} (hk : k < n) (hm : m ≤ k) : ∃ x, (plc (inCol h ((k + 1 : Nat) : Int)) n)[m]? = some x ∧ triOf n h k m = (x : Int) := by
  have hl := v.tri_row hk
  have e := List.getElem?_eq_getElem (l := plc (inCol h ((k + 1 : Nat) : Int)) n) (i := m) (by omega)
  refine ⟨_, e, ?_⟩
  unfold triOf
  rw [List.getD_eq_getElem?_getD, e]
  rfl
theorem HV.triOk (v : HV n h) : TriOk n (triOf n h) := by
  refine ⟨fun k m hk hm => ?_, fun k m hk hm => ?_, fun k m hk hm => ?_, fun k m hk hm => ?_, fun k m hk hm => ?_⟩
  · obtain ⟨x, _, e⟩ := v.tri_get hk hm
    omega
  · obtain ⟨x, hx, e⟩ := v.tri_get hk hm
    have := plc_lt hx
    omega
  · obtain ⟨x, hx, e⟩ := v.tri_get (m := m) hk (by omega)
    obtain ⟨y, hy, f⟩ := v.tri_get (m := m + 1) hk hm
    have xl := plc_lt hx
    have yl := plc_lt hy
    -- x < x + 1, so m < N (x + 1); y < x + 1 iff m + 1 < N (x + 1)
    have a := (plc_iff hx (y + 1) (by omega)).mpr
    have b := (plc_iff hy (y + 1) (by omega)).mp (by omega)
    have c := a (by omega)
    have d := plc_iff hx x (by omega)
    have d2 := plc_iff hy x (by omega)
    have ne : x ≠ y := fun z => by
      subst z
      have := (List.getElem_inj (h₀ := (List.getElem?_eq_some_iff.mp hx).1) (h₁ := (List.getElem?_eq_some_iff.mp hy).1) (List.Pairwise.filter _ List.nodup_range)).mp ((List.getElem?_eq_some_iff.mp hx).2.trans (List.getElem?_eq_some_iff.mp hy).2.symm)
      omega
    omega
  · obtain ⟨x, hx, e⟩ := v.tri_get (k := k) (m := m) (by omega) hm
    obtain ⟨y, hy, f⟩ := v.tri_get (k := k + 1) (m := m) hk (by omega)
    have xl := plc_lt hx
    have a := (plc_iff hx (x + 1) (by omega)).mp (by omega)
    have l1 := v.plc_len (i := ((k + 1 : Nat) : Int)) (by omega) (by omega) (x + 1) (by omega)
    have l2 := v.plc_len (i := ((k + 1 + 1 : Nat) : Int)) (by omega) (by omega) (x + 1) (by omega)
    have s := v.ver ((k + 1 : Nat) : Int) ((x + 1 : Nat) : Int) (by omega) (by omega) (by omega) (by omega)
    rw [show ((k + 1 : Nat) : Int) + 1 = ((k + 1 + 1 : Nat) : Int) by omega] at s
    have b := (plc_iff hy (x + 1) (by omega)).mpr (by omega)
    omega
  · obtain ⟨x, hx, e⟩ := v.tri_get (k := k) (m := m) (by omega) hm
    obtain ⟨y, hy, f⟩ := v.tri_get (k := k + 1) (m := m + 1) hk (by omega)
    have yl := plc_lt hy
    have a := (plc_iff hy (y + 1) (by omega)).mp (by omega)
    have l1 := v.plc_len (i := ((k + 1 : Nat) : Int)) (by omega) (by omega) (y + 1) (by omega)
    have l2 := v.plc_len (i := ((k + 1 + 1 : Nat) : Int)) (by omega) (by omega) (y + 1) (by omega)
    have s := v.ver ((k + 1 : Nat) : Int) ((y + 1 : Nat) : Int) (by omega) (by omega) (by omega) (by omega)
    rw [show ((k + 1 : Nat) : Int) + 1 = ((k + 1 + 1 : Nat) : Int) by omega] at s
    have b := (plc_iff hx (y + 1) (by omega)).mpr (by omega)
    omega
theorem HV.tri_mem (v : HV n h) {k : Nat} (hk : k < n) {c : Int} (c0 : 0 ≤ c) (c1 : c < n) : (∃ m, m ≤ k ∧ triOf n h k m = c) ↔ csum h ((k + 1 : Nat) : Int) c = 1 := by
  constructor
  · rintro ⟨m, hm, e⟩
    obtain ⟨x, hx, f⟩ := v.tri_get hk hm
    have := (plc_lt hx).2
    rw [← e, f]
    exact of_decide_eq_true this
  · intro e
    obtain ⟨x, rfl⟩ := Int.eq_ofNat_of_zero_le c0
    have : x ∈ plc (inCol h ((k + 1 : Nat) : Int)) n := List.mem_filter.mpr ⟨List.mem_range.mpr (by omega), decide_eq_true e⟩
    obtain ⟨m, hm, q⟩ := List.getElem_of_mem this
    have hl := v.tri_row hk
    refine ⟨m, by omega, ?_⟩
    unfold triOf
    rw [List.getD_eq_getElem?_getD, List.getElem?_eq_getElem hm, q]
    rfl
/-- the list of a row -/
theorem HV.tri_list (v : HV n h) {k : Nat} (hk : k < n) : (plc (inCol h ((k + 1 : Nat) : Int)) n).map (fun c => ((c : Nat) : Int)) = (List.range (k + 1)).map fun m => triOf n h k m := by
  refine List.ext_getElem? fun m => ?_
  have hl := v.tri_row hk
  by_cases c : m < k + 1
  · obtain ⟨x, hx, f⟩ := v.tri_get hk (show m ≤ k by omega)
    rw [List.getElem?_map, List.getElem?_map, hx, List.getElem?_range c]
    show some (x : Int) = some (triOf n h k m)
    rw [f]
  · rw [List.getElem?_eq_none (by rw [List.length_map]; omega), List.getElem?_eq_none (by rw [List.length_map, List.length_range]; omega)]
end
end GY
end
section
set_option Elab.async false
set_option linter.all false
set_option maxRecDepth 100000
set_option maxHeartbeats 4000000
/-! texts -/
namespace GY
open PySem PySem.Spec PyProof.Rows L2 TL
open Evl (Ex fresh_back)
/-- the text of these codes -/
def mkS (cs : List Nat) : Str := ⟨cs.toArray⟩
theorem tl_mkS (cs : List Nat) : tl (mkS cs) = cs := by simp [mkS, tl]
theorem joinL_one : ∀ cs : List Nat, joinL [] (cs.map fun c => [c]) = cs
  | [] => rfl
  | [_] => rfl
  | a :: b :: r => by
    have := joinL_one (b :: r)
    show [a] ++ ([] ++ joinL [] ((b :: r).map fun c => [c])) = a :: b :: r
    rw [this]
    rfl
theorem join_one (cs : List Nat) : Txt.join ("" : Str) (cs.map fun c => (⟨#[c]⟩ : Str)) = mkS cs := by
  refine ext_tl ?_
  rw [join_eq, tl_join, tl_mkS, List.map_map, show tl ("" : Str) = [] by decide +kernel]
  exact joinL_one cs
theorem chars_mkS (cs : List Nat) : chars (mkS cs) = cs.map fun c => .str ⟨#[c]⟩ := by
  unfold chars mkS
  rfl
theorem mkS_len (cs : List Nat) : (mkS cs).length = cs.length := by simp [mkS, Str.length]
theorem cut1D (xs : List Dt) : cutD xs (some 1) none = xs.drop 1 := by
  unfold cutD
  rw [show HT.sIx xs.length 0 (some 1) = min 1 xs.length from HT.sIx_nat xs.length 0 1, HT.sIx_none]
  cases xs with
  | nil => rfl
  | cons x r =>
    rw [show min 1 (x :: r).length = 1 by
      rw [List.length_cons]
      omega]
    show (List.take ((x :: r).length - 1) r) = r
    rw [List.length_cons, Nat.add_sub_cancel]
    exact List.take_length
/-- a number's text, for the few numbers that stand in texts -/
def nT (i : Int) : Str := (toString i : String)
def nOk (k : Nat) : Bool := decide (nT k ≠ ("" : Str)) && (decide ((nT k).length ≤ 2) && (decide (1 ≤ (nT k).length) && (decide (nT k = ("0" : Str) ∨ (nT k).cps.toList.head? ≠ some 48) && ((nT k).cps.toList.all (fun c => decide (c ∈ ("0123456789" : Str).cps.toList)) && (decide (PySem.intText? (nT k) = some (k : Int)) && (nT k).cps.toList.all (fun c => decide (c ≠ 32 ∧ c ≠ 10)))))))
theorem nOk_all : ∀ k : Fin 25, nOk k = true := by decide +kernel
structure NOk (i : Int) : Prop where
  ne : nT i ≠ ("" : Str)
  le : (nT i).length ≤ 2
  ge : 1 ≤ (nT i).length
  z : nT i = ("0" : Str) ∨ (nT i).cps.toList.head? ≠ some 48
  fig : ∀ c ∈ (nT i).cps.toList, c ∈ ("0123456789" : Str).cps.toList
  val : PySem.intText? (nT i) = some i
  fr : ∀ c ∈ (nT i).cps.toList, c ≠ 32 ∧ c ≠ 10
theorem nOk_of {i : Int} (h0 : 0 ≤ i) (h1 : i ≤ 24) : NOk i := by
  obtain ⟨k, rfl⟩ := Int.eq_ofNat_of_zero_le h0
  have h := nOk_all ⟨k, by omega⟩
  unfold nOk at h
  simp only [Bool.and_eq_true, decide_eq_true_eq, List.all_eq_true] at h
  obtain ⟨a, b, c, d, e, f, g⟩ := h
  exact ⟨a, b, c, d, e, f, g⟩
/-- a row of numbers -/
def numT (r : List Int) : Str := Txt.join (" " : Str) (r.map nT)
/-- the numbers that stand in texts -/
def Few (r : List Int) : Prop := r.length ≤ 100 ∧ ∀ i ∈ r, 0 ≤ i ∧ i ≤ 24
theorem sum_le {l : List Str} {b : Nat} (h : ∀ x ∈ l, x.length ≤ b) : (l.map (·.length)).sum ≤ l.length * b := by
  induction l with
  | nil => simp
  | cons x r ih =>
    have a := h x (by simp)
    have c := ih fun y hy => h y (List.mem_cons_of_mem _ hy)
    rw [List.map_cons, List.sum_cons, List.length_cons, Nat.succ_mul]
    omega
theorem Few.each {r : List Int} (h : Few r) : ∀ x ∈ r.map nT, x.length ≤ 2 := fun x hx => by
  obtain ⟨i, hi, rfl⟩ := List.mem_map.mp hx
  exact (nOk_of (h.2 i hi).1 (h.2 i hi).2).le
theorem Few.sum {r : List Int} (h : Few r) : ((r.map nT).map (·.length)).sum ≤ 200 := by
  have a := sum_le h.each
  have b := h.1
  rw [List.length_map] at a
  omega
theorem join_le {sep : Str} {l : List Str} {a b : Nat} (h : (l.map (·.length)).sum ≤ a) (g : l.length * sep.length ≤ b) : (Txt.join sep l).length ≤ a + b := by
  rw [join_eq]
  exact Nat.le_trans (StrLaws.join_length_le sep l) (Nat.add_le_add h g)
theorem Few.len {r : List Int} (h : Few r) : (numT r).length ≤ 300 := by
  refine join_le (a := 200) (b := 100) h.sum ?_
  rw [List.length_map, show (" " : Str).length = 1 by decide +kernel]
  have := h.1
  omega
theorem Few.split {r : List Int} (h : Few r) (hne : r ≠ []) : Txt.split (numT r) (" " : Str) = r.map nT := by
  refine split_join (s := 32) (S := []) (by decide +kernel) (by decide +kernel) (fun e => hne (List.map_eq_nil_iff.mp e)) fun p hp => ?_
  obtain ⟨i, hi, rfl⟩ := List.mem_map.mp hp
  exact fun z => ((nOk_of (h.2 i hi).1 (h.2 i hi).2).fr 32 z).1 rfl
theorem joinL_mem {S : List Nat} : ∀ {l : List (List Nat)} {c : Nat}, c ∈ joinL S l → (∃ p ∈ l, c ∈ p) ∨ c ∈ S
  | [], _, h => by cases h
  | [p], c, h => .inl ⟨p, List.mem_singleton.mpr rfl, h⟩
  | p :: q :: r, c, h => by
    rcases List.mem_append.mp (show c ∈ p ++ (S ++ joinL S (q :: r)) from h) with h | h
    · exact .inl ⟨p, List.mem_cons_self .., h⟩
    · rcases List.mem_append.mp h with h | h
      · exact .inr h
      · rcases joinL_mem h with ⟨x, hx, hc⟩ | h
        · exact .inl ⟨x, List.mem_cons_of_mem _ hx, hc⟩
        · exact .inr h
theorem Few.free {r : List Int} (h : Few r) : 10 ∉ tl (numT r) := fun z => by
  unfold numT at z
  rw [join_eq, tl_join] at z
  rcases joinL_mem z with ⟨p, hp, hc⟩ | hc
  · obtain ⟨x, hx, rfl⟩ := List.mem_map.mp hp
    obtain ⟨i, hi, rfl⟩ := List.mem_map.mp hx
    exact ((nOk_of (h.2 i hi).1 (h.2 i hi).2).fr 10 hc).2 rfl
  · exact absurd hc (by decide +kernel)
/-- marks written and read: the number z has the mark c -/
def Mk (ns : List Int) (marks : Str) (c : Nat) (z : Int) : Prop := ∃ k : Nat, ns[k]? = some z ∧ (∀ m, m < k → ns[m]? ≠ some z) ∧ L2.atI marks.cps.toList (k : Int) = some c
def Rk (ns : List Int) (marks : Str) (c : Nat) (z : Int) : Prop := c ∈ marks.cps.toList ∧ ∃ (k : Nat) (rest : List Nat), Builtin.Str.occurrences marks ⟨#[c]⟩ 0 marks.length 1 = k :: rest ∧ ns[k]? = some z
end GY
end
section
set_option Elab.async false
set_option linter.all false
set_option maxRecDepth 100000
set_option maxHeartbeats 4000000
namespace GY
open PySem PySem.Spec PyProof.Rows L2
open Evl (Ex fresh_back)
local macro_rules | `(tactic| walk_at "le") => `(tactic| (repeat (first | exact Le.nil | refine Le.cons (by first | exact SLe.rfl | exact SLe.no | exact SLe.fd | exact SLe.od | exact SLe.of | exact SLe.tf | exact SLe.sc rfl) ?_)))
section
variable {Pg : Program} {w : World} {K : PySem.W.Frag} {mg : Str → Option Value} {base : Heap}
inductive R_heights_of : List Dt → List (List Int) → Prop
  | mk {n : Nat} {h : Int → Int → Int} (hv : HV n h) : R_heights_of [.lst (dM n n (sgn h))] (rowsI (n + 1) (n + 1) h)
theorem sc_heights_of : FnScope ["state", "n", "made", "i", "row", "total", "j"] ["state"] (defScope s_heights_of) := ⟨rfl, rfl, rfl, by decide +kernel, rfl, by decide +kernel, by decide +kernel⟩
theorem ok_heights_of (h : Fs K mg "heights_of" s_heights_of) (T : Tx mg)  : CallS Pg w K mg base 1 "heights_of" ["state"] (spM K R_heights_of) := by
  obtain ⟨a, fd, F, gm⟩ := h
  refine ⟨a, fd, of_dataM F sc_heights_of (fun ds y h => by cases h; rfl) (fun cdv A outer s H E hr => ⟨_,
    (pss_cons (ps_set (i := 1) sc_heights_of.nd rfl (Or.inl rfl) (pe_callB (call_lenK K) (by rfl) T.len PySem.boot_len (pa_cons (pv 0) pa_nil)))
    (pss_cons (ps_set (i := 2) sc_heights_of.nd rfl (Or.inl rfl) (pe_lst (pa_cons (pe_listRg rfl (by rfl) T.list (prg_1 (by rfl) T.range (pe_op op_add (pv 1) pe_int))) pa_nil)))
    (pss_cons (ps_for PassesOwn.never rfl (pi_range2 (by rfl) T.range (pa_cons pe_int (pa_cons (pe_op op_add (pv 1) pe_int) pa_nil))) (pg_name (i := 3) sc_heights_of.nd rfl (Or.inl rfl))
    (pss_cons (ps_set (i := 4) sc_heights_of.nd rfl (Or.inl rfl) (pe_lst (pa_cons (pv 3) pa_nil)))
    (pss_cons (ps_set (i := 5) sc_heights_of.nd rfl (Or.inl rfl) pe_int)
    (pss_cons (ps_for PassesOwn.never rfl (pi_range2 (by rfl) T.range (pa_cons pe_int (pa_cons (pe_op op_add (pv 1) pe_int) pa_nil))) (pg_name (i := 6) sc_heights_of.nd rfl (Or.inl rfl))
    (pss_cons (ps_set (i := 5) sc_heights_of.nd rfl (Or.inl rfl) (pe_op op_add (pv 5) (pe_ix (ix_listK K) (pe_ix (ix_listK K) (pv 0) (pe_op op_sub (pv 3) pe_int) (fun _ _ => rfl)) (pe_op op_sub (pv 6) pe_int) (fun _ _ => rfl))))
    (pss_one (ps_expr (pe_bm PySem.F.plainAttrs_list PySem.F.slot_list_append PySem.F.type_list_append mt_append (pv 4) (pa_cons (pe_op op_sub (pe_op op_add (pe_ix (ix_listK K) (pe_ix (ix_listK K) (pv 2) (pe_op op_sub (pv 3) pe_int) (fun _ _ => rfl)) (pv 6) (fun _ _ => rfl)) pe_int) (pe_op op_mul pe_int (pv 5))) pa_nil))))))
    (pss_one (ps_expr (pe_bm PySem.F.plainAttrs_list PySem.F.slot_list_append PySem.F.type_list_append mt_append (pv 2) (pa_cons (pv 4) pa_nil))))))))
    (pss_one (ps_ret (pv 2)))))),
    fun ds y h => ?_⟩), gm, F.kp, FunD.bindsN F fun _ _ _ _ _ _ us hl => match us, hl with | [_], _ => rfl⟩
  cases h with
  | @mk n h hv =>
  have hn := hv.pos
  have hn2 := hv.le
  -- n = len(state)
  refine run_seq (run_asg (g_is (g_len (g_var rfl rfl)) (by rw [dM_len])) ?_)
  -- made = [list(range(n + 1))]
  refine run_seq (run_mxNew (ns := rowI (n + 1) (h 0)) (gn_is (gn_listRg (g_add (g_var rfl rfl) g_int) (by omega)) ?_) ?_)
  · rw [← dRow_rowI, show ((n : Int) + 1).toNat = n + 1 by omega]
    unfold dRow
    refine List.map_congr_left fun j hj => ?_
    have := List.mem_range.mp hj
    rw [hv.top (j : Nat) (by omega) (by omega)]
  -- for i
  refine run_seq (run_for (gi_rng2 (ga_cons g_int (ga_cons (g_add (g_var rfl rfl) g_int) ga_nil)))
    (fun t => [.d (.lst (dM n n (sgn h))), .d (.int n), .mx (rowsI (t + 1) (n + 1) h), .no, .no, .no, .no]) ?_ ?_ ?_)
  · walk_at "le"
  · intro t x hx
    obtain ⟨ht, rfl⟩ := get_rg hx
    rw [show ((n : Int) + 1 - 1).toNat = n by omega] at ht
    refine ⟨_, _, gg_name, ?_⟩
    refine run_seq (run_asgO (ds := dI (rowI 1 (h (t + 1)))) (gn_is (gn_lst (ga_cons (g_var rfl rfl) ga_nil)) ?_) ?_)
    · show [Dt.int (1 + (t : Nat))] = [Dt.int (h (t + 1) 0)]
      rw [hv.left _ (by omega) (by omega), Int.add_comm]
    refine run_seq (run_asg g_int ?_)
    refine run_seq (run_for (gi_rng2 (ga_cons g_int (ga_cons (g_add (g_var rfl rfl) g_int) ga_nil)))
      (fun u => [.d (.lst (dM n n (sgn h))), .d (.int n), .mx (rowsI (t + 1) (n + 1) h), .d (.int (1 + (t : Nat))), .own (dI (rowI (u + 1) (h (t + 1)))), .d (.int (rsum h t u)), .no]) ?_ ?_ ?_)
    · refine Le.cons .rfl (Le.cons .rfl (Le.cons .rfl (Le.cons .rfl (Le.cons .rfl (Le.cons (SLe.eq ?_) (Le.cons .no Le.nil))))))
      show Sl.d (.int 0) = Sl.d (.int (rsum h t 0))
      rw [hv.rsum0 (by omega) (by omega)]
    · intro u x hx
      obtain ⟨hu, rfl⟩ := get_rg hx
      rw [show ((n : Int) + 1 - 1).toNat = n by omega] at hu
      refine ⟨_, _, gg_name, ?_⟩
      have e1 : (1 : Int) + (t : Nat) - 1 = t := by omega
      have e2 : (1 : Int) + (u : Nat) - 1 = u := by omega
      -- total = total + state[i - 1][j - 1]
      refine run_seq (run_asg (x := .int (rsum h t (u + 1))) (g_is (g_add (g_var rfl rfl) (g_ixLs (g_ixL (g_var rfl rfl) (g_sub (g_var rfl rfl) g_int) (at_M (by omega) (by omega))) (g_sub (g_var rfl rfl) g_int) (at_row (by omega) (by omega)))) ?_) ?_)
      · rw [e1, e2, hv.rsumS (by omega) (by omega) (by omega) (by omega)]
      -- row.append(made[i - 1][j] + 1 - 2 * total)
      refine run_app rfl (x := .int (h (t + 1) (u + 1))) (g_is (g_sub (g_add (g_ixLs (g_ixL (g_var rfl rfl) (g_sub (g_var rfl rfl) g_int) (by rw [rowsI_dM]; exact at_M (by omega) (by omega))) (g_var rfl rfl) (at_row (by omega) (by omega))) g_int) (g_mul g_int (g_var rfl rfl) (.inl ⟨by decide, by decide⟩))) ?_) ?_ ?_
      · rw [e1, show (1 : Int) + (u : Nat) = u + 1 by omega]
        have a := hv.rsum2 (r := t) (j := u + 1) (by omega) (by omega) (by omega) (by omega)
        rw [show h t (u + 1) + 1 - 2 * rsum h t (u + 1) = h (t + 1) (u + 1) by omega]
      · show (dI (rowI (u + 1) (h (t + 1)))).length < 100000
        rw [List.length_map, rowI_len]
        omega
      · refine Le.cons .rfl (Le.cons .rfl (Le.cons .rfl (Le.cons .rfl (Le.cons (SLe.eq ?_) (Le.cons (SLe.eq ?_) (Le.cons .no Le.nil))))))
        · exact congrArg Sl.own (dI_snoc rfl)
        · rfl
    · -- made.append(row)
      rw [rgD_len, show ((n : Int) + 1 - 1).toNat = n by omega]
      refine run_mxApp rfl rfl ?_ ?_
      · rw [rowsI_len]; omega
      · refine Le.cons .rfl (Le.cons .rfl (Le.cons (SLe.eq ?_) (Le.cons .no (Le.cons .no (Le.cons .no (Le.cons .no Le.nil))))))
        exact congrArg Sl.mx (rowsI_snoc rfl)
  -- return made
  · rw [rgD_len, show ((n : Int) + 1 - 1).toNat = n by omega]
    exact run_mxRet rfl rfl
inductive R_is_whole : List Dt → Dt → Prop
  | mk (i : Int) : R_is_whole [.int i] (.bl true)
theorem sc_is_whole : FnScope ["thing"] ["thing"] (defScope s_is_whole) := ⟨rfl, rfl, rfl, by decide +kernel, rfl, by decide +kernel, by decide +kernel⟩
theorem ok_is_whole (h : Fs K mg "is_whole" s_is_whole) (T : Tx mg)  : CallS Pg w K mg base 1 "is_whole" ["thing"] (spD K R_is_whole) := by
  obtain ⟨a, fd, F, gm⟩ := h
  refine ⟨a, fd, of_data F sc_is_whole (fun ds y h => by cases h; rfl) (fun cdv A outer s H E hr => ⟨_,
    (pss_one (ps_ret (pe_and (pe_callB call_isi (by rfl) T.isinstance (by decide +kernel) (pa_cons (pv 0) (pa_cons (pe_bltn (v := .ty "int") (by rfl) T.int (by decide +kernel) rfl) pa_nil))) (pe_one (pe_not (pe_callB call_isi (by rfl) T.isinstance (by decide +kernel) (pa_cons (pv 0) (pa_cons (pe_bltn (v := .ty "bool") (by rfl) T.bool (by decide +kernel) rfl) pa_nil)))))))),
    fun ds y h => ?_⟩), gm, F.kp, FunD.bindsN F fun _ _ _ _ _ _ us hl => match us, hl with | [_], _ => rfl⟩
  cases h with
  | mk i => exact run_ret (g_and (g_isi (a := true) (g_var rfl rfl) rfl (by decide +kernel)) (fun _ => g_not (g_isi (a := false) (g_var rfl rfl) rfl (by decide +kernel)))) rfl
inductive R_look_size : List Dt → Dt → Prop
  | mk {n m : Int} (h1 : 1 ≤ n) (h2 : n ≤ m) : R_look_size [.int n, .int m] .non
theorem sc_look_size : FnScope ["n", "most"] ["n", "most"] (defScope s_look_size) := ⟨rfl, rfl, rfl, by decide +kernel, rfl, by decide +kernel, by decide +kernel⟩
theorem ok_look_size (h : Fs K mg "look_size" s_look_size) (T : Tx mg)  : CallS Pg w K mg base 1 "look_size" ["n", "most"] (spD K R_look_size) := by
  obtain ⟨a, fd, F, gm⟩ := h
  refine ⟨a, fd, of_data F sc_look_size (fun ds y h => by cases h; rfl) (fun cdv A outer s H E hr => ⟨_,
    (pss_one (ps_if (PW.pt (pw_or (pt_cmpR op_lt (pv 0) pe_int (nomark _)) (pw_or1 (pt_cmpR op_gt (pv 0) (pv 1) (nomark _)))))
    (pss_one ps_never)
    pss_nil)),
    fun ds y h => ?_⟩), gm, F.kp, FunD.bindsN F fun _ _ _ _ _ _ us hl => match us, hl with | [_, _], _ => rfl⟩
  cases h with
  | mk h1 h2 => exact run_ifF (gt_or (gt_test (g_lt (g_var rfl rfl) g_int)) fun _ => gt_test (g_gt (g_var rfl rfl) (g_var rfl rfl))) (by rw [decide_eq_false (by omega), decide_eq_false (by omega)]; rfl) (run_next rfl)
/-- the small squares of a shade in a row of points -/
def sqRow (n : Nat) (dk : Bool) (i : Int) : List (Int × Int) := (((List.range (n - 1)).map fun b => (1 : Int) + (b : Nat)).filter fun j => decide ((i + j) % 2 = if dk = true then 1 else 0)).map fun j => (i, j)
def sqs (n : Nat) (dk : Bool) : Nat → List (Int × Int)
  | 0 => []
  | t + 1 => sqs n dk t ++ sqRow n dk (1 + (t : Nat))
def dP (ps : List (Int × Int)) : List Dt := ps.map fun p => .tup [.int p.1, .int p.2]
def shade (dk : Bool) : Str := if dk = true then "dark" else "light"
theorem sqRow_len (n : Nat) (dk : Bool) (i : Int) : (sqRow n dk i).length ≤ n := by
  unfold sqRow
  rw [List.length_map]
  refine Nat.le_trans (List.length_filter_le _ _) ?_
  rw [List.length_map, List.length_range]
  omega
theorem sqs_len (n : Nat) (dk : Bool) : ∀ t, (sqs n dk t).length ≤ t * n
  | 0 => by simp [sqs]
  | t + 1 => by
    have a := sqs_len n dk t
    have b := sqRow_len n dk (1 + (t : Nat))
    unfold sqs
    rw [List.length_append, Nat.succ_mul]
    omega
inductive R_squares : List Dt → Dt → Prop
  | mk {n : Nat} (h1 : 1 ≤ n) (h2 : n ≤ 12) (dk : Bool) : R_squares [.int n, .str (shade dk)] (.lst (dP (sqs n dk (n - 1))))
theorem sc_squares : FnScope ["n", "shade", "odd", "found", "i", "j"] ["n", "shade"] (defScope s_squares) := ⟨rfl, rfl, rfl, by decide +kernel, rfl, by decide +kernel, by decide +kernel⟩
theorem ok_squares (h : Fs K mg "squares" s_squares) (T : Tx mg) (c_look_size : CallS Pg w K mg base 1 "look_size" ["n", "most"] (spD K R_look_size)) : CallS Pg w K mg base 2 "squares" ["n", "shade"] (spD K R_squares) := by
  obtain ⟨a, fd, F, gm⟩ := h
  refine ⟨a, fd, of_data F sc_squares (fun ds y h => by cases h; rfl) (fun cdv A outer s H E hr => ⟨_,
    (pss_cons (ps_expr (pe_callD c_look_size hr (by rfl) (pa_cons (pv 0) (pa_cons (pe_glob (v := .int 12) (by rfl) T.MOST.choose_spec ⟨_, rfl⟩) pa_nil))))
    (pss_cons (ps_set (i := 2) sc_squares.nd rfl (Or.inr rfl) (pe_callTy call_int1 (by rfl) T.int (by decide +kernel) (pa_cons (pe_cmpR op_eq (pv 1) pe_str (nomark _)) pa_nil)))
    (pss_cons (ps_set (i := 3) sc_squares.nd rfl (Or.inl rfl) (pe_lst pa_nil))
    (pss_cons (ps_for PassesOwn.never rfl (pi_range2 (by rfl) T.range (pa_cons pe_int (pa_cons (pv 0) pa_nil))) (pg_name (i := 4) sc_squares.nd rfl (Or.inr rfl))
    (pss_one (ps_expr (pe_bm PySem.F.plainAttrs_list PySem.F.slot_list_extend PySem.F.type_list_extend mt_extend (pv 3) (pa_cons (pe_lc (own := [("j", 5)]) rfl sc_squares.nd (pi_range2 (by rfl) T.range (pa_cons pe_int (pa_cons (pv 0) pa_nil))) (blkOk_by (by kernel_rfl)) (fun _ _ _ _ _ => pg_name (i := 5) sc_squares.nd rfl (Or.inl rfl)) (fun _ _ _ _ _ => pts_one (pt_cmpR op_eq (pe_op op_mod (pe_op op_add (pv 4) (pv 5)) pe_int) (pv 2) (nomark _))) (fun _ _ _ _ _ => (pe_tup (pa_cons (pv 4) (pa_cons (pv 5) pa_nil))))) pa_nil)))))
    (pss_one (ps_ret (pv 3))))))),
    fun ds y h => ?_⟩), gm, F.kp, FunD.bindsN F fun _ _ _ _ _ _ us hl => match us, hl with | [_, _], _ => rfl⟩
  cases h with
  | @mk n h1 h2 dk =>
  refine run_seq (run_drop (g_call (ga_cons (g_var rfl rfl) (ga_cons g_int ga_nil)) (.mk (by omega) (by omega))) ?_)
  refine run_seq (run_asg (x := .int (if dk = true then 1 else 0)) (g_is (g_intB (g_eqS (g_var rfl rfl) g_str)) ?_) ?_)
  · cases dk <;> rfl
  refine run_seq (run_asgO (gn_lst ga_nil) ?_)
  refine run_seq (run_for (gi_rng2 (ga_cons g_int (ga_cons (g_var rfl rfl) ga_nil))) (fun t => [.d (.int n), .d (.str (shade dk)), .d (.int (if dk = true then 1 else 0)), .own (dP (sqs n dk t)), .no, .no]) ?_ ?_ ?_)
  · walk_at "le"
  · intro t x hx
    obtain ⟨ht, rfl⟩ := get_rg hx
    refine ⟨_, _, gg_name, ?_⟩
    refine run_ext rfl (es := dP (sqRow n dk (1 + (t : Nat)))) (gn_is (gn_lc (ts := [5]) (f := fun b => decide ((1 + (t : Nat) + ((1 : Int) + (b : Nat))) % 2 = if dk = true then 1 else 0)) (w := fun b => .tup [.int (1 + (t : Nat)), .int (1 + (b : Nat))]) (gi_rng2 (ga_cons g_int (ga_cons (g_var rfl rfl) ga_nil))) ?_ (by simp) ?_) ?_) ?_ ?_
    · rw [rgD_len]; omega
    · intro b x hx
      obtain ⟨hb, rfl⟩ := get_rg hx
      refine ⟨_, gg_name, gt_test (g_eqI (g_mod (g_add (g_var rfl rfl) (g_var rfl rfl)) g_int (by decide)) (g_var rfl rfl)), fun _ => g_tup (ga_cons (g_var rfl rfl) (ga_cons (g_var rfl rfl) ga_nil))⟩
    · rw [rgD_len, show ((n : Int) - 1).toNat = n - 1 by omega]
      unfold givenD dP sqRow
      rw [List.filter_map, List.map_map, List.map_map]
      rfl
    · have a := sqs_len n dk t
      have b := sqRow_len n dk (1 + (t : Nat))
      have : t * n ≤ 12 * 12 := Nat.mul_le_mul (by omega) (by omega)
      show (dP _).length + (dP _).length ≤ 100000
      unfold dP
      rw [List.length_map, List.length_map]
      omega
    · refine Le.cons .rfl (Le.cons .rfl (Le.cons .rfl (Le.cons (SLe.eq ?_) (Le.cons .no (Le.cons .no Le.nil)))))
      show Sl.own (dP _ ++ dP _) = Sl.own (dP (sqs n dk t ++ sqRow n dk (1 + (t : Nat))))
      unfold dP
      rw [List.map_append]
  · rw [rgD_len, show ((n : Int) - 1).toNat = n - 1 by omega]
    exact run_weak (i := 3) rfl .of (run_ret (g_var rfl rfl) rfl)
inductive R_is_table : List Dt → Dt → Prop
  | mk (n m : Nat) (f : Int → Int → Int) : R_is_table [.lst (dM n m f), .int n, .int m] (.bl true)
theorem sc_is_table : FnScope ["thing", "rows", "columns", "row", "number"] ["thing", "rows", "columns"] (defScope s_is_table) := ⟨rfl, rfl, rfl, by decide +kernel, rfl, by decide +kernel, by decide +kernel⟩
theorem ok_is_table (h : Fs K mg "is_table" s_is_table) (T : Tx mg) (c_is_whole : CallS Pg w K mg base 1 "is_whole" ["thing"] (spD K R_is_whole)) : CallS Pg w K mg base 2 "is_table" ["thing", "rows", "columns"] (spD K R_is_table) := by
  obtain ⟨a, fd, F, gm⟩ := h
  refine ⟨a, fd, of_data F sc_is_table (fun ds y h => by cases h; rfl) (fun cdv A outer s H E hr => ⟨_,
    (pss_cons (ps_if (PW.pt (pw_or (pt_not (pt_val (pe_callB call_isi (by rfl) T.isinstance (by decide +kernel) (pa_cons (pv 0) (pa_cons (pe_bltn (v := .ty "list") (by rfl) T.list (by decide +kernel) rfl) pa_nil))))) (pw_or1 (pt_cmpR op_ne (pe_callB (call_lenK K) (by rfl) T.len PySem.boot_len (pa_cons (pv 0) pa_nil)) (pv 1) (nomark _)))))
    (pss_one (ps_ret pe_bl))
    pss_nil)
    (pss_cons (ps_for PassesOwn.never rfl (pi_listK K (pv 0)) (pg_name (i := 3) sc_is_table.nd rfl (Or.inl rfl))
    (pss_cons (ps_if (PW.pt (pw_or (pt_not (pt_val (pe_callB call_isi (by rfl) T.isinstance (by decide +kernel) (pa_cons (pv 3) (pa_cons (pe_bltn (v := .ty "list") (by rfl) T.list (by decide +kernel) rfl) pa_nil))))) (pw_or1 (pt_cmpR op_ne (pe_callB (call_lenK K) (by rfl) T.len PySem.boot_len (pa_cons (pv 3) pa_nil)) (pv 2) (nomark _)))))
    (pss_one (ps_ret pe_bl))
    pss_nil)
    (pss_one (ps_for PassesOwn.never rfl (pi_listK K (pv 3)) (pg_name (i := 4) sc_is_table.nd rfl (Or.inl rfl))
    (pss_one (ps_if (pt_not (pt_val (pe_callD c_is_whole hr (by rfl) (pa_cons (pv 4) pa_nil))))
    (pss_one (ps_ret pe_bl))
    pss_nil))))))
    (pss_one (ps_ret pe_bl)))),
    fun ds y h => ?_⟩), gm, F.kp, FunD.bindsN F fun _ _ _ _ _ _ us hl => match us, hl with | [_, _, _], _ => rfl⟩
  cases h with
  | mk n m f =>
  refine run_seq (run_ifF (gt_or (gt_not (gt_val (g_isi (a := true) (g_var rfl rfl) rfl (by decide +kernel)))) fun _ => gt_test (g_neI (g_len (g_var rfl rfl)) (g_var rfl rfl))) ?_ (run_next ?_))
  · rw [dM_len, decide_eq_true rfl]; rfl
  refine run_seq (run_for (gi_list (g_var rfl rfl)) (fun t => [.d (.lst (dM n m f)), .d (.int n), .d (.int m), .no, .no]) ?_ ?_ ?_)
  · walk_at "le"
  · intro t x hx
    obtain ⟨ht, rfl⟩ := get_M hx
    refine ⟨_, _, gg_name, ?_⟩
    refine run_seq (run_ifF (gt_or (gt_not (gt_val (g_isi (a := true) (g_var rfl rfl) rfl (by decide +kernel)))) fun _ => gt_test (g_neI (g_len (g_var rfl rfl)) (g_var rfl rfl))) ?_ (run_next ?_))
    · rw [dRow_len, decide_eq_true rfl]; rfl
    refine run_for (gi_list (g_var rfl rfl)) (fun u => [.d (.lst (dM n m f)), .d (.int n), .d (.int m), .d (.lst (dRow m (f t))), .no]) ?_ ?_ ?_
    · walk_at "le"
    · intro u x hx
      obtain ⟨hu, rfl⟩ := get_row hx
      refine ⟨_, _, gg_name, ?_⟩
      refine run_ifF (gt_not (gt_val (g_call (ga_cons (g_var rfl rfl) ga_nil) (.mk _)))) rfl (run_next ?_)
      walk_at "le"
    · walk_at "le"
  · exact run_ret g_bl rfl
inductive R_is_form : List Dt → Dt → Prop
  | mk {n : Nat} {f : Int → Int → Int} (h1 : 1 ≤ n) (h2 : n ≤ 12) (h3 : ∀ i j : Int, 0 ≤ i → i < n → 0 ≤ j → j < n → -1 ≤ f i j ∧ f i j ≤ 1) : R_is_form [.lst (dM n n f)] (.bl true)
theorem sc_is_form : FnScope ["thing", "row", "sign"] ["thing"] (defScope s_is_form) := ⟨rfl, rfl, rfl, by decide +kernel, rfl, by decide +kernel, by decide +kernel⟩
theorem ok_is_form (h : Fs K mg "is_form" s_is_form) (T : Tx mg) (c_is_table : CallS Pg w K mg base 2 "is_table" ["thing", "rows", "columns"] (spD K R_is_table)) : CallS Pg w K mg base 3 "is_form" ["thing"] (spD K R_is_form) := by
  obtain ⟨a, fd, F, gm⟩ := h
  refine ⟨a, fd, of_data F sc_is_form (fun ds y h => by cases h; rfl) (fun cdv A outer s H E hr => ⟨_,
    (pss_cons (ps_if (PW.pt (pw_or (pt_not (pt_val (pe_callB call_isi (by rfl) T.isinstance (by decide +kernel) (pa_cons (pv 0) (pa_cons (pe_bltn (v := .ty "list") (by rfl) T.list (by decide +kernel) rfl) pa_nil))))) (pw_or (pt_cmpR op_lt (pe_callB (call_lenK K) (by rfl) T.len PySem.boot_len (pa_cons (pv 0) pa_nil)) pe_int (nomark _)) (pw_or1 (pt_cmpR op_gt (pe_callB (call_lenK K) (by rfl) T.len PySem.boot_len (pa_cons (pv 0) pa_nil)) (pe_glob (v := .int 12) (by rfl) T.MOST.choose_spec ⟨_, rfl⟩) (nomark _))))))
    (pss_one (ps_ret pe_bl))
    pss_nil)
    (pss_cons (ps_if (pt_not (pt_val (pe_callD c_is_table hr (by rfl) (pa_cons (pv 0) (pa_cons (pe_callB (call_lenK K) (by rfl) T.len PySem.boot_len (pa_cons (pv 0) pa_nil)) (pa_cons (pe_callB (call_lenK K) (by rfl) T.len PySem.boot_len (pa_cons (pv 0) pa_nil)) pa_nil))))))
    (pss_one (ps_ret pe_bl))
    pss_nil)
    (pss_cons (ps_for PassesOwn.never rfl (pi_listK K (pv 0)) (pg_name (i := 1) sc_is_form.nd rfl (Or.inl rfl))
    (pss_one (ps_for PassesOwn.never rfl (pi_listK K (pv 1)) (pg_name (i := 2) sc_is_form.nd rfl (Or.inl rfl))
    (pss_one (ps_if (PW.pt (pw_or (pt_cmpR op_lt (pv 2) (pe_un un_neg pe_int) (nomark _)) (pw_or1 (pt_cmpR op_gt (pv 2) pe_int (nomark _)))))
    (pss_one (ps_ret pe_bl))
    pss_nil)))))
    (pss_one (ps_ret pe_bl))))),
    fun ds y h => ?_⟩), gm, F.kp, FunD.bindsN F fun _ _ _ _ _ _ us hl => match us, hl with | [_], _ => rfl⟩
  cases h with
  | @mk n f h1 h2 h3 =>
  refine run_seq (run_ifF (gt_or (gt_not (gt_val (g_isi (a := true) (g_var rfl rfl) rfl (by decide +kernel)))) fun _ => gt_or (gt_test (g_lt (g_len (g_var rfl rfl)) g_int)) fun _ => gt_test (g_gt (g_len (g_var rfl rfl)) g_int)) ?_ (run_next ?_))
  · rw [dM_len, decide_eq_false (by omega), decide_eq_false (by omega)]; rfl
  refine run_seq (run_ifF (gt_not (gt_val (g_call (ga_cons (g_var rfl rfl) (ga_cons (g_is (g_len (g_var rfl rfl)) (by rw [dM_len])) (ga_cons (g_is (g_len (g_var rfl rfl)) (by rw [dM_len])) ga_nil))) (.mk n n f)))) rfl (run_next ?_))
  refine run_seq (run_for (gi_list (g_var rfl rfl)) (fun t => [.d (.lst (dM n n f)), .no, .no]) ?_ ?_ ?_)
  · walk_at "le"
  · intro t x hx
    obtain ⟨ht, rfl⟩ := get_M hx
    refine ⟨_, _, gg_name, ?_⟩
    refine run_for (gi_list (g_var rfl rfl)) (fun u => [.d (.lst (dM n n f)), .d (.lst (dRow n (f t))), .no]) ?_ ?_ ?_
    · walk_at "le"
    · intro u x hx
      obtain ⟨hu, rfl⟩ := get_row hx
      have hb := h3 t u (by omega) (by omega) (by omega) (by omega)
      refine ⟨_, _, gg_name, ?_⟩
      refine run_ifF (gt_or (gt_test (g_lt (g_var rfl rfl) (g_neg g_int))) fun _ => gt_test (g_gt (g_var rfl rfl) g_int)) ?_ (run_next ?_)
      · rw [decide_eq_false (by omega), decide_eq_false (by omega)]; rfl
      · walk_at "le"
    · walk_at "le"
  · exact run_ret g_bl rfl
end
end GY
end
section
set_option Elab.async false
set_option linter.all false
set_option maxRecDepth 100000
set_option maxHeartbeats 4000000
namespace GY
open PySem PySem.Spec PyProof.Rows L2
open Evl (Ex fresh_back)
local macro_rules | `(tactic| walk_at "le") => `(tactic| (repeat (first | exact Le.nil | refine Le.cons (by first | exact SLe.rfl | exact SLe.no | exact SLe.fd | exact SLe.od | exact SLe.of | exact SLe.tf | exact SLe.sc rfl) ?_)))
section
variable {Pg : Program} {w : World} {K : PySem.W.Frag} {mg : Str → Option Value} {base : Heap}
inductive R_signs_fault : List Dt → Dt → Prop
  | mk {n : Nat} {h : Int → Int → Int} (hv : HV n h) : R_signs_fault [.lst (dM n n (sgn h))] .non
theorem sc_signs_fault : FnScope ["thing", "n", "c", "columns", "r", "total", "least_row", "least_column"] ["thing"] (defScope s_signs_fault) := ⟨rfl, rfl, rfl, by decide +kernel, rfl, by decide +kernel, by decide +kernel⟩
theorem ok_signs_fault (h : Fs K mg "signs_fault" s_signs_fault) (T : Tx mg) (c_is_form : CallS Pg w K mg base 3 "is_form" ["thing"] (spD K R_is_form)) : CallS Pg w K mg base 4 "signs_fault" ["thing"] (spD K R_signs_fault) := by
  obtain ⟨a, fd, F, gm⟩ := h
  refine ⟨a, fd, of_data F sc_signs_fault (fun ds y h => by cases h; rfl) (fun cdv A outer s H E hr => ⟨_,
    (pss_cons (ps_if (pt_not (pt_val (pe_callD c_is_form hr (by rfl) (pa_cons (pv 0) pa_nil))))
    (pss_one (ps_ret pe_non))
    pss_nil)
    (pss_cons (ps_set (i := 1) sc_signs_fault.nd rfl (Or.inl rfl) (pe_callB (call_lenK K) (by rfl) T.len PySem.boot_len (pa_cons (pv 0) pa_nil)))
    (pss_cons (ps_setLc (i := 3) (own := [("c", 2)]) rfl sc_signs_fault.nd rfl rfl (sw_true rfl rfl rfl (by decide +kernel)) (pi_range1 (by rfl) T.range (pa_cons (pv 1) pa_nil)) (blkOk_by (by kernel_rfl)) (fun _ _ _ _ _ => pg_name (i := 2) sc_signs_fault.nd rfl (Or.inl rfl)) (fun _ _ _ _ _ => pts_nil) (fun _ _ _ _ _ => pe_int))
    (pss_cons (ps_for PassesOwn.never rfl (pi_range1 (by rfl) T.range (pa_cons (pv 1) pa_nil)) (pg_name (i := 4) sc_signs_fault.nd rfl (Or.inl rfl))
    (pss_cons (ps_set (i := 5) sc_signs_fault.nd rfl (Or.inl rfl) pe_int)
    (pss_one (ps_for PassesOwn.never rfl (pi_range1 (by rfl) T.range (pa_cons (pv 1) pa_nil)) (pg_name (i := 2) sc_signs_fault.nd rfl (Or.inl rfl))
    (pss_cons (ps_set (i := 5) sc_signs_fault.nd rfl (Or.inl rfl) (pe_op op_add (pv 5) (pe_ix (ix_listK K) (pe_ix (ix_listK K) (pv 0) (pv 4) (fun _ _ => rfl)) (pv 2) (fun _ _ => rfl))))
    (pss_cons (ps_asg (pe_op op_add (pe_ix (ix_listK K) (pv 3) (pv 2) (fun _ _ => rfl)) (pe_ix (ix_listK K) (pe_ix (ix_listK K) (pv 0) (pv 4) (fun _ _ => rfl)) (pv 2) (fun _ _ => rfl))) (pg_sub (pv 3) (pv 2) set_list))
    (pss_cons (ps_set (i := 6) sc_signs_fault.nd rfl (Or.inl rfl) (pe_callTy call_int1 (by rfl) T.int (by decide +kernel) (pa_cons (pe_cmpR op_eq (pv 2) (pe_op op_sub (pv 1) pe_int) (nomark _)) pa_nil)))
    (pss_cons (ps_set (i := 7) sc_signs_fault.nd rfl (Or.inl rfl) (pe_callTy call_int1 (by rfl) T.int (by decide +kernel) (pa_cons (pe_cmpR op_eq (pv 4) (pe_op op_sub (pv 1) pe_int) (nomark _)) pa_nil)))
    (pss_one (ps_if (PW.pt (pw_or (pt_not (pt_chain op_le op_le (pv 6) (pv 5) pe_int)) (pw_or1 (pt_not (pt_chain op_le op_le (pv 7) (pe_ix (ix_listK K) (pv 3) (pv 2) (fun _ _ => rfl)) pe_int)))))
    (pss_one (ps_ret (pe_tup (pa_cons (pv 4) (pa_cons (pv 2) pa_nil)))))
    pss_nil))))))))))
    (pss_one (ps_ret pe_non)))))),
    fun ds y h => ?_⟩), gm, F.kp, FunD.bindsN F fun _ _ _ _ _ _ us hl => match us, hl with | [_], _ => rfl⟩
  cases h with
  | @mk n h hv =>
  have hn := hv.pos
  have hn2 := hv.le
  refine run_seq (run_ifF (gt_not (gt_val (g_call (ga_cons (g_var rfl rfl) ga_nil) (.mk hn hn2 fun i j h0 h1 h2 h3 => by have := hv.sgn_range h0 h1 h2 h3; omega)))) rfl (run_next ?_))
  refine run_seq (run_asg (g_is (g_len (g_var rfl rfl)) (by rw [dM_len])) ?_)
  refine run_seq (run_asgO (ds := dRow n (csum h 0)) (gn_is (gn_lc0 (ts := [2]) (w := fun _ => .int 0) (gi_rng1 (ga_cons (g_var rfl rfl) ga_nil)) ?_ (by simp) fun c x hx => ⟨_, gg_name, g_int⟩) ?_) ?_)
  · rw [rgD_len]; omega
  · rw [rgD_len, show ((n : Int)).toNat = n by omega, dRow_const]
    exact dRow_ext fun i h0 h1 => (hv.csum0 h0 h1).symm
  refine run_seq (run_for (gi_rng1 (ga_cons (g_var rfl rfl) ga_nil)) (fun t => [.d (.lst (dM n n (sgn h))), .d (.int n), .no, .own (dRow n (csum h t)), .no, .no, .no, .no]) ?_ ?_ ?_)
  · walk_at "le"
  · intro t x hx
    obtain ⟨ht, rfl⟩ := get_rg0 hx
    rw [show ((n : Int)).toNat = n by omega] at ht
    refine ⟨_, _, gg_name, ?_⟩
    refine run_seq (run_asg g_int ?_)
    refine run_for (gi_rng1 (ga_cons (g_var rfl rfl) ga_nil)) (fun u => [.d (.lst (dM n n (sgn h))), .d (.int n), .no, .own (dRow n (fun c => if c < (u : Nat) then csum h (t + 1) c else csum h t c)), .d (.int t), .d (.int (rsum h t u)), .no, .no]) ?_ ?_ ?_
    · refine Le.cons .rfl (Le.cons .rfl (Le.cons .no (Le.cons (SLe.eq ?_) (Le.cons .rfl (Le.cons (SLe.eq ?_) (Le.cons .no (Le.cons .no Le.nil)))))))
      · exact congrArg Sl.own (dRow_ext fun i h0 h1 => by rw [if_neg (by omega)])
      · show Sl.d (.int 0) = Sl.d (.int (rsum h t 0))
        rw [hv.rsum0 (by omega) (by omega)]
    · intro u x hx
      obtain ⟨hu, rfl⟩ := get_rg0 hx
      rw [show ((n : Int)).toNat = n by omega] at hu
      refine ⟨_, _, gg_name, ?_⟩
      -- total = total + thing[r][c]
      refine run_seq (run_asg (x := .int (rsum h t (u + 1))) (g_is (g_add (g_var rfl rfl) (g_ixLs (g_ixL (g_var rfl rfl) (g_var rfl rfl) (at_M (by omega) (by omega))) (g_var rfl rfl) (at_row (by omega) (by omega)))) ?_) ?_)
      · rw [hv.rsumS (by omega) (by omega) (by omega) (by omega)]
      -- columns[c] = columns[c] + thing[r][c]
      refine run_seq (run_setL (x := .int (csum h (t + 1) u)) rfl (g_is (g_add (g_ixLs (g_var rfl rfl) (g_var rfl rfl) (at_row (by omega) (by omega))) (g_ixLs (g_ixL (g_var rfl rfl) (g_var rfl rfl) (at_M (by omega) (by omega))) (g_var rfl rfl) (at_row (by omega) (by omega)))) ?_) (g_var rfl rfl) ?_ ?_)
      · rw [if_neg (by omega), hv.csumS (by omega) (by omega) (by omega) (by omega)]
      · rw [dRow_len]; exact hu
      -- least_row, least_column
      refine run_seq (run_asg (g_intB (g_eqI (g_var rfl rfl) (g_sub (g_var rfl rfl) g_int))) ?_)
      refine run_seq (run_asg (g_intB (g_eqI (g_var rfl rfl) (g_sub (g_var rfl rfl) g_int))) ?_)
      have r01 := hv.rsum01 (r := t) (j := u + 1) (by omega) (by omega) (by omega) (by omega)
      have c01 := hv.csum01 (i := t + 1) (c := u) (by omega) (by omega) (by omega) (by omega)
      have l1 : (if decide ((u : Int) = n - 1) = true then (1 : Int) else 0) ≤ rsum h t (u + 1) := by
        by_cases e : (u : Int) = n - 1
        · have := hv.rsumN (r := t) (by omega) (by omega)
          rw [decide_eq_true e, if_pos rfl, show (u : Int) + 1 = n by omega]
          omega
        · rw [decide_eq_false e, if_neg (by decide)]
          omega
      have l2 : (if decide ((t : Int) = n - 1) = true then (1 : Int) else 0) ≤ csum h (t + 1) u := by
        by_cases e : (t : Int) = n - 1
        · have := hv.csumN (c := u) (by omega) (by omega)
          rw [decide_eq_true e, if_pos rfl, show (t : Int) + 1 = n by omega]
          omega
        · rw [decide_eq_false e, if_neg (by decide)]
          omega
      refine run_ifF (gt_or (gt_not (gt_test (g_chain (g_var rfl rfl) (g_var rfl rfl) fun _ => g_int))) fun _ => gt_not (gt_test (g_chain (g_var rfl rfl) (g_is (g_ixLs (g_var rfl rfl) (g_var rfl rfl) (by rw [dRow_set]; exact at_row (by omega) (by omega))) (by rw [if_pos rfl])) fun _ => g_int))) ?_ (run_next ?_)
      · rw [decide_eq_true l1, decide_eq_true l2, decide_eq_true (show rsum h t (u + 1) ≤ 1 by omega), decide_eq_true (show csum h (t + 1) u ≤ 1 by omega)]
        rfl
      · refine Le.cons .rfl (Le.cons .rfl (Le.cons .no (Le.cons (SLe.eq ?_) (Le.cons .rfl (Le.cons .rfl (Le.cons .no (Le.cons .no Le.nil)))))))
        show Sl.own ((dRow n _).set u _) = _
        rw [dRow_set]
        refine congrArg Sl.own (dRow_ext fun i h0 h1 => ?_)
        by_cases e : i = (u : Nat)
        · rw [if_pos e, if_pos (by omega), e]
        · rw [if_neg e]
          by_cases e2 : i < (u : Nat)
          · rw [if_pos e2, if_pos (by omega)]
          · rw [if_neg e2, if_neg (by omega)]
    · rw [rgD_len, show ((n : Int)).toNat = n by omega]
      refine Le.cons .rfl (Le.cons .rfl (Le.cons .no (Le.cons (SLe.eq ?_) (Le.cons .no (Le.cons .no (Le.cons .no (Le.cons .no Le.nil)))))))
      exact congrArg Sl.own (dRow_ext fun i h0 h1 => by rw [if_pos h1]; rfl)
  · exact run_ret g_non rfl
inductive R_is_state : List Dt → Dt → Prop
  | mk {n : Nat} {h : Int → Int → Int} (hv : HV n h) : R_is_state [.lst (dM n n (sgn h))] (.bl true)
theorem sc_is_state : FnScope ["thing"] ["thing"] (defScope s_is_state) := ⟨rfl, rfl, rfl, by decide +kernel, rfl, by decide +kernel, by decide +kernel⟩
theorem ok_is_state (h : Fs K mg "is_state" s_is_state) (T : Tx mg) (c_is_form : CallS Pg w K mg base 3 "is_form" ["thing"] (spD K R_is_form)) (c_signs_fault : CallS Pg w K mg base 4 "signs_fault" ["thing"] (spD K R_signs_fault)) : CallS Pg w K mg base 5 "is_state" ["thing"] (spD K R_is_state) := by
  obtain ⟨a, fd, F, gm⟩ := h
  refine ⟨a, fd, of_data F sc_is_state (fun ds y h => by cases h; rfl) (fun cdv A outer s H E hr => ⟨_,
    (pss_one (ps_ret (pe_and (pe_callD c_is_form (hr.mono (by decide)) (by rfl) (pa_cons (pv 0) pa_nil)) (pe_one (pe_cmpR op_isN (pe_callD c_signs_fault hr (by rfl) (pa_cons (pv 0) pa_nil)) pe_non (nomark _)))))),
    fun ds y h => ?_⟩), gm, F.kp, FunD.bindsN F fun _ _ _ _ _ _ us hl => match us, hl with | [_], _ => rfl⟩
  cases h with
  | @mk n h hv =>
  exact run_ret (g_and (g_call (ga_cons (g_var rfl rfl) ga_nil) (.mk hv.pos hv.le fun i j h0 h1 h2 h3 => by have := hv.sgn_range h0 h1 h2 h3; omega)) fun _ => g_isN (g_call (ga_cons (g_var rfl rfl) ga_nil) (.mk hv))) rfl
def rimD (n i j : Int) : Dt := if i = 0 ∨ j = 0 then .int (i + j) else if i = n ∨ j = n then .int (2 * n - i - j) else .non
inductive R_rim_height : List Dt → Dt → Prop
  | mk (n i j : Int) : R_rim_height [.int n, .int i, .int j] (rimD n i j)
theorem sc_rim_height : FnScope ["n", "i", "j"] ["n", "i", "j"] (defScope s_rim_height) := ⟨rfl, rfl, rfl, by decide +kernel, rfl, by decide +kernel, by decide +kernel⟩
theorem ok_rim_height (h : Fs K mg "rim_height" s_rim_height) (T : Tx mg)  : CallS Pg w K mg base 1 "rim_height" ["n", "i", "j"] (spD K R_rim_height) := by
  obtain ⟨a, fd, F, gm⟩ := h
  refine ⟨a, fd, of_data F sc_rim_height (fun ds y h => by cases h; rfl) (fun cdv A outer s H E hr => ⟨_,
    (pss_cons (ps_if (PW.pt (pw_or (pt_cmpR op_eq (pv 1) pe_int (nomark _)) (pw_or1 (pt_cmpR op_eq (pv 2) pe_int (nomark _)))))
    (pss_one (ps_ret (pe_op op_add (pv 1) (pv 2))))
    pss_nil)
    (pss_cons (ps_if (PW.pt (pw_or (pt_cmpR op_eq (pv 1) (pv 0) (nomark _)) (pw_or1 (pt_cmpR op_eq (pv 2) (pv 0) (nomark _)))))
    (pss_one (ps_ret (pe_op op_sub (pe_op op_sub (pe_op op_mul pe_int (pv 0)) (pv 1)) (pv 2))))
    pss_nil)
    (pss_one (ps_ret pe_non)))),
    fun ds y h => ?_⟩), gm, F.kp, FunD.bindsN F fun _ _ _ _ _ _ us hl => match us, hl with | [_, _, _], _ => rfl⟩
  cases h with
  | mk n i j =>
  refine run_seq (run_if (gt_or (gt_test (g_eqI (g_var rfl rfl) g_int)) fun _ => gt_test (g_eqI (g_var rfl rfl) g_int)) (fun hb => ?_) (fun hb => run_next ?_))
  · refine run_ret (g_add (g_var rfl rfl) (g_var rfl rfl)) ?_
    have : i = 0 ∨ j = 0 := by simpa using hb
    show _ = rimD n i j
    unfold rimD
    rw [if_pos this]
  · have h1 : ¬ (i = 0 ∨ j = 0) := by simpa using hb
    refine run_seq (run_if (gt_or (gt_test (g_eqI (g_var rfl rfl) (g_var rfl rfl))) fun _ => gt_test (g_eqI (g_var rfl rfl) (g_var rfl rfl))) (fun hb => ?_) (fun hb => run_next ?_))
    · refine run_ret (g_sub (g_sub (g_mul g_int (g_var rfl rfl) (.inl ⟨by decide, by decide⟩)) (g_var rfl rfl)) (g_var rfl rfl)) ?_
      have h2 : i = n ∨ j = n := by simpa using hb
      show _ = rimD n i j
      unfold rimD
      rw [if_neg h1, if_pos h2]
    · have h2 : ¬ (i = n ∨ j = n) := by simpa using hb
      refine run_ret g_non ?_
      show _ = rimD n i j
      unfold rimD
      rw [if_neg h1, if_neg h2]
inductive R_is_amiss : List Dt → Dt → Prop
  | mk {n : Nat} {h : Int → Int → Int} (hv : HV n h) {i j : Int} (h0 : 0 ≤ i) (h1 : i ≤ n) (h2 : 0 ≤ j) (h3 : j ≤ n) : R_is_amiss [.lst (dM (n + 1) (n + 1) h), .int n, .int i, .int j] (.bl false)
theorem abs1 {x y : Int} (h : x = y + 1 ∨ x = y - 1) : (if x - y < 0 then -(x - y) else x - y) = 1 := by
  by_cases c : x - y < 0
  · rw [if_pos c]; omega
  · rw [if_neg c]; omega
theorem sc_is_amiss : FnScope ["thing", "n", "i", "j", "due"] ["thing", "n", "i", "j"] (defScope s_is_amiss) := ⟨rfl, rfl, rfl, by decide +kernel, rfl, by decide +kernel, by decide +kernel⟩
theorem ok_is_amiss (h : Fs K mg "is_amiss" s_is_amiss) (T : Tx mg) (c_rim_height : CallS Pg w K mg base 1 "rim_height" ["n", "i", "j"] (spD K R_rim_height)) : CallS Pg w K mg base 2 "is_amiss" ["thing", "n", "i", "j"] (spD K R_is_amiss) := by
  obtain ⟨a, fd, F, gm⟩ := h
  refine ⟨a, fd, of_data F sc_is_amiss (fun ds y h => by cases h; rfl) (fun cdv A outer s H E hr => ⟨_,
    (pss_cons (ps_set (i := 4) sc_is_amiss.nd rfl (Or.inl rfl) (pe_callD c_rim_height hr (by rfl) (pa_cons (pv 1) (pa_cons (pv 2) (pa_cons (pv 3) pa_nil)))))
    (pss_cons (ps_if (PW.pt (pw_and (pt_cmpR op_notN (pv 4) pe_non (nomark _)) (pw_and1 (pt_cmpR op_ne (pe_ix (ix_listK K) (pe_ix (ix_listK K) (pv 0) (pv 2) (fun _ _ => rfl)) (pv 3) (fun _ _ => rfl)) (pv 4) (nomark _)))))
    (pss_one (ps_ret pe_bl))
    pss_nil)
    (pss_cons (ps_if (PW.pt (pw_and (pt_cmpR op_gt (pv 2) pe_int (nomark _)) (pw_and1 (pt_cmpR op_ne (pe_callB call_abs (by rfl) T.abs (by decide +kernel) (pa_cons (pe_op op_sub (pe_ix (ix_listK K) (pe_ix (ix_listK K) (pv 0) (pv 2) (fun _ _ => rfl)) (pv 3) (fun _ _ => rfl)) (pe_ix (ix_listK K) (pe_ix (ix_listK K) (pv 0) (pe_op op_sub (pv 2) pe_int) (fun _ _ => rfl)) (pv 3) (fun _ _ => rfl))) pa_nil)) pe_int (nomark _)))))
    (pss_one (ps_ret pe_bl))
    pss_nil)
    (pss_one (ps_ret (pe_and (pe_cmpR op_gt (pv 3) pe_int (nomark _)) (pe_one (pe_cmpR op_ne (pe_callB call_abs (by rfl) T.abs (by decide +kernel) (pa_cons (pe_op op_sub (pe_ix (ix_listK K) (pe_ix (ix_listK K) (pv 0) (pv 2) (fun _ _ => rfl)) (pv 3) (fun _ _ => rfl)) (pe_ix (ix_listK K) (pe_ix (ix_listK K) (pv 0) (pv 2) (fun _ _ => rfl)) (pe_op op_sub (pv 3) pe_int) (fun _ _ => rfl))) pa_nil)) pe_int (nomark _))))))))),
    fun ds y h => ?_⟩), gm, F.kp, FunD.bindsN F fun _ _ _ _ _ _ us hl => match us, hl with | [_, _, _, _], _ => rfl⟩
  cases h with
  | @mk n h hv i j h0 h1 h2 h3 =>
  -- due = rim_height(n, i, j)
  refine run_seq (run_asg (g_call (ga_cons (g_var rfl rfl) (ga_cons (g_var rfl rfl) (ga_cons (g_var rfl rfl) ga_nil))) (.mk n i j)) ?_)
  have at2 : ∀ {a b : Int}, 0 ≤ a → a ≤ n → 0 ≤ b → b ≤ n → ∀ {ta tb : TE}, G K .r ta [.d (.lst (dM (n + 1) (n + 1) h)), .d (.int n), .d (.int i), .d (.int j), .d (rimD n i j)] (.int a) → G K .r tb [.d (.lst (dM (n + 1) (n + 1) h)), .d (.int n), .d (.int i), .d (.int j), .d (rimD n i j)] (.int b) →
      G K .r (tOp (rIxL K) (tOp (rIxL K) (tVar 0) ta) tb) [.d (.lst (dM (n + 1) (n + 1) h)), .d (.int n), .d (.int i), .d (.int j), .d (rimD n i j)] (.int (h a b)) := fun a0 a1 b0 b1 _ _ ga gb =>
    g_ixLs (g_ixL (g_var rfl rfl) ga (at_M (by omega) (by omega))) gb (at_row (by omega) (by omega))
  refine run_seq (run_ifF (b := false) ?_ rfl (run_next ?_))
  · by_cases c1 : i = 0 ∨ j = 0
    · have e : h i j = i + j := by
        rcases c1 with c | c
        · rw [c, hv.top j h2 h3]; omega
        · rw [c, hv.left i h0 h1]; omega
      have er : rimD n i j = .int (i + j) := by unfold rimD; rw [if_pos c1]
      refine gt_is (gt_and (gt_test (g_notN (g_var (x := .int (i + j)) (congrArg some (congrArg Sl.d er)) rfl))) fun _ => gt_test (g_neI (at2 h0 h1 h2 h3 (g_var rfl rfl) (g_var rfl rfl)) (g_var (congrArg some (congrArg Sl.d er)) rfl))) ?_
      rw [e, decide_eq_true rfl]
      rfl
    · by_cases c2 : i = n ∨ j = n
      · have e : h i j = 2 * n - i - j := by
          rcases c2 with c | c
          · rw [c, hv.bot j h2 h3]; omega
          · rw [c, hv.rig i h0 h1]; omega
        have er : rimD n i j = .int (2 * n - i - j) := by unfold rimD; rw [if_neg c1, if_pos c2]
        refine gt_is (gt_and (gt_test (g_notN (g_var (x := .int (2 * n - i - j)) (congrArg some (congrArg Sl.d er)) rfl))) fun _ => gt_test (g_neI (at2 h0 h1 h2 h3 (g_var rfl rfl) (g_var rfl rfl)) (g_var (congrArg some (congrArg Sl.d er)) rfl))) ?_
        rw [e, decide_eq_true rfl]
        rfl
      · have er : rimD n i j = .non := by unfold rimD; rw [if_neg c1, if_neg c2]
        refine gt_is (gt_and (b := false) (gt_test (g_notN (g_var (x := .non) (congrArg some (congrArg Sl.d er)) rfl))) fun z => by cases z) ?_
        rfl
  refine run_seq (run_ifF (b := false) ?_ rfl (run_next ?_))
  · refine gt_is (gt_and (b := false) (gt_test (g_gt (g_var rfl rfl) g_int)) fun z => ?_) (by rw [Bool.and_false])
    have i0 : 0 < i := of_decide_eq_true z
    refine gt_is (gt_test (g_neI (g_abs (g_sub (at2 h0 h1 h2 h3 (g_var rfl rfl) (g_var rfl rfl)) (at2 (a := i - 1) (b := j) (by omega) (by omega) h2 h3 (g_sub (g_var rfl rfl) g_int) (g_var rfl rfl)))) g_int)) ?_
    have := hv.ver (i - 1) j (by omega) (by omega) h2 h3
    rw [show i - 1 + 1 = i by omega] at this
    rw [abs1 this, decide_eq_true rfl]
    rfl
  · refine run_ret (g_is (g_and (b := false) (g_gt (g_var rfl rfl) g_int) fun z => ?_) ?_) rfl
    · have j0 : 0 < j := of_decide_eq_true z
      refine g_is (g_neI (g_abs (g_sub (at2 h0 h1 h2 h3 (g_var rfl rfl) (g_var rfl rfl)) (at2 (a := i) (b := j - 1) h0 h1 (by omega) (by omega) (g_var rfl rfl) (g_sub (g_var rfl rfl) g_int)))) g_int) ?_
      have := hv.hor i (j - 1) h0 h1 (by omega) (by omega)
      rw [show j - 1 + 1 = j by omega] at this
      rw [abs1 this, decide_eq_true rfl]
      rfl
    · rw [Bool.and_false]
inductive R_look_heights : List Dt → Dt → Prop
  | mk {n : Nat} {h : Int → Int → Int} (hv : HV n h) : R_look_heights [.lst (dM (n + 1) (n + 1) h)] .non
theorem sc_look_heights : FnScope ["thing", "n", "i", "j"] ["thing"] (defScope s_look_heights) := ⟨rfl, rfl, rfl, by decide +kernel, rfl, by decide +kernel, by decide +kernel⟩
theorem ok_look_heights (h : Fs K mg "look_heights" s_look_heights) (T : Tx mg) (c_is_table : CallS Pg w K mg base 2 "is_table" ["thing", "rows", "columns"] (spD K R_is_table)) (c_is_amiss : CallS Pg w K mg base 2 "is_amiss" ["thing", "n", "i", "j"] (spD K R_is_amiss)) : CallS Pg w K mg base 3 "look_heights" ["thing"] (spD K R_look_heights) := by
  obtain ⟨a, fd, F, gm⟩ := h
  refine ⟨a, fd, of_data F sc_look_heights (fun ds y h => by cases h; rfl) (fun cdv A outer s H E hr => ⟨_,
    (pss_cons (ps_if (PW.pt (pw_or (pt_not (pt_val (pe_callB call_isi (by rfl) T.isinstance (by decide +kernel) (pa_cons (pv 0) (pa_cons (pe_bltn (v := .ty "list") (by rfl) T.list (by decide +kernel) rfl) pa_nil))))) (pw_or (pt_cmpR op_lt (pe_callB (call_lenK K) (by rfl) T.len PySem.boot_len (pa_cons (pv 0) pa_nil)) pe_int (nomark _)) (pw_or1 (pt_cmpR op_gt (pe_callB (call_lenK K) (by rfl) T.len PySem.boot_len (pa_cons (pv 0) pa_nil)) (pe_op op_add (pe_glob (v := .int 12) (by rfl) T.MOST.choose_spec ⟨_, rfl⟩) pe_int) (nomark _))))))
    (pss_one ps_never)
    pss_nil)
    (pss_cons (ps_if (pt_not (pt_val (pe_callD c_is_table hr (by rfl) (pa_cons (pv 0) (pa_cons (pe_callB (call_lenK K) (by rfl) T.len PySem.boot_len (pa_cons (pv 0) pa_nil)) (pa_cons (pe_callB (call_lenK K) (by rfl) T.len PySem.boot_len (pa_cons (pv 0) pa_nil)) pa_nil))))))
    (pss_one ps_never)
    pss_nil)
    (pss_cons (ps_set (i := 1) sc_look_heights.nd rfl (Or.inl rfl) (pe_op op_sub (pe_callB (call_lenK K) (by rfl) T.len PySem.boot_len (pa_cons (pv 0) pa_nil)) pe_int))
    (pss_one (ps_for PassesOwn.never rfl (pi_range1 (by rfl) T.range (pa_cons (pe_op op_add (pv 1) pe_int) pa_nil)) (pg_name (i := 2) sc_look_heights.nd rfl (Or.inl rfl))
    (pss_one (ps_for PassesOwn.never rfl (pi_range1 (by rfl) T.range (pa_cons (pe_op op_add (pv 1) pe_int) pa_nil)) (pg_name (i := 3) sc_look_heights.nd rfl (Or.inl rfl))
    (pss_one (ps_if (pt_val (pe_callD c_is_amiss hr (by rfl) (pa_cons (pv 0) (pa_cons (pv 1) (pa_cons (pv 2) (pa_cons (pv 3) pa_nil))))))
    (pss_one ps_never)
    pss_nil))))))))),
    fun ds y h => ?_⟩), gm, F.kp, FunD.bindsN F fun _ _ _ _ _ _ us hl => match us, hl with | [_], _ => rfl⟩
  cases h with
  | @mk n h hv =>
  have hn := hv.pos
  have hn2 := hv.le
  refine run_seq (run_ifF (gt_or (gt_not (gt_val (g_isi (a := true) (g_var rfl rfl) rfl (by decide +kernel)))) fun _ => gt_or (gt_test (g_lt (g_len (g_var rfl rfl)) g_int)) fun _ => gt_test (g_gt (g_len (g_var rfl rfl)) (g_add g_int g_int))) ?_ (run_next ?_))
  · rw [dM_len, decide_eq_false (by omega), decide_eq_false (by omega)]; rfl
  refine run_seq (run_ifF (gt_not (gt_val (g_call (ga_cons (g_var rfl rfl) (ga_cons (g_is (g_len (g_var rfl rfl)) (by rw [dM_len])) (ga_cons (g_is (g_len (g_var rfl rfl)) (by rw [dM_len])) ga_nil))) (.mk (n + 1) (n + 1) h)))) rfl (run_next ?_))
  refine run_seq (run_asg (x := .int n) (g_is (g_sub (g_len (g_var rfl rfl)) g_int) (by rw [dM_len]; exact congrArg Dt.int (by omega))) ?_)
  refine run_for (gi_rng1 (ga_cons (g_add (g_var rfl rfl) g_int) ga_nil)) (fun t => [.d (.lst (dM (n + 1) (n + 1) h)), .d (.int n), .no, .no]) ?_ ?_ ?_
  · walk_at "le"
  · intro t x hx
    obtain ⟨ht, rfl⟩ := get_rg0 hx
    refine ⟨_, _, gg_name, ?_⟩
    refine run_for (gi_rng1 (ga_cons (g_add (g_var rfl rfl) g_int) ga_nil)) (fun u => [.d (.lst (dM (n + 1) (n + 1) h)), .d (.int n), .d (.int t), .no]) ?_ ?_ ?_
    · walk_at "le"
    · intro u x hx
      obtain ⟨hu, rfl⟩ := get_rg0 hx
      refine ⟨_, _, gg_name, ?_⟩
      refine run_ifF (gt_val (g_call (ga_cons (g_var rfl rfl) (ga_cons (g_var rfl rfl) (ga_cons (g_var rfl rfl) (ga_cons (g_var rfl rfl) ga_nil)))) (.mk hv (by omega) (by omega) (by omega) (by omega)))) rfl (run_next ?_)
      walk_at "le"
    · walk_at "le"
  · rfl
inductive R_state_of_heights : List Dt → Dt → Prop
  | mk {n : Nat} {h : Int → Int → Int} (hv : HV n h) : R_state_of_heights [.lst (dM (n + 1) (n + 1) h)] (.lst (dM n n (sgn h)))
theorem sc_state_of_heights : FnScope ["thing", "n", "made", "r", "row", "c"] ["thing"] (defScope s_state_of_heights) := ⟨rfl, rfl, rfl, by decide +kernel, rfl, by decide +kernel, by decide +kernel⟩
theorem ok_state_of_heights (h : Fs K mg "state_of_heights" s_state_of_heights) (T : Tx mg) (c_look_heights : CallS Pg w K mg base 3 "look_heights" ["thing"] (spD K R_look_heights)) : CallS Pg w K mg base 4 "state_of_heights" ["thing"] (spD K R_state_of_heights) := by
  obtain ⟨a, fd, F, gm⟩ := h
  refine ⟨a, fd, of_data F sc_state_of_heights (fun ds y h => by cases h; rfl) (fun cdv A outer s H E hr => ⟨_,
    (pss_cons (ps_expr (pe_callD c_look_heights hr (by rfl) (pa_cons (pv 0) pa_nil)))
    (pss_cons (ps_set (i := 1) sc_state_of_heights.nd rfl (Or.inl rfl) (pe_op op_sub (pe_callB (call_lenK K) (by rfl) T.len PySem.boot_len (pa_cons (pv 0) pa_nil)) pe_int))
    (pss_cons (ps_set (i := 2) sc_state_of_heights.nd rfl (Or.inl rfl) (pe_lst pa_nil))
    (pss_cons (ps_for PassesOwn.never rfl (pi_range1 (by rfl) T.range (pa_cons (pv 1) pa_nil)) (pg_name (i := 3) sc_state_of_heights.nd rfl (Or.inl rfl))
    (pss_cons (ps_set (i := 4) sc_state_of_heights.nd rfl (Or.inl rfl) (pe_lst pa_nil))
    (pss_cons (ps_for PassesOwn.never rfl (pi_range1 (by rfl) T.range (pa_cons (pv 1) pa_nil)) (pg_name (i := 5) sc_state_of_heights.nd rfl (Or.inl rfl))
    (pss_one (ps_expr (pe_bm PySem.F.plainAttrs_list PySem.F.slot_list_append PySem.F.type_list_append mt_append (pv 4) (pa_cons (pe_op op_fdiv (pe_op op_sub (pe_op op_sub (pe_op op_add (pe_ix (ix_listK K) (pe_ix (ix_listK K) (pv 0) (pv 3) (fun _ _ => rfl)) (pe_op op_add (pv 5) pe_int) (fun _ _ => rfl)) (pe_ix (ix_listK K) (pe_ix (ix_listK K) (pv 0) (pe_op op_add (pv 3) pe_int) (fun _ _ => rfl)) (pv 5) (fun _ _ => rfl))) (pe_ix (ix_listK K) (pe_ix (ix_listK K) (pv 0) (pv 3) (fun _ _ => rfl)) (pv 5) (fun _ _ => rfl))) (pe_ix (ix_listK K) (pe_ix (ix_listK K) (pv 0) (pe_op op_add (pv 3) pe_int) (fun _ _ => rfl)) (pe_op op_add (pv 5) pe_int) (fun _ _ => rfl))) pe_int) pa_nil)))))
    (pss_one (ps_expr (pe_bm PySem.F.plainAttrs_list PySem.F.slot_list_append PySem.F.type_list_append mt_append (pv 2) (pa_cons (pv 4) pa_nil)))))))
    (pss_one (ps_ret (pv 2))))))),
    fun ds y h => ?_⟩), gm, F.kp, FunD.bindsN F fun _ _ _ _ _ _ us hl => match us, hl with | [_], _ => rfl⟩
  cases h with
  | @mk n h hv =>
  have hn := hv.pos
  have hn2 := hv.le
  refine run_seq (run_drop (g_call (ga_cons (g_var rfl rfl) ga_nil) (.mk hv)) ?_)
  refine run_seq (run_asg (x := .int n) (g_is (g_sub (g_len (g_var rfl rfl)) g_int) (by rw [dM_len]; exact congrArg Dt.int (by omega))) ?_)
  refine run_seq (run_asgO (gn_lst ga_nil) ?_)
  refine run_seq (run_for (gi_rng1 (ga_cons (g_var rfl rfl) ga_nil)) (fun t => [.d (.lst (dM (n + 1) (n + 1) h)), .d (.int n), .own (dM t n (sgn h)), .no, .no, .no]) ?_ ?_ ?_)
  · walk_at "le"
  · intro t x hx
    obtain ⟨ht, rfl⟩ := get_rg0 hx
    rw [show ((n : Int)).toNat = n by omega] at ht
    refine ⟨_, _, gg_name, ?_⟩
    refine run_seq (run_asgO (gn_lst ga_nil) ?_)
    refine run_seq (run_for (gi_rng1 (ga_cons (g_var rfl rfl) ga_nil)) (fun u => [.d (.lst (dM (n + 1) (n + 1) h)), .d (.int n), .own (dM t n (sgn h)), .d (.int t), .own (dRow u (sgn h t)), .no]) ?_ ?_ ?_)
    · walk_at "le"
    · intro u x hx
      obtain ⟨hu, rfl⟩ := get_rg0 hx
      rw [show ((n : Int)).toNat = n by omega] at hu
      refine ⟨_, _, gg_name, ?_⟩
      have at2 : ∀ {a b : Int} {Γ : Ga} {ta tb : TE}, Γ[0]? = some (.d (.lst (dM (n + 1) (n + 1) h))) → G K .r ta Γ (.int a) → G K .r tb Γ (.int b) → 0 ≤ a → a ≤ n → 0 ≤ b → b ≤ n → G K .r (tOp (rIxL K) (tOp (rIxL K) (tVar 0) ta) tb) Γ (.int (h a b)) := fun g0 ga gb a0 a1 b0 b1 =>
        g_ixLs (g_ixL (g_var g0 rfl) ga (at_M (by omega) (by omega))) gb (at_row (by omega) (by omega))
      refine run_app rfl (x := .int (sgn h t u)) (g_fdiv (g_sub (g_sub (g_add (at2 rfl (g_var rfl rfl) (g_add (g_var rfl rfl) g_int) (by omega) (by omega) (by omega) (by omega)) (at2 rfl (g_add (g_var rfl rfl) g_int) (g_var rfl rfl) (by omega) (by omega) (by omega) (by omega))) (at2 rfl (g_var rfl rfl) (g_var rfl rfl) (by omega) (by omega) (by omega) (by omega))) (at2 rfl (g_add (g_var rfl rfl) g_int) (g_add (g_var rfl rfl) g_int) (by omega) (by omega) (by omega) (by omega))) g_int ⟨by decide, by decide⟩) ?_ ?_
      · rw [dRow_len]; omega
      · refine Le.cons .rfl (Le.cons .rfl (Le.cons .rfl (Le.cons .rfl (Le.cons (SLe.eq ?_) (Le.cons .no Le.nil)))))
        exact congrArg Sl.own (dRow_snoc rfl)
    · rw [rgD_len, show ((n : Int)).toNat = n by omega]
      refine run_weak (i := 4) rfl .of (run_app rfl (g_var rfl rfl) ?_ ?_)
      · rw [dM_len]; omega
      · refine Le.cons .rfl (Le.cons .rfl (Le.cons (SLe.eq ?_) (Le.cons .no (Le.cons .no (Le.cons .no Le.nil)))))
        exact congrArg Sl.own (dM_snoc rfl)
  · rw [rgD_len, show ((n : Int)).toNat = n by omega]
    exact run_weak (i := 2) rfl .of (run_ret (g_var rfl rfl) rfl)
end
end GY
end
section
set_option Elab.async false
set_option linter.all false
set_option maxRecDepth 100000
set_option maxHeartbeats 4000000
namespace GY
open PySem PySem.Spec PyProof.Rows L2
open Evl (Ex fresh_back)
local macro_rules | `(tactic| walk_at "le") => `(tactic| (repeat (first | exact Le.nil | refine Le.cons (by first | exact SLe.rfl | exact SLe.no | exact SLe.fd | exact SLe.od | exact SLe.of | exact SLe.tf | exact SLe.sc rfl) ?_)))
section
variable {Pg : Program} {w : World} {K : PySem.W.Frag} {mg : Str → Option Value} {base : Heap}
inductive R_is_level : List Dt → Dt → Prop
  | mk {m : Nat} {f : Int → Int → Int} {i j : Int} (h0 : 1 ≤ i) (h1 : i + 1 < m) (h2 : 1 ≤ j) (h3 : j + 1 < m) : R_is_level [.lst (dM m m f), .int i, .int j] (.bl (lvl f i j))
theorem sc_is_level : FnScope ["heights", "i", "j", "above"] ["heights", "i", "j"] (defScope s_is_level) := ⟨rfl, rfl, rfl, by decide +kernel, rfl, by decide +kernel, by decide +kernel⟩
theorem ok_is_level (h : Fs K mg "is_level" s_is_level) (T : Tx mg)  : CallS Pg w K mg base 1 "is_level" ["heights", "i", "j"] (spD K R_is_level) := by
  obtain ⟨a, fd, F, gm⟩ := h
  refine ⟨a, fd, of_data F sc_is_level (fun ds y h => by cases h; rfl) (fun cdv A outer s H E hr => ⟨_,
    (pss_cons (ps_set (i := 3) sc_is_level.nd rfl (Or.inl rfl) (pe_ix (ix_listK K) (pe_ix (ix_listK K) (pv 0) (pe_op op_sub (pv 1) pe_int) (fun _ _ => rfl)) (pv 2) (fun _ _ => rfl)))
    (pss_one (ps_ret (pe_and (pe_cmpR op_eq (pe_ix (ix_listK K) (pe_ix (ix_listK K) (pv 0) (pe_op op_add (pv 1) pe_int) (fun _ _ => rfl)) (pv 2) (fun _ _ => rfl)) (pv 3) (nomark _)) (pe_and (pe_cmpR op_eq (pe_ix (ix_listK K) (pe_ix (ix_listK K) (pv 0) (pv 1) (fun _ _ => rfl)) (pe_op op_sub (pv 2) pe_int) (fun _ _ => rfl)) (pv 3) (nomark _)) (pe_one (pe_cmpR op_eq (pe_ix (ix_listK K) (pe_ix (ix_listK K) (pv 0) (pv 1) (fun _ _ => rfl)) (pe_op op_add (pv 2) pe_int) (fun _ _ => rfl)) (pv 3) (nomark _)))))))),
    fun ds y h => ?_⟩), gm, F.kp, FunD.bindsN F fun _ _ _ _ _ _ us hl => match us, hl with | [_, _, _], _ => rfl⟩
  cases h with
  | @mk m f i j h0 h1 h2 h3 =>
  have at2 : ∀ {a b : Int} {md : Md} {Γ : Ga} {ta tb : TE}, Γ[0]? = some (.d (.lst (dM m m f))) → G K .r ta Γ (.int a) → G K .r tb Γ (.int b) → 0 ≤ a → a < m → 0 ≤ b → b < m → G K md (tOp (rIxL K) (tOp (rIxL K) (tVar 0) ta) tb) Γ (.int (f a b)) := fun g0 ga gb a0 a1 b0 b1 =>
    g_ixLs (g_ixL (g_var g0 rfl) ga (at_M a0 a1)) gb (at_row b0 b1)
  refine run_seq (run_asg (at2 rfl (g_sub (g_var rfl rfl) g_int) (g_var rfl rfl) (by omega) (by omega) (by omega) (by omega)) ?_)
  exact run_ret (g_and (g_eqI (at2 rfl (g_add (g_var rfl rfl) g_int) (g_var rfl rfl) (by omega) (by omega) (by omega) (by omega)) (g_var rfl rfl)) fun _ =>
    g_and (g_eqI (at2 rfl (g_var rfl rfl) (g_sub (g_var rfl rfl) g_int) (by omega) (by omega) (by omega) (by omega)) (g_var rfl rfl)) fun _ =>
      g_eqI (at2 rfl (g_var rfl rfl) (g_add (g_var rfl rfl) g_int) (by omega) (by omega) (by omega) (by omega)) (g_var rfl rfl)) rfl
/-- one number of rows at p is stored anew -/
def spTP (K : PySem.W.Frag) : Sp := fun vs H Q _ => ∃ (p : Addr) (as : List Addr) (rows : List (List Int)) (i j : Nat) (r r' : List Int) (a : Addr) (x y : Int), vs = [.ref p, .int i, .int j] ∧ 1 ≤ i ∧ (p :: as).Nodup ∧ H p = some (.lst (as.map V.ref)) ∧
  Paired (fun a ns => H a = some (.lst (ns.map V.int))) as rows ∧ rows[i]? = some r ∧ rows[i - 1]? = some r' ∧ as[i]? = some a ∧ r'[j]? = some x ∧ r[j]? = some y ∧ ∀ H1, Ex H H1 → Q .non (upd H1 a (.lst ((r.set j (2 * x - y)).map V.int)))
theorem paired_at {H : Hp} : ∀ {as : List Addr} {rows : List (List Int)} {i : Nat} {r : List Int}, Paired (fun a ns => H a = some (.lst (ns.map V.int))) as rows → rows[i]? = some r → ∃ a, as[i]? = some a ∧ H a = some (.lst (r.map V.int))
  | _, _, _, _, .nil, e => by simp at e
  | a :: as, _, 0, _, .cons q t, e => by
    simp at e
    subst e
    exact ⟨a, rfl, q⟩
  | a :: as, _, i + 1, r, .cons q t, e => by
    obtain ⟨b, h1, h2⟩ := paired_at (i := i) (r := r) t (by simpa using e)
    exact ⟨b, by simpa using h1, h2⟩
theorem paired_set {H : Hp} {b : Addr} {nw : List Int} : ∀ {as : List Addr} {rows : List (List Int)} {i : Nat}, Paired (fun a ns => H a = some (.lst (ns.map V.int))) as rows → as.Nodup → as[i]? = some b →
    Paired (fun a ns => upd H b (.lst (nw.map V.int)) a = some (.lst (ns.map V.int))) as (rows.set i nw)
  | _, _, _, .nil, _, e => by simp at e
  | a :: as, r :: rows, 0, .cons q t, nd, e => by
    simp at e
    subst e
    refine .cons upd_same (paired_upd t fun c hc z => ?_)
    rw [z] at hc
    exact (List.nodup_cons.mp nd).1 hc
  | a :: as, r :: rows, i + 1, .cons q t, nd, e => by
    have e' : as[i]? = some b := by simpa using e
    refine .cons ?_ (paired_set t (List.nodup_cons.mp nd).2 e')
    rw [upd_ne fun z => (List.nodup_cons.mp nd).1 (by rw [z]; exact List.mem_of_getElem? e')]
    exact q
/-- a def that turns a point of rows of our own: its call as a statement -/
theorem run_turn {Γ : Ga} {P : Po} {n1 n2 n3 : Nat} {rows : List (List Int)} {i j : Nat} {r r' : List Int} {x y : Int} {Er : XK} (h1 : Γ[n1]? = some (.mx rows)) (h2 : Γ[n2]? = some (.d (.int i))) (h3 : Γ[n3]? = some (.d (.int j))) (hi : 1 ≤ i)
    (k1 : rows[i]? = some r) (k2 : rows[i - 1]? = some r') (k3 : r'[j]? = some x) (k4 : r[j]? = some y) (hn : P.nx (Γ.set n1 (.mx (rows.set i (r.set j (2 * x - y)))))) : Run K (tDrop (tCall (spTP K) [] Er (tCons (tVar n1) (tCons (tVar n2) (tCons (tVar n3) tNil))))) Γ P := fun H0 gh D σ H ⟨os, A, E⟩ M => by
  obtain ⟨p, as, q1, q2, q3, q4, q5⟩ := mx_at E h1
  obtain ⟨v2, w2, w2'⟩ : ∃ v, σ[n2]? = some (some v) ∧ Rp K (hp .s os H0 H) v (.int i) := E.sl n2 _ h2
  obtain ⟨v3, w3, w3'⟩ : ∃ v, σ[n3]? = some (some v) ∧ Rp K (hp .s os H0 H) v (.int j) := E.sl n3 _ h3
  cases w2'.int_inv
  cases w3'.int_inv
  obtain ⟨a, ha, ha2⟩ := paired_at q5 k1
  have key : spTP K [V.ref p, V.int i, V.int j] H (fun _ H1 => D.nx σ H1) Er := by
    refine ⟨p, as, rows, i, j, r, r', a, x, y, rfl, hi, q3, q4, q5, k1, k2, ha, k3, k4, fun H1 e1 => ?_⟩
    have E1 := E.up e1
    have aA : a ∈ A n1 := by rw [q2]; exact List.mem_cons_of_mem _ (List.mem_of_getElem? ha)
    have ao : a ∈ os := E.sub n1 a aA
    have hl : n1 < Γ.length := (List.getElem?_eq_some_iff.mp h1).1
    have nd := List.nodup_cons.mp q3
    refine M.nx _ _ _ hn ⟨os, A, ⟨Evl.Ex.mut E1.ex (E.fr a ao), E.fr, fun z hz => ?_, by rw [List.length_set, E.len], fun z t hz => ?_, E.sub, E.dis, fun g hg => by rw [hp_upd ao (by decide)]; exact E1.gh g hg⟩⟩
    · by_cases e : z = a
      · rw [e]; exact ⟨_, upd_same, fun _ w => by cases w⟩
      · obtain ⟨u, u1, u2⟩ := E1.th z hz
        exact ⟨u, by rw [upd_ne e]; exact u1, u2⟩
    · by_cases iz : n1 = z
      · subst iz
        rw [List.getElem?_set_self hl] at hz
        cases hz
        refine ⟨p, as, q1, q2, q3, ?_, paired_set (Paired.mapP q5 fun _ _ w => e1 _ _ w) nd.2 ha⟩
        rw [upd_ne fun w => nd.1 (by rw [w]; exact List.mem_of_getElem? ha)]
        exact e1 _ _ q4
      · rw [List.getElem?_set_ne iz] at hz
        refine (E1.sl z t hz).mut (by rw [hp_upd ao (by decide)]; exact Ex.refl _) (by rw [hp_upd ao (by decide)]; exact Ex.refl _) fun c hc u hu => ?_
        have : c ≠ a := fun w => iz (E.dis n1 z a aA (by rw [← w]; exact hc))
        rw [upd_ne this]
        exact hu
  rw [← List.append_nil [V.ref p, V.int (i : Int), V.int (j : Int)]] at key
  exact ⟨_, q1, _, w2, _, w3, key⟩
theorem sc_turn_point : FnScope ["heights", "i", "j"] ["heights", "i", "j"] (defScope s_turn_point) := ⟨rfl, rfl, rfl, by decide +kernel, rfl, by decide +kernel, by decide +kernel⟩
theorem ok_turn_point (h : Fs K mg "turn_point" s_turn_point) (T : Tx mg)  : CallS Pg w K mg base 1 "turn_point" ["heights", "i", "j"] (spTP K) := by
  obtain ⟨a, fd, F, gm⟩ := h
  refine ⟨a, fd, F.ok sc_turn_point (fun vs H Q E h => ?_) (fun cdv A outer s H vs Q E hr h => ⟨_, PSs.nox (
    (pss_one (ps_asg (pe_op op_sub (pe_op op_mul pe_int (pe_ix (ix_listK K) (pe_ix (ix_listK K) (pv 0) (pe_op op_sub (pv 1) pe_int) (fun _ _ => rfl)) (pv 2) (fun _ _ => rfl))) (pe_ix (ix_listK K) (pe_ix (ix_listK K) (pv 0) (pv 1) (fun _ _ => rfl)) (pv 2) (fun _ _ => rfl))) (pg_sub (pe_ix (ix_listK K) (pv 0) (pv 1) (fun _ _ => rfl)) (pv 2) set_list)))),
    ?_⟩), gm, F.kp, FunD.bindsN F fun _ _ _ _ _ _ us hl => match us, hl with | [_, _, _], _ => rfl⟩
  · obtain ⟨p, as, rows, i, j, r, r', a, x, y, rfl, _⟩ := h
    rfl
  · obtain ⟨p, as, rows, i, j, r, r', a, x, y, rfl, hi, nd, hp, hr, k1, k2, ha, k3, k4, q⟩ := h
    obtain ⟨b, hb, hb2⟩ := paired_at hr k2
    obtain ⟨a', ha', ha2⟩ := paired_at hr k1
    rw [ha] at ha'
    cases ha'
    have e1 : (i : Int) - 1 = ((i - 1 : Nat) : Int) := by omega
    have ats : ∀ {xs : List Int} {z : Nat} {w : Int}, xs[z]? = some w → L2.atI (xs.map V.int) (z : Int) = some (.int w) := fun h => atI_nat (by rw [List.getElem?_map, h]; rfl)
    have ata : ∀ {z : Nat} {c : Addr}, as[z]? = some c → L2.atI (as.map V.ref) (z : Int) = some (.ref c) := fun h => atI_nat (by rw [List.getElem?_map, h]; rfl)
    have ev := Evl.ev_op (σ := [some (V.ref p), some (V.int i), some (V.int j)]) (H := H) (ta := tOp (rI CMul fun i j => .int (i * j)) (tC (.int 2)) (tOp (rIxL K) (tOp (rIxL K) (tVar 0) (tOp (rI0 fun i j => .int (i - j)) (tVar 1) (tC (.int 1)))) (tVar 2))) (tb := tOp (rIxL K) (tOp (rIxL K) (tVar 0) (tVar 1)) (tVar 2)) (r := rI0 fun i j => .int (i - j))
      (Evl.ev_op Evl.ev_c (Evl.ev_op (Evl.ev_op (Evl.ev_var rfl) (Evl.ev_is (Evl.ev_op (Evl.ev_var rfl) Evl.ev_c Evl.rv_I0) (congrArg V.int e1)) (Evl.rv_ixL (.of hp) (ata hb))) (Evl.ev_var rfl) (Evl.rv_ixL (.of hb2) (ats k3))) (Evl.rv_I (.inl ⟨by decide, by decide⟩)))
      (Evl.ev_op (Evl.ev_op (Evl.ev_var rfl) (Evl.ev_var rfl) (Evl.rv_ixL (.of hp) (ata ha))) (Evl.ev_var rfl) (Evl.rv_ixL (.of ha2) (ats k4))) Evl.rv_I0
    have ho := Evl.ev_op (σ := [some (V.ref p), some (V.int i), some (V.int j)]) (H := H) (r := rIxL K) (Evl.ev_var (i := 0) rfl) (Evl.ev_var (i := 1) rfl) (Evl.rv_ixL (.of hp) (ata ha))
    refine ev H (Ex.refl H) _ fun H1 x1 => ho H1 x1 _ fun H2 x2 => ⟨_, rfl, a, _, _, j, rfl, rfl, x2 _ _ (x1 _ _ ha2), Evl.ixN_nat ?_, ?_⟩
    · rw [List.length_map]
      exact (List.getElem?_eq_some_iff.mp k4).1
    · have := q H2 (x1.trans x2)
      rw [List.map_set] at this
      exact this
inductive R_half_turn : List Dt → Dt → Prop
  | mk {n : Nat} {h : Int → Int → Int} (hv : HV n h) (dk : Bool) : R_half_turn [.lst (dM n n (sgn h)), .str (shade dk)] (.lst (dM n n (sgn (ht n dk h))))
theorem mem_sqRow {n : Nat} {dk : Bool} {i a b : Int} : (a, b) ∈ sqRow n dk i ↔ a = i ∧ 1 ≤ b ∧ b < n ∧ (i + b) % 2 = par dk := by
  unfold sqRow
  rw [List.mem_map]
  constructor
  · rintro ⟨j, hj, e⟩
    obtain ⟨h1, h2⟩ := List.mem_filter.mp hj
    obtain ⟨z, hz, rfl⟩ := List.mem_map.mp h1
    have := List.mem_range.mp hz
    injection e with e1 e2
    refine ⟨e1.symm, by omega, by omega, ?_⟩
    rw [← e2]
    exact of_decide_eq_true h2
  · rintro ⟨rfl, h1, h2, h3⟩
    refine ⟨b, List.mem_filter.mpr ⟨List.mem_map.mpr ⟨(b - 1).toNat, List.mem_range.mpr (by omega), by omega⟩, decide_eq_true h3⟩, rfl⟩
theorem mem_sqs {n : Nat} {dk : Bool} {a b : Int} : ∀ {t : Nat}, (a, b) ∈ sqs n dk t ↔ 1 ≤ a ∧ a ≤ t ∧ 1 ≤ b ∧ b < n ∧ (a + b) % 2 = par dk
  | 0 => by
    unfold sqs
    refine ⟨fun z => (nomatch z), fun z => ?_⟩
    obtain ⟨h1, h2, _⟩ := z
    omega
  | t + 1 => by
    unfold sqs
    rw [List.mem_append, mem_sqs, mem_sqRow]
    constructor
    · rintro (⟨h1, h2, h3, h4, h5⟩ | ⟨h1, h2, h3, h4⟩)
      · exact ⟨h1, by omega, h3, h4, h5⟩
      · exact ⟨by omega, by omega, h2, h3, by rw [h1]; exact h4⟩
    · rintro ⟨h1, h2, h3, h4, h5⟩
      by_cases c : a ≤ t
      · exact .inl ⟨h1, c, h3, h4, h5⟩
      · have e : a = 1 + (t : Nat) := by omega
        exact .inr ⟨e, h3, h4, by rw [← e]; exact h5⟩
theorem nodup_map_inj {α β : Type} {f : α → β} (hf : ∀ a b, f a = f b → a = b) : ∀ {l : List α}, l.Nodup → (l.map f).Nodup
  | [], _ => List.nodup_nil
  | a :: l, h => by
    rw [List.map_cons, List.nodup_cons]
    refine ⟨fun z => ?_, nodup_map_inj hf (List.nodup_cons.mp h).2⟩
    obtain ⟨b, hb, e⟩ := List.mem_map.mp z
    exact (List.nodup_cons.mp h).1 (hf _ _ e ▸ hb)
theorem nodup_sqRow {n : Nat} {dk : Bool} {i : Int} : (sqRow n dk i).Nodup := by
  unfold sqRow
  refine nodup_map_inj (fun a b e => by injection e) (List.Pairwise.filter _ (nodup_map_inj (fun a b e => by omega) List.nodup_range))
theorem nodup_sqs {n : Nat} {dk : Bool} : ∀ t, (sqs n dk t).Nodup
  | 0 => List.nodup_nil
  | t + 1 => by
    unfold sqs
    rw [List.nodup_append]
    refine ⟨nodup_sqs t, nodup_sqRow, fun p hp q hq e => ?_⟩
    have h1 := (mem_sqs (a := p.1) (b := p.2)).mp hp
    have h2 := (mem_sqRow (a := q.1) (b := q.2)).mp hq
    rw [e] at h1
    omega
theorem mem_sqs_is {n : Nat} {dk : Bool} {a b : Int} (hn : 1 ≤ n) : (a, b) ∈ sqs n dk (n - 1) ↔ isSq n dk a b := by
  rw [mem_sqs]
  unfold isSq
  constructor
  · rintro ⟨h1, h2, h3, h4, h5⟩; exact ⟨h1, by omega, h3, h4, h5⟩
  · rintro ⟨h1, h2, h3, h4, h5⟩; exact ⟨h1, by omega, h3, h4, h5⟩
/-- the heights when the squares ps have been turned -/
def hpre (h : Int → Int → Int) (ps : List (Int × Int)) (i j : Int) : Int := if (i, j) ∈ ps ∧ lvl h i j = true then 2 * h (i - 1) j - h i j else h i j
theorem hpre_all {n : Nat} {dk : Bool} {h : Int → Int → Int} (hn : 1 ≤ n) : hpre h (sqs n dk (n - 1)) = ht n dk h := by
  funext i j
  unfold hpre ht
  by_cases c : isSq n dk i j
  · by_cases q : lvl h i j = true
    · rw [if_pos ⟨(mem_sqs_is hn).mpr c, q⟩, if_pos ⟨c, q⟩]
    · rw [if_neg fun z => q z.2, if_neg fun z => q z.2]
  · rw [if_neg fun z => c ((mem_sqs_is hn).mp z.1), if_neg fun z => c z.1]
theorem rowsI_set {n m i : Nat} {f : Int → Int → Int} {g : Int → Int} (hi : i < n) : (rowsI n m f).set i (rowI m g) = rowsI n m (fun a b => if a = (i : Nat) then g b else f a b) := by
  refine List.ext_getElem? fun k => ?_
  unfold rowsI
  by_cases hk : k < n
  · by_cases e : i = k
    · subst e
      rw [List.getElem?_set_self (by rw [List.length_map, List.length_range]; exact hk), List.getElem?_map, List.getElem?_range hk]
      show some (rowI m g) = some (rowI m fun b => if ((i : Nat) : Int) = (i : Nat) then g b else f (i : Nat) b)
      congr 1
      unfold rowI
      refine List.map_congr_left fun j _ => ?_
      show g (j : Nat) = if ((i : Nat) : Int) = (i : Nat) then g (j : Nat) else f (i : Nat) (j : Nat)
      rw [if_pos rfl]
    · rw [List.getElem?_set_ne e, List.getElem?_map, List.getElem?_map, List.getElem?_range hk]
      show some (rowI m (f (k : Nat))) = some (rowI m fun b => if ((k : Nat) : Int) = (i : Nat) then g b else f (k : Nat) b)
      congr 1
      unfold rowI
      refine List.map_congr_left fun j _ => ?_
      show f (k : Nat) (j : Nat) = if ((k : Nat) : Int) = (i : Nat) then g (j : Nat) else f (k : Nat) (j : Nat)
      rw [if_neg (by omega)]
  · rw [List.getElem?_eq_none (by rw [List.length_set, List.length_map, List.length_range]; omega), List.getElem?_eq_none (by rw [List.length_map, List.length_range]; omega)]
theorem rowI_set {m u : Nat} {g : Int → Int} {y : Int} : (rowI m g).set u y = rowI m (fun j => if j = (u : Nat) then y else g j) := by
  refine List.ext_getElem? fun k => ?_
  unfold rowI
  by_cases hk : k < m
  · by_cases e : u = k
    · subst e
      rw [List.getElem?_set_self (by rw [List.length_map, List.length_range]; exact hk), List.getElem?_map, List.getElem?_range hk]
      show some y = some (if ((u : Nat) : Int) = (u : Nat) then y else g (u : Nat))
      rw [if_pos rfl]
    · rw [List.getElem?_set_ne e, List.getElem?_map, List.getElem?_map, List.getElem?_range hk]
      show some (g (k : Nat)) = some (if ((k : Nat) : Int) = (u : Nat) then y else g (k : Nat))
      rw [if_neg (by omega)]
  · rw [List.getElem?_eq_none (by rw [List.length_set, List.length_map, List.length_range]; omega), List.getElem?_eq_none (by rw [List.length_map, List.length_range]; omega)]
theorem rowsI_get {n m i : Nat} {f : Int → Int → Int} (h : i < n) : (rowsI n m f)[i]? = some (rowI m (f (i : Nat))) := by
  unfold rowsI
  rw [List.getElem?_map, List.getElem?_range h]
  rfl
theorem rowI_get {m i : Nat} {g : Int → Int} (h : i < m) : (rowI m g)[i]? = some (g (i : Nat)) := by
  unfold rowI
  rw [List.getElem?_map, List.getElem?_range h]
  rfl
theorem rowsI_ext {n m : Nat} {f f' : Int → Int → Int} (h : ∀ i j : Int, 0 ≤ i → i < n → 0 ≤ j → j < m → f i j = f' i j) : rowsI n m f = rowsI n m f' := List.map_congr_left fun i hi => by
  have := List.mem_range.mp hi
  unfold rowI
  refine List.map_congr_left fun j hj => ?_
  have := List.mem_range.mp hj
  exact h _ _ (by omega) (by omega) (by omega) (by omega)
theorem sc_half_turn : FnScope ["state", "shade", "heights", "i", "j"] ["state", "shade"] (defScope s_half_turn) := ⟨rfl, rfl, rfl, by decide +kernel, rfl, by decide +kernel, by decide +kernel⟩
theorem ok_half_turn (h : Fs K mg "half_turn" s_half_turn) (T : Tx mg) (c_squares : CallS Pg w K mg base 2 "squares" ["n", "shade"] (spD K R_squares)) (c_heights_of : CallS Pg w K mg base 1 "heights_of" ["state"] (spM K R_heights_of)) (c_state_of_heights : CallS Pg w K mg base 4 "state_of_heights" ["thing"] (spD K R_state_of_heights)) (c_is_level : CallS Pg w K mg base 1 "is_level" ["heights", "i", "j"] (spD K R_is_level)) (c_turn_point : CallS Pg w K mg base 1 "turn_point" ["heights", "i", "j"] (spTP K)) : CallS Pg w K mg base 5 "half_turn" ["state", "shade"] (spD K R_half_turn) := by
  obtain ⟨a, fd, F, gm⟩ := h
  refine ⟨a, fd, of_data F sc_half_turn (fun ds y h => by cases h; rfl) (fun cdv A outer s H E hr => ⟨_,
    (pss_cons (ps_set (i := 2) sc_half_turn.nd rfl (Or.inl rfl) (pe_callD c_heights_of (hr.mono (by decide)) (by rfl) (pa_cons (pv 0) pa_nil)))
    (pss_cons (ps_for PassesOwn.never rfl (pi_listK K (pe_callD c_squares (hr.mono (by decide)) (by rfl) (pa_cons (pe_callB (call_lenK K) (by rfl) T.len PySem.boot_len (pa_cons (pv 0) pa_nil)) (pa_cons (pv 1) pa_nil)))) (pg_tupK K (n := 2) rfl (pgs_cons (pg_name (i := 3) sc_half_turn.nd rfl (Or.inl rfl)) (pgs_cons (pg_name (i := 4) sc_half_turn.nd rfl (Or.inl rfl)) pgs_nil)))
    (pss_one (ps_if (pt_val (pe_callD c_is_level (hr.mono (by decide)) (by rfl) (pa_cons (pv 2) (pa_cons (pv 3) (pa_cons (pv 4) pa_nil)))))
    (pss_one (ps_expr (pe_callD c_turn_point (hr.mono (by decide)) (by rfl) (pa_cons (pv 2) (pa_cons (pv 3) (pa_cons (pv 4) pa_nil))))))
    pss_nil)))
    (pss_one (ps_ret (pe_callD c_state_of_heights hr (by rfl) (pa_cons (pv 2) pa_nil)))))),
    fun ds y h => ?_⟩), gm, F.kp, FunD.bindsN F fun _ _ _ _ _ _ us hl => match us, hl with | [_, _], _ => rfl⟩
  cases h with
  | @mk n h hv dk =>
  have hn := hv.pos
  have hn2 := hv.le
  refine run_seq (run_callM (ga_cons (g_var rfl rfl) ga_nil) (.mk hv) ?_)
  refine run_seq (run_for (gi_list (g_call (ga_cons (g_is (g_len (g_var rfl rfl)) (by rw [dM_len])) (ga_cons (g_var rfl rfl) ga_nil)) (.mk hn hn2 dk)))
    (fun t => [.d (.lst (dM n n (sgn h))), .d (.str (shade dk)), .mx (rowsI (n + 1) (n + 1) (hpre h ((sqs n dk (n - 1)).take t))), .no, .no]) ?_ ?_ ?_)
  · refine Le.cons .rfl (Le.cons .rfl (Le.cons (SLe.eq ?_) (Le.cons .no (Le.cons .no Le.nil))))
    exact congrArg Sl.mx (rowsI_ext fun i j _ _ _ _ => by unfold hpre; rw [if_neg fun z => (nomatch z.1)])
  · intro t x hx
    obtain ⟨⟨i, j⟩, hp, rfl⟩ : ∃ p, (sqs n dk (n - 1))[t]? = some p ∧ x = .tup [.int p.1, .int p.2] := by
      unfold dP at hx
      rw [List.getElem?_map] at hx
      cases e : (sqs n dk (n - 1))[t]? with
      | none => rw [e] at hx; cases hx
      | some p => rw [e] at hx; exact ⟨p, rfl, (Option.some.inj hx).symm⟩
    have tl := (List.getElem?_eq_some_iff.mp hp).1
    have sq : isSq n dk i j := (mem_sqs_is hn).mp (List.mem_of_getElem? hp)
    obtain ⟨s1, s2, s3, s4, s5⟩ := id sq
    have nin : (i, j) ∉ (sqs n dk (n - 1)).take t := fun z => by
      have nd := nodup_sqs (n := n) (dk := dk) (n - 1)
      obtain ⟨k, hk, ek⟩ := List.getElem_of_mem z
      rw [List.length_take] at hk
      rw [List.getElem_take] at ek
      have := (List.getElem_inj (h₀ := by omega) (h₁ := tl) nd).mp (ek.trans (List.getElem?_eq_some_iff.mp hp).2.symm)
      omega
    have nb : ∀ a b : Int, (a + b) % 2 ≠ (i + j) % 2 → hpre h ((sqs n dk (n - 1)).take t) a b = h a b := fun a b e => by
      unfold hpre
      rw [if_neg fun z => not_sq sq e ((mem_sqs_is hn).mp (List.mem_of_mem_take z.1))]
    have here : hpre h ((sqs n dk (n - 1)).take t) i j = h i j := by
      unfold hpre
      rw [if_neg fun z => nin z.1]
    have lv : lvl (hpre h ((sqs n dk (n - 1)).take t)) i j = lvl h i j := by
      unfold lvl
      rw [nb _ _ (by omega), nb _ _ (by omega), nb _ _ (by omega), nb _ _ (by omega)]
    have tk : (sqs n dk (n - 1)).take (t + 1) = (sqs n dk (n - 1)).take t ++ [(i, j)] := by rw [List.take_add_one, hp]; rfl
    refine ⟨_, _, gg_two, ?_⟩
    refine run_if (gt_val (g_call (ga_cons (g_is (g_var rfl rfl) (by rw [rowsI_dM])) (ga_cons (g_var rfl rfl) (ga_cons (g_var rfl rfl) ga_nil))) (.mk s1 (by omega) s3 (by omega)))) (fun hb => ?_) (fun hb => run_next ?_)
    · rw [lv] at hb
      obtain ⟨a, rfl⟩ := Int.eq_ofNat_of_zero_le (show 0 ≤ i by omega)
      obtain ⟨b, rfl⟩ := Int.eq_ofNat_of_zero_le (show 0 ≤ j by omega)
      refine run_turn (i := a) (j := b) rfl rfl rfl (by omega) (rowsI_get (by omega)) (rowsI_get (by omega)) (rowI_get (by omega)) (rowI_get (by omega)) ?_
      refine Le.cons .rfl (Le.cons .rfl (Le.cons (SLe.eq ?_) (Le.cons .no (Le.cons .no Le.nil))))
      refine congrArg Sl.mx ?_
      rw [rowI_set, rowsI_set (by omega), tk]
      refine rowsI_ext fun c d _ _ _ _ => ?_
      have ea : ((a - 1 : Nat) : Int) = (a : Int) - 1 := by omega
      rw [here, ea, nb _ _ (by omega)]
      by_cases e1 : c = (a : Nat)
      · by_cases e2 : d = (b : Nat)
        · rw [e1, e2, if_pos rfl, if_pos rfl]
          unfold hpre
          rw [if_pos ⟨List.mem_append_right _ (List.mem_singleton.mpr rfl), hb⟩]
        · rw [if_pos e1, if_neg e2, e1]
          unfold hpre
          have : ((a : Int), d) ∈ (sqs n dk (n - 1)).take t ++ [((a : Int), (b : Int))] ↔ ((a : Int), d) ∈ (sqs n dk (n - 1)).take t := by
            rw [List.mem_append, List.mem_singleton]
            exact ⟨fun z => z.elim id fun z => absurd (by injection z) e2, .inl⟩
          simp only [this]
      · rw [if_neg e1]
        unfold hpre
        have : (c, d) ∈ (sqs n dk (n - 1)).take t ++ [((a : Int), (b : Int))] ↔ (c, d) ∈ (sqs n dk (n - 1)).take t := by
          rw [List.mem_append, List.mem_singleton]
          exact ⟨fun z => z.elim id fun z => absurd (by injection z) e1, .inl⟩
        simp only [this]
    · rw [lv] at hb
      refine Le.cons .rfl (Le.cons .rfl (Le.cons (SLe.eq ?_) (Le.cons .no (Le.cons .no Le.nil))))
      refine congrArg Sl.mx (rowsI_ext fun c d _ _ _ _ => ?_)
      rw [tk]
      unfold hpre
      by_cases e : (c, d) = (i, j)
      · injection e with e1 e2
        rw [e1, e2, hb, if_neg (fun z => (nomatch z.2)), if_neg (fun z => (nomatch z.2))]
      · have : (c, d) ∈ (sqs n dk (n - 1)).take t ++ [(i, j)] ↔ (c, d) ∈ (sqs n dk (n - 1)).take t := by
          rw [List.mem_append, List.mem_singleton]
          exact ⟨fun z => z.elim id fun z => absurd z e, .inl⟩
        simp only [this]
  · refine run_ret (g_call (ga_cons (g_is (g_var rfl rfl) ?_) ga_nil) (.mk (hv.ht dk))) rfl
    rw [rowsI_dM]
    show Dt.lst (dM (n + 1) (n + 1) (hpre h ((sqs n dk (n - 1)).take (dP (sqs n dk (n - 1))).length))) = _
    rw [show (dP (sqs n dk (n - 1))).length = (sqs n dk (n - 1)).length by unfold dP; rw [List.length_map], List.take_length, hpre_all hn]
inductive R_great_turn : List Dt → Dt → Prop
  | mk {n : Nat} {h : Int → Int → Int} (hv : HV n h) : R_great_turn [.lst (dM n n (sgn h))] (.lst (dM n n (sgn (ht n true (ht n false h)))))
theorem sc_great_turn : FnScope ["state"] ["state"] (defScope s_great_turn) := ⟨rfl, rfl, rfl, by decide +kernel, rfl, by decide +kernel, by decide +kernel⟩
theorem ok_great_turn (h : Fs K mg "great_turn" s_great_turn) (T : Tx mg) (c_half_turn : CallS Pg w K mg base 5 "half_turn" ["state", "shade"] (spD K R_half_turn)) : CallS Pg w K mg base 6 "great_turn" ["state"] (spD K R_great_turn) := by
  obtain ⟨a, fd, F, gm⟩ := h
  refine ⟨a, fd, of_data F sc_great_turn (fun ds y h => by cases h; rfl) (fun cdv A outer s H E hr => ⟨_,
    (pss_one (ps_ret (pe_callD c_half_turn hr (by rfl) (pa_cons (pe_callD c_half_turn hr (by rfl) (pa_cons (pv 0) (pa_cons (pe_glob (v := .str "light") (by rfl) T.LIGHT.choose_spec ⟨_, rfl⟩) pa_nil))) (pa_cons (pe_glob (v := .str "dark") (by rfl) T.DARK.choose_spec ⟨_, rfl⟩) pa_nil))))),
    fun ds y h => ?_⟩), gm, F.kp, FunD.bindsN F fun _ _ _ _ _ _ us hl => match us, hl with | [_], _ => rfl⟩
  cases h with
  | @mk n h hv =>
  exact run_ret (g_call (ga_cons (g_call (ga_cons (g_var rfl rfl) (ga_cons g_str ga_nil)) (.mk hv false)) (ga_cons g_str ga_nil)) (.mk (hv.ht false) true)) rfl
inductive R_great_turn_back : List Dt → Dt → Prop
  | mk {n : Nat} {h : Int → Int → Int} (hv : HV n h) : R_great_turn_back [.lst (dM n n (sgn h))] (.lst (dM n n (sgn (ht n false (ht n true h)))))
theorem sc_great_turn_back : FnScope ["state"] ["state"] (defScope s_great_turn_back) := ⟨rfl, rfl, rfl, by decide +kernel, rfl, by decide +kernel, by decide +kernel⟩
theorem ok_great_turn_back (h : Fs K mg "great_turn_back" s_great_turn_back) (T : Tx mg) (c_half_turn : CallS Pg w K mg base 5 "half_turn" ["state", "shade"] (spD K R_half_turn)) : CallS Pg w K mg base 6 "great_turn_back" ["state"] (spD K R_great_turn_back) := by
  obtain ⟨a, fd, F, gm⟩ := h
  refine ⟨a, fd, of_data F sc_great_turn_back (fun ds y h => by cases h; rfl) (fun cdv A outer s H E hr => ⟨_,
    (pss_one (ps_ret (pe_callD c_half_turn hr (by rfl) (pa_cons (pe_callD c_half_turn hr (by rfl) (pa_cons (pv 0) (pa_cons (pe_glob (v := .str "dark") (by rfl) T.DARK.choose_spec ⟨_, rfl⟩) pa_nil))) (pa_cons (pe_glob (v := .str "light") (by rfl) T.LIGHT.choose_spec ⟨_, rfl⟩) pa_nil))))),
    fun ds y h => ?_⟩), gm, F.kp, FunD.bindsN F fun _ _ _ _ _ _ us hl => match us, hl with | [_], _ => rfl⟩
  cases h with
  | @mk n h hv =>
  exact run_ret (g_call (ga_cons (g_call (ga_cons (g_var rfl rfl) (ga_cons g_str ga_nil)) (.mk hv true)) (ga_cons g_str ga_nil)) (.mk (hv.ht true) false)) rfl
end
end GY
end
section
set_option Elab.async false
set_option linter.all false
set_option maxRecDepth 100000
set_option maxHeartbeats 4000000
namespace GY
open PySem PySem.Spec PyProof.Rows L2
open Evl (Ex fresh_back)
local macro_rules | `(tactic| walk_at "le") => `(tactic| (repeat (first | exact Le.nil | refine Le.cons (by first | exact SLe.rfl | exact SLe.no | exact SLe.fd | exact SLe.od | exact SLe.of | exact SLe.tf | exact SLe.sc rfl) ?_)))
section
variable {Pg : Program} {w : World} {K : PySem.W.Frag} {mg : Str → Option Value} {base : Heap}
/-- the arrows across, down -/
def arA (h : Int → Int → Int) (r j : Int) : Int := h (r + 1) j - h r j
def arD (h : Int → Int → Int) (i c : Int) : Int := h i c - h i (c + 1)
inductive R_across_of : List Dt → Dt → Prop
  | mk {n : Nat} {h : Int → Int → Int} (hv : HV n h) {r : Int} (h0 : 0 ≤ r) (h1 : r < n) : R_across_of [.lst (dRow n (sgn h r))] (.lst (dRow (n + 1) (arA h r)))
theorem sc_across_of : FnScope ["row", "total", "line", "sign"] ["row"] (defScope s_across_of) := ⟨rfl, rfl, rfl, by decide +kernel, rfl, by decide +kernel, by decide +kernel⟩
theorem ok_across_of (h : Fs K mg "across_of" s_across_of) (T : Tx mg)  : CallS Pg w K mg base 1 "across_of" ["row"] (spD K R_across_of) := by
  obtain ⟨a, fd, F, gm⟩ := h
  refine ⟨a, fd, of_data F sc_across_of (fun ds y h => by cases h; rfl) (fun cdv A outer s H E hr => ⟨_,
    (pss_cons (ps_set (i := 1) sc_across_of.nd rfl (Or.inl rfl) pe_int)
    (pss_cons (ps_set (i := 2) sc_across_of.nd rfl (Or.inl rfl) (pe_lst (pa_cons pe_int pa_nil)))
    (pss_cons (ps_for PassesOwn.never rfl (pi_listK K (pv 0)) (pg_name (i := 3) sc_across_of.nd rfl (Or.inl rfl))
    (pss_cons (ps_set (i := 1) sc_across_of.nd rfl (Or.inl rfl) (pe_op op_add (pv 1) (pv 3)))
    (pss_one (ps_expr (pe_bm PySem.F.plainAttrs_list PySem.F.slot_list_append PySem.F.type_list_append mt_append (pv 2) (pa_cons (pe_op op_sub pe_int (pe_op op_mul pe_int (pv 1))) pa_nil))))))
    (pss_one (ps_ret (pv 2)))))),
    fun ds y h => ?_⟩), gm, F.kp, FunD.bindsN F fun _ _ _ _ _ _ us hl => match us, hl with | [_], _ => rfl⟩
  cases h with
  | @mk n h hv r h0 h1 =>
  have hn := hv.pos
  have hn2 := hv.le
  refine run_seq (run_asg g_int ?_)
  refine run_seq (run_asgO (ds := dRow 1 (arA h r)) (gn_is (gn_lst (ga_cons g_int ga_nil)) ?_) ?_)
  · show [Dt.int 1] = [Dt.int (arA h r 0)]
    unfold arA
    rw [hv.left r h0 (by omega), hv.left (r + 1) (by omega) (by omega), show r + 1 - r = 1 by omega]
  refine run_seq (run_for (gi_list (g_var rfl rfl)) (fun t => [.d (.lst (dRow n (sgn h r))), .d (.int (rsum h r t)), .own (dRow (t + 1) (arA h r)), .no]) ?_ ?_ ?_)
  · refine Le.cons .rfl (Le.cons (SLe.eq ?_) (Le.cons .rfl (Le.cons .no Le.nil)))
    show Sl.d (.int 0) = Sl.d (.int (rsum h r 0))
    rw [hv.rsum0 h0 h1]
  · intro t x hx
    obtain ⟨ht, rfl⟩ := get_row hx
    refine ⟨_, _, gg_name, ?_⟩
    refine run_seq (run_asg (x := .int (rsum h r (t + 1))) (g_is (g_add (g_var rfl rfl) (g_var rfl rfl)) ?_) ?_)
    · rw [hv.rsumS h0 h1 (by omega) (by omega)]
    refine run_app rfl (x := .int (arA h r (t + 1))) (g_is (g_sub g_int (g_mul g_int (g_var rfl rfl) (.inl ⟨by decide, by decide⟩))) ?_) ?_ ?_
    · have := hv.rsum2 (r := r) (j := t + 1) h0 h1 (by omega) (by omega)
      unfold arA
      exact congrArg Dt.int (by omega)
    · rw [dRow_len]; omega
    · refine Le.cons .rfl (Le.cons .rfl (Le.cons (SLe.eq ?_) (Le.cons .no Le.nil)))
      exact congrArg Sl.own (dRow_snoc rfl)
  · rw [dRow_len]
    exact run_weak (i := 2) rfl .of (run_ret (g_var rfl rfl) rfl)
inductive R_arrows_of : List Dt → Dt → Prop
  | mk {n : Nat} {h : Int → Int → Int} (hv : HV n h) : R_arrows_of [.lst (dM n n (sgn h))] (.tup [.lst (dM n (n + 1) (arA h)), .lst (dM (n + 1) n (arD h))])
theorem lc_row {m : Nat} {g : Int → Int} {w : Nat → Dt} (h : ∀ z : Nat, z < m → w z = .int (g (z : Nat))) : (List.range m).map w = dRow m g := List.map_congr_left fun z hz => h z (List.mem_range.mp hz)
theorem lc_M {n m : Nat} {f : Int → Int → Int} {w : Nat → Dt} (h : ∀ z : Nat, z < n → w z = .lst (dRow m (f (z : Nat)))) : (List.range n).map w = dM n m f := List.map_congr_left fun z hz => h z (List.mem_range.mp hz)
theorem sc_arrows_of : FnScope ["state", "row", "totals", "down", "total", "sign"] ["state"] (defScope s_arrows_of) := ⟨rfl, rfl, rfl, by decide +kernel, rfl, by decide +kernel, by decide +kernel⟩
theorem ok_arrows_of (h : Fs K mg "arrows_of" s_arrows_of) (T : Tx mg) (c_across_of : CallS Pg w K mg base 1 "across_of" ["row"] (spD K R_across_of)) : CallS Pg w K mg base 2 "arrows_of" ["state"] (spD K R_arrows_of) := by
  obtain ⟨a, fd, F, gm⟩ := h
  refine ⟨a, fd, of_data F sc_arrows_of (fun ds y h => by cases h; rfl) (fun cdv A outer s H E hr => ⟨_,
    (pss_cons (ps_setLc (i := 2) (own := [("row", 1)]) rfl sc_arrows_of.nd rfl rfl (sw_true rfl rfl rfl (by decide +kernel)) (pi_listK K (pv 0)) (blkOk_by (by kernel_rfl)) (fun _ _ _ _ _ => pg_name (i := 1) sc_arrows_of.nd rfl (Or.inl rfl)) (fun _ _ _ _ _ => pts_nil) (fun _ _ _ _ _ => pe_int))
    (pss_cons (ps_set (i := 3) sc_arrows_of.nd rfl (Or.inl rfl) (pe_lst (pa_cons (pe_lc (own := [("row", 1)]) rfl sc_arrows_of.nd (pi_listK K (pv 0)) (blkOk_by (by kernel_rfl)) (fun _ _ _ _ _ => pg_name (i := 1) sc_arrows_of.nd rfl (Or.inl rfl)) (fun _ _ _ _ _ => pts_nil) (fun _ _ _ _ _ => (pe_un un_neg pe_int))) pa_nil)))
    (pss_cons (ps_for PassesOwn.never rfl (pi_listK K (pv 0)) (pg_name (i := 1) sc_arrows_of.nd rfl (Or.inl rfl))
    (pss_cons (ps_setLc (i := 2) (own := [("total", 4), ("sign", 5)]) rfl sc_arrows_of.nd rfl rfl (sw_true rfl rfl rfl (by decide +kernel)) (pi_zip (by rfl) T.zip (pa_cons (pv 2) (pa_cons (pv 1) pa_nil))) (blkOk_by (by kernel_rfl)) (fun _ _ _ _ _ => pg_tupK K (n := 2) rfl (pgs_cons (pg_name (i := 4) sc_arrows_of.nd rfl (Or.inl rfl)) (pgs_cons (pg_name (i := 5) sc_arrows_of.nd rfl (Or.inl rfl)) pgs_nil))) (fun _ _ _ _ _ => pts_nil) (fun _ _ _ _ _ => (pe_op op_add (pv 4) (pv 5))))
    (pss_one (ps_expr (pe_bm PySem.F.plainAttrs_list PySem.F.slot_list_append PySem.F.type_list_append mt_append (pv 3) (pa_cons (pe_lc (own := [("total", 4)]) rfl sc_arrows_of.nd (pi_listK K (pv 2)) (blkOk_by (by kernel_rfl)) (fun _ _ _ _ _ => pg_name (i := 4) sc_arrows_of.nd rfl (Or.inl rfl)) (fun _ _ _ _ _ => pts_nil) (fun _ _ _ _ _ => (pe_op op_sub (pe_op op_mul pe_int (pv 4)) pe_int))) pa_nil))))))
    (pss_one (ps_ret (pe_tup (pa_cons (pe_lc (own := [("row", 1)]) rfl sc_arrows_of.nd (pi_listK K (pv 0)) (blkOk_by (by kernel_rfl)) (fun _ _ _ _ _ => pg_name (i := 1) sc_arrows_of.nd rfl (Or.inl rfl)) (fun _ _ _ _ _ => pts_nil) (fun _ _ _ _ _ => (pe_callD c_across_of hr (by rfl) (pa_cons (pv 1) pa_nil)))) (pa_cons (pv 3) pa_nil)))))))),
    fun ds y h => ?_⟩), gm, F.kp, FunD.bindsN F fun _ _ _ _ _ _ us hl => match us, hl with | [_], _ => rfl⟩
  cases h with
  | @mk n h hv =>
  have hn := hv.pos
  have hn2 := hv.le
  -- slots: 0 state, 1 row, 2 totals, 3 down, 4 total, 5 sign
  refine run_seq (run_asgF (x := .lst (dRow n (csum h 0))) (g_is (gn_f (gn_lc0 (ts := [1]) (w := fun _ => .int 0) (gi_list (g_var rfl rfl)) ?_ (by simp) fun c x hx => ⟨_, gg_name, g_int⟩)) ?_) ?_)
  · rw [dM_len]; omega
  · rw [dM_len]
    exact congrArg Dt.lst (lc_row fun z hz => by rw [hv.csum0 (by omega) (by omega)])
  refine run_seq (run_asgO (ds := dM 1 n (arD h)) (gn_is (gn_lst (ga_cons (gn_f (gn_lc0 (ts := [1]) (w := fun _ => .int (-1)) (gi_list (g_var rfl rfl)) ?_ (by simp) fun c x hx => ⟨_, gg_name, g_neg g_int⟩)) ga_nil)) ?_) ?_)
  · rw [dM_len]; omega
  · rw [dM_len]
    show [Dt.lst _] = [Dt.lst (dRow n (arD h 0))]
    rw [lc_row (g := arD h 0)]
    intro z hz
    unfold arD
    rw [hv.top _ (by omega) (by omega), hv.top _ (by omega) (by omega)]
    exact congrArg Dt.int (by omega)
  refine run_seq (run_for (gi_list (g_var rfl rfl)) (fun t => [.d (.lst (dM n n (sgn h))), .no, .f (.lst (dRow n (csum h t))), .own (dM (t + 1) n (arD h)), .no, .no]) ?_ ?_ ?_)
  · walk_at "le"
  · intro t x hx
    obtain ⟨ht, rfl⟩ := get_M hx
    refine ⟨_, _, gg_name, ?_⟩
    refine run_seq (run_asgF (x := .lst (dRow n (csum h (t + 1)))) (g_is (gn_f (gn_lc0 (ts := [4, 5]) (w := fun z => .int (csum h t z + sgn h t z)) (gi_zip (ga_cons (g_var rfl rfl) (ga_cons (g_var rfl rfl) ga_nil))) ?_ (by simp) fun z x hx => ?_)) ?_) ?_)
    · rw [zipD_len, dRow_len, dRow_len]; omega
    · obtain ⟨p, q, hp, hq, rfl⟩ := get_zip hx
      obtain ⟨hz, rfl⟩ := get_row hp
      obtain ⟨hz, rfl⟩ := get_row hq
      exact ⟨_, gg_two, g_add (g_var rfl rfl) (g_var rfl rfl)⟩
    · rw [zipD_len, dRow_len, dRow_len, Nat.min_self]
      exact congrArg Dt.lst (lc_row fun z hz => by rw [hv.csumS (by omega) (by omega) (by omega) (by omega)])
    refine run_app rfl (x := .lst (dRow n (arD h (t + 1)))) (g_is (gn_f (gn_lc0 (ts := [4]) (w := fun z => .int (2 * csum h (t + 1) z - 1)) (gi_list (g_var rfl rfl)) ?_ (by simp) fun z x hx => ?_)) ?_) ?_ ?_
    · rw [dRow_len]; omega
    · obtain ⟨hz, rfl⟩ := get_row hx
      exact ⟨_, gg_name, g_sub (g_mul g_int (g_var rfl rfl) (.inl ⟨by decide, by decide⟩)) g_int⟩
    · rw [dRow_len]
      refine congrArg Dt.lst (lc_row fun z hz => ?_)
      have := hv.csum2 (i := t + 1) (c := z) (by omega) (by omega) (by omega) (by omega)
      unfold arD
      exact congrArg Dt.int (by omega)
    · rw [dM_len]; omega
    · refine Le.cons .rfl (Le.cons .no (Le.cons .rfl (Le.cons (SLe.eq ?_) (Le.cons .no (Le.cons .no Le.nil)))))
      exact congrArg Sl.own (dM_snoc rfl)
  · rw [dM_len]
    refine run_weak (i := 3) rfl .of (run_ret (g_tup (ga_cons (g_is (gn_f (gn_lc0 (ts := [1]) (w := fun z => .lst (dRow (n + 1) (arA h z))) (gi_list (g_var rfl rfl)) ?_ (by simp) fun z x hx => ?_)) ?_) (ga_cons (g_var rfl rfl) ga_nil))) rfl)
    · rw [dM_len]; omega
    · obtain ⟨hz, rfl⟩ := get_M hx
      exact ⟨_, gg_name, g_call (ga_cons (g_var rfl rfl) ga_nil) (.mk hv (by omega) (by omega))⟩
    · rw [dM_len]; rfl
inductive R_are_lists : List Dt → Dt → Prop
  | mk {n m : Nat} {f : Int → Int → Int} {ns : List Int} (h : ∀ i j : Int, 0 ≤ i → i < n → 0 ≤ j → j < m → f i j ∈ ns) : R_are_lists [.lst (dM n m f), .int n, .int m, .tup (dI ns)] (.bl true)
theorem sc_are_lists : FnScope ["thing", "many", "length", "numbers", "line", "number"] ["thing", "many", "length", "numbers"] (defScope s_are_lists) := ⟨rfl, rfl, rfl, by decide +kernel, rfl, by decide +kernel, by decide +kernel⟩
theorem ok_are_lists (h : Fs K mg "are_lists" s_are_lists) (T : Tx mg)  : CallS Pg w K mg base 1 "are_lists" ["thing", "many", "length", "numbers"] (spD K R_are_lists) := by
  obtain ⟨a, fd, F, gm⟩ := h
  refine ⟨a, fd, of_data F sc_are_lists (fun ds y h => by cases h; rfl) (fun cdv A outer s H E hr => ⟨_,
    (pss_cons (ps_if (PW.pt (pw_or (pt_not (pt_val (pe_callB call_isi (by rfl) T.isinstance (by decide +kernel) (pa_cons (pv 0) (pa_cons (pe_bltn (v := .ty "list") (by rfl) T.list (by decide +kernel) rfl) pa_nil))))) (pw_or1 (pt_cmpR op_ne (pe_callB (call_lenK K) (by rfl) T.len PySem.boot_len (pa_cons (pv 0) pa_nil)) (pv 1) (nomark _)))))
    (pss_one (ps_ret pe_bl))
    pss_nil)
    (pss_cons (ps_for PassesOwn.never rfl (pi_listK K (pv 0)) (pg_name (i := 4) sc_are_lists.nd rfl (Or.inl rfl))
    (pss_cons (ps_if (PW.pt (pw_or (pt_not (pt_val (pe_callB call_isi (by rfl) T.isinstance (by decide +kernel) (pa_cons (pv 4) (pa_cons (pe_bltn (v := .ty "list") (by rfl) T.list (by decide +kernel) rfl) pa_nil))))) (pw_or1 (pt_cmpR op_ne (pe_callB (call_lenK K) (by rfl) T.len PySem.boot_len (pa_cons (pv 4) pa_nil)) (pv 2) (nomark _)))))
    (pss_one (ps_ret pe_bl))
    pss_nil)
    (pss_one (ps_for PassesOwn.never rfl (pi_listK K (pv 4)) (pg_name (i := 5) sc_are_lists.nd rfl (Or.inl rfl))
    (pss_one (ps_if (PW.pt (pw_or (pt_not (pt_val (pe_callB call_isi (by rfl) T.isinstance (by decide +kernel) (pa_cons (pv 5) (pa_cons (pe_bltn (v := .ty "int") (by rfl) T.int (by decide +kernel) rfl) pa_nil))))) (pw_or (pt_val (pe_callB call_isi (by rfl) T.isinstance (by decide +kernel) (pa_cons (pv 5) (pa_cons (pe_bltn (v := .ty "bool") (by rfl) T.bool (by decide +kernel) rfl) pa_nil)))) (pw_or1 (pt_cmpR (op_niK K) (pv 5) (pv 3) (by rfl))))))
    (pss_one (ps_ret pe_bl))
    pss_nil))))))
    (pss_one (ps_ret pe_bl)))),
    fun ds y h => ?_⟩), gm, F.kp, FunD.bindsN F fun _ _ _ _ _ _ us hl => match us, hl with | [_, _, _, _], _ => rfl⟩
  cases h with
  | @mk n m f ns h =>
  refine run_seq (run_ifF (gt_or (gt_not (gt_val (g_isi (a := true) (g_var rfl rfl) rfl (by decide +kernel)))) fun _ => gt_test (g_neI (g_len (g_var rfl rfl)) (g_var rfl rfl))) ?_ (run_next ?_))
  · rw [dM_len, decide_eq_true rfl]; rfl
  refine run_seq (run_for (gi_list (g_var rfl rfl)) (fun t => [.d (.lst (dM n m f)), .d (.int n), .d (.int m), .d (.tup (dI ns)), .no, .no]) ?_ ?_ ?_)
  · walk_at "le"
  · intro t x hx
    obtain ⟨ht, rfl⟩ := get_M hx
    refine ⟨_, _, gg_name, ?_⟩
    refine run_seq (run_ifF (gt_or (gt_not (gt_val (g_isi (a := true) (g_var rfl rfl) rfl (by decide +kernel)))) fun _ => gt_test (g_neI (g_len (g_var rfl rfl)) (g_var rfl rfl))) ?_ (run_next ?_))
    · rw [dRow_len, decide_eq_true rfl]; rfl
    refine run_for (gi_list (g_var rfl rfl)) (fun u => [.d (.lst (dM n m f)), .d (.int n), .d (.int m), .d (.tup (dI ns)), .d (.lst (dRow m (f t))), .no]) ?_ ?_ ?_
    · walk_at "le"
    · intro u x hx
      obtain ⟨hu, rfl⟩ := get_row hx
      refine ⟨_, _, gg_name, ?_⟩
      refine run_ifF (gt_or (gt_not (gt_val (g_isi (a := true) (g_var rfl rfl) rfl (by decide +kernel)))) fun _ => gt_or (gt_val (g_isi (a := false) (g_var rfl rfl) rfl (by decide +kernel))) fun _ => gt_test (g_inT (ns := ns) true (g_var rfl rfl) (g_var rfl rfl))) ?_ (run_next ?_)
      · rw [if_pos rfl, decide_eq_true (h t u (by omega) (by omega) (by omega) (by omega))]; rfl
      · walk_at "le"
    · walk_at "le"
  · exact run_ret g_bl rfl
inductive R_has_form : List Dt → Dt → Prop
  | mk {n : Nat} {f g : Int → Int → Int} {ns : List Int} (h1 : 1 ≤ n) (h2 : n ≤ 12) (hf : ∀ i j : Int, 0 ≤ i → i < n → 0 ≤ j → j < ((n + 1 : Nat) : Int) → f i j ∈ ns) (hg : ∀ i j : Int, 0 ≤ i → i < ((n + 1 : Nat) : Int) → 0 ≤ j → j < n → g i j ∈ ns) :
    R_has_form [.tup [.lst (dM n (n + 1) f), .lst (dM (n + 1) n g)], .tup (dI ns)] (.bl true)
theorem sc_has_form : FnScope ["thing", "numbers", "size"] ["thing", "numbers"] (defScope s_has_form) := ⟨rfl, rfl, rfl, by decide +kernel, rfl, by decide +kernel, by decide +kernel⟩
theorem ok_has_form (h : Fs K mg "has_form" s_has_form) (T : Tx mg) (c_are_lists : CallS Pg w K mg base 1 "are_lists" ["thing", "many", "length", "numbers"] (spD K R_are_lists)) : CallS Pg w K mg base 2 "has_form" ["thing", "numbers"] (spD K R_has_form) := by
  obtain ⟨a, fd, F, gm⟩ := h
  refine ⟨a, fd, of_data F sc_has_form (fun ds y h => by cases h; rfl) (fun cdv A outer s H E hr => ⟨_,
    (pss_cons (ps_if (PW.pt (pw_or (pt_not (pt_val (pe_callB call_isi (by rfl) T.isinstance (by decide +kernel) (pa_cons (pv 0) (pa_cons (pe_bltn (v := .ty "tuple") (by rfl) T.tuple (by decide +kernel) rfl) pa_nil))))) (pw_or (pt_cmpR op_ne (pe_callB (call_lenK K) (by rfl) T.len PySem.boot_len (pa_cons (pv 0) pa_nil)) pe_int (nomark _)) (pw_or1 (pt_not (pt_val (pe_callB call_isi (by rfl) T.isinstance (by decide +kernel) (pa_cons (pe_ix (ix_tupK K) (pv 0) pe_int (fun _ _ => rfl)) (pa_cons (pe_bltn (v := .ty "list") (by rfl) T.list (by decide +kernel) rfl) pa_nil)))))))))
    (pss_one (ps_ret pe_bl))
    pss_nil)
    (pss_cons (ps_set (i := 2) sc_has_form.nd rfl (Or.inl rfl) (pe_callB (call_lenK K) (by rfl) T.len PySem.boot_len (pa_cons (pe_ix (ix_tupK K) (pv 0) pe_int (fun _ _ => rfl)) pa_nil)))
    (pss_cons (ps_if (PW.pt (pw_or (pt_cmpR op_lt (pv 2) pe_int (nomark _)) (pw_or1 (pt_cmpR op_gt (pv 2) (pe_glob (v := .int 12) (by rfl) T.MOST_SIZE_arrows.choose_spec ⟨_, rfl⟩) (nomark _)))))
    (pss_one (ps_ret pe_bl))
    pss_nil)
    (pss_one (ps_ret (pe_and (pe_callD c_are_lists hr (by rfl) (pa_cons (pe_ix (ix_tupK K) (pv 0) pe_int (fun _ _ => rfl)) (pa_cons (pv 2) (pa_cons (pe_op op_add (pv 2) pe_int) (pa_cons (pv 1) pa_nil))))) (pe_one (pe_callD c_are_lists hr (by rfl) (pa_cons (pe_ix (ix_tupK K) (pv 0) pe_int (fun _ _ => rfl)) (pa_cons (pe_op op_add (pv 2) pe_int) (pa_cons (pv 2) (pa_cons (pv 1) pa_nil)))))))))))),
    fun ds y h => ?_⟩), gm, F.kp, FunD.bindsN F fun _ _ _ _ _ _ us hl => match us, hl with | [_, _], _ => rfl⟩
  cases h with
  | @mk n f g ns h1 h2 hf hg =>
  refine run_seq (run_ifF (gt_or (gt_not (gt_val (g_isi (a := true) (g_var rfl rfl) rfl (by decide +kernel)))) fun _ => gt_or (gt_test (g_neI (g_lenT (g_var rfl rfl)) g_int)) fun _ => gt_not (gt_val (g_isi (a := true) (g_ixT (m := .r) (g_var rfl rfl) g_int rfl) rfl (by decide +kernel)))) rfl (run_next ?_))
  refine run_seq (run_asg (x := .int n) (g_is (g_len (g_ixT (m := .r) (g_var rfl rfl) g_int rfl)) (by rw [dM_len])) ?_)
  refine run_seq (run_ifF (gt_or (gt_test (g_lt (g_var rfl rfl) g_int)) fun _ => gt_test (g_gt (g_var rfl rfl) g_int)) ?_ (run_next ?_))
  · rw [decide_eq_false (by omega), decide_eq_false (by omega)]; rfl
  refine run_ret (g_and (g_call (ga_cons (g_ixT (g_var rfl rfl) g_int rfl) (ga_cons (g_var rfl rfl) (ga_cons (g_add (g_var rfl rfl) g_int) (ga_cons (g_var rfl rfl) ga_nil)))) (.mk (n := n) (m := n + 1) hf)) fun _ =>
    g_call (ga_cons (g_ixT (g_var rfl rfl) g_int rfl) (ga_cons (g_add (g_var rfl rfl) g_int) (ga_cons (g_var rfl rfl) (ga_cons (g_var rfl rfl) ga_nil)))) (.mk (n := n + 1) (m := n) hg)) rfl
inductive R_is_right_place : List Dt → Dt → Prop
  | mk {n : Nat} {h : Int → Int → Int} (hv : HV n h) {r c : Int} (h0 : 0 ≤ r) (h1 : r < n) (h2 : 0 ≤ c) (h3 : c < n) : R_is_right_place [.lst (dM n (n + 1) (arA h)), .lst (dM (n + 1) n (arD h)), .int r, .int c] (.bl true)
theorem cnt2 {x1 x2 y1 y2 : Int} (h1 : x1 = 1 ∨ x1 = -1) (h2 : x2 = 1 ∨ x2 = -1) (h3 : y1 = 1 ∨ y1 = -1) (h4 : y2 = 1 ∨ y2 = -1) (e : x1 + y1 = x2 + y2) : ([decide (x1 = 1), decide (x2 = -1), decide (y1 = 1), decide (y2 = -1)].countP fun b => b == true) = 2 := by
  rcases h1 with rfl | rfl <;> rcases h2 with rfl | rfl <;> rcases h3 with rfl | rfl <;> rcases h4 with rfl | rfl <;> first | rfl | (exfalso; omega)
theorem or_true_of {a b : Bool} (h : a = false → b = true) : (a || b) = true := by cases a <;> simp_all
theorem sc_is_right_place : FnScope ["across", "down", "r", "c", "last", "come", "left", "right", "upper", "lower"] ["across", "down", "r", "c"] (defScope s_is_right_place) := ⟨rfl, rfl, rfl, by decide +kernel, rfl, by decide +kernel, by decide +kernel⟩
theorem ok_is_right_place (h : Fs K mg "is_right_place" s_is_right_place) (T : Tx mg)  : CallS Pg w K mg base 1 "is_right_place" ["across", "down", "r", "c"] (spD K R_is_right_place) := by
  obtain ⟨a, fd, F, gm⟩ := h
  refine ⟨a, fd, of_data F sc_is_right_place (fun ds y h => by cases h; rfl) (fun cdv A outer s H E hr => ⟨_,
    (pss_cons (ps_set (i := 4) sc_is_right_place.nd rfl (Or.inl rfl) (pe_op op_sub (pe_callB (call_lenK K) (by rfl) T.len PySem.boot_len (pa_cons (pv 0) pa_nil)) pe_int))
    (pss_cons (ps_set (i := 5) sc_is_right_place.nd rfl (Or.inl rfl) (pe_lst (pa_cons (pe_cmpR op_eq (pe_ix (ix_listK K) (pe_ix (ix_listK K) (pv 0) (pv 2) (fun _ _ => rfl)) (pv 3) (fun _ _ => rfl)) pe_int (nomark _)) (pa_cons (pe_cmpR op_eq (pe_ix (ix_listK K) (pe_ix (ix_listK K) (pv 0) (pv 2) (fun _ _ => rfl)) (pe_op op_add (pv 3) pe_int) (fun _ _ => rfl)) (pe_un un_neg pe_int) (nomark _)) (pa_cons (pe_cmpR op_eq (pe_ix (ix_listK K) (pe_ix (ix_listK K) (pv 1) (pv 2) (fun _ _ => rfl)) (pv 3) (fun _ _ => rfl)) pe_int (nomark _)) (pa_cons (pe_cmpR op_eq (pe_ix (ix_listK K) (pe_ix (ix_listK K) (pv 1) (pe_op op_add (pv 2) pe_int) (fun _ _ => rfl)) (pv 3) (fun _ _ => rfl)) (pe_un un_neg pe_int) (nomark _)) pa_nil))))))
    (pss_cons (ps_if (pt_cmpR op_ne (pe_bm PySem.F.plainAttrs_list PySem.F.slot_list_count PySem.F.type_list_count mt_cntV (pv 5) (pa_cons pe_bl pa_nil)) pe_int (nomark _))
    (pss_one (ps_ret pe_bl))
    pss_nil)
    (pss_cons (ps_set (i := 6) sc_is_right_place.nd rfl (Or.inl rfl) (pe_or (pe_cmpR op_gt (pv 3) pe_int (nomark _)) (pe_one (pe_cmpR op_eq (pe_ix (ix_listK K) (pe_ix (ix_listK K) (pv 0) (pv 2) (fun _ _ => rfl)) (pv 3) (fun _ _ => rfl)) pe_int (nomark _)))))
    (pss_cons (ps_set (i := 7) sc_is_right_place.nd rfl (Or.inl rfl) (pe_or (pe_cmpR op_lt (pv 3) (pv 4) (nomark _)) (pe_one (pe_cmpR op_eq (pe_ix (ix_listK K) (pe_ix (ix_listK K) (pv 0) (pv 2) (fun _ _ => rfl)) (pe_op op_add (pv 3) pe_int) (fun _ _ => rfl)) (pe_un un_neg pe_int) (nomark _)))))
    (pss_cons (ps_set (i := 8) sc_is_right_place.nd rfl (Or.inl rfl) (pe_or (pe_cmpR op_gt (pv 2) pe_int (nomark _)) (pe_one (pe_cmpR op_eq (pe_ix (ix_listK K) (pe_ix (ix_listK K) (pv 1) (pv 2) (fun _ _ => rfl)) (pv 3) (fun _ _ => rfl)) (pe_un un_neg pe_int) (nomark _)))))
    (pss_cons (ps_set (i := 9) sc_is_right_place.nd rfl (Or.inl rfl) (pe_or (pe_cmpR op_lt (pv 2) (pv 4) (nomark _)) (pe_one (pe_cmpR op_eq (pe_ix (ix_listK K) (pe_ix (ix_listK K) (pv 1) (pe_op op_add (pv 2) pe_int) (fun _ _ => rfl)) (pv 3) (fun _ _ => rfl)) pe_int (nomark _)))))
    (pss_one (ps_ret (pe_and (pv 6) (pe_and (pv 7) (pe_and (pv 8) (pe_one (pv 9)))))))))))))),
    fun ds y h => ?_⟩), gm, F.kp, FunD.bindsN F fun _ _ _ _ _ _ us hl => match us, hl with | [_, _, _, _], _ => rfl⟩
  cases h with
  | @mk n h hv r c h0 h1 h2 h3 =>
  -- slots: 0 across, 1 down, 2 r, 3 c, 4 last, 5 come, 6 left, 7 right, 8 upper, 9 lower
  have atA : ∀ {a b : Int} {md : Md} {Γ : Ga} {ta tb : TE}, Γ[0]? = some (.d (.lst (dM n (n + 1) (arA h)))) → G K .r ta Γ (.int a) → G K .r tb Γ (.int b) → 0 ≤ a → a < n → 0 ≤ b → b ≤ n → G K md (tOp (rIxL K) (tOp (rIxL K) (tVar 0) ta) tb) Γ (.int (arA h a b)) := fun g0 ga gb a0 a1 b0 b1 =>
    g_ixLs (g_ixL (g_var g0 rfl) ga (at_M a0 a1)) gb (at_row b0 (by omega))
  have atD : ∀ {a b : Int} {md : Md} {Γ : Ga} {ta tb : TE}, Γ[1]? = some (.d (.lst (dM (n + 1) n (arD h)))) → G K .r ta Γ (.int a) → G K .r tb Γ (.int b) → 0 ≤ a → a ≤ n → 0 ≤ b → b < n → G K md (tOp (rIxL K) (tOp (rIxL K) (tVar 1) ta) tb) Γ (.int (arD h a b)) := fun g0 ga gb a0 a1 b0 b1 =>
    g_ixLs (g_ixL (g_var g0 rfl) ga (at_M a0 (by omega))) gb (at_row b0 b1)
  refine run_seq (run_asg (x := .int (n - 1)) (g_is (g_sub (g_len (g_var rfl rfl)) g_int) (by rw [dM_len])) ?_)
  refine run_seq (run_asg (x := .lst ([decide (arA h r c = 1), decide (arA h r (c + 1) = -1), decide (arD h r c = 1), decide (arD h (r + 1) c = -1)].map Dt.bl)) (g_lst (ga_cons (g_eqI (atA rfl (g_var rfl rfl) (g_var rfl rfl) h0 h1 h2 (by omega)) g_int)
    (ga_cons (g_eqI (atA rfl (g_var rfl rfl) (g_add (g_var rfl rfl) g_int) h0 h1 (by omega) (by omega)) (g_neg g_int))
    (ga_cons (g_eqI (atD rfl (g_var rfl rfl) (g_var rfl rfl) h0 (by omega) h2 h3) g_int)
    (ga_cons (g_eqI (atD rfl (g_add (g_var rfl rfl) g_int) (g_var rfl rfl) (by omega) (by omega) h2 h3) (g_neg g_int)) ga_nil))))) ?_)
  have v1 := hv.ver r c h0 h1 h2 (by omega)
  have v2 := hv.ver r (c + 1) h0 h1 (by omega) (by omega)
  have v3 := hv.hor r c h0 (by omega) h2 h3
  have v4 := hv.hor (r + 1) c (by omega) (by omega) h2 h3
  have w1 : arA h r c = h (r + 1) c - h r c := rfl
  have w2 : arA h r (c + 1) = h (r + 1) (c + 1) - h r (c + 1) := rfl
  have w3 : arD h r c = h r c - h r (c + 1) := rfl
  have w4 : arD h (r + 1) c = h (r + 1) c - h (r + 1) (c + 1) := rfl
  refine run_seq (run_ifF (gt_test (g_neI (g_cntB (a := true) (g_var rfl rfl) g_bl) g_int)) ?_ (run_next ?_))
  · rw [cnt2 (by omega) (by omega) (by omega) (by omega) (by omega)]
    rfl
  refine run_seq (run_asg (x := .bl true) (g_is (g_or (g_gt (g_var rfl rfl) g_int) fun _ => g_eqI (atA rfl (g_var rfl rfl) (g_var rfl rfl) h0 h1 h2 (by omega)) g_int) (congrArg Dt.bl (or_true_of fun z => ?_))) ?_)
  · have c0 : c = 0 := by have := of_decide_eq_false z; omega
    have a := hv.left r h0 (by omega)
    have b := hv.left (r + 1) (by omega) (by omega)
    refine decide_eq_true ?_
    rw [c0, show arA h r 0 = h (r + 1) 0 - h r 0 from rfl]
    omega
  refine run_seq (run_asg (x := .bl true) (g_is (g_or (g_lt (g_var rfl rfl) (g_var rfl rfl)) fun _ => g_eqI (atA rfl (g_var rfl rfl) (g_add (g_var rfl rfl) g_int) h0 h1 (by omega) (by omega)) (g_neg g_int)) (congrArg Dt.bl (or_true_of fun z => ?_))) ?_)
  · have c0 : c + 1 = n := by have := of_decide_eq_false z; omega
    have a := hv.rig r h0 (by omega)
    have b := hv.rig (r + 1) (by omega) (by omega)
    refine decide_eq_true ?_
    rw [c0, show arA h r n = h (r + 1) n - h r n from rfl]
    omega
  refine run_seq (run_asg (x := .bl true) (g_is (g_or (g_gt (g_var rfl rfl) g_int) fun _ => g_eqI (atD rfl (g_var rfl rfl) (g_var rfl rfl) h0 (by omega) h2 h3) (g_neg g_int)) (congrArg Dt.bl (or_true_of fun z => ?_))) ?_)
  · have c0 : r = 0 := by have := of_decide_eq_false z; omega
    have a := hv.top c h2 (by omega)
    have b := hv.top (c + 1) (by omega) (by omega)
    refine decide_eq_true ?_
    rw [c0, show arD h 0 c = h 0 c - h 0 (c + 1) from rfl]
    omega
  refine run_seq (run_asg (x := .bl true) (g_is (g_or (g_lt (g_var rfl rfl) (g_var rfl rfl)) fun _ => g_eqI (atD rfl (g_add (g_var rfl rfl) g_int) (g_var rfl rfl) (by omega) (by omega) h2 h3) g_int) (congrArg Dt.bl (or_true_of fun z => ?_))) ?_)
  · have c0 : r + 1 = n := by have := of_decide_eq_false z; omega
    have a := hv.bot c h2 (by omega)
    have b := hv.bot (c + 1) (by omega) (by omega)
    refine decide_eq_true ?_
    rw [c0, show arD h n c = h n c - h n (c + 1) from rfl]
    omega
  exact run_ret (g_and (g_var rfl rfl) fun _ => g_and (g_var rfl rfl) fun _ => g_and (g_var rfl rfl) fun _ => g_var rfl rfl) rfl
inductive R_fault_of : List Dt → Dt → Prop
  | mk {n : Nat} {h : Int → Int → Int} (hv : HV n h) : R_fault_of [.lst (dM n (n + 1) (arA h)), .lst (dM (n + 1) n (arD h))] .non
theorem sc_fault_of : FnScope ["across", "down", "size", "r", "c"] ["across", "down"] (defScope s_fault_of) := ⟨rfl, rfl, rfl, by decide +kernel, rfl, by decide +kernel, by decide +kernel⟩
theorem ok_fault_of (h : Fs K mg "fault_of" s_fault_of) (T : Tx mg) (c_is_right_place : CallS Pg w K mg base 1 "is_right_place" ["across", "down", "r", "c"] (spD K R_is_right_place)) : CallS Pg w K mg base 2 "fault_of" ["across", "down"] (spD K R_fault_of) := by
  obtain ⟨a, fd, F, gm⟩ := h
  refine ⟨a, fd, of_data F sc_fault_of (fun ds y h => by cases h; rfl) (fun cdv A outer s H E hr => ⟨_,
    (pss_cons (ps_set (i := 2) sc_fault_of.nd rfl (Or.inl rfl) (pe_callB (call_lenK K) (by rfl) T.len PySem.boot_len (pa_cons (pv 0) pa_nil)))
    (pss_cons (ps_for PassesOwn.never rfl (pi_range1 (by rfl) T.range (pa_cons (pv 2) pa_nil)) (pg_name (i := 3) sc_fault_of.nd rfl (Or.inl rfl))
    (pss_one (ps_for PassesOwn.never rfl (pi_range1 (by rfl) T.range (pa_cons (pv 2) pa_nil)) (pg_name (i := 4) sc_fault_of.nd rfl (Or.inl rfl))
    (pss_one (ps_if (pt_not (pt_val (pe_callD c_is_right_place hr (by rfl) (pa_cons (pv 0) (pa_cons (pv 1) (pa_cons (pv 3) (pa_cons (pv 4) pa_nil)))))))
    (pss_one (ps_ret (pe_tup (pa_cons (pv 3) (pa_cons (pv 4) pa_nil)))))
    pss_nil)))))
    (pss_one (ps_ret pe_non)))),
    fun ds y h => ?_⟩), gm, F.kp, FunD.bindsN F fun _ _ _ _ _ _ us hl => match us, hl with | [_, _], _ => rfl⟩
  cases h with
  | @mk n h hv =>
  have hn := hv.pos
  have hn2 := hv.le
  refine run_seq (run_asg (x := .int n) (g_is (g_len (g_var rfl rfl)) (by rw [dM_len])) ?_)
  refine run_seq (run_for (gi_rng1 (ga_cons (g_var rfl rfl) ga_nil)) (fun t => [.d (.lst (dM n (n + 1) (arA h))), .d (.lst (dM (n + 1) n (arD h))), .d (.int n), .no, .no]) ?_ ?_ ?_)
  · walk_at "le"
  · intro t x hx
    obtain ⟨ht, rfl⟩ := get_rg0 hx
    refine ⟨_, _, gg_name, ?_⟩
    refine run_for (gi_rng1 (ga_cons (g_var rfl rfl) ga_nil)) (fun u => [.d (.lst (dM n (n + 1) (arA h))), .d (.lst (dM (n + 1) n (arD h))), .d (.int n), .d (.int t), .no]) ?_ ?_ ?_
    · walk_at "le"
    · intro u x hx
      obtain ⟨hu, rfl⟩ := get_rg0 hx
      refine ⟨_, _, gg_name, ?_⟩
      refine run_ifF (gt_not (gt_val (g_call (ga_cons (g_var rfl rfl) (ga_cons (g_var rfl rfl) (ga_cons (g_var rfl rfl) (ga_cons (g_var rfl rfl) ga_nil)))) (.mk hv (by omega) (by omega) (by omega) (by omega))))) rfl (run_next ?_)
      walk_at "le"
    · walk_at "le"
  · exact run_ret g_non rfl
inductive R_state_of_arrows : List Dt → Dt → Prop
  | mk {n : Nat} {h : Int → Int → Int} (hv : HV n h) : R_state_of_arrows [.tup [.lst (dM n (n + 1) (arA h)), .lst (dM (n + 1) n (arD h))]] (.lst (dM n n (sgn h)))
theorem HV.arA1 {n : Nat} {h : Int → Int → Int} (hv : HV n h) {i j : Int} (h0 : 0 ≤ i) (h1 : i < n) (h2 : 0 ≤ j) (h3 : j < ((n + 1 : Nat) : Int)) : arA h i j = 1 ∨ arA h i j = -1 := by
  have := hv.ver i j h0 h1 h2 (by omega)
  unfold arA
  omega
theorem HV.arD1 {n : Nat} {h : Int → Int → Int} (hv : HV n h) {i j : Int} (h0 : 0 ≤ i) (h1 : i < ((n + 1 : Nat) : Int)) (h2 : 0 ≤ j) (h3 : j < n) : arD h i j = 1 ∨ arD h i j = -1 := by
  have := hv.hor i j h0 (by omega) h2 h3
  unfold arD
  omega
theorem sc_state_of_arrows : FnScope ["thing", "across", "down", "spot", "line", "c"] ["thing"] (defScope s_state_of_arrows) := ⟨rfl, rfl, rfl, by decide +kernel, rfl, by decide +kernel, by decide +kernel⟩
theorem ok_state_of_arrows (h : Fs K mg "state_of_arrows" s_state_of_arrows) (T : Tx mg) (c_has_form : CallS Pg w K mg base 2 "has_form" ["thing", "numbers"] (spD K R_has_form)) (c_fault_of : CallS Pg w K mg base 2 "fault_of" ["across", "down"] (spD K R_fault_of)) : CallS Pg w K mg base 3 "state_of_arrows" ["thing"] (spD K R_state_of_arrows) := by
  obtain ⟨a, fd, F, gm⟩ := h
  refine ⟨a, fd, of_data F sc_state_of_arrows (fun ds y h => by cases h; rfl) (fun cdv A outer s H E hr => ⟨_,
    (pss_cons (ps_if (pt_not (pt_val (pe_callD c_has_form hr (by rfl) (pa_cons (pv 0) (pa_cons (pe_tup (pa_cons pe_int (pa_cons (pe_un un_neg pe_int) pa_nil))) pa_nil)))))
    (pss_one ps_never)
    pss_nil)
    (pss_cons (ps_asg (pv 0) (pg_tupK K (n := 2) rfl (pgs_cons (pg_name (i := 1) sc_state_of_arrows.nd rfl (Or.inr rfl)) (pgs_cons (pg_name (i := 2) sc_state_of_arrows.nd rfl (Or.inl rfl)) pgs_nil))))
    (pss_cons (ps_set (i := 3) sc_state_of_arrows.nd rfl (Or.inl rfl) (pe_callD c_fault_of hr (by rfl) (pa_cons (pv 1) (pa_cons (pv 2) pa_nil))))
    (pss_cons (ps_if (pt_cmpR op_notN (pv 3) pe_non (nomark _))
    (pss_one ps_never)
    pss_nil)
    (pss_one (ps_ret (pe_lc (own := [("line", 4)]) rfl sc_state_of_arrows.nd (pi_listK K (pv 1)) (blkOk_by (by kernel_rfl)) (fun _ _ _ _ _ => pg_name (i := 4) sc_state_of_arrows.nd rfl (Or.inr rfl)) (fun _ _ _ _ _ => pts_nil) (fun _ _ _ _ _ => (pe_lc (own := [("c", 5)]) rfl sc_state_of_arrows.nd (pi_range1 (by rfl) T.range (pa_cons (pe_callB (call_lenK K) (by rfl) T.len PySem.boot_len (pa_cons (pv 1) pa_nil)) pa_nil)) (blkOk_by (by kernel_rfl)) (fun _ _ _ _ _ => pg_name (i := 5) sc_state_of_arrows.nd rfl (Or.inl rfl)) (fun _ _ _ _ _ => pts_nil) (fun _ _ _ _ _ => (pe_op op_fdiv (pe_op op_sub (pe_ix (ix_listK K) (pv 4) (pv 5) (fun _ _ => rfl)) (pe_ix (ix_listK K) (pv 4) (pe_op op_add (pv 5) pe_int) (fun _ _ => rfl))) pe_int))))))))))),
    fun ds y h => ?_⟩), gm, F.kp, FunD.bindsN F fun _ _ _ _ _ _ us hl => match us, hl with | [_], _ => rfl⟩
  cases h with
  | @mk n h hv =>
  have hn := hv.pos
  have hn2 := hv.le
  -- slots: 0 thing, 1 across (cell), 2 down, 3 spot, 4 line, 5 c
  refine run_seq (run_ifF (gt_not (gt_val (g_call (ga_cons (g_var rfl rfl) (ga_cons (g_tup (ds := dI [1, -1]) (ga_cons g_int (ga_cons (g_neg g_int) ga_nil)) (by simp)) ga_nil)) (.mk hn hn2 (fun i j h0 h1 h2 h3 => by rcases hv.arA1 h0 h1 h2 h3 with e | e <;> rw [e] <;> simp) (fun i j h0 h1 h2 h3 => by rcases hv.arD1 h0 h1 h2 h3 with e | e <;> rw [e] <;> simp))))) rfl (run_next ?_))
  refine run_seq (run_asgG (g_var rfl rfl) gg_two ?_)
  refine run_seq (run_asg (g_call (ga_cons (g_var rfl rfl) (ga_cons (g_var rfl rfl) ga_nil)) (.mk hv)) ?_)
  refine run_seq (run_ifF (gt_test (g_notN (g_var rfl rfl))) rfl (run_next ?_))
  refine run_ret (g_is (gn_f (gn_lc0 (ts := [4]) (w := fun z => .lst (dRow n (sgn h z))) (gi_list (g_var rfl rfl)) ?_ (by simp) fun z x hx => ?_)) ?_) rfl
  · rw [dM_len]; omega
  · obtain ⟨hz, rfl⟩ := get_M hx
    refine ⟨_, gg_name, g_is (gn_f (gn_lc0 (ts := [5]) (w := fun y => .int ((arA h z y - arA h z (y + 1)) / 2)) (gi_rng1 (ga_cons (g_is (g_len (g_var rfl rfl)) (by rw [dM_len])) ga_nil)) ?_ (by simp) fun y x hx => ?_)) ?_⟩
    · rw [rgD_len]; omega
    · obtain ⟨hy, rfl⟩ := get_rg0 hx
      exact ⟨_, gg_name, g_fdiv (g_sub (g_ixLs (g_var rfl rfl) (g_var rfl rfl) (at_row (by omega) (by omega))) (g_ixLs (g_var rfl rfl) (g_add (g_var rfl rfl) g_int) (at_row (by omega) (by omega)))) g_int ⟨by decide, by decide⟩⟩
    · rw [rgD_len, show ((n : Int)).toNat = n by omega]
      refine congrArg Dt.lst (lc_row fun y hy => congrArg Dt.int ?_)
      unfold arA sgn
      congr 1
      omega
  · rw [dM_len]; rfl
/-- walked or not, by an arrow's number and its place -/
def wk (x k : Int) : Int := if decide (decide (x = 1) = decide (k % 2 = 1)) = true then 1 else 0
inductive R_walked : List Dt → Dt → Prop
  | mk {m : Nat} (g : Int → Int) (i : Int) (hm : m ≤ 100) : R_walked [.lst (dRow m g), .int i] (.lst (dRow m fun j => wk (g j) (i + j)))
theorem sc_walked : FnScope ["line", "number", "k", "arrow"] ["line", "number"] (defScope s_walked) := ⟨rfl, rfl, rfl, by decide +kernel, rfl, by decide +kernel, by decide +kernel⟩
theorem ok_walked (h : Fs K mg "walked" s_walked) (T : Tx mg)  : CallS Pg w K mg base 1 "walked" ["line", "number"] (spD K R_walked) := by
  obtain ⟨a, fd, F, gm⟩ := h
  refine ⟨a, fd, of_data F sc_walked (fun ds y h => by cases h; rfl) (fun cdv A outer s H E hr => ⟨_,
    (pss_one (ps_ret (pe_lc (own := [("k", 2), ("arrow", 3)]) rfl sc_walked.nd (pi_enum (by rfl) T.enumerate (pa_cons (pv 0) pa_nil)) (blkOk_by (by kernel_rfl)) (fun _ _ _ _ _ => pg_tupK K (n := 2) rfl (pgs_cons (pg_name (i := 2) sc_walked.nd rfl (Or.inl rfl)) (pgs_cons (pg_name (i := 3) sc_walked.nd rfl (Or.inl rfl)) pgs_nil))) (fun _ _ _ _ _ => pts_nil) (fun _ _ _ _ _ => (pe_callTy call_int1 (by rfl) T.int (by decide +kernel) (pa_cons (pe_cmpR op_eq (pe_cmpR op_eq (pv 3) pe_int (nomark _)) (pe_cmpR op_eq (pe_op op_mod (pe_op op_add (pv 1) (pv 2)) pe_int) pe_int (nomark _)) (nomark _)) pa_nil)))))),
    fun ds y h => ?_⟩), gm, F.kp, FunD.bindsN F fun _ _ _ _ _ _ us hl => match us, hl with | [_, _], _ => rfl⟩
  cases h with
  | @mk m g i hm =>
  refine run_ret (g_is (gn_f (gn_lc0 (ts := [2, 3]) (w := fun z => .int (wk (g z) (i + z))) (gi_enum (ga_cons (g_var rfl rfl) ga_nil)) ?_ (by simp) fun z x hx => ?_)) ?_) rfl
  · rw [enumD_len, dRow_len]; omega
  · obtain ⟨y, hy, rfl⟩ := get_enum hx
    obtain ⟨hz, rfl⟩ := get_row hy
    exact ⟨_, gg_two, g_intB (g_eqB (g_eqI (g_var rfl rfl) g_int) (g_eqI (g_mod (g_add (g_var rfl rfl) (g_var rfl rfl)) g_int (by decide)) g_int))⟩
  · rw [enumD_len, dRow_len]; rfl
def sdA (h : Int → Int → Int) (r j : Int) : Int := wk (arA h r j) (r + j)
def sdD (h : Int → Int → Int) (i c : Int) : Int := wk (arD h i c) (i + c)
inductive R_sides_of : List Dt → Dt → Prop
  | mk {n : Nat} {h : Int → Int → Int} (hv : HV n h) : R_sides_of [.lst (dM n n (sgn h))] (.tup [.lst (dM n (n + 1) (sdA h)), .lst (dM (n + 1) n (sdD h))])
theorem sc_sides_of : FnScope ["state", "across", "down", "number", "line", "first"] ["state"] (defScope s_sides_of) := ⟨rfl, rfl, rfl, by decide +kernel, rfl, by decide +kernel, by decide +kernel⟩
theorem ok_sides_of (h : Fs K mg "sides_of" s_sides_of) (T : Tx mg) (c_arrows_of : CallS Pg w K mg base 2 "arrows_of" ["state"] (spD K R_arrows_of)) (c_walked : CallS Pg w K mg base 1 "walked" ["line", "number"] (spD K R_walked)) : CallS Pg w K mg base 3 "sides_of" ["state"] (spD K R_sides_of) := by
  obtain ⟨a, fd, F, gm⟩ := h
  refine ⟨a, fd, of_data F sc_sides_of (fun ds y h => by cases h; rfl) (fun cdv A outer s H E hr => ⟨_,
    (pss_cons (ps_asg (pe_callD c_arrows_of hr (by rfl) (pa_cons (pv 0) pa_nil)) (pg_tupK K (n := 2) rfl (pgs_cons (pg_name (i := 1) sc_sides_of.nd rfl (Or.inl rfl)) (pgs_cons (pg_name (i := 2) sc_sides_of.nd rfl (Or.inl rfl)) pgs_nil))))
    (pss_cons (ps_setLc (i := 5) (own := [("number", 3), ("line", 4)]) rfl sc_sides_of.nd rfl rfl (sw_true rfl rfl rfl (by decide +kernel)) (pi_enum (by rfl) T.enumerate (pa_cons (pv 1) pa_nil)) (blkOk_by (by kernel_rfl)) (fun _ _ _ _ _ => pg_tupK K (n := 2) rfl (pgs_cons (pg_name (i := 3) sc_sides_of.nd rfl (Or.inl rfl)) (pgs_cons (pg_name (i := 4) sc_sides_of.nd rfl (Or.inl rfl)) pgs_nil))) (fun _ _ _ _ _ => pts_nil) (fun _ _ _ _ _ => (pe_callD c_walked (hr.mono (by decide)) (by rfl) (pa_cons (pv 4) (pa_cons (pv 3) pa_nil)))))
    (pss_one (ps_ret (pe_tup (pa_cons (pv 5) (pa_cons (pe_lc (own := [("number", 3), ("line", 4)]) rfl sc_sides_of.nd (pi_enum (by rfl) T.enumerate (pa_cons (pv 2) pa_nil)) (blkOk_by (by kernel_rfl)) (fun _ _ _ _ _ => pg_tupK K (n := 2) rfl (pgs_cons (pg_name (i := 3) sc_sides_of.nd rfl (Or.inl rfl)) (pgs_cons (pg_name (i := 4) sc_sides_of.nd rfl (Or.inl rfl)) pgs_nil))) (fun _ _ _ _ _ => pts_nil) (fun _ _ _ _ _ => (pe_callD c_walked (hr.mono (by decide)) (by rfl) (pa_cons (pv 4) (pa_cons (pv 3) pa_nil))))) pa_nil))))))),
    fun ds y h => ?_⟩), gm, F.kp, FunD.bindsN F fun _ _ _ _ _ _ us hl => match us, hl with | [_], _ => rfl⟩
  cases h with
  | @mk n h hv =>
  have hn := hv.pos
  have hn2 := hv.le
  -- slots: 0 state, 1 across, 2 down, 3 number, 4 line, 5 first
  refine run_seq (run_asgG (g_call (ga_cons (g_var rfl rfl) ga_nil) (.mk hv)) gg_two ?_)
  refine run_seq (run_asgF (x := .lst (dM n (n + 1) (sdA h))) (g_is (gn_f (gn_lc0 (ts := [3, 4]) (w := fun z => .lst (dRow (n + 1) (sdA h z))) (gi_enum (ga_cons (g_var rfl rfl) ga_nil)) ?_ (by simp) fun z x hx => ?_)) ?_) ?_)
  · rw [enumD_len, dM_len]; omega
  · obtain ⟨y, hy, rfl⟩ := get_enum hx
    obtain ⟨hz, rfl⟩ := get_M hy
    exact ⟨_, gg_two, g_call (ga_cons (g_var rfl rfl) (ga_cons (g_var rfl rfl) ga_nil)) (.mk (arA h z) z (by omega))⟩
  · rw [enumD_len, dM_len]; rfl
  refine run_ret (g_tup (ga_cons (g_var rfl rfl) (ga_cons (g_is (gn_f (gn_lc0 (ts := [3, 4]) (w := fun z => .lst (dRow n (sdD h z))) (gi_enum (ga_cons (g_var rfl rfl) ga_nil)) ?_ (by simp) fun z x hx => ?_)) ?_) ga_nil))) rfl
  · rw [enumD_len, dM_len]; omega
  · obtain ⟨y, hy, rfl⟩ := get_enum hx
    obtain ⟨hz, rfl⟩ := get_M hy
    exact ⟨_, gg_two, g_call (ga_cons (g_var rfl rfl) (ga_cons (g_var rfl rfl) ga_nil)) (.mk (arD h z) z (by omega))⟩
  · rw [enumD_len, dM_len]; rfl
def ptd (x k : Int) : Int := 1 - 2 * if (!decide (decide (x = 1) = decide (k % 2 = 1))) = true then 1 else 0
theorem ptd_wk {x k : Int} (h : x = 1 ∨ x = -1) : ptd (wk x k) k = x := by
  unfold ptd wk
  rcases h with rfl | rfl
  · by_cases e : k % 2 = 1
    · rw [decide_eq_true e]; rfl
    · rw [decide_eq_false e]; rfl
  · by_cases e : k % 2 = 1
    · rw [decide_eq_true e]; rfl
    · rw [decide_eq_false e]; rfl
theorem wk01 {x k : Int} : wk x k = 1 ∨ wk x k = 0 := by
  unfold wk
  by_cases e : decide (decide (x = 1) = decide (k % 2 = 1)) = true
  · rw [if_pos e]; exact .inl rfl
  · rw [if_neg e]; exact .inr rfl
inductive R_pointed : List Dt → Dt → Prop
  | mk {m : Nat} (g : Int → Int) (i : Int) (hm : m ≤ 100) : R_pointed [.lst (dRow m g), .int i] (.lst (dRow m fun j => ptd (g j) (i + j)))
theorem sc_pointed : FnScope ["line", "number", "k", "side"] ["line", "number"] (defScope s_pointed) := ⟨rfl, rfl, rfl, by decide +kernel, rfl, by decide +kernel, by decide +kernel⟩
theorem ok_pointed (h : Fs K mg "pointed" s_pointed) (T : Tx mg)  : CallS Pg w K mg base 1 "pointed" ["line", "number"] (spD K R_pointed) := by
  obtain ⟨a, fd, F, gm⟩ := h
  refine ⟨a, fd, of_data F sc_pointed (fun ds y h => by cases h; rfl) (fun cdv A outer s H E hr => ⟨_,
    (pss_one (ps_ret (pe_lc (own := [("k", 2), ("side", 3)]) rfl sc_pointed.nd (pi_enum (by rfl) T.enumerate (pa_cons (pv 0) pa_nil)) (blkOk_by (by kernel_rfl)) (fun _ _ _ _ _ => pg_tupK K (n := 2) rfl (pgs_cons (pg_name (i := 2) sc_pointed.nd rfl (Or.inl rfl)) (pgs_cons (pg_name (i := 3) sc_pointed.nd rfl (Or.inl rfl)) pgs_nil))) (fun _ _ _ _ _ => pts_nil) (fun _ _ _ _ _ => (pe_op op_sub pe_int (pe_op op_mul pe_int (pe_callTy call_int1 (by rfl) T.int (by decide +kernel) (pa_cons (pe_cmpR op_ne (pe_cmpR op_eq (pv 3) pe_int (nomark _)) (pe_cmpR op_eq (pe_op op_mod (pe_op op_add (pv 1) (pv 2)) pe_int) pe_int (nomark _)) (nomark _)) pa_nil)))))))),
    fun ds y h => ?_⟩), gm, F.kp, FunD.bindsN F fun _ _ _ _ _ _ us hl => match us, hl with | [_, _], _ => rfl⟩
  cases h with
  | @mk m g i hm =>
  refine run_ret (g_is (gn_f (gn_lc0 (ts := [2, 3]) (w := fun z => .int (ptd (g z) (i + z))) (gi_enum (ga_cons (g_var rfl rfl) ga_nil)) ?_ (by simp) fun z x hx => ?_)) ?_) rfl
  · rw [enumD_len, dRow_len]; omega
  · obtain ⟨y, hy, rfl⟩ := get_enum hx
    obtain ⟨hz, rfl⟩ := get_row hy
    exact ⟨_, gg_two, g_sub g_int (g_mul g_int (g_intB (g_neB (g_eqI (g_var rfl rfl) g_int) (g_eqI (g_mod (g_add (g_var rfl rfl) (g_var rfl rfl)) g_int (by decide)) g_int))) (.inl ⟨by decide, by decide⟩))⟩
  · rw [enumD_len, dRow_len]; rfl
inductive R_state_of_sides : List Dt → Dt → Prop
  | mk {n : Nat} {h : Int → Int → Int} (hv : HV n h) : R_state_of_sides [.tup [.lst (dM n (n + 1) (sdA h)), .lst (dM (n + 1) n (sdD h))]] (.lst (dM n n (sgn h)))
theorem sc_state_of_sides : FnScope ["thing", "number", "line", "across", "down", "spot"] ["thing"] (defScope s_state_of_sides) := ⟨rfl, rfl, rfl, by decide +kernel, rfl, by decide +kernel, by decide +kernel⟩
theorem ok_state_of_sides (h : Fs K mg "state_of_sides" s_state_of_sides) (T : Tx mg) (c_has_form : CallS Pg w K mg base 2 "has_form" ["thing", "numbers"] (spD K R_has_form)) (c_fault_of : CallS Pg w K mg base 2 "fault_of" ["across", "down"] (spD K R_fault_of)) (c_state_of_arrows : CallS Pg w K mg base 3 "state_of_arrows" ["thing"] (spD K R_state_of_arrows)) (c_pointed : CallS Pg w K mg base 1 "pointed" ["line", "number"] (spD K R_pointed)) : CallS Pg w K mg base 4 "state_of_sides" ["thing"] (spD K R_state_of_sides) := by
  obtain ⟨a, fd, F, gm⟩ := h
  refine ⟨a, fd, of_data F sc_state_of_sides (fun ds y h => by cases h; rfl) (fun cdv A outer s H E hr => ⟨_,
    (pss_cons (ps_if (pt_not (pt_val (pe_callD c_has_form (hr.mono (by decide)) (by rfl) (pa_cons (pv 0) (pa_cons (pe_tup (pa_cons pe_int (pa_cons pe_int pa_nil))) pa_nil)))))
    (pss_one ps_never)
    pss_nil)
    (pss_cons (ps_setLc (i := 3) (own := [("number", 1), ("line", 2)]) rfl sc_state_of_sides.nd rfl rfl (sw_true rfl rfl rfl (by decide +kernel)) (pi_enum (by rfl) T.enumerate (pa_cons (pe_ix (ix_tupK K) (pv 0) pe_int (fun _ _ => rfl)) pa_nil)) (blkOk_by (by kernel_rfl)) (fun _ _ _ _ _ => pg_tupK K (n := 2) rfl (pgs_cons (pg_name (i := 1) sc_state_of_sides.nd rfl (Or.inl rfl)) (pgs_cons (pg_name (i := 2) sc_state_of_sides.nd rfl (Or.inl rfl)) pgs_nil))) (fun _ _ _ _ _ => pts_nil) (fun _ _ _ _ _ => (pe_callD c_pointed (hr.mono (by decide)) (by rfl) (pa_cons (pv 2) (pa_cons (pv 1) pa_nil)))))
    (pss_cons (ps_setLc (i := 4) (own := [("number", 1), ("line", 2)]) rfl sc_state_of_sides.nd rfl rfl (sw_true rfl rfl rfl (by decide +kernel)) (pi_enum (by rfl) T.enumerate (pa_cons (pe_ix (ix_tupK K) (pv 0) pe_int (fun _ _ => rfl)) pa_nil)) (blkOk_by (by kernel_rfl)) (fun _ _ _ _ _ => pg_tupK K (n := 2) rfl (pgs_cons (pg_name (i := 1) sc_state_of_sides.nd rfl (Or.inl rfl)) (pgs_cons (pg_name (i := 2) sc_state_of_sides.nd rfl (Or.inl rfl)) pgs_nil))) (fun _ _ _ _ _ => pts_nil) (fun _ _ _ _ _ => (pe_callD c_pointed (hr.mono (by decide)) (by rfl) (pa_cons (pv 2) (pa_cons (pv 1) pa_nil)))))
    (pss_cons (ps_set (i := 5) sc_state_of_sides.nd rfl (Or.inl rfl) (pe_callD c_fault_of (hr.mono (by decide)) (by rfl) (pa_cons (pv 3) (pa_cons (pv 4) pa_nil))))
    (pss_cons (ps_if (pt_cmpR op_notN (pv 5) pe_non (nomark _))
    (pss_one ps_never)
    pss_nil)
    (pss_one (ps_ret (pe_callD c_state_of_arrows hr (by rfl) (pa_cons (pe_tup (pa_cons (pv 3) (pa_cons (pv 4) pa_nil))) pa_nil))))))))),
    fun ds y h => ?_⟩), gm, F.kp, FunD.bindsN F fun _ _ _ _ _ _ us hl => match us, hl with | [_], _ => rfl⟩
  cases h with
  | @mk n h hv =>
  have hn := hv.pos
  have hn2 := hv.le
  -- slots: 0 thing, 1 number, 2 line, 3 across, 4 down, 5 spot
  refine run_seq (run_ifF (gt_not (gt_val (g_call (ga_cons (g_var rfl rfl) (ga_cons (g_tup (ds := dI [0, 1]) (ga_cons g_int (ga_cons g_int ga_nil)) (by simp)) ga_nil)) (.mk hn hn2 (fun i j h0 h1 h2 h3 => by rcases wk01 (x := arA h i j) (k := i + j) with e | e <;> rw [show sdA h i j = wk (arA h i j) (i + j) from rfl, e] <;> simp) (fun i j h0 h1 h2 h3 => by rcases wk01 (x := arD h i j) (k := i + j) with e | e <;> rw [show sdD h i j = wk (arD h i j) (i + j) from rfl, e] <;> simp))))) rfl (run_next ?_))
  refine run_seq (run_asg (x := .lst (dM n (n + 1) (arA h))) (g_is (gn_f (gn_lc0 (ts := [1, 2]) (w := fun z => .lst (dRow (n + 1) (fun j => ptd (sdA h z j) (z + j)))) (gi_enum (ga_cons (g_ixT (g_var rfl rfl) g_int rfl) ga_nil)) ?_ (by simp) fun z x hx => ?_)) ?_) ?_)
  · rw [enumD_len, dM_len]; omega
  · obtain ⟨y, hy, rfl⟩ := get_enum hx
    obtain ⟨hz, rfl⟩ := get_M hy
    exact ⟨_, gg_two, g_call (ga_cons (g_var rfl rfl) (ga_cons (g_var rfl rfl) ga_nil)) (.mk (sdA h z) z (by omega))⟩
  · rw [enumD_len, dM_len]
    exact congrArg Dt.lst (lc_M fun z hz => congrArg Dt.lst (dRow_ext fun j h0 h1 => ptd_wk (hv.arA1 (by omega) (by omega) h0 h1)))
  refine run_seq (run_asg (x := .lst (dM (n + 1) n (arD h))) (g_is (gn_f (gn_lc0 (ts := [1, 2]) (w := fun z => .lst (dRow n (fun j => ptd (sdD h z j) (z + j)))) (gi_enum (ga_cons (g_ixT (g_var rfl rfl) g_int rfl) ga_nil)) ?_ (by simp) fun z x hx => ?_)) ?_) ?_)
  · rw [enumD_len, dM_len]; omega
  · obtain ⟨y, hy, rfl⟩ := get_enum hx
    obtain ⟨hz, rfl⟩ := get_M hy
    exact ⟨_, gg_two, g_call (ga_cons (g_var rfl rfl) (ga_cons (g_var rfl rfl) ga_nil)) (.mk (sdD h z) z (by omega))⟩
  · rw [enumD_len, dM_len]
    exact congrArg Dt.lst (lc_M fun z hz => congrArg Dt.lst (dRow_ext fun j h0 h1 => ptd_wk (hv.arD1 (by omega) (by omega) h0 h1)))
  refine run_seq (run_asg (g_call (ga_cons (g_var rfl rfl) (ga_cons (g_var rfl rfl) ga_nil)) (.mk hv)) ?_)
  refine run_seq (run_ifF (gt_test (g_notN (g_var rfl rfl))) rfl (run_next ?_))
  exact run_ret (g_call (ga_cons (g_tup (ga_cons (g_var rfl rfl) (ga_cons (g_var rfl rfl) ga_nil))) ga_nil) (.mk hv)) rfl
end
end GY
end
section
set_option Elab.async false
set_option linter.all false
set_option maxRecDepth 100000
set_option maxHeartbeats 4000000
namespace GY
open PySem PySem.Spec PyProof.Rows L2
open Evl (Ex fresh_back)
local macro_rules | `(tactic| walk_at "le") => `(tactic| (repeat (first | exact Le.nil | refine Le.cons (by first | exact SLe.rfl | exact SLe.no | exact SLe.fd | exact SLe.od | exact SLe.of | exact SLe.tf | exact SLe.sc rfl) ?_)))
section
variable {Pg : Program} {w : World} {K : PySem.W.Frag} {mg : Str → Option Value} {base : Heap}
/-- a row of a triangle; a triangle -/
def dTr (L : Nat) (g : Nat → Int) : List Dt := dI ((List.range L).map g)
def dT (n : Nat) (t : Nat → Nat → Int) : List Dt := (List.range n).map fun k => .lst (dTr (k + 1) (t k))
theorem dTr_len {L : Nat} {g : Nat → Int} : (dTr L g).length = L := by unfold dTr dI; rw [List.length_map, List.length_map, List.length_range]
theorem dT_len {n : Nat} {t : Nat → Nat → Int} : (dT n t).length = n := by unfold dT; rw [List.length_map, List.length_range]
theorem get_Tr {L : Nat} {g : Nat → Int} {z : Nat} {x : Dt} (h : (dTr L g)[z]? = some x) : z < L ∧ x = .int (g z) := by
  have hz : z < L := by have := (List.getElem?_eq_some_iff.mp h).1; rw [dTr_len] at this; exact this
  refine ⟨hz, ?_⟩
  unfold dTr dI at h
  rw [List.getElem?_map, List.getElem?_map, List.getElem?_range hz] at h
  exact (Option.some.inj h).symm
theorem get_T {n : Nat} {t : Nat → Nat → Int} {z : Nat} {x : Dt} (h : (dT n t)[z]? = some x) : z < n ∧ x = .lst (dTr (z + 1) (t z)) := by
  have hz : z < n := by have := (List.getElem?_eq_some_iff.mp h).1; rw [dT_len] at this; exact this
  refine ⟨hz, ?_⟩
  unfold dT at h
  rw [List.getElem?_map, List.getElem?_range hz] at h
  exact (Option.some.inj h).symm
theorem at_Tr {L : Nat} {g : Nat → Int} {i : Int} (z : Nat) (e : i = (z : Nat)) (h : z < L) : L2.atI (dTr L g) i = some (.int (g z)) := by
  rw [e]
  refine atI_nat ?_
  unfold dTr dI
  rw [List.getElem?_map, List.getElem?_map, List.getElem?_range h]
  rfl
theorem at_T {n : Nat} {t : Nat → Nat → Int} {i : Int} (z : Nat) (e : i = (z : Nat)) (h : z < n) : L2.atI (dT n t) i = some (.lst (dTr (z + 1) (t z))) := by
  rw [e]
  refine atI_nat ?_
  unfold dT
  rw [List.getElem?_map, List.getElem?_range h]
  rfl
theorem dT_snoc {n : Nat} {t : Nat → Nat → Int} {ds : List Dt} (h : ds = dTr (n + 1) (t n)) : dT n t ++ [.lst ds] = dT (n + 1) t := by
  unfold dT
  rw [List.range_succ, List.map_append, h]
  rfl
inductive R_triangle_of : List Dt → Dt → Prop
  | mk {n : Nat} {h : Int → Int → Int} (hv : HV n h) : R_triangle_of [.lst (dM n n (sgn h))] (.lst (dT n (triOf n h)))
theorem sc_triangle_of : FnScope ["state", "c", "columns", "made", "row"] ["state"] (defScope s_triangle_of) := ⟨rfl, rfl, rfl, by decide +kernel, rfl, by decide +kernel, by decide +kernel⟩
theorem ok_triangle_of (h : Fs K mg "triangle_of" s_triangle_of) (T : Tx mg)  : CallS Pg w K mg base 1 "triangle_of" ["state"] (spD K R_triangle_of) := by
  obtain ⟨a, fd, F, gm⟩ := h
  refine ⟨a, fd, of_data F sc_triangle_of (fun ds y h => by cases h; rfl) (fun cdv A outer s H E hr => ⟨_,
    (pss_cons (ps_set (i := 2) sc_triangle_of.nd rfl (Or.inr rfl) (pe_lc (own := [("c", 1)]) rfl sc_triangle_of.nd (pi_range1 (by rfl) T.range (pa_cons (pe_callB (call_lenK K) (by rfl) T.len PySem.boot_len (pa_cons (pv 0) pa_nil)) pa_nil)) (blkOk_by (by kernel_rfl)) (fun _ _ _ _ _ => pg_name (i := 1) sc_triangle_of.nd rfl (Or.inl rfl)) (fun _ _ _ _ _ => pts_nil) (fun _ _ _ _ _ => pe_int)))
    (pss_cons (ps_set (i := 3) sc_triangle_of.nd rfl (Or.inl rfl) (pe_lst pa_nil))
    (pss_cons (ps_for PassesOwn.never rfl (pi_listK K (pv 0)) (pg_name (i := 4) sc_triangle_of.nd rfl (Or.inr rfl))
    (pss_cons (ps_set (i := 2) sc_triangle_of.nd rfl (Or.inr rfl) (pe_lc (own := [("c", 1)]) rfl sc_triangle_of.nd (pi_range1 (by rfl) T.range (pa_cons (pe_callB (call_lenK K) (by rfl) T.len PySem.boot_len (pa_cons (pv 4) pa_nil)) pa_nil)) (blkOk_by (by kernel_rfl)) (fun _ _ _ _ _ => pg_name (i := 1) sc_triangle_of.nd rfl (Or.inl rfl)) (fun _ _ _ _ _ => pts_nil) (fun _ _ _ _ _ => (pe_op op_add (pe_ix (ix_listK K) (pv 2) (pv 1) (fun _ _ => rfl)) (pe_ix (ix_listK K) (pv 4) (pv 1) (fun _ _ => rfl))))))
    (pss_one (ps_expr (pe_bm PySem.F.plainAttrs_list PySem.F.slot_list_append PySem.F.type_list_append mt_append (pv 3) (pa_cons (pe_lc (own := [("c", 1)]) rfl sc_triangle_of.nd (pi_range1 (by rfl) T.range (pa_cons (pe_callB (call_lenK K) (by rfl) T.len PySem.boot_len (pa_cons (pv 4) pa_nil)) pa_nil)) (blkOk_by (by kernel_rfl)) (fun _ _ _ _ _ => pg_name (i := 1) sc_triangle_of.nd rfl (Or.inl rfl)) (fun _ _ _ _ _ => pts_one (pt_cmpR op_eq (pe_ix (ix_listK K) (pv 2) (pv 1) (fun _ _ => rfl)) pe_int (nomark _))) (fun _ _ _ _ _ => (pv 1))) pa_nil))))))
    (pss_one (ps_ret (pv 3)))))),
    fun ds y h => ?_⟩), gm, F.kp, FunD.bindsN F fun _ _ _ _ _ _ us hl => match us, hl with | [_], _ => rfl⟩
  cases h with
  | @mk n h hv =>
  have hn := hv.pos
  have hn2 := hv.le
  -- slots: 0 state, 1 c, 2 columns (cell), 3 made, 4 row (cell)
  refine run_seq (run_asg (x := .lst (dRow n (csum h 0))) (g_is (gn_f (gn_lc0 (ts := [1]) (w := fun _ => .int 0) (gi_rng1 (ga_cons (g_is (g_len (g_var rfl rfl)) (by rw [dM_len])) ga_nil)) ?_ (by simp) fun c x hx => ⟨_, gg_name, g_int⟩)) ?_) ?_)
  · rw [rgD_len]; omega
  · rw [rgD_len, show ((n : Int)).toNat = n by omega]
    exact congrArg Dt.lst (lc_row fun z hz => by rw [hv.csum0 (by omega) (by omega)])
  refine run_seq (run_asgO (gn_lst ga_nil) ?_)
  refine run_seq (run_for (gi_list (g_var rfl rfl)) (fun t => [.d (.lst (dM n n (sgn h))), .no, .d (.lst (dRow n (csum h t))), .own (dT t (triOf n h)), .no]) ?_ ?_ ?_)
  · walk_at "le"
  · intro t x hx
    obtain ⟨ht, rfl⟩ := get_M hx
    refine ⟨_, _, gg_name, ?_⟩
    refine run_seq (run_asg (x := .lst (dRow n (csum h (t + 1)))) (g_is (gn_f (gn_lc0 (ts := [1]) (w := fun z => .int (csum h t z + sgn h t z)) (gi_rng1 (ga_cons (g_is (g_len (g_var rfl rfl)) (by rw [dRow_len])) ga_nil)) ?_ (by simp) fun c x hx => ?_)) ?_) ?_)
    · rw [rgD_len]; omega
    · obtain ⟨hc, rfl⟩ := get_rg0 hx
      rw [show ((n : Int)).toNat = n by omega] at hc
      exact ⟨_, gg_name, g_add (g_ixLs (g_var rfl rfl) (g_var rfl rfl) (at_row (by omega) (by omega))) (g_ixLs (g_var rfl rfl) (g_var rfl rfl) (at_row (by omega) (by omega)))⟩
    · rw [rgD_len, show ((n : Int)).toNat = n by omega]
      exact congrArg Dt.lst (lc_row fun z hz => by rw [hv.csumS (by omega) (by omega) (by omega) (by omega)])
    refine run_app rfl (x := .lst (dTr (t + 1) (triOf n h t))) (g_is (gn_f (gn_lc (ts := [1]) (f := fun z => decide (csum h (t + 1) z = 1)) (w := fun z => .int z) (gi_rng1 (ga_cons (g_is (g_len (g_var rfl rfl)) (by rw [dRow_len])) ga_nil)) ?_ (by simp) fun c x hx => ?_)) ?_) ?_ ?_
    · rw [rgD_len]; omega
    · obtain ⟨hc, rfl⟩ := get_rg0 hx
      rw [show ((n : Int)).toNat = n by omega] at hc
      exact ⟨_, gg_name, gt_test (g_eqI (g_ixLs (g_var rfl rfl) (g_var rfl rfl) (at_row (by omega) (by omega))) g_int), fun _ => g_var rfl rfl⟩
    · rw [rgD_len, show ((n : Int)).toNat = n by omega]
      refine congrArg Dt.lst ?_
      have := congrArg (List.map Dt.int) (hv.tri_list ht)
      unfold dTr dI
      rw [← this, List.map_map]
      rfl
    · rw [dT_len]; omega
    · refine Le.cons .rfl (Le.cons .no (Le.cons .rfl (Le.cons (SLe.eq ?_) (Le.cons .no Le.nil))))
      exact congrArg Sl.own (dT_snoc rfl)
  · rw [dM_len]
    exact run_weak (i := 3) rfl .of (run_ret (g_var rfl rfl) rfl)
inductive R_is_list : List Dt → Dt → Prop
  | mk {L : Nat} {g : Nat → Int} {n : Int} (h : ∀ m, m < L → 0 ≤ g m ∧ g m < n) : R_is_list [.lst (dTr L g), .int L, .int n] (.bl true)
theorem sc_is_list : FnScope ["thing", "many", "n", "number"] ["thing", "many", "n"] (defScope s_is_list) := ⟨rfl, rfl, rfl, by decide +kernel, rfl, by decide +kernel, by decide +kernel⟩
theorem ok_is_list (h : Fs K mg "is_list" s_is_list) (T : Tx mg) (c_is_whole : CallS Pg w K mg base 1 "is_whole" ["thing"] (spD K R_is_whole)) : CallS Pg w K mg base 2 "is_list" ["thing", "many", "n"] (spD K R_is_list) := by
  obtain ⟨a, fd, F, gm⟩ := h
  refine ⟨a, fd, of_data F sc_is_list (fun ds y h => by cases h; rfl) (fun cdv A outer s H E hr => ⟨_,
    (pss_cons (ps_if (PW.pt (pw_or (pt_not (pt_val (pe_callB call_isi (by rfl) T.isinstance (by decide +kernel) (pa_cons (pv 0) (pa_cons (pe_bltn (v := .ty "list") (by rfl) T.list (by decide +kernel) rfl) pa_nil))))) (pw_or1 (pt_cmpR op_ne (pe_callB (call_lenK K) (by rfl) T.len PySem.boot_len (pa_cons (pv 0) pa_nil)) (pv 1) (nomark _)))))
    (pss_one (ps_ret pe_bl))
    pss_nil)
    (pss_cons (ps_for PassesOwn.never rfl (pi_listK K (pv 0)) (pg_name (i := 3) sc_is_list.nd rfl (Or.inl rfl))
    (pss_one (ps_if (PW.pt (pw_or (pt_not (pt_val (pe_callD c_is_whole hr (by rfl) (pa_cons (pv 3) pa_nil)))) (pw_or (pt_cmpR op_lt (pv 3) pe_int (nomark _)) (pw_or1 (pt_cmpR op_ge (pv 3) (pv 2) (nomark _))))))
    (pss_one (ps_ret pe_bl))
    pss_nil)))
    (pss_one (ps_ret pe_bl)))),
    fun ds y h => ?_⟩), gm, F.kp, FunD.bindsN F fun _ _ _ _ _ _ us hl => match us, hl with | [_, _, _], _ => rfl⟩
  cases h with
  | @mk L g n h =>
  refine run_seq (run_ifF (gt_or (gt_not (gt_val (g_isi (a := true) (g_var rfl rfl) rfl (by decide +kernel)))) fun _ => gt_test (g_neI (g_len (g_var rfl rfl)) (g_var rfl rfl))) ?_ (run_next ?_))
  · rw [dTr_len, decide_eq_true rfl]; rfl
  refine run_seq (run_for (gi_list (g_var rfl rfl)) (fun t => [.d (.lst (dTr L g)), .d (.int L), .d (.int n), .no]) ?_ ?_ ?_)
  · walk_at "le"
  · intro t x hx
    obtain ⟨ht, rfl⟩ := get_Tr hx
    have := h t ht
    refine ⟨_, _, gg_name, ?_⟩
    refine run_ifF (gt_or (gt_not (gt_val (g_call (ga_cons (g_var rfl rfl) ga_nil) (.mk _)))) fun _ => gt_or (gt_test (g_lt (g_var rfl rfl) g_int)) fun _ => gt_test (g_ge (g_var rfl rfl) (g_var rfl rfl))) ?_ (run_next ?_)
    · rw [decide_eq_false (by omega), decide_eq_false (by omega)]; rfl
    · walk_at "le"
  · exact run_ret g_bl rfl
inductive R_look_triangle : List Dt → Dt → Prop
  | mk {n : Nat} {t : Nat → Nat → Int} (h1 : 1 ≤ n) (h2 : n ≤ 12) (T : TriOk n t) : R_look_triangle [.lst (dT n t)] .non
theorem and_false_of {a b : Bool} (h : a = true → b = false) : (a && b) = false := by cases a <;> simp_all
theorem sc_look_triangle : FnScope ["thing", "k", "row", "m", "number"] ["thing"] (defScope s_look_triangle) := ⟨rfl, rfl, rfl, by decide +kernel, rfl, by decide +kernel, by decide +kernel⟩
theorem ok_look_triangle (h : Fs K mg "look_triangle" s_look_triangle) (T : Tx mg) (c_is_list : CallS Pg w K mg base 2 "is_list" ["thing", "many", "n"] (spD K R_is_list)) : CallS Pg w K mg base 3 "look_triangle" ["thing"] (spD K R_look_triangle) := by
  obtain ⟨a, fd, F, gm⟩ := h
  refine ⟨a, fd, of_data F sc_look_triangle (fun ds y h => by cases h; rfl) (fun cdv A outer s H E hr => ⟨_,
    (pss_cons (ps_if (PW.pt (pw_or (pt_not (pt_val (pe_callB call_isi (by rfl) T.isinstance (by decide +kernel) (pa_cons (pv 0) (pa_cons (pe_bltn (v := .ty "list") (by rfl) T.list (by decide +kernel) rfl) pa_nil))))) (pw_or (pt_cmpR op_lt (pe_callB (call_lenK K) (by rfl) T.len PySem.boot_len (pa_cons (pv 0) pa_nil)) pe_int (nomark _)) (pw_or1 (pt_cmpR op_gt (pe_callB (call_lenK K) (by rfl) T.len PySem.boot_len (pa_cons (pv 0) pa_nil)) (pe_glob (v := .int 12) (by rfl) T.MOST.choose_spec ⟨_, rfl⟩) (nomark _))))))
    (pss_one ps_never)
    pss_nil)
    (pss_cons (ps_for PassesOwn.never rfl (pi_enum (by rfl) T.enumerate (pa_cons (pv 0) pa_nil)) (pg_tupK K (n := 2) rfl (pgs_cons (pg_name (i := 1) sc_look_triangle.nd rfl (Or.inl rfl)) (pgs_cons (pg_name (i := 2) sc_look_triangle.nd rfl (Or.inl rfl)) pgs_nil)))
    (pss_one (ps_if (pt_not (pt_val (pe_callD c_is_list hr (by rfl) (pa_cons (pv 2) (pa_cons (pe_op op_add (pv 1) pe_int) (pa_cons (pe_callB (call_lenK K) (by rfl) T.len PySem.boot_len (pa_cons (pv 0) pa_nil)) pa_nil))))))
    (pss_one ps_never)
    pss_nil)))
    (pss_one (ps_for PassesOwn.never rfl (pi_enum (by rfl) T.enumerate (pa_cons (pv 0) pa_nil)) (pg_tupK K (n := 2) rfl (pgs_cons (pg_name (i := 1) sc_look_triangle.nd rfl (Or.inl rfl)) (pgs_cons (pg_name (i := 2) sc_look_triangle.nd rfl (Or.inl rfl)) pgs_nil)))
    (pss_one (ps_for PassesOwn.never rfl (pi_enum (by rfl) T.enumerate (pa_cons (pv 2) pa_nil)) (pg_tupK K (n := 2) rfl (pgs_cons (pg_name (i := 3) sc_look_triangle.nd rfl (Or.inl rfl)) (pgs_cons (pg_name (i := 4) sc_look_triangle.nd rfl (Or.inl rfl)) pgs_nil)))
    (pss_cons (ps_if (PW.pt (pw_and (pt_cmpR op_gt (pv 3) pe_int (nomark _)) (pw_and1 (pt_cmpR op_le (pv 4) (pe_ix (ix_listK K) (pv 2) (pe_op op_sub (pv 3) pe_int) (fun _ _ => rfl)) (nomark _)))))
    (pss_one ps_never)
    pss_nil)
    (pss_one (ps_if (PW.pt (pw_and (pt_cmpR op_lt (pe_op op_add (pv 1) pe_int) (pe_callB (call_lenK K) (by rfl) T.len PySem.boot_len (pa_cons (pv 0) pa_nil)) (nomark _)) (pw_and1 (pt_not (pt_chain op_le op_le (pe_ix (ix_listK K) (pe_ix (ix_listK K) (pv 0) (pe_op op_add (pv 1) pe_int) (fun _ _ => rfl)) (pv 3) (fun _ _ => rfl)) (pv 4) (pe_ix (ix_listK K) (pe_ix (ix_listK K) (pv 0) (pe_op op_add (pv 1) pe_int) (fun _ _ => rfl)) (pe_op op_add (pv 3) pe_int) (fun _ _ => rfl)))))))
    (pss_one ps_never)
    pss_nil))))))))),
    fun ds y h => ?_⟩), gm, F.kp, FunD.bindsN F fun _ _ _ _ _ _ us hl => match us, hl with | [_], _ => rfl⟩
  cases h with
  | @mk n t h1 h2 T' =>
  -- slots: 0 thing, 1 k, 2 row, 3 m, 4 number
  refine run_seq (run_ifF (gt_or (gt_not (gt_val (g_isi (a := true) (g_var rfl rfl) rfl (by decide +kernel)))) fun _ => gt_or (gt_test (g_lt (g_len (g_var rfl rfl)) g_int)) fun _ => gt_test (g_gt (g_len (g_var rfl rfl)) g_int)) ?_ (run_next ?_))
  · rw [dT_len, decide_eq_false (by omega), decide_eq_false (by omega)]; rfl
  refine run_seq (run_for (gi_enum (ga_cons (g_var rfl rfl) ga_nil)) (fun _ => [.d (.lst (dT n t)), .no, .no, .no, .no]) ?_ ?_ ?_)
  · walk_at "le"
  · intro k x hx
    obtain ⟨y, hy, rfl⟩ := get_enum hx
    obtain ⟨hk, rfl⟩ := get_T hy
    refine ⟨_, _, gg_two, ?_⟩
    refine run_ifF (gt_not (gt_val (g_call (ga_cons (g_var rfl rfl) (ga_cons (g_add (g_var rfl rfl) g_int) (ga_cons (g_is (g_len (g_var rfl rfl)) (by rw [dT_len])) ga_nil))) (.mk (L := k + 1) fun m hm => ⟨T'.lo k m hk (by omega), T'.hi k m hk (by omega)⟩)))) rfl (run_next ?_)
    walk_at "le"
  refine run_for (gi_enum (ga_cons (g_var rfl rfl) ga_nil)) (fun _ => [.d (.lst (dT n t)), .no, .no, .no, .no]) ?_ ?_ rfl
  · walk_at "le"
  · intro k x hx
    obtain ⟨y, hy, rfl⟩ := get_enum hx
    obtain ⟨hk, rfl⟩ := get_T hy
    refine ⟨_, _, gg_two, ?_⟩
    refine run_for (gi_enum (ga_cons (g_var rfl rfl) ga_nil)) (fun _ => [.d (.lst (dT n t)), .d (.int k), .d (.lst (dTr (k + 1) (t k))), .no, .no]) ?_ ?_ ?_
    · walk_at "le"
    · intro m x hx
      obtain ⟨y, hy, rfl⟩ := get_enum hx
      obtain ⟨hm, rfl⟩ := get_Tr hy
      refine ⟨_, _, gg_two, ?_⟩
      refine run_seq (run_ifF (b := false) (gt_is (gt_and (b := false) (gt_test (g_gt (g_var rfl rfl) g_int)) fun z => ?_) (by rw [Bool.and_false])) rfl (run_next ?_))
      · have z0 : 0 < (m : Int) := of_decide_eq_true z
        refine gt_is (gt_test (g_le (g_var rfl rfl) (g_ixLs (g_var rfl rfl) (g_sub (g_var rfl rfl) g_int) (at_Tr (m - 1) (by omega) (by omega))))) ?_
        have := T'.inc k (m - 1) hk (by omega)
        rw [show m - 1 + 1 = m by omega] at this
        exact decide_eq_false (by omega)
      refine run_ifF (b := false) (gt_is (gt_and (b := false) (gt_test (g_lt (g_add (g_var rfl rfl) g_int) (g_len (g_var rfl rfl)))) fun z => ?_) (by rw [Bool.and_false])) rfl (run_next ?_)
      · have z0 : (k : Int) + 1 < (dT n t).length := of_decide_eq_true z
        rw [dT_len] at z0
        refine gt_is (gt_not (gt_test (g_chain (g_ixLs (g_ixL (g_var rfl rfl) (g_add (g_var rfl rfl) g_int) (at_T (k + 1) (by omega) (by omega))) (g_var rfl rfl) (at_Tr m rfl (by omega))) (g_var rfl rfl) fun _ => g_ixLs (g_ixL (g_var rfl rfl) (g_add (g_var rfl rfl) g_int) (at_T (k + 1) (by omega) (by omega))) (g_add (g_var rfl rfl) g_int) (at_Tr (m + 1) (by omega) (by omega))))) ?_
        rw [decide_eq_true (T'.il k m (by omega) (by omega)), decide_eq_true (T'.ir k m (by omega) (by omega))]
        rfl
      · walk_at "le"
    · walk_at "le"
/-- the row ahead -/
def aheadD (t : Nat → Nat → Int) : Nat → List Int
  | 0 => []
  | k + 1 => (List.range (k + 1)).map (t k)
inductive TriH (n : Nat) (t : Nat → Nat → Int) (h : Int → Int → Int) : Prop
  | mk (hv : HV n h) (hm : ∀ k : Nat, k < n → ∀ c : Int, 0 ≤ c → c < n → ((∃ m, m ≤ k ∧ t k m = c) ↔ csum h ((k + 1 : Nat) : Int) c = 1))
theorem TriH.val {n : Nat} {t : Nat → Nat → Int} {h : Int → Int → Int} (T : TriH n t h) {i : Nat} (hi : i ≤ n) {c : Int} (h0 : 0 ≤ c) (h1 : c < n) : (if decide (c ∈ aheadD t i) = true then (1 : Int) else 0) = csum h i c := by
  obtain ⟨hv, hm⟩ := T
  cases i with
  | zero =>
    rw [decide_eq_false (by unfold aheadD; simp), if_neg (by decide)]
    exact (hv.csum0 h0 h1).symm
  | succ k =>
    have q := hm k (by omega) c h0 h1
    have mem : c ∈ aheadD t (k + 1) ↔ ∃ m, m ≤ k ∧ t k m = c := by
      show c ∈ (List.range (k + 1)).map (t k) ↔ _
      rw [List.mem_map]
      constructor
      · rintro ⟨m, hm, e⟩; exact ⟨m, by have := List.mem_range.mp hm; omega, e⟩
      · rintro ⟨m, hm, e⟩; exact ⟨m, List.mem_range.mpr (by omega), e⟩
    by_cases e : c ∈ aheadD t (k + 1)
    · rw [decide_eq_true e, if_pos rfl]
      exact (q.mp (mem.mp e)).symm
    · rw [decide_eq_false e, if_neg (by decide)]
      have := hv.csum01 (i := ((k + 1 : Nat) : Int)) (c := c) (by omega) (by omega) h0 h1
      rcases this with z | z
      · exact z.symm
      · exact absurd (mem.mpr (q.mpr z)) e
inductive R_state_of_triangle : List Dt → Dt → Prop
  | mk {n : Nat} {t : Nat → Nat → Int} {h : Int → Int → Int} (T : TriOk n t) (TH : TriH n t h) : R_state_of_triangle [.lst (dT n t)] (.lst (dM n n (sgn h)))
theorem sc_state_of_triangle : FnScope ["thing", "ahead", "made", "row", "c"] ["thing"] (defScope s_state_of_triangle) := ⟨rfl, rfl, rfl, by decide +kernel, rfl, by decide +kernel, by decide +kernel⟩
theorem ok_state_of_triangle (h : Fs K mg "state_of_triangle" s_state_of_triangle) (T : Tx mg) (c_look_triangle : CallS Pg w K mg base 3 "look_triangle" ["thing"] (spD K R_look_triangle)) : CallS Pg w K mg base 4 "state_of_triangle" ["thing"] (spD K R_state_of_triangle) := by
  obtain ⟨a, fd, F, gm⟩ := h
  refine ⟨a, fd, of_data F sc_state_of_triangle (fun ds y h => by cases h; rfl) (fun cdv A outer s H E hr => ⟨_,
    (pss_cons (ps_expr (pe_callD c_look_triangle hr (by rfl) (pa_cons (pv 0) pa_nil)))
    (pss_cons (ps_set (i := 1) sc_state_of_triangle.nd rfl (Or.inr rfl) (pe_lst pa_nil))
    (pss_cons (ps_set (i := 2) sc_state_of_triangle.nd rfl (Or.inl rfl) (pe_lst pa_nil))
    (pss_cons (ps_for PassesOwn.never rfl (pi_listK K (pv 0)) (pg_name (i := 3) sc_state_of_triangle.nd rfl (Or.inr rfl))
    (pss_cons (ps_expr (pe_bm PySem.F.plainAttrs_list PySem.F.slot_list_append PySem.F.type_list_append mt_append (pv 2) (pa_cons (pe_lc (own := [("c", 4)]) rfl sc_state_of_triangle.nd (pi_range1 (by rfl) T.range (pa_cons (pe_callB (call_lenK K) (by rfl) T.len PySem.boot_len (pa_cons (pv 0) pa_nil)) pa_nil)) (blkOk_by (by kernel_rfl)) (fun _ _ _ _ _ => pg_name (i := 4) sc_state_of_triangle.nd rfl (Or.inl rfl)) (fun _ _ _ _ _ => pts_nil) (fun _ _ _ _ _ => (pe_op op_sub (pe_callTy call_int1 (by rfl) T.int (by decide +kernel) (pa_cons (pe_cmpR (op_inK K) (pv 4) (pv 3) (by rfl)) pa_nil)) (pe_callTy call_int1 (by rfl) T.int (by decide +kernel) (pa_cons (pe_cmpR (op_inK K) (pv 4) (pv 1) (by rfl)) pa_nil))))) pa_nil)))
    (pss_one (ps_set (i := 1) sc_state_of_triangle.nd rfl (Or.inr rfl) (pv 3)))))
    (pss_one (ps_ret (pv 2))))))),
    fun ds y h => ?_⟩), gm, F.kp, FunD.bindsN F fun _ _ _ _ _ _ us hl => match us, hl with | [_], _ => rfl⟩
  cases h with
  | @mk n t h T' TH =>
  have hv : HV n h := by cases TH; assumption
  have hn := hv.pos
  have hn2 := hv.le
  -- slots: 0 thing, 1 ahead (cell), 2 made, 3 row (cell), 4 c
  refine run_seq (run_drop (g_call (ga_cons (g_var rfl rfl) ga_nil) (.mk hn hn2 T')) ?_)
  refine run_seq (run_asg (x := .lst (dI (aheadD t 0))) (gn_f (gn_lst ga_nil (by simp [aheadD]))) ?_)
  refine run_seq (run_asgO (gn_lst ga_nil) ?_)
  refine run_seq (run_for (gi_list (g_var rfl rfl)) (fun i => [.d (.lst (dT n t)), .d (.lst (dI (aheadD t i))), .own (dM i n (sgn h)), .no, .no]) ?_ ?_ ?_)
  · walk_at "le"
  · intro i x hx
    obtain ⟨hi, rfl⟩ := get_T hx
    refine ⟨_, _, gg_name, ?_⟩
    refine run_seq (run_app rfl (x := .lst (dRow n (sgn h i))) (g_is (gn_f (gn_lc0 (ts := [4]) (w := fun z => .int ((if decide ((z : Int) ∈ aheadD t (i + 1)) = true then (1 : Int) else 0) - (if decide ((z : Int) ∈ aheadD t i) = true then (1 : Int) else 0))) (gi_rng1 (ga_cons (g_is (g_len (g_var rfl rfl)) (by rw [dT_len])) ga_nil)) ?_ (by simp) fun z x hx => ?_)) ?_) ?_ ?_)
    · rw [rgD_len]; omega
    · obtain ⟨hz, rfl⟩ := get_rg0 hx
      exact ⟨_, gg_name, g_sub (g_intB (g_in (ns := aheadD t (i + 1)) false (g_var rfl rfl) (g_var rfl rfl))) (g_intB (g_in (ns := aheadD t i) false (g_var rfl rfl) (g_var rfl rfl)))⟩
    · rw [rgD_len, show ((n : Int)).toNat = n by omega]
      refine congrArg Dt.lst (lc_row fun z hz => ?_)
      rw [TH.val (by omega) (by omega) (by omega), TH.val (by omega) (by omega) (by omega)]
      have := hv.csumS (r := i) (c := z) (by omega) (by omega) (by omega) (by omega)
      rw [show ((i + 1 : Nat) : Int) = (i : Int) + 1 by omega]
      exact congrArg Dt.int (by omega)
    · rw [dM_len]; omega
    refine run_asg (g_var rfl rfl) ?_
    refine Le.cons .rfl (Le.cons .rfl (Le.cons (SLe.eq ?_) (Le.cons .no (Le.cons .no Le.nil))))
    exact congrArg Sl.own (dM_snoc rfl)
  · rw [dT_len]
    exact run_weak (i := 2) rfl .of (run_ret (g_var rfl rfl) rfl)
end
end GY
end
section
set_option Elab.async false
set_option linter.all false
set_option maxRecDepth 100000
set_option maxHeartbeats 4000000
namespace GY
open PySem PySem.Spec PyProof.Rows L2
open Evl (Ex fresh_back)
local macro_rules | `(tactic| walk_at "le") => `(tactic| (repeat (first | exact Le.nil | refine Le.cons (by first | exact SLe.rfl | exact SLe.no | exact SLe.fd | exact SLe.od | exact SLe.of | exact SLe.tf | exact SLe.sc rfl) ?_)))
section
variable {Pg : Program} {w : World} {K : PySem.W.Frag} {mg : Str → Option Value} {base : Heap}
/-- a line's text by marks -/
def lineL (m : Nat) (g : Int → Int) (c : Int → Nat) : List Nat := (List.range m).map fun j => c (g (j : Nat))
def lineT (m : Nat) (g : Int → Int) (c : Int → Nat) : Str := mkS (lineL m g c)
theorem lineT_len {m : Nat} {g : Int → Int} {c : Int → Nat} : (lineT m g c).length = m := by
  unfold lineT lineL
  rw [mkS_len, List.length_map, List.length_range]
inductive R_marked : List Dt → Dt → Prop
  | mk {m : Nat} {g : Int → Int} {ns : List Int} {marks : Str} {c : Int → Nat} (hm : m ≤ 100) (hl : marks.length ≤ 100) (h : ∀ j : Nat, j < m → Mk ns marks (c (g (j : Nat))) (g (j : Nat))) : R_marked [.lst (dRow m g), .fix ns, .str marks] (.str (lineT m g c))
theorem sc_marked : FnScope ["line", "numbers", "marks", "number"] ["line", "numbers", "marks"] (defScope s_marked) := ⟨rfl, rfl, rfl, by decide +kernel, rfl, by decide +kernel, by decide +kernel⟩
theorem ok_marked (h : Fs K mg "marked" s_marked) (T : Tx mg)  : CallS Pg w K mg base 1 "marked" ["line", "numbers", "marks"] (spD K R_marked) := by
  obtain ⟨a, fd, F, gm⟩ := h
  refine ⟨a, fd, of_data F sc_marked (fun ds y h => by cases h; rfl) (fun cdv A outer s H E hr => ⟨_,
    (pss_one (ps_ret (pe_joinK K pe_str (pe_lc (own := [("number", 3)]) rfl sc_marked.nd (pi_listK K (pv 0)) (blkOk_by (by kernel_rfl)) (fun _ _ _ _ _ => pg_name (i := 3) sc_marked.nd rfl (Or.inl rfl)) (fun _ _ _ _ _ => pts_nil) (fun _ _ _ _ _ => (pe_ix ix_str (pv 2) (pe_fixIx (pv 1) (pv 3)) (fun _ _ => rfl))))))),
    fun ds y h => ?_⟩), gm, F.kp, FunD.bindsN F fun _ _ _ _ _ _ us hl => match us, hl with | [_, _, _], _ => rfl⟩
  cases h with
  | @mk m g ns marks c hm hl h =>
  refine run_ret (g_is (g_join (ys := (lineL m g c).map fun c => (⟨#[c]⟩ : Str)) g_str (g_is (gn_f (gn_lc0 (ts := [3]) (w := fun z => .str ⟨#[c (g z)]⟩) (gi_list (g_var rfl rfl)) ?_ (by simp) fun z x hx => ?_)) ?_) ?_) ?_) rfl
  · rw [dRow_len]; omega
  · obtain ⟨hz, rfl⟩ := get_row hx
    obtain ⟨k, k1, k2, k3⟩ := h z hz
    exact ⟨_, gg_name, g_ixS (g_var rfl rfl) (g_fixIx (g_var rfl rfl) (g_var rfl rfl) k1 k2) (by omega) k3⟩
  · rw [dRow_len]
    unfold dS lineL
    rw [List.map_map, List.map_map]
    rfl
  · have : ∀ x ∈ (lineL m g c).map (fun c => (⟨#[c]⟩ : Str)), x.length ≤ 1 := fun x hx => by
      obtain ⟨y, _, rfl⟩ := List.mem_map.mp hx
      exact Nat.le_refl 1
    have a := sum_le this
    rw [show ("" : Str).length = 0 by decide +kernel]
    have b : ((lineL m g c).map (fun c => (⟨#[c]⟩ : Str))).length = m := by unfold lineL; rw [List.length_map, List.length_map, List.length_range]
    omega
  · rw [join_one]; rfl
def bt (n : Nat) (A D : Int → Int → Int) (ca cd : Int → Nat) : Nat → List Str
  | 0 => [lineT n (D 0) cd]
  | t + 1 => bt n A D ca cd t ++ [lineT (n + 1) (A (t : Nat)) ca, lineT n (D ((t : Nat) + 1)) cd]
theorem bt_len {n : Nat} {A D : Int → Int → Int} {ca cd : Int → Nat} : ∀ t, (bt n A D ca cd t).length = 2 * t + 1
  | 0 => rfl
  | t + 1 => by
    unfold bt
    rw [List.length_append, bt_len t]
    show 2 * t + 1 + 2 = _
    omega
inductive R_by_turns : List Dt → Dt → Prop
  | mk {n : Nat} {A D : Int → Int → Int} {ns : List Int} {ma md : Str} {ca cd : Int → Nat} (hn : n ≤ 12) (hla : ma.length ≤ 100) (hld : md.length ≤ 100)
    (hA : ∀ i j : Int, 0 ≤ i → i < n → 0 ≤ j → j < ((n + 1 : Nat) : Int) → Mk ns ma (ca (A i j)) (A i j)) (hD : ∀ i j : Int, 0 ≤ i → i < ((n + 1 : Nat) : Int) → 0 ≤ j → j < n → Mk ns md (cd (D i j)) (D i j)) :
    R_by_turns [.tup [.lst (dM n (n + 1) A), .lst (dM (n + 1) n D)], .fix ns, .tup [.str ma, .str md]] (.lst (dS (bt n A D ca cd n)))
theorem sc_by_turns : FnScope ["pair", "numbers", "marks", "across", "down", "rows", "line", "below"] ["pair", "numbers", "marks"] (defScope s_by_turns) := ⟨rfl, rfl, rfl, by decide +kernel, rfl, by decide +kernel, by decide +kernel⟩
theorem ok_by_turns (h : Fs K mg "by_turns" s_by_turns) (T : Tx mg) (c_marked : CallS Pg w K mg base 1 "marked" ["line", "numbers", "marks"] (spD K R_marked)) : CallS Pg w K mg base 2 "by_turns" ["pair", "numbers", "marks"] (spD K R_by_turns) := by
  obtain ⟨a, fd, F, gm⟩ := h
  refine ⟨a, fd, of_data F sc_by_turns (fun ds y h => by cases h; rfl) (fun cdv A outer s H E hr => ⟨_,
    (pss_cons (ps_asg (pv 0) (pg_tupK K (n := 2) rfl (pgs_cons (pg_name (i := 3) sc_by_turns.nd rfl (Or.inl rfl)) (pgs_cons (pg_name (i := 4) sc_by_turns.nd rfl (Or.inl rfl)) pgs_nil))))
    (pss_cons (ps_set (i := 5) sc_by_turns.nd rfl (Or.inl rfl) (pe_lst (pa_cons (pe_callD c_marked hr (by rfl) (pa_cons (pe_ix (ix_listK K) (pv 4) pe_int (fun _ _ => rfl)) (pa_cons (pv 1) (pa_cons (pe_ix (ix_tupK K) (pv 2) pe_int (fun _ _ => rfl)) pa_nil)))) pa_nil)))
    (pss_cons (ps_for PassesOwn.never rfl (pi_zip (by rfl) T.zip (pa_cons (pv 3) (pa_cons (pe_slice sl_list (pv 4) (po_some pe_int) po_none) pa_nil))) (pg_tupK K (n := 2) rfl (pgs_cons (pg_name (i := 6) sc_by_turns.nd rfl (Or.inl rfl)) (pgs_cons (pg_name (i := 7) sc_by_turns.nd rfl (Or.inl rfl)) pgs_nil)))
    (pss_cons (ps_expr (pe_bm PySem.F.plainAttrs_list PySem.F.slot_list_append PySem.F.type_list_append mt_append (pv 5) (pa_cons (pe_callD c_marked hr (by rfl) (pa_cons (pv 6) (pa_cons (pv 1) (pa_cons (pe_ix (ix_tupK K) (pv 2) pe_int (fun _ _ => rfl)) pa_nil)))) pa_nil)))
    (pss_one (ps_expr (pe_bm PySem.F.plainAttrs_list PySem.F.slot_list_append PySem.F.type_list_append mt_append (pv 5) (pa_cons (pe_callD c_marked hr (by rfl) (pa_cons (pv 7) (pa_cons (pv 1) (pa_cons (pe_ix (ix_tupK K) (pv 2) pe_int (fun _ _ => rfl)) pa_nil)))) pa_nil))))))
    (pss_one (ps_ret (pv 5)))))),
    fun ds y h => ?_⟩), gm, F.kp, FunD.bindsN F fun _ _ _ _ _ _ us hl => match us, hl with | [_, _, _], _ => rfl⟩
  cases h with
  | @mk n A D ns ma md ca cd hn hla hld hA hD =>
  -- slots: 0 pair, 1 numbers, 2 marks, 3 across, 4 down, 5 rows, 6 line, 7 below
  refine run_seq (run_asgG (g_var rfl rfl) gg_two ?_)
  refine run_seq (run_asgO (ds := dS (bt n A D ca cd 0)) (gn_lst (ga_cons (g_call (ga_cons (g_ixL (g_var rfl rfl) g_int (at_M (by omega) (by omega))) (ga_cons (g_var rfl rfl) (ga_cons (g_ixT (g_var rfl rfl) g_int rfl) ga_nil))) (.mk (by omega) hld fun j hj => hD 0 j (by omega) (by omega) (by omega) (by omega))) ga_nil) (by simp [dS, bt])) ?_)
  refine run_seq (run_for (gi_zip (ga_cons (g_var rfl rfl) (ga_cons (g_slice (g_var rfl rfl) (go_some g_int) go_none) ga_nil)))
    (fun t => [.d (.tup [.lst (dM n (n + 1) A), .lst (dM (n + 1) n D)]), .d (.fix ns), .d (.tup [.str ma, .str md]), .d (.lst (dM n (n + 1) A)), .d (.lst (dM (n + 1) n D)), .own (dS (bt n A D ca cd t)), .no, .no]) ?_ ?_ ?_)
  · walk_at "le"
  · intro t x hx
    obtain ⟨p, q, hp, hq, rfl⟩ := get_zip hx
    obtain ⟨ht, rfl⟩ := get_M hp
    rw [cut1D, List.getElem?_drop] at hq
    obtain ⟨ht2, rfl⟩ := get_M hq
    refine ⟨_, _, gg_two, ?_⟩
    have e : ((1 + t : Nat) : Int) = (t : Int) + 1 := by omega
    refine run_seq (run_app rfl (g_call (ga_cons (g_var rfl rfl) (ga_cons (g_var rfl rfl) (ga_cons (g_ixT (g_var rfl rfl) g_int rfl) ga_nil))) (.mk (c := ca) (by omega) hla fun j hj => hA t j (by omega) (by omega) (by omega) (by omega))) ?_ ?_)
    · unfold dS; rw [List.length_map, bt_len]; omega
    refine run_app rfl (g_call (ga_cons (g_var rfl rfl) (ga_cons (g_var rfl rfl) (ga_cons (g_ixT (g_var rfl rfl) g_int rfl) ga_nil))) (.mk (c := cd) (by omega) hld fun j hj => hD _ j (by omega) (by omega) (by omega) (by omega))) ?_ ?_
    · rw [List.length_append]; unfold dS; rw [List.length_map, bt_len]; simp; omega
    · refine Le.cons .rfl (Le.cons .rfl (Le.cons .rfl (Le.cons .rfl (Le.cons .rfl (Le.cons (SLe.eq ?_) (Le.cons .no (Le.cons .no Le.nil)))))))
      refine congrArg Sl.own ?_
      rw [e]
      show _ = dS (bt n A D ca cd t ++ [lineT (n + 1) (A (t : Nat)) ca, lineT n (D ((t : Nat) + 1)) cd])
      unfold dS
      rw [List.map_append, List.append_assoc]
      rfl
  · rw [zipD_len, cut1D, List.length_drop, dM_len, dM_len, show min n (n + 1 - 1) = n by omega]
    exact run_weak (i := 5) rfl .of (run_ret (g_var rfl rfl) rfl)
def dR (rows : List (List Int)) : List Dt := rows.map fun r => .lst (dI r)
theorem get_R {rows : List (List Int)} {z : Nat} {x : Dt} (h : (dR rows)[z]? = some x) : ∃ r, rows[z]? = some r ∧ x = .lst (dI r) := by
  unfold dR at h
  rw [List.getElem?_map] at h
  cases e : rows[z]? with
  | none => rw [e] at h; cases h
  | some r => rw [e] at h; exact ⟨r, rfl, (Option.some.inj h).symm⟩
theorem get_I {r : List Int} {z : Nat} {x : Dt} (h : (dI r)[z]? = some x) : ∃ i, r[z]? = some i ∧ x = .int i := by
  unfold dI at h
  rw [List.getElem?_map] at h
  cases e : r[z]? with
  | none => rw [e] at h; cases h
  | some i => rw [e] at h; exact ⟨i, rfl, (Option.some.inj h).symm⟩
/-- a list made by place -/
theorem by_place {α β : Type} {l : List α} {f : α → β} {w : Nat → β} (h : ∀ z x, l[z]? = some x → w z = f x) : (List.range l.length).map w = l.map f := by
  refine List.ext_getElem? fun z => ?_
  by_cases hz : z < l.length
  · rw [List.getElem?_map, List.getElem?_range hz, List.getElem?_map, List.getElem?_eq_getElem hz]
    exact congrArg some (h z _ (List.getElem?_eq_getElem hz))
  · rw [List.getElem?_eq_none (by rw [List.length_map, List.length_range]; omega), List.getElem?_eq_none (by rw [List.length_map]; omega)]
inductive R_counted : List Dt → Dt → Prop
  | mk {rows : List (List Int)} (hl : rows.length ≤ 100) (hr : ∀ r ∈ rows, Few r) : R_counted [.lst (dR rows)] (.lst (dS (rows.map numT)))
theorem sc_counted : FnScope ["lines", "line", "number"] ["lines"] (defScope s_counted) := ⟨rfl, rfl, rfl, by decide +kernel, rfl, by decide +kernel, by decide +kernel⟩
theorem ok_counted (h : Fs K mg "counted" s_counted) (T : Tx mg)  : CallS Pg w K mg base 1 "counted" ["lines"] (spD K R_counted) := by
  obtain ⟨a, fd, F, gm⟩ := h
  refine ⟨a, fd, of_data F sc_counted (fun ds y h => by cases h; rfl) (fun cdv A outer s H E hr => ⟨_,
    (pss_one (ps_ret (pe_lc (own := [("line", 1)]) rfl sc_counted.nd (pi_listK K (pv 0)) (blkOk_by (by kernel_rfl)) (fun _ _ _ _ _ => pg_name (i := 1) sc_counted.nd rfl (Or.inl rfl)) (fun _ _ _ _ _ => pts_nil) (fun _ _ _ _ _ => (pe_joinK K pe_str (pe_lc (own := [("number", 2)]) rfl sc_counted.nd (pi_listK K (pv 1)) (blkOk_by (by kernel_rfl)) (fun _ _ _ _ _ => pg_name (i := 2) sc_counted.nd rfl (Or.inl rfl)) (fun _ _ _ _ _ => pts_nil) (fun _ _ _ _ _ => (pe_callTy call_str_int (by rfl) T.str (by decide +kernel) (pa_cons (pv 2) pa_nil))))))))),
    fun ds y h => ?_⟩), gm, F.kp, FunD.bindsN F fun _ _ _ _ _ _ us hl => match us, hl with | [_], _ => rfl⟩
  cases h with
  | @mk rows hl hr =>
  -- slots: 0 lines, 1 line, 2 number
  refine run_ret (g_is (gn_f (gn_lc0 (ts := [1]) (w := fun z => .str (numT (rows.getD z []))) (gi_list (g_var rfl rfl)) ?_ (by simp) fun z x hx => ?_)) ?_) rfl
  · unfold dR; rw [List.length_map]; omega
  · obtain ⟨r, hz, rfl⟩ := get_R hx
    have few := hr r (List.mem_of_getElem? hz)
    have er : rows.getD z [] = r := by rw [List.getD_eq_getElem?_getD, hz]; rfl
    refine ⟨_, gg_name, g_is (g_join (ys := r.map nT) g_str (g_is (gn_f (gn_lc0 (ts := [2]) (w := fun y => .str (nT (r.getD y 0))) (gi_list (g_var rfl rfl)) ?_ (by simp) fun y x hy => ?_)) ?_) ?_) ?_⟩
    · unfold dI; rw [List.length_map]; have := few.1; omega
    · obtain ⟨i, hi, rfl⟩ := get_I hy
      have ei : r.getD y 0 = i := by rw [List.getD_eq_getElem?_getD, hi]; rfl
      have b := few.2 i (List.mem_of_getElem? hi)
      refine ⟨_, gg_name, g_is (g_strI (g_var rfl rfl) ?_) (by rw [ei]; rfl)⟩
      obtain ⟨k, rfl⟩ := Int.eq_ofNat_of_zero_le b.1
      have : k < 25 := by omega
      show (k : Int).natAbs.log2 < 1920
      rw [Int.natAbs_natCast]
      refine Nat.lt_of_le_of_lt (Nat.log2_le_self k) (by omega)
    · rw [show (dI r).length = r.length by unfold dI; rw [List.length_map], by_place (f := fun i => Dt.str (nT i)) fun z i hi => by rw [List.getD_eq_getElem?_getD, hi]; rfl]
      unfold dS
      rw [List.map_map]
      rfl
    · have := few.sum
      have b := few.1
      rw [List.length_map, show (" " : Str).length = 1 by decide +kernel]
      omega
    · rw [er]; rfl
  · rw [show (dR rows).length = rows.length by unfold dR; rw [List.length_map], by_place (f := fun r => Dt.str (numT r)) fun z r hr => by rw [List.getD_eq_getElem?_getD, hr]; rfl]
    unfold dS
    rw [List.map_map]
    rfl
inductive R_heightsD : List Dt → Dt → Prop
  | mk {n : Nat} {h : Int → Int → Int} (hv : HV n h) : R_heightsD [.lst (dM n n (sgn h))] (.lst (dM (n + 1) (n + 1) h))
theorem heights_D (c : CallS Pg w K mg base 1 "heights_of" ["state"] (spM K R_heights_of)) : CallS Pg w K mg base 1 "heights_of" ["state"] (spD K R_heightsD) := by
  obtain ⟨a, fd, F, g1, g2, g3⟩ := c
  refine ⟨a, fd, F.imp fun vs H Q E s => spM_D (fun ds x hx => ?_) s, g1, g2, g3⟩
  cases hx with
  | mk hv => exact ⟨_, .mk hv, by rw [rowsI_dM]⟩
inductive Fm where | signs | heights | arrows | sides | triangle
def Fm.name : Fm → Str
  | .signs => "signs"
  | .heights => "heights"
  | .arrows => "arrows"
  | .sides => "sides"
  | .triangle => "triangle"
def cS (z : Int) : Nat := if z = 1 then 43 else if z = 0 then 48 else 45
def cAa (z : Int) : Nat := if z = 1 then 62 else 60
def cAd (z : Int) : Nat := if z = 1 then 118 else 94
def cSa (z : Int) : Nat := if z = 1 then 45 else 46
def cSd (z : Int) : Nat := if z = 1 then 124 else 46
theorem mkS_of {z : Int} (h : z = -1 ∨ z = 0 ∨ z = 1) : Mk [1, 0, -1] "+0-" (cS z) z := by
  rcases h with rfl | rfl | rfl
  · exact ⟨2, rfl, by decide, by decide +kernel⟩
  · exact ⟨1, rfl, by decide, by decide +kernel⟩
  · exact ⟨0, rfl, by decide, by decide +kernel⟩
theorem mkAa_of {z : Int} (h : z = 1 ∨ z = -1) : Mk [1, -1] "><" (cAa z) z := by
  rcases h with rfl | rfl
  · exact ⟨0, rfl, by decide, by decide +kernel⟩
  · exact ⟨1, rfl, by decide, by decide +kernel⟩
theorem mkAd_of {z : Int} (h : z = 1 ∨ z = -1) : Mk [1, -1] "v^" (cAd z) z := by
  rcases h with rfl | rfl
  · exact ⟨0, rfl, by decide, by decide +kernel⟩
  · exact ⟨1, rfl, by decide, by decide +kernel⟩
theorem mkSa_of {z : Int} (h : z = 1 ∨ z = 0) : Mk [1, 0] "-." (cSa z) z := by
  rcases h with rfl | rfl
  · exact ⟨0, rfl, by decide, by decide +kernel⟩
  · exact ⟨1, rfl, by decide, by decide +kernel⟩
theorem mkSd_of {z : Int} (h : z = 1 ∨ z = 0) : Mk [1, 0] "|." (cSd z) z := by
  rcases h with rfl | rfl
  · exact ⟨0, rfl, by decide, by decide +kernel⟩
  · exact ⟨1, rfl, by decide, by decide +kernel⟩
/-- a triangle's rows, a table's rows -/
def rowsT (n : Nat) (t : Nat → Nat → Int) : List (List Int) := (List.range n).map fun k => (List.range (k + 1)).map (t k)
def rowsOf (n : Nat) (h : Int → Int → Int) : Fm → List Str
  | .signs => (List.range n).map fun r => lineT n (sgn h (r : Nat)) cS
  | .heights => (rowsI (n + 1) (n + 1) h).map numT
  | .arrows => bt n (arA h) (arD h) cAa cAd n
  | .sides => bt n (sdA h) (sdD h) cSa cSd n
  | .triangle => (rowsT n (triOf n h)).map numT
def showT (n : Nat) (h : Int → Int → Int) (f : Fm) : Str := Txt.join ("\n" : Str) (rowsOf n h f)
theorem HV.range {n : Nat} {h : Int → Int → Int} (hv : HV n h) : ∀ i : Nat, i ≤ n → ∀ j : Int, 0 ≤ j → j ≤ n → 0 ≤ h i j + i ∧ h i j ≤ j + i ∧ (0 ≤ h i j) := by
  intro i hi j h0 h1
  -- from the left h (i, j) ≤ i + j; from both rims it is not below 0
  have up : ∀ (k : Nat) (i j : Int), 0 ≤ i → i ≤ n → 0 ≤ j → j + k ≤ n → h i (j + k) ≤ h i j + k ∧ h i j - k ≤ h i (j + k) := by
    intro k
    induction k with
    | zero => intro i j _ _ _ _; simp
    | succ k ih =>
      intro i j a b c d
      have := ih i j a b c (by omega)
      have := hv.hor i (j + k) a b (by omega) (by omega)
      rw [show j + ((k + 1 : Nat) : Int) = j + k + 1 by omega]
      omega
  have a := up j.toNat i 0 (by omega) (by omega) (by omega) (by omega)
  have b := up (n - j).toNat i j (by omega) (by omega) (by omega) (by omega)
  rw [show (0 : Int) + (j.toNat : Nat) = j by omega] at a
  rw [show j + (((n : Int) - j).toNat : Nat) = n by omega] at b
  have l := hv.left i (by omega) (by omega)
  have r := hv.rig i (by omega) (by omega)
  -- vertical
  have vp : ∀ (k : Nat) (i j : Int), 0 ≤ j → j ≤ n → 0 ≤ i → i + k ≤ n → h (i + k) j ≤ h i j + k ∧ h i j - k ≤ h (i + k) j := by
    intro k
    induction k with
    | zero => intro i j _ _ _ _; simp
    | succ k ih =>
      intro i j a b c d
      have := ih i j a b c (by omega)
      have := hv.ver (i + k) j (by omega) (by omega) a b
      rw [show i + ((k + 1 : Nat) : Int) = i + k + 1 by omega]
      omega
  have c := vp i 0 j h0 h1 (by omega) (by omega)
  have d := vp (n - i) i j h0 h1 (by omega) (by omega)
  rw [show (0 : Int) + (i : Nat) = i by omega] at c
  rw [show (i : Int) + ((n - i : Nat) : Int) = n by omega] at d
  have t := hv.top j h0 h1
  have o := hv.bot j h0 h1
  refine ⟨by omega, by omega, ?_⟩
  omega
theorem HV.few {n : Nat} {h : Int → Int → Int} (hv : HV n h) : ∀ r ∈ rowsI (n + 1) (n + 1) h, Few r := fun r hr => by
  have hn := hv.le
  unfold rowsI at hr
  obtain ⟨i, hi, rfl⟩ := List.mem_map.mp hr
  have hi := List.mem_range.mp hi
  refine ⟨by rw [rowI_len]; omega, fun x hx => ?_⟩
  unfold rowI at hx
  obtain ⟨j, hj, rfl⟩ := List.mem_map.mp hx
  have hj := List.mem_range.mp hj
  have := hv.range i (by omega) j (by omega) (by omega)
  omega
theorem HV.fewT {n : Nat} {h : Int → Int → Int} (hv : HV n h) : ∀ r ∈ rowsT n (triOf n h), Few r := fun r hr => by
  have hn := hv.le
  unfold rowsT at hr
  obtain ⟨k, hk, rfl⟩ := List.mem_map.mp hr
  have hk := List.mem_range.mp hk
  refine ⟨by rw [List.length_map, List.length_range]; omega, fun x hx => ?_⟩
  obtain ⟨m, hm, rfl⟩ := List.mem_map.mp hx
  have hm := List.mem_range.mp hm
  have a := hv.triOk.lo k m hk (by omega)
  have b := hv.triOk.hi k m hk (by omega)
  omega
theorem line_free {m : Nat} {g : Int → Int} {c : Int → Nat} (h : ∀ z, c z ≠ 10) : 10 ∉ TL.tl (lineT m g c) := by
  unfold lineT lineL
  rw [tl_mkS]
  intro z
  obtain ⟨j, _, e⟩ := List.mem_map.mp z
  exact h _ e
theorem bt_mem {n : Nat} {A D : Int → Int → Int} {ca cd : Int → Nat} : ∀ t r, r ∈ bt n A D ca cd t → (∃ i, r = lineT (n + 1) (A i) ca) ∨ (∃ i, r = lineT n (D i) cd)
  | 0, r, h => .inr ⟨0, List.mem_singleton.mp h⟩
  | t + 1, r, h => by
    unfold bt at h
    rcases List.mem_append.mp h with h | h
    · exact bt_mem t r h
    · rcases List.mem_cons.mp h with h | h
      · exact .inl ⟨_, h⟩
      · exact .inr ⟨_, List.mem_singleton.mp h⟩
theorem ite_ne {p : Prop} [Decidable p] {a b k : Nat} (ha : a ≠ k) (hb : b ≠ k) : (if p then a else b) ≠ k := by
  by_cases h : p
  · rw [if_pos h]; exact ha
  · rw [if_neg h]; exact hb
theorem HV.rows {n : Nat} {h : Int → Int → Int} (hv : HV n h) (f : Fm) : (rowsOf n h f).length ≤ 25 ∧ rowsOf n h f ≠ [] ∧ ∀ r ∈ rowsOf n h f, r.length ≤ 300 ∧ 10 ∉ TL.tl r := by
  have hn := hv.pos
  have hn2 := hv.le
  have ne : ∀ {l : List Str}, 0 < l.length → l ≠ [] := fun h e => by rw [e] at h; cases h
  have btp : ∀ {A D : Int → Int → Int} {ca cd : Int → Nat}, (∀ z, ca z ≠ 10) → (∀ z, cd z ≠ 10) → (bt n A D ca cd n).length ≤ 25 ∧ bt n A D ca cd n ≠ [] ∧ ∀ r ∈ bt n A D ca cd n, r.length ≤ 300 ∧ 10 ∉ TL.tl r := fun h1 h2 => by
    refine ⟨by rw [bt_len]; omega, ne (by rw [bt_len]; omega), fun r hr => ?_⟩
    rcases bt_mem n r hr with ⟨i, rfl⟩ | ⟨i, rfl⟩
    · exact ⟨by rw [lineT_len]; omega, line_free h1⟩
    · exact ⟨by rw [lineT_len]; omega, line_free h2⟩
  cases f with
  | signs =>
    refine ⟨by unfold rowsOf; rw [List.length_map, List.length_range]; omega, ne (by unfold rowsOf; rw [List.length_map, List.length_range]; omega), fun r hr => ?_⟩
    obtain ⟨i, hi, rfl⟩ := List.mem_map.mp hr
    exact ⟨by rw [lineT_len]; omega, line_free fun z => ite_ne (by decide) (ite_ne (by decide) (by decide))⟩
  | heights =>
    refine ⟨by unfold rowsOf; rw [List.length_map, rowsI_len]; omega, ne (by unfold rowsOf; rw [List.length_map, rowsI_len]; omega), fun r hr => ?_⟩
    obtain ⟨i, hi, rfl⟩ := List.mem_map.mp hr
    exact ⟨(hv.few i hi).len, (hv.few i hi).free⟩
  | arrows => exact btp (fun z => ite_ne (by decide) (by decide)) (fun z => ite_ne (by decide) (by decide))
  | sides => exact btp (fun z => ite_ne (by decide) (by decide)) (fun z => ite_ne (by decide) (by decide))
  | triangle =>
    refine ⟨by unfold rowsOf rowsT; rw [List.length_map, List.length_map, List.length_range]; omega, ne (by unfold rowsOf rowsT; rw [List.length_map, List.length_map, List.length_range]; omega), fun r hr => ?_⟩
    obtain ⟨i, hi, rfl⟩ := List.mem_map.mp hr
    exact ⟨(hv.fewT i hi).len, (hv.fewT i hi).free⟩
theorem HV.rows_sum {n : Nat} {h : Int → Int → Int} (hv : HV n h) (f : Fm) : ((rowsOf n h f).map (·.length)).sum ≤ 7500 := by
  obtain ⟨a, _, b⟩ := hv.rows f
  have c := sum_le fun x hx => (b x hx).1
  have : (rowsOf n h f).length * 300 ≤ 25 * 300 := Nat.mul_le_mul_right _ a
  omega
theorem HV.show_len {n : Nat} {h : Int → Int → Int} (hv : HV n h) (f : Fm) : (showT n h f).length ≤ 10000 := by
  refine Nat.le_trans (join_le (a := 7500) (b := 25) (hv.rows_sum f) ?_) (by decide)
  rw [show ("\n" : Str).length = 1 by decide +kernel]
  have := (hv.rows f).1
  omega
theorem HV.split {n : Nat} {h : Int → Int → Int} (hv : HV n h) (f : Fm) : Txt.split (showT n h f) ("\n" : Str) = rowsOf n h f := by
  obtain ⟨_, b, c⟩ := hv.rows f
  exact TL.split_join (s := 10) (S := []) (by decide +kernel) (by decide +kernel) b fun p hp => (c p hp).2
theorem dM_dR {n m : Nat} {f : Int → Int → Int} : dM n m f = dR (rowsI n m f) := rowsI_dM.symm
theorem dT_dR {n : Nat} {t : Nat → Nat → Int} : dT n t = dR (rowsT n t) := by
  unfold dT dR rowsT
  rw [List.map_map]
  rfl
inductive R_show : List Dt → Dt → Prop
  | mk {n : Nat} {h : Int → Int → Int} (hv : HV n h) (f : Fm) : R_show [.str f.name, .lst (dM n n (sgn h))] (.str (showT n h f))
theorem sc_show : FnScope ["form", "state", "line", "rows"] ["form", "state"] (defScope s_show) := ⟨rfl, rfl, rfl, by decide +kernel, rfl, by decide +kernel, by decide +kernel⟩
theorem ok_show (h : Fs K mg "show" s_show) (T : Tx mg) (c_heights_of : CallS Pg w K mg base 1 "heights_of" ["state"] (spD K R_heightsD)) (c_arrows_of : CallS Pg w K mg base 2 "arrows_of" ["state"] (spD K R_arrows_of)) (c_sides_of : CallS Pg w K mg base 3 "sides_of" ["state"] (spD K R_sides_of)) (c_triangle_of : CallS Pg w K mg base 1 "triangle_of" ["state"] (spD K R_triangle_of)) (c_marked : CallS Pg w K mg base 1 "marked" ["line", "numbers", "marks"] (spD K R_marked)) (c_by_turns : CallS Pg w K mg base 2 "by_turns" ["pair", "numbers", "marks"] (spD K R_by_turns)) (c_counted : CallS Pg w K mg base 1 "counted" ["lines"] (spD K R_counted)) : CallS Pg w K mg base 4 "show" ["form", "state"] (spD K R_show) := by
  obtain ⟨a, fd, F, gm⟩ := h
  refine ⟨a, fd, of_data F sc_show (fun ds y h => by cases h; rfl) (fun cdv A outer s H E hr => ⟨_,
    (pss_cons (ps_if (pt_cmpR op_eq (pv 0) pe_str (nomark _))
    (pss_one (ps_setLc (i := 3) (own := [("line", 2)]) rfl sc_show.nd rfl rfl (sw_true rfl rfl rfl (by decide +kernel)) (pi_listK K (pv 1)) (blkOk_by (by kernel_rfl)) (fun _ _ _ _ _ => pg_name (i := 2) sc_show.nd rfl (Or.inl rfl)) (fun _ _ _ _ _ => pts_nil) (fun _ _ _ _ _ => (pe_callD c_marked (hr.mono (by decide)) (by rfl) (pa_cons (pv 2) (pa_cons (pe_tupX (pa_cons pe_int (pa_cons pe_int (pa_cons (pe_un un_neg pe_int) pa_nil)))) (pa_cons pe_str pa_nil)))))))
    (pss_one (ps_if (pt_cmpR op_eq (pv 0) pe_str (nomark _))
    (pss_one (ps_set (i := 3) sc_show.nd rfl (Or.inl rfl) (pe_callD c_counted (hr.mono (by decide)) (by rfl) (pa_cons (pe_callD c_heights_of (hr.mono (by decide)) (by rfl) (pa_cons (pv 1) pa_nil)) pa_nil))))
    (pss_one (ps_if (pt_cmpR op_eq (pv 0) pe_str (nomark _))
    (pss_one (ps_set (i := 3) sc_show.nd rfl (Or.inl rfl) (pe_callD c_by_turns (hr.mono (by decide)) (by rfl) (pa_cons (pe_callD c_arrows_of (hr.mono (by decide)) (by rfl) (pa_cons (pv 1) pa_nil)) (pa_cons (pe_tupX (pa_cons pe_int (pa_cons (pe_un un_neg pe_int) pa_nil))) (pa_cons (pe_tup (pa_cons pe_str (pa_cons pe_str pa_nil))) pa_nil))))))
    (pss_one (ps_if (pt_cmpR op_eq (pv 0) pe_str (nomark _))
    (pss_one (ps_set (i := 3) sc_show.nd rfl (Or.inl rfl) (pe_callD c_by_turns (hr.mono (by decide)) (by rfl) (pa_cons (pe_callD c_sides_of hr (by rfl) (pa_cons (pv 1) pa_nil)) (pa_cons (pe_tupX (pa_cons pe_int (pa_cons pe_int pa_nil))) (pa_cons (pe_tup (pa_cons pe_str (pa_cons pe_str pa_nil))) pa_nil))))))
    (pss_one (ps_set (i := 3) sc_show.nd rfl (Or.inl rfl) (pe_callD c_counted (hr.mono (by decide)) (by rfl) (pa_cons (pe_callD c_triangle_of (hr.mono (by decide)) (by rfl) (pa_cons (pv 1) pa_nil)) pa_nil)))))))))))
    (pss_one (ps_ret (pe_joinK K pe_str (pv 3))))),
    fun ds y h => ?_⟩), gm, F.kp, FunD.bindsN F fun _ _ _ _ _ _ us hl => match us, hl with | [_, _], _ => rfl⟩
  cases h with
  | @mk n h hv f =>
  have hn := hv.pos
  have hn2 := hv.le
  have fin : ∀ {Γ : Ga} {P : Po}, Γ[3]? = some (.f (.lst (dS (rowsOf n h f)))) → P.rt (.str (showT n h f)) → Run K (tRet (tM1 (rJoin K) (tC (.str "\n")) (tVar 3))) Γ P := fun h1 h2 => run_ret (g_join g_str (g_var h1 rfl) (by
    have a := hv.rows_sum f
    have b := (hv.rows f).1
    rw [show ("\n" : Str).length = 1 by decide +kernel]
    omega)) h2
  cases f with
  | signs =>
    refine run_seq (run_ifT (gt_test (g_eqS (g_var rfl rfl) g_str)) (by decide +kernel) (run_asgF (x := .lst (dS (rowsOf n h .signs))) (g_is (gn_f (gn_lc0 (ts := [2]) (w := fun z => .str (lineT n (sgn h z) cS)) (gi_list (g_var rfl rfl)) ?_ (by simp) fun z x hx => ?_)) ?_) (fin rfl rfl)))
    · rw [dM_len]; omega
    · obtain ⟨hz, rfl⟩ := get_M hx
      exact ⟨_, gg_name, g_call (ga_cons (g_var rfl rfl) (ga_cons (g_tupX (ns := [1, 0, -1]) (ga_cons g_int (ga_cons g_int (ga_cons (g_neg g_int) ga_nil)))) (ga_cons g_str ga_nil))) (.mk (by omega) (by decide +kernel) fun j hj => mkS_of (hv.sgn_range (by omega) (by omega) (by omega) (by omega)))⟩
    · rw [dM_len]
      show _ = Dt.lst (dS ((List.range n).map fun r => lineT n (sgn h (r : Nat)) cS))
      unfold dS
      rw [List.map_map]
      rfl
  | heights =>
    refine run_seq (run_ifF (gt_test (g_eqS (g_var rfl rfl) g_str)) (by decide +kernel) ?_)
    refine run_ifT (gt_test (g_eqS (g_var rfl rfl) g_str)) (by decide +kernel) (run_asgF (g_call (ga_cons (g_is (g_call (ga_cons (g_var rfl rfl) ga_nil) (.mk hv)) (by rw [dM_dR])) ga_nil) (.mk (by rw [rowsI_len]; omega) hv.few)) (fin rfl rfl))
  | arrows =>
    refine run_seq (run_ifF (gt_test (g_eqS (g_var rfl rfl) g_str)) (by decide +kernel) ?_)
    refine run_ifF (gt_test (g_eqS (g_var rfl rfl) g_str)) (by decide +kernel) ?_
    refine run_ifT (gt_test (g_eqS (g_var rfl rfl) g_str)) (by decide +kernel) (run_asgF (g_call (ga_cons (g_call (ga_cons (g_var rfl rfl) ga_nil) (.mk hv)) (ga_cons (g_tupX (ns := [1, -1]) (ga_cons g_int (ga_cons (g_neg g_int) ga_nil))) (ga_cons (g_tup (ga_cons g_str (ga_cons g_str ga_nil))) ga_nil)))
      (.mk hn2 (by decide +kernel) (by decide +kernel) (fun i j a b c d => mkAa_of (hv.arA1 a b c d)) (fun i j a b c d => mkAd_of (hv.arD1 a b c d)))) (fin rfl rfl))
  | sides =>
    refine run_seq (run_ifF (gt_test (g_eqS (g_var rfl rfl) g_str)) (by decide +kernel) ?_)
    refine run_ifF (gt_test (g_eqS (g_var rfl rfl) g_str)) (by decide +kernel) ?_
    refine run_ifF (gt_test (g_eqS (g_var rfl rfl) g_str)) (by decide +kernel) ?_
    refine run_ifT (gt_test (g_eqS (g_var rfl rfl) g_str)) (by decide +kernel) (run_asgF (g_call (ga_cons (g_call (ga_cons (g_var rfl rfl) ga_nil) (.mk hv)) (ga_cons (g_tupX (ns := [1, 0]) (ga_cons g_int (ga_cons g_int ga_nil))) (ga_cons (g_tup (ga_cons g_str (ga_cons g_str ga_nil))) ga_nil)))
      (.mk hn2 (by decide +kernel) (by decide +kernel) (fun i j a b c d => mkSa_of wk01) (fun i j a b c d => mkSd_of wk01))) (fin rfl rfl))
  | triangle =>
    refine run_seq (run_ifF (gt_test (g_eqS (g_var rfl rfl) g_str)) (by decide +kernel) ?_)
    refine run_ifF (gt_test (g_eqS (g_var rfl rfl) g_str)) (by decide +kernel) ?_
    refine run_ifF (gt_test (g_eqS (g_var rfl rfl) g_str)) (by decide +kernel) ?_
    refine run_ifF (gt_test (g_eqS (g_var rfl rfl) g_str)) (by decide +kernel) (run_asgF (g_call (ga_cons (g_is (g_call (ga_cons (g_var rfl rfl) ga_nil) (.mk hv)) (by rw [dT_dR])) ga_nil) (.mk (by unfold rowsT; rw [List.length_map, List.length_range]; omega) hv.fewT)) (fin rfl rfl))
end
end GY
end
section
set_option Elab.async false
set_option linter.all false
set_option maxRecDepth 100000
set_option maxHeartbeats 4000000
namespace GY
open PySem PySem.Spec PyProof.Rows L2
open Evl (Ex fresh_back)
local macro_rules | `(tactic| walk_at "le") => `(tactic| (repeat (first | exact Le.nil | refine Le.cons (by first | exact SLe.rfl | exact SLe.no | exact SLe.fd | exact SLe.od | exact SLe.of | exact SLe.tf | exact SLe.sc rfl) ?_)))
section
variable {Pg : Program} {w : World} {K : PySem.W.Frag} {mg : Str → Option Value} {base : Heap}
inductive R_unmarked : List Dt → Dt → Prop
  | mk {m : Nat} {g : Int → Int} {ns : List Int} {marks : Str} {c : Int → Nat} (hm : m ≤ 100) (h : ∀ j : Nat, j < m → Rk ns marks (c (g (j : Nat))) (g (j : Nat))) : R_unmarked [.str (lineT m g c), .int m, .tup (dI ns), .str marks] (.lst (dRow m g))
theorem chars_line {m : Nat} {g : Int → Int} {c : Int → Nat} {z : Nat} {x : Dt} (h : (chars (lineT m g c))[z]? = some x) : z < m ∧ x = .str ⟨#[c (g (z : Nat))]⟩ := by
  unfold lineT lineL at h
  rw [chars_mkS, List.map_map] at h
  have hz : z < m := by
    have := (List.getElem?_eq_some_iff.mp h).1
    rw [List.length_map, List.length_range] at this
    exact this
  refine ⟨hz, ?_⟩
  rw [List.getElem?_map, List.getElem?_range hz] at h
  exact (Option.some.inj h).symm
theorem chars_len {m : Nat} {g : Int → Int} {c : Int → Nat} : (chars (lineT m g c)).length = m := by
  unfold lineT lineL
  rw [chars_mkS, List.length_map, List.length_map, List.length_range]
theorem at_I {ns : List Int} {i : Int} {k : Nat} {z : Int} (e : i = (k : Nat)) (h : ns[k]? = some z) : L2.atI (dI ns) i = some (.int z) := by
  rw [e]
  refine atI_nat ?_
  unfold dI
  rw [List.getElem?_map, h]
  rfl
theorem at_S {l : List Str} {i : Int} {k : Nat} {z : Str} (e : i = (k : Nat)) (h : l[k]? = some z) : L2.atI (dS l) i = some (.str z) := by
  rw [e]
  refine atI_nat ?_
  unfold dS
  rw [List.getElem?_map, h]
  rfl
theorem get_S {l : List Str} {z : Nat} {x : Dt} (h : (dS l)[z]? = some x) : ∃ s, l[z]? = some s ∧ x = .str s := by
  unfold dS at h
  rw [List.getElem?_map] at h
  cases e : l[z]? with
  | none => rw [e] at h; cases h
  | some s => rw [e] at h; exact ⟨s, rfl, (Option.some.inj h).symm⟩
theorem dS_len {l : List Str} : (dS l).length = l.length := by unfold dS; rw [List.length_map]
theorem sc_unmarked : FnScope ["row", "many", "numbers", "marks", "found", "sign"] ["row", "many", "numbers", "marks"] (defScope s_unmarked) := ⟨rfl, rfl, rfl, by decide +kernel, rfl, by decide +kernel, by decide +kernel⟩
theorem ok_unmarked (h : Fs K mg "unmarked" s_unmarked) (T : Tx mg)  : CallS Pg w K mg base 1 "unmarked" ["row", "many", "numbers", "marks"] (spD K R_unmarked) := by
  obtain ⟨a, fd, F, gm⟩ := h
  refine ⟨a, fd, of_data F sc_unmarked (fun ds y h => by cases h; rfl) (fun cdv A outer s H E hr => ⟨_,
    (pss_cons (ps_if (pt_cmpR op_ne (pe_callB call_len_str (by rfl) T.len PySem.boot_len (pa_cons (pv 0) pa_nil)) (pv 1) (nomark _))
    (pss_one ps_never)
    pss_nil)
    (pss_cons (ps_set (i := 4) sc_unmarked.nd rfl (Or.inl rfl) (pe_lst pa_nil))
    (pss_cons (ps_for PassesOwn.never rfl (pi_str (pv 0)) (pg_name (i := 5) sc_unmarked.nd rfl (Or.inl rfl))
    (pss_cons (ps_if (pt_cmpR op_notIn_sign (pv 5) (pv 3) (by rfl))
    (pss_one ps_never)
    pss_nil)
    (pss_one (ps_expr (pe_bm PySem.F.plainAttrs_list PySem.F.slot_list_append PySem.F.type_list_append mt_append (pv 4) (pa_cons (pe_ix (ix_tupK K) (pv 2) (pe_bm PySem.F.plainAttrs_str PySem.F.slot_str_index PySem.F.type_str_index mt_sindex (pv 3) (pa_cons (pv 5) pa_nil)) (fun _ _ => rfl)) pa_nil))))))
    (pss_one (ps_ret (pv 4)))))),
    fun ds y h => ?_⟩), gm, F.kp, FunD.bindsN F fun _ _ _ _ _ _ us hl => match us, hl with | [_, _, _, _], _ => rfl⟩
  cases h with
  | @mk m g ns marks c hm h =>
  -- slots: 0 row, 1 many, 2 numbers, 3 marks, 4 found, 5 sign
  refine run_seq (run_ifF (gt_test (g_neI (g_lenS (g_var rfl rfl) (by rw [lineT_len]; omega)) (g_var rfl rfl))) (by rw [lineT_len, decide_eq_true rfl]; rfl) (run_next ?_))
  refine run_seq (run_asgO (gn_lst ga_nil) ?_)
  refine run_seq (run_for (gi_str (g_var rfl rfl)) (fun t => [.d (.str (lineT m g c)), .d (.int m), .d (.tup (dI ns)), .d (.str marks), .own (dRow t g), .no]) ?_ ?_ ?_)
  · walk_at "le"
  · intro t x hx
    obtain ⟨ht, rfl⟩ := chars_line hx
    obtain ⟨q1, k, rest, q2, q3⟩ := h t ht
    refine ⟨_, _, gg_name, ?_⟩
    refine run_seq (run_ifF (gt_test (g_niC (g_var rfl rfl) (g_var rfl rfl))) (by rw [decide_eq_true q1]; rfl) (run_next ?_))
    refine run_app rfl (g_ixTs (g_var rfl rfl) (g_sidx (g_var rfl rfl) (g_var rfl rfl) q2) (at_I rfl q3)) ?_ ?_
    · rw [dRow_len]; omega
    · refine Le.cons .rfl (Le.cons .rfl (Le.cons .rfl (Le.cons .rfl (Le.cons (SLe.eq ?_) (Le.cons .no Le.nil)))))
      exact congrArg Sl.own (dRow_snoc rfl)
  · rw [chars_len]
    exact run_weak (i := 4) rfl .of (run_ret (g_var rfl rfl) rfl)
inductive R_figures_in : List Dt → Dt → Prop
  | mk {i most : Int} (h0 : 0 ≤ i) (h1 : i ≤ 24) (h2 : i ≤ most) : R_figures_in [.str (nT i), .int most] (.int i)
theorem sc_figures_in : FnScope ["word", "most", "sign"] ["word", "most"] (defScope s_figures_in) := ⟨rfl, rfl, rfl, by decide +kernel, rfl, by decide +kernel, by decide +kernel⟩
theorem ok_figures_in (h : Fs K mg "figures_in" s_figures_in) (T : Tx mg)  : CallS Pg w K mg base 1 "figures_in" ["word", "most"] (spD K R_figures_in) := by
  obtain ⟨a, fd, F, gm⟩ := h
  refine ⟨a, fd, of_data F sc_figures_in (fun ds y h => by cases h; rfl) (fun cdv A outer s H E hr => ⟨_,
    (pss_cons (ps_if (PW.pt (pw_or (pt_cmpR op_eq (pv 0) pe_str (nomark _)) (pw_or (pt_cmpR op_gt (pe_callB call_len_str (by rfl) T.len PySem.boot_len (pa_cons (pv 0) pa_nil)) pe_int (nomark _)) (pw_or1 (PW.pt (pw_and (pt_cmpR op_eq (pe_ix ix_str (pv 0) pe_int (fun _ _ => rfl)) pe_str (nomark _)) (pw_and1 (pt_cmpR op_ne (pv 0) pe_str (nomark _)))))))))
    (pss_one ps_never)
    pss_nil)
    (pss_cons (ps_for PassesOwn.never rfl (pi_str (pv 0)) (pg_name (i := 2) sc_figures_in.nd rfl (Or.inl rfl))
    (pss_one (ps_if (pt_cmpR op_notIn_sign (pv 2) (pe_glob (v := .str "0123456789") (by rfl) T.FIGURES.choose_spec ⟨_, rfl⟩) (by rfl))
    (pss_one ps_never)
    pss_nil)))
    (pss_cons (ps_if (pt_cmpR op_gt (pe_callTy call_int_str (by rfl) T.int (by decide +kernel) (pa_cons (pv 0) pa_nil)) (pv 1) (nomark _))
    (pss_one ps_never)
    pss_nil)
    (pss_one (ps_ret (pe_callTy call_int_str (by rfl) T.int (by decide +kernel) (pa_cons (pv 0) pa_nil))))))),
    fun ds y h => ?_⟩), gm, F.kp, FunD.bindsN F fun _ _ _ _ _ _ us hl => match us, hl with | [_, _], _ => rfl⟩
  cases h with
  | @mk i most h0 h1 h2 =>
  have N := nOk_of h0 h1
  refine run_seq (run_ifF (gt_or (gt_test (g_eqS (g_var rfl rfl) g_str)) fun _ => gt_or (gt_test (g_gt (g_lenS (g_var rfl rfl) (by have := N.le; omega)) g_int)) fun _ => gt_is (b := false) (gt_and (b := decide (nT i ≠ ("0" : Str))) (gt_test (g_eqS (g_ixS (c := (nT i).cps.toList.headD 0) (g_var rfl rfl) g_int (by have := N.le; omega) ?_) g_str)) fun _ => gt_is (gt_test (g_neS (g_var rfl rfl) g_str)) ?_) ?_) ?_ (run_next ?_))
  · refine atI_nat (j := 0) ?_
    have hl := N.ge
    have el : (nT i).cps.toList.length = (nT i).length := by simp [Str.length]
    cases e : (nT i).cps.toList with
    | nil => rw [e] at el; simp at el; omega
    | cons a r => rfl
  · by_cases e : nT i = ("0" : Str)
    · rw [decide_eq_true e]; simp [e]
    · rw [decide_eq_false e]; simp [e]
  · rcases N.z with z | z
    · rw [z]; decide +kernel
    · have ne : (⟨#[(nT i).cps.toList.headD 0]⟩ : Str) ≠ ("0" : Str) := fun w => by
        have hl := N.ge
        have el : (nT i).cps.toList.length = (nT i).length := by simp [Str.length]
        cases e : (nT i).cps.toList with
        | nil => rw [e] at el; simp at el; omega
        | cons a r =>
          rw [e] at z w
          have e0 : ("0" : Str) = ⟨#[48]⟩ := by decide +kernel
          rw [e0] at w
          have : a = 48 := by
            have := congrArg Str.cps w
            simpa using this
          exact z (by rw [this]; rfl)
      rw [decide_eq_false ne]
      rfl
  · rw [decide_eq_false N.ne, decide_eq_false (show ¬ (2 : Int) < ((nT i).length : Int) by have := N.le; omega)]
    rfl
  refine run_seq (run_for (gi_str (g_var rfl rfl)) (fun _ => [.d (.str (nT i)), .d (.int most), .no]) ?_ ?_ ?_)
  · walk_at "le"
  · intro t x hx
    obtain ⟨c, hc, rfl⟩ : ∃ c, c ∈ (nT i).cps.toList ∧ x = .str ⟨#[c]⟩ := by
      unfold chars at hx
      rw [List.getElem?_map] at hx
      cases e : (nT i).cps.toList[t]? with
      | none => rw [e] at hx; cases hx
      | some c => rw [e] at hx; exact ⟨c, List.mem_of_getElem? e, (Option.some.inj hx).symm⟩
    refine ⟨_, _, gg_name, ?_⟩
    refine run_ifF (gt_test (g_niC (g_var rfl rfl) g_str)) (by rw [decide_eq_true (N.fig c hc)]; rfl) (run_next ?_)
    walk_at "le"
  refine run_seq (run_ifF (gt_test (g_gt (g_intS (g_var rfl rfl) N.val (by have := N.le; omega)) (g_var rfl rfl))) (decide_eq_false (by omega)) (run_next ?_))
  exact run_ret (g_intS (g_var rfl rfl) N.val (by have := N.le; omega)) rfl
inductive R_numbers_in : List Dt → Dt → Prop
  | mk {r : List Int} {L : Nat} {most : Int} (hr : Few r) (hl : r.length = L) (h0 : 1 ≤ L) (hm : ∀ i ∈ r, i ≤ most) : R_numbers_in [.str (numT r), .int L, .int most] (.lst (dI r))
theorem sc_numbers_in : FnScope ["row", "many", "most", "words", "word"] ["row", "many", "most"] (defScope s_numbers_in) := ⟨rfl, rfl, rfl, by decide +kernel, rfl, by decide +kernel, by decide +kernel⟩
theorem ok_numbers_in (h : Fs K mg "numbers_in" s_numbers_in) (T : Tx mg) (c_figures_in : CallS Pg w K mg base 1 "figures_in" ["word", "most"] (spD K R_figures_in)) : CallS Pg w K mg base 2 "numbers_in" ["row", "many", "most"] (spD K R_numbers_in) := by
  obtain ⟨a, fd, F, gm⟩ := h
  refine ⟨a, fd, of_data F sc_numbers_in (fun ds y h => by cases h; rfl) (fun cdv A outer s H E hr => ⟨_,
    (pss_cons (ps_set (i := 3) sc_numbers_in.nd rfl (Or.inl rfl) (pe_split (pv 0) pe_str))
    (pss_cons (ps_if (pt_cmpR op_ne (pe_callB (call_lenK K) (by rfl) T.len PySem.boot_len (pa_cons (pv 3) pa_nil)) (pv 1) (nomark _))
    (pss_one ps_never)
    pss_nil)
    (pss_one (ps_ret (pe_lc (own := [("word", 4)]) rfl sc_numbers_in.nd (pi_listK K (pv 3)) (blkOk_by (by kernel_rfl)) (fun _ _ _ _ _ => pg_name (i := 4) sc_numbers_in.nd rfl (Or.inl rfl)) (fun _ _ _ _ _ => pts_nil) (fun _ _ _ _ _ => (pe_callD c_figures_in hr (by rfl) (pa_cons (pv 4) (pa_cons (pv 2) pa_nil))))))))),
    fun ds y h => ?_⟩), gm, F.kp, FunD.bindsN F fun _ _ _ _ _ _ us hl => match us, hl with | [_, _, _], _ => rfl⟩
  cases h with
  | @mk r L most hr hl h0 hm =>
  have rne : r ≠ [] := fun e => by rw [e] at hl; simp at hl; omega
  -- slots: 0 row, 1 many, 2 most (cell), 3 words, 4 word
  refine run_seq (run_asgF (x := .lst (dS (r.map nT))) (g_is (gn_f (gn_split (g_var rfl rfl) g_str (by decide +kernel) (by have := hr.len; omega))) (by rw [hr.split rne])) ?_)
  refine run_seq (run_ifF (gt_test (g_neI (g_len (g_var rfl rfl)) (g_var rfl rfl))) (by rw [dS_len, List.length_map, hl, decide_eq_true rfl]; rfl) (run_next ?_))
  refine run_ret (g_is (gn_f (gn_lc0 (ts := [4]) (w := fun z => .int (r.getD z 0)) (gi_list (g_var rfl rfl)) ?_ (by simp) fun z x hx => ?_)) ?_) rfl
  · rw [dS_len, List.length_map]; have := hr.1; omega
  · obtain ⟨s, hs, rfl⟩ := get_S hx
    rw [List.getElem?_map] at hs
    cases e : r[z]? with
    | none => rw [e] at hs; cases hs
    | some i =>
      rw [e] at hs
      have es : nT i = s := Option.some.inj hs
      rw [← es]
      have mem := List.mem_of_getElem? e
      have ei : r.getD z 0 = i := by rw [List.getD_eq_getElem?_getD, e]; rfl
      rw [ei]
      exact ⟨_, gg_name, g_call (ga_cons (g_var rfl rfl) (ga_cons (g_var rfl rfl) ga_nil)) (.mk (hr.2 i mem).1 (hr.2 i mem).2 (hm i mem))⟩
  · rw [dS_len, List.length_map, by_place (f := Dt.int) fun z i hi => by rw [List.getD_eq_getElem?_getD, hi]; rfl]
inductive R_size_of : List Dt → Dt → Prop
  | mk {n : Int} (h1 : 1 ≤ n) (h2 : n ≤ 12) : R_size_of [.int n] (.int n)
theorem sc_size_of : FnScope ["number"] ["number"] (defScope s_size_of) := ⟨rfl, rfl, rfl, by decide +kernel, rfl, by decide +kernel, by decide +kernel⟩
theorem ok_size_of (h : Fs K mg "size_of" s_size_of) (T : Tx mg)  : CallS Pg w K mg base 1 "size_of" ["number"] (spD K R_size_of) := by
  obtain ⟨a, fd, F, gm⟩ := h
  refine ⟨a, fd, of_data F sc_size_of (fun ds y h => by cases h; rfl) (fun cdv A outer s H E hr => ⟨_,
    (pss_cons (ps_if (PW.pt (pw_or (pt_cmpR op_lt (pv 0) pe_int (nomark _)) (pw_or1 (pt_cmpR op_gt (pv 0) (pe_glob (v := .int 12) (by rfl) T.MOST_SIZE_texts.choose_spec ⟨_, rfl⟩) (nomark _)))))
    (pss_one ps_never)
    pss_nil)
    (pss_one (ps_ret (pv 0)))),
    fun ds y h => ?_⟩), gm, F.kp, FunD.bindsN F fun _ _ _ _ _ _ us hl => match us, hl with | [_], _ => rfl⟩
  cases h with
  | mk h1 h2 =>
  refine run_seq (run_ifF (gt_or (gt_test (g_lt (g_var rfl rfl) g_int)) fun _ => gt_test (g_gt (g_var rfl rfl) g_int)) (by rw [decide_eq_false (by omega), decide_eq_false (by omega)]; rfl) (run_next ?_))
  exact run_ret (g_var rfl rfl) rfl
theorem bt_get {n : Nat} {A D : Int → Int → Int} {ca cd : Int → Nat} : ∀ t z : Nat, (z ≤ t → (bt n A D ca cd t)[2 * z]? = some (lineT n (D (z : Nat)) cd)) ∧ (z < t → (bt n A D ca cd t)[2 * z + 1]? = some (lineT (n + 1) (A (z : Nat)) ca))
  | 0, z => ⟨fun h => by
      have : z = 0 := by omega
      subst this
      rfl, fun h => by omega⟩
  | t + 1, z => by
    have ih := bt_get (n := n) (A := A) (D := D) (ca := ca) (cd := cd) t z
    have hl := bt_len (n := n) (A := A) (D := D) (ca := ca) (cd := cd) t
    unfold bt
    constructor
    · intro h
      by_cases c : z ≤ t
      · rw [List.getElem?_append_left (by omega)]
        exact ih.1 c
      · have : z = t + 1 := by omega
        subst this
        rw [List.getElem?_append_right (by omega), hl, show 2 * (t + 1) - (2 * t + 1) = 1 by omega]
        rfl
    · intro h
      by_cases c : z < t
      · rw [List.getElem?_append_left (by omega)]
        exact ih.2 c
      · have : z = t := by omega
        subst this
        rw [List.getElem?_append_right (by omega), hl, show 2 * z + 1 - (2 * z + 1) = 0 by omega]
        rfl
theorem rg_even : ∀ k : Fin 13, Builtin.Range.small 0 (2 * (k.val : Int) + 1) 2 = true ∧ Builtin.Range.rangeSize 0 (2 * (k.val : Int) + 1) 2 = ((k.val + 1 : Nat) : Int) := by decide
theorem rg_odd : ∀ k : Fin 13, Builtin.Range.small 1 (2 * (k.val : Int) + 1) 2 = true ∧ Builtin.Range.rangeSize 1 (2 * (k.val : Int) + 1) 2 = ((k.val : Nat) : Int) := by decide
inductive R_pair_in : List Dt → Dt → Prop
  | mk {n : Nat} {A D : Int → Int → Int} {ns : List Int} {ma md : Str} {ca cd : Int → Nat} (h1 : 1 ≤ n) (hn : n ≤ 12)
    (hA : ∀ i j : Int, 0 ≤ i → i < n → 0 ≤ j → j < ((n + 1 : Nat) : Int) → Rk ns ma (ca (A i j)) (A i j)) (hD : ∀ i j : Int, 0 ≤ i → i < ((n + 1 : Nat) : Int) → 0 ≤ j → j < n → Rk ns md (cd (D i j)) (D i j)) :
    R_pair_in [.lst (dS (bt n A D ca cd n)), .tup (dI ns), .tup [.str ma, .str md]] (.tup [.lst (dM n (n + 1) A), .lst (dM (n + 1) n D)])
theorem sc_pair_in : FnScope ["rows", "numbers", "marks", "n", "k", "down", "across"] ["rows", "numbers", "marks"] (defScope s_pair_in) := ⟨rfl, rfl, rfl, by decide +kernel, rfl, by decide +kernel, by decide +kernel⟩
theorem ok_pair_in (h : Fs K mg "pair_in" s_pair_in) (T : Tx mg) (c_unmarked : CallS Pg w K mg base 1 "unmarked" ["row", "many", "numbers", "marks"] (spD K R_unmarked)) (c_size_of : CallS Pg w K mg base 1 "size_of" ["number"] (spD K R_size_of)) : CallS Pg w K mg base 2 "pair_in" ["rows", "numbers", "marks"] (spD K R_pair_in) := by
  obtain ⟨a, fd, F, gm⟩ := h
  refine ⟨a, fd, of_data F sc_pair_in (fun ds y h => by cases h; rfl) (fun cdv A outer s H E hr => ⟨_,
    (pss_cons (ps_if (pt_cmpR op_eq (pe_op op_mod (pe_callB (call_lenK K) (by rfl) T.len PySem.boot_len (pa_cons (pv 0) pa_nil)) pe_int) pe_int (nomark _))
    (pss_one ps_never)
    pss_nil)
    (pss_cons (ps_set (i := 3) sc_pair_in.nd rfl (Or.inr rfl) (pe_callD c_size_of hr (by rfl) (pa_cons (pe_op op_fdiv (pe_callB (call_lenK K) (by rfl) T.len PySem.boot_len (pa_cons (pv 0) pa_nil)) pe_int) pa_nil)))
    (pss_cons (ps_setLc (i := 5) (own := [("k", 4)]) rfl sc_pair_in.nd rfl rfl (sw_true rfl rfl rfl (by decide +kernel)) (pi_range3 (by rfl) T.range (pa_cons pe_int (pa_cons (pe_op op_add (pe_op op_mul pe_int (pv 3)) pe_int) (pa_cons pe_int pa_nil)))) (blkOk_by (by kernel_rfl)) (fun _ _ _ _ _ => pg_name (i := 4) sc_pair_in.nd rfl (Or.inl rfl)) (fun _ _ _ _ _ => pts_nil) (fun _ _ _ _ _ => (pe_callD c_unmarked hr (by rfl) (pa_cons (pe_ix (ix_listK K) (pv 0) (pv 4) (fun _ _ => rfl)) (pa_cons (pv 3) (pa_cons (pv 1) (pa_cons (pe_ix (ix_tupK K) (pv 2) pe_int (fun _ _ => rfl)) pa_nil)))))))
    (pss_cons (ps_setLc (i := 6) (own := [("k", 4)]) rfl sc_pair_in.nd rfl rfl (sw_true rfl rfl rfl (by decide +kernel)) (pi_range3 (by rfl) T.range (pa_cons pe_int (pa_cons (pe_op op_add (pe_op op_mul pe_int (pv 3)) pe_int) (pa_cons pe_int pa_nil)))) (blkOk_by (by kernel_rfl)) (fun _ _ _ _ _ => pg_name (i := 4) sc_pair_in.nd rfl (Or.inl rfl)) (fun _ _ _ _ _ => pts_nil) (fun _ _ _ _ _ => (pe_callD c_unmarked hr (by rfl) (pa_cons (pe_ix (ix_listK K) (pv 0) (pv 4) (fun _ _ => rfl)) (pa_cons (pe_op op_add (pv 3) pe_int) (pa_cons (pv 1) (pa_cons (pe_ix (ix_tupK K) (pv 2) pe_int (fun _ _ => rfl)) pa_nil)))))))
    (pss_one (ps_ret (pe_tup (pa_cons (pv 6) (pa_cons (pv 5) pa_nil))))))))),
    fun ds y h => ?_⟩), gm, F.kp, FunD.bindsN F fun _ _ _ _ _ _ us hl => match us, hl with | [_, _, _], _ => rfl⟩
  cases h with
  | @mk n A D ns ma md ca cd h1 hn hA hD =>
  -- slots: 0 rows (cell), 1 numbers (cell), 2 marks (cell), 3 n (cell), 4 k, 5 down, 6 across
  refine run_seq (run_ifF (gt_test (g_eqI (g_mod (g_len (g_var rfl rfl)) g_int (by decide)) g_int)) (by rw [dS_len, bt_len]; exact decide_eq_false (by omega)) (run_next ?_))
  refine run_seq (run_asg (x := .int n) (g_call (ga_cons (g_is (g_fdiv (g_len (g_var rfl rfl)) g_int ⟨by decide, by decide⟩) (by rw [dS_len, bt_len]; exact congrArg Dt.int (by omega))) ga_nil) (.mk (by omega) (by omega))) ?_)
  refine run_seq (run_asgF (x := .lst (dM (n + 1) n D)) (g_is (gn_f (gn_lc0 (ts := [4]) (w := fun z => .lst (dRow n (D z))) (gi_rng3 (n := n + 1) (ga_cons g_int (ga_cons (g_add (g_mul g_int (g_var rfl rfl) (.inl ⟨by decide, by decide⟩)) g_int) (ga_cons g_int ga_nil))) ⟨by decide, by decide, (rg_even ⟨n, by omega⟩).1, (rg_even ⟨n, by omega⟩).2⟩) ?_ (by simp) fun z x hx => ?_)) ?_) ?_)
  · rw [rgD_len]; omega
  · obtain ⟨hz, rfl⟩ := get_rgC hx
    exact ⟨_, gg_name, g_call (ga_cons (g_ixLs (g_var rfl rfl) (g_var rfl rfl) (at_S (k := 2 * z) (by omega) ((bt_get n z).1 (by omega)))) (ga_cons (g_var rfl rfl) (ga_cons (g_var rfl rfl) (ga_cons (g_ixT (g_var rfl rfl) g_int rfl) ga_nil)))) (.mk (by omega) fun j hj => hD z j (by omega) (by omega) (by omega) (by omega))⟩
  · rw [rgD_len]; rfl
  refine run_seq (run_asgF (x := .lst (dM n (n + 1) A)) (g_is (gn_f (gn_lc0 (ts := [4]) (w := fun z => .lst (dRow (n + 1) (A z))) (gi_rng3 (n := n) (ga_cons g_int (ga_cons (g_add (g_mul g_int (g_var rfl rfl) (.inl ⟨by decide, by decide⟩)) g_int) (ga_cons g_int ga_nil))) ⟨by decide, by decide, (rg_odd ⟨n, by omega⟩).1, (rg_odd ⟨n, by omega⟩).2⟩) ?_ (by simp) fun z x hx => ?_)) ?_) ?_)
  · rw [rgD_len]; omega
  · obtain ⟨hz, rfl⟩ := get_rgC hx
    exact ⟨_, gg_name, g_call (ga_cons (g_ixLs (g_var rfl rfl) (g_var rfl rfl) (at_S (k := 2 * z + 1) (by omega) ((bt_get n z).2 (by omega)))) (ga_cons (g_add (g_var rfl rfl) g_int) (ga_cons (g_var rfl rfl) (ga_cons (g_ixT (g_var rfl rfl) g_int rfl) ga_nil)))) (.mk (m := n + 1) (by omega) fun j hj => hA z j (by omega) (by omega) (by omega) (by omega))⟩
  · rw [rgD_len]; rfl
  exact run_ret (g_tup (ga_cons (g_var rfl rfl) (ga_cons (g_var rfl rfl) ga_nil))) rfl
theorem rkS_of {z : Int} (h : z = -1 ∨ z = 0 ∨ z = 1) : Rk [1, 0, -1] "+0-" (cS z) z := by
  rcases h with rfl | rfl | rfl
  · exact ⟨by decide +kernel, 2, [], by decide +kernel, rfl⟩
  · exact ⟨by decide +kernel, 1, [], by decide +kernel, rfl⟩
  · exact ⟨by decide +kernel, 0, [], by decide +kernel, rfl⟩
theorem rkAa_of {z : Int} (h : z = 1 ∨ z = -1) : Rk [1, -1] "><" (cAa z) z := by
  rcases h with rfl | rfl
  · exact ⟨by decide +kernel, 0, [], by decide +kernel, rfl⟩
  · exact ⟨by decide +kernel, 1, [], by decide +kernel, rfl⟩
theorem rkAd_of {z : Int} (h : z = 1 ∨ z = -1) : Rk [1, -1] "v^" (cAd z) z := by
  rcases h with rfl | rfl
  · exact ⟨by decide +kernel, 0, [], by decide +kernel, rfl⟩
  · exact ⟨by decide +kernel, 1, [], by decide +kernel, rfl⟩
theorem rkSa_of {z : Int} (h : z = 1 ∨ z = 0) : Rk [1, 0] "-." (cSa z) z := by
  rcases h with rfl | rfl
  · exact ⟨by decide +kernel, 0, [], by decide +kernel, rfl⟩
  · exact ⟨by decide +kernel, 1, [], by decide +kernel, rfl⟩
theorem rkSd_of {z : Int} (h : z = 1 ∨ z = 0) : Rk [1, 0] "|." (cSd z) z := by
  rcases h with rfl | rfl
  · exact ⟨by decide +kernel, 0, [], by decide +kernel, rfl⟩
  · exact ⟨by decide +kernel, 1, [], by decide +kernel, rfl⟩
inductive R_signs_in : List Dt → Dt → Prop
  | mk {n : Nat} {h : Int → Int → Int} (hv : HV n h) : R_signs_in [.lst (dS (rowsOf n h .signs))] (.lst (dM n n (sgn h)))
theorem sc_signs_in : FnScope ["rows", "n", "row", "found"] ["rows"] (defScope s_signs_in) := ⟨rfl, rfl, rfl, by decide +kernel, rfl, by decide +kernel, by decide +kernel⟩
theorem ok_signs_in (h : Fs K mg "signs_in" s_signs_in) (T : Tx mg) (c_signs_fault : CallS Pg w K mg base 4 "signs_fault" ["thing"] (spD K R_signs_fault)) (c_is_state : CallS Pg w K mg base 5 "is_state" ["thing"] (spD K R_is_state)) (c_unmarked : CallS Pg w K mg base 1 "unmarked" ["row", "many", "numbers", "marks"] (spD K R_unmarked)) (c_size_of : CallS Pg w K mg base 1 "size_of" ["number"] (spD K R_size_of)) : CallS Pg w K mg base 6 "signs_in" ["rows"] (spD K R_signs_in) := by
  obtain ⟨a, fd, F, gm⟩ := h
  refine ⟨a, fd, of_data F sc_signs_in (fun ds y h => by cases h; rfl) (fun cdv A outer s H E hr => ⟨_,
    (pss_cons (ps_set (i := 1) sc_signs_in.nd rfl (Or.inr rfl) (pe_callD c_size_of (hr.mono (by decide)) (by rfl) (pa_cons (pe_callB (call_lenK K) (by rfl) T.len PySem.boot_len (pa_cons (pv 0) pa_nil)) pa_nil)))
    (pss_cons (ps_setLc (i := 3) (own := [("row", 2)]) rfl sc_signs_in.nd rfl rfl (sw_true rfl rfl rfl (by decide +kernel)) (pi_listK K (pv 0)) (blkOk_by (by kernel_rfl)) (fun _ _ _ _ _ => pg_name (i := 2) sc_signs_in.nd rfl (Or.inl rfl)) (fun _ _ _ _ _ => pts_nil) (fun _ _ _ _ _ => (pe_callD c_unmarked (hr.mono (by decide)) (by rfl) (pa_cons (pv 2) (pa_cons (pv 1) (pa_cons (pe_tup (pa_cons pe_int (pa_cons pe_int (pa_cons (pe_un un_neg pe_int) pa_nil)))) (pa_cons pe_str pa_nil)))))))
    (pss_cons (ps_if (pt_not (pt_val (pe_callD c_is_state hr (by rfl) (pa_cons (pv 3) pa_nil))))
    (pss_one ps_never)
    pss_nil)
    (pss_one (ps_ret (pv 3)))))),
    fun ds y h => ?_⟩), gm, F.kp, FunD.bindsN F fun _ _ _ _ _ _ us hl => match us, hl with | [_], _ => rfl⟩
  cases h with
  | @mk n h hv =>
  have hn := hv.pos
  have hn2 := hv.le
  have hl : (dS (rowsOf n h .signs)).length = n := by rw [dS_len]; unfold rowsOf; rw [List.length_map, List.length_range]
  -- slots: 0 rows, 1 n (cell), 2 row, 3 found
  refine run_seq (run_asg (x := .int n) (g_call (ga_cons (g_is (g_len (g_var rfl rfl)) (by rw [hl])) ga_nil) (.mk (by omega) (by omega))) ?_)
  refine run_seq (run_asgF (x := .lst (dM n n (sgn h))) (g_is (gn_f (gn_lc0 (ts := [2]) (w := fun z => .lst (dRow n (sgn h z))) (gi_list (g_var rfl rfl)) ?_ (by simp) fun z x hx => ?_)) ?_) ?_)
  · rw [hl]; omega
  · obtain ⟨s, hs, rfl⟩ := get_S hx
    have hz : z < n := by
      have := (List.getElem?_eq_some_iff.mp hx).1
      rw [hl] at this
      exact this
    have es : lineT n (sgn h (z : Nat)) cS = s := by
      unfold rowsOf at hs
      rw [List.getElem?_map, List.getElem?_range hz] at hs
      exact Option.some.inj hs
    rw [← es]
    exact ⟨_, gg_name, g_call (ga_cons (g_var rfl rfl) (ga_cons (g_var rfl rfl) (ga_cons (g_tup (ds := dI [1, 0, -1]) (ga_cons g_int (ga_cons g_int (ga_cons (g_neg g_int) ga_nil))) (by simp)) (ga_cons g_str ga_nil)))) (.mk (by omega) fun j hj => rkS_of (hv.sgn_range (by omega) (by omega) (by omega) (by omega)))⟩
  · rw [hl]; rfl
  refine run_seq (run_ifF (gt_not (gt_val (g_call (ga_cons (g_var rfl rfl) ga_nil) (.mk hv)))) rfl (run_next ?_))
  exact run_ret (g_var rfl rfl) rfl
inductive R_heights_in : List Dt → Dt → Prop
  | mk {n : Nat} {h : Int → Int → Int} (hv : HV n h) : R_heights_in [.lst (dS (rowsOf n h .heights))] (.lst (dM n n (sgn h)))
theorem sc_heights_in : FnScope ["rows", "n", "row"] ["rows"] (defScope s_heights_in) := ⟨rfl, rfl, rfl, by decide +kernel, rfl, by decide +kernel, by decide +kernel⟩
theorem ok_heights_in (h : Fs K mg "heights_in" s_heights_in) (T : Tx mg) (c_state_of_heights : CallS Pg w K mg base 4 "state_of_heights" ["thing"] (spD K R_state_of_heights)) (c_numbers_in : CallS Pg w K mg base 2 "numbers_in" ["row", "many", "most"] (spD K R_numbers_in)) (c_size_of : CallS Pg w K mg base 1 "size_of" ["number"] (spD K R_size_of)) : CallS Pg w K mg base 5 "heights_in" ["rows"] (spD K R_heights_in) := by
  obtain ⟨a, fd, F, gm⟩ := h
  refine ⟨a, fd, of_data F sc_heights_in (fun ds y h => by cases h; rfl) (fun cdv A outer s H E hr => ⟨_,
    (pss_cons (ps_set (i := 1) sc_heights_in.nd rfl (Or.inr rfl) (pe_callD c_size_of (hr.mono (by decide)) (by rfl) (pa_cons (pe_op op_sub (pe_callB (call_lenK K) (by rfl) T.len PySem.boot_len (pa_cons (pv 0) pa_nil)) pe_int) pa_nil)))
    (pss_one (ps_ret (pe_callD c_state_of_heights hr (by rfl) (pa_cons (pe_lc (own := [("row", 2)]) rfl sc_heights_in.nd (pi_listK K (pv 0)) (blkOk_by (by kernel_rfl)) (fun _ _ _ _ _ => pg_name (i := 2) sc_heights_in.nd rfl (Or.inl rfl)) (fun _ _ _ _ _ => pts_nil) (fun _ _ _ _ _ => (pe_callD c_numbers_in (hr.mono (by decide)) (by rfl) (pa_cons (pv 2) (pa_cons (pe_op op_add (pv 1) pe_int) (pa_cons (pe_glob (v := .int 24) (by rfl) T.MOST_HEIGHT.choose_spec ⟨_, rfl⟩) pa_nil)))))) pa_nil))))),
    fun ds y h => ?_⟩), gm, F.kp, FunD.bindsN F fun _ _ _ _ _ _ us hl => match us, hl with | [_], _ => rfl⟩
  cases h with
  | @mk n h hv =>
  have hn := hv.pos
  have hn2 := hv.le
  have hl : (dS (rowsOf n h .heights)).length = n + 1 := by rw [dS_len]; unfold rowsOf; rw [List.length_map, rowsI_len]
  -- slots: 0 rows, 1 n (cell), 2 row
  refine run_seq (run_asg (x := .int n) (g_call (ga_cons (g_is (g_sub (g_len (g_var rfl rfl)) g_int) (by rw [hl]; exact congrArg Dt.int (by omega))) ga_nil) (.mk (by omega) (by omega))) ?_)
  refine run_ret (g_call (ga_cons (g_is (gn_f (m := .r) (gn_lc0 (ts := [2]) (w := fun z => .lst (dRow (n + 1) (h z))) (gi_list (g_var rfl rfl)) ?_ (by simp) fun z x hx => ?_)) ?_) ga_nil) (.mk hv)) rfl
  · rw [hl]; omega
  · obtain ⟨s, hs, rfl⟩ := get_S hx
    have hz : z < n + 1 := by
      have := (List.getElem?_eq_some_iff.mp hx).1
      rw [hl] at this
      exact this
    have hr := rowsI_get (m := n + 1) (f := h) hz
    have es : numT (rowI (n + 1) (h (z : Nat))) = s := by
      unfold rowsOf at hs
      rw [List.getElem?_map, hr] at hs
      exact Option.some.inj hs
    rw [← es]
    have few := hv.few _ (List.mem_of_getElem? hr)
    refine ⟨_, gg_name, g_is (g_call (ga_cons (g_var rfl rfl) (ga_cons (g_is (g_add (g_var rfl rfl) g_int) (congrArg Dt.int (show (n : Int) + 1 = ((n + 1 : Nat) : Int) by omega))) (ga_cons g_int ga_nil))) (.mk few rowI_len (by omega) fun i hi => (few.2 i hi).2)) (by rw [dRow_rowI])⟩
  · rw [hl]; rfl
inductive R_triangle_in : List Dt → Dt → Prop
  | mk {n : Nat} {h : Int → Int → Int} (hv : HV n h) : R_triangle_in [.lst (dS (rowsOf n h .triangle))] (.lst (dM n n (sgn h)))
theorem sc_triangle_in : FnScope ["rows", "n", "k", "row"] ["rows"] (defScope s_triangle_in) := ⟨rfl, rfl, rfl, by decide +kernel, rfl, by decide +kernel, by decide +kernel⟩
theorem ok_triangle_in (h : Fs K mg "triangle_in" s_triangle_in) (T : Tx mg) (c_state_of_triangle : CallS Pg w K mg base 4 "state_of_triangle" ["thing"] (spD K R_state_of_triangle)) (c_numbers_in : CallS Pg w K mg base 2 "numbers_in" ["row", "many", "most"] (spD K R_numbers_in)) (c_size_of : CallS Pg w K mg base 1 "size_of" ["number"] (spD K R_size_of)) : CallS Pg w K mg base 5 "triangle_in" ["rows"] (spD K R_triangle_in) := by
  obtain ⟨a, fd, F, gm⟩ := h
  refine ⟨a, fd, of_data F sc_triangle_in (fun ds y h => by cases h; rfl) (fun cdv A outer s H E hr => ⟨_,
    (pss_cons (ps_set (i := 1) sc_triangle_in.nd rfl (Or.inr rfl) (pe_callD c_size_of (hr.mono (by decide)) (by rfl) (pa_cons (pe_callB (call_lenK K) (by rfl) T.len PySem.boot_len (pa_cons (pv 0) pa_nil)) pa_nil)))
    (pss_one (ps_ret (pe_callD c_state_of_triangle hr (by rfl) (pa_cons (pe_lc (own := [("k", 2), ("row", 3)]) rfl sc_triangle_in.nd (pi_enum (by rfl) T.enumerate (pa_cons (pv 0) pa_nil)) (blkOk_by (by kernel_rfl)) (fun _ _ _ _ _ => pg_tupK K (n := 2) rfl (pgs_cons (pg_name (i := 2) sc_triangle_in.nd rfl (Or.inl rfl)) (pgs_cons (pg_name (i := 3) sc_triangle_in.nd rfl (Or.inl rfl)) pgs_nil))) (fun _ _ _ _ _ => pts_nil) (fun _ _ _ _ _ => (pe_callD c_numbers_in (hr.mono (by decide)) (by rfl) (pa_cons (pv 3) (pa_cons (pe_op op_add (pv 2) pe_int) (pa_cons (pe_op op_sub (pv 1) pe_int) pa_nil)))))) pa_nil))))),
    fun ds y h => ?_⟩), gm, F.kp, FunD.bindsN F fun _ _ _ _ _ _ us hl => match us, hl with | [_], _ => rfl⟩
  cases h with
  | @mk n h hv =>
  have hn := hv.pos
  have hn2 := hv.le
  have hl : (dS (rowsOf n h .triangle)).length = n := by rw [dS_len]; unfold rowsOf rowsT; rw [List.length_map, List.length_map, List.length_range]
  -- slots: 0 rows, 1 n (cell), 2 k, 3 row
  refine run_seq (run_asg (x := .int n) (g_call (ga_cons (g_is (g_len (g_var rfl rfl)) (by rw [hl])) ga_nil) (.mk (by omega) (by omega))) ?_)
  refine run_ret (g_call (ga_cons (g_is (gn_f (m := .r) (gn_lc0 (ts := [2, 3]) (w := fun z => .lst (dTr (z + 1) (triOf n h z))) (gi_enum (ga_cons (g_var rfl rfl) ga_nil)) ?_ (by simp) fun z x hx => ?_)) ?_) ga_nil) (.mk hv.triOk ⟨hv, fun k hk c h0 h1 => hv.tri_mem hk h0 h1⟩)) rfl
  · rw [enumD_len, hl]; omega
  · obtain ⟨y, hy, rfl⟩ := get_enum hx
    obtain ⟨s, hs, rfl⟩ := get_S hy
    have hz : z < n := by
      have := (List.getElem?_eq_some_iff.mp hy).1
      rw [hl] at this
      exact this
    have hr : (rowsT n (triOf n h))[z]? = some ((List.range (z + 1)).map (triOf n h z)) := by
      unfold rowsT
      rw [List.getElem?_map, List.getElem?_range hz]
      rfl
    have es : numT ((List.range (z + 1)).map (triOf n h z)) = s := by
      unfold rowsOf at hs
      rw [List.getElem?_map, hr] at hs
      exact Option.some.inj hs
    rw [← es]
    have few := hv.fewT _ (List.mem_of_getElem? hr)
    refine ⟨_, gg_two, g_call (ga_cons (g_var rfl rfl) (ga_cons (g_is (g_add (g_var rfl rfl) g_int) (congrArg Dt.int (show (z : Int) + 1 = ((z + 1 : Nat) : Int) by omega))) (ga_cons (g_sub (g_var rfl rfl) g_int) ga_nil))) (.mk few (by rw [List.length_map, List.length_range]) (by omega) fun i hi => ?_)⟩
    obtain ⟨m, hm, rfl⟩ := List.mem_map.mp hi
    have hm := List.mem_range.mp hm
    have := hv.triOk.hi z m hz (by omega)
    omega
  · rw [enumD_len, hl]; rfl
inductive R_read : List Dt → Dt → Prop
  | mk {n : Nat} {h : Int → Int → Int} (hv : HV n h) (f : Fm) : R_read [.str f.name, .str (showT n h f)] (.lst (dM n n (sgn h)))
theorem sc_read : FnScope ["form", "text", "rows"] ["form", "text"] (defScope s_read) := ⟨rfl, rfl, rfl, by decide +kernel, rfl, by decide +kernel, by decide +kernel⟩
theorem ok_read (h : Fs K mg "read" s_read) (T : Tx mg) (c_state_of_arrows : CallS Pg w K mg base 3 "state_of_arrows" ["thing"] (spD K R_state_of_arrows)) (c_state_of_sides : CallS Pg w K mg base 4 "state_of_sides" ["thing"] (spD K R_state_of_sides)) (c_pair_in : CallS Pg w K mg base 2 "pair_in" ["rows", "numbers", "marks"] (spD K R_pair_in)) (c_signs_in : CallS Pg w K mg base 6 "signs_in" ["rows"] (spD K R_signs_in)) (c_heights_in : CallS Pg w K mg base 5 "heights_in" ["rows"] (spD K R_heights_in)) (c_triangle_in : CallS Pg w K mg base 5 "triangle_in" ["rows"] (spD K R_triangle_in)) : CallS Pg w K mg base 7 "read" ["form", "text"] (spD K R_read) := by
  obtain ⟨a, fd, F, gm⟩ := h
  refine ⟨a, fd, of_data F sc_read (fun ds y h => by cases h; rfl) (fun cdv A outer s H E hr => ⟨_,
    (pss_cons (ps_if (pt_not (pt_val (pe_callB call_isi (by rfl) T.isinstance (by decide +kernel) (pa_cons (pv 1) (pa_cons (pe_bltn (v := .ty "str") (by rfl) T.str (by decide +kernel) rfl) pa_nil)))))
    (pss_one ps_never)
    pss_nil)
    (pss_cons (ps_set (i := 2) sc_read.nd rfl (Or.inl rfl) (pe_split (pv 1) pe_str))
    (pss_cons (ps_if (pt_cmpR op_eq (pv 0) pe_str (nomark _))
    (pss_one (ps_ret (pe_callD c_signs_in hr (by rfl) (pa_cons (pv 2) pa_nil))))
    pss_nil)
    (pss_cons (ps_if (pt_cmpR op_eq (pv 0) pe_str (nomark _))
    (pss_one (ps_ret (pe_callD c_heights_in (hr.mono (by decide)) (by rfl) (pa_cons (pv 2) pa_nil))))
    pss_nil)
    (pss_cons (ps_if (pt_cmpR op_eq (pv 0) pe_str (nomark _))
    (pss_one (ps_ret (pe_callD c_state_of_arrows (hr.mono (by decide)) (by rfl) (pa_cons (pe_callD c_pair_in (hr.mono (by decide)) (by rfl) (pa_cons (pv 2) (pa_cons (pe_tup (pa_cons pe_int (pa_cons (pe_un un_neg pe_int) pa_nil))) (pa_cons (pe_tup (pa_cons pe_str (pa_cons pe_str pa_nil))) pa_nil)))) pa_nil))))
    pss_nil)
    (pss_cons (ps_if (pt_cmpR op_eq (pv 0) pe_str (nomark _))
    (pss_one (ps_ret (pe_callD c_state_of_sides (hr.mono (by decide)) (by rfl) (pa_cons (pe_callD c_pair_in (hr.mono (by decide)) (by rfl) (pa_cons (pv 2) (pa_cons (pe_tup (pa_cons pe_int (pa_cons pe_int pa_nil))) (pa_cons (pe_tup (pa_cons pe_str (pa_cons pe_str pa_nil))) pa_nil)))) pa_nil))))
    pss_nil)
    (pss_one (ps_ret (pe_callD c_triangle_in (hr.mono (by decide)) (by rfl) (pa_cons (pv 2) pa_nil)))))))))),
    fun ds y h => ?_⟩), gm, F.kp, FunD.bindsN F fun _ _ _ _ _ _ us hl => match us, hl with | [_, _], _ => rfl⟩
  cases h with
  | @mk n h hv f =>
  have hn := hv.pos
  have hn2 := hv.le
  -- slots: 0 form, 1 text, 2 rows
  refine run_seq (run_ifF (gt_not (gt_val (g_isi (a := true) (g_var rfl rfl) rfl (by decide +kernel)))) rfl (run_next ?_))
  refine run_seq (run_asgF (x := .lst (dS (rowsOf n h f))) (g_is (gn_f (gn_split (g_var rfl rfl) g_str (by decide +kernel) (by have := hv.show_len f; omega))) (by rw [hv.split])) ?_)
  cases f with
  | signs =>
    refine run_seq (run_ifT (gt_test (g_eqS (g_var rfl rfl) g_str)) (by decide +kernel) ?_)
    exact run_ret (g_call (ga_cons (g_var rfl rfl) ga_nil) (.mk hv)) rfl
  | heights =>
    refine run_seq (run_ifF (gt_test (g_eqS (g_var rfl rfl) g_str)) (by decide +kernel) (run_next ?_))
    refine run_seq (run_ifT (gt_test (g_eqS (g_var rfl rfl) g_str)) (by decide +kernel) ?_)
    exact run_ret (g_call (ga_cons (g_var rfl rfl) ga_nil) (.mk hv)) rfl
  | arrows =>
    refine run_seq (run_ifF (gt_test (g_eqS (g_var rfl rfl) g_str)) (by decide +kernel) (run_next ?_))
    refine run_seq (run_ifF (gt_test (g_eqS (g_var rfl rfl) g_str)) (by decide +kernel) (run_next ?_))
    refine run_seq (run_ifT (gt_test (g_eqS (g_var rfl rfl) g_str)) (by decide +kernel) ?_)
    exact run_ret (g_call (ga_cons (g_call (ga_cons (g_var rfl rfl) (ga_cons (g_tup (ds := dI [1, -1]) (ga_cons g_int (ga_cons (g_neg g_int) ga_nil)) (by simp)) (ga_cons (g_tup (ga_cons g_str (ga_cons g_str ga_nil))) ga_nil)))
      (.mk hn hn2 (fun i j a b c d => rkAa_of (hv.arA1 a b c d)) (fun i j a b c d => rkAd_of (hv.arD1 a b c d)))) ga_nil) (.mk hv)) rfl
  | sides =>
    refine run_seq (run_ifF (gt_test (g_eqS (g_var rfl rfl) g_str)) (by decide +kernel) (run_next ?_))
    refine run_seq (run_ifF (gt_test (g_eqS (g_var rfl rfl) g_str)) (by decide +kernel) (run_next ?_))
    refine run_seq (run_ifF (gt_test (g_eqS (g_var rfl rfl) g_str)) (by decide +kernel) (run_next ?_))
    refine run_seq (run_ifT (gt_test (g_eqS (g_var rfl rfl) g_str)) (by decide +kernel) ?_)
    exact run_ret (g_call (ga_cons (g_call (ga_cons (g_var rfl rfl) (ga_cons (g_tup (ds := dI [1, 0]) (ga_cons g_int (ga_cons g_int ga_nil)) (by simp)) (ga_cons (g_tup (ga_cons g_str (ga_cons g_str ga_nil))) ga_nil)))
      (.mk hn hn2 (fun i j a b c d => rkSa_of wk01) (fun i j a b c d => rkSd_of wk01))) ga_nil) (.mk hv)) rfl
  | triangle =>
    refine run_seq (run_ifF (gt_test (g_eqS (g_var rfl rfl) g_str)) (by decide +kernel) (run_next ?_))
    refine run_seq (run_ifF (gt_test (g_eqS (g_var rfl rfl) g_str)) (by decide +kernel) (run_next ?_))
    refine run_seq (run_ifF (gt_test (g_eqS (g_var rfl rfl) g_str)) (by decide +kernel) (run_next ?_))
    refine run_seq (run_ifF (gt_test (g_eqS (g_var rfl rfl) g_str)) (by decide +kernel) (run_next ?_))
    exact run_ret (g_call (ga_cons (g_var rfl rfl) ga_nil) (.mk hv)) rfl
end
end GY
end
section
set_option Elab.async false
set_option linter.all false
set_option maxRecDepth 100000
set_option maxHeartbeats 4000000
namespace GY
open PySem PySem.Spec PyProof.Rows L2
open Evl (Ex fresh_back)
local macro_rules | `(tactic| walk_at "le") => `(tactic| (repeat (first | exact Le.nil | refine Le.cons (by first | exact SLe.rfl | exact SLe.no | exact SLe.fd | exact SLe.od | exact SLe.of | exact SLe.tf | exact SLe.sc rfl) ?_)))
section
variable {Pg : Program} {w : World} {K : PySem.W.Frag} {mg : Str → Option Value} {base : Heap}
def cellAt (ns : List Int) (k : Nat) : Int := if k < ns.length then ns.getD k 0 else 2 * k + 1
inductive R_law_cell_at : List Dt → Dt → Prop
  | mk (ns : List Int) (k : Nat) : R_law_cell_at [.lst (dI ns), .int k] (.int (cellAt ns k))
theorem dI_len {ns : List Int} : (dI ns).length = ns.length := by unfold dI; rw [List.length_map]
theorem sc__law_cell_at : FnScope ["_law_script", "_law_k"] ["_law_script", "_law_k"] (defScope s__law_cell_at) := ⟨rfl, rfl, rfl, by decide +kernel, rfl, by decide +kernel, by decide +kernel⟩
theorem ok_law_cell_at (h : Fs K mg "_law_cell_at" s__law_cell_at) (T : Tx mg)  : CallS Pg w K mg base 1 "_law_cell_at" ["_law_script", "_law_k"] (spD K R_law_cell_at) := by
  obtain ⟨a, fd, F, gm⟩ := h
  refine ⟨a, fd, of_data F sc__law_cell_at (fun ds y h => by cases h; rfl) (fun cdv A outer s H E hr => ⟨_,
    (pss_cons (ps_if (pt_cmpR op_lt (pv 1) (pe_callB (call_lenK K) (by rfl) T.len PySem.boot_len (pa_cons (pv 0) pa_nil)) (nomark _))
    (pss_one (ps_ret (pe_ix (ix_listK K) (pv 0) (pv 1) (fun _ _ => rfl))))
    pss_nil)
    (pss_one (ps_ret (pe_op op_add (pe_op op_mul pe_int (pv 1)) pe_int)))),
    fun ds y h => ?_⟩), gm, F.kp, FunD.bindsN F fun _ _ _ _ _ _ us hl => match us, hl with | [_, _], _ => rfl⟩
  cases h with
  | mk ns k =>
  refine run_seq (run_if (gt_test (g_lt (g_var rfl rfl) (g_len (g_var rfl rfl)))) (fun hb => ?_) (fun hb => run_next ?_))
  · have hk : k < ns.length := by have := of_decide_eq_true hb; rw [dI_len] at this; omega
    refine run_ret (g_ixLs (g_var rfl rfl) (g_var rfl rfl) (at_I rfl (List.getElem?_eq_getElem hk))) ?_
    show _ = Dt.int (cellAt ns k)
    unfold cellAt
    rw [if_pos hk, List.getD_eq_getElem?_getD, List.getElem?_eq_getElem hk]
    rfl
  · have hk : ¬ k < ns.length := by have := of_decide_eq_false hb; rw [dI_len] at this; omega
    refine run_ret (g_add (g_mul g_int (g_var rfl rfl) (.inl ⟨by decide, by decide⟩)) g_int) ?_
    show _ = Dt.int (cellAt ns k)
    unfold cellAt
    rw [if_neg hk]
def mixI (c k : Int) : Int := (c % 10 ^ (60 : Int).toNat + k * k) * 6364136223846793013 + (k + 1) * 1442695040888963407
inductive R_law_mixed : List Dt → Dt → Prop
  | mk (c : Int) {k : Int} (h0 : 0 ≤ k) (h1 : k ≤ 100000) : R_law_mixed [.int c, .int k] (.int (mixI c k))
theorem sc__law_mixed : FnScope ["_law_cell", "_law_k"] ["_law_cell", "_law_k"] (defScope s__law_mixed) := ⟨rfl, rfl, rfl, by decide +kernel, rfl, by decide +kernel, by decide +kernel⟩
theorem ok_law_mixed (h : Fs K mg "_law_mixed" s__law_mixed) (T : Tx mg)  : CallS Pg w K mg base 1 "_law_mixed" ["_law_cell", "_law_k"] (spD K R_law_mixed) := by
  obtain ⟨a, fd, F, gm⟩ := h
  refine ⟨a, fd, of_data F sc__law_mixed (fun ds y h => by cases h; rfl) (fun cdv A outer s H E hr => ⟨_,
    (pss_one (ps_ret (pe_op op_add (pe_op op_mul (pe_op op_add (pe_op op_mod (pv 0) (pe_op op_pow pe_int pe_int)) (pe_op op_mul (pv 1) (pv 1))) pe_int) (pe_op op_mul (pe_op op_add (pv 1) pe_int) pe_int)))),
    fun ds y h => ?_⟩), gm, F.kp, FunD.bindsN F fun _ _ _ _ _ _ us hl => match us, hl with | [_, _], _ => rfl⟩
  cases h with
  | @mk c k h0 h1 =>
  exact run_ret (g_add (g_mul (g_add (g_mod (g_var rfl rfl) (g_pow g_int g_int ⟨by decide, by decide, by decide⟩) (by decide +kernel)) (g_mul (g_var rfl rfl) (g_var rfl rfl) (.inl ⟨by omega, by omega⟩))) g_int (.inr ⟨by decide, by decide⟩)) (g_mul (g_add (g_var rfl rfl) g_int) g_int (.inl ⟨by omega, by omega⟩))) rfl
def sizeBy (c : Int) : Int := if c % 8 = 5 then 1 + c / 8 % 12 else 1 + c / 8 % 6
theorem sizeBy_ok (c : Int) : 1 ≤ sizeBy c ∧ sizeBy c ≤ 12 := by
  unfold sizeBy
  by_cases h : c % 8 = 5
  · rw [if_pos h]; omega
  · rw [if_neg h]; omega
inductive R_law_size_by : List Dt → Dt → Prop
  | mk (c : Int) : R_law_size_by [.int c] (.int (sizeBy c))
theorem sc__law_size_by : FnScope ["_law_head"] ["_law_head"] (defScope s__law_size_by) := ⟨rfl, rfl, rfl, by decide +kernel, rfl, by decide +kernel, by decide +kernel⟩
theorem ok_law_size_by (h : Fs K mg "_law_size_by" s__law_size_by) (T : Tx mg)  : CallS Pg w K mg base 1 "_law_size_by" ["_law_head"] (spD K R_law_size_by) := by
  obtain ⟨a, fd, F, gm⟩ := h
  refine ⟨a, fd, of_data F sc__law_size_by (fun ds y h => by cases h; rfl) (fun cdv A outer s H E hr => ⟨_,
    (pss_cons (ps_if (pt_cmpR op_eq (pe_op op_mod (pv 0) pe_int) pe_int (nomark _))
    (pss_one (ps_ret (pe_op op_add pe_int (pe_op op_mod (pe_op op_fdiv (pv 0) pe_int) pe_int))))
    pss_nil)
    (pss_one (ps_ret (pe_op op_add pe_int (pe_op op_mod (pe_op op_fdiv (pv 0) pe_int) pe_int))))),
    fun ds y h => ?_⟩), gm, F.kp, FunD.bindsN F fun _ _ _ _ _ _ us hl => match us, hl with | [_], _ => rfl⟩
  cases h with
  | mk c =>
  refine run_seq (run_if (gt_test (g_eqI (g_mod (g_var rfl rfl) g_int (by decide)) g_int)) (fun hb => ?_) (fun hb => run_next ?_))
  · refine run_ret (g_add g_int (g_mod (g_fdiv (g_var rfl rfl) g_int ⟨by decide, by decide⟩) g_int (by decide))) ?_
    show _ = Dt.int (sizeBy c)
    unfold sizeBy
    rw [if_pos (of_decide_eq_true hb)]
  · refine run_ret (g_add g_int (g_mod (g_fdiv (g_var rfl rfl) g_int ⟨by decide, by decide⟩) g_int (by decide))) ?_
    show _ = Dt.int (sizeBy c)
    unfold sizeBy
    rw [if_neg (of_decide_eq_false hb)]
/-- the least number that may stand at m of a row, p the row behind, q the number ahead of it -/
def tLow (p : Nat → Int) (m : Nat) (q : Int) : Int := if 0 < m ∧ q ≥ p m then q + 1 else p m
def tNum (c : Int) (k m : Nat) (rest : Int) : Int := if c < 10 ^ (18 : Int).toNat then mixI c (13 * k + m) / 97 else rest
/-- a row, number by number, with what is left of the cell -/
def tRow (c : Int) (k : Nat) (p : Nat → Int) (rest : Int) : Nat → Int × Int
  | 0 => (tLow p 0 0 + tNum c k 0 rest % (p 1 - tLow p 0 0 + 1), rest / (p 1 - tLow p 0 0 + 1))
  | m + 1 => (tLow p (m + 1) (tRow c k p rest m).1 + tNum c k (m + 1) (tRow c k p rest m).2 % (p (m + 2) - tLow p (m + 1) (tRow c k p rest m).1 + 1), (tRow c k p rest m).2 / (p (m + 2) - tLow p (m + 1) (tRow c k p rest m).1 + 1))
/-- what is left ahead of the m-th number -/
def tRest (c : Int) (k : Nat) (p : Nat → Int) (rest : Int) : Nat → Int
  | 0 => rest
  | m + 1 => (tRow c k p rest m).2
def tPrev (c : Int) (k : Nat) (p : Nat → Int) (rest : Int) : Nat → Int
  | 0 => 0
  | m + 1 => (tRow c k p rest m).1
theorem tRow_eq (c : Int) (k : Nat) (p : Nat → Int) (rest : Int) (m : Nat) : tRow c k p rest m = (tLow p m (tPrev c k p rest m) + tNum c k m (tRest c k p rest m) % (p (m + 1) - tLow p m (tPrev c k p rest m) + 1), tRest c k p rest m / (p (m + 1) - tLow p m (tPrev c k p rest m) + 1)) := by
  cases m with
  | zero => rfl
  | succ m => rfl
/-- the rows from the last one up -/
def tUp (n : Nat) (c : Int) : Nat → (Nat → Int) × Int
  | 0 => (fun m => (m : Nat), c)
  | s + 1 => (fun m => (tRow c (n - 1 - s) (tUp n c s).1 (tUp n c s).2 m).1, tRest c (n - 1 - s) (tUp n c s).1 (tUp n c s).2 (n - 1 - s))
def triBy (n : Nat) (c : Int) (k m : Nat) : Int := (tUp n c (n - 1 - k)).1 m
/-- a row of L numbers below n, rising -/
structure RowOk (n : Nat) (L : Nat) (p : Nat → Int) : Prop where
  lo : ∀ m, m < L → 0 ≤ p m
  hi : ∀ m, m < L → p m < n
  inc : ∀ m, m + 1 < L → p m < p (m + 1)
theorem tRow_ok {n k : Nat} {c rest : Int} {p : Nat → Int} (h : RowOk n (k + 1) p) : ∀ m, m < k → tLow p m (tPrev c k p rest m) ≤ (tRow c k p rest m).1 ∧ (tRow c k p rest m).1 ≤ p (m + 1) ∧ p m ≤ tLow p m (tPrev c k p rest m) ∧ (0 < m → tPrev c k p rest m < tLow p m (tPrev c k p rest m)) ∧ 1 ≤ p (m + 1) - tLow p m (tPrev c k p rest m) + 1
  | m, hm => by
    have pi := h.inc m (by omega)
    have low : p m ≤ tLow p m (tPrev c k p rest m) ∧ tLow p m (tPrev c k p rest m) ≤ p (m + 1) ∧ (0 < m → tPrev c k p rest m < tLow p m (tPrev c k p rest m)) := by
      cases m with
      | zero =>
        unfold tLow
        rw [if_neg (by omega)]
        exact ⟨Int.le_refl _, by omega, fun z => by omega⟩
      | succ m =>
        have ih := tRow_ok (c := c) (rest := rest) h m (by omega)
        have q : tPrev c k p rest (m + 1) = (tRow c k p rest m).1 := rfl
        rw [q]
        unfold tLow
        by_cases e : 0 < m + 1 ∧ (tRow c k p rest m).1 ≥ p (m + 1)
        · rw [if_pos e]; exact ⟨by omega, by omega, fun _ => by omega⟩
        · rw [if_neg e]; exact ⟨Int.le_refl _, by omega, fun _ => by omega⟩
    have hm0 : 0 < p (m + 1) - tLow p m (tPrev c k p rest m) + 1 := by omega
    have a := Int.emod_nonneg (tNum c k m (tRest c k p rest m)) (show p (m + 1) - tLow p m (tPrev c k p rest m) + 1 ≠ 0 by omega)
    have b := Int.emod_lt_of_pos (tNum c k m (tRest c k p rest m)) hm0
    rw [tRow_eq]
    exact ⟨by omega, by omega, low.1, low.2.2, by omega⟩
theorem tUp_ok {n : Nat} {c : Int} : ∀ s, s < n → RowOk n (n - s) (tUp n c s).1
  | 0, _ => ⟨fun m hm => by show 0 ≤ ((m : Nat) : Int); omega, fun m hm => by show ((m : Nat) : Int) < n; omega, fun m hm => by show ((m : Nat) : Int) < ((m + 1 : Nat) : Int); omega⟩
  | s + 1, h => by
    have ih := tUp_ok (n := n) (c := c) s (by omega)
    have ih' : RowOk n (n - 1 - s + 1) (tUp n c s).1 := by
      rw [show n - 1 - s + 1 = n - s by omega]
      exact ih
    have R := tRow_ok (c := c) (rest := (tUp n c s).2) ih'
    refine ⟨fun m hm => ?_, fun m hm => ?_, fun m hm => ?_⟩
    · have := R m (by omega)
      have := ih.lo m (by omega)
      show 0 ≤ (tRow c (n - 1 - s) (tUp n c s).1 (tUp n c s).2 m).1
      omega
    · have := R m (by omega)
      have := ih.hi (m + 1) (by omega)
      show (tRow c (n - 1 - s) (tUp n c s).1 (tUp n c s).2 m).1 < n
      omega
    · have a := R (m + 1) (by omega)
      have q := a.2.2.2.1 (by omega)
      show (tRow c (n - 1 - s) (tUp n c s).1 (tUp n c s).2 m).1 < (tRow c (n - 1 - s) (tUp n c s).1 (tUp n c s).2 (m + 1)).1
      have e : tPrev c (n - 1 - s) (tUp n c s).1 (tUp n c s).2 (m + 1) = (tRow c (n - 1 - s) (tUp n c s).1 (tUp n c s).2 m).1 := rfl
      omega
theorem triBy_ok (n : Nat) (c : Int) : TriOk n (triBy n c) := by
  refine ⟨fun k m hk hm => (tUp_ok (n - 1 - k) (by omega)).lo m (by omega), fun k m hk hm => (tUp_ok (n - 1 - k) (by omega)).hi m (by omega), fun k m hk hm => (tUp_ok (n - 1 - k) (by omega)).inc m (by omega), fun k m hk hm => ?_, fun k m hk hm => ?_⟩
  all_goals
    have ih := tUp_ok (n := n) (c := c) (n - 1 - (k + 1)) (by omega)
    have ih' : RowOk n (n - 1 - (n - 1 - (k + 1)) + 1) (tUp n c (n - 1 - (k + 1))).1 := by
      rw [show n - 1 - (n - 1 - (k + 1)) + 1 = n - (n - 1 - (k + 1)) by omega]
      exact ih
    have R := tRow_ok (c := c) (rest := (tUp n c (n - 1 - (k + 1))).2) ih' m (by omega)
    have e : triBy n c k m = (tRow c (n - 1 - (n - 1 - (k + 1))) (tUp n c (n - 1 - (k + 1))).1 (tUp n c (n - 1 - (k + 1))).2 m).1 := by
      unfold triBy
      rw [show n - 1 - k = (n - 1 - (k + 1)) + 1 by omega]
      rfl
    rw [e]
    unfold triBy
    omega
/-- the rows so far, the last one first -/
def upD (n : Nat) (c : Int) (s : Nat) : List Dt := (List.range s).map fun i => .lst (dTr (n - i) (tUp n c i).1)
theorem upD_snoc {n : Nat} {c : Int} {s : Nat} {ds : List Dt} (h : ds = dTr (n - s) (tUp n c s).1) : upD n c s ++ [.lst ds] = upD n c (s + 1) := by
  unfold upD
  rw [List.range_succ, List.map_append, h]
  rfl
theorem dTr_snoc {L : Nat} {g : Nat → Int} {y : Int} (h : y = g L) : dTr L g ++ [.int y] = dTr (L + 1) g := by
  unfold dTr dI
  rw [List.range_succ, List.map_append, List.map_append, h]
  rfl
theorem upD_last {n : Nat} {c : Int} {s : Nat} : L2.atI (upD n c (s + 1)) (-1) = some (.lst (dTr (n - s) (tUp n c s).1)) := by
  rw [← upD_snoc (n := n) (c := c) (s := s) rfl]
  exact atI_last _ _
inductive R_law_triangle_by : List Dt → Dt → Prop
  | mk {n : Nat} (h1 : 1 ≤ n) (h2 : n ≤ 12) (c : Int) : R_law_triangle_by [.int n, .int c] (.lst (dT n (triBy n c)))
theorem sc__law_triangle_by : FnScope ["_law_n", "_law_cell", "_law_rows", "_law_rest", "_law_k", "_law_row", "_law_m", "_law_low", "_law_many", "_law_number"] ["_law_n", "_law_cell"] (defScope s__law_triangle_by) := ⟨rfl, rfl, rfl, by decide +kernel, rfl, by decide +kernel, by decide +kernel⟩
theorem ok_law_triangle_by (h : Fs K mg "_law_triangle_by" s__law_triangle_by) (T : Tx mg) (c_law_mixed : CallS Pg w K mg base 1 "_law_mixed" ["_law_cell", "_law_k"] (spD K R_law_mixed)) : CallS Pg w K mg base 2 "_law_triangle_by" ["_law_n", "_law_cell"] (spD K R_law_triangle_by) := by
  obtain ⟨a, fd, F, gm⟩ := h
  refine ⟨a, fd, of_data F sc__law_triangle_by (fun ds y h => by cases h; rfl) (fun cdv A outer s H E hr => ⟨_,
    (pss_cons (ps_set (i := 2) sc__law_triangle_by.nd rfl (Or.inl rfl) (pe_lst (pa_cons (pe_listRg rfl (by rfl) T.list (prg_1 (by rfl) T.range (pv 0))) pa_nil)))
    (pss_cons (ps_set (i := 3) sc__law_triangle_by.nd rfl (Or.inl rfl) (pv 1))
    (pss_cons (ps_for PassesOwn.never rfl (pi_range3 (by rfl) T.range (pa_cons (pe_op op_sub (pv 0) pe_int) (pa_cons pe_int (pa_cons (pe_un un_neg pe_int) pa_nil)))) (pg_name (i := 4) sc__law_triangle_by.nd rfl (Or.inl rfl))
    (pss_cons (ps_set (i := 5) sc__law_triangle_by.nd rfl (Or.inl rfl) (pe_lst pa_nil))
    (pss_cons (ps_for PassesOwn.never rfl (pi_range1 (by rfl) T.range (pa_cons (pv 4) pa_nil)) (pg_name (i := 6) sc__law_triangle_by.nd rfl (Or.inl rfl))
    (pss_cons (ps_set (i := 7) sc__law_triangle_by.nd rfl (Or.inl rfl) (pe_ix (ix_listK K) (pe_ix (ix_listK K) (pv 2) (pe_un un_neg pe_int) (fun _ _ => rfl)) (pv 6) (fun _ _ => rfl)))
    (pss_cons (ps_if (PW.pt (pw_and (pt_cmpR op_gt (pv 6) pe_int (nomark _)) (pw_and1 (pt_cmpR op_ge (pe_ix (ix_listK K) (pv 5) (pe_op op_sub (pv 6) pe_int) (fun _ _ => rfl)) (pv 7) (nomark _)))))
    (pss_one (ps_set (i := 7) sc__law_triangle_by.nd rfl (Or.inl rfl) (pe_op op_add (pe_ix (ix_listK K) (pv 5) (pe_op op_sub (pv 6) pe_int) (fun _ _ => rfl)) pe_int)))
    pss_nil)
    (pss_cons (ps_set (i := 8) sc__law_triangle_by.nd rfl (Or.inl rfl) (pe_op op_add (pe_op op_sub (pe_ix (ix_listK K) (pe_ix (ix_listK K) (pv 2) (pe_un un_neg pe_int) (fun _ _ => rfl)) (pe_op op_add (pv 6) pe_int) (fun _ _ => rfl)) (pv 7)) pe_int))
    (pss_cons (ps_set (i := 9) sc__law_triangle_by.nd rfl (Or.inl rfl) (pv 3))
    (pss_cons (ps_if (pt_cmpR op_lt (pv 1) (pe_op op_pow pe_int pe_int) (nomark _))
    (pss_one (ps_set (i := 9) sc__law_triangle_by.nd rfl (Or.inl rfl) (pe_op op_fdiv (pe_callD c_law_mixed hr (by rfl) (pa_cons (pv 1) (pa_cons (pe_op op_add (pe_op op_mul pe_int (pv 4)) (pv 6)) pa_nil))) pe_int)))
    pss_nil)
    (pss_cons (ps_set (i := 3) sc__law_triangle_by.nd rfl (Or.inl rfl) (pe_op op_fdiv (pv 3) (pv 8)))
    (pss_one (ps_expr (pe_bm PySem.F.plainAttrs_list PySem.F.slot_list_append PySem.F.type_list_append mt_append (pv 5) (pa_cons (pe_op op_add (pv 7) (pe_op op_mod (pv 9) (pv 8))) pa_nil)))))))))))
    (pss_one (ps_expr (pe_bm PySem.F.plainAttrs_list PySem.F.slot_list_append PySem.F.type_list_append mt_append (pv 2) (pa_cons (pv 5) pa_nil)))))))
    (pss_cons (ps_expr (pe_bm0 PySem.F.plainAttrs_list PySem.F.slot_list_reverse PySem.F.type_list_reverse mt_reverse (pv 2)))
    (pss_one (ps_ret (pv 2))))))),
    fun ds y h => ?_⟩), gm, F.kp, FunD.bindsN F fun _ _ _ _ _ _ us hl => match us, hl with | [_, _], _ => rfl⟩
  cases h with
  | @mk n h1 h2 c =>
  -- slots: 0 _law_n, 1 _law_cell, 2 _law_rows, 3 _law_rest, 4 _law_k, 5 _law_row, 6 _law_m, 7 _law_low, 8 _law_many, 9 _law_number
  refine run_seq (run_asgO (ds := upD n c 1) (gn_is (gn_lst (ga_cons (gn_f (gn_listRg (g_var rfl rfl) (by omega))) ga_nil)) ?_) ?_)
  · show [Dt.lst _] = [Dt.lst (dTr (n - 0) (fun m => (m : Nat)))]
    rw [show ((n : Int)).toNat = n by omega]
    unfold dTr dI
    rw [List.map_map]
    rfl
  refine run_seq (run_asg (g_var rfl rfl) ?_)
  refine run_seq (run_for (gi_rng3 (n := n - 1) (ga_cons (g_sub (g_var rfl rfl) g_int) (ga_cons g_int (ga_cons (g_neg g_int) ga_nil))) (by
    have := RgC.neg (i := (n : Int) - 1) (j := 0) (by omega) (by omega) (by omega) (by omega)
    rw [show ((n : Int) - 1 - 0).toNat = n - 1 by omega] at this
    exact this)) (fun s => [.d (.int n), .d (.int c), .own (upD n c (s + 1)), .d (.int (tUp n c s).2), .no, .no, .no, .no, .no, .no]) ?_ ?_ ?_)
  · walk_at "le"
  · intro s x hx
    obtain ⟨hs, rfl⟩ := get_rgC hx
    refine ⟨_, _, gg_name, ?_⟩
    have ek : (n : Int) - 1 + (s : Nat) * -1 = ((n - 1 - s : Nat) : Int) := by omega
    rw [ek]
    have P := tUp_ok (n := n) (c := c) s (by omega)
    have P' : RowOk n (n - 1 - s + 1) (tUp n c s).1 := by
      rw [show n - 1 - s + 1 = n - s by omega]
      exact P
    have R := tRow_ok (c := c) (rest := (tUp n c s).2) P'
    refine run_seq (run_asgO (gn_lst ga_nil) ?_)
    refine run_seq (run_for (gi_rng1 (ga_cons (g_var rfl rfl) ga_nil)) (fun m => [.d (.int n), .d (.int c), .own (upD n c (s + 1)), .d (.int (tRest c (n - 1 - s) (tUp n c s).1 (tUp n c s).2 m)), .d (.int (n - 1 - s : Nat)), .own (dTr m (tUp n c (s + 1)).1), .no, .no, .no, .no]) ?_ ?_ ?_)
    · walk_at "le"
    · intro m x hx
      obtain ⟨hm, rfl⟩ := get_rg0 hx
      rw [Int.toNat_natCast] at hm
      have Rm := R m hm
      refine ⟨_, _, gg_name, ?_⟩
      -- low
      refine run_seq (run_asg (g_ixLs (g_ixL (g_var rfl rfl) (g_neg g_int) upD_last) (g_var rfl rfl) (at_Tr m rfl (by omega))) ?_)
      refine run_mid [.d (.int n), .d (.int c), .own (upD n c (s + 1)), .d (.int (tRest c (n - 1 - s) (tUp n c s).1 (tUp n c s).2 m)), .d (.int (n - 1 - s : Nat)), .own (dTr m (tUp n c (s + 1)).1), .d (.int m), .d (.int (tLow (tUp n c s).1 m (tPrev c (n - 1 - s) (tUp n c s).1 (tUp n c s).2 m))), .no, .no] ?_ ?_
      · cases m with
        | zero =>
          refine run_ifF (b := false) (gt_is (gt_and (b := false) (gt_test (g_gt (g_var rfl rfl) g_int)) fun z => by cases z) rfl) rfl (run_next ?_)
          refine Le.cons .rfl (Le.cons .rfl (Le.cons .rfl (Le.cons .rfl (Le.cons .rfl (Le.cons .rfl (Le.cons .rfl (Le.cons (SLe.eq ?_) (Le.cons .no (Le.cons .no Le.nil)))))))))
          unfold tLow
          rw [if_neg (by omega)]
        | succ m =>
          have at1 : L2.atI (dTr (m + 1) (tUp n c (s + 1)).1) (((m + 1 : Nat) : Int) - 1) = some (.int (tRow c (n - 1 - s) (tUp n c s).1 (tUp n c s).2 m).1) := at_Tr m (by omega) (by omega)
          refine run_if (gt_and (gt_test (g_gt (g_var rfl rfl) g_int)) fun _ => gt_test (g_ge (g_ixLs (g_var rfl rfl) (g_sub (g_var rfl rfl) g_int) at1) (g_var rfl rfl))) (fun hb => ?_) (fun hb => run_next ?_)
          · refine run_asg (g_add (g_ixLs (g_var rfl rfl) (g_sub (g_var rfl rfl) g_int) at1) g_int) ?_
            refine Le.cons .rfl (Le.cons .rfl (Le.cons .rfl (Le.cons .rfl (Le.cons .rfl (Le.cons .rfl (Le.cons .rfl (Le.cons (SLe.eq ?_) (Le.cons .no (Le.cons .no Le.nil)))))))))
            have h2 := of_decide_eq_true (Bool.and_eq_true_iff.mp hb).2
            unfold tLow
            rw [if_pos ⟨by omega, h2⟩]
            rfl
          · refine Le.cons .rfl (Le.cons .rfl (Le.cons .rfl (Le.cons .rfl (Le.cons .rfl (Le.cons .rfl (Le.cons .rfl (Le.cons (SLe.eq ?_) (Le.cons .no (Le.cons .no Le.nil)))))))))
            have h2 : ¬ (tRow c (n - 1 - s) (tUp n c s).1 (tUp n c s).2 m).1 ≥ (tUp n c s).1 (m + 1) := fun z => by
              rw [decide_eq_true (show (0 : Int) < ((m + 1 : Nat) : Int) by omega), decide_eq_true z] at hb
              cases hb
            unfold tLow
            rw [if_neg fun z => h2 z.2]
      -- many
      refine run_seq (run_asg (g_add (g_sub (g_ixLs (g_ixL (g_var rfl rfl) (g_neg g_int) upD_last) (g_add (g_var rfl rfl) g_int) (at_Tr (m + 1) (by omega) (by omega))) (g_var rfl rfl)) g_int) ?_)
      refine run_seq (run_asg (g_var rfl rfl) ?_)
      -- number
      refine run_mid [.d (.int n), .d (.int c), .own (upD n c (s + 1)), .d (.int (tRest c (n - 1 - s) (tUp n c s).1 (tUp n c s).2 m)), .d (.int (n - 1 - s : Nat)), .own (dTr m (tUp n c (s + 1)).1), .d (.int m), .d (.int (tLow (tUp n c s).1 m (tPrev c (n - 1 - s) (tUp n c s).1 (tUp n c s).2 m))),
        .d (.int ((tUp n c s).1 (m + 1) - tLow (tUp n c s).1 m (tPrev c (n - 1 - s) (tUp n c s).1 (tUp n c s).2 m) + 1)), .d (.int (tNum c (n - 1 - s) m (tRest c (n - 1 - s) (tUp n c s).1 (tUp n c s).2 m)))] ?_ ?_
      · refine run_if (gt_test (g_lt (g_var rfl rfl) (g_pow g_int g_int ⟨by decide, by decide, by decide⟩))) (fun hb => ?_) (fun hb => run_next ?_)
        · refine run_asg (g_fdiv (g_call (ga_cons (g_var rfl rfl) (ga_cons (g_add (g_mul g_int (g_var rfl rfl) (.inl ⟨by decide, by decide⟩)) (g_var rfl rfl)) ga_nil)) (.mk c (by omega) (by omega))) g_int ⟨by decide, by decide⟩) ?_
          refine Le.cons .rfl (Le.cons .rfl (Le.cons .rfl (Le.cons .rfl (Le.cons .rfl (Le.cons .rfl (Le.cons .rfl (Le.cons .rfl (Le.cons .rfl (Le.cons (SLe.eq ?_) Le.nil)))))))))
          unfold tNum
          rw [if_pos (of_decide_eq_true hb)]
        · refine Le.cons .rfl (Le.cons .rfl (Le.cons .rfl (Le.cons .rfl (Le.cons .rfl (Le.cons .rfl (Le.cons .rfl (Le.cons .rfl (Le.cons .rfl (Le.cons (SLe.eq ?_) Le.nil)))))))))
          unfold tNum
          rw [if_neg (of_decide_eq_false hb)]
      have big : (tUp n c s).1 (m + 1) - tLow (tUp n c s).1 m (tPrev c (n - 1 - s) (tUp n c s).1 (tUp n c s).2 m) + 1 < 1073741824 := by
        have := P.hi (m + 1) (by omega)
        have := P.lo m (by omega)
        omega
      refine run_seq (run_asg (g_fdiv (g_var rfl rfl) (g_var rfl rfl) ⟨by omega, big⟩) ?_)
      refine run_app rfl (g_add (g_var rfl rfl) (g_mod (g_var rfl rfl) (g_var rfl rfl) (by omega))) ?_ ?_
      · rw [dTr_len]; omega
      · have e := tRow_eq c (n - 1 - s) (tUp n c s).1 (tUp n c s).2 m
        refine Le.cons .rfl (Le.cons .rfl (Le.cons .rfl (Le.cons (SLe.eq ?_) (Le.cons .rfl (Le.cons (SLe.eq ?_) (Le.cons .no (Le.cons .no (Le.cons .no (Le.cons .no Le.nil)))))))))
        · exact congrArg (fun z : Int × Int => Sl.d (.int z.2)) e.symm
        · refine congrArg Sl.own (dTr_snoc ?_)
          exact congrArg (fun z : Int × Int => z.1) e.symm
    · rw [rgD_len, Int.toNat_natCast]
      refine run_weak (i := 5) rfl .of (run_app rfl (g_var rfl rfl) ?_ ?_)
      · unfold upD; rw [List.length_map, List.length_range]; omega
      · refine Le.cons .rfl (Le.cons .rfl (Le.cons (SLe.eq ?_) (Le.cons (SLe.eq ?_) (Le.cons .no (Le.cons .no (Le.cons .no (Le.cons .no (Le.cons .no (Le.cons .no Le.nil)))))))))
        · refine congrArg Sl.own (upD_snoc ?_)
          rw [show n - (s + 1) = n - 1 - s by omega]
        · rfl
  · rw [rgD_len]
    refine run_seq (run_rev rfl ?_)
    refine run_weak (i := 2) rfl .of (run_ret (g_var rfl rfl) ?_)
    show Dt.lst (upD n c (n - 1 + 1)).reverse = Dt.lst (dT n (triBy n c))
    rw [show n - 1 + 1 = n by omega]
    refine congrArg Dt.lst (List.ext_getElem? fun z => ?_)
    have hl : (upD n c n).length = n := by unfold upD; rw [List.length_map, List.length_range]
    by_cases hz : z < n
    · rw [List.getElem?_reverse (by omega), hl]
      unfold upD dT
      rw [List.getElem?_map, List.getElem?_map, List.getElem?_range (by omega), List.getElem?_range hz]
      show some (Dt.lst (dTr (n - (n - 1 - z)) (tUp n c (n - 1 - z)).1)) = some (Dt.lst (dTr (z + 1) (triBy n c z)))
      rw [show n - (n - 1 - z) = z + 1 by omega]
      rfl
    · rw [List.getElem?_eq_none (by rw [List.length_reverse]; omega), List.getElem?_eq_none (by rw [dT_len]; omega)]
inductive R_law_signs_of : List Dt → Dt → Prop
  | mk {n : Nat} {t : Nat → Nat → Int} {h : Int → Int → Int} (TH : TriH n t h) : R_law_signs_of [.lst (dT n t)] (.lst (dM n n (sgn h)))
theorem sc__law_signs_of : FnScope ["_law_rows", "_law_ahead", "_law_made", "_law_row", "_law_c"] ["_law_rows"] (defScope s__law_signs_of) := ⟨rfl, rfl, rfl, by decide +kernel, rfl, by decide +kernel, by decide +kernel⟩
theorem ok_law_signs_of (h : Fs K mg "_law_signs_of" s__law_signs_of) (T : Tx mg)  : CallS Pg w K mg base 1 "_law_signs_of" ["_law_rows"] (spD K R_law_signs_of) := by
  obtain ⟨a, fd, F, gm⟩ := h
  refine ⟨a, fd, of_data F sc__law_signs_of (fun ds y h => by cases h; rfl) (fun cdv A outer s H E hr => ⟨_,
    (pss_cons (ps_set (i := 1) sc__law_signs_of.nd rfl (Or.inr rfl) (pe_lst pa_nil))
    (pss_cons (ps_set (i := 2) sc__law_signs_of.nd rfl (Or.inl rfl) (pe_lst pa_nil))
    (pss_cons (ps_for PassesOwn.never rfl (pi_listK K (pv 0)) (pg_name (i := 3) sc__law_signs_of.nd rfl (Or.inr rfl))
    (pss_cons (ps_expr (pe_bm PySem.F.plainAttrs_list PySem.F.slot_list_append PySem.F.type_list_append mt_append (pv 2) (pa_cons (pe_lc (own := [("_law_c", 4)]) rfl sc__law_signs_of.nd (pi_range1 (by rfl) T.range (pa_cons (pe_callB (call_lenK K) (by rfl) T.len PySem.boot_len (pa_cons (pv 0) pa_nil)) pa_nil)) (blkOk_by (by kernel_rfl)) (fun _ _ _ _ _ => pg_name (i := 4) sc__law_signs_of.nd rfl (Or.inl rfl)) (fun _ _ _ _ _ => pts_nil) (fun _ _ _ _ _ => (pe_op op_sub (pe_callTy call_int1 (by rfl) T.int (by decide +kernel) (pa_cons (pe_cmpR (op_inK K) (pv 4) (pv 3) (by rfl)) pa_nil)) (pe_callTy call_int1 (by rfl) T.int (by decide +kernel) (pa_cons (pe_cmpR (op_inK K) (pv 4) (pv 1) (by rfl)) pa_nil))))) pa_nil)))
    (pss_one (ps_set (i := 1) sc__law_signs_of.nd rfl (Or.inr rfl) (pv 3)))))
    (pss_one (ps_ret (pv 2)))))),
    fun ds y h => ?_⟩), gm, F.kp, FunD.bindsN F fun _ _ _ _ _ _ us hl => match us, hl with | [_], _ => rfl⟩
  cases h with
  | @mk n t h TH =>
  have hv : HV n h := by cases TH; assumption
  have hn := hv.pos
  have hn2 := hv.le
  -- slots: 0 rows, 1 ahead (cell), 2 made, 3 row (cell), 4 c
  refine run_seq (run_asg (x := .lst (dI (aheadD t 0))) (gn_f (gn_lst ga_nil (by simp [aheadD]))) ?_)
  refine run_seq (run_asgO (gn_lst ga_nil) ?_)
  refine run_seq (run_for (gi_list (g_var rfl rfl)) (fun i => [.d (.lst (dT n t)), .d (.lst (dI (aheadD t i))), .own (dM i n (sgn h)), .no, .no]) ?_ ?_ ?_)
  · walk_at "le"
  · intro i x hx
    obtain ⟨hi, rfl⟩ := get_T hx
    refine ⟨_, _, gg_name, ?_⟩
    refine run_seq (run_app rfl (x := .lst (dRow n (sgn h i))) (g_is (gn_f (gn_lc0 (ts := [4]) (w := fun z => .int ((if decide ((z : Int) ∈ aheadD t (i + 1)) = true then (1 : Int) else 0) - (if decide ((z : Int) ∈ aheadD t i) = true then (1 : Int) else 0))) (gi_rng1 (ga_cons (g_is (g_len (g_var rfl rfl)) (by rw [dT_len])) ga_nil)) ?_ (by simp) fun z x hx => ?_)) ?_) ?_ ?_)
    · rw [rgD_len]; omega
    · obtain ⟨hz, rfl⟩ := get_rg0 hx
      exact ⟨_, gg_name, g_sub (g_intB (g_in (ns := aheadD t (i + 1)) false (g_var rfl rfl) (g_var rfl rfl))) (g_intB (g_in (ns := aheadD t i) false (g_var rfl rfl) (g_var rfl rfl)))⟩
    · rw [rgD_len, show ((n : Int)).toNat = n by omega]
      refine congrArg Dt.lst (lc_row fun z hz => ?_)
      rw [TH.val (by omega) (by omega) (by omega), TH.val (by omega) (by omega) (by omega)]
      have := hv.csumS (r := i) (c := z) (by omega) (by omega) (by omega) (by omega)
      rw [show ((i + 1 : Nat) : Int) = (i : Int) + 1 by omega]
      exact congrArg Dt.int (by omega)
    · rw [dM_len]; omega
    refine run_asg (g_var rfl rfl) ?_
    refine Le.cons .rfl (Le.cons .rfl (Le.cons (SLe.eq ?_) (Le.cons .no (Le.cons .no Le.nil))))
    exact congrArg Sl.own (dM_snoc rfl)
  · rw [dT_len]
    exact run_weak (i := 2) rfl .of (run_ret (g_var rfl rfl) rfl)
/-- a web led on by t -/
def ledF (L : Nat) (g : Int → Int) (t j : Int) : Int := (g ((j - t) % L) + t) % L
inductive R_law_led : List Dt → Dt → Prop
  | mk {L : Nat} (h1 : 1 ≤ L) (h2 : L ≤ 100) (g : Int → Int) (t : Int) : R_law_led [.lst (dRow L g), .int t] (.lst (dRow L (ledF L g t)))
theorem mod_back {L k t : Int} (hL : 0 < L) (h0 : 0 ≤ k) (h1 : k < L) : ((k + t) % L - t) % L = k := by
  rw [Int.sub_emod, Int.emod_emod_of_dvd _ (Int.dvd_refl L), ← Int.sub_emod, show k + t - t = k by omega]
  exact Int.emod_eq_of_lt h0 h1
theorem mod_fwd {L j t : Int} (h0 : 0 ≤ j) (h1 : j < L) : ((j - t) % L + t) % L = j := by
  rw [Int.emod_add_emod, show j - t + t = j by omega]
  exact Int.emod_eq_of_lt h0 h1
theorem sc__law_led : FnScope ["_law_web", "_law_t", "_law_k", "_law_made"] ["_law_web", "_law_t"] (defScope s__law_led) := ⟨rfl, rfl, rfl, by decide +kernel, rfl, by decide +kernel, by decide +kernel⟩
theorem ok_law_led (h : Fs K mg "_law_led" s__law_led) (T : Tx mg)  : CallS Pg w K mg base 1 "_law_led" ["_law_web", "_law_t"] (spD K R_law_led) := by
  obtain ⟨a, fd, F, gm⟩ := h
  refine ⟨a, fd, of_data F sc__law_led (fun ds y h => by cases h; rfl) (fun cdv A outer s H E hr => ⟨_,
    (pss_cons (ps_setLc (i := 3) (own := [("_law_k", 2)]) rfl sc__law_led.nd rfl rfl (sw_true rfl rfl rfl (by decide +kernel)) (pi_listK K (pv 0)) (blkOk_by (by kernel_rfl)) (fun _ _ _ _ _ => pg_name (i := 2) sc__law_led.nd rfl (Or.inl rfl)) (fun _ _ _ _ _ => pts_nil) (fun _ _ _ _ _ => pe_int))
    (pss_cons (ps_for PassesOwn.never rfl (pi_range1 (by rfl) T.range (pa_cons (pe_callB (call_lenK K) (by rfl) T.len PySem.boot_len (pa_cons (pv 0) pa_nil)) pa_nil)) (pg_name (i := 2) sc__law_led.nd rfl (Or.inl rfl))
    (pss_one (ps_asg (pe_op op_mod (pe_op op_add (pe_ix (ix_listK K) (pv 0) (pv 2) (fun _ _ => rfl)) (pv 1)) (pe_callB (call_lenK K) (by rfl) T.len PySem.boot_len (pa_cons (pv 0) pa_nil))) (pg_sub (pv 3) (pe_op op_mod (pe_op op_add (pv 2) (pv 1)) (pe_callB (call_lenK K) (by rfl) T.len PySem.boot_len (pa_cons (pv 0) pa_nil))) set_list))))
    (pss_one (ps_ret (pv 3))))),
    fun ds y h => ?_⟩), gm, F.kp, FunD.bindsN F fun _ _ _ _ _ _ us hl => match us, hl with | [_, _], _ => rfl⟩
  cases h with
  | @mk L h1 h2 g t =>
  -- slots: 0 _law_web, 1 _law_t, 2 _law_k, 3 _law_made
  refine run_seq (run_asgO (ds := dRow L (fun _ => 0)) (gn_is (gn_lc0 (ts := [2]) (w := fun _ => .int 0) (gi_list (g_var rfl rfl)) ?_ (by simp) fun c x hx => ⟨_, gg_name, g_int⟩) ?_) ?_)
  · rw [dRow_len]; omega
  · rw [dRow_len]; exact lc_row fun z hz => rfl
  refine run_seq (run_for (gi_rng1 (ga_cons (g_is (g_len (g_var rfl rfl)) (by rw [dRow_len])) ga_nil)) (fun u => [.d (.lst (dRow L g)), .d (.int t), .no, .own (dRow L (fun j => if (j - t) % L < (u : Nat) then ledF L g t j else 0))]) ?_ ?_ ?_)
  · refine Le.cons .rfl (Le.cons .rfl (Le.cons .no (Le.cons (SLe.eq ?_) Le.nil)))
    refine congrArg Sl.own (dRow_ext fun j h0 h1 => ?_)
    have := Int.emod_nonneg (j - t) (show (L : Int) ≠ 0 by omega)
    rw [if_neg (by omega)]
  · intro u x hx
    obtain ⟨hu, rfl⟩ := get_rg0 hx
    rw [show ((L : Int)).toNat = L by omega] at hu
    refine ⟨_, _, gg_name, ?_⟩
    have a0 := Int.emod_nonneg ((u : Int) + t) (show (L : Int) ≠ 0 by omega)
    have a1 := Int.emod_lt_of_pos ((u : Int) + t) (show 0 < (L : Int) by omega)
    obtain ⟨q, hq⟩ := Int.eq_ofNat_of_zero_le a0
    have qb : ((q : Int) - t) % L = u := by rw [← hq]; exact mod_back (by omega) (by omega) (by omega)
    refine run_setL (j := q) rfl (x := .int (ledF L g t q)) (g_is (g_mod (g_add (g_ixLs (g_var rfl rfl) (g_var rfl rfl) (at_row (by omega) (by omega))) (g_var rfl rfl)) (g_is (g_len (g_var rfl rfl)) (by rw [dRow_len])) (by omega)) (by unfold ledF; rw [qb])) (g_is (g_mod (g_add (g_var rfl rfl) (g_var rfl rfl)) (g_is (g_len (g_var rfl rfl)) (by rw [dRow_len])) (by omega)) (by rw [hq])) ?_ ?_
    · rw [dRow_len]; omega
    · refine Le.cons .rfl (Le.cons .rfl (Le.cons .no (Le.cons (SLe.eq ?_) Le.nil)))
      show Sl.own ((dRow L _).set q _) = _
      rw [dRow_set]
      refine congrArg Sl.own (dRow_ext fun j h0 h1 => ?_)
      by_cases e : j = (q : Nat)
      · rw [if_pos e, e, qb, if_pos (by omega)]
      · rw [if_neg e]
        have ne : (j - t) % L ≠ u := fun z => e (by
          have f := mod_fwd (L := L) (t := t) h0 h1
          rw [z, hq] at f
          exact f.symm)
        by_cases c : (j - t) % L < (u : Nat)
        · rw [if_pos c, if_pos (by omega)]
        · rw [if_neg c, if_neg (by omega)]
  · rw [rgD_len, show ((L : Int)).toNat = L by omega]
    refine run_weak (i := 3) rfl .of (run_ret (g_var rfl rfl) ?_)
    refine congrArg Dt.lst (dRow_ext fun j h0 h1 => ?_)
    have := Int.emod_lt_of_pos (j - t) (show 0 < (L : Int) by omega)
    rw [if_pos this]
end
end GY
end
section
set_option Elab.async false
set_option linter.all false
set_option maxRecDepth 100000
set_option maxHeartbeats 4000000
/-! dicts handed out, dicts walked, loops by what is known -/
namespace GY
open PySem PySem.Spec PyProof.Rows L2
open Evl (Ex fresh_back)
section
variable {K : PySem.W.Frag} {H0 : Hp} {gh : List (V × Dt)} {Γ Γ' : Ga} {os : List Addr} {A : Nat → List Addr} {σ : L2.St} {H H' : Hp}
/-- an own slot's object changes, its slot with it -/
theorem EnvA.own_sw (E : EnvA K H0 gh Γ os A σ H) {i : Nat} {s : Sl} {p : Addr} {o : HO} (hi : i < Γ.length) (hA : A i = [p]) (ho : ∀ xs, o ≠ .tup xs) (hσ : σ[i]? = some (some (.ref p))) (hs : SlOk K H0 os (upd H p o) s (some (some (.ref p))) [p]) : EnvA K H0 gh (Γ.set i s) os A σ (upd H p o) := by
  have po : p ∈ os := E.sub i p (by rw [hA]; exact List.mem_singleton.mpr rfl)
  refine ⟨Evl.Ex.mut E.ex (E.fr p po), E.fr, fun q hq => ?_, by rw [List.length_set, E.len], fun j t hj => ?_, E.sub, E.dis, fun g hg => ?_⟩
  · by_cases e : q = p
    · subst e; exact ⟨o, upd_same, ho⟩
    · obtain ⟨u, h1, h2⟩ := E.th q hq
      exact ⟨u, by rw [upd_ne e]; exact h1, h2⟩
  · by_cases ij : i = j
    · subst ij
      rw [List.getElem?_set_self hi] at hj
      cases hj
      rw [hσ, hA]
      exact hs
    · rw [List.getElem?_set_ne ij] at hj
      refine (E.sl j t hj).mut (by rw [hp_upd po (by decide)]; exact Ex.refl _) (by rw [hp_upd po (by decide)]; exact Ex.refl _) fun q hq u hu => ?_
      have qp : q ≠ p := fun z => ij (E.dis i j p (by rw [hA]; exact List.mem_singleton.mpr rfl) (by rw [← z]; exact hq))
      rw [upd_ne qp]
      exact hu
  · rw [hp_upd po (by decide)]
    exact E.gh g hg
end
section
variable {K : PySem.W.Frag} {Γ Γ' : Ga} {P P' : Po} {t u tb : TS} {te ta tv : TE} {tt : TT} {x : Dt} {xs ds es : List Dt} {b : Bool} {i : Nat}
abbrev Kv := List ((Int × Int) × Bool)
theorem run_retDict {kvs : Kv} {S : Kv → Prop} (hi : Γ[i]? = some (.dT kvs)) (hS : S kvs) (h : P.rm (.dict S)) : Run K (tRet (tVar i)) Γ P := fun H0 gh D σ H ⟨os, A, E⟩ M => by
  obtain ⟨p, h1, h2, h3⟩ : ∃ p, σ[i]? = some (some (.ref p)) ∧ A i = [p] ∧ H p = some (.dT (kvs.map entT)) := E.sl i _ hi
  exact ⟨_, h1, M.rm (.dict S) _ H h E.ex ⟨p, kvs, rfl, hS, E.fr p (E.sub i p (by rw [h2]; exact List.mem_singleton.mpr rfl)), h3⟩⟩
theorem run_callDict {R : List Dt → Rm → Prop} {Er : XK} {tr : TA} {S : Kv → Prop} (h : GA K .r tr Γ ds) (hr : R ds (.dict S)) (hn : ∀ kvs, S kvs → P.nx (Γ.set i (.dT kvs))) : Run K (tAsg (tCall (spR K R) [] Er tr) (gName i)) Γ P := fun H0 gh D σ H ⟨os, A, E⟩ M =>
  h H0 gh os A σ H E _ fun vs H1 e1 r1 => by
    rw [List.append_nil]
    refine ⟨ds, _, r1, hr, fun v H2 e2 r2 => ?_⟩
    obtain ⟨p, kvs, rfl, hS, q1, q2⟩ := r2
    exact M.nx _ _ _ (hn kvs hS) ⟨_, _, (E.up e1).own_new e2 q1 q2 (fun _ z => by cases z) (.inr (.inl ⟨kvs, rfl, rfl⟩))⟩
theorem run_retWays {sides seen : Kv} {S : Kv → Kv → Prop} {j l : Nat} (g : G K .f te Γ (.lst es)) (hj : Γ[j]? = some (.dT sides)) (hl : Γ[l]? = some (.dT seen)) (ne : j ≠ l) (hS : S sides seen) (h : P.rm (.ways es S)) :
    Run K (tRet (tTup (tCons te (tCons (tVar j) (tCons (tVar l) tNil))))) Γ P := fun H0 gh D σ H ⟨os, A, E⟩ M =>
  g H0 gh os A σ H E _ fun va H1 e1 r1 => by
    have E1 := E.up e1
    obtain ⟨b, b1, b2, b3⟩ : ∃ p, σ[j]? = some (some (.ref p)) ∧ A j = [p] ∧ H1 p = some (.dT (sides.map entT)) := E1.sl j _ hj
    obtain ⟨p, p1, p2, p3⟩ : ∃ p, σ[l]? = some (some (.ref p)) ∧ A l = [p] ∧ H1 p = some (.dT (seen.map entT)) := E1.sl l _ hl
    have bo : b ∈ os := E.sub j b (by rw [b2]; exact List.mem_singleton.mpr rfl)
    have po : p ∈ os := E.sub l p (by rw [p2]; exact List.mem_singleton.mpr rfl)
    have bp : b ≠ p := fun z => ne (E.dis j l b (by rw [b2]; exact List.mem_singleton.mpr rfl) (by rw [p2, z]; exact List.mem_singleton.mpr rfl))
    refine ⟨_, b1, _, p1, by show 3 ≤ sizeLine; decide, fun q hq => ?_⟩
    have up := Ex.new (o := .tup [va, .ref b, .ref p]) hq
    refine M.rm (.ways es S) _ _ h ((E.ex.trans e1).trans up) ⟨q, va, b, p, sides, seen, rfl, hS, upd_same, E.fr p po, up _ _ p3, ?_, .dic (.of (mnu_some.mpr ⟨fun z => bp (List.mem_singleton.mp z), nw_some.mpr ⟨E.fr b bo, up _ _ b3⟩⟩))⟩
    exact (r1.up (mnu_sub (os' := [p]) fun z hz => by rw [List.mem_singleton.mp hz]; exact po)).up (mnu_ex (nw_ex up))
theorem run_callWays {R : List Dt → Rm → Prop} {Er : XK} {tr : TA} {S : Kv → Kv → Prop} {j l : Nat} (h : GA K .r tr Γ ds) (hr : R ds (.ways es S)) (il : i ≠ l) (jl : j ≠ l) (hn : ∀ sides seen, S sides seen → P.nx (((Γ.set i (.f (.lst es))).set j (.f (.dic sides))).set l (.dT seen))) :
    Run K (tAsg (tCall (spR K R) [] Er tr) (gTup K 3 (gCons (gName i) (gCons (gName j) (gCons (gName l) gNil))))) Γ P := fun H0 gh D σ H ⟨os, A, E⟩ M =>
  h H0 gh os A σ H E _ fun vs H1 e1 r1 => by
    rw [List.append_nil]
    refine ⟨ds, _, r1, hr, fun v H2 e2 r2 => ?_⟩
    obtain ⟨q, va, b, p, sides, seen, rfl, hS, q1, q2, q3, q4, q5⟩ := r2
    have E1 := E.up e1
    have wide : Ex (mnu [p] (nw H1 H2)) (hp .f (p :: os) H0 H2) := fun a o ha => by
      obtain ⟨z1, z2⟩ := mnu_some.mp ha
      obtain ⟨z3, z4⟩ := nw_some.mp z2
      refine mnu_some.mpr ⟨fun z => ?_, nw_some.mpr ⟨E1.fresh0 z3, z4⟩⟩
      rcases List.mem_cons.mp z with z | z
      · exact z1 (List.mem_singleton.mpr z)
      · exact E1.fresh_os z3 z
    refine ⟨q, _, rfl, .of q1, rfl, _, _, rfl, _, _, rfl, _, _, rfl, rfl, ?_⟩
    have E3 := E1.own_new (i := l) (s := .dT seen) e2 q2 q3 (fun _ z => by cases z) (.inr (.inl ⟨seen, rfl, rfl⟩))
    have E4 := E3.set_d (i := i) (v := va) (s := .f (.lst es)) (.inr (.inl ⟨_, rfl, q4.up wide⟩))
    have E5 := E4.set_d (i := j) (v := .ref b) (s := .f (.dic sides)) (.inr (.inl ⟨_, rfl, q5.up wide⟩))
    rw [List.set_comm _ _ (Ne.symm il), List.set_comm _ _ (Ne.symm jl), List.set_comm _ _ (Ne.symm il), List.set_comm _ _ (Ne.symm jl)] at E5
    exact M.nx _ _ _ (hn sides seen hS) ⟨_, _, E5⟩
/-- a loop, by what is known at each turn -/
theorem run_forP {wi : TI} {g : TG} (hi : GI K wi Γ xs) (I : Nat → Ga → Prop) (h0 : ∃ Γ0, I 0 Γ0 ∧ Le Γ Γ0)
    (hs : ∀ (n : Nat) x Γn, xs[n]? = some x → I n Γn → ∃ Γ' ts, GG K g x Γn Γ' ts ∧ Run K tb Γ' { nx := fun Γ'' => ∃ Γ3, I (n + 1) Γ3 ∧ Le Γ'' Γ3, rt := P.rt, bk := P.nx, ct := fun Γ'' => ∃ Γ3, I (n + 1) Γ3 ∧ Le Γ'' Γ3, rm := P.rm }) (hd : ∀ Γn, I xs.length Γn → P.nx Γn) : Run K (tFor wi g tb) Γ P := fun H0 gh D σ H ⟨os, A, E⟩ M =>
  hi H0 gh os A σ H E _ fun J gs H1 e1 hgs W => by
    have E1 : Env K H0 (gs ++ gh) Γ σ H1 := ⟨os, A, let E1 := E.up e1; ⟨E1.ex, E1.fr, E1.th, E1.len, E1.sl, E1.sub, E1.dis, fun g hg => (List.mem_append.mp hg).elim (fun z => hgs g z) (E1.gh g)⟩⟩
    obtain ⟨Γ0, i0, l0⟩ := h0
    refine for_it W (fun i σ' H' => ∃ Γn, I i Γn ∧ Env K H0 (gs ++ gh) Γn σ' H') ⟨Γ0, i0, E1.le l0⟩ (fun i σ' H' _ ⟨_, _, os', A', E'⟩ g hg => (E'.gh g (List.mem_append_left _ hg)).up ex_mnu) (fun i v σ' H2 H3 hlt p y => ?_) (fun σ' H' ⟨Γn, p1, p⟩ => M.nx _ _ _ (hd Γn p1) p.drop)
    obtain ⟨Γn, p1, os', A', E'⟩ := p
    obtain ⟨y1, y2⟩ := y
    obtain ⟨xd, hx, rx⟩ := y2 os' E'.th fun g hg => E'.gh g (List.mem_append_left _ hg)
    obtain ⟨Γ', ts, g1, g2⟩ := hs i xd Γn hx p1
    refine g1 H0 (gs ++ gh) os' A' σ' H3 v (E'.up y1) rx _ fun A2 σ2 E2 _ _ => ?_
    exact g2 H0 (gs ++ gh) _ σ2 H3 ⟨os', A2, E2⟩ ⟨fun Γ'' σ'' H'' ⟨Γ3, i3, le⟩ E'' => ⟨Γ3, i3, E''.le le⟩, fun x v H h => M.rt x v H h, fun Γ'' σ'' H'' h E'' => M.nx _ _ _ h E''.drop, fun Γ'' σ'' H'' ⟨Γ3, i3, le⟩ E'' => ⟨Γ3, i3, E''.le le⟩, fun r q H h => M.rm r q H h⟩
/-- a loop over the keys of a dict of our own -/
theorem run_keys {g : TG} {kvs : Kv} (hi : Γ[i]? = some (.dT kvs)) (I : Sl → Nat → Ga → Prop) (hI : ∀ s n Γn, I s n Γn → Γn[i]? = some s) (hsw : ∀ s s' n Γn, I s n Γn → I s' n (Γn.set i s')) (h0 : I (.dT kvs) 0 Γ)
    (hs : ∀ p w (n : Nat) a b bl Γn, kvs[n]? = some ((a, b), bl) → I (.lk p w kvs) n Γn → ∃ Γ' ts, GG K g (.tup [.int a, .int b]) Γn Γ' ts ∧ Run K tb Γ' { nx := fun Γ'' => ∃ Γ3, I (.lk p w kvs) (n + 1) Γ3 ∧ Le Γ'' Γ3, rt := fun _ => False })
    (hd : ∀ Γn, I (.dT kvs) kvs.length Γn → P.nx Γn) : Run K (tLock (tFor (iKeys (tVar i)) g tb)) Γ P := fun H0 gh D σ H ⟨os, A, E⟩ M => by
  obtain ⟨p, h1, h2, h3⟩ : ∃ p, σ[i]? = some (some (.ref p)) ∧ A i = [p] ∧ H p = some (.dT (kvs.map entT)) := E.sl i _ hi
  refine ⟨p, _, h3, trivial, fun od => ⟨_, h1, p, od, rfl, .inr ⟨kvs.map entT, upd_same, ?_⟩⟩⟩
  have E1 : EnvA K H0 gh (Γ.set i (.lk p od kvs)) os A σ (upd H p (.frz od (.dT (kvs.map entT)))) := E.own_sw (List.getElem?_eq_some_iff.mp hi).1 h2 (fun _ z => by cases z) h1 ⟨rfl, rfl, upd_same⟩
  have el : (kvs.map entT).length = kvs.length := List.length_map ..
  have lkAt : ∀ {Γn : Ga} {σ' : L2.St} {H' : Hp} {os' : List Addr} {A' : Nat → List Addr} {n : Nat}, I (.lk p od kvs) n Γn → EnvA K H0 gh Γn os' A' σ' H' → σ'[i]? = some (some (.ref p)) ∧ A' i = [p] ∧ H' p = some (.frz od (.dT (kvs.map entT))) := fun a b => b.sl i _ (hI _ _ _ a)
  refine for_it walk_keysT (fun n σ' H' => ∃ Γn, I (.lk p od kvs) n Γn ∧ Env K H0 gh Γn σ' H') ⟨_, hsw _ _ _ _ h0, os, A, E1⟩ (fun n σ' H' _ ⟨Γn, q, os', A', E'⟩ => (lkAt q E').2.2) (fun n v σ' H2 H3 hlt q y => ?_) (fun σ' H' q => ?_)
  · obtain ⟨Γn, q, os', A', E'⟩ := q
    obtain ⟨rfl, k, u, z, hk, rfl, hz⟩ := y
    rw [el] at hlt
    rw [List.getElem?_map, List.getElem?_eq_getElem hlt] at hk
    have hk' := Option.some.inj hk
    have ek : kvs[n]? = some ((kvs[n].1.1, kvs[n].1.2), kvs[n].2) := List.getElem?_eq_getElem hlt
    have kk : k = [Sum.inl kvs[n].1.1, Sum.inl kvs[n].1.2] := (congrArg Prod.fst hk').symm
    obtain ⟨Γ', ts, g1, g2⟩ := hs p od n _ _ _ Γn ek q
    have zo : z ∉ os' := fun w => by
      obtain ⟨o, o1, o2⟩ := E'.th z w
      rw [hz] at o1
      cases o1
      exact o2 _ rfl
    rw [kk] at hz
    refine g1 H0 gh os' A' σ' H3 _ E' (.tup (mnu_some.mpr ⟨zo, hz⟩) (.cons (.int _) (.one (.int _)))) _ fun A2 σ2 E2 _ _ => ?_
    exact g2 H0 gh _ σ2 H3 ⟨os', A2, E2⟩ ⟨fun Γ'' σ'' H'' ⟨Γ3, i3, le⟩ E'' => ⟨Γ3, i3, E''.le le⟩, fun _ _ _ z => z.elim, fun _ _ _ z => z.elim, fun _ _ _ z => z.elim, fun _ _ _ z => z.elim⟩
  · obtain ⟨Γn, q, os', A', E'⟩ := q
    rw [el] at q
    obtain ⟨l1, l2, l3⟩ := lkAt q E'
    refine ⟨l3, M.nx _ _ _ (hd _ (hsw _ (.dT kvs) _ _ q)) ⟨os', A', E'.own_sw (List.getElem?_eq_some_iff.mp (hI _ _ _ q)).1 l2 (fun _ z => by cases z) l1 ⟨p, rfl, rfl, upd_same⟩⟩⟩
end
/-! ### dicts by their lookups -/
theorem look_put {kvs : Kv} {k s : Int × Int} {v : Bool} : (lookD (putD kvs k v) s).isSome = true ↔ s = k ∨ (lookD kvs s).isSome = true := by
  have look : ∀ {l : Kv}, (lookD l s).isSome = true ↔ ∃ e ∈ l, e.1 = s := fun {l} => by
    unfold lookD
    rw [Option.isSome_map, List.find?_isSome]
    simp
  rw [look, look]
  unfold putD
  by_cases c : (kvs.any fun kv => decide (kv.1 = k)) = true
  · rw [if_pos c]
    obtain ⟨e0, h0, h1⟩ := List.any_eq_true.mp c
    have h1 := of_decide_eq_true h1
    constructor
    · rintro ⟨e, he, h⟩
      obtain ⟨e', he', rfl⟩ := List.mem_map.mp he
      refine .inr ⟨e', he', ?_⟩
      by_cases z : e'.1 = k
      · rw [if_pos z] at h; exact h
      · rw [if_neg z] at h; exact h
    · rintro (rfl | ⟨e, he, h⟩)
      · exact ⟨_, List.mem_map.mpr ⟨e0, h0, rfl⟩, by rw [if_pos h1]; exact h1⟩
      · refine ⟨_, List.mem_map.mpr ⟨e, he, rfl⟩, ?_⟩
        by_cases z : e.1 = k
        · rw [if_pos z]; exact h
        · rw [if_neg z]; exact h
  · rw [if_neg c]
    constructor
    · rintro ⟨e, he, h⟩
      rcases List.mem_append.mp he with he | he
      · exact .inr ⟨e, he, h⟩
      · cases List.mem_singleton.mp he
        exact .inl h.symm
    · rintro (rfl | ⟨e, he, h⟩)
      · exact ⟨_, List.mem_append_right _ (List.mem_singleton.mpr rfl), rfl⟩
      · exact ⟨e, List.mem_append_left _ he, h⟩
theorem mem_put {κ β : Type} [DecidableEq κ] {kvs : List (κ × β)} {k : κ} {v : β} {e : κ × β} (h : e ∈ putD kvs k v) : e ∈ kvs ∨ e = (k, v) := by
  unfold putD at h
  by_cases c : (kvs.any fun kv => decide (kv.1 = k)) = true
  · rw [if_pos c] at h
    obtain ⟨e', he', rfl⟩ := List.mem_map.mp h
    by_cases z : e'.1 = k
    · rw [if_pos z, z]; exact .inr rfl
    · rw [if_neg z]; exact .inl he'
  · rw [if_neg c] at h
    rcases List.mem_append.mp h with h | h
    · exact .inl h
    · exact .inr (List.mem_singleton.mp h)
theorem put_len {κ β : Type} [DecidableEq κ] {kvs : List (κ × β)} {k : κ} {v : β} : (putD kvs k v).length ≤ kvs.length + 1 := by
  unfold putD
  by_cases c : (kvs.any fun kv => decide (kv.1 = k)) = true
  · rw [if_pos c, List.length_map]; omega
  · rw [if_neg c, List.length_append, List.length_singleton]; omega
theorem look_mem {kvs : Kv} {s : Int × Int} {b : Bool} (h : lookD kvs s = some b) : ∃ e ∈ kvs, e.1 = s ∧ e.2 = b := by
  unfold lookD at h
  obtain ⟨e, h1, h2⟩ := Option.map_eq_some_iff.mp h
  have h3 := List.find?_some h1
  exact ⟨e, List.mem_of_find?_eq_some h1, of_decide_eq_true h3, h2⟩
/-- dicts from ints to ints -/
def lookK (kvs : List (Int × Int)) (k : Int) : Option Int := (kvs.find? fun kv => decide (kv.1 = k)).map (·.2)
theorem lookK_put {kvs : List (Int × Int)} {k s : Int} {v : Int} : (lookK (putD kvs k v) s).isSome = true ↔ s = k ∨ (lookK kvs s).isSome = true := by
  have look : ∀ {l : List (Int × Int)}, (lookK l s).isSome = true ↔ ∃ e ∈ l, e.1 = s := fun {l} => by
    unfold lookK
    rw [Option.isSome_map, List.find?_isSome]
    simp
  rw [look, look]
  unfold putD
  by_cases c : (kvs.any fun kv => decide (kv.1 = k)) = true
  · rw [if_pos c]
    obtain ⟨e0, h0, h1⟩ := List.any_eq_true.mp c
    have h1 := of_decide_eq_true h1
    constructor
    · rintro ⟨e, he, h⟩
      obtain ⟨e', he', rfl⟩ := List.mem_map.mp he
      refine .inr ⟨e', he', ?_⟩
      by_cases z : e'.1 = k
      · rw [if_pos z] at h; exact h
      · rw [if_neg z] at h; exact h
    · rintro (rfl | ⟨e, he, h⟩)
      · exact ⟨_, List.mem_map.mpr ⟨e0, h0, rfl⟩, by rw [if_pos h1]; exact h1⟩
      · refine ⟨_, List.mem_map.mpr ⟨e, he, rfl⟩, ?_⟩
        by_cases z : e.1 = k
        · rw [if_pos z]; exact h
        · rw [if_neg z]; exact h
  · rw [if_neg c]
    constructor
    · rintro ⟨e, he, h⟩
      rcases List.mem_append.mp he with he | he
      · exact .inr ⟨e, he, h⟩
      · cases List.mem_singleton.mp he
        exact .inl h.symm
    · rintro (rfl | ⟨e, he, h⟩)
      · exact ⟨_, List.mem_append_right _ (List.mem_singleton.mpr rfl), rfl⟩
      · exact ⟨e, List.mem_append_left _ he, h⟩
theorem lookK_mem {kvs : List (Int × Int)} {s b : Int} (h : lookK kvs s = some b) : (s, b) ∈ kvs := by
  unfold lookK at h
  obtain ⟨e, h1, h2⟩ := Option.map_eq_some_iff.mp h
  have h3' := List.find?_some h1
  have h3 := of_decide_eq_true h3'
  have h4 := List.mem_of_find?_eq_some h1
  rw [show (s, b) = e from Prod.ext h3.symm h2.symm]
  exact h4
end GY
end
section
set_option linter.all false
set_option maxRecDepth 100000
set_option maxHeartbeats 4000000
/-! floors of two colours: cells of a shade, what a half turn keeps -/
namespace GY
abbrev Ps := Int × Int
/-- sides' colours; none: no side of the floor -/
abbrev Col := Ps → Option Bool
abbrev E4 := Fin 4 → Option Bool
theorem fin4 {P : Fin 4 → Prop} (h0 : P 0) (h1 : P 1) (h2 : P 2) (h3 : P 3) : ∀ d, P d := fun d => match d with
  | 0 => h0 | 1 => h1 | 2 => h2 | 3 => h3
instance decOB {p : Option Bool → Prop} [DecidablePred p] : Decidable (∀ x, p x) :=
  decidable_of_iff (p none ∧ p (some true) ∧ p (some false)) ⟨fun h x => match x with | none => h.1 | some true => h.2.1 | some false => h.2.2, fun h => ⟨h _, h _, h _⟩⟩
/-! ### one cell: corners and edges 0 .. 3 in a ring, edge i between the corners i and i + 1 -/
def anyF (f : Fin 4 → Bool) : Bool := f 0 || (f 1 || (f 2 || f 3))
theorem anyF_iff {f : Fin 4 → Bool} : anyF f = true ↔ ∃ i, f i = true := by
  unfold anyF
  simp only [Bool.or_eq_true]
  constructor
  · rintro (h | h | h | h)
    · exact ⟨_, h⟩
    · exact ⟨_, h⟩
    · exact ⟨_, h⟩
    · exact ⟨_, h⟩
  · rintro ⟨i, h⟩
    exact match i, h with
      | 0, h => .inl h
      | 1, h => .inr (.inl h)
      | 2, h => .inr (.inr (.inl h))
      | 3, h => .inr (.inr (.inr h))
def isO (e : E4) (v : Fin 4) : Bool := (e v).isNone != (e (v + 3)).isNone
def isP (e : E4) (v : Fin 4) : Bool := (e v).isSome && ((e (v + 3)).isSome && (e v != e (v + 3)))
def hasC (e : E4) (c : Bool) (v : Fin 4) : Bool := e v == some c || e (v + 3) == some c
def lr (e : E4) (c : Bool) : Nat → Fin 4 → Fin 4 → Bool
  | 0, u, v => u == v
  | k + 1, u, v => lr e c k u v || ((e u == some c && lr e c k (u + 1) v) || (e (u + 3) == some c && lr e c k (u + 3) v))
def lrep (e : E4) (c : Bool) (v u : Fin 4) : Bool := hasC e c v && (if isO e v then isO e u && u != v else if isP e v then u == v else
  anyF fun t => lr e c 3 v t && ((isP e t && u == t) || (isO e t && (isO e u && u != t))))
def allS (e : E4) : Bool := (e 0).isSome && ((e 1).isSome && ((e 2).isSome && (e 3).isSome))
def okc (e : E4) : Bool := allS e || (anyF (fun i => (e i).isNone && ((e (i + 1)).isSome && ((e (i + 2)).isSome && ((e (i + 3)).isSome && (e (i + 1) != e (i + 3)))))) ||
  anyF (fun i => (e i).isNone && ((e (i + 1)).isNone && ((e (i + 2)).isSome && ((e (i + 3)).isSome && (e (i + 2) != e (i + 3)))))))
def flips (e : E4) : Bool := allS e && (e 0 == e 2 && (e 1 == e 3 && (e 0 != e 1)))
def flp (e : E4) : E4 := if flips e then fun i => (e i).map (!·) else e
def fullC (e : E4) (c : Bool) : Bool := e 0 == some c && (e 1 == some c && (e 2 == some c && e 3 == some c))
def mk4 (a b c d : Option Bool) : E4
  | 0 => a | 1 => b | 2 => c | 3 => d
theorem mk4_e (e : E4) : mk4 (e 0) (e 1) (e 2) (e 3) = e := funext (fin4 rfl rfl rfl rfl)
theorem loc1' : ∀ a b c d : Option Bool, ∀ k : Bool, ∀ i u : Fin 4, (okc (mk4 a b c d) && (mk4 a b c d i == some k && lrep (mk4 a b c d) k i u)) = true → (anyF fun u' => lrep (mk4 a b c d) k (i + 1) u' && lr (flp (mk4 a b c d)) (!k) 3 u u') = true := by decide +kernel
theorem loc2' : ∀ a b c d : Option Bool, ∀ k : Bool, ∀ i u : Fin 4, (okc (mk4 a b c d) && (mk4 a b c d i == some k && lrep (mk4 a b c d) k (i + 1) u)) = true → (anyF fun u' => lrep (mk4 a b c d) k i u' && lr (flp (mk4 a b c d)) (!k) 3 u u') = true := by decide +kernel
/-- a port, an outer end, or a whole ring -/
theorem loc3' : ∀ a b c d : Option Bool, ∀ k : Bool, ∀ i : Fin 4, (okc (mk4 a b c d) && hasC (mk4 a b c d) k i) = true → (anyF (fun u => lrep (mk4 a b c d) k i u) || fullC (mk4 a b c d) k) = true := by decide +kernel
theorem loc4' : ∀ a b c d : Option Bool, ∀ k : Bool, ∀ i u : Fin 4, (okc (mk4 a b c d) && lrep (mk4 a b c d) k i u) = true → ((lr (mk4 a b c d) k 3 i u && isP (mk4 a b c d) u) || anyF (fun t => lr (mk4 a b c d) k 3 i t && isO (mk4 a b c d) t)) = true := by decide +kernel
theorem loc5' : ∀ a b c d : Option Bool, (okc (mk4 a b c d)) = true → okc (flp (mk4 a b c d)) = true ∧ flp (flp (mk4 a b c d)) 0 = a ∧ flp (flp (mk4 a b c d)) 1 = b ∧ flp (flp (mk4 a b c d)) 2 = c ∧ flp (flp (mk4 a b c d)) 3 = d := by decide +kernel
/-- a port stays one -/
theorem loc6' : ∀ a b c d : Option Bool, ∀ i : Fin 4, isP (flp (mk4 a b c d)) i = isP (mk4 a b c d) i := by decide +kernel
theorem loc7' : ∀ a b c d : Option Bool, ∀ k : Bool, ∀ i u : Fin 4, (okc (mk4 a b c d) && (isO (mk4 a b c d) i && lrep (mk4 a b c d) k i u)) = true → (isO (mk4 a b c d) u && (u != i)) = true := by decide +kernel
theorem loc8' : ∀ a b c d : Option Bool, ∀ i u v : Fin 4, (okc (mk4 a b c d) && (isO (mk4 a b c d) i && (isO (mk4 a b c d) u && (isO (mk4 a b c d) v && (u != i && v != i))))) = true → u = v := by decide +kernel
theorem loc9' : ∀ a b c d : Option Bool, ∀ k : Bool, ∀ i u : Fin 4, (okc (mk4 a b c d) && (isO (mk4 a b c d) i && (hasC (mk4 a b c d) k i && (isO (mk4 a b c d) u && u != i)))) = true → lrep (mk4 a b c d) k i u = true := by decide +kernel
theorem loc10' : ∀ a b c d : Option Bool, ∀ k : Bool, ∀ i u : Fin 4, fullC (mk4 a b c d) k = true → lrep (mk4 a b c d) k i u = false ∧ flp (mk4 a b c d) i = some k := by decide +kernel
end GY
end
section
set_option linter.all false
set_option maxRecDepth 100000
set_option maxHeartbeats 4000000
/-! floors: places, sides, cells -/
namespace GY
section
variable {e : E4} {k : Bool} {i u v : Fin 4}
theorem loc1 (h : okc e = true) (h1 : e i = some k) (h2 : lrep e k i u = true) : ∃ u', lrep e k (i + 1) u' = true ∧ lr (flp e) (!k) 3 u u' = true := by
  have := loc1' (e 0) (e 1) (e 2) (e 3) k i u
  rw [mk4_e, h, h1, h2] at this
  obtain ⟨z, hz⟩ := anyF_iff.mp (this (by simp))
  exact ⟨z, Bool.and_eq_true_iff.mp hz⟩
theorem loc2 (h : okc e = true) (h1 : e i = some k) (h2 : lrep e k (i + 1) u = true) : ∃ u', lrep e k i u' = true ∧ lr (flp e) (!k) 3 u u' = true := by
  have := loc2' (e 0) (e 1) (e 2) (e 3) k i u
  rw [mk4_e, h, h1, h2] at this
  obtain ⟨z, hz⟩ := anyF_iff.mp (this (by simp))
  exact ⟨z, Bool.and_eq_true_iff.mp hz⟩
theorem loc3 (h : okc e = true) (h1 : hasC e k i = true) : (∃ u, lrep e k i u = true) ∨ fullC e k = true := by
  have := loc3' (e 0) (e 1) (e 2) (e 3) k i
  rw [mk4_e, h, h1] at this
  rcases Bool.or_eq_true_iff.mp (this rfl) with z | z
  · exact .inl (anyF_iff.mp z)
  · exact .inr z
theorem loc4 (h : okc e = true) (h1 : lrep e k i u = true) : (lr e k 3 i u = true ∧ isP e u = true) ∨ ∃ t, lr e k 3 i t = true ∧ isO e t = true := by
  have := loc4' (e 0) (e 1) (e 2) (e 3) k i u
  rw [mk4_e, h, h1] at this
  rcases Bool.or_eq_true_iff.mp (this rfl) with z | z
  · exact .inl (Bool.and_eq_true_iff.mp z)
  · obtain ⟨t, ht⟩ := anyF_iff.mp z
    exact .inr ⟨t, Bool.and_eq_true_iff.mp ht⟩
theorem loc5 (h : okc e = true) : okc (flp e) = true ∧ flp (flp e) = e := by
  have := loc5' (e 0) (e 1) (e 2) (e 3)
  rw [mk4_e] at this
  obtain ⟨a, b, c, d, f⟩ := this h
  exact ⟨a, funext (fin4 b c d f)⟩
theorem loc6 : isP (flp e) i = isP e i := by
  have := loc6' (e 0) (e 1) (e 2) (e 3) i
  rw [mk4_e] at this
  exact this
theorem loc7 (h : okc e = true) (h1 : isO e i = true) (h2 : lrep e k i u = true) : isO e u = true ∧ u ≠ i := by
  have := loc7' (e 0) (e 1) (e 2) (e 3) k i u
  rw [mk4_e, h, h1, h2] at this
  obtain ⟨a, b⟩ := Bool.and_eq_true_iff.mp (this rfl)
  exact ⟨a, by simpa using b⟩
theorem loc8 (h : okc e = true) (h1 : isO e i = true) (h2 : isO e u = true) (h3 : isO e v = true) (h4 : u ≠ i) (h5 : v ≠ i) : u = v := by
  have := loc8' (e 0) (e 1) (e 2) (e 3) i u v
  rw [mk4_e, h, h1, h2, h3] at this
  exact this (by simp [h4, h5])
theorem loc9 (h : okc e = true) (h1 : isO e i = true) (h2 : hasC e k i = true) (h3 : isO e u = true) (h4 : u ≠ i) : lrep e k i u = true := by
  have := loc9' (e 0) (e 1) (e 2) (e 3) k i u
  rw [mk4_e, h, h1, h2, h3] at this
  exact this (by simp [h4])
theorem loc10 (h : fullC e k = true) : lrep e k i u = false ∧ flp e i = some k := by
  have := loc10' (e 0) (e 1) (e 2) (e 3) k i u
  rw [mk4_e] at this
  exact this h
theorem fullC_at (h : fullC e k = true) (i : Fin 4) : e i = some k := by
  unfold fullC at h
  simp only [Bool.and_eq_true, beq_iff_eq] at h
  exact fin4 (P := fun i => e i = some k) h.1 h.2.1 h.2.2.1 h.2.2.2 i
theorem isP_not (h : isP e i = true) : isO e i = false := by
  unfold isP at h
  unfold isO
  simp only [Bool.and_eq_true] at h
  rw [Option.isNone_eq_false_iff.mpr h.1, Option.isNone_eq_false_iff.mpr h.2.1]
  rfl
theorem lrep_C (h : lrep e k i u = true) : hasC e k i = true := (Bool.and_eq_true_iff.mp h).1
theorem lrepP (h : isP e i = true) (g : lrep e k i u = true) : u = i := by
  unfold lrep at g
  rw [isP_not h, h] at g
  obtain ⟨_, g⟩ := Bool.and_eq_true_iff.mp g
  simpa using g
theorem isP_C (h : isP e i = true) (k : Bool) : hasC e k i = true := by
  unfold isP at h
  unfold hasC
  revert h
  generalize e i = a
  generalize e (i + 3) = b
  rcases a with _ | a <;> rcases b with _ | b <;> simp
  cases a <;> cases b <;> cases k <;> simp
theorem lrep_P (h : isP e i = true) (k : Bool) : lrep e k i i = true := by
  unfold lrep
  rw [isP_not h, h, isP_C h]
  simp
theorem hasC_iff : hasC e k i = true ↔ e i = some k ∨ e (i + 3) = some k := by
  unfold hasC
  rw [Bool.or_eq_true, beq_iff_eq, beq_iff_eq]
end
/-- two sides of each colour at a place, by its directions -/
def tt (f : E4) : Bool := allS f && ((f 0 == f 2 && (f 1 == f 3 && f 0 != f 1)) || (f 0 != f 2 && f 1 != f 3))
theorem tt1' : ∀ a b c d : Option Bool, tt (mk4 a b c d) = true → ∀ k : Bool, ∀ x y z : Fin 4, mk4 a b c d x = some k → mk4 a b c d y = some k → x ≠ y → mk4 a b c d z = some k → z = x ∨ z = y := by decide +kernel
theorem tt2' : ∀ a b c d : Option Bool, tt (mk4 a b c d) = true → ∀ k : Bool, ∀ x : Fin 4, mk4 a b c d x = some k → ∃ y, y ≠ x ∧ mk4 a b c d y = some k := by decide +kernel
theorem tt3' : ∀ a b c d : Option Bool, tt (mk4 a b c d) = true → ∀ k : Bool, ∃ x, mk4 a b c d x = some k := by decide +kernel
theorem tt4' : ∀ a b c d : Option Bool, tt (mk4 a b c d) = true → ∀ x : Fin 4, mk4 a b c d (x + 1) ≠ mk4 a b c d (x + 2) → mk4 a b c d (x + 3) ≠ mk4 a b c d x := by decide +kernel
section
variable {f : E4} {k : Bool} {x y z : Fin 4}
theorem tt1 (h : tt f = true) (h1 : f x = some k) (h2 : f y = some k) (h3 : x ≠ y) (h4 : f z = some k) : z = x ∨ z = y := by
  have := tt1' (f 0) (f 1) (f 2) (f 3)
  rw [mk4_e] at this
  exact this h k x y z h1 h2 h3 h4
theorem tt2 (h : tt f = true) (h1 : f x = some k) : ∃ y, y ≠ x ∧ f y = some k := by
  have := tt2' (f 0) (f 1) (f 2) (f 3)
  rw [mk4_e] at this
  exact this h k x h1
theorem tt3 (h : tt f = true) (k : Bool) : ∃ x, f x = some k := by
  have := tt3' (f 0) (f 1) (f 2) (f 3)
  rw [mk4_e] at this
  exact this h k
theorem tt4 (h : tt f = true) (h1 : f (x + 1) ≠ f (x + 2)) : f (x + 3) ≠ f x := by
  have := tt4' (f 0) (f 1) (f 2) (f 3)
  rw [mk4_e] at this
  exact this h x h1
theorem tt_some (h : tt f = true) (x : Fin 4) : (f x).isSome = true := by
  unfold tt allS at h
  simp only [Bool.and_eq_true] at h
  exact fin4 (P := fun x => (f x).isSome = true) h.1.1 h.1.2.1 h.1.2.2.1 h.1.2.2.2 x
end
/-! ### places, sides, points -/
def dr (d : Fin 4) : Ps := match d with
  | 0 => (-1, 0) | 1 => (0, 1) | 2 => (1, 0) | 3 => (0, -1)
/-- the side in a direction, the neighbour behind it -/
def sd (p : Ps) (d : Fin 4) : Ps := (p.1 + (dr d).1, p.2 + (dr d).2)
def nb (p : Ps) (d : Fin 4) : Ps := (p.1 + 2 * (dr d).1, p.2 + 2 * (dr d).2)
def cor (X : Ps) (i : Fin 4) : Ps := match i with
  | 0 => (X.1 - 1, X.2 - 1) | 1 => (X.1 - 1, X.2 + 1) | 2 => (X.1 + 1, X.2 + 1) | 3 => (X.1 + 1, X.2 - 1)
def edg (X : Ps) (i : Fin 4) : Ps := match i with
  | 0 => (X.1 - 1, X.2) | 1 => (X.1, X.2 + 1) | 2 => (X.1 + 1, X.2) | 3 => (X.1, X.2 - 1)
/-- the point of which p is corner i -/
def pnt (p : Ps) (i : Fin 4) : Ps := match i with
  | 0 => (p.1 + 1, p.2 + 1) | 1 => (p.1 + 1, p.2 - 1) | 2 => (p.1 - 1, p.2 - 1) | 3 => (p.1 - 1, p.2 + 1)
theorem ps_eq {a b c d : Int} (h1 : a = c) (h2 : b = d) : ((a, b) : Ps) = (c, d) := by rw [h1, h2]
theorem edg_sd (X : Ps) (i : Fin 4) : edg X i = sd (cor X i) (i + 1) := by
  refine fin4 (P := fun i => edg X i = sd (cor X i) (i + 1)) ?_ ?_ ?_ ?_ i <;> exact ps_eq (by simp [cor, dr, sd]; try omega) (by simp [cor, dr, sd]; try omega)
theorem edg_sd3 (X : Ps) (i : Fin 4) : edg X (i + 3) = sd (cor X i) (i + 2) := by
  refine fin4 (P := fun i => edg X (i + 3) = sd (cor X i) (i + 2)) ?_ ?_ ?_ ?_ i <;> exact ps_eq (by simp [cor, dr, sd]; try omega) (by simp [cor, dr, sd]; try omega)
theorem cor_nb (X : Ps) (i : Fin 4) : cor X (i + 1) = nb (cor X i) (i + 1) := by
  refine fin4 (P := fun i => cor X (i + 1) = nb (cor X i) (i + 1)) ?_ ?_ ?_ ?_ i <;> exact ps_eq (by simp [cor, dr, nb]; try omega) (by simp [cor, dr, nb]; try omega)
theorem cor_nb3 (X : Ps) (i : Fin 4) : cor X (i + 3) = nb (cor X i) (i + 2) := by
  refine fin4 (P := fun i => cor X (i + 3) = nb (cor X i) (i + 2)) ?_ ?_ ?_ ?_ i <;> exact ps_eq (by simp [cor, dr, nb]; try omega) (by simp [cor, dr, nb]; try omega)
theorem cor_pnt (p : Ps) (i : Fin 4) : cor (pnt p i) i = p := by
  refine fin4 (P := fun i => cor (pnt p i) i = p) ?_ ?_ ?_ ?_ i <;> exact ps_eq (by simp [pnt]; try omega) (by simp [pnt]; try omega)
theorem pnt_cor (X : Ps) (i : Fin 4) : pnt (cor X i) i = X := by
  refine fin4 (P := fun i => pnt (cor X i) i = X) ?_ ?_ ?_ ?_ i <;> exact ps_eq (by simp [cor]; try omega) (by simp [cor]; try omega)
theorem fin_a (i : Fin 4) : i + 1 + 3 = i := by revert i; decide
theorem fin_b (i : Fin 4) : i + 3 + 1 = i := by revert i; decide
theorem fin_c (i : Fin 4) : i + 2 + 1 = i + 3 := by revert i; decide
theorem fin_d (i : Fin 4) : i + 2 + 2 = i := by revert i; decide
theorem fin_ne {i : Fin 4} : i + 1 ≠ i + 3 ∧ i + 1 ≠ i ∧ i + 2 ≠ i + 3 ∧ i + 2 ≠ i ∧ i + 1 ≠ i + 2 ∧ i + 3 ≠ i := by revert i; decide
def Od (p : Ps) : Prop := p.1 % 2 = 1 ∧ p.2 % 2 = 1
def Ins (n : Nat) (p : Ps) : Prop := Od p ∧ 0 < p.1 ∧ p.1 < 2 * n ∧ 0 < p.2 ∧ p.2 < 2 * n
def Sid (n : Nat) (s : Ps) : Prop := (s.1 + s.2) % 2 = 1 ∧ 0 ≤ s.1 ∧ s.1 ≤ 2 * n ∧ 0 ≤ s.2 ∧ s.2 ≤ 2 * n
def OnF (n : Nat) (X : Ps) : Prop := 0 ≤ X.1 ∧ X.1 ≤ 2 * n ∧ 0 ≤ X.2 ∧ X.2 ≤ 2 * n
/-- a point of a shade -/
def Sh (q : Int) (X : Ps) : Prop := X.1 % 2 = 0 ∧ (X.1 + X.2) % 4 = 2 * q
def Out (n : Nat) (p : Ps) : Prop := Od p ∧ ¬ Ins n p ∧ ∃ d, Sid n (sd p d)
abbrev at4 (W : Col) (X : Ps) : E4 := fun i => W (edg X i)
structure Flo (n : Nat) (W : Col) : Prop where
  dom : ∀ s, (W s).isSome = true ↔ Sid n s
  two : ∀ p, Ins n p → tt (fun d => W (sd p d)) = true
  okx : ∀ X : Ps, X.1 % 2 = 0 → X.2 % 2 = 0 → OnF n X → okc (at4 W X) = true
/-- half a turn of a shade -/
def Half (n : Nat) (q : Int) (W W' : Col) : Prop := ∀ X, Sh q X → OnF n X → at4 W' X = flp (at4 W X)
def Adj (W : Col) (c : Bool) (p r : Ps) : Prop := ∃ d, W (sd p d) = some c ∧ r = nb p d
inductive Conn (W : Col) (c : Bool) (p : Ps) : Ps → Prop
  | refl : Conn W c p p
  | step {x r : Ps} : Conn W c p x → Adj W c x r → Conn W c p r
theorem nb_nb (p : Ps) (d : Fin 4) : nb (nb p d) (d + 2) = p := by
  refine fin4 (P := fun d => nb (nb p d) (d + 2) = p) ?_ ?_ ?_ ?_ d <;> exact ps_eq (by simp [dr, nb]; try omega) (by simp [dr, nb]; try omega)
theorem sd_nb (p : Ps) (d : Fin 4) : sd (nb p d) (d + 2) = sd p d := by
  refine fin4 (P := fun d => sd (nb p d) (d + 2) = sd p d) ?_ ?_ ?_ ?_ d <;> exact ps_eq (by simp [dr, nb]; try omega) (by simp [dr, nb]; try omega)
theorem sd_inj (p : Ps) {d d' : Fin 4} (h : sd p d = sd p d') : d = d' := by
  revert h
  refine fin4 (P := fun d => sd p d = sd p d' → d = d') ?_ ?_ ?_ ?_ d <;> refine fin4 (P := fun d' => sd p _ = sd p d' → _ = d') ?_ ?_ ?_ ?_ d' <;> intro h <;> first | rfl | (exfalso; have h1 := congrArg Prod.fst h; have h2 := congrArg Prod.snd h; simp [sd, dr] at h1 h2 <;> omega)
theorem nb_od {p : Ps} (h : Od p) (d : Fin 4) : Od (nb p d) := by
  obtain ⟨h1, h2⟩ := h
  refine fin4 (P := fun d => Od (nb p d)) ?_ ?_ ?_ ?_ d <;> exact ⟨by simp [dr, nb]; omega, by simp [dr, nb]; omega⟩
theorem nb_ne (p : Ps) (d : Fin 4) : nb p d ≠ p := by
  refine fin4 (P := fun d => nb p d ≠ p) ?_ ?_ ?_ ?_ d <;> intro h <;> have h1 := congrArg Prod.fst h <;> have h2 := congrArg Prod.snd h <;> simp [nb, dr] at h1 h2 <;> omega
section
variable {W W' : Col} {c : Bool} {p r x y v u : Ps} {n : Nat} {q : Int}
theorem Adj.symm (h : Adj W c p r) : Adj W c r p := by
  obtain ⟨d, h1, rfl⟩ := h
  exact ⟨d + 2, by rw [sd_nb]; exact h1, (nb_nb p d).symm⟩
theorem Adj.od (h : Adj W c p r) (o : Od p) : Od r := by
  obtain ⟨d, h1, rfl⟩ := h
  exact nb_od o d
theorem Conn.trans (h : Conn W c p x) (g : Conn W c x r) : Conn W c p r := by
  induction g with
  | refl => exact h
  | step _ a ih => exact .step ih a
theorem Conn.one (h : Adj W c p r) : Conn W c p r := .step .refl h
theorem Conn.symm (h : Conn W c p x) : Conn W c x p := by
  induction h with
  | refl => exact .refl
  | step _ a ih => exact (Conn.one a.symm).trans ih
theorem Conn.od (h : Conn W c p x) (o : Od p) : Od x := by
  induction h with
  | refl => exact o
  | step _ a ih => exact a.od ih
/-- a place outside has one side of the floor at most -/
theorem out_one (o : Od p) {d d' : Fin 4} (h : Sid n (sd p d)) (h' : Sid n (sd p d')) (hd : d ≠ d') : Ins n p := by
  obtain ⟨o1, o2⟩ := o
  revert h h' hd
  refine fin4 (P := fun d => Sid n (sd p d) → Sid n (sd p d') → d ≠ d' → Ins n p) ?_ ?_ ?_ ?_ d <;> refine fin4 (P := fun d' => Sid n (sd p _) → Sid n (sd p d') → _ ≠ d' → Ins n p) ?_ ?_ ?_ ?_ d' <;> intro h h' hd <;>
    first | exact absurd rfl hd | (simp [Sid, sd, dr] at h h'; refine ⟨⟨o1, o2⟩, ?_, ?_, ?_, ?_⟩ <;> omega)
theorem Flo.sid (F : Flo n W) {s : Ps} (h : W s = some c) : Sid n s := (F.dom s).mp (by rw [h]; rfl)
/-- the shade's point beside a side -/
theorem shade_at (hq : q = 0 ∨ q = 1) (o : Od p) (d : Fin 4) : ∃ X i, Sh q X ∧ cor X i = p ∧ (d = i + 1 ∨ d = i + 2) := by
  have a : Sh q (pnt p (d + 3)) ∨ Sh q (pnt p (d + 2)) := by
    obtain ⟨o1, o2⟩ := o
    refine fin4 (P := fun d => Sh q (pnt p (d + 3)) ∨ Sh q (pnt p (d + 2))) ?_ ?_ ?_ ?_ d <;> simp [Sh, pnt] <;> omega
  rcases a with a | a
  · refine ⟨_, d + 3, a, cor_pnt .., .inl (fin_b d).symm⟩
  · refine ⟨_, d + 2, a, cor_pnt .., .inr (fin_d d).symm⟩
theorem sh_two {X X' : Ps} {i i' : Fin 4} (s : Sh q X) (s' : Sh q X') (h : cor X i = cor X' i') : i' = i ∨ i' = i + 2 := by
  obtain ⟨s1, s2⟩ := s
  obtain ⟨s3, s4⟩ := s'
  revert h
  refine fin4 (P := fun i => cor X i = cor X' i' → i' = i ∨ i' = i + 2) ?_ ?_ ?_ ?_ i <;> refine fin4 (P := fun i' => cor X _ = cor X' i' → i' = _ ∨ i' = _ + 2) ?_ ?_ ?_ ?_ i' <;> intro h <;>
    first | exact .inl rfl | exact .inr rfl | (exfalso; have h1 := congrArg Prod.fst h; have h2 := congrArg Prod.snd h; simp [cor] at h1 h2; omega)
theorem cor_od {X : Ps} (s : Sh q X) (i : Fin 4) : Od (cor X i) := by
  obtain ⟨s1, s2⟩ := s
  refine fin4 (P := fun i => Od (cor X i)) ?_ ?_ ?_ ?_ i <;> exact ⟨by simp [cor]; omega, by simp [cor]; omega⟩
theorem sid_onF {X : Ps} {i : Fin 4} (s : Sh q X) (h : Sid n (edg X i)) : OnF n X := by
  obtain ⟨s1, s2⟩ := s
  revert h
  refine fin4 (P := fun i => Sid n (edg X i) → OnF n X) ?_ ?_ ?_ ?_ i <;> intro h <;> simp [Sid, edg] at h <;> refine ⟨?_, ?_, ?_, ?_⟩ <;> omega
theorem Flo.okc (F : Flo n W) {X : Ps} (s : Sh q X) (o : OnF n X) : okc (at4 W X) = true := F.okx X s.1 (by obtain ⟨s1, s2⟩ := s; omega) o
def Rep (n : Nat) (q : Int) (W : Col) (c : Bool) (v u : Ps) : Prop := ∃ X i j, Sh q X ∧ OnF n X ∧ cor X i = v ∧ cor X j = u ∧ lrep (at4 W X) c i j = true
theorem lr_conn {X : Ps} : ∀ {k : Nat} {i j : Fin 4}, lr (at4 W X) c k i j = true → Conn W c (cor X i) (cor X j)
  | 0, i, j, h => by
    have e : i = j := by simpa [lr] using h
    rw [e]
    exact .refl
  | k + 1, i, j, h => by
    unfold lr at h
    rw [Bool.or_eq_true, Bool.or_eq_true, Bool.and_eq_true, Bool.and_eq_true, beq_iff_eq, beq_iff_eq] at h
    rcases h with h | ⟨h1, h2⟩ | ⟨h1, h2⟩
    · exact lr_conn h
    · exact (Conn.one ⟨i + 1, by rw [← edg_sd]; exact h1, cor_nb X i⟩).trans (lr_conn h2)
    · exact (Conn.one ⟨i + 2, by rw [← edg_sd3]; exact h1, cor_nb3 X i⟩).trans (lr_conn h2)
theorem Half.symm (F : Flo n W) (h : Half n q W W') : Half n q W' W := fun X s o => by
  rw [h X s o, (loc5 (F.okc s o)).2]
theorem hasC_at {X : Ps} {i : Fin 4} : hasC (at4 W X) c i = true ↔ W (sd (cor X i) (i + 1)) = some c ∨ W (sd (cor X i) (i + 2)) = some c := by
  rw [hasC_iff]
  show W (edg X i) = _ ∨ W (edg X (i + 3)) = _ ↔ _
  rw [edg_sd, edg_sd3]
theorem isP_at {X : Ps} {i : Fin 4} : isP (at4 W X) i = true ↔ (W (sd (cor X i) (i + 1))).isSome = true ∧ (W (sd (cor X i) (i + 2))).isSome = true ∧ W (sd (cor X i) (i + 1)) ≠ W (sd (cor X i) (i + 2)) := by
  unfold isP
  rw [Bool.and_eq_true, Bool.and_eq_true, bne_iff_ne]
  show (W (edg X i)).isSome = true ∧ (W (edg X (i + 3))).isSome = true ∧ W (edg X i) ≠ W (edg X (i + 3)) ↔ _
  rw [edg_sd, edg_sd3]
/-- two cells of a shade at a place, with sides of a colour in both: a port of both -/
theorem ports (F : Flo n W) {X X' : Ps} {i i' : Fin 4} (s : Sh q X) (s' : Sh q X') (h : cor X i = cor X' i') (ne : X ≠ X') (a : hasC (at4 W X) c i = true) (b : hasC (at4 W X') c i' = true) : Ins n (cor X i) ∧ isP (at4 W X) i = true ∧ isP (at4 W X') i' = true := by
  have hi : i' = i + 2 := (sh_two s s' h).resolve_left fun z => ne (by rw [← pnt_cor X i, h, z, pnt_cor])
  subst hi
  have a' := hasC_at.mp a
  have b' := hasC_at.mp b
  rw [← h, fin_c, fin_d] at b'
  have od := cor_od s i
  obtain ⟨n1, n2, n3, n4, n5, n6⟩ := fin_ne (i := i)
  have ins : Ins n (cor X i) := by
    rcases a' with a' | a' <;> rcases b' with b' | b' <;> refine out_one od (F.sid a') (F.sid b') ?_ <;> assumption
  have T := F.two _ ins
  have df : W (sd (cor X i) (i + 1)) ≠ W (sd (cor X i) (i + 2)) := fun z => by
    have both : W (sd (cor X i) (i + 1)) = some c ∧ W (sd (cor X i) (i + 2)) = some c := by
      rcases a' with a' | a'
      · exact ⟨a', z ▸ a'⟩
      · exact ⟨z.trans a', a'⟩
    rcases b' with b' | b'
    · rcases tt1 T both.1 both.2 n5 b' with z | z
      · exact n1 z.symm
      · exact n3 z.symm
    · rcases tt1 T both.1 both.2 n5 b' with z | z
      · exact n2 z.symm
      · exact n4 z.symm
  refine ⟨ins, isP_at.mpr ⟨tt_some T _, tt_some T _, df⟩, isP_at.mpr ?_⟩
  rw [← h, fin_c, fin_d]
  exact ⟨tt_some T _, tt_some T _, tt4 T df⟩
theorem cor_inj {X : Ps} {i j : Fin 4} (h : cor X i = cor X j) : i = j := by
  revert h
  refine fin4 (P := fun i => cor X i = cor X j → i = j) ?_ ?_ ?_ ?_ i <;> refine fin4 (P := fun j => cor X _ = cor X j → _ = j) ?_ ?_ ?_ ?_ j <;> intro h <;> first | rfl | (exfalso; have h1 := congrArg Prod.fst h; have h2 := congrArg Prod.snd h; simp [cor] at h1 h2 <;> omega)
/-- a representative by another cell -/
theorem rep_cell (F : Flo n W) {X : Ps} {i : Fin 4} (s : Sh q X) (a : hasC (at4 W X) c i = true) (r : Rep n q W c (cor X i) u) : ∃ j, cor X j = u ∧ lrep (at4 W X) c i j = true := by
  obtain ⟨X1, i1, j1, s1, o1, h1, h2, h3⟩ := r
  by_cases e : X = X1
  · subst e
    rw [cor_inj h1] at h3
    exact ⟨j1, h2, h3⟩
  · obtain ⟨_, p, p1⟩ := ports F s s1 h1.symm e a (lrep_C h3)
    rw [lrepP p1 h3] at h2
    exact ⟨i, by rw [← h2, h1], lrep_P p c⟩
theorem rep_step (hq : q = 0 ∨ q = 1) (F : Flo n W) (Hf : Half n q W W') (o : Od v) (a : Adj W c v x) (r : Rep n q W c v u) : ∃ u', Rep n q W c x u' ∧ Conn W' (!c) u u' := by
  obtain ⟨d, hd, rfl⟩ := a
  obtain ⟨X, i, s, rfl, hi⟩ := shade_at hq o d
  rcases hi with rfl | rfl
  · have e1 : at4 W X i = some c := by show W (edg X i) = _; rw [edg_sd]; exact hd
    have on : OnF n X := sid_onF s (F.sid e1)
    obtain ⟨j, rfl, h⟩ := rep_cell F s (hasC_iff.mpr (.inl e1)) r
    obtain ⟨j', h1, h2⟩ := loc1 (F.okc s on) e1 h
    rw [← Hf X s on] at h2
    exact ⟨cor X j', ⟨X, i + 1, j', s, on, cor_nb X i, rfl, h1⟩, lr_conn h2⟩
  · have e1 : at4 W X (i + 3) = some c := by show W (edg X (i + 3)) = _; rw [edg_sd3]; exact hd
    have on : OnF n X := sid_onF s (F.sid e1)
    obtain ⟨j, rfl, h⟩ := rep_cell F s (hasC_iff.mpr (.inr e1)) r
    obtain ⟨j', h1, h2⟩ := loc2 (i := i + 3) (F.okc s on) e1 (by rw [fin_b]; exact h)
    rw [← Hf X s on] at h2
    exact ⟨cor X j', ⟨X, i + 3, j', s, on, cor_nb3 X i, rfl, h1⟩, lr_conn h2⟩
theorem conn_rep (hq : q = 0 ∨ q = 1) (F : Flo n W) (Hf : Half n q W W') (o : Od v) (a : Conn W c v x) (r : Rep n q W c v u) : ∃ u', Rep n q W c x u' ∧ Conn W' (!c) u u' := by
  induction a with
  | refl => exact ⟨u, r, .refl⟩
  | step a b ih =>
    obtain ⟨u1, h1, h2⟩ := ih
    obtain ⟨u2, h3, h4⟩ := rep_step hq F Hf (a.od o) b h1
    exact ⟨u2, h3, h2.trans h4⟩
/-! ### ports -/
def Prt (n : Nat) (q : Int) (W : Col) (u : Ps) : Prop := ∃ X i, Sh q X ∧ OnF n X ∧ cor X i = u ∧ isP (at4 W X) i = true
theorem Prt.rep (h : Prt n q W u) (c : Bool) : Rep n q W c u u := by
  obtain ⟨X, i, s, o, e, p⟩ := h
  exact ⟨X, i, i, s, o, e, e, lrep_P p c⟩
theorem Prt.half (h : Prt n q W u) (Hf : Half n q W W') : Prt n q W' u := by
  obtain ⟨X, i, s, o, e, p⟩ := h
  exact ⟨X, i, s, o, e, by rw [Hf X s o, loc6]; exact p⟩
theorem Prt.one (F : Flo n W) (h : Prt n q W u) (r : Rep n q W c u v) : v = u := by
  obtain ⟨X, i, s, o, rfl, p⟩ := h
  obtain ⟨j, rfl, h⟩ := rep_cell F s (isP_C p c) r
  rw [lrepP p h]
/-- a place's side of a colour in its cell: a port, an outer end, or a whole ring -/
theorem rep_or (hq : q = 0 ∨ q = 1) (F : Flo n W) (o : Od v) {d : Fin 4} (h : W (sd v d) = some c) : (∃ u, Rep n q W c v u) ∨ ∃ X i, Sh q X ∧ OnF n X ∧ cor X i = v ∧ fullC (at4 W X) c = true := by
  obtain ⟨X, i, s, rfl, hi⟩ := shade_at hq o d
  have hc : hasC (at4 W X) c i = true := hasC_at.mpr (by rcases hi with rfl | rfl; exact .inl h; exact .inr h)
  have on : OnF n X := by
    rcases hi with rfl | rfl
    · exact sid_onF (i := i) s (F.sid (c := c) (by rw [edg_sd]; exact h))
    · exact sid_onF (i := i + 3) s (F.sid (c := c) (by rw [edg_sd3]; exact h))
  rcases loc3 (F.okc s on) hc with ⟨j, hj⟩ | hf
  · exact .inl ⟨_, X, i, j, s, on, rfl, rfl, hj⟩
  · exact .inr ⟨X, i, s, on, rfl, hf⟩
theorem isO_out (F : Flo n W) {X : Ps} {i : Fin 4} (s : Sh q X) (h : isO (at4 W X) i = true) : Out n (cor X i) := by
  have h' : (W (sd (cor X i) (i + 1))).isNone ≠ (W (sd (cor X i) (i + 2))).isNone := by
    have := bne_iff_ne.mp h
    rw [show at4 W X i = W (sd (cor X i) (i + 1)) by rw [← edg_sd], show at4 W X (i + 3) = W (sd (cor X i) (i + 2)) by rw [← edg_sd3]] at this
    exact this
  refine ⟨cor_od s i, fun ins => ?_, ?_⟩
  · have T := F.two _ ins
    rw [Option.isNone_eq_false_iff.mpr (tt_some T (i + 1)), Option.isNone_eq_false_iff.mpr (tt_some T (i + 2))] at h'
    exact h' rfl
  · cases e1 : W (sd (cor X i) (i + 1)) with
    | some b => exact ⟨_, F.sid e1⟩
    | none =>
      cases e2 : W (sd (cor X i) (i + 2)) with
      | some b => exact ⟨_, F.sid e2⟩
      | none => rw [e1, e2] at h'; exact absurd rfl h'
theorem out_isO (F : Flo n W) {X : Ps} {i : Fin 4} (s : Sh q X) (o : Out n (cor X i)) (h : Sid n (edg X i) ∨ Sid n (edg X (i + 3))) : isO (at4 W X) i = true := by
  unfold isO
  rw [bne_iff_ne]
  rw [edg_sd, edg_sd3] at h
  show (W (edg X i)).isNone ≠ (W (edg X (i + 3))).isNone
  rw [edg_sd, edg_sd3]
  have nb : ¬ (Sid n (sd (cor X i) (i + 1)) ∧ Sid n (sd (cor X i) (i + 2))) := fun z => o.2.1 (out_one o.1 z.1 z.2 fin_ne.2.2.2.2.1)
  have sm : ∀ t, Sid n t → (W t).isNone = false := fun t ht => Option.isNone_eq_false_iff.mpr ((F.dom t).mpr ht)
  have no : ∀ t, ¬ Sid n t → (W t).isNone = true := fun t ht => by
    cases e : W t with
    | none => rfl
    | some b => exact absurd (F.sid e) ht
  rcases h with h | h
  · rw [sm _ h, no _ fun z => nb ⟨h, z⟩]; decide
  · rw [sm _ h, no _ fun z => nb ⟨z, h⟩]; decide
theorem rep_is (F : Flo n W) (r : Rep n q W c v u) : (Conn W c v u ∧ Prt n q W u) ∨ ∃ o, Out n o ∧ Conn W c v o := by
  obtain ⟨X, i, j, s, on, rfl, rfl, h⟩ := r
  rcases loc4 (F.okc s on) h with ⟨h1, h2⟩ | ⟨t, h1, h2⟩
  · exact .inl ⟨lr_conn h1, X, j, s, on, rfl, h2⟩
  · exact .inr ⟨_, isO_out F s h2, lr_conn h1⟩
/-! ### outer ends -/
theorem out_rep (F : Flo n W) {X : Ps} {i j : Fin 4} (s : Sh q X) (on : OnF n X) (hi : isO (at4 W X) i = true) (hj : isO (at4 W X) j = true) (ne : j ≠ i) (hc : hasC (at4 W X) c i = true) :
    Rep n q W c (cor X i) (cor X j) ∧ ∀ u, Rep n q W c (cor X i) u → u = cor X j := by
  refine ⟨⟨X, i, j, s, on, rfl, rfl, loc9 (F.okc s on) hi hc hj ne⟩, fun u r => ?_⟩
  obtain ⟨k, rfl, h⟩ := rep_cell F s hc r
  obtain ⟨h1, h2⟩ := loc7 (F.okc s on) hi h
  rw [loc8 (F.okc s on) hi h1 hj h2 ne]
/-! ### whole rings -/
theorem full_conn (F : Flo n W) {X : Ps} (s : Sh q X) (hf : fullC (at4 W X) c = true) {i : Fin 4} (h : Conn W c (cor X i) y) : ∃ j, y = cor X j := by
  induction h with
  | refl => exact ⟨i, rfl⟩
  | step _ a ih =>
    obtain ⟨j, rfl⟩ := ih
    obtain ⟨d, h1, rfl⟩ := a
    have e1 : W (sd (cor X j) (j + 1)) = some c := by rw [← edg_sd]; exact fullC_at hf j
    have e2 : W (sd (cor X j) (j + 2)) = some c := by rw [← edg_sd3]; exact fullC_at hf (j + 3)
    have ins : Ins n (cor X j) := out_one (cor_od s j) (F.sid e1) (F.sid e2) fin_ne.2.2.2.2.1
    rcases tt1 (F.two _ ins) e1 e2 fin_ne.2.2.2.2.1 h1 with rfl | rfl
    · exact ⟨j + 1, (cor_nb X j).symm⟩
    · exact ⟨j + 3, (cor_nb3 X j).symm⟩
theorem full_norep (F : Flo n W) {X : Ps} (s : Sh q X) (hf : fullC (at4 W X) c = true) {i : Fin 4} (r : Rep n q W c (cor X i) u) : False := by
  obtain ⟨j, _, h⟩ := rep_cell F s (hasC_iff.mpr (.inl (fullC_at hf i))) r
  rw [(loc10 hf).1] at h
  cases h
theorem full_half {X : Ps} (s : Sh q X) (on : OnF n X) (Hf : Half n q W W') (hf : fullC (at4 W X) c = true) : fullC (at4 W' X) c = true := by
  rw [Hf X s on]
  have a : ∀ i, flp (at4 W X) i = some c := fun i => (loc10 (u := 0) hf).2
  unfold fullC
  rw [a, a, a, a]
  simp
theorem full_ins (F : Flo n W) {X : Ps} (s : Sh q X) (hf : fullC (at4 W X) c = true) (i : Fin 4) : Ins n (cor X i) := by
  have e1 : W (sd (cor X i) (i + 1)) = some c := by rw [← edg_sd]; exact fullC_at hf i
  have e2 : W (sd (cor X i) (i + 2)) = some c := by rw [← edg_sd3]; exact fullC_at hf (i + 3)
  exact out_one (cor_od s i) (F.sid e1) (F.sid e2) fin_ne.2.2.2.2.1
end
end GY
end
section
set_option linter.all false
set_option maxRecDepth 100000
set_option maxHeartbeats 4000000
/-! rings are as many behind half a turn; links of outer ends -/
namespace GY
theorem inj_len {α β : Type} (R : α → β → Prop) : ∀ (A : List α) (B : List β), A.Nodup → (∀ a ∈ A, ∃ b ∈ B, R a b) → (∀ a ∈ A, ∀ a' ∈ A, ∀ b, R a b → R a' b → a = a') → A.length ≤ B.length
  | [], _, _, _, _ => Nat.zero_le _
  | a :: A, B, nd, ex, inj => by
    obtain ⟨b, hb, r⟩ := ex a (List.mem_cons_self ..)
    obtain ⟨s, t, rfl⟩ := List.append_of_mem hb
    obtain ⟨n1, n2⟩ := List.nodup_cons.mp nd
    have h := inj_len R A (s ++ t) n2 (fun a' ha => by
      obtain ⟨b', hb', r'⟩ := ex a' (List.mem_cons_of_mem _ ha)
      refine ⟨b', ?_, r'⟩
      rcases List.mem_append.mp hb' with z | z
      · exact List.mem_append_left _ z
      · rcases List.mem_cons.mp z with z | z
        · rw [z] at r'
          exact absurd (inj _ (List.mem_cons_of_mem _ ha) _ (List.mem_cons_self ..) _ r' r ▸ ha) n1
        · exact List.mem_append_right _ z) fun x hx y hy => inj x (List.mem_cons_of_mem _ hx) y (List.mem_cons_of_mem _ hy)
    rw [List.length_append] at h
    rw [List.length_append, List.length_cons, List.length_cons]
    omega
/-- on a ring -/
def Rg (n : Nat) (W : Col) (c : Bool) (x : Ps) : Prop := Ins n x ∧ ∀ o, Out n o → ¬ Conn W c x o
/-- one place of each ring -/
structure Tra (n : Nat) (W : Col) (c : Bool) (T : List Ps) : Prop where
  rg : ∀ x ∈ T, Rg n W c x
  ap : ∀ x ∈ T, ∀ y ∈ T, Conn W c x y → x = y
  nd : T.Nodup
  cov : ∀ y, Rg n W c y → ∃ x ∈ T, Conn W c y x
section
variable {W W' : Col} {c : Bool} {p r x y v u : Ps} {n : Nat} {q : Int}
theorem Tra.le {T T' : List Ps} (h : Tra n W c T) (h' : Tra n W c T') : T.length ≤ T'.length :=
  inj_len (fun a b => Conn W c a b) T T' h.nd (fun a ha => h'.cov a (h.rg a ha)) fun a ha a' ha' b r r' => h.ap a ha a' ha' (r.trans r'.symm)
theorem Tra.eq {T T' : List Ps} (h : Tra n W c T) (h' : Tra n W c T') : T.length = T'.length := Nat.le_antisymm (h.le h') (h'.le h)
theorem Prt.ins (F : Flo n W) (h : Prt n q W u) : Ins n u := by
  obtain ⟨X, i, s, on, rfl, hp⟩ := h
  obtain ⟨h1, h2, _⟩ := isP_at.mp hp
  exact out_one (cor_od s i) ((F.dom _).mp h1) ((F.dom _).mp h2) fin_ne.2.2.2.2.1
theorem rep_out_out (F : Flo n W) (r : Rep n q W c v u) (o : Out n v) : Out n u := by
  obtain ⟨X, i, j, s, on, rfl, rfl, h⟩ := r
  have hs : Sid n (edg X i) ∨ Sid n (edg X (i + 3)) := by
    rcases hasC_iff.mp (lrep_C h) with z | z
    · exact .inl (F.sid z)
    · exact .inr (F.sid z)
  exact isO_out F s (loc7 (F.okc s on) (out_isO F s o hs) h).1
theorem full_lr' : ∀ a b c d : Option Bool, ∀ k : Bool, ∀ i j : Fin 4, fullC (mk4 a b c d) k = true → lr (mk4 a b c d) k 3 i j = true := by decide +kernel
theorem full_all {X : Ps} (hf : fullC (at4 W X) c = true) (i j : Fin 4) : Conn W c (cor X i) (cor X j) := by
  have := full_lr' (at4 W X 0) (at4 W X 1) (at4 W X 2) (at4 W X 3) c i j
  rw [mk4_e] at this
  exact lr_conn (this hf)
/-- what a ring becomes -/
def Goes (n : Nat) (q : Int) (W W' : Col) (a b : Bool × Ps) : Prop :=
  (∃ u, Rep n q W a.1 a.2 u ∧ Conn W a.1 a.2 u ∧ Prt n q W u ∧ b.1 = (!a.1) ∧ Conn W' (!a.1) u b.2) ∨
  ∃ X i, Sh q X ∧ OnF n X ∧ cor X i = a.2 ∧ fullC (at4 W X) a.1 = true ∧ b.1 = a.1 ∧ Conn W' a.1 a.2 b.2
theorem goes_inj (hq : q = 0 ∨ q = 1) (F : Flo n W) (F' : Flo n W') (Hf : Half n q W W') {a a' b : Bool × Ps} (h : Goes n q W W' a b) (h' : Goes n q W W' a' b) : a.1 = a'.1 ∧ Conn W a.1 a.2 a'.2 := by
  obtain ⟨c, x⟩ := a
  obtain ⟨c', x'⟩ := a'
  obtain ⟨d, z⟩ := b
  have Hb := Hf.symm F
  have mix : ∀ {c c' : Bool} {x x' : Ps}, d = (!c) → d = c' → ∀ u, Prt n q W u → Conn W' (!c) u z → ∀ X i, Sh q X → OnF n X → cor X i = x' → fullC (at4 W X) c' = true → Conn W' c' x' z → False := by
    intro c c' x x' e1 e2 u hp hu X i s on ex hf hz
    subst ex
    have ec : c' = !c := e2.symm.trans e1
    subst ec
    obtain ⟨u', h1, _⟩ := conn_rep hq F' Hb (hp.ins F).1 (hu.trans hz.symm) ((hp.half Hf).rep (!c))
    exact full_norep F' s (full_half s on Hf hf) h1
  rcases h with ⟨u, r1, c1, p1, e1, z1⟩ | ⟨X, i, s, on, ex, hf, e1, z1⟩
  · rcases h' with ⟨u', r2, c2, p2, e2, z2⟩ | ⟨X, i, s, on, ex, hf, e2, z2⟩
    · have ec : c = c' := by
        have : (!c) = !c' := e1.symm.trans e2
        revert this
        cases c <;> cases c' <;> simp
      subst ec
      obtain ⟨u2, h1, h2⟩ := conn_rep hq F' Hb (p1.ins F).1 (z1.trans z2.symm) ((p1.half Hf).rep (!c))
      have e3 := (p2.half Hf).one F' h1
      rw [e3, Bool.not_not] at h2
      exact ⟨rfl, (c1.trans h2).trans c2.symm⟩
    · exact (mix (x := x) e1 e2 u p1 z1 X i s on ex hf z2).elim
  · rcases h' with ⟨u', r2, c2, p2, e2, z2⟩ | ⟨X', i', s', on', ex', hf', e2, z2⟩
    · exact (mix (x := x') e2 e1 u' p2 z2 X i s on ex hf z1).elim
    · have ec : c = c' := e1.symm.trans e2
      subst ec
      refine ⟨rfl, ?_⟩
      have ex2 : cor X i = x := ex
      subst ex2
      obtain ⟨j, hj⟩ := full_conn F' s (full_half s on Hf hf) (z1.trans z2.symm)
      have hj2 : x' = cor X j := hj
      rw [hj2]
      exact full_all hf i j
theorem goes_ex (hq : q = 0 ∨ q = 1) (F : Flo n W) (F' : Flo n W') (Hf : Half n q W W') (h : Rg n W c x) : ∃ c' y, Rg n W' c' y ∧ ∀ z, Conn W' c' y z → Goes n q W W' (c, x) (c', z) := by
  have Hb := Hf.symm F
  obtain ⟨d, hd⟩ := tt3 (F.two x h.1) c
  rcases rep_or hq F h.1.1 hd with ⟨u, r⟩ | ⟨X, i, s, on, rfl, hf⟩
  · rcases rep_is F r with ⟨h1, h2⟩ | ⟨o, h1, h2⟩
    · refine ⟨!c, u, ⟨h2.ins F, fun o ho hc => ?_⟩, fun z hz => .inl ⟨u, r, h1, h2, rfl, hz⟩⟩
      obtain ⟨o', r', hc'⟩ := conn_rep hq F' Hb (h2.ins F).1 hc ((h2.half Hf).rep (!c))
      rw [Bool.not_not] at hc'
      exact h.2 o' (rep_out_out F' r' ho) (h1.trans hc')
    · exact absurd h2 (h.2 o h1)
  · have hf' := full_half s on Hf hf
    refine ⟨c, cor X i, ⟨h.1, fun o ho hc => ?_⟩, fun z hz => .inr ⟨X, i, s, on, rfl, hf, rfl, hz⟩⟩
    obtain ⟨j, rfl⟩ := full_conn F' s hf' hc
    exact ho.2.1 (full_ins F' s hf' j)
theorem ring_le (hq : q = 0 ∨ q = 1) (F : Flo n W) (F' : Flo n W') (Hf : Half n q W W') {T T' : Bool → List Ps} (h : ∀ c, Tra n W c (T c)) (h' : ∀ c, Tra n W' c (T' c)) : (T true).length + (T false).length ≤ (T' true).length + (T' false).length := by
  have mem : ∀ {T : Bool → List Ps} {c : Bool} {x : Ps}, (c, x) ∈ (T true).map (fun x => (true, x)) ++ (T false).map (fun x => (false, x)) ↔ x ∈ T c := by
    intro T c x
    rw [List.mem_append, List.mem_map, List.mem_map]
    constructor
    · rintro (⟨y, hy, e⟩ | ⟨y, hy, e⟩)
      · cases e; exact hy
      · cases e; exact hy
    · intro hx
      cases c with
      | true => exact .inl ⟨x, hx, rfl⟩
      | false => exact .inr ⟨x, hx, rfl⟩
  have nd : ((T true).map (fun x => (true, x)) ++ (T false).map (fun x => (false, x))).Nodup := by
    rw [List.nodup_append]
    refine ⟨?_, ?_, ?_⟩
    · exact List.nodup_iff_pairwise_ne.mpr (List.pairwise_map.mpr ((List.nodup_iff_pairwise_ne.mp (h true).nd).imp fun z e => z (congrArg Prod.snd e)))
    · exact List.nodup_iff_pairwise_ne.mpr (List.pairwise_map.mpr ((List.nodup_iff_pairwise_ne.mp (h false).nd).imp fun z e => z (congrArg Prod.snd e)))
    · intro a ha b hb e
      obtain ⟨y, _, ey⟩ := List.mem_map.mp ha
      obtain ⟨z, _, ez⟩ := List.mem_map.mp hb
      rw [← ey, ← ez] at e
      cases congrArg Prod.fst e
  have k := inj_len (Goes n q W W') _ ((T' true).map (fun x => (true, x)) ++ (T' false).map (fun x => (false, x))) nd (fun a ha => ?_) (fun a ha a' ha' b r r' => ?_)
  · simpa using k
  · obtain ⟨c, x⟩ := a
    obtain ⟨c', y, h1, h2⟩ := goes_ex hq F F' Hf ((h c).rg x (mem.mp ha))
    obtain ⟨z, hz, hc⟩ := (h' c').cov y h1
    exact ⟨(c', z), mem.mpr hz, h2 z hc⟩
  · obtain ⟨e1, e2⟩ := goes_inj hq F F' Hf r r'
    obtain ⟨c, x⟩ := a
    obtain ⟨c', x'⟩ := a'
    have e1' : c = c' := e1
    subst e1'
    exact congrArg (Prod.mk c) ((h c).ap x (mem.mp ha) x' (mem.mp ha') e2)
theorem ring_eq (hq : q = 0 ∨ q = 1) (F : Flo n W) (F' : Flo n W') (Hf : Half n q W W') {T T' : Bool → List Ps} (h : ∀ c, Tra n W c (T c)) (h' : ∀ c, Tra n W' c (T' c)) : (T true).length + (T false).length = (T' true).length + (T' false).length :=
  Nat.le_antisymm (ring_le hq F F' Hf h h') (ring_le hq F' F (Hf.symm F) h' h)
/-- there is one place of each ring -/
theorem tra_part (n : Nat) (W : Col) (c : Bool) : ∀ L : List Ps, ∃ T : List Ps, (∀ x ∈ T, Rg n W c x) ∧ (∀ x ∈ T, ∀ y ∈ T, Conn W c x y → x = y) ∧ T.Nodup ∧ ∀ y ∈ L, Rg n W c y → ∃ x ∈ T, Conn W c y x
  | [] => ⟨[], fun _ h => (nomatch h), fun _ h => (nomatch h), List.nodup_nil, fun _ h => (nomatch h)⟩
  | a :: L => by
    obtain ⟨T, h1, h2, h3, h4⟩ := tra_part n W c L
    by_cases k : Rg n W c a ∧ ∀ x ∈ T, ¬ Conn W c a x
    · refine ⟨a :: T, fun x hx => ?_, fun x hx y hy g => ?_, List.nodup_cons.mpr ⟨fun z => k.2 a z .refl, h3⟩, fun y hy g => ?_⟩
      · rcases List.mem_cons.mp hx with rfl | hx
        · exact k.1
        · exact h1 x hx
      · rcases List.mem_cons.mp hx with ex | hx'
        · rcases List.mem_cons.mp hy with ey | hy'
          · rw [ex, ey]
          · exact absurd (ex ▸ g) (k.2 y hy')
        · rcases List.mem_cons.mp hy with ey | hy'
          · exact absurd (ey ▸ g).symm (k.2 x hx')
          · exact h2 x hx' y hy' g
      · rcases List.mem_cons.mp hy with rfl | hy
        · exact ⟨_, List.mem_cons_self .., .refl⟩
        · obtain ⟨x, hx, g'⟩ := h4 y hy g
          exact ⟨x, List.mem_cons_of_mem _ hx, g'⟩
    · refine ⟨T, h1, h2, h3, fun y hy g => ?_⟩
      rcases List.mem_cons.mp hy with rfl | hy
      · by_cases k2 : ∃ x ∈ T, Conn W c y x
        · exact k2
        · exact absurd ⟨g, fun x hx z => k2 ⟨x, hx, z⟩⟩ k
      · exact h4 y hy g
end
/-- all places -/
def places (n : Nat) : List Ps := (List.range n).flatMap fun r : Nat => (List.range n).map fun c : Nat => (2 * (r : Int) + 1, 2 * (c : Int) + 1)
theorem mem_places {n : Nat} {p : Ps} : p ∈ places n ↔ Ins n p := by
  unfold places
  rw [List.mem_flatMap]
  constructor
  · rintro ⟨r, hr, h⟩
    obtain ⟨c, hc, rfl⟩ := List.mem_map.mp h
    have := List.mem_range.mp hr
    have := List.mem_range.mp hc
    refine ⟨⟨?_, ?_⟩, ?_, ?_, ?_, ?_⟩ <;> simp <;> omega
  · rintro ⟨⟨o1, o2⟩, h1, h2, h3, h4⟩
    refine ⟨(p.1 / 2).toNat, List.mem_range.mpr (by omega), List.mem_map.mpr ⟨(p.2 / 2).toNat, List.mem_range.mpr (by omega), ?_⟩⟩
    refine Prod.ext ?_ ?_
    · show 2 * ((p.1 / 2).toNat : Int) + 1 = p.1
      omega
    · show 2 * ((p.2 / 2).toNat : Int) + 1 = p.2
      omega
theorem places_len (n : Nat) : (places n).length = n * n := by
  unfold places
  rw [List.length_flatMap]
  have : (List.range n).map (fun r : Nat => ((List.range n).map fun c : Nat => ((2 * (r : Int) + 1, 2 * (c : Int) + 1) : Ps)).length) = List.replicate n n := by
    refine List.ext_getElem? fun i => ?_
    rw [List.getElem?_map]
    by_cases hi : i < n
    · rw [List.getElem?_range hi, List.getElem?_replicate, if_pos hi]
      simp
    · rw [List.getElem?_eq_none (by simp; omega), List.getElem?_eq_none (by simp; omega)]
      rfl
  rw [this, List.sum_replicate_nat]
theorem tra_ex (n : Nat) (W : Col) (c : Bool) : ∃ T, Tra n W c T := by
  obtain ⟨T, h1, h2, h3, h4⟩ := tra_part n W c (places n)
  exact ⟨T, h1, h2, h3, fun y hy => h4 y (mem_places.mpr hy.1) hy⟩
/-- how many rings there are -/
noncomputable def rings (n : Nat) (W : Col) (c : Bool) : Nat := (Classical.choose (tra_ex n W c)).length
theorem rings_of {n : Nat} {W : Col} {c : Bool} {T : List Ps} (h : Tra n W c T) : T.length = rings n W c := h.eq (Classical.choose_spec (tra_ex n W c))
theorem rings_half {n : Nat} {q : Int} {W W' : Col} (hq : q = 0 ∨ q = 1) (F : Flo n W) (F' : Flo n W') (Hf : Half n q W W') : rings n W true + rings n W false = rings n W' true + rings n W' false :=
  ring_eq hq F F' Hf (T := fun c => Classical.choose (tra_ex n W c)) (T' := fun c => Classical.choose (tra_ex n W' c)) (fun c => Classical.choose_spec (tra_ex n W c)) fun c => Classical.choose_spec (tra_ex n W' c)
end GY
end
section
set_option linter.all false
set_option maxRecDepth 100000
set_option maxHeartbeats 4000000
/-! the floor of a state by its heights; roads -/
namespace GY
instance (n : Nat) (s : Ps) : Decidable (Sid n s) := by unfold Sid; infer_instance
def wv (h : Int → Int → Int) (s : Ps) : Bool := if s.1 % 2 = 1 then decide (h (s.1 / 2 + 1) (s.2 / 2) - h (s.1 / 2) (s.2 / 2) = 1) == decide ((s.1 / 2 + s.2 / 2) % 2 = 1)
  else decide (h (s.1 / 2) (s.2 / 2) - h (s.1 / 2) (s.2 / 2 + 1) = 1) == decide ((s.1 / 2 + s.2 / 2) % 2 = 1)
def Wh (n : Nat) (h : Int → Int → Int) : Col := fun s => if Sid n s then some (wv h s) else none
theorem wv_v (h : Int → Int → Int) {a b r j : Int} (ea : a = 2 * r + 1) (eb : b = 2 * j) : wv h (a, b) = (decide (h (r + 1) j - h r j = 1) == decide ((r + j) % 2 = 1)) := by
  unfold wv
  show (if a % 2 = 1 then _ else _) = _
  rw [if_pos (by omega), show a / 2 = r by omega, show b / 2 = j by omega]
theorem wv_h (h : Int → Int → Int) {a b i c : Int} (ea : a = 2 * i) (eb : b = 2 * c + 1) : wv h (a, b) = (decide (h i c - h i (c + 1) = 1) == decide ((i + c) % 2 = 1)) := by
  unfold wv
  show (if a % 2 = 1 then _ else _) = _
  rw [if_neg (by omega), show a / 2 = i by omega, show b / 2 = c by omega]
theorem Wh_yes {n : Nat} {h : Int → Int → Int} {s : Ps} (k : Sid n s) : Wh n h s = some (wv h s) := if_pos k
theorem Wh_no {n : Nat} {h : Int → Int → Int} {s : Ps} (k : ¬ Sid n s) : Wh n h s = none := if_neg k
theorem dec01 {a b : Int} (h : b = a + 1 ∨ b = a - 1) : (decide (a - b = 1) = true ∧ b = a - 1) ∨ (decide (a - b = 1) = false ∧ b = a + 1) := by
  rcases h with h | h
  · exact .inr ⟨decide_eq_false (by omega), h⟩
  · exact .inl ⟨decide_eq_true (by omega), h⟩
theorem tt_alg {a b d e : Int} {P : Bool} (h1 : b = a + 1 ∨ b = a - 1) (h2 : d = a + 1 ∨ d = a - 1) (h3 : e = d + 1 ∨ e = d - 1) (h4 : e = b + 1 ∨ e = b - 1) :
    tt (mk4 (some (decide (a - b = 1) == P)) (some (decide (e - b = 1) == !P)) (some (decide (d - e = 1) == !P)) (some (decide (d - a = 1) == P))) = true := by
  have N := dec01 h1
  have E := dec01 (a := e) (b := b) (by omega)
  have S := dec01 h3
  have V := dec01 (a := d) (b := a) (by omega)
  rcases N with ⟨n1, n2⟩ | ⟨n1, n2⟩ <;> rcases E with ⟨e1, e2⟩ | ⟨e1, e2⟩ <;> rcases S with ⟨s1, s2⟩ | ⟨s1, s2⟩ <;> rcases V with ⟨v1, v2⟩ | ⟨v1, v2⟩ <;> rw [n1, e1, s1, v1] <;> first | (exfalso; omega) | (cases P <;> rfl)
theorem flp_alg {x N E S V : Int} {Q : Bool} (h1 : N = x + 1 ∨ N = x - 1) (h2 : E = x + 1 ∨ E = x - 1) (h3 : S = x + 1 ∨ S = x - 1) (h4 : V = x + 1 ∨ V = x - 1) {x' : Int} (hx : (S = N ∧ V = N ∧ E = N) ∧ x' = 2 * N - x ∨ ¬ (S = N ∧ V = N ∧ E = N) ∧ x' = x) :
    mk4 (some (decide (x' - N = 1) == !Q)) (some (decide (x' - E = 1) == Q)) (some (decide (S - x' = 1) == Q)) (some (decide (V - x' = 1) == !Q)) =
      flp (mk4 (some (decide (x - N = 1) == !Q)) (some (decide (x - E = 1) == Q)) (some (decide (S - x = 1) == Q)) (some (decide (V - x = 1) == !Q))) := by
  have a := dec01 h1
  have b := dec01 h2
  have c := dec01 (a := S) (b := x) (by omega)
  have d := dec01 (a := V) (b := x) (by omega)
  have a' := dec01 (a := x') (b := N) (by omega)
  have b' := dec01 (a := x') (b := E) (by omega)
  have c' := dec01 (a := S) (b := x') (by omega)
  have d' := dec01 (a := V) (b := x') (by omega)
  rcases a with ⟨n1, n2⟩ | ⟨n1, n2⟩ <;> rcases b with ⟨e1, e2⟩ | ⟨e1, e2⟩ <;> rcases c with ⟨s1, s2⟩ | ⟨s1, s2⟩ <;> rcases d with ⟨v1, v2⟩ | ⟨v1, v2⟩ <;>
    rcases a' with ⟨n3, n4⟩ | ⟨n3, n4⟩ <;> (try (exfalso; omega)) <;> rcases b' with ⟨e3, e4⟩ | ⟨e3, e4⟩ <;> (try (exfalso; omega)) <;> rcases c' with ⟨s3, s4⟩ | ⟨s3, s4⟩ <;> (try (exfalso; omega)) <;> rcases d' with ⟨v3, v4⟩ | ⟨v3, v4⟩ <;> (try (exfalso; omega)) <;>
    rw [n1, e1, s1, v1, n3, e3, s3, v3] <;> cases Q <;> exact funext (fin4 rfl rfl rfl rfl)
theorem okc_one {e : E4} {i : Fin 4} {x y z : Bool} (h0 : e i = none) (h1 : e (i + 1) = some x) (h2 : e (i + 2) = some y) (h3 : e (i + 3) = some z) (ne : x ≠ z) : okc e = true := by
  unfold okc
  rw [Bool.or_eq_true, Bool.or_eq_true]
  refine .inr (.inl (anyF_iff.mpr ⟨i, ?_⟩))
  rw [h0, h1, h2, h3]
  revert ne; cases x <;> cases z <;> simp
theorem okc_two {e : E4} {i : Fin 4} {x y : Bool} (h0 : e i = none) (h1 : e (i + 1) = none) (h2 : e (i + 2) = some x) (h3 : e (i + 3) = some y) (ne : x ≠ y) : okc e = true := by
  unfold okc
  rw [Bool.or_eq_true, Bool.or_eq_true]
  refine .inr (.inr (anyF_iff.mpr ⟨i, ?_⟩))
  rw [h0, h1, h2, h3]
  revert ne; cases x <;> cases y <;> simp
section
variable {n : Nat} {h : Int → Int → Int}
/-! colours at the rim -/
theorem HV.cU (v : HV n h) {t b : Int} (eb : b = 2 * t + 1) (h0 : 0 ≤ t) (h1 : t < n) : Wh n h (0, b) = some (decide (t % 2 = 0)) := by
  rw [Wh_yes ⟨by simp; omega, by simp, by simp; omega, by simp; omega, by simp; omega⟩, wv_h h (a := 0) (i := 0) (c := t) (by omega) eb, v.top t h0 (by omega), v.top (t + 1) (by omega) (by omega), decide_eq_false (by omega), Int.zero_add]
  rcases (show t % 2 = 0 ∨ t % 2 = 1 by omega) with e | e <;> rw [e] <;> rfl
theorem HV.cD (v : HV n h) {c a b : Int} (ea : a = 2 * n) (eb : b = 2 * c + 1) (h0 : 0 ≤ c) (h1 : c < n) : Wh n h (a, b) = some (decide ((n + c) % 2 = 1)) := by
  rw [Wh_yes ⟨by simp; omega, by simp; omega, by simp; omega, by simp; omega, by simp; omega⟩, wv_h h (i := n) (c := c) ea eb, v.bot c h0 (by omega), v.bot (c + 1) (by omega) (by omega), decide_eq_true (by omega)]
  rcases (show ((n : Int) + c) % 2 = 0 ∨ ((n : Int) + c) % 2 = 1 by omega) with e | e <;> rw [e] <;> rfl
theorem HV.cL (v : HV n h) {r a : Int} (ea : a = 2 * r + 1) (h0 : 0 ≤ r) (h1 : r < n) : Wh n h (a, 0) = some (decide (r % 2 = 1)) := by
  rw [Wh_yes ⟨by simp; omega, by simp; omega, by simp; omega, by simp, by simp; omega⟩, wv_v h (b := 0) (r := r) (j := 0) ea (by omega), v.left r h0 (by omega), v.left (r + 1) (by omega) (by omega), decide_eq_true (by omega), Int.add_zero]
  rcases (show r % 2 = 0 ∨ r % 2 = 1 by omega) with e | e <;> rw [e] <;> rfl
theorem HV.cR (v : HV n h) {r a b : Int} (ea : a = 2 * r + 1) (eb : b = 2 * n) (h0 : 0 ≤ r) (h1 : r < n) : Wh n h (a, b) = some (decide ((r + n) % 2 = 0)) := by
  rw [Wh_yes ⟨by simp; omega, by simp; omega, by simp; omega, by simp; omega, by simp; omega⟩, wv_v h (r := r) (j := n) ea eb, v.rig r h0 (by omega), v.rig (r + 1) (by omega) (by omega), decide_eq_false (by omega)]
  rcases (show (r + (n : Int)) % 2 = 0 ∨ (r + (n : Int)) % 2 = 1 by omega) with e | e <;> rw [e] <;> rfl
theorem odd_not {a b : Int} (h : (a + b) % 2 = 1) : decide (a % 2 = 1) = !decide (b % 2 = 1) := by
  rcases (show b % 2 = 0 ∨ b % 2 = 1 by omega) with e | e
  · rw [decide_eq_true (show a % 2 = 1 by omega), decide_eq_false (show ¬ b % 2 = 1 by omega)]; rfl
  · rw [decide_eq_false (show ¬ a % 2 = 1 by omega), decide_eq_true e]; rfl
theorem HV.two (v : HV n h) {p : Ps} (ins : Ins n p) : tt (fun d => Wh n h (sd p d)) = true := by
  obtain ⟨⟨o1, o2⟩, a1, a2, a3, a4⟩ := ins
  obtain ⟨r, er⟩ : ∃ r : Int, p.1 = 2 * r + 1 := ⟨p.1 / 2, by omega⟩
  obtain ⟨c, ec⟩ : ∃ c : Int, p.2 = 2 * c + 1 := ⟨p.2 / 2, by omega⟩
  rw [← mk4_e (fun d => Wh n h (sd p d))]
  have e0 : Wh n h (sd p 0) = some (decide (h r c - h r (c + 1) = 1) == decide ((r + c) % 2 = 1)) := by
    rw [Wh_yes (by simp [Sid, sd, dr]; omega)]
    exact congrArg some (wv_h h (by simp [dr]; omega) (by simp [dr]; omega))
  have e3 : Wh n h (sd p 3) = some (decide (h (r + 1) c - h r c = 1) == decide ((r + c) % 2 = 1)) := by
    rw [Wh_yes (by simp [Sid, sd, dr]; omega)]
    exact congrArg some (wv_v h (by simp [dr]; omega) (by simp [dr]; omega))
  have e1 : Wh n h (sd p 1) = some (decide (h (r + 1) (c + 1) - h r (c + 1) = 1) == !decide ((r + c) % 2 = 1)) := by
    rw [Wh_yes (by simp [Sid, sd, dr]; omega), ← odd_not (a := r + (c + 1)) (b := r + c) (by omega)]
    exact congrArg some (wv_v h (by simp [dr]; omega) (by simp [dr]; omega))
  have e2 : Wh n h (sd p 2) = some (decide (h (r + 1) c - h (r + 1) (c + 1) = 1) == !decide ((r + c) % 2 = 1)) := by
    rw [Wh_yes (by simp [Sid, sd, dr]; omega), ← odd_not (a := r + 1 + c) (b := r + c) (by omega)]
    exact congrArg some (wv_h h (by simp [dr]; omega) (by simp [dr]; omega))
  show tt (mk4 (Wh n h (sd p 0)) (Wh n h (sd p 1)) (Wh n h (sd p 2)) (Wh n h (sd p 3))) = true
  rw [e0, e1, e2, e3]
  exact tt_alg (v.hor r c (by omega) (by omega) (by omega) (by omega)) (v.ver r c (by omega) (by omega) (by omega) (by omega)) (v.hor (r + 1) c (by omega) (by omega) (by omega) (by omega)) (v.ver r (c + 1) (by omega) (by omega) (by omega) (by omega))
/-! the four edges at a point -/
theorem ed0 {X : Ps} {i j : Int} (e1 : X.1 = 2 * i) (e2 : X.2 = 2 * j) (on : OnF n X) (k : 0 < i) : at4 (Wh n h) X 0 = some (decide (h i j - h (i - 1) j = 1) == !decide ((i + j) % 2 = 1)) := by
  obtain ⟨o1, o2, o3, o4⟩ := on
  show Wh n h (edg X 0) = _
  rw [Wh_yes (by simp [Sid, edg]; omega), ← odd_not (a := i - 1 + j) (b := i + j) (by omega)]
  have := wv_v h (a := X.1 - 1) (b := X.2) (r := i - 1) (j := j) (by omega) e2
  rw [show i - 1 + 1 = i by omega] at this
  exact congrArg some this
theorem ed1 {X : Ps} {i j : Int} (e1 : X.1 = 2 * i) (e2 : X.2 = 2 * j) (on : OnF n X) (k : j < n) : at4 (Wh n h) X 1 = some (decide (h i j - h i (j + 1) = 1) == decide ((i + j) % 2 = 1)) := by
  obtain ⟨o1, o2, o3, o4⟩ := on
  show Wh n h (edg X 1) = _
  rw [Wh_yes (by simp [Sid, edg]; omega)]
  exact congrArg some (wv_h h (a := X.1) (b := X.2 + 1) (by omega) (by omega))
theorem ed2 {X : Ps} {i j : Int} (e1 : X.1 = 2 * i) (e2 : X.2 = 2 * j) (on : OnF n X) (k : i < n) : at4 (Wh n h) X 2 = some (decide (h (i + 1) j - h i j = 1) == decide ((i + j) % 2 = 1)) := by
  obtain ⟨o1, o2, o3, o4⟩ := on
  show Wh n h (edg X 2) = _
  rw [Wh_yes (by simp [Sid, edg]; omega)]
  exact congrArg some (wv_v h (a := X.1 + 1) (b := X.2) (by omega) (by omega))
theorem ed3 {X : Ps} {i j : Int} (e1 : X.1 = 2 * i) (e2 : X.2 = 2 * j) (on : OnF n X) (k : 0 < j) : at4 (Wh n h) X 3 = some (decide (h i (j - 1) - h i j = 1) == !decide ((i + j) % 2 = 1)) := by
  obtain ⟨o1, o2, o3, o4⟩ := on
  show Wh n h (edg X 3) = _
  rw [Wh_yes (by simp [Sid, edg]; omega), ← odd_not (a := i + (j - 1)) (b := i + j) (by omega)]
  have := wv_h h (a := X.1) (b := X.2 - 1) (i := i) (c := j - 1) (by omega) (by omega)
  rw [show j - 1 + 1 = j by omega] at this
  exact congrArg some this
theorem ed_no {X : Ps} {i : Fin 4} (k : ¬ Sid n (edg X i)) : at4 (Wh n h) X i = none := Wh_no k
theorem isome {e : Option Bool} {x : Bool} (h : e = some x) : e.isSome = true := by rw [h]; rfl
theorem dec_ne {a b : Prop} [Decidable a] [Decidable b] (h : a ↔ ¬ b) : decide a ≠ decide b := by
  by_cases x : b
  · rw [decide_eq_true x, decide_eq_false fun z => h.mp z x]; decide
  · rw [decide_eq_false x, decide_eq_true (h.mpr x)]; decide
theorem HV.okx (v : HV n h) {X : Ps} (x1 : X.1 % 2 = 0) (x2 : X.2 % 2 = 0) (on : OnF n X) : okc (at4 (Wh n h) X) = true := by
  obtain ⟨i, e1⟩ : ∃ i : Int, X.1 = 2 * i := ⟨X.1 / 2, by omega⟩
  obtain ⟨j, e2⟩ : ∃ j : Int, X.2 = 2 * j := ⟨X.2 / 2, by omega⟩
  have on' := on
  obtain ⟨o1, o2, o3, o4⟩ := on
  have np := v.pos
  have E0 : ∀ {a b : Int} {z : Option Bool}, X.1 - 1 = a → X.2 = b → Wh n h (a, b) = z → at4 (Wh n h) X 0 = z := fun p q r => by rw [← r, ← p, ← q]; rfl
  have E1 : ∀ {a b : Int} {z : Option Bool}, X.1 = a → X.2 + 1 = b → Wh n h (a, b) = z → at4 (Wh n h) X 1 = z := fun p q r => by rw [← r, ← p, ← q]; rfl
  have E2 : ∀ {a b : Int} {z : Option Bool}, X.1 + 1 = a → X.2 = b → Wh n h (a, b) = z → at4 (Wh n h) X 2 = z := fun p q r => by rw [← r, ← p, ← q]; rfl
  have E3 : ∀ {a b : Int} {z : Option Bool}, X.1 = a → X.2 - 1 = b → Wh n h (a, b) = z → at4 (Wh n h) X 3 = z := fun p q r => by rw [← r, ← p, ← q]; rfl
  rcases (show i = 0 ∨ i = n ∨ (0 < i ∧ i < n) by omega) with ki | ki | ki
  · have z0 : at4 (Wh n h) X 0 = none := ed_no (by simp [Sid, edg]; omega)
    rcases (show j = 0 ∨ j = n ∨ (0 < j ∧ j < n) by omega) with kj | kj | kj
    · have z3 : at4 (Wh n h) X 3 = none := ed_no (by simp [Sid, edg]; omega)
      exact okc_two (i := 3) z3 z0 (E1 (by omega) rfl (v.cU (t := 0) (by omega) (by omega) (by omega))) (E2 rfl (by omega) (v.cL (r := 0) (by omega) (by omega) (by omega))) (by decide)
    · have z1 : at4 (Wh n h) X 1 = none := ed_no (by simp [Sid, edg]; omega)
      exact okc_two (i := 0) z0 z1 (E2 rfl rfl (v.cR (r := 0) (by omega) (by omega) (by omega) (by omega))) (E3 (by omega) rfl (v.cU (t := n - 1) (by omega) (by omega) (by omega))) (dec_ne (by omega))
    · exact okc_one (i := 0) z0 (E1 (by omega) rfl (v.cU (t := j) (by omega) (by omega) (by omega))) (ed2 e1 e2 on' (by omega)) (E3 (by omega) rfl (v.cU (t := j - 1) (by omega) (by omega) (by omega))) (dec_ne (by omega))
  · have z2 : at4 (Wh n h) X 2 = none := ed_no (by simp [Sid, edg]; omega)
    rcases (show j = 0 ∨ j = n ∨ (0 < j ∧ j < n) by omega) with kj | kj | kj
    · have z3 : at4 (Wh n h) X 3 = none := ed_no (by simp [Sid, edg]; omega)
      exact okc_two (i := 2) z2 z3 (E0 rfl (by omega) (v.cL (r := n - 1) (by omega) (by omega) (by omega))) (E1 rfl rfl (v.cD (c := 0) (by omega) (by omega) (by omega) (by omega))) (dec_ne (by omega))
    · have z1 : at4 (Wh n h) X 1 = none := ed_no (by simp [Sid, edg]; omega)
      exact okc_two (i := 1) z1 z2 (E3 rfl rfl (v.cD (c := n - 1) (by omega) (by omega) (by omega) (by omega))) (E0 rfl rfl (v.cR (r := n - 1) (by omega) (by omega) (by omega) (by omega))) (dec_ne (by omega))
    · exact okc_one (i := 2) z2 (E3 rfl rfl (v.cD (c := j - 1) (by omega) (by omega) (by omega) (by omega))) (ed0 e1 e2 on' (by omega)) (E1 rfl rfl (v.cD (c := j) (by omega) (by omega) (by omega) (by omega))) (dec_ne (by omega))
  · rcases (show j = 0 ∨ j = n ∨ (0 < j ∧ j < n) by omega) with kj | kj | kj
    · have z3 : at4 (Wh n h) X 3 = none := ed_no (by simp [Sid, edg]; omega)
      exact okc_one (i := 3) z3 (E0 rfl (by omega) (v.cL (r := i - 1) (by omega) (by omega) (by omega))) (ed1 e1 e2 on' (by omega)) (E2 rfl (by omega) (v.cL (r := i) (by omega) (by omega) (by omega))) (dec_ne (by omega))
    · have z1 : at4 (Wh n h) X 1 = none := ed_no (by simp [Sid, edg]; omega)
      exact okc_one (i := 1) z1 (E2 rfl rfl (v.cR (r := i) (by omega) (by omega) (by omega) (by omega))) (ed3 e1 e2 on' (by omega)) (E0 rfl rfl (v.cR (r := i - 1) (by omega) (by omega) (by omega) (by omega))) (dec_ne (by omega))
    · unfold okc allS
      rw [isome (ed0 e1 e2 on' (by omega)), isome (ed1 e1 e2 on' (by omega)), isome (ed2 e1 e2 on' (by omega)), isome (ed3 e1 e2 on' (by omega))]
      rfl
theorem HV.flo (v : HV n h) : Flo n (Wh n h) := ⟨fun s => by
  by_cases k : Sid n s
  · rw [Wh_yes k]; exact ⟨fun _ => k, fun _ => rfl⟩
  · rw [Wh_no k]; exact ⟨fun z => (by cases z), fun z => absurd z k⟩, fun p ins => v.two ins, fun X a b c => v.okx a b c⟩
theorem HV.half (v : HV n h) (dk : Bool) : Half n (par dk) (Wh n h) (Wh n (GY.ht n dk h)) := by
  intro X s on
  obtain ⟨s1, s2⟩ := s
  have pd := par01 dk
  obtain ⟨i, e1⟩ : ∃ i : Int, X.1 = 2 * i := ⟨X.1 / 2, by omega⟩
  obtain ⟨j, e2⟩ : ∃ j : Int, X.2 = 2 * j := ⟨X.2 / 2, by omega⟩
  have on' := on
  obtain ⟨o1, o2, o3, o4⟩ := on
  have pij : (i + j) % 2 = par dk := by omega
  have far : ∀ a b : Int, (a + b) % 2 ≠ (i + j) % 2 → GY.ht n dk h a b = h a b := fun a b k => ht_no fun z => k (by rw [z.2.2.2.2, pij])
  have n0 := far (i - 1) j (by omega)
  have n1 := far i (j + 1) (by omega)
  have n2 := far (i + 1) j (by omega)
  have n3 := far i (j - 1) (by omega)
  by_cases k : 0 < i ∧ i < n ∧ 0 < j ∧ j < n
  · obtain ⟨k1, k2, k3, k4⟩ := k
    rw [← mk4_e (at4 (Wh n (GY.ht n dk h)) X), ← mk4_e (at4 (Wh n h) X), ed0 e1 e2 on' k1, ed1 e1 e2 on' k4, ed2 e1 e2 on' k2, ed3 e1 e2 on' k3, ed0 e1 e2 on' k1, ed1 e1 e2 on' k4, ed2 e1 e2 on' k2, ed3 e1 e2 on' k3, n0, n1, n2, n3]
    have q0 := v.ver (i - 1) j (by omega) (by omega) (by omega) (by omega)
    have q1 := v.hor i j (by omega) (by omega) (by omega) (by omega)
    have q2 := v.ver i j (by omega) (by omega) (by omega) (by omega)
    have q3 := v.hor i (j - 1) (by omega) (by omega) (by omega) (by omega)
    rw [show i - 1 + 1 = i by omega] at q0
    rw [show j - 1 + 1 = j by omega] at q3
    refine flp_alg (by omega) q1 q2 (by omega) ?_
    by_cases l : lvl h i j = true
    · refine .inl ⟨lvl_iff.mp l, ?_⟩
      unfold GY.ht
      rw [if_pos ⟨⟨by omega, by omega, by omega, by omega, pij⟩, l⟩]
    · refine .inr ⟨fun z => l (lvl_iff.mpr z), ?_⟩
      unfold GY.ht
      rw [if_neg fun z => l z.2]
  · have n4 : GY.ht n dk h i j = h i j := ht_no fun z => by obtain ⟨z1, z2, z3, z4, _⟩ := z; omega
    have same : at4 (Wh n (GY.ht n dk h)) X = at4 (Wh n h) X := by
      refine funext (fin4 ?_ ?_ ?_ ?_)
      · by_cases c : 0 < i
        · rw [ed0 e1 e2 on' c, ed0 e1 e2 on' c, n0, n4]
        · rw [ed_no (by simp [Sid, edg]; omega), ed_no (by simp [Sid, edg]; omega)]
      · by_cases c : j < n
        · rw [ed1 e1 e2 on' c, ed1 e1 e2 on' c, n1, n4]
        · rw [ed_no (by simp [Sid, edg]; omega), ed_no (by simp [Sid, edg]; omega)]
      · by_cases c : i < n
        · rw [ed2 e1 e2 on' c, ed2 e1 e2 on' c, n2, n4]
        · rw [ed_no (by simp [Sid, edg]; omega), ed_no (by simp [Sid, edg]; omega)]
      · by_cases c : 0 < j
        · rw [ed3 e1 e2 on' c, ed3 e1 e2 on' c, n3, n4]
        · rw [ed_no (by simp [Sid, edg]; omega), ed_no (by simp [Sid, edg]; omega)]
    rw [same]
    have nf : flips (at4 (Wh n h) X) = false := by
      have no : ∃ t, at4 (Wh n h) X t = none := by
        rcases (show ¬ 0 < i ∨ ¬ i < n ∨ ¬ 0 < j ∨ ¬ j < n by omega) with c | c | c | c
        · exact ⟨0, ed_no (by simp [Sid, edg]; omega)⟩
        · exact ⟨2, ed_no (by simp [Sid, edg]; omega)⟩
        · exact ⟨3, ed_no (by simp [Sid, edg]; omega)⟩
        · exact ⟨1, ed_no (by simp [Sid, edg]; omega)⟩
      obtain ⟨t, hno⟩ := no
      cases hf : flips (at4 (Wh n h) X) with
      | false => rfl
      | true =>
        unfold flips allS at hf
        simp only [Bool.and_eq_true] at hf
        have := fin4 (P := fun t => (at4 (Wh n h) X t).isSome = true) hf.1.1 hf.1.2.1 hf.1.2.2.1 hf.1.2.2.2 t
        rw [hno] at this
        cases this
    unfold flp
    rw [nf]
    rfl
end
/-! ### roads, numbered around -/
def sidP (n : Nat) (k : Int) : Ps := if k < n then (0, 2 * k + 1) else if k < 2 * n then (2 * (k - n) + 1, 2 * n) else if k < 3 * n then (2 * n, 2 * (3 * n - 1 - k) + 1) else (2 * (4 * n - 1 - k) + 1, 0)
def outP (n : Nat) (k : Int) : Ps := if k < n then (-1, 2 * k + 1) else if k < 2 * n then (2 * (k - n) + 1, 2 * n + 1) else if k < 3 * n then (2 * n + 1, 2 * (3 * n - 1 - k) + 1) else (2 * (4 * n - 1 - k) + 1, -1)
/-- the first place of a road -/
def insP (n : Nat) (k : Int) : Ps := if k < n then (1, 2 * k + 1) else if k < 2 * n then (2 * (k - n) + 1, 2 * n - 1) else if k < 3 * n then (2 * n - 1, 2 * (3 * n - 1 - k) + 1) else (2 * (4 * n - 1 - k) + 1, 1)
section
variable {n : Nat} {k : Int}
theorem pU (h : k < n) : sidP n k = ((0, 2 * k + 1) : Ps) ∧ outP n k = ((-1, 2 * k + 1) : Ps) ∧ insP n k = ((1, 2 * k + 1) : Ps) := ⟨if_pos h, if_pos h, if_pos h⟩
theorem pR (h0 : (n : Int) ≤ k) (h : k < 2 * n) : sidP n k = ((2 * (k - n) + 1, 2 * n) : Ps) ∧ outP n k = ((2 * (k - n) + 1, 2 * n + 1) : Ps) ∧ insP n k = ((2 * (k - n) + 1, 2 * n - 1) : Ps) := ⟨(if_neg (show ¬ k < (n : Int) by omega)).trans (if_pos h), (if_neg (show ¬ k < (n : Int) by omega)).trans (if_pos h), (if_neg (show ¬ k < (n : Int) by omega)).trans (if_pos h)⟩
theorem pD (h0 : 2 * (n : Int) ≤ k) (h : k < 3 * n) : sidP n k = ((2 * n, 2 * (3 * n - 1 - k) + 1) : Ps) ∧ outP n k = ((2 * n + 1, 2 * (3 * n - 1 - k) + 1) : Ps) ∧ insP n k = ((2 * n - 1, 2 * (3 * n - 1 - k) + 1) : Ps) := ⟨((if_neg (show ¬ k < (n : Int) by omega)).trans (if_neg (show ¬ k < 2 * (n : Int) by omega))).trans (if_pos h), ((if_neg (show ¬ k < (n : Int) by omega)).trans (if_neg (show ¬ k < 2 * (n : Int) by omega))).trans (if_pos h), ((if_neg (show ¬ k < (n : Int) by omega)).trans (if_neg (show ¬ k < 2 * (n : Int) by omega))).trans (if_pos h)⟩
theorem pL (h0 : 3 * (n : Int) ≤ k) : sidP n k = ((2 * (4 * n - 1 - k) + 1, 0) : Ps) ∧ outP n k = ((2 * (4 * n - 1 - k) + 1, -1) : Ps) ∧ insP n k = ((2 * (4 * n - 1 - k) + 1, 1) : Ps) := ⟨((if_neg (show ¬ k < (n : Int) by omega)).trans (if_neg (show ¬ k < 2 * (n : Int) by omega))).trans (if_neg (show ¬ k < 3 * (n : Int) by omega)), ((if_neg (show ¬ k < (n : Int) by omega)).trans (if_neg (show ¬ k < 2 * (n : Int) by omega))).trans (if_neg (show ¬ k < 3 * (n : Int) by omega)), ((if_neg (show ¬ k < (n : Int) by omega)).trans (if_neg (show ¬ k < 2 * (n : Int) by omega))).trans (if_neg (show ¬ k < 3 * (n : Int) by omega))⟩
theorem four (n : Nat) (k : Int) : k < n ∨ ((n : Int) ≤ k ∧ k < 2 * n) ∨ (2 * (n : Int) ≤ k ∧ k < 3 * n) ∨ 3 * (n : Int) ≤ k := by omega
theorem out_dir (n : Nat) (k : Int) : ∃ d, sd (outP n k) d = sidP n k ∧ nb (outP n k) d = insP n k := by
  rcases four n k with h | h | h | h
  · obtain ⟨a, b, c⟩ := pU h
    rw [a, b, c]
    exact ⟨2, ps_eq (by simp [dr]) (by simp [dr]), ps_eq (by simp [dr]) (by simp [dr])⟩
  · obtain ⟨a, b, c⟩ := pR h.1 h.2
    rw [a, b, c]
    exact ⟨3, ps_eq (by simp [dr]) (by simp [dr]; try omega), ps_eq (by simp [dr]) (by simp [dr]; try omega)⟩
  · obtain ⟨a, b, c⟩ := pD h.1 h.2
    rw [a, b, c]
    exact ⟨0, ps_eq (by simp [dr]; try omega) (by simp [dr]), ps_eq (by simp [dr]; try omega) (by simp [dr])⟩
  · obtain ⟨a, b, c⟩ := pL h
    rw [a, b, c]
    exact ⟨1, ps_eq (by simp [dr]) (by simp [dr]), ps_eq (by simp [dr]) (by simp [dr])⟩
theorem road_ok (hn : 1 ≤ n) (h0 : 0 ≤ k) (h1 : k < 4 * n) : Sid n (sidP n k) ∧ Out n (outP n k) ∧ Ins n (insP n k) := by
  have A : Sid n (sidP n k) ∧ (Od (outP n k) ∧ ¬ Ins n (outP n k)) ∧ Ins n (insP n k) := by
    rcases four n k with h | h | h | h
    · obtain ⟨a, b, c⟩ := pU h
      rw [a, b, c]
      simp [Sid, Od, Ins]
      omega
    · obtain ⟨a, b, c⟩ := pR h.1 h.2
      rw [a, b, c]
      simp [Sid, Od, Ins]
      omega
    · obtain ⟨a, b, c⟩ := pD h.1 h.2
      rw [a, b, c]
      simp [Sid, Od, Ins]
      omega
    · obtain ⟨a, b, c⟩ := pL h
      rw [a, b, c]
      simp [Sid, Od, Ins]
      omega
  obtain ⟨d, e, _⟩ := out_dir n k
  exact ⟨A.1, ⟨A.2.1.1, A.2.1.2, d, by rw [e]; exact A.1⟩, A.2.2⟩
theorem HV.road_col {h : Int → Int → Int} (v : HV n h) (h0 : 0 ≤ k) (h1 : k < 4 * n) : Wh n h (sidP n k) = some (decide (k % 2 = 0)) := by
  have deq : ∀ {a b : Prop} [Decidable a] [Decidable b], (a ↔ b) → some (decide a) = some (decide b) := fun {a b} _ _ z => by
    by_cases x : b
    · rw [decide_eq_true x, decide_eq_true (z.mpr x)]
    · rw [decide_eq_false x, decide_eq_false fun y => x (z.mp y)]
  rcases four n k with a | a | a | a
  · rw [(pU a).1, v.cU rfl h0 a]
  · rw [(pR a.1 a.2).1, v.cR (r := k - n) rfl rfl (by omega) (by omega)]
    exact deq (by omega)
  · rw [(pD a.1 a.2).1, v.cD (c := 3 * n - 1 - k) rfl rfl (by omega) (by omega)]
    exact deq (by omega)
  · rw [(pL a).1, v.cL (r := 4 * n - 1 - k) rfl (by omega) (by omega)]
    exact deq (by omega)
/-- the point between two roads -/
theorem rim_pt (hn : 1 ≤ n) (h0 : 0 ≤ k) (h1 : k < 4 * n) : ∃ (X : Ps) (i j : Fin 4), Sh ((k + 1) % 2) X ∧ OnF n X ∧ cor X i = outP n k ∧ cor X j = outP n ((k + 1) % (4 * n)) ∧ j ≠ i ∧ edg X (i + 3) = sidP n k ∧ edg X j = sidP n ((k + 1) % (4 * n)) := by
  have md : k + 1 < 4 * n → (k + 1) % (4 * (n : Int)) = k + 1 := fun z => Int.emod_eq_of_lt (by omega) z
  have go : ∀ (X : Ps) (i j : Fin 4) (a b c d : Ps), outP n k = a → sidP n k = b → outP n ((k + 1) % (4 * n)) = c → sidP n ((k + 1) % (4 * n)) = d → Sh ((k + 1) % 2) X → OnF n X → j ≠ i → cor X i = a → edg X (i + 3) = b → cor X j = c → edg X j = d →
      ∃ (X : Ps) (i j : Fin 4), Sh ((k + 1) % 2) X ∧ OnF n X ∧ cor X i = outP n k ∧ cor X j = outP n ((k + 1) % (4 * n)) ∧ j ≠ i ∧ edg X (i + 3) = sidP n k ∧ edg X j = sidP n ((k + 1) % (4 * n)) :=
    fun X i j a b c d e1 e2 e3 e4 s on ne f1 f2 f3 f4 => ⟨X, i, j, s, on, f1.trans e1.symm, f3.trans e3.symm, ne, f2.trans e2.symm, f4.trans e4.symm⟩
  rcases four n k with a | a | a | a
  · obtain ⟨b1, b2, _⟩ := pU a
    have m := md (by omega)
    by_cases c : k + 1 < n
    · obtain ⟨c1, c2, _⟩ := pU c
      refine go (0, 2 * (k + 1)) 0 1 _ _ _ _ b2 b1 ((congrArg (outP n) m).trans c2) ((congrArg (sidP n) m).trans c1) ⟨by simp, by simp; try omega⟩ ⟨by simp, by simp; try omega, by simp; try omega, by simp; try omega⟩ (by decide) ?_ ?_ ?_ ?_ <;> exact ps_eq (by simp; try omega) (by simp; try omega)
    · obtain ⟨c1, c2, _⟩ := pR (n := n) (k := k + 1) (by omega) (by omega)
      refine go (0, 2 * n) 0 2 _ _ _ _ b2 b1 ((congrArg (outP n) m).trans c2) ((congrArg (sidP n) m).trans c1) ⟨by simp, by simp; try omega⟩ ⟨by simp, by simp; try omega, by simp; try omega, by simp; try omega⟩ (by decide) ?_ ?_ ?_ ?_ <;> exact ps_eq (by simp; try omega) (by simp; try omega)
  · obtain ⟨b1, b2, _⟩ := pR a.1 a.2
    have m := md (by omega)
    by_cases c : k + 1 < 2 * n
    · obtain ⟨c1, c2, _⟩ := pR (n := n) (k := k + 1) (by omega) c
      refine go (2 * (k - n + 1), 2 * n) 1 2 _ _ _ _ b2 b1 ((congrArg (outP n) m).trans c2) ((congrArg (sidP n) m).trans c1) ⟨by simp, by simp; try omega⟩ ⟨by simp; try omega, by simp; try omega, by simp; try omega, by simp⟩ (by decide) ?_ ?_ ?_ ?_ <;> exact ps_eq (by simp; try omega) (by simp; try omega)
    · obtain ⟨c1, c2, _⟩ := pD (n := n) (k := k + 1) (by omega) (by omega)
      refine go (2 * n, 2 * n) 1 3 _ _ _ _ b2 b1 ((congrArg (outP n) m).trans c2) ((congrArg (sidP n) m).trans c1) ⟨by simp, by simp; try omega⟩ ⟨by simp; try omega, by simp, by simp; try omega, by simp⟩ (by decide) ?_ ?_ ?_ ?_ <;> exact ps_eq (by simp; try omega) (by simp; try omega)
  · obtain ⟨b1, b2, _⟩ := pD a.1 a.2
    have m := md (by omega)
    by_cases c : k + 1 < 3 * n
    · obtain ⟨c1, c2, _⟩ := pD (n := n) (k := k + 1) (by omega) c
      refine go (2 * n, 2 * (3 * n - 1 - k)) 2 3 _ _ _ _ b2 b1 ((congrArg (outP n) m).trans c2) ((congrArg (sidP n) m).trans c1) ⟨by simp, by simp; try omega⟩ ⟨by simp; try omega, by simp, by simp; try omega, by simp; try omega⟩ (by decide) ?_ ?_ ?_ ?_ <;> exact ps_eq (by simp; try omega) (by simp; try omega)
    · obtain ⟨c1, c2, _⟩ := pL (n := n) (k := k + 1) (by omega)
      refine go (2 * n, 0) 2 0 _ _ _ _ b2 b1 ((congrArg (outP n) m).trans c2) ((congrArg (sidP n) m).trans c1) ⟨by simp, by simp; try omega⟩ ⟨by simp; try omega, by simp, by simp, by simp; try omega⟩ (by decide) ?_ ?_ ?_ ?_ <;> exact ps_eq (by simp; try omega) (by simp; try omega)
  · obtain ⟨b1, b2, _⟩ := pL a
    by_cases c : k + 1 < 4 * n
    · have m := md (by omega)
      obtain ⟨c1, c2, _⟩ := pL (n := n) (k := k + 1) (by omega)
      refine go (2 * (4 * n - 1 - k), 0) 3 0 _ _ _ _ b2 b1 ((congrArg (outP n) m).trans c2) ((congrArg (sidP n) m).trans c1) ⟨by simp, by simp; try omega⟩ ⟨by simp; try omega, by simp; try omega, by simp, by simp; try omega⟩ (by decide) ?_ ?_ ?_ ?_ <;> exact ps_eq (by simp; try omega) (by simp; try omega)
    · have m : (k + 1) % (4 * (n : Int)) = 0 := by rw [show k + 1 = 4 * (n : Int) by omega, Int.emod_self]
      obtain ⟨c1, c2, _⟩ := pU (n := n) (k := 0) (by omega)
      refine go (0, 0) 3 1 _ _ _ _ b2 b1 ((congrArg (outP n) m).trans c2) ((congrArg (sidP n) m).trans c1) ⟨by simp, by simp; try omega⟩ ⟨by simp, by simp; try omega, by simp, by simp; try omega⟩ (by decide) ?_ ?_ ?_ ?_ <;> exact ps_eq (by simp; try omega) (by simp; try omega)
end
end GY
end
section
set_option linter.all false
set_option maxRecDepth 100000
set_option maxHeartbeats 4000000
/-! links behind half turns; ways walked -/
namespace GY
section
variable {n : Nat} {h : Int → Int → Int} {dk : Bool} {k k2 : Int} {c : Bool}
theorem md_sub {L k : Int} (h0 : 0 ≤ k) (h1 : k < L) : (k = 0 ∧ (k - 1) % L = L - 1) ∨ (0 < k ∧ (k - 1) % L = k - 1) := by
  by_cases z : k = 0
  · refine .inl ⟨z, ?_⟩
    rw [z, ← Int.add_emod_right, Int.emod_eq_of_lt] <;> omega
  · refine .inr ⟨by omega, ?_⟩
    rw [Int.emod_eq_of_lt] <;> omega
theorem md_add {L k : Int} (h0 : 0 ≤ k) (h1 : k < L) : (k + 1 = L ∧ (k + 1) % L = 0) ∨ (k + 1 < L ∧ (k + 1) % L = k + 1) := by
  by_cases z : k + 1 = L
  · exact .inl ⟨z, by rw [z, Int.emod_self]⟩
  · refine .inr ⟨by omega, ?_⟩
    rw [Int.emod_eq_of_lt] <;> omega
theorem repA (v : HV n h) (h0 : 0 ≤ k) (h1 : k < 4 * n) (hp : (k + 1) % 2 = par dk) (hc : c = decide (k % 2 = 0)) :
    Rep n (par dk) (Wh n h) c (outP n k) (outP n ((k + 1) % (4 * n))) ∧ ∀ u, Rep n (par dk) (Wh n h) c (outP n k) u → u = outP n ((k + 1) % (4 * n)) := by
  obtain ⟨X, i, j, s, on, e1, e2, ne, e3, e4⟩ := rim_pt v.pos h0 h1
  have k0 : 0 ≤ (k + 1) % (4 * (n : Int)) := Int.emod_nonneg _ (by have := v.pos; omega)
  have k1 : (k + 1) % (4 * (n : Int)) < 4 * n := Int.emod_lt_of_pos _ (by have := v.pos; omega)
  obtain ⟨a1, a2, _⟩ := road_ok v.pos h0 h1
  obtain ⟨b1, b2, _⟩ := road_ok v.pos k0 k1
  rw [hp] at s
  rw [← e1, ← e2]
  refine out_rep v.flo s on (out_isO v.flo s (by rw [e1]; exact a2) (.inr (by rw [e3]; exact a1))) (out_isO v.flo s (by rw [e2]; exact b2) (.inl (by rw [e4]; exact b1))) ne (hasC_iff.mpr (.inr ?_))
  show Wh n h (edg X (i + 3)) = some c
  rw [e3, v.road_col h0 h1, hc]
theorem repB (v : HV n h) (h0 : 0 ≤ k) (h1 : k < 4 * n) (hp : k % 2 = par dk) (hc : c = decide (k % 2 = 0)) :
    Rep n (par dk) (Wh n h) c (outP n k) (outP n ((k - 1) % (4 * n))) ∧ ∀ u, Rep n (par dk) (Wh n h) c (outP n k) u → u = outP n ((k - 1) % (4 * n)) := by
  have k0 : 0 ≤ (k - 1) % (4 * (n : Int)) := Int.emod_nonneg _ (by have := v.pos; omega)
  have k1 : (k - 1) % (4 * (n : Int)) < 4 * n := Int.emod_lt_of_pos _ (by have := v.pos; omega)
  have kb : ((k - 1) % (4 * (n : Int)) + 1) % (4 * (n : Int)) = k := by
    rw [Int.emod_add_emod, show k - 1 + 1 = k by omega]
    exact Int.emod_eq_of_lt h0 h1
  have kp : ((k - 1) % (4 * (n : Int)) + 1) % 2 = par dk := by
    have := md_sub h0 h1
    omega
  obtain ⟨X, i, j, s, on, e1, e2, ne, e3, e4⟩ := rim_pt v.pos k0 k1
  rw [kb] at e2 e4
  obtain ⟨a1, a2, _⟩ := road_ok v.pos h0 h1
  obtain ⟨b1, b2, _⟩ := road_ok v.pos k0 k1
  rw [kp] at s
  rw [← e1, ← e2]
  refine out_rep v.flo s on (out_isO v.flo s (by rw [e2]; exact a2) (.inl (by rw [e4]; exact a1))) (out_isO v.flo s (by rw [e1]; exact b2) (.inr (by rw [e3]; exact b1))) (Ne.symm ne) (hasC_iff.mpr (.inl ?_))
  show Wh n h (edg X j) = some c
  rw [e4, v.road_col h0 h1, hc]
theorem linkA (v : HV n h) (h0 : 0 ≤ k) (h1 : k < 4 * n) (h2 : 0 ≤ k2) (h3 : k2 < 4 * n) (e : k2 % 2 = k % 2) (hp : (k + 1) % 2 = par dk) (hc : c = decide (k % 2 = 0)) (cn : Conn (Wh n h) c (outP n k) (outP n k2)) :
    Conn (Wh n (ht n dk h)) (!c) (outP n ((k + 1) % (4 * n))) (outP n ((k2 + 1) % (4 * n))) := by
  obtain ⟨u, r, g⟩ := conn_rep (par01 dk) v.flo (v.half dk) (road_ok v.pos h0 h1).2.1.1 cn (repA v h0 h1 hp hc).1
  rw [(repA v h2 h3 (by omega) (by rw [hc, e])).2 u r] at g
  exact g
theorem linkB (v : HV n h) (h0 : 0 ≤ k) (h1 : k < 4 * n) (h2 : 0 ≤ k2) (h3 : k2 < 4 * n) (e : k2 % 2 = k % 2) (hp : k % 2 = par dk) (hc : c = decide (k % 2 = 0)) (cn : Conn (Wh n h) c (outP n k) (outP n k2)) :
    Conn (Wh n (ht n dk h)) (!c) (outP n ((k - 1) % (4 * n))) (outP n ((k2 - 1) % (4 * n))) := by
  obtain ⟨u, r, g⟩ := conn_rep (par01 dk) v.flo (v.half dk) (road_ok v.pos h0 h1).2.1.1 cn (repB v h0 h1 hp hc).1
  rw [(repB v h2 h3 (by omega) (by rw [hc, e])).2 u r] at g
  exact g
def btc (c : Bool) : Int := if c = true then 0 else 1
/-- the links of a colour, its roads numbered for themselves -/
def Lk (n : Nat) (W : Col) (c : Bool) (k j : Int) : Prop := 0 ≤ j ∧ j < 2 * n ∧ j ≠ k ∧ Conn W c (outP n (2 * k + btc c)) (outP n (2 * j + btc c))
theorem Lk.open (v : HV n h) (h0 : 0 ≤ k) (h1 : k < 2 * n) (l : Lk n (Wh n h) true k k2) : Lk n (Wh n (ht n true (ht n false h))) true ((k - 1) % (2 * n)) ((k2 - 1) % (2 * n)) := by
  obtain ⟨l0, l1, l2, l3⟩ := l
  have b : btc true = 0 := rfl
  have p0 : par false = 0 := rfl
  have p1 : par true = 1 := rfl
  rw [b, Int.add_zero, Int.add_zero] at l3
  have c1 := linkB (dk := false) v (k := 2 * k) (k2 := 2 * k2) (by omega) (by omega) (by omega) (by omega) (by omega) (by omega) (by rw [decide_eq_true (by omega)]) l3
  have ek := md_sub (L := 4 * n) (k := 2 * k) (by omega) (by omega)
  have ej := md_sub (L := 4 * n) (k := 2 * k2) (by omega) (by omega)
  have ek' := md_sub (L := 2 * n) h0 h1
  have ej' := md_sub (L := 2 * n) l0 l1
  generalize ea : (2 * k - 1) % (4 * (n : Int)) = a at *
  generalize eb : (2 * k2 - 1) % (4 * (n : Int)) = a' at *
  have c2 := linkB (dk := true) (v.ht false) (k := a) (k2 := a') (by omega) (by omega) (by omega) (by omega) (by omega) (by omega) (c := !true) (by rw [decide_eq_false (by omega)]; rfl) c1
  have fk := md_sub (L := 4 * n) (k := a) (by omega) (by omega)
  have fj := md_sub (L := 4 * n) (k := a') (by omega) (by omega)
  rw [show (a - 1) % (4 * (n : Int)) = 2 * ((k - 1) % (2 * n)) by omega, show (a' - 1) % (4 * (n : Int)) = 2 * ((k2 - 1) % (2 * n)) by omega] at c2
  refine ⟨by omega, by omega, by omega, ?_⟩
  rw [b, Int.add_zero, Int.add_zero]
  exact c2
theorem Lk.shut (v : HV n h) (h0 : 0 ≤ k) (h1 : k < 2 * n) (l : Lk n (Wh n h) false k k2) : Lk n (Wh n (ht n true (ht n false h))) false ((k + 1) % (2 * n)) ((k2 + 1) % (2 * n)) := by
  obtain ⟨l0, l1, l2, l3⟩ := l
  have b : btc false = 1 := rfl
  have p0 : par false = 0 := rfl
  have p1 : par true = 1 := rfl
  rw [b] at l3
  have c1 := linkA (dk := false) v (k := 2 * k + 1) (k2 := 2 * k2 + 1) (by omega) (by omega) (by omega) (by omega) (by omega) (by omega) (by rw [decide_eq_false (by omega)]) l3
  have ek := md_add (L := 4 * n) (k := 2 * k + 1) (by omega) (by omega)
  have ej := md_add (L := 4 * n) (k := 2 * k2 + 1) (by omega) (by omega)
  have ek' := md_add (L := 2 * n) h0 h1
  have ej' := md_add (L := 2 * n) l0 l1
  generalize ea : (2 * k + 1 + 1) % (4 * (n : Int)) = a at *
  generalize eb : (2 * k2 + 1 + 1) % (4 * (n : Int)) = a' at *
  have c2 := linkA (dk := true) (v.ht false) (k := a) (k2 := a') (by omega) (by omega) (by omega) (by omega) (by omega) (by omega) (c := !false) (by rw [decide_eq_true (by omega)]; rfl) c1
  have fk := md_add (L := 4 * n) (k := a) (by omega) (by omega)
  have fj := md_add (L := 4 * n) (k := a') (by omega) (by omega)
  rw [show (a + 1) % (4 * (n : Int)) = 2 * ((k + 1) % (2 * n)) + 1 by omega, show (a' + 1) % (4 * (n : Int)) = 2 * ((k2 + 1) % (2 * n)) + 1 by omega] at c2
  refine ⟨by omega, by omega, by omega, ?_⟩
  rw [b]
  exact c2
end
/-! ### ways walked -/
structure Sq (W : Col) (c : Bool) (Q T : Nat → Ps) (k : Nat) : Prop where
  st : ∀ i, i < k → ∃ d, T i = sd (Q i) d ∧ Q (i + 1) = nb (Q i) d ∧ W (T i) = some c
  two : ∀ i, i + 1 < k → T (i + 1) ≠ T i ∧ ∀ d, W (sd (Q (i + 1)) d) = some c → sd (Q (i + 1)) d = T i ∨ sd (Q (i + 1)) d = T (i + 1)
section
variable {W : Col} {c : Bool} {Q T : Nat → Ps} {k : Nat} {n : Nat}
theorem fin_e {d d' : Fin 4} (h : d + 2 = d' + 2) : d = d' := by
  have := congrArg (· + 2) h
  simpa [fin_d] using this
/-- the way back -/
theorem Sq.back (s : Sq W c Q T k) {i : Nat} (h : i < k) : ∃ d, T i = sd (Q (i + 1)) d ∧ Q i = nb (Q (i + 1)) d := by
  obtain ⟨d, h1, h2, _⟩ := s.st i h
  exact ⟨d + 2, by rw [h2, sd_nb]; exact h1, by rw [h2, nb_nb]⟩
theorem Sq.at (s : Sq W c Q T k) {i : Nat} (h : i < k) {d : Fin 4} (e : sd (Q i) d = T i) : nb (Q i) d = Q (i + 1) := by
  obtain ⟨d', h1, h2, _⟩ := s.st i h
  rw [h1] at e
  rw [sd_inj _ e, h2]
theorem Sq.at' (s : Sq W c Q T k) {i : Nat} (h : i < k) {d : Fin 4} (e : sd (Q (i + 1)) d = T i) : nb (Q (i + 1)) d = Q i := by
  obtain ⟨d', h1, h2⟩ := s.back h
  rw [h1] at e
  rw [sd_inj _ e, ← h2]
theorem Sq.rep (s : Sq W c Q T k) {i j : Nat} (hj : j ≤ k) (ij : i < j) (ds : ∀ a b, a < j → b < j → Q a = Q b → a = b) (e : Q i = Q j) : i = 0 := by
  cases i with
  | zero => rfl
  | succ i =>
    exfalso
    obtain ⟨j, rfl⟩ : ∃ j', j = j' + 1 := ⟨j - 1, by omega⟩
    obtain ⟨d, h1, h2⟩ := s.back (i := j) (by omega)
    have hw : W (sd (Q (i + 1)) d) = some c := by
      obtain ⟨_, _, _, hw⟩ := s.st j (by omega)
      rw [e, ← h1]
      exact hw
    rcases (s.two i (by omega)).2 d hw with z | z
    · have := s.at' (i := i) (by omega) z
      rw [e, ← h2] at this
      have := ds _ _ (by omega) (by omega) this
      omega
    · have t := s.at (i := i + 1) (by omega) z
      rw [e, ← h2] at t
      by_cases l : i + 1 + 1 < j + 1
      · have u := ds _ _ (by omega) l t
        rw [e, ← h1, u] at z
        exact (s.two (i + 1) (by omega)).1 z
      · have : i + 1 = j := by omega
        rw [this] at e
        obtain ⟨d', _, h3, _⟩ := s.st j (by omega)
        rw [h3] at e
        exact nb_ne _ _ e.symm
/-- a way from an outer end: its places are different ones -/
theorem Sq.dist (s : Sq W c Q T k) (h0 : ∀ i, 0 < i → i ≤ k → Q i ≠ Q 0) : ∀ j, j ≤ k + 1 → ∀ a b, a < j → b < j → Q a = Q b → a = b
  | 0, _, a, _, ha, _, _ => absurd ha (Nat.not_lt_zero a)
  | j + 1, hj, a, b, ha, hb, e => by
    have ih := Sq.dist s h0 j (by omega)
    have key : ∀ i, i < j → Q i = Q j → False := fun i hi e => by
      have := s.rep (by omega) hi ih e
      rw [this] at e
      exact h0 j (by omega) (by omega) e.symm
    rcases Nat.lt_or_ge a j with a1 | a1
    · rcases Nat.lt_or_ge b j with b1 | b1
      · exact ih a b a1 b1 e
      · have : b = j := by omega
        rw [this] at e
        exact (key a a1 e).elim
    · have : a = j := by omega
      rw [this] at e ⊢
      rcases Nat.lt_or_ge b j with b1 | b1
      · exact (key b b1 e.symm).elim
      · omega
theorem Sq.conn (s : Sq W c Q T k) : ∀ i, i ≤ k → Conn W c (Q 0) (Q i)
  | 0, _ => .refl
  | i + 1, h => by
    obtain ⟨d, h1, h2, h3⟩ := s.st i (by omega)
    exact .step (Sq.conn s i (by omega)) ⟨d, by rw [← h1]; exact h3, h2⟩
end
theorem least {P : Nat → Prop} : ∀ N : Nat, P N → ∃ m, m ≤ N ∧ P m ∧ ∀ j, j < m → ¬ P j := fun N => by
  induction N using Nat.strongRecOn with
  | ind N ih =>
    intro h
    by_cases z : ∃ j, j < N ∧ P j
    · obtain ⟨j, h1, h2⟩ := z
      obtain ⟨m, a, b, d⟩ := ih j h1 h2
      exact ⟨m, by omega, b, d⟩
    · exact ⟨N, Nat.le_refl _, h, fun j hj p => z ⟨j, hj, p⟩⟩
/-! the next step -/
def okD (W : Col) (c : Bool) (came : Option Ps) (p : Ps) (d : Fin 4) : Bool := !decide (came = some (sd p d)) && W (sd p d) == some c
def nxt (W : Col) (c : Bool) (came : Option Ps) (p : Ps) : Option Ps × Ps :=
  if okD W c came p 0 = true then (some (sd p 0), nb p 0) else if okD W c came p 1 = true then (some (sd p 1), nb p 1) else if okD W c came p 2 = true then (some (sd p 2), nb p 2) else if okD W c came p 3 = true then (some (sd p 3), nb p 3) else (came, p)
section
variable {W : Col} {c : Bool} {p : Ps} {came : Option Ps} {n : Nat}
theorem okD_iff {d : Fin 4} : okD W c came p d = true ↔ came ≠ some (sd p d) ∧ W (sd p d) = some c := by
  unfold okD
  rw [Bool.and_eq_true, beq_iff_eq]
  simp
theorem nxt_ok {d : Fin 4} (h : okD W c came p d = true) : ∃ d, okD W c came p d = true ∧ nxt W c came p = (some (sd p d), nb p d) := by
  unfold nxt
  by_cases h0 : okD W c came p 0 = true
  · rw [if_pos h0]; exact ⟨0, h0, rfl⟩
  by_cases h1 : okD W c came p 1 = true
  · rw [if_neg h0, if_pos h1]; exact ⟨1, h1, rfl⟩
  by_cases h2 : okD W c came p 2 = true
  · rw [if_neg h0, if_neg h1, if_pos h2]; exact ⟨2, h2, rfl⟩
  by_cases h3 : okD W c came p 3 = true
  · rw [if_neg h0, if_neg h1, if_neg h2, if_pos h3]; exact ⟨3, h3, rfl⟩
  · exact absurd h (fin4 (P := fun d => ¬ okD W c came p d = true) h0 h1 h2 h3 d)
theorem nxt_none (F : Flo n W) (ins : Ins n p) : ∃ d, W (sd p d) = some c ∧ nxt W c none p = (some (sd p d), nb p d) := by
  obtain ⟨d, hd⟩ := tt3 (F.two p ins) c
  obtain ⟨d', h1, h2⟩ := nxt_ok (W := W) (c := c) (came := none) (p := p) (okD_iff.mpr ⟨by simp, hd⟩)
  exact ⟨d', (okD_iff.mp h1).2, h2⟩
theorem nxt_some (F : Flo n W) (ins : Ins n p) {d : Fin 4} (h : W (sd p d) = some c) : ∃ d', d' ≠ d ∧ W (sd p d') = some c ∧ nxt W c (some (sd p d)) p = (some (sd p d'), nb p d') ∧ ∀ x, W (sd p x) = some c → x = d ∨ x = d' := by
  obtain ⟨y, h1, h2⟩ := tt2 (F.two p ins) h
  obtain ⟨d', h3, h4⟩ := nxt_ok (W := W) (c := c) (came := some (sd p d)) (p := p) (d := y) (okD_iff.mpr ⟨fun z => h1 (sd_inj p (Option.some.inj z)).symm, h2⟩)
  obtain ⟨h5, h6⟩ := okD_iff.mp h3
  have ne : d' ≠ d := fun z => h5 (by rw [z])
  exact ⟨d', ne, h6, h4, fun x hx => tt1 (F.two p ins) h h6 (Ne.symm ne) hx⟩
end
/-- step by step -/
def it (W : Col) (c : Bool) (came : Option Ps) (p : Ps) : Nat → Option Ps × Ps
  | 0 => (came, p)
  | i + 1 => nxt W c (it W c came p i).1 (it W c came p i).2
end GY
end
section
set_option linter.all false
set_option maxRecDepth 100000
set_option maxHeartbeats 4000000
/-! the ways of roads, of rings -/
namespace GY
theorem out_is {n : Nat} {p : Ps} (o : Od p) (ni : ¬ Ins n p) {d : Fin 4} (s : Sid n (sd p d)) : ∃ k : Int, 0 ≤ k ∧ k < 4 * n ∧ p = outP n k ∧ sd p d = sidP n k := by
  obtain ⟨a, b⟩ := p
  obtain ⟨o1, o2⟩ := o
  simp only [Ins, Od] at ni o1 o2
  match d, s with
  | 0, s =>
    simp [Sid, sd, dr] at s
    have e1 : a = 2 * n + 1 := by omega
    have r := pD (n := n) (k := 3 * n - 1 - (b - 1) / 2) (by omega) (by omega)
    refine ⟨3 * n - 1 - (b - 1) / 2, by omega, by omega, ?_, ?_⟩
    · rw [r.2.1]; exact ps_eq e1 (by omega)
    · rw [r.1]; exact ps_eq (by simp [dr]; omega) (by simp [dr]; omega)
  | 1, s =>
    simp [Sid, sd, dr] at s
    have e1 : b = -1 := by omega
    have r := pL (n := n) (k := 4 * n - 1 - (a - 1) / 2) (by omega)
    refine ⟨4 * n - 1 - (a - 1) / 2, by omega, by omega, ?_, ?_⟩
    · rw [r.2.1]; exact ps_eq (by omega) e1
    · rw [r.1]; exact ps_eq (by simp [dr]; omega) (by simp [dr]; omega)
  | 2, s =>
    simp [Sid, sd, dr] at s
    have e1 : a = -1 := by omega
    have r := pU (n := n) (k := (b - 1) / 2) (by omega)
    refine ⟨(b - 1) / 2, by omega, by omega, ?_, ?_⟩
    · rw [r.2.1]; exact ps_eq e1 (by omega)
    · rw [r.1]; exact ps_eq (by simp [dr]; omega) (by simp [dr]; omega)
  | 3, s =>
    simp [Sid, sd, dr] at s
    have e1 : b = 2 * n + 1 := by omega
    have r := pR (n := n) (k := n + (a - 1) / 2) (by omega) (by omega)
    refine ⟨n + (a - 1) / 2, by omega, by omega, ?_, ?_⟩
    · rw [r.2.1]; exact ps_eq (by omega) e1
    · rw [r.1]; exact ps_eq (by simp [dr]; omega) (by simp [dr]; omega)
section
variable {n : Nat} {W : Col} {c : Bool} {k : Int}
abbrev rX (n : Nat) (W : Col) (c : Bool) (k : Int) : Nat → Option Ps × Ps := it W c (some (sidP n k)) (insP n k)
def rQ (n : Nat) (W : Col) (c : Bool) (k : Int) : Nat → Ps
  | 0 => outP n k
  | i + 1 => (rX n W c k i).2
def rT (n : Nat) (W : Col) (c : Bool) (k : Int) (i : Nat) : Ps := ((rX n W c k i).1).getD (0, 0)
theorem road_st (F : Flo n W) (hc : W (sidP n k) = some c) {m : Nat} (hm : ∀ j, j < m → Ins n (rX n W c k j).2) : ∀ i, i ≤ m → ∃ d, (rX n W c k i).1 = some (sd (rQ n W c k i) d) ∧ rQ n W c k (i + 1) = nb (rQ n W c k i) d ∧ W (sd (rQ n W c k i) d) = some c
  | 0, _ => by
    obtain ⟨d, h1, h2⟩ := out_dir n k
    exact ⟨d, congrArg some h1.symm, h2.symm, by show W (sd (outP n k) d) = _; rw [h1]; exact hc⟩
  | i + 1, hi => by
    obtain ⟨d, h1, h2, h3⟩ := road_st F hc hm i (by omega)
    have ins : Ins n (rQ n W c k (i + 1)) := hm i (by omega)
    have e : sd (rQ n W c k (i + 1)) (d + 2) = sd (rQ n W c k i) d := by rw [h2, sd_nb]
    obtain ⟨d', _, h4, h5, _⟩ := nxt_some F ins (d := d + 2) (c := c) (by rw [e]; exact h3)
    have h6 : rX n W c k (i + 1) = (some (sd (rQ n W c k (i + 1)) d'), nb (rQ n W c k (i + 1)) d') := by
      show nxt W c (rX n W c k i).1 (rX n W c k i).2 = _
      rw [h1, ← e]
      exact h5
    exact ⟨d', congrArg Prod.fst h6, congrArg Prod.snd h6, h4⟩
theorem road_sq (F : Flo n W) (hc : W (sidP n k) = some c) {m : Nat} (hm : ∀ j, j < m → Ins n (rX n W c k j).2) : Sq W c (rQ n W c k) (rT n W c k) (m + 1) := by
  have tt : ∀ {i : Nat} {s : Ps}, (rX n W c k i).1 = some s → rT n W c k i = s := fun h => by unfold rT; rw [h]; rfl
  refine ⟨fun i hi => ?_, fun i hi => ?_⟩
  · obtain ⟨d, h1, h2, h3⟩ := road_st F hc hm i (by omega)
    exact ⟨d, tt h1, h2, by rw [tt h1]; exact h3⟩
  · obtain ⟨d, h1, h2, h3⟩ := road_st F hc hm i (by omega)
    have ins : Ins n (rQ n W c k (i + 1)) := hm i (by omega)
    have e : sd (rQ n W c k (i + 1)) (d + 2) = sd (rQ n W c k i) d := by rw [h2, sd_nb]
    obtain ⟨d', h7, h4, h5, h8⟩ := nxt_some F ins (d := d + 2) (c := c) (by rw [e]; exact h3)
    have h6 : rX n W c k (i + 1) = (some (sd (rQ n W c k (i + 1)) d'), nb (rQ n W c k (i + 1)) d') := by
      show nxt W c (rX n W c k i).1 (rX n W c k i).2 = _
      rw [h1, ← e]
      exact h5
    rw [tt h1, tt (congrArg Prod.fst h6)]
    refine ⟨fun z => h7 (sd_inj (rQ n W c k (i + 1)) (z.trans e.symm)), fun x hx => ?_⟩
    rcases h8 x hx with rfl | rfl
    · exact .inl e
    · exact .inr rfl
theorem road_ends (F : Flo n W) (hn : 1 ≤ n) (h0 : 0 ≤ k) (h1 : k < 4 * n) (hc : W (sidP n k) = some c) : ∃ m, m ≤ n * n ∧ ¬ Ins n (rX n W c k m).2 ∧ ∀ j, j < m → Ins n (rX n W c k j).2 := by
  by_cases z : ∃ m, m ≤ n * n ∧ ¬ Ins n (rX n W c k m).2
  · obtain ⟨N, z1, z2⟩ := z
    obtain ⟨m, a, b, d⟩ := least (P := fun m => ¬ Ins n (rX n W c k m).2) N z2
    exact ⟨m, by omega, b, fun j hj => Classical.not_not.mp (d j hj)⟩
  · exfalso
    have all : ∀ m, m ≤ n * n → Ins n (rX n W c k m).2 := fun m hm => Classical.not_not.mp fun y => z ⟨m, hm, y⟩
    have s := road_sq F hc (m := n * n) (fun j hj => all j (by omega))
    have o : ¬ Ins n (outP n k) := (road_ok hn h0 h1).2.1.2.1
    have ds := s.dist (fun i hi hk e => by
      obtain ⟨i, rfl⟩ : ∃ i', i = i' + 1 := ⟨i - 1, by omega⟩
      have t : Ins n (rQ n W c k (i + 1)) := all i (by omega)
      rw [e] at t
      exact o t) (n * n + 2) (by omega)
    have := inj_len (fun (i : Nat) (p : Ps) => p = rQ n W c k (i + 1)) (List.range (n * n + 1)) (places n) List.nodup_range (fun i hi => ⟨_, mem_places.mpr (all i (by have := List.mem_range.mp hi; omega)), rfl⟩) fun a ha b hb p e1 e2 => by
      have := List.mem_range.mp ha
      have := List.mem_range.mp hb
      have := ds (a + 1) (b + 1) (by omega) (by omega) (e1.symm.trans e2)
      omega
    rw [List.length_range, places_len] at this
    omega
theorem road_walk {h : Int → Int → Int} (v : HV n h) (h0 : 0 ≤ k) (h1 : k < 4 * n) (hc : c = decide (k % 2 = 0)) : ∃ m, m ≤ n * n ∧ (∀ j, j < m → Ins n (rX n (Wh n h) c k j).2) ∧ ¬ Ins n (rX n (Wh n h) c k m).2 ∧
    ∃ k2 : Int, 0 ≤ k2 ∧ k2 < 4 * n ∧ k2 % 2 = k % 2 ∧ k2 ≠ k ∧ rX n (Wh n h) c k m = (some (sidP n k2), outP n k2) ∧ ∀ y, Conn (Wh n h) c (outP n k) y ↔ y = outP n k ∨ y = outP n k2 ∨ ∃ j, j < m ∧ y = (rX n (Wh n h) c k j).2 := by
  have F := v.flo
  have hc' : Wh n h (sidP n k) = some c := by rw [hc]; exact v.road_col h0 h1
  obtain ⟨m, a1, a2, a3⟩ := road_ends F v.pos h0 h1 hc'
  have s := road_sq F hc' a3
  obtain ⟨r1, r2, r3⟩ := road_ok v.pos h0 h1
  have m0 : 0 < m := by
    rcases Nat.eq_zero_or_pos m with z | z
    · rw [z] at a2; exact absurd r3 a2
    · exact z
  have od : ∀ i, i ≤ m + 1 → Od (rQ n (Wh n h) c k i) := fun i hi => (s.conn i hi).od r2.1
  obtain ⟨d, b1, b2, b3⟩ := road_st F hc' a3 m (Nat.le_refl _)
  have ob : sd (rQ n (Wh n h) c k (m + 1)) (d + 2) = sd (rQ n (Wh n h) c k m) d := by rw [b2, sd_nb]
  obtain ⟨k2, c0, c1, c2, c3⟩ := out_is (od (m + 1) (Nat.le_refl _)) a2 (d := d + 2) (by rw [ob]; exact F.sid b3)
  have e1 : (rX n (Wh n h) c k m).1 = some (sidP n k2) := by rw [b1, ← ob, c3]
  have e2 : rX n (Wh n h) c k m = (some (sidP n k2), outP n k2) := Prod.ext e1 c2
  have kp : k2 % 2 = k % 2 := by
    have := v.road_col c0 c1
    rw [← c3, ob, b3, hc] at this
    have := Option.some.inj this
    rcases (show k % 2 = 0 ∨ k % 2 = 1 by omega) with z | z
    · rw [decide_eq_true z] at this
      have := of_decide_eq_true this.symm
      omega
    · rw [decide_eq_false (by omega)] at this
      have := of_decide_eq_false this.symm
      omega
  have ins : ∀ i, 0 < i → i ≤ m → Ins n (rQ n (Wh n h) c k i) := fun i hi hk => by
    obtain ⟨i, rfl⟩ : ∃ i', i = i' + 1 := ⟨i - 1, by omega⟩
    exact a3 i (by omega)
  have s' : Sq (Wh n h) c (rQ n (Wh n h) c k) (rT n (Wh n h) c k) m := ⟨fun i hi => s.st i (by omega), fun i hi => s.two i (by omega)⟩
  have ds := s'.dist (fun i hi hk e => r2.2.1 (by have t := ins i hi hk; rw [e] at t; exact t)) (m + 1) (Nat.le_refl _)
  refine ⟨m, a1, a3, a2, k2, c0, c1, kp, fun z => ?_, e2, fun y => ⟨fun g => ?_, fun g => ?_⟩⟩
  · -- the way would lead back
    obtain ⟨d0, t1, t2, _⟩ := s.st 0 (by omega)
    obtain ⟨d1, t3, t4⟩ := s.back (i := m) (by omega)
    have q : rQ n (Wh n h) c k (m + 1) = rQ n (Wh n h) c k 0 := by
      show (rX n (Wh n h) c k m).2 = outP n k
      rw [e2, z]
    have t5 : rT n (Wh n h) c k m = rT n (Wh n h) c k 0 := by
      unfold rT
      rw [e1, z]
      rfl
    rw [q] at t3 t4
    have t6 : d1 = d0 := sd_inj _ (t3.symm.trans (t5.trans t1))
    rw [t6, ← t2] at t4
    have := ds m (0 + 1) (by omega) (by omega) t4
    rw [this] at t5
    exact (s.two 0 (by omega)).1 t5
  · have key : ∃ i, i ≤ m + 1 ∧ y = rQ n (Wh n h) c k i := by
      induction g with
      | refl => exact ⟨0, by omega, rfl⟩
      | step _ a ih =>
        obtain ⟨i, hi, rfl⟩ := ih
        obtain ⟨x, hx, rfl⟩ := a
        rcases Nat.eq_zero_or_pos i with z | z
        · subst z
          obtain ⟨d0, t1, t2, t3⟩ := s.st 0 (by omega)
          have : x = d0 := Classical.byContradiction fun ne => r2.2.1 (out_one r2.1 (F.sid hx) (F.sid (t1 ▸ t3)) ne)
          exact ⟨0 + 1, by omega, by rw [this, t2]⟩
        · obtain ⟨i, rfl⟩ : ∃ i', i = i' + 1 := ⟨i - 1, by omega⟩
          by_cases hl : i + 1 < m + 1
          · rcases (s.two i hl).2 x hx with w | w
            · exact ⟨i, by omega, s.at' (by omega) w⟩
            · exact ⟨i + 1 + 1, by omega, s.at hl w⟩
          · have em : i = m := by omega
            subst em
            obtain ⟨d1, t3, t4⟩ := s.back (i := i) (by omega)
            obtain ⟨_, _, _, t5⟩ := s.st i (by omega)
            have : x = d1 := Classical.byContradiction fun ne => a2 (out_one (od (i + 1) (Nat.le_refl _)) (F.sid hx) (F.sid (t3 ▸ t5)) ne)
            exact ⟨i, by omega, by rw [this, t4]⟩
    obtain ⟨i, hi, rfl⟩ := key
    rcases Nat.eq_zero_or_pos i with z | z
    · exact .inl (by rw [z]; rfl)
    · obtain ⟨i, rfl⟩ : ∃ i', i = i' + 1 := ⟨i - 1, by omega⟩
      by_cases hl : i < m
      · exact .inr (.inr ⟨i, hl, rfl⟩)
      · have em : i = m := by omega
        refine .inr (.inl ?_)
        show (rX n (Wh n h) c k i).2 = _
        rw [em, e2]
  · rcases g with rfl | rfl | ⟨j, hj, rfl⟩
    · exact .refl
    · have := s.conn (m + 1) (Nat.le_refl _)
      have e : rQ n (Wh n h) c k (m + 1) = outP n k2 := congrArg Prod.snd e2
      rw [e] at this
      exact this
    · exact s.conn (j + 1) (by omega)
theorem outP_inj (hn : 1 ≤ n) {k k2 : Int} (h0 : 0 ≤ k) (h1 : k < 4 * n) (h2 : 0 ≤ k2) (h3 : k2 < 4 * n) (e : outP n k = outP n k2) : k = k2 := by
  have e1 := congrArg Prod.fst e
  have e2 := congrArg Prod.snd e
  rcases four n k with a | a | a | a <;> rcases four n k2 with b | b | b | b <;>
    first
    | (rw [(pU a).2.1, (pU b).2.1] at e1 e2; simp at e1 e2; omega)
    | (rw [(pU a).2.1, (pR b.1 b.2).2.1] at e1 e2; simp at e1 e2; omega)
    | (rw [(pU a).2.1, (pD b.1 b.2).2.1] at e1 e2; simp at e1 e2; omega)
    | (rw [(pU a).2.1, (pL b).2.1] at e1 e2; simp at e1 e2; omega)
    | (rw [(pR a.1 a.2).2.1, (pU b).2.1] at e1 e2; simp at e1 e2; omega)
    | (rw [(pR a.1 a.2).2.1, (pR b.1 b.2).2.1] at e1 e2; simp at e1 e2; omega)
    | (rw [(pR a.1 a.2).2.1, (pD b.1 b.2).2.1] at e1 e2; simp at e1 e2; omega)
    | (rw [(pR a.1 a.2).2.1, (pL b).2.1] at e1 e2; simp at e1 e2; omega)
    | (rw [(pD a.1 a.2).2.1, (pU b).2.1] at e1 e2; simp at e1 e2; omega)
    | (rw [(pD a.1 a.2).2.1, (pR b.1 b.2).2.1] at e1 e2; simp at e1 e2; omega)
    | (rw [(pD a.1 a.2).2.1, (pD b.1 b.2).2.1] at e1 e2; simp at e1 e2; omega)
    | (rw [(pD a.1 a.2).2.1, (pL b).2.1] at e1 e2; simp at e1 e2; omega)
    | (rw [(pL a).2.1, (pU b).2.1] at e1 e2; simp at e1 e2; omega)
    | (rw [(pL a).2.1, (pR b.1 b.2).2.1] at e1 e2; simp at e1 e2; omega)
    | (rw [(pL a).2.1, (pD b.1 b.2).2.1] at e1 e2; simp at e1 e2; omega)
    | (rw [(pL a).2.1, (pL b).2.1] at e1 e2; simp at e1 e2; omega)
/-! rings -/
variable {x : Ps}
theorem Rg.ins (F : Flo n W) (r : Rg n W c x) {y : Ps} (g : Conn W c x y) : Ins n y := by
  cases g with
  | refl => exact r.1
  | step g a =>
    have g' := Conn.step g a
    obtain ⟨d, hd, rfl⟩ := a
    refine Classical.byContradiction fun ni => r.2 _ ?_ g'
    have o := g'.od r.1.1
    exact ⟨o, ni, d + 2, by rw [sd_nb]; exact F.sid hd⟩
abbrev gX (W : Col) (c : Bool) (x : Ps) : Nat → Option Ps × Ps := it W c none x
def gT (W : Col) (c : Bool) (x : Ps) (i : Nat) : Ps := ((gX W c x (i + 1)).1).getD (0, 0)
theorem ring_st (F : Flo n W) (r : Rg n W c x) : ∀ i, (∃ d, (gX W c x (i + 1)) = (some (sd (gX W c x i).2 d), nb (gX W c x i).2 d) ∧ W (sd (gX W c x i).2 d) = some c) ∧ Conn W c x (gX W c x i).2
  | 0 => by
    obtain ⟨d, h1, h2⟩ := nxt_none (c := c) F r.1
    exact ⟨⟨d, h2, h1⟩, .refl⟩
  | i + 1 => by
    obtain ⟨⟨d, h1, h2⟩, h3⟩ := ring_st F r i
    have e2 : (gX W c x (i + 1)).2 = nb (gX W c x i).2 d := congrArg Prod.snd h1
    have g : Conn W c x (gX W c x (i + 1)).2 := by rw [e2]; exact .step h3 ⟨d, h2, rfl⟩
    have e : sd (gX W c x (i + 1)).2 (d + 2) = sd (gX W c x i).2 d := by rw [e2, sd_nb]
    obtain ⟨d', _, h4, h5, _⟩ := nxt_some F (r.ins F g) (d := d + 2) (c := c) (by rw [e]; exact h2)
    refine ⟨⟨d', ?_, h4⟩, g⟩
    show nxt W c (gX W c x (i + 1)).1 (gX W c x (i + 1)).2 = _
    rw [show (gX W c x (i + 1)).1 = some (sd (gX W c x i).2 d) from congrArg Prod.fst h1, ← e]
    exact h5
theorem ring_sq (F : Flo n W) (r : Rg n W c x) (k : Nat) : Sq W c (fun i => (gX W c x i).2) (gT W c x) k := by
  have tt : ∀ {i : Nat} {s : Ps} {p : Ps}, (gX W c x (i + 1)) = (some s, p) → gT W c x i = s := fun h => by unfold gT; rw [h]; rfl
  refine ⟨fun i hi => ?_, fun i hi => ?_⟩
  · obtain ⟨⟨d, h1, h2⟩, h3⟩ := ring_st F r i
    exact ⟨d, tt h1, congrArg Prod.snd h1, by rw [tt h1]; exact h2⟩
  · obtain ⟨⟨d, h1, h2⟩, h3⟩ := ring_st F r i
    have e2 : (gX W c x (i + 1)).2 = nb (gX W c x i).2 d := congrArg Prod.snd h1
    have g := (ring_st F r (i + 1)).2
    have e : sd (gX W c x (i + 1)).2 (d + 2) = sd (gX W c x i).2 d := by rw [e2, sd_nb]
    obtain ⟨d', h7, h4, h5, h8⟩ := nxt_some F (r.ins F g) (d := d + 2) (c := c) (by rw [e]; exact h2)
    have h6 : gX W c x (i + 1 + 1) = (some (sd (gX W c x (i + 1)).2 d'), nb (gX W c x (i + 1)).2 d') := by
      show nxt W c (gX W c x (i + 1)).1 (gX W c x (i + 1)).2 = _
      rw [show (gX W c x (i + 1)).1 = some (sd (gX W c x i).2 d) from congrArg Prod.fst h1, ← e]
      exact h5
    rw [tt h1, tt h6]
    refine ⟨fun z => h7 (sd_inj (gX W c x (i + 1)).2 (z.trans e.symm)), fun y hy => ?_⟩
    rcases h8 y hy with rfl | rfl
    · exact .inl e
    · exact .inr rfl
theorem ring_close (F : Flo n W) (r : Rg n W c x) {k i : Nat} (ds : ∀ a b, a < k → b < k → (gX W c x a).2 = (gX W c x b).2 → a = b) (hi : i < k) (e : (gX W c x i).2 = (gX W c x k).2) {y : Ps} (g : Conn W c x y) : ∃ j, j < k ∧ y = (gX W c x j).2 := by
  have s := ring_sq F r k
  have i0 := s.rep (Nat.le_refl _) hi ds e
  subst i0
  obtain ⟨k, rfl⟩ : ∃ k', k = k' + 1 := ⟨k - 1, by omega⟩
  obtain ⟨d0, t1, t2, t3⟩ := s.st 0 (by omega)
  obtain ⟨d1, t4, t5⟩ := s.back (i := k) (by omega)
  obtain ⟨_, _, _, t6⟩ := s.st k (by omega)
  rw [← e] at t4 t5
  have ne : d1 ≠ d0 := fun z => by
    rw [z, ← t2] at t5
    have tk : gT W c x k = gT W c x 0 := by rw [t4, t1, z]
    rcases Nat.eq_zero_or_pos k with k0 | k0
    · subst k0
      rw [t2] at t5
      exact nb_ne _ _ t5.symm
    · have := ds _ _ (by omega) (by omega) t5
      rw [this] at tk
      exact (s.two 0 (by omega)).1 tk
  induction g with
  | refl => exact ⟨0, by omega, rfl⟩
  | step _ a ih =>
    obtain ⟨j, hj, rfl⟩ := ih
    obtain ⟨z, hz, rfl⟩ := a
    have wrap : ∀ j, j ≤ k + 1 → ∃ j', j' < k + 1 ∧ (gX W c x j).2 = (gX W c x j').2 := fun j hj => by
      by_cases l : j < k + 1
      · exact ⟨j, l, rfl⟩
      · exact ⟨0, by omega, by rw [show j = k + 1 by omega]; exact e.symm⟩
    rcases Nat.eq_zero_or_pos j with w | w
    · subst w
      rcases tt1 (F.two _ r.1) (x := d0) (y := d1) (z := z) (k := c) (by have := t3; rw [t1] at this; exact this) (by have := t6; rw [t4] at this; exact this) (Ne.symm ne) hz with w | w
      · rw [w]
        obtain ⟨j', a, b⟩ := wrap 1 (by omega)
        exact ⟨j', a, t2.symm.trans b⟩
      · rw [w]
        exact ⟨k, by omega, t5.symm⟩
    · obtain ⟨j, rfl⟩ : ∃ j', j = j' + 1 := ⟨j - 1, by omega⟩
      rcases (s.two j hj).2 z hz with w | w
      · exact ⟨j, by omega, s.at' (i := j) (by omega) w⟩
      · obtain ⟨j', a, b⟩ := wrap (j + 1 + 1) (by omega)
        exact ⟨j', a, (s.at (i := j + 1) (by omega) w).trans b⟩
end
end GY
end
section
set_option linter.all false
set_option maxRecDepth 100000
set_option maxHeartbeats 4000000
/-! links by number; what the walks lean on -/
namespace GY
section
variable {n : Nat} {W : Col} {c : Bool} {k : Int} {p x : Ps}
theorem none_ok (F : Flo n W) (ins : Ins n p) : ∃ d, okD W c none p d = true := by
  obtain ⟨d, hd⟩ := tt3 (F.two p ins) c
  exact ⟨d, okD_iff.mpr ⟨by simp, hd⟩⟩
theorem some_ok (F : Flo n W) (ins : Ins n p) {d : Fin 4} (h : W (sd p d) = some c) : ∃ d', okD W c (some (sd p d)) p d' = true := by
  obtain ⟨y, h1, h2⟩ := tt2 (F.two p ins) h
  exact ⟨y, okD_iff.mpr ⟨fun z => h1 (sd_inj p (Option.some.inj z)).symm, h2⟩⟩
theorem road_okD (F : Flo n W) (hc : W (sidP n k) = some c) {m : Nat} (hm : ∀ j, j < m → Ins n (rX n W c k j).2) {i : Nat} (hi : i < m) : ∃ d, okD W c (rX n W c k i).1 (rX n W c k i).2 d = true := by
  obtain ⟨d, h1, h2, h3⟩ := road_st F hc hm i (by omega)
  have e2 : (rX n W c k i).2 = nb (rQ n W c k i) d := h2
  have e : sd (rX n W c k i).2 (d + 2) = sd (rQ n W c k i) d := by rw [e2, sd_nb]
  rw [h1, ← e]
  exact some_ok F (hm i hi) (by rw [e]; exact h3)
theorem ring_okD (F : Flo n W) (r : Rg n W c x) (i : Nat) : ∃ d, okD W c (gX W c x i).1 (gX W c x i).2 d = true := by
  cases i with
  | zero => exact none_ok F r.1
  | succ i =>
    obtain ⟨⟨d, h1, h2⟩, h3⟩ := ring_st F r i
    have g := (ring_st F r (i + 1)).2
    have e2 : (gX W c x (i + 1)).2 = nb (gX W c x i).2 d := congrArg Prod.snd h1
    have e : sd (gX W c x (i + 1)).2 (d + 2) = sd (gX W c x i).2 d := by rw [e2, sd_nb]
    rw [show (gX W c x (i + 1)).1 = some (sd (gX W c x i).2 d) from congrArg Prod.fst h1, ← e]
    exact some_ok F (r.ins F g) (by rw [e]; exact h2)
theorem rim_is {s : Ps} (h : Sid n s) (r : s.1 = 0 ∨ s.2 = 0 ∨ s.1 = 2 * n ∨ s.2 = 2 * n) : ∃ k : Int, 0 ≤ k ∧ k < 4 * n ∧ s.1 = (sidP n k).1 ∧ s.2 = (sidP n k).2 := by
  obtain ⟨h1, h2, h3, h4, h5⟩ := h
  rcases r with r | r | r | r
  · have e := pU (n := n) (k := (s.2 - 1) / 2) (by omega)
    exact ⟨(s.2 - 1) / 2, by omega, by omega, by rw [e.1]; exact r, by rw [e.1]; show s.2 = _; simp; omega⟩
  · have e := pL (n := n) (k := 4 * n - 1 - (s.1 - 1) / 2) (by omega)
    exact ⟨4 * n - 1 - (s.1 - 1) / 2, by omega, by omega, by rw [e.1]; show s.1 = _; simp; omega, by rw [e.1]; exact r⟩
  · have e := pD (n := n) (k := 3 * n - 1 - (s.2 - 1) / 2) (by omega) (by omega)
    exact ⟨3 * n - 1 - (s.2 - 1) / 2, by omega, by omega, by rw [e.1]; exact r, by rw [e.1]; show s.2 = _; simp; omega⟩
  · have e := pR (n := n) (k := n + (s.1 - 1) / 2) (by omega) (by omega)
    exact ⟨n + (s.1 - 1) / 2, by omega, by omega, by rw [e.1]; show s.1 = _; simp; omega, by rw [e.1]; exact r⟩
theorem sid_rim (n : Nat) (k : Int) : (sidP n k).1 = 0 ∨ (sidP n k).2 = 0 ∨ (sidP n k).1 = 2 * n ∨ (sidP n k).2 = 2 * n := by
  rcases four n k with a | a | a | a
  · rw [(pU a).1]; exact .inl rfl
  · rw [(pR a.1 a.2).1]; exact .inr (.inr (.inr rfl))
  · rw [(pD a.1 a.2).1]; exact .inr (.inr (.inl rfl))
  · rw [(pL a).1]; exact .inr (.inl rfl)
theorem sidP_inj (hn : 1 ≤ n) {k k2 : Int} (h0 : 0 ≤ k) (h1 : k < 4 * n) (h2 : 0 ≤ k2) (h3 : k2 < 4 * n) (e : sidP n k = sidP n k2) : k = k2 := by
  have e1 := congrArg Prod.fst e
  have e2 := congrArg Prod.snd e
  rcases four n k with a | a | a | a <;> rcases four n k2 with b | b | b | b <;>
    first
    | (rw [(pU a).1, (pU b).1] at e1 e2; simp at e1 e2; omega)
    | (rw [(pU a).1, (pR b.1 b.2).1] at e1 e2; simp at e1 e2; omega)
    | (rw [(pU a).1, (pD b.1 b.2).1] at e1 e2; simp at e1 e2; omega)
    | (rw [(pU a).1, (pL b).1] at e1 e2; simp at e1 e2; omega)
    | (rw [(pR a.1 a.2).1, (pU b).1] at e1 e2; simp at e1 e2; omega)
    | (rw [(pR a.1 a.2).1, (pR b.1 b.2).1] at e1 e2; simp at e1 e2; omega)
    | (rw [(pR a.1 a.2).1, (pD b.1 b.2).1] at e1 e2; simp at e1 e2; omega)
    | (rw [(pR a.1 a.2).1, (pL b).1] at e1 e2; simp at e1 e2; omega)
    | (rw [(pD a.1 a.2).1, (pU b).1] at e1 e2; simp at e1 e2; omega)
    | (rw [(pD a.1 a.2).1, (pR b.1 b.2).1] at e1 e2; simp at e1 e2; omega)
    | (rw [(pD a.1 a.2).1, (pD b.1 b.2).1] at e1 e2; simp at e1 e2; omega)
    | (rw [(pD a.1 a.2).1, (pL b).1] at e1 e2; simp at e1 e2; omega)
    | (rw [(pL a).1, (pU b).1] at e1 e2; simp at e1 e2; omega)
    | (rw [(pL a).1, (pR b.1 b.2).1] at e1 e2; simp at e1 e2; omega)
    | (rw [(pL a).1, (pD b.1 b.2).1] at e1 e2; simp at e1 e2; omega)
    | (rw [(pL a).1, (pL b).1] at e1 e2; simp at e1 e2; omega)
def clampI (n : Nat) (x : Int) : Int := if 2 * (n : Int) - 1 < (if 1 > x then 1 else x) then 2 * n - 1 else (if 1 > x then 1 else x)
theorem clampI_eq (hn : 1 ≤ n) (x : Int) : (x ≤ 1 ∧ clampI n x = 1) ∨ (1 ≤ x ∧ x ≤ 2 * n - 1 ∧ clampI n x = x) ∨ (2 * n - 1 ≤ x ∧ clampI n x = 2 * n - 1) := by
  unfold clampI
  by_cases a : 1 > x
  · rw [if_pos a]
    by_cases b : 2 * (n : Int) - 1 < 1
    · omega
    · rw [if_neg b]; exact .inl ⟨by omega, rfl⟩
  · rw [if_neg a]
    by_cases b : 2 * (n : Int) - 1 < x
    · rw [if_pos b]; exact .inr (.inr ⟨by omega, rfl⟩)
    · rw [if_neg b]; exact .inr (.inl ⟨by omega, by omega, rfl⟩)
theorem clamp_ok (hn : 1 ≤ n) (h0 : 0 ≤ k) (h1 : k < 4 * n) : clampI n (sidP n k).1 = (insP n k).1 ∧ clampI n (sidP n k).2 = (insP n k).2 := by
  have a := clampI_eq hn (sidP n k).1
  have b := clampI_eq hn (sidP n k).2
  revert a b
  rcases four n k with z | z | z | z
  · rw [(pU z).1, (pU z).2.2]; simp only []; omega
  · rw [(pR z.1 z.2).1, (pR z.1 z.2).2.2]; simp only []; omega
  · rw [(pD z.1 z.2).1, (pD z.1 z.2).2.2]; simp only []; omega
  · rw [(pL z).1, (pL z).2.2]; simp only []; omega
/-- an outer end that is led to has its side of the colour -/
theorem out_conn (F : Flo n W) {o : Ps} (ins : Ins n p) (ho : Out n o) (g : Conn W c p o) : ∃ k : Int, 0 ≤ k ∧ k < 4 * n ∧ o = outP n k ∧ W (sidP n k) = some c := by
  cases g with
  | refl => exact absurd ins ho.2.1
  | step g a =>
    obtain ⟨d, hd, rfl⟩ := a
    have e := sd_nb ‹Ps› d
    obtain ⟨k, h0, h1, h2, h3⟩ := out_is ho.1 ho.2.1 (d := d + 2) (by rw [e]; exact F.sid hd)
    exact ⟨k, h0, h1, h2, by rw [← h3, e]; exact hd⟩
end
section
variable {n : Nat} {h : Int → Int → Int} {c : Bool} {k j j' : Int}
theorem btc_at (c : Bool) (k : Int) : (btc c = 0 ∨ btc c = 1) ∧ c = decide ((2 * k + btc c) % 2 = 0) := by
  cases c with
  | true => exact ⟨.inl rfl, by rw [show btc true = 0 from rfl, decide_eq_true (by omega)]⟩
  | false => exact ⟨.inr rfl, by rw [show btc false = 1 from rfl, decide_eq_false (by omega)]⟩
theorem btc_par {K : Int} (hc : c = decide (K % 2 = 0)) : 2 * (K / 2) + btc c = K := by
  rcases (show K % 2 = 0 ∨ K % 2 = 1 by omega) with z | z
  · rw [hc, decide_eq_true z, show btc true = 0 from rfl]; omega
  · rw [hc, decide_eq_false (by omega), show btc false = 1 from rfl]; omega
theorem Lk.uniq (v : HV n h) (h0 : 0 ≤ k) (h1 : k < 2 * n) (a : Lk n (Wh n h) c k j) (b : Lk n (Wh n h) c k j') : j = j' := by
  obtain ⟨bc, hc⟩ := btc_at c k
  have hn := v.pos
  obtain ⟨m, _, m2, _, k2, q0, q1, _, _, _, cl⟩ := road_walk (c := c) (k := 2 * k + btc c) v (by omega) (by omega) hc
  have one : ∀ {j : Int}, Lk n (Wh n h) c k j → 2 * j + btc c = k2 := fun {j} a => by
    obtain ⟨a0, a1, a2, a3⟩ := a
    rcases (cl _).mp a3 with z | z | ⟨i, hi, z⟩
    · have := outP_inj hn (by omega) (by omega) (by omega) (by omega) z
      omega
    · exact outP_inj hn (by omega) (by omega) q0 q1 z
    · have := m2 i hi
      rw [← z] at this
      exact absurd this (road_ok hn (by omega) (by omega)).2.1.2.1
  have e1 := one a
  have e2 := one b
  omega
/-- the walk's end gives the link -/
theorem Lk.of {K K2 : Int} (h2 : 0 ≤ K2) (h3 : K2 < 4 * n) (e : K2 % 2 = K % 2) (ne : K2 ≠ K) (hc : c = decide (K % 2 = 0)) (g : Conn (Wh n h) c (outP n K) (outP n K2)) : Lk n (Wh n h) c (K / 2) (K2 / 2) := by
  refine ⟨by omega, by omega, by omega, ?_⟩
  rw [btc_par hc, btc_par (K := K2) (by rw [hc, e])]
  exact g
open Classical in
noncomputable def lnkF (n : Nat) (W : Col) (c : Bool) (k : Int) : Int := if h : ∃ j, Lk n W c k j then Classical.choose h else 0
theorem lnk_spec (v : HV n h) (h0 : 0 ≤ k) (h1 : k < 2 * n) : Lk n (Wh n h) c k (lnkF n (Wh n h) c k) := by
  obtain ⟨bc, hc⟩ := btc_at c k
  have hn := v.pos
  obtain ⟨m, _, m2, _, k2, q0, q1, q2, q3, _, cl⟩ := road_walk (c := c) (k := 2 * k + btc c) v (by omega) (by omega) hc
  have g := (cl (outP n k2)).mpr (.inr (.inl rfl))
  have l := Lk.of q0 q1 q2 q3 hc g
  rw [show (2 * k + btc c) / 2 = k by omega] at l
  have ex : ∃ j, Lk n (Wh n h) c k j := ⟨_, l⟩
  unfold lnkF
  rw [dif_pos ex]
  exact Classical.choose_spec ex
theorem lnk_of (v : HV n h) (h0 : 0 ≤ k) (h1 : k < 2 * n) (l : Lk n (Wh n h) c k j) : lnkF n (Wh n h) c k = j := Lk.uniq v h0 h1 (lnk_spec v h0 h1) l
end
end GY
end
section
set_option Elab.async false
set_option linter.all false
set_option maxRecDepth 100000
set_option maxHeartbeats 4000000
namespace GY
open PySem PySem.Spec PyProof.Rows L2
open Evl (Ex fresh_back)
local macro_rules | `(tactic| walk_at "le") => `(tactic| (repeat (first | exact Le.nil | refine Le.cons (by first | exact SLe.rfl | exact SLe.no | exact SLe.fd | exact SLe.od | exact SLe.of | exact SLe.tf | exact SLe.sc rfl) ?_)))
section
variable {Pg : Program} {w : World} {K : PySem.W.Frag} {mg : Str → Option Value} {base : Heap}
theorem cutTo {xs : List Dt} {j : Nat} (h : j ≤ xs.length) : cutD xs none (some (j : Int)) = xs.take j := by
  unfold cutD
  rw [HT.sIx_none, HT.sIx_nat, Nat.min_eq_left h, Nat.sub_zero, List.drop_zero]
theorem take_row {m j : Nat} {g : Int → Int} (h : j ≤ m) : (dRow m g).take j = dRow j g := by
  unfold dRow
  rw [← List.map_take, List.take_range, Nat.min_eq_left h]
theorem rowI_sum {g : Int → Int} (f : Int → Int) (h0 : f 0 = 0) : ∀ {j : Nat}, (∀ z : Nat, z < j → f ((z : Int) + 1) = f z + g z) → (rowI j g).sum = f j
  | 0, _ => h0.symm
  | j + 1, h => by
    rw [rowI_succ, List.sum_append, rowI_sum f h0 fun z hz => h z (by omega), show (((j + 1 : Nat) : Int)) = (j : Int) + 1 by omega, h j (by omega)]
    simp
structure Fil (n : Nat) (h : Int → Int → Int) (r j : Nat) (kvs : Kv) : Prop where
  ok : ∀ e ∈ kvs, Wh n h e.1 = some e.2
  yes : ∀ a b : Nat, (a < r ∧ b ≤ n) ∨ (a = r ∧ b < j) → (lookD kvs (2 * (a : Int) + 1, 2 * (b : Int))).isSome = true ∧ (lookD kvs (2 * (b : Int), 2 * (a : Int) + 1)).isSome = true
  len : kvs.length ≤ 26 * r + 2 * j
theorem Fil.nil (n : Nat) (h : Int → Int → Int) : Fil n h 0 0 [] := ⟨fun _ z => (nomatch z), fun a b z => (by omega), Nat.le_refl _⟩
theorem Fil.put {n : Nat} {h : Int → Int → Int} {r j : Nat} {kvs : Kv} (F : Fil n h r j kvs) (hr : r < n) (hj : j ≤ n) : Fil n h r (j + 1) (putD (putD kvs (2 * (r : Int) + 1, 2 * (j : Int)) (wv h (2 * (r : Int) + 1, 2 * (j : Int)))) (2 * (j : Int), 2 * (r : Int) + 1) (wv h (2 * (j : Int), 2 * (r : Int) + 1))) := by
  have s1 : Sid n (2 * (r : Int) + 1, 2 * (j : Int)) := ⟨by simp; try omega, by simp; try omega, by simp; try omega, by simp; try omega, by simp; try omega⟩
  have s2 : Sid n (2 * (j : Int), 2 * (r : Int) + 1) := ⟨by simp; try omega, by simp; try omega, by simp; try omega, by simp; try omega, by simp; try omega⟩
  refine ⟨fun e he => ?_, fun a b z => ?_, ?_⟩
  · rcases mem_put he with he | rfl
    · rcases mem_put he with he | rfl
      · exact F.ok e he
      · exact Wh_yes s1
    · exact Wh_yes s2
  · rw [look_put, look_put, look_put, look_put]
    by_cases c : (a < r ∧ b ≤ n) ∨ (a = r ∧ b < j)
    · exact ⟨.inr (.inr (F.yes a b c).1), .inr (.inr (F.yes a b c).2)⟩
    · have ea : a = r := by omega
      have eb : b = j := by omega
      subst ea eb
      exact ⟨.inr (.inl rfl), .inl rfl⟩
  · have a := put_len (kvs := putD kvs (2 * (r : Int) + 1, 2 * (j : Int)) (wv h (2 * (r : Int) + 1, 2 * (j : Int)))) (k := (2 * (j : Int), 2 * (r : Int) + 1)) (v := wv h (2 * (j : Int), 2 * (r : Int) + 1))
    have b := put_len (kvs := kvs) (k := (2 * (r : Int) + 1, 2 * (j : Int))) (v := wv h (2 * (r : Int) + 1, 2 * (j : Int)))
    have := F.len
    omega
theorem Fil.next {n : Nat} {h : Int → Int → Int} {r : Nat} {kvs : Kv} (F : Fil n h r (n + 1) kvs) (hn : n ≤ 12) : Fil n h (r + 1) 0 kvs := ⟨F.ok, fun a b z => F.yes a b (by omega), by have := F.len; omega⟩
/-- the sides walked -/
def Wkd (n : Nat) (h : Int → Int → Int) (kvs : Kv) : Prop := (∀ s, lookD kvs s = Wh n h s) ∧ kvs.length ≤ 320 ∧ ∀ e ∈ kvs, Wh n h e.1 = some e.2
theorem Fil.wkd {n : Nat} {h : Int → Int → Int} {kvs : Kv} (F : Fil n h n 0 kvs) (hn : n ≤ 12) : Wkd n h kvs := by
  refine ⟨fun s => ?_, by have := F.len; omega, F.ok⟩
  by_cases k : Sid n s
  · have yes : (lookD kvs s).isSome = true := by
      obtain ⟨a, b⟩ := s
      obtain ⟨k1, k2, k3, k4, k5⟩ := k
      simp only at k1 k2 k3 k4 k5
      rcases (show a % 2 = 1 ∨ a % 2 = 0 by omega) with z | z
      · have := (F.yes (a / 2).toNat (b / 2).toNat (by omega)).1
        rw [show 2 * ((a / 2).toNat : Int) + 1 = a by omega, show 2 * ((b / 2).toNat : Int) = b by omega] at this
        exact this
      · have := (F.yes (b / 2).toNat (a / 2).toNat (by omega)).2
        rw [show 2 * ((a / 2).toNat : Int) = a by omega, show 2 * ((b / 2).toNat : Int) + 1 = b by omega] at this
        exact this
    obtain ⟨b, hb⟩ := Option.isSome_iff_exists.mp yes
    obtain ⟨e, h1, h2, h3⟩ := look_mem hb
    rw [hb, ← h2, F.ok e h1, h3]
  · cases e : lookD kvs s with
    | none => exact (Wh_no k).symm
    | some b =>
      obtain ⟨e, h1, h2, h3⟩ := look_mem e
      have := F.ok e h1
      rw [h2, Wh_no k] at this
      cases this
inductive R_law_walked : List Dt → Rm → Prop
  | mk {n : Nat} {h : Int → Int → Int} (v : HV n h) : R_law_walked [.lst (dM n n (sgn h))] (.dict (Wkd n h))
theorem dec_beq {a b : Bool} : decide (a = b) = (a == b) := by cases a <;> cases b <;> rfl
theorem sc__law_walked : FnScope ["_law_state", "_law_n", "_law_sides", "_law_r", "_law_j", "_law_arrow", "_law_m"] ["_law_state"] (defScope s__law_walked) := ⟨rfl, rfl, rfl, by decide +kernel, rfl, by decide +kernel, by decide +kernel⟩
theorem ok_law_walked (h : Fs K mg "_law_walked" s__law_walked) (T : Tx mg)  : CallS Pg w K mg base 1 "_law_walked" ["_law_state"] (spR K R_law_walked) := by
  obtain ⟨a, fd, F, gm⟩ := h
  refine ⟨a, fd, of_dataR F sc__law_walked (fun ds y h => by cases h; rfl) (fun cdv A outer s H E hr => ⟨_,
    (pss_cons (ps_set (i := 1) sc__law_walked.nd rfl (Or.inl rfl) (pe_callB (call_lenK K) (by rfl) T.len PySem.boot_len (pa_cons (pv 0) pa_nil)))
    (pss_cons (ps_set (i := 2) sc__law_walked.nd rfl (Or.inl rfl) pe_dnewT)
    (pss_cons (ps_for PassesOwn.never rfl (pi_range1 (by rfl) T.range (pa_cons (pv 1) pa_nil)) (pg_name (i := 3) sc__law_walked.nd rfl (Or.inr rfl))
    (pss_one (ps_for PassesOwn.never rfl (pi_range1 (by rfl) T.range (pa_cons (pe_op op_add (pv 1) pe_int) pa_nil)) (pg_name (i := 4) sc__law_walked.nd rfl (Or.inl rfl))
    (pss_cons (ps_set (i := 5) sc__law_walked.nd rfl (Or.inl rfl) (pe_op op_sub pe_int (pe_op op_mul pe_int (pe_callB (cr_sum rfl) (by rfl) T.sum (by decide +kernel) (pa_cons (pe_slice sl_list (pe_ix (ix_listK K) (pv 0) (pv 3) (fun _ _ => rfl)) po_none (po_some (pv 4))) pa_nil)))))
    (pss_cons (ps_dput (hu_of hr) (pv 2) (pe_tup (pa_cons (pe_op op_add (pe_op op_mul pe_int (pv 3)) pe_int) (pa_cons (pe_op op_mul pe_int (pv 4)) pa_nil))) (pe_cmpR op_eq (pe_cmpR op_eq (pv 5) pe_int (nomark _)) (pe_cmpR op_eq (pe_op op_mod (pe_op op_add (pv 3) (pv 4)) pe_int) pe_int (nomark _)) (nomark _)) rfl)
    (pss_cons (ps_set (i := 5) sc__law_walked.nd rfl (Or.inl rfl) (pe_op op_sub (pe_op op_mul pe_int (pe_callB (cr_sum rfl) (by rfl) T.sum (by decide +kernel) (pa_cons (pe_lc (own := [("_law_m", 6)]) rfl sc__law_walked.nd (pi_range1 (by rfl) T.range (pa_cons (pv 4) pa_nil)) (blkOk_by (by kernel_rfl)) (fun _ _ _ _ _ => pg_name (i := 6) sc__law_walked.nd rfl (Or.inl rfl)) (fun _ _ _ _ _ => pts_nil) (fun _ _ _ _ _ => (pe_ix (ix_listK K) (pe_ix (ix_listK K) (pv 0) (pv 6) (fun _ _ => rfl)) (pv 3) (fun _ _ => rfl)))) pa_nil))) pe_int))
    (pss_one (ps_dput (hu_of hr) (pv 2) (pe_tup (pa_cons (pe_op op_mul pe_int (pv 4)) (pa_cons (pe_op op_add (pe_op op_mul pe_int (pv 3)) pe_int) pa_nil))) (pe_cmpR op_eq (pe_cmpR op_eq (pv 5) pe_int (nomark _)) (pe_cmpR op_eq (pe_op op_mod (pe_op op_add (pv 3) (pv 4)) pe_int) pe_int (nomark _)) (nomark _)) rfl))))))))
    (pss_one (ps_ret (pv 2)))))),
    fun ds y h => ?_⟩), gm, F.kp, FunD.bindsN F fun _ _ _ _ _ _ us hl => match us, hl with | [_], _ => rfl⟩
  cases h with
  | @mk n h v =>
  have hn := v.pos
  have hn2 := v.le
  refine run_seq (run_asg (x := .int n) (g_is (g_len (g_var rfl rfl)) (by rw [dM_len])) ?_)
  refine run_seq (run_newT ?_)
  refine run_seq (run_forP (gi_rng1 (ga_cons (g_var rfl rfl) ga_nil)) (fun r Γ => ∃ kvs, Γ = [.d (.lst (dM n n (sgn h))), .d (.int n), .dT kvs, .no, .no, .no, .no] ∧ Fil n h r 0 kvs) ⟨_, ⟨[], rfl, Fil.nil n h⟩, Le.refl _⟩ ?_ ?_)
  · intro r x Γn hx hI
    obtain ⟨kvs, rfl, hf⟩ := hI
    obtain ⟨hr, rfl⟩ := get_rg0 hx
    rw [Int.toNat_natCast] at hr
    refine ⟨_, _, gg_name, ?_⟩
    refine run_forP (gi_rng1 (ga_cons (g_add (g_var rfl rfl) g_int) ga_nil)) (fun j Γ => ∃ kvs, Γ = [.d (.lst (dM n n (sgn h))), .d (.int n), .dT kvs, .d (.int r), .no, .no, .no] ∧ Fil n h r j kvs) ⟨_, ⟨kvs, rfl, hf⟩, Le.refl _⟩ ?_ ?_
    · intro j x Γn hx hI
      obtain ⟨kvs, rfl, hf⟩ := hI
      obtain ⟨hj, rfl⟩ := get_rg0 hx
      have hjn : j ≤ n := by omega
      have hl := hf.len
      refine ⟨_, _, gg_name, ?_⟩
      refine run_seq (run_asg (x := .int (1 - 2 * rsum h r j)) (g_is (g_sub g_int (g_mul g_int (g_sum (ns := rowI j (sgn h r)) (g_is (g_slice (g_ixL (g_var rfl rfl) (g_var rfl rfl) (at_M (by omega) (by omega))) go_none (go_some (g_var rfl rfl))) ?_)) (.inl ⟨by decide, by decide⟩))) ?_) ?_)
      · rw [cutTo (by rw [dRow_len]; exact hjn), take_row hjn, dRow_rowI]
      · rw [rowI_sum (fun z => rsum h r z) (v.rsum0 (by omega) (by omega)) fun z hz => v.rsumS (by omega) (by omega) (by omega) (by omega)]
      refine run_seq (run_dput rfl (b := wv h (2 * (r : Int) + 1, 2 * (j : Int))) (g_is (g_eqB (g_eqI (g_var rfl rfl) g_int) (g_eqI (g_mod (g_add (g_var rfl rfl) (g_var rfl rfl)) g_int (by decide)) g_int)) ?_) (g_tup (ga_cons (g_add (g_mul g_int (g_var rfl rfl) (.inl ⟨by decide, by decide⟩)) g_int) (ga_cons (g_mul g_int (g_var rfl rfl) (.inl ⟨by decide, by decide⟩)) ga_nil))) (by omega) ?_)
      · rw [wv_v h rfl rfl, dec_beq]
        have := v.rsum2 (r := r) (j := j) (by omega) (by omega) (by omega) (by omega)
        exact congrArg (fun z => Dt.bl (z == _)) (dec_iff (by omega))
      refine run_seq (run_asg (x := .int (2 * csum h j r - 1)) (g_is (g_sub (g_mul g_int (g_sum (ns := rowI j (fun m => sgn h m r)) (g_is (gn_f (gn_lc0 (ts := [6]) (w := fun z => .int (sgn h z r)) (gi_rng1 (ga_cons (g_var rfl rfl) ga_nil)) ?_ (by simp) fun z x hx => ?_)) ?_)) (.inl ⟨by decide, by decide⟩)) g_int) ?_) ?_)
      · rw [rgD_len]; omega
      · obtain ⟨hz, rfl⟩ := get_rg0 hx
        exact ⟨_, gg_name, g_sc (g_ixL (g_ixL (g_var rfl rfl) (g_var rfl rfl) (at_M (by omega) (by omega))) (g_var rfl rfl) (at_row (by omega) (by omega)))⟩
      · rw [rgD_len, Int.toNat_natCast, ← dRow_rowI]
        exact congrArg Dt.lst (lc_row fun z hz => rfl)
      · rw [rowI_sum (fun z => csum h z r) (v.csum0 (by omega) (by omega)) fun z hz => v.csumS (by omega) (by omega) (by omega) (by omega)]
      refine run_dput rfl (b := wv h (2 * (j : Int), 2 * (r : Int) + 1)) (g_is (g_eqB (g_eqI (g_var rfl rfl) g_int) (g_eqI (g_mod (g_add (g_var rfl rfl) (g_var rfl rfl)) g_int (by decide)) g_int)) ?_) (g_tup (ga_cons (g_mul g_int (g_var rfl rfl) (.inl ⟨by decide, by decide⟩)) (ga_cons (g_add (g_mul g_int (g_var rfl rfl) (.inl ⟨by decide, by decide⟩)) g_int) ga_nil))) ?_ ?_
      · rw [wv_h h rfl rfl, dec_beq, Int.add_comm (r : Int) (j : Int)]
        have := v.csum2 (i := j) (c := r) (by omega) (by omega) (by omega) (by omega)
        exact congrArg (fun z => Dt.bl (z == _)) (dec_iff (by omega))
      · have := put_len (kvs := kvs) (k := (2 * (r : Int) + 1, 2 * (j : Int))) (v := wv h (2 * (r : Int) + 1, 2 * (j : Int)))
        omega
      · refine ⟨_, ⟨_, rfl, hf.put hr hjn⟩, ?_⟩
        walk_at "le"
    · intro Γn hI
      obtain ⟨kvs, rfl, hf⟩ := hI
      rw [rgD_len, show ((n : Int) + 1).toNat = n + 1 by omega] at hf
      refine ⟨_, ⟨_, rfl, hf.next hn2⟩, ?_⟩
      walk_at "le"
  · intro Γn hI
    obtain ⟨kvs, rfl, hf⟩ := hI
    rw [rgD_len, Int.toNat_natCast] at hf
    exact run_retDict rfl (hf.wkd hn2) rfl
/-- a place, a side; None or one -/
abbrev tP (p : Ps) : Dt := .tup [.int p.1, .int p.2]
def oP : Option Ps → Dt
  | none => .non
  | some s => tP s
inductive R_law_road_of : List Dt → Dt → Prop
  | mk {n : Nat} {k : Int} (hn : 1 ≤ n) (hm : n ≤ 12) (h0 : 0 ≤ k) (h1 : k < 4 * n) : R_law_road_of [.int n, tP (sidP n k)] (.int k)
theorem sc__law_road_of : FnScope ["_law_n", "_law_side"] ["_law_n", "_law_side"] (defScope s__law_road_of) := ⟨rfl, rfl, rfl, by decide +kernel, rfl, by decide +kernel, by decide +kernel⟩
theorem ok_law_road_of (h : Fs K mg "_law_road_of" s__law_road_of) (T : Tx mg)  : CallS Pg w K mg base 1 "_law_road_of" ["_law_n", "_law_side"] (spD K R_law_road_of) := by
  obtain ⟨a, fd, F, gm⟩ := h
  refine ⟨a, fd, of_data F sc__law_road_of (fun ds y h => by cases h; rfl) (fun cdv A outer s H E hr => ⟨_,
    (pss_cons (ps_if (pt_cmpR op_eq (pe_ix (ix_tupK K) (pv 1) pe_int (fun _ _ => rfl)) pe_int (nomark _))
    (pss_one (ps_ret (pe_op op_fdiv (pe_ix (ix_tupK K) (pv 1) pe_int (fun _ _ => rfl)) pe_int)))
    pss_nil)
    (pss_cons (ps_if (pt_cmpR op_eq (pe_ix (ix_tupK K) (pv 1) pe_int (fun _ _ => rfl)) (pe_op op_mul pe_int (pv 0)) (nomark _))
    (pss_one (ps_ret (pe_op op_add (pv 0) (pe_op op_fdiv (pe_ix (ix_tupK K) (pv 1) pe_int (fun _ _ => rfl)) pe_int))))
    pss_nil)
    (pss_cons (ps_if (pt_cmpR op_eq (pe_ix (ix_tupK K) (pv 1) pe_int (fun _ _ => rfl)) (pe_op op_mul pe_int (pv 0)) (nomark _))
    (pss_one (ps_ret (pe_op op_sub (pe_op op_sub (pe_op op_mul pe_int (pv 0)) pe_int) (pe_op op_fdiv (pe_ix (ix_tupK K) (pv 1) pe_int (fun _ _ => rfl)) pe_int))))
    pss_nil)
    (pss_one (ps_ret (pe_op op_sub (pe_op op_sub (pe_op op_mul pe_int (pv 0)) pe_int) (pe_op op_fdiv (pe_ix (ix_tupK K) (pv 1) pe_int (fun _ _ => rfl)) pe_int))))))),
    fun ds y h => ?_⟩), gm, F.kp, FunD.bindsN F fun _ _ _ _ _ _ us hl => match us, hl with | [_, _], _ => rfl⟩
  cases h with
  | @mk n k hn hm h0 h1 =>
  have at0 : ∀ s : Ps, L2.atI [Dt.int s.1, .int s.2] 0 = some (.int s.1) := fun s => rfl
  have at1 : ∀ s : Ps, L2.atI [Dt.int s.1, .int s.2] 1 = some (.int s.2) := fun s => rfl
  refine run_seq (run_if (gt_test (g_eqI (g_ixTs (g_var rfl rfl) g_int (at0 _)) g_int)) (fun hb => ?_) (fun hb => run_next ?_))
  · refine run_ret (g_fdiv (g_ixTs (g_var rfl rfl) g_int (at1 _)) g_int ⟨by decide, by decide⟩) ?_
    have hb := of_decide_eq_true hb
    show Dt.int _ = Dt.int _
    refine congrArg Dt.int ?_
    rcases four n k with a | a | a | a
    · rw [(pU a).1]; simp; omega
    · rw [(pR a.1 a.2).1] at hb; simp at hb; omega
    · rw [(pD a.1 a.2).1] at hb; simp at hb; omega
    · rw [(pL a).1] at hb; simp at hb; omega
  have hb := of_decide_eq_false hb
  have ha : (n : Int) ≤ k := by
    rcases four n k with a | a | a | a
    · rw [(pU a).1] at hb; exact absurd rfl hb
    · omega
    · omega
    · omega
  refine run_seq (run_if (gt_test (g_eqI (g_ixTs (g_var rfl rfl) g_int (at1 _)) (g_mul g_int (g_var rfl rfl) (.inl ⟨by decide, by decide⟩)))) (fun hb => ?_) (fun hb => run_next ?_))
  · refine run_ret (g_add (g_var rfl rfl) (g_fdiv (g_ixTs (g_var rfl rfl) g_int (at0 _)) g_int ⟨by decide, by decide⟩)) ?_
    have hb := of_decide_eq_true hb
    show Dt.int _ = Dt.int _
    refine congrArg Dt.int ?_
    rcases four n k with a | a | a | a
    · omega
    · rw [(pR a.1 a.2).1]; simp; omega
    · rw [(pD a.1 a.2).1] at hb; simp at hb; omega
    · rw [(pL a).1] at hb; simp at hb; omega
  have hb := of_decide_eq_false hb
  have ha2 : 2 * (n : Int) ≤ k := by
    rcases four n k with a | a | a | a
    · omega
    · rw [(pR a.1 a.2).1] at hb; exact absurd rfl hb
    · omega
    · omega
  refine run_seq (run_if (gt_test (g_eqI (g_ixTs (g_var rfl rfl) g_int (at0 _)) (g_mul g_int (g_var rfl rfl) (.inl ⟨by decide, by decide⟩)))) (fun hb => ?_) (fun hb => run_next ?_))
  · refine run_ret (g_sub (g_sub (g_mul g_int (g_var rfl rfl) (.inl ⟨by decide, by decide⟩)) g_int) (g_fdiv (g_ixTs (g_var rfl rfl) g_int (at1 _)) g_int ⟨by decide, by decide⟩)) ?_
    have hb := of_decide_eq_true hb
    show Dt.int _ = Dt.int _
    refine congrArg Dt.int ?_
    rcases four n k with a | a | a | a
    · omega
    · omega
    · rw [(pD a.1 a.2).1]; simp; omega
    · rw [(pL a).1] at hb; simp at hb; omega
  have hb := of_decide_eq_false hb
  have ha3 : 3 * (n : Int) ≤ k := by
    rcases four n k with a | a | a | a
    · omega
    · omega
    · rw [(pD a.1 a.2).1] at hb; exact absurd rfl hb
    · omega
  refine run_ret (g_sub (g_sub (g_mul g_int (g_var rfl rfl) (.inl ⟨by decide, by decide⟩)) g_int) (g_fdiv (g_ixTs (g_var rfl rfl) g_int (at0 _)) g_int ⟨by decide, by decide⟩)) ?_
  show Dt.int _ = Dt.int _
  refine congrArg Dt.int ?_
  rw [(pL ha3).1]; simp; omega
theorem nxt_at {W : Col} {c : Bool} {came : Option Ps} {p : Ps} {d : Fin 4} (h : okD W c came p d = true) (no : ∀ d' : Fin 4, d'.val < d.val → okD W c came p d' = false) : nxt W c came p = (some (sd p d), nb p d) := by
  unfold nxt
  match d, h, no with
  | 0, h, _ => rw [if_pos h]
  | 1, h, no => rw [if_neg (by rw [no 0 (by decide)]; decide), if_pos h]
  | 2, h, no => rw [if_neg (by rw [no 0 (by decide)]; decide), if_neg (by rw [no 1 (by decide)]; decide), if_pos h]
  | 3, h, no => rw [if_neg (by rw [no 0 (by decide)]; decide), if_neg (by rw [no 1 (by decide)]; decide), if_neg (by rw [no 2 (by decide)]; decide), if_pos h]
theorem eqv_oP (s : Ps) (o : Option Ps) : PyData.eqv (tP s).py (oP o).py = decide (o = some s) := by
  cases o with
  | none => rfl
  | some t =>
    obtain ⟨a, b⟩ := s
    obtain ⟨x, y⟩ := t
    show (a == x && (b == y && true)) = _
    rw [Bool.and_true]
    by_cases h1 : a = x
    · by_cases h2 : b = y
      · subst h1 h2; simp
      · rw [decide_eq_false fun z => h2 (by cases z; rfl), beq_eq_false_iff_ne.mpr h2, Bool.and_false]
    · rw [decide_eq_false fun z => h1 (by cases z; rfl), beq_eq_false_iff_ne.mpr h1, Bool.false_and]
theorem oP_pl (o : Option Ps) : (oP o).pl = true := by cases o <;> rfl
theorem oP_sh (o : Option Ps) : SeqAt.shaped (oP o).py = true := by cases o <;> rfl
inductive R_law_next : List Dt → Dt → Prop
  | mk {kvs : Kv} {W : Col} {p : Ps} {came : Option Ps} {c : Bool} (hW : ∀ s, lookD kvs s = W s) (h4 : ∀ d, (W (sd p d)).isSome = true) (hd : ∃ d, okD W c came p d = true) : R_law_next [.dic kvs, tP p, oP came, .bl c] (.tup [oP (nxt W c came p).1, tP (nxt W c came p).2])
theorem sc__law_next : FnScope ["_law_sides", "_law_place", "_law_came", "_law_full", "_law_step", "_law_side"] ["_law_sides", "_law_place", "_law_came", "_law_full"] (defScope s__law_next) := ⟨rfl, rfl, rfl, by decide +kernel, rfl, by decide +kernel, by decide +kernel⟩
theorem ok_law_next (h : Fs K mg "_law_next" s__law_next) (T : Tx mg)  : CallS Pg w K mg base 1 "_law_next" ["_law_sides", "_law_place", "_law_came", "_law_full"] (spD K R_law_next) := by
  obtain ⟨a, fd, F, gm⟩ := h
  refine ⟨a, fd, of_data F sc__law_next (fun ds y h => by cases h; rfl) (fun cdv A outer s H E hr => ⟨_,
    (pss_cons (ps_for PassesOwn.never rfl (pi_tup (pe_tup (pa_cons (pe_tup (pa_cons (pe_un un_neg pe_int) (pa_cons pe_int pa_nil))) (pa_cons (pe_tup (pa_cons pe_int (pa_cons pe_int pa_nil))) (pa_cons (pe_tup (pa_cons pe_int (pa_cons pe_int pa_nil))) (pa_cons (pe_tup (pa_cons pe_int (pa_cons (pe_un un_neg pe_int) pa_nil))) pa_nil)))))) (pg_name (i := 4) sc__law_next.nd rfl (Or.inl rfl))
    (pss_cons (ps_set (i := 5) sc__law_next.nd rfl (Or.inl rfl) (pe_tup (pa_cons (pe_op op_add (pe_ix (ix_tupK K) (pv 1) pe_int (fun _ _ => rfl)) (pe_ix (ix_tupK K) (pv 4) pe_int (fun _ _ => rfl))) (pa_cons (pe_op op_add (pe_ix (ix_tupK K) (pv 1) pe_int (fun _ _ => rfl)) (pe_ix (ix_tupK K) (pv 4) pe_int (fun _ _ => rfl))) pa_nil))))
    (pss_one (ps_if (PW.pt (pw_and (pt_cmpR (op_neD hr.units) (pv 5) (pv 2) (nomark _)) (pw_and1 (pt_cmpR op_eq (pe_dget (hu_of hr) (pv 0) (pv 5) (fun _ _ => rfl)) (pv 3) (nomark _)))))
    (pss_one (ps_ret (pe_tup (pa_cons (pv 5) (pa_cons (pe_tup (pa_cons (pe_op op_add (pe_ix (ix_tupK K) (pv 5) pe_int (fun _ _ => rfl)) (pe_ix (ix_tupK K) (pv 4) pe_int (fun _ _ => rfl))) (pa_cons (pe_op op_add (pe_ix (ix_tupK K) (pv 5) pe_int (fun _ _ => rfl)) (pe_ix (ix_tupK K) (pv 4) pe_int (fun _ _ => rfl))) pa_nil))) pa_nil)))))
    pss_nil))))
    (pss_one (ps_ret (pe_tup (pa_cons (pv 2) (pa_cons (pv 1) pa_nil)))))),
    fun ds y h => ?_⟩), gm, F.kp, FunD.bindsN F fun _ _ _ _ _ _ us hl => match us, hl with | [_, _, _, _], _ => rfl⟩
  cases h with
  | @mk kvs W p came c hW h4 hd =>
  have at0 : ∀ s : Ps, L2.atI [Dt.int s.1, .int s.2] 0 = some (.int s.1) := fun s => rfl
  have at1 : ∀ s : Ps, L2.atI [Dt.int s.1, .int s.2] 1 = some (.int s.2) := fun s => rfl
  -- slots: 0 sides, 1 place, 2 came, 3 full, 4 step, 5 side
  refine run_seq (run_forP (xs := [tP (-1, 0), tP (0, 1), tP (1, 0), tP (0, -1)]) (gi_tup (g_tup (ga_cons (g_tup (ga_cons (g_neg g_int) (ga_cons g_int ga_nil))) (ga_cons (g_tup (ga_cons g_int (ga_cons g_int ga_nil))) (ga_cons (g_tup (ga_cons g_int (ga_cons g_int ga_nil))) (ga_cons (g_tup (ga_cons g_int (ga_cons (g_neg g_int) ga_nil))) ga_nil))))))
    (fun z Γ => Γ = [.d (.dic kvs), .d (tP p), .d (oP came), .d (.bl c), .no, .no] ∧ ∀ d : Fin 4, d.val < z → okD W c came p d = false) ⟨_, ⟨rfl, fun d hd => by omega⟩, Le.refl _⟩ ?_ ?_)
  · intro z x Γn hx hI
    obtain ⟨rfl, hno⟩ := hI
    obtain ⟨d, rfl, rfl⟩ : ∃ d : Fin 4, d.val = z ∧ x = tP (dr d) := by
      match z, hx with
      | 0, hx => exact ⟨0, rfl, (Option.some.inj hx).symm⟩
      | 1, hx => exact ⟨1, rfl, (Option.some.inj hx).symm⟩
      | 2, hx => exact ⟨2, rfl, (Option.some.inj hx).symm⟩
      | 3, hx => exact ⟨3, rfl, (Option.some.inj hx).symm⟩
      | z + 4, hx => simp at hx
    refine ⟨_, _, gg_name, ?_⟩
    refine run_seq (run_asgF (x := tP (sd p d)) (g_tup (ga_cons (g_sc (g_add (g_ixTs (g_var rfl rfl) g_int (at0 p)) (g_ixTs (g_var rfl rfl) g_int (at0 (dr d))))) (ga_cons (g_sc (g_add (g_ixTs (g_var rfl rfl) g_int (at1 p)) (g_ixTs (g_var rfl rfl) g_int (at1 (dr d))))) ga_nil))) ?_)
    obtain ⟨b, hb⟩ := Option.isSome_iff_exists.mp (h4 d)
    have okv : okD W c came p d = (!decide (came = some (sd p d)) && decide (b = c)) := by
      unfold okD
      rw [hb]
      cases b <;> cases c <;> rfl
    refine run_if (b := okD W c came p d) (gt_is (gt_and (gt_test (g_neD (g_var rfl rfl) (g_var rfl rfl) rfl (oP_pl came) rfl (oP_sh came) (eqv_oP (sd p d) came))) fun _ => gt_test (g_eqB (g_dget (p := (sd p d).1) (q := (sd p d).2) (g_var rfl rfl) (g_var rfl rfl) ((hW _).trans hb)) (g_var rfl rfl))) okv.symm) (fun hok => ?_) (fun hok => run_next ?_)
    · refine run_ret (g_tup (ga_cons (g_var rfl rfl) (ga_cons (g_tup (ga_cons (g_sc (g_add (g_ixTs (g_var rfl rfl) g_int (at0 (sd p d))) (g_ixTs (g_var rfl rfl) g_int (at0 (dr d))))) (ga_cons (g_sc (g_add (g_ixTs (g_var rfl rfl) g_int (at1 (sd p d))) (g_ixTs (g_var rfl rfl) g_int (at1 (dr d))))) ga_nil))) ga_nil))) ?_
      show Dt.tup _ = Dt.tup _
      rw [nxt_at hok hno]
      show Dt.tup [tP (sd p d), .tup [.int (p.1 + (dr d).1 + (dr d).1), .int (p.2 + (dr d).2 + (dr d).2)]] = Dt.tup [tP (sd p d), .tup [.int (p.1 + 2 * (dr d).1), .int (p.2 + 2 * (dr d).2)]]
      rw [show p.1 + (dr d).1 + (dr d).1 = p.1 + 2 * (dr d).1 by omega, show p.2 + (dr d).2 + (dr d).2 = p.2 + 2 * (dr d).2 by omega]
    · refine ⟨_, ⟨rfl, fun d' hd' => ?_⟩, ?_⟩
      · by_cases e : d'.val < d.val
        · exact hno d' e
        · rw [show d' = d from Fin.ext (by omega)]
          exact hok
      · walk_at "le"
  · intro Γn hI
    obtain ⟨rfl, hno⟩ := hI
    obtain ⟨d, hd⟩ := hd
    rw [hno d d.isLt] at hd
    cases hd
end
end GY
end
section
set_option Elab.async false
set_option linter.all false
set_option maxRecDepth 100000
set_option maxHeartbeats 4000000
namespace GY
open PySem PySem.Spec PyProof.Rows L2
open Evl (Ex fresh_back)
local macro_rules | `(tactic| walk_at "le") => `(tactic| (repeat (first | exact Le.nil | refine Le.cons (by first | exact SLe.rfl | exact SLe.no | exact SLe.fd | exact SLe.od | exact SLe.of | exact SLe.tf | exact SLe.sc rfl) ?_)))
section
variable {Pg : Program} {w : World} {K : PySem.W.Frag} {mg : Str → Option Value} {base : Heap}
/-- what is known when t sides are done -/
structure WI (n : Nat) (h : Int → Int → Int) (c : Bool) (kvs : Kv) (t : Nat) (ends : List (Int × Int)) (seen : Kv) : Prop where
  lk : ∀ e ∈ ends, Lk n (Wh n h) c e.1 e.2
  dn : ∀ (z : Nat) (k : Int) (b : Bool), z < t → kvs[z]? = some (sidP n k, b) → 0 ≤ k → k < 4 * n → Wh n h (sidP n k) = some c → (lookK ends (k / 2)).isSome = true ∧ ∀ p, Ins n p → Conn (Wh n h) c (outP n k) p → (lookD seen p).isSome = true
  sn : ∀ p, (lookD seen p).isSome = true → Ins n p ∧ ∃ o, Out n o ∧ Conn (Wh n h) c p o
  l1 : ends.length ≤ t
  l2 : seen.length ≤ 150 * t
section
variable {n : Nat} {h : Int → Int → Int} {c : Bool} {kvs : Kv} {t : Nat} {ends : List (Int × Int)} {seen seen' : Kv}
theorem WI.nil : WI n h c kvs 0 [] [] := ⟨fun _ z => (nomatch z), fun _ _ _ z => absurd z (Nat.not_lt_zero _), fun _ z => (by cases z), Nat.le_refl _, Nat.le_refl _⟩
theorem WI.skip (w : WI n h c kvs t ends seen) (no : ∀ (k : Int) (b : Bool), kvs[t]? = some (sidP n k, b) → 0 ≤ k → k < 4 * n → Wh n h (sidP n k) = some c → False) : WI n h c kvs (t + 1) ends seen := by
  refine ⟨w.lk, fun z k b hz hk h0 h1 hc => ?_, w.sn, by have := w.l1; omega, by have := w.l2; omega⟩
  by_cases e : z < t
  · exact w.dn z k b e hk h0 h1 hc
  · rw [show z = t by omega] at hk
    exact (no k b hk h0 h1 hc).elim
theorem WI.road (v : HV n h) (w : WI n h c kvs t ends seen) {k k2 : Int} {b : Bool} {m : Nat} (hk : kvs[t]? = some (sidP n k, b)) (h0 : 0 ≤ k) (h1 : k < 4 * n) (hc : c = decide (k % 2 = 0)) (q0 : 0 ≤ k2) (q1 : k2 < 4 * n) (q2 : k2 % 2 = k % 2) (q3 : k2 ≠ k)
    (hm : m ≤ 144) (ins : ∀ j, j < m → Ins n (rX n (Wh n h) c k j).2) (cl : ∀ y, Conn (Wh n h) c (outP n k) y ↔ y = outP n k ∨ y = outP n k2 ∨ ∃ j, j < m ∧ y = (rX n (Wh n h) c k j).2)
    (hs : ∀ p, (lookD seen' p).isSome = true ↔ (lookD seen p).isSome = true ∨ ∃ j, j < m ∧ p = (rX n (Wh n h) c k j).2) (hl : seen'.length ≤ seen.length + m) : WI n h c kvs (t + 1) (putD ends (k / 2) (k2 / 2)) seen' := by
  have hn := v.pos
  have g := (cl (outP n k2)).mpr (.inr (.inl rfl))
  refine ⟨fun e he => ?_, fun z k' b' hz hk' h0' h1' hc' => ?_, fun p hp => ?_, ?_, ?_⟩
  · rcases mem_put he with he | rfl
    · exact w.lk e he
    · exact Lk.of q0 q1 q2 q3 hc g
  · rw [lookK_put]
    by_cases e : z < t
    · obtain ⟨a, d⟩ := w.dn z k' b' e hk' h0' h1' hc'
      exact ⟨.inr a, fun p hp gp => (hs p).mpr (.inl (d p hp gp))⟩
    · rw [show z = t by omega, hk] at hk'
      have ek : k = k' := sidP_inj hn h0 h1 h0' h1' (congrArg Prod.fst (Option.some.inj hk'))
      subst ek
      refine ⟨.inl rfl, fun p hp gp => (hs p).mpr (.inr ?_)⟩
      rcases (cl p).mp gp with rfl | rfl | z
      · exact absurd hp (road_ok hn h0 h1).2.1.2.1
      · exact absurd hp (road_ok hn q0 q1).2.1.2.1
      · exact z
  · rcases (hs p).mp hp with z | ⟨j, hj, rfl⟩
    · exact w.sn p z
    · exact ⟨ins j hj, outP n k, (road_ok hn h0 h1).2.1, ((cl _).mpr (.inr (.inr ⟨j, hj, rfl⟩))).symm⟩
  · have := put_len (kvs := ends) (k := k / 2) (v := k2 / 2)
    have := w.l1
    omega
  · have := w.l2
    omega
theorem WI.done (v : HV n h) (hk : Wkd n h kvs) (w : WI n h c kvs kvs.length ends seen) : (∀ k : Int, 0 ≤ k → k < 2 * n → lookK ends k = some (lnkF n (Wh n h) c k)) ∧ seen.length ≤ 50000 ∧
    ∀ p, (lookD seen p).isSome = true ↔ Ins n p ∧ ∃ o, Out n o ∧ Conn (Wh n h) c p o := by
  have hn := v.pos
  have at_ : ∀ {K : Int}, 0 ≤ K → K < 4 * n → Wh n h (sidP n K) = some c → ∃ z b, z < kvs.length ∧ kvs[z]? = some (sidP n K, b) := fun {K} h0 h1 hc => by
    obtain ⟨e, e1, e2, e3⟩ := look_mem ((hk.1 _).trans hc)
    obtain ⟨z, hz⟩ := List.getElem?_of_mem e1
    exact ⟨z, e.2, (List.getElem?_eq_some_iff.mp hz).1, by rw [hz, ← e2]⟩
  refine ⟨fun k h0 h1 => ?_, by have := w.l2; have := hk.2.1; omega, fun p => ⟨w.sn p, fun ⟨ins, o, ho, g⟩ => ?_⟩⟩
  · obtain ⟨bc, hc⟩ := btc_at c k
    have hw : Wh n h (sidP n (2 * k + btc c)) = some c := by
      have := v.road_col (k := 2 * k + btc c) (by omega) (by omega)
      rw [← hc] at this
      exact this
    obtain ⟨z, b, hz, hb⟩ := at_ (by omega) (by omega) hw
    have yes := (w.dn z _ b hz hb (by omega) (by omega) hw).1
    rw [show (2 * k + btc c) / 2 = k by omega] at yes
    obtain ⟨j, hj⟩ := Option.isSome_iff_exists.mp yes
    rw [hj, lnk_of v h0 h1 (w.lk _ (lookK_mem hj))]
  · obtain ⟨k, h0, h1, rfl, hw⟩ := out_conn v.flo ins ho g
    obtain ⟨z, b, hz, hb⟩ := at_ h0 h1 hw
    exact (w.dn z k b hz hb h0 h1 hw).2 p ins g.symm
end
def WaysS (n : Nat) (h : Int → Int → Int) (c : Bool) (sides seen : Kv) : Prop := (∀ s, lookD sides s = Wh n h s) ∧ seen.length ≤ 50000 ∧ ∀ p, (lookD seen p).isSome = true ↔ Ins n p ∧ ∃ o, Out n o ∧ Conn (Wh n h) c p o
inductive R_law_ways : List Dt → Rm → Prop
  | mk {n : Nat} {h : Int → Int → Int} (v : HV n h) (c : Bool) : R_law_ways [.lst (dM n n (sgn h)), .bl c] (.ways (dRow (2 * n) (lnkF n (Wh n h) c)) (WaysS n h c))
theorem ins_dec {n : Nat} {p : Ps} (o : Od p) : ((decide (0 < p.1) && decide (p.1 < 2 * (n : Int))) && (decide (0 < p.2) && decide (p.2 < 2 * (n : Int)))) = true ↔ Ins n p := by
  rw [Bool.and_eq_true, Bool.and_eq_true, Bool.and_eq_true, decide_eq_true_iff, decide_eq_true_iff, decide_eq_true_iff, decide_eq_true_iff]
  exact ⟨fun z => ⟨o, z.1.1, z.1.2, z.2.1, z.2.2⟩, fun z => ⟨⟨z.2.1, z.2.2.1⟩, z.2.2.2.1, z.2.2.2.2⟩⟩
theorem sc__law_ways : FnScope ["_law_state", "_law_full", "_law_n", "_law_sides", "_law_ends", "_law_seen", "_law_side", "_law_place", "_law_end", "_law_k"] ["_law_state", "_law_full"] (defScope s__law_ways) := ⟨rfl, rfl, rfl, by decide +kernel, rfl, by decide +kernel, by decide +kernel⟩
theorem ok_law_ways (h : Fs K mg "_law_ways" s__law_ways) (T : Tx mg) (c_law_walked : CallS Pg w K mg base 1 "_law_walked" ["_law_state"] (spR K R_law_walked)) (c_law_road_of : CallS Pg w K mg base 1 "_law_road_of" ["_law_n", "_law_side"] (spD K R_law_road_of)) (c_law_next : CallS Pg w K mg base 1 "_law_next" ["_law_sides", "_law_place", "_law_came", "_law_full"] (spD K R_law_next)) : CallS Pg w K mg base 2 "_law_ways" ["_law_state", "_law_full"] (spR K R_law_ways) := by
  obtain ⟨a, fd, F, gm⟩ := h
  refine ⟨a, fd, of_dataR F sc__law_ways (fun ds y h => by cases h; rfl) (fun cdv A outer s H E hr => ⟨_,
    (pss_cons (ps_set (i := 2) sc__law_ways.nd rfl (Or.inl rfl) (pe_callB (call_lenK K) (by rfl) T.len PySem.boot_len (pa_cons (pv 0) pa_nil)))
    (pss_cons (ps_set (i := 3) sc__law_ways.nd rfl (Or.inl rfl) (pe_callD c_law_walked hr (by rfl) (pa_cons (pv 0) pa_nil)))
    (pss_cons (ps_set (i := 4) sc__law_ways.nd rfl (Or.inr rfl) pe_dnewK)
    (pss_cons (ps_set (i := 5) sc__law_ways.nd rfl (Or.inl rfl) pe_dnewT)
    (pss_cons (ps_lock (ps_for PassesOwn.never rfl (pi_keys (pv 3)) (pg_name (i := 6) sc__law_ways.nd rfl (Or.inl rfl))
    (pss_one (ps_if (PW.pt (pw_or (pt_cmpR (op_inK K) pe_int (pv 6) (by rfl)) (pw_or1 (pt_cmpR (op_inK K) (pe_op op_mul pe_int (pv 2)) (pv 6) (by rfl)))))
    (pss_one (ps_if (pt_cmpR op_eq (pe_dget (hu_of hr) (pv 3) (pv 6) (fun _ _ => rfl)) (pv 1) (nomark _))
    (pss_cons (ps_set (i := 7) sc__law_ways.nd rfl (Or.inl rfl) (pe_tup (pa_cons (pe_callB (call_min2 rfl) (by rfl) T.min (by decide +kernel) (pa_cons (pe_callB (call_max2 rfl) (by rfl) T.max (by decide +kernel) (pa_cons (pe_ix (ix_tupK K) (pv 6) pe_int (fun _ _ => rfl)) (pa_cons pe_int pa_nil))) (pa_cons (pe_op op_sub (pe_op op_mul pe_int (pv 2)) pe_int) pa_nil))) (pa_cons (pe_callB (call_min2 rfl) (by rfl) T.min (by decide +kernel) (pa_cons (pe_callB (call_max2 rfl) (by rfl) T.max (by decide +kernel) (pa_cons (pe_ix (ix_tupK K) (pv 6) pe_int (fun _ _ => rfl)) (pa_cons pe_int pa_nil))) (pa_cons (pe_op op_sub (pe_op op_mul pe_int (pv 2)) pe_int) pa_nil))) pa_nil))))
    (pss_cons (ps_set (i := 8) sc__law_ways.nd rfl (Or.inl rfl) (pv 6))
    (pss_cons (ps_while PassesOwn.never (PW.pt (pw_and (pt_chain op_lt op_lt pe_int (pe_ix (ix_tupK K) (pv 7) pe_int (fun _ _ => rfl)) (pe_op op_mul pe_int (pv 2))) (pw_and1 (pt_chain op_lt op_lt pe_int (pe_ix (ix_tupK K) (pv 7) pe_int (fun _ _ => rfl)) (pe_op op_mul pe_int (pv 2))))))
    (pss_cons (ps_dput (hu_of hr) (pv 5) (pv 7) pe_bl rfl)
    (pss_one (ps_asg (pe_callD c_law_next hr (by rfl) (pa_cons (pv 3) (pa_cons (pv 7) (pa_cons (pv 8) (pa_cons (pv 1) pa_nil))))) (pg_tupK K (n := 2) rfl (pgs_cons (pg_name (i := 8) sc__law_ways.nd rfl (Or.inl rfl)) (pgs_cons (pg_name (i := 7) sc__law_ways.nd rfl (Or.inl rfl)) pgs_nil)))))))
    (pss_one (ps_dput (hu_of hr) (pv 4) (pe_op op_fdiv (pe_callD c_law_road_of hr (by rfl) (pa_cons (pv 2) (pa_cons (pv 6) pa_nil))) pe_int) (pe_op op_fdiv (pe_callD c_law_road_of hr (by rfl) (pa_cons (pv 2) (pa_cons (pv 8) pa_nil))) pe_int) rfl)))))
    pss_nil))
    pss_nil))))
    (pss_one (ps_ret (pe_tup (pa_cons (pe_lc (own := [("_law_k", 9)]) rfl sc__law_ways.nd (pi_range1 (by rfl) T.range (pa_cons (pe_op op_mul pe_int (pv 2)) pa_nil)) (blkOk_by (by kernel_rfl)) (fun _ _ _ _ _ => pg_name (i := 9) sc__law_ways.nd rfl (Or.inl rfl)) (fun _ _ _ _ _ => pts_nil) (fun _ _ _ _ _ => (pe_dget (hu_of hr) (pv 4) (pv 9) (fun _ _ => rfl)))) (pa_cons (pv 3) (pa_cons (pv 5) pa_nil))))))))))),
    fun ds y h => ?_⟩), gm, F.kp, FunD.bindsN F fun _ _ _ _ _ _ us hl => match us, hl with | [_, _], _ => rfl⟩
  cases h with
  | @mk n h v c =>
  have hn := v.pos
  have hn2 := v.le
  have F := v.flo
  have at0 : ∀ s : Ps, L2.atI [Dt.int s.1, .int s.2] 0 = some (.int s.1) := fun s => rfl
  have at1 : ∀ s : Ps, L2.atI [Dt.int s.1, .int s.2] 1 = some (.int s.2) := fun s => rfl
  -- slots: 0 state, 1 full, 2 n, 3 sides, 4 ends, 5 seen, 6 side, 7 place, 8 end, 9 k
  refine run_seq (run_asg (x := .int n) (g_is (g_len (g_var rfl rfl)) (by rw [dM_len])) ?_)
  refine run_seq (run_callDict (ga_cons (g_var rfl rfl) ga_nil) (.mk v) fun kvs hk => ?_)
  refine run_seq (run_newK ?_)
  refine run_seq (run_newT ?_)
  refine run_seq (run_keys rfl (fun s t Γ => ∃ ends seen, Γ = [.d (.lst (dM n n (sgn h))), .d (.bl c), .d (.int n), s, .dK ends, .dT seen, .no, .no, .no, .no] ∧ WI n h c kvs t ends seen) (fun s t Γn ⟨_, _, e, _⟩ => by rw [e]; rfl) (fun s s' t Γn ⟨a, b, e, w⟩ => ⟨a, b, by rw [e]; rfl, w⟩) ⟨[], [], rfl, WI.nil⟩ ?_ ?_)
  · intro p w t a b bl Γn ht hI
    obtain ⟨ends, seen, rfl, wi⟩ := hI
    refine ⟨_, _, gg_name, ?_⟩
    have hw : Wh n h (a, b) = some bl := hk.2.2 _ (List.mem_of_getElem? ht)
    have hkl := hk.2.1
    have htl := (List.getElem?_eq_some_iff.mp ht).1
    have l1 := wi.l1
    have l2 := wi.l2
    refine run_if (gt_or (gt_test (g_inT (ns := [a, b]) false g_int (g_var rfl rfl))) fun _ => gt_test (g_inT (ns := [a, b]) false (g_mul g_int (g_var rfl rfl) (.inl ⟨by decide, by decide⟩)) (g_var rfl rfl))) (fun hb => ?_) (fun hb => run_next ?_)
    · obtain ⟨k, h0, h1, rfl, rfl⟩ := rim_is (s := (a, b)) (F.sid hw) (by
        rcases Bool.or_eq_true_iff.mp hb with z | z
        · have := of_decide_eq_true z
          rcases List.mem_cons.mp this with z | z
          · exact .inl z.symm
          · exact .inr (.inl (List.mem_singleton.mp z).symm)
        · have := of_decide_eq_true z
          rcases List.mem_cons.mp this with z | z
          · exact .inr (.inr (.inl z.symm))
          · exact .inr (.inr (.inr (List.mem_singleton.mp z).symm)))
      refine run_if (gt_test (g_eqB (g_dget (p := (sidP n k).1) (q := (sidP n k).2) (g_var rfl rfl) (g_var rfl rfl) ((hk.1 _).trans hw)) (g_var rfl rfl))) (fun hb2 => ?_) (fun hb2 => run_next ?_)
      · have ec : bl = c := of_decide_eq_true hb2
        subst ec
        have hc : bl = decide (k % 2 = 0) := by
          have := v.road_col h0 h1
          exact Option.some.inj (hw.symm.trans this)
        obtain ⟨m, m1, m2, m3, k2, q0, q1, q2, q3, mx, cl⟩ := road_walk v h0 h1 hc
        have nn : n * n ≤ 144 := Nat.mul_le_mul hn2 hn2
        obtain ⟨cl1, cl2⟩ := clamp_ok hn h0 h1
        refine run_seq (run_asg (x := tP (insP n k)) (g_is (g_tup (ga_cons (g_min (g_max (g_ixTs (g_var rfl rfl) g_int (at0 (sidP n k))) g_int) (g_sub (g_mul g_int (g_var rfl rfl) (.inl ⟨by decide, by decide⟩)) g_int)) (ga_cons (g_min (g_max (g_ixTs (g_var rfl rfl) g_int (at1 (sidP n k))) g_int) (g_sub (g_mul g_int (g_var rfl rfl) (.inl ⟨by decide, by decide⟩)) g_int)) ga_nil))) ?_) ?_)
        · show Dt.tup [.int (clampI n (sidP n k).1), .int (clampI n (sidP n k).2)] = _
          rw [cl1, cl2]
        refine run_seq (run_asg (g_var rfl rfl) ?_)
        refine run_seq (run_while (fun mm Γ => ∃ i seen', i ≤ m ∧ mm = m - i ∧ Γ = [.d (.lst (dM n n (sgn h))), .d (.bl bl), .d (.int n), .lk p w kvs, .dK ends, .dT seen', .d (tP (sidP n k)), .d (tP (rX n (Wh n h) bl k i).2), .d (oP (rX n (Wh n h) bl k i).1), .no] ∧
          (∀ y, (lookD seen' y).isSome = true ↔ (lookD seen y).isSome = true ∨ ∃ j, j < i ∧ y = (rX n (Wh n h) bl k j).2) ∧ seen'.length ≤ seen.length + i) m ⟨0, seen, Nat.zero_le _, rfl, rfl, fun y => ⟨.inl, fun z => z.elim id fun ⟨j, hj, _⟩ => absurd hj (Nat.not_lt_zero j)⟩, Nat.le_refl _⟩ ?_)
        rintro mm Γ' ⟨i, seen', hi, rfl, rfl, hs, hl⟩
        have od : Od (rX n (Wh n h) bl k i).2 := by
          by_cases e : i < m
          · exact (m2 i e).1
          · rw [show i = m by omega, mx]
            exact (road_ok hn q0 q1).2.1.1
        refine ⟨_, gt_and (gt_test (g_chain g_int (g_ixTs (g_var rfl rfl) g_int (at0 (rX n (Wh n h) bl k i).2)) fun _ => g_mul g_int (g_var rfl rfl) (.inl ⟨by decide, by decide⟩))) fun _ => gt_test (g_chain g_int (g_ixTs (g_var rfl rfl) g_int (at1 (rX n (Wh n h) bl k i).2)) fun _ => g_mul g_int (g_var rfl rfl) (.inl ⟨by decide, by decide⟩)), fun hb => ?_, fun hb => ?_⟩
        · have ins : Ins n (rX n (Wh n h) bl k i).2 := (ins_dec od).mp hb
          have il : i < m := by
            rcases Nat.lt_or_ge i m with z | z
            · exact z
            · rw [show i = m by omega] at ins
              exact absurd ins m3
          refine run_seq (run_dput (p := (rX n (Wh n h) bl k i).2.1) (q := (rX n (Wh n h) bl k i).2.2) rfl g_bl (g_var rfl rfl) (by omega) ?_)
          refine run_asgG (g_call (ga_cons (g_var rfl rfl) (ga_cons (g_var rfl rfl) (ga_cons (g_var rfl rfl) (ga_cons (g_var rfl rfl) ga_nil)))) (.mk (W := Wh n h) hk.1 (fun d => tt_some (F.two _ ins) d) (road_okD F hw m2 il))) gg_two ?_
          refine ⟨m - (i + 1), by omega, i + 1, _, il, rfl, rfl, fun y => ?_, ?_⟩
          · rw [look_put, hs y]
            constructor
            · rintro (z | z | ⟨j, hj, z⟩)
              · exact .inr ⟨i, by omega, z⟩
              · exact .inl z
              · exact .inr ⟨j, by omega, z⟩
            · rintro (z | ⟨j, hj, z⟩)
              · exact .inr (.inl z)
              · by_cases e : j < i
                · exact .inr (.inr ⟨j, e, z⟩)
                · exact .inl (by rw [z, show j = i by omega])
          · have := put_len (kvs := seen') (k := ((rX n (Wh n h) bl k i).2.1, (rX n (Wh n h) bl k i).2.2)) (v := true)
            omega
        · have im : i = m := by
            rcases Nat.lt_or_ge i m with z | z
            · have := (ins_dec od).mpr (m2 i z)
              rw [hb] at this
              cases this
            · omega
          subst im
          rw [mx]
          refine run_dputK rfl (g_fdiv (g_call (ga_cons (g_var rfl rfl) (ga_cons (g_var rfl rfl) ga_nil)) (.mk hn hn2 q0 q1)) g_int ⟨by decide, by decide⟩) (g_fdiv (g_call (ga_cons (g_var rfl rfl) (ga_cons (g_var rfl rfl) ga_nil)) (.mk hn hn2 h0 h1)) g_int ⟨by decide, by decide⟩) (by omega) ?_
          refine ⟨_, ⟨_, _, rfl, wi.road v ht h0 h1 hc q0 q1 q2 q3 (by omega) m2 cl hs hl⟩, ?_⟩
          walk_at "le"
      · refine ⟨_, ⟨_, _, rfl, wi.skip fun k' b' hk' h0' h1' hc' => ?_⟩, ?_⟩
        · have e1 := congrArg Prod.fst (Option.some.inj (ht.symm.trans hk'))
          have e2 : ((sidP n k).1, (sidP n k).2) = sidP n k' := e1
          rw [e2, hc'] at hw
          exact of_decide_eq_false hb2 (Option.some.inj hw).symm
        · walk_at "le"
    · refine ⟨_, ⟨_, _, rfl, wi.skip fun k' b' hk' h0' h1' hc' => ?_⟩, ?_⟩
      · have e1 : (a, b) = sidP n k' := congrArg Prod.fst (Option.some.inj (ht.symm.trans hk'))
        have r := sid_rim n k'
        rw [← e1] at r
        have no : ¬ ((0 : Int) ∈ [a, b] ∨ (2 * (n : Int)) ∈ [a, b]) := fun z => by
          have : (decide ((0 : Int) ∈ [a, b]) || decide ((2 * (n : Int)) ∈ [a, b])) = true := Bool.or_eq_true_iff.mpr (z.elim (fun z => .inl (decide_eq_true z)) fun z => .inr (decide_eq_true z))
          have hb' : (decide ((0 : Int) ∈ [a, b]) || decide ((2 * (n : Int)) ∈ [a, b])) = false := hb
          rw [hb'] at this
          cases this
        refine no ?_
        rcases r with r | r | r | r
        · exact .inl (by rw [← r]; simp)
        · exact .inl (by rw [← r]; simp)
        · exact .inr (by rw [← r]; simp)
        · exact .inr (by rw [← r]; simp)
      · walk_at "le"
  · intro Γn hI
    obtain ⟨ends, seen, rfl, wi⟩ := hI
    obtain ⟨d1, d2, d3⟩ := wi.done v hk
    refine run_retWays (es := dRow (2 * n) (lnkF n (Wh n h) c)) (g_is (gn_f (gn_lc0 (ts := [9]) (w := fun z => .int (lnkF n (Wh n h) c z)) (gi_rng1 (ga_cons (g_mul g_int (g_var rfl rfl) (.inl ⟨by decide, by decide⟩)) ga_nil)) ?_ (by simp) fun z x hx => ?_)) ?_) rfl rfl (by decide) (S := WaysS n h c) ⟨hk.1, d2, d3⟩ rfl
    · rw [rgD_len]; omega
    · obtain ⟨hz, rfl⟩ := get_rg0 hx
      exact ⟨_, gg_name, g_dgetK rfl (g_var rfl rfl) (d1 z (by omega) (by omega))⟩
    · rw [rgD_len, show (2 * (n : Int)).toNat = 2 * n by omega]
      exact congrArg Dt.lst (lc_row fun z hz => rfl)
end
end GY
end
section
set_option Elab.async false
set_option linter.all false
set_option maxRecDepth 100000
set_option maxHeartbeats 4000000
namespace GY
open PySem PySem.Spec PyProof.Rows L2
open Evl (Ex fresh_back)
local macro_rules | `(tactic| walk_at "le") => `(tactic| (repeat (first | exact Le.nil | refine Le.cons (by first | exact SLe.rfl | exact SLe.no | exact SLe.fd | exact SLe.od | exact SLe.of | exact SLe.tf | exact SLe.sc rfl) ?_)))
section
variable {Pg : Program} {w : World} {K : PySem.W.Frag} {mg : Str → Option Value} {base : Heap}
/-- what is known when the rows ahead of r and j places of row r are looked at -/
structure LI (n : Nat) (h : Int → Int → Int) (c : Bool) (r j : Nat) (T : List Ps) (seen : Kv) : Prop where
  rg : ∀ x ∈ T, Rg n (Wh n h) c x
  ap : ∀ x ∈ T, ∀ y ∈ T, Conn (Wh n h) c x y → x = y
  nd : T.Nodup
  sn : ∀ p, (lookD seen p).isSome = true ↔ Ins n p ∧ ((∃ o, Out n o ∧ Conn (Wh n h) c p o) ∨ ∃ t ∈ T, Conn (Wh n h) c t p)
  sc : ∀ a b : Nat, (a < r ∧ b < n) ∨ (a = r ∧ b < j) → (lookD seen (2 * (a : Int) + 1, 2 * (b : Int) + 1)).isSome = true
  len : seen.length ≤ 50000 + 150 * (12 * r + j)
section
variable {n : Nat} {h : Int → Int → Int} {c : Bool} {r j : Nat} {T : List Ps} {seen seen' sides : Kv}
theorem LI.start (w : WaysS n h c sides seen) : LI n h c 0 0 [] seen := ⟨fun _ z => (nomatch z), fun _ z => (nomatch z), List.nodup_nil, fun p => by
  rw [w.2.2 p]
  exact ⟨fun z => ⟨z.1, .inl z.2⟩, fun z => ⟨z.1, z.2.elim id fun ⟨_, y, _⟩ => (nomatch y)⟩⟩, fun a b z => by omega, w.2.1⟩
theorem LI.skip (w : LI n h c r j T seen) (hx : (lookD seen (2 * (r : Int) + 1, 2 * (j : Int) + 1)).isSome = true) : LI n h c r (j + 1) T seen := ⟨w.rg, w.ap, w.nd, w.sn, fun a b z => by
  by_cases e : (a < r ∧ b < n) ∨ (a = r ∧ b < j)
  · exact w.sc a b e
  · rw [show a = r by omega, show b = j by omega]
    exact hx, by have := w.len; omega⟩
theorem LI.next (w : LI n h c r n T seen) (hn : n ≤ 12) : LI n h c (r + 1) 0 T seen := ⟨w.rg, w.ap, w.nd, w.sn, fun a b z => w.sc a b (by omega), by have := w.len; omega⟩
theorem LI.new (w : LI n h c r j T seen) (hr : r < n) (hj : j < n) (hx : ¬ (lookD seen (2 * (r : Int) + 1, 2 * (j : Int) + 1)).isSome = true) : Rg n (Wh n h) c (2 * (r : Int) + 1, 2 * (j : Int) + 1) := by
  have ins : Ins n (2 * (r : Int) + 1, 2 * (j : Int) + 1) := mem_places.mp (List.mem_flatMap.mpr ⟨r, List.mem_range.mpr hr, List.mem_map.mpr ⟨j, List.mem_range.mpr hj, rfl⟩⟩)
  exact ⟨ins, fun o ho g => hx ((w.sn _).mpr ⟨ins, .inl ⟨o, ho, g⟩⟩)⟩
theorem LI.ring (v : HV n h) (w : LI n h c r j T seen) (hr : r < n) (hj : j < n) (hx : ¬ (lookD seen (2 * (r : Int) + 1, 2 * (j : Int) + 1)).isSome = true) (hs : ∀ p, (lookD seen' p).isSome = true ↔ (lookD seen p).isSome = true ∨ Conn (Wh n h) c (2 * (r : Int) + 1, 2 * (j : Int) + 1) p)
    (hl : seen'.length ≤ seen.length + 144) : LI n h c r (j + 1) ((2 * (r : Int) + 1, 2 * (j : Int) + 1) :: T) seen' := by
  have R := w.new hr hj hx
  have no : ∀ t ∈ T, ¬ Conn (Wh n h) c t (2 * (r : Int) + 1, 2 * (j : Int) + 1) := fun t ht g => hx ((w.sn _).mpr ⟨R.1, .inr ⟨t, ht, g⟩⟩)
  refine ⟨fun x hx' => ?_, fun x hx' y hy' g => ?_, List.nodup_cons.mpr ⟨fun z => no _ z .refl, w.nd⟩, fun p => ?_, fun a b z => ?_, by have := w.len; omega⟩
  · rcases List.mem_cons.mp hx' with e | e
    · rw [e]; exact R
    · exact w.rg x e
  · rcases List.mem_cons.mp hx' with e | e
    · rcases List.mem_cons.mp hy' with e' | e'
      · rw [e, e']
      · exact absurd (e ▸ g).symm (no y e')
    · rcases List.mem_cons.mp hy' with e' | e'
      · exact absurd (e' ▸ g) (no x e)
      · exact w.ap x e y e' g
  · rw [hs p, w.sn p]
    constructor
    · rintro (⟨z1, z2 | ⟨t, ht, g⟩⟩ | z)
      · exact ⟨z1, .inl z2⟩
      · exact ⟨z1, .inr ⟨t, List.mem_cons_of_mem _ ht, g⟩⟩
      · exact ⟨R.ins v.flo z, .inr ⟨_, List.mem_cons_self .., z⟩⟩
    · rintro ⟨z1, z2 | ⟨t, ht, g⟩⟩
      · exact .inl ⟨z1, .inl z2⟩
      · rcases List.mem_cons.mp ht with e | e
        · exact .inr (e ▸ g)
        · exact .inl ⟨z1, .inr ⟨t, e, g⟩⟩
  · by_cases e : (a < r ∧ b < n) ∨ (a = r ∧ b < j)
    · exact (hs _).mpr (.inl (w.sc a b e))
    · rw [show a = r by omega, show b = j by omega]
      exact (hs _).mpr (.inr .refl)
theorem LI.done (w : LI n h c n 0 T seen) : Tra n (Wh n h) c T := ⟨w.rg, w.ap, w.nd, fun y hy => by
  obtain ⟨a, ha, hb⟩ := List.mem_flatMap.mp (mem_places.mpr hy.1)
  obtain ⟨b, hb', rfl⟩ := List.mem_map.mp hb
  obtain ⟨_, z | ⟨t, ht, g⟩⟩ := (w.sn _).mp (w.sc a b (.inl ⟨List.mem_range.mp ha, List.mem_range.mp hb'⟩))
  · obtain ⟨o, ho, g⟩ := z
    exact absurd g (hy.2 o ho)
  · exact ⟨t, ht, g.symm⟩⟩
/-- the places of a ring, step by step -/
theorem ring_seen (v : HV n h) (w : LI n h c r j T seen) {x : Ps} (R : Rg n (Wh n h) c x) (hx : ¬ (lookD seen x).isSome = true) {i : Nat} (hs : ∀ y, (lookD seen' y).isSome = true ↔ (lookD seen y).isSome = true ∨ ∃ j, j < i ∧ y = (gX (Wh n h) c x j).2)
    (ds : ∀ a b, a < i → b < i → (gX (Wh n h) c x a).2 = (gX (Wh n h) c x b).2 → a = b) (e : (lookD seen' (gX (Wh n h) c x i).2).isSome = true) (p : Ps) : (lookD seen' p).isSome = true ↔ (lookD seen p).isSome = true ∨ Conn (Wh n h) c x p := by
  have cn : ∀ j, Conn (Wh n h) c x (gX (Wh n h) c x j).2 := fun j => (ring_st v.flo R j).2
  have rep : ∃ j, j < i ∧ (gX (Wh n h) c x j).2 = (gX (Wh n h) c x i).2 := by
    rcases (hs _).mp e with z | ⟨j, hj, z⟩
    · obtain ⟨z1, z2⟩ := (w.sn _).mp z
      refine absurd ((w.sn x).mpr ⟨R.1, ?_⟩) hx
      rcases z2 with ⟨o, ho, g⟩ | ⟨t, ht, g⟩
      · exact .inl ⟨o, ho, (cn i).trans g⟩
      · exact .inr ⟨t, ht, g.trans (cn i).symm⟩
    · exact ⟨j, hj, z.symm⟩
  obtain ⟨a, ha, ea⟩ := rep
  rw [hs p]
  constructor
  · rintro (z | ⟨b, _, rfl⟩)
    · exact .inl z
    · exact .inr (cn b)
  · rintro (z | z)
    · exact .inl z
    · obtain ⟨b, hb, e⟩ := ring_close v.flo R ds ha ea z
      exact .inr ⟨b, hb, e⟩
theorem ring_few (v : HV n h) {x : Ps} (R : Rg n (Wh n h) c x) {i : Nat} (ds : ∀ a b, a < i → b < i → (gX (Wh n h) c x a).2 = (gX (Wh n h) c x b).2 → a = b) : i ≤ n * n := by
  have := inj_len (fun (a : Nat) (p : Ps) => p = (gX (Wh n h) c x a).2) (List.range i) (places n) List.nodup_range (fun a ha => ⟨_, mem_places.mpr (R.ins v.flo (ring_st v.flo R a).2), rfl⟩) fun a ha b hb p e1 e2 => ds a b (List.mem_range.mp ha) (List.mem_range.mp hb) (e1.symm.trans e2)
  rw [List.length_range, places_len] at this
  exact this
end
noncomputable def lookM (n : Nat) (W : Col) : Nat → Nat
  | 0 => 0
  | z + 1 => lookM n W z + rings n W (decide (z = 0))
noncomputable def lookL (n : Nat) (W : Col) : Nat → List Dt
  | 0 => []
  | z + 1 => lookL n W z ++ [.lst (dRow (2 * n) (lnkF n W (decide (z = 0))))]
inductive R_law_look : List Dt → Dt → Prop
  | mk {n : Nat} {h : Int → Int → Int} (v : HV n h) : R_law_look [.lst (dM n n (sgn h))] (.tup [.lst [.lst (dRow (2 * n) (lnkF n (Wh n h) true)), .lst (dRow (2 * n) (lnkF n (Wh n h) false))], .int ((rings n (Wh n h) true + rings n (Wh n h) false : Nat) : Int)])
theorem sc__law_look : FnScope ["_law_state", "_law_many", "_law_lots", "_law_full", "_law_ends", "_law_sides", "_law_seen", "_law_r", "_law_c", "_law_place", "_law_end"] ["_law_state"] (defScope s__law_look) := ⟨rfl, rfl, rfl, by decide +kernel, rfl, by decide +kernel, by decide +kernel⟩
theorem ok_law_look (h : Fs K mg "_law_look" s__law_look) (T : Tx mg) (c_law_next : CallS Pg w K mg base 1 "_law_next" ["_law_sides", "_law_place", "_law_came", "_law_full"] (spD K R_law_next)) (c_law_ways : CallS Pg w K mg base 2 "_law_ways" ["_law_state", "_law_full"] (spR K R_law_ways)) : CallS Pg w K mg base 3 "_law_look" ["_law_state"] (spD K R_law_look) := by
  obtain ⟨a, fd, F, gm⟩ := h
  refine ⟨a, fd, of_data F sc__law_look (fun ds y h => by cases h; rfl) (fun cdv A outer s H E hr => ⟨_,
    (pss_cons (ps_set (i := 1) sc__law_look.nd rfl (Or.inl rfl) pe_int)
    (pss_cons (ps_set (i := 2) sc__law_look.nd rfl (Or.inl rfl) (pe_lst pa_nil))
    (pss_cons (ps_for PassesOwn.never rfl (pi_tup (pe_tup (pa_cons pe_bl (pa_cons pe_bl pa_nil)))) (pg_name (i := 3) sc__law_look.nd rfl (Or.inl rfl))
    (pss_cons (ps_asg (pe_callD c_law_ways hr (by rfl) (pa_cons (pv 0) (pa_cons (pv 3) pa_nil))) (pg_tupK K (n := 3) rfl (pgs_cons (pg_name (i := 4) sc__law_look.nd rfl (Or.inl rfl)) (pgs_cons (pg_name (i := 5) sc__law_look.nd rfl (Or.inl rfl)) (pgs_cons (pg_name (i := 6) sc__law_look.nd rfl (Or.inl rfl)) pgs_nil)))))
    (pss_cons (ps_expr (pe_bm PySem.F.plainAttrs_list PySem.F.slot_list_append PySem.F.type_list_append mt_append (pv 2) (pa_cons (pv 4) pa_nil)))
    (pss_one (ps_for PassesOwn.never rfl (pi_range1 (by rfl) T.range (pa_cons (pe_callB (call_lenK K) (by rfl) T.len PySem.boot_len (pa_cons (pv 0) pa_nil)) pa_nil)) (pg_name (i := 7) sc__law_look.nd rfl (Or.inl rfl))
    (pss_one (ps_for PassesOwn.never rfl (pi_range1 (by rfl) T.range (pa_cons (pe_callB (call_lenK K) (by rfl) T.len PySem.boot_len (pa_cons (pv 0) pa_nil)) pa_nil)) (pg_name (i := 8) sc__law_look.nd rfl (Or.inl rfl))
    (pss_cons (ps_set (i := 9) sc__law_look.nd rfl (Or.inl rfl) (pe_tup (pa_cons (pe_op op_add (pe_op op_mul pe_int (pv 7)) pe_int) (pa_cons (pe_op op_add (pe_op op_mul pe_int (pv 8)) pe_int) pa_nil))))
    (pss_cons (ps_if (pt_cmp (pc_dnotin (hu_of hr) (pv 9) (pv 6)))
    (pss_one (ps_set (i := 1) sc__law_look.nd rfl (Or.inl rfl) (pe_op op_add (pv 1) pe_int)))
    pss_nil)
    (pss_cons (ps_set (i := 10) sc__law_look.nd rfl (Or.inl rfl) pe_non)
    (pss_one (ps_while PassesOwn.never (pt_cmp (pc_dnotin (hu_of hr) (pv 9) (pv 6)))
    (pss_cons (ps_dput (hu_of hr) (pv 6) (pv 9) pe_bl rfl)
    (pss_one (ps_asg (pe_callD c_law_next (hr.mono (by decide)) (by rfl) (pa_cons (pv 5) (pa_cons (pv 9) (pa_cons (pv 10) (pa_cons (pv 3) pa_nil))))) (pg_tupK K (n := 2) rfl (pgs_cons (pg_name (i := 10) sc__law_look.nd rfl (Or.inl rfl)) (pgs_cons (pg_name (i := 9) sc__law_look.nd rfl (Or.inl rfl)) pgs_nil))))))))))))))))))
    (pss_one (ps_ret (pe_tup (pa_cons (pv 2) (pa_cons (pv 1) pa_nil)))))))),
    fun ds y h => ?_⟩), gm, F.kp, FunD.bindsN F fun _ _ _ _ _ _ us hl => match us, hl with | [_], _ => rfl⟩
  cases h with
  | @mk n h v =>
  have hn := v.pos
  have hn2 := v.le
  have F := v.flo
  have nn : n * n ≤ 144 := Nat.mul_le_mul hn2 hn2
  -- slots: 0 state, 1 many, 2 lots, 3 full, 4 ends, 5 sides, 6 seen, 7 r, 8 c, 9 place, 10 end
  refine run_seq (run_asg g_int ?_)
  refine run_seq (run_asgO (gn_lst ga_nil) ?_)
  refine run_seq (run_for (gi_tup (xs := [.bl true, .bl false]) (g_tup (ga_cons g_bl (ga_cons g_bl ga_nil)))) (fun z => [.d (.lst (dM n n (sgn h))), .d (.int (lookM n (Wh n h) z : Nat)), .own (lookL n (Wh n h) z), .no, .no, .no, .no, .no, .no, .no, .no]) ?_ ?_ ?_)
  · walk_at "le"
  · intro z x hx
    have hz : z < 2 := (List.getElem?_eq_some_iff.mp hx).1
    obtain rfl : x = .bl (decide (z = 0)) := by
      match z, hx with
      | 0, hx => exact (Option.some.inj hx).symm
      | 1, hx => exact (Option.some.inj hx).symm
      | z + 2, hx => simp at hx
    have hl : (lookL n (Wh n h) z).length < 100000 := by
      match z, hz with
      | 0, _ => simp [lookL]
      | 1, _ => simp [lookL]
    refine ⟨_, _, gg_name, ?_⟩
    have eM : lookM n (Wh n h) (z + 1) = lookM n (Wh n h) z + rings n (Wh n h) (decide (z = 0)) := rfl
    have eL : lookL n (Wh n h) (z + 1) = lookL n (Wh n h) z ++ [.lst (dRow (2 * n) (lnkF n (Wh n h) (decide (z = 0))))] := rfl
    rw [eM, eL]
    generalize decide (z = 0) = c
    generalize lookM n (Wh n h) z = M
    generalize lookL n (Wh n h) z = L at hl ⊢
    refine run_seq (run_callWays (ga_cons (g_var rfl rfl) (ga_cons (g_var rfl rfl) ga_nil)) (.mk v c) (by decide) (by decide) fun sides seen hw => ?_)
    refine run_seq (run_app rfl (g_var rfl rfl) hl ?_)
    refine run_forP (gi_rng1 (ga_cons (g_is (g_len (g_var rfl rfl)) (by rw [dM_len])) ga_nil)) (fun r Γ => ∃ T seen, Γ = [.d (.lst (dM n n (sgn h))), .d (.int ((M + T.length : Nat) : Int)), .own (L ++ [.lst (dRow (2 * n) (lnkF n (Wh n h) c))]), .d (.bl c), .f (.lst (dRow (2 * n) (lnkF n (Wh n h) c))), .f (.dic sides), .dT seen, .no, .no, .no, .no] ∧ LI n h c r 0 T seen) ⟨_, ⟨[], seen, rfl, LI.start hw⟩, ?_⟩ ?_ ?_
    · walk_at "le"
    · intro r x Γn hx hI
      obtain ⟨T, seen, rfl, li⟩ := hI
      obtain ⟨hr, rfl⟩ := get_rg0 hx
      rw [Int.toNat_natCast] at hr
      refine ⟨_, _, gg_name, ?_⟩
      refine run_forP (gi_rng1 (ga_cons (g_is (g_len (g_var rfl rfl)) (by rw [dM_len])) ga_nil)) (fun j Γ => ∃ T seen, Γ = [.d (.lst (dM n n (sgn h))), .d (.int ((M + T.length : Nat) : Int)), .own (L ++ [.lst (dRow (2 * n) (lnkF n (Wh n h) c))]), .d (.bl c), .f (.lst (dRow (2 * n) (lnkF n (Wh n h) c))), .f (.dic sides), .dT seen, .d (.int r), .no, .no, .no] ∧ LI n h c r j T seen) ⟨_, ⟨T, seen, rfl, li⟩, Le.refl _⟩ ?_ ?_
      · intro j x Γn hx hI
        obtain ⟨T, seen, rfl, li⟩ := hI
        obtain ⟨hj, rfl⟩ := get_rg0 hx
        rw [Int.toNat_natCast] at hj
        have ll := li.len
        refine ⟨_, _, gg_name, ?_⟩
        refine run_seq (run_asg (g_tup (ga_cons (g_add (g_mul g_int (g_var rfl rfl) (.inl ⟨by decide, by decide⟩)) g_int) (ga_cons (g_add (g_mul g_int (g_var rfl rfl) (.inl ⟨by decide, by decide⟩)) g_int) ga_nil))) ?_)
        by_cases sx : (lookD seen (2 * (r : Int) + 1, 2 * (j : Int) + 1)).isSome = true
        · refine run_seq (run_ifF (gt_val (g_dni (p := 2 * (r : Int) + 1) (q := 2 * (j : Int) + 1) (g_var rfl rfl) (g_var rfl rfl))) (by rw [sx]; rfl) (run_next ?_))
          refine run_seq (run_asg g_non ?_)
          refine run_while (fun _ Γ => Γ = [.d (.lst (dM n n (sgn h))), .d (.int ((M + T.length : Nat) : Int)), .own (L ++ [.lst (dRow (2 * n) (lnkF n (Wh n h) c))]), .d (.bl c), .f (.lst (dRow (2 * n) (lnkF n (Wh n h) c))), .f (.dic sides), .dT seen, .d (.int r), .d (.int j), .d (.tup [.int (2 * (r : Int) + 1), .int (2 * (j : Int) + 1)]), .d .non]) 0 rfl ?_
          rintro _ _ rfl
          refine ⟨_, gt_val (g_dni (p := 2 * (r : Int) + 1) (q := 2 * (j : Int) + 1) (g_var rfl rfl) (g_var rfl rfl)), fun hb => ?_, fun _ => ?_⟩
          · rw [sx] at hb; cases hb
          · refine ⟨_, ⟨T, seen, rfl, li.skip sx⟩, ?_⟩
            walk_at "le"
        · have R := li.new hr hj sx
          refine run_seq (run_ifT (gt_val (g_dni (p := 2 * (r : Int) + 1) (q := 2 * (j : Int) + 1) (g_var rfl rfl) (g_var rfl rfl))) (by rw [Bool.eq_false_iff.mpr sx]; rfl) (run_asg (x := .int ((M + (T.length + 1) : Nat) : Int)) (g_is (g_add (g_var rfl rfl) g_int) (congrArg Dt.int (by omega))) ?_))
          refine run_seq (run_asg g_non ?_)
          refine run_while (fun mm Γ => ∃ i seen', mm = n * n - i ∧ Γ = [.d (.lst (dM n n (sgn h))), .d (.int ((M + (T.length + 1) : Nat) : Int)), .own (L ++ [.lst (dRow (2 * n) (lnkF n (Wh n h) c))]), .d (.bl c), .f (.lst (dRow (2 * n) (lnkF n (Wh n h) c))), .f (.dic sides), .dT seen', .d (.int r), .d (.int j), .d (tP (gX (Wh n h) c (2 * (r : Int) + 1, 2 * (j : Int) + 1) i).2), .d (oP (gX (Wh n h) c (2 * (r : Int) + 1, 2 * (j : Int) + 1) i).1)] ∧
            (∀ y, (lookD seen' y).isSome = true ↔ (lookD seen y).isSome = true ∨ ∃ j', j' < i ∧ y = (gX (Wh n h) c (2 * (r : Int) + 1, 2 * (j : Int) + 1) j').2) ∧
            (∀ a b, a < i → b < i → (gX (Wh n h) c (2 * (r : Int) + 1, 2 * (j : Int) + 1) a).2 = (gX (Wh n h) c (2 * (r : Int) + 1, 2 * (j : Int) + 1) b).2 → a = b) ∧ seen'.length ≤ seen.length + i) (n * n) ⟨0, seen, rfl, rfl, fun y => ⟨.inl, fun z => z.elim id fun ⟨j', hj', _⟩ => absurd hj' (Nat.not_lt_zero j')⟩, fun a b ha => absurd ha (Nat.not_lt_zero a), Nat.le_refl _⟩ ?_
          rintro mm Γ' ⟨i, seen', rfl, rfl, hs, ds, hl'⟩
          have few := ring_few v R ds
          refine ⟨_, gt_val (g_dni (p := (gX (Wh n h) c (2 * (r : Int) + 1, 2 * (j : Int) + 1) i).2.1) (q := (gX (Wh n h) c (2 * (r : Int) + 1, 2 * (j : Int) + 1) i).2.2) (g_var rfl rfl) (g_var rfl rfl)), fun hb => ?_, fun hb => ?_⟩
          · have no : ¬ (lookD seen' (gX (Wh n h) c (2 * (r : Int) + 1, 2 * (j : Int) + 1) i).2).isSome = true := fun z => by
              have hb' : (!(lookD seen' (gX (Wh n h) c (2 * (r : Int) + 1, 2 * (j : Int) + 1) i).2).isSome) = true := hb
              rw [z] at hb'
              cases hb'
            have ds' : ∀ a b, a < i + 1 → b < i + 1 → (gX (Wh n h) c (2 * (r : Int) + 1, 2 * (j : Int) + 1) a).2 = (gX (Wh n h) c (2 * (r : Int) + 1, 2 * (j : Int) + 1) b).2 → a = b := fun a b ha hb e => by
              by_cases ea : a = i
              · by_cases eb : b = i
                · rw [ea, eb]
                · rw [ea] at e
                  exact absurd ((hs _).mpr (.inr ⟨b, by omega, e⟩)) no
              · by_cases eb : b = i
                · rw [eb] at e
                  exact absurd ((hs _).mpr (.inr ⟨a, by omega, e.symm⟩)) no
                · exact ds a b (by omega) (by omega) e
            have few' := ring_few v R ds'
            refine run_seq (run_dput (p := (gX (Wh n h) c (2 * (r : Int) + 1, 2 * (j : Int) + 1) i).2.1) (q := (gX (Wh n h) c (2 * (r : Int) + 1, 2 * (j : Int) + 1) i).2.2) rfl g_bl (g_var rfl rfl) (by omega) ?_)
            refine run_asgG (g_call (ga_cons (g_var rfl rfl) (ga_cons (g_var rfl rfl) (ga_cons (g_var rfl rfl) (ga_cons (g_var rfl rfl) ga_nil)))) (.mk (W := Wh n h) hw.1 (fun d => tt_some (F.two _ (R.ins F (ring_st F R i).2)) d) (ring_okD F R i))) gg_two ?_
            refine ⟨n * n - (i + 1), by omega, i + 1, _, rfl, rfl, fun y => ?_, ds', ?_⟩
            · rw [look_put, hs y]
              constructor
              · rintro (z | z | ⟨a, ha, z⟩)
                · exact .inr ⟨i, by omega, z⟩
                · exact .inl z
                · exact .inr ⟨a, by omega, z⟩
              · rintro (z | ⟨a, ha, z⟩)
                · exact .inr (.inl z)
                · by_cases e : a < i
                  · exact .inr (.inr ⟨a, e, z⟩)
                  · exact .inl (by rw [z, show a = i by omega])
            · have := put_len (kvs := seen') (k := ((gX (Wh n h) c (2 * (r : Int) + 1, 2 * (j : Int) + 1) i).2.1, (gX (Wh n h) c (2 * (r : Int) + 1, 2 * (j : Int) + 1) i).2.2)) (v := true)
              omega
          · have yes : (lookD seen' (gX (Wh n h) c (2 * (r : Int) + 1, 2 * (j : Int) + 1) i).2).isSome = true := by
              have hb' : (!(lookD seen' (gX (Wh n h) c (2 * (r : Int) + 1, 2 * (j : Int) + 1) i).2).isSome) = false := hb
              cases z : (lookD seen' (gX (Wh n h) c (2 * (r : Int) + 1, 2 * (j : Int) + 1) i).2).isSome with
              | true => rfl
              | false => rw [z] at hb'; cases hb'
            refine ⟨_, ⟨_, seen', rfl, li.ring v hr hj sx (ring_seen v li R sx hs ds yes) (by omega)⟩, ?_⟩
            walk_at "le"
      · intro Γn hI
        obtain ⟨T, seen, rfl, li⟩ := hI
        rw [rgD_len, Int.toNat_natCast] at li
        refine ⟨_, ⟨_, _, rfl, li.next hn2⟩, ?_⟩
        walk_at "le"
    · intro Γn hI
      obtain ⟨T, seen, rfl, li⟩ := hI
      rw [rgD_len, Int.toNat_natCast] at li
      rw [rings_of li.done]
      walk_at "le"
  · refine run_weak (i := 2) rfl .of (run_ret (g_tup (ga_cons (g_var rfl rfl) (ga_cons (g_var rfl rfl) ga_nil))) ?_)
    show Dt.tup [_, .int ((0 + rings n (Wh n h) true + rings n (Wh n h) false : Nat) : Int)] = _
    rw [Nat.zero_add]
    rfl
end
end GY
end
section
set_option Elab.async false
set_option linter.all false
set_option maxRecDepth 100000
set_option maxHeartbeats 4000000
namespace GY
open PySem PySem.Spec PyProof.Rows L2
open Evl (Ex fresh_back)
local macro_rules | `(tactic| walk_at "le") => `(tactic| (repeat (first | exact Le.nil | refine Le.cons (by first | exact SLe.rfl | exact SLe.no | exact SLe.fd | exact SLe.od | exact SLe.of | exact SLe.tf | exact SLe.sc rfl) ?_)))
section
variable {Pg : Program} {w : World} {K : PySem.W.Frag} {mg : Str → Option Value} {base : Heap}
/-- numbers in lists in lists -/
structure Nm (d : Nat) (x : Dt) : Prop where
  pl : x.pl = true
  lay : x.py.canLay0 = true
  dep : x.py.depth ≤ d
  eqv : PyData.eqv x.py x.py = true
theorem Nm.int (i : Int) : Nm 0 (.int i) := ⟨rfl, rfl, Nat.le_refl _, by show (i == i) = true; exact beq_self_eq_true i⟩
theorem Nm.all {d : Nat} : ∀ {xs : List Dt}, (∀ x ∈ xs, Nm d x) → plA xs = true ∧ PyData.canLayAll0 (pyA xs) = true ∧ PyData.depthAll (pyA xs) ≤ d ∧ PyData.eqvAll (pyA xs) (pyA xs) = true
  | [], _ => ⟨rfl, rfl, Nat.zero_le _, rfl⟩
  | x :: xs, h => by
    obtain ⟨a1, a2, a3, a4⟩ := h x (List.mem_cons_self ..)
    obtain ⟨b1, b2, b3, b4⟩ := Nm.all fun y hy => h y (List.mem_cons_of_mem _ hy)
    refine ⟨?_, ?_, ?_, ?_⟩
    · show (x.pl && plA xs) = true
      rw [a1, b1]; rfl
    · show (x.py.canLay0 && PyData.canLayAll0 (pyA xs)) = true
      rw [a2, b2]; rfl
    · show max x.py.depth (PyData.depthAll (pyA xs)) ≤ d
      omega
    · show (PyData.eqv x.py x.py && PyData.eqvAll (pyA xs) (pyA xs)) = true
      rw [a4, b4]; rfl
theorem Nm.lst {d : Nat} {xs : List Dt} (h : ∀ x ∈ xs, Nm d x) : Nm (d + 1) (.lst xs) := by
  obtain ⟨a1, a2, a3, a4⟩ := Nm.all h
  exact ⟨a1, a2, Nat.succ_le_succ a3, a4⟩
theorem Nm.row (m : Nat) (g : Int → Int) : Nm 1 (.lst (dRow m g)) := Nm.lst fun x hx => by
  obtain ⟨j, _, rfl⟩ := List.mem_map.mp hx
  exact Nm.int _
theorem Nm.tab (n m : Nat) (f : Int → Int → Int) : Nm 2 (.lst (dM n m f)) := Nm.lst fun x hx => by
  obtain ⟨j, _, rfl⟩ := List.mem_map.mp hx
  exact Nm.row _ _
theorem Nm.sh {d : Nat} {x : Dt} (h : Nm d x) (hd : d ≤ 64 := by decide) : SeqAt.shaped x.py = true := by
  unfold SeqAt.shaped
  rw [h.lay, decide_eq_true (Nat.le_trans h.dep hd)]
  rfl
theorem great_led {n : Nat} {h : Int → Int → Int} (v : HV n h) : dRow (2 * n) (ledF (2 * n) (lnkF n (Wh n h) true) (-1)) = dRow (2 * n) (lnkF n (Wh n (ht n true (ht n false h))) true) ∧ dRow (2 * n) (ledF (2 * n) (lnkF n (Wh n h) false) 1) = dRow (2 * n) (lnkF n (Wh n (ht n true (ht n false h))) false) := by
  have hn := v.pos
  have v2 := (v.ht false).ht true
  have el : ((2 * n : Nat) : Int) = 2 * (n : Int) := by omega
  refine ⟨dRow_ext fun k h0 h1 => ?_, dRow_ext fun k h0 h1 => ?_⟩
  · rw [el] at h1
    unfold ledF
    rw [el, show k - -1 = k + 1 by omega]
    have a := md_add (L := 2 * (n : Int)) h0 h1
    have l := Lk.open v (k := (k + 1) % (2 * (n : Int))) (by omega) (by omega) (lnk_spec v (by omega) (by omega))
    have b := md_sub (L := 2 * (n : Int)) (k := (k + 1) % (2 * (n : Int))) (by omega) (by omega)
    rw [show ((k + 1) % (2 * (n : Int)) - 1) % (2 * (n : Int)) = k by omega] at l
    exact (lnk_of v2 h0 h1 l).symm
  · rw [el] at h1
    unfold ledF
    rw [el]
    have a := md_sub (L := 2 * (n : Int)) h0 h1
    have l := Lk.shut v (k := (k - 1) % (2 * (n : Int))) (by omega) (by omega) (lnk_spec v (by omega) (by omega))
    have b := md_add (L := 2 * (n : Int)) (k := (k - 1) % (2 * (n : Int))) (by omega) (by omega)
    rw [show ((k - 1) % (2 * (n : Int)) + 1) % (2 * (n : Int)) = k by omega] at l
    exact (lnk_of v2 h0 h1 l).symm
theorem great_rings {n : Nat} {h : Int → Int → Int} (v : HV n h) : rings n (Wh n h) true + rings n (Wh n h) false = rings n (Wh n (ht n true (ht n false h))) true + rings n (Wh n (ht n true (ht n false h))) false :=
  (rings_half (par01 false) v.flo (v.ht false).flo (v.half false)).trans (rings_half (par01 true) (v.ht false).flo ((v.ht false).ht true).flo ((v.ht false).half true))
theorem ht_htF (n : Nat) (dk : Bool) (h : Int → Int → Int) : ht n dk (ht n dk h) = h := funext fun i => funext fun j => ht_ht i j
def forms : List Dt := [.str Fm.signs.name, .str Fm.heights.name, .str Fm.arrows.name, .str Fm.sides.name, .str Fm.triangle.name]
theorem forms_at (c : Int) : ∃ f : Fm, L2.atI forms (c % 5) = some (.str f.name) := by
  rcases (show c % 5 = 0 ∨ c % 5 = 1 ∨ c % 5 = 2 ∨ c % 5 = 3 ∨ c % 5 = 4 by omega) with e | e | e | e | e <;> rw [e]
  · exact ⟨.signs, rfl⟩
  · exact ⟨.heights, rfl⟩
  · exact ⟨.arrows, rfl⟩
  · exact ⟨.sides, rfl⟩
  · exact ⟨.triangle, rfl⟩
theorem get_forms {z : Nat} {x : Dt} (h : forms[z]? = some x) : ∃ f : Fm, x = .str f.name := by
  match z, h with
  | 0, h => exact ⟨.signs, (Option.some.inj h).symm⟩
  | 1, h => exact ⟨.heights, (Option.some.inj h).symm⟩
  | 2, h => exact ⟨.arrows, (Option.some.inj h).symm⟩
  | 3, h => exact ⟨.sides, (Option.some.inj h).symm⟩
  | 4, h => exact ⟨.triangle, (Option.some.inj h).symm⟩
  | z + 5, h => simp [forms] at h
inductive R_law : List Dt → Dt → Prop
  | mk (ns : List Int) : R_law [.lst (dI ns)] (.bl true)
theorem sc_law : FnScope ["_law_script", "_law_n", "_law_state", "_law_forms", "_law_form", "_law_first", "_law_gone", "_law_lots", "_law_many", "_law_behind", "_law_loops"] ["_law_script"] (defScope s_law) := ⟨rfl, rfl, rfl, by decide +kernel, rfl, by decide +kernel, by decide +kernel⟩
theorem ok_law {a : Addr} {fd : FuncData} (F : FnP K "law" s_law a fd) (T : Tx mg) (c_great_turn : CallS Pg w K mg base 6 "great_turn" ["state"] (spD K R_great_turn)) (c_great_turn_back : CallS Pg w K mg base 6 "great_turn_back" ["state"] (spD K R_great_turn_back)) (c_show : CallS Pg w K mg base 4 "show" ["form", "state"] (spD K R_show)) (c_read : CallS Pg w K mg base 7 "read" ["form", "text"] (spD K R_read)) (c_law_cell_at : CallS Pg w K mg base 1 "_law_cell_at" ["_law_script", "_law_k"] (spD K R_law_cell_at)) (c_law_size_by : CallS Pg w K mg base 1 "_law_size_by" ["_law_head"] (spD K R_law_size_by)) (c_law_triangle_by : CallS Pg w K mg base 2 "_law_triangle_by" ["_law_n", "_law_cell"] (spD K R_law_triangle_by)) (c_law_signs_of : CallS Pg w K mg base 1 "_law_signs_of" ["_law_rows"] (spD K R_law_signs_of)) (c_law_look : CallS Pg w K mg base 3 "_law_look" ["_law_state"] (spD K R_law_look)) (c_law_led : CallS Pg w K mg base 1 "_law_led" ["_law_web", "_law_t"] (spD K R_law_led)) : FnOk Pg w K mg base CX0 8 a fd ["_law_script"] (spD K R_law) := by
  refine of_data F sc_law (fun ds y h => by cases h; rfl) (fun cdv A outer s H E hr => ⟨_,
    (pss_cons (ps_set (i := 1) sc_law.nd rfl (Or.inl rfl) (pe_callD c_law_size_by (hr.mono (by decide)) (by rfl) (pa_cons (pe_callD c_law_cell_at (hr.mono (by decide)) (by rfl) (pa_cons (pv 0) (pa_cons pe_int pa_nil))) pa_nil)))
    (pss_cons (ps_set (i := 2) sc_law.nd rfl (Or.inl rfl) (pe_callD c_law_signs_of (hr.mono (by decide)) (by rfl) (pa_cons (pe_callD c_law_triangle_by (hr.mono (by decide)) (by rfl) (pa_cons (pv 1) (pa_cons (pe_callD c_law_cell_at (hr.mono (by decide)) (by rfl) (pa_cons (pv 0) (pa_cons pe_int pa_nil))) pa_nil))) pa_nil)))
    (pss_cons (ps_set (i := 3) sc_law.nd rfl (Or.inl rfl) (pe_lst (pa_cons pe_str (pa_cons pe_str (pa_cons pe_str (pa_cons pe_str (pa_cons pe_str pa_nil)))))))
    (pss_cons (ps_set (i := 4) sc_law.nd rfl (Or.inl rfl) (pe_ix (ix_listK K) (pv 3) (pe_op op_mod (pe_callD c_law_cell_at (hr.mono (by decide)) (by rfl) (pa_cons (pv 0) (pa_cons pe_int pa_nil))) pe_int) (fun _ _ => rfl)))
    (pss_cons (ps_set (i := 5) sc_law.nd rfl (Or.inl rfl) (pe_callD c_read hr (by rfl) (pa_cons (pv 4) (pa_cons (pe_callD c_show (hr.mono (by decide)) (by rfl) (pa_cons (pv 4) (pa_cons (pv 2) pa_nil))) pa_nil))))
    (pss_cons (ps_if (pt_cmpR (op_neD hr.units) (pv 5) (pv 2) (nomark _))
    (pss_one (ps_ret pe_bl))
    pss_nil)
    (pss_cons (ps_set (i := 6) sc_law.nd rfl (Or.inl rfl) (pe_callD c_great_turn (hr.mono (by decide)) (by rfl) (pa_cons (pv 5) pa_nil)))
    (pss_cons (ps_for PassesOwn.never rfl (pi_listK K (pv 3)) (pg_name (i := 4) sc_law.nd rfl (Or.inl rfl))
    (pss_one (ps_if (pt_cmpR (op_neD hr.units) (pe_callD c_read hr (by rfl) (pa_cons (pv 4) (pa_cons (pe_callD c_show (hr.mono (by decide)) (by rfl) (pa_cons (pv 4) (pa_cons (pv 6) pa_nil))) pa_nil))) (pv 6) (nomark _))
    (pss_one (ps_ret pe_bl))
    pss_nil)))
    (pss_cons (ps_asg (pe_callD c_law_look (hr.mono (by decide)) (by rfl) (pa_cons (pv 2) pa_nil)) (pg_tupK K (n := 2) rfl (pgs_cons (pg_name (i := 7) sc_law.nd rfl (Or.inl rfl)) (pgs_cons (pg_name (i := 8) sc_law.nd rfl (Or.inl rfl)) pgs_nil))))
    (pss_cons (ps_asg (pe_callD c_law_look (hr.mono (by decide)) (by rfl) (pa_cons (pv 6) pa_nil)) (pg_tupK K (n := 2) rfl (pgs_cons (pg_name (i := 9) sc_law.nd rfl (Or.inl rfl)) (pgs_cons (pg_name (i := 10) sc_law.nd rfl (Or.inl rfl)) pgs_nil))))
    (pss_cons (ps_if (PW.pt (pw_or (pt_cmpR (op_neD hr.units) (pv 9) (pe_lst (pa_cons (pe_callD c_law_led (hr.mono (by decide)) (by rfl) (pa_cons (pe_ix (ix_listK K) (pv 7) pe_int (fun _ _ => rfl)) (pa_cons (pe_un un_neg pe_int) pa_nil))) (pa_cons (pe_callD c_law_led (hr.mono (by decide)) (by rfl) (pa_cons (pe_ix (ix_listK K) (pv 7) pe_int (fun _ _ => rfl)) (pa_cons pe_int pa_nil))) pa_nil))) (nomark _)) (pw_or1 (pt_cmpR op_ne (pv 10) (pv 8) (nomark _)))))
    (pss_one (ps_ret pe_bl))
    pss_nil)
    (pss_cons (ps_if (pt_cmpR (op_neD hr.units) (pe_callD c_great_turn_back (hr.mono (by decide)) (by rfl) (pa_cons (pe_callD c_read hr (by rfl) (pa_cons (pv 4) (pa_cons (pe_callD c_show (hr.mono (by decide)) (by rfl) (pa_cons (pv 4) (pa_cons (pv 6) pa_nil))) pa_nil))) pa_nil)) (pv 2) (nomark _))
    (pss_one (ps_ret pe_bl))
    pss_nil)
    (pss_one (ps_ret (pe_cmpR (op_eqD hr.units) (pe_callD c_great_turn (hr.mono (by decide)) (by rfl) (pa_cons (pe_callD c_great_turn_back (hr.mono (by decide)) (by rfl) (pa_cons (pv 2) pa_nil)) pa_nil)) (pv 2) (nomark _)))))))))))))))),
    fun ds y h => ?_⟩)
  cases h with
  | mk ns =>
  -- slots: 0 script, 1 n, 2 state, 3 forms, 4 form, 5 first, 6 gone, 7 lots, 8 many, 9 behind, 10 loops
  have so := sizeBy_ok (cellAt ns (0 : Nat))
  obtain ⟨n, en⟩ : ∃ n : Nat, sizeBy (cellAt ns (0 : Nat)) = n := ⟨_, (Int.toNat_of_nonneg (by omega)).symm⟩
  have hn1 : 1 ≤ n := by omega
  have hn2 : n ≤ 12 := by omega
  have TO := triBy_ok n (cellAt ns (1 : Nat))
  have hv : HV n (triH (triBy n (cellAt ns (1 : Nat)))) := TO.hv hn1 hn2
  have TH : TriH n (triBy n (cellAt ns (1 : Nat))) (triH (triBy n (cellAt ns (1 : Nat)))) := ⟨hv, fun k hk c _ _ => TO.mem hk c⟩
  refine run_seq (run_asg (x := .int n) (g_is (g_call (ga_cons (g_call (ga_cons (g_var rfl rfl) (ga_cons g_int ga_nil)) (.mk ns 0)) ga_nil) (.mk _)) (by rw [← en])) ?_)
  refine run_seq (run_asg (g_call (ga_cons (g_call (ga_cons (g_var rfl rfl) (ga_cons (g_call (ga_cons (g_var rfl rfl) (ga_cons g_int ga_nil)) (.mk ns 1)) ga_nil)) (.mk hn1 hn2 _)) ga_nil) (.mk TH)) ?_)
  generalize triH (triBy n (cellAt ns (1 : Nat))) = h at hv TH
  clear TH TO
  have hv2 : HV n (ht n true (ht n false h)) := (hv.ht false).ht true
  have N1 := Nm.tab n n (sgn h)
  have N2 := Nm.tab n n (sgn (ht n true (ht n false h)))
  refine run_seq (run_asg (x := .lst forms) (g_lst (ds := forms) (ga_cons g_str (ga_cons g_str (ga_cons g_str (ga_cons g_str (ga_cons g_str ga_nil))))) (by decide)) ?_)
  obtain ⟨f, hf⟩ := forms_at (cellAt ns (2 : Nat))
  refine run_seq (run_asg (g_ixLs (g_var rfl rfl) (g_mod (g_call (ga_cons (g_var rfl rfl) (ga_cons g_int ga_nil)) (.mk ns 2)) g_int (by decide)) hf) ?_)
  refine run_seq (run_asg (g_call (ga_cons (g_var rfl rfl) (ga_cons (g_call (ga_cons (g_var rfl rfl) (ga_cons (g_var rfl rfl) ga_nil)) (.mk hv f)) ga_nil)) (.mk hv f)) ?_)
  refine run_seq (run_ifF (gt_test (g_neD (g_var rfl rfl) (g_var rfl rfl) N1.pl N1.pl N1.sh N1.sh N1.eqv)) rfl (run_next ?_))
  refine run_seq (run_asg (g_call (ga_cons (g_var rfl rfl) ga_nil) (.mk hv)) ?_)
  refine run_seq (run_forP (gi_list (xs := forms) (g_var rfl rfl)) (fun z Γ => ∃ f' : Fm, Γ = [.d (.lst (dI ns)), .d (.int n), .d (.lst (dM n n (sgn h))), .d (.lst forms), .d (.str f'.name), .d (.lst (dM n n (sgn h))), .d (.lst (dM n n (sgn (ht n true (ht n false h))))), .no, .no, .no, .no]) ⟨_, ⟨f, rfl⟩, Le.refl _⟩ ?_ ?_)
  · intro z x Γn hx hI
    obtain ⟨f0, rfl⟩ := hI
    obtain ⟨f', rfl⟩ := get_forms hx
    refine ⟨_, _, gg_name, ?_⟩
    refine run_ifF (gt_test (g_neD (g_call (ga_cons (g_var rfl rfl) (ga_cons (g_call (ga_cons (g_var rfl rfl) (ga_cons (g_var rfl rfl) ga_nil)) (.mk hv2 f')) ga_nil)) (.mk hv2 f')) (g_var rfl rfl) N2.pl N2.pl N2.sh N2.sh N2.eqv)) rfl (run_next ?_)
    exact ⟨_, ⟨f', rfl⟩, Le.refl _⟩
  · intro Γn hI
    obtain ⟨f', rfl⟩ := hI
    obtain ⟨l1, l2⟩ := great_led hv
    have rg := great_rings hv
    refine run_seq (run_asgG (g_call (ga_cons (g_var rfl rfl) ga_nil) (.mk hv)) gg_two ?_)
    refine run_seq (run_asgG (g_call (ga_cons (g_var rfl rfl) ga_nil) (.mk hv2)) gg_two ?_)
    have N3 : Nm 2 (.lst [.lst (dRow (2 * n) (lnkF n (Wh n (ht n true (ht n false h))) true)), .lst (dRow (2 * n) (lnkF n (Wh n (ht n true (ht n false h))) false))]) := Nm.lst fun x hx => by
      rcases List.mem_cons.mp hx with rfl | hx
      · exact Nm.row _ _
      · cases List.mem_singleton.mp hx
        exact Nm.row _ _
    refine run_seq (run_ifF (b := false) (gt_is (gt_or (gt_test (g_neD (g_var rfl rfl) (g_is (g_lst (ds := [.lst (dRow (2 * n) (ledF (2 * n) (lnkF n (Wh n h) true) (-1))), .lst (dRow (2 * n) (ledF (2 * n) (lnkF n (Wh n h) false) 1))]) (ga_cons (g_call (ga_cons (g_ixL (g_var rfl rfl) g_int rfl) (ga_cons (g_neg g_int) ga_nil)) (.mk (by omega) (by omega) (lnkF n (Wh n h) true) (-1))) (ga_cons (g_call (ga_cons (g_ixL (g_var rfl rfl) g_int rfl) (ga_cons g_int ga_nil)) (.mk (by omega) (by omega) (lnkF n (Wh n h) false) 1)) ga_nil))) (by rw [l1, l2])) N3.pl N3.pl N3.sh N3.sh N3.eqv)) fun _ => gt_test (g_neI (g_var rfl rfl) (g_var rfl rfl))) ?_) rfl (run_next ?_))
    · rw [rg, decide_eq_true rfl]
      rfl
    have e1 : sgn (ht n false (ht n true (ht n true (ht n false h)))) = sgn h := by rw [ht_htF, ht_htF]
    have e2 : sgn (ht n true (ht n false (ht n false (ht n true h)))) = sgn h := by rw [ht_htF, ht_htF]
    refine run_seq (run_ifF (gt_test (g_neD (g_is (g_call (ga_cons (g_call (ga_cons (g_var rfl rfl) (ga_cons (g_call (ga_cons (g_var rfl rfl) (ga_cons (g_var rfl rfl) ga_nil)) (.mk hv2 f')) ga_nil)) (.mk hv2 f')) ga_nil) (.mk hv2)) (by rw [e1])) (g_var rfl rfl) N1.pl N1.pl N1.sh N1.sh N1.eqv)) rfl (run_next ?_))
    exact run_ret (g_eqD (g_is (g_call (ga_cons (g_call (ga_cons (g_var rfl rfl) ga_nil) (.mk hv)) ga_nil) (.mk ((hv.ht true).ht false))) (by rw [e2])) (g_var rfl rfl) N1.pl N1.pl N1.sh N1.sh N1.eqv) rfl
end
end GY
end
section
set_option Elab.async false
set_option linter.all false
set_option maxRecDepth 100000
set_option maxHeartbeats 4000000
namespace GY
open PySem PySem.Spec PyProof.Rows L2
def spLaw (K : PySem.W.Frag) : Sp := fun vs H Q _ => ∃ (a : Addr) (ns : List Int), vs = [.ref a] ∧ SqL K H a (ns.map V.int) ∧ ns.length ≤ 63 ∧ ∀ H', Q (.bl true) H'
theorem facts {P : Program} {w : World} {K : PySem.W.Frag} {h : Heap} {mg : Str → Option Value} {f : Addr} (X : K.In h) (G : h.Ns mainGlobals mg) (hfa : mg ("law" : Str) = some (.ref f)) (c : He.SaysD fa fn K) :
    ∃ fd : FuncData, (∀ (s : Shared) (v : Value), BindsTo s fd ⟨[v], []⟩ [("_law_script", v)]) ∧ ∀ base : Heap, K.In base → base.Ns mainGlobals mg → FnOk P w K mg base CX0 8 f fd ["_law_script"] (spLaw K) := by
  have f_is_whole : Fs K mg "is_whole" s_is_whole := let ⟨_, F⟩ := c.def_ 0 (d := d_is_whole) rfl; ⟨_, _, F, He.glo_ok X G (c.fact 0 (f := .glo "is_whole") rfl)⟩
  have f_look_size : Fs K mg "look_size" s_look_size := let ⟨_, F⟩ := c.def_ 1 (d := d_look_size) rfl; ⟨_, _, F, He.glo_ok X G (c.fact 1 (f := .glo "look_size") rfl)⟩
  have f_squares : Fs K mg "squares" s_squares := let ⟨_, F⟩ := c.def_ 2 (d := d_squares) rfl; ⟨_, _, F, He.glo_ok X G (c.fact 2 (f := .glo "squares") rfl)⟩
  have f_is_table : Fs K mg "is_table" s_is_table := let ⟨_, F⟩ := c.def_ 3 (d := d_is_table) rfl; ⟨_, _, F, He.glo_ok X G (c.fact 3 (f := .glo "is_table") rfl)⟩
  have f_is_form : Fs K mg "is_form" s_is_form := let ⟨_, F⟩ := c.def_ 4 (d := d_is_form) rfl; ⟨_, _, F, He.glo_ok X G (c.fact 4 (f := .glo "is_form") rfl)⟩
  have f_signs_fault : Fs K mg "signs_fault" s_signs_fault := let ⟨_, F⟩ := c.def_ 5 (d := d_signs_fault) rfl; ⟨_, _, F, He.glo_ok X G (c.fact 5 (f := .glo "signs_fault") rfl)⟩
  have f_is_state : Fs K mg "is_state" s_is_state := let ⟨_, F⟩ := c.def_ 6 (d := d_is_state) rfl; ⟨_, _, F, He.glo_ok X G (c.fact 6 (f := .glo "is_state") rfl)⟩
  have f_heights_of : Fs K mg "heights_of" s_heights_of := let ⟨_, F⟩ := c.def_ 7 (d := d_heights_of) rfl; ⟨_, _, F, He.glo_ok X G (c.fact 7 (f := .glo "heights_of") rfl)⟩
  have f_rim_height : Fs K mg "rim_height" s_rim_height := let ⟨_, F⟩ := c.def_ 8 (d := d_rim_height) rfl; ⟨_, _, F, He.glo_ok X G (c.fact 8 (f := .glo "rim_height") rfl)⟩
  have f_is_amiss : Fs K mg "is_amiss" s_is_amiss := let ⟨_, F⟩ := c.def_ 9 (d := d_is_amiss) rfl; ⟨_, _, F, He.glo_ok X G (c.fact 9 (f := .glo "is_amiss") rfl)⟩
  have f_look_heights : Fs K mg "look_heights" s_look_heights := let ⟨_, F⟩ := c.def_ 10 (d := d_look_heights) rfl; ⟨_, _, F, He.glo_ok X G (c.fact 10 (f := .glo "look_heights") rfl)⟩
  have f_state_of_heights : Fs K mg "state_of_heights" s_state_of_heights := let ⟨_, F⟩ := c.def_ 11 (d := d_state_of_heights) rfl; ⟨_, _, F, He.glo_ok X G (c.fact 11 (f := .glo "state_of_heights") rfl)⟩
  have f_is_level : Fs K mg "is_level" s_is_level := let ⟨_, F⟩ := c.def_ 12 (d := d_is_level) rfl; ⟨_, _, F, He.glo_ok X G (c.fact 12 (f := .glo "is_level") rfl)⟩
  have f_turn_point : Fs K mg "turn_point" s_turn_point := let ⟨_, F⟩ := c.def_ 13 (d := d_turn_point) rfl; ⟨_, _, F, He.glo_ok X G (c.fact 13 (f := .glo "turn_point") rfl)⟩
  have f_half_turn : Fs K mg "half_turn" s_half_turn := let ⟨_, F⟩ := c.def_ 14 (d := d_half_turn) rfl; ⟨_, _, F, He.glo_ok X G (c.fact 14 (f := .glo "half_turn") rfl)⟩
  have f_great_turn : Fs K mg "great_turn" s_great_turn := let ⟨_, F⟩ := c.def_ 15 (d := d_great_turn) rfl; ⟨_, _, F, He.glo_ok X G (c.fact 15 (f := .glo "great_turn") rfl)⟩
  have f_great_turn_back : Fs K mg "great_turn_back" s_great_turn_back := let ⟨_, F⟩ := c.def_ 16 (d := d_great_turn_back) rfl; ⟨_, _, F, He.glo_ok X G (c.fact 16 (f := .glo "great_turn_back") rfl)⟩
  have f_across_of : Fs K mg "across_of" s_across_of := let ⟨_, F⟩ := c.def_ 17 (d := d_across_of) rfl; ⟨_, _, F, He.glo_ok X G (c.fact 17 (f := .glo "across_of") rfl)⟩
  have f_arrows_of : Fs K mg "arrows_of" s_arrows_of := let ⟨_, F⟩ := c.def_ 18 (d := d_arrows_of) rfl; ⟨_, _, F, He.glo_ok X G (c.fact 18 (f := .glo "arrows_of") rfl)⟩
  have f_are_lists : Fs K mg "are_lists" s_are_lists := let ⟨_, F⟩ := c.def_ 19 (d := d_are_lists) rfl; ⟨_, _, F, He.glo_ok X G (c.fact 19 (f := .glo "are_lists") rfl)⟩
  have f_has_form : Fs K mg "has_form" s_has_form := let ⟨_, F⟩ := c.def_ 20 (d := d_has_form) rfl; ⟨_, _, F, He.glo_ok X G (c.fact 20 (f := .glo "has_form") rfl)⟩
  have f_is_right_place : Fs K mg "is_right_place" s_is_right_place := let ⟨_, F⟩ := c.def_ 21 (d := d_is_right_place) rfl; ⟨_, _, F, He.glo_ok X G (c.fact 21 (f := .glo "is_right_place") rfl)⟩
  have f_fault_of : Fs K mg "fault_of" s_fault_of := let ⟨_, F⟩ := c.def_ 22 (d := d_fault_of) rfl; ⟨_, _, F, He.glo_ok X G (c.fact 22 (f := .glo "fault_of") rfl)⟩
  have f_state_of_arrows : Fs K mg "state_of_arrows" s_state_of_arrows := let ⟨_, F⟩ := c.def_ 23 (d := d_state_of_arrows) rfl; ⟨_, _, F, He.glo_ok X G (c.fact 23 (f := .glo "state_of_arrows") rfl)⟩
  have f_walked : Fs K mg "walked" s_walked := let ⟨_, F⟩ := c.def_ 24 (d := d_walked) rfl; ⟨_, _, F, He.glo_ok X G (c.fact 24 (f := .glo "walked") rfl)⟩
  have f_sides_of : Fs K mg "sides_of" s_sides_of := let ⟨_, F⟩ := c.def_ 25 (d := d_sides_of) rfl; ⟨_, _, F, He.glo_ok X G (c.fact 25 (f := .glo "sides_of") rfl)⟩
  have f_pointed : Fs K mg "pointed" s_pointed := let ⟨_, F⟩ := c.def_ 26 (d := d_pointed) rfl; ⟨_, _, F, He.glo_ok X G (c.fact 26 (f := .glo "pointed") rfl)⟩
  have f_state_of_sides : Fs K mg "state_of_sides" s_state_of_sides := let ⟨_, F⟩ := c.def_ 27 (d := d_state_of_sides) rfl; ⟨_, _, F, He.glo_ok X G (c.fact 27 (f := .glo "state_of_sides") rfl)⟩
  have f_triangle_of : Fs K mg "triangle_of" s_triangle_of := let ⟨_, F⟩ := c.def_ 28 (d := d_triangle_of) rfl; ⟨_, _, F, He.glo_ok X G (c.fact 28 (f := .glo "triangle_of") rfl)⟩
  have f_is_list : Fs K mg "is_list" s_is_list := let ⟨_, F⟩ := c.def_ 29 (d := d_is_list) rfl; ⟨_, _, F, He.glo_ok X G (c.fact 29 (f := .glo "is_list") rfl)⟩
  have f_look_triangle : Fs K mg "look_triangle" s_look_triangle := let ⟨_, F⟩ := c.def_ 30 (d := d_look_triangle) rfl; ⟨_, _, F, He.glo_ok X G (c.fact 30 (f := .glo "look_triangle") rfl)⟩
  have f_state_of_triangle : Fs K mg "state_of_triangle" s_state_of_triangle := let ⟨_, F⟩ := c.def_ 31 (d := d_state_of_triangle) rfl; ⟨_, _, F, He.glo_ok X G (c.fact 31 (f := .glo "state_of_triangle") rfl)⟩
  have f_marked : Fs K mg "marked" s_marked := let ⟨_, F⟩ := c.def_ 32 (d := d_marked) rfl; ⟨_, _, F, He.glo_ok X G (c.fact 32 (f := .glo "marked") rfl)⟩
  have f_by_turns : Fs K mg "by_turns" s_by_turns := let ⟨_, F⟩ := c.def_ 33 (d := d_by_turns) rfl; ⟨_, _, F, He.glo_ok X G (c.fact 33 (f := .glo "by_turns") rfl)⟩
  have f_counted : Fs K mg "counted" s_counted := let ⟨_, F⟩ := c.def_ 34 (d := d_counted) rfl; ⟨_, _, F, He.glo_ok X G (c.fact 34 (f := .glo "counted") rfl)⟩
  have f_show : Fs K mg "show" s_show := let ⟨_, F⟩ := c.def_ 35 (d := d_show) rfl; ⟨_, _, F, He.glo_ok X G (c.fact 35 (f := .glo "show") rfl)⟩
  have f_unmarked : Fs K mg "unmarked" s_unmarked := let ⟨_, F⟩ := c.def_ 36 (d := d_unmarked) rfl; ⟨_, _, F, He.glo_ok X G (c.fact 36 (f := .glo "unmarked") rfl)⟩
  have f_figures_in : Fs K mg "figures_in" s_figures_in := let ⟨_, F⟩ := c.def_ 37 (d := d_figures_in) rfl; ⟨_, _, F, He.glo_ok X G (c.fact 37 (f := .glo "figures_in") rfl)⟩
  have f_numbers_in : Fs K mg "numbers_in" s_numbers_in := let ⟨_, F⟩ := c.def_ 38 (d := d_numbers_in) rfl; ⟨_, _, F, He.glo_ok X G (c.fact 38 (f := .glo "numbers_in") rfl)⟩
  have f_size_of : Fs K mg "size_of" s_size_of := let ⟨_, F⟩ := c.def_ 39 (d := d_size_of) rfl; ⟨_, _, F, He.glo_ok X G (c.fact 39 (f := .glo "size_of") rfl)⟩
  have f_pair_in : Fs K mg "pair_in" s_pair_in := let ⟨_, F⟩ := c.def_ 40 (d := d_pair_in) rfl; ⟨_, _, F, He.glo_ok X G (c.fact 40 (f := .glo "pair_in") rfl)⟩
  have f_signs_in : Fs K mg "signs_in" s_signs_in := let ⟨_, F⟩ := c.def_ 41 (d := d_signs_in) rfl; ⟨_, _, F, He.glo_ok X G (c.fact 41 (f := .glo "signs_in") rfl)⟩
  have f_heights_in : Fs K mg "heights_in" s_heights_in := let ⟨_, F⟩ := c.def_ 42 (d := d_heights_in) rfl; ⟨_, _, F, He.glo_ok X G (c.fact 42 (f := .glo "heights_in") rfl)⟩
  have f_triangle_in : Fs K mg "triangle_in" s_triangle_in := let ⟨_, F⟩ := c.def_ 43 (d := d_triangle_in) rfl; ⟨_, _, F, He.glo_ok X G (c.fact 43 (f := .glo "triangle_in") rfl)⟩
  have f_read : Fs K mg "read" s_read := let ⟨_, F⟩ := c.def_ 44 (d := d_read) rfl; ⟨_, _, F, He.glo_ok X G (c.fact 44 (f := .glo "read") rfl)⟩
  have f_law_cell_at : Fs K mg "_law_cell_at" s__law_cell_at := let ⟨_, F⟩ := c.def_ 45 (d := d__law_cell_at) rfl; ⟨_, _, F, He.glo_ok X G (c.fact 45 (f := .glo "_law_cell_at") rfl)⟩
  have f_law_mixed : Fs K mg "_law_mixed" s__law_mixed := let ⟨_, F⟩ := c.def_ 46 (d := d__law_mixed) rfl; ⟨_, _, F, He.glo_ok X G (c.fact 46 (f := .glo "_law_mixed") rfl)⟩
  have f_law_size_by : Fs K mg "_law_size_by" s__law_size_by := let ⟨_, F⟩ := c.def_ 47 (d := d__law_size_by) rfl; ⟨_, _, F, He.glo_ok X G (c.fact 47 (f := .glo "_law_size_by") rfl)⟩
  have f_law_triangle_by : Fs K mg "_law_triangle_by" s__law_triangle_by := let ⟨_, F⟩ := c.def_ 48 (d := d__law_triangle_by) rfl; ⟨_, _, F, He.glo_ok X G (c.fact 48 (f := .glo "_law_triangle_by") rfl)⟩
  have f_law_signs_of : Fs K mg "_law_signs_of" s__law_signs_of := let ⟨_, F⟩ := c.def_ 49 (d := d__law_signs_of) rfl; ⟨_, _, F, He.glo_ok X G (c.fact 49 (f := .glo "_law_signs_of") rfl)⟩
  have f_law_walked : Fs K mg "_law_walked" s__law_walked := let ⟨_, F⟩ := c.def_ 50 (d := d__law_walked) rfl; ⟨_, _, F, He.glo_ok X G (c.fact 50 (f := .glo "_law_walked") rfl)⟩
  have f_law_road_of : Fs K mg "_law_road_of" s__law_road_of := let ⟨_, F⟩ := c.def_ 51 (d := d__law_road_of) rfl; ⟨_, _, F, He.glo_ok X G (c.fact 51 (f := .glo "_law_road_of") rfl)⟩
  have f_law_next : Fs K mg "_law_next" s__law_next := let ⟨_, F⟩ := c.def_ 52 (d := d__law_next) rfl; ⟨_, _, F, He.glo_ok X G (c.fact 52 (f := .glo "_law_next") rfl)⟩
  have f_law_ways : Fs K mg "_law_ways" s__law_ways := let ⟨_, F⟩ := c.def_ 53 (d := d__law_ways) rfl; ⟨_, _, F, He.glo_ok X G (c.fact 53 (f := .glo "_law_ways") rfl)⟩
  have f_law_look : Fs K mg "_law_look" s__law_look := let ⟨_, F⟩ := c.def_ 54 (d := d__law_look) rfl; ⟨_, _, F, He.glo_ok X G (c.fact 54 (f := .glo "_law_look") rfl)⟩
  have f_law_led : Fs K mg "_law_led" s__law_led := let ⟨_, F⟩ := c.def_ 55 (d := d__law_led) rfl; ⟨_, _, F, He.glo_ok X G (c.fact 55 (f := .glo "_law_led") rfl)⟩
  obtain ⟨fd, F⟩ := c.def_ 56 (d := d_law) rfl
  have e := hfa.symm.trans (He.glo_ok X G (c.fact 56 (f := .glo "law") rfl))
  cases e
  have T : Tx mg := { len := He.free_ok X G (c.fact 57 (f := .free "len") rfl), range := He.free_ok X G (c.fact 58 (f := .free "range") rfl), list := He.free_ok X G (c.fact 59 (f := .free "list") rfl), isinstance := He.free_ok X G (c.fact 60 (f := .free "isinstance") rfl), int := He.free_ok X G (c.fact 61 (f := .free "int") rfl), enumerate := He.free_ok X G (c.fact 62 (f := .free "enumerate") rfl), str := He.free_ok X G (c.fact 63 (f := .free "str") rfl), zip := He.free_ok X G (c.fact 64 (f := .free "zip") rfl), bool := He.free_ok X G (c.fact 65 (f := .free "bool") rfl), tuple := He.free_ok X G (c.fact 66 (f := .free "tuple") rfl), sum := He.free_ok X G (c.fact 67 (f := .free "sum") rfl), min := He.free_ok X G (c.fact 68 (f := .free "min") rfl), max := He.free_ok X G (c.fact 69 (f := .free "max") rfl), abs := He.free_ok X G (c.fact 70 (f := .free "abs") rfl), MOST := He.int_ok X G (c.fact 71 (f := .int "MOST" 12) rfl), MOST_SIZE_arrows := He.int_ok X G (c.fact 72 (f := .int "MOST_SIZE_arrows" 12) rfl), MOST_SIZE_texts := He.int_ok X G (c.fact 73 (f := .int "MOST_SIZE_texts" 12) rfl), MOST_HEIGHT := He.int_ok X G (c.fact 74 (f := .int "MOST_HEIGHT" 24) rfl), LIGHT := He.str_ok X G (c.fact 75 (f := .str "LIGHT" "light") rfl), DARK := He.str_ok X G (c.fact 76 (f := .str "DARK" "dark") rfl), FIGURES := He.str_ok X G (c.fact 77 (f := .str "FIGURES" "0123456789") rfl) }
  have b := FunD.bindsA (ps := ["_law_script"]) F fun _ _ _ _ _ _ us hl => match us, hl with | [_], _ => rfl
  refine ⟨fd, fun s v => b s [v] rfl, fun base _ _ => ?_⟩
  have k_is_whole := ok_is_whole (Pg := P) (w := w) (base := base) f_is_whole T 
  have k_look_size := ok_look_size (Pg := P) (w := w) (base := base) f_look_size T 
  have k_heights_of := ok_heights_of (Pg := P) (w := w) (base := base) f_heights_of T 
  have k_rim_height := ok_rim_height (Pg := P) (w := w) (base := base) f_rim_height T 
  have k_is_level := ok_is_level (Pg := P) (w := w) (base := base) f_is_level T 
  have k_turn_point := ok_turn_point (Pg := P) (w := w) (base := base) f_turn_point T 
  have k_across_of := ok_across_of (Pg := P) (w := w) (base := base) f_across_of T 
  have k_are_lists := ok_are_lists (Pg := P) (w := w) (base := base) f_are_lists T 
  have k_is_right_place := ok_is_right_place (Pg := P) (w := w) (base := base) f_is_right_place T 
  have k_walked := ok_walked (Pg := P) (w := w) (base := base) f_walked T 
  have k_pointed := ok_pointed (Pg := P) (w := w) (base := base) f_pointed T 
  have k_triangle_of := ok_triangle_of (Pg := P) (w := w) (base := base) f_triangle_of T 
  have k_marked := ok_marked (Pg := P) (w := w) (base := base) f_marked T 
  have k_counted := ok_counted (Pg := P) (w := w) (base := base) f_counted T 
  have k_unmarked := ok_unmarked (Pg := P) (w := w) (base := base) f_unmarked T 
  have k_figures_in := ok_figures_in (Pg := P) (w := w) (base := base) f_figures_in T 
  have k_size_of := ok_size_of (Pg := P) (w := w) (base := base) f_size_of T 
  have k_law_cell_at := ok_law_cell_at (Pg := P) (w := w) (base := base) f_law_cell_at T 
  have k_law_mixed := ok_law_mixed (Pg := P) (w := w) (base := base) f_law_mixed T 
  have k_law_size_by := ok_law_size_by (Pg := P) (w := w) (base := base) f_law_size_by T 
  have k_law_signs_of := ok_law_signs_of (Pg := P) (w := w) (base := base) f_law_signs_of T 
  have k_law_walked := ok_law_walked (Pg := P) (w := w) (base := base) f_law_walked T 
  have k_law_road_of := ok_law_road_of (Pg := P) (w := w) (base := base) f_law_road_of T 
  have k_law_next := ok_law_next (Pg := P) (w := w) (base := base) f_law_next T 
  have k_law_led := ok_law_led (Pg := P) (w := w) (base := base) f_law_led T 
  have k_squares := ok_squares (Pg := P) (w := w) (base := base) f_squares T (c_look_size := k_look_size)
  have k_is_table := ok_is_table (Pg := P) (w := w) (base := base) f_is_table T (c_is_whole := k_is_whole)
  have k_is_amiss := ok_is_amiss (Pg := P) (w := w) (base := base) f_is_amiss T (c_rim_height := k_rim_height)
  have k_arrows_of := ok_arrows_of (Pg := P) (w := w) (base := base) f_arrows_of T (c_across_of := k_across_of)
  have k_has_form := ok_has_form (Pg := P) (w := w) (base := base) f_has_form T (c_are_lists := k_are_lists)
  have k_fault_of := ok_fault_of (Pg := P) (w := w) (base := base) f_fault_of T (c_is_right_place := k_is_right_place)
  have k_is_list := ok_is_list (Pg := P) (w := w) (base := base) f_is_list T (c_is_whole := k_is_whole)
  have k_by_turns := ok_by_turns (Pg := P) (w := w) (base := base) f_by_turns T (c_marked := k_marked)
  have k_numbers_in := ok_numbers_in (Pg := P) (w := w) (base := base) f_numbers_in T (c_figures_in := k_figures_in)
  have k_pair_in := ok_pair_in (Pg := P) (w := w) (base := base) f_pair_in T (c_unmarked := k_unmarked) (c_size_of := k_size_of)
  have k_law_triangle_by := ok_law_triangle_by (Pg := P) (w := w) (base := base) f_law_triangle_by T (c_law_mixed := k_law_mixed)
  have k_law_ways := ok_law_ways (Pg := P) (w := w) (base := base) f_law_ways T (c_law_walked := k_law_walked) (c_law_road_of := k_law_road_of) (c_law_next := k_law_next)
  have k_is_form := ok_is_form (Pg := P) (w := w) (base := base) f_is_form T (c_is_table := k_is_table)
  have k_look_heights := ok_look_heights (Pg := P) (w := w) (base := base) f_look_heights T (c_is_table := k_is_table) (c_is_amiss := k_is_amiss)
  have k_state_of_arrows := ok_state_of_arrows (Pg := P) (w := w) (base := base) f_state_of_arrows T (c_has_form := k_has_form) (c_fault_of := k_fault_of)
  have k_sides_of := ok_sides_of (Pg := P) (w := w) (base := base) f_sides_of T (c_arrows_of := k_arrows_of) (c_walked := k_walked)
  have k_look_triangle := ok_look_triangle (Pg := P) (w := w) (base := base) f_look_triangle T (c_is_list := k_is_list)
  have k_law_look := ok_law_look (Pg := P) (w := w) (base := base) f_law_look T (c_law_next := k_law_next) (c_law_ways := k_law_ways)
  have k_signs_fault := ok_signs_fault (Pg := P) (w := w) (base := base) f_signs_fault T (c_is_form := k_is_form)
  have k_state_of_heights := ok_state_of_heights (Pg := P) (w := w) (base := base) f_state_of_heights T (c_look_heights := k_look_heights)
  have k_state_of_sides := ok_state_of_sides (Pg := P) (w := w) (base := base) f_state_of_sides T (c_has_form := k_has_form) (c_fault_of := k_fault_of) (c_state_of_arrows := k_state_of_arrows) (c_pointed := k_pointed)
  have k_state_of_triangle := ok_state_of_triangle (Pg := P) (w := w) (base := base) f_state_of_triangle T (c_look_triangle := k_look_triangle)
  have k_show := ok_show (Pg := P) (w := w) (base := base) f_show T (c_heights_of := (heights_D k_heights_of)) (c_arrows_of := k_arrows_of) (c_sides_of := k_sides_of) (c_triangle_of := k_triangle_of) (c_marked := k_marked) (c_by_turns := k_by_turns) (c_counted := k_counted)
  have k_is_state := ok_is_state (Pg := P) (w := w) (base := base) f_is_state T (c_is_form := k_is_form) (c_signs_fault := k_signs_fault)
  have k_half_turn := ok_half_turn (Pg := P) (w := w) (base := base) f_half_turn T (c_squares := k_squares) (c_heights_of := k_heights_of) (c_state_of_heights := k_state_of_heights) (c_is_level := k_is_level) (c_turn_point := k_turn_point)
  have k_heights_in := ok_heights_in (Pg := P) (w := w) (base := base) f_heights_in T (c_state_of_heights := k_state_of_heights) (c_numbers_in := k_numbers_in) (c_size_of := k_size_of)
  have k_triangle_in := ok_triangle_in (Pg := P) (w := w) (base := base) f_triangle_in T (c_state_of_triangle := k_state_of_triangle) (c_numbers_in := k_numbers_in) (c_size_of := k_size_of)
  have k_great_turn := ok_great_turn (Pg := P) (w := w) (base := base) f_great_turn T (c_half_turn := k_half_turn)
  have k_great_turn_back := ok_great_turn_back (Pg := P) (w := w) (base := base) f_great_turn_back T (c_half_turn := k_half_turn)
  have k_signs_in := ok_signs_in (Pg := P) (w := w) (base := base) f_signs_in T (c_signs_fault := k_signs_fault) (c_is_state := k_is_state) (c_unmarked := k_unmarked) (c_size_of := k_size_of)
  have k_read := ok_read (Pg := P) (w := w) (base := base) f_read T (c_state_of_arrows := k_state_of_arrows) (c_state_of_sides := k_state_of_sides) (c_pair_in := k_pair_in) (c_signs_in := k_signs_in) (c_heights_in := k_heights_in) (c_triangle_in := k_triangle_in)
  refine FnOk.imp (ok_law (Pg := P) (w := w) (base := base) F T (c_great_turn := k_great_turn) (c_great_turn_back := k_great_turn_back) (c_show := k_show) (c_read := k_read) (c_law_cell_at := k_law_cell_at) (c_law_size_by := k_law_size_by) (c_law_triangle_by := k_law_triangle_by) (c_law_signs_of := k_law_signs_of) (c_law_look := k_law_look) (c_law_led := k_law_led)) fun vs H Q E s => ?_
  obtain ⟨a, ns, rfl, hS, _, q⟩ := s
  exact ⟨[.lst (dI ns)], .bl true, .one (.lst hS (.of_ints ns)), .mk ns, fun v H' _ r => by rw [r.bl_inv]; exact q H'⟩
end GY
set_option maxHeartbeats 0
open PySem PySem.W PySem.Calls PyProof.Rows
theorem PySem.Challenge.cw_loopgyre_k95_whole_from_text_to_great_tu_holds : PySem.Challenge.rw_loopgyre_k95_whole_from_text_to_great_tu.Holds := by
  w_on; o_law
  refine HandSHeadRun.head_any (r := GY.RR) (q := GY.qv) (H := GY.hk) (ob := GY.ob) (M := 6000) (loose := GY.loose) (d := HandSHeadRun.topDef GY.RR.prog 78) (kwd := []) GY.ob_eq
    (by kernel_rfl) (fun s => by kernel_rfl) GY.run (by kernel_rfl) (by kernel_rfl) (by kernel_rfl) (by rfl) (by first | assumption | decide +kernel) (by decide +kernel) ⟨rfl, rfl, rfl, rfl, rfl, by decide +kernel⟩ ?hw ?hc
  case hw => w_witness2
  case hc =>
    refine L2.walk_ofE (l := PySem.Challenge.rw_loopgyre_k95_whole_from_text_to_great_tu) (n := 63) (k := 8) (x := "_law_script") (CX := L2.CX0) rfl (by decide) (by kernel_rfl) ⟨rfl, by decide, by decide⟩ ?F (fun _ _ _ _ z => z)
    intro w mg fa h Y G hmg0
    obtain ⟨K, KX, c⟩ := Y
    have hmg : mg ("law" : PySem.Str) = some (.ref fa) := by
      have e : (HandSHeadRun.topDef GY.RR.prog 78).name = ("law" : PySem.Str) := by kernel_rfl
      rw [← e]
      exact hmg0
    obtain ⟨fd, hb, hF⟩ := GY.facts (P := (PySem.Challenge.rw_loopgyre_k95_whole_from_text_to_great_tu).prog) (w := w) KX G hmg c
    exact ⟨K, fd, GY.spLaw K, KX, hb, fun H a ns hl _ hS => ⟨a, ns, rfl, hS, hl, fun _ => rfl⟩, hF⟩
end
