import PyProof.Rows.All
import Wide.All
import OpenK.AllK
import Wide.FinOn
import KE.KStateDown
import HandS.ForMost
import HandS.Defaults
import HandS.Property
import HandS.ClsMeth
import HandS.OwnEq
import HandS.IsInst
import HandS.Head0
import HandS.Head1
import HandS.Head2
import HandS.HeadEnd
import HandS.HeadHook1
import HandS.HeadHook2
import HandS.HeadHook3
import HandS.HeadNt
import HandS.Style
import HandS.Deep
import HandS.Steps
import HandS.WideBits
import HandS.Text
import HandS.TupSets
import HandS.SetBool
import KE.SortData
import HandS.DictComp
import HandS.DictTup
import HandS.Conv
import HandS.More
import HandS.Strs
import KE.GoesEnum
import PyProof.P3In
import HandS.TupAny
import HandS.MakeKw
import KE.KDictKeyed
import HandS.TupLen
import HandS.SlotsOwn
import HandS.SetFor
import HandS.FStr
import HandS.FStrTup
import PySem.Challenge.RW_aheadbehind_k81_whole_rooms_beside_helpe
set_option Elab.async false
set_option linter.all false
set_option maxRecDepth 100000
set_option maxHeartbeats 0
/-! K81, the text by places and the head. -/
namespace K81
open PySem PySem.Spec PyProof.Rows L2
/-! ### the text -/
def top (i : Nat) : Stmt := PySem.Challenge.pw_aheadbehind_k81_whole_rooms_beside_helpe.main.body.getD i (.Pass ⟨0, 0, 0, 0⟩)
abbrev s_is_integer : Stmt := top 4
abbrev s_is_count : Stmt := top 5
abbrev s_is_list : Stmt := top 6
abbrev s_is_name : Stmt := top 7
abbrev s_is_sign : Stmt := top 8
abbrev s_pairs_with : Stmt := top 23
abbrev s_turned_pairs : Stmt := top 24
abbrev s_sets_by : Stmt := top 25
abbrev s_set_of : Stmt := top 26
abbrev s_states_in : Stmt := top 27
abbrev s_gathered : Stmt := top 28
abbrev s_is_state_of : Stmt := top 29
abbrev s_want_starts : Stmt := top 30
abbrev s_want_steps : Stmt := top 31
abbrev s_want_limits : Stmt := top 32
abbrev s_made_box : Stmt := top 34
abbrev s_want_state : Stmt := top 35
abbrev s_want_row : Stmt := top 36
abbrev s_want_limited : Stmt := top 39
abbrev s_start_set : Stmt := top 40
abbrev s_behind_set : Stmt := top 41
abbrev s_behind_row : Stmt := top 42
abbrev s_does_give : Stmt := top 43
abbrev s_gives : Stmt := top 44
abbrev s_sets_with_steps : Stmt := top 46
abbrev s_parted : Stmt := top 47
abbrev s_form_of : Stmt := top 48
abbrev s_form : Stmt := top 49
abbrev s_want_signs : Stmt := top 54
abbrev s_want_states : Stmt := top 55
abbrev s_onward : Stmt := top 56
abbrev s_room : Stmt := top 57
abbrev s_tuples_behind : Stmt := top 59
abbrev s_row_to_place : Stmt := top 60
abbrev s_next_front : Stmt := top 61
abbrev s_missing_of : Stmt := top 62
abbrev s_stands_for : Stmt := top 63
abbrev s_both_starts : Stmt := top 65
abbrev s_in_step : Stmt := top 66
abbrev s__law_pot : Stmt := top 68
abbrev s__law_draw : Stmt := top 69
abbrev s__law_pick : Stmt := top 70
abbrev s__law_menu : Stmt := top 71
abbrev s__law_deal : Stmt := top 72
abbrev s__law_made : Stmt := top 73
abbrev s__law_behind : Stmt := top 75
abbrev s__law_some_signs : Stmt := top 76
abbrev s__law_runs : Stmt := top 77
abbrev s__law_greatest_right : Stmt := top 78
abbrev s__law_right : Stmt := top 79
abbrev s_law : Stmt := top 80
abbrev s_Shape_init : Stmt := inClass (top 22) 0
abbrev s_Box_init : Stmt := inClass (top 33) 2
abbrev s_Box_is_step : Stmt := inClass (top 33) 3
abbrev s_Box_states : Stmt := inClass (top 33) 5
abbrev s_Box_is_sure : Stmt := inClass (top 33) 6
abbrev s_Box_starts : Stmt := inClass (top 33) 7
abbrev s_Box_steps : Stmt := inClass (top 33) 8
abbrev s_Box_signs : Stmt := inClass (top 33) 11
abbrev s_Box_with_starts : Stmt := inClass (top 33) 17
abbrev s_Box_getitem : Stmt := inClass (top 33) 21
abbrev s_Box_eq : Stmt := inClass (top 33) 28
abbrev s_Box_repr : Stmt := inClass (top 33) 29
/-! ### facts -/
/-- the def behind a property, a staticmethod of a class -/
def rf (K : PySem.W.Frag) (C : Str) (T : String) (m : Str) : Addr := He5.wf K (He.ga K C) T m
def propB (K : PySem.W.Frag) (C m : Str) : Bool :=
  He.eqO (PySem.W.findIn K (.ref (He.ga K C)) m) (some (some (.ref (He.ma K (He.ga K C) m)))) &&
  (He.eqO (PySem.W.specialIn K (.ref (He.ma K (He.ga K C) m)) "__get__") (some (some (.builtin "property.__get__"))) &&
  (decide (PySem.W.takesIn K (.ref (He.ma K (He.ga K C) m)) = some true) &&
  (match PySem.W.recIn K (He.ma K (He.ga K C) m) "property" with
    | some (.ref _ :: _) => true
    | _ => false)))
theorem propB_ok {K : PySem.W.Frag} {C m : Str} (h : propB K C m = true) : PropOf K (He.ga K C) m (He.ma K (He.ga K C) m) (rf K C "property" m) := by
  obtain ⟨h1, h⟩ := He.ba h
  obtain ⟨h2, h⟩ := He.ba h
  obtain ⟨h3, h4⟩ := He.ba h
  refine ⟨He.eqO_ok h1, He.eqO_ok h2, of_decide_eq_true h3, ?_⟩
  unfold rf He5.wf
  split at h4
  · rename_i f r e
    exact ⟨r, by rw [e]⟩
  · cases h4
def conB2 (K : PySem.W.Frag) (C f : Str) (v : He.Dv) : Bool := match PySem.W.findCls K (.ref (He.ga K C)) (.type "type") f with
  | some (.val u) => He.relB (v.v K) u
  | _ => false
theorem conB2_ok {K : PySem.W.Frag} {C f : Str} {v : He.Dv} (h : conB2 K C f v = true) : ∃ u, ClX.CVal K (He.ga K C) (.type "type") f (v.v K) u := by
  unfold conB2 at h
  split at h
  · rename_i u e
    exact ⟨u, ⟨e, He.relB_ok h⟩⟩
  · cases h

def dvs0 : List He.Dv := []
def fn : List He5.DefA := [
  ⟨fun K => He.ga K "is_integer", "is_integer", "is_integer", defArgs s_is_integer, defBody s_is_integer, defScope s_is_integer, [], []⟩,
  ⟨fun K => He.ga K "is_count", "is_count", "is_count", defArgs s_is_count, defBody s_is_count, defScope s_is_count, [], []⟩,
  ⟨fun K => He.ga K "is_list", "is_list", "is_list", defArgs s_is_list, defBody s_is_list, defScope s_is_list, [], []⟩,
  ⟨fun K => He.ga K "is_name", "is_name", "is_name", defArgs s_is_name, defBody s_is_name, defScope s_is_name, [], []⟩,
  ⟨fun K => He.ga K "is_sign", "is_sign", "is_sign", defArgs s_is_sign, defBody s_is_sign, defScope s_is_sign, [], []⟩,
  ⟨fun K => He.ga K "pairs_with", "pairs_with", "pairs_with", defArgs s_pairs_with, defBody s_pairs_with, defScope s_pairs_with, [], []⟩,
  ⟨fun K => He.ga K "turned_pairs", "turned_pairs", "turned_pairs", defArgs s_turned_pairs, defBody s_turned_pairs, defScope s_turned_pairs, [], []⟩,
  ⟨fun K => He.ga K "sets_by", "sets_by", "sets_by", defArgs s_sets_by, defBody s_sets_by, defScope s_sets_by, [], []⟩,
  ⟨fun K => He.ga K "set_of", "set_of", "set_of", defArgs s_set_of, defBody s_set_of, defScope s_set_of, [], []⟩,
  ⟨fun K => He.ga K "states_in", "states_in", "states_in", defArgs s_states_in, defBody s_states_in, defScope s_states_in, [], []⟩,
  ⟨fun K => He.ga K "gathered", "gathered", "gathered", defArgs s_gathered, defBody s_gathered, defScope s_gathered, [], []⟩,
  ⟨fun K => He.ga K "is_state_of", "is_state_of", "is_state_of", defArgs s_is_state_of, defBody s_is_state_of, defScope s_is_state_of, [], []⟩,
  ⟨fun K => He.ga K "want_starts", "want_starts", "want_starts", defArgs s_want_starts, defBody s_want_starts, defScope s_want_starts, [], []⟩,
  ⟨fun K => He.ga K "want_steps", "want_steps", "want_steps", defArgs s_want_steps, defBody s_want_steps, defScope s_want_steps, [], []⟩,
  ⟨fun K => He.ga K "want_limits", "want_limits", "want_limits", defArgs s_want_limits, defBody s_want_limits, defScope s_want_limits, [], []⟩,
  ⟨fun K => He.ga K "made_box", "made_box", "made_box", defArgs s_made_box, defBody s_made_box, defScope s_made_box, [], []⟩,
  ⟨fun K => He.ga K "want_state", "want_state", "want_state", defArgs s_want_state, defBody s_want_state, defScope s_want_state, [], []⟩,
  ⟨fun K => He.ga K "want_row", "want_row", "want_row", defArgs s_want_row, defBody s_want_row, defScope s_want_row, [], []⟩,
  ⟨fun K => He.ga K "want_limited", "want_limited", "want_limited", defArgs s_want_limited, defBody s_want_limited, defScope s_want_limited, [], []⟩,
  ⟨fun K => He.ga K "start_set", "start_set", "start_set", defArgs s_start_set, defBody s_start_set, defScope s_start_set, [], []⟩,
  ⟨fun K => He.ga K "behind_set", "behind_set", "behind_set", defArgs s_behind_set, defBody s_behind_set, defScope s_behind_set, [], []⟩,
  ⟨fun K => He.ga K "behind_row", "behind_row", "behind_row", defArgs s_behind_row, defBody s_behind_row, defScope s_behind_row, [], []⟩,
  ⟨fun K => He.ga K "does_give", "does_give", "does_give", defArgs s_does_give, defBody s_does_give, defScope s_does_give, [], []⟩,
  ⟨fun K => He.ga K "gives", "gives", "gives", defArgs s_gives, defBody s_gives, defScope s_gives, [], []⟩,
  ⟨fun K => He.ga K "sets_with_steps", "sets_with_steps", "sets_with_steps", defArgs s_sets_with_steps, defBody s_sets_with_steps, defScope s_sets_with_steps, [], []⟩,
  ⟨fun K => He.ga K "parted", "parted", "parted", defArgs s_parted, defBody s_parted, defScope s_parted, [], []⟩,
  ⟨fun K => He.ga K "form_of", "form_of", "form_of", defArgs s_form_of, defBody s_form_of, defScope s_form_of, [], []⟩,
  ⟨fun K => He.ga K "form", "form", "form", defArgs s_form, defBody s_form, defScope s_form, [], []⟩,
  ⟨fun K => He.ga K "want_signs", "want_signs", "want_signs", defArgs s_want_signs, defBody s_want_signs, defScope s_want_signs, [], []⟩,
  ⟨fun K => He.ga K "want_states", "want_states", "want_states", defArgs s_want_states, defBody s_want_states, defScope s_want_states, [], []⟩,
  ⟨fun K => He.ga K "onward", "onward", "onward", defArgs s_onward, defBody s_onward, defScope s_onward, [], []⟩,
  ⟨fun K => He.ga K "room", "room", "room", defArgs s_room, defBody s_room, defScope s_room, [], []⟩,
  ⟨fun K => He.ga K "tuples_behind", "tuples_behind", "tuples_behind", defArgs s_tuples_behind, defBody s_tuples_behind, defScope s_tuples_behind, [], []⟩,
  ⟨fun K => He.ga K "row_to_place", "row_to_place", "row_to_place", defArgs s_row_to_place, defBody s_row_to_place, defScope s_row_to_place, [], []⟩,
  ⟨fun K => He.ga K "next_front", "next_front", "next_front", defArgs s_next_front, defBody s_next_front, defScope s_next_front, [], []⟩,
  ⟨fun K => He.ga K "missing_of", "missing_of", "missing_of", defArgs s_missing_of, defBody s_missing_of, defScope s_missing_of, [], []⟩,
  ⟨fun K => He.ga K "stands_for", "stands_for", "stands_for", defArgs s_stands_for, defBody s_stands_for, defScope s_stands_for, [], []⟩,
  ⟨fun K => He.ga K "both_starts", "both_starts", "both_starts", defArgs s_both_starts, defBody s_both_starts, defScope s_both_starts, [], []⟩,
  ⟨fun K => He.ga K "in_step", "in_step", "in_step", defArgs s_in_step, defBody s_in_step, defScope s_in_step, [], []⟩,
  ⟨fun K => He.ga K "_law_pot", "_law_pot", "_law_pot", defArgs s__law_pot, defBody s__law_pot, defScope s__law_pot, [], []⟩,
  ⟨fun K => He.ga K "_law_draw", "_law_draw", "_law_draw", defArgs s__law_draw, defBody s__law_draw, defScope s__law_draw, [], []⟩,
  ⟨fun K => He.ga K "_law_pick", "_law_pick", "_law_pick", defArgs s__law_pick, defBody s__law_pick, defScope s__law_pick, [], []⟩,
  ⟨fun K => He.ga K "_law_menu", "_law_menu", "_law_menu", defArgs s__law_menu, defBody s__law_menu, defScope s__law_menu, [], []⟩,
  ⟨fun K => He.ga K "_law_deal", "_law_deal", "_law_deal", defArgs s__law_deal, defBody s__law_deal, defScope s__law_deal, [], []⟩,
  ⟨fun K => He.ga K "_law_made", "_law_made", "_law_made", defArgs s__law_made, defBody s__law_made, defScope s__law_made, [], []⟩,
  ⟨fun K => He.ga K "_law_behind", "_law_behind", "_law_behind", defArgs s__law_behind, defBody s__law_behind, defScope s__law_behind, [], []⟩,
  ⟨fun K => He.ga K "_law_some_signs", "_law_some_signs", "_law_some_signs", defArgs s__law_some_signs, defBody s__law_some_signs, defScope s__law_some_signs, [], []⟩,
  ⟨fun K => He.ga K "_law_runs", "_law_runs", "_law_runs", defArgs s__law_runs, defBody s__law_runs, defScope s__law_runs, [], []⟩,
  ⟨fun K => He.ga K "_law_greatest_right", "_law_greatest_right", "_law_greatest_right", defArgs s__law_greatest_right, defBody s__law_greatest_right, defScope s__law_greatest_right, [], []⟩,
  ⟨fun K => He.ga K "_law_right", "_law_right", "_law_right", defArgs s__law_right, defBody s__law_right, defScope s__law_right, [], []⟩,
  ⟨fun K => He.ga K "law", "law", "law", defArgs s_law, defBody s_law, defScope s_law, [], []⟩,
  ⟨fun K => He.ma K (He.ga K "Shape") "__init__", "__init__", "Shape.__init__", defArgs s_Shape_init, defBody s_Shape_init, defScope s_Shape_init, [], []⟩,
  ⟨fun K => He.ma K (He.ga K "Box") "__init__", "__init__", "Box.__init__", defArgs s_Box_init, defBody s_Box_init, defScope s_Box_init, [.adr (He.dflAt ("Box", some "__init__") 0)], []⟩,
  ⟨fun K => rf K "Box" "staticmethod" "is_step", "is_step", "Box.is_step", defArgs s_Box_is_step, defBody s_Box_is_step, defScope s_Box_is_step, [], []⟩,
  ⟨fun K => rf K "Box" "property" "states", "states", "Box.states", defArgs s_Box_states, defBody s_Box_states, defScope s_Box_states, [], []⟩,
  ⟨fun K => rf K "Box" "property" "is_sure", "is_sure", "Box.is_sure", defArgs s_Box_is_sure, defBody s_Box_is_sure, defScope s_Box_is_sure, [], []⟩,
  ⟨fun K => He.ma K (He.ga K "Box") "starts", "starts", "Box.starts", defArgs s_Box_starts, defBody s_Box_starts, defScope s_Box_starts, [], []⟩,
  ⟨fun K => He.ma K (He.ga K "Box") "steps", "steps", "Box.steps", defArgs s_Box_steps, defBody s_Box_steps, defScope s_Box_steps, [], []⟩,
  ⟨fun K => He.ma K (He.ga K "Box") "signs", "signs", "Box.signs", defArgs s_Box_signs, defBody s_Box_signs, defScope s_Box_signs, [], []⟩,
  ⟨fun K => He.ma K (He.ga K "Box") "with_starts", "with_starts", "Box.with_starts", defArgs s_Box_with_starts, defBody s_Box_with_starts, defScope s_Box_with_starts, [], []⟩,
  ⟨fun K => He.ma K (He.ga K "Box") "__getitem__", "__getitem__", "Box.__getitem__", defArgs s_Box_getitem, defBody s_Box_getitem, defScope s_Box_getitem, [], []⟩,
  ⟨fun K => He.ma K (He.ga K "Box") "__eq__", "__eq__", "Box.__eq__", defArgs s_Box_eq, defBody s_Box_eq, defScope s_Box_eq, [], []⟩,
  ⟨fun K => He.ma K (He.ga K "Box") "__repr__", "__repr__", "Box.__repr__", defArgs s_Box_repr, defBody s_Box_repr, defScope s_Box_repr, [], []⟩]
def fa : List He.Fa := [
  .glo "is_integer", .glo "is_count", .glo "is_list", .glo "is_name", .glo "is_sign", .glo "pairs_with", .glo "turned_pairs", .glo "sets_by", .glo "set_of", .glo "states_in", .glo "gathered", .glo "is_state_of", .glo "want_starts", .glo "want_steps", .glo "want_limits", .glo "made_box", .glo "want_state", .glo "want_row", .glo "want_limited", .glo "start_set", .glo "behind_set", .glo "behind_row", .glo "does_give", .glo "gives", .glo "sets_with_steps", .glo "parted", .glo "form_of", .glo "form", .glo "want_signs", .glo "want_states", .glo "onward", .glo "room", .glo "tuples_behind", .glo "row_to_place", .glo "next_front", .glo "missing_of", .glo "stands_for", .glo "both_starts", .glo "in_step", .glo "_law_pot", .glo "_law_draw", .glo "_law_pick", .glo "_law_menu", .glo "_law_deal", .glo "_law_made", .glo "_law_behind", .glo "_law_some_signs", .glo "_law_runs", .glo "_law_greatest_right", .glo "_law_right", .glo "law", .glo "Box", .glo "Shape", .free "len", .free "range", .free "sorted", .free "isinstance", .free "int", .free "abs", .free "max", .free "min", .free "divmod", .free "enumerate", .free "zip", .free "tuple", .free "list", .free "set", .free "all", .free "any", .free "repr", .free "str", .free "bool", .int "MOST_LETTERS" 8, .int "MOST_SETS_STATES" 7, .int "MOST_HELPER_STATES" 3, .int "MOST_WHOLE_STATES" 4, .str "LETTERS" "abcdefghijklmnopqrstuvwxyz", .glo "FREE", .cls "Box", .cls "Shape", .noat "Box" "own_shape", .noat "Box" "own_steps", .noat "Shape" "own_many", .noat "Shape" "own_starts", .noat "Shape" "own_steps", .noat "Shape" "own_forth", .noat "Shape" "own_back", .meth "Box" "starts", .meth "Box" "steps", .meth "Box" "signs", .meth "Box" "with_starts", .meth "Box" "__getitem__", .meth "Box" "__eq__", .meth "Box" "__repr__", .mkr "Box", .mkr "Shape", .keep "Box", .keep "Shape"]
def boxClsB (K : PySem.W.Frag) (C : Str) : Bool :=
  He.eqO (PySem.W.findIn K (.ref (He.ga K C)) "__class__") (some (some (.builtin "object.__class__"))) &&
  (He.eqO (PySem.W.specialIn K (.builtin "object.__class__") "__get__") (some (some (.builtin "getset_descriptor.__get__"))) &&
  (decide (PySem.W.takesIn K (.builtin "object.__class__") = some true) &&
  decide (PySem.W.mroIn K (He.ga K C) (.type "object") = some true)))
def exs : List (PySem.W.Frag → Bool) := [
  fun K => propB K "Box" "states",
  fun K => propB K "Box" "is_sure",
  fun K => He5.wrapB K (He.ga K "Box") "staticmethod" "staticmethod.__get__" "is_step",
  fun K => PySem.W.readsIn K (He.ga K "Box") (.type "type"),
  fun K => conB2 K "Box" "MOST_STATES" (.int 6),
  fun K => conB2 K "Box" "MOST_STEPS" (.int 24),
  fun K => He.tupB K "FREE" [.int 0, .int 0],
  fun K => boxClsB K "Box",
  fun K => boxClsB K "Shape",
  fun K => decide (PySem.W.kitOne K (.ref (He.ga K "Shape")) (.ref (He.ga K "Shape")) = some true),
  fun K => decide (PySem.W.kitOne K (.ref (He.ga K "Box")) (.ref (He.ga K "Box")) = some true),
  fun K => decide (PySem.W.kitOne K (.type "int") (.ref (He.ga K "Shape")) = some false),
  fun K => He.eqO (PySem.W.findIn K (.ref (He.ga K "Box")) "__ne__") (some (some (.builtin "object.__ne__"))),
  fun K => (match K.lookup (He.dflAt ("Box", some "__init__") 0 K) with
    | some ⟨.type c, _, .seq its _, _⟩ => decide (c = "tuple") && its.isEmpty
    | _ => false)]
abbrev AlK : Type := Bool × List He5.FnW
def obsK (K : PySem.W.Frag) : AlK := ((fa.all fun f => f.ok K) && ((exs.all fun e => e K) && fn.all fun d => d.ok K), fn.map fun d => He5.fnA K (d.at_ K))
def valK : AlK := (true, fn.map He5.DefA.val)
/-- the addresses that are looked at -/
def asL : List Addr := [3, 6, 4, 21, 28, 35, 42, 47, 54, 64, 84, 103, 122, 141, 160, 179, 198, 217, 229, 249, 266, 275, 280, 287, 294, 299, 306, 313, 320, 327, 334, 540, 551, 558, 565, 572, 579, 586, 593, 600, 607, 614,
  619, 624, 631, 632, 639, 646, 653, 660, 665, 672, 679, 684, 691, 696, 703, 710, 717, 724, 731, 736, 743, 748, 753, 760, 767, 774, 779, 784, 0, 20, 27, 34, 41, 46, 53, 63, 83, 102, 121, 140, 159, 178,
  197, 216, 228, 248, 265, 274, 279, 286, 293, 298, 305, 312, 319, 326, 333, 539, 550, 557, 564, 571, 578, 585, 592, 599, 606, 613, 618, 623, 630, 638, 645, 652, 659, 664, 671, 678, 683, 690, 695, 702,
  709, 716, 723, 730, 735, 742, 747, 752, 759, 766, 773, 778, 783, 15, 16, 17, 18, 19, 22, 23, 24, 25, 26, 29, 30, 31, 32, 33, 36, 37, 38, 39, 40, 43, 44, 45, 48, 49, 50, 51, 52, 62, 65, 81, 82, 100,
  101, 119, 120, 138, 139, 157, 158, 176, 177, 195, 196, 214, 215, 227, 230, 246, 247, 263, 264, 267, 268, 271, 272, 273, 276, 277, 278, 281, 282, 283, 284, 285, 288, 289, 290, 291, 292, 295, 296, 297,
  300, 301, 302, 303, 304, 307, 308, 309, 310, 311, 314, 315, 316, 317, 318, 321, 322, 323, 324, 325, 328, 329, 330, 331, 332, 350, 359, 369, 378, 384, 391, 398, 405, 412, 419, 426, 433, 440, 445, 452,
  459, 466, 471, 478, 483, 490, 497, 504, 511, 518, 523, 530, 537, 538, 541, 542, 545, 546, 547, 548, 549, 552, 553, 554, 555, 556, 559, 560, 561, 562, 563, 566, 567, 568, 569, 570, 573, 574, 575, 576,
  577, 580, 581, 582, 583, 584, 587, 588, 589, 590, 591, 594, 595, 596, 597, 598, 601, 602, 603, 604, 605, 608, 609, 610, 611, 612, 615, 616, 617, 620, 621, 622, 625, 626, 627, 628, 629, 633, 634, 635,
  636, 637, 640, 641, 642, 643, 644, 647, 648, 649, 650, 651, 654, 655, 656, 657, 658, 661, 662, 663, 666, 667, 668, 669, 670, 673, 674, 675, 676, 677, 680, 681, 682, 685, 686, 687, 688, 689, 692, 693,
  694, 697, 698, 699, 700, 701, 704, 705, 706, 707, 708, 711, 712, 713, 714, 715, 718, 719, 720, 721, 722, 725, 726, 727, 728, 729, 732, 733, 734, 737, 738, 739, 740, 741, 744, 745, 746, 749, 750, 751,
  754, 755, 756, 757, 758, 761, 762, 763, 764, 765, 768, 769, 770, 771, 772, 775, 776, 777, 780, 781, 782, 80, 99, 118, 137, 156, 175, 194, 213, 245, 262, 349, 343, 357, 358, 367, 368, 377, 383, 390,
  397, 404, 411, 418, 425, 432, 439, 444, 451, 458, 465, 470, 477, 482, 489, 496, 503, 510, 517, 522, 529, 536, 75, 76, 77, 78, 79, 94, 95, 96, 97, 98, 113, 114, 115, 116, 117, 132, 133, 134, 135, 136,
  151, 152, 153, 154, 155, 170, 171, 172, 173, 174, 189, 190, 191, 192, 193, 208, 209, 210, 211, 212, 240, 241, 242, 243, 244, 259, 260, 261, 344, 345, 346, 347, 348, 342, 356, 360, 366, 370, 376, 382,
  385, 386, 387, 388, 389, 392, 393, 394, 395, 396, 399, 400, 401, 402, 403, 406, 407, 408, 409, 410, 413, 414, 415, 416, 417, 420, 421, 422, 423, 424, 427, 428, 429, 430, 431, 434, 435, 436, 437, 438,
  441, 442, 443, 446, 447, 448, 449, 450, 453, 454, 455, 456, 457, 460, 461, 462, 463, 464, 467, 468, 469, 472, 473, 474, 475, 476, 479, 480, 481, 484, 485, 486, 487, 488, 491, 492, 493, 494, 495, 498,
  499, 500, 501, 502, 505, 506, 507, 508, 509, 512, 513, 514, 515, 516, 519, 520, 521, 524, 525, 526, 527, 528, 531, 532, 533, 534, 535, 351, 352, 353, 354, 355, 361, 362, 363, 364, 365, 371, 372, 373,
  374, 375, 379, 380, 381, 2]
def obsKG (g : Addr → Option Obj) : AlK := obsK (He.frG g asL)
def hookK : PySem.W.Hook where
  α := AlK
  obs := fun s => obsKG s.heap.get?
  val := fun _ => valK
  says := fun _ h => ∃ K : PySem.W.Frag, K.In h ∧ obsK K = valK
  of := fun _ _ e => ⟨_, He.frG_in, e⟩
  keeps := fun _ _ _ ⟨K, hK, c⟩ k => ⟨K, PySem.W.Frag.In.keeps hK k, c⟩
abbrev RowR : PySem.W.OpenRow := PySem.W.OpenLaw.row PySem.Challenge.rw_aheadbehind_k81_whole_rooms_beside_helpe
def ob (s : PySem.W.SharedT) : AlK := obsKG (HandSHeadRun.getT s)
theorem ob_eq (s : PySem.W.SharedT) : ob s = hookK.obs s.abs := by
  show obsKG (HandSHeadRun.getT s) = obsKG s.abs.heap.get?
  rw [show HandSHeadRun.getT s = s.abs.heap.get? from funext (HandSHeadRun.getT_eq s)]

def loose0 : List PySem.Str := ["_wall", "__name__", "LETTERS", "MOST_LETTERS", "is_integer", "is_count", "is_list", "is_name", "is_sign", "BoxError", "InvalidStates", "InvalidStarts", "InvalidSteps", "InvalidStep", "InvalidState", "InvalidOrder", "InvalidRow", "InvalidSigns", "LimitError", "TooMany", "Shape", "pairs_with", "turned_pairs", "sets_by", "set_of", "states_in", "gathered", "is_state_of", "want_starts", "want_steps"]
def loose1 : List PySem.Str := ["want_limits", "Box", "made_box", "want_state", "want_row", "MOST_SETS_STATES", "want_limited", "start_set", "behind_set", "behind_row", "does_give", "gives", "sets_with_steps", "parted", "form_of", "form", "MOST_HELPER_STATES", "MOST_WHOLE_STATES", "FREE", "want_signs", "want_states", "onward", "room", "tuples_behind", "row_to_place", "next_front", "missing_of", "stands_for", "both_starts", "in_step"]
def loose2 : List PySem.Str := ["_law_pot", "_law_draw", "_law_pick", "_law_menu", "_law_deal", "_law_made", "_law_signs", "_law_behind", "_law_some_signs", "_law_runs", "_law_greatest_right", "_law_right"]
def loose : List PySem.Str := loose0 ++ loose1 ++ loose2
end K81
set_option Elab.async false
set_option linter.all false
set_option maxRecDepth 100000
set_option maxHeartbeats 0
namespace K81
open PySem PySem.Spec PyProof.Rows L2
theorem head_run (w : World) : HandSHeadRun.RunEq RowR (PySem.W.view RowR.prog [80]) hookK ob 20000 loose w := by
  intro os
  kernel_rfl
end K81
set_option Elab.async false
set_option linter.all false
set_option maxRecDepth 100000
set_option maxHeartbeats 2000000
set_option autoImplicit false
/-! K81A: what a value stands for in a part of the heap that stays (Rep), how heaps grow (Gr), what an expression evaluates to (EvE, EvB, EvA), statements. -/
namespace K81
open PySem PySem.Spec L2

/-! ### what a value stands for -/
structure Rep where
  at_ : Hp → V → Prop
  mono : ∀ {F F' : Hp} {v : V}, Same F F' → at_ F v → at_ F' v
def rV (u : V) : Rep := ⟨fun _ v => v = u, fun _ h => h⟩
abbrev rI (n : Int) : Rep := rV (.int n)
abbrev rB (b : Bool) : Rep := rV (.bl b)
abbrev rS (x : Str) : Rep := rV (.str x)
abbrev rN : Rep := rV .non
/-- values that stand for these, one by one -/
inductive LA (F : Hp) : List V → List Rep → Prop
  | nil : LA F [] []
  | cons {v : V} {vs : List V} {R : Rep} {Rs : List Rep} : R.at_ F v → LA F vs Rs → LA F (v :: vs) (R :: Rs)
theorem LA.mono {F F' : Hp} (s : Same F F') : ∀ {vs : List V} {Rs : List Rep}, LA F vs Rs → LA F' vs Rs
  | _, _, .nil => .nil
  | _, _, .cons (R := R) h t => .cons (R.mono s h) (LA.mono s t)
theorem LA.len {F : Hp} : ∀ {vs : List V} {Rs : List Rep}, LA F vs Rs → vs.length = Rs.length
  | _, _, .nil => rfl
  | _, _, .cons _ t => congrArg (· + 1) (LA.len t)
theorem LA.get {F : Hp} : ∀ {vs : List V} {Rs : List Rep} {i : Nat} {R : Rep}, LA F vs Rs → Rs[i]? = some R → ∃ v, vs[i]? = some v ∧ R.at_ F v
  | _, _, 0, _, .cons h _, e => ⟨_, rfl, by cases e; exact h⟩
  | _, _, i + 1, R, .cons _ t, e => LA.get (i := i) t e
theorem LA.getv {F : Hp} : ∀ {vs : List V} {Rs : List Rep} {i : Nat} {v : V}, LA F vs Rs → vs[i]? = some v → ∃ R, Rs[i]? = some R ∧ R.at_ F v
  | _, _, 0, _, .cons h _, e => ⟨_, rfl, by cases e; exact h⟩
  | _, _, i + 1, v, .cons _ t, e => LA.getv (i := i) t e
theorem LA.append {F : Hp} : ∀ {vs us : List V} {Rs Ss : List Rep}, LA F vs Rs → LA F us Ss → LA F (vs ++ us) (Rs ++ Ss)
  | _, _, _, _, .nil, h => h
  | _, _, _, _, .cons a t, h => .cons a (LA.append t h)
theorem LA.set {F : Hp} {v : V} {R : Rep} (r : R.at_ F v) : ∀ {vs : List V} {Rs : List Rep} (i : Nat), LA F vs Rs → LA F (vs.set i v) (Rs.set i R)
  | _, _, _, .nil => .nil
  | _, _, 0, .cons _ t => .cons r t
  | _, _, i + 1, .cons a t => .cons a (LA.set r i t)
theorem LA.drop {F : Hp} : ∀ {vs : List V} {Rs : List Rep} (n : Nat), LA F vs Rs → LA F (vs.drop n) (Rs.drop n)
  | _, _, 0, h => h
  | _, _, n + 1, .nil => .nil
  | _, _, n + 1, .cons _ t => LA.drop n t
theorem LA.take {F : Hp} : ∀ {vs : List V} {Rs : List Rep} (n : Nat), LA F vs Rs → LA F (vs.take n) (Rs.take n)
  | _, _, 0, h => .nil
  | _, _, n + 1, .nil => .nil
  | _, _, n + 1, .cons a t => .cons a (LA.take n t)
theorem LA.of_map {F : Hp} {α : Type} {f : α → Rep} : ∀ {xs : List α} {vs : List V}, vs.length = xs.length → (∀ (i : Nat) (x : α) (v : V), xs[i]? = some x → vs[i]? = some v → (f x).at_ F v) → LA F vs (xs.map f)
  | [], [], _, _ => .nil
  | x :: xs, v :: vs, hl, h => .cons (h 0 x v rfl rfl) (LA.of_map (by simpa using hl) fun i y u hy hu => h (i + 1) y u hy hu)
theorem LA.rV_iff {F : Hp} : ∀ {vs us : List V}, LA F vs (us.map rV) → vs = us
  | [], [], _ => rfl
  | _ :: _, _ :: _, .cons h t => by rw [show _ = _ from h, LA.rV_iff t]
theorem LA.rVs (F : Hp) : ∀ us : List V, LA F us (us.map rV)
  | [] => .nil
  | u :: us => .cons rfl (LA.rVs F us)
/-- a tuple, a list that stay -/
def rTup (Rs : List Rep) : Rep := ⟨fun F v => ∃ a vs, v = .ref a ∧ F a = some (.tup vs) ∧ LA F vs Rs, fun s ⟨a, vs, e, h, l⟩ => ⟨a, vs, e, s _ _ h, l.mono s⟩⟩
def rLst (Rs : List Rep) : Rep := ⟨fun F v => ∃ a vs, v = .ref a ∧ F a = some (.lst vs) ∧ LA F vs Rs, fun s ⟨a, vs, e, h, l⟩ => ⟨a, vs, e, s _ _ h, l.mono s⟩⟩
/-- any of some -/
def rEx {α : Type} (f : α → Rep) (p : α → Prop) : Rep := ⟨fun F v => ∃ a, p a ∧ (f a).at_ F v, fun s ⟨a, h, l⟩ => ⟨a, h, (f a).mono s l⟩⟩

/-! ### how the heap (H) and the part that stays (F) grow; M: what may change -/
structure Gr (M : Addr → Prop) (H F H' F' : Hp) : Prop where
  hh : ∀ {a o}, ¬ M a → H a = some o → H' a = some o
  hm : ∀ {a o}, M a → H a = some o → ∃ o', H' a = some o' ∧ ∀ vs, o' = .tup vs → o = .tup vs
  ff : Same F F'
  fh : Same F' H'
  fr : ∀ {a o}, F' a = some o → F a = some o ∨ H a = none ∨ ∃ vs, o = .tup vs ∧ H a = some o
abbrev No : Addr → Prop := fun _ => False
/-- no more is asked -/
abbrev Any {G : Type} : G → Hp → Hp → Prop := fun _ _ _ => True
abbrev G0 : Hp → Hp → Hp → Hp → Prop := Gr No
section
variable {M : Addr → Prop} {H F H1 F1 H2 F2 : Hp} {a l : Addr} {o u : HO}
theorem Gr.refl (h : Same F H) : Gr M H F H F := ⟨fun _ e => e, fun _ e => ⟨_, e, fun _ z => z⟩, Same.refl _, h, fun e => .inl e⟩
theorem Gr.some (g : Gr M H F H1 F1) (e : H a = some o) : ∃ o', H1 a = some o' ∧ ∀ vs, o' = .tup vs → o = .tup vs := by
  by_cases h : M a
  · exact g.hm h e
  · exact ⟨o, g.hh h e, fun _ z => z⟩
theorem Gr.none (g : Gr M H F H1 F1) (e : H1 a = none) : H a = none := by
  cases q : H a with
  | none => rfl
  | some o =>
    obtain ⟨o', q', _⟩ := g.some q
    rw [e] at q'
    cases q'
theorem Gr.back (g : Gr M H F H1 F1) {vs : List V} (e : H1 a = Option.some (.tup vs)) : H a = Option.none ∨ H a = Option.some (.tup vs) := by
  cases q : H a with
  | none => exact .inl rfl
  | some o =>
    obtain ⟨o', q', z⟩ := g.some q
    rw [e] at q'
    cases q'
    rw [z vs rfl]
    exact .inr rfl
theorem Gr.trans (g : Gr M H F H1 F1) (k : Gr M H1 F1 H2 F2) : Gr M H F H2 F2 := by
  refine ⟨fun n e => k.hh n (g.hh n e), fun m e => ?_, g.ff.trans k.ff, k.fh, fun e => ?_⟩
  · obtain ⟨o', q, z⟩ := g.hm m e
    obtain ⟨o2, q2, z2⟩ := k.hm m q
    exact ⟨o2, q2, fun vs h => z vs (z2 vs h)⟩
  · rcases k.fr e with q | q | ⟨vs, rfl, q⟩
    · exact g.fr q
    · exact .inr (.inl (g.none q))
    · rcases g.back q with z | z
      · exact .inr (.inl z)
      · exact .inr (.inr ⟨vs, rfl, z⟩)
theorem Gr.wk {M' : Addr → Prop} (h : ∀ a, M a → M' a) (g : Gr M H F H1 F1) : Gr M' H F H1 F1 := by
  refine ⟨fun n e => g.hh (fun z => n (h _ z)) e, fun _ e => g.some e, g.ff, g.fh, g.fr⟩
theorem Gr.up (g : G0 H F H1 F1) : Gr M H F H1 F1 := g.wk fun _ z => z.elim
theorem G0.h (g : G0 H F H1 F1) (e : H a = some o) : H1 a = some o := g.hh (fun z => z) e
theorem G0.same (g : G0 H F H1 F1) : Same H H1 := fun _ _ e => g.h e
/-- a new object that stays -/
theorem Gr.new (h : Same F H) (n : H a = Option.none) : Gr M H F (upd H a o) (upd F a o) := by
  refine ⟨fun _ e => ?_, fun {b u} _ e => ⟨u, ?_, fun _ z => z⟩, fun b u e => ?_, fun b u e => ?_, fun {b u} e => ?_⟩
  · rw [upd_ne (ne_of_none e n)]; exact e
  · rw [upd_ne (ne_of_none e n)]; exact e
  · rw [upd_ne (ne_of_none e (h.free n))]; exact e
  · by_cases hb : b = a
    · subst hb; rw [upd_same] at e ⊢; exact e
    · rw [upd_ne hb] at e ⊢; exact h _ _ e
  · by_cases hb : b = a
    · subst hb; exact .inr (.inl n)
    · rw [upd_ne hb] at e; exact .inl e
/-- a new object that may change -/
theorem Gr.newM (h : Same F H) (n : H a = Option.none) : Gr M H F (upd H a o) F := by
  refine ⟨fun _ e => ?_, fun {b u} _ e => ⟨u, ?_, fun _ z => z⟩, Same.refl _, fun b u e => ?_, fun e => .inl e⟩
  · rw [upd_ne (ne_of_none e n)]; exact e
  · rw [upd_ne (ne_of_none e n)]; exact e
  · rw [upd_ne (ne_of_none e (h.free n))]; exact h _ _ e
/-- what is new since H, and does not stay, is changed -/
theorem Gr.wr (g : Gr M H F H1 F1) (n : H l = Option.none ∨ M l) (nf : F1 l = Option.none) (nt : ∀ vs, o ≠ .tup vs := by intro _ h; nomatch h) : Gr M H F (upd H1 l o) F1 := by
  refine ⟨fun {b u} nb e => ?_, fun {b u} mb e => ?_, g.ff, fun b u e => ?_, g.fr⟩
  · have hb : b ≠ l := by
      rintro rfl
      rcases n with n | n
      · rw [n] at e; cases e
      · exact nb n
    rw [upd_ne hb]; exact g.hh nb e
  · by_cases hb : b = l
    · subst hb; exact ⟨o, upd_same, fun vs z => absurd z (nt vs)⟩
    · rw [upd_ne hb]; exact g.hm mb e
  · have hb : b ≠ l := by rintro rfl; rw [nf] at e; cases e
    rw [upd_ne hb]; exact g.fh _ _ e
/-- what is new since H stays from now on -/
theorem Gr.fz (g : Gr M H F H1 F1) (n : H l = Option.none) (nf : F1 l = Option.none) (e : H1 l = Option.some o) : Gr M H F H1 (upd F1 l o) := by
  refine ⟨g.hh, g.hm, fun b u q => ?_, fun b u q => ?_, fun {b u} q => ?_⟩
  · have hb : b ≠ l := by
      rintro rfl
      rw [g.ff _ _ q] at nf; cases nf
    rw [upd_ne hb]; exact g.ff _ _ q
  · by_cases hb : b = l
    · subst hb; rw [upd_same] at q; rw [e]; exact q
    · rw [upd_ne hb] at q; exact g.fh _ _ q
  · by_cases hb : b = l
    · subst hb; exact .inr (.inl n)
    · rw [upd_ne hb] at q; exact g.fr q
/-- a tuple that is there stays anyway -/
theorem Gr.tup {vs : List V} (h : Same F H) (e : H a = Option.some (.tup vs)) : Gr M H F H (upd F a (.tup vs)) := by
  refine ⟨fun _ q => q, fun _ q => ⟨_, q, fun _ z => z⟩, fun b u q => ?_, fun b u q => ?_, fun {b u} q => ?_⟩
  · by_cases hb : b = a
    · subst hb
      have := h _ _ q
      rw [e] at this
      cases this
      exact upd_same
    · rw [upd_ne hb]; exact q
  · by_cases hb : b = a
    · subst hb; rw [upd_same] at q; rw [e]; exact q
    · rw [upd_ne hb] at q; exact h _ _ q
  · by_cases hb : b = a
    · subst hb; rw [upd_same] at q; cases q; exact .inr (.inr ⟨vs, rfl, e⟩)
    · rw [upd_ne hb] at q; exact .inl q
/-- what changed was new -/
theorem Gr.drop (g : G0 H F H1 F1) (k : Gr M H1 F1 H2 F2) (n : ∀ a, M a → H a = Option.none) : G0 H F H2 F2 := by
  refine ⟨fun {b u} _ e => k.hh (fun m => ?_) (g.hh (fun z => z) e), fun z => z.elim, g.ff.trans k.ff, k.fh, fun {b u} e => ?_⟩
  · rw [n _ m] at e; cases e
  · rcases k.fr e with q | q | ⟨vs, rfl, q⟩
    · exact g.fr q
    · exact .inr (.inl (g.none q))
    · rcases g.back q with z | z
      · exact .inr (.inl z)
      · exact .inr (.inr ⟨vs, rfl, z⟩)
/-- what is no part of F stays out of it, if it was there -/
theorem Gr.out (g : Gr M H F H1 F1) (nf : F a = Option.none) (e : H a = Option.some o) (nt : ∀ vs, o ≠ .tup vs := by intro _ h; nomatch h) : F1 a = Option.none := by
  cases q : F1 a with
  | none => rfl
  | some u =>
    rcases g.fr q with z | z | ⟨vs, rfl, z⟩
    · rw [nf] at z; cases z
    · rw [e] at z; cases z
    · rw [e] at z; cases z; exact absurd rfl (nt vs)
theorem same_none (h : Same F H) (e : H a = Option.none) : F a = Option.none := h.free e
/-- an object that is new behind H1 is new behind H -/
theorem Gr.newer (g : Gr M H F H1 F1) (e : H1 a = Option.none) : H a = Option.none := g.none e
end

/-! ### the slots -/
abbrev Rs_ := List (Option Rep)
structure En (F : Hp) (σ : St) (Rs : Rs_) : Prop where
  len : σ.length = Rs.length
  get : ∀ {i : Nat} {R : Rep}, Rs[i]? = some (some R) → ∃ v, σ[i]? = some (some v) ∧ R.at_ F v
section
variable {F F' : Hp} {σ : St} {Rs : Rs_}
theorem En.mono (s : Same F F') (e : En F σ Rs) : En F' σ Rs := ⟨e.len, fun {i R} h => let ⟨v, h1, h2⟩ := e.get h; ⟨v, h1, R.mono s h2⟩⟩
theorem En.set {i : Nat} {v : V} {R : Rep} (e : En F σ Rs) (h : R.at_ F v) : En F (σ.set i (some v)) (Rs.set i (some R)) := by
  refine ⟨by simp [e.len], fun {j S} q => ?_⟩
  by_cases hj : j = i
  · subst hj
    have hl : j < Rs.length := by
      have := (List.getElem?_eq_some_iff.mp q).1
      simpa using this
    rw [List.getElem?_set_self hl] at q
    cases q
    exact ⟨v, List.getElem?_set_self (by rw [e.len]; exact hl), h⟩
  · rw [List.getElem?_set_ne (Ne.symm hj)] at q
    obtain ⟨u, h1, h2⟩ := e.get q
    exact ⟨u, by rw [List.getElem?_set_ne (Ne.symm hj)]; exact h1, h2⟩
theorem En.start {N : List Str} {vs : List V} {Ss : List Rep} (h : LA F vs Ss) : En F (start N vs) (Ss.map some ++ List.replicate (N.length - Ss.length) none) := by
  have hl := h.len
  refine ⟨by simp [L2.start, hl], fun {i R} q => ?_⟩
  by_cases hi : i < Ss.length
  · rw [List.getElem?_append_left (by simpa using hi), List.getElem?_map] at q
    cases e : Ss[i]? with
    | none => rw [e] at q; cases q
    | some S =>
      rw [e] at q
      cases q
      obtain ⟨v, h1, h2⟩ := h.get e
      refine ⟨v, ?_, h2⟩
      unfold L2.start
      rw [List.getElem?_append_left (by rw [List.length_map, hl]; exact hi), List.getElem?_map, h1]
      rfl
  · rw [List.getElem?_append_right (by simpa using hi), List.getElem?_replicate] at q
    split at q <;> cases q
theorem En.wipe {vs : List Nat} {Ss : Rs_} (e : En F σ Rs) (hl : Ss.length = Rs.length) (h : ∀ (i : Nat) (R : Rep), Ss[i]? = some (some R) → Rs[i]? = some (some R) ∧ i ∉ vs) : En F (wipe σ vs) Ss := by
  refine ⟨by rw [wipe_length, e.len, hl], fun {i R} q => ?_⟩
  obtain ⟨h1, h2⟩ := h i R q
  obtain ⟨v, h3, h4⟩ := e.get h1
  refine ⟨v, ?_, h4⟩
  clear h h4 q e hl
  induction vs with
  | nil => exact h3
  | cons w ws ih =>
    rw [List.mem_cons, not_or] at h2
    show ((L2.wipe σ ws).set w none)[i]? = _
    rw [List.getElem?_set_ne (Ne.symm h2.1)]
    exact ih h2.2
/-- forget some slots -/
theorem En.weak {Ss : Rs_} (e : En F σ Rs) (hl : Ss.length = Rs.length) (h : ∀ (i : Nat) (R : Rep), Ss[i]? = some (some R) → Rs[i]? = some (some R)) : En F σ Ss := ⟨by rw [e.len, hl], fun {i R} q => e.get (h i R q)⟩
end

def maskR : List Bool → Rs_ → Rs_
  | true :: bs, r :: rs => r :: maskR bs rs
  | false :: bs, _ :: rs => none :: maskR bs rs
  | _, rs => rs
theorem mask_get : ∀ {bs : List Bool} {rs : Rs_} {i : Nat} {R : Rep}, (maskR bs rs)[i]? = some (some R) → rs[i]? = some (some R)
  | true :: _, _ :: _, 0, _, h => h
  | true :: bs, _ :: rs, i + 1, _, h => mask_get (bs := bs) (rs := rs) (i := i) h
  | false :: _, _ :: _, 0, _, h => by cases h
  | false :: bs, _ :: rs, i + 1, _, h => mask_get (bs := bs) (rs := rs) (i := i) h
  | [], _, _, _, h => by unfold maskR at h; exact h
  | true :: _, [], _, _, h => by unfold maskR at h; exact h
  | false :: _, [], _, _, h => by unfold maskR at h; exact h
theorem mask_len : ∀ {bs : List Bool} {rs : Rs_}, (maskR bs rs).length = rs.length
  | true :: bs, _ :: rs => congrArg (· + 1) (mask_len (bs := bs) (rs := rs))
  | false :: bs, _ :: rs => congrArg (· + 1) (mask_len (bs := bs) (rs := rs))
  | [], _ => by unfold maskR; rfl
  | true :: _, [] => by unfold maskR; rfl
  | false :: _, [] => by unfold maskR; rfl
/-- keep some slots -/
theorem En.mask {F : Hp} {σ : L2.St} {Rs : Rs_} (e : En F σ Rs) (bs : List Bool) : En F σ (maskR bs Rs) := e.weak mask_len fun _ _ h => mask_get h
/-! ### what evaluates to what -/
def EvE (te : TE) (Rs : Rs_) (H F : Hp) (R : Rep) : Prop := ∀ σ H1 F1, G0 H F H1 F1 → En F1 σ Rs → ∀ Q : VK, (∀ v H2 F2, G0 H1 F1 H2 F2 → R.at_ F2 v → Q v H2) → te σ H1 Q
def EvB (tt : TT) (Rs : Rs_) (H F : Hp) (b : Bool) : Prop := ∀ σ H1 F1, G0 H F H1 F1 → En F1 σ Rs → ∀ Q : Bool → Hp → Prop, (∀ H2 F2, G0 H1 F1 H2 F2 → Q b H2) → tt σ H1 Q
def EvA (ta : TA) (Rs : Rs_) (H F : Hp) (As : List Rep) : Prop := ∀ σ H1 F1, G0 H F H1 F1 → En F1 σ Rs → ∀ Q : List V → Hp → Prop, (∀ vs H2 F2, G0 H1 F1 H2 F2 → LA F2 vs As → Q vs H2) → ta σ H1 Q
section
variable {Rs : Rs_} {H F H' F' : Hp} {ta tb te : TE} {A B R S : Rep} {t u : TT}
theorem EvE.grow (g : G0 H F H' F') (h : EvE te Rs H F R) : EvE te Rs H' F' R := fun σ H1 F1 k e Q q => h σ H1 F1 (g.trans k) e Q q
theorem EvB.grow {b : Bool} (g : G0 H F H' F') (h : EvB t Rs H F b) : EvB t Rs H' F' b := fun σ H1 F1 k e Q q => h σ H1 F1 (g.trans k) e Q q
theorem EvA.grow {ta : TA} {As : List Rep} (g : G0 H F H' F') (h : EvA ta Rs H F As) : EvA ta Rs H' F' As := fun σ H1 F1 k e Q q => h σ H1 F1 (g.trans k) e Q q
theorem EvE.to (h : EvE te Rs H F R) (w : ∀ F' v, Same F F' → R.at_ F' v → S.at_ F' v) : EvE te Rs H F S := fun σ H1 F1 g e Q q => h σ H1 F1 g e Q fun v H2 F2 k r => q v H2 F2 k (w _ _ (g.ff.trans k.ff) r)
/-- a name whose object is known -/
theorem ev_ref {i : Nat} {a : Addr} (h : Rs[i]? = some (some (rV (.ref a)))) (hr : R.at_ F (.ref a)) : EvE (tVar i) Rs H F R := fun σ H1 F1 g e Q q =>
  let ⟨v, hv, hv'⟩ := e.get h
  ⟨v, hv, q v H1 F1 (Gr.refl g.fh) (by rw [show v = V.ref a from hv']; exact R.mono g.ff hr)⟩
theorem EvE.eqI {i j : Int} (h : EvE te Rs H F (rI i)) (e : i = j) : EvE te Rs H F (rI j) := e ▸ h
theorem EvE.eqB {i j : Bool} (h : EvE te Rs H F (rB i)) (e : i = j) : EvE te Rs H F (rB j) := e ▸ h
theorem EvB.eq {i j : Bool} (h : EvB t Rs H F i) (e : i = j) : EvB t Rs H F j := e ▸ h
theorem ev_var {i : Nat} (h : Rs[i]? = some (some R)) : EvE (tVar i) Rs H F R := fun σ H1 F1 g e Q q =>
  let ⟨v, hv, hr⟩ := e.get h
  ⟨v, hv, q v H1 F1 (Gr.refl g.fh) hr⟩
theorem ev_c {v : V} : EvE (tC v) Rs H F (rV v) := fun σ H1 F1 g e Q q => q v H1 F1 (Gr.refl g.fh) rfl
/-- two values, then what is done with them -/
theorem ev_op {r : R2} (ha : EvE ta Rs H F A) (hb : EvE tb Rs H F B)
    (hr : ∀ H1 F1 x y, G0 H F H1 F1 → A.at_ F1 x → B.at_ F1 y → ∀ Q : VK, (∀ v H2 F2, G0 H1 F1 H2 F2 → R.at_ F2 v → Q v H2) → r x y H1 Q) : EvE (tOp r ta tb) Rs H F R := by
  intro σ H1 F1 g e Q q
  refine ha σ H1 F1 g e _ fun x H2 F2 g2 rx => hb σ H2 F2 (g.trans g2) (e.mono g2.ff) _ fun y H3 F3 g3 ry => ?_
  exact hr H3 F3 x y ((g.trans g2).trans g3) (A.mono g3.ff rx) ry Q fun v H4 F4 g4 rv => q v H4 F4 ((g2.trans g3).trans g4) rv
theorem ev_un {r : V → Hp → VK → Prop} (ha : EvE ta Rs H F A)
    (hr : ∀ H1 F1 x, G0 H F H1 F1 → A.at_ F1 x → ∀ Q : VK, (∀ v H2 F2, G0 H1 F1 H2 F2 → R.at_ F2 v → Q v H2) → r x H1 Q) : EvE (tUn r ta) Rs H F R := by
  intro σ H1 F1 g e Q q
  refine ha σ H1 F1 g e _ fun x H2 F2 g2 rx => ?_
  exact hr H2 F2 x (g.trans g2) rx Q fun v H4 F4 g4 rv => q v H4 F4 (g2.trans g4) rv
theorem ev_I0 {f : Int → Int → V} {i j : Int} (ha : EvE ta Rs H F (rI i)) (hb : EvE tb Rs H F (rI j)) : EvE (tOp (rI0 f) ta tb) Rs H F (rV (f i j)) :=
  ev_op ha hb fun H1 F1 x y g hx hy Q q => ⟨i, j, hx, hy, q _ _ _ (Gr.refl g.fh) rfl⟩
theorem ev_I {C : Int → Int → Prop} {f : Int → Int → V} {i j : Int} (ha : EvE ta Rs H F (rI i)) (hb : EvE tb Rs H F (rI j)) (hc : C i j) : EvE (tOp (L2.rI C f) ta tb) Rs H F (rV (f i j)) :=
  ev_op ha hb fun H1 F1 x y g hx hy Q q => ⟨i, j, hx, hy, hc, q _ _ _ (Gr.refl g.fh) rfl⟩
theorem ev_eq {x y : V} (ha : EvE ta Rs H F (rV x)) (hb : EvE tb Rs H F (rV y)) (hs : scal x y = true) : EvE (tOp rEq ta tb) Rs H F (rB (decide (x = y))) :=
  ev_op ha hb fun H1 F1 u v g hx hy Q q => by
    have hx : u = x := hx
    have hy : v = y := hy
    subst hx hy
    exact ⟨hs, q _ _ _ (Gr.refl g.fh) rfl⟩
theorem ev_ne {x y : V} (ha : EvE ta Rs H F (rV x)) (hb : EvE tb Rs H F (rV y)) (hs : scal x y = true) : EvE (tOp rNe ta tb) Rs H F (rB (!decide (x = y))) :=
  ev_op ha hb fun H1 F1 u v g hx hy Q q => by
    have hx : u = x := hx
    have hy : v = y := hy
    subst hx hy
    exact ⟨hs, q _ _ _ (Gr.refl g.fh) rfl⟩
theorem eb_test {b : Bool} (h : EvE te Rs H F (rB b)) : EvB (tTest te) Rs H F b := fun σ H1 F1 g e Q q => h σ H1 F1 g e _ fun v H2 F2 k r => ⟨b, r, q H2 F2 k⟩
theorem eb_B {b : Bool} (h : EvE te Rs H F (rB b)) : EvB (tB te) Rs H F b := fun σ H1 F1 g e Q q => h σ H1 F1 g e _ fun v H2 F2 k r => ⟨b, r, q H2 F2 k⟩
theorem eb_not {b : Bool} (h : EvB t Rs H F b) : EvB (tNot t) Rs H F (!b) := fun σ H1 F1 g e Q q => h σ H1 F1 g e _ fun H2 F2 k => q H2 F2 k
theorem eb_and {a b : Bool} (ha : EvB t Rs H F a) (hb : a = true → EvB u Rs H F b) : EvB (tAnd t u) Rs H F (a && b) := by
  intro σ H1 F1 g e Q q
  refine ha σ H1 F1 g e _ fun H2 F2 k => ?_
  cases a with
  | false => rw [if_neg Bool.false_ne_true]; exact q H2 F2 k
  | true => rw [if_pos rfl]; exact hb rfl σ H2 F2 (g.trans k) (e.mono k.ff) Q fun H3 F3 m => q H3 F3 (k.trans m)
theorem eb_or {a b : Bool} (ha : EvB t Rs H F a) (hb : a = false → EvB u Rs H F b) : EvB (tOr t u) Rs H F (a || b) := by
  intro σ H1 F1 g e Q q
  refine ha σ H1 F1 g e _ fun H2 F2 k => ?_
  cases a with
  | true => rw [if_pos rfl]; exact q H2 F2 k
  | false => rw [if_neg Bool.false_ne_true]; exact hb rfl σ H2 F2 (g.trans k) (e.mono k.ff) Q fun H3 F3 m => q H3 F3 (k.trans m)
theorem ev_andV {a b : Bool} (ha : EvE ta Rs H F (rB a)) (hb : a = true → EvE tb Rs H F (rB b)) : EvE (tAndV ta tb) Rs H F (rB (a && b)) := by
  intro σ H1 F1 g e Q q
  refine ha σ H1 F1 g e _ fun v H2 F2 k r => ⟨a, r, ?_⟩
  cases a with
  | false => rw [if_neg Bool.false_ne_true]; exact q _ H2 F2 k rfl
  | true => rw [if_pos rfl]; exact hb rfl σ H2 F2 (g.trans k) (e.mono k.ff) Q fun v H3 F3 m r => q v H3 F3 (k.trans m) r
theorem ev_orV {a b : Bool} (ha : EvE ta Rs H F (rB a)) (hb : a = false → EvE tb Rs H F (rB b)) : EvE (tOrV ta tb) Rs H F (rB (a || b)) := by
  intro σ H1 F1 g e Q q
  refine ha σ H1 F1 g e _ fun v H2 F2 k r => ⟨a, r, ?_⟩
  cases a with
  | true => rw [if_pos rfl]; exact q _ H2 F2 k rfl
  | false => rw [if_neg Bool.false_ne_true]; exact hb rfl σ H2 F2 (g.trans k) (e.mono k.ff) Q fun v H3 F3 m r => q v H3 F3 (k.trans m) r
theorem ev_notV {a : Bool} (ha : EvE ta Rs H F (rB a)) : EvE (tNotV ta) Rs H F (rB (!a)) := fun σ H1 F1 g e Q q =>
  ha σ H1 F1 g e _ fun v H2 F2 k r => ⟨a, r, q _ H2 F2 k rfl⟩
theorem ev_if {b : Bool} (hc : EvB t Rs H F b) (ha : b = true → EvE ta Rs H F R) (hb : b = false → EvE tb Rs H F R) : EvE (tIf t ta tb) Rs H F R := by
  intro σ H1 F1 g e Q q
  refine hc σ H1 F1 g e _ fun H2 F2 k => ?_
  cases b with
  | true => rw [if_pos rfl]; exact ha rfl σ H2 F2 (g.trans k) (e.mono k.ff) Q fun v H3 F3 m r => q v H3 F3 (k.trans m) r
  | false => rw [if_neg Bool.false_ne_true]; exact hb rfl σ H2 F2 (g.trans k) (e.mono k.ff) Q fun v H3 F3 m r => q v H3 F3 (k.trans m) r
/-! arguments -/
theorem ea_nil : EvA tNil Rs H F [] := fun σ H1 F1 g e Q q => q [] H1 F1 (Gr.refl g.fh) .nil
theorem ea_cons {tr : TA} {As : List Rep} (h : EvE te Rs H F A) (hr : EvA tr Rs H F As) : EvA (tCons te tr) Rs H F (A :: As) := by
  intro σ H1 F1 g e Q q
  refine h σ H1 F1 g e _ fun x H2 F2 k rx => hr σ H2 F2 (g.trans k) (e.mono k.ff) _ fun vs H3 F3 m rv => ?_
  exact q _ H3 F3 (k.trans m) (.cons (A.mono m.ff rx) rv)
theorem ea_1 (h : EvE te Rs H F A) : EvA (tCons te tNil) Rs H F [A] := ea_cons h ea_nil
theorem ea_2 (h : EvE ta Rs H F A) (h2 : EvE tb Rs H F B) : EvA (tCons ta (tCons tb tNil)) Rs H F [A, B] := ea_cons h (ea_1 h2)
/-! displays -/
theorem ev_tup {ta : TA} {As : List Rep} (h : EvA ta Rs H F As) (hl : As.length ≤ 100 := by exact Nat.le_of_ble_eq_true rfl) : EvE (tTup ta) Rs H F (rTup As) := by
  intro σ H1 F1 g e Q q
  refine h σ H1 F1 g e _ fun vs H2 F2 k rv => ⟨?_, fun p hp => ?_⟩
  · rw [rv.len]; exact Nat.le_trans hl (by decide)
  · have g3 : G0 H2 F2 (upd H2 p (.tup vs)) (upd F2 p (.tup vs)) := Gr.new k.fh hp
    exact q _ _ _ (k.trans g3) ⟨p, vs, rfl, upd_same, rv.mono g3.ff⟩
theorem ev_lst {ta : TA} {As : List Rep} (h : EvA ta Rs H F As) (hl : As.length ≤ 100 := by exact Nat.le_of_ble_eq_true rfl) : EvE (tLst ta) Rs H F (rLst As) := by
  intro σ H1 F1 g e Q q
  refine h σ H1 F1 g e _ fun vs H2 F2 k rv => ⟨?_, fun p hp => ?_⟩
  · rw [rv.len]; exact Nat.le_trans hl (by decide)
  · have g3 : G0 H2 F2 (upd H2 p (.lst vs)) (upd F2 p (.lst vs)) := Gr.new k.fh hp
    exact q _ _ _ (k.trans g3) ⟨p, vs, rfl, upd_same, rv.mono g3.ff⟩
/-! places -/
variable {K : PySem.W.Frag}
theorem ixN_nat {n j : Nat} (hj : j < n) : ixN n (j : Int) = some j := by
  unfold ixN
  rw [if_pos (Int.natCast_nonneg j), if_pos (by exact_mod_cast hj)] <;> rfl
theorem ev_ixT {Ts : List Rep} {j : Nat} (ha : EvE ta Rs H F (rTup Ts)) (hb : EvE tb Rs H F (rI j)) (hj : Ts[j]? = some R) : EvE (tOp (rIxT K) ta tb) Rs H F R :=
  ev_op ha hb fun H1 F1 x y g hx hy Q q => by
    obtain ⟨a, vs, rfl, ha, l⟩ := hx
    obtain ⟨v, h1, h2⟩ := l.get hj
    exact ⟨a, vs, j, v, rfl, hy, SqT.of (g.fh _ _ ha), atI_nat h1, q _ _ _ (Gr.refl g.fh) h2⟩
theorem ev_ixL {Ts : List Rep} {j : Nat} (ha : EvE ta Rs H F (rLst Ts)) (hb : EvE tb Rs H F (rI j)) (hj : Ts[j]? = some R) : EvE (tOp (rIxL K) ta tb) Rs H F R :=
  ev_op ha hb fun H1 F1 x y g hx hy Q q => by
    obtain ⟨a, vs, rfl, ha, l⟩ := hx
    obtain ⟨v, h1, h2⟩ := l.get hj
    exact ⟨a, vs, j, v, rfl, hy, SqL.of (g.fh _ _ ha), atI_nat h1, q _ _ _ (Gr.refl g.fh) h2⟩
/-- of a list that changes -/
theorem ev_ixM {l : Addr} {vs : List V} {j : Nat} {v : V} (hl : H l = some (.lst vs)) (ha : EvE ta Rs H F (rV (.ref l))) (hb : EvE tb Rs H F (rI j)) (hj : vs[j]? = some v) (hv : R.at_ F v) : EvE (tOp (rIxL K) ta tb) Rs H F R :=
  ev_op ha hb fun H1 F1 x y g hx hy Q q => ⟨l, vs, j, v, hx, hy, SqL.of (g.h hl), atI_nat hj, q _ _ _ (Gr.refl g.fh) (R.mono g.ff hv)⟩
/-- a built-in's call -/
theorem ev_cb {r : List V → Hp → VK → Prop} {ta : TA} {As : List Rep} (h : EvA ta Rs H F As)
    (hr : ∀ H1 F1 vs, G0 H F H1 F1 → LA F1 vs As → ∀ Q : VK, (∀ v H2 F2, G0 H1 F1 H2 F2 → R.at_ F2 v → Q v H2) → r vs H1 Q) : EvE (tCB r ta) Rs H F R := by
  intro σ H1 F1 g e Q q
  refine h σ H1 F1 g e _ fun vs H2 F2 k rv => hr H2 F2 vs (g.trans k) rv Q fun v H3 F3 m r => q v H3 F3 (k.trans m) r
end

/-! ### promises of a plain kind: arguments that stand for these give a value that stands for that -/
def PSp {G : Type} (args : G → List Rep) (dom : G → Hp → Hp → Prop) (res : G → Rep) : Sp := fun vs H Q _ => ∃ (g : G) (F : Hp), Same F H ∧ LA F vs (args g) ∧ dom g H F ∧ ∀ v H' F', G0 H F H' F' → (res g).at_ F' v → Q v H'
section
variable {Rs : Rs_} {H F : Hp}
theorem ev_call {G : Type} {args : G → List Rep} {dom : G → Hp → Hp → Prop} {res : G → Rep} (g : G) {ta : TA} {E : XK} {As : List Rep} (h : EvA ta Rs H F As) (hg : As = args g) (hd : ∀ H1 F1, G0 H F H1 F1 → dom g H1 F1) : EvE (tCall (PSp args dom res) [] E ta) Rs H F (res g) := by
  subst hg
  intro σ H1 F1 k e Q q
  refine h σ H1 F1 k e _ fun vs H2 F2 m rv => ?_
  rw [List.append_nil]
  exact ⟨g, F2, m.fh, rv, hd H2 F2 (k.trans m), fun v H3 F3 n r => q v H3 F3 (m.trans n) r⟩
end

/-! ### statements -/
section
variable {Rs : Rs_} {H F : Hp} {σ : St} {D : Ends} {te : TE} {R : Rep} {t : TT} {ts us : TS}
theorem st_asg {i : Nat} (s : Same F H) (e : En F σ Rs) (h : EvE te Rs H F R) (k : ∀ σ' H' F', G0 H F H' F' → En F' σ' (Rs.set i (some R)) → D.nx σ' H') : tAsg te (gName i) D σ H :=
  h σ H F (Gr.refl s) e _ fun v H1 F1 g r => k _ H1 F1 g ((e.mono g.ff).set r)
theorem st_ret (s : Same F H) (e : En F σ Rs) (h : EvE te Rs H F R) (k : ∀ v H' F', G0 H F H' F' → R.at_ F' v → D.rt v H') : tRet te D σ H :=
  h σ H F (Gr.refl s) e _ fun v H1 F1 g r => k v H1 F1 g r
theorem st_drop (s : Same F H) (e : En F σ Rs) (h : EvE te Rs H F R) (k : ∀ H' F', G0 H F H' F' → En F' σ Rs → D.nx σ H') : tDrop te D σ H :=
  h σ H F (Gr.refl s) e _ fun v H1 F1 g r => k H1 F1 g (e.mono g.ff)
theorem st_if {b : Bool} (s : Same F H) (e : En F σ Rs) (h : EvB t Rs H F b) (h1 : b = true → ∀ H' F', G0 H F H' F' → En F' σ Rs → ts D σ H') (h2 : b = false → ∀ H' F', G0 H F H' F' → En F' σ Rs → us D σ H') : tIfS t ts us D σ H :=
  h σ H F (Gr.refl s) e _ fun H1 F1 g => by
    cases b with
    | true => rw [if_pos rfl]; exact h1 rfl H1 F1 g (e.mono g.ff)
    | false => rw [if_neg Bool.false_ne_true]; exact h2 rfl H1 F1 g (e.mono g.ff)
/-- a, b = x, y -/
theorem st_par {i j : Nat} {ta : TA} {R1 R2 : Rep} (s : Same F H) (e : En F σ Rs) (h : EvA ta Rs H F [R1, R2]) (k : ∀ σ' H' F', G0 H F H' F' → En F' σ' ((Rs.set i (some R1)).set j (some R2)) → D.nx σ' H') : tPar i j ta D σ H :=
  h σ H F (Gr.refl s) e _ fun vs H1 F1 g r => by
    cases r with
    | cons r1 t => cases t with
      | cons r2 t2 => cases t2; exact ⟨_, _, rfl, k _ H1 F1 g (((e.mono g.ff).set r1).set r2)⟩
end
/-! ### unpacking -/
theorem wipe_set {σ : L2.St} {i : Nat} {x : Option V} : ∀ {vs : List Nat}, i ∈ vs → wipe (σ.set i x) vs = wipe σ vs
  | v :: vs, h => by
    show (wipe (σ.set i x) vs).set v none = (wipe σ vs).set v none
    by_cases hv : i ∈ vs
    · rw [wipe_set hv]
    · have e : i = v := by
        rcases List.mem_cons.mp h with z | z
        · exact z
        · exact absurd z hv
      subst e
      clear h
      have : ∀ (ws : List Nat) (τ : L2.St), i ∉ ws → wipe (τ.set i x) ws = (wipe τ ws).set i x := by
        intro ws
        induction ws with
        | nil => intro τ _; rfl
        | cons u us ih =>
          intro τ hn
          rw [List.mem_cons, not_or] at hn
          show (wipe (τ.set i x) us).set u none = ((wipe τ us).set u none).set i x
          rw [ih τ hn.2, List.set_comm _ _ hn.1]
      rw [this vs σ hv, List.set_set]
theorem wipe_wipe {σ : L2.St} {vs : List Nat} : wipe (wipe σ vs) vs = wipe σ vs := by
  have : ∀ (us : List Nat) (τ : L2.St), (∀ u ∈ us, u ∈ vs) → wipe (wipe τ us) vs = wipe τ vs := by
    intro us
    induction us with
    | nil => intro τ _; rfl
    | cons u us ih =>
      intro τ h
      show wipe ((wipe τ us).set u none) vs = wipe τ vs
      rw [wipe_set (h u List.mem_cons_self), ih τ fun x hx => h x (List.mem_cons_of_mem _ hx)]
  exact this vs σ fun _ h => h
/-- slots of is alone have changed -/
def Wp (is : List Nat) (σ σ' : L2.St) : Prop := ∀ vs, (∀ i ∈ is, i ∈ vs) → wipe σ' vs = wipe σ vs
section
variable {K : PySem.W.Frag} {F H : Hp} {σ : L2.St} {Rs : Rs_} {Q : L2.St → Hp → Prop} {v : V} {R1 R2 R3 R4 R5 : Rep} {i j k l m : Nat}
theorem wp_nil : Wp [] σ σ := fun _ _ => rfl
theorem wp_set {is : List Nat} {σ' : L2.St} {x : Option V} (h : Wp is σ σ') : Wp (i :: is) σ (σ'.set i x) := fun vs hv => by
  rw [wipe_set (hv i List.mem_cons_self), h vs fun j hj => hv j (List.mem_cons_of_mem _ hj)]
theorem g_1 (e : En F σ Rs) (h : R1.at_ F v) (q : ∀ σ', En F σ' (Rs.set i (some R1)) → Wp [i] σ σ' → Q σ' H) : gName i v σ H Q := q _ (e.set h) (wp_set wp_nil)
theorem g_2 (s : Same F H) (e : En F σ Rs) (h : (rTup [R1, R2]).at_ F v) (q : ∀ σ', En F σ' ((Rs.set i (some R1)).set j (some R2)) → Wp [j, i] σ σ' → Q σ' H) :
    gTup K 2 (gCons (gName i) (gCons (gName j) gNil)) v σ H Q := by
  obtain ⟨a, vs, rfl, ha, L⟩ := h
  cases L with
  | cons r1 L =>
    cases L with
    | cons r2 L =>
      cases L
      exact ⟨a, _, rfl, SqT.of (s _ _ ha), rfl, _, _, rfl, _, _, rfl, rfl, q _ ((e.set r1).set r2) (wp_set (wp_set wp_nil))⟩
theorem g_3 (s : Same F H) (e : En F σ Rs) (h : (rTup [R1, R2, R3]).at_ F v) (q : ∀ σ', En F σ' (((Rs.set i (some R1)).set j (some R2)).set k (some R3)) → Wp [k, j, i] σ σ' → Q σ' H) :
    gTup K 3 (gCons (gName i) (gCons (gName j) (gCons (gName k) gNil))) v σ H Q := by
  obtain ⟨a, vs, rfl, ha, L⟩ := h
  cases L with
  | cons r1 L =>
    cases L with
    | cons r2 L =>
      cases L with
      | cons r3 L =>
        cases L
        exact ⟨a, _, rfl, SqT.of (s _ _ ha), rfl, _, _, rfl, _, _, rfl, _, _, rfl, rfl, q _ (((e.set r1).set r2).set r3) (wp_set (wp_set (wp_set wp_nil)))⟩
theorem g_4 (s : Same F H) (e : En F σ Rs) (h : (rTup [R1, R2, R3, R4]).at_ F v) (q : ∀ σ', En F σ' ((((Rs.set i (some R1)).set j (some R2)).set k (some R3)).set l (some R4)) → Wp [l, k, j, i] σ σ' → Q σ' H) :
    gTup K 4 (gCons (gName i) (gCons (gName j) (gCons (gName k) (gCons (gName l) gNil)))) v σ H Q := by
  obtain ⟨a, vs, rfl, ha, L⟩ := h
  cases L with
  | cons r1 L =>
    cases L with
    | cons r2 L =>
      cases L with
      | cons r3 L =>
        cases L with
        | cons r4 L =>
          cases L
          exact ⟨a, _, rfl, SqT.of (s _ _ ha), rfl, _, _, rfl, _, _, rfl, _, _, rfl, _, _, rfl, rfl, q _ ((((e.set r1).set r2).set r3).set r4) (wp_set (wp_set (wp_set (wp_set wp_nil))))⟩
theorem g_5 (s : Same F H) (e : En F σ Rs) (h : (rTup [R1, R2, R3, R4, R5]).at_ F v) (q : ∀ σ', En F σ' (((((Rs.set i (some R1)).set j (some R2)).set k (some R3)).set l (some R4)).set m (some R5)) → Wp [m, l, k, j, i] σ σ' → Q σ' H) :
    gTup K 5 (gCons (gName i) (gCons (gName j) (gCons (gName k) (gCons (gName l) (gCons (gName m) gNil))))) v σ H Q := by
  obtain ⟨a, vs, rfl, ha, L⟩ := h
  cases L with
  | cons r1 L =>
    cases L with
    | cons r2 L =>
      cases L with
      | cons r3 L =>
        cases L with
        | cons r4 L =>
          cases L with
          | cons r5 L =>
            cases L
            exact ⟨a, _, rfl, SqT.of (s _ _ ha), rfl, _, _, rfl, _, _, rfl, _, _, rfl, _, _, rfl, _, _, rfl, rfl, q _ (((((e.set r1).set r2).set r3).set r4).set r5) (wp_set (wp_set (wp_set (wp_set (wp_set wp_nil)))))⟩
end
end K81
set_option Elab.async false
set_option linter.all false
set_option maxRecDepth 100000
set_option maxHeartbeats 2000000
set_option autoImplicit false
/-! K81B: the head's facts, callees. -/
namespace K81
open PySem PySem.Spec L2
open PyProof.Rows (envOfC)

/-! ### the head's facts -/
structure Hd (K : PySem.W.Frag) (mg : Str → Option Value) : Prop where
  says : obsK K = valK
  ms : ∀ {x : Str} {u : Value}, PySem.W.nsIn K mainGlobals x = some (some u) → mg x = some u
  mn : ∀ {x : Str}, PySem.W.nsIn K mainGlobals x = some none → mg x = none
section
variable {K : PySem.W.Frag} {mg : Str → Option Value}
theorem Hd.fact (T : Hd K mg) (i : Nat) {f : He.Fa} (h : fa[i]? = some f := by rfl) : f.ok K = true := by
  have c1 := (He.ba (show ((fa.all fun f => f.ok K) && _) = true from congrArg (fun z : AlK => z.1) T.says)).1
  exact List.all_eq_true.mp c1 f (List.mem_of_getElem? h)
theorem Hd.ex (T : Hd K mg) (i : Nat) {f : PySem.W.Frag → Bool} (h : exs[i]? = some f := by rfl) : f K = true := by
  have c1 := (He.ba (He.ba (show ((fa.all fun f => f.ok K) && ((exs.all fun e => e K) && _)) = true from congrArg (fun z : AlK => z.1) T.says)).2).1
  exact List.all_eq_true.mp c1 f (List.mem_of_getElem? h)
theorem Hd.def_ (T : Hd K mg) (i : Nat) {d : He5.DefA} (h : fn[i]? = some d := by rfl) : ∃ fd, FunD K d.name d.qual d.params d.body d.scope (d.dvs K) (d.kws K) (d.at_ K) fd := by
  have c2 := (He.ba (He.ba (show ((fa.all fun f => f.ok K) && ((exs.all fun e => e K) && fn.all fun d => d.ok K)) = true from congrArg (fun z : AlK => z.1) T.says)).2).2
  have e : fn.map (fun d => He5.fnA K (d.at_ K)) = fn.map He5.DefA.val := congrArg (fun z : AlK => z.2) T.says
  have e2 : (fn.map fun d => He5.fnA K (d.at_ K))[i]? = (fn.map He5.DefA.val)[i]? := by rw [e]
  rw [List.getElem?_map, List.getElem?_map, h] at e2
  exact He5.DefA.funD (Option.some.inj e2) (List.all_eq_true.mp c2 d (List.mem_of_getElem? h))
theorem Hd.glo (T : Hd K mg) {x : Str} (i : Nat) (h : fa[i]? = some (.glo x) := by rfl) : mg x = some (.ref (He.ga K x)) := T.ms (He.eqO_ok (T.fact i h))
theorem Hd.free (T : Hd K mg) {x : Str} (i : Nat) (h : fa[i]? = some (.free x) := by rfl) : mg x = none := T.mn (He.eqO_ok (T.fact i h))
theorem Hd.int (T : Hd K mg) {x : Str} {n : Int} (i : Nat) (h : fa[i]? = some (.int x n) := by rfl) : ∃ t, mg x = some (.int n t) := by
  have c : (match PySem.W.nsIn K mainGlobals x with
    | some (some (.int j _)) => decide (j = n)
    | _ => false) = true := T.fact i h
  split at c
  · rename_i j t e
    rw [of_decide_eq_true c] at e
    exact ⟨t, T.ms e⟩
  · cases c
theorem Hd.str (T : Hd K mg) {x z : Str} (i : Nat) (h : fa[i]? = some (.str x z) := by rfl) : ∃ t, mg x = some (.str z t) := by
  have c : (match PySem.W.nsIn K mainGlobals x with
    | some (some (.str y _)) => decide (y = z)
    | _ => false) = true := T.fact i h
  split at c
  · rename_i j t e
    rw [of_decide_eq_true c] at e
    exact ⟨t, T.ms e⟩
  · cases c
end

/-! ### rules whose reading names the written part, the part told -/
section
variable {X : Cx} {K : PySem.W.Frag}
theorem eqd_k (hu : X.A.units + 64 < cLine) (h : X.K = K := by rfl) : OpR X (compareOp .Eq) (rEqD K) := h ▸ op_eqD hu
theorem ned_k (hu : X.A.units + 64 < cLine) (h : X.K = K := by rfl) : OpR X (compareOp .NotEq) (rNeD K) := h ▸ op_neD hu
theorem ind_k (hu : X.A.units + 65 < cLine) (h : X.K = K := by rfl) : OpR X (compareOp .In) (rInD K) := h ▸ op_inD hu
theorem nid_k (hu : X.A.units + 65 < cLine) (h : X.K = K := by rfl) : OpR X (compareOp .NotIn) (rNotInD K) := h ▸ op_notInD hu
theorem ixl_k (h : X.K = K := by rfl) : IxR X (rIxL K) := h ▸ ix_list
theorem ixt_k (h : X.K = K := by rfl) : IxR X (rIxT K) := h ▸ ix_tup
theorem sll_k (h : X.K = K := by rfl) : SlR X (rSlL K) := h ▸ sl_list
theorem slt_k (h : X.K = K := by rfl) : SlR X (rSlT K) := h ▸ sl_tup
theorem isi_k (h : X.K = K := by rfl) : CallR X (.builtin "isinstance") (rIsi K) := h ▸ call_isi
theorem isiT_k (h : X.K = K := by rfl) : CallR X (.builtin "isinstance") (rIsiT K) := h ▸ call_isiT
def rLen (K : PySem.W.Frag) : List V → Hp → VK → Prop := fun xs H Q => ∃ p ys, xs = [.ref p] ∧ (SqL K H p ys ∨ SqT K H p ys) ∧ Q (.int ys.length) H
theorem len_k (h : X.K = K := by rfl) : CallR X (.builtin "len") (rLen K) := h ▸ call_len_seq
def rListOf (K : PySem.W.Frag) : List V → Hp → VK → Prop := fun xs H Q => ∃ p ys, xs = [.ref p] ∧ (SqL K H p ys ∨ SqT K H p ys) ∧ ∀ l, H l = none → Q (.ref l) (upd H l (.lst ys))
theorem lst_k (h : X.K = K := by rfl) : CallR X (.type "list") (rListOf K) := h ▸ call_list_of
def rTupOf (K : PySem.W.Frag) : List V → Hp → VK → Prop := fun xs H Q => ∃ p ys, xs = [.ref p] ∧ ((SqL K H p ys ∧ ∀ l, H l = none → Q (.ref l) (upd H l (.tup ys))) ∨ (SqT K H p ys ∧ Q (.ref p) H))
theorem tof_k (h : X.K = K := by rfl) : CallR X (.type "tuple") (rTupOf K) := h ▸ call_tuple_of
theorem all_k (hc : X.calm = true) (h : X.K = K := by rfl) : CallR X (.builtin "all") (rAll K) := h ▸ cr_all hc
theorem any_k (hc : X.calm = true) (h : X.K = K := by rfl) : CallR X (.builtin "any") (rAny K) := h ▸ cr_any hc
theorem max_k (hc : X.calm = true) (h : X.K = K := by rfl) : CallR X (.builtin "max") (rMax K) := h ▸ cr_max hc
theorem idx_k (hu : X.A.units + 65 < cLine) (h : X.K = K := by rfl) : MtR X "list.index" (rIndexD K) := h ▸ mt_indexD hu
theorem fld_k {e : Expr} {ta : TE} {f : Str} {pos : Pos} (he : PE X e ta) (h : X.K = K := by rfl) (hb : attributeBase e f X.env (eval e X.env) = eval e X.env := by rfl) : PE X (.Attribute e f pos) (tFld K ta f) := h ▸ pe_fld he hb
theorem tup_k {es : List Expr} {k : Nat} {t : TGs} {n : Nat} {pos : Pos} (hc : X.calm = true) (hg : PGs X es t) (h : X.K = K := by rfl) (hn : (assignEach es X.env).length = n := by rfl) (hst : (assignEach es X.env).findIdx? (·.1) = none := by rfl) : PG X (.Tuple es k pos) (gTup K n t) := h ▸ pg_tup hc hg hn hst
theorem rev_k {e : Expr} {te : TE} {k : Nat} {p1 p2 p3 pos : Pos} (he : PE X e te) (h : X.K = K := by rfl) : PE X (.Subscript e (.Slice none none (some (.UnaryOp .USub (.Constant (.int 1) k p1) p2)) p3) pos) (tRevL K te) := h ▸ pe_revL he
variable {o e : Expr} {es : List Expr} {to : TE} {t : TA} {name : Str} {apos cpos : Pos} {T id : String} {r : V → List V → Hp → VK → Prop}
theorem bm0_k (pa : PlainAttrs T) (slot : Slot T name id) (hty : typeOf (.builtin id) = pure (.type "method_descriptor")) (hm : MtR X id r) (ho : PE X o to) (h : X.K = K := by rfl)
    (hbase : attributeBase o name X.env (eval o X.env) = eval o X.env := by rfl) (hline : (apos.endLine == cpos.line) = true := by rfl) : PE X (.Call (.Attribute o name apos) [] [] cpos) (tBM0 K T r to) := h ▸ pe_bm0 pa slot hty hm ho hbase hline
theorem bm_k (pa : PlainAttrs T) (slot : Slot T name id) (hty : typeOf (.builtin id) = pure (.type "method_descriptor")) (hm : MtR X id r) (ho : PE X o to) (ha : PA X (e :: es) t) (h : X.K = K := by rfl)
    (hbase : attributeBase o name X.env (eval o X.env) = eval o X.env := by rfl)
    (hfew : ((backTo cpos (starEach (e :: es) X.env)).all (fun x => !x.1) && (backToKw cpos (keywordEach [] X.env)).all (fun x => x.1.isSome)
      && decide ((e :: es).length + ([] : List Keyword).length + (if ([] : List Keyword).isEmpty then 0 else 1) < 30)) = true := by rfl)
    (hline : (apos.endLine == cpos.line) = true := by rfl) (hs : starEach (e :: es) X.env = (false, eval e X.env) :: starEach es X.env := by rfl) (hplain : (backTo cpos (starEach es X.env)).any (·.1) = false := by rfl) :
    PE X (.Call (.Attribute o name apos) (e :: es) [] cpos) (tBM K T r to t) := h ▸ pe_bm pa slot hty hm ho ha hbase hfew hline hs hplain
end

/-! ### callees -/
section
variable (P : Program) (w : World) (K : PySem.W.Frag) (mg : Str → Option Value) (base : Heap)
/-- a def of the module that keeps a promise -/
structure Ce (k : Nat) (x : Str) (ps : List Str) (sp : Sp) : Prop where
  ex : ∃ (f : Addr) (fd : FuncData), FnOk P w K mg base CX0 k f fd ps sp ∧ mg x = some (.ref f) ∧ PySem.W.keepIn K (.ref f) = true ∧ Binds K fd ps [] ∧
    (∀ (s : Shared) (us : List Value), us.length = ps.length → BindsTo s fd ⟨us, []⟩ (ps.zip us))
/-- a class's own __init__, the last nd parameters filled by defaults -/
structure Cm (k : Nat) (x : Str) (C : Addr) (ps : List Str) (dvs : List V) (sp : Sp) : Prop where
  ex : ∃ (f : Addr) (fd : FuncData) (ds : List Value), FnOk P w K mg base CX0 k f fd ps sp ∧ mg x = some (.ref C) ∧ Mk K C f ∧ Binds K fd ps ds ∧ Vals dvs ds
/-- a method -/
structure Cq (k : Nat) (C : Addr) (m : Str) (ps : List Str) (sp : Sp) : Prop where
  ex : ∃ (f : Addr) (fd : FuncData), FnOk P w K mg base CX0 k f fd ps sp ∧ Cls K C ∧ Meth K C m f ∧ Binds K fd ps []
/-- a property -/
structure Cp (k : Nat) (C : Addr) (m : Str) (sp : Sp) : Prop where
  ex : ∃ (p g : Addr) (fd : FuncData), FnOk P w K mg base CX0 k g fd ["self"] sp ∧ Cls K C ∧ PropOf K C m p g ∧ Binds K fd ["self"] []
/-- a staticmethod -/
structure Cs (k : Nat) (x : Str) (C : Addr) (m : Str) (ps : List Str) (sp : Sp) : Prop where
  ex : ∃ (p g : Addr) (fd : FuncData), FnOk P w K mg base CX0 k g fd ps sp ∧ mg x = some (.ref C) ∧ PySem.W.readsIn K C (.type "type") = true ∧ PySem.W.specialIn K (.ref C) "__getattribute__" = some (some (.builtin "type.__getattribute__")) ∧
    PySem.W.findCls K (.ref C) (.type "type") m = some (.get (.builtin "staticmethod.__get__") (.ref p) .none (.ref C)) ∧ (∃ rest, PySem.W.recIn K p "staticmethod" = some (.ref g :: rest)) ∧ PySem.W.keepIn K (.ref g) = true ∧ Binds K fd ps []
end
section
variable {X : Cx} {k : Nat} {x m : Str} {C : Addr} {p pos apos : Pos} {e o : Expr} {es : List Expr} {t : TA} {to : TE} {ps : List Str} {sp : Sp}
theorem pe_c (c : Ce X.prog X.w X.K X.mg X.base k x ps sp) (hr : Room k X.A) (hg : Gl X x) (ha : PA X (e :: es) t) (hdb : (x == ("__debug__" : Str)) = false := by decide)
    (he : starEach (e :: es) X.env = (false, eval e X.env) :: starEach es X.env := by rfl) (hpl : (backTo pos (starEach es X.env)).any (·.1) = false := by rfl) : PE X (.Call (.Name x p) (e :: es) [] pos) (tCall sp [] E0 t) := by
  obtain ⟨f, fd, F, hm, hk, hb, _⟩ := c.ex
  exact pe_call F hr hg hm hk hb .nil pass0 ha hdb he hpl
theorem pe_q {pl : Sem Bool} (c : Cq X.prog X.w X.K X.mg X.base k C m ps sp) (ho : PE X o to) (hr : Room k X.A) (ha : PA X (e :: es) t)
    (hst : starEach (e :: es) X.env = (false, eval e X.env) :: starEach es X.env := by rfl) (hpl : (backTo pos (starEach es X.env)).any (·.1) = false := by rfl)
    (ht : eval (.Call (.Attribute o m apos) (e :: es) [] pos) X.env = (do
      let ov ← eval o X.env
      standAt apos.atName
      let (f, first) ← holding [ov] (getMethod ov m pl)
      callWith pos f first (backTo pos (starEach (e :: es) X.env)) (backToKw pos (keywordEach [] X.env))) := by rfl) : PE X (.Call (.Attribute o m apos) (e :: es) [] pos) (tMeth C m sp [] E0 to t) := by
  obtain ⟨f, fd, F, c1, hm, hb⟩ := c.ex
  exact pe_meth ho c1 hm F hr hb .nil pass0 ha hst hpl ht
theorem pe_q0 {pl : Sem Bool} (c : Cq X.prog X.w X.K X.mg X.base k C m ps sp) (ho : PE X o to) (hr : Room k X.A)
    (ht : eval (.Call (.Attribute o m apos) [] [] pos) X.env = (do
      let ov ← eval o X.env
      standAt apos.atName
      let (f, first) ← holding [ov] (getMethod ov m pl)
      callWith pos f first (backTo pos (starEach [] X.env)) (backToKw pos (keywordEach [] X.env))) := by rfl) : PE X (.Call (.Attribute o m apos) [] [] pos) (tMeth C m sp [] E0 to tNil) := by
  obtain ⟨f, fd, F, c1, hm, hb⟩ := c.ex
  exact pe_meth0 ho c1 hm F hr hb .nil pass0 ht
theorem pe_p (c : Cp X.prog X.w X.K X.mg X.base k C m sp) (ho : PE X o to) (hr : Room (k + 1) X.A) (hab : attributeBase o m X.env (eval o X.env) = eval o X.env := by rfl) : PE X (.Attribute o m pos) (tProp C sp [] E0 to) := by
  obtain ⟨pp, g, fd, F, c1, hm, hb⟩ := c.ex
  exact pe_prop ho c1 hm F hr hb .nil pass0 hab
theorem pe_mk {dvs : List V} (c : Cm X.prog X.w X.K X.mg X.base k x C ps dvs sp) (hr : Room (k + 1) X.A) (hg : Gl X x) (ha : PA X (e :: es) t) (hdb : (x == ("__debug__" : Str)) = false := by decide)
    (he : starEach (e :: es) X.env = (false, eval e X.env) :: starEach es X.env := by rfl) (hpl : (backTo pos (starEach es X.env)).any (·.1) = false := by rfl) : PE X (.Call (.Name x p) (e :: es) [] pos) (tMake C sp dvs E0 t) := by
  obtain ⟨f, fd, ds, F, hm, M, hb, hd⟩ := c.ex
  exact pe_make M F hr hg hm hb hd pass0 ha hdb he hpl
end

/-! ### a def keeps a promise -/
section
variable {P : Program} {w : World} {K : PySem.W.Frag} {mg : Str → Option Value} {base : Heap} {x qual : Str} {st : Stmt} {f C : Addr} {N ps : List Str} {k : Nat}
/-- the context of a body -/
abbrev XX (P : Program) (w : World) (K : PySem.W.Frag) (mg : Str → Option Value) (base : Heap) (N : List Str) (qual : Str) (st : Stmt) (f : Addr) (cdv : Value) (A : Around) (outer : List Env) (s : Shared) (H : Hp) (E : XK) : Cx :=
  (cxOf CX0 P w K mg base N qual (defScope st) f cdv A outer s H E).nox
/-- how the body of a plain promise goes -/
def Body {G : Type} (P : Program) (w : World) (K : PySem.W.Frag) (mg : Str → Option Value) (base : Heap) (k : Nat) (N : List Str) (qual : Str) (st : Stmt) (f : Addr) (args : G → List Rep) (dom : G → Hp → Hp → Prop) (res : G → Rep) : Prop :=
  ∀ (cdv : Value) (A : Around) (outer : List Env) (s : Shared) (H0 : Hp) (E : XK), Room k (A.deeper (envOfC qual (defScope st) s.heap.objs.size f cdv)) →
    ∃ t, PSs (XX P w K mg base N qual st f cdv A outer s H0 E) (defBody st) t ∧ ∀ (g : G) (F : Hp) (H : Hp) (σ : L2.St) (Q : VK), Same F H → dom g H F → En F σ ((args g).map some ++ List.replicate (N.length - (args g).length) none) →
      (∀ v H' F', G0 H F H' F' → (res g).at_ F' v → Q v H') → t { nx := fun _ H' => Q .non H', rt := Q } σ H
theorem fn_plain {G : Type} {args : G → List Rep} {dom : G → Hp → Hp → Prop} {res : G → Rep} {fd : FuncData} (D : FunD K x qual (defArgs st) (defBody st) (defScope st) [] [] f fd) (S : FnScope N ps (defScope st)) (len : ∀ g, (args g).length = ps.length)
    (body : Body P w K mg base k N qual st f args dom res) : FnOk P w K mg base CX0 (k + 1) f fd ps (PSp args dom res) := by
  refine D.ok S (fun vs H Q E h => ?_) (fun cdv A outer s H vs Q E hr h => ?_)
  · obtain ⟨g, F, _, l, _⟩ := h
    rw [l.len, len]
  · obtain ⟨t, ht, q⟩ := body cdv A outer s H E hr
    obtain ⟨g, F, hs, l, hd, k'⟩ := h
    exact ⟨t, ht.nox, q g F H _ Q hs hd (En.start l) k'⟩
/-- the same, a promise of any kind -/
def BodyS (P : Program) (w : World) (K : PySem.W.Frag) (mg : Str → Option Value) (base : Heap) (k : Nat) (N : List Str) (qual : Str) (st : Stmt) (f : Addr) (sp : Sp) : Prop :=
  ∀ (cdv : Value) (A : Around) (outer : List Env) (s : Shared) (H0 : Hp) (E : XK), Room k (A.deeper (envOfC qual (defScope st) s.heap.objs.size f cdv)) →
    ∃ t, PSs (XX P w K mg base N qual st f cdv A outer s H0 E) (defBody st) t ∧ ∀ (vs : List V) (H : Hp) (Q : VK) (E : XK), sp vs H Q E → t { nx := fun _ H' => Q .non H', rt := Q } (start N vs) H
theorem fn_any {sp : Sp} {fd : FuncData} (D : FunD K x qual (defArgs st) (defBody st) (defScope st) [] [] f fd) (S : FnScope N ps (defScope st)) (len : ∀ vs H Q E, sp vs H Q E → vs.length = ps.length)
    (body : BodyS P w K mg base k N qual st f sp) : FnOk P w K mg base CX0 (k + 1) f fd ps sp := by
  refine D.ok S len (fun cdv A outer s H vs Q E hr h => ?_)
  obtain ⟨t, ht, q⟩ := body cdv A outer s H E hr
  exact ⟨t, ht.nox, q vs H Q E h⟩
abbrev BindR (x qual : Str) (st : Stmt) (ps : List Str) : Prop := ∀ (kV doc pm : Value) (an : Option Addr) (cdv ct : Value) (us : List Value), us.length = ps.length → bindArgs (PySem.W.fnOf x qual (defArgs st) (defBody st) (defScope st) .none kV doc pm an cdv ct) ⟨us, []⟩ = pure (ps.zip us)
theorem ce_plain {G : Type} {args : G → List Rep} {dom : G → Hp → Hp → Prop} {res : G → Rep} (D : ∃ fd, FunD K x x (defArgs st) (defBody st) (defScope st) [] [] f fd) (m : mg x = some (.ref f)) (S : FnScope N ps (defScope st)) (b : BindR x x st ps) (len : ∀ g, (args g).length = ps.length)
    (body : Body P w K mg base k N x st f args dom res) : Ce P w K mg base (k + 1) x ps (PSp args dom res) := by
  obtain ⟨fd, D⟩ := D
  exact ⟨f, fd, fn_plain D S len body, m, D.kp, D.bindsN b, D.bindsA b⟩
theorem ce_any {sp : Sp} (D : ∃ fd, FunD K x x (defArgs st) (defBody st) (defScope st) [] [] f fd) (m : mg x = some (.ref f)) (S : FnScope N ps (defScope st)) (b : BindR x x st ps) (len : ∀ vs H Q E, sp vs H Q E → vs.length = ps.length)
    (body : BodyS P w K mg base k N x st f sp) : Ce P w K mg base (k + 1) x ps sp := by
  obtain ⟨fd, D⟩ := D
  exact ⟨f, fd, fn_any D S len body, m, D.kp, D.bindsN b, D.bindsA b⟩
theorem cq_plain {G : Type} {args : G → List Rep} {dom : G → Hp → Hp → Prop} {res : G → Rep} (D : ∃ fd, FunD K x qual (defArgs st) (defBody st) (defScope st) [] [] f fd) (c : Cls K C) (m : Meth K C x f) (S : FnScope N ps (defScope st)) (b : BindR x qual st ps) (len : ∀ g, (args g).length = ps.length)
    (body : Body P w K mg base k N qual st f args dom res) : Cq P w K mg base (k + 1) C x ps (PSp args dom res) := by
  obtain ⟨fd, D⟩ := D
  exact ⟨f, fd, fn_plain D S len body, c, m, D.bindsN b⟩
theorem cp_plain {G : Type} {args : G → List Rep} {dom : G → Hp → Hp → Prop} {res : G → Rep} {p : Addr} (D : ∃ fd, FunD K x qual (defArgs st) (defBody st) (defScope st) [] [] f fd) (c : Cls K C) (m : PropOf K C x p f) (S : FnScope N ["self"] (defScope st)) (b : BindR x qual st ["self"]) (len : ∀ g, (args g).length = 1)
    (body : Body P w K mg base k N qual st f args dom res) : Cp P w K mg base (k + 1) C x (PSp args dom res) := by
  obtain ⟨fd, D⟩ := D
  exact ⟨p, f, fd, fn_plain D S len body, c, m, D.bindsN b⟩
theorem Ce.mono {j : Nat} {sp : Sp} (c : Ce P w K mg base j x ps sp) (h : j ≤ k) : Ce P w K mg base k x ps sp := by
  obtain ⟨f, fd, F, r⟩ := c.ex
  exact ⟨f, fd, F.mono h, r⟩
theorem Cq.mono {j : Nat} {sp : Sp} (c : Cq P w K mg base j C x ps sp) (h : j ≤ k) : Cq P w K mg base k C x ps sp := by
  obtain ⟨f, fd, F, r⟩ := c.ex
  exact ⟨f, fd, F.mono h, r⟩
theorem Cp.mono {j : Nat} {sp : Sp} (c : Cp P w K mg base j C x sp) (h : j ≤ k) : Cp P w K mg base k C x sp := by
  obtain ⟨p, f, fd, F, r⟩ := c.ex
  exact ⟨p, f, fd, F.mono h, r⟩
end
/-! ### calls of methods and properties, evaluated -/
section
variable {Rs : Rs_} {H F : Hp} {to : TE} {C : Addr}
/-- an instance of the class at C that stays, with no attribute of that name -/
def IsIns (C : Addr) (m : Str) (R : Rep) : Prop := ∀ F v, R.at_ F v → ∃ a dx fs, v = .ref a ∧ F a = some (.ins C dx fs) ∧ fs.lookup m = none
theorem ev_meth {G : Type} {args : G → List Rep} {dom : G → Hp → Hp → Prop} {res : G → Rep} (g : G) {m : Str} {ta : TA} {E : XK} {R : Rep} {As : List Rep} (ho : EvE to Rs H F R) (hi : IsIns C m R) (h : EvA ta Rs H F As) (hg : R :: As = args g) (hd : ∀ H1 F1, G0 H F H1 F1 → dom g H1 F1) :
    EvE (tMeth C m (PSp args dom res) [] E to ta) Rs H F (res g) := by
  intro σ H1 F1 k e Q q
  refine ho σ H1 F1 k e _ fun x H2 F2 k2 rx => ?_
  obtain ⟨a, dx, fs, rfl, ha, hl⟩ := hi _ _ rx
  refine ⟨a, dx, fs, rfl, k2.fh _ _ ha, hl, h σ H2 F2 (k.trans k2) (e.mono k2.ff) _ fun vs H3 F3 k3 rv => ?_⟩
  rw [List.append_nil]
  exact ⟨g, F3, k3.fh, hg ▸ LA.cons (R.mono k3.ff rx) rv, hd H3 F3 ((k.trans k2).trans k3), fun v H4 F4 n r => q v H4 F4 ((k2.trans k3).trans n) r⟩
theorem ev_prop {G : Type} {args : G → List Rep} {dom : G → Hp → Hp → Prop} {res : G → Rep} (g : G) {E : XK} {R : Rep} (ho : EvE to Rs H F R) (hi : ∀ F v, R.at_ F v → ∃ a dx fs, v = .ref a ∧ F a = some (.ins C dx fs)) (hg : [R] = args g) (hd : ∀ H1 F1, G0 H F H1 F1 → dom g H1 F1) :
    EvE (tProp C (PSp args dom res) [] E to) Rs H F (res g) := by
  intro σ H1 F1 k e Q q
  refine ho σ H1 F1 k e _ fun x H2 F2 k2 rx => ?_
  obtain ⟨a, dx, fs, rfl, ha⟩ := hi _ _ rx
  exact ⟨a, dx, fs, rfl, k2.fh _ _ ha, g, F2, k2.fh, hg ▸ LA.cons rx .nil, hd H2 F2 (k.trans k2), fun v H4 F4 n r => q v H4 F4 (k2.trans n) r⟩
end
end K81
set_option Elab.async false
set_option linter.all false
set_option maxRecDepth 100000
set_option maxHeartbeats 2000000
set_option autoImplicit false
/-! K81Sc: the head's facts by names, the scopes of the defs. -/
namespace K81
open PySem PySem.Spec L2
section
variable {K : PySem.W.Frag} {mg : Str → Option Value}
theorem Hd.glo_is_integer (T : Hd K mg) : mg "is_integer" = some (.ref (He.ga K "is_integer")) := T.glo 0
theorem Hd.glo_is_count (T : Hd K mg) : mg "is_count" = some (.ref (He.ga K "is_count")) := T.glo 1
theorem Hd.glo_is_list (T : Hd K mg) : mg "is_list" = some (.ref (He.ga K "is_list")) := T.glo 2
theorem Hd.glo_is_name (T : Hd K mg) : mg "is_name" = some (.ref (He.ga K "is_name")) := T.glo 3
theorem Hd.glo_is_sign (T : Hd K mg) : mg "is_sign" = some (.ref (He.ga K "is_sign")) := T.glo 4
theorem Hd.glo_pairs_with (T : Hd K mg) : mg "pairs_with" = some (.ref (He.ga K "pairs_with")) := T.glo 5
theorem Hd.glo_turned_pairs (T : Hd K mg) : mg "turned_pairs" = some (.ref (He.ga K "turned_pairs")) := T.glo 6
theorem Hd.glo_sets_by (T : Hd K mg) : mg "sets_by" = some (.ref (He.ga K "sets_by")) := T.glo 7
theorem Hd.glo_set_of (T : Hd K mg) : mg "set_of" = some (.ref (He.ga K "set_of")) := T.glo 8
theorem Hd.glo_states_in (T : Hd K mg) : mg "states_in" = some (.ref (He.ga K "states_in")) := T.glo 9
theorem Hd.glo_gathered (T : Hd K mg) : mg "gathered" = some (.ref (He.ga K "gathered")) := T.glo 10
theorem Hd.glo_is_state_of (T : Hd K mg) : mg "is_state_of" = some (.ref (He.ga K "is_state_of")) := T.glo 11
theorem Hd.glo_want_starts (T : Hd K mg) : mg "want_starts" = some (.ref (He.ga K "want_starts")) := T.glo 12
theorem Hd.glo_want_steps (T : Hd K mg) : mg "want_steps" = some (.ref (He.ga K "want_steps")) := T.glo 13
theorem Hd.glo_want_limits (T : Hd K mg) : mg "want_limits" = some (.ref (He.ga K "want_limits")) := T.glo 14
theorem Hd.glo_made_box (T : Hd K mg) : mg "made_box" = some (.ref (He.ga K "made_box")) := T.glo 15
theorem Hd.glo_want_state (T : Hd K mg) : mg "want_state" = some (.ref (He.ga K "want_state")) := T.glo 16
theorem Hd.glo_want_row (T : Hd K mg) : mg "want_row" = some (.ref (He.ga K "want_row")) := T.glo 17
theorem Hd.glo_want_limited (T : Hd K mg) : mg "want_limited" = some (.ref (He.ga K "want_limited")) := T.glo 18
theorem Hd.glo_start_set (T : Hd K mg) : mg "start_set" = some (.ref (He.ga K "start_set")) := T.glo 19
theorem Hd.glo_behind_set (T : Hd K mg) : mg "behind_set" = some (.ref (He.ga K "behind_set")) := T.glo 20
theorem Hd.glo_behind_row (T : Hd K mg) : mg "behind_row" = some (.ref (He.ga K "behind_row")) := T.glo 21
theorem Hd.glo_does_give (T : Hd K mg) : mg "does_give" = some (.ref (He.ga K "does_give")) := T.glo 22
theorem Hd.glo_gives (T : Hd K mg) : mg "gives" = some (.ref (He.ga K "gives")) := T.glo 23
theorem Hd.glo_sets_with_steps (T : Hd K mg) : mg "sets_with_steps" = some (.ref (He.ga K "sets_with_steps")) := T.glo 24
theorem Hd.glo_parted (T : Hd K mg) : mg "parted" = some (.ref (He.ga K "parted")) := T.glo 25
theorem Hd.glo_form_of (T : Hd K mg) : mg "form_of" = some (.ref (He.ga K "form_of")) := T.glo 26
theorem Hd.glo_form (T : Hd K mg) : mg "form" = some (.ref (He.ga K "form")) := T.glo 27
theorem Hd.glo_want_signs (T : Hd K mg) : mg "want_signs" = some (.ref (He.ga K "want_signs")) := T.glo 28
theorem Hd.glo_want_states (T : Hd K mg) : mg "want_states" = some (.ref (He.ga K "want_states")) := T.glo 29
theorem Hd.glo_onward (T : Hd K mg) : mg "onward" = some (.ref (He.ga K "onward")) := T.glo 30
theorem Hd.glo_room (T : Hd K mg) : mg "room" = some (.ref (He.ga K "room")) := T.glo 31
theorem Hd.glo_tuples_behind (T : Hd K mg) : mg "tuples_behind" = some (.ref (He.ga K "tuples_behind")) := T.glo 32
theorem Hd.glo_row_to_place (T : Hd K mg) : mg "row_to_place" = some (.ref (He.ga K "row_to_place")) := T.glo 33
theorem Hd.glo_next_front (T : Hd K mg) : mg "next_front" = some (.ref (He.ga K "next_front")) := T.glo 34
theorem Hd.glo_missing_of (T : Hd K mg) : mg "missing_of" = some (.ref (He.ga K "missing_of")) := T.glo 35
theorem Hd.glo_stands_for (T : Hd K mg) : mg "stands_for" = some (.ref (He.ga K "stands_for")) := T.glo 36
theorem Hd.glo_both_starts (T : Hd K mg) : mg "both_starts" = some (.ref (He.ga K "both_starts")) := T.glo 37
theorem Hd.glo_in_step (T : Hd K mg) : mg "in_step" = some (.ref (He.ga K "in_step")) := T.glo 38
theorem Hd.glo__law_pot (T : Hd K mg) : mg "_law_pot" = some (.ref (He.ga K "_law_pot")) := T.glo 39
theorem Hd.glo__law_draw (T : Hd K mg) : mg "_law_draw" = some (.ref (He.ga K "_law_draw")) := T.glo 40
theorem Hd.glo__law_pick (T : Hd K mg) : mg "_law_pick" = some (.ref (He.ga K "_law_pick")) := T.glo 41
theorem Hd.glo__law_menu (T : Hd K mg) : mg "_law_menu" = some (.ref (He.ga K "_law_menu")) := T.glo 42
theorem Hd.glo__law_deal (T : Hd K mg) : mg "_law_deal" = some (.ref (He.ga K "_law_deal")) := T.glo 43
theorem Hd.glo__law_made (T : Hd K mg) : mg "_law_made" = some (.ref (He.ga K "_law_made")) := T.glo 44
theorem Hd.glo__law_behind (T : Hd K mg) : mg "_law_behind" = some (.ref (He.ga K "_law_behind")) := T.glo 45
theorem Hd.glo__law_some_signs (T : Hd K mg) : mg "_law_some_signs" = some (.ref (He.ga K "_law_some_signs")) := T.glo 46
theorem Hd.glo__law_runs (T : Hd K mg) : mg "_law_runs" = some (.ref (He.ga K "_law_runs")) := T.glo 47
theorem Hd.glo__law_greatest_right (T : Hd K mg) : mg "_law_greatest_right" = some (.ref (He.ga K "_law_greatest_right")) := T.glo 48
theorem Hd.glo__law_right (T : Hd K mg) : mg "_law_right" = some (.ref (He.ga K "_law_right")) := T.glo 49
theorem Hd.glo_law (T : Hd K mg) : mg "law" = some (.ref (He.ga K "law")) := T.glo 50
theorem Hd.glo_Box (T : Hd K mg) : mg "Box" = some (.ref (He.ga K "Box")) := T.glo 51
theorem Hd.glo_Shape (T : Hd K mg) : mg "Shape" = some (.ref (He.ga K "Shape")) := T.glo 52
theorem Hd.free_len (T : Hd K mg) : mg "len" = none := T.free 53
theorem Hd.free_range (T : Hd K mg) : mg "range" = none := T.free 54
theorem Hd.free_sorted (T : Hd K mg) : mg "sorted" = none := T.free 55
theorem Hd.free_isinstance (T : Hd K mg) : mg "isinstance" = none := T.free 56
theorem Hd.free_int (T : Hd K mg) : mg "int" = none := T.free 57
theorem Hd.free_abs (T : Hd K mg) : mg "abs" = none := T.free 58
theorem Hd.free_max (T : Hd K mg) : mg "max" = none := T.free 59
theorem Hd.free_min (T : Hd K mg) : mg "min" = none := T.free 60
theorem Hd.free_divmod (T : Hd K mg) : mg "divmod" = none := T.free 61
theorem Hd.free_enumerate (T : Hd K mg) : mg "enumerate" = none := T.free 62
theorem Hd.free_zip (T : Hd K mg) : mg "zip" = none := T.free 63
theorem Hd.free_tuple (T : Hd K mg) : mg "tuple" = none := T.free 64
theorem Hd.free_list (T : Hd K mg) : mg "list" = none := T.free 65
theorem Hd.free_set (T : Hd K mg) : mg "set" = none := T.free 66
theorem Hd.free_all (T : Hd K mg) : mg "all" = none := T.free 67
theorem Hd.free_any (T : Hd K mg) : mg "any" = none := T.free 68
theorem Hd.free_repr (T : Hd K mg) : mg "repr" = none := T.free 69
theorem Hd.free_str (T : Hd K mg) : mg "str" = none := T.free 70
theorem Hd.free_bool (T : Hd K mg) : mg "bool" = none := T.free 71
theorem Hd.MOST_LETTERS (T : Hd K mg) : ∃ t, mg "MOST_LETTERS" = some (.int 8 t) := T.int 72
theorem Hd.MOST_SETS_STATES (T : Hd K mg) : ∃ t, mg "MOST_SETS_STATES" = some (.int 7 t) := T.int 73
theorem Hd.MOST_HELPER_STATES (T : Hd K mg) : ∃ t, mg "MOST_HELPER_STATES" = some (.int 3 t) := T.int 74
theorem Hd.MOST_WHOLE_STATES (T : Hd K mg) : ∃ t, mg "MOST_WHOLE_STATES" = some (.int 4 t) := T.int 75
theorem Hd.LETTERS (T : Hd K mg) : ∃ t, mg "LETTERS" = some (.str "abcdefghijklmnopqrstuvwxyz" t) := T.str 76
theorem Hd.glo_FREE (T : Hd K mg) : mg "FREE" = some (.ref (He.ga K "FREE")) := T.glo 77
theorem Hd.cls_Box (T : Hd K mg) : Cls K (He.ga K "Box") := He.cls_ok (T.fact 78 (f := .cls "Box"))
theorem Hd.cls_Shape (T : Hd K mg) : Cls K (He.ga K "Shape") := He.cls_ok (T.fact 79 (f := .cls "Shape"))
theorem Hd.no_Box_own_shape (T : Hd K mg) : NoAttr K (He.ga K "Box") "own_shape" := He.noat_ok (T.fact 80 (f := .noat "Box" "own_shape"))
theorem Hd.no_Box_own_steps (T : Hd K mg) : NoAttr K (He.ga K "Box") "own_steps" := He.noat_ok (T.fact 81 (f := .noat "Box" "own_steps"))
theorem Hd.no_Shape_own_many (T : Hd K mg) : NoAttr K (He.ga K "Shape") "own_many" := He.noat_ok (T.fact 82 (f := .noat "Shape" "own_many"))
theorem Hd.no_Shape_own_starts (T : Hd K mg) : NoAttr K (He.ga K "Shape") "own_starts" := He.noat_ok (T.fact 83 (f := .noat "Shape" "own_starts"))
theorem Hd.no_Shape_own_steps (T : Hd K mg) : NoAttr K (He.ga K "Shape") "own_steps" := He.noat_ok (T.fact 84 (f := .noat "Shape" "own_steps"))
theorem Hd.no_Shape_own_forth (T : Hd K mg) : NoAttr K (He.ga K "Shape") "own_forth" := He.noat_ok (T.fact 85 (f := .noat "Shape" "own_forth"))
theorem Hd.no_Shape_own_back (T : Hd K mg) : NoAttr K (He.ga K "Shape") "own_back" := He.noat_ok (T.fact 86 (f := .noat "Shape" "own_back"))
theorem Hd.m_Box_starts (T : Hd K mg) : Meth K (He.ga K "Box") "starts" (He.ma K (He.ga K "Box") "starts") := He.meth_ok (T.fact 87 (f := .meth "Box" "starts"))
theorem Hd.m_Box_steps (T : Hd K mg) : Meth K (He.ga K "Box") "steps" (He.ma K (He.ga K "Box") "steps") := He.meth_ok (T.fact 88 (f := .meth "Box" "steps"))
theorem Hd.m_Box_signs (T : Hd K mg) : Meth K (He.ga K "Box") "signs" (He.ma K (He.ga K "Box") "signs") := He.meth_ok (T.fact 89 (f := .meth "Box" "signs"))
theorem Hd.m_Box_with_starts (T : Hd K mg) : Meth K (He.ga K "Box") "with_starts" (He.ma K (He.ga K "Box") "with_starts") := He.meth_ok (T.fact 90 (f := .meth "Box" "with_starts"))
theorem Hd.m_Box_getitem (T : Hd K mg) : Meth K (He.ga K "Box") "__getitem__" (He.ma K (He.ga K "Box") "__getitem__") := He.meth_ok (T.fact 91 (f := .meth "Box" "__getitem__"))
theorem Hd.m_Box_eq (T : Hd K mg) : Meth K (He.ga K "Box") "__eq__" (He.ma K (He.ga K "Box") "__eq__") := He.meth_ok (T.fact 92 (f := .meth "Box" "__eq__"))
theorem Hd.m_Box_repr (T : Hd K mg) : Meth K (He.ga K "Box") "__repr__" (He.ma K (He.ga K "Box") "__repr__") := He.meth_ok (T.fact 93 (f := .meth "Box" "__repr__"))
theorem Hd.mk_Box (T : Hd K mg) : Mk K (He.ga K "Box") (He.ma K (He.ga K "Box") "__init__") := He.mkr_ok (T.fact 94 (f := .mkr "Box"))
theorem Hd.mk_Shape (T : Hd K mg) : Mk K (He.ga K "Shape") (He.ma K (He.ga K "Shape") "__init__") := He.mkr_ok (T.fact 95 (f := .mkr "Shape"))
theorem Hd.d_is_integer (T : Hd K mg) : ∃ fd, FunD K "is_integer" "is_integer" (defArgs s_is_integer) (defBody s_is_integer) (defScope s_is_integer) [] [] (He.ga K "is_integer") fd := T.def_ 0
theorem Hd.d_is_count (T : Hd K mg) : ∃ fd, FunD K "is_count" "is_count" (defArgs s_is_count) (defBody s_is_count) (defScope s_is_count) [] [] (He.ga K "is_count") fd := T.def_ 1
theorem Hd.d_is_list (T : Hd K mg) : ∃ fd, FunD K "is_list" "is_list" (defArgs s_is_list) (defBody s_is_list) (defScope s_is_list) [] [] (He.ga K "is_list") fd := T.def_ 2
theorem Hd.d_is_name (T : Hd K mg) : ∃ fd, FunD K "is_name" "is_name" (defArgs s_is_name) (defBody s_is_name) (defScope s_is_name) [] [] (He.ga K "is_name") fd := T.def_ 3
theorem Hd.d_is_sign (T : Hd K mg) : ∃ fd, FunD K "is_sign" "is_sign" (defArgs s_is_sign) (defBody s_is_sign) (defScope s_is_sign) [] [] (He.ga K "is_sign") fd := T.def_ 4
theorem Hd.d_pairs_with (T : Hd K mg) : ∃ fd, FunD K "pairs_with" "pairs_with" (defArgs s_pairs_with) (defBody s_pairs_with) (defScope s_pairs_with) [] [] (He.ga K "pairs_with") fd := T.def_ 5
theorem Hd.d_turned_pairs (T : Hd K mg) : ∃ fd, FunD K "turned_pairs" "turned_pairs" (defArgs s_turned_pairs) (defBody s_turned_pairs) (defScope s_turned_pairs) [] [] (He.ga K "turned_pairs") fd := T.def_ 6
theorem Hd.d_sets_by (T : Hd K mg) : ∃ fd, FunD K "sets_by" "sets_by" (defArgs s_sets_by) (defBody s_sets_by) (defScope s_sets_by) [] [] (He.ga K "sets_by") fd := T.def_ 7
theorem Hd.d_set_of (T : Hd K mg) : ∃ fd, FunD K "set_of" "set_of" (defArgs s_set_of) (defBody s_set_of) (defScope s_set_of) [] [] (He.ga K "set_of") fd := T.def_ 8
theorem Hd.d_states_in (T : Hd K mg) : ∃ fd, FunD K "states_in" "states_in" (defArgs s_states_in) (defBody s_states_in) (defScope s_states_in) [] [] (He.ga K "states_in") fd := T.def_ 9
theorem Hd.d_gathered (T : Hd K mg) : ∃ fd, FunD K "gathered" "gathered" (defArgs s_gathered) (defBody s_gathered) (defScope s_gathered) [] [] (He.ga K "gathered") fd := T.def_ 10
theorem Hd.d_is_state_of (T : Hd K mg) : ∃ fd, FunD K "is_state_of" "is_state_of" (defArgs s_is_state_of) (defBody s_is_state_of) (defScope s_is_state_of) [] [] (He.ga K "is_state_of") fd := T.def_ 11
theorem Hd.d_want_starts (T : Hd K mg) : ∃ fd, FunD K "want_starts" "want_starts" (defArgs s_want_starts) (defBody s_want_starts) (defScope s_want_starts) [] [] (He.ga K "want_starts") fd := T.def_ 12
theorem Hd.d_want_steps (T : Hd K mg) : ∃ fd, FunD K "want_steps" "want_steps" (defArgs s_want_steps) (defBody s_want_steps) (defScope s_want_steps) [] [] (He.ga K "want_steps") fd := T.def_ 13
theorem Hd.d_want_limits (T : Hd K mg) : ∃ fd, FunD K "want_limits" "want_limits" (defArgs s_want_limits) (defBody s_want_limits) (defScope s_want_limits) [] [] (He.ga K "want_limits") fd := T.def_ 14
theorem Hd.d_made_box (T : Hd K mg) : ∃ fd, FunD K "made_box" "made_box" (defArgs s_made_box) (defBody s_made_box) (defScope s_made_box) [] [] (He.ga K "made_box") fd := T.def_ 15
theorem Hd.d_want_state (T : Hd K mg) : ∃ fd, FunD K "want_state" "want_state" (defArgs s_want_state) (defBody s_want_state) (defScope s_want_state) [] [] (He.ga K "want_state") fd := T.def_ 16
theorem Hd.d_want_row (T : Hd K mg) : ∃ fd, FunD K "want_row" "want_row" (defArgs s_want_row) (defBody s_want_row) (defScope s_want_row) [] [] (He.ga K "want_row") fd := T.def_ 17
theorem Hd.d_want_limited (T : Hd K mg) : ∃ fd, FunD K "want_limited" "want_limited" (defArgs s_want_limited) (defBody s_want_limited) (defScope s_want_limited) [] [] (He.ga K "want_limited") fd := T.def_ 18
theorem Hd.d_start_set (T : Hd K mg) : ∃ fd, FunD K "start_set" "start_set" (defArgs s_start_set) (defBody s_start_set) (defScope s_start_set) [] [] (He.ga K "start_set") fd := T.def_ 19
theorem Hd.d_behind_set (T : Hd K mg) : ∃ fd, FunD K "behind_set" "behind_set" (defArgs s_behind_set) (defBody s_behind_set) (defScope s_behind_set) [] [] (He.ga K "behind_set") fd := T.def_ 20
theorem Hd.d_behind_row (T : Hd K mg) : ∃ fd, FunD K "behind_row" "behind_row" (defArgs s_behind_row) (defBody s_behind_row) (defScope s_behind_row) [] [] (He.ga K "behind_row") fd := T.def_ 21
theorem Hd.d_does_give (T : Hd K mg) : ∃ fd, FunD K "does_give" "does_give" (defArgs s_does_give) (defBody s_does_give) (defScope s_does_give) [] [] (He.ga K "does_give") fd := T.def_ 22
theorem Hd.d_gives (T : Hd K mg) : ∃ fd, FunD K "gives" "gives" (defArgs s_gives) (defBody s_gives) (defScope s_gives) [] [] (He.ga K "gives") fd := T.def_ 23
theorem Hd.d_sets_with_steps (T : Hd K mg) : ∃ fd, FunD K "sets_with_steps" "sets_with_steps" (defArgs s_sets_with_steps) (defBody s_sets_with_steps) (defScope s_sets_with_steps) [] [] (He.ga K "sets_with_steps") fd := T.def_ 24
theorem Hd.d_parted (T : Hd K mg) : ∃ fd, FunD K "parted" "parted" (defArgs s_parted) (defBody s_parted) (defScope s_parted) [] [] (He.ga K "parted") fd := T.def_ 25
theorem Hd.d_form_of (T : Hd K mg) : ∃ fd, FunD K "form_of" "form_of" (defArgs s_form_of) (defBody s_form_of) (defScope s_form_of) [] [] (He.ga K "form_of") fd := T.def_ 26
theorem Hd.d_form (T : Hd K mg) : ∃ fd, FunD K "form" "form" (defArgs s_form) (defBody s_form) (defScope s_form) [] [] (He.ga K "form") fd := T.def_ 27
theorem Hd.d_want_signs (T : Hd K mg) : ∃ fd, FunD K "want_signs" "want_signs" (defArgs s_want_signs) (defBody s_want_signs) (defScope s_want_signs) [] [] (He.ga K "want_signs") fd := T.def_ 28
theorem Hd.d_want_states (T : Hd K mg) : ∃ fd, FunD K "want_states" "want_states" (defArgs s_want_states) (defBody s_want_states) (defScope s_want_states) [] [] (He.ga K "want_states") fd := T.def_ 29
theorem Hd.d_onward (T : Hd K mg) : ∃ fd, FunD K "onward" "onward" (defArgs s_onward) (defBody s_onward) (defScope s_onward) [] [] (He.ga K "onward") fd := T.def_ 30
theorem Hd.d_room (T : Hd K mg) : ∃ fd, FunD K "room" "room" (defArgs s_room) (defBody s_room) (defScope s_room) [] [] (He.ga K "room") fd := T.def_ 31
theorem Hd.d_tuples_behind (T : Hd K mg) : ∃ fd, FunD K "tuples_behind" "tuples_behind" (defArgs s_tuples_behind) (defBody s_tuples_behind) (defScope s_tuples_behind) [] [] (He.ga K "tuples_behind") fd := T.def_ 32
theorem Hd.d_row_to_place (T : Hd K mg) : ∃ fd, FunD K "row_to_place" "row_to_place" (defArgs s_row_to_place) (defBody s_row_to_place) (defScope s_row_to_place) [] [] (He.ga K "row_to_place") fd := T.def_ 33
theorem Hd.d_next_front (T : Hd K mg) : ∃ fd, FunD K "next_front" "next_front" (defArgs s_next_front) (defBody s_next_front) (defScope s_next_front) [] [] (He.ga K "next_front") fd := T.def_ 34
theorem Hd.d_missing_of (T : Hd K mg) : ∃ fd, FunD K "missing_of" "missing_of" (defArgs s_missing_of) (defBody s_missing_of) (defScope s_missing_of) [] [] (He.ga K "missing_of") fd := T.def_ 35
theorem Hd.d_stands_for (T : Hd K mg) : ∃ fd, FunD K "stands_for" "stands_for" (defArgs s_stands_for) (defBody s_stands_for) (defScope s_stands_for) [] [] (He.ga K "stands_for") fd := T.def_ 36
theorem Hd.d_both_starts (T : Hd K mg) : ∃ fd, FunD K "both_starts" "both_starts" (defArgs s_both_starts) (defBody s_both_starts) (defScope s_both_starts) [] [] (He.ga K "both_starts") fd := T.def_ 37
theorem Hd.d_in_step (T : Hd K mg) : ∃ fd, FunD K "in_step" "in_step" (defArgs s_in_step) (defBody s_in_step) (defScope s_in_step) [] [] (He.ga K "in_step") fd := T.def_ 38
theorem Hd.d__law_pot (T : Hd K mg) : ∃ fd, FunD K "_law_pot" "_law_pot" (defArgs s__law_pot) (defBody s__law_pot) (defScope s__law_pot) [] [] (He.ga K "_law_pot") fd := T.def_ 39
theorem Hd.d__law_draw (T : Hd K mg) : ∃ fd, FunD K "_law_draw" "_law_draw" (defArgs s__law_draw) (defBody s__law_draw) (defScope s__law_draw) [] [] (He.ga K "_law_draw") fd := T.def_ 40
theorem Hd.d__law_pick (T : Hd K mg) : ∃ fd, FunD K "_law_pick" "_law_pick" (defArgs s__law_pick) (defBody s__law_pick) (defScope s__law_pick) [] [] (He.ga K "_law_pick") fd := T.def_ 41
theorem Hd.d__law_menu (T : Hd K mg) : ∃ fd, FunD K "_law_menu" "_law_menu" (defArgs s__law_menu) (defBody s__law_menu) (defScope s__law_menu) [] [] (He.ga K "_law_menu") fd := T.def_ 42
theorem Hd.d__law_deal (T : Hd K mg) : ∃ fd, FunD K "_law_deal" "_law_deal" (defArgs s__law_deal) (defBody s__law_deal) (defScope s__law_deal) [] [] (He.ga K "_law_deal") fd := T.def_ 43
theorem Hd.d__law_made (T : Hd K mg) : ∃ fd, FunD K "_law_made" "_law_made" (defArgs s__law_made) (defBody s__law_made) (defScope s__law_made) [] [] (He.ga K "_law_made") fd := T.def_ 44
theorem Hd.d__law_behind (T : Hd K mg) : ∃ fd, FunD K "_law_behind" "_law_behind" (defArgs s__law_behind) (defBody s__law_behind) (defScope s__law_behind) [] [] (He.ga K "_law_behind") fd := T.def_ 45
theorem Hd.d__law_some_signs (T : Hd K mg) : ∃ fd, FunD K "_law_some_signs" "_law_some_signs" (defArgs s__law_some_signs) (defBody s__law_some_signs) (defScope s__law_some_signs) [] [] (He.ga K "_law_some_signs") fd := T.def_ 46
theorem Hd.d__law_runs (T : Hd K mg) : ∃ fd, FunD K "_law_runs" "_law_runs" (defArgs s__law_runs) (defBody s__law_runs) (defScope s__law_runs) [] [] (He.ga K "_law_runs") fd := T.def_ 47
theorem Hd.d__law_greatest_right (T : Hd K mg) : ∃ fd, FunD K "_law_greatest_right" "_law_greatest_right" (defArgs s__law_greatest_right) (defBody s__law_greatest_right) (defScope s__law_greatest_right) [] [] (He.ga K "_law_greatest_right") fd := T.def_ 48
theorem Hd.d__law_right (T : Hd K mg) : ∃ fd, FunD K "_law_right" "_law_right" (defArgs s__law_right) (defBody s__law_right) (defScope s__law_right) [] [] (He.ga K "_law_right") fd := T.def_ 49
theorem Hd.d_law (T : Hd K mg) : ∃ fd, FunD K "law" "law" (defArgs s_law) (defBody s_law) (defScope s_law) [] [] (He.ga K "law") fd := T.def_ 50
theorem Hd.d_Shape_init (T : Hd K mg) : ∃ fd, FunD K "__init__" "Shape.__init__" (defArgs s_Shape_init) (defBody s_Shape_init) (defScope s_Shape_init) [] [] (He.ma K (He.ga K "Shape") "__init__") fd := T.def_ 51
theorem Hd.d_Box_init (T : Hd K mg) : ∃ fd, FunD K "__init__" "Box.__init__" (defArgs s_Box_init) (defBody s_Box_init) (defScope s_Box_init) [He.Dv.v K (.adr (He.dflAt ("Box", some "__init__") 0))] [] (He.ma K (He.ga K "Box") "__init__") fd := T.def_ 52
theorem Hd.d_Box_is_step (T : Hd K mg) : ∃ fd, FunD K "is_step" "Box.is_step" (defArgs s_Box_is_step) (defBody s_Box_is_step) (defScope s_Box_is_step) [] [] (rf K "Box" "staticmethod" "is_step") fd := T.def_ 53
theorem Hd.d_Box_states (T : Hd K mg) : ∃ fd, FunD K "states" "Box.states" (defArgs s_Box_states) (defBody s_Box_states) (defScope s_Box_states) [] [] (rf K "Box" "property" "states") fd := T.def_ 54
theorem Hd.d_Box_is_sure (T : Hd K mg) : ∃ fd, FunD K "is_sure" "Box.is_sure" (defArgs s_Box_is_sure) (defBody s_Box_is_sure) (defScope s_Box_is_sure) [] [] (rf K "Box" "property" "is_sure") fd := T.def_ 55
theorem Hd.d_Box_starts (T : Hd K mg) : ∃ fd, FunD K "starts" "Box.starts" (defArgs s_Box_starts) (defBody s_Box_starts) (defScope s_Box_starts) [] [] (He.ma K (He.ga K "Box") "starts") fd := T.def_ 56
theorem Hd.d_Box_steps (T : Hd K mg) : ∃ fd, FunD K "steps" "Box.steps" (defArgs s_Box_steps) (defBody s_Box_steps) (defScope s_Box_steps) [] [] (He.ma K (He.ga K "Box") "steps") fd := T.def_ 57
theorem Hd.d_Box_signs (T : Hd K mg) : ∃ fd, FunD K "signs" "Box.signs" (defArgs s_Box_signs) (defBody s_Box_signs) (defScope s_Box_signs) [] [] (He.ma K (He.ga K "Box") "signs") fd := T.def_ 58
theorem Hd.d_Box_with_starts (T : Hd K mg) : ∃ fd, FunD K "with_starts" "Box.with_starts" (defArgs s_Box_with_starts) (defBody s_Box_with_starts) (defScope s_Box_with_starts) [] [] (He.ma K (He.ga K "Box") "with_starts") fd := T.def_ 59
theorem Hd.d_Box_getitem (T : Hd K mg) : ∃ fd, FunD K "__getitem__" "Box.__getitem__" (defArgs s_Box_getitem) (defBody s_Box_getitem) (defScope s_Box_getitem) [] [] (He.ma K (He.ga K "Box") "__getitem__") fd := T.def_ 60
theorem Hd.d_Box_eq (T : Hd K mg) : ∃ fd, FunD K "__eq__" "Box.__eq__" (defArgs s_Box_eq) (defBody s_Box_eq) (defScope s_Box_eq) [] [] (He.ma K (He.ga K "Box") "__eq__") fd := T.def_ 61
theorem Hd.d_Box_repr (T : Hd K mg) : ∃ fd, FunD K "__repr__" "Box.__repr__" (defArgs s_Box_repr) (defBody s_Box_repr) (defScope s_Box_repr) [] [] (He.ma K (He.ga K "Box") "__repr__") fd := T.def_ 62
theorem Hd.FREE (T : Hd K mg) : mg "FREE" = some (.ref (He.ga K "FREE")) := T.glo_FREE
theorem Hd.FREE_at (T : Hd K mg) (H : Hp) : SqT K H (He.ga K "FREE") [.int 0, .int 0] := He.tupB_ok (T.ex 6) H
theorem Hd.p_Box_states (T : Hd K mg) : PropOf K (He.ga K "Box") "states" (He.ma K (He.ga K "Box") "states") (rf K "Box" "property" "states") := propB_ok (T.ex 0)
theorem Hd.p_Box_is_sure (T : Hd K mg) : PropOf K (He.ga K "Box") "is_sure" (He.ma K (He.ga K "Box") "is_sure") (rf K "Box" "property" "is_sure") := propB_ok (T.ex 1)
end
section
variable {X : Cx} {x : Str} {pos : Pos}
theorem pe_gI {n : Int} (hg : Gl X x) (h : ∃ t, X.mg x = some (.int n t)) (hd : (x == ("__debug__" : Str)) = false := by decide) : PE X (.Name x pos) (tC (.int n)) := let ⟨t, h⟩ := h; pe_glob hg h ⟨t, rfl⟩ hd
theorem pe_gS {n : Str} (hg : Gl X x) (h : ∃ t, X.mg x = some (.str n t)) (hd : (x == ("__debug__" : Str)) = false := by decide) : PE X (.Name x pos) (tC (.str n)) := let ⟨t, h⟩ := h; pe_glob hg h ⟨t, rfl⟩ hd
theorem pe_gR {a : Addr} (hg : Gl X x) (h : X.mg x = some (.ref a)) (hd : (x == ("__debug__" : Str)) = false := by decide) : PE X (.Name x pos) (tC (.ref a)) := pe_glob hg h rfl hd
theorem pe_ty {n : String} (hg : Gl X x) (hm : X.mg x = none) (hv : bootBuiltins x = some (.type n)) (hn : x ≠ "__name__" := by decide) (hd : (x == ("__debug__" : Str)) = false := by decide) : PE X (.Name x pos) (tC (.ty n)) := pe_bltn hg hm hv rfl hn hd
theorem hu65 {A : Around} {k : Nat} (hr : Room k A) : A.units + 65 < cLine := by have := hr.un; omega
end
theorem sc_is_integer : FnScope ["value"] ["value"] (defScope s_is_integer) := ⟨rfl, rfl, rfl, by decide +kernel, rfl, by decide +kernel, by decide +kernel⟩
theorem sc_is_count : FnScope ["value"] ["value"] (defScope s_is_count) := ⟨rfl, rfl, rfl, by decide +kernel, rfl, by decide +kernel, by decide +kernel⟩
theorem sc_is_list : FnScope ["value"] ["value"] (defScope s_is_list) := ⟨rfl, rfl, rfl, by decide +kernel, rfl, by decide +kernel, by decide +kernel⟩
theorem sc_is_name : FnScope ["value", "letter"] ["value"] (defScope s_is_name) := ⟨rfl, rfl, rfl, by decide +kernel, rfl, by decide +kernel, by decide +kernel⟩
theorem sc_is_sign : FnScope ["value"] ["value"] (defScope s_is_sign) := ⟨rfl, rfl, rfl, by decide +kernel, rfl, by decide +kernel, by decide +kernel⟩
theorem sc_Shape_init : FnScope ["self", "many", "starts", "steps", "signs", "step", "sign"] ["self", "many", "starts", "steps"] (defScope s_Shape_init) := ⟨rfl, rfl, rfl, by decide +kernel, rfl, by decide +kernel, by decide +kernel⟩
theorem sc_pairs_with : FnScope ["steps", "sign", "state", "call", "answer", "goal"] ["steps", "sign"] (defScope s_pairs_with) := ⟨rfl, rfl, rfl, by decide +kernel, rfl, by decide +kernel, by decide +kernel⟩
theorem sc_turned_pairs : FnScope ["pairs", "state", "goal"] ["pairs"] (defScope s_turned_pairs) := ⟨rfl, rfl, rfl, by decide +kernel, rfl, by decide +kernel, by decide +kernel⟩
theorem sc_sets_by : FnScope ["many", "pairs", "found", "state", "goal"] ["many", "pairs"] (defScope s_sets_by) := ⟨rfl, rfl, rfl, by decide +kernel, rfl, by decide +kernel, by decide +kernel⟩
theorem sc_set_of : FnScope ["states", "found", "state"] ["states"] (defScope s_set_of) := ⟨rfl, rfl, rfl, by decide +kernel, rfl, by decide +kernel, by decide +kernel⟩
theorem sc_states_in : FnScope ["some", "state"] ["some"] (defScope s_states_in) := ⟨rfl, rfl, rfl, by decide +kernel, rfl, by decide +kernel, by decide +kernel⟩
theorem sc_gathered : FnScope ["table", "some", "found", "state"] ["table", "some"] (defScope s_gathered) := ⟨rfl, rfl, rfl, by decide +kernel, rfl, by decide +kernel, by decide +kernel⟩
theorem sc_is_state_of : FnScope ["many", "value"] ["many", "value"] (defScope s_is_state_of) := ⟨rfl, rfl, rfl, by decide +kernel, rfl, by decide +kernel, by decide +kernel⟩
theorem sc_want_starts : FnScope ["many", "starts", "position", "start"] ["many", "starts"] (defScope s_want_starts) := ⟨rfl, rfl, rfl, by decide +kernel, rfl, by decide +kernel, by decide +kernel⟩
theorem sc_want_steps : FnScope ["many", "steps", "position", "step"] ["many", "steps"] (defScope s_want_steps) := ⟨rfl, rfl, rfl, by decide +kernel, rfl, by decide +kernel, by decide +kernel⟩
theorem sc_want_limits : FnScope ["states", "steps"] ["states", "steps"] (defScope s_want_limits) := ⟨rfl, rfl, rfl, by decide +kernel, rfl, by decide +kernel, by decide +kernel⟩
theorem sc_Box_init : FnScope ["self", "states", "starts", "steps"] ["self", "states", "starts", "steps"] (defScope s_Box_init) := ⟨rfl, rfl, rfl, by decide +kernel, rfl, by decide +kernel, by decide +kernel⟩
theorem sc_Box_is_step : FnScope ["states", "value"] ["states", "value"] (defScope s_Box_is_step) := ⟨rfl, rfl, rfl, by decide +kernel, rfl, by decide +kernel, by decide +kernel⟩
theorem sc_Box_states : FnScope ["self"] ["self"] (defScope s_Box_states) := ⟨rfl, rfl, rfl, by decide +kernel, rfl, by decide +kernel, by decide +kernel⟩
theorem sc_Box_is_sure : FnScope ["self", "step"] ["self"] (defScope s_Box_is_sure) := ⟨rfl, rfl, rfl, by decide +kernel, rfl, by decide +kernel, by decide +kernel⟩
theorem sc_Box_starts : FnScope ["self"] ["self"] (defScope s_Box_starts) := ⟨rfl, rfl, rfl, by decide +kernel, rfl, by decide +kernel, by decide +kernel⟩
theorem sc_Box_steps : FnScope ["self"] ["self"] (defScope s_Box_steps) := ⟨rfl, rfl, rfl, by decide +kernel, rfl, by decide +kernel, by decide +kernel⟩
theorem sc_Box_signs : FnScope ["self"] ["self"] (defScope s_Box_signs) := ⟨rfl, rfl, rfl, by decide +kernel, rfl, by decide +kernel, by decide +kernel⟩
theorem sc_Box_with_starts : FnScope ["self", "starts"] ["self", "starts"] (defScope s_Box_with_starts) := ⟨rfl, rfl, rfl, by decide +kernel, rfl, by decide +kernel, by decide +kernel⟩
theorem sc_Box_getitem : FnScope ["self", "state", "forth", "sign"] ["self", "state"] (defScope s_Box_getitem) := ⟨rfl, rfl, rfl, by decide +kernel, rfl, by decide +kernel, by decide +kernel⟩
theorem sc_Box_eq : FnScope ["self", "other", "mine", "far"] ["self", "other"] (defScope s_Box_eq) := ⟨rfl, rfl, rfl, by decide +kernel, rfl, by decide +kernel, by decide +kernel⟩
theorem sc_Box_repr : FnScope ["self"] ["self"] (defScope s_Box_repr) := ⟨rfl, rfl, rfl, by decide +kernel, rfl, by decide +kernel, by decide +kernel⟩
theorem sc_made_box : FnScope ["many", "starts", "steps"] ["many", "starts", "steps"] (defScope s_made_box) := ⟨rfl, rfl, rfl, by decide +kernel, rfl, by decide +kernel, by decide +kernel⟩
theorem sc_want_state : FnScope ["box", "value"] ["box", "value"] (defScope s_want_state) := ⟨rfl, rfl, rfl, by decide +kernel, rfl, by decide +kernel, by decide +kernel⟩
theorem sc_want_row : FnScope ["row", "position", "sign"] ["row"] (defScope s_want_row) := ⟨rfl, rfl, rfl, by decide +kernel, rfl, by decide +kernel, by decide +kernel⟩
theorem sc_want_limited : FnScope ["box"] ["box"] (defScope s_want_limited) := ⟨rfl, rfl, rfl, by decide +kernel, rfl, by decide +kernel, by decide +kernel⟩
theorem sc_start_set : FnScope ["box"] ["box"] (defScope s_start_set) := ⟨rfl, rfl, rfl, by decide +kernel, rfl, by decide +kernel, by decide +kernel⟩
theorem sc_behind_set : FnScope ["box", "some", "sign", "forth"] ["box", "some", "sign"] (defScope s_behind_set) := ⟨rfl, rfl, rfl, by decide +kernel, rfl, by decide +kernel, by decide +kernel⟩
theorem sc_behind_row : FnScope ["box", "some", "row", "found", "sign"] ["box", "some", "row"] (defScope s_behind_row) := ⟨rfl, rfl, rfl, by decide +kernel, rfl, by decide +kernel, by decide +kernel⟩
theorem sc_does_give : FnScope ["box", "row"] ["box", "row"] (defScope s_does_give) := ⟨rfl, rfl, rfl, by decide +kernel, rfl, by decide +kernel, by decide +kernel⟩
theorem sc_gives : FnScope ["box", "row"] ["box", "row"] (defScope s_gives) := ⟨rfl, rfl, rfl, by decide +kernel, rfl, by decide +kernel, by decide +kernel⟩
theorem sc_sets_with_steps : FnScope ["box", "found", "steps", "numbers", "at", "call", "answer", "goals"] ["box"] (defScope s_sets_with_steps) := ⟨rfl, rfl, rfl, by decide +kernel, rfl, by decide +kernel, by decide +kernel⟩
theorem sc_parted : FnScope ["lanes", "kinds", "known", "found", "kind", "lane", "mark", "sign", "goal"] ["lanes", "kinds"] (defScope s_parted) := ⟨rfl, rfl, rfl, by decide +kernel, rfl, by decide +kernel, by decide +kernel⟩
theorem sc_form_of : FnScope ["box", "found", "steps", "lanes", "some", "state", "call", "answer", "goal", "kinds", "later", "joined"] ["box"] (defScope s_form_of) := ⟨rfl, rfl, rfl, by decide +kernel, rfl, by decide +kernel, by decide +kernel⟩
theorem sc_form : FnScope ["box"] ["box"] (defScope s_form) := ⟨rfl, rfl, rfl, by decide +kernel, rfl, by decide +kernel, by decide +kernel⟩
theorem sc_want_signs : FnScope ["signs", "position", "sign"] ["signs"] (defScope s_want_signs) := ⟨rfl, rfl, rfl, by decide +kernel, rfl, by decide +kernel, by decide +kernel⟩
theorem sc_want_states : FnScope ["box", "limit"] ["box", "limit"] (defScope s_want_states) := ⟨rfl, rfl, rfl, by decide +kernel, rfl, by decide +kernel, by decide +kernel⟩
theorem sc_onward : FnScope ["helper", "whole", "pair", "sign", "helping", "going"] ["helper", "whole", "pair", "sign"] (defScope s_onward) := ⟨rfl, rfl, rfl, by decide +kernel, rfl, by decide +kernel, by decide +kernel⟩
theorem sc_room : FnScope ["helper", "whole", "signs", "pairs", "steps", "at", "call", "answer", "after"] ["helper", "whole", "signs"] (defScope s_room) := ⟨rfl, rfl, rfl, by decide +kernel, rfl, by decide +kernel, by decide +kernel⟩
theorem sc_tuples_behind : FnScope ["one", "other", "here", "rank", "state", "some", "found", "sign", "goals", "after", "goal"] ["one", "other", "here"] (defScope s_tuples_behind) := ⟨rfl, rfl, rfl, by decide +kernel, rfl, by decide +kernel, by decide +kernel⟩
theorem sc_row_to_place : FnScope ["came", "place", "found", "here", "sign"] ["came", "place"] (defScope s_row_to_place) := ⟨rfl, rfl, rfl, by decide +kernel, rfl, by decide +kernel, by decide +kernel⟩
theorem sc_next_front : FnScope ["came", "further", "found", "last", "rank", "before", "sign", "goal", "after", "place"] ["came", "further"] (defScope s_next_front) := ⟨rfl, rfl, rfl, by decide +kernel, rfl, by decide +kernel, by decide +kernel⟩
theorem sc_missing_of : FnScope ["one", "other", "begin", "came", "start", "front", "further", "here", "rank", "sign", "goal", "after", "place"] ["one", "other"] (defScope s_missing_of) := ⟨rfl, rfl, rfl, by decide +kernel, rfl, by decide +kernel, by decide +kernel⟩
theorem sc_stands_for : FnScope ["one", "other"] ["one", "other"] (defScope s_stands_for) := ⟨rfl, rfl, rfl, by decide +kernel, rfl, by decide +kernel, by decide +kernel⟩
theorem sc_both_starts : FnScope ["one", "other", "start", "far"] ["one", "other"] (defScope s_both_starts) := ⟨rfl, rfl, rfl, by decide +kernel, rfl, by decide +kernel, by decide +kernel⟩
theorem sc_in_step : FnScope ["one", "other", "many", "steps", "state", "call", "answer", "goal", "far", "far_call", "far_answer", "far_goal"] ["one", "other"] (defScope s_in_step) := ⟨rfl, rfl, rfl, by decide +kernel, rfl, by decide +kernel, by decide +kernel⟩
theorem sc__law_pot : FnScope ["_law_script", "_law_k", "_law_cell"] ["_law_script", "_law_k"] (defScope s__law_pot) := ⟨rfl, rfl, rfl, by decide +kernel, rfl, by decide +kernel, by decide +kernel⟩
theorem sc__law_draw : FnScope ["_law_pot_here", "_law_many", "_law_digit"] ["_law_pot_here", "_law_many"] (defScope s__law_draw) := ⟨rfl, rfl, rfl, by decide +kernel, rfl, by decide +kernel, by decide +kernel⟩
theorem sc__law_pick : FnScope ["_law_pot_here", "_law_menu_here"] ["_law_pot_here", "_law_menu_here"] (defScope s__law_pick) := ⟨rfl, rfl, rfl, by decide +kernel, rfl, by decide +kernel, by decide +kernel⟩
theorem sc__law_menu : FnScope ["_law_pot_here", "_law_menu_here"] ["_law_pot_here"] (defScope s__law_menu) := ⟨rfl, rfl, rfl, by decide +kernel, rfl, by decide +kernel, by decide +kernel⟩
theorem sc__law_deal : FnScope ["_law_pot_here", "_law_most", "_law_wide", "_law_menu_here", "_law_many", "_law_moves", "_law_turn", "_law_call", "_law_answer", "_law_move", "_law_firsts"] ["_law_pot_here", "_law_most", "_law_wide", "_law_menu_here"] (defScope s__law_deal) := ⟨rfl, rfl, rfl, by decide +kernel, rfl, by decide +kernel, by decide +kernel⟩
theorem sc__law_made : FnScope ["_law_deal_here"] ["_law_deal_here"] (defScope s__law_made) := ⟨rfl, rfl, rfl, by decide +kernel, rfl, by decide +kernel, by decide +kernel⟩
theorem sc__law_behind : FnScope ["_law_deal_here", "_law_here", "_law_sign", "_law_move"] ["_law_deal_here", "_law_here", "_law_sign"] (defScope s__law_behind) := ⟨rfl, rfl, rfl, by decide +kernel, rfl, by decide +kernel, by decide +kernel⟩
theorem sc__law_some_signs : FnScope ["_law_pot_here", "_law_menu_here", "_law_rest", "_law_found", "_law_turn"] ["_law_pot_here", "_law_menu_here"] (defScope s__law_some_signs) := ⟨rfl, rfl, rfl, by decide +kernel, rfl, by decide +kernel, by decide +kernel⟩
theorem sc__law_runs : FnScope ["_law_left", "_law_right_here", "_law_told", "_law_good", "_law_bad", "_law_last", "_law_turn", "_law_longer", "_law_said", "_law_here", "_law_there", "_law_sign", "_law_near", "_law_far"] ["_law_left", "_law_right_here", "_law_told"] (defScope s__law_runs) := ⟨rfl, rfl, rfl, by decide +kernel, rfl, by decide +kernel, by decide +kernel⟩
theorem sc__law_greatest_right : FnScope ["_law_pot_here", "_law_left", "_law_right_here", "_law_found", "_law_told", "_law_near", "_law_far", "_law_turn", "_law_guest"] ["_law_pot_here", "_law_left", "_law_right_here", "_law_found", "_law_told"] (defScope s__law_greatest_right) := ⟨rfl, rfl, rfl, by decide +kernel, rfl, by decide +kernel, by decide +kernel⟩
theorem sc__law_right : FnScope ["_law_pot_here", "_law_menu_here", "_law_left", "_law_right_here", "_law_told", "_law_near", "_law_far", "_law_shown", "_law_handed", "_law_found", "_law_good", "_law_bad", "_law_said", "_law_sign", "_law_apart", "_law_begun", "_law_other_deal", "_law_moved"] ["_law_pot_here"] (defScope s__law_right) := ⟨rfl, rfl, rfl, by decide +kernel, rfl, by decide +kernel, by decide +kernel⟩
theorem sc_law : FnScope ["_law_script", "_law_k"] ["_law_script"] (defScope s_law) := ⟨rfl, rfl, rfl, by decide +kernel, rfl, by decide +kernel, by decide +kernel⟩
end K81
set_option Elab.async false
set_option linter.all false
set_option maxRecDepth 100000
set_option maxHeartbeats 2000000
set_option autoImplicit false
/-! K81L: what is walked (SrcL), loops and comprehensions. -/
namespace K81
open PySem PySem.Spec L2

/-! ### what is walked -/
/-- an iterator that gives items which stand for xs -/
def ItOk {α : Type} (J : It) (F : Hp) (xs : List α) (RA : α → Rep) : Prop :=
  ∀ (H F' : Hp), Same F F' → Same F' H → J.stop xs.length H ∧ ∀ (i : Nat) (x : α), xs[i]? = some x → J.go i H ∧ ∀ v H', J.yld i H v H' → ∃ F'', G0 H F' H' F'' ∧ (RA x).at_ F'' v
def SrcL {α : Type} (wi : TI) (Rs : Rs_) (H F : Hp) (xs : List α) (RA : α → Rep) : Prop :=
  ∀ (σ : L2.St) (H1 F1 : Hp), G0 H F H1 F1 → En F1 σ Rs → ∀ R : It → Hp → Prop, (∀ J H2 F2, G0 H1 F1 H2 F2 → ItOk J F2 xs RA → R J H2) → wi σ H1 R
section
variable {K : PySem.W.Frag} {Rs : Rs_} {H F H' F' : Hp} {tl : TE} {α β : Type} {xs : List α} {RA : α → Rep} {ta : TA}
theorem SrcL.grow {wi : TI} (g : G0 H F H' F') (h : SrcL wi Rs H F xs RA) : SrcL wi Rs H' F' xs RA := fun σ H1 F1 k e R q => h σ H1 F1 (g.trans k) e R q
theorem src_list (h : EvE tl Rs H F (rLst (xs.map RA))) : SrcL (iList K tl) Rs H F xs RA := by
  intro σ H1 F1 g e R q
  refine h σ H1 F1 g e _ fun v H2 F2 k ⟨a, vs, ev, ha, l⟩ => ⟨a, ev, ⟨vs, SqL.of (k.fh _ _ ha)⟩, q _ H2 F2 k ?_⟩
  have hl : vs.length = xs.length := by rw [l.len, List.length_map]
  intro H3 F3 s1 s2
  have h3 := SqL.of (K := K) (s2 _ _ (s1 _ _ ha))
  refine ⟨⟨vs, h3, by omega⟩, fun i x hx => ?_⟩
  obtain ⟨v, hv, hr⟩ := l.get (i := i) (R := RA x) (by rw [List.getElem?_map, hx]; rfl)
  refine ⟨⟨vs, v, h3, hv⟩, fun u H4 ⟨e4, y⟩ => ?_⟩
  subst e4
  have := y vs h3
  rw [hv] at this
  cases this
  exact ⟨F3, Gr.refl s2, (RA x).mono s1 hr⟩
theorem src_range {n : Nat} (h : EvA ta Rs H F [rI n]) (hn : n ≤ 1000000000 := by decide) : SrcL (iRng1 ta) Rs H F (List.range n) (fun i => rI (i : Nat)) := by
  intro σ H1 F1 g e R q
  refine h σ H1 F1 g e _ fun vs H2 F2 k l => ?_
  cases l with
  | cons r t =>
    cases t
    have r : _ = V.int n := r
    subst r
    refine ⟨n, rfl, by omega, by omega, q _ H2 F2 k ?_⟩
    intro H3 F3 s1 s2
    refine ⟨by show Int.toNat n ≤ _; rw [List.length_range]; omega, fun i x hx => ?_⟩
    obtain ⟨hi, rfl⟩ := List.getElem?_eq_some_iff.mp hx
    rw [List.length_range] at hi
    refine ⟨by show i < Int.toNat n; omega, fun v H4 ⟨e4, y⟩ => ?_⟩
    subst e4 y
    exact ⟨F3, Gr.refl s2, by show V.int (0 + i) = V.int _; rw [List.getElem_range, Int.zero_add]⟩
/-- a text, sign by sign -/
theorem src_str {x : Str} {te : TE} (h : EvE te Rs H F (rS x)) : SrcL (iStr te) Rs H F x.cps.toList (fun c => rS ⟨#[c]⟩) := by
  intro σ H1 F1 g e R q
  refine h σ H1 F1 g e _ fun v H2 F2 k r => ⟨x, r, q _ H2 F2 k ?_⟩
  intro H3 F3 s1 s2
  refine ⟨by show x.cps.size ≤ _; rw [Array.length_toList]; exact Nat.le_refl _, fun i c hx => ?_⟩
  have hi := (List.getElem?_eq_some_iff.mp hx).1
  rw [Array.length_toList] at hi
  refine ⟨hi, fun v H4 ⟨e4, c', h1, h2⟩ => ?_⟩
  subst e4 h2
  have : x.cps[i]? = some c := by simpa using hx
  rw [this] at h1
  cases h1
  exact ⟨F3, Gr.refl s2, rfl⟩
end

/-! ### for -/
section
variable {α : Type} {xs : List α} {RA : α → Rep} {wi : TI} {g : TG} {tb : TS} {D : Ends} {σ : L2.St} {H F : Hp} {Rs : Rs_}
theorem st_for (M : Addr → Prop) (s : Same F H) (e : En F σ Rs) (src : SrcL wi Rs H F xs RA) (P : Nat → L2.St → Hp → Hp → Prop)
    (h0 : ∀ H1 F1, G0 H F H1 F1 → P 0 σ H1 F1) (hm : ∀ i σ' H' F' H1 F1, P i σ' H' F' → G0 H' F' H1 F1 → P i σ' H1 F1)
    (hs : ∀ i x v σ' H' F', xs[i]? = some x → Gr M H F H' F' → P i σ' H' F' → (RA x).at_ F' v → ∀ N : L2.St → Hp → Prop, (∀ σ2 H2 F2, Gr M H' F' H2 F2 → P (i + 1) σ2 H2 F2 → N σ2 H2) →
      g v σ' H' fun σ2 H2 => tb { D with nx := N, ct := N, bk := D.nx } σ2 H2)
    (hd : ∀ σ' H' F', Gr M H F H' F' → P xs.length σ' H' F' → D.nx σ' H') : tFor wi g tb D σ H := by
  refine src σ H F (Gr.refl s) e _ fun J H2 F2 k ok => ?_
  refine ⟨fun i m σ' H' => m = xs.length - i ∧ i ≤ xs.length ∧ ∃ F', Gr M H2 F2 H' F' ∧ P i σ' H' F', ⟨_, rfl, Nat.zero_le _, F2, Gr.refl k.fh, h0 H2 F2 k⟩, ?_⟩
  rintro i m σ' H' ⟨rfl, hi, F', g1, p⟩
  obtain ⟨o1, o2⟩ := ok H' F' g1.ff g1.fh
  by_cases hlt : i < xs.length
  · refine .inr ?_
    obtain ⟨q1, q2⟩ := o2 i xs[i] (List.getElem?_eq_getElem hlt)
    refine ⟨q1, fun σ'' H'' => i + 1 ≤ xs.length ∧ ∃ F'', Gr M H2 F2 H'' F'' ∧ P (i + 1) σ'' H'' F'', fun σ'' H'' p' => ⟨_, by omega, rfl, p'⟩, fun v H3 y => ?_⟩
    obtain ⟨F3, k3, r⟩ := q2 v H3 y
    exact hs i xs[i] v σ' H3 F3 (List.getElem?_eq_getElem hlt) ((k.up.trans g1).trans k3.up) (hm i σ' H' F' H3 F3 p k3) r _ fun σ2 H4 F4 k4 p4 => ⟨hlt, F4, (g1.trans k3.up).trans k4, p4⟩
  · have e : i = xs.length := by omega
    subst e
    exact .inl ⟨o1, hd σ' H' F' (k.up.trans g1) p⟩
/-- while: P says of the measure, the slots and the heaps -/
theorem st_while {c : TT} (M : Addr → Prop) (s : Same F H) (P : Nat → L2.St → Hp → Hp → Prop) (m0 : Nat) (h0 : P m0 σ H F)
    (hs : ∀ m σ' H' F', Gr M H F H' F' → P m σ' H' F' → ∃ (Ss : Rs_) (b : Bool), En F' σ' Ss ∧ EvB c Ss H' F' b ∧
      (b = true → ∀ H1 F1, G0 H' F' H1 F1 → ∀ N : L2.St → Hp → Prop, (∀ m' σ2 H2 F2, m' < m → Gr M H' F' H2 F2 → P m' σ2 H2 F2 → N σ2 H2) → tb { D with nx := N, ct := N, bk := D.nx } σ' H1) ∧
      (b = false → ∀ H1 F1, G0 H' F' H1 F1 → D.nx σ' H1)) : tWhile c tb D σ H := by
  refine ⟨fun m σ' H' => ∃ F', Gr M H F H' F' ∧ P m σ' H' F', ⟨m0, F, Gr.refl s, h0⟩, ?_⟩
  rintro m σ' H' ⟨F', g1, p⟩
  obtain ⟨Ss, b, e, hb, ht, hf⟩ := hs m σ' H' F' g1 p
  refine hb σ' H' F' (Gr.refl g1.fh) e _ fun H1 F1 k => ?_
  cases b with
  | false => rw [if_neg Bool.false_ne_true]; exact hf rfl H1 F1 k
  | true =>
    rw [if_pos rfl]
    refine ⟨fun σ2 H2 => ∃ m', m' < m ∧ ∃ F2, Gr M H F H2 F2 ∧ P m' σ2 H2 F2, fun σ2 H2 q => q, ht rfl H1 F1 k _ fun m' σ2 H2 F2 hm g2 p2 => ⟨m', hm, F2, g1.trans g2, p2⟩⟩
end

/-! ### list comprehensions -/
/-- the block's own slots are not spoken of -/
def offB (vs : List Nat) (Rs : Rs_) : Bool := vs.all fun i => (Rs.getD i none).isNone
theorem off_wipe {F : Hp} {σ : L2.St} {Rs : Rs_} {vs : List Nat} (h : offB vs Rs = true) (e : En F σ Rs) : En F (wipe σ vs) Rs := by
  refine e.wipe rfl fun i R hi => ⟨hi, fun hv => ?_⟩
  have := List.all_eq_true.mp h i hv
  rw [List.getD_eq_getElem?_getD, hi] at this
  cases this
section
variable {α β : Type} {xs : List α} {RA : α → Rep} {RB : β → Rep} {wi : TI} {g : TG} {tt : TT} {te : TE} {vs : List Nat} {H F : Hp} {Rs : Rs_} {p : α → Bool} {f : α → β} {Ss : α → Rs_}
/-- how the target is set for an item -/
def Tgt (g : TG) (vs : List Nat) (Rs : Rs_) (R : Rep) (S : Rs_) : Prop :=
  ∀ v σ (H1 F1 : Hp), Same F1 H1 → En F1 σ Rs → R.at_ F1 v → ∀ Q : L2.St → Hp → Prop, (∀ σ2, En F1 σ2 S → wipe σ2 vs = wipe σ vs → Q σ2 H1) → g v σ H1 Q
theorem tgt_1 {i : Nat} {R : Rep} : Tgt (gName i) [i] Rs R (Rs.set i (some R)) := fun v σ H1 F1 s e r Q q => g_1 e r fun σ2 e2 w => q σ2 e2 (w [i] fun _ h => h)
theorem tgt_2 {K : PySem.W.Frag} {i j : Nat} {R1 R2 : Rep} : Tgt (gTup K 2 (gCons (gName i) (gCons (gName j) gNil))) [i, j] Rs (rTup [R1, R2]) ((Rs.set i (some R1)).set j (some R2)) :=
  fun v σ H1 F1 s e r Q q => g_2 s e r fun σ2 e2 w => q σ2 e2 (w _ (by simp +contextual))
theorem tgt_3 {K : PySem.W.Frag} {i j k : Nat} {R1 R2 R3 : Rep} : Tgt (gTup K 3 (gCons (gName i) (gCons (gName j) (gCons (gName k) gNil)))) [i, j, k] Rs (rTup [R1, R2, R3]) (((Rs.set i (some R1)).set j (some R2)).set k (some R3)) :=
  fun v σ H1 F1 s e r Q q => g_3 s e r fun σ2 e2 w => q σ2 e2 (w _ (by intro i hi; simp at hi; simp; omega))
theorem tgt_4 {K : PySem.W.Frag} {i j k l : Nat} {R1 R2 R3 R4 : Rep} : Tgt (gTup K 4 (gCons (gName i) (gCons (gName j) (gCons (gName k) (gCons (gName l) gNil))))) [i, j, k, l] Rs (rTup [R1, R2, R3, R4]) ((((Rs.set i (some R1)).set j (some R2)).set k (some R3)).set l (some R4)) :=
  fun v σ H1 F1 s e r Q q => g_4 s e r fun σ2 e2 w => q σ2 e2 (w _ (by intro i hi; simp at hi; simp; omega))
theorem tgt_5 {K : PySem.W.Frag} {i j k l m : Nat} {R1 R2 R3 R4 R5 : Rep} : Tgt (gTup K 5 (gCons (gName i) (gCons (gName j) (gCons (gName k) (gCons (gName l) (gCons (gName m) gNil)))))) [i, j, k, l, m] Rs (rTup [R1, R2, R3, R4, R5]) (((((Rs.set i (some R1)).set j (some R2)).set k (some R3)).set l (some R4)).set m (some R5)) :=
  fun v σ H1 F1 s e r Q q => g_5 s e r fun σ2 e2 w => q σ2 e2 (w _ (by intro i hi; simp at hi; simp; omega))
theorem eb_yes : EvB tYes Rs H F true := fun σ H1 F1 g e Q q => q H1 F1 (Gr.refl g.fh)
theorem take_snoc {α : Type} {xs : List α} {i : Nat} {x : α} (h : xs[i]? = some x) : xs.take (i + 1) = xs.take i ++ [x] := by
  rw [List.take_add_one, h]; rfl
theorem ev_lc (src : SrcL wi Rs H F xs RA) (hz : xs.length < sizeLine) (ho : offB vs Rs = true) (hg : ∀ x ∈ xs, Tgt g vs Rs (RA x) (Ss x))
    (ht : ∀ x ∈ xs, EvB tt (Ss x) H F (p x)) (he : ∀ x ∈ xs, p x = true → EvE te (Ss x) H F (RB (f x))) :
    EvE (tLc wi g tt te vs) Rs H F (rLst (((xs.filter p).map f).map RB)) := by
  intro σ H1 F1 g1 e Q q
  refine src σ H1 F1 g1 e _ fun J H2 F2 k ok D hD => ?_
  have e2 := e.mono k.ff
  have nF : F2 D = none := k.fh.free hD
  refine ⟨fun i m H' => m = xs.length - i ∧ i ≤ xs.length ∧ ∃ F' us, G0 H2 F2 H' F' ∧ H' D = some (.lst us) ∧ F' D = none ∧ LA F' us ((((xs.take i).filter p).map f).map RB), ⟨_, rfl, Nat.zero_le _, F2, [], Gr.newM k.fh hD, upd_same, nF, .nil⟩, ?_⟩
  rintro i m H' ⟨rfl, hi, F', us, g3, hd, hn, l⟩
  obtain ⟨o1, o2⟩ := ok H' F' g3.ff g3.fh
  by_cases hlt : i < xs.length
  · refine .inr ?_
    have hx : xs[i]? = some xs[i] := List.getElem?_eq_getElem hlt
    have hmem : xs[i] ∈ xs := List.getElem_mem hlt
    obtain ⟨q1, q2⟩ := o2 i xs[i] hx
    refine ⟨q1, fun H'' => i + 1 ≤ xs.length ∧ ∃ F'' us, G0 H2 F2 H'' F'' ∧ H'' D = some (.lst us) ∧ F'' D = none ∧ LA F'' us ((((xs.take (i + 1)).filter p).map f).map RB), fun H'' p' => ⟨_, by omega, rfl, p'⟩, fun v H3 y => ?_⟩
    obtain ⟨F3, k3, r⟩ := q2 v H3 y
    have g4 := g3.trans k3
    refine hg _ hmem v (wipe σ vs) H3 F3 k3.fh (off_wipe ho (e2.mono g4.ff)) r _ fun σ2 e4 w => ⟨w.trans wipe_wipe, ?_⟩
    refine ht _ hmem σ2 H3 F3 ((g1.trans k).trans g4) e4 _ fun H5 F5 k5 => ?_
    have hd5 := k5.h (k3.h hd)
    have hn5 := k5.out (k3.out hn hd) (k3.h hd)
    rw [take_snoc hx, List.filter_append]
    cases hp : p xs[i] with
    | false =>
      rw [if_neg Bool.false_ne_true]
      refine ⟨hlt, F5, us, g4.trans k5, hd5, hn5, ?_⟩
      rw [List.filter_cons_of_neg (by rw [hp]; exact Bool.false_ne_true), List.filter_nil, List.append_nil]
      exact l.mono (k3.ff.trans k5.ff)
    | true =>
      rw [if_pos rfl]
      refine he _ hmem hp σ2 H5 F5 (((g1.trans k).trans g4).trans k5) (e4.mono k5.ff) _ fun u H6 F6 k6 ru => ⟨us, k6.h hd5, ?_, hlt, F6, us ++ [u], ?_, upd_same, k6.out hn5 hd5, ?_⟩
      · have h1 := l.len
        have h2 : (((((xs.take i).filter p).map f).map RB)).length ≤ i := by
          simp only [List.length_map]
          exact Nat.le_trans (List.length_filter_le _ _) (by rw [List.length_take]; omega)
        omega
      · exact ((g4.trans k5).trans k6).wr (.inl hD) (k6.out hn5 hd5)
      · rw [List.filter_cons_of_pos hp, List.filter_nil, List.map_append, List.map_append]
        exact (l.mono ((k3.ff.trans k5.ff).trans k6.ff)).append (.cons ru .nil)
  · have e : i = xs.length := by omega
    subst e
    refine .inl ⟨o1, q _ H' (upd F' D (.lst us)) ((k.trans g3).fz (k.none hD) hn hd) ⟨D, us, rfl, upd_same, ?_⟩⟩
    rw [List.take_length] at l
    refine l.mono fun b o hb => ?_
    rw [upd_ne (ne_of_none hb hn)]
    exact hb
theorem filtT {α : Type} {xs : List α} : xs.filter (fun _ => true) = xs := List.filter_eq_self.mpr fun _ _ => rfl
/-- no test -/
theorem ev_lc0 (src : SrcL wi Rs H F xs RA) (hz : xs.length < sizeLine) (ho : offB vs Rs = true) (hg : ∀ x ∈ xs, Tgt g vs Rs (RA x) (Ss x)) (he : ∀ x ∈ xs, EvE te (Ss x) H F (RB (f x))) :
    EvE (tLc wi g tYes te vs) Rs H F (rLst ((xs.map f).map RB)) := by
  have h := ev_lc (p := fun _ => true) (f := f) (RB := RB) src hz ho hg (fun _ _ => eb_yes) fun x hx _ => he x hx
  rwa [filtT] at h
end
end K81
set_option Elab.async false
set_option linter.all false
set_option maxRecDepth 100000
set_option maxHeartbeats 2000000
set_option autoImplicit false
/-! K81D: the five signs; values as data; what built-in calls and operators evaluate to. -/
namespace K81
open PySem PySem.Spec L2

/-! ### the five signs, in their order -/
abbrev Sg := Fin 5
def sgC (s : Sg) : Str := match s with
  | 0 => "go" | 1 => "go" | 2 => "look" | 3 => "look" | 4 => "out"
def sgA (s : Sg) : Str := match s with
  | 0 => "bad" | 1 => "ok" | 2 => "b" | 3 => "ok" | 4 => "ok"
def rSg (s : Sg) : Rep := rTup [rS (sgC s), rS (sgA s)]
abbrev Stp := Nat × Sg × Nat
def rStp (m : Stp) : Rep := rTup [rI (m.1 : Nat), rS (sgC m.2.1), rS (sgA m.2.1), rI (m.2.2 : Nat)]
def rPr (p : Nat × Nat) : Rep := rTup [rI (p.1 : Nat), rI (p.2 : Nat)]
def rNat (n : Nat) : Rep := rI (n : Nat)
def encSg (s : Sg) : PyData := .tuple [.str (sgC s), .str (sgA s)]
def encStp (m : Stp) : PyData := .tuple [.int (m.1 : Nat), .str (sgC m.2.1), .str (sgA m.2.1), .int (m.2.2 : Nat)]
def encPr (p : Nat × Nat) : PyData := .tuple [.int (p.1 : Nat), .int (p.2 : Nat)]
def encNat (n : Nat) : PyData := .int (n : Nat)
theorem sg_inj : ∀ {a b : Sg}, sgC a = sgC b → sgA a = sgA b → a = b := by decide +kernel

/-! ### equality of plain data -/
mutual
def plain : PyData → Bool
  | .none => true | .int _ => true | .str _ => true
  | .tuple xs => plainAll xs
  | .list xs => plainAll xs
  | .bool _ => false | .dict _ => false
def plainAll : List PyData → Bool
  | [] => true
  | x :: xs => plain x && plainAll xs
end
mutual
theorem eqv_iff : ∀ {d e : PyData}, plain d = true → plain e = true → (PyData.eqv d e = true ↔ d = e)
  | .none, e, _, he => by cases e <;> simp_all [PyData.eqv, plain]
  | .bool _, _, hd, _ => by simp [plain] at hd
  | .dict _, _, hd, _ => by simp [plain] at hd
  | .int i, e, _, he => by cases e <;> simp_all [PyData.eqv, plain]
  | .str i, e, _, he => by cases e <;> simp_all [PyData.eqv, plain]
  | .tuple xs, e, hd, he => by
    cases e with
    | tuple ys => rw [PyData.eqv, eqvAll_iff (by simpa [plain] using hd) (by simpa [plain] using he)]; simp
    | _ => simp_all [PyData.eqv, plain]
  | .list xs, e, hd, he => by
    cases e with
    | list ys => rw [PyData.eqv, eqvAll_iff (by simpa [plain] using hd) (by simpa [plain] using he)]; simp
    | _ => simp_all [PyData.eqv, plain]
theorem eqvAll_iff : ∀ {d e : List PyData}, plainAll d = true → plainAll e = true → (PyData.eqvAll d e = true ↔ d = e)
  | [], [], _, _ => by simp [PyData.eqvAll]
  | [], _ :: _, _, _ => by simp [PyData.eqvAll]
  | _ :: _, [], _, _ => by simp [PyData.eqvAll]
  | x :: xs, y :: ys, hd, he => by
    rw [plainAll, Bool.and_eq_true] at hd he
    rw [PyData.eqvAll, Bool.and_eq_true, eqv_iff hd.1 he.1, eqvAll_iff hd.2 he.2]
    simp
end
theorem eqv_dec {α : Type} [DecidableEq α] {enc : α → PyData} (hp : ∀ a, plain (enc a) = true) (hi : ∀ a b, enc a = enc b → a = b) (a b : α) : PyData.eqv (enc a) (enc b) = decide (a = b) := by
  by_cases h : a = b
  · subst h
    rw [decide_eq_true rfl]
    exact (eqv_iff (hp a) (hp a)).mpr rfl
  · rw [decide_eq_false h]
    cases q : PyData.eqv (enc a) (enc b) with
    | false => rfl
    | true => exact absurd (hi a b ((eqv_iff (hp a) (hp b)).mp q)) h
theorem plainAll_map {α : Type} {enc : α → PyData} (hp : ∀ a, plain (enc a) = true) : ∀ l : List α, plainAll (l.map enc) = true
  | [] => rfl
  | a :: l => by rw [List.map_cons, plainAll, hp a, plainAll_map hp l]; rfl
theorem map_inj {α β : Type} {f : α → β} (hi : ∀ a b, f a = f b → a = b) : ∀ {l k : List α}, l.map f = k.map f → l = k
  | [], [], _ => rfl
  | [], _ :: _, h => by cases h
  | _ :: _, [], h => by cases h
  | a :: l, b :: k, h => by
    rw [List.map_cons, List.map_cons] at h
    injection h with h1 h2
    rw [hi a b h1, map_inj hi h2]
theorem eqv_list {α : Type} [DecidableEq α] {enc : α → PyData} (hp : ∀ a, plain (enc a) = true) (hi : ∀ a b, enc a = enc b → a = b) (l k : List α) : PyData.eqv (.list (l.map enc)) (.list (k.map enc)) = decide (l = k) :=
  eqv_dec (enc := fun l : List α => PyData.list (l.map enc)) (fun a => by rw [plain]; exact plainAll_map hp a) (fun a b h => by injection h with h; exact map_inj hi h) l k
theorem shaped_iff {d : PyData} : SeqAt.shaped d = true ↔ d.canLay0 = true ∧ d.depth ≤ 64 := by
  show (d.canLay0 && decide (d.depth ≤ 64)) = true ↔ _
  rw [Bool.and_eq_true, decide_eq_true_eq]
/-- data that can be laid, to a depth -/
structure Ok (d : PyData) (n : Nat) : Prop where
  lay : d.canLay0 = true
  dep : d.depth ≤ n
  pl : plain d = true
theorem Ok.shaped {d : PyData} {n : Nat} (h : Ok d n) (hn : n ≤ 64 := by decide) : SeqAt.shaped d = true := shaped_iff.mpr ⟨h.lay, Nat.le_trans h.dep hn⟩
theorem okAll {α : Type} {enc : α → PyData} {n : Nat} (h : ∀ a, Ok (enc a) n) : ∀ l : List α, PyData.canLayAll0 (l.map enc) = true ∧ PyData.depthAll (l.map enc) ≤ n
  | [] => by simp [PyData.canLayAll0, PyData.depthAll]
  | a :: l => by
    obtain ⟨h1, h2⟩ := okAll h l
    have h3 := (h a).lay
    have h4 := (h a).dep
    simp only [List.map_cons, PyData.canLayAll0, PyData.depthAll, h1, h3]
    exact ⟨rfl, by omega⟩
theorem ok_list {α : Type} {enc : α → PyData} {n : Nat} (h : ∀ a, Ok (enc a) n) (l : List α) : Ok (.list (l.map enc)) (n + 1) := by
  obtain ⟨h1, h2⟩ := okAll h l
  exact ⟨by simpa [PyData.canLay0] using h1, by simp [PyData.depth]; omega, by rw [plain]; exact plainAll_map (fun a => (h a).pl) l⟩
theorem ok_tup {l : List PyData} {n : Nat} (h : ∀ d ∈ l, Ok d n) : Ok (.tuple l) (n + 1) := by
  have : PyData.canLayAll0 l = true ∧ PyData.depthAll l ≤ n ∧ plainAll l = true := by
    induction l with
    | nil => simp [PyData.canLayAll0, PyData.depthAll, plainAll]
    | cons a l ih =>
      obtain ⟨h1, h2, h3⟩ := ih fun d hd => h d (List.mem_cons_of_mem _ hd)
      have h4 := (h a List.mem_cons_self)
      simp only [PyData.canLayAll0, PyData.depthAll, plainAll, h1, h4.lay, h3, h4.pl]
      exact ⟨rfl, by have := h4.dep; omega, rfl⟩
  exact ⟨by simpa [PyData.canLay0] using this.1, by simp [PyData.depth]; omega, by rw [plain]; exact this.2.2⟩
theorem ok_int {i : Int} {n : Nat} : Ok (.int i) n := ⟨rfl, by simp [PyData.depth], rfl⟩
theorem ok_none {n : Nat} : Ok .none n := ⟨rfl, by simp [PyData.depth], rfl⟩
theorem ok_sgC {s : Sg} {n : Nat} : Ok (.str (sgC s)) n := ⟨by revert s; decide +kernel, by simp [PyData.depth], rfl⟩
theorem ok_sgA {s : Sg} {n : Nat} : Ok (.str (sgA s)) n := ⟨by revert s; decide +kernel, by simp [PyData.depth], rfl⟩
theorem ok_sg (s : Sg) : Ok (encSg s) 1 := ok_tup fun d hd => by
  rcases List.mem_cons.mp hd with rfl | hd
  · exact ok_sgC
  · rcases List.mem_cons.mp hd with rfl | hd
    · exact ok_sgA
    · cases hd
theorem ok_stp (s : Stp) : Ok (encStp s) 1 := ok_tup fun d hd => by
  rcases List.mem_cons.mp hd with rfl | hd
  · exact ok_int
  · rcases List.mem_cons.mp hd with rfl | hd
    · exact ok_sgC
    · rcases List.mem_cons.mp hd with rfl | hd
      · exact ok_sgA
      · rcases List.mem_cons.mp hd with rfl | hd
        · exact ok_int
        · cases hd
theorem ok_pr (s : Nat × Nat) : Ok (encPr s) 1 := ok_tup fun d hd => by
  rcases List.mem_cons.mp hd with rfl | hd
  · exact ok_int
  · rcases List.mem_cons.mp hd with rfl | hd
    · exact ok_int
    · cases hd
theorem ok_nat (n : Nat) : Ok (encNat n) 0 := ok_int
theorem encSg_inj (a b : Sg) (h : encSg a = encSg b) : a = b := by
  unfold encSg at h
  injection h with h
  injection h with h1 h2
  injection h2 with h2 _
  injection h1 with h1
  injection h2 with h2
  exact sg_inj h1 h2
theorem encStp_inj (a b : Stp) (h : encStp a = encStp b) : a = b := by
  obtain ⟨a1, a2, a3⟩ := a
  obtain ⟨b1, b2, b3⟩ := b
  unfold encStp at h
  simp only [PyData.tuple.injEq, List.cons.injEq, PyData.int.injEq, PyData.str.injEq, and_true] at h
  obtain ⟨h1, h2, h3, h4⟩ := h
  rw [sg_inj h2 h3, show a1 = b1 by omega, show a3 = b3 by omega]
theorem encPr_inj (a b : Nat × Nat) (h : encPr a = encPr b) : a = b := by
  obtain ⟨a1, a2⟩ := a
  obtain ⟨b1, b2⟩ := b
  unfold encPr at h
  simp only [PyData.tuple.injEq, List.cons.injEq, PyData.int.injEq, and_true] at h
  rw [show a1 = b1 by omega, show a2 = b2 by omega]
theorem encNat_inj (a b : Nat) (h : encNat a = encNat b) : a = b := by
  unfold encNat at h
  simp only [PyData.int.injEq] at h
  omega

/-! ### reps as data -/
def DpR (K : PySem.W.Frag) (R : Rep) (d : PyData) : Prop := ∀ F v, R.at_ F v → Dp K F v d
section
variable {K : PySem.W.Frag}
theorem dpr_int {i : Int} : DpR K (rI i) (.int i) := fun F v h => by rw [show v = V.int i from h]; exact .int i
theorem dpr_str {x : Str} : DpR K (rS x) (.str x) := fun F v h => by rw [show v = V.str x from h]; exact .str x
theorem dpr_non : DpR K rN .none := fun F v h => by rw [show v = V.non from h]; exact .non
inductive DpRs (K : PySem.W.Frag) : List Rep → List PyData → Prop
  | nil : DpRs K [] []
  | cons {R : Rep} {d : PyData} {Rs : List Rep} {ds : List PyData} : DpR K R d → DpRs K Rs ds → DpRs K (R :: Rs) (d :: ds)
theorem DpRs.all {F : Hp} : ∀ {vs : List V} {Rs : List Rep} {ds : List PyData}, DpRs K Rs ds → LA F vs Rs → DpAll K F vs ds
  | _, _, _, .nil, .nil => .nil
  | _, _, _, .cons h t, .cons r l => .cons (h _ _ r) (DpRs.all t l)
theorem dpr_tup {Rs : List Rep} {ds : List PyData} (h : DpRs K Rs ds) : DpR K (rTup Rs) (.tuple ds) := fun F v ⟨a, vs, e, ha, l⟩ => e ▸ .tup (SqT.of ha) (h.all l)
theorem dpr_lst {Rs : List Rep} {ds : List PyData} (h : DpRs K Rs ds) : DpR K (rLst Rs) (.list ds) := fun F v ⟨a, vs, e, ha, l⟩ => e ▸ .lst (SqL.of ha) (h.all l)
theorem dprs_map {α : Type} {R : α → Rep} {enc : α → PyData} (h : ∀ a, DpR K (R a) (enc a)) : ∀ l : List α, DpRs K (l.map R) (l.map enc)
  | [] => .nil
  | a :: l => .cons (h a) (dprs_map h l)
theorem dpr_sg (s : Sg) : DpR K (rSg s) (encSg s) := dpr_tup (.cons dpr_str (.cons dpr_str .nil))
theorem dpr_stp (s : Stp) : DpR K (rStp s) (encStp s) := dpr_tup (.cons dpr_int (.cons dpr_str (.cons dpr_str (.cons dpr_int .nil))))
theorem dpr_pr (s : Nat × Nat) : DpR K (rPr s) (encPr s) := dpr_tup (.cons dpr_int (.cons dpr_int .nil))
theorem dpr_nat (s : Nat) : DpR K (rNat s) (encNat s) := dpr_int
/-- data as such -/
theorem dp_mono {F F' : Hp} (s : Same F F') : ∀ {v : V} {d : PyData}, Dp K F v d → Dp K F' v d := by
  intro v d h
  refine Dp.rec (motive_1 := fun v d _ => Dp K F' v d) (motive_2 := fun vs ds _ => DpAll K F' vs ds) .non .bl .int .str ?_ ?_ .nil ?_ h
  · exact fun hs _ h2 => .lst (s.seq hs) h2
  · intro a xs ds hs _ h2
    refine .tup ?_ h2
    rcases hs with (hs | ⟨o, hs⟩) | hs
    · exact .inl (.inl (s _ _ hs))
    · exact .inl (.inr ⟨o, s _ _ hs⟩)
    · exact .inr hs
  · exact fun _ _ h1 h2 => .cons h1 h2
def rD (K : PySem.W.Frag) (d : PyData) : Rep := ⟨fun F v => Dp K F v d, fun s h => dp_mono s h⟩
theorem dpr_D {d : PyData} : DpR K (rD K d) d := fun _ _ h => h
variable {Rs : Rs_} {H F : Hp} {ta tb te : TE} {A B R : Rep} {d e : PyData}
theorem ev_eqD (ha : EvE ta Rs H F A) (hb : EvE tb Rs H F B) (da : DpR K A d) (db : DpR K B e) (sd : SeqAt.shaped d = true) (se : SeqAt.shaped e = true) : EvE (tOp (rEqD K) ta tb) Rs H F (rB (PyData.eqv d e)) :=
  ev_op ha hb fun H1 F1 x y g hx hy Q q => ⟨d, e, da _ _ (A.mono g.fh hx), db _ _ (B.mono g.fh hy), sd, se, q _ _ _ (Gr.refl g.fh) rfl⟩
theorem ev_neD (ha : EvE ta Rs H F A) (hb : EvE tb Rs H F B) (da : DpR K A d) (db : DpR K B e) (sd : SeqAt.shaped d = true) (se : SeqAt.shaped e = true) : EvE (tOp (rNeD K) ta tb) Rs H F (rB (!PyData.eqv d e)) :=
  ev_op ha hb fun H1 F1 x y g hx hy Q q => ⟨d, e, da _ _ (A.mono g.fh hx), db _ _ (B.mono g.fh hy), sd, se, q _ _ _ (Gr.refl g.fh) rfl⟩
theorem ev_inD {ds : List PyData} (ha : EvE ta Rs H F A) (hb : EvE tb Rs H F B) (da : DpR K A d) (db : DpR K B (.list ds)) (sd : SeqAt.shaped d = true) (se : SeqAt.shaped (.list ds) = true) : EvE (tOp (rInD K) ta tb) Rs H F (rB (ds.any fun z => PyData.eqv z d)) :=
  ev_op ha hb fun H1 F1 x y g hx hy Q q => ⟨d, ds, da _ _ (A.mono g.fh hx), db _ _ (B.mono g.fh hy), sd, se, q _ _ _ (Gr.refl g.fh) rfl⟩
theorem ev_ninD {ds : List PyData} (ha : EvE ta Rs H F A) (hb : EvE tb Rs H F B) (da : DpR K A d) (db : DpR K B (.list ds)) (sd : SeqAt.shaped d = true) (se : SeqAt.shaped (.list ds) = true) : EvE (tOp (rNotInD K) ta tb) Rs H F (rB (!ds.any fun z => PyData.eqv z d)) :=
  ev_op ha hb fun H1 F1 x y g hx hy Q q => ⟨d, ds, da _ _ (A.mono g.fh hx), db _ _ (B.mono g.fh hy), sd, se, q _ _ _ (Gr.refl g.fh) rfl⟩
/-- in a list that changes -/
theorem ev_ninM {l : Addr} {vs : List V} {ds : List PyData} (hl : H l = some (.lst vs)) (hd : DpAll K F vs ds) (ha : EvE ta Rs H F A) (hb : EvE tb Rs H F (rV (.ref l))) (da : DpR K A d) (sd : SeqAt.shaped d = true) (se : SeqAt.shaped (.list ds) = true) :
    EvE (tOp (rNotInD K) ta tb) Rs H F (rB (!ds.any fun z => PyData.eqv z d)) :=
  ev_op ha hb fun H1 F1 x y g hx hy Q q => by
    have hy : y = V.ref l := hy
    subst hy
    have h1 : Dp K F1 (V.ref l) (.list ds) → False ∨ True := fun _ => .inr trivial
    have hds : DpAll K H1 vs ds := by
      have : ∀ {vs : List V} {ds : List PyData}, DpAll K F vs ds → DpAll K H1 vs ds := by
        intro vs ds h
        induction ds generalizing vs with
        | nil => cases h; exact .nil
        | cons d ds ih => cases h with
          | cons h t => exact .cons (dp_mono (g.ff.trans g.fh) h) (ih t)
      exact this hd
    exact ⟨d, ds, da _ _ (A.mono g.fh hx), .lst (SqL.of (g.h hl)) hds, sd, se, q _ _ _ (Gr.refl g.fh) rfl⟩
theorem ev_isN (ha : EvE ta Rs H F A) {b : Bool} (hb : ∀ F v, A.at_ F v → decide (v = V.non) = b) : EvE (tOp (fun x y H Q => y = .non ∧ Q (.bl (decide (x = .non))) H) ta (tC .non)) Rs H F (rB b) :=
  ev_op ha ev_c fun H1 F1 x y g hx hy Q q => ⟨hy, q _ _ _ (Gr.refl g.fh) (by show V.bl _ = V.bl b; rw [hb _ _ hx])⟩
theorem ev_notN (ha : EvE ta Rs H F A) {b : Bool} (hb : ∀ F v, A.at_ F v → decide (v = V.non) = b) : EvE (tOp (fun x y H Q => y = .non ∧ Q (.bl (!decide (x = .non))) H) ta (tC .non)) Rs H F (rB (!b)) :=
  ev_op ha ev_c fun H1 F1 x y g hx hy Q q => ⟨hy, q _ _ _ (Gr.refl g.fh) (by show V.bl _ = V.bl (!b); rw [hb _ _ hx])⟩
/-! ### isinstance -/
def HasTy (R : Rep) (T : String) : Prop := ∀ K F v, R.at_ F v → TyX K F v (.type T)
theorem ty_int {i : Int} : HasTy (rI i) "int" := fun K F v h => by rw [show v = V.int i from h]; exact .base (.int i)
theorem ty_str {x : Str} : HasTy (rS x) "str" := fun K F v h => by rw [show v = V.str x from h]; exact .base (.str x)
theorem ty_tup {Ts : List Rep} : HasTy (rTup Ts) "tuple" := fun K F v ⟨a, vs, e, h, _⟩ => e ▸ .base (.tup h)
theorem ty_lst {Ts : List Rep} : HasTy (rLst Ts) "list" := fun K F v ⟨a, vs, e, h, _⟩ => e ▸ .base (.lst h)
theorem ev_isi {T U : String} {b : Bool} (ha : EvE ta Rs H F A) (ht : HasTy A T) (hk : kitB T U = some b) : EvE (tCB (rIsi K) (tCons ta (tCons (tC (.ty U)) tNil))) Rs H F (rB b) :=
  ev_cb (ea_2 ha ev_c) fun H1 F1 vs g l Q q => by
    cases l with
    | cons r1 l => cases l with
      | cons r2 l =>
        cases l
        have r2 : _ = V.ty U := r2
        subst r2
        exact ⟨_, _, .type T, .type U, b, rfl, .ty U, ht K _ _ (A.mono g.fh r1), kit_ty hk, q _ _ _ (Gr.refl g.fh) rfl⟩
theorem ev_isi2 {T U W : String} {b c : Bool} (ha : EvE ta Rs H F A) (ht : HasTy A T) (hk : kitB T U = some b) (hk2 : kitB T W = some c) : EvE (tCB (rIsiT K) (tCons ta (tCons (tTup (tCons (tC (.ty U)) (tCons (tC (.ty W)) tNil))) tNil))) Rs H F (rB (b || c)) :=
  ev_cb (ea_2 ha (ev_tup (ea_2 ev_c ev_c))) fun H1 F1 vs g l Q q => by
    cases l with
    | cons r1 l => cases l with
      | cons r2 l =>
        cases l
        obtain ⟨a, us, rfl, h2, l2⟩ := r2
        have e2 : us = [V.ty U, V.ty W] := LA.rV_iff (us := [V.ty U, V.ty W]) l2
        subst e2
        refine ⟨_, a, _, .type T, [.type U, .type W], b || c, rfl, g.fh _ _ h2, .cons (.ty U) (.cons (.ty W) .nil), ht K _ _ (A.mono g.fh r1), ?_, q _ _ _ (Gr.refl g.fh) rfl⟩
        refine kitAny_cons (kit_ty hk) (fun e => ?_) (fun e => by rw [e]; rfl)
        subst e
        exact kitAny_cons (kit_ty hk2) (fun e => by rw [e]; exact kitAny_nil) (fun e => by rw [e]; rfl)
/-! ### len -/
theorem ev_lenL {Ts : List Rep} (ha : EvE ta Rs H F (rLst Ts)) : EvE (tCB (rLen K) (tCons ta tNil)) Rs H F (rI (Ts.length : Nat)) :=
  ev_cb (ea_1 ha) fun H1 F1 vs g l Q q => by
    cases l with
    | cons r1 l =>
      cases l
      obtain ⟨a, us, rfl, h2, l2⟩ := r1
      exact ⟨a, us, rfl, .inl (SqL.of (g.fh _ _ h2)), q _ _ _ (Gr.refl g.fh) (by rw [l2.len]; rfl)⟩
theorem ev_lenT {Ts : List Rep} (ha : EvE ta Rs H F (rTup Ts)) : EvE (tCB (rLen K) (tCons ta tNil)) Rs H F (rI (Ts.length : Nat)) :=
  ev_cb (ea_1 ha) fun H1 F1 vs g l Q q => by
    cases l with
    | cons r1 l =>
      cases l
      obtain ⟨a, us, rfl, h2, l2⟩ := r1
      exact ⟨a, us, rfl, .inr (SqT.of (g.fh _ _ h2)), q _ _ _ (Gr.refl g.fh) (by rw [l2.len]; rfl)⟩
/-- of a list that changes -/
theorem ev_lenM {l : Addr} {us : List V} (hl : H l = some (.lst us)) (ha : EvE ta Rs H F (rV (.ref l))) : EvE (tCB (rLen K) (tCons ta tNil)) Rs H F (rI (us.length : Nat)) :=
  ev_cb (ea_1 ha) fun H1 F1 vs g m Q q => by
    cases m with
    | cons r1 m =>
      cases m
      have r1 : _ = V.ref l := r1
      subst r1
      exact ⟨l, us, rfl, .inl (SqL.of (g.h hl)), q _ _ _ (Gr.refl g.fh) rfl⟩
theorem ev_lenS {x : Str} (ha : EvE ta Rs H F (rS x)) (hx : x.length ≤ sizeLine) : EvE (tCB (fun xs H Q => ∃ z, xs = [.str z] ∧ z.length ≤ sizeLine ∧ Q (.int z.length) H) (tCons ta tNil)) Rs H F (rI (x.length : Nat)) :=
  ev_cb (ea_1 ha) fun H1 F1 vs g l Q q => by
    cases l with
    | cons r1 l =>
      cases l
      have r1 : _ = V.str x := r1
      subst r1
      exact ⟨x, rfl, hx, q _ _ _ (Gr.refl g.fh) rfl⟩
/-! ### all, any -/
theorem ev_all {bs : List Bool} (ha : EvE ta Rs H F (rLst (bs.map rB))) : EvE (tCB (rAll K) (tCons ta tNil)) Rs H F (rB (bs.all id)) :=
  ev_cb (ea_1 ha) fun H1 F1 vs g l Q q => by
    cases l with
    | cons r1 l =>
      cases l
      obtain ⟨a, us, rfl, h2, l2⟩ := r1
      have e : us = bs.map V.bl := LA.rV_iff (us := bs.map V.bl) (by rw [List.map_map]; exact l2)
      subst e
      exact ⟨a, bs, rfl, SqL.of (g.fh _ _ h2), q _ _ _ (Gr.refl g.fh) rfl⟩
theorem ev_any {bs : List Bool} (ha : EvE ta Rs H F (rLst (bs.map rB))) : EvE (tCB (rAny K) (tCons ta tNil)) Rs H F (rB (bs.any id)) :=
  ev_cb (ea_1 ha) fun H1 F1 vs g l Q q => by
    cases l with
    | cons r1 l =>
      cases l
      obtain ⟨a, us, rfl, h2, l2⟩ := r1
      have e : us = bs.map V.bl := LA.rV_iff (us := bs.map V.bl) (by rw [List.map_map]; exact l2)
      subst e
      exact ⟨a, bs, rfl, SqL.of (g.fh _ _ h2), q _ _ _ (Gr.refl g.fh) rfl⟩
/-! ### chains -/
theorem ev_chain {r r' : R2} {tc : TE} {C : Rep} {b c : Bool} (ha : EvE ta Rs H F A) (hb : EvE tb Rs H F B) (hc : b = true → EvE tc Rs H F C)
    (h1 : ∀ H1 F1 x y, G0 H F H1 F1 → A.at_ F1 x → B.at_ F1 y → ∀ Q : VK, Q (.bl b) H1 → r x y H1 Q)
    (h2 : ∀ H1 F1 x y, G0 H F H1 F1 → B.at_ F1 x → C.at_ F1 y → ∀ Q : VK, Q (.bl c) H1 → r' x y H1 Q) : EvE (tChain r r' ta tb tc) Rs H F (rB (b && c)) := by
  intro σ H1 F1 g e Q q
  refine ha σ H1 F1 g e _ fun x H2 F2 k2 rx => hb σ H2 F2 (g.trans k2) (e.mono k2.ff) _ fun y H3 F3 k3 ry => h1 H3 F3 x y ((g.trans k2).trans k3) (A.mono k3.ff rx) ry _ ⟨b, rfl, ?_⟩
  cases b with
  | false => rw [if_neg Bool.false_ne_true]; exact q _ H3 F3 (k2.trans k3) rfl
  | true =>
    rw [if_pos rfl]
    exact hc rfl σ H3 F3 ((g.trans k2).trans k3) (e.mono (k2.trans k3).ff) _ fun z H4 F4 k4 rz => h2 H4 F4 y z (((g.trans k2).trans k3).trans k4) (B.mono k4.ff ry) rz Q (q _ H4 F4 ((k2.trans k3).trans k4) rfl)
/-! ### slices -/
def EvO (to : TO) (Rs : Rs_) (H F : Hp) (o : Option Int) : Prop := ∀ σ H1 F1, G0 H F H1 F1 → En F1 σ Rs → ∀ Q : Option Int → Hp → Prop, (∀ H2 F2, G0 H1 F1 H2 F2 → Q o H2) → to σ H1 Q
theorem eo_none : EvO tNoPart Rs H F none := fun σ H1 F1 g e Q q => q H1 F1 (Gr.refl g.fh)
theorem eo_some {i : Int} (h : EvE te Rs H F (rI i)) : EvO (tPart te) Rs H F (some i) := fun σ H1 F1 g e Q q => h σ H1 F1 g e _ fun v H2 F2 k r => ⟨i, r, q H2 F2 k⟩
theorem la_cut {vs : List V} {Ts : List Rep} {lo hi : Option Int} (l : LA F vs Ts) : LA F (cutV vs lo hi) ((Ts.drop (HT.sIx Ts.length 0 lo)).take (HT.sIx Ts.length Ts.length hi - HT.sIx Ts.length 0 lo)) := by
  unfold cutV
  rw [l.len]
  exact (l.drop _).take _
def cutR (Ts : List Rep) (lo hi : Option Int) : List Rep := (Ts.drop (HT.sIx Ts.length 0 lo)).take (HT.sIx Ts.length Ts.length hi - HT.sIx Ts.length 0 lo)
theorem ev_slL {tl th : TO} {Ts : List Rep} {lo hi : Option Int} (h : EvE te Rs H F (rLst Ts)) (h1 : EvO tl Rs H F lo) (h2 : EvO th Rs H F hi) : EvE (tSl (rSlL K) te tl th) Rs H F (rLst (cutR Ts lo hi)) := by
  intro σ H1 F1 g e Q q
  refine h σ H1 F1 g e _ fun x H2 F2 k2 ⟨a, vs, ex, ha, l⟩ => h1 σ H2 F2 (g.trans k2) (e.mono k2.ff) _ fun H3 F3 k3 => h2 σ H3 F3 ((g.trans k2).trans k3) (e.mono (k2.trans k3).ff) _ fun H4 F4 k4 => ?_
  have ha4 := (k3.trans k4).ff _ _ ha
  refine ⟨a, vs, ex, SqL.of (k4.fh _ _ ha4), fun p hp => ?_⟩
  have k5 : G0 H4 F4 (upd H4 p (.lst (cutV vs lo hi))) (upd F4 p (.lst (cutV vs lo hi))) := Gr.new k4.fh hp
  exact q _ _ _ (((k2.trans k3).trans k4).trans k5) ⟨p, _, rfl, upd_same, la_cut (l.mono ((k3.trans k4).ff.trans k5.ff))⟩
theorem ev_slT {tl th : TO} {Ts : List Rep} {lo hi : Option Int} (h : EvE te Rs H F (rTup Ts)) (h1 : EvO tl Rs H F lo) (h2 : EvO th Rs H F hi) (hn : ¬ (HT.sIx Ts.length 0 lo = 0 ∧ HT.sIx Ts.length Ts.length hi = Ts.length)) : EvE (tSl (rSlT K) te tl th) Rs H F (rTup (cutR Ts lo hi)) := by
  intro σ H1 F1 g e Q q
  refine h σ H1 F1 g e _ fun x H2 F2 k2 ⟨a, vs, ex, ha, l⟩ => h1 σ H2 F2 (g.trans k2) (e.mono k2.ff) _ fun H3 F3 k3 => h2 σ H3 F3 ((g.trans k2).trans k3) (e.mono (k2.trans k3).ff) _ fun H4 F4 k4 => ?_
  have ha4 := (k3.trans k4).ff _ _ ha
  refine ⟨a, vs, ex, SqT.of (k4.fh _ _ ha4), by rw [l.len]; exact hn, fun p hp => ?_⟩
  have k5 : G0 H4 F4 (upd H4 p (.tup (cutV vs lo hi))) (upd F4 p (.tup (cutV vs lo hi))) := Gr.new k4.fh hp
  exact q _ _ _ (((k2.trans k3).trans k4).trans k5) ⟨p, _, rfl, upd_same, la_cut (l.mono ((k3.trans k4).ff.trans k5.ff))⟩
end
/-! ### changes of lists -/
section
variable {K : PySem.W.Frag} {Rs : Rs_} {H F : Hp} {ta tb te : TE} {A : Rep} {σ : L2.St} {D : Ends} {l : Addr} {us : List V}
theorem tyv_l {H : Hp} (h : H l = some (.lst us)) : tyV K "list" (.ref l) H := .inl ⟨rfl, us, SqL.of h⟩
/-- l.append(e) -/
theorem st_app (s : Same F H) (e : En F σ Rs) (hl : H l = some (.lst us)) (ho : EvE ta Rs H F (rV (.ref l))) (h : EvE te Rs H F A) (hz : us.length < sizeLine) (k : ∀ v H' F', G0 H F H' F' → A.at_ F' v → D.nx σ (upd H' l (.lst (us ++ [v])))) :
    tDrop (tBM K "list" rAppend ta (tCons te tNil)) D σ H := by
  refine ho σ H F (Gr.refl s) e _ fun v H1 F1 g r => ?_
  have r : v = V.ref l := r
  subst r
  refine ⟨tyv_l (g.h hl), h σ H1 F1 g (e.mono g.ff) _ fun u H2 F2 g2 r2 => ?_⟩
  exact ⟨l, us, u, rfl, rfl, g2.h (g.h hl), hz, k u H2 F2 (g.trans g2) r2⟩
/-- l.extend(e), e a list that stays -/
theorem st_ext {Ts : List Rep} (s : Same F H) (e : En F σ Rs) (hl : H l = some (.lst us)) (ho : EvE ta Rs H F (rV (.ref l))) (h : EvE te Rs H F (rLst Ts)) (hz : us.length + Ts.length ≤ sizeLine) (k : ∀ vs H' F', G0 H F H' F' → LA F' vs Ts → D.nx σ (upd H' l (.lst (us ++ vs)))) :
    tDrop (tBM K "list" rExtend ta (tCons te tNil)) D σ H := by
  refine ho σ H F (Gr.refl s) e _ fun v H1 F1 g r => ?_
  have r : v = V.ref l := r
  subst r
  refine ⟨tyv_l (g.h hl), h σ H1 F1 g (e.mono g.ff) _ fun u H2 F2 g2 ⟨b, zs, eb, hb, lz⟩ => ?_⟩
  subst eb
  exact ⟨l, b, us, zs, rfl, rfl, g2.h (g.h hl), g2.fh _ _ hb, by rw [lz.len]; exact hz, k zs H2 F2 (g.trans g2) lz⟩
/-- l[i] = e -/
theorem st_setL {j : Nat} (s : Same F H) (e : En F σ Rs) (hl : H l = some (.lst us)) (h : EvE te Rs H F A) (ho : EvE ta Rs H F (rV (.ref l))) (hi : EvE tb Rs H F (rI j)) (hj : j < us.length) (k : ∀ v H' F', G0 H F H' F' → A.at_ F' v → D.nx σ (upd H' l (.lst (us.set j v)))) :
    tAsg te (gSub ta tb rSetL) D σ H := by
  refine h σ H F (Gr.refl s) e _ fun v H1 F1 g r => ho σ H1 F1 g (e.mono g.ff) _ fun x H2 F2 g2 r2 => hi σ H2 F2 (g.trans g2) (e.mono (g.trans g2).ff) _ fun y H3 F3 g3 r3 => ?_
  exact ⟨l, us, j, j, r2, r3, G0.h ((g.trans g2).trans g3) hl, ixN_nat hj, k v H3 F3 ((g.trans g2).trans g3) (A.mono (g2.trans g3).ff r)⟩
/-- x = [] -/
theorem st_nil {i : Nat} (s : Same F H) (e : En F σ Rs) (k : ∀ p σ', H p = none → En F σ' (Rs.set i (some (rV (.ref p)))) → D.nx σ' (upd H p (.lst []))) : tAsg (tLst tNil) (gName i) D σ H :=
  ⟨Nat.zero_le _, fun p hp => k p _ hp (e.set rfl)⟩
end
/-! ### one list that changes -/
def ML (l : Addr) (Ts : List Rep) (H F : Hp) : Prop := F l = none ∧ ∃ us, H l = some (.lst us) ∧ LA F us Ts
abbrev At (l : Addr) : Addr → Prop := fun a => a = l
section
variable {K : PySem.W.Frag} {Rs : Rs_} {H F H1 F1 H0 F0 : Hp} {ta tb te : TE} {A : Rep} {σ : L2.St} {D : Ends} {l : Addr} {Ts : List Rep}
theorem ML.grow (m : ML l Ts H F) (g : G0 H F H1 F1) : ML l Ts H1 F1 := let ⟨n, us, h, r⟩ := m; ⟨g.out n h, us, g.h h, r.mono g.ff⟩
theorem ml_new (s : Same F H) (n : H l = none) : ML l [] (upd H l (.lst [])) F := ⟨s.free n, [], upd_same, .nil⟩
theorem ML.wr {us : List V} {Us : List Rep} (n : F l = none) (h : LA F us Us) : ML l Us (upd H l (.lst us)) F := ⟨n, us, upd_same, h⟩
/-- it stays from now on -/
theorem ML.fz {M : Addr → Prop} (m : ML l Ts H F) (g : Gr M H0 F0 H F) (n : H0 l = none) : ∃ F', Gr M H0 F0 H F' ∧ Same F F' ∧ (rLst Ts).at_ F' (.ref l) := by
  obtain ⟨nf, us, h, r⟩ := m
  have s : Same F (upd F l (.lst us)) := fun b o e => by rw [upd_ne (ne_of_none e nf)]; exact e
  exact ⟨_, g.fz n nf h, s, l, us, rfl, upd_same, r.mono s⟩
theorem st_appM (s : Same F H) (e : En F σ Rs) (m : ML l Ts H F) (ho : EvE ta Rs H F (rV (.ref l))) (h : EvE te Rs H F A) (hz : Ts.length < sizeLine) (k : ∀ H' F', Gr (At l) H F H' F' → Same F F' → ML l (Ts ++ [A]) H' F' → D.nx σ H') :
    tDrop (tBM K "list" rAppend ta (tCons te tNil)) D σ H := by
  obtain ⟨n, us, hl, r⟩ := m
  refine st_app s e hl ho h (by rw [r.len]; exact hz) fun v H1 F1 g rv => ?_
  have n1 := g.out n hl
  exact k _ F1 (g.up.wr (.inr rfl) n1) g.ff (ML.wr n1 ((r.mono g.ff).append (.cons rv .nil)))
theorem st_extM {Us : List Rep} (s : Same F H) (e : En F σ Rs) (m : ML l Ts H F) (ho : EvE ta Rs H F (rV (.ref l))) (h : EvE te Rs H F (rLst Us)) (hz : Ts.length + Us.length ≤ sizeLine) (k : ∀ H' F', Gr (At l) H F H' F' → Same F F' → ML l (Ts ++ Us) H' F' → D.nx σ H') :
    tDrop (tBM K "list" rExtend ta (tCons te tNil)) D σ H := by
  obtain ⟨n, us, hl, r⟩ := m
  refine st_ext s e hl ho h (by rw [r.len]; exact hz) fun vs H1 F1 g rv => ?_
  have n1 := g.out n hl
  exact k _ F1 (g.up.wr (.inr rfl) n1) g.ff (ML.wr n1 ((r.mono g.ff).append rv))
theorem st_setM {j : Nat} (s : Same F H) (e : En F σ Rs) (m : ML l Ts H F) (h : EvE te Rs H F A) (ho : EvE ta Rs H F (rV (.ref l))) (hi : EvE tb Rs H F (rI j)) (hj : j < Ts.length) (k : ∀ H' F', Gr (At l) H F H' F' → Same F F' → ML l (Ts.set j A) H' F' → D.nx σ H') :
    tAsg te (gSub ta tb rSetL) D σ H := by
  obtain ⟨n, us, hl, r⟩ := m
  refine st_setL s e hl h ho hi (by rw [r.len]; exact hj) fun v H1 F1 g rv => ?_
  have n1 := g.out n hl
  exact k _ F1 (g.up.wr (.inr rfl) n1) g.ff (ML.wr n1 (LA.set rv j (r.mono g.ff)))
theorem ev_lenML (m : ML l Ts H F) (ha : EvE ta Rs H F (rV (.ref l))) : EvE (tCB (rLen K) (tCons ta tNil)) Rs H F (rI (Ts.length : Nat)) := by
  obtain ⟨n, us, hl, r⟩ := m
  rw [← r.len]
  exact ev_lenM hl ha
theorem ev_ixML {j : Nat} {R : Rep} (m : ML l Ts H F) (ha : EvE ta Rs H F (rV (.ref l))) (hb : EvE tb Rs H F (rI j)) (hj : Ts[j]? = some R) : EvE (tOp (rIxL K) ta tb) Rs H F R := by
  obtain ⟨n, us, hl, r⟩ := m
  obtain ⟨v, hv, hr⟩ := r.get hj
  exact ev_ixM hl ha hb hv hr
theorem st_nilM {i : Nat} (s : Same F H) (e : En F σ Rs) (k : ∀ p σ' H', H p = none → G0 H F H' F → En F σ' (Rs.set i (some (rV (.ref p)))) → ML p [] H' F → D.nx σ' H') : tAsg (tLst tNil) (gName i) D σ H :=
  st_nil s e fun p σ' hp e' => k p σ' _ hp (Gr.newM s hp) e' (ml_new s hp)
end
end K81
set_option Elab.async false
set_option linter.all false
set_option maxRecDepth 100000
set_option maxHeartbeats 2000000
set_option autoImplicit false
/-! K81S: sets of tuples of numbers and texts: the table's round, a table in order, searching, adding, laying anew. -/
namespace K81
open PySem PySem.Spec L2
open PyProof.Rows

/-! ### the round of x -> 5 x + 1 modulo a power of two -/
def X5 : Nat → Nat
  | 0 => 0
  | k + 1 => X5 k * 5 + 1
theorem x5_mod (m : Nat) : ∀ k, lcgN m k = X5 k % (m + 1)
  | 0 => (Nat.zero_mod _).symm
  | k + 1 => by
    show (lcgN m k * 5 + 1) % (m + 1) = (X5 k * 5 + 1) % (m + 1)
    rw [x5_mod m k, Nat.add_mod, Nat.mod_mul_mod, ← Nat.add_mod]
theorem x5_pow : ∀ k, 5 ^ k = 4 * X5 k + 1
  | 0 => rfl
  | k + 1 => by rw [Nat.pow_succ, x5_pow k]; show _ = 4 * (X5 k * 5 + 1) + 1; omega
theorem x5_add (a : Nat) : ∀ d, X5 (a + d) = 5 ^ a * X5 d + X5 a
  | 0 => by show X5 a = 5 ^ a * 0 + X5 a; omega
  | d + 1 => by
    show X5 (a + d) * 5 + 1 = 5 ^ a * (X5 d * 5 + 1) + X5 a
    rw [x5_add a d, Nat.mul_add, Nat.mul_one, Nat.add_mul, ← Nat.mul_assoc]
    have := x5_pow a
    omega
theorem x5_dbl (e : Nat) : X5 (2 * e) = 2 * (X5 e * (2 * X5 e + 1)) := by
  rw [Nat.two_mul, x5_add, x5_pow, Nat.add_mul, Nat.one_mul, Nat.mul_add, Nat.mul_one, Nat.mul_add, Nat.mul_assoc, ← Nat.mul_assoc (X5 e) 2, Nat.mul_comm (X5 e) 2, Nat.mul_assoc]
  omega
theorem x5_par : ∀ k, X5 k % 2 = k % 2
  | 0 => rfl
  | k + 1 => by
    have := x5_par k
    show (X5 k * 5 + 1) % 2 = _
    omega
theorem x5_dvd : ∀ (n d : Nat), 2 ^ n ∣ X5 d → 2 ^ n ∣ d
  | 0, d, _ => by simp
  | n + 1, d, h => by
    have h2 : 2 ∣ X5 d := Nat.dvd_trans ⟨2 ^ n, by rw [Nat.pow_succ, Nat.mul_comm]⟩ h
    have h3 : d % 2 = 0 := by rw [← x5_par]; exact Nat.mod_eq_zero_of_dvd h2
    obtain ⟨e, rfl⟩ : ∃ e, d = 2 * e := ⟨d / 2, by omega⟩
    rw [x5_dbl, Nat.pow_succ, Nat.mul_comm] at h
    have h4 : 2 ^ n ∣ X5 e * (2 * X5 e + 1) := Nat.dvd_of_mul_dvd_mul_left (by decide) h
    have h5 : Nat.Coprime (2 ^ n) (2 * X5 e + 1) := by
      refine Nat.Coprime.pow_left _ ?_
      rw [Nat.coprime_iff_gcd_eq_one, Nat.gcd_rec, show (2 * X5 e + 1) % 2 = 1 by omega]
      decide
    have h6 := x5_dvd n e (h5.dvd_of_dvd_mul_right h4)
    rw [Nat.pow_succ, Nat.mul_comm]
    exact Nat.mul_dvd_mul_left 2 h6
theorem x5_round : ∀ n, 2 ^ n ∣ X5 (2 ^ n)
  | 0 => by simp
  | n + 1 => by
    rw [Nat.pow_succ, Nat.mul_comm, x5_dbl]
    exact Nat.mul_dvd_mul_left 2 (Nat.dvd_mul_right_of_dvd (x5_round n) _)
theorem x5_inj {n a b : Nat} (hab : a < b) (hb : b - a < 2 ^ n) (h : X5 a % 2 ^ n = X5 b % 2 ^ n) : False := by
  obtain ⟨d, rfl⟩ : ∃ d, b = a + d := ⟨b - a, by omega⟩
  rw [x5_add] at h
  have h1 : 2 ^ n ∣ 5 ^ a * X5 d := by
    have : (5 ^ a * X5 d + X5 a) % 2 ^ n = (0 + X5 a) % 2 ^ n := by rw [← h, Nat.zero_add]
    have h2 := Nat.sub_mod_eq_zero_of_mod_eq this
    rw [Nat.zero_add, Nat.add_sub_cancel] at h2
    exact Nat.dvd_of_mod_eq_zero h2
  have h3 : Nat.Coprime (2 ^ n) (5 ^ a) := Nat.Coprime.pow _ _ (by decide)
  have h4 := x5_dvd n d (h3.dvd_of_dvd_mul_left h1)
  have h5 := Nat.le_of_dvd (by omega) h4
  omega
/-- a mask -/
def Ms (m : Nat) : Prop := ∃ n, m + 1 = 2 ^ n ∧ 3 ≤ n ∧ n ≤ 11
theorem Ms.odd {m : Nat} (h : Ms m) : m % 2 = 1 := by
  obtain ⟨n, e, h1, h2⟩ := h
  obtain ⟨k, rfl⟩ : ∃ k, n = k + 1 := ⟨n - 1, by omega⟩
  rw [Nat.pow_succ] at e
  omega
theorem Ms.le {m : Nat} (h : Ms m) : m ≤ 2047 := by
  obtain ⟨n, e, h1, h2⟩ := h
  have := Nat.pow_le_pow_right (n := 2) (by decide) h2
  have e2 : 2 ^ 11 = 2048 := by decide
  omega
theorem Ms.all {m : Nat} (h : Ms m) {j : Nat} (hj : j ≤ m) : ∃ b, b ≤ m ∧ lcgN m b = j := by
  obtain ⟨n, e, _⟩ := h
  rcases Classical.em (∃ b, b ≤ m ∧ lcgN m b = j) with c | c
  · exact c
  · exfalso
    have nd : ((List.range (m + 1)).map (lcgN m)).Nodup := by
      refine List.pairwise_map.mpr (List.Pairwise.imp_of_mem (fun {a b} ha hb hlt q => ?_) List.pairwise_lt_range)
      have hb := List.mem_range.mp hb
      rw [x5_mod, x5_mod, e] at q
      exact x5_inj hlt (by omega) q
    have hs := nat_nodup_len _ ((List.range (m + 1)).erase j) nd fun x hx => by
      obtain ⟨b, hb, rfl⟩ := List.mem_map.mp hx
      have hb := List.mem_range.mp hb
      refine (List.mem_erase_of_ne fun q => c ⟨b, by omega, q⟩).2 (List.mem_range.mpr ?_)
      rw [x5_mod]
      exact Nat.mod_lt _ (Nat.succ_pos _)
    rw [List.length_map, List.length_erase_of_mem (List.mem_range.mpr (by omega)), List.length_range] at hs
    omega
theorem Ms.rnd {m : Nat} (h : Ms m) : ∀ k, lcgN m (m + 1 + k) = lcgN m k
  | 0 => by
    obtain ⟨n, e, _⟩ := h
    rw [x5_mod, e]
    exact Nat.mod_eq_zero_of_dvd (x5_round n)
  | k + 1 => by
    show (lcgN m (m + 1 + k) * 5 + 1) % (m + 1) = (lcgN m k * 5 + 1) % (m + 1)
    rw [Ms.rnd h k]
/-- from anywhere to anywhere -/
theorem Ms.from {m i j : Nat} (h : Ms m) (hi : i ≤ m) (hj : j ≤ m) : ∃ k, k ≤ m ∧ lcgI m i k = j := by
  obtain ⟨a, ha, rfl⟩ := h.all hi
  obtain ⟨b, hb, rfl⟩ := h.all hj
  by_cases c : a ≤ b
  · exact ⟨b - a, by omega, by rw [lcgN_add, show a + (b - a) = b by omega]⟩
  · exact ⟨m + 1 + b - a, by omega, by rw [lcgN_add, show a + (m + 1 + b - a) = m + 1 + b by omega, h.rnd]⟩
theorem Ms.run {m j : Nat} (hm : Ms m) (h : Int) (hj : j ≤ m) : ∃ n, n ≤ m + 12 ∧ runI m (SetTable.bits h) n = j := by
  obtain ⟨k, hk, e⟩ := hm.from (runI_le m (SetTable.bits h) 12) hj
  exact ⟨12 + k, by omega, (runI_tail (bits_lt h) k).trans e⟩
/-- the place that is asked at step k for hash h -/
abbrev wy (m : Nat) (h : Int) (k : Nat) : Nat := way m h k
theorem wy_le {m : Nat} (h : Int) (k : Nat) : wy m h k ≤ m := by
  have r := runEnd_bd (runI_le m (SetTable.bits h) 0)
  have q := nth_in (m := m) k (runAt m (SetTable.bits h % (m + 1)) (SetTable.bits h)) (by
    show runI m (SetTable.bits h) 0 + (SetTable.runEnd m (runI m (SetTable.bits h) 0) - runI m (SetTable.bits h) 0) ≤ m
    omega)
  exact Nat.le_trans (Nat.le_add_right _ _) q
theorem Ms.meets {m j : Nat} (hm : Ms m) (h : Int) (hj : j ≤ m) : ∃ k, k < 10 * SetTable.turns m ∧ wy m h k = j := by
  obtain ⟨n, hn, rfl⟩ := hm.run h hj
  obtain ⟨k, hk, e⟩ := run_nth m (SetTable.bits h) n
  exact ⟨k, by unfold SetTable.turns; omega, by show (nth m _ k).j = _; rw [e]; rfl⟩

/-! ### a table from which each place is found again -/
structure TO (t : SetTable) (hs : List Int) : Prop where
  up : Ris t.place.toList
  dm : t.dummies = #[]
  sz : t.place.toList.length = hs.length
  ms : Ms t.mask
  bd : ∀ x ∈ t.place.toList, x ≤ t.mask
  re : ∀ (i : Nat) (h : Int) (j : Nat), hs[i]? = some h → t.place.toList[i]? = some j → ∃ k, wy t.mask h k = j ∧ ∀ c, c < k → wy t.mask h c ∈ t.place.toList
theorem TO.first {t : SetTable} {hs : List Int} (T : TO t hs) (hl : hs.length ≤ t.mask) (h : Int) : ∃ K, K < 10 * SetTable.turns t.mask ∧ wy t.mask h K ∉ t.place.toList ∧ ∀ k, k < K → wy t.mask h k ∈ t.place.toList := by
  obtain ⟨j, hj, hn⟩ := st_missing t.place.toList (t.mask + 1) (by rw [T.sz]; omega)
  obtain ⟨k, hk, e⟩ := T.ms.meets h (Nat.le_of_lt_succ hj)
  obtain ⟨K, h1, h2, h3⟩ := st_least (p := fun k => wy t.mask h k ∉ t.place.toList) k (by rw [← e] at hn; exact hn)
  exact ⟨K, by omega, h2, fun c hc => Classical.byContradiction fun z => h3 c hc z⟩
theorem TO.before {t : SetTable} {hs : List Int} (T : TO t hs) {h : Int} {K i j : Nat} (hK : wy t.mask h K ∉ t.place.toList) (hi : hs[i]? = some h) (hj : t.place.toList[i]? = some j) : ∃ k, k < K ∧ wy t.mask h k = j := by
  obtain ⟨k, e, hb⟩ := T.re i h j hi hj
  refine ⟨k, Classical.byContradiction fun z => hK ?_, e⟩
  rcases Nat.eq_or_lt_of_le (Nat.le_of_not_lt z) with q | q
  · rw [q, e]; exact List.mem_of_getElem? hj
  · exact hb K q
theorem TO.put {t : SetTable} {hs : List Int} (T : TO t hs) {h : Int} {K j p : Nat} (ej : wy t.mask h K = j) (ep : SetTable.below t.place j = p) (hK : j ∉ t.place.toList) (hb : ∀ k, k < K → wy t.mask h k ∈ t.place.toList) :
    p ≤ hs.length ∧ TO (t.put j).1 (hs.take p ++ h :: hs.drop p) ∧ (t.put j).1.fill = hs.length + 1 := by
  have hpp := put_place t j
  rw [ep] at hpp
  have hp1 : p ≤ t.place.toList.length := by
    obtain ⟨c, _⟩ := below_cut T.up j
    rw [ep] at c
    exact c
  have hp2 : p ≤ hs.length := by rw [← T.sz]; exact hp1
  have hnew : ∀ {x : Nat}, x ∈ (t.put j).1.place.toList ↔ x = j ∨ x ∈ t.place.toList := by
    intro x
    rw [hpp]
    exact mem_ins
  have hlen : (t.put j).1.place.toList.length = hs.length + 1 := by rw [hpp, len_ins _ hp1, T.sz]
  refine ⟨hp2, ⟨ris_insert T.up fun e => hK (List.mem_of_getElem? (by rw [Array.getElem?_toList]; exact e)), put_dm T.dm j, by rw [hlen, len_ins _ hp2], T.ms, fun x hx => ?_, fun i g l h1 h2 => ?_⟩, ?_⟩
  · rcases hnew.mp hx with rfl | z
    · rw [← ej]; exact wy_le _ _
    · exact T.bd x z
  · rw [tins_get _ hp2] at h1
    rw [hpp, tins_get _ hp1] at h2
    have old : ∀ i, hs[i]? = some g → t.place.toList[i]? = some l → ∃ k, wy t.mask g k = l ∧ ∀ c, c < k → wy t.mask g c ∈ (t.put j).1.place.toList := fun i a b =>
      let ⟨k, e, z⟩ := T.re i g l a b
      ⟨k, e, fun c hc => hnew.mpr (.inr (z c hc))⟩
    by_cases c : i < p
    · rw [if_pos c] at h1 h2
      exact old i h1 h2
    · rw [if_neg c] at h1 h2
      by_cases d : i = p
      · rw [if_pos d] at h1 h2
        cases h1
        cases h2
        exact ⟨K, ej, fun c hc => hnew.mpr (.inr (hb c hc))⟩
      · rw [if_neg d] at h1 h2
        exact old _ h1 h2
  · show (t.put j).1.place.size + (t.put j).1.dummies.size = _
    rw [put_dm T.dm j, ← Array.length_toList, hlen]
    rfl
theorem TO.fresh (a b : Nat) (c : Bool) : TO (.fresh a b c) [] := ⟨List.Pairwise.nil, rfl, rfl, ⟨3, rfl, by decide, by decide⟩, (fun x hx => nomatch hx), fun i h j hi => by simp at hi⟩

/-! ### laying all anew -/
theorem Ms.free {m : Nat} (hm : Ms m) (ow : Array (Option Nat)) (h : Int) {j : Nat} (hj : j ≤ m) (hf : oAt ow j = none) :
    ∃ K, SetTable.layClean.free m ow (SetTable.turns m) (SetTable.bits h % (m + 1)) (SetTable.bits h) = some (wy m h K) ∧ oAt ow (wy m h K) = none ∧ ∀ k, k < K → oAt ow (wy m h k) ≠ none := by
  obtain ⟨n, hn, rfl⟩ := hm.run h hj
  have hw : wy m h (off m (SetTable.bits h % (m + 1)) (SetTable.bits h) n) = runI m (SetTable.bits h) n := by
    show (nth m _ _).j = _
    rw [nth_off, itL_run]
    rfl
  obtain ⟨K, k1, k2, k3⟩ := st_least (p := fun k => oAt ow (wy m h k) = none) _ (by rw [← hw] at hf; exact hf)
  refine ⟨K, free_spec m ow _ n _ _ K (by unfold SetTable.turns; omega) k1 (fun k hk => ?_) (by show (oAt ow (wy m h K)).isNone = true; rw [k2]; rfl), k2, k3⟩
  have q := k3 k hk
  show (oAt ow (wy m h k)).isNone = false
  cases z : oAt ow (wy m h k) with
  | none => exact absurd z q
  | some _ => rfl
theorem own_next {m : Nat} (hm : Ms m) {dn : List Int} {ow : Array (Option Nat)} (W : Own m dn ow) (hl : dn.length ≤ m) (h : Int) :
    ∃ j, SetTable.layClean.free m ow (SetTable.turns m) (SetTable.bits h % (m + 1)) (SetTable.bits h) = some j ∧ Own m (dn ++ [h]) (ow.setIfInBounds j (some dn.length)) := by
  obtain ⟨ps, hps, hin⟩ := W.ps
  obtain ⟨i, hi, hn⟩ := st_missing ps (m + 1) (by omega)
  obtain ⟨K, e1, e2, e3⟩ := hm.free ow h (Nat.le_of_lt_succ hi) (Classical.byContradiction fun z => hn (hin i (Nat.le_of_lt_succ hi) z))
  have hself := oAt_set_self (owner := ow) (some dn.length) (j := wy m h K) (by rw [W.sz]; exact Nat.lt_succ_of_le (wy_le h K))
  have hoth : ∀ {i : Nat}, i ≠ wy m h K → oAt (ow.setIfInBounds (wy m h K) (some dn.length)) i = oAt ow i := fun c => oAt_set_ne _ c
  have keep : ∀ {i : Nat}, oAt ow i ≠ none → oAt (ow.setIfInBounds (wy m h K) (some dn.length)) i ≠ none := by
    intro i hi
    by_cases c : i = wy m h K
    · rw [c, hself]; simp
    · rw [hoth c]; exact hi
  have hlen : (dn ++ [h]).length = dn.length + 1 := by simp
  refine ⟨wy m h K, e1, ⟨by rw [Array.size_setIfInBounds]; exact W.sz, fun j k hj e => ?_, fun k hk => ?_, wy m h K :: ps, by rw [hlen, List.length_cons, hps], fun j hj e => ?_⟩⟩
  · by_cases c : j = wy m h K
    · rw [c, hself] at e
      cases e
      exact ⟨h, K, by simp, c.symm, fun c hc => keep (e3 c hc)⟩
    · rw [hoth c] at e
      obtain ⟨g, L, a1, a2, a3⟩ := W.at_ j k hj e
      exact ⟨g, L, by rw [List.getElem?_append_left (List.getElem?_eq_some_iff.mp a1).1]; exact a1, a2, fun c hc => keep (a3 c hc)⟩
  · by_cases c : k < dn.length
    · obtain ⟨j, hj, e⟩ := W.all k c
      exact ⟨j, hj, by rw [hoth fun z => by rw [z, e2] at e; cases e]; exact e⟩
    · rw [show k = dn.length by omega]
      exact ⟨wy m h K, wy_le h K, hself⟩
  · by_cases c : j = wy m h K
    · rw [c]; exact List.mem_cons_self
    · rw [hoth c] at e
      exact List.mem_cons_of_mem _ (hin j hj e)
theorem own_all {m : Nat} (hm : Ms m) : ∀ (hs dn : List Int) (ow : Array (Option Nat)), Own m dn ow → dn.length + hs.length ≤ m →
    ∃ ow', hs.foldl (stepF m) (some (ow, dn.length)) = some (ow', dn.length + hs.length) ∧ Own m (dn ++ hs) ow'
  | [], dn, ow, W, _ => ⟨ow, rfl, by rw [List.append_nil]; exact W⟩
  | h :: hs, dn, ow, W, hl => by
    rw [List.length_cons] at hl
    obtain ⟨j, e, W1⟩ := own_next hm W (by omega) h
    obtain ⟨ow', f, W2⟩ := own_all hm hs (dn ++ [h]) _ W1 (by simp; omega)
    refine ⟨ow', ?_, by rwa [List.append_assoc] at W2⟩
    rw [List.foldl_cons, stepF_some e]
    rw [List.length_append, List.length_singleton] at f
    rw [f, List.length_cons]
    congr 2
    omega
theorem laid {m : Nat} (hm : Ms m) {hs : Array Int} (hn : hs.size ≤ m) : ∃ ow, SetTable.layClean m hs = some ow ∧ Own m hs.toList ow := by
  obtain ⟨ow, f, W⟩ := own_all hm hs.toList [] _ (Own.init m) (by rw [Array.length_toList]; simpa using hn)
  refine ⟨ow, ?_, W⟩
  rw [layClean_eq]
  exact congrArg (Option.map (·.1)) f
theorem relaid {t : SetTable} {hs : Array Int} {wanted M : Nat} (hw : SetTable.sizeAbove wanted - 1 = M) (hM : Ms M) (hn : hs.size ≤ M) :
    ∃ t' order, t.relaid hs wanted = some (t', order) ∧ order.toList.Perm (List.range hs.size) ∧ TO t' (order.toList.map fun i => hs.getD i 0) ∧ t'.mask = M ∧ t'.led = t.led := by
  obtain ⟨ow, e, W⟩ := laid hM hn
  have hr : t.relaid hs wanted = some (tabOf t M ow, ((liveOf M ow).map (·.2)).toArray) := by rw [relaid_eq, hw, e]; rfl
  obtain ⟨r1, r2⟩ := ris_live (fun j => ow.getD j none) (List.range (M + 1)) (by unfold Ris; exact List.pairwise_lt_range)
  have r1 : Ris ((liveOf M ow).map (·.1)) := r1
  have r2 : ∀ x ∈ (liveOf M ow).map (·.1), x ∈ List.range (M + 1) := r2
  have hlen : (liveOf M ow).length = hs.size := by
    obtain ⟨ps, p1, p2⟩ := W.ps
    refine Nat.le_antisymm ?_ ?_
    · have r0 : List.Pairwise (fun a b : Nat => a < b) ((liveOf M ow).map (·.1)) := r1
      have nd : ((liveOf M ow).map (·.1)).Nodup := r0.imp (fun h => Nat.ne_of_lt h)
      have a := nat_nodup_len _ ps nd fun x hx => by
        obtain ⟨⟨y, k⟩, hq, rfl⟩ := List.mem_map.mp hx
        obtain ⟨b1, b2⟩ := (mem_live W.sz).1 hq
        exact p2 y b1 (by rw [b2]; simp)
      rwa [List.length_map, p1] at a
    · have b := nat_nodup_len (List.range hs.size) ((liveOf M ow).map (·.2)) List.nodup_range fun k hk => by
        obtain ⟨j, b1, b2⟩ := W.all k (List.mem_range.mp hk)
        exact List.mem_map.mpr ⟨(j, k), (mem_live W.sz).2 ⟨b1, b2⟩, rfl⟩
      rwa [List.length_map, List.length_range] at b
  refine ⟨_, _, hr, perm_range hs.size _ ?_ fun k hk => ?_, ⟨r1, rfl, ?_, hM, fun x hx => Nat.le_of_lt_succ (List.mem_range.mp (r2 x hx)), fun i h j h1 h2 => ?_⟩, rfl, rfl⟩
  · show ((liveOf M ow).map (·.2)).length = hs.size
    rw [List.length_map, hlen]
  · obtain ⟨j, b1, b2⟩ := W.all k (by rw [Array.length_toList]; exact hk)
    exact List.mem_map.mpr ⟨(j, k), (mem_live W.sz).2 ⟨b1, b2⟩, rfl⟩
  · show ((liveOf M ow).map (·.1)).length = (((liveOf M ow).map (·.2)).map fun i => hs.getD i 0).length
    simp
  · have h1 : (((liveOf M ow).map (·.2)).map fun i => hs.getD i 0)[i]? = some h := h1
    have h2 : ((liveOf M ow).map (·.1))[i]? = some j := h2
    rw [List.map_map, List.getElem?_map] at h1
    rw [List.getElem?_map] at h2
    obtain ⟨⟨y, k⟩, hq, rfl⟩ := Option.map_eq_some_iff.mp h2
    rw [hq] at h1
    have h1 : hs.getD k 0 = h := Option.some.inj h1
    obtain ⟨b1, b2⟩ := (mem_live W.sz).1 (List.mem_of_getElem? hq)
    obtain ⟨g, K, a1, a2, a3⟩ := W.at_ y k b1 b2
    have e0 : hs.getD k 0 = g := by rw [Array.getD_eq_getD_getElem?, ← Array.getElem?_toList, a1]; rfl
    rw [h1] at e0
    subst e0
    refine ⟨K, a2, fun c hc => ?_⟩
    show wy M h c ∈ (liveOf M ow).map (·.1)
    cases z : oAt ow (wy M h c) with
    | none => exact absurd z (a3 c hc)
    | some l => exact List.mem_map.mpr ⟨(wy M h c, l), (mem_live W.sz).2 ⟨wy_le _ _, z⟩, rfl⟩
end K81
set_option Elab.async false
set_option linter.all false
set_option maxRecDepth 100000
set_option maxHeartbeats 2000000
set_option autoImplicit false
/-! K81S2: the set in the heap. -/
namespace K81
open PySem PySem.Spec L2
open PyProof.Rows

abbrev th (P : Program) (w : World) (k : List Key) : Int := tupleKeyHash (mixKind P w) k
abbrev IsK (P : Program) (w : World) (h : Heap) (k : List Key) (a : Addr) : Prop := IsTupleKey (mixKind P w) h k a
section
variable {P : Program} {w : World} {A : Around} {E : Value → Shared → Prop} {s : Shared}
theorem key_items {k : List Key} {vs : List Value} (h : ItemsAre (mixKind P w) k vs) : ∀ v ∈ vs, (∃ i t, v = Value.int i t) ∨ ∃ x t, v = Value.str x t := by
  induction h with
  | nil => intro v hv; cases hv
  | cons h1 _ ih =>
    intro v hv
    rcases List.mem_cons.mp hv with rfl | hv
    · rcases keyIs_shape h1 with ⟨i, t, _, e⟩ | ⟨x, t, _, e⟩
      · exact .inl ⟨i, t, e⟩
      · exact .inr ⟨x, t, e⟩
    · exact ih v hv
theorem ofA_key (n : Nat) {v : Value} (h : (∃ i t, v = Value.int i t) ∨ ∃ x t, v = Value.str x t) : ofAClassStatement n v = pure false := by
  rcases h with ⟨i, t, rfl⟩ | ⟨x, t, rfl⟩ <;> cases n <;> rfl
theorem hashBy_key (n : Nat) {v : Value} (h : (∃ i t, v = Value.int i t) ∨ ∃ x t, v = Value.str x t) : ∃ b, hashByValue n v = pure b := by
  rcases h with ⟨i, t, rfl⟩ | ⟨x, t, rfl⟩
  · exact ⟨true, by cases n <;> rfl⟩
  · exact ⟨false, by cases n <;> rfl⟩
theorem ofA_tup {k : List Key} {b : Addr} {Q : Bool → Shared → Prop} (hk : IsK P w s.heap k b) (h : Q false s) : wpAny (model P w) A (ofAClassStatement 8 (.ref b)) Q E s := by
  have hT := hk.typeIs
  obtain ⟨o, items, n, ho, _, hd, hi⟩ := hk
  unfold ofAClassStatement
  refine wpAny_bind (wpAny_typeOf hT ?_)
  dsimp only
  simp only [show (("tuple" : String) == "tuple") = true from by decide, if_true]
  try refine wpAny_bind (wpAny_pure ?_)
  try simp only [Bool.not_true, Bool.false_eq_true, if_false]
  refine wpAny_bind (m := seqItems? (.ref b)) (wpAny_seqItems ho hd ?_)
  dsimp only
  refine wpAny_bind ?_
  show wpAny _ _ (forIn items _ _) _ _ s
  rw [← Array.forIn_toList]
  refine wpAny_forIn_list _ (fun rest r s' => r.1 = none ∧ s' = s ∧ ∀ v ∈ rest, (∃ i t, v = Value.int i t) ∨ ∃ x t, v = Value.str x t) _ (fun v rest r s' q => ?_) (fun r s' q => ?_) _ _ ⟨rfl, rfl, key_items hi⟩
  · obtain ⟨q1, rfl, q3⟩ := q
    rw [ofA_key _ (q3 v List.mem_cons_self)]
    refine wpAny_bind (wpAny_pure ?_)
    simp only [Bool.false_eq_true, if_false]
    exact wpAny_pure ⟨rfl, rfl, fun u hu => q3 u (List.mem_cons_of_mem _ hu)⟩
  · obtain ⟨r1, r2⟩ := r
    obtain ⟨q1, rfl, _⟩ := q
    simp only at q1
    subst q1
    exact wpAny_pure h
theorem hashBy_tupK {k : List Key} {b : Addr} {Q : Bool → Shared → Prop} (hk : IsK P w s.heap k b) (h : ∀ c, Q c s) : wpAny (model P w) A (hashByValue 8 (.ref b)) Q E s := by
  have hT := hk.typeIs
  obtain ⟨o, items, n, ho, _, hd, hi⟩ := hk
  unfold hashByValue
  refine wpAny_bind (wpAny_specialOf hT F.slot_tuple_hash.lookup ?_)
  refine wpAny_bind (m := seqItems? (.ref b)) (wpAny_seqItems ho hd ?_)
  refine wpAny_bind ?_
  show wpAny _ _ (forIn items _ _) _ _ s
  rw [← Array.forIn_toList]
  refine wpAny_forIn_list _ (fun rest r s' => r.1 = none ∧ s' = s ∧ ∀ v ∈ rest, (∃ i t, v = Value.int i t) ∨ ∃ x t, v = Value.str x t) _ (fun v rest r s' q => ?_) (fun r s' q => ?_) _ _ ⟨rfl, rfl, key_items hi⟩
  · obtain ⟨q1, rfl, q3⟩ := q
    obtain ⟨c, hc⟩ := hashBy_key 7 (q3 v List.mem_cons_self)
    rw [hc]
    refine wpAny_bind (wpAny_pure ?_)
    cases c with
    | true =>
      simp only [Bool.not_true, Bool.false_eq_true, if_false]
      exact wpAny_pure ⟨rfl, rfl, fun u hu => q3 u (List.mem_cons_of_mem _ hu)⟩
    | false =>
      simp only [Bool.not_false, if_true]
      exact wpAny_pure (wpAny_pure (h false))
  · obtain ⟨r1, r2⟩ := r
    obtain ⟨q1, rfl, _⟩ := q
    simp only at q1
    subst q1
    exact wpAny_pure (h true)
theorem seen_no {k : List Key} {b : Addr} {Q : Bool → Shared → Prop} (hk : IsK P w s.heap k b) {ys : List Value} (hy : ∀ y ∈ ys, ∃ l c, y = Value.ref c ∧ IsK P w s.heap l c) (h : Q false s) :
    wpAny (model P w) A (searchCouldBeSeen (.ref b) ys) Q E s := by
  unfold searchCouldBeSeen
  refine wpAny_bind ?_
  refine wpAny_forIn_list _ (fun rest r s' => r.1 = none ∧ s' = s ∧ ∀ y ∈ rest, ∃ l c, y = Value.ref c ∧ IsK P w s.heap l c) _ (fun v rest r s' q => ?_) (fun r s' q => ?_) _ _ ⟨rfl, rfl, hy⟩
  · obtain ⟨q1, rfl, q3⟩ := q
    obtain ⟨l, c, rfl, hc⟩ := q3 v List.mem_cons_self
    have more : ∀ y ∈ rest, ∃ l c, y = Value.ref c ∧ IsK P w s'.heap l c := fun u hu => q3 u (List.mem_cons_of_mem _ hu)
    dsimp only
    by_cases hv : (b == c || (carriedByValue (.ref b) && carriedByValue (.ref c))) = true
    · exact wp_if_pos hv (wpAny_pure ⟨rfl, rfl, more⟩)
    · refine wp_if_neg hv (wpAny_bind (wpAny_eqIsQuiet_tuple hk ?_))
      simp only [Bool.not_true, Bool.false_eq_true, if_false]
      refine wpAny_bind (wpAny_eqIsQuiet_tuple hc ?_)
      simp only [Bool.not_true, Bool.false_eq_true, if_false]
      refine wpAny_bind (ofA_tup hk ?_)
      simp only [Bool.false_eq_true, if_false]
      refine wpAny_bind (ofA_tup hc ?_)
      simp only [Bool.false_eq_true, if_false]
      exact wpAny_pure ⟨rfl, rfl, more⟩
  · obtain ⟨r1, r2⟩ := r
    obtain ⟨q1, rfl, _⟩ := q
    simp only at q1
    subst q1
    exact wpAny_pure h

/-! ### the set -/
def M5 (m : Nat) : Prop := m = 7 ∨ m = 31 ∨ m = 127 ∨ m = 511 ∨ m = 2047
theorem M5.ms {m : Nat} (h : M5 m) : Ms m := by
  rcases h with rfl | rfl | rfl | rfl | rfl
  · exact ⟨3, rfl, by decide, by decide⟩
  · exact ⟨5, rfl, by decide, by decide⟩
  · exact ⟨7, rfl, by decide, by decide⟩
  · exact ⟨9, rfl, by decide, by decide⟩
  · exact ⟨11, rfl, by decide, by decide⟩
abbrev Ent := Addr × List Key
def rws (P : Program) (w : World) (L : List Ent) : List (Int × Value) := L.map fun p => (th P w p.2, Value.ref p.1)
theorem rws_len {L : List Ent} {es : Array (Int × Value)} (h : es.toList = rws P w L) : es.size = L.length := by
  rw [← Array.length_toList, h]; simp [rws]
structure KSet (P : Program) (w : World) (h : Heap) (a : Addr) (L : List Ent) (es : Array (Int × Value)) (ep : Nat) (t : SetTable) : Prop where
  ob : ∃ o, h.get? a = some o ∧ o.ExactSet ∧ o.data = .set es ep t
  row : es.toList = rws P w L
  tab : TO t (L.map fun p => th P w p.2)
  nd : (L.map (·.2)).Nodup
  led : w.params.followText "set-order" = true ∨ t.led = true
  m5 : M5 t.mask
  room : L.length * 5 < t.mask * 3
variable {a : Addr} {L : List Ent} {es : Array (Int × Value)} {ep : Nat} {t : SetTable}
theorem KSet.sz {h : Heap} (R : KSet P w h a L es ep t) : es.size = L.length := rws_len R.row
theorem KSet.fits {h : Heap} (R : KSet P w h a L es ep t) : t.fits es.size = true := by
  have h1 := R.tab.sz
  rw [List.length_map, Array.length_toList] at h1
  have h2 := R.sz
  have h3 := R.room
  unfold SetTable.fits SetTable.fill
  rw [R.tab.dm, Bool.and_eq_true, beq_iff_eq, decide_eq_true_eq]
  show t.place.size = es.size ∧ t.place.size + 0 ≤ t.mask
  omega
theorem KSet.ent {h : Heap} (R : KSet P w h a L es ep t) {i : Nat} {p : Ent} (hp : L[i]? = some p) : es[i]? = some (th P w p.2, Value.ref p.1) := by
  rw [← Array.getElem?_toList, R.row]
  unfold rws
  rw [List.getElem?_map, hp]
  rfl
theorem KSet.gw {h : Heap} (R : KSet P w h a L es ep t) : ¬ t.gaveWay = true := by
  unfold SetTable.gaveWay
  rw [R.tab.ms.odd]
  decide
theorem KSet.keep {h h' : Heap} (R : KSet P w h a L es ep t) (k : ∀ o, h.get? a = some o → h'.get? a = some o) : KSet P w h' a L es ep t :=
  let ⟨o, ho, r⟩ := R.ob
  ⟨⟨o, k o ho, r⟩, R.row, R.tab, R.nd, R.led, R.m5, R.room⟩
/-- the set and its members -/
structure KFull (P : Program) (w : World) (h : Heap) (a : Addr) (L : List Ent) (es : Array (Int × Value)) (ep : Nat) (t : SetTable) : Prop extends KSet P w h a L es ep t where
  mem : ∀ p ∈ L, IsK P w h p.2 p.1
theorem dummy_nth (m : Nat) : ∀ (n : Nat) (p : SetTable.Probe), p.dummy = none → (nth m p n).dummy = none
  | 0, _, h => h
  | n + 1, p, h => dummy_nth m n (adv m p) (by unfold adv; split <;> exact h)
abbrev pr0 (t : SetTable) (h : Int) : SetTable.Probe := runAt t.mask (SetTable.bits h % (t.mask + 1)) (SetTable.bits h)
/-- the search from step c of the way on -/
theorem seek (R : KFull P w s.heap a L es ep t) {x : Addr} {k : List Key} (hx : IsK P w s.heap k x) (hu : A.units < cLine) {K : Nat} (hKf : K < 10 * SetTable.turns t.mask)
    (hK : wy t.mask (th P w k) K ∉ t.place.toList) (hKb : ∀ c, c < K → wy t.mask (th P w k) c ∈ t.place.toList) {Q : SetFound → Shared → Prop}
    (hin : k ∈ L.map (·.2) → Q (.there none) s) (hout : k ∉ L.map (·.2) → Q (.free (wy t.mask (th P w k) K) false) s) :
    ∀ (f c : Nat) (stand : Option SetTable.Probe), stand.getD (t.probeStart (th P w k)) = nth t.mask (pr0 t (th P w k)) c → c ≤ K → K - c < f →
      (∀ (i : Nat) p, L[i]? = some p → p.2 = k → ∃ d, c ≤ d ∧ d < K ∧ t.place.toList[i]? = some (wy t.mask (th P w k) d)) →
      wpAny (model P w) A (setSearchFrom a (.ref x) (th P w k) true f stand) Q E s
  | 0, _, _, _, _, hf, _ => absurd hf (Nat.not_lt_zero _)
  | f + 1, c, stand, hst, hc, hf, hre => by
    obtain ⟨o, ho, hex, hd⟩ := R.ob
    rw [setSearchFrom_succ]
    refine wpAny_bind (wpAny_setState_of ho hd R.fits ?_)
    dsimp only
    refine wp_if_neg R.gw ?_
    try refine wpAny_bind (wpAny_pure ?_)
    have hq : ∀ q, nth t.mask (nth t.mask (pr0 t (th P w k)) c) q = nth t.mask (pr0 t (th P w k)) (c + q) := fun q => (nth_add t.mask c _ q).symm
    have hj : ∀ q, (nth t.mask (nth t.mask (pr0 t (th P w k)) c) q).j = wy t.mask (th P w k) (c + q) := fun q => congrArg SetTable.Probe.j (hq q)
    have hcK : c + (K - c) = K := by omega
    have hat : ∀ (i : Nat) p, L[i]? = some p → (es[i]?.map (·.1)).getD 0 = th P w p.2 := fun i p hp => by
      rw [R.ent hp]
      rfl
    rcases go_spec t R.tab.up R.tab.dm (fun i => (es[i]?.map (·.1)).getD 0) (th P w k) (10 * SetTable.turns t.mask) (K - c) (nth t.mask (pr0 t (th P w k)) c) (dummy_nth _ _ _ rfl) (by omega)
      (fun q hlt => by rw [hj]; exact hKb (c + q) (by omega)) (by rw [hj, hcK]; exact hK) with ⟨q, i, hlt, hi, hh, hno, hpr⟩ | ⟨hno, hpr⟩
    · -- one with the same hash
      have hpr' : t.probe (fun i => (es[i]?.map (·.1)).getD 0) (th P w k) (stand.getD (t.probeStart (th P w k))) = some (.candidate (wy t.mask (th P w k) (c + q)) i (nth t.mask (pr0 t (th P w k)) (c + (q + 1)))) := by
        rw [hst, ← hj, ← hq]
        exact hpr
      rw [hpr']
      dsimp only
      rw [hj] at hi
      have hil : i < L.length := by
        have h1 := (List.getElem?_eq_some_iff.mp hi).1
        rw [R.tab.sz, List.length_map] at h1
        exact h1
      obtain ⟨p, hp⟩ : ∃ p, L[i]? = some p := ⟨_, List.getElem?_eq_getElem hil⟩
      have hmem : p ∈ L := List.mem_of_getElem? hp
      have go : wpAny (model P w) A (searchRest a (.ref x) (th P w k) true f es t (wy t.mask (th P w k) (c + q)) i (nth t.mask (pr0 t (th P w k)) (c + (q + 1)))) Q E s := by
        unfold searchRest
        rw [R.ent hp]
        dsimp only
        refine wpAny_bind (wpAny_holding (wpAny_eqBool_tuple hu (R.mem p hmem) hx ?_))
        refine wpAny_bind (wpAny_setState_of ho hd R.fits ?_)
        dsimp only
        by_cases hkk : p.2 = k
        · exact wp_if_pos (by simp [hkk]) (wpAny_pure (hin (List.mem_map.mpr ⟨p, hmem, hkk⟩)))
        · refine wp_if_neg (by simp [hkk]) ?_
          try refine wpAny_bind (wpAny_pure ?_)
          rw [sameMem]
          dsimp only
          have hsl : t.slot (wy t.mask (th P w k) (c + q)) = .live i := slot_live R.tab.up hi
          simp only [if_true, hsl, R.ent hp]
          refine wpAny_bind (wpAny_isSame_ref_self (wpAny_bind (wpAny_pure ?_)))
          simp only [if_true]
          refine wp_if_neg (by simp [hkk]) ?_
          refine seek R hx hu hKf hK hKb hin hout f (c + (q + 1)) _ rfl (by omega) (by omega) fun i0 p0 h0 hk0 => ?_
          obtain ⟨d, a1, a2, a3⟩ := hre i0 p0 h0 hk0
          refine ⟨d, Classical.byContradiction fun z => ?_, a2, a3⟩
          rcases Nat.eq_or_lt_of_le (show d ≤ c + q by omega) with y | y
          · rw [y] at a3
            have s0 := slot_live R.tab.up a3
            rw [hsl] at s0
            injection s0 with s0
            rw [← s0, hp] at h0
            cases h0
            exact hkk hk0
          · refine hno (d - c) i0 (by omega) (by rw [hj, show c + (d - c) = d by omega]; exact a3) ?_
            rw [hat i0 p0 h0, hk0]
      by_cases hl : t.led = true
      · refine wp_if_neg (by simp [hl]) ?_
        try refine wpAny_bind (wpAny_pure ?_)
        exact go
      · refine wp_if_pos (by simp [hl]) ?_
        refine wpAny_bind (seen_no hx (fun y hy => ?_) (wp_if_neg (by decide) ?_))
        · obtain ⟨e, he, rfl⟩ := List.mem_map.mp hy
          have he2 : e ∈ es.toList := by
            have he1 : e ∈ es ∧ e.1 = th P w k := by simpa using he
            simpa using he1.1
          rw [R.row] at he2
          obtain ⟨p2, hp2, rfl⟩ := List.mem_map.mp he2
          exact ⟨p2.2, p2.1, rfl, R.mem p2 hp2⟩
        · try refine wpAny_bind (wpAny_pure ?_)
          exact go
    · have hpr' : t.probe (fun i => (es[i]?.map (·.1)).getD 0) (th P w k) (stand.getD (t.probeStart (th P w k))) = some (.empty (wy t.mask (th P w k) K) none) := by
        rw [hst]
        refine Eq.trans hpr ?_
        rw [hj, hcK]
      rw [hpr']
      dsimp only
      refine wpAny_pure (hout fun hm => ?_)
      obtain ⟨p0, h0, hk0⟩ := List.mem_map.mp hm
      obtain ⟨i0, hi0, rfl⟩ := List.getElem_of_mem h0
      have h00 : L[i0]? = some L[i0] := List.getElem?_eq_getElem hi0
      obtain ⟨d, a1, a2, a3⟩ := hre i0 _ h00 hk0
      refine hno (d - c) i0 (by omega) (by rw [hj, show c + (d - c) = d by omega]; exact a3) ?_
      rw [hat i0 _ h00, hk0]
theorem seek0 (R : KFull P w s.heap a L es ep t) {x : Addr} {k : List Key} (hx : IsK P w s.heap k x) (hu : A.units < cLine) {Q : SetFound → Shared → Prop}
    (hin : k ∈ L.map (·.2) → Q (.there none) s)
    (hout : ∀ K, k ∉ L.map (·.2) → wy t.mask (th P w k) K ∉ t.place.toList → (∀ c, c < K → wy t.mask (th P w k) c ∈ t.place.toList) → Q (.free (wy t.mask (th P w k) K) false) s) :
    wpAny (model P w) A (setSearch a (.ref x) (th P w k) true) Q E s := by
  have hroom := R.room
  obtain ⟨K, hKf, hK, hKb⟩ := R.tab.first (by rw [List.length_map]; omega) (th P w k)
  have hbig : K < 100000 := by
    have := R.tab.ms.le
    unfold SetTable.turns at hKf
    omega
  unfold setSearch
  refine seek R hx hu hKf hK hKb hin (fun hn => hout K hn hK hKb) 100000 0 none rfl (Nat.zero_le _) (by omega) fun i p hp hk => ?_
  have hil : i < t.place.toList.length := by
    rw [R.tab.sz, List.length_map]
    exact (List.getElem?_eq_some_iff.mp hp).1
  have hj := List.getElem?_eq_getElem hil
  obtain ⟨d, hd, e⟩ := R.tab.before hK (i := i) (by rw [List.getElem?_map, hp, ← hk]; rfl) hj
  exact ⟨d, Nat.zero_le _, hd, by rw [hj, e]⟩
/-! ### laid anew -/
theorem ord_rws {order : Array Nat} (hr : es.toList = rws P w L) (hp : order.toList.Perm (List.range L.length)) :
    ∃ L2, (order.filterMap (es[·]?)).toList = rws P w L2 ∧ L2.Perm L ∧ (L2.map fun p => th P w p.2) = order.toList.map fun i => (es.map (·.1)).getD i 0 := by
  have hin : ∀ i ∈ order.toList, i < L.length := fun i hi => List.mem_range.mp (hp.mem_iff.mp hi)
  have hL : ∀ i (h : i < L.length), L.getD i (0, []) = L[i] := fun i h => by rw [List.getD_eq_getElem?_getD, List.getElem?_eq_getElem h]; rfl
  have he : ∀ i, i < L.length → es[i]? = some (th P w (L.getD i (0, [])).2, Value.ref (L.getD i (0, [])).1) := fun i h => by
    rw [← Array.getElem?_toList, hr, hL i h]
    unfold rws
    rw [List.getElem?_map, List.getElem?_eq_getElem h]
    rfl
  refine ⟨order.toList.map fun i => L.getD i (0, []), ?_, ?_, ?_⟩
  · rw [Array.toList_filterMap]
    have : ∀ l : List Nat, (∀ i ∈ l, i < L.length) → l.filterMap (fun i => es[i]?) = rws P w (l.map fun i => L.getD i (0, [])) := by
      intro l
      induction l with
      | nil => intro _; rfl
      | cons i l ih =>
        intro h
        rw [List.filterMap_cons_some (he i (h i List.mem_cons_self)), ih fun j hj => h j (List.mem_cons_of_mem _ hj)]
        rfl
    exact this _ hin
  · have h2 : (List.range L.length).map (fun i => L.getD i (0, [])) = L := by
      apply List.ext_getElem
      · simp
      · intro i h1 h2
        rw [List.getElem_map, List.getElem_range, hL i h2]
    have h1 := hp.map fun i => L.getD i (0, [])
    rwa [h2] at h1
  · rw [List.map_map]
    refine List.map_congr_left fun i hi => ?_
    have h := hin i hi
    have e5 : (es.map (·.1))[i]? = some (th P w (L.getD i (0, [])).2) := by rw [Array.getElem?_map, he i h]; rfl
    rw [Array.getD_eq_getD_getElem?, e5]
    rfl
theorem key_same {h h' : Heap} {k : List Key} {b : Addr} {o : Obj} (hb : IsK P w h k b) (ho : h.get? a = some o) (hd : o.data = .set es ep t) (hs : Heap.SameBut a h h') : IsK P w h' k b := by
  obtain ⟨u, items, n, hu, hc, hd', hi⟩ := hb
  refine ⟨u, items, n, (hs.2 b ?_).trans hu, hc, hd', hi⟩
  rintro rfl
  rw [hu] at ho
  cases ho
  rw [hd] at hd'
  cases hd'
theorem relay {o : Obj} (ho : s.heap.get? a = some o) (hex : o.ExactSet) (hd : o.data = .set es ep t) (hrow : es.toList = rws P w L) (T : TO t (L.map fun p => th P w p.2)) (hfl : L.length ≤ t.mask)
    (nd : (L.map (·.2)).Nodup) (ld : w.params.followText "set-order" = true ∨ t.led = true) {wanted M : Nat}
    (hw : SetTable.sizeAbove wanted - 1 = M) (hM : M5 M) (hw2 : SetTable.sizeAbove wanted ≤ sizeLine) (hn : L.length * 5 < M * 3) (hz : L.length ≤ sizeLine) {Q : Unit → Shared → Prop}
    (hQ : ∀ h' L' es' ep' t', Heap.SameBut a s.heap h' → KSet P w h' a L' es' ep' t' → L'.Perm L → Q () { s with heap := h' }) : wpAny (model P w) A (setRelay a wanted) Q E s := by
  have hsl : es.size = L.length := rws_len hrow
  have hts := T.sz
  rw [List.length_map, Array.length_toList] at hts
  have hfits : t.fits es.size = true := by
    unfold SetTable.fits SetTable.fill
    rw [T.dm, Bool.and_eq_true, beq_iff_eq, decide_eq_true_eq]
    show t.place.size = es.size ∧ t.place.size + 0 ≤ t.mask
    omega
  obtain ⟨t', order, e, hp, T', em, el⟩ := relaid (t := t) (hs := es.map (·.1)) (wanted := wanted) hw hM.ms (by rw [Array.size_map, hsl]; omega)
  rw [Array.size_map, hsl] at hp
  obtain ⟨L2, r1, r2, r3⟩ := ord_rws hrow hp
  rw [← r3] at T'
  have hs2 : (order.filterMap (es[·]?)).size = es.size := by rw [rws_len r1, r2.length_eq, hsl]
  rw [setRelay_eq]
  refine wpAny_bind (wpAny_setState_of ho hd hfits ?_)
  dsimp only
  refine wp_if_neg (by omega) ?_
  try refine wpAny_bind (wpAny_pure ?_)
  rw [e]
  dsimp only
  refine wpAny_bind (wp_if_neg (by rw [hs2]; simp) ?_)
  try refine wpAny_bind (wpAny_pure ?_)
  refine wpAny_pure ?_
  dsimp only
  refine wpAny_storeSet_of ho hd ?_ (by rw [hs2, hsl]; exact hz)
  exact hQ _ L2 _ (ep + 1) t' (Heap.SameBut.update ..) ⟨⟨_, store_at ho hd, ⟨hex.1, hex.2.1, hex.2.2⟩, rfl⟩, r1, T', (r2.map (·.2)).nodup_iff.mpr nd, by rw [el]; exact ld, by rw [em]; exact hM, by rw [r2.length_eq, em]; exact hn⟩ r2
theorem TO.same {t t2 : SetTable} {hs : List Int} (T : TO t hs) (h1 : t2.place = t.place) (h2 : t2.dummies = t.dummies) (h3 : t2.mask = t.mask) : TO t2 hs := by
  obtain ⟨a, b, c, d, e, f⟩ := T
  rw [← h1] at a c e f
  rw [← h2] at b
  rw [← h3] at d e f
  exact ⟨a, b, c, d, e, f⟩
/-- a member put in -/
theorem addH (R : KFull P w s.heap a L es ep t) {x : Addr} {k : List Key} (hx : IsK P w s.heap k x) (hu : A.units < cLine) (hfew : L.length < 1228) {Q : Bool → Shared → Prop}
    (hQ : ∀ b h' L' es' ep' t', Heap.SameBut a s.heap h' → KSet P w h' a L' es' ep' t' → (k ∈ L.map (·.2) → L' = L) → (k ∉ L.map (·.2) → L'.Perm ((x, k) :: L)) → Q b { s with heap := h' }) :
    wpAny (model P w) A (setAddHashed a (.ref x) (th P w k)) Q E s := by
  obtain ⟨o, ho, hex, hd⟩ := R.ob
  have hsl := R.sz
  have hroom := R.room
  unfold setAddHashed
  refine wpAny_holding ?_
  rw [show (100000 : Nat) = 99999 + 1 from rfl, setAddHashedIn_succ]
  refine wpAny_bind (wpAny_setState_of ho hd R.fits ?_)
  dsimp only
  refine wp_if_neg (by simp [byScan, Value.scannable]) ?_
  try refine wpAny_bind (wpAny_pure ?_)
  refine wpAny_bind (seek0 R hx hu (fun hm => wpAny_pure (hQ false s.heap L es ep t (Heap.SameBut.refl a s.heap) R.toKSet (fun _ => rfl) fun z => absurd hm z)) fun K hm hK hb => ?_)
  dsimp only
  refine wpAny_bind (wpAny_setState_of ho hd R.fits ?_)
  dsimp only
  generalize hj : wy t.mask (th P w k) K = j at hK ⊢
  obtain ⟨q1, q2, q3⟩ := R.tab.put hj rfl hK hb
  have q4 : (t.put j).1.mask = t.mask := rfl
  have q5 : (t.put j).1.led = t.led := rfl
  have q6 : (t.put j).2 = SetTable.below t.place j := rfl
  generalize t.put j = pt at q2 q3 q4 q5 q6 ⊢
  obtain ⟨t1, p⟩ := pt
  dsimp only at q2 q3 q4 q5 q6 ⊢
  subst q6
  generalize SetTable.below t.place j = p at q1 q2 ⊢
  -- what is stored, whatever the flag
  have tail : ∀ t2 : SetTable, t2.place = t1.place → t2.dummies = t1.dummies → t2.mask = t1.mask → t2.led = t1.led →
      wpAny (model P w) A (do
        storeSet a (SetTable.insertAt es p (th P w k, Value.ref x)) t2
        if (!false && t2.tooFull) = true then do
          setRelay a (SetTable.grown (es.size + 1))
          pure true
        else pure true) Q E s := by
    intro t2 z1 z2 z3 z4
    have pm := put_perm L p (x, k)
    have hlen : (L.take p ++ (x, k) :: L.drop p).length = L.length + 1 := pm.length_eq
    have q2 : TO t2 ((L.take p ++ (x, k) :: L.drop p).map fun p => th P w p.2) := by
      refine TO.same ?_ z1 z2 z3
      rw [List.map_append, List.map_cons, List.map_take, List.map_drop]
      exact q2
    have hrow : (SetTable.insertAt es p (th P w k, Value.ref x)).toList = rws P w (L.take p ++ (x, k) :: L.drop p) := by
      rw [SetTable.toList_insertAt, R.row]
      unfold rws
      rw [List.map_append, List.map_cons, List.map_take, List.map_drop]
    have nd1 : ((L.take p ++ (x, k) :: L.drop p).map (·.2)).Nodup := by
      refine (pm.map (·.2)).nodup_iff.mpr ?_
      rw [List.map_cons]
      exact List.nodup_cons.mpr ⟨hm, R.nd⟩
    have hfill : t2.fill = L.length + 1 := by
      have : t2.fill = t1.fill := by unfold SetTable.fill; rw [z1, z2]
      rw [this, q3, List.length_map]
    have hes := rws_len hrow
    rw [hlen] at hes
    generalize SetTable.insertAt es p (th P w k, Value.ref x) = es1 at hrow hes ⊢
    generalize L.take p ++ (x, k) :: L.drop p = L1 at pm hlen q2 nd1 hrow
    have ld1 : w.params.followText "set-order" = true ∨ t2.led = true := by rw [z4, q5]; exact R.led
    have hm2 : t2.mask = t.mask := z3.trans q4
    refine wpAny_bind (wpAny_storeSet_of ho hd ?_ (by rw [hes, sizeLine_eq]; omega))
    have sb : Heap.SameBut a s.heap (s.heap.update a (Obj.putSet es1 t2)) := Heap.SameBut.update ..
    have ho1 := store_at (es' := es1) (t' := t2) ho hd
    generalize s.heap.update a (Obj.putSet es1 t2) = h1 at sb ho1 ⊢
    by_cases hf : t2.tooFull = true
    · refine wp_if_pos (by simp [hf]) ?_
      have hfull : (L.length + 1) * 5 ≥ t.mask * 3 := by
        unfold SetTable.tooFull at hf
        rw [decide_eq_true_eq, hfill, hm2] at hf
        exact hf
      have go : ∀ W : Nat, SetTable.sizeAbove (SetTable.grown (L.length + 1)) = W → M5 (W - 1) → W ≤ 2048 → (L.length + 1) * 5 < (W - 1) * 3 → L.length + 1 ≤ t.mask →
          wpAny (model P w) A (do setRelay a (SetTable.grown (es.size + 1)); pure true) Q E { s with heap := h1 } := fun W w1 w2 w3 w4 w5 => by
        rw [hsl]
        refine wpAny_bind (relay (s := { s with heap := h1 }) ho1 ⟨hex.1, hex.2.1, hex.2.2⟩ rfl hrow q2 (by rw [hlen, hm2]; exact w5) nd1 ld1 (by rw [w1]) w2 (by rw [w1, sizeLine_eq]; omega) (by rw [hlen]; exact w4) (by rw [hlen, sizeLine_eq]; omega) ?_)
        intro h2 L2 es2 ep2 t3 sb2 R2 pm2
        exact wpAny_pure (hQ true h2 L2 es2 ep2 t3 (sb.trans sb2) R2 (fun z => absurd z hm) fun _ => pm2.trans pm)
      rcases R.m5 with e | e | e | e | e <;> rw [e] at hfull hroom
      · have z : L.length = 4 := by omega
        exact go 32 (by rw [z]; decide +kernel) (.inr (.inl rfl)) (by decide) (by omega) (by omega)
      · have z : L.length = 18 := by omega
        exact go 128 (by rw [z]; decide +kernel) (.inr (.inr (.inl rfl))) (by decide) (by omega) (by omega)
      · have z : L.length = 76 := by omega
        exact go 512 (by rw [z]; decide +kernel) (.inr (.inr (.inr (.inl rfl)))) (by decide) (by omega) (by omega)
      · have z : L.length = 306 := by omega
        exact go 2048 (by rw [z]; decide +kernel) (.inr (.inr (.inr (.inr rfl)))) (by decide) (by omega) (by omega)
      · omega
    · refine wp_if_neg (by simp [hf]) ?_
      refine wpAny_pure (hQ true h1 L1 es1 (ep + 1) t2 sb ⟨⟨_, ho1, ⟨hex.1, hex.2.1, hex.2.2⟩, rfl⟩, hrow, q2, nd1, ld1, by rw [hm2]; exact R.m5, ?_⟩ (fun z => absurd z hm) fun _ => pm)
      unfold SetTable.tooFull at hf
      rw [decide_eq_true_eq, hfill] at hf
      rw [hlen]
      omega
  have flag : ∀ b : Bool, wpAny (model P w) A (do
        storeSet a (SetTable.insertAt es p (th P w k, Value.ref x)) (if b = true then t1 else { t1 with plain := false })
        if (!false && (if b = true then t1 else { t1 with plain := false }).tooFull) = true then do
          setRelay a (SetTable.grown (es.size + 1))
          pure true
        else pure true) Q E s := fun b => by
    cases b
    · exact tail { t1 with plain := false } rfl rfl rfl rfl
    · exact tail t1 rfl rfl rfl rfl
  by_cases hpl : t1.plain = true
  · first
      | (refine wpAny_bind ?_; refine wp_if_pos hpl ?_; refine hashBy_tupK hx fun b => ?_; exact flag b)
      | (refine wp_if_pos hpl (wpAny_bind (hashBy_tupK hx fun b => ?_)); exact flag b)
  · first
      | (refine wpAny_bind ?_; refine wp_if_neg hpl ?_; refine wpAny_pure ?_; exact flag true)
      | (refine wp_if_neg hpl (wpAny_bind (wpAny_pure ?_)); exact flag true)
end
end K81
set_option Elab.async false
set_option linter.all false
set_option maxRecDepth 100000
set_option maxHeartbeats 2000000
set_option autoImplicit false
/-! K81S3: the set as a thing of the abstract heap, set.add; comprehensions that make a set or a dict with tuple keys. -/
namespace K81
open PySem PySem.Spec L2
open PyProof.Rows

/-! ### the set as a thing of the abstract heap -/
def KO (P : Program) (w : World) (a : Addr) (L : List Ent) : HO := .ext fun h => ∃ es ep t, KSet P w h a L es ep t
theorem ko_new {P : Program} {w : World} {H : Hp} {h : Heap} {a : Addr} {L : List Ent} {es : Array (Int × Value)} {ep : Nat} {t : SetTable} (R : KSet P w h a L es ep t) : ObjOk P w H h a (KO P w a L) :=
  ⟨⟨es, ep, t, R⟩, let ⟨o, ho, _⟩ := R.ob; ⟨o, ho⟩, fun h1 h2 ⟨es, ep, t, r⟩ k => ⟨es, ep, t, r.keep k⟩⟩
/-- the members' tuples -/
def Tps (H : Hp) (L : List Ent) : Prop := ∀ p ∈ L, H p.1 = some (.tup (p.2.map kV))
abbrev setObj (w : World) : Obj := { cls := .type "set", dict := none, data := .set #[] 0 (.fresh 0 0 (!w.params.followText "set-order")) }
section
variable {X : Cx} {pins : List (Addr × Obj)} {σ : L2.St} {H : Hp} {s : Shared}
theorem M5_7 : M5 7 := .inl rfl
theorem M5_room : ([] : List Ent).length * 5 < 7 * 3 := by decide
theorem ko_fresh {P : Program} {w : World} {h : Heap} : ObjOk P w H (h.push (setObj w)) h.objs.size (KO P w h.objs.size []) := by
  refine ko_new (es := #[]) (ep := 0) (t := .fresh 0 0 (!w.params.followText "set-order")) ⟨⟨_, Heap.get?_push_size _ rfl, ⟨rfl, rfl, rfl⟩, rfl⟩, rfl, TO.fresh _ _ _, List.nodup_nil, ?_, M5_7, M5_room⟩
  show _ ∨ (!w.params.followText "set-order") = true
  cases w.params.followText "set-order"
  · exact .inr rfl
  · exact .inl rfl
theorem ko_full {a : Addr} {L : List Ent} (I : Inv X pins σ H s) (h : H a = some (KO X.prog X.w a L)) (ht : Tps H L) : ∃ es ep t, KFull X.prog X.w s.heap a L es ep t := by
  obtain ⟨⟨es, ep, t, R⟩, _⟩ := (show ObjOk X.prog X.w H s.heap a (KO X.prog X.w a L) from I.hok a _ h)
  exact ⟨es, ep, t, ⟨R, fun p hp => key_of I.hok (ht p hp)⟩⟩
/-- set.add -/
theorem set_addK {D x : Addr} {k : List Key} {L : List Ent} {E : Value → Shared → Prop} {Q : Value → Shared → Prop} (hu : X.A.units + 64 < cLine) (I : Inv X pins σ H s) (hD : H D = some (KO X.prog X.w D L)) (hx : H x = some (.tup (k.map kV))) (ht : Tps H L) (hl : L.length < 1228)
    (h : ∀ s' L', (k ∈ L.map (·.2) → L' = L) → (k ∉ L.map (·.2) → L'.Perm ((x, k) :: L)) → Inv X pins σ (upd H D (KO X.prog X.w D L')) s' → Q .none s') : wpAny (model X.prog X.w) X.A (call (.builtin "set.add") [.ref D, .ref x]) Q E s := by
  obtain ⟨es, ep, t, R⟩ := ko_full I hD ht
  have hk : IsK X.prog X.w s.heap k x := key_of I.hok hx
  obtain ⟨o, ho, hex, hd⟩ := R.ob
  refine wpAny_call_entry F.slot_set_add ⟨o, ho, hex.1⟩ F.entry_set_add ?_ (F.args_set_add_2 _ _)
  unfold Builtin.«set.add» Builtin.Frozenset.oneOther
  simp only [List.isEmpty_nil, bind_assoc]
  unfold Builtin.Frozenset.addrOf setAdd
  refine wpAny_bind (wpAny_pure ?_)
  try dsimp only
  refine wpAny_bind (wpAny_pure ?_)
  try dsimp only
  refine wpAny_bind (wpAny_holding (wpAny_bind (wpAny_pyHash_tuple (show X.A.in1.units < cLine by have : X.A.in1.units ≤ X.A.units + 1 := Nat.le_refl _; omega) hk ?_)))
  refine addH (s := { s with toks := s.toks + (k.length + 1) }) R hk (show X.A.in1.units < cLine by have : X.A.in1.units ≤ X.A.units + 1 := Nat.le_refl _; omega) hl fun b h' L' es' ep' t' sb R' c1 c2 => ?_
  show wpAny _ _ (ret Value.none) _ _ _
  have he : ∃ u, h'.get? D = some u := let ⟨o, ho, _⟩ := R'.ob; ⟨o, ho⟩
  exact wpAny_pure ⟨_, rfl, h _ L' c1 c2 (I.write (e := D) (t' := s.toks + (k.length + 1)) (by rw [hD]; trivial) (.inl rfl) (fun b u hb hu => (sb.2 b hb).trans hu) he (ko_new R'))⟩
/-- d[k] = v by a comprehension, the key a tuple -/
theorem d_dictSetT {D b : Addr} {kvs : List (List Key × V)} {k : List Key} {v : V} {r : Value} {E : Value → Shared → Prop} {Q : Unit → Shared → Prop} (hu : X.A.units < cLine) (I : Inv X pins σ H s) (hD : H D = some (.dT kvs)) (hb : H b = some (.tup (k.map kV))) (hz : kvs.length < sizeLine)
    (rv : RelV v r) (h : ∀ s', Inv X pins σ (upd H D (.dT (putK kvs k v))) s' → Q () s') : wpAny (model X.prog X.w) X.A (dictSet D (.ref b) r) Q E s := by
  obtain ⟨z, hd, xs, rel, dd⟩ := dt_of I.hok hD
  have hz : xs.length ≤ sizeLine := by rw [← Paired.length rel]; exact z
  have hl : (putK kvs k v).length ≤ sizeLine := by have := length_putK kvs k v; omega
  refine wpAny_dictSet_heap (hsz := hz) (knd := tupleKind (mixKind X.prog X.w)) hu (key_of I.hok hb) dd fun h' dd' hs => ?_
  obtain ⟨q, es, ep, hq, h2, h3, h4, _, h5⟩ := dd'
  refine h _ (d_write I (by rw [hD]; exact True.intro) hs ⟨q, hq⟩ ⟨hl, hd, _, (rel.put k hb rv).keeps fun c ys ec => ?_, q, es, ep, hq, h2, h3, h4, h5⟩)
  rw [upd_ne (ne_of ec hD (fun z => nomatch z))]
  exact ec
end

/-! ### comprehensions, whatever they make -/
/-- how a comprehension's turn ends: env, the new thing, what is known of an error, what is known behind it -/
abbrev TurnEnd := Env → Addr → (Value → Shared → Prop) → (Shared → Prop) → Shared → Prop
/-- what a comprehension makes -/
structure CmpMk (X : Cx) (ex tg iter : Expr) (ifs : List Expr) (pos : Pos) (mk : Sem Value) (ob : Obj) (o0 : Addr → HO) (B : TurnEnd) : Prop where
  clause : clausesOf ex = [⟨tg, iter, ifs, 0⟩]
  make : ∀ {A : Around} {E : Value → Shared → Prop} {s : Shared} {Q : Value → Shared → Prop}, Q (.ref s.heap.objs.size) { s with heap := s.heap.push ob } → wpAny (model X.prog X.w) A mk Q E s
  new : ∀ {pins : List (Addr × Obj)} {σ : L2.St} {H H' : Hp} {s : Shared}, Inv X pins σ H s → ObjOk X.prog X.w H' (s.heap.push ob) s.heap.objs.size (o0 s.heap.objs.size)
  start : ∀ {A : Around} {it acc : Value} {env : Env} {R : Result → Shared → Prop} {s : Shared}, codeAny (model X.prog X.w) A (.compLoop ex 0 it acc env) R s →
    wpAny (model X.prog X.w) A (pyIter it) (fun it' s' => codeAny (model X.prog X.w) A (.compLoop ex 0 it' acc env) R s') (notedBy (model X.prog X.w) A env fun x s' => R (.error x) s') s → codeAny (model X.prog X.w) A (.compStart ex 0 it acc env) R s
  loop : ∀ {A : Around} {it : Value} {D : Addr} {env : Env} {R : Result → Shared → Prop} {s : Shared} (I : Nat → Shared → Prop),
    (∀ n s, I n s → wpAny (model X.prog X.w) A (pyNext it) (fun r s₁ => match r with
      | none => R (.ok .next) s₁
      | some v => wpAny (model X.prog X.w) A (letOwnedTupleGo tg it v) (fun _ s₂ => wpAny (model X.prog X.w) A (assign tg env v) (fun _ s₃ =>
          wpAny (model X.prog X.w) A (forIn ifs true fun c r => if r = true then do let ok ← isTrue c env (eval c env); pure (ForInStep.yield ok) else pure (ForInStep.yield r)) (fun ok s₄ =>
            if ok = true then A = X.A ∧ B env D (notedBy (model X.prog X.w) A env fun e s' => R (.error e) s') (fun s₅ => ∃ m, m < n ∧ I m s₅) s₄ else ∃ m, m < n ∧ I m s₄)
            (notedBy (model X.prog X.w) A env fun e s' => R (.error e) s') s₃) (notedBy (model X.prog X.w) A env fun e s' => R (.error e) s') s₂) (notedBy (model X.prog X.w) A env fun e s' => R (.error e) s') s₁) (notedBy (model X.prog X.w) A env fun e s' => R (.error e) s') s) →
    ∀ n, I n s → codeAny (model X.prog X.w) A (.compLoop ex 0 it (.ref D) env) R s
/-- the reading: tB is the turn's end -/
def tCm (o0 : Addr → HO) (wi : TI) (g : TG) (tt : TT) (tB : Addr → L2.St → Hp → (Hp → Prop) → Prop) (vs : List Nat) : TE := fun σ H Q => wi σ H fun J H1 => ∀ D, H1 D = none → ∃ W : Nat → Nat → Hp → Prop, (∃ m, W 0 m (upd H1 D (o0 D))) ∧ ∀ i m H, W i m H →
  (J.stop i H ∧ Q (.ref D) H) ∨ (J.go i H ∧ ∃ Nx : Hp → Prop, (∀ H', Nx H' → ∃ m', m' < m ∧ W (i + 1) m' H') ∧ ∀ x H', J.yld i H x H' → g x (wipe σ vs) H' fun σ2 H2 => wipe σ2 vs = wipe σ vs ∧ tt σ2 H2 fun b H3 =>
    if b = true then tB D σ2 H3 Nx else Nx H3)
section
variable {X : Cx} {ex tg iter : Expr} {ifs : List Expr} {pos pos' : Pos} {mk : Sem Value} {ob : Obj} {o0 : Addr → HO} {B : TurnEnd} {scope : Scope} {own : List (PySem.Str × Nat)} {wi : TI} {g : TG} {tt : TT} {tB : Addr → L2.St → Hp → (Hp → Prop) → Prop}
/-- a comprehension's block -/
abbrev Blk (X : Cx) (scope : Scope) (s : Shared) (H : Hp) (C : Addr) (cl : List (PySem.Str × Addr)) (fp : List Addr) : Cx := X.blk s H scope (compEnvC scope cl C X.env) fp
theorem cm_core {pins : List (Addr × Obj)} {s : Shared} {σ : L2.St} {H : Hp} {Q : VK} (M : CmpMk X ex tg iter ifs pos mk ob o0 B) (hc : X.calm = true) (hN : X.N.Nodup) (I : Inv X pins σ H s) (hi : PI X tg iter wi) (ok : BlkOk X.N X.env.scope scope own)
    (hg : ∀ (s : Shared) (H : Hp) (C : Addr) (cl : List (PySem.Str × Addr)) (fp : List Addr), PG (Blk X scope s H C cl fp) tg g) (ht : ∀ (s : Shared) (H : Hp) (C : Addr) (cl : List (PySem.Str × Addr)) (fp : List Addr), PTs (Blk X scope s H C cl fp) ifs tt)
    (hB : ∀ (s0 : Shared) (H0 : Hp) (C : Addr) (cl : List (PySem.Str × Addr)) (fp : List Addr) (D : Addr) (pins : List (Addr × Obj)) (s : Shared) (σ : L2.St) (H : Hp) (Nx : Hp → Prop) (Er : Value → Shared → Prop) (Q : Shared → Prop), Inv (Blk X scope s0 H0 C cl fp) pins σ H s → tB D σ H Nx →
      (∀ s' H', Inv (Blk X scope s0 H0 C cl fp) pins σ H' s' → Nx H' → Q s') → B (compEnvC scope cl C X.env) D Er Q s)
    (hs : ∀ x, foldedSetIterable iter X.env x = pure x) (h : tCm o0 wi g tt tB (own.map (·.2)) σ H Q) :
    wpAny (model X.prog X.w) X.A (comprehension ex scope X.env pos' mk false (eval iter X.env) none) (EP X pins σ Q) X.xe s := by
  have hfree : ∀ y ∈ scope.names, y.2 = .free → ∃ c, X.env.cells.lookup y.1 = some c := fun y hy e => (ok.free y hy e).elim (fun k => I.ok.has _ (.inl k)) fun k => I.ok.has _ (.inr k)
  refine wpAny_comprehension_free (use := none) M.clause hs (closure_ok hfree) ok.kind (fun y hy e => by rw [ok.uniq y hy, e]) (thn (hi.run pins s σ H _ I h) fun xv s1 hx => thn hx fun itv s2 h2 => ?_)
  obtain ⟨it, fp, tn, J, H2, rfl, I2, T, st2, f2, q⟩ := h2
  refine M.make (newEnv_comp ?_)
  obtain ⟨D, hD⟩ : ∃ D, s2.heap.objs.size = D := ⟨_, rfl⟩
  have hDn : H2 D = none := I2.hok.fresh (Nat.le_of_eq hD)
  obtain ⟨W, ⟨m0, w0⟩, turn⟩ := q D hDn
  have I3 : Inv X pins σ (upd H2 D (o0 D)) { s2 with heap := s2.heap.push ob } := I2.laid (t' := s2.toks) (fun b o e => Heap.get?_push_of_some _ e) (Nat.le_of_eq hD) (hD ▸ M.new I2)
  rw [hD]
  generalize hs3 : ({ s2 with heap := s2.heap.push ob } : Shared) = s3 at I3 ⊢
  have k3 : ∀ b o, s2.heap.get? b = some o → s3.heap.get? b = some o := fun b o e => by rw [← hs3]; exact Heap.get?_push_of_some _ e
  have z3 : s3.heap.objs.size = s2.heap.objs.size + 1 := by rw [← hs3]; exact Heap.size_push _ _
  have f3 : ∀ b ∈ fp, FpOk X pins (upd H2 D (o0 D)) b ∧ b < s3.heap.objs.size := fun b hb => by
    obtain ⟨o, e, _⟩ := T.obj _ _ st2 b hb
    have hlt := Heap.lt_size e
    obtain ⟨n, r⟩ := f2 b hb
    exact ⟨⟨by rw [upd_ne (Nat.ne_of_lt (hD ▸ hlt))]; exact n, r⟩, by rw [z3]; exact Nat.lt_succ_of_lt hlt⟩
  have st3 : tn 0 s3.heap := T.keep _ _ _ st2 fun b _ o e => k3 b o e
  have I4 := block_start I3 ok hN f3
  obtain ⟨H3, hH3⟩ : ∃ H3, upd H2 D (o0 D) = H3 := ⟨_, rfl⟩
  rw [hH3] at I3 I4 w0 f3
  show codeAny _ _ (.compStart ex 0 (.ref it) (.ref D) (compEnvC scope (cellsFrom (s3.heap.objs.size + 1) scope.names (cloFrom X.env.cells scope.names [])) s3.heap.objs.size X.env)) (compPost (model X.prog X.w) X.A X.xe none (EP X pins σ Q) (.ref D) s3.heap.objs.size) { s3 with heap := pushCells (s3.heap.push { cls := .type "dict", data := .dict #[] }) scope.names }
  generalize hcl : cellsFrom (s3.heap.objs.size + 1) scope.names (cloFrom X.env.cells scope.names []) = cl at I4 ⊢
  have pg := hg s3 H3 s3.heap.objs.size cl fp
  have pt := ht s3 H3 s3.heap.objs.size cl fp
  have pb := hB s3 H3 s3.heap.objs.size cl fp D
  have cL : (compEnvC scope cl s3.heap.objs.size X.env).locals = s3.heap.objs.size := rfl
  generalize hs4 : ({ s3 with heap := pushCells (s3.heap.push { cls := .type "dict", data := .dict #[] }) scope.names } : Shared) = s4 at I4 ⊢
  have st4 : tn 0 s4.heap := T.keep _ _ _ st3 fun b _ o e => by rw [← hs4]; exact pushCells_keeps _ _ _ _ (Heap.get?_push_of_some _ e)
  have stat : ∀ {σ' : L2.St} {H' : Hp} {s' : Shared}, Inv (Blk X scope s3 H3 s3.heap.objs.size cl fp) [] σ' H' s' → (∀ b ∈ fp, H' b = none) → ∀ b ∈ fp, FpOk (Blk X scope s3 H3 s3.heap.objs.size cl fp) [] H' b := fun {σ' H' s'} J n b hb =>
    ⟨n b hb, (J.ok.exf b hb).1, J.ok.exfs b hb, .inl hb, fun x c e => (J.ok.exf b hb).2 x c e, fun p hp => absurd (show p ∈ ([] : List (Addr × Obj)) ++ [] from hp) (by simp)⟩
  have loop : codeAny (model X.prog X.w) X.A (.compLoop ex 0 (.ref it) (.ref D) (compEnvC scope cl s3.heap.objs.size X.env)) (compPost (model X.prog X.w) X.A X.xe none (EP X pins σ Q) (.ref D) s3.heap.objs.size) s4 := by
    refine M.loop (fun n s' => ∃ i H', Inv (Blk X scope s3 H3 s3.heap.objs.size cl fp) [] (wipe σ (own.map (·.2))) H' s' ∧ tn i s'.heap ∧ (∀ b ∈ fp, H' b = none) ∧ W i n H') ?_ m0 ⟨0, H3, I4, st4, fun b hb => (f3 b hb).1.1, w0⟩
    rintro n s5 ⟨i, H5, I5, st5, n5, w5⟩
    rcases turn i n H5 w5 with ⟨stop, qq⟩ | ⟨go, Nx, hNx, step⟩
    · refine thnF (T.done (Blk X scope s3 H3 s3.heap.objs.size cl fp) rfl rfl rfl hc i [] s5 _ H5 (fun _ _ => False) I5 (stat I5 n5) st5 stop) fun r s6 ⟨hr, I6⟩ => ?_
      subst hr
      have I7 : Inv X pins σ H5 s6 := I3.call' (ch := fp) I6.os I6.base I6.hok I6.bare fun b hb => ⟨(f3 b hb).1.2.2.2.1, (f3 b hb).1.2.1, (f3 b hb).1.2.2.2.2.1, (f3 b hb).1.2.2.2.2.2⟩
      have nC : H5 s3.heap.objs.size = none := I6.free
      obtain ⟨m, hn, _⟩ := I6.loc
      obtain ⟨c0, c1, c2, c3, c4, c5⟩ := I3.fpOk (Nat.le_refl _) nC
      exact ⟨m, hn, fun h'' sb => ⟨.ref D, H5, I7.turned (t' := s6.toks) (fun b o hb e => (sb.2 b hb).trans e) c0 c1 c3 c4 c5, rfl, qq⟩⟩
    · refine thnF (T.item (Blk X scope s3 H3 s3.heap.objs.size cl fp) rfl rfl rfl hc i [] s5 _ H5 (fun _ _ => False) I5 (stat I5 n5) st5 go) fun r s6 ⟨u, hr, h6⟩ => ?_
      subst hr
      refine thnF h6 fun _ s7 ⟨x, H7, I7, r7, y7, st7, n7⟩ => ?_
      refine thnF (pg.run _ s7 _ H7 x u _ (I7.pinned (stat I7 n7) (T.obj _ _ st7)) r7 (step x H7 y7)) fun _ s8 ⟨σ8, H8, I8, hw8, q8⟩ => ?_
      have fin : ∀ {s' : Shared} {H' : Hp}, Inv (Blk X scope s3 H3 s3.heap.objs.size cl fp) ([] ++ pinsAt fp s7.heap) σ8 H' s' → Nx H' → ∃ m, m < n ∧ ∃ i H', Inv (Blk X scope s3 H3 s3.heap.objs.size cl fp) [] (wipe σ (own.map (·.2))) H' s' ∧ tn i s'.heap ∧ (∀ b ∈ fp, H' b = none) ∧ W i m H' := by
        intro s' H' J nx
        obtain ⟨m', hm, w'⟩ := hNx H' nx
        have pin : ∀ b ∈ fp, ∀ o, s7.heap.get? b = some o → s'.heap.get? b = some o ∧ H' b = none := fun b hb o e =>
          let z := J.pin (b, o) (List.mem_append_right _ (List.mem_append_right _ (mem_pinsAt hb e)))
          ⟨z.1, z.2.1⟩
        refine ⟨m', hm, i + 1, H', (J.unpinned (pins := [])).weak (by rw [← hw8, wipe_length]) (fun j v e => ?_), T.keep _ _ _ st7 fun b hb o e => (pin b hb o e).1, fun b hb => ?_, w'⟩
        · rw [← hw8] at e
          exact (wipe_some e).1
        · obtain ⟨o, e, _⟩ := T.obj _ _ st7 b hb
          exact (pin b hb o e).2
      refine thnF (pt.run _ s8 σ8 H8 _ I8 q8) fun b s9 ⟨H9, I9, q9⟩ => ?_
      cases b with
      | false =>
        rw [if_neg Bool.false_ne_true] at q9 ⊢
        exact fin I9 q9
      | true =>
        rw [if_pos rfl] at q9 ⊢
        exact ⟨rfl, pb _ s9 σ8 H9 Nx _ _ I9 q9 fun s' H' J nx => fin J nx⟩
  exact M.start loop (T.self X.A 0 _ _ _ st4 loop)
end
/-! ### the set's -/
def EndS (X : Cx) (elt : Expr) : TurnEnd := fun env D Er Q s => wpAny (model X.prog X.w) X.A (eval elt env) (fun x s1 => wpAny (model X.prog X.w) X.A (call (.builtin "set.add") [.ref D, x]) (fun _ s2 => Q s2) Er s1) Er s
theorem mk_set {X : Cx} {elt tg iter : Expr} {ifs : List Expr} {scope : Scope} {pos : Pos} : CmpMk X (.SetComp elt [⟨tg, iter, ifs, 0⟩] scope pos) tg iter ifs pos (newSet (.type "set")) (setObj X.w) (fun D => KO X.prog X.w D []) (EndS X elt) where
  clause := rfl
  make := PpSet.newSet_ok
  new := fun _ => ko_fresh
  start := PpSet.codeAny_compStart_set
  loop := fun I turn n h => by
    refine PpSet.compLoopS_any I (fun n s hI => wpAny_mono (turn n s hI) (fun r s1 h1 => ?_) fun _ _ z => z) n h
    cases r with
    | none => exact h1
    | some v =>
      refine wpAny_mono h1 (fun _ s2 h2 => wpAny_mono h2 (fun _ s3 h3 => wpAny_mono h3 (fun ok s4 h4 => ?_) fun _ _ z => z) fun _ _ z => z) fun _ _ z => z
      cases ok with
      | false => rw [if_neg Bool.false_ne_true] at h4 ⊢; exact h4
      | true =>
        rw [if_pos rfl] at h4 ⊢
        obtain ⟨rfl, h4⟩ := h4
        exact h4
/-- a tuple put into the set at D -/
def bSet (P : Program) (w : World) (te : TE) : Addr → L2.St → Hp → (Hp → Prop) → Prop := fun D σ H Nx => te σ H fun y H1 => ∃ (x : Addr) (k : List Key) (L : List Ent), y = .ref x ∧ H1 x = some (.tup (k.map kV)) ∧ H1 D = some (KO P w D L) ∧ Tps H1 L ∧ L.length < 1228 ∧
  ∀ L', (k ∈ L.map (·.2) → L' = L) → (k ∉ L.map (·.2) → L'.Perm ((x, k) :: L)) → Nx (upd H1 D (KO P w D L'))
/-! ### the dict's -/
def EndD (X : Cx) (kx vx : Expr) : TurnEnd := fun env D Er Q s => wpAny (model X.prog X.w) X.A (eval kx env) (fun k s1 => wpAny (model X.prog X.w) X.A (eval vx env) (fun v s2 => wpAny (model X.prog X.w) X.A (dictSet D k v) (fun _ s3 => Q s3) Er s2) Er s1) Er s
theorem mk_dict {X : Cx} {kx vx tg iter : Expr} {ifs : List Expr} {scope : Scope} {pos : Pos} : CmpMk X (.DictComp kx vx [⟨tg, iter, ifs, 0⟩] scope pos) tg iter ifs pos newDict { cls := .type "dict", data := .dict #[] } (fun _ => .dT []) (EndD X kx vx) where
  clause := rfl
  make := fun h => wpAny_newObj_type h
  new := fun I => dt_empty _ I.big
  start := codeAny_compStart_dict
  loop := fun I turn n h => by
    refine compLoop_anyD I (fun n s hI => wpAny_mono (turn n s hI) (fun r s1 h1 => ?_) fun _ _ z => z) n h
    cases r with
    | none => exact h1
    | some v =>
      refine wpAny_mono h1 (fun _ s2 h2 => wpAny_mono h2 (fun _ s3 h3 => wpAny_mono h3 (fun ok s4 h4 => ?_) fun _ _ z => z) fun _ _ z => z) fun _ _ z => z
      cases ok with
      | false => rw [if_neg Bool.false_ne_true] at h4 ⊢; exact h4
      | true =>
        rw [if_pos rfl] at h4 ⊢
        obtain ⟨rfl, h4⟩ := h4
        exact h4
def bDict (tk tv : TE) : Addr → L2.St → Hp → (Hp → Prop) → Prop := fun D σ H Nx => tk σ H fun y H1 => tv σ H1 fun z H2 => ∃ (b : Addr) (k : List Key) (kvs : List (List Key × V)), y = .ref b ∧ H2 b = some (.tup (k.map kV)) ∧ H2 D = some (.dT kvs) ∧ kvs.length < sizeLine ∧ Nx (upd H2 D (.dT (putK kvs k z)))
/-- from now on it stays as it is -/
def tLk (t : TE) : TE := fun σ H Q => t σ H fun v H1 => ∃ D u, v = .ref D ∧ H1 D = some u ∧ Mut (some u) ∧ ∀ od, Q v (upd H1 D (.frz od u))
section
variable {X : Cx} {tg iter : Expr} {ifs : List Expr} {pos : Pos} {scope : Scope} {own : List (PySem.Str × Nat)} {wi : TI} {g : TG} {tt : TT}
theorem pe_scG {elt : Expr} {te : TE} (hc : X.calm = true) (hu : X.A.units + 64 < cLine) (hN : X.N.Nodup) (hi : PI X tg iter wi) (ok : BlkOk X.N X.env.scope scope own)
    (hg : ∀ (s : Shared) (H : Hp) (C : Addr) (cl : List (PySem.Str × Addr)) (fp : List Addr), PG (X.blk s H scope (compEnvC scope cl C X.env) fp) tg g) (ht : ∀ (s : Shared) (H : Hp) (C : Addr) (cl : List (PySem.Str × Addr)) (fp : List Addr), PTs (X.blk s H scope (compEnvC scope cl C X.env) fp) ifs tt)
    (he : ∀ (s : Shared) (H : Hp) (C : Addr) (cl : List (PySem.Str × Addr)) (fp : List Addr), PE (X.blk s H scope (compEnvC scope cl C X.env) fp) elt te) (hs : ∀ x, foldedSetIterable iter X.env x = pure x := by intro _; rfl) :
    PE X (.SetComp elt [⟨tg, iter, ifs, 0⟩] scope pos) (tCm (fun D => KO X.prog X.w D []) wi g tt (bSet X.prog X.w te) (own.map (·.2))) := by
  refine ⟨fun pins s σ H Q I h => ?_⟩
  rw [PpSet.eval_SetComp]
  refine cm_core mk_set hc hN I hi ok hg ht (fun s0 H0 C cl fp D pins s σ H Nx Er Q I hb q => ?_) hs h
  refine thnF ((he s0 H0 C cl fp).run pins s σ H _ I hb) fun v s1 ⟨y, H1, I1, r1, x, k, L, ey, hx, hD, hT, hl, nx⟩ => ?_
  subst ey
  cases r1
  exact set_addK (X := Blk X scope s0 H0 C cl fp) hu I1 hD hx hT hl fun s' L' c1 c2 J => q s' _ J (nx L' c1 c2)
theorem pe_dcU {kx vx : Expr} {tk tv : TE} (hc : X.calm = true) (hu : X.A.units + 64 < cLine) (hN : X.N.Nodup) (hi : PI X tg iter wi) (ok : BlkOk X.N X.env.scope scope own)
    (hg : ∀ (s : Shared) (H : Hp) (C : Addr) (cl : List (PySem.Str × Addr)) (fp : List Addr), PG (X.blk s H scope (compEnvC scope cl C X.env) fp) tg g) (ht : ∀ (s : Shared) (H : Hp) (C : Addr) (cl : List (PySem.Str × Addr)) (fp : List Addr), PTs (X.blk s H scope (compEnvC scope cl C X.env) fp) ifs tt)
    (hk : ∀ (s : Shared) (H : Hp) (C : Addr) (cl : List (PySem.Str × Addr)) (fp : List Addr), PE (X.blk s H scope (compEnvC scope cl C X.env) fp) kx tk)
    (he : ∀ (s : Shared) (H : Hp) (C : Addr) (cl : List (PySem.Str × Addr)) (fp : List Addr), PE (X.blk s H scope (compEnvC scope cl C X.env) fp) vx tv) (hs : ∀ x, foldedSetIterable iter X.env x = pure x := by intro _; rfl) :
    PE X (.DictComp kx vx [⟨tg, iter, ifs, 0⟩] scope pos) (tCm (fun _ => .dT []) wi g tt (bDict tk tv) (own.map (·.2))) := by
  refine ⟨fun pins s σ H Q I h => ?_⟩
  rw [arm_eval_DictComp]
  refine cm_core mk_dict hc hN I hi ok hg ht (fun s0 H0 C cl fp D pins s σ H Nx Er Q I hb q => ?_) hs h
  refine thnF ((hk s0 H0 C cl fp).run pins s σ H _ I hb) fun v s1 ⟨y, H1, I1, r1, h1⟩ => ?_
  refine thnF ((he s0 H0 C cl fp).run pins s1 σ H1 _ I1 h1) fun u s2 ⟨z, H2, I2, r2, b, k, kvs, ey, hb, hD, hl, nx⟩ => ?_
  subst ey
  cases r1
  exact d_dictSetT (X := Blk X scope s0 H0 C cl fp) (show X.A.units < cLine by omega) I2 hD hb hl r2 fun s' J => q s' _ J nx
theorem pe_lk {e : Expr} {t : TE} (h : PE X e t) : PE X e (tLk t) := by
  refine ⟨fun pins s σ H Q I q => thn (h.run pins s σ H _ I q) fun v s1 ⟨y, H1, I1, r1, D, u, ey, hD, mu, nx⟩ => ?_⟩
  subst ey
  obtain ⟨od, J⟩ := I1.lock hD mu
  exact ⟨.ref D, _, J, r1, nx od⟩
end
/-! ### what such a comprehension evaluates to -/
section
variable {α : Type} {xs : List α} {RA : α → Rep} {R : Rep} {wi : TI} {g : TG} {tt : TT} {tB : Addr → L2.St → Hp → (Hp → Prop) → Prop} {o0 : Addr → HO} {vs : List Nat} {H F : Hp} {Rs : Rs_} {p : α → Bool} {Ss : α → Rs_}
/-- the result is new and may still change -/
def EvM (te : TE) (Rs : Rs_) (H F : Hp) (S : Addr → Hp → Hp → Prop) : Prop := ∀ σ H1 F1, G0 H F H1 F1 → En F1 σ Rs → ∀ Q : VK, (∀ D H2 F2, G0 H1 F1 H2 F2 → H1 D = none → S D H2 F2 → Q (.ref D) H2) → te σ H1 Q
theorem ev_cmM (S : Addr → Nat → Hp → Hp → Prop) (src : SrcL wi Rs H F xs RA) (ho : offB vs Rs = true) (hg : ∀ x ∈ xs, Tgt g vs Rs (RA x) (Ss x)) (ht : ∀ x ∈ xs, EvB tt (Ss x) H F (p x))
    (h0 : ∀ D H1 F1, G0 H F H1 F1 → H1 D = none → S D 0 (upd H1 D (o0 D)) F1) (hm : ∀ D i H1 F1 H2 F2, S D i H1 F1 → G0 H1 F1 H2 F2 → S D i H2 F2)
    (hn : ∀ D i x H1 F1, xs[i]? = some x → p x = false → S D i H1 F1 → S D (i + 1) H1 F1)
    (hs : ∀ D i x σ2 H1 F1, xs[i]? = some x → p x = true → G0 H F H1 F1 → En F1 σ2 (Ss x) → S D i H1 F1 → ∀ N : Hp → Prop, (∀ H2 F2, Gr (At D) H1 F1 H2 F2 → S D (i + 1) H2 F2 → N H2) → tB D σ2 H1 N) :
    EvM (tCm o0 wi g tt tB vs) Rs H F (fun D => S D xs.length) := by
  intro σ H1 F1 g1 e Q q
  refine src σ H1 F1 g1 e _ fun J H2 F2 k ok D hD => ?_
  have e2 := e.mono k.ff
  refine ⟨fun i m H' => m = xs.length - i ∧ i ≤ xs.length ∧ ∃ F', G0 H2 F2 H' F' ∧ S D i H' F', ⟨_, rfl, Nat.zero_le _, F2, Gr.newM k.fh hD, h0 D H2 F2 (g1.trans k) hD⟩, ?_⟩
  rintro i m H' ⟨rfl, hi, F', g3, st⟩
  obtain ⟨o1, o2⟩ := ok H' F' g3.ff g3.fh
  by_cases hlt : i < xs.length
  · refine .inr ?_
    have hx : xs[i]? = some xs[i] := List.getElem?_eq_getElem hlt
    have hmem : xs[i] ∈ xs := List.getElem_mem hlt
    obtain ⟨q1, q2⟩ := o2 i xs[i] hx
    refine ⟨q1, fun H'' => ∃ F'', G0 H2 F2 H'' F'' ∧ S D (i + 1) H'' F'', fun H'' p' => ⟨_, by omega, rfl, hlt, p'⟩, fun v H3 y => ?_⟩
    obtain ⟨F3, k3, r⟩ := q2 v H3 y
    have g4 := g3.trans k3
    refine hg _ hmem v (wipe σ vs) H3 F3 k3.fh (off_wipe ho (e2.mono g4.ff)) r _ fun σ2 e4 w => ⟨w.trans wipe_wipe, ?_⟩
    refine ht _ hmem σ2 H3 F3 ((g1.trans k).trans g4) e4 _ fun H5 F5 k5 => ?_
    have st5 := hm D i _ _ _ _ st (k3.trans k5)
    have g5 := g4.trans k5
    cases hp : p xs[i] with
    | false =>
      rw [if_neg Bool.false_ne_true]
      exact ⟨F5, g5, hn D i _ _ _ hx hp st5⟩
    | true =>
      rw [if_pos rfl]
      refine hs D i _ σ2 H5 F5 hx hp ((g1.trans k).trans g5) (e4.mono k5.ff) st5 _ fun H6 F6 g6 st6 => ⟨F6, g5.drop g6 fun a z => ?_, st6⟩
      rw [show a = D from z]; exact hD
  · have e : i = xs.length := by omega
    subst e
    exact .inl ⟨o1, q D H' F' (k.trans g3) (k.none hD) st⟩
theorem EvM.fz {te : TE} {S : Addr → Hp → Hp → Prop} (h : EvM te Rs H F S) (hd : ∀ D H0 F0 H1 F1, G0 H F H0 F0 → G0 H0 F0 H1 F1 → H0 D = none → S D H1 F1 → ∃ F2, G0 H0 F0 H1 F2 ∧ R.at_ F2 (.ref D)) : EvE te Rs H F R := by
  intro σ H1 F1 g1 e Q q
  refine h σ H1 F1 g1 e Q fun D H2 F2 g2 hD st => ?_
  obtain ⟨F5, g5, r⟩ := hd D H1 F1 H2 F2 g1 g2 hD st
  exact q _ H2 F5 g5 r
theorem ev_cm (S : Addr → Nat → Hp → Hp → Prop) (src : SrcL wi Rs H F xs RA) (ho : offB vs Rs = true) (hg : ∀ x ∈ xs, Tgt g vs Rs (RA x) (Ss x)) (ht : ∀ x ∈ xs, EvB tt (Ss x) H F (p x))
    (h0 : ∀ D H1 F1, G0 H F H1 F1 → H1 D = none → S D 0 (upd H1 D (o0 D)) F1) (hm : ∀ D i H1 F1 H2 F2, S D i H1 F1 → G0 H1 F1 H2 F2 → S D i H2 F2)
    (hn : ∀ D i x H1 F1, xs[i]? = some x → p x = false → S D i H1 F1 → S D (i + 1) H1 F1)
    (hs : ∀ D i x σ2 H1 F1, xs[i]? = some x → p x = true → G0 H F H1 F1 → En F1 σ2 (Ss x) → S D i H1 F1 → ∀ N : Hp → Prop, (∀ H2 F2, Gr (At D) H1 F1 H2 F2 → S D (i + 1) H2 F2 → N H2) → tB D σ2 H1 N)
    (hd : ∀ D H0 F0 H1 F1, G0 H F H0 F0 → G0 H0 F0 H1 F1 → H0 D = none → S D xs.length H1 F1 → ∃ F2, G0 H0 F0 H1 F2 ∧ R.at_ F2 (.ref D)) : EvE (tCm o0 wi g tt tB vs) Rs H F R :=
  (ev_cmM S src ho hg ht h0 hm hn hs).fz hd
end
end K81
set_option Elab.async false
set_option linter.all false
set_option maxRecDepth 100000
set_option maxHeartbeats 2000000
set_option autoImplicit false
/-! K81S4: sorted, len of sets. -/
namespace K81
open PySem PySem.Spec L2
open PyProof.Rows
open PySem.W (dataLe AllAlike Sortable EachIs)

def kD : Key → PyData
  | .inl i => .int i
  | .inr x => .str x
def eD (k : List Key) : PyData := .tuple (k.map kD)
/-! ### sorting a list of tuples of numbers and texts -/
section
variable {X : Cx} {pins : List (Addr × Obj)} {σ : L2.St} {H : Hp} {s : Shared}
theorem keys_read {h : Heap} {vs : List Value} : ∀ {k : List Key}, ItemsAre (mixKind X.prog X.w) k vs → ReadsAll h vs (k.map kD) [] := by
  intro k hk
  induction hk with
  | nil => exact .nil
  | cons h1 _ ih =>
    rcases keyIs_shape h1 with ⟨i, t, rfl, rfl⟩ | ⟨x, t, rfl, rfl⟩
    · exact ReadsAll.cons (as := []) (Reads.int i t) ih
    · exact ReadsAll.cons (as := []) (Reads.str x t) ih
theorem key_read {h : Heap} {k : List Key} {a : Addr} (hk : IsK X.prog X.w h k a) : Reads h (.ref a) (eD k) [] := by
  obtain ⟨o, items, n, ho, hc, hd, hi⟩ := hk
  exact .tuple ho hc hd (keys_read hi)
theorem depth_key : ∀ k : List Key, PyData.depthAll (k.map kD) = 0
  | [] => by simp [PyData.depthAll]
  | .inl i :: k => by simp [PyData.depthAll, PyData.depth, kD, depth_key k]
  | .inr i :: k => by simp [PyData.depthAll, PyData.depth, kD, depth_key k]
theorem each_refs {L : List Ent} {out : List Value} (h : EachIs (fun v (b : Ent) => v = Value.ref b.1) out L) : out = L.map fun q => Value.ref q.1 := by
  induction h with
  | nil => rfl
  | cons h _ ih => rw [List.map_cons, h, ih]
theorem refs_each {R : Value → Ent → Prop} : ∀ {L : List Ent}, (∀ q ∈ L, R (Value.ref q.1) q) → EachIs R (L.map fun q => Value.ref q.1) L
  | [], _ => .nil
  | q :: L, h => .cons (h q List.mem_cons_self) (refs_each fun r hr => h r (List.mem_cons_of_mem _ hr))
theorem refs_vals : ∀ L : List Ent, Vals (L.map fun q => V.ref q.1) (L.map fun q => Value.ref q.1)
  | [] => .nil
  | _ :: L => .cons rfl (refs_vals L)
abbrev leK : Ent → Ent → Bool := dataLe false fun q : Ent => eD q.2
/-- what sorted() does with the members once they are gathered -/
theorem sort_tail {L : List Ent} {E : Value → Shared → Prop} {Q : Value → Shared → Prop} (hu : X.A.units + 64 < cLine) (I : Inv X pins σ H s) (ht : Tps H L) (hal : AllAlike (L.map fun q => eD q.2)) (hne : ∀ q ∈ L, q.2 ≠ []) (hl : L.length ≤ sizeLine)
    (h : ∀ s' p, H p = none → Inv X pins σ (upd H p (.lst ((L.mergeSort leK).map fun q => V.ref q.1))) s' → Q (.ref p) s') {T : Value → Sem PySem.Fin} {P : PySem.Fin → Shared → Prop}
    (hT : ∀ l s', Q l s' → wpAny (model X.prog X.w) X.A.in1 (T l) P E s') :
    wpAny (model X.prog X.w) X.A.in1 (newList (L.map fun q => Value.ref q.1) >>= fun l => holding [l] (call (.builtin "list.sort") [l]) >>= fun _ => T l) P E s := by
  have hl' : (L.map fun q => Value.ref q.1).length = L.length := List.length_map ..
  refine wpAny_bind (wpAny_newList ?_ (by rw [hl']; exact hl))
  have ho : (s.heap.push (seqObj "list" (L.map fun q => Value.ref q.1).toArray 0)).get? s.heap.objs.size = some (seqObj "list" (L.map fun q => Value.ref q.1).toArray 0) := Heap.get?_push_size _ rfl
  have hn : H s.heap.objs.size = none := I.hok.fresh (Nat.le_refl _)
  have hrd : ∀ q ∈ L, ∃ as, Reads (s.heap.push (seqObj "list" (L.map fun q => Value.ref q.1).toArray 0)) (.ref q.1) (eD q.2) as ∧ s.heap.objs.size ∉ as := fun q hq =>
    ⟨[], key_read (X := X) (isT_key (key_of I.hok (ht q hq)) fun b o e => Heap.get?_push_of_some _ e), by simp⟩
  refine wpAny_bind (wpAny_holding (PySem.W.list_sort_data (s := { s with heap := s.heap.push (seqObj "list" (L.map fun q => Value.ref q.1).toArray 0) }) (β := Ent) (enc := fun q => eD q.2) (R := fun v b => v = Value.ref b.1) ho (refs_each fun _ _ => rfl) (refs_each hrd) hal ?_ hl ?_ ?_))
  · refine .inl fun d hd => ?_
    obtain ⟨q, hq, rfl⟩ := List.mem_map.mp hd
    cases e : q.2 with
    | nil => exact absurd e (hne q hq)
    | cons x r => exact ⟨kD x, r.map kD, rfl⟩
  · intro q _
    have e : (eD q.2).depth = 1 := by rw [eD, PyData.depth, depth_key]
    have : X.A.in1.units ≤ X.A.units + 1 := Nat.le_refl _
    rw [e]
    omega
  · intro out _ eo
    have eo := each_refs eo
    obtain ⟨c, hc⟩ := sortedHeap_at (vs := L.map fun q => Value.ref q.1) (out := out.toArray) ho
    have hz : (L.mergeSort leK).length ≤ sizeLine := by rw [List.length_mergeSort]; exact hl
    refine hT _ _ (h _ s.heap.objs.size hn (I.laid (t' := s.toks) (fun b u e => ?_) (Nat.le_refl _) ⟨by rw [List.length_map]; exact hz, out, c, by rw [eo]; exact refs_vals _, hc⟩))
    have hlt := Heap.lt_size e
    rw [sortedHeap_old (Nat.ne_of_lt hlt) (by rw [size_push']; exact Nat.lt_succ_of_lt hlt)]
    exact Heap.get?_push_of_some _ e
where
  isT_key {P : Program} {w : World} {h h' : Heap} {k : List Key} {b : Addr} (x : IsK P w h k b) (hk : ∀ c o, h.get? c = some o → h'.get? c = some o) : IsK P w h' k b := by
    obtain ⟨o, items, n, ho, r⟩ := x
    exact ⟨o, items, n, hk b o ho, r⟩
theorem perm_map_inv {α β : Type} {f : α → β} : ∀ {L : List α} {out : List β}, out.Perm (L.map f) → ∃ L1 : List α, L1.Perm L ∧ out = L1.map f
  | [], out, h => ⟨[], .refl _, by rw [List.map_nil] at h ⊢; exact h.eq_nil⟩
  | q :: L, out, h => by
    have hm : f q ∈ out := h.mem_iff.mpr (List.mem_cons_self)
    obtain ⟨s, t, rfl⟩ := List.append_of_mem hm
    have h1 : (s ++ t).Perm (L.map f) := (List.perm_cons (f q)).mp (List.perm_middle.symm.trans h)
    obtain ⟨L1, p1, e1⟩ := perm_map_inv h1
    refine ⟨L1.take s.length ++ q :: L1.drop s.length, ?_, ?_⟩
    · refine List.perm_middle.trans ((List.perm_cons q).mpr ?_)
      rw [List.take_append_drop]; exact p1
    · rw [List.map_append, List.map_cons, List.map_take, List.map_drop, ← e1, List.take_left', List.drop_left'] <;> rfl
def Srt (L : List Ent) : Prop := AllAlike (L.map fun q => eD q.2) ∧ ∀ q ∈ L, q.2 ≠ []
theorem Srt.perm {L L1 : List Ent} (h : Srt L) (p : L1.Perm L) : Srt L1 :=
  ⟨fun d hd d' hd' => h.1 d ((p.map _).mem_iff.mp hd) d' ((p.map _).mem_iff.mp hd'), fun q hq => h.2 q (p.mem_iff.mp hq)⟩
/-- sorted(set) -/
def rSortK (P : Program) (w : World) : List V → Hp → VK → Prop := fun vs H Q => ∃ (a : Addr) (L : List Ent), vs = [.ref a] ∧ H a = some (KO P w a L) ∧ Tps H L ∧ Srt L ∧
  ∀ (L1 : List Ent) p, L1.Perm L → H p = none → Q (.ref p) (upd H p (.lst ((L1.mergeSort leK).map fun q => V.ref q.1)))
theorem cr_sortK (hc : X.calm = true) (hu : X.A.units + 64 < cLine) : CallR X (.builtin "sorted") (rSortK X.prog X.w) := by
  intro pins s σ H vs us Q I r h
  obtain ⟨a, L, rfl, ha, ht, hs, q⟩ := h
  obtain ⟨es, ep, t, R⟩ := ko_full I ha ht
  obtain ⟨o, ho, hex, hd⟩ := R.ob
  rw [Vals.ref1 r]
  have hroom := R.room
  have hm : t.mask ≤ 2047 := R.tab.ms.le
  have hsz := R.sz
  refine Calls.call_function_entry kind_sorted plain_sorted entry_sorted (args_sorted1 _) ?_
  unfold Builtin.«sorted»
  refine wpAny_bind (m := checkCount "sorted" 1 1 _) (wpAny_pure ?_)
  refine wpAny_bind (collect_set (A := X.A.in1) (I.ok.hd hc) ⟨o, ho, hex.1, hd⟩ R.fits (by unfold scanBound; omega) R.tab.up R.led fun s1 out k1 hz g1 o1 pm => ?_)
  rw [R.row] at pm
  have e1 : (rws X.prog X.w L).map (·.2) = L.map fun q => Value.ref q.1 := by unfold rws; rw [List.map_map]; rfl
  rw [e1] at pm
  obtain ⟨L1, p1, rfl⟩ := perm_map_inv pm
  have I1 : Inv X pins σ H s1 := I.call' (ch := []) o1 (Un.kept k1) (I.hok.kept k1) (by rw [g1]; exact I.bare) (fun _ z => nomatch z)
  have h1 := hs.perm p1
  refine sort_tail (T := fun l => pure (.done (.ret l))) hu I1 (fun p hp => ht p (p1.mem_iff.mp hp)) h1.1 h1.2 (by rw [p1.length_eq, sizeLine_eq]; omega) (fun s' p hn J => ?_) fun l s' z => wpAny_pure z
  exact ⟨_, rfl, .ref p, _, J, rfl, q L1 p p1 hn⟩
/-- len(set) -/
def rLenK (P : Program) (w : World) : List V → Hp → VK → Prop := fun vs H Q => ∃ (a : Addr) (L : List Ent), vs = [.ref a] ∧ H a = some (KO P w a L) ∧ Tps H L ∧ Q (.int (L.length : Nat)) H
theorem cr_lenK : CallR X (.builtin "len") (rLenK X.prog X.w) := by
  intro pins s σ H vs us Q I r h
  obtain ⟨a, L, rfl, ha, ht, q⟩ := h
  obtain ⟨es, ep, t, R⟩ := ko_full I ha ht
  obtain ⟨o, ho, hex, hd⟩ := R.ob
  rw [Vals.ref1 r]
  have hroom := R.room
  have hm : t.mask ≤ 2047 := R.tab.ms.le
  have hsz := R.sz
  exact call_len_set ho hex hd R.fits (by omega) ⟨.int (L.length : Nat), H, I.tok _, ⟨_, by rw [hsz]⟩, q⟩
theorem kt_ents {H : Hp} {kvs : List (List Key × V)} {ks : List (List Key × Addr × Value)} (pr : Paired (fun (p : List Key × V) (q : List Key × Addr × Value) => p.1 = q.1 ∧ H q.2.1 = some (.tup (p.1.map kV)) ∧ RelV p.2 q.2.2) kvs ks) :
    (ks.map fun x => ((x.2.1, x.1) : Ent)).map (·.2) = kvs.map (·.1) ∧ Tps H (ks.map fun x => ((x.2.1, x.1) : Ent)) := by
  induction pr with
  | nil => exact ⟨rfl, fun p hp => nomatch hp⟩
  | @cons p q ps qs h _ ih =>
    refine ⟨by rw [List.map_cons, List.map_cons, ih.1, List.map_cons, h.1], fun y hy => ?_⟩
    rw [List.map_cons] at hy
    rcases List.mem_cons.mp hy with rfl | hy
    · show H q.2.1 = some (.tup (q.1.map kV))
      rw [← h.1]; exact h.2.1
    · exact ih.2 y hy
/-- sorted(d), d a dict with tuple keys -/
def rSortDT : List V → Hp → VK → Prop := fun vs H Q => ∃ (a : Addr) (kvs : List (List Key × V)), vs = [.ref a] ∧ Rd H a (.dT kvs) ∧ (∀ L : List Ent, L.map (·.2) = kvs.map (·.1) → Srt L) ∧
  ∀ (L1 : List Ent) p, L1.map (·.2) = kvs.map (·.1) → Tps H L1 → H p = none → Q (.ref p) (upd H p (.lst ((L1.mergeSort leK).map fun q => V.ref q.1)))
theorem cr_sortDT (hc : X.calm = true) (hu : X.A.units + 64 < cLine) : CallR X (.builtin "sorted") rSortDT := by
  intro pins s σ H vs us Q I r h
  obtain ⟨a, kvs, rfl, hd, hs, q⟩ := h
  rw [Vals.ref1 r]
  obtain ⟨z, hsy, ks, pr, o, es, ep, ho, hx, hdt, he, hn⟩ := (show ObjOk X.prog X.w H s.heap a (.dT kvs) from hd.ok I.hok)
  have l1 : es.size = ks.length := size_of_entries he
  have l2 : kvs.length = ks.length := Paired.length pr
  refine Calls.call_function_entry kind_sorted plain_sorted entry_sorted (args_sorted1 _) ?_
  unfold Builtin.«sorted»
  refine wpAny_bind (m := checkCount "sorted" 1 1 _) (wpAny_pure ?_)
  refine wpAny_bind (PySem.W.kdu_collect (A := X.A.in1) (L2.kdl_raw hsy hx hdt) (I.ok.hd hc) ho (by omega) fun h' tk acc hk hacc => ?_)
  have ea : acc.toList = (ks.map fun x => ((x.2.1, x.1) : Ent)).map fun q => Value.ref q.1 := by
    rw [List.map_map]
    have hl : acc.toList.length = ks.length := by rw [Array.length_toList, hacc.1]; exact l1
    apply List.ext_getElem?
    intro j
    rw [List.getElem?_map]
    cases hj : acc.toList[j]? with
    | none => rw [List.getElem?_eq_none (by have := List.getElem?_eq_none_iff.mp hj; omega)]; rfl
    | some v =>
      obtain ⟨en, hen, hv⟩ := hacc.2 j v (by rw [← Array.getElem?_toList]; exact hj)
      have qe := entry_at he j
      rw [hen] at qe
      cases hb : ks[j]? with
      | none => rw [hb] at qe; cases qe
      | some b =>
        rw [hb] at qe
        have e2 : en = entryOfKey (tupleKind (mixKind X.prog X.w)) b := Option.some.inj qe
        rw [hv, e2]
        rfl
  obtain ⟨hkeys, hT⟩ := kt_ents pr
  generalize ks.map (fun x => ((x.2.1, x.1) : Ent)) = L1 at ea hkeys hT
  rw [ea]
  have I1 : Inv X pins σ H { s with heap := h', toks := tk } := I.kept hk
  obtain ⟨s1, s2⟩ := hs L1 hkeys
  have hl : L1.length ≤ sizeLine := by
    have := congrArg List.length hkeys
    rw [List.length_map, List.length_map] at this
    omega
  refine sort_tail (s := { s with heap := h', toks := tk }) (T := fun l => pure (.done (.ret l))) hu I1 hT s1 s2 hl (fun s' p hn J => ?_) fun l s' z => wpAny_pure z
  exact ⟨_, rfl, .ref p, _, J, rfl, q L1 p hkeys hT hn⟩
/-- sorted(xs), xs a list of data -/
def rSortD (K : PySem.W.Frag) : List V → Hp → VK → Prop := fun vs H Q => ∃ (a : Addr) (bs : List (V × PyData)), vs = [.ref a] ∧ H a = some (.lst (bs.map (·.1))) ∧ (∀ b ∈ bs, Dp K H b.1 b.2) ∧ AllAlike (bs.map (·.2)) ∧ Sortable (bs.map (·.2)) ∧ (∀ b ∈ bs, b.2.depth ≤ 50) ∧
  ∀ p, H p = none → Q (.ref p) (upd H p (.lst ((bs.mergeSort (dataLe false (·.2))).map (·.1))))
theorem each_vals {R : Value → V × PyData → Prop} : ∀ {bs : List (V × PyData)} {vs : List Value}, Vals (bs.map (·.1)) vs → (∀ b ∈ bs, ∀ u, RelV b.1 u → R u b) → EachIs R vs bs
  | [], _, .nil, _ => .nil
  | b :: bs, _, .cons r t, h => .cons (h b List.mem_cons_self _ r) (each_vals t fun c hc => h c (List.mem_cons_of_mem _ hc))
theorem vals_each : ∀ {bs : List (V × PyData)} {vs : List Value}, EachIs (fun v (b : V × PyData) => RelV b.1 v) vs bs → Vals (bs.map (·.1)) vs
  | _, _, .nil => .nil
  | _, _, .cons r t => .cons r (vals_each t)
theorem cr_sortD (hu : X.A.units + 64 < cLine) : CallR X (.builtin "sorted") (rSortD X.K) := by
  intro pins s σ H vs us Q I r h
  obtain ⟨a, bs, rfl, ha, hD, hal, hso, hdp, q⟩ := h
  rw [Vals.ref1 r]
  obtain ⟨its, rv, hl, hz⟩ := I.list (SqL.of ha)
  rw [List.length_map] at hz
  refine PySem.W.sorted_data (β := V × PyData) (enc := (·.2)) (R := fun v b => RelV b.1 v) (vs := its) hl.isList (each_vals rv fun b _ u r => r) (each_vals rv fun b hb u r => Dp.reads I _ _ _ (hD b hb) r) hal hso hz (fun b hb => by have := hdp b hb; omega) fun out _ eo => ?_
  obtain ⟨c, hc⟩ := sortedAll_at s.heap its out.toArray
  have hlen : ((bs.mergeSort (dataLe false (·.2))).map (·.1)).length ≤ sizeLine := by rw [List.length_map, List.length_mergeSort]; exact hz
  exact ⟨.ref _, upd H (s.heap.objs.size + 1) (.lst ((bs.mergeSort (dataLe false (·.2))).map (·.1))), I.laid (t' := s.toks) (fun _ _ => sortedAll_old) (Nat.le_succ _) ⟨hlen, out, c, vals_each eo, hc⟩, rfl, q _ (I.hok.fresh (Nat.le_succ _))⟩
end
end K81
set_option Elab.async false
set_option linter.all false
set_option maxRecDepth 100000
set_option maxHeartbeats 2000000
set_option autoImplicit false
/-! K81E: orders; what sets and sorted evaluate to. -/
namespace K81
open PySem PySem.Spec L2
open PySem.W (dataLe dataLt AllAlike Sortable EachIs rowLt alike alikeAll dataLt_cons dataLt_tuple dataLt_int dataLt_str)

/-! ### no element twice -/
section
variable {α β : Type} [DecidableEq α] [DecidableEq β]
def ins1 (l : List α) (x : α) : List α := if x ∈ l then l else l ++ [x]
def ddp (l : List α) : List α := l.foldl ins1 []
theorem ddp_snoc (l : List α) (x : α) : ddp (l ++ [x]) = ins1 (ddp l) x := by unfold ddp; rw [List.foldl_append]; rfl
theorem ins1_mem {l : List α} {x y : α} : y ∈ ins1 l x ↔ y ∈ l ∨ y = x := by
  unfold ins1
  split
  · exact ⟨.inl, fun h => h.elim id fun e => e ▸ ‹_›⟩
  · rw [List.mem_append, List.mem_singleton]
theorem snoc_ind {p : List α → Prop} (h0 : p []) (h1 : ∀ l x, p l → p (l ++ [x])) (l : List α) : p l := by
  have : ∀ n (l : List α), l.length = n → p l := by
    intro n
    induction n with
    | zero => intro l hl; rw [List.eq_nil_of_length_eq_zero hl]; exact h0
    | succ n ih =>
      intro l hl
      have hne : l ≠ [] := fun e => by rw [e] at hl; cases hl
      rw [← List.dropLast_concat_getLast hne]
      exact h1 _ _ (ih _ (by rw [List.length_dropLast, hl]; rfl))
  exact this _ l rfl
theorem ddp_mem {y : α} (l : List α) : y ∈ ddp l ↔ y ∈ l := by
  induction l using snoc_ind with
  | h0 => exact Iff.rfl
  | h1 l x ih => rw [ddp_snoc, ins1_mem, ih, List.mem_append, List.mem_singleton]
theorem ddp_nodup (l : List α) : (ddp l).Nodup := by
  induction l using snoc_ind with
  | h0 => exact List.nodup_nil
  | h1 l x ih =>
    rw [ddp_snoc]
    unfold ins1
    split
    · exact ih
    · rename_i h
      exact List.nodup_append.mpr ⟨ih, by simp, fun a ha b hb e => h (by rw [List.mem_singleton.mp hb] at e; exact e ▸ ha)⟩
theorem ddp_le (l m : List α) : (ddp l).length ≤ (ddp (l ++ m)).length := by
  induction m using snoc_ind with
  | h0 => rw [List.append_nil]; exact Nat.le_refl _
  | h1 m x ih =>
    rw [← List.append_assoc, ddp_snoc]
    refine Nat.le_trans ih ?_
    unfold ins1
    split
    · exact Nat.le_refl _
    · rw [List.length_append]; omega
theorem ddp_len (l : List α) : (ddp l).length ≤ l.length := by
  induction l using snoc_ind with
  | h0 => exact Nat.le_refl _
  | h1 l x ih =>
    rw [ddp_snoc]
    unfold ins1
    split
    · rw [List.length_append]; omega
    · rw [List.length_append, List.length_append]; simpa using ih
theorem ddp_map {f : α → β} (hf : ∀ a b, f a = f b → a = b) (l : List α) : ddp (l.map f) = (ddp l).map f := by
  induction l using snoc_ind with
  | h0 => rfl
  | h1 l x ih =>
    rw [List.map_append, List.map_singleton, ddp_snoc, ddp_snoc, ih]
    unfold ins1
    by_cases h : x ∈ ddp l
    · rw [if_pos h, if_pos (List.mem_map.mpr ⟨x, h, rfl⟩)]
    · rw [if_neg h, if_neg fun z => by obtain ⟨y, hy, e⟩ := List.mem_map.mp z; exact h (hf _ _ e ▸ hy), List.map_append]
      rfl
theorem ddp_id {l : List α} (h : l.Nodup) : ddp l = l := by
  induction l using snoc_ind with
  | h0 => rfl
  | h1 l x ih =>
    obtain ⟨h1, _, h3⟩ := List.nodup_append.mp h
    rw [ddp_snoc, ih h1]
    unfold ins1
    rw [if_neg fun z => h3 x z x (List.mem_singleton.mpr rfl) rfl]
end

/-! ### orders by rows of numbers -/
section
variable {α : Type}
def leR (rk : α → List Nat) (a b : α) : Bool := decide (rk a ≤ rk b)
theorem leR_tot (rk : α → List Nat) (a b : α) : (leR rk a b || leR rk b a) = true := by
  unfold leR
  rw [Bool.or_eq_true, decide_eq_true_eq, decide_eq_true_eq]
  exact List.le_total _ _
theorem leR_tr (rk : α → List Nat) (a b c : α) (h : leR rk a b = true) (k : leR rk b c = true) : leR rk a c = true := by
  unfold leR at *
  rw [decide_eq_true_eq] at *
  exact List.le_trans h k
theorem leR_an {rk : α → List Nat} (hi : ∀ a b, rk a = rk b → a = b) {a b : α} (h : leR rk a b = true) (k : leR rk b a = true) : a = b := by
  unfold leR at *
  rw [decide_eq_true_eq] at *
  exact hi _ _ (List.le_antisymm h k)
def srt (rk : α → List Nat) (l : List α) : List α := l.mergeSort (leR rk)
theorem srt_perm (rk : α → List Nat) (l : List α) : (srt rk l).Perm l := List.mergeSort_perm _ _
theorem srt_mem {rk : α → List Nat} {l : List α} {a : α} : a ∈ srt rk l ↔ a ∈ l := (srt_perm rk l).mem_iff
theorem srt_len (rk : α → List Nat) (l : List α) : (srt rk l).length = l.length := (srt_perm rk l).length_eq
theorem srt_sorted (rk : α → List Nat) (l : List α) : (srt rk l).Pairwise fun a b => leR rk a b = true := List.pairwise_mergeSort (leR_tr rk) (leR_tot rk) l
theorem srt_eq {rk : α → List Nat} (hi : ∀ a b, rk a = rk b → a = b) {l m : List α} (h : l.Perm m) : srt rk l = srt rk m :=
  List.Perm.eq_of_pairwise (fun a b _ _ p q => leR_an hi p q) (srt_sorted rk l) (srt_sorted rk m) (((srt_perm rk l).trans h).trans (srt_perm rk m).symm)
theorem srt_id {rk : α → List Nat} {l : List α} (h : l.Pairwise fun a b => leR rk a b = true) : srt rk l = l := List.mergeSort_of_pairwise h
end
def rkN (n : Nat) : List Nat := [n]
def rkSg (s : Sg) : List Nat := [s.val]
def rkStp (m : Stp) : List Nat := [m.1, m.2.1.val, m.2.2]
/-- what missing_of sorts: rank, sign, goal, after, place -/
abbrev Fur := Nat × Sg × Nat × Nat × (Nat × Nat)
def rkFur (m : Fur) : List Nat := [m.1, m.2.1.val, m.2.2.1, m.2.2.2.1, m.2.2.2.2.1, m.2.2.2.2.2]
theorem rkN_inj (a b : Nat) (h : rkN a = rkN b) : a = b := by simpa [rkN] using h
theorem rkSg_inj (a b : Sg) (h : rkSg a = rkSg b) : a = b := by simp [rkSg] at h; exact Fin.ext h
theorem rkStp_inj (a b : Stp) (h : rkStp a = rkStp b) : a = b := by
  obtain ⟨a1, a2, a3⟩ := a
  obtain ⟨b1, b2, b3⟩ := b
  simp [rkStp] at h
  obtain ⟨rfl, h2, rfl⟩ := h
  rw [Fin.ext h2]
theorem rkFur_inj (a b : Fur) (h : rkFur a = rkFur b) : a = b := by
  obtain ⟨a1, a2, a3, a4, a5, a6⟩ := a
  obtain ⟨b1, b2, b3, b4, b5, b6⟩ := b
  simp [rkFur] at h
  obtain ⟨rfl, h2, rfl, rfl, rfl, rfl⟩ := h
  rw [Fin.ext h2]
/-! ### the model's order is that -/
section
variable {xs ys : List PyData} {l m : List Nat}
theorem row_nil : rowLt [] [] = decide (([] : List Nat) < []) := PySem.W.dataLt_ints [] []
theorem if_lt {i j : Nat} : (if i = j then decide (l < m) else decide (i < j)) = decide (i :: l < j :: m) := by
  by_cases h : i = j
  · subst h
    rw [if_pos rfl]
    exact decide_eq_decide.mpr (by rw [List.cons_lt_cons_iff]; simp)
  · rw [if_neg h]
    exact decide_eq_decide.mpr (by rw [List.cons_lt_cons_iff]; simp [h])
theorem row_nat {i j : Nat} (h : rowLt xs ys = decide (l < m)) : rowLt (.int (i : Nat) :: xs) (.int (j : Nat) :: ys) = decide (i :: l < j :: m) := by
  unfold rowLt at h ⊢
  rw [dataLt_cons (by simp [alike]), dataLt_int, h, ← if_lt]
  simp only [PyData.eqv, beq_iff_eq, Int.natCast_inj, Int.ofNat_lt]
theorem sg_lt : ∀ s t : Sg, s ≠ t → (PyData.eqv (.str (sgC s)) (.str (sgC t)) && PyData.eqv (.str (sgA s)) (.str (sgA t))) = false ∧
    (if PyData.eqv (.str (sgC s)) (.str (sgC t)) = true then dataLt (.str (sgA s)) (.str (sgA t)) else dataLt (.str (sgC s)) (.str (sgC t))) = decide (s.val < t.val) := by decide +kernel
theorem eqv_rfl_str (x : Str) : PyData.eqv (.str x) (.str x) = true := by simp [PyData.eqv]
theorem row_sg {s t : Sg} (h : rowLt xs ys = decide (l < m)) : rowLt (.str (sgC s) :: .str (sgA s) :: xs) (.str (sgC t) :: .str (sgA t) :: ys) = decide (s.val :: l < t.val :: m) := by
  unfold rowLt at h ⊢
  rw [dataLt_cons (by simp [alike]), dataLt_cons (by simp [alike]), h, ← if_lt]
  by_cases e : s = t
  · subst e
    rw [if_pos (eqv_rfl_str _), if_pos (eqv_rfl_str _), if_pos rfl]
  · obtain ⟨q1, q2⟩ := sg_lt s t e
    rw [if_neg (fun z => e (Fin.ext z)), ← q2]
    by_cases c : PyData.eqv (.str (sgC s)) (.str (sgC t)) = true
    · rw [if_pos c, if_pos c, if_neg (by rw [c, Bool.true_and] at q1; rw [q1]; decide)]
    · rw [if_neg c, if_neg c]
theorem row_sgT {s t : Sg} (h : rowLt xs ys = decide (l < m)) : rowLt (encSg s :: xs) (encSg t :: ys) = decide (s.val :: l < t.val :: m) := by
  have h1 : dataLt (encSg s) (encSg t) = decide ([s.val] < [t.val]) := by
    rw [encSg, encSg, dataLt_tuple]
    exact row_sg row_nil
  unfold rowLt at h ⊢
  rw [dataLt_cons (by simp [encSg, alike, alikeAll]), h, h1, ← if_lt, eqv_dec (enc := encSg) (fun a => (ok_sg a).pl) encSg_inj]
  by_cases e : s = t
  · subst e; simp
  · have e2 : ¬ s.val = t.val := fun z => e (Fin.ext z)
    simp [e, e2, List.cons_lt_cons_iff]
theorem row_pr {p q : Nat × Nat} (h : rowLt xs ys = decide (l < m)) : rowLt (encPr p :: xs) (encPr q :: ys) = decide (p.1 :: p.2 :: l < q.1 :: q.2 :: m) := by
  have h1 : dataLt (encPr p) (encPr q) = decide ([p.1, p.2] < [q.1, q.2]) := by
    rw [encPr, encPr, dataLt_tuple]
    exact row_nat (row_nat row_nil)
  unfold rowLt at h ⊢
  rw [dataLt_cons (by simp [encPr, alike, alikeAll]), h, h1, ← if_lt, ← if_lt, eqv_dec (enc := encPr) (fun a => (ok_pr a).pl) encPr_inj, ← if_lt, ← if_lt]
  obtain ⟨p1, p2⟩ := p
  obtain ⟨q1, q2⟩ := q
  by_cases e1 : p1 = q1
  · subst e1
    by_cases e2 : p2 = q2
    · subst e2; simp
    · simp [e2]
  · simp [e1]
end
def encFur (m : Fur) : PyData := .tuple [.int (m.1 : Nat), encSg m.2.1, .int (m.2.2.1 : Nat), .int (m.2.2.2.1 : Nat), encPr m.2.2.2.2]
theorem le_of_lt {α : Type} {enc : α → PyData} {rk : α → List Nat} (h : ∀ a b, dataLt (enc a) (enc b) = decide (rk a < rk b)) : dataLe false enc = leR rk := by
  funext a b
  show (!dataLt (enc b) (enc a)) = decide (rk a ≤ rk b)
  rw [h]
  by_cases c : rk b < rk a
  · rw [decide_eq_true c, decide_eq_false fun z => List.not_lt.mpr z c]; rfl
  · rw [decide_eq_false c, decide_eq_true (List.not_lt.mp c)]; rfl
theorem le_Sg : dataLe false encSg = leR rkSg := le_of_lt fun a b => by rw [encSg, encSg, dataLt_tuple]; exact row_sg row_nil
theorem le_Stp : dataLe false encStp = leR rkStp := le_of_lt fun a b => by rw [encStp, encStp, dataLt_tuple]; exact row_nat (row_sg (row_nat row_nil))
theorem le_Fur : dataLe false encFur = leR rkFur := le_of_lt fun a b => by rw [encFur, encFur, dataLt_tuple]; exact row_nat (row_sgT (row_nat (row_nat (row_pr row_nil))))
theorem le_N : dataLe false encNat = leR rkN := le_of_lt fun a b => by
  show dataLt (.int _) (.int _) = decide ([a] < [b])
  rw [dataLt_int]
  exact decide_eq_decide.mpr (by simp [List.cons_lt_cons_iff])
/-! ### keys -/
def kySg (s : Sg) : List Key := [.inr (sgC s), .inr (sgA s)]
def kyStp (m : Stp) : List Key := [.inl (m.1 : Nat), .inr (sgC m.2.1), .inr (sgA m.2.1), .inl (m.2.2 : Nat)]
def kyHd (m : Nat × Sg) : List Key := [.inl (m.1 : Nat), .inr (sgC m.2), .inr (sgA m.2)]
def kyPr (m : Nat × Nat) : List Key := [.inl (m.1 : Nat), .inl (m.2 : Nat)]
theorem kySg_inj (a b : Sg) (h : kySg a = kySg b) : a = b := by simp [kySg] at h; exact sg_inj h.1 h.2
theorem kyStp_inj (a b : Stp) (h : kyStp a = kyStp b) : a = b := by
  obtain ⟨a1, a2, a3⟩ := a
  obtain ⟨b1, b2, b3⟩ := b
  simp [kyStp] at h
  rw [show a1 = b1 by omega, sg_inj h.2.1 h.2.2.1, show a3 = b3 by omega]
theorem kyHd_inj (a b : Nat × Sg) (h : kyHd a = kyHd b) : a = b := by
  obtain ⟨a1, a2⟩ := a
  obtain ⟨b1, b2⟩ := b
  simp [kyHd] at h
  rw [show a1 = b1 by omega, sg_inj h.2.1 h.2.2]
theorem kyPr_inj (a b : Nat × Nat) (h : kyPr a = kyPr b) : a = b := by
  obtain ⟨a1, a2⟩ := a
  obtain ⟨b1, b2⟩ := b
  simp [kyPr] at h
  rw [show a1 = b1 by omega, show a2 = b2 by omega]
def rKt (k : List Key) : Rep := rTup (k.map fun x => rV (kV x))
theorem rKt_at {F : Hp} {v : V} {k : List Key} (h : (rKt k).at_ F v) : ∃ a, v = .ref a ∧ F a = some (.tup (k.map kV)) := by
  obtain ⟨a, vs, rfl, ha, l⟩ := h
  have e : vs = k.map kV := LA.rV_iff (us := k.map kV) (by rw [List.map_map]; exact l)
  exact ⟨a, rfl, e ▸ ha⟩
theorem rKt_of {F : Hp} {a : Addr} {k : List Key} (h : F a = some (.tup (k.map kV))) : (rKt k).at_ F (.ref a) :=
  ⟨a, _, rfl, h, by have := LA.rVs F (k.map kV); rw [List.map_map] at this; exact this⟩
/-! ### sets -/
def rSet (P : Program) (w : World) (ks : List (List Key)) : Rep := ⟨fun F v => ∃ (a : Addr) (L : List Ent), v = .ref a ∧ F a = some (KO P w a L) ∧ Tps F L ∧ (L.map (·.2)).Perm ks, fun s h => by obtain ⟨a, L, e, h, t, p⟩ := h; exact ⟨a, L, e, s _ _ h, fun q hq => s _ _ (t q hq), p⟩⟩
section
variable {α : Type} {xs : List α} {RA : α → Rep} {wi : TI} {g : TG} {tt : TT} {te : TE} {vs : List Nat} {H F : Hp} {Rs : Rs_} {p : α → Bool} {Ss : α → Rs_} {P : Program} {w : World} {f : α → List Key}
theorem tps_same {F F' : Hp} {L : List Ent} (s : Same F F') (h : Tps F L) : Tps F' L := fun q hq => s _ _ (h q hq)
theorem ev_set (src : SrcL wi Rs H F xs RA) (ho : offB vs Rs = true) (hg : ∀ x ∈ xs, Tgt g vs Rs (RA x) (Ss x)) (ht : ∀ x ∈ xs, EvB tt (Ss x) H F (p x)) (he : ∀ x ∈ xs, p x = true → EvE te (Ss x) H F (rKt (f x)))
    (hl : (ddp ((xs.filter p).map f)).length < 1228) : EvE (tCm (fun D => KO P w D []) wi g tt (bSet P w te) vs) Rs H F (rSet P w (ddp ((xs.filter p).map f))) := by
  refine ev_cm (fun D i H F => F D = none ∧ ∃ L : List Ent, H D = some (KO P w D L) ∧ Tps F L ∧ (L.map (·.2)).Perm (ddp (((xs.take i).filter p).map f))) src ho hg ht ?_ ?_ ?_ ?_ ?_
  · exact fun D H1 F1 g1 hD => ⟨g1.fh.free hD, [], upd_same, (fun q hq => nomatch hq), List.Perm.refl _⟩
  · exact fun D i H1 F1 H2 F2 ⟨n, L, h, t, pm⟩ g1 => ⟨g1.out n h, L, g1.h h, tps_same g1.ff t, pm⟩
  · intro D i x H1 F1 hx hp ⟨n, L, h, t, pm⟩
    refine ⟨n, L, h, t, ?_⟩
    rw [take_snoc hx, List.filter_append, List.filter_cons_of_neg (by rw [hp]; exact Bool.false_ne_true), List.filter_nil, List.append_nil]
    exact pm
  · intro D i x σ2 H1 F1 hx hp g1 e ⟨n, L, h, t, pm⟩ N hN
    refine he x (List.mem_of_getElem? hx) hp σ2 H1 F1 g1 e _ fun v H2 F2 g2 r => ?_
    obtain ⟨a, rfl, ha⟩ := rKt_at r
    have hle : (ddp (((xs.take i).filter p).map f)).length ≤ (ddp ((xs.filter p).map f)).length := by
      have e : (xs.filter p).map f = ((xs.take i).filter p).map f ++ ((xs.drop i).filter p).map f := by
        rw [← List.map_append, ← List.filter_append, List.take_append_drop]
      rw [e]
      exact ddp_le _ _
    have hlen : L.length = (ddp (((xs.take i).filter p).map f)).length := by rw [← pm.length_eq, List.length_map]
    have hmem : f x ∈ L.map (·.2) ↔ f x ∈ ddp (((xs.take i).filter p).map f) := pm.mem_iff
    have n2 := g2.out n h
    refine ⟨a, f x, L, rfl, g2.fh _ _ ha, g2.h h, tps_same (g2.ff.trans g2.fh) t, by omega, fun L' c1 c2 => hN _ F2 (g2.up.wr (.inr rfl) n2) ⟨n2, L', upd_same, ?_, ?_⟩⟩
    · by_cases c : f x ∈ L.map (·.2)
      · rw [c1 c]; exact tps_same g2.ff t
      · intro q hq
        rcases List.mem_cons.mp ((c2 c).mem_iff.mp hq) with rfl | hq
        · exact ha
        · exact g2.ff _ _ (t q hq)
    · rw [take_snoc hx, List.filter_append, List.filter_cons_of_pos hp, List.filter_nil, List.map_append, List.map_singleton, ddp_snoc]
      unfold ins1
      by_cases c : f x ∈ L.map (·.2)
      · rw [if_pos (hmem.mp c), c1 c]; exact pm
      · rw [if_neg fun z => c (hmem.mpr z)]
        refine ((c2 c).map (·.2)).trans ?_
        rw [List.map_cons]
        exact ((List.perm_cons (f x)).mpr pm).trans (List.perm_append_singleton _ _).symm
  · intro D H0 F0 H1 F1 g0 g1 hD ⟨n, L, h, t, pm⟩
    rw [List.take_length] at pm
    refine ⟨_, g1.fz hD n h, D, L, rfl, upd_same, fun q hq => ?_, pm⟩
    rw [upd_ne (ne_of_none (t q hq) n)]
    exact t q hq
variable {ta : TE} {β : Type} [DecidableEq β] {ky : β → List Key} {rk : β → List Nat} {enc : β → PyData}
/-- the keys stand for β: how they are written, how they are sorted -/
structure KyOk (ky : β → List Key) (rk : β → List Nat) (enc : β → PyData) : Prop where
  inj : ∀ a b, rk a = rk b → a = b
  en : ∀ a, eD (ky a) = enc a
  le : dataLe false enc = leR rk
  al : ∀ a b, alike (enc a) (enc b) = true
  ne : ∀ a, ky a ≠ []
theorem ok_kySg : KyOk kySg rkSg encSg := ⟨rkSg_inj, fun _ => rfl, le_Sg, fun a b => by simp [encSg, alike, alikeAll], fun a => by simp [kySg]⟩
theorem ok_kyStp : KyOk kyStp rkStp encStp := ⟨rkStp_inj, fun _ => rfl, le_Stp, fun a b => by simp [encStp, alike, alikeAll], fun a => by simp [kyStp]⟩
theorem srt_of (k : KyOk ky rk enc) {L : List Ent} {l : List β} (h : (L.map (·.2)).Perm (l.map ky)) : Srt L := by
  have hm : ∀ q ∈ L, ∃ b, ky b = q.2 := fun q hq => by
    obtain ⟨b, _, e⟩ := List.mem_map.mp (h.mem_iff.mp (List.mem_map.mpr ⟨q, hq, rfl⟩))
    exact ⟨b, e⟩
  refine ⟨fun d hd d' hd' => ?_, fun q hq e => ?_⟩
  · obtain ⟨q, hq, rfl⟩ := List.mem_map.mp hd
    obtain ⟨q', hq', rfl⟩ := List.mem_map.mp hd'
    obtain ⟨b, e⟩ := hm q hq
    obtain ⟨b', e'⟩ := hm q' hq'
    show alike (eD q.2) (eD q'.2) = true
    rw [← e, ← e', k.en, k.en]
    exact k.al _ _
  · obtain ⟨b, e'⟩ := hm q hq
    exact k.ne b (e'.trans e)
theorem srt_keys (k : KyOk ky rk enc) {L : List Ent} {l : List β} (h : (L.map (·.2)).Perm (l.map ky)) : (L.mergeSort leK).map (·.2) = (srt rk l).map ky := by
  obtain ⟨l1, p1, e1⟩ := perm_map_inv h
  rw [← srt_eq k.inj p1]
  refine (List.map_mergeSort (r := leK) (s := dataLe false eD) (f := fun q : Ent => q.2) fun a _ b _ => rfl).trans ?_
  rw [e1]
  refine (List.map_mergeSort (f := ky) (r := leR rk) (fun a _ b _ => ?_)).symm
  have := congrFun (congrFun k.le a) b
  rw [← this]
  show (!dataLt (enc b) (enc a)) = (!dataLt (eD (ky b)) (eD (ky a)))
  rw [k.en, k.en]
theorem srt_la {L : List Ent} {l : List β} {H1 F1 : Hp} {q : Addr} (hL : (L.mergeSort leK).map (·.2) = l.map ky) (ht : Tps F1 L) (s : Same F1 H1) (hp : H1 q = none) :
    (rLst (l.map fun b => rKt (ky b))).at_ (upd F1 q (.lst ((L.mergeSort leK).map fun q => V.ref q.1))) (.ref q) := by
  refine ⟨q, _, rfl, upd_same, LA.of_map ?_ fun i b v hb hv => ?_⟩
  · have := congrArg List.length hL
    simpa using this
  · rw [List.getElem?_map] at hv
    obtain ⟨y, hy, rfl⟩ := Option.map_eq_some_iff.mp hv
    have e2 : ((L.mergeSort leK).map (·.2))[i]? = (l.map ky)[i]? := by rw [hL]
    rw [List.getElem?_map, List.getElem?_map, hy, hb] at e2
    have e3 : y.2 = ky b := Option.some.inj e2
    have hm : y ∈ L := (List.mergeSort_perm _ _).mem_iff.mp (List.mem_of_getElem? hy)
    refine rKt_of ?_
    have := ht y hm
    rw [upd_ne (ne_of_none this (s.free hp)), this, e3]
theorem ev_sortK (k : KyOk ky rk enc) {l : List β} (h : EvE ta Rs H F (rSet P w (l.map ky))) : EvE (tCB (rSortK P w) (tCons ta tNil)) Rs H F (rLst ((srt rk l).map fun b => rKt (ky b))) :=
  ev_cb (ea_1 h) fun H1 F1 vs g1 L0 Q q => by
    cases L0 with
    | cons r1 L0 =>
      cases L0
      obtain ⟨a, L, rfl, ha, ht, pm⟩ := r1
      refine ⟨a, L, rfl, g1.fh _ _ ha, tps_same g1.fh ht, srt_of k pm, fun L1 x p1 hx => ?_⟩
      have pm1 : (L1.map (·.2)).Perm (l.map ky) := (p1.map _).trans pm
      exact q _ _ _ (Gr.new g1.fh hx) (srt_la (srt_keys k pm1) (fun y hy => ht y (p1.mem_iff.mp hy)) g1.fh hx)
theorem ev_lenK {ks : List (List Key)} (h : EvE ta Rs H F (rSet P w ks)) : EvE (tCB (rLenK P w) (tCons ta tNil)) Rs H F (rI (ks.length : Nat)) :=
  ev_cb (ea_1 h) fun H1 F1 vs g1 L0 Q q => by
    cases L0 with
    | cons r1 L0 =>
      cases L0
      obtain ⟨a, L, rfl, ha, ht, pm⟩ := r1
      refine ⟨a, L, rfl, g1.fh _ _ ha, tps_same g1.fh ht, q _ _ _ (Gr.refl g1.fh) ?_⟩
      show V.int _ = V.int _
      rw [← pm.length_eq, List.length_map]
end
end K81
set_option Elab.async false
set_option linter.all false
set_option maxRecDepth 100000
set_option maxHeartbeats 2000000
set_option autoImplicit false
/-! K81R: rules of this program's own: what is a list or a tuple, enumerate of either, items of a dict with tuple keys. -/
namespace PySem
open Sem (wp)
set_option maxHeartbeats 1000000 in
theorem k81_enum_new {v : Value} {o : Obj} {Hh : Heap → Prop} (B : Begins v o Hh) :
    Meets (Builtin.«enumerate.__new__» ⟨[.type "enumerate", v], []⟩) (fun _ R s => Hh s.heap ∧
      R (.ok (.ret (.ref (s.heap.push o).objs.size))) { s with heap := (s.heap.push o).push { cls := .type "enumerate", data := .fields #[.none, .bool false, .ref s.heap.objs.size, rawInt 0, .none, .none] } }) :=
  .of_wp fun prog w A R s h => by
    obtain ⟨hp, g, d, tk, os⟩ := s
    obtain ⟨h1, h⟩ := h
    have hsub := sub_enumerate
    have q1 : ∀ {A' : Around} {E : Value → Shared → Prop} {Q : Value → Shared → Prop}, Q (.ref hp.objs.size) ⟨hp.push o, g, d, tk, os⟩ → wpAny (model prog w) A' (pyIter v) Q E ⟨hp, g, d, tk, os⟩ :=
      fun q => B.iter prog w _ _ ⟨hp, g, d, tk, os⟩ _ h1 q
    wp_walk using q1
    refine wpAny_stack_any fun st => wpAny_pure ?_
    split
    · rename_i c _ _ _ _ _
      cases (c == Value.type "enumerate") <;> (wp_walk using q1; exact ⟨_, rfl, h⟩)
    · wp_walk using q1
      exact ⟨_, rfl, h⟩
theorem k81_enum {prog : Program} {w : World} {A : Around} {E : Value → Shared → Prop} {s : Shared} {v : Value} {o : Obj} {Hh : Heap → Prop} {Q : Value → Shared → Prop} (B : Begins v o Hh) (h1 : Hh s.heap)
    (h : ∀ h', IsEnum h' (s.heap.objs.size + 1) s.heap.objs.size 0 .none → h'.get? s.heap.objs.size = some o →
      (∀ b o, s.heap.get? b = some o → h'.get? b = some o) → Q (.ref (s.heap.objs.size + 1)) { s with heap := h' }) :
    wpAny (model prog w) A (call (.type "enumerate") [v]) Q E s := by
  refine callType_new F.called_enumerate (by decide) (F.typeCall_enumerate_1 _) (F.newCall_enumerate_1 _) (fun obj => F.args_object_init_2 obj _) F.entry_enumerate_new (k81_enum_new B) ⟨h1, ?_⟩
  have hz : (s.heap.push o).objs.size = s.heap.objs.size + 1 := Heap.size_push ..
  show _ ∧ _
  rw [hz]
  have he := Heap.get?_push_size (s.heap.push o) (o := { cls := .type "enumerate", data := .fields #[.none, .bool false, .ref s.heap.objs.size, rawInt 0, .none, .none] }) rfl
  rw [hz] at he
  exact ⟨⟨_, he, rfl⟩, h _ he (Heap.get?_push_of_some _ (Heap.get?_push_size _ B.free)) fun b u x => Heap.get?_push_of_some _ (Heap.get?_push_of_some _ x)⟩
end PySem
namespace K81
open PySem PySem.Spec L2
open PyProof.Rows

/-! ### a list or a tuple -/
def SqS (K : PySem.W.Frag) (H : Hp) (a : Addr) (xs : List V) : Prop := SqL K H a xs ∨ SqT K H a xs
/-- enumerate of a tuple -/
def IteT (K : PySem.W.Frag) (a : Addr) : It :=
  ⟨fun i H => ∃ (xs : List V) (x : V), SqT K H a xs ∧ xs[i]? = some x, fun i H v H' => ∃ T x, v = .ref T ∧ H T = none ∧ H' = upd H T (.tup [.int (i : Nat), x]) ∧ ∀ xs, SqT K H a xs → xs[i]? = some x, fun i H => ∃ xs : List V, SqT K H a xs ∧ xs.length = i⟩
theorem tup_ne_iter {h : Heap} {a it : Addr} {items : Array Value} {t : Addr} {i : Nat} (hT : h.IsTuple a items) (hit : h.IsTupleIter it t i) : a ≠ it := by
  rintro rfl
  obtain ⟨o1, q1, c1, _⟩ := hT
  obtain ⟨o2, q2, c2, _⟩ := hit
  rw [q1] at q2
  cases q2
  rw [c1] at c2
  injection c2 with c2
  exact absurd c2 (by decide)
theorem turn_enumT {P : Program} {w : World} {K : PySem.W.Frag} {elts : List Expr} {kk : Nat} {tpos : Pos} (a e it : Addr) :
    Turn P w K (.Tuple elts kk tpos) (IteT K a) [e, it] e (fun i h => (∃ old, IsEnum h e it ((i : Nat) : Int) old) ∧ h.IsTupleIter it a i ∧ e ≠ it) where
  mem := by simp
  obj := fun i h st b hb => by
    obtain ⟨⟨old, he⟩, ⟨o, ho, hc, hd⟩, _⟩ := st
    rcases (by simpa using hb : b = e ∨ b = it) with rfl | rfl
    · exact ⟨_, he, fun v q => nomatch q⟩
    · exact ⟨o, ho, fun v q => by rw [hd] at q; cases q⟩
  keep := fun i h h' st k => let ⟨⟨old, he⟩, ⟨o, ho, r⟩, hne⟩ := st; ⟨⟨old, k e (by simp) _ he⟩, ⟨o, k it (by simp) _ ho, r⟩, hne⟩
  item := by
    intro X hP hw hK hc i pins s σ H E I hf st hg
    subst hP hw hK
    obtain ⟨⟨old, he⟩, hit, hne⟩ := st
    obtain ⟨xs, x, hq, hx⟩ := hg
    obtain ⟨its, rv, p, hz⟩ := I.tuple hq
    obtain ⟨u, hu, ru⟩ := rv.get hx
    have hT : s.heap.IsTuple a its.toArray := p
    have hel : e < s.heap.objs.size := Heap.lt_size he
    have hil : it < s.heap.objs.size := by obtain ⟨_, q, _⟩ := hit; exact Heap.lt_size q
    have hai : a ≠ it := tup_ne_iter hT hit
    have hae : a ≠ e := by
      rintro rfl
      obtain ⟨o1, q1, c1, _⟩ := hT
      have he : s.heap.get? a = some _ := he
      rw [he] at q1
      cases q1
      injection c1 with c1
      exact absurd c1 (by decide)
    have hlt : i < its.toArray.size := by
      have := (List.getElem?_eq_some_iff.mp hu).1
      simpa using this
    refine wpAny_pyNext_enum_itemD (Draws.tuple (prog := X.prog) (w := X.w) (A := X.A.in1) (I.ok.hd hc) it a hai its.toArray) he ⟨hit, hT⟩ hlt hne (by simp [hne, hae.symm]) fun y h' tk hy ho hst' hT1 hsz hk => ?_
    have ey : y = u := by
      have hy : its.toArray[i]? = some y := hy
      rw [List.getElem?_toArray, hu] at hy
      exact (Option.some.inj hy).symm
    subst ey
    refine ⟨_, rfl, wpAny_letOwnedTupleGo_enum (s := { s with heap := h', toks := tk + 1 }) ho fun h'' he' sb => ?_⟩
    have hT2 : h''.get? s.heap.objs.size = some { cls := .type "tuple", data := .seq #[.int i tk, y] } := (sb.2 _ (Nat.ne_of_gt hel)).trans hT1
    have new : ObjOk X.prog X.w (upd H s.heap.objs.size (.tup [.int (i : Nat), x])) h'' s.heap.objs.size (.tup [.int (i : Nat), x]) :=
      ⟨by show 2 ≤ sizeLine; decide, [.int i tk, y], .cons ⟨_, rfl⟩ (.cons ru .nil), ⟨_, hT2, rfl, _, rfl⟩⟩
    have I1 : Inv X pins σ (upd H s.heap.objs.size (.tup [.int (i : Nat), x])) { s with heap := h'', toks := tk + 1 } :=
      I.turnedNew (ch := [e, it]) (fun b ob hb q => (sb.2 b (fun z => hb (by simp [z]))).trans (hk b ob (fun z => hb (by simp [z])) (fun z => hb (by simp [z])) q)) hf (Nat.le_refl _) new
    refine ⟨.ref s.heap.objs.size, _, I1, rfl, ⟨_, x, rfl, I.hok.fresh (Nat.le_refl _), rfl, fun ys hy => ?_⟩, ⟨⟨y, ?_⟩, ?_, hne⟩, fun b hb => ?_⟩
    · obtain ⟨its2, rv2, p2, _⟩ := I.tuple hy
      obtain ⟨o1, q1, _, n1, d1⟩ := hT
      obtain ⟨o2, q2, _, n2, d2⟩ := (show s.heap.IsTuple a its2.toArray from p2)
      rw [q1] at q2
      cases q2
      rw [d1] at d2
      injection d2 with d2 _
      have e2 : its = its2 := by simpa using congrArg Array.toList d2
      subst e2
      -- one value stands for each
      cases hyi : ys[i]? with
      | none =>
        have h1 := List.getElem?_eq_none_iff.mp hyi
        have h2 := rv2.length
        have h3 := (List.getElem?_eq_some_iff.mp hu).1
        omega
      | some z =>
        obtain ⟨u2, hu2, ru2⟩ := rv2.get hyi
        rw [hu] at hu2
        cases hu2
        rw [ru2.inj ru]
    · have e1 : ((i + 1 : Nat) : Int) = (i : Int) + 1 := by omega
      rw [e1]; exact he'
    · obtain ⟨⟨o1, q1, r1⟩, _⟩ := hst'
      exact ⟨o1, (sb.2 it (Ne.symm hne)).trans q1, r1⟩
    · have hb' : b < s.heap.objs.size := by
        rcases (by simpa using hb : b = e ∨ b = it) with rfl | rfl
        · exact hel
        · exact hil
      rw [upd_ne (Nat.ne_of_lt hb')]
      exact (hf b hb).1
  done := by
    intro X hP hw hK hc i pins s σ H E I hf st hg
    subst hP hw hK
    obtain ⟨⟨old, he⟩, hit, hne⟩ := st
    obtain ⟨xs, hq, hx⟩ := hg
    obtain ⟨its, rv, p, hz⟩ := I.tuple hq
    obtain ⟨f0, f1, f2, f3, f4, f5⟩ := hf it (by simp)
    have hT : s.heap.IsTuple a its.toArray := p
    have hai : a ≠ it := tup_ne_iter hT hit
    have hl : its.toArray.size = i := by rw [List.size_toArray, ← rv.length]; exact hx
    rw [← hl] at hit
    exact wpAny_pyNext_enum_endD (Draws.tuple (prog := X.prog) (w := X.w) (A := X.A.in1) (I.ok.hd hc) it a hai its.toArray) he ⟨hit, hT⟩ fun h' eb => ⟨rfl, I.turned (t' := s.toks) (fun b o hb q => eb b o hb q) f0 f1 f3 f4 f5⟩
  self := fun A i s Q E st h => let ⟨⟨_, he⟩, _⟩ := st; wpAny_pyIter_enum he h
end K81
set_option Elab.async false
set_option linter.all false
set_option maxRecDepth 100000
set_option maxHeartbeats 2000000
set_option autoImplicit false
/-! K81R2: walks over a list or a tuple, slices of either, in either; items of a dict with tuple keys. -/
namespace K81
open PySem PySem.Spec L2
open PyProof.Rows
section
variable {X : Cx} {tg e : Expr} {te : TE} {ta : TA} {p pos tpos : Pos} {elts : List Expr} {kk : Nat}
def iSeq (K : PySem.W.Frag) (tl : TE) : TI := fun σ H R => tl σ H fun x H1 => ∃ a, x = .ref a ∧ (((∃ xs, SqL K H1 a xs) ∧ R (Itl K a) H1) ∨ ((∃ xs, SqT K H1 a xs) ∧ R (Itt K a) H1))
theorem pi_seq (hl : PE X e te) : PI X tg e (iSeq X.K te) := by
  refine ⟨fun pins s σ H R I h => thn (hl.run pins s σ H _ I h) fun v s1 ⟨x, H1, I1, r1, a, ex, q1⟩ => ?_⟩
  subst ex
  cases r1
  have fp : ∀ b ∈ [s1.heap.objs.size], FpOk X pins H1 b := fun b hb => by
    rw [List.mem_singleton.mp hb]
    exact I1.fpOk (Nat.le_refl _) (I1.hok.fresh (Nat.le_refl _))
  rcases q1 with ⟨⟨xs, hq⟩, q⟩ | ⟨⟨xs, hq⟩, q⟩
  · obtain ⟨its, rv, p, hz⟩ := I1.list hq
    exact wpAny_pyIter_list p.isList ⟨s1.heap.objs.size, [s1.heap.objs.size], _, _, H1, rfl, I1.kept (t' := s1.toks) fun b o e => Heap.get?_push_of_some _ e, turn_list a _, ⟨_, Heap.get?_push_size _ rfl, rfl, rfl⟩, fp, q⟩
  · obtain ⟨its, rv, p, hz⟩ := I1.tuple hq
    exact wpAny_pyIter_tuple (show s1.heap.IsTuple a its.toArray from p) ⟨s1.heap.objs.size, [s1.heap.objs.size], _, _, H1, rfl, I1.kept (t' := s1.toks) fun b o e => Heap.get?_push_of_some _ e, turn_tuple a _, ⟨_, Heap.get?_push_size _ rfl, rfl, rfl⟩, fp, q⟩
def iEnumS (K : PySem.W.Frag) (ta : TA) : TI := fun σ H R => ta σ H fun vs H1 => ∃ a, vs = [.ref a] ∧ (((∃ xs, SqL K H1 a xs) ∧ R (Ite K a) H1) ∨ ((∃ xs, SqT K H1 a xs) ∧ R (IteT K a) H1))
theorem pi_enumS (hg : Gl X "enumerate") (hm : X.mg "enumerate" = none) (ha : PA X [e] ta) (hs : starEach [e] X.env = [(false, eval e X.env)] := by rfl) :
    PI X (.Tuple elts kk tpos) (.Call (.Name "enumerate" p) [e] [] pos) (iEnumS X.K ta) := by
  refine ⟨fun pins s σ H R I h => ?_⟩
  refine Call_ (ld_blt I hg hm boot_enumerate (PyProof.Rows.callWith_type1 (thn (ha.run pos pins s σ H _ I h) fun us s1 ⟨vs, H1, I1, r1, a, ex, q1⟩ => ?_) hs rfl))
  subst ex
  cases r1 with
  | cons r rr =>
    cases rr
    cases r
    have fp : ∀ b ∈ [s1.heap.objs.size + 1, s1.heap.objs.size], FpOk X pins H1 b := fun b hb => by
      have hle : s1.heap.objs.size ≤ b := by
        rcases (by simpa using hb : b = s1.heap.objs.size + 1 ∨ b = s1.heap.objs.size) with z | z
        · rw [z]; exact Nat.le_add_right _ _
        · rw [z]; exact Nat.le_refl _
      exact I1.fpOk hle (I1.hok.fresh hle)
    rcases q1 with ⟨⟨xs, hq⟩, q⟩ | ⟨⟨xs, hq⟩, q⟩
    · obtain ⟨its, rv, p', hz⟩ := I1.list hq
      refine call_enumerate_list p'.isList fun h' he hit hsz hk => wpAny_pyIter_enum he ?_
      exact ⟨s1.heap.objs.size + 1, [s1.heap.objs.size + 1, s1.heap.objs.size], _, _, H1, rfl, I1.kept (t' := s1.toks) hk, turn_enum a (s1.heap.objs.size + 1) s1.heap.objs.size, ⟨⟨.none, he⟩, hit, Nat.succ_ne_self _⟩, fp, q⟩
    · obtain ⟨its, rv, p', hz⟩ := I1.tuple hq
      refine k81_enum (begins_tuple a its.toArray) (show s1.heap.IsTuple a its.toArray from p') fun h' he hit hk => wpAny_pyIter_enum he ?_
      exact ⟨s1.heap.objs.size + 1, [s1.heap.objs.size + 1, s1.heap.objs.size], _, _, H1, rfl, I1.kept (t' := s1.toks) hk, turn_enumT a (s1.heap.objs.size + 1) s1.heap.objs.size, ⟨⟨.none, he⟩, ⟨_, hit, rfl, rfl⟩, Nat.succ_ne_self _⟩, fp, q⟩
/-- a part of either -/
def rSlS (K : PySem.W.Frag) : V → Option Int → Option Int → Hp → VK → Prop := fun x lo hi H Q => rSlL K x lo hi H Q ∨ rSlT K x lo hi H Q
theorem sl_seq : SlR X (rSlS X.K) := fun pins s σ H x v vl vu lo hi sl Q I rx hs pl pu h =>
  h.elim (fun h => sl_list pins s σ H x v vl vu lo hi sl Q I rx hs pl pu h) fun h => sl_tup pins s σ H x v vl vu lo hi sl Q I rx hs pl pu h
def rInS2 (K : PySem.W.Frag) : R2 := fun x y H Q => ∃ d ds, Dp K H x d ∧ (Dp K H y (.list ds) ∨ Dp K H y (.tuple ds)) ∧ SeqAt.shaped d = true ∧ SeqAt.shaped (.list ds) = true ∧ Q (.bl (ds.any fun z => PyData.eqv z d)) H
theorem op_inS2 (hu : X.A.units + 65 < cLine) : OpR X (compareOp .In) (rInS2 X.K) := by
  intro pins s σ H x y v u Q I rx ry h
  obtain ⟨d, ds, hd, he, sd, se, q⟩ := h
  obtain ⟨as, r1⟩ := Dp.reads I d x v hd rx
  rcases he with he | he
  · obtain ⟨bs, r2⟩ := Dp.reads I (.list ds) y u he ry
    exact SeqAt.in_list_reads r2 r1 (SeqAt.canLay_of_shaped se) (SeqAt.canLay_of_shaped sd) (room_in_shaped sd hu) ⟨.bl _, H, I, rfl, q⟩
  · obtain ⟨bs, r2⟩ := Dp.reads I (.tuple ds) y u he ry
    exact SeqAt.in_tuple_reads r2 r1 (SeqAt.canLay_of_shaped se) (SeqAt.canLay_of_shaped sd) (room_in_shaped sd hu) ⟨.bl _, H, I, rfl, q⟩
end
/-! ### items of a dict with tuple keys that stays -/
/-- the pairs, each a new tuple -/
def ItiT (d : Addr) (o : Obj) (kvs : List (List Key × V)) : It :=
  ⟨fun i H => H d = some (.frz o (.dT kvs)) ∧ i < kvs.length, fun i H x H' => ∃ T k v q, kvs[i]? = some (k, v) ∧ x = .ref T ∧ H q = some (.tup (k.map kV)) ∧ H T = none ∧ H' = upd H T (.tup [.ref q, v]), fun i H => H d = some (.frz o (.dT kvs)) ∧ kvs.length ≤ i⟩
section
variable {X : Cx} {pins : List (Addr × Obj)} {σ : L2.St} {H : Hp} {s : Shared}
theorem frzT_all {d : Addr} {o : Obj} {kvs : List (List Key × V)} (I : Inv X pins σ H s) (h : H d = some (.frz o (.dT kvs))) :
    (d == sysModules) = false ∧ s.heap.get? d = some o ∧ o.ExactDict ∧ ∃ (es : Array DictEntry) (ep : Nat), o.data = .dict es ep ∧ es.size = kvs.length ∧
      ∀ (i : Nat) (k : List Key) (v : V), kvs[i]? = some (k, v) → ∃ (en : DictEntry) (q : Addr), es[i]? = some en ∧ en.key = .ref q ∧ H q = some (.tup (k.map kV)) ∧ RelV v en.val := by
  obtain ⟨hd, z, hs, xs, pr, o', es, ep, ho, hx, hdt, he, _⟩ := I.hok d _ h
  rw [hd] at ho
  cases ho
  refine ⟨hs, hd, hx, es, ep, hdt, ?_, fun i k v e => ?_⟩
  · have l1 : es.size = xs.length := size_of_entries he
    have l2 : kvs.length = xs.length := Paired.length pr
    omega
  · obtain ⟨b, hb, e1, e2, e3⟩ := L2.paired_get pr e
    have q := entry_at he i
    rw [hb] at q
    exact ⟨_, b.2.1, q, rfl, e2, e3⟩
end
theorem turn_itemsT {P : Program} {w : World} {K : PySem.W.Frag} {d : Addr} {o : Obj} {es : Array DictEntry} {ep : Nat} {kvs : List (List Key × V)} {elts : List Expr} {kk : Nat} {tpos : Pos} (it : Addr) (hod : o.data = .dict es ep) :
    Turn P w K (.Tuple elts kk tpos) (ItiT d o kvs) [it] it (fun i h => ∃ ok ov, IsItemIter h it d i es.size ep ok ov) where
  mem := by simp
  obj := fun i h st b hb => by
    rw [List.mem_singleton.mp hb]
    obtain ⟨ok, ov, e⟩ := st
    exact ⟨_, e, fun v z => nomatch z⟩
  keep := fun i h h' st k => let ⟨ok, ov, e⟩ := st; ⟨ok, ov, k it (by simp) _ e⟩
  item := by
    intro X hP hw hK hc i pins s σ H E I hf st hg
    subst hP hw hK
    obtain ⟨hd, hi⟩ := hg
    obtain ⟨hs, hgd, hx, es', ep', hdt, hsz, ent⟩ := frzT_all I hd
    obtain ⟨rfl, rfl⟩ := dict_ep hod hdt
    obtain ⟨⟨k, v⟩, hkv⟩ : ∃ p, kvs[i]? = some p := ⟨kvs[i], List.getElem?_eq_getElem hi⟩
    obtain ⟨en, q, hen, hkey, hq, hv⟩ := ent i k v hkv
    obtain ⟨ok, ov, he⟩ := st
    have hlt : it < s.heap.objs.size := Heap.lt_size he
    have hie : i < es'.size := by omega
    have een : es'[i] = en := by
      rw [Array.getElem?_eq_getElem hie] at hen
      exact Option.some.inj hen
    refine DT.nextI he ⟨o, hgd, hx, hod⟩ hie fun h' ho hT hz hk => ?_
    refine ⟨_, rfl, wpAny_letOwnedTupleGo_items (s := { s with heap := h' }) ho fun h'' he' sb => ?_⟩
    have hT2 : h''.get? s.heap.objs.size = some { cls := .type "tuple", data := .seq #[.ref q, en.val] } := by
      rw [← hkey, ← een]
      exact (sb.2 _ (Nat.ne_of_gt hlt)).trans hT
    have new : ObjOk X.prog X.w (upd H s.heap.objs.size (.tup [.ref q, v])) h'' s.heap.objs.size (.tup [.ref q, v]) :=
      ⟨by show 2 ≤ sizeLine; decide, [.ref q, en.val], .cons rfl (.cons hv .nil), ⟨_, hT2, rfl, _, rfl⟩⟩
    have I1 : Inv X pins σ (upd H s.heap.objs.size (.tup [.ref q, v])) { s with heap := h'' } :=
      I.turnedNew (t' := s.toks) (ch := [it]) (fun b ob hb e => (sb.2 b (by simpa using hb)).trans (hk b ob (by simpa using hb) e)) hf (Nat.le_refl _) new
    refine ⟨.ref s.heap.objs.size, _, I1, rfl, ⟨_, k, v, q, hkv, rfl, hq, I.hok.fresh (Nat.le_refl _), rfl⟩, ⟨_, _, he'⟩, fun b hb => ?_⟩
    rw [List.mem_singleton.mp hb, upd_ne (Nat.ne_of_lt hlt)]
    exact (hf it (by simp)).1
  done := by
    intro X hP hw hK hc i pins s σ H E I hf st hg
    subst hP hw hK
    obtain ⟨hd, hi⟩ := hg
    obtain ⟨f0, f1, f2, f3, f4, f5⟩ := hf it (by simp)
    obtain ⟨hs, hgd, hx, es', ep', hdt, hsz, ent⟩ := frzT_all I hd
    obtain ⟨rfl, rfl⟩ := dict_ep hod hdt
    obtain ⟨ok, ov, he⟩ := st
    exact DT.endI (I.ok.hd hc) he ⟨o, hgd, hx, hod⟩ (by omega) fun h' eb => ⟨rfl, I.turned (t' := s.toks) (fun b ob hb e => eb b ob hb e) f0 f1 f3 f4 f5⟩
  self := fun A i s Q E st h => let ⟨_, _, e⟩ := st; PySem.W.kcp_self e h
section
variable {X : Cx} {e : Expr} {td : TE} {apos cpos tpos : Pos} {elts : List Expr} {kk : Nat}
def iItemsT (td : TE) : TI := fun σ H R => td σ H fun x H1 => ∃ d o kvs, x = .ref d ∧ H1 d = some (.frz o (.dT kvs)) ∧ R (ItiT d o kvs) H1
theorem pi_itemsT (he : PE X e td) (hbase : attributeBase e "items" X.env (eval e X.env) = eval e X.env := by rfl) (hline : (apos.endLine == cpos.line) = true := by rfl) :
    PI X (.Tuple elts kk tpos) (.Call (.Attribute e "items" apos) [] [] cpos) (iItemsT td) := by
  refine ⟨fun pins s σ H R I h => ?_⟩
  refine wpAny_Call_method (T := "dict") (id := "dict.items") hbase rfl hline F.plainAttrs_dict F.slot_dict_items F.type_dict_items (thn (he.run pins s σ H _ I h) fun u s1 ⟨x, H1, I1, rx, d, o, kvs, ex, hd, q⟩ => ?_)
  subst ex
  obtain rfl : u = Value.ref d := rx
  obtain ⟨hs, hgd, hx, es, ep, hdt, hsz, ent⟩ := frzT_all I1 hd
  refine ⟨⟨o, hgd, hx.1⟩, fun b hb => ⟨o, by cases hb; exact hgd, hx.2.1⟩, ?_⟩
  have I2 : Inv X pins σ H1 { s1 with heap := s1.heap.push { cls := .type "dict_items", data := .fields #[.ref d] } } := I1.kept (t' := s1.toks) fun b ob q => Heap.get?_push_of_some _ q
  have fin : wpAny (model X.prog X.w) X.A (pyIter (.ref s1.heap.objs.size)) (PIE X pins σ (.Tuple elts kk tpos) R) X.xe { s1 with heap := s1.heap.push { cls := .type "dict_items", data := .fields #[.ref d] } } := by
    refine DT.iterI (d := d) (es := es) (ep := ep) ⟨_, Heap.get?_push_size _ rfl, rfl, rfl⟩ ⟨o, Heap.get?_push_of_some _ hgd, hx, hdt⟩ (pi_one (tk := s1.toks) I2 _ (turn_itemsT _ hdt) ⟨.none, .none, ?_⟩ q)
    exact Heap.get?_push_size _ rfl
  show wpAny _ _ (callWith cpos (.builtin "dict.items") [.ref d] [] []) _ X.xe s1
  exact method_meetsIn F.slot_dict_items F.entry_dict_items rfl (PySem.evalArgs_none ⟨rfl, ⟨o, hgd, hx.1⟩, F.args_dict_items_1 _, _, DT.meetsItems (es := es) (ep := ep) hs, ⟨⟨o, hgd, hx, hdt⟩, fin⟩⟩)
end
end K81
set_option Elab.async false
set_option linter.all false
set_option maxRecDepth 100000
set_option maxHeartbeats 2000000
set_option autoImplicit false
/-! K81G: what walks, slices, sorted lists, dicts with tuple keys evaluate to. -/
namespace K81
open PySem PySem.Spec L2
open PyProof.Rows
open PySem.W (dataLe AllAlike Sortable)

/-! ### a list or a tuple that stays -/
def rSeq (Rs : List Rep) : Rep := ⟨fun F v => ∃ a vs, v = .ref a ∧ (F a = some (.lst vs) ∨ F a = some (.tup vs)) ∧ LA F vs Rs, fun s ⟨a, vs, e, h, l⟩ => ⟨a, vs, e, h.imp (s _ _) (s _ _), l.mono s⟩⟩
theorem seq_lst {Ts : List Rep} {F : Hp} {v : V} (h : (rLst Ts).at_ F v) : (rSeq Ts).at_ F v := let ⟨a, vs, e, h, l⟩ := h; ⟨a, vs, e, .inl h, l⟩
theorem seq_tup {Ts : List Rep} {F : Hp} {v : V} (h : (rTup Ts).at_ F v) : (rSeq Ts).at_ F v := let ⟨a, vs, e, h, l⟩ := h; ⟨a, vs, e, .inr h, l⟩
def enumL {α : Type} (xs : List α) : List (Nat × α) := xs.zipIdx.map fun p => (p.2, p.1)
theorem enumL_len {α : Type} (xs : List α) : (enumL xs).length = xs.length := by simp [enumL]
theorem enumL_get {α : Type} {xs : List α} {i : Nat} {p : Nat × α} (h : (enumL xs)[i]? = some p) : p.1 = i ∧ xs[i]? = some p.2 := by
  unfold enumL at h
  rw [List.getElem?_map, List.getElem?_zipIdx] at h
  cases e : xs[i]? with
  | none => rw [e] at h; cases h
  | some x => rw [e] at h; cases h; exact ⟨Nat.zero_add i, rfl⟩
section
variable {K : PySem.W.Frag} {Rs : Rs_} {H F : Hp} {tl te ta : TE} {α : Type} {xs : List α} {RA : α → Rep}
theorem it_lst {F2 : Hp} {a : Addr} {vs : List V} (ha : F2 a = some (.lst vs)) (l : LA F2 vs (xs.map RA)) : ItOk (Itl K a) F2 xs RA := by
  have hl : vs.length = xs.length := by rw [l.len, List.length_map]
  intro H3 F3 s1 s2
  have h3 := SqL.of (K := K) (s2 _ _ (s1 _ _ ha))
  refine ⟨⟨vs, h3, by omega⟩, fun i x hx => ?_⟩
  obtain ⟨v, hv, hr⟩ := l.get (i := i) (R := RA x) (by rw [List.getElem?_map, hx]; rfl)
  refine ⟨⟨vs, v, h3, hv⟩, fun u H4 ⟨e4, y⟩ => ?_⟩
  subst e4
  have := y vs h3
  rw [hv] at this
  cases this
  exact ⟨F3, Gr.refl s2, (RA x).mono s1 hr⟩
theorem it_tup {F2 : Hp} {a : Addr} {vs : List V} (ha : F2 a = some (.tup vs)) (l : LA F2 vs (xs.map RA)) : ItOk (Itt K a) F2 xs RA := by
  have hl : vs.length = xs.length := by rw [l.len, List.length_map]
  intro H3 F3 s1 s2
  have h3 := SqT.of (K := K) (s2 _ _ (s1 _ _ ha))
  refine ⟨⟨vs, h3, by omega⟩, fun i x hx => ?_⟩
  obtain ⟨v, hv, hr⟩ := l.get (i := i) (R := RA x) (by rw [List.getElem?_map, hx]; rfl)
  refine ⟨⟨vs, v, h3, by simpa using hv⟩, fun u H4 ⟨e4, y⟩ => ?_⟩
  subst e4
  have := y vs h3
  rw [hv] at this
  cases this
  exact ⟨F3, Gr.refl s2, (RA x).mono s1 hr⟩
theorem src_seq (h : EvE tl Rs H F (rSeq (xs.map RA))) : SrcL (iSeq K tl) Rs H F xs RA := by
  intro σ H1 F1 g e R q
  refine h σ H1 F1 g e _ fun v H2 F2 k ⟨a, vs, ev, ha, l⟩ => ⟨a, ev, ?_⟩
  rcases ha with ha | ha
  · exact .inl ⟨⟨vs, SqL.of (k.fh _ _ ha)⟩, q _ H2 F2 k (it_lst ha l)⟩
  · exact .inr ⟨⟨vs, SqT.of (k.fh _ _ ha)⟩, q _ H2 F2 k (it_tup ha l)⟩
/-- the pair that enumerate makes -/
theorem pair_new {F3 H3 : Hp} {T : Addr} {i : Nat} {v : V} {A : Rep} (s : Same F3 H3) (hT : H3 T = none) (r : A.at_ F3 v) : ∃ F4, G0 H3 F3 (upd H3 T (.tup [.int (i : Nat), v])) F4 ∧ (rTup [rNat i, A]).at_ F4 (.ref T) := by
  have g : G0 H3 F3 (upd H3 T (.tup [.int (i : Nat), v])) (upd F3 T (.tup [.int (i : Nat), v])) := Gr.new s hT
  exact ⟨_, g, T, _, rfl, upd_same, .cons rfl (.cons (A.mono g.ff r) .nil)⟩
theorem it_enumL {F2 : Hp} {a : Addr} {vs : List V} (ha : F2 a = some (.lst vs)) (l : LA F2 vs (xs.map RA)) : ItOk (Ite K a) F2 (enumL xs) (fun p => rTup [rNat p.1, RA p.2]) := by
  have hl : vs.length = xs.length := by rw [l.len, List.length_map]
  intro H3 F3 s1 s2
  have h3 := SqL.of (K := K) (s2 _ _ (s1 _ _ ha))
  refine ⟨⟨vs, h3, by rw [enumL_len]; omega⟩, fun i x hx => ?_⟩
  obtain ⟨rfl, hx⟩ := enumL_get hx
  obtain ⟨v, hv, hr⟩ := l.get (i := x.1) (R := RA x.2) (by rw [List.getElem?_map, hx]; rfl)
  refine ⟨⟨vs, v, h3, hv⟩, fun u H4 ⟨T, y, eu, hT, e4, hy⟩ => ?_⟩
  subst eu e4
  have := hy vs h3
  rw [hv] at this
  cases this
  exact pair_new s2 hT ((RA x.2).mono s1 hr)
theorem it_enumT {F2 : Hp} {a : Addr} {vs : List V} (ha : F2 a = some (.tup vs)) (l : LA F2 vs (xs.map RA)) : ItOk (IteT K a) F2 (enumL xs) (fun p => rTup [rNat p.1, RA p.2]) := by
  have hl : vs.length = xs.length := by rw [l.len, List.length_map]
  intro H3 F3 s1 s2
  have h3 := SqT.of (K := K) (s2 _ _ (s1 _ _ ha))
  refine ⟨⟨vs, h3, by rw [enumL_len]; omega⟩, fun i x hx => ?_⟩
  obtain ⟨rfl, hx⟩ := enumL_get hx
  obtain ⟨v, hv, hr⟩ := l.get (i := x.1) (R := RA x.2) (by rw [List.getElem?_map, hx]; rfl)
  refine ⟨⟨vs, v, h3, hv⟩, fun u H4 ⟨T, y, eu, hT, e4, hy⟩ => ?_⟩
  subst eu e4
  have := hy vs h3
  rw [hv] at this
  cases this
  exact pair_new s2 hT ((RA x.2).mono s1 hr)
theorem src_enumL (h : EvE tl Rs H F (rLst (xs.map RA))) : SrcL (iEnum K (tCons tl tNil)) Rs H F (enumL xs) (fun p => rTup [rNat p.1, RA p.2]) := by
  intro σ H1 F1 g e R q
  refine ea_1 h σ H1 F1 g e _ fun us H2 F2 k r => ?_
  cases r with
  | cons r0 r =>
    cases r
    obtain ⟨a, vs, rfl, ha, l⟩ := r0
    exact ⟨a, vs, rfl, SqL.of (k.fh _ _ ha), q _ H2 F2 k (it_enumL ha l)⟩
theorem src_enumS (h : EvE tl Rs H F (rSeq (xs.map RA))) : SrcL (iEnumS K (tCons tl tNil)) Rs H F (enumL xs) (fun p => rTup [rNat p.1, RA p.2]) := by
  intro σ H1 F1 g e R q
  refine ea_1 h σ H1 F1 g e _ fun us H2 F2 k r => ?_
  cases r with
  | cons r0 r =>
    cases r
    obtain ⟨a, vs, rfl, ha, l⟩ := r0
    rcases ha with ha | ha
    · exact ⟨a, rfl, .inl ⟨⟨vs, SqL.of (k.fh _ _ ha)⟩, q _ H2 F2 k (it_enumL ha l)⟩⟩
    · exact ⟨a, rfl, .inr ⟨⟨vs, SqT.of (k.fh _ _ ha)⟩, q _ H2 F2 k (it_enumT ha l)⟩⟩
/-! ### slices from the front -/
theorem sIx_nat {n i : Nat} (h : i ≤ n) (d : Nat) : HT.sIx n d (some (i : Nat)) = i := by rw [HT.sIx_nat, Nat.min_eq_left h]
theorem cut_take {Ts : List Rep} {i : Nat} (h : i ≤ Ts.length) : cutR Ts none (some (i : Nat)) = Ts.take i := by
  unfold cutR
  rw [sIx_nat h]
  have e : HT.sIx Ts.length 0 none = 0 := rfl
  rw [e]
  simp
theorem ev_take {ti : TE} {Ts : List Rep} {i : Nat} (h : EvE te Rs H F (rLst Ts)) (hi : EvE ti Rs H F (rNat i)) (hl : i ≤ Ts.length) : EvE (tSl (rSlL K) te tNoPart (tPart ti)) Rs H F (rLst (Ts.take i)) := by
  have := ev_slL (K := K) h eo_none (eo_some hi)
  rwa [cut_take hl] at this
theorem ev_takeS {ti : TE} {Ts : List Rep} {i : Nat} (h : EvE te Rs H F (rSeq Ts)) (hi : EvE ti Rs H F (rNat i)) (hl : i < Ts.length) : EvE (tSl (rSlS K) te tNoPart (tPart ti)) Rs H F (rSeq (Ts.take i)) := by
  intro σ H1 F1 g e Q q
  refine h σ H1 F1 g e _ fun x H2 F2 k2 ⟨a, vs, ex, ha, l⟩ => eo_none σ H2 F2 (g.trans k2) (e.mono k2.ff) _ fun H3 F3 k3 => eo_some hi σ H3 F3 ((g.trans k2).trans k3) (e.mono (k2.trans k3).ff) _ fun H4 F4 k4 => ?_
  have cut : ∀ F', Same F4 F' → LA F' (cutV vs none (some (i : Nat))) (Ts.take i) := fun F' s => by
    have := la_cut (lo := none) (hi := some ((i : Nat) : Int)) (l.mono (((k3.trans k4).ff).trans s))
    rwa [show (Ts.drop _).take _ = _ from cut_take (Nat.le_of_lt hl)] at this
  have g4 := (k2.trans k3).trans k4
  rcases ha with ha | ha
  · have ha4 := (k3.trans k4).ff _ _ ha
    refine .inl ⟨a, vs, ex, SqL.of (k4.fh _ _ ha4), fun p hp => ?_⟩
    have k5 : G0 H4 F4 (upd H4 p (.lst (cutV vs none (some (i : Nat))))) (upd F4 p (.lst (cutV vs none (some (i : Nat))))) := Gr.new k4.fh hp
    exact q _ _ _ (g4.trans k5) ⟨p, _, rfl, .inl upd_same, cut _ k5.ff⟩
  · have ha4 := (k3.trans k4).ff _ _ ha
    refine .inr ⟨a, vs, ex, SqT.of (k4.fh _ _ ha4), ?_, fun p hp => ?_⟩
    · rintro ⟨_, h2⟩
      rw [l.len, sIx_nat (Nat.le_of_lt hl)] at h2
      omega
    have k5 : G0 H4 F4 (upd H4 p (.tup (cutV vs none (some (i : Nat))))) (upd F4 p (.tup (cutV vs none (some (i : Nat))))) := Gr.new k4.fh hp
    exact q _ _ _ (g4.trans k5) ⟨p, _, rfl, .inr upd_same, cut _ k5.ff⟩
theorem ev_inSeq {tb : TE} {Ts : List Rep} {A : Rep} {d : PyData} {ds : List PyData} (ha : EvE ta Rs H F A) (hb : EvE tb Rs H F (rSeq Ts)) (da : DpR K A d) (db : DpRs K Ts ds) (sd : SeqAt.shaped d = true) (se : SeqAt.shaped (.list ds) = true) : EvE (tOp (rInS2 K) ta tb) Rs H F (rB (ds.any fun z => PyData.eqv z d)) :=
  ev_op ha hb fun H1 F1 x y g hx ⟨a, vs, ey, hy, l⟩ Q q => by
    subst ey
    refine ⟨d, ds, da _ _ (A.mono g.fh hx), ?_, sd, se, q _ _ _ (Gr.refl g.fh) rfl⟩
    rcases hy with hy | hy
    · exact .inl (.lst (SqL.of (g.fh _ _ hy)) (db.all (l.mono g.fh)))
    · exact .inr (.tup (SqT.of (g.fh _ _ hy)) (db.all (l.mono g.fh)))
/-- x in l, for a list of things that are told apart -/
theorem any_dec {β : Type} [DecidableEq β] {enc : β → PyData} (hp : ∀ a, plain (enc a) = true) (hi : ∀ a b, enc a = enc b → a = b) (l : List β) (x : β) : ((l.map enc).any fun z => PyData.eqv z (enc x)) = decide (x ∈ l) := by
  rw [List.any_map]
  by_cases h : x ∈ l
  · rw [decide_eq_true h]
    exact List.any_eq_true.mpr ⟨x, h, by show PyData.eqv (enc x) (enc x) = true; rw [eqv_dec hp hi]; simp⟩
  · rw [decide_eq_false h]
    refine List.any_eq_false.mpr fun y hy z => h ?_
    have z : PyData.eqv (enc y) (enc x) = true := z
    rw [eqv_dec hp hi, decide_eq_true_eq] at z
    exact z ▸ hy
/-! ### sorted lists -/
theorem ev_sortD {β : Type} {l : List β} {RB : β → Rep} {enc : β → PyData} {rk : β → List Nat} (h : EvE ta Rs H F (rLst (l.map RB))) (hd : ∀ b, DpR K (RB b) (enc b)) (hle : dataLe false enc = leR rk) (hal : ∀ a b, PySem.W.alike (enc a) (enc b) = true) (hso : Sortable (l.map enc))
    (hdp : ∀ b, (enc b).depth ≤ 50) : EvE (tCB (rSortD K) (tCons ta tNil)) Rs H F (rLst ((srt rk l).map RB)) :=
  ev_cb (ea_1 h) fun H1 F1 vs g1 L0 Q q => by
    cases L0 with
    | cons r1 L0 =>
      cases L0
      obtain ⟨a, us, rfl, ha, hl⟩ := r1
      have hlen : us.length = l.length := by rw [hl.len, List.length_map]
      have hfst : ((us.zip l).map fun p => (p.1, enc p.2)).map (·.1) = us := by
        rw [List.map_map]
        exact List.map_fst_zip (Nat.le_of_eq hlen)
      have hsnd : ((us.zip l).map fun p => (p.1, enc p.2)).map (·.2) = l.map enc := by
        rw [List.map_map]
        have : (us.zip l).map ((fun x : V × PyData => x.2) ∘ fun p => (p.1, enc p.2)) = ((us.zip l).map Prod.snd).map enc := by rw [List.map_map]; rfl
        rw [this, List.map_snd_zip (Nat.le_of_eq hlen.symm)]
      have hpair : ∀ p ∈ us.zip l, (RB p.2).at_ F1 p.1 := fun p hp => by
        obtain ⟨i, hi, e⟩ := List.getElem_of_mem hp
        have e1 : us[i]? = some p.1 := by
          have : (us.zip l)[i]? = some p := by rw [List.getElem?_eq_getElem hi, e]
          rw [List.getElem?_zip_eq_some] at this
          exact this.1
        have e2 : l[i]? = some p.2 := by
          have : (us.zip l)[i]? = some p := by rw [List.getElem?_eq_getElem hi, e]
          rw [List.getElem?_zip_eq_some] at this
          exact this.2
        obtain ⟨v, hv, hr⟩ := hl.get (i := i) (R := RB p.2) (by rw [List.getElem?_map, e2]; rfl)
        rw [e1] at hv
        cases hv
        exact hr
      refine ⟨a, (us.zip l).map fun p => (p.1, enc p.2), rfl, by rw [hfst]; exact g1.fh _ _ ha, fun b hb => ?_, ?_, by rw [hsnd]; exact hso, fun b hb => ?_, fun x hx => ?_⟩
      · obtain ⟨p, hp, rfl⟩ := List.mem_map.mp hb
        exact hd _ _ _ ((RB p.2).mono g1.fh (hpair p hp))
      · rw [hsnd]
        exact AllAlike.of hal
      · obtain ⟨p, hp, rfl⟩ := List.mem_map.mp hb
        exact hdp _
      · have e3 : ((us.zip l).map fun p => (p.1, enc p.2)).mergeSort (dataLe false (·.2)) = ((us.zip l).mergeSort fun p q => leR rk p.2 q.2).map fun p => (p.1, enc p.2) := by
          refine (List.map_mergeSort (f := fun p : V × β => (p.1, enc p.2)) (r := fun p q => leR rk p.2 q.2) fun p _ q _ => ?_).symm
          rw [← hle]
          rfl
        have e4 : ((us.zip l).mergeSort fun p q => leR rk p.2 q.2).map Prod.snd = srt rk l := by
          unfold srt
          rw [List.map_mergeSort (s := leR rk) fun p _ q _ => rfl, List.map_snd_zip (Nat.le_of_eq hlen.symm)]
        rw [e3, List.map_map]
        refine q _ _ _ (Gr.new g1.fh hx) ⟨x, _, rfl, upd_same, ?_⟩
        rw [← e4, List.map_map]
        refine LA.of_map (xs := (us.zip l).mergeSort fun p q => leR rk p.2 q.2) (f := RB ∘ Prod.snd) (by rw [List.length_map]) fun i p v hp hv => ?_
        rw [List.getElem?_map, hp] at hv
        cases hv
        have hm : p ∈ us.zip l := (List.mergeSort_perm _ _).mem_iff.mp (List.mem_of_getElem? hp)
        have s1 : Same F1 (upd F1 x (.lst (((us.zip l).mergeSort fun p q => leR rk p.2 q.2).map ((fun x : V × PyData => x.1) ∘ fun p => (p.1, enc p.2))))) := (Gr.new (M := No) g1.fh hx).ff
        exact (RB p.2).mono s1 (hpair p hm)
end
end K81
set_option Elab.async false
set_option linter.all false
set_option maxRecDepth 100000
set_option maxHeartbeats 2000000
set_option autoImplicit false
/-! K81H: dicts with tuple keys. -/
namespace K81
open PySem PySem.Spec L2
open PyProof.Rows

/-- key by key -/
inductive KA {κ : Type} (F : Hp) : List (κ × V) → List (κ × Rep) → Prop
  | nil : KA F [] []
  | cons {k : κ} {v : V} {R : Rep} {ws : List (κ × V)} {ks : List (κ × Rep)} : R.at_ F v → KA F ws ks → KA F ((k, v) :: ws) ((k, R) :: ks)
section
variable {κ : Type} {F F' : Hp}
theorem KA.mono (s : Same F F') : ∀ {ws : List (κ × V)} {ks : List (κ × Rep)}, KA F ws ks → KA F' ws ks
  | _, _, .nil => .nil
  | _, _, .cons (R := R) h t => .cons (R.mono s h) (KA.mono s t)
theorem KA.keys : ∀ {ws : List (κ × V)} {ks : List (κ × Rep)}, KA F ws ks → ws.map (·.1) = ks.map (·.1)
  | _, _, .nil => rfl
  | _, _, .cons _ t => congrArg (_ :: ·) (KA.keys t)
theorem KA.len {ws : List (κ × V)} {ks : List (κ × Rep)} (h : KA F ws ks) : ws.length = ks.length := by
  have := congrArg List.length h.keys
  simpa using this
theorem KA.snoc {k : κ} {v : V} {R : Rep} (r : R.at_ F v) : ∀ {ws : List (κ × V)} {ks : List (κ × Rep)}, KA F ws ks → KA F (ws ++ [(k, v)]) (ks ++ [(k, R)])
  | _, _, .nil => .cons r .nil
  | _, _, .cons h t => .cons h (KA.snoc r t)
theorem KA.get : ∀ {ws : List (κ × V)} {ks : List (κ × Rep)} {i : Nat} {k : κ} {v : V}, KA F ws ks → ws[i]? = some (k, v) → ∃ R, ks[i]? = some (k, R) ∧ R.at_ F v
  | _, _, 0, _, _, .cons h _, e => by cases e; exact ⟨_, rfl, h⟩
  | _, _, i + 1, _, _, .cons _ t, e => KA.get (i := i) t e
theorem KA.look [BEq κ] {f : κ} {R : Rep} : ∀ {ws : List (κ × V)} {ks : List (κ × Rep)}, KA F ws ks → ks.lookup f = some R → ∃ v, ws.lookup f = some v ∧ R.at_ F v
  | _, _, .nil, e => by cases e
  | _, _, .cons (k := j) (v := v) h t, e => by
    rw [List.lookup_cons] at e ⊢
    cases hq : (f == j) with
    | true => rw [hq] at e; cases e; exact ⟨v, rfl, h⟩
    | false => rw [hq] at e; exact KA.look t e
theorem KA.nolook [BEq κ] {f : κ} : ∀ {ws : List (κ × V)} {ks : List (κ × Rep)}, KA F ws ks → ks.lookup f = none → ws.lookup f = none
  | _, _, .nil, _ => rfl
  | _, _, .cons (k := j) (v := v) h t, e => by
    rw [List.lookup_cons] at e ⊢
    cases hq : (f == j) with
    | true => rw [hq] at e; cases e
    | false => rw [hq] at e; exact KA.nolook t e
end
/-- the first at a key -/
def atK (ks : List (List Key × Rep)) (k : List Key) : Option Rep := (ks.find? fun p => decide (p.1 = k)).map (·.2)
theorem KA.val {F : Hp} {k : List Key} : ∀ {ws : List (List Key × V)} {ks : List (List Key × Rep)}, KA F ws ks → (∃ v R, valV ws k = some v ∧ atK ks k = some R ∧ R.at_ F v) ∨ (valV ws k = none ∧ atK ks k = none)
  | _, _, .nil => .inr ⟨rfl, rfl⟩
  | _, _, .cons (k := j) (v := v) (R := R) h t => by
    by_cases e : j = k
    · exact .inl ⟨v, R, valV_pos e, by simp [atK, e], h⟩
    · rw [valV_neg (p := (j, v)) e]
      rcases KA.val (k := k) t with h | h
      · exact .inl (by simpa [atK, e] using h)
      · exact .inr (by simpa [atK, e] using h)
/-- a dict with tuple keys that stays -/
def rDT (ks : List (List Key × Rep)) : Rep := ⟨fun F v => ∃ a od ws, v = .ref a ∧ F a = some (.frz od (.dT ws)) ∧ KA F ws ks, fun s ⟨a, od, ws, e, h, l⟩ => ⟨a, od, ws, e, s _ _ h, l.mono s⟩⟩
section
variable {K : PySem.W.Frag} {Rs : Rs_} {H F : Hp} {td ty te ta : TE} {ks : List (List Key × Rep)} {k : List Key} {R : Rep}
theorem ev_dgetT (hd : EvE td Rs H F (rDT ks)) (hy : EvE ty Rs H F (rKt k)) (h : atK ks k = some R) : EvE (tDGet td ty) Rs H F R := by
  intro σ H1 F1 g e Q q
  refine hd σ H1 F1 g e _ fun x H2 F2 g2 ⟨a, od, ws, ex, ha, l⟩ => hy σ H2 F2 (g.trans g2) (e.mono g2.ff) _ fun y H3 F3 g3 ry => ?_
  obtain ⟨b, rfl, hb⟩ := rKt_at ry
  rcases (l.mono g3.ff).val (k := k) with ⟨v, R', h1, h2, h3⟩ | ⟨_, h2⟩
  · rw [h] at h2
    cases h2
    exact ⟨a, v, ex, .inr ⟨ws, k, b, .inr ⟨od, g3.fh _ _ (g3.ff _ _ ha)⟩, rfl, g3.fh _ _ hb, h1.symm⟩, q v H3 F3 (g2.trans g3) h3⟩
  · rw [h] at h2; cases h2
theorem ev_dinT (hy : EvE ty Rs H F (rKt k)) (hd : EvE td Rs H F (rDT ks)) : EvE (tDIn ty td) Rs H F (rB (atK ks k).isSome) := by
  intro σ H1 F1 g e Q q
  refine hy σ H1 F1 g e _ fun y H2 F2 g2 ry => hd σ H2 F2 (g.trans g2) (e.mono g2.ff) _ fun x H3 F3 g3 ⟨a, od, ws, ex, ha, l⟩ => ?_
  obtain ⟨b, rfl, hb⟩ := rKt_at ry
  refine ⟨a, valV ws k, ex, .inr ⟨ws, k, b, .inr ⟨od, g3.fh _ _ ha⟩, rfl, g3.fh _ _ (g3.ff _ _ hb), rfl⟩, q _ H3 F3 (g2.trans g3) ?_⟩
  rcases l.val (k := k) with ⟨v, R', h1, h2, h3⟩ | ⟨h1, h2⟩
  · show V.bl _ = V.bl _; rw [h1, h2]; rfl
  · show V.bl _ = V.bl _; rw [h1, h2]; rfl
theorem tups_stay {F H : Hp} (s : Same F H) : ∀ {L : List Ent}, Tps H L → ∃ F', G0 H F H F' ∧ Tps F' L
  | [], _ => ⟨F, Gr.refl s, fun q hq => nomatch hq⟩
  | p :: L, ht => by
    obtain ⟨F1, g1, t1⟩ := tups_stay s (L := L) fun q hq => ht q (List.mem_cons_of_mem _ hq)
    have g2 : G0 H F1 H (upd F1 p.1 (.tup (p.2.map kV))) := Gr.tup g1.fh (ht p List.mem_cons_self)
    refine ⟨_, g1.trans g2, fun q hq => ?_⟩
    rcases List.mem_cons.mp hq with rfl | hq
    · exact upd_same
    · exact g2.ff _ _ (t1 q hq)
theorem ev_sortDT {β : Type} [DecidableEq β] {ky : β → List Key} {rk : β → List Nat} {enc : β → PyData} (kk : KyOk ky rk enc) {l : List β} (hk : ks.map (·.1) = l.map ky) (h : EvE ta Rs H F (rDT ks)) : EvE (tCB rSortDT (tCons ta tNil)) Rs H F (rLst ((srt rk l).map fun b => rKt (ky b))) :=
  ev_cb (ea_1 h) fun H1 F1 vs g1 L0 Q q => by
    cases L0 with
    | cons r1 L0 =>
      cases L0
      obtain ⟨a, od, ws, rfl, ha, hl⟩ := r1
      have e : ws.map (·.1) = l.map ky := hl.keys.trans hk
      refine ⟨a, ws, rfl, .inr ⟨od, g1.fh _ _ ha⟩, fun L hL => srt_of kk (by rw [hL, e]), fun L1 x p1 ht hx => ?_⟩
      have pm : (L1.map (·.2)).Perm (l.map ky) := by rw [p1, e]
      obtain ⟨F2, g2, t2⟩ := tups_stay g1.fh ht
      have g3 : G0 H1 F2 (upd H1 x (.lst ((L1.mergeSort leK).map fun q => V.ref q.1))) (upd F2 x (.lst ((L1.mergeSort leK).map fun q => V.ref q.1))) := Gr.new g2.fh hx
      exact q _ _ _ (g2.trans g3) (srt_la (srt_keys kk pm) t2 g2.fh hx)
/-- a comprehension makes such a dict; it stays as it is -/
theorem ev_dc {α : Type} {xs : List α} {RA : α → Rep} {wi : TI} {g : TG} {tt : TT} {tk tv : TE} {vs : List Nat} {p : α → Bool} {Ss : α → Rs_} {kf : α → List Key} {RB : α → Rep}
    (src : SrcL wi Rs H F xs RA) (hz : xs.length < sizeLine) (ho : offB vs Rs = true) (hg : ∀ x ∈ xs, Tgt g vs Rs (RA x) (Ss x)) (ht : ∀ x ∈ xs, EvB tt (Ss x) H F (p x))
    (hk : ∀ x ∈ xs, p x = true → EvE tk (Ss x) H F (rKt (kf x))) (hv : ∀ x ∈ xs, p x = true → EvE tv (Ss x) H F (RB x)) (nd : ((xs.filter p).map kf).Nodup) :
    EvM (tCm (fun _ => .dT []) wi g tt (bDict tk tv) vs) Rs H F (fun D H F => F D = none ∧ ∃ ws, H D = some (.dT ws) ∧ KA F ws ((xs.filter p).map fun x => (kf x, RB x))) := by
  have hx : ∀ D (H F : Hp), (F D = none ∧ ∃ ws, H D = some (.dT ws) ∧ KA F ws (((xs.take xs.length).filter p).map fun x => (kf x, RB x))) = (F D = none ∧ ∃ ws, H D = some (.dT ws) ∧ KA F ws ((xs.filter p).map fun x => (kf x, RB x))) := by
    intro D H F
    rw [List.take_length]
  have h := ev_cmM (tB := bDict tk tv) (o0 := fun _ => .dT []) (fun D i H F => F D = none ∧ ∃ ws, H D = some (.dT ws) ∧ KA F ws (((xs.take i).filter p).map fun x => (kf x, RB x))) src ho hg ht
    (fun D H1 F1 g1 hD => ⟨g1.fh.free hD, [], upd_same, .nil⟩) (fun D i H1 F1 H2 F2 ⟨n, ws, h, l⟩ g1 => ⟨g1.out n h, ws, g1.h h, l.mono g1.ff⟩) ?_ ?_
  · simp only [hx] at h
    exact h
  · intro D i x H1 F1 hx hp ⟨n, ws, h, l⟩
    refine ⟨n, ws, h, ?_⟩
    rw [take_snoc hx, List.filter_append, List.filter_cons_of_neg (by rw [hp]; exact Bool.false_ne_true), List.filter_nil, List.append_nil]
    exact l
  · intro D i x σ2 H1 F1 hx hp g1 e ⟨n, ws, h, l⟩ N hN
    have hm := List.mem_of_getElem? hx
    refine hk x hm hp σ2 H1 F1 g1 e _ fun y H2 F2 g2 r => hv x hm hp σ2 H2 F2 (g1.trans g2) (e.mono g2.ff) _ fun z H3 F3 g3 rz => ?_
    obtain ⟨b, rfl, hb⟩ := rKt_at r
    have n3 := (g2.trans g3).out n h
    have h3 := g3.h (g2.h h)
    have hlen : ws.length ≤ i := by
      rw [l.len, List.length_map]
      exact Nat.le_trans (List.length_filter_le _ _) (by rw [List.length_take]; omega)
    have hi := (List.getElem?_eq_some_iff.mp hx).1
    have hno : valV ws (kf x) = none := by
      cases hq : valV ws (kf x) with
      | none => rfl
      | some u =>
        exfalso
        have hmem : kf x ∈ ws.map (·.1) := by
          unfold valV at hq
          obtain ⟨kv, h1, _⟩ := Option.map_eq_some_iff.mp hq
          have := List.find?_some h1
          have h2 := List.mem_of_find?_eq_some h1
          exact List.mem_map.mpr ⟨kv, h2, of_decide_eq_true this⟩
        rw [l.keys, List.map_map] at hmem
        have e1 : xs.filter p = (xs.take i).filter p ++ (x :: (xs.drop (i + 1)).filter p) := by
          conv => lhs; rw [← List.take_append_drop i xs, List.filter_append, List.drop_eq_getElem_cons hi]
          rw [List.getElem?_eq_getElem hi] at hx
          cases hx
          rw [List.filter_cons_of_pos hp]
        rw [e1, List.map_append, List.map_cons] at nd
        obtain ⟨_, _, h3⟩ := List.nodup_append.mp nd
        exact h3 _ hmem _ List.mem_cons_self rfl
    refine ⟨b, kf x, ws, rfl, g3.fh _ _ (g3.ff _ _ hb), h3, by omega, hN _ F3 ((g2.trans g3).up.wr (.inr rfl) n3) ⟨n3, _, upd_same, ?_⟩⟩
    rw [putK_new _ hno, take_snoc hx, List.filter_append, List.filter_cons_of_pos hp, List.filter_nil, List.map_append, List.map_singleton]
    exact (l.mono (g2.trans g3).ff).snoc rz
theorem EvM.lk {te : TE} {ks : List (List Key × Rep)} (h : EvM te Rs H F (fun D H F => F D = none ∧ ∃ ws, H D = some (.dT ws) ∧ KA F ws ks)) : EvE (tLk te) Rs H F (rDT ks) := by
  intro σ H1 F1 g1 e Q q
  refine h σ H1 F1 g1 e _ fun D H2 F2 g2 hD ⟨n, ws, hw, l⟩ => ⟨D, _, rfl, hw, trivial, fun od => ?_⟩
  have g3 : G0 H1 F1 (upd H2 D (.frz od (.dT ws))) F2 := g2.wr (.inl hD) n
  have n3 : F2 D = none := n
  have g4 := g3.fz hD n3 upd_same
  refine q _ _ _ g4 ⟨D, od, ws, rfl, upd_same, l.mono fun b o hb => ?_⟩
  rw [upd_ne (ne_of_none hb n)]
  exact hb
/-- its items -/
theorem src_items {td : TE} (h : EvE td Rs H F (rDT ks)) : SrcL (iItemsT td) Rs H F ks (fun p => rTup [rKt p.1, p.2]) := by
  intro σ H1 F1 g e R q
  refine h σ H1 F1 g e _ fun v H2 F2 k ⟨a, od, ws, ev, ha, l⟩ => ⟨a, od, ws, ev, k.fh _ _ ha, q _ H2 F2 k ?_⟩
  intro H3 F3 s1 s2
  have h3 := s2 _ _ (s1 _ _ ha)
  refine ⟨⟨h3, by rw [l.len]; exact Nat.le_refl _⟩, fun i x hx => ?_⟩
  have hi := (List.getElem?_eq_some_iff.mp hx).1
  refine ⟨⟨h3, by rw [l.len]; exact hi⟩, fun u H4 ⟨T, k, v, b, hkv, eu, hb, hT, e4⟩ => ?_⟩
  subst eu e4
  obtain ⟨R', h1, h2⟩ := (l.mono s1).get hkv
  rw [hx] at h1
  cases h1
  have g1 : G0 H3 F3 H3 (upd F3 b (.tup (k.map kV))) := Gr.tup s2 hb
  have g2 : G0 H3 (upd F3 b (.tup (k.map kV))) (upd H3 T (.tup [.ref b, v])) (upd (upd F3 b (.tup (k.map kV))) T (.tup [.ref b, v])) := Gr.new g1.fh hT
  exact ⟨_, g1.trans g2, T, _, rfl, upd_same, .cons ((rKt k).mono g2.ff (rKt_of upd_same)) (.cons (R'.mono (g1.ff.trans g2.ff) h2) .nil)⟩
end
end K81
set_option Elab.async false
set_option linter.all false
set_option maxRecDepth 100000
set_option maxHeartbeats 2000000
set_option autoImplicit false
/-! K81I: instances: fields read, fields set, the two classes. -/
namespace K81
open PySem PySem.Spec L2
open PyProof.Rows

/-- an instance that stays -/
def rIns (C : Addr) (fds : List (Str × Rep)) : Rep := ⟨fun F v => ∃ a dx fs, v = .ref a ∧ F a = some (.ins C dx fs) ∧ KA F fs fds, fun s ⟨a, dx, fs, e, h, l⟩ => ⟨a, dx, fs, e, s _ _ h, l.mono s⟩⟩
section
variable {K : PySem.W.Frag} {Rs : Rs_} {H F : Hp} {ta tv : TE} {C x dx : Addr} {fds : List (Str × Rep)} {f : Str} {R : Rep} {fs : List (Str × V)} {D : Ends} {σ : L2.St}
theorem ev_fld (hC : Cls K C) (hn : NoAttr K C f) (h : EvE ta Rs H F (rIns C fds)) (hf : fds.lookup f = some R) : EvE (tFld K ta f) Rs H F R := by
  intro σ H1 F1 g e Q q
  refine h σ H1 F1 g e _ fun v H2 F2 g2 ⟨a, dx, fs, ev, ha, l⟩ => ?_
  obtain ⟨u, hu, hr⟩ := l.look hf
  exact ⟨a, C, dx, fs, u, ev, g2.fh _ _ ha, hC, hn, hu, q u H2 F2 g2 hr⟩
/-- of one that is being made -/
theorem ev_fldM {v : V} (hC : Cls K C) (hn : NoAttr K C f) (hx : H x = some (.ins C dx fs)) (h : EvE ta Rs H F (rV (.ref x))) (hv : fs.lookup f = some v) (hr : R.at_ F v) : EvE (tFld K ta f) Rs H F R := by
  intro σ H1 F1 g e Q q
  refine h σ H1 F1 g e _ fun u H2 F2 g2 eu => ?_
  exact ⟨x, C, dx, fs, v, eu, G0.h (g.trans g2) hx, hC, hn, hv, q v H2 F2 g2 (R.mono (g.ff.trans g2.ff) hr)⟩
/-- one that is being made -/
def MI (C x dx : Addr) (fds : List (Str × Rep)) (H F : Hp) : Prop := F x = none ∧ ∃ fs, H x = some (.ins C dx fs) ∧ KA F fs fds
theorem MI.grow {H1 F1 : Hp} (m : MI C x dx fds H F) (g : G0 H F H1 F1) : MI C x dx fds H1 F1 := let ⟨n, fs, h, l⟩ := m; ⟨g.out n h, fs, g.h h, l.mono g.ff⟩
theorem MI.fld (m : MI C x dx fds H F) (hC : Cls K C) (hn : NoAttr K C f) (h : EvE ta Rs H F (rV (.ref x))) (hf : fds.lookup f = some R) : EvE (tFld K ta f) Rs H F R := by
  obtain ⟨n, fs, hx, l⟩ := m
  obtain ⟨v, hv, hr⟩ := l.look hf
  exact ev_fldM hC hn hx h hv hr
theorem putF_snoc {v : V} : ∀ {fs : List (Str × V)}, fs.lookup f = none → putF f v fs = fs ++ [(f, v)]
  | [], _ => rfl
  | (g, u) :: fs, h => by
    rw [List.lookup_cons] at h
    cases hq : (f == g) with
    | true => rw [hq] at h; cases h
    | false =>
      rw [hq] at h
      have hne : ¬ g = f := fun z => by rw [z] at hq; simp at hq
      show (if g = f then (g, v) :: fs else (g, u) :: putF f v fs) = _
      rw [if_neg hne, putF_snoc h]
      rfl
/-- x.f = e, f not yet there -/
theorem st_fldM (s : Same F H) (e : En F σ Rs) (m : MI C x dx fds H F) (hC : Cls K C) (hn : NoAttr K C f) (hv : EvE tv Rs H F R) (ho : EvE ta Rs H F (rV (.ref x))) (hf : fds.lookup f = none) (hl : fds.length < 1000)
    (k : ∀ H' F', Gr (At x) H F H' F' → Same F F' → MI C x dx (fds ++ [(f, R)]) H' F' → D.nx σ H') : sFld K ta tv f D σ H := by
  obtain ⟨n, fs, hx, l⟩ := m
  refine hv σ H F (Gr.refl s) e _ fun y H1 F1 g1 r1 => ho σ H1 F1 g1 (e.mono g1.ff) _ fun u H2 F2 g2 r2 => ?_
  have h2 := g2.h (g1.h hx)
  have n2 := (g1.trans g2).out n hx
  refine ⟨x, C, dx, fs, r2, h2, hC, hn, by rw [l.len]; exact hl, ?_⟩
  rw [putF_snoc (l.nolook hf)]
  exact k _ F2 ((g1.trans g2).up.wr (.inr rfl) n2) (g1.trans g2).ff ⟨n2, _, upd_same, (l.mono (g1.trans g2).ff).snoc (R.mono g2.ff r1)⟩
end
/-! ### promises of __init__ -/
def PInit {G : Type} (C : Addr) (args : G → List Rep) (dom : G → Hp → Hp → Prop) (res : G → List (Str × Rep)) : Sp := fun vs H Q _ => ∃ (g : G) (F : Hp) (x dx : Addr) (us : List V), vs = .ref x :: us ∧ Same F H ∧ LA F us (args g) ∧ dom g H F ∧ MI C x dx [] H F ∧
  ∀ H' F', Gr (At x) H F H' F' → MI C x dx (res g) H' F' → Q .non H'
section
variable {P : Program} {w : World} {K : PySem.W.Frag} {mg : Str → Option Value} {base : Heap} {Rs : Rs_} {H F : Hp} {C f : Addr} {N ps : List Str} {k : Nat} {qual : Str} {st : Stmt}
theorem ev_make {G : Type} {args : G → List Rep} {dom : G → Hp → Hp → Prop} {res : G → List (Str × Rep)} (g : G) {t : TA} {dvs : List V} {E : XK} {As : List Rep} (h : EvA t Rs H F As) (hg : ∀ F' vs, LA F' vs As → LA F' (vs ++ dvs) (args g)) (hd : ∀ H1 F1, G0 H F H1 F1 → dom g H1 F1)
    (hdm : ∀ H1 F1 x o, dom g H1 F1 → H1 x = none → dom g (upd H1 x o) F1) : EvE (tMake C (PInit C args dom res) dvs E t) Rs H F (rIns C (res g)) := by
  intro σ H1 F1 g1 e Q q
  refine h σ H1 F1 g1 e _ fun vs H2 F2 g2 rv x dx hx hdx hne => ?_
  have g3 : G0 H2 F2 (upd H2 dx (.own x)) F2 := Gr.newM g2.fh hdx
  have hx3 : (upd H2 dx (.own x)) x = none := by rw [upd_ne (Ne.symm hne)]; exact hx
  have g4 : G0 (upd H2 dx (.own x)) F2 (upd (upd H2 dx (.own x)) x (.ins C dx [])) F2 := Gr.newM g3.fh hx3
  refine ⟨g, F2, x, dx, _, rfl, g4.fh, hg _ _ rv, hdm _ _ _ _ (hdm _ _ _ _ (hd H2 F2 (g1.trans g2)) hdx) hx3, ⟨g2.fh.free hx, [], upd_same, .nil⟩, fun H' F' g5 m => ⟨rfl, ?_⟩⟩
  have g6 : G0 H2 F2 H' F' := (g3.trans g4).drop g5 fun a z => by rw [show a = x from z]; exact hx
  obtain ⟨n, fs, h', l⟩ := m
  have g7 := g6.fz hx n h'
  refine q _ _ _ (g2.trans g7) ⟨x, dx, fs, rfl, upd_same, l.mono fun b o hb => ?_⟩
  rw [upd_ne (ne_of_none hb n)]
  exact hb
/-- how the body of __init__ goes -/
def BodyI {G : Type} (P : Program) (w : World) (K : PySem.W.Frag) (mg : Str → Option Value) (base : Heap) (k : Nat) (N : List Str) (qual : Str) (st : Stmt) (f C : Addr) (args : G → List Rep) (dom : G → Hp → Hp → Prop) (res : G → List (Str × Rep)) : Prop :=
  ∀ (cdv : Value) (A : Around) (outer : List Env) (s : Shared) (H0 : Hp) (E : XK), Room k (A.deeper (PyProof.Rows.envOfC qual (defScope st) s.heap.objs.size f cdv)) →
    ∃ t, PSs (XX P w K mg base N qual st f cdv A outer s H0 E) (defBody st) t ∧ ∀ (g : G) (F : Hp) (H : Hp) (x dx : Addr) (σ : L2.St) (Q : VK), Same F H → dom g H F → MI C x dx [] H F → En F σ ((rV (.ref x) :: args g).map some ++ List.replicate (N.length - (args g).length - 1) none) →
      (∀ H' F', Gr (At x) H F H' F' → MI C x dx (res g) H' F' → Q .non H') → t { nx := fun _ H' => Q .non H', rt := Q } σ H
theorem fn_init {G : Type} {args : G → List Rep} {dom : G → Hp → Hp → Prop} {res : G → List (Str × Rep)} {fd : FuncData} {ds : List V} (D : FunD K "__init__" qual (defArgs st) (defBody st) (defScope st) ds [] f fd) (S : FnScope N ps (defScope st)) (len : ∀ g, (args g).length + 1 = ps.length)
    (body : BodyI P w K mg base k N qual st f C args dom res) : FnOk P w K mg base CX0 (k + 1) f fd ps (PInit C args dom res) := by
  refine D.ok S (fun vs H Q E h => ?_) (fun cdv A outer s H vs Q E hr h => ?_)
  · obtain ⟨g, F, x, dx, us, rfl, _, l, _⟩ := h
    rw [List.length_cons, l.len, len]
  · obtain ⟨t, ht, q⟩ := body cdv A outer s H E hr
    obtain ⟨g, F, x, dx, us, rfl, hs, l, hd, m, k'⟩ := h
    refine ⟨t, ht.nox, q g F H x dx _ Q hs hd m ?_ k'⟩
    have := En.start (N := N) (LA.cons (show (rV (.ref x)).at_ F (.ref x) from rfl) l)
    rwa [show N.length - (rV (.ref x) :: args g).length = N.length - (args g).length - 1 by rw [List.length_cons]; omega] at this
theorem cm_plain {x : Str} {G : Type} {args : G → List Rep} {dom : G → Hp → Hp → Prop} {res : G → List (Str × Rep)} (D : ∃ fd, FunD K "__init__" qual (defArgs st) (defBody st) (defScope st) [] [] f fd) (hx : mg x = some (.ref C)) (m : Mk K C f) (S : FnScope N ps (defScope st)) (b : BindR "__init__" qual st ps) (len : ∀ g, (args g).length + 1 = ps.length)
    (body : BodyI P w K mg base k N qual st f C args dom res) : Cm P w K mg base (k + 1) x C ps [] (PInit C args dom res) := by
  obtain ⟨fd, D⟩ := D
  exact ⟨f, fd, [], fn_init D S len body, hx, m, D.bindsN b, .nil⟩
end
end K81
set_option Elab.async false
set_option linter.all false
set_option maxRecDepth 100000
set_option maxHeartbeats 2000000
set_option autoImplicit false
/-! K81P: a static method called, constants of a class, rules with the written part told. -/
namespace K81
open PySem PySem.Spec L2
open PyProof.Rows
section
variable {X : Cx} {K : PySem.W.Frag} {P : Program} {w : World}
theorem srtD_k (hu : X.A.units + 64 < cLine) (h : X.K = K := by rfl) : CallR X (.builtin "sorted") (rSortD K) := h ▸ cr_sortD hu
theorem srtK_k (hc : X.calm = true) (hu : X.A.units + 64 < cLine) (h : X.prog = P := by rfl) (h2 : HEq X.w w := by rfl) : CallR X (.builtin "sorted") (rSortK P w) := by
  subst h
  cases h2
  exact cr_sortK hc hu
theorem lenK_k (h : X.prog = P := by rfl) (h2 : HEq X.w w := by rfl) : CallR X (.builtin "len") (rLenK P w) := by
  subst h
  cases h2
  exact cr_lenK
theorem slS_k (h : X.K = K := by rfl) : SlR X (rSlS K) := h ▸ sl_seq
theorem inS2_k (hu : X.A.units + 65 < cLine) (h : X.K = K := by rfl) : OpR X (compareOp .In) (rInS2 K) := h ▸ op_inS2 hu
theorem pe_scP {elt tg iter : Expr} {ifs : List Expr} {pos : Pos} {scope : Scope} {own : List (PySem.Str × Nat)} {wi : TI} {g : TG} {tt : TT} {te : TE} (hc : X.calm = true) (hu : X.A.units + 64 < cLine) (hN : X.N.Nodup) (hi : PI X tg iter wi) (ok : BlkOk X.N X.env.scope scope own)
    (hg : ∀ (s : Shared) (H : Hp) (C : Addr) (cl : List (PySem.Str × Addr)) (fp : List Addr), PG (X.blk s H scope (compEnvC scope cl C X.env) fp) tg g) (ht : ∀ (s : Shared) (H : Hp) (C : Addr) (cl : List (PySem.Str × Addr)) (fp : List Addr), PTs (X.blk s H scope (compEnvC scope cl C X.env) fp) ifs tt)
    (he : ∀ (s : Shared) (H : Hp) (C : Addr) (cl : List (PySem.Str × Addr)) (fp : List Addr), PE (X.blk s H scope (compEnvC scope cl C X.env) fp) elt te) (hs : ∀ x, foldedSetIterable iter X.env x = pure x := by intro _; rfl) (h : X.prog = P := by rfl) (h2 : HEq X.w w := by rfl) :
    PE X (.SetComp elt [⟨tg, iter, ifs, 0⟩] scope pos) (tCm (fun D => KO P w D []) wi g tt (bSet P w te) (own.map (·.2))) := by
  subst h
  cases h2
  exact pe_scG hc hu hN hi ok hg ht he hs
theorem hu_of {A : Around} {k : Nat} (hr : Room k A) : A.units + 1 < cLine := by have := hr.un; omega
theorem hu64 {A : Around} {k : Nat} (hr : Room k A) : A.units + 64 < cLine := by have := hr.un; omega
variable {k : Nat} {x m : Str} {C : Addr} {p pos apos : Pos} {e : Expr} {es : List Expr} {t : TA} {ps : List Str} {sp : Sp} {pl : Sem Bool}
/-- Class.m(e, ..), m a static method -/
theorem pe_s (c : Cs X.prog X.w X.K X.mg X.base k x C m ps sp) (hg : Gl X x) (ha : PA X (e :: es) t) (hr : Room k X.A) (hdb : (x == ("__debug__" : Str)) = false := by decide)
    (hst : starEach (e :: es) X.env = (false, eval e X.env) :: starEach es X.env := by rfl) (hpl : (backTo pos (starEach es X.env)).any (·.1) = false := by rfl)
    (ht : eval (.Call (.Attribute (.Name x p) m apos) (e :: es) [] pos) X.env = (do
      let ov ← eval (.Name x p) X.env
      standAt apos.atName
      let (f, first) ← holding [ov] (getMethod ov m pl)
      callWith pos f first (backTo pos (starEach (e :: es) X.env)) (backToKw pos (keywordEach [] X.env))) := by rfl) : PE X (.Call (.Attribute (.Name x p) m apos) (e :: es) [] pos) (tCall sp [] E0 t) := by
  obtain ⟨q, g, fd, F, hm, hrd, hga, hfi, ⟨rest, hrc⟩, hk, hb⟩ := c.ex
  refine ⟨fun pins s σ H Q I h => ?_⟩
  have pn : PE X (.Name x p) (tC (.ref C)) := pe_gR hg hm hdb
  refine PySem.W.methodCall_KW (pl := pl) (thn (pn.run pins s σ H (fun v H' => v = .ref C ∧ H' = H) I ⟨rfl, rfl⟩) fun u s1 ⟨y, H1, I1, r1, ey, eH⟩ => ?_) ht
  subst ey eH
  obtain rfl : u = Value.ref C := r1
  refine PySem.W.method_cls I1.kIn hga (PySem.W.cls_bind I1.kIn hrd hfi ?_)
  refine wpAny_call (PySem.W.sm_get (s := { s1 with toks := s1.toks + 1 }) I1.kIn hrc (PySem.W.handed_on rfl ?_))
  refine PySem.W.callWith_K (h₀ := X.base) I1.ok.mod.kin hk (thn (ha.run pos pins _ σ H1 _ (I1.tok _) h) fun us s2 ⟨vs, H2, I2, r, q2⟩ => ⟨I2.kIn, ?_⟩) hst hpl
  exact run_fn F hr hb .nil pass0 I2 r q2
end
section
variable {Rs : Rs_} {H F : Hp} {ta : TE} {K : PySem.W.Frag} {C : Addr} {f : Str} {v : V}
theorem ev_cval {mc : Value} {u : Value} (h : EvE ta Rs H F (rV (.ref C))) (r : ClX.CRead K C mc) (k : ClX.CVal K C mc f v u) : EvE (ClX.tCVal K ta f) Rs H F (rV v) := fun σ H1 F1 g e Q q =>
  h σ H1 F1 g e _ fun x H2 F2 g2 ex => ⟨C, mc, v, u, ex, r, k, q v H2 F2 g2 rfl⟩
end
section
variable {K : PySem.W.Frag} {mg : Str → Option Value}
theorem cread_ok {C : Addr} (h : PySem.W.readsIn K C (.type "type") = true) : ClX.CRead K C (.type "type") := by
  refine ⟨h, ?_⟩
  simp only [PySem.W.readsIn, Bool.and_eq_true, beq_iff_eq] at h
  unfold PySem.W.specialIn
  rw [h.1.1.1.2, Option.bind_some]
  exact h.1.1.2
theorem Hd.rd_Box (T : Hd K mg) : ClX.CRead K (He.ga K "Box") (.type "type") := cread_ok (T.ex 3)
theorem Hd.sm_is_step (T : Hd K mg) : PySem.W.findCls K (.ref (He.ga K "Box")) (.type "type") "is_step" = some (.get (.builtin "staticmethod.__get__") (.ref (He.ma K (He.ga K "Box") "is_step")) .none (.ref (He.ga K "Box"))) ∧
    ∃ rest, PySem.W.recIn K (He.ma K (He.ga K "Box") "is_step") "staticmethod" = some (.ref (rf K "Box" "staticmethod" "is_step") :: rest) := He5.wrapB_ok (T.ex 2)
theorem Hd.v_states (T : Hd K mg) : ∃ u, ClX.CVal K (He.ga K "Box") (.type "type") "MOST_STATES" (.int 6) u := conB2_ok (v := .int 6) (T.ex 4)
theorem Hd.v_steps (T : Hd K mg) : ∃ u, ClX.CVal K (He.ga K "Box") (.type "type") "MOST_STEPS" (.int 24) u := conB2_ok (v := .int 24) (T.ex 5)
theorem Hd.kit_SS (T : Hd K mg) : PySem.W.kitOne K (.ref (He.ga K "Shape")) (.ref (He.ga K "Shape")) = some true := of_decide_eq_true (T.ex 9)
theorem Hd.kit_BB (T : Hd K mg) : PySem.W.kitOne K (.ref (He.ga K "Box")) (.ref (He.ga K "Box")) = some true := of_decide_eq_true (T.ex 10)
theorem Hd.kit_iS (T : Hd K mg) : PySem.W.kitOne K (.type "int") (.ref (He.ga K "Shape")) = some false := of_decide_eq_true (T.ex 11)
end
end K81
set_option Elab.async false
set_option linter.all false
set_option maxRecDepth 100000
set_option maxHeartbeats 2000000
set_option autoImplicit false
/-! K81C: the defs that look at values and at sets of states. -/
namespace K81
open PySem PySem.Spec L2
open PyProof.Rows (envOfC)
/-! ### plain functions -/
def setOf (l : List Nat) : Nat := l.foldl (fun x i => x ||| 2 ^ i) 0
def statesIn (n : Nat) : List Nat := (List.range (Builtin.Int.intBits (n : Int))).filter fun i => n.testBit i
def setsBy (n : Nat) (ps : List (Nat × Nat)) : List Nat := ps.foldl (fun t p => t.set p.1 (t.getD p.1 0 ||| 2 ^ p.2)) (List.replicate n 0)
def gath (t : List Nat) (n : Nat) : Nat := (statesIn n).foldl (fun x i => x ||| t.getD i 0) 0
def okName (x : Str) : Bool := decide (1 ≤ x.length) && decide (x.length ≤ 8) && x.cps.toList.all fun c => decide (c ∈ ("abcdefghijklmnopqrstuvwxyz" : Str).cps.toList)
section
variable {P : Program} {w : World} {K : PySem.W.Frag} {mg : Str → Option Value} {base : Heap}
abbrev spIsInteger : Sp := PSp (fun n : Int => [rI n]) Any (fun _ => rB true)
theorem ok_is_integer (T : Hd K mg) : Ce P w K mg base 1 "is_integer" ["value"] spIsInteger := by
  refine ce_plain T.d_is_integer T.glo_is_integer sc_is_integer (fun _ _ _ _ _ _ us hl => match us, hl with | [_], _ => rfl) (fun _ => rfl) (fun cdv A outer s H0 E hr => ⟨_, (pss_one (ps_ret (pe_and (pe_callB (isi_k (K := K)) (by rfl) T.free_isinstance (by decide +kernel) (pa_cons (pv 0) (pa_cons (pe_ty (n := "int") rfl T.free_int (by decide +kernel)) pa_nil))) (pe_one (pe_not (pe_callB (isi_k (K := K)) (by rfl) T.free_isinstance (by decide +kernel) (pa_cons (pv 0) (pa_cons (pe_ty (n := "bool") rfl T.free_bool (by decide +kernel)) pa_nil)))))))), ?_⟩)
  intro n F H σ Q s _ e k
  exact st_ret s e (ev_andV (ev_isi (b := true) (ev_var rfl) ty_int (by decide +kernel)) fun _ => ev_notV (ev_isi (b := false) (ev_var rfl) ty_int (by decide +kernel))) k
abbrev spIsCount : Sp := PSp (fun n : Int => [rI n]) Any (fun n => rB (decide (0 ≤ n)))
theorem ok_is_count (T : Hd K mg) (c_is_integer : Ce P w K mg base 1 "is_integer" ["value"] spIsInteger) : Ce P w K mg base 2 "is_count" ["value"] spIsCount := by
  refine ce_plain T.d_is_count T.glo_is_count sc_is_count (fun _ _ _ _ _ _ us hl => match us, hl with | [_], _ => rfl) (fun _ => rfl) (fun cdv A outer s H0 E hr => ⟨_, (pss_one (ps_ret (pe_and (pe_c c_is_integer (hr.mono (by decide)) rfl (pa_cons (pv 0) pa_nil)) (pe_one (pe_cmpR op_ge (pv 0) pe_int (nomark _)))))), ?_⟩)
  intro n F H σ Q s _ e k
  exact st_ret s e (ev_andV (ev_call n (ea_1 (ev_var rfl)) rfl fun _ _ _ => trivial) fun _ => ev_I0 (ev_var rfl) ev_c) k
/-- a list or a tuple -/
abbrev spIsList : Sp := PSp (fun a : Addr => [rV (.ref a)]) (fun a H _ => (∃ vs, H a = some (.lst vs)) ∨ ∃ vs, H a = some (.tup vs)) (fun _ => rB true)
theorem ok_is_list (T : Hd K mg) : Ce P w K mg base 1 "is_list" ["value"] spIsList := by
  refine ce_plain T.d_is_list T.glo_is_list sc_is_list (fun _ _ _ _ _ _ us hl => match us, hl with | [_], _ => rfl) (fun _ => rfl) (fun cdv A outer s H0 E hr => ⟨_, (pss_one (ps_ret (pe_callB (isiT_k (K := K)) (by rfl) T.free_isinstance (by decide +kernel) (pa_cons (pv 0) (pa_cons (pe_tup (pa_cons (pe_ty (n := "list") rfl T.free_list (by decide +kernel)) (pa_cons (pe_ty (n := "tuple") rfl T.free_tuple (by decide +kernel)) pa_nil))) pa_nil))))), ?_⟩)
  intro a F H σ Q s hd e k
  refine st_ret s e (ev_cb (ea_2 (ev_var rfl) (ev_tup (ea_2 ev_c ev_c))) fun H1 F1 vs g l Q q => ?_) k
  cases l with
  | cons r1 l => cases l with
    | cons r2 l =>
      cases l
      obtain ⟨b, us, rfl, h2, l2⟩ := r2
      have e2 : us = [V.ty "list", V.ty "tuple"] := LA.rV_iff (us := [V.ty "list", V.ty "tuple"]) l2
      subst e2
      have r1 : _ = V.ref a := r1
      subst r1
      rcases hd with ⟨vs, hv⟩ | ⟨vs, hv⟩
      · exact ⟨_, b, _, .type "list", [.type "list", .type "tuple"], true, rfl, g.fh _ _ h2, .cons (.ty _) (.cons (.ty _) .nil), .base (.lst (g.h hv)), kitAny_cons (kit_ty (by decide +kernel : kitB "list" "list" = some true)) (fun e => nomatch e) (fun _ => rfl), q _ _ _ (Gr.refl g.fh) rfl⟩
      · exact ⟨_, b, _, .type "tuple", [.type "list", .type "tuple"], true, rfl, g.fh _ _ h2, .cons (.ty _) (.cons (.ty _) .nil), .base (.tup (g.h hv)),
          kitAny_cons (kit_ty (by decide +kernel : kitB "tuple" "list" = some false)) (fun _ => kitAny_cons (kit_ty (by decide +kernel : kitB "tuple" "tuple" = some true)) (fun e => nomatch e) (fun _ => rfl)) (fun e => nomatch e), q _ _ _ (Gr.refl g.fh) rfl⟩
abbrev spIsName : Sp := PSp (fun x : Str => [rS x]) (fun x _ _ => okName x = true) (fun _ => rB true)
theorem ev_inS {Rs : Rs_} {H F : Hp} {ta tb : TE} {c : Nat} {z : Str} (ha : EvE ta Rs H F (rS ⟨#[c]⟩)) (hb : EvE tb Rs H F (rS z)) : EvE (tOp rInS ta tb) Rs H F (rB (decide (c ∈ z.cps.toList))) :=
  ev_op ha hb fun H1 F1 x y g hx hy Q q => ⟨c, z, hx, hy, q _ _ _ (Gr.refl g.fh) rfl⟩
theorem ok_is_name (T : Hd K mg) : Ce P w K mg base 1 "is_name" ["value"] spIsName := by
  refine ce_plain T.d_is_name T.glo_is_name sc_is_name (fun _ _ _ _ _ _ us hl => match us, hl with | [_], _ => rfl) (fun _ => rfl) (fun cdv A outer s H0 E hr => ⟨_, (pss_cons (ps_if (PW.pt (pw_or (pt_not (pt_val (pe_callB (isi_k (K := K)) (by rfl) T.free_isinstance (by decide +kernel) (pa_cons (pv 0) (pa_cons (pe_ty (n := "str") rfl T.free_str (by decide +kernel)) pa_nil))))) (pw_or1 (pt_not (pt_chain op_le op_le pe_int (pe_callB call_len_str (by rfl) T.free_len (by decide +kernel) (pa_cons (pv 0) pa_nil)) (pe_gI rfl T.MOST_LETTERS)))))) (pss_one (ps_ret pe_bl)) pss_nil)
      (pss_one (ps_ret (pe_callB (all_k (K := K) rfl) (by rfl) T.free_all (by decide +kernel) (pa_cons (pe_lc (own := [("letter", 1)]) (tt := tYes) rfl sc_is_name.nd (pi_str (pv 0)) (blkOk_by (own := [("letter", 1)]) (N := ["value", "letter"]) (sc := defScope s_is_name) (by decide +kernel)) (fun _ _ _ _ _ => (pg_name (i := 1) sc_is_name.nd rfl (Or.inl rfl))) (fun _ _ _ _ _ => pts_nil) (fun _ _ _ _ _ => (pe_cmpR op_inS (pv 1) (pe_gS rfl T.LETTERS) (by rfl)))) pa_nil))))), ?_⟩)
  intro x F H σ Q s hd e k
  have hd : okName x = true := hd
  unfold okName at hd
  rw [Bool.and_eq_true, Bool.and_eq_true, decide_eq_true_eq, decide_eq_true_eq] at hd
  obtain ⟨⟨h1, h2⟩, h3⟩ := hd
  have hz : x.length ≤ sizeLine := Nat.le_trans h2 (by decide)
  have hch : EvB (tTest (tChain (rI0 fun i j => .bl (decide (i ≤ j))) (rI0 fun i j => .bl (decide (i ≤ j))) (tC (.int 1)) (tCB (fun xs H Q => ∃ z, xs = [.str z] ∧ z.length ≤ sizeLine ∧ Q (.int z.length) H) (tCons (tVar 0) tNil)) (tC (.int 8)))) [some (rS x), none] H F true := by
    refine eb_test (EvE.eqB (ev_chain (b := true) (c := true) ev_c (ev_lenS (ev_var rfl) hz) (fun _ => ev_c) (fun H1 F1 u v g hu hv Q q => ⟨1, _, hu, hv, ?_⟩) (fun H1 F1 u v g hu hv Q q => ⟨_, 8, hu, hv, ?_⟩)) rfl)
    · show Q (V.bl (decide ((1 : Int) ≤ (x.length : Nat)))) H1
      rw [decide_eq_true (by omega : (1 : Int) ≤ (x.length : Nat))]; exact q
    · show Q (V.bl (decide (((x.length : Nat) : Int) ≤ 8))) H1
      rw [decide_eq_true (by omega : ((x.length : Nat) : Int) ≤ 8)]; exact q
  refine st_if s e (EvB.eq (eb_or (eb_not (eb_B (ev_isi (ev_var rfl) ty_str (by decide +kernel : kitB "str" "str" = some true)))) fun _ => eb_not hch) rfl : EvB _ _ _ _ false) (fun z => nomatch z) fun _ H1 F1 g1 e1 => ?_
  refine st_ret g1.fh e1 (EvE.eqB (ev_all (bs := (x.cps.toList.filter fun _ => true).map fun _ => true) (ev_lc (p := fun _ => true) (f := fun _ => true) (RB := rB) (Ss := fun c => [some (rS x), some (rS ⟨#[c]⟩)]) (src_str (ev_var rfl)) ?_ rfl (fun c hc => tgt_1) (fun _ _ => eb_yes) fun c hc _ => ?_)) ?_) fun v H' F' g r => k v H' F' (g1.trans g) r
  · have : x.cps.toList.length = x.length := Array.length_toList
    rw [this]; exact Nat.lt_of_le_of_lt h2 (by decide)
  · refine EvE.eqB (ev_inS (ev_var rfl) ev_c) ?_
    exact List.all_eq_true.mp h3 c hc
  · rw [List.all_map]; simp
abbrev spIsSign : Sp := PSp (fun s : Sg => [rSg s]) Any (fun _ => rB true)
theorem okN (s : Sg) : okName (sgC s) = true ∧ okName (sgA s) = true := by revert s; decide +kernel
theorem ok_is_sign (T : Hd K mg) (c_is_name : Ce P w K mg base 1 "is_name" ["value"] spIsName) : Ce P w K mg base 2 "is_sign" ["value"] spIsSign := by
  refine ce_plain T.d_is_sign T.glo_is_sign sc_is_sign (fun _ _ _ _ _ _ us hl => match us, hl with | [_], _ => rfl) (fun _ => rfl) (fun cdv A outer s H0 E hr => ⟨_, (pss_one (ps_ret (pe_and (pe_callB (isi_k (K := K)) (by rfl) T.free_isinstance (by decide +kernel) (pa_cons (pv 0) (pa_cons (pe_ty (n := "tuple") rfl T.free_tuple (by decide +kernel)) pa_nil))) (pe_and (pe_cmpR op_eq (pe_callB (len_k (K := K)) (by rfl) T.free_len (by decide +kernel) (pa_cons (pv 0) pa_nil)) pe_int (nomark _)) (pe_and (pe_c c_is_name (hr.mono (by decide)) rfl (pa_cons (pe_ix (ixt_k (K := K)) (pv 0) pe_int (fun _ _ => rfl)) pa_nil)) (pe_one (pe_c c_is_name (hr.mono (by decide)) rfl (pa_cons (pe_ix (ixt_k (K := K)) (pv 0) pe_int (fun _ _ => rfl)) pa_nil)))))))), ?_⟩)
  intro n F H σ Q s _ e k
  refine st_ret s e (EvE.eqB (ev_andV (b := true) (ev_isi (b := true) (ev_var rfl) ty_tup (by decide +kernel)) fun _ => EvE.eqB (ev_andV (a := true) (b := true) (EvE.eqB (ev_eq (ev_lenT (ev_var rfl)) ev_c rfl) rfl) fun _ => EvE.eqB (ev_andV (b := true) (ev_call (sgC n) (ea_1 (ev_ixT (j := 0) (ev_var rfl) ev_c rfl)) rfl fun _ _ _ => (okN n).1) fun _ => ev_call (sgA n) (ea_1 (ev_ixT (j := 1) (ev_var rfl) ev_c rfl)) rfl fun _ _ _ => (okN n).2) rfl) rfl) rfl) k
abbrev spIsStateOf : Sp := PSp (fun p : Int × Int => [rI p.1, rI p.2]) Any (fun p => rB (decide (0 ≤ p.2) && decide (p.2 < p.1)))
theorem ok_is_state_of (T : Hd K mg) (c_is_count : Ce P w K mg base 2 "is_count" ["value"] spIsCount) : Ce P w K mg base 3 "is_state_of" ["many", "value"] spIsStateOf := by
  refine ce_plain T.d_is_state_of T.glo_is_state_of sc_is_state_of (fun _ _ _ _ _ _ us hl => match us, hl with | [_, _], _ => rfl) (fun _ => rfl) (fun cdv A outer s H0 E hr => ⟨_, (pss_one (ps_ret (pe_and (pe_c c_is_count (hr.mono (by decide)) rfl (pa_cons (pv 1) pa_nil)) (pe_one (pe_cmpR op_lt (pv 1) (pv 0) (nomark _)))))), ?_⟩)
  intro n F H σ Q s _ e k
  exact st_ret s e (ev_andV (ev_call n.2 (ea_1 (ev_var rfl)) rfl fun _ _ _ => trivial) fun _ => ev_I0 (ev_var rfl) (ev_var rfl)) k
/-! ### pairs, sets -/
abbrev spPairsWith : Sp := PSp (fun p : List Stp × Sg => [rLst (p.1.map rStp), rSg p.2]) (fun p _ _ => p.1.length ≤ 100000) (fun p => rLst (((p.1.filter fun m => decide (m.2.1 = p.2)).map fun m => (m.1, m.2.2)).map rPr))
theorem ok_pairs_with (T : Hd K mg) : Ce P w K mg base 1 "pairs_with" ["steps", "sign"] spPairsWith := by
  refine ce_plain T.d_pairs_with T.glo_pairs_with sc_pairs_with (fun _ _ _ _ _ _ us hl => match us, hl with | [_, _], _ => rfl) (fun _ => rfl) (fun cdv A outer s H0 E hr => ⟨_, (pss_one (ps_ret (pe_lc (own := [("state", 2), ("call", 3), ("answer", 4), ("goal", 5)]) rfl sc_pairs_with.nd (pi_list (pv 0)) (blkOk_by (own := [("state", 2), ("call", 3), ("answer", 4), ("goal", 5)]) (N := ["steps", "sign", "state", "call", "answer", "goal"]) (sc := defScope s_pairs_with) (by decide +kernel)) (fun _ _ _ _ _ => (tup_k (K := K) (n := 4) rfl (pgs_cons (pg_name (i := 2) sc_pairs_with.nd rfl (Or.inl rfl)) (pgs_cons (pg_name (i := 3) sc_pairs_with.nd rfl (Or.inl rfl)) (pgs_cons (pg_name (i := 4) sc_pairs_with.nd rfl (Or.inl rfl)) (pgs_cons (pg_name (i := 5) sc_pairs_with.nd rfl (Or.inl rfl)) pgs_nil)))))) (fun _ _ _ _ _ => (pts_one (pt_cmpR (eqd_k (K := K) hr.units) (pe_tup (pa_cons (pv 3) (pa_cons (pv 4) pa_nil))) (pv 1) (nomark _)))) (fun _ _ _ _ _ => (pe_tup (pa_cons (pv 2) (pa_cons (pv 5) pa_nil))))))), ?_⟩)
  intro n F H σ Q s hd e k
  refine st_ret s e (ev_lc (RB := rPr) (p := fun m => decide (m.2.1 = n.2)) (f := fun m => (m.1, m.2.2)) (src_list (ev_var rfl)) (Nat.lt_of_le_of_lt hd (by decide)) rfl (fun m hm => tgt_4) (fun m hm => ?_) fun m hm _ => ?_) k
  · exact eb_test (EvE.eqB (ev_eqD (ev_tup (ea_2 (ev_var rfl) (ev_var rfl))) (ev_var rfl) (dpr_sg m.2.1) (dpr_sg n.2) (ok_sg _).shaped (ok_sg _).shaped) (eqv_dec (enc := encSg) (fun a => (ok_sg a).pl) encSg_inj _ _))
  · exact ev_tup (ea_2 (ev_var rfl) (ev_var rfl))
abbrev spTurnedPairs : Sp := PSp (fun p : List (Nat × Nat) => [rLst (p.map rPr)]) (fun p _ _ => p.length ≤ 100000) (fun p => rLst ((p.map fun m => (m.2, m.1)).map rPr))
theorem ok_turned_pairs (T : Hd K mg) : Ce P w K mg base 1 "turned_pairs" ["pairs"] spTurnedPairs := by
  refine ce_plain T.d_turned_pairs T.glo_turned_pairs sc_turned_pairs (fun _ _ _ _ _ _ us hl => match us, hl with | [_], _ => rfl) (fun _ => rfl) (fun cdv A outer s H0 E hr => ⟨_, (pss_one (ps_ret (pe_lc (own := [("state", 1), ("goal", 2)]) (tt := tYes) rfl sc_turned_pairs.nd (pi_list (pv 0)) (blkOk_by (own := [("state", 1), ("goal", 2)]) (N := ["pairs", "state", "goal"]) (sc := defScope s_turned_pairs) (by decide +kernel)) (fun _ _ _ _ _ => (tup_k (K := K) (n := 2) rfl (pgs_cons (pg_name (i := 1) sc_turned_pairs.nd rfl (Or.inl rfl)) (pgs_cons (pg_name (i := 2) sc_turned_pairs.nd rfl (Or.inl rfl)) pgs_nil)))) (fun _ _ _ _ _ => pts_nil) (fun _ _ _ _ _ => (pe_tup (pa_cons (pv 2) (pa_cons (pv 1) pa_nil))))))), ?_⟩)
  intro n F H σ Q s hd e k
  refine st_ret s e (ev_lc0 (RB := rPr) (f := fun m => (m.2, m.1)) (src_list (ev_var rfl)) (Nat.lt_of_le_of_lt hd (by decide)) rfl (fun m hm => tgt_2) fun m hm => ev_tup (ea_2 (ev_var rfl) (ev_var rfl))) k
theorem bitOr_nat (a b : Nat) : Builtin.bitOr (a : Int) (b : Int) = ((a ||| b : Nat) : Int) := by
  rw [bitOr_nn (Int.natCast_nonneg _) (Int.natCast_nonneg _)]; rfl
theorem shl_nat (b : Nat) : (1 : Int) * 2 ^ ((b : Int).toNat) = ((2 ^ b : Nat) : Int) := by
  rw [Int.toNat_natCast, Int.one_mul]; norm_cast
theorem ev_or {Rs : Rs_} {H F : Hp} {ta tb : TE} {a b : Nat} (ha : EvE ta Rs H F (rNat a)) (hb : EvE tb Rs H F (rNat b)) : EvE (tOp (rI0 fun i j => .int (Builtin.bitOr i j)) ta tb) Rs H F (rNat (a ||| b)) :=
  EvE.eqI (ev_I0 ha hb) (bitOr_nat a b)
theorem ev_shl1 {Rs : Rs_} {H F : Hp} {tb : TE} {b : Nat} (hb : EvE tb Rs H F (rNat b)) (hz : b ≤ 1000000) : EvE (tOp (L2.rI CPow fun i j => .int (i * 2 ^ j.toNat)) (tC (.int 1)) tb) Rs H F (rNat (2 ^ b)) :=
  EvE.eqI (ev_I ev_c hb ⟨by omega, by omega, by decide⟩) (shl_nat b)
abbrev spSetsBy : Sp := PSp (fun p : Nat × List (Nat × Nat) => [rNat p.1, rLst (p.2.map rPr)]) (fun p _ _ => p.1 ≤ 100000 ∧ ∀ x ∈ p.2, x.1 < p.1 ∧ x.2 < p.1) (fun p => rLst ((setsBy p.1 p.2).map rNat))
theorem rep_flat (k : Nat) (v : V) : (List.replicate k [v]).flatten = List.replicate k v := by
  induction k with
  | zero => rfl
  | succ k ih => rw [List.replicate_succ, List.flatten_cons, ih]; rfl
theorem setsBy_len (n : Nat) (ps : List (Nat × Nat)) : (setsBy n ps).length = n := by
  unfold setsBy
  have : ∀ (qs : List (Nat × Nat)) (t : List Nat), (qs.foldl (fun t p => t.set p.1 (t.getD p.1 0 ||| 2 ^ p.2)) t).length = t.length := by
    intro qs
    induction qs with
    | nil => intro t; rfl
    | cons q qs ih => intro t; rw [List.foldl_cons, ih, List.length_set]
  rw [this, List.length_replicate]
theorem setsBy_snoc (n : Nat) (ps : List (Nat × Nat)) (x : Nat × Nat) : setsBy n (ps ++ [x]) = (setsBy n ps).set x.1 ((setsBy n ps).getD x.1 0 ||| 2 ^ x.2) := by
  unfold setsBy
  rw [List.foldl_append]; rfl
theorem map_at {α : Type} {f : α → Rep} {l : List α} {i : Nat} (d : α) (h : i < l.length) : (l.map f)[i]? = some (f (l.getD i d)) := by
  rw [List.getElem?_map, List.getD_eq_getElem?_getD, List.getElem?_eq_getElem h]; rfl
theorem map_setR {α : Type} {f : α → Rep} {l : List α} {i : Nat} {x : α} : (l.map f).set i (f x) = (l.set i x).map f := (List.map_set ..).symm
theorem ok_sets_by (T : Hd K mg) : Ce P w K mg base 1 "sets_by" ["many", "pairs"] spSetsBy := by
  refine ce_plain T.d_sets_by T.glo_sets_by sc_sets_by (fun _ _ _ _ _ _ us hl => match us, hl with | [_, _], _ => rfl) (fun _ => rfl) (fun cdv A outer s H0 E hr => ⟨_, (pss_cons (ps_set (i := 2) sc_sets_by.nd rfl (Or.inl rfl) (pe_lst pa_nil))
      (pss_cons (ps_expr (bm_k (K := K) PySem.F.plainAttrs_list PySem.F.slot_list_extend PySem.F.type_list_extend mt_extend (pv 2) (pa_cons (pe_op op_rep (pe_lst (pa_cons pe_int pa_nil)) (pv 0)) pa_nil)))
      (pss_cons (ps_for PassesOwn.never rfl (pi_list (pv 1)) (tup_k (K := K) (n := 2) rfl (pgs_cons (pg_name (i := 3) sc_sets_by.nd rfl (Or.inl rfl)) (pgs_cons (pg_name (i := 4) sc_sets_by.nd rfl (Or.inl rfl)) pgs_nil))) (pss_one (ps_asg (pe_op op_or (pe_ix (ixl_k (K := K)) (pv 2) (pv 3) (fun _ _ => rfl)) (pe_op op_shl pe_int (pv 4))) (pg_sub (pv 2) (pv 3) set_list))))
      (pss_one (ps_ret (pv 2)))))), ?_⟩)
  intro ⟨n, ps⟩ F H σ Q s hd e k
  obtain ⟨hn, hp⟩ : n ≤ 100000 ∧ ∀ x ∈ ps, x.1 < n ∧ x.2 < n := hd
  refine st_nilM s e fun l σ1 H1 hl g1 e1 m1 => ?_
  refine st_extM (Us := (List.replicate n 0).map rNat) g1.fh e1 m1 (ev_var rfl) (ev_op (A := rLst [rI 0]) (B := rNat n) (ev_lst (ea_1 ev_c)) (ev_var rfl) fun H1 F1 x y g hx hy Q q => ?_) (by simp; exact Nat.le_trans hn (by decide)) fun H2 F2 g2 sf2 m2 => ?_
  · obtain ⟨a, vs, rfl, ha, la⟩ := hx
    have e2 : vs = [V.int 0] := LA.rV_iff (us := [V.int 0]) la
    subst e2
    have hy : y = V.int (n : Nat) := hy
    refine ⟨a, n, _, rfl, hy, g.fh _ _ ha, by omega, by omega, by simp; exact Nat.le_trans hn (by decide), fun p hp => ?_⟩
    rw [Int.toNat_natCast, rep_flat]
    have g5 : G0 H1 F1 (upd H1 p (.lst (List.replicate n (V.int 0)))) (upd F1 p (.lst (List.replicate n (V.int 0)))) := Gr.new g.fh hp
    refine q _ _ _ g5 ⟨p, _, rfl, upd_same, LA.of_map (by simp) fun i x v hx hv => ?_⟩
    rw [List.getElem?_replicate] at hx hv
    split at hx
    · cases hx
      rename_i h
      rw [if_pos h] at hv
      cases hv; rfl
    · cases hx
  · refine st_for (At l) g2.fh (e1.mono sf2) (src_list (ev_var rfl)) (fun i σ' H' F' => En F' σ' [some (rNat n), some (rLst (ps.map rPr)), some (rV (.ref l)), none, none] ∧ ML l ((setsBy n (ps.take i)).map rNat) H' F')
      (fun H1 F1 g => ⟨(e1.mono (sf2.trans g.ff)).mask [true, true, true], m2.grow g⟩) (fun i σ' H' F' H1 F1 ⟨a, m⟩ g => ⟨a.mono g.ff, m.grow g⟩) (fun i x v σ' H' F' hx g ⟨a, m⟩ r N hN => ?_) fun σ' H' F' g ⟨a, m⟩ => ?_
    · obtain ⟨x1, x2⟩ := x
      obtain ⟨hx1, hx2⟩ := hp _ (List.mem_of_getElem? hx)
      refine g_2 g.fh a r fun σ2 e2 _ => ?_
      have hlt : x1 < (setsBy n (ps.take i)).length := by rw [setsBy_len]; exact hx1
      refine st_setM (j := x1) (A := rNat ((setsBy n (ps.take i)).getD x1 0 ||| 2 ^ x2)) g.fh e2 m (ev_or (ev_ixML m (ev_var rfl) (ev_var rfl) (map_at 0 hlt)) (ev_shl1 (ev_var rfl) (by omega))) (ev_var rfl) (ev_var rfl) (by rw [List.length_map]; exact hlt) fun H3 F3 g4 sf m4 => ?_
      refine hN _ H3 F3 g4 ⟨(e2.mono sf).mask [true, true, true, false, false], ?_⟩
      rw [take_snoc hx, setsBy_snoc, ← map_setR]
      exact m4
    · have g6 : G0 H F H' F' := ((g1.drop g2 (fun a (z : a = l) => z ▸ hl)).drop g fun a (z : a = l) => z ▸ hl)
      obtain ⟨F5, g7, sf, r⟩ := m.fz g6 hl
      rw [List.take_length] at r
      exact st_ret g7.fh (a.mono sf) (ev_ref rfl r) fun v H6 F6 g8 h => k v H6 F6 (g7.trans g8) h
/-! ### sets of states as numbers -/
theorem setOf_snoc (l : List Nat) (x : Nat) : setOf (l ++ [x]) = setOf l ||| 2 ^ x := by
  unfold setOf
  rw [List.foldl_append]; rfl
abbrev spSetOf : Sp := PSp (fun l : List Nat => [rLst (l.map rNat)]) (fun l _ _ => ∀ x ∈ l, x ≤ 1000000) (fun l => rNat (setOf l))
theorem ok_set_of (T : Hd K mg) : Ce P w K mg base 1 "set_of" ["states"] spSetOf := by
  refine ce_plain T.d_set_of T.glo_set_of sc_set_of (fun _ _ _ _ _ _ us hl => match us, hl with | [_], _ => rfl) (fun _ => rfl) (fun cdv A outer s H0 E hr => ⟨_, (pss_cons (ps_set (i := 1) sc_set_of.nd rfl (Or.inl rfl) pe_int)
      (pss_cons (ps_for PassesOwn.never rfl (pi_list (pv 0)) (pg_name (i := 2) sc_set_of.nd rfl (Or.inl rfl)) (pss_one (ps_set (i := 1) sc_set_of.nd rfl (Or.inl rfl) (pe_op op_or (pv 1) (pe_op op_shl pe_int (pv 2))))))
      (pss_one (ps_ret (pv 1))))), ?_⟩)
  intro l F H σ Q s hd e k
  have hd : ∀ x ∈ l, x ≤ 1000000 := hd
  refine st_asg s e (R := rNat 0) ev_c fun σ1 H1 F1 g1 e1 => ?_
  refine st_for No g1.fh e1 (src_list (ev_var rfl)) (fun i σ' H' F' => En F' σ' [some (rLst (l.map rNat)), some (rNat (setOf (l.take i))), none]) (fun H2 F2 g => (e1.mono g.ff).mask [true, true]) (fun i σ' H' F' H1 F1 a g => a.mono g.ff) (fun i x v σ' H' F' hx g a r N hN => ?_) fun σ' H' F' g a => ?_
  · refine g_1 a r fun σ2 e2 _ => ?_
    refine st_asg g.fh e2 (ev_or (ev_var rfl) (ev_shl1 (ev_var rfl) (hd _ (List.mem_of_getElem? hx)))) fun σ3 H3 F3 g3 e3 => hN _ H3 F3 g3 ?_
    rw [take_snoc hx, setOf_snoc]
    exact e3.mask [true, true, false]
  · rw [List.take_length] at a
    exact st_ret g.fh a (ev_var rfl) fun v H6 F6 g8 h => k v H6 F6 ((g1.trans g).trans g8) h
theorem ev_bits {Rs : Rs_} {H F : Hp} {ta : TE} {n : Int} (ha : EvE ta Rs H F (rI n)) : EvE (tBits ta) Rs H F (rNat (Builtin.Int.intBits n)) :=
  fun σ H1 F1 g e Q q => ha σ H1 F1 g e _ fun v H2 F2 k r => ⟨n, r, q _ H2 F2 k rfl⟩
theorem bit_dec (n i : Nat) : decide (V.int (Builtin.bitAnd ((n : Int) / 2 ^ ((i : Int).toNat)) 1) = V.int 1) = n.testBit i := by
  have h1 : Builtin.bitAnd ((n : Int) / 2 ^ ((i : Int).toNat)) 1 = ((n / 2 ^ i % 2 : Nat) : Int) := by
    have h2 : (n : Int) / 2 ^ ((i : Int).toNat) = ((n / 2 ^ i : Nat) : Int) := by rw [Int.toNat_natCast]; norm_cast
    rw [h2]
    have := Bits.bitAnd_mask (x := ((n / 2 ^ i : Nat) : Int)) 1 (Int.natCast_nonneg _)
    rw [show ((2 : Int) ^ 1 - 1) = 1 from rfl] at this
    rw [this]; norm_cast
  rw [h1, Nat.testBit_eq_decide_div_mod_eq]
  by_cases h : n / 2 ^ i % 2 = 1
  · rw [h]; rfl
  · rw [decide_eq_false h, decide_eq_false]
    intro q
    injection q with q
    omega
abbrev spStatesIn : Sp := PSp (fun n : Nat => [rNat n]) (fun n _ _ => n < 2 ^ 1000) (fun n => rLst ((statesIn n).map rNat))
theorem bits_le {n : Nat} (h : n < 2 ^ 1000) : Builtin.Int.intBits (n : Int) ≤ 1000 := by
  unfold Builtin.Int.intBits
  split
  · exact Nat.zero_le _
  · rename_i h0
    have hn : n ≠ 0 := fun z => h0 (by rw [z]; rfl)
    rw [Int.natAbs_natCast]
    have := (Nat.log2_lt hn).mpr h
    omega
theorem ok_states_in (T : Hd K mg) : Ce P w K mg base 1 "states_in" ["some"] spStatesIn := by
  refine ce_plain T.d_states_in T.glo_states_in sc_states_in (fun _ _ _ _ _ _ us hl => match us, hl with | [_], _ => rfl) (fun _ => rfl) (fun cdv A outer s H0 E hr => ⟨_, (pss_one (ps_ret (pe_lc (own := [("state", 1)]) rfl sc_states_in.nd (pi_range1 rfl T.free_range (pa_cons (pe_bits (pv 0)) pa_nil)) (blkOk_by (own := [("state", 1)]) (N := ["some", "state"]) (sc := defScope s_states_in) (by decide +kernel)) (fun _ _ _ _ _ => (pg_name (i := 1) sc_states_in.nd rfl (Or.inl rfl))) (fun _ _ _ _ _ => (pts_one (pt_cmpR op_eq (pe_op op_and (pe_op op_shr (pv 0) (pv 1)) pe_int) pe_int (nomark _)))) (fun _ _ _ _ _ => (pv 1))))), ?_⟩)
  intro n F H σ Q s hd e k
  have hb := bits_le hd
  refine st_ret s e (EvE.to (ev_lc (RB := rNat) (p := fun i => n.testBit i) (f := fun i => i) (src_range (ea_1 (ev_bits (ev_var rfl))) (by omega)) (by rw [List.length_range]; exact Nat.lt_of_le_of_lt hb (by decide)) rfl (fun i hi => tgt_1) (fun i hi => ?_) fun i hi _ => ev_var rfl) fun F' v _ h => by rwa [List.map_id'] at h) k
  refine eb_test (EvE.eqB (ev_eq (ev_I0 (ev_I (ev_var rfl) (ev_var rfl) (Int.natCast_nonneg _)) ev_c) ev_c rfl) (bit_dec n i))
theorem gath_snoc (t l : List Nat) (x : Nat) : (l ++ [x]).foldl (fun x i => x ||| t.getD i 0) 0 = l.foldl (fun x i => x ||| t.getD i 0) 0 ||| t.getD x 0 := by rw [List.foldl_append]; rfl
abbrev spGathered : Sp := PSp (fun p : List Nat × Nat => [rLst (p.1.map rNat), rNat p.2]) (fun p _ _ => p.2 < 2 ^ 1000 ∧ ∀ i ∈ statesIn p.2, i < p.1.length) (fun p => rNat (gath p.1 p.2))
theorem ok_gathered (T : Hd K mg) (c_states_in : Ce P w K mg base 1 "states_in" ["some"] spStatesIn) : Ce P w K mg base 2 "gathered" ["table", "some"] spGathered := by
  refine ce_plain T.d_gathered T.glo_gathered sc_gathered (fun _ _ _ _ _ _ us hl => match us, hl with | [_, _], _ => rfl) (fun _ => rfl) (fun cdv A outer s H0 E hr => ⟨_, (pss_cons (ps_set (i := 2) sc_gathered.nd rfl (Or.inl rfl) pe_int)
      (pss_cons (ps_for PassesOwn.never rfl (pi_list (pe_c c_states_in (hr.mono (by decide)) rfl (pa_cons (pv 1) pa_nil))) (pg_name (i := 3) sc_gathered.nd rfl (Or.inl rfl)) (pss_one (ps_set (i := 2) sc_gathered.nd rfl (Or.inl rfl) (pe_op op_or (pv 2) (pe_ix (ixl_k (K := K)) (pv 0) (pv 3) (fun _ _ => rfl))))))
      (pss_one (ps_ret (pv 2))))), ?_⟩)
  intro ⟨t, n⟩ F H σ Q s hd e k
  obtain ⟨h1, h2⟩ : n < 2 ^ 1000 ∧ ∀ i ∈ statesIn n, i < t.length := hd
  refine st_asg s e (R := rNat 0) ev_c fun σ1 H1 F1 g1 e1 => ?_
  refine st_for No g1.fh e1 (src_list (xs := statesIn n) (RA := rNat) (ev_call (res := fun n => rLst ((statesIn n).map rNat)) n (ea_1 (ev_var rfl)) rfl fun _ _ _ => h1)) (fun i σ' H' F' => En F' σ' [some (rLst (t.map rNat)), some (rNat n), some (rNat (((statesIn n).take i).foldl (fun x i => x ||| t.getD i 0) 0)), none]) (fun H2 F2 g => (e1.mono g.ff).mask [true, true, true]) (fun i σ' H' F' H1 F1 a g => a.mono g.ff) (fun i x v σ' H' F' hx g a r N hN => ?_) fun σ' H' F' g a => ?_
  · refine g_1 a r fun σ2 e2 _ => ?_
    refine st_asg g.fh e2 (ev_or (ev_var rfl) (ev_ixL (j := x) (R := rNat (t.getD x 0)) (ev_var rfl) (ev_var rfl) (map_at 0 (h2 _ (List.mem_of_getElem? hx))))) fun σ3 H3 F3 g3 e3 => hN _ H3 F3 g3 ?_
    rw [take_snoc hx, gath_snoc]
    exact e3.mask [true, true, true, false]
  · rw [List.take_length] at a
    exact st_ret g.fh a (ev_var rfl) fun v H6 F6 g8 h => k v H6 F6 ((g1.trans g).trans g8) h
end
end K81
set_option Elab.async false
set_option linter.all false
set_option maxRecDepth 100000
set_option maxHeartbeats 2000000
set_option autoImplicit false
/-! K81X: boxes. -/
namespace K81
open PySem PySem.Spec L2
open PyProof.Rows (envOfC)
/-! ### plain boxes -/
structure Bx where
  n : Nat
  st : List Nat
  sp : List Stp
  deriving DecidableEq
namespace Bx
def signs (b : Bx) : List Sg := srt rkSg (ddp (b.sp.map fun m => m.2.1))
def prs (b : Bx) (s : Sg) : List (Nat × Nat) := (b.sp.filter fun m => decide (m.2.1 = s)).map fun m => (m.1, m.2.2)
def forth (b : Bx) (s : Sg) : List Nat := setsBy b.n (b.prs s)
def back (b : Bx) (s : Sg) : List Nat := setsBy b.n ((b.prs s).map fun m => (m.2, m.1))
structure Ok (b : Bx) : Prop where
  n : b.n ≤ 1000
  st : b.st.length ≤ 100000
  sp : b.sp.length ≤ 100000
  ins : ∀ x ∈ b.st, x < b.n
  inp : ∀ m ∈ b.sp, m.1 < b.n ∧ m.2.2 < b.n
end Bx
def mkBx (n : Nat) (st : List Nat) (sp : List Stp) : Bx := ⟨n, srt rkN st, srt rkStp sp⟩
structure Raw (n : Nat) (st : List Nat) (sp : List Stp) : Prop where
  hn : n ≤ 1000
  hst : st.length ≤ 100000
  hsp : sp.length ≤ 100000
  ins : ∀ x ∈ st, x < n
  inp : ∀ m ∈ sp, m.1 < n ∧ m.2.2 < n
theorem Raw.ok {n : Nat} {st : List Nat} {sp : List Stp} (h : Raw n st sp) : (mkBx n st sp).Ok :=
  ⟨h.hn, by show (srt rkN st).length ≤ _; rw [srt_len]; exact h.hst, by show (srt rkStp sp).length ≤ _; rw [srt_len]; exact h.hsp, fun x hx => h.ins x (srt_mem.mp hx), fun m hm => h.inp m (srt_mem.mp hm)⟩
theorem perm_of_mem {α : Type} [DecidableEq α] {l m : List α} (h1 : l.Nodup) (h2 : m.Nodup) (h : ∀ x, x ∈ l ↔ x ∈ m) : l.Perm m := (List.perm_ext_iff_of_nodup h1 h2).mpr h
theorem signs_mk (n : Nat) (st : List Nat) (sp : List Stp) : (mkBx n st sp).signs = srt rkSg (ddp (sp.map fun m => m.2.1)) :=
  srt_eq rkSg_inj (perm_of_mem (ddp_nodup _) (ddp_nodup _) fun x => by
    rw [ddp_mem, ddp_mem]
    exact ((srt_perm rkStp sp).map _).mem_iff)
theorem signs_few (b : List Sg) : (ddp b).length ≤ 5 := by
  have := nat_nodup_len ((ddp b).map Fin.val) (List.range 5) (List.pairwise_map.mpr ((ddp_nodup b).imp fun h z => h (Fin.ext z))) fun x hx => by
    obtain ⟨y, _, rfl⟩ := List.mem_map.mp hx
    exact List.mem_range.mpr y.isLt
  simpa using this
def rTab (l : List Sg) (f : Sg → List Nat) : Rep := rDT (l.map fun s => (kySg s, rLst ((f s).map rNat)))
def fShape (b : Bx) : List (Str × Rep) := [("own_many", rNat b.n), ("own_starts", rLst (b.st.map rNat)), ("own_steps", rLst (b.sp.map rStp)), ("own_forth", rTab b.signs b.forth), ("own_back", rTab b.signs b.back)]
def rShape (K : PySem.W.Frag) (b : Bx) : Rep := rIns (He.ga K "Shape") (fShape b)
def fBox (K : PySem.W.Frag) (b : Bx) : List (Str × Rep) := [("own_shape", rShape K b), ("own_steps", rLst (b.sp.map rStp))]
def rBox (K : PySem.W.Frag) (b : Bx) : Rep := rIns (He.ga K "Box") (fBox K b)
theorem atK_map {β : Type} {ky : β → List Key} (hi : ∀ a b, ky a = ky b → a = b) (f : β → Rep) [DecidableEq β] : ∀ (l : List β) (b : β), atK (l.map fun a => (ky a, f a)) (ky b) = if b ∈ l then some (f b) else none
  | [], b => by simp [atK]
  | a :: l, b => by
    have ih := atK_map hi f l b
    unfold atK at ih ⊢
    by_cases e : a = b
    · subst e; simp
    · have e2 : ¬ ky a = ky b := fun z => e (hi _ _ z)
      have e3 : ¬ b = a := fun z => e z.symm
      simpa [e2, e3] using ih
section
variable {P : Program} {w : World} {K : PySem.W.Frag} {mg : Str → Option Value} {base : Heap}
theorem any_no {β : Type} {enc : β → PyData} (hp : ∀ a, plain (enc a) = true) (hi : ∀ a b, enc a = enc b → a = b) {l : List β} {x : β} (h : x ∉ l) : ((l.map enc).any fun z => PyData.eqv z (enc x)) = false := by
  rw [List.any_map]
  refine List.any_eq_false.mpr fun y hy z => h ?_
  rw [← hi _ _ ((eqv_iff (hp y) (hp x)).mp z)]
  exact hy
theorem any_yes {β : Type} {enc : β → PyData} (hp : ∀ a, plain (enc a) = true) {l : List β} {x : β} (h : x ∈ l) : ((l.map enc).any fun z => PyData.eqv z (enc x)) = true := by
  rw [List.any_map]
  exact List.any_eq_true.mpr ⟨x, h, (eqv_iff (hp x) (hp x)).mpr rfl⟩
/-- if c: (raise); the test is false -/
theorem st_no {Rs : Rs_} {H F : Hp} {σ : L2.St} {D : Ends} {t : TT} {ts : TS} (s : Same F H) (e : En F σ Rs) (h : EvB t Rs H F false) (k : ∀ H' F', G0 H F H' F' → En F' σ Rs → D.nx σ H') : tIfS t ts tNext D σ H :=
  st_if s e h (fun z => nomatch z) fun _ H' F' g e' => k H' F' g e'
theorem isq_lst {Ts : List Rep} (F : Hp) (v : V) (h : (rLst Ts).at_ F v) : ∃ a, v = .ref a ∧ ((∃ vs, F a = some (.lst vs)) ∨ ∃ vs, F a = some (.tup vs)) := let ⟨a, vs, e, h, _⟩ := h; ⟨a, e, .inl ⟨vs, h⟩⟩
theorem isq_seq {Ts : List Rep} (F : Hp) (v : V) (h : (rSeq Ts).at_ F v) : ∃ a, v = .ref a ∧ ((∃ vs, F a = some (.lst vs)) ∨ ∃ vs, F a = some (.tup vs)) := let ⟨a, vs, e, h, _⟩ := h; ⟨a, e, h.imp (fun h => ⟨vs, h⟩) fun h => ⟨vs, h⟩⟩
theorem ev_is_list {Rs : Rs_} {H F : Hp} {te : TE} {R : Rep} {E : XK} (h : EvE te Rs H F R) (hR : ∀ F v, R.at_ F v → ∃ a, v = .ref a ∧ ((∃ vs, F a = some (.lst vs)) ∨ ∃ vs, F a = some (.tup vs))) : EvE (tCall spIsList [] E (tCons te tNil)) Rs H F (rB true) := by
  intro σ H1 F1 g e Q q
  refine h σ H1 F1 g e _ fun v H2 F2 g2 r => ?_
  obtain ⟨a, rfl, hq⟩ := hR _ _ r
  exact ⟨a, F2, g2.fh, .cons rfl .nil, hq.imp (fun ⟨vs, h⟩ => ⟨vs, g2.fh _ _ h⟩) (fun ⟨vs, h⟩ => ⟨vs, g2.fh _ _ h⟩), fun v H3 F3 g3 r => q v H3 F3 (g2.trans g3) r⟩
theorem len_ne {n : Nat} (h : n ≠ 0) : decide (V.int (n : Nat) = V.int 0) = false := decide_eq_false fun z => h (by injection z with z; omega)
theorem nodup_take {α : Type} {l : List α} {i : Nat} {x : α} (h : l.Nodup) (hx : l[i]? = some x) : x ∉ l.take i := fun hm => by
  obtain ⟨j, hj, e⟩ := List.getElem_of_mem hm
  rw [List.length_take] at hj
  rw [List.getElem_take] at e
  obtain ⟨hi, e2⟩ := List.getElem?_eq_some_iff.mp hx
  exact List.pairwise_iff_getElem.mp h j i (by omega) hi (by omega) (e.trans e2.symm)
/-! ### what is asked of the parts -/
abbrev spWantStarts : Sp := PSp (fun p : Nat × List Nat => [rNat p.1, rLst (p.2.map rNat)]) (fun p _ _ => p.2 ≠ [] ∧ p.2.length ≤ 1000 ∧ p.2.Nodup ∧ ∀ x ∈ p.2, x < p.1) (fun _ => rN)
theorem ok_want_starts (T : Hd K mg) (c_is_list : Ce P w K mg base 1 "is_list" ["value"] spIsList) (c_is_state_of : Ce P w K mg base 3 "is_state_of" ["many", "value"] spIsStateOf) : Ce P w K mg base 4 "want_starts" ["many", "starts"] spWantStarts := by
  refine ce_plain T.d_want_starts T.glo_want_starts sc_want_starts (fun _ _ _ _ _ _ us hl => match us, hl with | [_, _], _ => rfl) (fun _ => rfl) (fun cdv A outer s H0 E hr => ⟨_, (pss_cons (ps_if (PW.pt (pw_or (pt_not (pt_val (pe_c c_is_list (hr.mono (by decide)) rfl (pa_cons (pv 1) pa_nil)))) (pw_or1 (pt_cmpR op_eq (pe_callB (len_k (K := K)) (by rfl) T.free_len (by decide +kernel) (pa_cons (pv 1) pa_nil)) pe_int (nomark _))))) (pss_one ps_never) pss_nil)
      (pss_one (ps_for PassesOwn.never rfl (pi_enum rfl T.free_enumerate (pa_cons (pv 1) pa_nil)) (tup_k (K := K) (n := 2) rfl (pgs_cons (pg_name (i := 2) sc_want_starts.nd rfl (Or.inl rfl)) (pgs_cons (pg_name (i := 3) sc_want_starts.nd rfl (Or.inl rfl)) pgs_nil))) (pss_one (ps_if (PW.pt (pw_or (pt_not (pt_val (pe_c c_is_state_of (hr.mono (by decide)) rfl (pa_cons (pv 0) (pa_cons (pv 3) pa_nil))))) (pw_or1 (pt_cmpR (ind_k (K := K) (hu65 hr)) (pv 3) (pe_slice (sll_k (K := K)) (pv 1) po_none (po_some (pv 2))) (by rfl))))) (pss_one ps_never) pss_nil))))), ?_⟩)
  intro ⟨n, l⟩ F H σ Q s hd e k
  obtain ⟨h1, h2, h3, h4⟩ : l ≠ [] ∧ l.length ≤ 1000 ∧ l.Nodup ∧ ∀ x ∈ l, x < n := hd
  refine st_no s e (EvB.eq (eb_or (eb_not (eb_test (ev_is_list (ev_var rfl) isq_lst))) fun _ => eb_test (EvE.eqB (ev_eq (ev_lenL (ev_var rfl)) ev_c rfl) (len_ne (by simpa using h1)))) rfl) fun H1 F1 g1 e1 => ?_
  refine st_for No g1.fh e1 (src_enumL (xs := l) (RA := rNat) (ev_var rfl)) (fun i σ' H' F' => En F' σ' [some (rNat n), some (rLst (l.map rNat)), none, none]) (fun H2 F2 g => (e1.mono g.ff).mask [true, true, false, false]) (fun i σ' H' F' H1 F1 a g => a.mono g.ff) (fun i x v σ' H' F' hx g a r N hN => ?_) fun σ' H' F' g a => k _ H' F' (g1.trans g) rfl
  obtain ⟨rfl, hx⟩ := enumL_get hx
  have hm : x.2 ∈ l := List.mem_of_getElem? hx
  have hi := (List.getElem?_eq_some_iff.mp hx).1
  refine g_2 g.fh a r fun σ2 e2 _ => ?_
  refine st_no g.fh e2 (EvB.eq (eb_or (eb_not (eb_test (ev_call (res := fun p : Int × Int => rB (decide (0 ≤ p.2) && decide (p.2 < p.1))) ((n : Int), (x.2 : Int)) (ea_2 (ev_var rfl) (ev_var rfl)) rfl fun _ _ _ => trivial))) fun _ => eb_test (ev_inD (K := K) (ds := (l.take x.1).map encNat) (ev_var rfl) (ev_take (ev_var rfl) (ev_var rfl) (by rw [List.length_map]; omega)) (dpr_nat x.2) (by rw [← List.map_take]; exact dpr_lst (dprs_map dpr_nat _)) (ok_nat _).shaped (ok_list ok_nat _).shaped)) ?_) fun H2 F2 g2 e3 => hN _ H2 F2 g2.up (e3.mask [true, true, false, false])
  rw [any_dec (fun a => (ok_nat a).pl) encNat_inj, decide_eq_false (nodup_take h3 hx), Bool.or_false]
  have := h4 _ hm
  simp
  omega
abbrev spIsStep : Sp := PSp (fun p : Nat × Stp => [rNat p.1, rStp p.2]) Any (fun p => rB (decide (p.2.1 < p.1) && decide (p.2.2.2 < p.1)))
theorem cs_Box_is_step (T : Hd K mg) (c_is_name : Ce P w K mg base 1 "is_name" ["value"] spIsName) (c_is_state_of : Ce P w K mg base 3 "is_state_of" ["many", "value"] spIsStateOf) : Cs P w K mg base 4 "Box" (He.ga K "Box") "is_step" ["states", "value"] spIsStep := by
  obtain ⟨fd, D⟩ := T.d_Box_is_step
  obtain ⟨h1, h2⟩ := T.sm_is_step
  refine ⟨_, _, fd, fn_plain D sc_Box_is_step (fun _ => rfl) (fun cdv A outer s H0 E hr => ⟨_, (pss_cons (ps_if (PW.pt (pw_or (pt_not (pt_val (pe_callB (isi_k (K := K)) (by rfl) T.free_isinstance (by decide +kernel) (pa_cons (pv 1) (pa_cons (pe_ty (n := "tuple") rfl T.free_tuple (by decide +kernel)) pa_nil))))) (pw_or (pt_cmpR op_ne (pe_callB (len_k (K := K)) (by rfl) T.free_len (by decide +kernel) (pa_cons (pv 1) pa_nil)) pe_int (nomark _)) (pw_or (pt_not (pt_val (pe_c c_is_name (hr.mono (by decide)) rfl (pa_cons (pe_ix (ixt_k (K := K)) (pv 1) pe_int (fun _ _ => rfl)) pa_nil)))) (pw_or1 (pt_not (pt_val (pe_c c_is_name (hr.mono (by decide)) rfl (pa_cons (pe_ix (ixt_k (K := K)) (pv 1) pe_int (fun _ _ => rfl)) pa_nil))))))))) (pss_one (ps_ret pe_bl)) pss_nil)
      (pss_one (ps_ret (pe_and (pe_c c_is_state_of (hr.mono (by decide)) rfl (pa_cons (pv 0) (pa_cons (pe_ix (ixt_k (K := K)) (pv 1) pe_int (fun _ _ => rfl)) pa_nil))) (pe_one (pe_c c_is_state_of (hr.mono (by decide)) rfl (pa_cons (pv 0) (pa_cons (pe_ix (ixt_k (K := K)) (pv 1) pe_int (fun _ _ => rfl)) pa_nil)))))))), ?_⟩), T.glo_Box, T.ex 3, T.rd_Box.ga, h1, h2, D.kp, D.bindsN (fun _ _ _ _ _ _ us hl => match us, hl with | [_, _], _ => rfl)⟩
  intro ⟨n, m⟩ F H σ Q s hd e k
  refine st_no s e (EvB.eq (eb_or (eb_not (eb_test (ev_isi (b := true) (ev_var rfl) ty_tup (by decide +kernel)))) fun _ => eb_or (eb_test (ev_ne (ev_lenT (ev_var rfl)) ev_c rfl)) fun _ => eb_or (eb_not (eb_test (ev_call (sgC m.2.1) (ea_1 (ev_ixT (j := 1) (ev_var rfl) ev_c rfl)) rfl fun _ _ _ => (okN _).1))) fun _ => eb_not (eb_test (ev_call (sgA m.2.1) (ea_1 (ev_ixT (j := 2) (ev_var rfl) ev_c rfl)) rfl fun _ _ _ => (okN _).2))) rfl) fun H1 F1 g1 e1 => ?_
  dsimp only
  refine st_ret g1.fh e1 (EvE.eqB (ev_andV (ev_call ((n : Int), (m.1 : Int)) (ea_2 (ev_var rfl) (ev_ixT (j := 0) (ev_var rfl) ev_c rfl)) rfl fun _ _ _ => trivial) fun _ => ev_call ((n : Int), (m.2.2 : Int)) (ea_2 (ev_var rfl) (ev_ixT (j := 3) (ev_var rfl) ev_c rfl)) rfl fun _ _ _ => trivial) ?_) fun v H' F' g r => k v H' F' (g1.trans g) r
  simp
abbrev spWantSteps : Sp := PSp (fun p : Nat × List Stp => [rNat p.1, rLst (p.2.map rStp)]) (fun p _ _ => p.2.length ≤ 1000 ∧ p.2.Nodup ∧ ∀ m ∈ p.2, m.1 < p.1 ∧ m.2.2 < p.1) (fun _ => rN)
theorem ok_want_steps (T : Hd K mg) (c_is_list : Ce P w K mg base 1 "is_list" ["value"] spIsList) (c_Box_is_step : Cs P w K mg base 4 "Box" (He.ga K "Box") "is_step" ["states", "value"] spIsStep) : Ce P w K mg base 5 "want_steps" ["many", "steps"] spWantSteps := by
  refine ce_plain T.d_want_steps T.glo_want_steps sc_want_steps (fun _ _ _ _ _ _ us hl => match us, hl with | [_, _], _ => rfl) (fun _ => rfl) (fun cdv A outer s H0 E hr => ⟨_, (pss_cons (ps_if (pt_not (pt_val (pe_c c_is_list (hr.mono (by decide)) rfl (pa_cons (pv 1) pa_nil)))) (pss_one ps_never) pss_nil)
      (pss_one (ps_for PassesOwn.never rfl (pi_enum rfl T.free_enumerate (pa_cons (pv 1) pa_nil)) (tup_k (K := K) (n := 2) rfl (pgs_cons (pg_name (i := 2) sc_want_steps.nd rfl (Or.inl rfl)) (pgs_cons (pg_name (i := 3) sc_want_steps.nd rfl (Or.inl rfl)) pgs_nil))) (pss_one (ps_if (PW.pt (pw_or (pt_not (pt_val (pe_s c_Box_is_step rfl (pa_cons (pv 0) (pa_cons (pv 3) pa_nil)) (hr.mono (by decide))))) (pw_or1 (pt_cmpR (ind_k (K := K) (hu65 hr)) (pv 3) (pe_slice (sll_k (K := K)) (pv 1) po_none (po_some (pv 2))) (by rfl))))) (pss_one ps_never) pss_nil))))), ?_⟩)
  intro ⟨n, l⟩ F H σ Q s hd e k
  obtain ⟨h2, h3, h4⟩ : l.length ≤ 1000 ∧ l.Nodup ∧ ∀ m ∈ l, m.1 < n ∧ m.2.2 < n := hd
  refine st_no s e (EvB.eq (eb_not (eb_test (ev_is_list (ev_var rfl) isq_lst))) rfl) fun H1 F1 g1 e1 => ?_
  refine st_for No g1.fh e1 (src_enumL (xs := l) (RA := rStp) (ev_var rfl)) (fun i σ' H' F' => En F' σ' [some (rNat n), some (rLst (l.map rStp)), none, none]) (fun H2 F2 g => (e1.mono g.ff).mask [true, true, false, false]) (fun i σ' H' F' H1 F1 a g => a.mono g.ff) (fun i x v σ' H' F' hx g a r N hN => ?_) fun σ' H' F' g a => k _ H' F' (g1.trans g) rfl
  obtain ⟨rfl, hx⟩ := enumL_get hx
  have hm : x.2 ∈ l := List.mem_of_getElem? hx
  have hi := (List.getElem?_eq_some_iff.mp hx).1
  refine g_2 g.fh a r fun σ2 e2 _ => ?_
  refine st_no g.fh e2 (EvB.eq (eb_or (eb_not (eb_test (ev_call (res := fun p : Nat × Stp => rB (decide (p.2.1 < p.1) && decide (p.2.2.2 < p.1))) (n, x.2) (ea_2 (ev_var rfl) (ev_var rfl)) rfl fun _ _ _ => trivial))) fun _ => eb_test (ev_inD (K := K) (ds := (l.take x.1).map encStp) (ev_var rfl) (ev_take (ev_var rfl) (ev_var rfl) (by rw [List.length_map]; omega)) (dpr_stp x.2) (by rw [← List.map_take]; exact dpr_lst (dprs_map dpr_stp _)) (ok_stp _).shaped (ok_list ok_stp _).shaped)) ?_) fun H2 F2 g2 e3 => hN _ H2 F2 g2.up (e3.mask [true, true, false, false])
  rw [any_no (fun a => (ok_stp a).pl) encStp_inj (nodup_take h3 hx), Bool.or_false]
  have := h4 _ hm
  simp [this.1, this.2]
abbrev spWantLimits : Sp := PSp (fun p : Nat × Nat => [rNat p.1, rNat p.2]) (fun p _ _ => p.1 ≤ 6 ∧ p.2 ≤ 24) (fun _ => rN)
theorem ok_want_limits (T : Hd K mg) : Ce P w K mg base 1 "want_limits" ["states", "steps"] spWantLimits := by
  refine ce_plain T.d_want_limits T.glo_want_limits sc_want_limits (fun _ _ _ _ _ _ us hl => match us, hl with | [_, _], _ => rfl) (fun _ => rfl) (fun cdv A outer s H0 E hr => ⟨_, (pss_cons (ps_if (pt_cmpR op_gt (pv 0) (ClX.pe_cval (pe_gR rfl T.glo_Box)) (nomark _)) (pss_one ps_never) pss_nil)
      (pss_one (ps_if (pt_cmpR op_gt (pv 1) (ClX.pe_cval (pe_gR rfl T.glo_Box)) (nomark _)) (pss_one ps_never) pss_nil))), ?_⟩)
  intro ⟨n, l⟩ F H σ Q s hd e k
  obtain ⟨h1, h2⟩ : n ≤ 6 ∧ l ≤ 24 := hd
  obtain ⟨u1, k1⟩ := T.v_states
  obtain ⟨u2, k2⟩ := T.v_steps
  refine st_no s e (eb_test (EvE.eqB (ev_I0 (ev_var rfl) (ev_cval ev_c T.rd_Box k1)) (decide_eq_false (show ¬ ((n : Int) > 6) by omega)))) fun H1 F1 g1 e1 => ?_
  dsimp only
  refine st_no g1.fh e1 (eb_test (EvE.eqB (ev_I0 (ev_var rfl) (ev_cval ev_c T.rd_Box k2)) (decide_eq_false (show ¬ ((l : Int) > 24) by omega)))) fun H2 F2 g2 e2 => ?_
  exact k _ H2 F2 (g1.trans g2) rfl
end
end K81
set_option Elab.async false
set_option linter.all false
set_option maxRecDepth 100000
set_option maxHeartbeats 2000000
set_option autoImplicit false
/-! K81Y: boxes made and looked at. -/
namespace K81
open PySem PySem.Spec L2
open PyProof.Rows (envOfC)
open PySem.W (Sortable)
theorem so_N (l : List Nat) : Sortable (l.map encNat) := PySem.W.Sortable.others (enc := encNat) fun b => ⟨by simp [encNat], by simp [encNat]⟩
theorem so_Stp (l : List Stp) : Sortable (l.map encStp) := PySem.W.Sortable.tuples fun b => ⟨_, _, rfl⟩
theorem so_Sg (l : List Sg) : Sortable (l.map encSg) := PySem.W.Sortable.tuples fun b => ⟨_, _, rfl⟩
theorem so_Fur (l : List Fur) : Sortable (l.map encFur) := PySem.W.Sortable.tuples fun b => ⟨_, _, rfl⟩
section
variable {K : PySem.W.Frag} {Rs : Rs_} {H F : Hp} {ta : TE}
theorem ev_srtN {l : List Nat} (h : EvE ta Rs H F (rLst (l.map rNat))) : EvE (tCB (rSortD K) (tCons ta tNil)) Rs H F (rLst ((srt rkN l).map rNat)) :=
  ev_sortD h dpr_nat le_N (fun a b => by simp [encNat, PySem.W.alike]) (so_N l) fun b => by simp [encNat, PyData.depth]
theorem ev_srtStp {l : List Stp} (h : EvE ta Rs H F (rLst (l.map rStp))) : EvE (tCB (rSortD K) (tCons ta tNil)) Rs H F (rLst ((srt rkStp l).map rStp)) :=
  ev_sortD h dpr_stp le_Stp (fun a b => by simp [encStp, PySem.W.alike, PySem.W.alikeAll]) (so_Stp l) fun b => Nat.le_trans (ok_stp b).dep (by decide)
theorem ev_srtSg {l : List Sg} (h : EvE ta Rs H F (rLst (l.map rSg))) : EvE (tCB (rSortD K) (tCons ta tNil)) Rs H F (rLst ((srt rkSg l).map rSg)) :=
  ev_sortD h dpr_sg le_Sg (fun a b => by simp [encSg, PySem.W.alike, PySem.W.alikeAll]) (so_Sg l) fun b => Nat.le_trans (ok_sg b).dep (by decide)
end
section
variable {α : Type} {xs : List α} {RA : α → Rep} {wi : TI} {g : TG} {te : TE} {vs : List Nat} {H F : Hp} {Rs : Rs_} {Ss : α → Rs_} {P : Program} {w : World} {β : Type} [DecidableEq β] {ky : β → List Key}
theorem ev_set0 (hi : ∀ a b, ky a = ky b → a = b) {f : α → β} (src : SrcL wi Rs H F xs RA) (ho : offB vs Rs = true) (hg : ∀ x ∈ xs, Tgt g vs Rs (RA x) (Ss x)) (he : ∀ x ∈ xs, EvE te (Ss x) H F (rKt (ky (f x))))
    (hl : (ddp (xs.map f)).length < 1228) : EvE (tCm (fun D => KO P w D []) wi g tYes (bSet P w te) vs) Rs H F (rSet P w ((ddp (xs.map f)).map ky)) := by
  have e : ddp ((xs.filter fun _ => true).map fun x => ky (f x)) = (ddp (xs.map f)).map ky := by
    rw [filtT, ← ddp_map hi, List.map_map]
    rfl
  have := ev_set (P := P) (w := w) (p := fun _ => true) (f := fun x => ky (f x)) src ho hg (fun _ _ => eb_yes) (fun x hx _ => he x hx) (by rw [e, List.length_map]; exact hl)
  rwa [e] at this
end
theorem ev_dc0 {α : Type} {xs : List α} {RA : α → Rep} {wi : TI} {g : TG} {tk tv : TE} {vs : List Nat} {H F : Hp} {Rs : Rs_} {Ss : α → Rs_} {kf : α → List Key} {RB : α → Rep}
    (src : SrcL wi Rs H F xs RA) (hz : xs.length < sizeLine) (ho : offB vs Rs = true) (hg : ∀ x ∈ xs, Tgt g vs Rs (RA x) (Ss x))
    (hk : ∀ x ∈ xs, EvE tk (Ss x) H F (rKt (kf x))) (hv : ∀ x ∈ xs, EvE tv (Ss x) H F (RB x)) (nd : (xs.map kf).Nodup) :
    EvM (tCm (fun _ => .dT []) wi g tYes (bDict tk tv) vs) Rs H F (fun D H F => F D = none ∧ ∃ ws, H D = some (.dT ws) ∧ KA F ws (xs.map fun x => (kf x, RB x))) := by
  have h := ev_dc (p := fun _ => true) src hz ho hg (fun _ _ => eb_yes) (fun x hx _ => hk x hx) (fun x hx _ => hv x hx) (by rw [filtT]; exact nd)
  rw [filtT] at h
  exact h
/-! ### calls of what is proved, evaluated -/
section
variable {Rs : Rs_} {H F : Hp} {ta tb : TE} {E : XK}
theorem x_pairs_with {l : List Stp} {s : Sg} (ha : EvE ta Rs H F (rLst (l.map rStp))) (hb : EvE tb Rs H F (rSg s)) (h : l.length ≤ 100000) : EvE (tCall spPairsWith [] E (tCons ta (tCons tb tNil))) Rs H F (rLst (((l.filter fun m => decide (m.2.1 = s)).map fun m => (m.1, m.2.2)).map rPr)) :=
  ev_call (l, s) (ea_2 ha hb) rfl fun _ _ _ => h
theorem x_turned_pairs {l : List (Nat × Nat)} (ha : EvE ta Rs H F (rLst (l.map rPr))) (h : l.length ≤ 100000) : EvE (tCall spTurnedPairs [] E (tCons ta tNil)) Rs H F (rLst ((l.map fun m => (m.2, m.1)).map rPr)) :=
  ev_call l (ea_1 ha) rfl fun _ _ _ => h
theorem x_sets_by {n : Nat} {l : List (Nat × Nat)} (ha : EvE ta Rs H F (rNat n)) (hb : EvE tb Rs H F (rLst (l.map rPr))) (h : n ≤ 100000) (hl : ∀ x ∈ l, x.1 < n ∧ x.2 < n) : EvE (tCall spSetsBy [] E (tCons ta (tCons tb tNil))) Rs H F (rLst ((setsBy n l).map rNat)) :=
  ev_call (n, l) (ea_2 ha hb) rfl fun _ _ _ => ⟨h, hl⟩
theorem x_set_of {l : List Nat} (ha : EvE ta Rs H F (rLst (l.map rNat))) (h : ∀ x ∈ l, x ≤ 1000000) : EvE (tCall spSetOf [] E (tCons ta tNil)) Rs H F (rNat (setOf l)) := ev_call l (ea_1 ha) rfl fun _ _ _ => h
theorem x_states_in {n : Nat} (ha : EvE ta Rs H F (rNat n)) (h : n < 2 ^ 1000) : EvE (tCall spStatesIn [] E (tCons ta tNil)) Rs H F (rLst ((statesIn n).map rNat)) := ev_call n (ea_1 ha) rfl fun _ _ _ => h
theorem x_gathered {t : List Nat} {n : Nat} (ha : EvE ta Rs H F (rLst (t.map rNat))) (hb : EvE tb Rs H F (rNat n)) (h : n < 2 ^ 1000) (hl : ∀ i ∈ statesIn n, i < t.length) : EvE (tCall spGathered [] E (tCons ta (tCons tb tNil))) Rs H F (rNat (gath t n)) :=
  ev_call (t, n) (ea_2 ha hb) rfl fun _ _ _ => ⟨h, hl⟩
theorem x_is_state_of {n i : Nat} (ha : EvE ta Rs H F (rNat n)) (hb : EvE tb Rs H F (rNat i)) : EvE (tCall spIsStateOf [] E (tCons ta (tCons tb tNil))) Rs H F (rB (decide (i < n))) :=
  EvE.eqB (ev_call (res := fun p : Int × Int => rB (decide (0 ≤ p.2) && decide (p.2 < p.1))) ((n : Int), (i : Int)) (ea_2 ha hb) rfl fun _ _ _ => trivial) (by simp)
end
theorem nodup_ky {β : Type} {ky : β → List Key} (hi : ∀ a b, ky a = ky b → a = b) {l : List β} (h : l.Nodup) : (l.map ky).Nodup := List.pairwise_map.mpr (h.imp fun hn e => hn (hi _ _ e))
theorem srt_nodup {β : Type} {rk : β → List Nat} {l : List β} (h : l.Nodup) : (srt rk l).Nodup := (srt_perm rk l).nodup_iff.mpr h
section
variable {P : Program} {w : World} {K : PySem.W.Frag} {mg : Str → Option Value} {base : Heap}
theorem prs_in {n : Nat} {sp : List Stp} (h : ∀ m ∈ sp, m.1 < n ∧ m.2.2 < n) (s : Sg) : ∀ x ∈ (sp.filter fun m => decide (m.2.1 = s)).map (fun m => (m.1, m.2.2)), x.1 < n ∧ x.2 < n := fun x hx => by
  obtain ⟨m, hm, rfl⟩ := List.mem_map.mp hx
  exact h m (List.mem_filter.mp hm).1
abbrev spShape (K : PySem.W.Frag) : Sp := PInit (He.ga K "Shape") (fun p : Nat × List Nat × List Stp => [rNat p.1, rLst (p.2.1.map rNat), rLst (p.2.2.map rStp)]) (fun p _ _ => Raw p.1 p.2.1 p.2.2) (fun p => fShape (mkBx p.1 p.2.1 p.2.2))
theorem ok_Shape (T : Hd K mg) (c_pairs_with : Ce P w K mg base 1 "pairs_with" ["steps", "sign"] spPairsWith) (c_turned_pairs : Ce P w K mg base 1 "turned_pairs" ["pairs"] spTurnedPairs) (c_sets_by : Ce P w K mg base 1 "sets_by" ["many", "pairs"] spSetsBy) :
    Cm P w K mg base 2 "Shape" (He.ga K "Shape") ["self", "many", "starts", "steps"] [] (spShape K) := by
  refine cm_plain T.d_Shape_init T.glo_Shape T.mk_Shape sc_Shape_init (fun _ _ _ _ _ _ us hl => match us, hl with | [_, _, _, _], _ => rfl) (fun _ => rfl) (fun cdv A outer s H0 E hr => ⟨_, (pss_cons (ps_fld (pv 0) (pv 1) rfl)
      (pss_cons (ps_fld (pv 0) (pe_callB (srtD_k (K := K) (hu64 hr)) (by rfl) T.free_sorted (by decide +kernel) (pa_cons (pv 2) pa_nil)) rfl)
      (pss_cons (ps_fld (pv 0) (pe_callB (srtD_k (K := K) (hu64 hr)) (by rfl) T.free_sorted (by decide +kernel) (pa_cons (pv 3) pa_nil)) rfl)
      (pss_cons (ps_set (i := 4) sc_Shape_init.nd rfl (Or.inl rfl) (pe_callB (srtK_k (P := P) (w := w) rfl (hu64 hr)) (by rfl) T.free_sorted (by decide +kernel) (pa_cons (pe_scP (P := P) (w := w) (own := [("step", 5)]) (tt := tYes) rfl (hu64 hr) sc_Shape_init.nd (pi_list (pv 3)) (blkOk_by (own := [("step", 5)]) (N := ["self", "many", "starts", "steps", "signs", "step", "sign"]) (sc := defScope s_Shape_init) (by decide +kernel)) (fun _ _ _ _ _ => (pg_name (i := 5) sc_Shape_init.nd rfl (Or.inl rfl))) (fun _ _ _ _ _ => pts_nil) (fun _ _ _ _ _ => (pe_slice (slt_k (K := K)) (pv 5) (po_some pe_int) (po_some pe_int)))) pa_nil)))
      (pss_cons (ps_fld (pv 0) (pe_lk (pe_dcU (own := [("sign", 6)]) (tt := tYes) rfl (hu64 hr) sc_Shape_init.nd (pi_list (pv 4)) (blkOk_by (own := [("sign", 6)]) (N := ["self", "many", "starts", "steps", "signs", "step", "sign"]) (sc := defScope s_Shape_init) (by decide +kernel)) (fun _ _ _ _ _ => (pg_name (i := 6) sc_Shape_init.nd rfl (Or.inl rfl))) (fun _ _ _ _ _ => pts_nil) (fun _ _ _ _ _ => (pv 6)) (fun _ _ _ _ _ => (pe_c c_sets_by (hr.mono (by decide)) rfl (pa_cons (pv 1) (pa_cons (pe_c c_pairs_with (hr.mono (by decide)) rfl (pa_cons (fld_k (K := K) (pv 0)) (pa_cons (pv 6) pa_nil))) pa_nil)))))) rfl)
      (pss_one (ps_fld (pv 0) (pe_lk (pe_dcU (own := [("sign", 6)]) (tt := tYes) rfl (hu64 hr) sc_Shape_init.nd (pi_list (pv 4)) (blkOk_by (own := [("sign", 6)]) (N := ["self", "many", "starts", "steps", "signs", "step", "sign"]) (sc := defScope s_Shape_init) (by decide +kernel)) (fun _ _ _ _ _ => (pg_name (i := 6) sc_Shape_init.nd rfl (Or.inl rfl))) (fun _ _ _ _ _ => pts_nil) (fun _ _ _ _ _ => (pv 6)) (fun _ _ _ _ _ => (pe_c c_sets_by (hr.mono (by decide)) rfl (pa_cons (pv 1) (pa_cons (pe_c c_turned_pairs (hr.mono (by decide)) rfl (pa_cons (pe_c c_pairs_with (hr.mono (by decide)) rfl (pa_cons (fld_k (K := K) (pv 0)) (pa_cons (pv 6) pa_nil))) pa_nil)) pa_nil)))))) rfl))))))), ?_⟩)
  intro ⟨n, st, sp⟩ F H x dx σ Q s hd m e k
  have hd : Raw n st sp := hd
  have hsg : (srt rkSg (ddp (sp.map fun m => m.2.1))) = (mkBx n st sp).signs := (signs_mk n st sp).symm
  have hnd : ((mkBx n st sp).signs.map kySg).Nodup := nodup_ky kySg_inj (srt_nodup (ddp_nodup _))
  have hin : ∀ s : Sg, ∀ y ∈ (mkBx n st sp).prs s, y.1 < n ∧ y.2 < n := fun s y hy => by
    obtain ⟨q, hq, rfl⟩ := List.mem_map.mp hy
    exact hd.inp q (srt_mem.mp (List.mem_filter.mp hq).1)
  have hln : ∀ s : Sg, ((mkBx n st sp).prs s).length ≤ 100000 := fun s => by
    unfold Bx.prs
    rw [List.length_map]
    refine Nat.le_trans (List.length_filter_le _ _) ?_
    show (srt rkStp sp).length ≤ _
    rw [srt_len]; exact hd.hsp
  have hl6 : (srt rkStp sp).length ≤ 100000 := by rw [srt_len]; exact hd.hsp
  refine st_fldM s e m T.cls_Shape T.no_Shape_own_many (ev_var rfl) (ev_var rfl) rfl (by simp) fun H1 F1 g1 f1 m1 => ?_
  have e1 := e.mono f1
  refine st_fldM g1.fh e1 m1 T.cls_Shape T.no_Shape_own_starts (ev_srtN (ev_var rfl)) (ev_var rfl) rfl (by simp) fun H2 F2 g2 f2 m2 => ?_
  have e2 := e1.mono f2
  refine st_fldM g2.fh e2 m2 T.cls_Shape T.no_Shape_own_steps (ev_srtStp (ev_var rfl)) (ev_var rfl) rfl (by simp) fun H3 F3 g3 f3 m3 => ?_
  have e3 := e2.mono f3
  dsimp only
  refine st_asg g3.fh e3 (R := rLst ((mkBx n st sp).signs.map fun b => rKt (kySg b))) ?_ fun σ4 H4 F4 g4 e4 => ?_
  · rw [← hsg]
    exact ev_sortK ok_kySg (ev_set0 kySg_inj (f := fun m : Stp => m.2.1) (src_list (xs := sp) (RA := rStp) (ev_var rfl)) rfl (fun _ _ => tgt_1) (fun q _ => ev_slT (K := K) (Ts := [rI (q.1 : Nat), rS (sgC q.2.1), rS (sgA q.2.1), rI (q.2.2 : Nat)]) (ev_var rfl) (eo_some (i := 1) ev_c) (eo_some (i := 3) ev_c) fun z => (by decide : ¬ HT.sIx 4 0 (some 1) = 0) z.1) (Nat.lt_of_le_of_lt (signs_few _) (by decide)))
  have m4 := m3.grow g4
  have len6 : (mkBx n st sp).signs.length < sizeLine := by
    have h1 : (mkBx n st sp).signs.length ≤ 5 := by rw [← hsg, srt_len]; exact signs_few _
    have h2 : 5 < sizeLine := by decide
    omega
  dsimp only
  refine st_fldM g4.fh e4 m4 T.cls_Shape T.no_Shape_own_forth (R := rTab (mkBx n st sp).signs (mkBx n st sp).forth) (EvM.lk ?_) (ev_var (i := 0) rfl) rfl (by simp) fun H5 F5 g5 f5 m5 => ?_
  · exact ev_dc0 (kf := kySg) (RB := fun s => rLst (((mkBx n st sp).forth s).map rNat)) (src_list (xs := (mkBx n st sp).signs) (RA := fun b => rKt (kySg b)) (ev_var rfl)) len6 rfl (fun _ _ => tgt_1) (fun q _ => ev_var rfl)
      (fun q _ => x_sets_by (l := (mkBx n st sp).prs q) (ev_var rfl) (x_pairs_with (l := srt rkStp sp) (m4.fld T.cls_Shape T.no_Shape_own_steps (ev_var rfl) rfl) (ev_var rfl) hl6) (Nat.le_trans hd.hn (by decide)) (hin q)) hnd
  have e5 := e4.mono f5
  dsimp only
  refine st_fldM g5.fh e5 m5 T.cls_Shape T.no_Shape_own_back (R := rTab (mkBx n st sp).signs (mkBx n st sp).back) (EvM.lk ?_) (ev_var (i := 0) rfl) rfl (by simp) fun H6 F6 g6 f6 m6 => ?_
  · exact ev_dc0 (kf := kySg) (RB := fun s => rLst (((mkBx n st sp).back s).map rNat)) (src_list (xs := (mkBx n st sp).signs) (RA := fun b => rKt (kySg b)) (ev_var rfl)) len6 rfl (fun _ _ => tgt_1) (fun q _ => ev_var rfl)
      (fun q _ => x_sets_by (l := ((mkBx n st sp).prs q).map fun m => (m.2, m.1)) (ev_var rfl) (x_turned_pairs (l := (mkBx n st sp).prs q) (x_pairs_with (l := srt rkStp sp) (m5.fld T.cls_Shape T.no_Shape_own_steps (ev_var rfl) rfl) (ev_var rfl) hl6) (hln q)) (Nat.le_trans hd.hn (by decide)) fun y hy => by
        obtain ⟨z, hz, rfl⟩ := List.mem_map.mp hy
        exact (hin q z hz).symm) hnd
  exact k H6 F6 ((((g1.trans g2).trans g3).trans g4.up).trans (g5.trans g6)) m6
end
end K81
set_option Elab.async false
set_option linter.all false
set_option maxRecDepth 100000
set_option maxHeartbeats 2000000
set_option autoImplicit false
/-! K81Z: boxes made and looked at. -/
namespace K81
open PySem PySem.Spec L2
open PyProof.Rows (envOfC)
section
variable {K : PySem.W.Frag} {mg : Str → Option Value} {Rs : Rs_} {H F : Hp} {ta tb : TE} {A : Rep} {C : Addr}
theorem boxCls_ok {x : Str} (c : Cls K (He.ga K x)) (h : boxClsB K x = true) {H : Hp} {a dx : Addr} {fs : List (Str × V)} (e : H a = some (.ins (He.ga K x) dx fs)) : TyX K H (.ref a) (.ref (He.ga K x)) := by
  obtain ⟨h1, h⟩ := He.ba h
  obtain ⟨h2, h⟩ := He.ba h
  obtain ⟨h3, h4⟩ := He.ba h
  exact .base (.ins e c (He.eqO_ok h1) (He.eqO_ok h2) (of_decide_eq_true h3) (of_decide_eq_true h4))
theorem ty_Box (T : Hd K mg) {fds : List (Str × Rep)} (F : Hp) (v : V) (h : (rIns (He.ga K "Box") fds).at_ F v) : TyX K F v (.ref (He.ga K "Box")) := by
  obtain ⟨a, dx, fs, rfl, ha, _⟩ := h
  exact boxCls_ok T.cls_Box (T.ex 7) ha
theorem ty_Shape (T : Hd K mg) {fds : List (Str × Rep)} (F : Hp) (v : V) (h : (rIns (He.ga K "Shape") fds).at_ F v) : TyX K F v (.ref (He.ga K "Shape")) := by
  obtain ⟨a, dx, fs, rfl, ha, _⟩ := h
  exact boxCls_ok T.cls_Shape (T.ex 8) ha
/-- isinstance(e, C) -/
theorem ev_isiC {t : Value} {b : Bool} (ha : EvE ta Rs H F A) (hb : EvE tb Rs H F (rV (.ref C))) (ht : ∀ F v, A.at_ F v → TyX K F v t) (hk : PySem.W.kitOne K t (.ref C) = some b) : EvE (tCB (rIsi K) (tCons ta (tCons tb tNil))) Rs H F (rB b) :=
  ev_cb (ea_2 ha hb) fun H1 F1 vs g l Q q => by
    cases l with
    | cons r1 l => cases l with
      | cons r2 l =>
        cases l
        have r2 : _ = V.ref C := r2
        subst r2
        exact ⟨_, _, t, .ref C, b, rfl, .own C, ht H1 _ (A.mono g.fh r1), hk, q _ _ _ (Gr.refl g.fh) rfl⟩
end
section
variable {P : Program} {w : World} {K : PySem.W.Frag} {mg : Str → Option Value} {base : Heap}
theorem x_Shape {Rs : Rs_} {H F : Hp} {ta tb tc : TE} {E : XK} {n : Nat} {st : List Nat} {sp : List Stp} (ha : EvE ta Rs H F (rNat n)) (hb : EvE tb Rs H F (rLst (st.map rNat))) (hc : EvE tc Rs H F (rLst (sp.map rStp))) (h : Raw n st sp) :
    EvE (tMake (He.ga K "Shape") (spShape K) [] E (tCons ta (tCons tb (tCons tc tNil)))) Rs H F (rShape K (mkBx n st sp)) :=
  ev_make (args := fun p : Nat × List Nat × List Stp => [rNat p.1, rLst (p.2.1.map rNat), rLst (p.2.2.map rStp)]) (dom := fun p _ _ => Raw p.1 p.2.1 p.2.2) (res := fun p => fShape (mkBx p.1 p.2.1 p.2.2)) (n, st, sp) (ea_cons ha (ea_2 hb hc)) (fun F' vs h => by rw [List.append_nil]; exact h) (fun _ _ _ => h) fun _ _ _ _ h _ => h
/-- the default of Box's steps -/
abbrev dflA (K : PySem.W.Frag) : V := He.Dv.v K (.adr (He.dflAt ("Box", some "__init__") 0))
abbrev spBoxS (K : PySem.W.Frag) : Sp := PInit (He.ga K "Box") (fun b : Bx => [rShape K b, rN, rV (dflA K)]) Any (fun b => fBox K b)
theorem cm_plain1 {C f : Addr} {N ps : List Str} {k : Nat} {qual : Str} {st : Stmt} {x : Str} {G : Type} {args : G → List Rep} {dom : G → Hp → Hp → Prop} {res : G → List (Str × Rep)} {dv : V} (n j : Nat) (D : ∃ fd, FunD K "__init__" qual (defArgs st) (defBody st) (defScope st) [dv] [] f fd) (hx : mg x = some (.ref C)) (m : Mk K C f) (S : FnScope N ps (defScope st)) (hn : n + (1 - j) = ps.length)
    (b : ∀ (T : Addr) (kV doc pm : Value) (an : Option Addr) (cdv ct : Value) (us its : List Value), us.length = n → its.length = 1 →
      ∃ k, bindArgs (PySem.W.fnOf "__init__" qual (defArgs st) (defBody st) (defScope st) (.ref T) kV doc pm an cdv ct) ⟨us, []⟩ = seqItems? (.ref T) >>= k ∧ k (some its.toArray) = pure (ps.zip (us ++ its.drop j))) (len : ∀ g, (args g).length + 1 = ps.length)
    (body : BodyI P w K mg base k N qual st f C args dom res) : Cm P w K mg base (k + 1) x C ps ([dv].drop j) (PInit C args dom res) := by
  obtain ⟨fd, D⟩ := D
  obtain ⟨ds, h1, h2⟩ := D.binds1 n j (by simp) hn b
  exact ⟨f, fd, ds, fn_init D S len body, hx, m, h2, h1⟩
theorem ok_BoxS (T : Hd K mg) (c_Shape : Cm P w K mg base 2 "Shape" (He.ga K "Shape") ["self", "many", "starts", "steps"] [] (spShape K)) (c_is_integer : Ce P w K mg base 1 "is_integer" ["value"] spIsInteger)
    (c_want_starts : Ce P w K mg base 4 "want_starts" ["many", "starts"] spWantStarts) (c_want_steps : Ce P w K mg base 5 "want_steps" ["many", "steps"] spWantSteps) (c_want_limits : Ce P w K mg base 1 "want_limits" ["states", "steps"] spWantLimits) :
    Cm P w K mg base 6 "Box" (He.ga K "Box") ["self", "states", "starts", "steps"] [dflA K] (spBoxS K) := by
  refine cm_plain1 (n := 3) (j := 0) T.d_Box_init T.glo_Box T.mk_Box sc_Box_init rfl (fun T kV doc pm an cdv ct us its hu hi => match us, hu, its, hi with | [_, _, _], _, [_], _ => ⟨_, rfl, rfl⟩) (fun _ => rfl) (fun cdv A outer s H0 E hr => ⟨_, (pss_cons (ps_if (pt_val (pe_callB (isi_k (K := K)) (by rfl) T.free_isinstance (by decide +kernel) (pa_cons (pv 1) (pa_cons (pe_gR rfl T.glo_Shape) pa_nil)))) (pss_one (ps_fld (pv 0) (pv 1) rfl)) (pss_cons (ps_if (PW.pt (pw_or (pt_not (pt_val (pe_c c_is_integer (hr.mono (by decide)) rfl (pa_cons (pv 1) pa_nil)))) (pw_or1 (pt_cmpR op_lt (pv 1) pe_int (nomark _))))) (pss_one ps_never) pss_nil)
      (pss_cons (ps_expr (pe_c c_want_starts (hr.mono (by decide)) rfl (pa_cons (pv 1) (pa_cons (pv 2) pa_nil))))
      (pss_cons (ps_expr (pe_c c_want_steps (hr.mono (by decide)) rfl (pa_cons (pv 1) (pa_cons (pv 3) pa_nil))))
      (pss_cons (ps_expr (pe_c c_want_limits (hr.mono (by decide)) rfl (pa_cons (pv 1) (pa_cons (pe_callB (len_k (K := K)) (by rfl) T.free_len (by decide +kernel) (pa_cons (pv 3) pa_nil)) pa_nil))))
      (pss_one (ps_fld (pv 0) (pe_mk c_Shape (hr.mono (by decide)) rfl (pa_cons (pv 1) (pa_cons (pv 2) (pa_cons (pv 3) pa_nil)))) rfl)))))))
      (pss_one (ps_fld (pv 0) (fld_k (K := K) (fld_k (K := K) (pv 0))) rfl))), ?_⟩)
  intro b F H x dx σ Q s hd m e k
  refine st_if s e (eb_test (ev_isiC (ev_var rfl) ev_c (ty_Shape T) T.kit_SS)) (fun _ H1 F1 g1 e1 => ?_) (fun z => nomatch z)
  have m1 := m.grow g1
  refine st_fldM g1.fh e1 m1 T.cls_Box T.no_Box_own_shape (ev_var rfl) (ev_var rfl) rfl (by simp) fun H2 F2 g2 f2 m2 => ?_
  have e2 := e1.mono f2
  dsimp only
  refine st_fldM g2.fh e2 m2 T.cls_Box T.no_Box_own_steps (ev_fld T.cls_Shape T.no_Shape_own_steps (m2.fld T.cls_Box T.no_Box_own_shape (ev_var (i := 0) rfl) rfl) rfl) (ev_var rfl) rfl (by simp) fun H3 F3 g3 f3 m3 => ?_
  exact k H3 F3 (g1.up.trans (g2.trans g3)) m3
structure RawB (n : Nat) (st : List Nat) (sp : List Stp) : Prop extends Raw n st sp where
  n1 : 1 ≤ n
  n6 : n ≤ 6
  s0 : st ≠ []
  snd : st.Nodup
  s24 : sp.length ≤ 24
  pnd : sp.Nodup
abbrev spBox (K : PySem.W.Frag) : Sp := PInit (He.ga K "Box") (fun p : Nat × List Nat × List Stp => [rNat p.1, rLst (p.2.1.map rNat), rLst (p.2.2.map rStp)]) (fun p _ _ => RawB p.1 p.2.1 p.2.2) (fun p => fBox K (mkBx p.1 p.2.1 p.2.2))
theorem nodup_lt_len {l : List Nat} {n : Nat} (h : l.Nodup) (hl : ∀ x ∈ l, x < n) : l.length ≤ n := by
  have := nat_nodup_len l (List.range n) h fun x hx => List.mem_range.mpr (hl x hx)
  rwa [List.length_range] at this
theorem ok_Box (T : Hd K mg) (c_Shape : Cm P w K mg base 2 "Shape" (He.ga K "Shape") ["self", "many", "starts", "steps"] [] (spShape K)) (c_is_integer : Ce P w K mg base 1 "is_integer" ["value"] spIsInteger)
    (c_want_starts : Ce P w K mg base 4 "want_starts" ["many", "starts"] spWantStarts) (c_want_steps : Ce P w K mg base 5 "want_steps" ["many", "steps"] spWantSteps) (c_want_limits : Ce P w K mg base 1 "want_limits" ["states", "steps"] spWantLimits) :
    Cm P w K mg base 6 "Box" (He.ga K "Box") ["self", "states", "starts", "steps"] [] (spBox K) := by
  refine cm_plain1 (n := 4) (j := 1) T.d_Box_init T.glo_Box T.mk_Box sc_Box_init rfl (fun T kV doc pm an cdv ct us its hu hi => match us, hu, its, hi with | [_, _, _, _], _, [_], _ => ⟨_, rfl, rfl⟩) (fun _ => rfl) (fun cdv A outer s H0 E hr => ⟨_, (pss_cons (ps_if (pt_val (pe_callB (isi_k (K := K)) (by rfl) T.free_isinstance (by decide +kernel) (pa_cons (pv 1) (pa_cons (pe_gR rfl T.glo_Shape) pa_nil)))) (pss_one (ps_fld (pv 0) (pv 1) rfl)) (pss_cons (ps_if (PW.pt (pw_or (pt_not (pt_val (pe_c c_is_integer (hr.mono (by decide)) rfl (pa_cons (pv 1) pa_nil)))) (pw_or1 (pt_cmpR op_lt (pv 1) pe_int (nomark _))))) (pss_one ps_never) pss_nil)
      (pss_cons (ps_expr (pe_c c_want_starts (hr.mono (by decide)) rfl (pa_cons (pv 1) (pa_cons (pv 2) pa_nil))))
      (pss_cons (ps_expr (pe_c c_want_steps (hr.mono (by decide)) rfl (pa_cons (pv 1) (pa_cons (pv 3) pa_nil))))
      (pss_cons (ps_expr (pe_c c_want_limits (hr.mono (by decide)) rfl (pa_cons (pv 1) (pa_cons (pe_callB (len_k (K := K)) (by rfl) T.free_len (by decide +kernel) (pa_cons (pv 3) pa_nil)) pa_nil))))
      (pss_one (ps_fld (pv 0) (pe_mk c_Shape (hr.mono (by decide)) rfl (pa_cons (pv 1) (pa_cons (pv 2) (pa_cons (pv 3) pa_nil)))) rfl)))))))
      (pss_one (ps_fld (pv 0) (fld_k (K := K) (fld_k (K := K) (pv 0))) rfl))), ?_⟩)
  intro ⟨n, st, sp⟩ F H x dx σ Q s hd m e k
  have hd : RawB n st sp := hd
  refine st_if s e (eb_test (ev_isiC (b := false) (ev_var rfl) ev_c (fun F v h => ty_int K F v h) T.kit_iS)) (fun z => nomatch z) (fun _ H1 F1 g1 e1 => ?_)
  have n1 := hd.n1
  refine st_no g1.fh e1 (EvB.eq (eb_or (eb_not (eb_test (ev_call (n : Int) (ea_1 (ev_var rfl)) rfl fun _ _ _ => trivial))) fun _ => eb_test (EvE.eqB (ev_I0 (ev_var rfl) ev_c) (decide_eq_false (show ¬ ((n : Int) < 1) by omega)))) rfl) fun H2 F2 g2 e2 => ?_
  dsimp only
  refine st_drop g2.fh e2 (ev_call (res := fun _ => rN) (n, st) (ea_2 (ev_var rfl) (ev_var rfl)) rfl fun _ _ _ => ⟨hd.s0, Nat.le_trans (nodup_lt_len hd.snd hd.ins) (Nat.le_trans hd.n6 (by decide)), hd.snd, hd.ins⟩) fun H3 F3 g3 e3 => ?_
  dsimp only
  refine st_drop g3.fh e3 (ev_call (res := fun _ => rN) (n, sp) (ea_2 (ev_var rfl) (ev_var rfl)) rfl fun _ _ _ => ⟨Nat.le_trans hd.s24 (by decide), hd.pnd, hd.inp⟩) fun H4 F4 g4 e4 => ?_
  dsimp only
  refine st_drop g4.fh e4 (ev_call (res := fun _ => rN) (n, (sp.map rStp).length) (ea_2 (ev_var rfl) (ev_lenL (ev_var rfl))) rfl fun _ _ _ => ⟨hd.n6, by rw [List.length_map]; exact hd.s24⟩) fun H5 F5 g5 e5 => ?_
  dsimp only
  have g15 := (((g1.trans g2).trans g3).trans g4).trans g5
  have m5 := m.grow g15
  refine st_fldM g5.fh e5 m5 T.cls_Box T.no_Box_own_shape (R := rShape K (mkBx n st sp)) (x_Shape (ev_var (i := 1) rfl) (ev_var (i := 2) rfl) (ev_var (i := 3) rfl) hd.toRaw) (ev_var (i := 0) rfl) rfl (by simp) fun H6 F6 g6 f6 m6 => ?_
  have e6 := e5.mono f6
  dsimp only
  refine st_fldM g6.fh e6 m6 T.cls_Box T.no_Box_own_steps (ev_fld T.cls_Shape T.no_Shape_own_steps (m6.fld T.cls_Box T.no_Box_own_shape (ev_var (i := 0) rfl) rfl) rfl) (ev_var rfl) rfl (by simp) fun H7 F7 g7 f7 m7 => ?_
  exact k H7 F7 (g15.up.trans (g6.trans g7)) m7
theorem x_BoxS {Rs : Rs_} {H F : Hp} {ta tb : TE} {E : XK} {b : Bx} (ha : EvE ta Rs H F (rShape K b)) (hb : EvE tb Rs H F rN) : EvE (tMake (He.ga K "Box") (spBoxS K) [dflA K] E (tCons ta (tCons tb tNil))) Rs H F (rBox K b) :=
  ev_make (args := fun b : Bx => [rShape K b, rN, rV (dflA K)]) (dom := Any) (res := fun b => fBox K b) b (ea_2 ha hb) (fun F' vs h => h.append (.cons rfl .nil)) (fun _ _ _ => trivial) fun _ _ _ _ h _ => h
theorem x_Box {Rs : Rs_} {H F : Hp} {ta tb tc : TE} {E : XK} {n : Nat} {st : List Nat} {sp : List Stp} (ha : EvE ta Rs H F (rNat n)) (hb : EvE tb Rs H F (rLst (st.map rNat))) (hc : EvE tc Rs H F (rLst (sp.map rStp))) (h : RawB n st sp) :
    EvE (tMake (He.ga K "Box") (spBox K) [] E (tCons ta (tCons tb (tCons tc tNil)))) Rs H F (rBox K (mkBx n st sp)) :=
  ev_make (args := fun p : Nat × List Nat × List Stp => [rNat p.1, rLst (p.2.1.map rNat), rLst (p.2.2.map rStp)]) (dom := fun p _ _ => RawB p.1 p.2.1 p.2.2) (res := fun p => fBox K (mkBx p.1 p.2.1 p.2.2)) (n, st, sp) (ea_cons ha (ea_2 hb hc)) (fun F' vs h => by rw [List.append_nil]; exact h) (fun _ _ _ => h) fun _ _ _ _ h _ => h
abbrev spMade (K : PySem.W.Frag) : Sp := PSp (fun p : Nat × List Nat × List Stp => [rNat p.1, rLst (p.2.1.map rNat), rLst (p.2.2.map rStp)]) (fun p _ _ => Raw p.1 p.2.1 p.2.2) (fun p => rBox K (mkBx p.1 p.2.1 p.2.2))
theorem ok_made_box (T : Hd K mg) (c_Shape : Cm P w K mg base 2 "Shape" (He.ga K "Shape") ["self", "many", "starts", "steps"] [] (spShape K)) (c_BoxS : Cm P w K mg base 6 "Box" (He.ga K "Box") ["self", "states", "starts", "steps"] [dflA K] (spBoxS K)) :
    Ce P w K mg base 8 "made_box" ["many", "starts", "steps"] (spMade K) := by
  refine ce_plain T.d_made_box T.glo_made_box sc_made_box (fun _ _ _ _ _ _ us hl => match us, hl with | [_, _, _], _ => rfl) (fun _ => rfl) (fun cdv A outer s H0 E hr => ⟨_, (pss_one (ps_ret (pe_mk c_BoxS (hr.mono (by decide)) rfl (pa_cons (pe_mk c_Shape (hr.mono (by decide)) rfl (pa_cons (pv 0) (pa_cons (pv 1) (pa_cons (pv 2) pa_nil)))) (pa_cons pe_non pa_nil))))), ?_⟩)
  intro ⟨n, st, sp⟩ F H σ Q s hd e k
  exact st_ret s e (x_BoxS (x_Shape (ev_var rfl) (ev_var rfl) (ev_var rfl) hd) ev_c) k
theorem x_made {Rs : Rs_} {H F : Hp} {ta tb tc : TE} {E : XK} {n : Nat} {st : List Nat} {sp : List Stp} (ha : EvE ta Rs H F (rNat n)) (hb : EvE tb Rs H F (rLst (st.map rNat))) (hc : EvE tc Rs H F (rLst (sp.map rStp))) (h : Raw n st sp) :
    EvE (tCall (spMade K) [] E (tCons ta (tCons tb (tCons tc tNil)))) Rs H F (rBox K (mkBx n st sp)) := ev_call (res := fun p : Nat × List Nat × List Stp => rBox K (mkBx p.1 p.2.1 p.2.2)) (n, st, sp) (ea_cons ha (ea_2 hb hc)) rfl fun _ _ _ => h
/-! ### looked at -/
theorem fld_sh (T : Hd K mg) {Rs : Rs_} {H F : Hp} {ta : TE} {b : Bx} (h : EvE ta Rs H F (rBox K b)) : EvE (tFld K ta "own_shape") Rs H F (rShape K b) := ev_fld T.cls_Box T.no_Box_own_shape h rfl
theorem fld_many (T : Hd K mg) {Rs : Rs_} {H F : Hp} {ta : TE} {b : Bx} (h : EvE ta Rs H F (rShape K b)) : EvE (tFld K ta "own_many") Rs H F (rNat b.n) := ev_fld T.cls_Shape T.no_Shape_own_many h rfl
theorem fld_starts (T : Hd K mg) {Rs : Rs_} {H F : Hp} {ta : TE} {b : Bx} (h : EvE ta Rs H F (rShape K b)) : EvE (tFld K ta "own_starts") Rs H F (rLst (b.st.map rNat)) := ev_fld T.cls_Shape T.no_Shape_own_starts h rfl
theorem fld_steps (T : Hd K mg) {Rs : Rs_} {H F : Hp} {ta : TE} {b : Bx} (h : EvE ta Rs H F (rShape K b)) : EvE (tFld K ta "own_steps") Rs H F (rLst (b.sp.map rStp)) := ev_fld T.cls_Shape T.no_Shape_own_steps h rfl
theorem fld_forth (T : Hd K mg) {Rs : Rs_} {H F : Hp} {ta : TE} {b : Bx} (h : EvE ta Rs H F (rShape K b)) : EvE (tFld K ta "own_forth") Rs H F (rTab b.signs b.forth) := ev_fld T.cls_Shape T.no_Shape_own_forth h rfl
theorem ev_copy {Rs : Rs_} {H F : Hp} {ta : TE} {Ts : List Rep} (h : EvE ta Rs H F (rLst Ts)) : EvE (tCB (rListOf K) (tCons ta tNil)) Rs H F (rLst Ts) :=
  ev_cb (ea_1 h) fun H1 F1 vs g l Q q => by
    cases l with
    | cons r1 l =>
      cases l
      obtain ⟨a, us, rfl, h2, l2⟩ := r1
      refine ⟨a, us, rfl, .inl (SqL.of (g.fh _ _ h2)), fun p hp => ?_⟩
      have g2 : G0 H1 F1 (upd H1 p (.lst us)) (upd F1 p (.lst us)) := Gr.new g.fh hp
      exact q _ _ _ g2 ⟨p, us, rfl, upd_same, l2.mono g2.ff⟩
abbrev spStates (K : PySem.W.Frag) : Sp := PSp (fun b : Bx => [rBox K b]) Any (fun b => rNat b.n)
theorem ok_Box_states (T : Hd K mg) : Cp P w K mg base 1 (He.ga K "Box") "states" (spStates K) := by
  refine cp_plain T.d_Box_states T.cls_Box T.p_Box_states sc_Box_states (fun _ _ _ _ _ _ us hl => match us, hl with | [_], _ => rfl) (fun _ => rfl) (fun cdv A outer s H0 E hr => ⟨_, (pss_one (ps_ret (fld_k (K := K) (fld_k (K := K) (pv 0))))), ?_⟩)
  intro b F H σ Q s hd e k
  exact st_ret s e (fld_many T (fld_sh T (ev_var rfl))) k
theorem ins_Box {b : Bx} (F : Hp) (v : V) (h : (rBox K b).at_ F v) : ∃ a dx fs, v = .ref a ∧ F a = some (.ins (He.ga K "Box") dx fs) := let ⟨a, dx, fs, e, h, _⟩ := h; ⟨a, dx, fs, e, h⟩
theorem isIns_Box {b : Bx} {m : Str} (hm : (fBox K b).lookup m = none) : IsIns (He.ga K "Box") m (rBox K b) := fun F v ⟨a, dx, fs, e, h, l⟩ => ⟨a, dx, fs, e, h, l.nolook hm⟩
theorem x_states {Rs : Rs_} {H F : Hp} {ta : TE} {E : XK} {b : Bx} (h : EvE ta Rs H F (rBox K b)) : EvE (tProp (He.ga K "Box") (spStates K) [] E ta) Rs H F (rNat b.n) := ev_prop (res := fun b : Bx => rNat b.n) b h ins_Box rfl fun _ _ _ => trivial
abbrev spStarts (K : PySem.W.Frag) : Sp := PSp (fun b : Bx => [rBox K b]) Any (fun b => rLst (b.st.map rNat))
theorem ok_Box_starts (T : Hd K mg) : Cq P w K mg base 1 (He.ga K "Box") "starts" ["self"] (spStarts K) := by
  refine cq_plain T.d_Box_starts T.cls_Box T.m_Box_starts sc_Box_starts (fun _ _ _ _ _ _ us hl => match us, hl with | [_], _ => rfl) (fun _ => rfl) (fun cdv A outer s H0 E hr => ⟨_, (pss_one (ps_ret (pe_callTy (lst_k (K := K)) (by rfl) T.free_list (by decide +kernel) (pa_cons (fld_k (K := K) (fld_k (K := K) (pv 0))) pa_nil)))), ?_⟩)
  intro b F H σ Q s hd e k
  exact st_ret s e (ev_copy (fld_starts T (fld_sh T (ev_var rfl)))) k
theorem x_starts {Rs : Rs_} {H F : Hp} {ta : TE} {E : XK} {b : Bx} (h : EvE ta Rs H F (rBox K b)) : EvE (tMeth (He.ga K "Box") "starts" (spStarts K) [] E ta tNil) Rs H F (rLst (b.st.map rNat)) := ev_meth (res := fun b : Bx => rLst (b.st.map rNat)) b h (isIns_Box rfl) ea_nil rfl fun _ _ _ => trivial
abbrev spSteps (K : PySem.W.Frag) : Sp := PSp (fun b : Bx => [rBox K b]) Any (fun b => rLst (b.sp.map rStp))
theorem ok_Box_steps (T : Hd K mg) : Cq P w K mg base 1 (He.ga K "Box") "steps" ["self"] (spSteps K) := by
  refine cq_plain T.d_Box_steps T.cls_Box T.m_Box_steps sc_Box_steps (fun _ _ _ _ _ _ us hl => match us, hl with | [_], _ => rfl) (fun _ => rfl) (fun cdv A outer s H0 E hr => ⟨_, (pss_one (ps_ret (pe_callTy (lst_k (K := K)) (by rfl) T.free_list (by decide +kernel) (pa_cons (fld_k (K := K) (fld_k (K := K) (pv 0))) pa_nil)))), ?_⟩)
  intro b F H σ Q s hd e k
  exact st_ret s e (ev_copy (fld_steps T (fld_sh T (ev_var rfl)))) k
theorem x_steps {Rs : Rs_} {H F : Hp} {ta : TE} {E : XK} {b : Bx} (h : EvE ta Rs H F (rBox K b)) : EvE (tMeth (He.ga K "Box") "steps" (spSteps K) [] E ta tNil) Rs H F (rLst (b.sp.map rStp)) := ev_meth (res := fun b : Bx => rLst (b.sp.map rStp)) b h (isIns_Box rfl) ea_nil rfl fun _ _ _ => trivial
theorem srt_signs (b : Bx) : srt rkSg b.signs = b.signs := srt_id (srt_sorted _ _)
abbrev spSigns (K : PySem.W.Frag) : Sp := PSp (fun b : Bx => [rBox K b]) Any (fun b => rLst (b.signs.map rSg))
theorem ok_Box_signs (T : Hd K mg) : Cq P w K mg base 1 (He.ga K "Box") "signs" ["self"] (spSigns K) := by
  refine cq_plain T.d_Box_signs T.cls_Box T.m_Box_signs sc_Box_signs (fun _ _ _ _ _ _ us hl => match us, hl with | [_], _ => rfl) (fun _ => rfl) (fun cdv A outer s H0 E hr => ⟨_, (pss_one (ps_ret (pe_callB (cr_sortDT rfl (hu64 hr)) (by rfl) T.free_sorted (by decide +kernel) (pa_cons (fld_k (K := K) (fld_k (K := K) (pv 0))) pa_nil)))), ?_⟩)
  intro b F H σ Q s hd e k
  refine st_ret s e (EvE.to (ev_sortDT ok_kySg (l := b.signs) (ks := b.signs.map fun s => (kySg s, rLst ((b.forth s).map rNat))) (by rw [List.map_map]; rfl) (fld_forth T (fld_sh T (ev_var rfl)))) fun F' v _ h => ?_) k
  rw [srt_signs] at h
  exact h
theorem x_signs {Rs : Rs_} {H F : Hp} {ta : TE} {E : XK} {b : Bx} (h : EvE ta Rs H F (rBox K b)) : EvE (tMeth (He.ga K "Box") "signs" (spSigns K) [] E ta tNil) Rs H F (rLst (b.signs.map rSg)) := ev_meth (res := fun b : Bx => rLst (b.signs.map rSg)) b h (isIns_Box rfl) ea_nil rfl fun _ _ _ => trivial
end
end K81
set_option Elab.async false
set_option linter.all false
set_option maxRecDepth 100000
set_option maxHeartbeats 2000000
set_option autoImplicit false
/-! K81M: sets of states as numbers, plainly. -/
namespace K81
open PySem

theorem setOf_bit (l : List Nat) (j : Nat) : (setOf l).testBit j = true ↔ j ∈ l := by
  induction l using snoc_ind with
  | h0 => simp [setOf]
  | h1 l x ih =>
    rw [setOf_snoc, Nat.testBit_or, Bool.or_eq_true, ih, Nat.testBit_two_pow, decide_eq_true_eq, List.mem_append, List.mem_singleton]
    exact or_congr Iff.rfl eq_comm
theorem statesIn_mem {x i : Nat} : i ∈ statesIn x ↔ x.testBit i = true := by
  unfold statesIn
  rw [List.mem_filter, List.mem_range]
  refine ⟨fun h => h.2, fun h => ⟨?_, h⟩⟩
  unfold Builtin.Int.intBits
  have hne : x ≠ 0 := fun z => by rw [z] at h; simp at h
  rw [if_neg (by simpa using hne), Int.natAbs_natCast]
  have h1 := Nat.ge_two_pow_of_testBit h
  have := (Nat.le_log2 hne).mpr h1
  omega
theorem bit_lt {x n i : Nat} (h : x < 2 ^ n) (hb : x.testBit i = true) : i < n := by
  have h1 := Nat.ge_two_pow_of_testBit hb
  exact (Nat.pow_lt_pow_iff_right (by decide)).mp (Nat.lt_of_le_of_lt h1 h)
theorem lt_of_bits {x n : Nat} (h : ∀ j, x.testBit j = true → j < n) : x < 2 ^ n := by
  refine Nat.lt_pow_two_of_testBit x fun i hi => ?_
  cases q : x.testBit i with
  | false => rfl
  | true => have := h i q; omega
theorem bits_ext {x y : Nat} (h : ∀ j, x.testBit j = true ↔ y.testBit j = true) : x = y := Nat.eq_of_testBit_eq fun i => by
  have := h i
  cases q : x.testBit i <;> cases r : y.testBit i <;> simp_all
theorem setsBy_bit {n : Nat} {ps : List (Nat × Nat)} (h : ∀ p ∈ ps, p.1 < n) (i j : Nat) : ((setsBy n ps).getD i 0).testBit j = true ↔ (i, j) ∈ ps := by
  induction ps using snoc_ind with
  | h0 =>
    have : (setsBy n []).getD i 0 = 0 := by
      unfold setsBy
      rw [List.foldl_nil, List.getD_eq_getElem?_getD, List.getElem?_replicate]
      split <;> rfl
    rw [this]
    simp
  | h1 ps p ih =>
    have ih := ih fun q hq => h q (List.mem_append_left _ hq)
    have hp := h p (List.mem_append_right _ (List.mem_singleton.mpr rfl))
    rw [setsBy_snoc, List.getD_eq_getElem?_getD]
    by_cases e : i = p.1
    · subst e
      rw [List.getElem?_set_self (by rw [setsBy_len]; exact hp), Option.getD_some, Nat.testBit_or, Bool.or_eq_true, ih, Nat.testBit_two_pow, decide_eq_true_eq, List.mem_append, List.mem_singleton]
      refine or_congr Iff.rfl ⟨fun h => by rw [← h], fun h => by rw [← h]⟩
    · rw [List.getElem?_set_ne (Ne.symm e), ← List.getD_eq_getElem?_getD, ih, List.mem_append, List.mem_singleton]
      refine ⟨.inl, fun z => z.elim id fun z => absurd (by rw [← z]) e⟩
theorem fold_or_bit (t : List Nat) (l : List Nat) (j : Nat) : (l.foldl (fun x i => x ||| t.getD i 0) 0).testBit j = true ↔ ∃ i ∈ l, (t.getD i 0).testBit j = true := by
  induction l using snoc_ind with
  | h0 => simp
  | h1 l x ih =>
    rw [gath_snoc, Nat.testBit_or, Bool.or_eq_true, ih]
    constructor
    · rintro (⟨i, hi, h⟩ | h)
      · exact ⟨i, List.mem_append_left _ hi, h⟩
      · exact ⟨x, List.mem_append_right _ (List.mem_singleton.mpr rfl), h⟩
    · rintro ⟨i, hi, h⟩
      rcases List.mem_append.mp hi with hi | hi
      · exact .inl ⟨i, hi, h⟩
      · rw [List.mem_singleton.mp hi] at h; exact .inr h
theorem gath_bit (t : List Nat) (x j : Nat) : (gath t x).testBit j = true ↔ ∃ i, x.testBit i = true ∧ (t.getD i 0).testBit j = true := by
  unfold gath
  rw [fold_or_bit]
  exact ⟨fun ⟨i, h, k⟩ => ⟨i, statesIn_mem.mp h, k⟩, fun ⟨i, h, k⟩ => ⟨i, statesIn_mem.mpr h, k⟩⟩
namespace Bx
def start (b : Bx) : Nat := setOf b.st
def behind (b : Bx) (x : Nat) (s : Sg) : Nat := if s ∈ b.signs then gath (b.forth s) x else 0
def row (b : Bx) (x : Nat) (r : List Sg) : Nat := r.foldl b.behind x
def gives (b : Bx) (r : List Sg) : Bool := decide (0 < b.row b.start r)
theorem signs_mem (b : Bx) (s : Sg) : s ∈ b.signs ↔ ∃ i j, (i, s, j) ∈ b.sp := by
  unfold signs
  rw [srt_mem, ddp_mem, List.mem_map]
  exact ⟨fun ⟨m, h, e⟩ => ⟨m.1, m.2.2, by rw [← e]; exact h⟩, fun ⟨i, j, h⟩ => ⟨_, h, rfl⟩⟩
theorem prs_mem (b : Bx) (s : Sg) (p : Nat × Nat) : p ∈ b.prs s ↔ (p.1, s, p.2) ∈ b.sp := by
  unfold prs
  rw [List.mem_map]
  constructor
  · rintro ⟨m, h, rfl⟩
    obtain ⟨h1, h2⟩ := List.mem_filter.mp h
    rw [← of_decide_eq_true h2]
    exact h1
  · intro h
    exact ⟨_, List.mem_filter.mpr ⟨h, decide_eq_true rfl⟩, rfl⟩
theorem behind_bit {b : Bx} (h : b.Ok) (x : Nat) (s : Sg) (j : Nat) : (b.behind x s).testBit j = true ↔ ∃ i, x.testBit i = true ∧ (i, s, j) ∈ b.sp := by
  unfold behind
  split
  · rw [gath_bit]
    refine exists_congr fun i => and_congr Iff.rfl ?_
    unfold forth
    rw [setsBy_bit (fun p hp => (h.inp _ ((b.prs_mem s p).mp hp)).1), prs_mem]
  · rename_i hs
    refine ⟨fun h => by simp at h, fun ⟨i, _, hm⟩ => absurd ((b.signs_mem s).mpr ⟨i, j, hm⟩) hs⟩
theorem start_bit (b : Bx) (j : Nat) : b.start.testBit j = true ↔ j ∈ b.st := setOf_bit _ _
theorem start_lt {b : Bx} (h : b.Ok) : b.start < 2 ^ b.n := lt_of_bits fun j hj => h.ins j ((b.start_bit j).mp hj)
theorem behind_lt {b : Bx} (h : b.Ok) (x : Nat) (s : Sg) : b.behind x s < 2 ^ b.n := lt_of_bits fun j hj => by
  obtain ⟨i, _, hm⟩ := (behind_bit h x s j).mp hj
  exact (h.inp _ hm).2
theorem row_lt {b : Bx} (h : b.Ok) : ∀ (r : List Sg) {x : Nat}, x < 2 ^ b.n → b.row x r < 2 ^ b.n
  | [], _, hx => hx
  | s :: r, x, _ => row_lt h r (behind_lt h x s)
theorem pow_le {b : Bx} (h : b.Ok) {x : Nat} (hx : x < 2 ^ b.n) : x < 2 ^ 1000 := Nat.lt_of_lt_of_le hx (Nat.pow_le_pow_right (by decide) h.n)
end Bx
end K81
set_option Elab.async false
set_option linter.all false
set_option maxRecDepth 100000
set_option maxHeartbeats 2000000
set_option autoImplicit false
/-! K81W: what a box gives. -/
namespace K81
open PySem PySem.Spec L2
open PyProof.Rows (envOfC)
theorem atK_sg (b : Bx) (s : Sg) : atK (b.signs.map fun s => (kySg s, rLst ((b.forth s).map rNat))) (kySg s) = if s ∈ b.signs then some (rLst ((b.forth s).map rNat)) else none := atK_map kySg_inj _ _ _
namespace Bx
def sure (b : Bx) : Bool := decide (b.st.length = 1) && decide ((ddp (b.sp.map fun m => (m.1, m.2.1))).length = b.sp.length)
end Bx
section
variable {P : Program} {w : World} {K : PySem.W.Frag} {mg : Str → Option Value} {base : Heap}
abbrev spIsSure (K : PySem.W.Frag) : Sp := PSp (fun b : Bx => [rBox K b]) (fun b _ _ => b.sp.length < 1228) (fun b => rB b.sure)
theorem len_dec {n m : Nat} : decide (V.int (n : Nat) = V.int (m : Nat)) = decide (n = m) := decide_eq_decide.mpr ⟨fun h => by injection h with h; omega, fun h => by rw [h]⟩
theorem ok_Box_is_sure (T : Hd K mg) : Cp P w K mg base 1 (He.ga K "Box") "is_sure" (spIsSure K) := by
  refine cp_plain T.d_Box_is_sure T.cls_Box T.p_Box_is_sure sc_Box_is_sure (fun _ _ _ _ _ _ us hl => match us, hl with | [_], _ => rfl) (fun _ => rfl) (fun cdv A outer s H0 E hr => ⟨_, (pss_cons (ps_if (pt_cmpR op_ne (pe_callB (len_k (K := K)) (by rfl) T.free_len (by decide +kernel) (pa_cons (fld_k (K := K) (fld_k (K := K) (pv 0))) pa_nil)) pe_int (nomark _)) (pss_one (ps_ret pe_bl)) pss_nil)
      (pss_one (ps_ret (pe_cmpR op_eq (pe_callB (lenK_k (P := P) (w := w)) (by rfl) T.free_len (by decide +kernel) (pa_cons (pe_scP (P := P) (w := w) (own := [("step", 1)]) (tt := tYes) rfl (hu64 hr) sc_Box_is_sure.nd (pi_list (fld_k (K := K) (fld_k (K := K) (pv 0)))) (blkOk_by (own := [("step", 1)]) (N := ["self", "step"]) (sc := defScope s_Box_is_sure) (by decide +kernel)) (fun _ _ _ _ _ => (pg_name (i := 1) sc_Box_is_sure.nd rfl (Or.inl rfl))) (fun _ _ _ _ _ => pts_nil) (fun _ _ _ _ _ => (pe_slice (slt_k (K := K)) (pv 1) po_none (po_some pe_int)))) pa_nil)) (pe_callB (len_k (K := K)) (by rfl) T.free_len (by decide +kernel) (pa_cons (fld_k (K := K) (fld_k (K := K) (pv 0))) pa_nil)) (nomark _))))), ?_⟩)
  intro b F H σ Q s hd e k
  have hd : b.sp.length < 1228 := hd
  have t1 : EvB _ _ H F (!decide (b.st.length = 1)) := eb_test (EvE.eqB (ev_ne (ev_lenL (K := K) (fld_starts T (fld_sh T (ev_var (i := 0) (Rs := [some (rBox K b), none]) rfl)))) ev_c rfl) (by rw [List.length_map]; exact congrArg (! ·) (len_dec (m := 1))))
  refine st_if s e t1 (fun h1 H1 F1 g1 e1 => ?_) (fun h1 H1 F1 g1 e1 => ?_)
  · refine st_ret g1.fh e1 ev_c fun v H2 F2 g2 r => k v H2 F2 (g1.trans g2) ?_
    have h1 : decide (b.st.length = 1) = false := by simpa using h1
    show v = V.bl b.sure
    unfold Bx.sure
    rw [h1]
    exact r
  · have h1 : decide (b.st.length = 1) = true := by simpa using h1
    dsimp only
    refine st_ret g1.fh e1 (EvE.eqB (ev_eq (ev_lenK (ev_set0 (P := P) (w := w) kyHd_inj (f := fun m : Stp => (m.1, m.2.1)) (src_list (xs := b.sp) (RA := rStp) (fld_steps T (fld_sh T (ev_var rfl)))) rfl (fun _ _ => tgt_1) (fun q _ => ev_slT (K := K) (Ts := [rI (q.1 : Nat), rS (sgC q.2.1), rS (sgA q.2.1), rI (q.2.2 : Nat)]) (ev_var rfl) eo_none (eo_some (i := 3) ev_c) fun z => (by decide : ¬ HT.sIx 4 4 (some 3) = 4) z.2) (Nat.lt_of_le_of_lt (ddp_len _) (by rw [List.length_map]; exact hd)))) (ev_lenL (fld_steps T (fld_sh T (ev_var rfl)))) rfl) ?_) fun v H2 F2 g2 r => k v H2 F2 (g1.trans g2) r
    rw [List.length_map, List.length_map, len_dec]
    unfold Bx.sure
    rw [h1, Bool.true_and]
theorem x_is_sure {Rs : Rs_} {H F : Hp} {ta : TE} {E : XK} {b : Bx} (h : EvE ta Rs H F (rBox K b)) (hl : b.sp.length < 1228) : EvE (tProp (He.ga K "Box") (spIsSure K) [] E ta) Rs H F (rB b.sure) := ev_prop (res := fun b : Bx => rB b.sure) b h ins_Box rfl fun _ _ _ => hl
abbrev spWithStarts (K : PySem.W.Frag) : Sp := PSp (fun p : Bx × List Nat => [rBox K p.1, rLst (p.2.map rNat)]) (fun p _ _ => p.1.Ok ∧ p.2 ≠ [] ∧ p.2.length ≤ 1000 ∧ p.2.Nodup ∧ ∀ x ∈ p.2, x < p.1.n) (fun p => rBox K (mkBx p.1.n p.2 p.1.sp))
theorem ok_Box_with_starts (T : Hd K mg) (c_want_starts : Ce P w K mg base 4 "want_starts" ["many", "starts"] spWantStarts) (c_Box_states : Cp P w K mg base 1 (He.ga K "Box") "states" (spStates K)) (c_made_box : Ce P w K mg base 8 "made_box" ["many", "starts", "steps"] (spMade K)) :
    Cq P w K mg base 9 (He.ga K "Box") "with_starts" ["self", "starts"] (spWithStarts K) := by
  refine cq_plain T.d_Box_with_starts T.cls_Box T.m_Box_with_starts sc_Box_with_starts (fun _ _ _ _ _ _ us hl => match us, hl with | [_, _], _ => rfl) (fun _ => rfl) (fun cdv A outer s H0 E hr => ⟨_, (pss_cons (ps_expr (pe_c c_want_starts (hr.mono (by decide)) rfl (pa_cons (pe_p c_Box_states (pv 0) (hr.mono (by decide))) (pa_cons (pv 1) pa_nil))))
      (pss_one (ps_ret (pe_c c_made_box (hr.mono (by decide)) rfl (pa_cons (pe_p c_Box_states (pv 0) (hr.mono (by decide))) (pa_cons (pv 1) (pa_cons (fld_k (K := K) (fld_k (K := K) (pv 0))) pa_nil))))))), ?_⟩)
  intro ⟨b, l⟩ F H σ Q s hd e k
  obtain ⟨h0, h1, h2, h3, h4⟩ : b.Ok ∧ l ≠ [] ∧ l.length ≤ 1000 ∧ l.Nodup ∧ ∀ x ∈ l, x < b.n := hd
  refine st_drop s e (ev_call (res := fun _ => rN) (b.n, l) (ea_2 (x_states (ev_var rfl)) (ev_var rfl)) rfl fun _ _ _ => ⟨h1, h2, h3, h4⟩) fun H1 F1 g1 e1 => ?_
  dsimp only
  exact st_ret g1.fh e1 (x_made (x_states (ev_var rfl)) (ev_var rfl) (fld_steps T (fld_sh T (ev_var rfl))) ⟨h0.n, Nat.le_trans h2 (by decide), h0.sp, h4, h0.inp⟩) fun v H2 F2 g2 r => k v H2 F2 (g1.trans g2) r
abbrev spWantState (K : PySem.W.Frag) : Sp := PSp (fun p : Bx × Nat => [rBox K p.1, rNat p.2]) (fun p _ _ => p.2 < p.1.n) (fun _ => rN)
theorem ok_want_state (T : Hd K mg) (c_is_state_of : Ce P w K mg base 3 "is_state_of" ["many", "value"] spIsStateOf) (c_Box_states : Cp P w K mg base 1 (He.ga K "Box") "states" (spStates K)) : Ce P w K mg base 4 "want_state" ["box", "value"] (spWantState K) := by
  refine ce_plain T.d_want_state T.glo_want_state sc_want_state (fun _ _ _ _ _ _ us hl => match us, hl with | [_, _], _ => rfl) (fun _ => rfl) (fun cdv A outer s H0 E hr => ⟨_, (pss_one (ps_if (pt_not (pt_val (pe_c c_is_state_of (hr.mono (by decide)) rfl (pa_cons (pe_p c_Box_states (pv 0) (hr.mono (by decide))) (pa_cons (pv 1) pa_nil))))) (pss_one ps_never) pss_nil)), ?_⟩)
  intro ⟨b, i⟩ F H σ Q s hd e k
  have hd : i < b.n := hd
  exact st_no s e (EvB.eq (eb_not (eb_test (x_is_state_of (x_states (b := b) (ev_var rfl)) (ev_var rfl)))) (by rw [decide_eq_true hd]; rfl)) fun H1 F1 g1 e1 => k _ H1 F1 g1 rfl
abbrev spWantRow : Sp := PSp (fun l : List Sg => [rLst (l.map rSg)]) Any (fun _ => rN)
theorem ok_want_row (T : Hd K mg) (c_is_list : Ce P w K mg base 1 "is_list" ["value"] spIsList) (c_is_sign : Ce P w K mg base 2 "is_sign" ["value"] spIsSign) : Ce P w K mg base 3 "want_row" ["row"] spWantRow := by
  refine ce_plain T.d_want_row T.glo_want_row sc_want_row (fun _ _ _ _ _ _ us hl => match us, hl with | [_], _ => rfl) (fun _ => rfl) (fun cdv A outer s H0 E hr => ⟨_, (pss_cons (ps_if (pt_not (pt_val (pe_c c_is_list (hr.mono (by decide)) rfl (pa_cons (pv 0) pa_nil)))) (pss_one ps_never) pss_nil)
      (pss_one (ps_for PassesOwn.never rfl (pi_enum rfl T.free_enumerate (pa_cons (pv 0) pa_nil)) (tup_k (K := K) (n := 2) rfl (pgs_cons (pg_name (i := 1) sc_want_row.nd rfl (Or.inl rfl)) (pgs_cons (pg_name (i := 2) sc_want_row.nd rfl (Or.inl rfl)) pgs_nil))) (pss_one (ps_if (pt_not (pt_val (pe_c c_is_sign (hr.mono (by decide)) rfl (pa_cons (pv 2) pa_nil)))) (pss_one ps_never) pss_nil))))), ?_⟩)
  intro l F H σ Q s hd e k
  refine st_no s e (EvB.eq (eb_not (eb_test (ev_is_list (ev_var rfl) isq_lst))) rfl) fun H1 F1 g1 e1 => ?_
  refine st_for No g1.fh e1 (src_enumL (xs := l) (RA := rSg) (ev_var rfl)) (fun i σ' H' F' => En F' σ' [some (rLst (l.map rSg)), none, none]) (fun H2 F2 g => (e1.mono g.ff).mask [true, false, false]) (fun i σ' H' F' H1 F1 a g => a.mono g.ff) (fun i x v σ' H' F' hx g a r N hN => ?_) fun σ' H' F' g a => k _ H' F' (g1.trans g) rfl
  refine g_2 g.fh a r fun σ2 e2 _ => ?_
  exact st_no g.fh e2 (EvB.eq (eb_not (eb_test (ev_call (res := fun _ => rB true) x.2 (ea_1 (ev_var rfl)) rfl fun _ _ _ => trivial))) rfl) fun H2 F2 g2 e3 => hN _ H2 F2 g2.up (e3.mask [true, false, false])
abbrev spWantLimited (K : PySem.W.Frag) : Sp := PSp (fun b : Bx => [rBox K b]) (fun b _ _ => b.n ≤ 7) (fun _ => rN)
theorem ok_want_limited (T : Hd K mg) (c_Box_states : Cp P w K mg base 1 (He.ga K "Box") "states" (spStates K)) : Ce P w K mg base 3 "want_limited" ["box"] (spWantLimited K) := by
  refine ce_plain T.d_want_limited T.glo_want_limited sc_want_limited (fun _ _ _ _ _ _ us hl => match us, hl with | [_], _ => rfl) (fun _ => rfl) (fun cdv A outer s H0 E hr => ⟨_, (pss_one (ps_if (pt_cmpR op_gt (pe_p c_Box_states (pv 0) (hr.mono (by decide))) (pe_gI rfl T.MOST_SETS_STATES) (nomark _)) (pss_one ps_never) pss_nil)), ?_⟩)
  intro b F H σ Q s hd e k
  have hd : b.n ≤ 7 := hd
  exact st_no s e (eb_test (EvE.eqB (ev_I0 (x_states (b := b) (ev_var rfl)) ev_c) (decide_eq_false (show ¬ ((b.n : Int) > 7) by omega)))) fun H1 F1 g1 e1 => k _ H1 F1 g1 rfl
/-! ### sets behind -/
abbrev spStartSet (K : PySem.W.Frag) : Sp := PSp (fun b : Bx => [rBox K b]) (fun b _ _ => b.Ok) (fun b => rNat b.start)
theorem ok_start_set (T : Hd K mg) (c_set_of : Ce P w K mg base 1 "set_of" ["states"] spSetOf) : Ce P w K mg base 2 "start_set" ["box"] (spStartSet K) := by
  refine ce_plain T.d_start_set T.glo_start_set sc_start_set (fun _ _ _ _ _ _ us hl => match us, hl with | [_], _ => rfl) (fun _ => rfl) (fun cdv A outer s H0 E hr => ⟨_, (pss_one (ps_ret (pe_c c_set_of (hr.mono (by decide)) rfl (pa_cons (fld_k (K := K) (fld_k (K := K) (pv 0))) pa_nil)))), ?_⟩)
  intro b F H σ Q s hd e k
  have hd : b.Ok := hd
  exact st_ret s e (x_set_of (fld_starts T (fld_sh T (ev_var rfl))) fun x hx => by have := hd.ins x hx; have := hd.n; omega) k
theorem x_start {Rs : Rs_} {H F : Hp} {ta : TE} {E : XK} {b : Bx} (h : EvE ta Rs H F (rBox K b)) (hb : b.Ok) : EvE (tCall (spStartSet K) [] E (tCons ta tNil)) Rs H F (rNat b.start) := ev_call (res := fun b : Bx => rNat b.start) b (ea_1 h) rfl fun _ _ _ => hb
abbrev spBehindSet (K : PySem.W.Frag) : Sp := PSp (fun p : Bx × Nat × Sg => [rBox K p.1, rNat p.2.1, rSg p.2.2]) (fun p _ _ => p.1.Ok ∧ p.2.1 < 2 ^ p.1.n) (fun p => rNat (p.1.behind p.2.1 p.2.2))
theorem ok_behind_set (T : Hd K mg) (c_gathered : Ce P w K mg base 2 "gathered" ["table", "some"] spGathered) : Ce P w K mg base 3 "behind_set" ["box", "some", "sign"] (spBehindSet K) := by
  refine ce_plain T.d_behind_set T.glo_behind_set sc_behind_set (fun _ _ _ _ _ _ us hl => match us, hl with | [_, _, _], _ => rfl) (fun _ => rfl) (fun cdv A outer s H0 E hr => ⟨_, (pss_cons (ps_set (i := 3) sc_behind_set.nd rfl (Or.inl rfl) (fld_k (K := K) (fld_k (K := K) (pv 0))))
      (pss_one (ps_ret (pe_ifExp (pt_cmp (pc_din (hu_of hr) (pv 2) (pv 3))) (pe_c c_gathered (hr.mono (by decide)) rfl (pa_cons (pe_dget (hu_of hr) (pv 3) (pv 2) (fun _ _ => rfl)) (pa_cons (pv 1) pa_nil))) pe_int)))), ?_⟩)
  intro ⟨b, x, q⟩ F H σ Q s hd e k
  obtain ⟨hb, hx⟩ : b.Ok ∧ x < 2 ^ b.n := hd
  refine st_asg s e (fld_forth T (fld_sh T (ev_var rfl))) fun σ1 H1 F1 g1 e1 => ?_
  dsimp only
  refine st_ret g1.fh e1 (ev_if (b := decide (q ∈ b.signs)) (R := rNat (b.behind x q)) (eb_test (EvE.eqB (ev_dinT (k := kySg q) (ev_var rfl) (ev_var rfl)) ?_)) (fun hq => ?_) (fun hq => ?_)) fun v H2 F2 g2 r => k v H2 F2 (g1.trans g2) r
  · rw [atK_sg]
    by_cases h : q ∈ b.signs
    · rw [if_pos h, decide_eq_true h]; rfl
    · rw [if_neg h, decide_eq_false h]; rfl
  · have hq := of_decide_eq_true hq
    have e0 : b.behind x q = gath (b.forth q) x := if_pos hq
    rw [e0]
    refine x_gathered (ev_dgetT (k := kySg q) (ev_var rfl) (ev_var rfl) (by rw [atK_sg, if_pos hq])) (ev_var rfl) (Bx.pow_le hb hx) fun i hi => ?_
    unfold Bx.forth
    rw [setsBy_len]
    exact bit_lt hx (statesIn_mem.mp hi)
  · have hq := of_decide_eq_false hq
    have e0 : b.behind x q = 0 := if_neg hq
    rw [e0]
    exact ev_c
theorem x_behind {Rs : Rs_} {H F : Hp} {ta tb tc : TE} {E : XK} {b : Bx} {x : Nat} {q : Sg} (h : EvE ta Rs H F (rBox K b)) (h2 : EvE tb Rs H F (rNat x)) (h3 : EvE tc Rs H F (rSg q)) (hb : b.Ok) (hx : x < 2 ^ b.n) : EvE (tCall (spBehindSet K) [] E (tCons ta (tCons tb (tCons tc tNil)))) Rs H F (rNat (b.behind x q)) :=
  ev_call (res := fun p : Bx × Nat × Sg => rNat (p.1.behind p.2.1 p.2.2)) (b, x, q) (ea_cons h (ea_2 h2 h3)) rfl fun _ _ _ => ⟨hb, hx⟩
abbrev spBehindRow (K : PySem.W.Frag) : Sp := PSp (fun p : Bx × Nat × List Sg => [rBox K p.1, rNat p.2.1, rLst (p.2.2.map rSg)]) (fun p _ _ => p.1.Ok ∧ p.2.1 < 2 ^ p.1.n) (fun p => rNat (p.1.row p.2.1 p.2.2))
theorem row_snoc (b : Bx) (x : Nat) (r : List Sg) (s : Sg) : b.row x (r ++ [s]) = b.behind (b.row x r) s := by unfold Bx.row; rw [List.foldl_append]; rfl
theorem ok_behind_row (T : Hd K mg) (c_behind_set : Ce P w K mg base 3 "behind_set" ["box", "some", "sign"] (spBehindSet K)) : Ce P w K mg base 4 "behind_row" ["box", "some", "row"] (spBehindRow K) := by
  refine ce_plain T.d_behind_row T.glo_behind_row sc_behind_row (fun _ _ _ _ _ _ us hl => match us, hl with | [_, _, _], _ => rfl) (fun _ => rfl) (fun cdv A outer s H0 E hr => ⟨_, (pss_cons (ps_set (i := 3) sc_behind_row.nd rfl (Or.inl rfl) (pv 1))
      (pss_cons (ps_for PassesOwn.never rfl (pi_list (pv 2)) (pg_name (i := 4) sc_behind_row.nd rfl (Or.inl rfl)) (pss_one (ps_set (i := 3) sc_behind_row.nd rfl (Or.inl rfl) (pe_c c_behind_set (hr.mono (by decide)) rfl (pa_cons (pv 0) (pa_cons (pv 3) (pa_cons (pv 4) pa_nil)))))))
      (pss_one (ps_ret (pv 3))))), ?_⟩)
  intro ⟨b, x, r⟩ F H σ Q s hd e k
  obtain ⟨hb, hx⟩ : b.Ok ∧ x < 2 ^ b.n := hd
  refine st_asg s e (R := rNat x) (ev_var rfl) fun σ1 H1 F1 g1 e1 => ?_
  dsimp only
  refine st_for No g1.fh e1 (src_list (xs := r) (RA := rSg) (ev_var rfl)) (fun i σ' H' F' => En F' σ' [some (rBox K b), some (rNat x), some (rLst (r.map rSg)), some (rNat (b.row x (r.take i))), none]) (fun H2 F2 g => (e1.mono g.ff).mask [true, true, true, true]) (fun i σ' H' F' H1 F1 a g => a.mono g.ff) (fun i q v σ' H' F' hq g a rr N hN => ?_) fun σ' H' F' g a => ?_
  · refine g_1 a rr fun σ2 e2 _ => ?_
    refine st_asg g.fh e2 (x_behind (ev_var rfl) (ev_var rfl) (ev_var rfl) hb (Bx.row_lt hb _ hx)) fun σ3 H3 F3 g3 e3 => hN _ H3 F3 g3 ?_
    rw [take_snoc hq, row_snoc]
    exact e3.mask [true, true, true, true, false]
  · rw [List.take_length] at a
    dsimp only
    exact st_ret g.fh a (ev_var rfl) fun v H2 F2 g2 h => k v H2 F2 ((g1.trans g).trans g2) h
abbrev spGives (K : PySem.W.Frag) : Sp := PSp (fun p : Bx × List Sg => [rBox K p.1, rLst (p.2.map rSg)]) (fun p _ _ => p.1.Ok) (fun p => rB (p.1.gives p.2))
theorem ok_does_give (T : Hd K mg) (c_behind_row : Ce P w K mg base 4 "behind_row" ["box", "some", "row"] (spBehindRow K)) (c_start_set : Ce P w K mg base 2 "start_set" ["box"] (spStartSet K)) : Ce P w K mg base 5 "does_give" ["box", "row"] (spGives K) := by
  refine ce_plain T.d_does_give T.glo_does_give sc_does_give (fun _ _ _ _ _ _ us hl => match us, hl with | [_, _], _ => rfl) (fun _ => rfl) (fun cdv A outer s H0 E hr => ⟨_, (pss_one (ps_ret (pe_cmpR op_gt (pe_c c_behind_row (hr.mono (by decide)) rfl (pa_cons (pv 0) (pa_cons (pe_c c_start_set (hr.mono (by decide)) rfl (pa_cons (pv 0) pa_nil)) (pa_cons (pv 1) pa_nil)))) pe_int (nomark _)))), ?_⟩)
  intro ⟨b, r⟩ F H σ Q s hd e k
  have hb : b.Ok := hd
  refine st_ret s e (EvE.eqB (ev_I0 (ev_call (res := fun p : Bx × Nat × List Sg => rNat (p.1.row p.2.1 p.2.2)) (b, b.start, r) (ea_cons (ev_var rfl) (ea_2 (x_start (ev_var rfl) hb) (ev_var rfl))) rfl fun _ _ _ => ⟨hb, Bx.start_lt hb⟩) ev_c) (j := b.gives r) (decide_eq_decide.mpr ?_)) k
  exact ⟨fun h => by have h : ((b.row b.start r : Nat) : Int) > 0 := h; omega, fun h => show ((b.row b.start r : Nat) : Int) > 0 by omega⟩
theorem ok_gives (T : Hd K mg) (c_want_row : Ce P w K mg base 3 "want_row" ["row"] spWantRow) (c_does_give : Ce P w K mg base 5 "does_give" ["box", "row"] (spGives K)) : Ce P w K mg base 6 "gives" ["box", "row"] (spGives K) := by
  refine ce_plain T.d_gives T.glo_gives sc_gives (fun _ _ _ _ _ _ us hl => match us, hl with | [_, _], _ => rfl) (fun _ => rfl) (fun cdv A outer s H0 E hr => ⟨_, (pss_cons (ps_expr (pe_c c_want_row (hr.mono (by decide)) rfl (pa_cons (pv 1) pa_nil)))
      (pss_one (ps_ret (pe_c c_does_give (hr.mono (by decide)) rfl (pa_cons (pv 0) (pa_cons (pv 1) pa_nil)))))), ?_⟩)
  intro ⟨b, r⟩ F H σ Q s hd e k
  have hb : b.Ok := hd
  refine st_drop s e (ev_call (res := fun _ => rN) r (ea_1 (ev_var rfl)) rfl fun _ _ _ => trivial) fun H1 F1 g1 e1 => ?_
  dsimp only
  exact st_ret g1.fh e1 (ev_call (res := fun p : Bx × List Sg => rB (p.1.gives p.2)) (b, r) (ea_2 (ev_var rfl) (ev_var rfl)) rfl fun _ _ _ => hb) fun v H2 F2 g2 h => k v H2 F2 (g1.trans g2) h
theorem x_gives {Rs : Rs_} {H F : Hp} {ta tb : TE} {E : XK} {b : Bx} {r : List Sg} (h : EvE ta Rs H F (rBox K b)) (h2 : EvE tb Rs H F (rLst (r.map rSg))) (hb : b.Ok) : EvE (tCall (spGives K) [] E (tCons ta (tCons tb tNil))) Rs H F (rB (b.gives r)) := ev_call (res := fun p : Bx × List Sg => rB (p.1.gives p.2)) (b, r) (ea_2 h h2) rfl fun _ _ _ => hb
end
end K81
set_option Elab.async false
set_option linter.all false
set_option maxRecDepth 100000
set_option maxHeartbeats 2000000
set_option autoImplicit false
/-! K81V: things that change, several at once; the sets a box goes through, with steps. -/
namespace K81
open PySem PySem.Spec L2
open PyProof.Rows (envOfC)
section
variable {K : PySem.W.Frag} {Rs : Rs_} {H F H1 F1 : Hp} {M : Addr → Prop} {ta tb te t1 t2 t3 : TE} {A : Rep} {σ : L2.St} {D : Ends} {l d : Addr} {Ts : List Rep} {i j : Nat}
theorem ML.gr (m : ML l Ts H F) (g : Gr M H F H1 F1) (h : ¬ M l) : ML l Ts H1 F1 := let ⟨n, us, h', r⟩ := m; ⟨g.out n h', us, g.hh h h', r.mono g.ff⟩
theorem ML.live (m : ML l Ts H F) : H l ≠ none := let ⟨_, us, h', _⟩ := m; fun z => by rw [z] at h'; cases h'
/-- a dict with int and text keys that changes -/
def MK (d : Addr) (kvs : List (Key × V)) (H F : Hp) : Prop := F d = none ∧ H d = some (.dK kvs)
theorem MK.gr {kvs : List (Key × V)} (m : MK d kvs H F) (g : Gr M H F H1 F1) (h : ¬ M d) : MK d kvs H1 F1 := ⟨g.out m.1 m.2, g.hh h m.2⟩
theorem MK.live {kvs : List (Key × V)} (m : MK d kvs H F) : H d ≠ none := fun z => by rw [m.2] at z; cases z
theorem ev_lstM {ta : TA} {As : List Rep} (h : EvA ta Rs H F As) (hl : As.length ≤ 100 := by exact Nat.le_of_ble_eq_true rfl) : EvM (tLst ta) Rs H F (fun D => ML D As) := by
  intro σ H1 F1 g1 e Q q
  refine h σ H1 F1 g1 e _ fun vs H2 F2 k rv => ⟨by rw [rv.len]; exact Nat.le_trans hl (by decide), fun p hp => ?_⟩
  exact q p _ F2 (k.trans (Gr.newM k.fh hp)) (k.none hp) ⟨k.fh.free hp, vs, upd_same, rv⟩
theorem ev_disp1 {key : Key} {val : V} (hk : EvE ta Rs H F (rV (kV key))) (hv : EvE tb Rs H F (rV val)) : EvM (tDisp [(ta, tb)]) Rs H F (fun D => MK D [(key, val)]) := by
  intro σ H1 F1 g1 e Q q p hp
  have g2 : G0 H1 F1 (upd H1 p (.dK [])) F1 := Gr.newM g1.fh hp
  have nF : F1 p = none := g1.fh.free hp
  refine hk σ _ F1 (g1.trans g2) e _ fun x H3 F3 g3 rx => hv σ H3 F3 ((g1.trans g2).trans g3) (e.mono g3.ff) _ fun y H4 F4 g4 ry => ?_
  have rx : x = kV key := rx
  have ry : y = val := ry
  subst rx ry
  have h4 : H4 p = some (.dK []) := g4.h (g3.h upd_same)
  have n4 : F4 p = none := (g3.trans g4).out nF upd_same
  refine ⟨h4, [(key, y)], rfl, by simp, ?_⟩
  have e1 : mergeK [] [(key, y)] = [(key, y)] := rfl
  rw [e1]
  exact q p _ F4 (((g2.trans g3).trans g4).wr (.inl hp) n4) hp ⟨n4, upd_same⟩
theorem st_parMM {S1 S2 : Addr → Hp → Hp → Prop} (s : Same F H) (e : En F σ Rs) (h1 : EvM t1 Rs H F S1) (h2 : EvM t2 Rs H F S2) (gr : ∀ a H F H1 F1, S1 a H F → G0 H F H1 F1 → S1 a H1 F1) (live : ∀ a H F, S1 a H F → H a ≠ none)
    (k : ∀ a b σ' H' F', G0 H F H' F' → H a = none → H b = none → a ≠ b → S1 a H' F' → S2 b H' F' → En F' σ' ((Rs.set i (some (rV (.ref a)))).set j (some (rV (.ref b)))) → D.nx σ' H') : tPar i j (tCons t1 (tCons t2 tNil)) D σ H :=
  h1 σ H F (Gr.refl s) e _ fun a H1 F1 g1 n1 s1 => h2 σ H1 F1 g1 (e.mono g1.ff) _ fun b H2 F2 g2 n2 s2 =>
    ⟨_, _, rfl, k a b _ H2 F2 (g1.trans g2) n1 (g1.none n2) (fun z => live a _ _ s1 (z ▸ n2)) (gr _ _ _ _ _ s1 g2) s2 (((e.mono (g1.trans g2).ff).set rfl).set rfl)⟩
theorem st_parME {S1 : Addr → Hp → Hp → Prop} (s : Same F H) (e : En F σ Rs) (h1 : EvM t1 Rs H F S1) (h2 : EvE t2 Rs H F A) (gr : ∀ a H F H1 F1, S1 a H F → G0 H F H1 F1 → S1 a H1 F1)
    (k : ∀ a σ' H' F', G0 H F H' F' → H a = none → S1 a H' F' → En F' σ' ((Rs.set i (some (rV (.ref a)))).set j (some A)) → D.nx σ' H') : tPar i j (tCons t1 (tCons t2 tNil)) D σ H :=
  h1 σ H F (Gr.refl s) e _ fun a H1 F1 g1 n1 s1 => h2 σ H1 F1 g1 (e.mono g1.ff) _ fun v H2 F2 g2 r =>
    ⟨_, _, rfl, k a _ H2 F2 (g1.trans g2) n1 (gr _ _ _ _ _ s1 g2) (((e.mono (g1.trans g2).ff).set rfl).set r)⟩
theorem st_parEM {S2 : Addr → Hp → Hp → Prop} (s : Same F H) (e : En F σ Rs) (h1 : EvE t1 Rs H F A) (h2 : EvM t2 Rs H F S2)
    (k : ∀ b σ' H' F', G0 H F H' F' → H b = none → S2 b H' F' → En F' σ' ((Rs.set i (some A)).set j (some (rV (.ref b)))) → D.nx σ' H') : tPar i j (tCons t1 (tCons t2 tNil)) D σ H :=
  h1 σ H F (Gr.refl s) e _ fun v H1 F1 g1 r => h2 σ H1 F1 g1 (e.mono g1.ff) _ fun b H2 F2 g2 n2 s2 =>
    ⟨_, _, rfl, k b _ H2 F2 (g1.trans g2) (g1.none n2) s2 (((e.mono (g1.trans g2).ff).set (A.mono g2.ff r)).set rfl)⟩
theorem st_par3MME {l : Nat} {S1 S2 : Addr → Hp → Hp → Prop} (s : Same F H) (e : En F σ Rs) (h1 : EvM t1 Rs H F S1) (h2 : EvM t2 Rs H F S2) (h3 : EvE t3 Rs H F A) (gr : ∀ a H F H1 F1, S1 a H F → G0 H F H1 F1 → S1 a H1 F1) (gr2 : ∀ a H F H1 F1, S2 a H F → G0 H F H1 F1 → S2 a H1 F1) (live : ∀ a H F, S1 a H F → H a ≠ none)
    (k : ∀ a b σ' H' F', G0 H F H' F' → H a = none → H b = none → a ≠ b → S1 a H' F' → S2 b H' F' → En F' σ' (((Rs.set i (some (rV (.ref a)))).set j (some (rV (.ref b)))).set l (some A)) → D.nx σ' H') : tPar3 i j l (tCons t1 (tCons t2 (tCons t3 tNil))) D σ H :=
  h1 σ H F (Gr.refl s) e _ fun a H1 F1 g1 n1 s1 => h2 σ H1 F1 g1 (e.mono g1.ff) _ fun b H2 F2 g2 n2 s2 => h3 σ H2 F2 (g1.trans g2) (e.mono (g1.trans g2).ff) _ fun v H3 F3 g3 r =>
    ⟨_, _, _, rfl, k a b _ H3 F3 ((g1.trans g2).trans g3) n1 (g1.none n2) (fun z => live a _ _ s1 (z ▸ n2)) (gr _ _ _ _ _ s1 (g2.trans g3)) (gr2 _ _ _ _ _ s2 g3) ((((e.mono ((g1.trans g2).trans g3).ff).set rfl).set rfl).set r)⟩
theorem st_par3MEE {l : Nat} {B : Rep} {S1 : Addr → Hp → Hp → Prop} (s : Same F H) (e : En F σ Rs) (h1 : EvM t1 Rs H F S1) (h2 : EvE t2 Rs H F A) (h3 : EvE t3 Rs H F B) (gr : ∀ a H F H1 F1, S1 a H F → G0 H F H1 F1 → S1 a H1 F1)
    (k : ∀ a σ' H' F', G0 H F H' F' → H a = none → S1 a H' F' → En F' σ' (((Rs.set i (some (rV (.ref a)))).set j (some A)).set l (some B)) → D.nx σ' H') : tPar3 i j l (tCons t1 (tCons t2 (tCons t3 tNil))) D σ H :=
  h1 σ H F (Gr.refl s) e _ fun a H1 F1 g1 n1 s1 => h2 σ H1 F1 g1 (e.mono g1.ff) _ fun u H2 F2 g2 r2 => h3 σ H2 F2 (g1.trans g2) (e.mono (g1.trans g2).ff) _ fun v H3 F3 g3 r =>
    ⟨_, _, _, rfl, k a _ H3 F3 ((g1.trans g2).trans g3) n1 (gr _ _ _ _ _ s1 (g2.trans g3)) ((((e.mono ((g1.trans g2).trans g3).ff).set rfl).set (A.mono g3.ff r2)).set r)⟩
/-- if c: ts, and on -/
theorem st_ifC {t : TT} {ts : TS} {b : Bool} (P : L2.St → Hp → Hp → Prop) (s : Same F H) (e : En F σ Rs) (h : EvB t Rs H F b)
    (h1 : b = true → ∀ H' F', G0 H F H' F' → En F' σ Rs → ∀ N : L2.St → Hp → Prop, (∀ σ' H2 F2, P σ' H2 F2 → N σ' H2) → ts { D with nx := N } σ H') (h2 : b = false → ∀ H' F', G0 H F H' F' → En F' σ Rs → P σ H' F')
    (k : ∀ σ' H' F', P σ' H' F' → D.nx σ' H') : tIfS t ts tNext D σ H :=
  st_if s e h (fun hb H' F' g e' => h1 hb H' F' g e' D.nx k) fun hb H' F' g e' => k σ H' F' (h2 hb H' F' g e')
/-! dicts with int keys that change -/
theorem ev_dgetMK {kvs : List (Key × V)} {key : Key} {v : V} (m : MK d kvs H F) (hd : EvE ta Rs H F (rV (.ref d))) (hy : EvE tb Rs H F (rV (kV key))) (h : valV kvs key = some v) : EvE (tDGet ta tb) Rs H F (rV v) := by
  intro σ H1 F1 g e Q q
  refine hd σ H1 F1 g e _ fun x H2 F2 g2 rx => hy σ H2 F2 (g.trans g2) (e.mono g2.ff) _ fun y H3 F3 g3 ry => ?_
  have rx : x = V.ref d := rx
  have ry : y = kV key := ry
  subst rx ry
  exact ⟨d, v, rfl, h ▸ DGet.k (g3.h (g2.h (g.h m.2))), q v H3 F3 (g2.trans g3) rfl⟩
theorem ev_dninMK {kvs : List (Key × V)} {key : Key} (m : MK d kvs H F) (hy : EvE tb Rs H F (rV (kV key))) (hd : EvE ta Rs H F (rV (.ref d))) : EvE (tDNotIn tb ta) Rs H F (rB (!(valV kvs key).isSome)) := by
  intro σ H1 F1 g e Q q
  refine hy σ H1 F1 g e _ fun y H2 F2 g2 ry => hd σ H2 F2 (g.trans g2) (e.mono g2.ff) _ fun x H3 F3 g3 rx => ?_
  have rx : x = V.ref d := rx
  have ry : y = kV key := ry
  subst rx ry
  exact ⟨d, _, rfl, DGet.k (g3.h (g2.h (g.h m.2))), q _ H3 F3 (g2.trans g3) rfl⟩
theorem st_dputMK {kvs : List (Key × V)} {key : Key} {v : V} (s : Same F H) (e : En F σ Rs) (m : MK d kvs H F) (hd : EvE ta Rs H F (rV (.ref d))) (hy : EvE tb Rs H F (rV (kV key))) (hv : EvE te Rs H F (rV v)) (hz : kvs.length < sizeLine)
    (k : ∀ H' F', Gr (At d) H F H' F' → Same F F' → MK d (putK kvs key v) H' F' → D.nx σ H') : sDPut ta tb te D σ H := by
  refine hv σ H F (Gr.refl s) e _ fun z H1 F1 g1 rz => hd σ H1 F1 g1 (e.mono g1.ff) _ fun x H2 F2 g2 rx => hy σ H2 F2 (g1.trans g2) (e.mono (g1.trans g2).ff) _ fun y H3 F3 g3 ry => ?_
  have rx : x = V.ref d := rx
  have ry : y = kV key := ry
  have rz : z = v := rz
  subst rx ry rz
  have g := (g1.trans g2).trans g3
  have n3 := g.out m.1 m.2
  exact ⟨d, _, rfl, DPut.k (G0.h g m.2) hz, k _ F3 (g.up.wr (.inr rfl) n3) g.ff ⟨n3, upd_same⟩⟩
end
/-! ### sets_with_steps, plainly -/
section
variable (b : Bx)
def sws1 (k : Nat) (a : List Nat × List Stp) (s : Sg) : List Nat × List Stp :=
  if 0 < b.behind (a.1.getD k 0) s then
    (if b.behind (a.1.getD k 0) s ∈ a.1 then a.1 else a.1 ++ [b.behind (a.1.getD k 0) s],
      a.2 ++ [(k, s, (if b.behind (a.1.getD k 0) s ∈ a.1 then a.1 else a.1 ++ [b.behind (a.1.getD k 0) s]).idxOf (b.behind (a.1.getD k 0) s))])
  else a
def swsR (k : Nat) (a : List Nat × List Stp) : List Nat × List Stp := if k < a.1.length then b.signs.foldl (sws1 b k) a else a
def swsAt : Nat → List Nat × List Stp
  | 0 => ([b.start], [])
  | k + 1 => swsR b k (swsAt k)
def sws : List Nat × List Stp := swsAt b 1000
variable {b}
theorem sws1_pre (k : Nat) (a : List Nat × List Stp) (s : Sg) : a.1 <+: (sws1 b k a s).1 := by
  unfold sws1
  split
  · dsimp only
    split
    · exact List.prefix_refl _
    · exact List.prefix_append _ _
  · exact List.prefix_refl _
theorem sws1_len (k : Nat) (a : List Nat × List Stp) (s : Sg) : (sws1 b k a s).2.length ≤ a.2.length + 1 := by
  unfold sws1
  split
  · simp
  · omega
theorem swsF_pre (k : Nat) : ∀ (l : List Sg) (a : List Nat × List Stp), a.1 <+: (l.foldl (sws1 b k) a).1
  | [], a => List.prefix_refl _
  | s :: l, a => (sws1_pre k a s).trans (swsF_pre k l _)
theorem swsF_len (k : Nat) : ∀ (l : List Sg) (a : List Nat × List Stp), (l.foldl (sws1 b k) a).2.length ≤ a.2.length + l.length
  | [], a => Nat.le_refl _
  | s :: l, a => by
    have h1 := swsF_len k l (sws1 b k a s)
    have h2 := sws1_len (b := b) k a s
    rw [List.foldl_cons, List.length_cons]
    omega
theorem swsAt_pre (k : Nat) : (swsAt b k).1 <+: (swsAt b (k + 1)).1 := by
  show _ <+: (swsR b k (swsAt b k)).1
  unfold swsR
  split
  · exact swsF_pre _ _ _
  · exact List.prefix_refl _
theorem swsAt_pres {k : Nat} : ∀ {j : Nat}, k ≤ j → (swsAt b k).1 <+: (swsAt b j).1
  | 0, h => by rw [Nat.le_zero.mp h]; exact List.prefix_refl _
  | j + 1, h => by
    rcases Nat.eq_or_lt_of_le h with e | e
    · rw [e]; exact List.prefix_refl _
    · exact (swsAt_pres (Nat.le_of_lt_succ e)).trans (swsAt_pre j)
theorem signs_len : b.signs.length ≤ 5 := by
  unfold Bx.signs
  rw [srt_len]
  exact signs_few _
theorem swsAt_len : ∀ k, (swsAt b k).2.length ≤ 5 * k
  | 0 => Nat.le_refl _
  | k + 1 => by
    have h := swsAt_len k
    show (swsR b k (swsAt b k)).2.length ≤ _
    unfold swsR
    split
    · have h1 := swsF_len (b := b) k b.signs (swsAt b k)
      have h2 := signs_len (b := b)
      omega
    · omega
theorem sws_stop {k : Nat} (h : ¬ k < (swsAt b k).1.length) : ∀ {j : Nat}, k ≤ j → swsAt b j = swsAt b k
  | 0, hj => by rw [Nat.le_zero.mp hj]
  | j + 1, hj => by
    rcases Nat.eq_or_lt_of_le hj with e | e
    · rw [e]
    · have ih := sws_stop h (Nat.le_of_lt_succ e)
      show swsR b j (swsAt b j) = _
      unfold swsR
      rw [ih, if_neg (by omega)]
theorem sws1_all (hb : b.Ok) {k : Nat} {a : List Nat × List Stp} {s : Sg} (h : ∀ x ∈ a.1, x < 2 ^ b.n) : ∀ x ∈ (sws1 b k a s).1, x < 2 ^ b.n := by
  intro x hx
  unfold sws1 at hx
  split at hx
  · dsimp only at hx
    split at hx
    · exact h x hx
    · rcases List.mem_append.mp hx with hx | hx
      · exact h x hx
      · rw [List.mem_singleton.mp hx]; exact Bx.behind_lt hb _ _
  · exact h x hx
theorem swsF_all (hb : b.Ok) {k : Nat} : ∀ (l : List Sg) {a : List Nat × List Stp}, (∀ x ∈ a.1, x < 2 ^ b.n) → ∀ x ∈ (l.foldl (sws1 b k) a).1, x < 2 ^ b.n
  | [], _, h => h
  | s :: l, _, h => swsF_all hb l (sws1_all hb h)
theorem swsAt_all (hb : b.Ok) : ∀ k, ∀ x ∈ (swsAt b k).1, x < 2 ^ b.n
  | 0 => fun x hx => by rw [List.mem_singleton.mp hx]; exact Bx.start_lt hb
  | k + 1 => by
    show ∀ x ∈ (swsR b k (swsAt b k)).1, _
    unfold swsR
    split
    · exact swsF_all hb _ (swsAt_all hb k)
    · exact swsAt_all hb k
end
/-- the dict numbers -/
def numK (f : List Nat) : List (Key × V) := f.zipIdx.map fun p => (Sum.inl (p.1 : Int), V.int (p.2 : Nat))
theorem valV_app {kvs ls : List (Key × V)} {key : Key} : valV (kvs ++ ls) key = (valV kvs key).or (valV ls key) := by
  unfold valV
  rw [List.find?_append]
  cases kvs.find? fun kv => decide (kv.1 = key) <;> rfl
theorem numK_snoc (f : List Nat) (x : Nat) : numK (f ++ [x]) = numK f ++ [(Sum.inl (x : Int), V.int (f.length : Nat))] := by
  unfold numK
  rw [List.zipIdx_append, List.map_append]
  simp
theorem numK_val (f : List Nat) (x : Nat) : valV (numK f) (Sum.inl (x : Int)) = if x ∈ f then some (V.int (f.idxOf x : Nat)) else none := by
  induction f using snoc_ind with
  | h0 => rfl
  | h1 f y ih =>
    rw [numK_snoc, valV_app, ih]
    by_cases h : x ∈ f
    · rw [if_pos h, if_pos (List.mem_append_left _ h), List.idxOf_append, if_pos h]
      rfl
    · rw [if_neg h]
      by_cases e : x = y
      · subst e
        rw [if_pos (by simp), List.idxOf_append, if_neg h]
        simp [valV]
      · rw [if_neg (by simp [h, e])]
        have : ¬ (y : Int) = (x : Int) := fun z => e (by omega)
        simp [valV, this]
theorem numK_put {f : List Nat} {x : Nat} (h : x ∉ f) : putK (numK f) (Sum.inl (x : Int)) (V.int (f.length : Nat)) = numK (f ++ [x]) := by
  rw [numK_snoc, putK_new]
  rw [numK_val, if_neg h]
theorem numK_len (f : List Nat) : (numK f).length = f.length := by simp [numK]
end K81
set_option Elab.async false
set_option linter.all false
set_option maxRecDepth 100000
set_option maxHeartbeats 2000000
set_option autoImplicit false
/-! K81U: sets_with_steps. -/
namespace K81
open PySem PySem.Spec L2
open PyProof.Rows (envOfC)
section
variable {P : Program} {w : World} {K : PySem.W.Frag} {mg : Str → Option Value} {base : Heap}
theorem ev_add {Rs : Rs_} {H F : Hp} {ta tb : TE} {a b : Nat} (ha : EvE ta Rs H F (rNat a)) (hb : EvE tb Rs H F (rNat b)) : EvE (tOp (rI0 fun i j => .int (i + j)) ta tb) Rs H F (rNat (a + b)) := EvE.eqI (ev_I0 ha hb) (by omega)
theorem ev_ltN {Rs : Rs_} {H F : Hp} {ta tb : TE} {a b : Nat} (ha : EvE ta Rs H F (rNat a)) (hb : EvE tb Rs H F (rNat b)) : EvE (tOp (rI0 fun i j => .bl (decide (i < j))) ta tb) Rs H F (rB (decide (a < b))) := EvE.eqB (ev_I0 ha hb) (decide_eq_decide.mpr (by omega))
theorem ev_pos {Rs : Rs_} {H F : Hp} {ta : TE} {a : Nat} (ha : EvE ta Rs H F (rNat a)) : EvE (tOp (rI0 fun i j => .bl (decide (j < i))) ta (tC (.int 0))) Rs H F (rB (decide (0 < a))) := EvE.eqB (ev_I0 ha ev_c) (decide_eq_decide.mpr (by omega))
theorem ML.fz2 {l1 l2 : Addr} {T1 T2 : List Rep} {M : Addr → Prop} {H0 F0 H F : Hp} (m1 : ML l1 T1 H F) (m2 : ML l2 T2 H F) (hne : l1 ≠ l2) (g : Gr M H0 F0 H F) (n1 : H0 l1 = none) (n2 : H0 l2 = none) :
    ∃ F', Gr M H0 F0 H F' ∧ Same F F' ∧ (rLst T1).at_ F' (.ref l1) ∧ (rLst T2).at_ F' (.ref l2) := by
  obtain ⟨nf1, us1, h1, r1⟩ := m1
  obtain ⟨nf2, us2, h2, r2⟩ := m2
  have g1 := g.fz n1 nf1 h1
  have nf2' : (upd F l1 (.lst us1)) l2 = none := by rw [upd_ne (Ne.symm hne)]; exact nf2
  have g2 := g1.fz n2 nf2' h2
  have s1 : Same F (upd F l1 (.lst us1)) := fun b o e => by rw [upd_ne (ne_of_none e nf1)]; exact e
  have s2 : Same (upd F l1 (.lst us1)) (upd (upd F l1 (.lst us1)) l2 (.lst us2)) := fun b o e => by rw [upd_ne (ne_of_none e nf2')]; exact e
  exact ⟨_, g2, s1.trans s2, ⟨l1, us1, rfl, s2 _ _ upd_same, r1.mono (s1.trans s2)⟩, ⟨l2, us2, rfl, upd_same, r2.mono (s1.trans s2)⟩⟩
theorem gr_at {l : Addr} {M : Addr → Prop} {H F H' F' : Hp} (h : M l) (g : Gr (At l) H F H' F') : Gr M H F H' F' := g.wk fun a z => by rw [show a = l from z]; exact h
abbrev M3 (a b c : Addr) : Addr → Prop := fun x => x = a ∨ x = b ∨ x = c
abbrev spSws (K : PySem.W.Frag) : Sp := PSp (fun b : Bx => [rBox K b]) (fun b _ _ => b.Ok ∧ (sws b).1.length ≤ 1000) (fun b => rTup [rLst ((sws b).1.map rNat), rLst ((sws b).2.map rStp)])
/-- what holds before the sign number i of state k -/
structure SwI (b : Bx) (lf ls dn : Addr) (a : List Nat × List Stp) (H F : Hp) : Prop where
  f : ML lf (a.1.map rNat) H F
  s : ML ls (a.2.map rStp) H F
  d : MK dn (numK a.1) H F
theorem SwI.gr {b : Bx} {lf ls dn : Addr} {a : List Nat × List Stp} {H F H' F' : Hp} (h : SwI b lf ls dn a H F) (g : G0 H F H' F') : SwI b lf ls dn a H' F' := ⟨h.f.grow g, h.s.grow g, h.d.gr g fun z => z⟩
theorem ok_sets_with_steps (T : Hd K mg) (c_start_set : Ce P w K mg base 2 "start_set" ["box"] (spStartSet K)) (c_behind_set : Ce P w K mg base 3 "behind_set" ["box", "some", "sign"] (spBehindSet K)) (c_Box_signs : Cq P w K mg base 1 (He.ga K "Box") "signs" ["self"] (spSigns K)) :
    Ce P w K mg base 4 "sets_with_steps" ["box"] (spSws K) := by
  refine ce_plain T.d_sets_with_steps T.glo_sets_with_steps sc_sets_with_steps (fun _ _ _ _ _ _ us hl => match us, hl with | [_], _ => rfl) (fun _ => rfl) (fun cdv A outer s H0 E hr => ⟨_, (pss_cons (ps_par (i := 1) (j := 2) (by rfl) sc_sets_with_steps.nd rfl rfl (by decide) rfl rfl (pa_cons (pe_lst (pa_cons (pe_c c_start_set (hr.mono (by decide)) rfl (pa_cons (pv 0) pa_nil)) pa_nil)) (pa_cons (pe_lst pa_nil) pa_nil)) (by rfl))
      (pss_cons (ps_par (i := 3) (j := 4) (by rfl) sc_sets_with_steps.nd rfl rfl (by decide) rfl rfl (pa_cons (pe_disp (pps_cons (pe_ix (ixl_k (K := K)) (pv 1) pe_int (fun _ _ => rfl)) pe_int pps_nil) (by rfl) (by rfl) (fun z => by cases z) (by decide)) (pa_cons pe_int pa_nil)) (by rfl))
      (pss_cons (ps_while PassesOwn.never (pt_cmpR op_lt (pv 4) (pe_callB (len_k (K := K)) (by rfl) T.free_len (by decide +kernel) (pa_cons (pv 1) pa_nil)) (nomark _)) (pss_cons (ps_for PassesOwn.never rfl (pi_list (pe_q0 c_Box_signs (pv 0) (hr.mono (by decide)))) (tup_k (K := K) (n := 2) rfl (pgs_cons (pg_name (i := 5) sc_sets_with_steps.nd rfl (Or.inl rfl)) (pgs_cons (pg_name (i := 6) sc_sets_with_steps.nd rfl (Or.inl rfl)) pgs_nil))) (pss_cons (ps_set (i := 7) sc_sets_with_steps.nd rfl (Or.inl rfl) (pe_c c_behind_set (hr.mono (by decide)) rfl (pa_cons (pv 0) (pa_cons (pe_ix (ixl_k (K := K)) (pv 1) (pv 4) (fun _ _ => rfl)) (pa_cons (pe_tup (pa_cons (pv 5) (pa_cons (pv 6) pa_nil))) pa_nil)))))
      (pss_one (ps_if (pt_cmpR op_gt (pv 7) pe_int (nomark _)) (pss_cons (ps_if (pt_cmp (pc_dnotin (hu_of hr) (pv 7) (pv 3))) (pss_cons (ps_dput (hu_of hr) (pv 3) (pv 7) (pe_callB (len_k (K := K)) (by rfl) T.free_len (by decide +kernel) (pa_cons (pv 1) pa_nil)) rfl)
      (pss_one (ps_expr (bm_k (K := K) PySem.F.plainAttrs_list PySem.F.slot_list_append PySem.F.type_list_append mt_append (pv 1) (pa_cons (pv 7) pa_nil))))) pss_nil)
      (pss_one (ps_expr (bm_k (K := K) PySem.F.plainAttrs_list PySem.F.slot_list_append PySem.F.type_list_append mt_append (pv 2) (pa_cons (pe_tup (pa_cons (pv 4) (pa_cons (pv 5) (pa_cons (pv 6) (pa_cons (pe_dget (hu_of hr) (pv 3) (pv 7) (fun _ _ => rfl)) pa_nil))))) pa_nil))))) pss_nil))))
      (pss_one (ps_set (i := 4) sc_sets_with_steps.nd rfl (Or.inl rfl) (pe_op op_add (pv 4) pe_int)))))
      (pss_one (ps_ret (pe_tup (pa_cons (pv 1) (pa_cons (pv 2) pa_nil)))))))), ?_⟩)
  intro b F H σ Q s hd e k0
  obtain ⟨hb, hL⟩ : b.Ok ∧ (sws b).1.length ≤ 1000 := hd
  have big : 10000 < sizeLine := by decide
  refine st_parMM s e (ev_lstM (ea_1 (x_start (ev_var rfl) hb))) (ev_lstM ea_nil) (fun _ _ _ _ _ m g => m.grow g) (fun _ _ _ m => m.live) fun lf ls σ1 H1 F1 g1 nlf nls hne mf ms e1 => ?_
  dsimp only
  refine st_parME g1.fh e1 (ev_disp1 (key := .inl (b.start : Int)) (val := .int (0 : Nat)) (ev_ixML (j := 0) mf (ev_var rfl) ev_c rfl) ev_c) (A := rNat 0) ev_c (fun _ _ _ _ _ m g => m.gr g fun z => z) fun dn σ2 H2 F2 g2 ndn md e2 => ?_
  have mf2 := mf.grow g2
  have ms2 := ms.grow g2
  have hnf : lf ≠ dn := fun z => mf.live (z ▸ ndn)
  have hns : ls ≠ dn := fun z => ms.live (z ▸ ndn)
  dsimp only
  refine st_while (M3 lf ls dn) g2.fh (fun m σ' H' F' => ∃ k, m = 1001 - k ∧ k ≤ 1000 ∧ En F' σ' [some (rBox K b), some (rV (.ref lf)), some (rV (.ref ls)), some (rV (.ref dn)), some (rNat k), none, none, none] ∧ SwI b lf ls dn (swsAt b k) H' F') 1001 ⟨0, rfl, by decide, e2.mask [true, true, true, true, true], mf2, ms2, md⟩ fun m σ' H' F' g ⟨k, hm, hk, a, w⟩ => ?_
  refine ⟨_, decide (k < (swsAt b k).1.length), a, eb_test (EvE.eqB (ev_ltN (ev_var rfl) (ev_lenML w.f (ev_var rfl))) (by rw [List.length_map])), fun hlt H3 F3 g3 N hN => ?_, fun hlt H3 F3 g3 => ?_⟩
  · -- one state
    have hlt := of_decide_eq_true hlt
    have hpre : ∀ j, j ≤ 1000 → (swsAt b j).1.length ≤ 1000 := fun j hj => Nat.le_trans (swsAt_pres hj).length_le hL
    have hk1 : k < 1000 := Nat.lt_of_lt_of_le hlt (hpre k hk)
    have hnext : swsAt b (k + 1) = b.signs.foldl (sws1 b k) (swsAt b k) := if_pos hlt
    have a3 := a.mono g3.ff
    have w3 := w.gr g3
    refine st_for (M3 lf ls dn) g3.fh a3 (src_list (xs := b.signs) (RA := rSg) (x_signs (ev_var rfl))) (fun i σ' H' F' => En F' σ' [some (rBox K b), some (rV (.ref lf)), some (rV (.ref ls)), some (rV (.ref dn)), some (rNat k), none, none, none] ∧ SwI b lf ls dn ((b.signs.take i).foldl (sws1 b k) (swsAt b k)) H' F')
      (fun H4 F4 g4 => ⟨a3.mono g4.ff, w3.gr g4⟩) (fun i σ' H' F' H1 F1 ⟨a, w⟩ g => ⟨a.mono g.ff, w.gr g⟩) (fun i q v σ4 H4 F4 hq g4 ⟨a4, w4⟩ r N4 hN4 => ?_) fun σ4 H4 F4 g4 ⟨a4, w4⟩ => ?_
    · -- one sign
      have hall : ∀ x ∈ ((b.signs.take i).foldl (sws1 b k) (swsAt b k)).1, x < 2 ^ b.n := swsF_all hb _ (swsAt_all hb k)
      have hp : (swsAt b k).1 <+: ((b.signs.take i).foldl (sws1 b k) (swsAt b k)).1 := swsF_pre _ _ _
      have hp2 : (((b.signs.take i).foldl (sws1 b k) (swsAt b k)).1).length ≤ 1000 := by
        refine Nat.le_trans (List.IsPrefix.length_le ?_) (hpre (k + 1) hk1)
        rw [hnext]
        conv => rhs; rw [← List.take_append_drop i b.signs, List.foldl_append]
        exact swsF_pre _ _ _
      have hs2 : ((b.signs.take i).foldl (sws1 b k) (swsAt b k)).2.length ≤ 5006 := by
        have h1 := swsF_len (b := b) k (b.signs.take i) (swsAt b k)
        have h2 := swsAt_len (b := b) k
        have h3 := signs_len (b := b)
        rw [List.length_take] at h1
        omega
      have hsn : (b.signs.take (i + 1)).foldl (sws1 b k) (swsAt b k) = sws1 b k ((b.signs.take i).foldl (sws1 b k) (swsAt b k)) q := by
        rw [take_snoc hq, List.foldl_append]; rfl
      generalize hA : (b.signs.take i).foldl (sws1 b k) (swsAt b k) = Ai at *
      have hkl : k < Ai.1.length := Nat.lt_of_lt_of_le hlt hp.length_le
      have hgd : Ai.1.getD k 0 < 2 ^ b.n := hall _ (by
        rw [List.getD_eq_getElem?_getD, List.getElem?_eq_getElem hkl]
        exact List.getElem_mem hkl)
      refine g_2 (R1 := rS (sgC q)) (R2 := rS (sgA q)) g4.fh a4 r fun σ5 e5 _ => ?_
      refine st_asg g4.fh e5 (x_behind (x := Ai.1.getD k 0) (q := q) (ev_var rfl) (ev_ixML (j := k) w4.f (ev_var rfl) (ev_var rfl) (map_at 0 hkl)) (ev_tup (ea_2 (ev_var rfl) (ev_var rfl))) hb hgd) fun σ6 H6 F6 g6 e6 => ?_
      have w6 := w4.gr g6
      generalize hg : b.behind (Ai.1.getD k 0) q = gl at e6
      dsimp only
      refine st_ifC (fun σ' H' F' => Gr (M3 lf ls dn) H4 F4 H' F' ∧ En F' σ' [some (rBox K b), some (rV (.ref lf)), some (rV (.ref ls)), some (rV (.ref dn)), some (rNat k), none, none, none] ∧ SwI b lf ls dn (sws1 b k Ai q) H' F') g6.fh e6 (eb_test (ev_pos (a := gl) (ev_var rfl))) (fun hpos H7 F7 g7 e7 N7 hN7 => ?_) (fun hpos H7 F7 g7 e7 => ⟨(g6.trans g7).up, e7.mask [true, true, true, true, true, false, false, false], ?_⟩) fun σ7 H7 F7 ⟨g7, e7, w7⟩ => ?_
      · have hpos := of_decide_eq_true hpos
        have w7 := w6.gr g7
        refine st_ifC (fun σ' H' F' => Gr (M3 lf ls dn) H4 F4 H' F' ∧ En F' σ' [some (rBox K b), some (rV (.ref lf)), some (rV (.ref ls)), some (rV (.ref dn)), some (rNat k), some (rS (sgC q)), some (rS (sgA q)), some (rNat gl)] ∧ SwI b lf ls dn (if gl ∈ Ai.1 then Ai.1 else Ai.1 ++ [gl], Ai.2) H' F') g7.fh e7
          (eb_test (EvE.eqB (ev_dninMK (key := .inl (gl : Int)) w7.d (ev_var rfl) (ev_var rfl)) (j := !decide (gl ∈ Ai.1)) (by rw [numK_val]; by_cases h : gl ∈ Ai.1 <;> simp [h]))) (fun hnin H8 F8 g8 e8 N8 hN8 => ?_) (fun hin H8 F8 g8 e8 => ⟨((g6.trans g7).trans g8).up, e8, ?_⟩) fun σ8 H8 F8 ⟨g8, e8, w8⟩ => ?_
        · have hnin : gl ∉ Ai.1 := by simpa using hnin
          have w8 := w7.gr g8
          refine st_dputMK (key := .inl (gl : Int)) (v := .int (Ai.1.length : Nat)) g8.fh e8 w8.d (ev_var rfl) (ev_var rfl) (EvE.eqI (ev_lenML w8.f (ev_var rfl)) (by rw [List.length_map])) (by rw [numK_len]; omega) fun H9 F9 g9 f9 d9 => ?_
          have e9 := e8.mono f9
          have mf9 := w8.f.gr g9 hnf
          have ms9 := w8.s.gr g9 hns
          dsimp only
          refine st_appM g9.fh e9 mf9 (ev_var rfl) (A := rNat gl) (ev_var rfl) (by rw [List.length_map]; omega) fun H10 F10 g10 f10 m10 => hN8 _ H10 F10 ⟨(((g6.trans g7).trans g8).up.trans (gr_at (.inr (.inr rfl)) g9)).trans (gr_at (.inl rfl) g10), e9.mono f10, ?_⟩
          rw [if_neg hnin]
          refine ⟨?_, ms9.gr g10 hne.symm, ?_⟩
          · rw [List.map_append]; exact m10
          · have := d9.gr g10 hnf.symm
            rwa [numK_put hnin] at this
        · have hin : gl ∈ Ai.1 := by simpa using hin
          rw [if_pos hin]
          exact w7.gr g8
        · have hmem : gl ∈ (if gl ∈ Ai.1 then Ai.1 else Ai.1 ++ [gl]) := by
            split
            · assumption
            · simp
          dsimp only
          refine st_appM g8.fh e8 w8.s (ev_var rfl) (A := rStp (k, q, (if gl ∈ Ai.1 then Ai.1 else Ai.1 ++ [gl]).idxOf gl)) (ev_tup (ea_cons (ev_var rfl) (ea_cons (ev_var rfl) (ea_2 (ev_var rfl) (ev_dgetMK (key := .inl (gl : Int)) w8.d (ev_var rfl) (ev_var rfl) (by rw [numK_val, if_pos hmem])))))) (by rw [List.length_map]; exact Nat.lt_of_le_of_lt hs2 (by decide)) fun H9 F9 g9 f9 m9 => hN7 _ H9 F9 ⟨g8.trans (gr_at (.inr (.inl rfl)) g9), (e8.mono f9).mask [true, true, true, true, true, false, false, false], ?_⟩
          have hs1 : sws1 b k Ai q = (if gl ∈ Ai.1 then Ai.1 else Ai.1 ++ [gl], Ai.2 ++ [(k, q, (if gl ∈ Ai.1 then Ai.1 else Ai.1 ++ [gl]).idxOf gl)]) := by
            unfold sws1
            rw [hg, if_pos hpos]
          rw [hs1]
          refine ⟨w8.f.gr g9 hne, ?_, w8.d.gr g9 hns.symm⟩
          rw [List.map_append]
          exact m9
      · have hpos := of_decide_eq_false hpos
        have hs1 : sws1 b k Ai q = Ai := by
          unfold sws1
          rw [hg, if_neg hpos]
        rw [hs1]
        exact w6.gr g7
      · exact hN4 _ H7 F7 g7 ⟨e7, by rw [hsn]; exact w7⟩
    · -- all signs
      rw [List.take_length, ← hnext] at w4
      dsimp only
      refine st_asg g4.fh a4 (ev_add (a := k) (b := 1) (ev_var rfl) ev_c) fun σ5 H5 F5 g5 e5 => hN (1001 - (k + 1)) _ H5 F5 (by omega) ((g3.up.trans g4).trans g5.up) ⟨k + 1, rfl, hk1, e5.mask [true, true, true, true, true, false, false, false], w4.gr g5⟩
  · -- the end
    have hlt := of_decide_eq_false hlt
    have hfin : sws b = swsAt b k := sws_stop hlt hk
    rw [← hfin] at w
    have w3 := w.gr g3
    have gH : G0 H F H3 F3 := ((g1.trans g2).drop g fun x hx => by
      rcases hx with rfl | rfl | rfl
      · exact nlf
      · exact nls
      · exact g1.none ndn).trans g3
    obtain ⟨F4, g4, f4, r1, r2⟩ := w3.f.fz2 w3.s hne gH nlf nls
    dsimp only
    exact st_ret g4.fh (a.mono (g3.ff.trans f4)) (ev_tup (ea_2 (ev_ref rfl r1) (ev_ref rfl r2))) fun v H5 F5 g5 r5 => k0 v H5 F5 (g4.trans g5) r5
end
end K81
set_option Elab.async false
set_option linter.all false
set_option maxRecDepth 100000
set_option maxHeartbeats 2000000
set_option autoImplicit false
/-! K81N: a dict whose keys are tuples within tuples. -/
namespace K81
open PySem PySem.Spec L2
open PyProof.Rows

mutual
/-- the value v is the key k -/
inductive Nk (H : Hp) : NestedKey → V → Prop
  | int (i : Int) : Nk H (.num i) (.int i)
  | str (x : Str) : Nk H (.text x) (.str x)
  | tup {a : Addr} {vs : List V} {ks : List NestedKey} : H a = some (.tup vs) → NkA H ks vs → Nk H (.tup ks) (.ref a)
inductive NkA (H : Hp) : List NestedKey → List V → Prop
  | nil : NkA H [] []
  | cons {k : NestedKey} {v : V} {ks : List NestedKey} {vs : List V} : Nk H k v → NkA H ks vs → NkA H (k :: ks) (v :: vs)
end
mutual
theorem Nk.mono {H H' : Hp} (s : ∀ a vs, H a = some (.tup vs) → H' a = some (.tup vs)) : ∀ {k : NestedKey} {v : V}, Nk H k v → Nk H' k v
  | _, _, .int i => .int i
  | _, _, .str x => .str x
  | _, _, .tup h l => .tup (s _ _ h) (NkA.mono s l)
theorem NkA.mono {H H' : Hp} (s : ∀ a vs, H a = some (.tup vs) → H' a = some (.tup vs)) : ∀ {ks : List NestedKey} {vs : List V}, NkA H ks vs → NkA H' ks vs
  | _, _, .nil => .nil
  | _, _, .cons h t => .cons (Nk.mono s h) (NkA.mono s t)
end
section
variable {X : Cx} {pins : List (Addr × Obj)} {σ : L2.St} {H : Hp} {s : Shared}
mutual
theorem Nk.is (I : Inv X pins σ H s) : ∀ {k : NestedKey} {v : V} {u : Value}, Nk H k v → RelV v u → NestedIs s.heap k u
  | _, _, _, .int i, r => by obtain ⟨t, rfl⟩ := r; exact .int i t
  | _, _, _, .str x, r => by obtain ⟨t, rfl⟩ := r; exact .text x t
  | _, _, _, .tup (a := a) (vs := vs) h l, r => by
    obtain rfl : _ = Value.ref a := r
    obtain ⟨_, its, rv, o, ho, hc, n, hd⟩ := (show ObjOk X.prog X.w H s.heap a (.tup vs) from I.hok a _ h)
    exact .tup ho hc hd (NkA.is I l (by simpa using rv))
theorem NkA.is (I : Inv X pins σ H s) : ∀ {ks : List NestedKey} {vs : List V} {us : List Value}, NkA H ks vs → Vals vs us → NestedAll s.heap ks us
  | _, _, _, .nil, .nil => .nil
  | _, _, _, .cons h t, .cons r l => .cons (Nk.is I h r) (NkA.is I t l)
end
end
abbrev NEnt := NestedKey × Addr × Int
/-- the dict at d -/
def NO (P : Program) (w : World) (d : Addr) (xs : List NEnt) : HO := .ext fun h => (d == sysModules) = false ∧ ∃ (ys : List (NestedKey × Addr × Value)) (o : Obj) (es : Array DictEntry) (ep : Nat), Paired (fun (x : NEnt) (y : NestedKey × Addr × Value) => x.1 = y.1 ∧ x.2.1 = y.2.1 ∧ RelV (.int x.2.2) y.2.2) xs ys ∧
  h.get? d = some o ∧ o.ExactDict ∧ o.data = .dict es ep ∧ es.toList = ys.map (entryOfKey (nestedKind P w)) ∧ (ys.map (·.1)).Nodup
/-- the keys' tuples -/
def NkX (H : Hp) (xs : List NEnt) : Prop := ∀ x ∈ xs, Nk H x.1 (.ref x.2.1) ∧ x.1.depth ≤ 8
def nVal (xs : List NEnt) (k : NestedKey) : Option Int := (xs.find? fun x => decide (x.1 = k)).map (·.2.2)
section
variable {X : Cx} {pins : List (Addr × Obj)} {σ : L2.St} {H : Hp} {s : Shared} {d b : Addr} {xs : List NEnt} {k : NestedKey}
theorem no_of (I : Inv X pins σ H s) (h : H d = some (NO X.prog X.w d xs)) (hk : NkX H xs) : (d == sysModules) = false ∧ ∃ ys, Paired (fun (x : NEnt) (y : NestedKey × Addr × Value) => x.1 = y.1 ∧ x.2.1 = y.2.1 ∧ RelV (.int x.2.2) y.2.2) xs ys ∧ s.heap.DictOfH (nestedKind X.prog X.w) d ys := by
  obtain ⟨⟨hs, ys, o, es, ep, pr, h1, h2, h3, h4, h5⟩, hr⟩ := (show ObjOk X.prog X.w H s.heap d (NO X.prog X.w d xs) from I.hok d _ h)
  refine ⟨hs, ys, pr, o, es, ep, h1, h2, h3, h4, ?_, h5⟩
  clear h h1 h2 h3 h4 h5 hr
  induction pr with
  | nil => intro y hy; cases hy
  | @cons x y xs ys hxy _ ih =>
    intro z hz
    rcases List.mem_cons.mp hz with rfl | hz
    · obtain ⟨k1, k2⟩ := hk x List.mem_cons_self
      rw [hxy.1, hxy.2.1] at k1
      rw [hxy.1] at k2
      exact ⟨k1.is I rfl, k2⟩
    · exact ih (fun x hx => hk x (List.mem_cons_of_mem _ hx)) z hz
theorem atKey_nVal {xs : List NEnt} {ys : List (NestedKey × Addr × Value)} (pr : Paired (fun (x : NEnt) (y : NestedKey × Addr × Value) => x.1 = y.1 ∧ x.2.1 = y.2.1 ∧ RelV (.int x.2.2) y.2.2) xs ys) (k : NestedKey) :
    (∃ i p, nVal xs k = some i ∧ atKey ys k = some p ∧ RelV (.int i) p.2) ∨ (nVal xs k = none ∧ atKey ys k = none) := by
  induction pr with
  | nil => exact .inr ⟨rfl, rfl⟩
  | @cons x y xs ys hxy _ ih =>
    by_cases e : x.1 = k
    · exact .inl ⟨x.2.2, y.2, by simp [nVal, e], by simp [atKey, ← hxy.1, e], hxy.2.2⟩
    · have e2 : ¬ y.1 = k := fun z => e (hxy.1.trans z)
      rcases ih with ih | ih
      · exact .inl (by simpa [nVal, atKey, e, e2] using ih)
      · exact .inr (by simpa [nVal, atKey, e, e2] using ih)
theorem no_empty (h : Heap) (hb : sysModules < h.objs.size) {P : Program} {w : World} {H : Hp} : ObjOk P w H (h.push { cls := .type "dict", data := .dict #[] }) h.objs.size (NO P w h.objs.size []) := by
  have hm : (h.objs.size == sysModules) = false := beq_eq_false_iff_ne.mpr (Nat.ne_of_gt hb)
  exact ⟨⟨hm, [], _, #[], 0, .nil, Heap.get?_push_size _ rfl, ⟨rfl, rfl, rfl⟩, rfl, rfl, List.nodup_nil⟩, ⟨_, Heap.get?_push_size _ rfl⟩, fun h1 h2 ⟨a, ys, o, es, ep, p, q, r⟩ k => ⟨a, ys, o, es, ep, p, k o q, r⟩⟩
end
/-! ### rules -/
def tNNew (P : Program) (w : World) : TE := fun _ H Q => ∀ p, H p = none → Q (.ref p) (upd H p (NO P w p []))
/-- y in the dict, y not in it; what it holds at y -/
def tNNin (P : Program) (w : World) (ty td : TE) : TE := fun σ H Q => ty σ H fun y H1 => td σ H1 fun x H2 => ∃ d b k xs, x = .ref d ∧ y = .ref b ∧ H2 d = some (NO P w d xs) ∧ NkX H2 xs ∧ Nk H2 k (.ref b) ∧ k.depth ≤ 8 ∧ Q (.bl (!(nVal xs k).isSome)) H2
def tNGet (P : Program) (w : World) (td ty : TE) : TE := fun σ H Q => td σ H fun x H1 => ty σ H1 fun y H2 => ∃ d b k xs i, x = .ref d ∧ y = .ref b ∧ H2 d = some (NO P w d xs) ∧ NkX H2 xs ∧ Nk H2 k (.ref b) ∧ k.depth ≤ 8 ∧ nVal xs k = some i ∧ Q (.int i) H2
/-- a new key -/
def sNPut (P : Program) (w : World) (td ty tv : TE) : TS := fun D σ H => tv σ H fun v H1 => td σ H1 fun x H2 => ty σ H2 fun y H3 => ∃ d b k xs i, x = .ref d ∧ y = .ref b ∧ v = .int i ∧ H3 d = some (NO P w d xs) ∧ NkX H3 xs ∧ Nk H3 k (.ref b) ∧ k.depth ≤ 8 ∧ nVal xs k = none ∧ xs.length < sizeLine ∧
  D.nx σ (upd H3 d (NO P w d (xs ++ [(k, b, i)])))
def rNLen (P : Program) (w : World) : List V → Hp → VK → Prop := fun vs H Q => ∃ d xs, vs = [.ref d] ∧ H d = some (NO P w d xs) ∧ NkX H xs ∧ xs.length < sizeLine ∧ Q (.int (xs.length : Nat)) H
section
variable {X : Cx} {o i value : Expr} {pos pos' : Pos} {td ty tv : TE} {P : Program} {w : World}
theorem pe_dnewN (h : X.prog = P := by rfl) (h2 : HEq X.w w := by rfl) : PE X (.Dict [] [] pos) (tNNew P w) := by
  subst h
  cases h2
  exact ⟨fun pins s σ H Q I h => wpAny_Dict_empty ⟨.ref s.heap.objs.size, _, I.laid (a := s.heap.objs.size) (o := NO X.prog X.w s.heap.objs.size []) (t' := s.toks) (fun _ _ q => Heap.get?_push_of_some _ q) (Nat.le_refl _) (no_empty s.heap I.big), rfl, h _ (I.hok.fresh (Nat.le_refl _))⟩⟩
theorem pc_dnotinN (hu : X.A.units + 64 < cLine) (hi : PE X i ty) (ho : PE X o td) (h : X.prog = P := by rfl) (h2 : HEq X.w w := by rfl) : PC X .NotIn i o (tNNin P w ty td) := by
  subst h
  cases h2
  refine ⟨fun pins s σ H Q I h => ?_⟩
  refine thn (hi.run pins s σ H _ I h) fun iv s1 ⟨y, H1, I1, ry, q1⟩ => thn (ho.run pins s1 σ H1 _ I1 q1) fun u s2 ⟨x, H2, I2, rx, d, b, k, xs, ex, ey, hd, hk, hkb, hdp, q2⟩ => ?_
  subst ex ey
  obtain rfl : u = Value.ref d := rx
  obtain rfl : iv = Value.ref b := ry
  obtain ⟨hs, ys, pr, dd⟩ := no_of I2 hd hk
  refine wpAny_notIn_heap (knd := nestedKind X.prog X.w) (show X.A.in1.units + 8 < cLine by have : X.A.in1.units ≤ X.A.units + 1 := Nat.le_refl _; omega) ⟨hkb.is I2 rfl, hdp⟩ hs dd ?_
  have e : (atKey ys k).isSome = (nVal xs k).isSome := by
    rcases atKey_nVal pr k with ⟨i, p, h1, h2, _⟩ | ⟨h1, h2⟩ <;> rw [h1, h2] <;> rfl
  rw [e]
  exact ⟨.bl (!(nVal xs k).isSome), H2, I2.tok _, rfl, q2⟩
theorem pe_ngetN (hu : X.A.units + 64 < cLine) (ho : PE X o td) (hi : PE X i ty) (hs : NoSl i) (h : X.prog = P := by rfl) (h2 : HEq X.w w := by rfl) : PE X (.Subscript o i pos) (tNGet P w td ty) := by
  subst h
  cases h2
  refine ⟨fun pins s σ H Q I h => ?_⟩
  refine subD_of PySem.F.slot_dict_getitem.lookup hs (thn (ho.run pins s σ H _ I h) fun u s1 ⟨x, H1, I1, rx, q1⟩ => thn (hi.run pins s1 σ H1 _ I1 q1) fun iv s2 ⟨y, H2, I2, ry, d, b, k, xs, j, ex, ey, hd, hk, hkb, hdp, hv, q2⟩ => ?_)
  subst ex ey
  obtain rfl : u = Value.ref d := rx
  obtain rfl : iv = Value.ref b := ry
  obtain ⟨hs, ys, pr, dd⟩ := no_of I2 hd hk
  refine ⟨dd.typeIs, ?_⟩
  rcases atKey_nVal pr k with ⟨i, p, h1, h2, h3⟩ | ⟨h1, _⟩
  · rw [hv] at h1
    cases h1
    exact wpAny_getItem_heap (knd := nestedKind X.prog X.w) (show X.A.in1.units + 8 < cLine by have : X.A.in1.units ≤ X.A.units + 1 := Nat.le_refl _; omega) ⟨hkb.is I2 rfl, hdp⟩ dd h2 ⟨.int j, H2, I2.tok _, h3, q2⟩
  · rw [hv] at h1; cases h1
theorem ps_dputN (hu : X.A.units + 64 < cLine) (ho : PE X o td) (hi : PE X i ty) (hv : PE X value tv) (hs : swapsWith value (some (.Subscript o i pos')) pos.line X.env = pure false) (h : X.prog = P := by rfl) (h2 : HEq X.w w := by rfl) :
    PS X (.Assign [.Subscript o i pos'] value pos) (sNPut P w td ty tv) := by
  subst h
  cases h2
  refine ⟨fun pins s σ H D I h => ?_⟩
  refine wpAny_Assign_Subscript (thn (hv.run pins s σ H _ I h) fun r s1 ⟨v, H1, I1, rv, q1⟩ => thn (ho.run pins s1 σ H1 _ I1 q1) fun u s2 ⟨x, H2, I2, rx, q2⟩ => thn (hi.run pins s2 σ H2 _ I2 q2) fun iv s3 ⟨y, H3, I3, ry, d, b, k, xs, j, ex, ey, ev, hd, hk, hkb, hdp, hn, hl, q3⟩ => ?_) hs
  subst ex ey ev
  obtain rfl : u = Value.ref d := rx
  obtain rfl : iv = Value.ref b := ry
  obtain ⟨hsy, ys, pr, dd⟩ := no_of I3 hd hk
  have hlen : xs.length = ys.length := Paired.length pr
  have hnone : atKey ys k = none := by
    rcases atKey_nVal pr k with ⟨i, p, h1, _, _⟩ | ⟨_, h2⟩
    · rw [hn] at h1; cases h1
    · exact h2
  refine wpAny_setItem_heap (hsz := by omega) (knd := nestedKind X.prog X.w) (show X.A.in1.units + 8 < cLine by have : X.A.in1.units ≤ X.A.units + 1 := Nat.le_refl _; omega) ⟨hkb.is I3 rfl, hdp⟩ dd fun h' dd' hs' => ⟨σ, _, ?_, q3⟩
  rw [storedH_new hnone] at dd'
  obtain ⟨q, es, ep, hq, e1, e2, e3, _, e5⟩ := dd'
  refine d_write I3 (by rw [hd]; exact True.intro) hs' ⟨q, hq⟩ ⟨⟨hsy, ys ++ [(k, b, r)], q, es, ep, Paired.snoc pr ⟨rfl, rfl, rv⟩, hq, e1, e2, e3, e5⟩, ⟨q, hq⟩, fun h1 h2 ⟨a, ys, o, es, ep, p, q, r⟩ k => ⟨a, ys, o, es, ep, p, k o q, r⟩⟩
theorem lenN_k (h : X.prog = P := by rfl) (h2 : HEq X.w w := by rfl) : CallR X (.builtin "len") (rNLen P w) := by
  subst h
  cases h2
  intro pins s σ H vs us Q I r h
  obtain ⟨d, xs, rfl, hd, hk, hl, q⟩ := h
  rw [Vals.ref1 r]
  obtain ⟨hsy, ys, pr, dd⟩ := no_of I hd hk
  have hlen : xs.length = ys.length := Paired.length pr
  refine call_len_dictH hsy dd (by rw [← hlen]; rw [sizeLine_eq] at hl; omega) ?_
  rw [← hlen]
  exact ⟨.int (xs.length : Nat), H, I.tok _, ⟨_, rfl⟩, q⟩
end
end K81
set_option Elab.async false
set_option linter.all false
set_option maxRecDepth 100000
set_option maxHeartbeats 2000000
set_option autoImplicit false
/-! K81Q: parted. -/
namespace K81
open PySem PySem.Spec L2
open PyProof.Rows (envOfC)
abbrev Lane := List (Sg × Nat)
abbrev Mark := Nat × Lane
def nkSg (s : Sg) : NestedKey := .tup [.text (sgC s), .text (sgA s)]
def nkOne (p : Sg × Nat) : NestedKey := .tup [nkSg p.1, .num (p.2 : Nat)]
def nkey (m : Mark) : NestedKey := .tup [.num (m.1 : Nat), .tup (m.2.map nkOne)]
theorem nkOne_inj (a b : Sg × Nat) (h : nkOne a = nkOne b) : a = b := by
  obtain ⟨a1, a2⟩ := a
  obtain ⟨b1, b2⟩ := b
  simp [nkOne, nkSg] at h
  rw [sg_inj h.1.1 h.1.2, show a2 = b2 by omega]
theorem nkey_inj (a b : Mark) (h : nkey a = nkey b) : a = b := by
  obtain ⟨a1, a2⟩ := a
  obtain ⟨b1, b2⟩ := b
  simp only [nkey, NestedKey.tup.injEq, List.cons.injEq, NestedKey.num.injEq, and_true] at h
  rw [map_inj nkOne_inj h.2, show a1 = b1 by omega]
theorem nkOnes_depth : ∀ l : Lane, NestedKey.depthAll (l.map nkOne) ≤ 2
  | [] => by simp [NestedKey.depthAll]
  | p :: l => by
    have := nkOnes_depth l
    simp only [List.map_cons, NestedKey.depthAll, nkOne, nkSg, NestedKey.depth]
    omega
theorem nkey_depth (m : Mark) : (nkey m).depth ≤ 8 := by
  have := nkOnes_depth m.2
  simp only [nkey, NestedKey.depth, NestedKey.depthAll]
  omega
def rOne (p : Sg × Nat) : Rep := rTup [rSg p.1, rNat p.2]
def rMark (m : Mark) : Rep := rTup [rNat m.1, rTup (m.2.map rOne)]
def NkR (R : Rep) (k : NestedKey) : Prop := ∀ F v, R.at_ F v → Nk F k v
inductive NkRs : List Rep → List NestedKey → Prop
  | nil : NkRs [] []
  | cons {R : Rep} {k : NestedKey} {Rs : List Rep} {ks : List NestedKey} : NkR R k → NkRs Rs ks → NkRs (R :: Rs) (k :: ks)
theorem NkRs.all {F : Hp} : ∀ {vs : List V} {Rs : List Rep} {ks : List NestedKey}, NkRs Rs ks → LA F vs Rs → NkA F ks vs
  | _, _, _, .nil, .nil => .nil
  | _, _, _, .cons h t, .cons r l => .cons (h _ _ r) (NkRs.all t l)
theorem nkr_tup {Rs : List Rep} {ks : List NestedKey} (h : NkRs Rs ks) : NkR (rTup Rs) (.tup ks) := fun F v ⟨a, vs, e, ha, l⟩ => e ▸ .tup ha (h.all l)
theorem nkr_int {i : Int} : NkR (rI i) (.num i) := fun F v h => by rw [show v = V.int i from h]; exact .int i
theorem nkr_str {x : Str} : NkR (rS x) (.text x) := fun F v h => by rw [show v = V.str x from h]; exact .str x
theorem nkrs_map {α : Type} {R : α → Rep} {k : α → NestedKey} (h : ∀ a, NkR (R a) (k a)) : ∀ l : List α, NkRs (l.map R) (l.map k)
  | [] => .nil
  | a :: l => .cons (h a) (nkrs_map h l)
theorem nkr_one (p : Sg × Nat) : NkR (rOne p) (nkOne p) := nkr_tup (.cons (nkr_tup (.cons nkr_str (.cons nkr_str .nil))) (.cons nkr_int .nil))
theorem nkr_mark (m : Mark) : NkR (rMark m) (nkey m) := nkr_tup (.cons nkr_int (.cons (nkr_tup (nkrs_map nkr_one _)) .nil))
theorem mark_ref {m : Mark} {F : Hp} {v : V} (h : (rMark m).at_ F v) : ∃ b, v = .ref b ∧ Nk F (nkey m) (.ref b) := by
  obtain ⟨a, vs, e, ha, l⟩ := id h
  exact ⟨a, e, e ▸ nkr_mark m F v h⟩
/-- the first place of x -/
def idx {α : Type} [DecidableEq α] (l : List α) (x : α) : Nat := @List.idxOf α instBEqOfDecidableEq x l
theorem idx_app {α : Type} [DecidableEq α] {l m : List α} {x : α} (h : x ∈ l) : idx (l ++ m) x = idx l x := by unfold idx; rw [List.idxOf_append, if_pos h]
theorem idx_cons_ne {α : Type} [DecidableEq α] {l : List α} {x y : α} (h : ¬ y = x) : idx (y :: l) x = idx l x + 1 := by
  unfold idx
  rw [List.idxOf_cons]
  have : (y == x) = false := by simpa using h
  rw [this]
  rfl
theorem idx_cons {α : Type} [DecidableEq α] {l : List α} {x : α} : idx (x :: l) x = 0 := by unfold idx; simp
theorem idx_lt {α : Type} [DecidableEq α] {l : List α} {x : α} (h : x ∈ l) : idx l x < l.length := by unfold idx; exact List.idxOf_lt_length_of_mem h
theorem idx_get {α : Type} [DecidableEq α] {x : α} : ∀ {l : List α}, x ∈ l → l[idx l x]? = some x
  | y :: l, h => by
    by_cases e : y = x
    · subst e; rw [idx_cons]; rfl
    · rw [idx_cons_ne e, List.getElem?_cons_succ]
      exact idx_get (by rcases List.mem_cons.mp h with z | z; exact absurd z.symm e; exact z)
/-! ### plainly -/
def mkMark (kinds : List Nat) (p : Nat × Lane) : Mark := (p.1, p.2.map fun q => (q.1, kinds.getD q.2 0))
def marksOf (lanes : List Lane) (kinds : List Nat) : List Mark := (kinds.zip lanes).map (mkMark kinds)
def parted (lanes : List Lane) (kinds : List Nat) : List Nat := (marksOf lanes kinds).map fun m => idx (ddp (marksOf lanes kinds)) m
/-- one by one -/
def part1 (a : List Mark × List Nat) (m : Mark) : List Mark × List Nat := (ins1 a.1 m, a.2 ++ [idx (ins1 a.1 m) m])
theorem idx_ins1 {α : Type} [DecidableEq α] {l : List α} {x y : α} (h : x ∈ l) : idx (ins1 l y) x = idx l x := by
  unfold ins1
  split
  · rfl
  · exact idx_app h
theorem idx_ddp {α : Type} [DecidableEq α] (l m : List α) {x : α} (h : x ∈ l) : idx (ddp (l ++ m)) x = idx (ddp l) x := by
  induction m using snoc_ind with
  | h0 => rw [List.append_nil]
  | h1 m y ih => rw [← List.append_assoc, ddp_snoc, idx_ins1 ((ddp_mem _).mpr (List.mem_append_left _ h)), ih]
theorem part_fold (l : List Mark) : l.foldl part1 ([], []) = (ddp l, l.map fun m => idx (ddp l) m) := by
  induction l using snoc_ind with
  | h0 => rfl
  | h1 l x ih =>
    rw [List.foldl_append, ih, List.foldl_cons, List.foldl_nil, ddp_snoc, List.map_append]
    unfold part1
    dsimp only
    congr 2
    · refine List.map_congr_left fun m hm => ?_
      exact (by rw [← ddp_snoc]; exact (idx_ddp l [x] hm).symm)
theorem parted_fold (lanes : List Lane) (kinds : List Nat) : ((marksOf lanes kinds).foldl part1 ([], [])).2 = parted lanes kinds := by rw [part_fold]; rfl
/-! ### the dict known -/
section
variable {P : Program} {w : World}
def MN (P : Program) (w : World) (d : Addr) (known : List Mark) (H F : Hp) : Prop := F d = none ∧ ∃ xs : List NEnt, H d = some (NO P w d xs) ∧ (∀ x ∈ xs, Nk F x.1 (.ref x.2.1) ∧ x.1.depth ≤ 8) ∧ xs.map (·.1) = known.map nkey ∧ xs.map (·.2.2) = (List.range known.length).map fun i => ((i : Nat) : Int)
variable {d : Addr} {known : List Mark} {H F H1 F1 : Hp} {M : Addr → Prop}
theorem nk_same {F F' : Hp} (s : Same F F') {k : NestedKey} {v : V} (h : Nk F k v) : Nk F' k v := h.mono fun a vs e => s _ _ e
theorem MN.gr (m : MN P w d known H F) (g : Gr M H F H1 F1) (h : ¬ M d) : MN P w d known H1 F1 :=
  let ⟨n, xs, h1, h2, h3, h4⟩ := m
  ⟨g.out n h1, xs, g.hh h h1, fun x hx => ⟨nk_same g.ff (h2 x hx).1, (h2 x hx).2⟩, h3, h4⟩
theorem MN.live (m : MN P w d known H F) : H d ≠ none := let ⟨_, xs, h1, _⟩ := m; fun z => by rw [z] at h1; cases h1
theorem nVal_at : ∀ {xs : List NEnt} {known : List Mark} {c : Nat}, xs.map (·.1) = known.map nkey → xs.map (·.2.2) = (List.range' c known.length).map (fun i => ((i : Nat) : Int)) → ∀ m : Mark, nVal xs (nkey m) = if m ∈ known then some ((c + idx known m : Nat) : Int) else none
  | [], [], _, _, _, m => rfl
  | [], _ :: _, _, h, _, _ => by cases h
  | _ :: _, [], _, h, _, _ => by cases h
  | x :: xs, n :: known, c, h1, h2, m => by
    rw [List.map_cons, List.map_cons] at h1
    rw [List.map_cons, List.length_cons, List.range'_succ, List.map_cons] at h2
    injection h1 with h1 h1'
    injection h2 with h2 h2'
    by_cases e : n = m
    · subst e
      simp [nVal, h1, h2, idx_cons]
    · have e2 : ¬ x.1 = nkey m := fun z => e (nkey_inj _ _ (h1.symm.trans z))
      have ih := nVal_at h1' h2' m
      have e3 : nVal (x :: xs) (nkey m) = nVal xs (nkey m) := by simp [nVal, e2]
      rw [e3, ih]
      have e4 : ¬ m = n := fun z => e z.symm
      by_cases hm : m ∈ known
      · rw [if_pos hm, if_pos (List.mem_cons_of_mem _ hm), idx_cons_ne e]
        congr 2
        omega
      · rw [if_neg hm, if_neg (by simp [hm, e4])]
theorem nVal_known {xs : List NEnt} (h1 : xs.map (·.1) = known.map nkey) (h2 : xs.map (·.2.2) = (List.range known.length).map fun i => ((i : Nat) : Int)) (m : Mark) : nVal xs (nkey m) = if m ∈ known then some ((idx known m : Nat) : Int) else none := by
  have := nVal_at (c := 0) h1 (by rw [h2, List.range_eq_range']) m
  rwa [Nat.zero_add] at this
variable {Rs : Rs_} {td ty tv : TE} {σ : L2.St} {D : Ends} {mk : Mark}
theorem ev_nin (m : MN P w d known H F) (hy : EvE ty Rs H F (rMark mk)) (hd : EvE td Rs H F (rV (.ref d))) : EvE (tNNin P w ty td) Rs H F (rB (!decide (mk ∈ known))) := by
  intro σ H1 F1 g e Q q
  refine hy σ H1 F1 g e _ fun y H2 F2 g2 ry => hd σ H2 F2 (g.trans g2) (e.mono g2.ff) _ fun x H3 F3 g3 rx => ?_
  have rx : x = V.ref d := rx
  subst rx
  obtain ⟨b, rfl, hb⟩ := mark_ref ry
  obtain ⟨n, xs, h1, h2, h3, h4⟩ := m
  have gg := (g.trans g2).trans g3
  refine ⟨d, b, nkey mk, xs, rfl, rfl, G0.h gg h1, fun x hx => ⟨nk_same (gg.ff.trans gg.fh) (h2 x hx).1, (h2 x hx).2⟩, nk_same (g3.ff.trans g3.fh) hb, nkey_depth _, q _ H3 F3 (g2.trans g3) ?_⟩
  show V.bl _ = V.bl _
  rw [nVal_known h3 h4]
  by_cases h : mk ∈ known <;> simp [h]
theorem ev_nget (m : MN P w d known H F) (hd : EvE td Rs H F (rV (.ref d))) (hy : EvE ty Rs H F (rMark mk)) (hm : mk ∈ known) : EvE (tNGet P w td ty) Rs H F (rNat (idx known mk)) := by
  intro σ H1 F1 g e Q q
  refine hd σ H1 F1 g e _ fun x H2 F2 g2 rx => hy σ H2 F2 (g.trans g2) (e.mono g2.ff) _ fun y H3 F3 g3 ry => ?_
  have rx : x = V.ref d := rx
  subst rx
  obtain ⟨b, rfl, hb⟩ := mark_ref ry
  obtain ⟨n, xs, h1, h2, h3, h4⟩ := m
  have gg := (g.trans g2).trans g3
  exact ⟨d, b, nkey mk, xs, _, rfl, rfl, G0.h gg h1, fun x hx => ⟨nk_same (gg.ff.trans gg.fh) (h2 x hx).1, (h2 x hx).2⟩, nk_same g3.fh hb, nkey_depth _, by rw [nVal_known h3 h4, if_pos hm], q _ H3 F3 (g2.trans g3) rfl⟩
theorem nlen {xs : List NEnt} (h : xs.map (·.1) = known.map nkey) : xs.length = known.length := by
  have := congrArg List.length h
  simpa using this
theorem ev_nlen (m : MN P w d known H F) (hd : EvE td Rs H F (rV (.ref d))) (hl : known.length < sizeLine) : EvE (tCB (rNLen P w) (tCons td tNil)) Rs H F (rNat known.length) :=
  ev_cb (ea_1 hd) fun H1 F1 vs g l Q q => by
    cases l with
    | cons r1 l =>
      cases l
      have r1 : _ = V.ref d := r1
      subst r1
      obtain ⟨n, xs, h1, h2, h3, h4⟩ := m
      refine ⟨d, xs, rfl, g.h h1, fun x hx => ⟨nk_same (g.ff.trans g.fh) (h2 x hx).1, (h2 x hx).2⟩, by rw [nlen h3]; exact hl, q _ _ _ (Gr.refl g.fh) ?_⟩
      show V.int _ = V.int _
      rw [nlen h3]
theorem st_nput (s : Same F H) (e : En F σ Rs) (m : MN P w d known H F) (hd : EvE td Rs H F (rV (.ref d))) (hy : EvE ty Rs H F (rMark mk)) (hv : EvE tv Rs H F (rNat known.length)) (hm : mk ∉ known) (hl : known.length < sizeLine)
    (k : ∀ H' F', Gr (At d) H F H' F' → Same F F' → MN P w d (known ++ [mk]) H' F' → D.nx σ H') : sNPut P w td ty tv D σ H := by
  refine hv σ H F (Gr.refl s) e _ fun z H1 F1 g1 rz => hd σ H1 F1 g1 (e.mono g1.ff) _ fun x H2 F2 g2 rx => hy σ H2 F2 (g1.trans g2) (e.mono (g1.trans g2).ff) _ fun y H3 F3 g3 ry => ?_
  have rx : x = V.ref d := rx
  have rz : z = V.int (known.length : Nat) := rz
  subst rx rz
  obtain ⟨b, rfl, hb⟩ := mark_ref ry
  obtain ⟨n, xs, h1, h2, h3, h4⟩ := m
  have gg := (g1.trans g2).trans g3
  have n3 := gg.out n h1
  refine ⟨d, b, nkey mk, xs, _, rfl, rfl, rfl, G0.h gg h1, fun x hx => ⟨nk_same (gg.ff.trans gg.fh) (h2 x hx).1, (h2 x hx).2⟩, nk_same g3.fh hb, nkey_depth _, by rw [nVal_known h3 h4, if_neg hm], by rw [nlen h3]; exact hl, k _ F3 (gg.up.wr (.inr rfl) n3) gg.ff ⟨n3, _, upd_same, fun x hx => ?_, ?_, ?_⟩⟩
  · rcases List.mem_append.mp hx with hx | hx
    · exact ⟨nk_same gg.ff (h2 x hx).1, (h2 x hx).2⟩
    · rw [List.mem_singleton.mp hx]
      exact ⟨hb, nkey_depth _⟩
  · rw [List.map_append, List.map_append, h3]; rfl
  · rw [List.map_append, h4, List.length_append, List.length_singleton, List.range_succ, List.map_append]; rfl
theorem ev_nnew : EvM (tNNew P w) Rs H F (fun D => MN P w D []) := fun σ H1 F1 g e Q q p hp => q p _ F1 (Gr.newM g.fh hp) hp ⟨g.fh.free hp, [], upd_same, (fun x hx => nomatch hx), rfl, rfl⟩
end
section
variable {P : Program} {w : World} {K : PySem.W.Frag} {mg : Str → Option Value} {base : Heap}
theorem ev_tupOf {Rs : Rs_} {H F : Hp} {ta : TE} {Ts : List Rep} (h : EvE ta Rs H F (rLst Ts)) : EvE (tCB (rTupOf K) (tCons ta tNil)) Rs H F (rTup Ts) :=
  ev_cb (ea_1 h) fun H1 F1 vs g l Q q => by
    cases l with
    | cons r1 l =>
      cases l
      obtain ⟨a, us, rfl, h2, l2⟩ := r1
      refine ⟨a, us, rfl, .inl ⟨SqL.of (g.fh _ _ h2), fun p hp => ?_⟩⟩
      have g2 : G0 H1 F1 (upd H1 p (.tup us)) (upd F1 p (.tup us)) := Gr.new g.fh hp
      exact q _ _ _ g2 ⟨p, us, rfl, upd_same, l2.mono g2.ff⟩
theorem src_zip {Rs : Rs_} {H F : Hp} {ta tb : TE} {α β : Type} {xs : List α} {ys : List β} {RA : α → Rep} {RB : β → Rep} (ha : EvE ta Rs H F (rLst (xs.map RA))) (hb : EvE tb Rs H F (rLst (ys.map RB))) :
    SrcL (iZip K (tCons ta (tCons tb tNil))) Rs H F (xs.zip ys) (fun p => rTup [RA p.1, RB p.2]) := by
  intro σ H1 F1 g e R q
  refine ea_2 ha hb σ H1 F1 g e _ fun us H2 F2 k r => ?_
  cases r with
  | cons r1 r => cases r with
    | cons r2 r =>
      cases r
      obtain ⟨a, vs, rfl, h1, l1⟩ := r1
      obtain ⟨b, ws, rfl, h2, l2⟩ := r2
      refine ⟨a, b, vs, ws, rfl, SqL.of (k.fh _ _ h1), SqL.of (k.fh _ _ h2), q _ H2 F2 k ?_⟩
      have e1 : vs.length = xs.length := by rw [l1.len, List.length_map]
      have e2 : ws.length = ys.length := by rw [l2.len, List.length_map]
      intro H3 F3 s1 s2
      have h3 := SqL.of (K := K) (s2 _ _ (s1 _ _ h1))
      have h4 := SqL.of (K := K) (s2 _ _ (s1 _ _ h2))
      refine ⟨⟨vs, ws, h3, h4, by rw [List.length_zip]; omega⟩, fun i x hx => ?_⟩
      rw [List.getElem?_zip_eq_some] at hx
      obtain ⟨v, hv, hr⟩ := l1.get (i := i) (R := RA x.1) (by rw [List.getElem?_map, hx.1]; rfl)
      obtain ⟨u, hu, hr2⟩ := l2.get (i := i) (R := RB x.2) (by rw [List.getElem?_map, hx.2]; rfl)
      refine ⟨⟨vs, ws, v, u, h3, h4, hv, hu⟩, fun z H4 ⟨T, y1, y2, ez, hT, e4, q1, q2⟩ => ?_⟩
      subst ez e4
      have q1 := q1 vs h3
      have q2 := q2 ws h4
      rw [hv] at q1
      rw [hu] at q2
      cases q1
      cases q2
      have g5 : G0 H3 F3 (upd H3 T (.tup [v, u])) (upd F3 T (.tup [v, u])) := Gr.new s2 hT
      exact ⟨_, g5, T, _, rfl, upd_same, .cons ((RA x.1).mono (s1.trans g5.ff) hr) (.cons ((RB x.2).mono (s1.trans g5.ff) hr2) .nil)⟩
def rLane (l : Lane) : Rep := rLst (l.map rOne)
abbrev spParted : Sp := PSp (fun p : List Lane × List Nat => [rLst (p.1.map rLane), rLst (p.2.map rNat)]) (fun p _ _ => p.1.length ≤ 100000 ∧ (∀ l ∈ p.1, l.length ≤ 100000 ∧ ∀ q ∈ l, q.2 < p.2.length)) (fun p => rLst ((parted p.1 p.2).map rNat))
theorem ok_parted (T : Hd K mg) : Ce P w K mg base 1 "parted" ["lanes", "kinds"] spParted := by
  refine ce_plain T.d_parted T.glo_parted sc_parted (fun _ _ _ _ _ _ us hl => match us, hl with | [_, _], _ => rfl) (fun _ => rfl) (fun cdv A outer s H0 E hr => ⟨_, (pss_cons (ps_par (i := 2) (j := 3) (by rfl) sc_parted.nd rfl rfl (by decide) rfl rfl (pa_cons (pe_dnewN (P := P) (w := w)) (pa_cons (pe_lst pa_nil) pa_nil)) (by rfl))
      (pss_cons (ps_for PassesOwn.never rfl (pi_zip (by rfl) T.free_zip (pa_cons (pv 1) (pa_cons (pv 0) pa_nil))) (tup_k (K := K) (n := 2) rfl (pgs_cons (pg_name (i := 4) sc_parted.nd rfl (Or.inl rfl)) (pgs_cons (pg_name (i := 5) sc_parted.nd rfl (Or.inl rfl)) pgs_nil))) (pss_cons (ps_set (i := 6) sc_parted.nd rfl (Or.inl rfl) (pe_tup (pa_cons (pv 4) (pa_cons (pe_callTy (tof_k (K := K)) (by rfl) T.free_tuple (by decide +kernel) (pa_cons (pe_lc (own := [("sign", 7), ("goal", 8)]) (tt := tYes) rfl sc_parted.nd (pi_list (pv 5)) (blkOk_by (own := [("sign", 7), ("goal", 8)]) (N := ["lanes", "kinds", "known", "found", "kind", "lane", "mark", "sign", "goal"]) (sc := defScope s_parted) (by decide +kernel)) (fun _ _ _ _ _ => (tup_k (K := K) (n := 2) rfl (pgs_cons (pg_name (i := 7) sc_parted.nd rfl (Or.inl rfl)) (pgs_cons (pg_name (i := 8) sc_parted.nd rfl (Or.inl rfl)) pgs_nil)))) (fun _ _ _ _ _ => pts_nil) (fun _ _ _ _ _ => (pe_tup (pa_cons (pv 7) (pa_cons (pe_ix (ixl_k (K := K)) (pv 1) (pv 8) (fun _ _ => rfl)) pa_nil))))) pa_nil)) pa_nil))))
      (pss_cons (ps_if (pt_cmp (pc_dnotinN (P := P) (w := w) (hu64 hr) (pv 6) (pv 2))) (pss_one (ps_dputN (P := P) (w := w) (hu64 hr) (pv 2) (pv 6) (pe_callB (lenN_k (P := P) (w := w)) (by rfl) T.free_len (by decide +kernel) (pa_cons (pv 2) pa_nil)) rfl)) pss_nil)
      (pss_one (ps_expr (bm_k (K := K) PySem.F.plainAttrs_list PySem.F.slot_list_append PySem.F.type_list_append mt_append (pv 3) (pa_cons (pe_ngetN (P := P) (w := w) (hu64 hr) (pv 2) (pv 6) (fun _ _ => rfl)) pa_nil)))))))
      (pss_one (ps_ret (pv 3))))), ?_⟩)
  intro ⟨lanes, kinds⟩ F H σ Q s hd e k0
  obtain ⟨hl, hq⟩ : lanes.length ≤ 100000 ∧ (∀ l ∈ lanes, l.length ≤ 100000 ∧ ∀ q ∈ l, q.2 < kinds.length) := hd
  have big : 1000000 < sizeLine := by decide
  refine st_parMM s e (ev_nnew (P := P) (w := w)) (ev_lstM ea_nil) (fun _ _ _ _ _ m g => m.gr g fun z => z) (fun _ _ _ m => m.live) fun dn lf σ1 H1 F1 g1 ndn nlf hne md mf e1 => ?_
  dsimp only
  refine st_for (M3 dn lf lf) g1.fh e1 (src_zip (xs := kinds) (ys := lanes) (RA := rNat) (RB := rLane) (ev_var rfl) (ev_var rfl)) (fun i σ' H' F' => En F' σ' [some (rLst (lanes.map rLane)), some (rLst (kinds.map rNat)), some (rV (.ref dn)), some (rV (.ref lf)), none, none, none, none, none] ∧
      MN P w dn ((((kinds.zip lanes).take i).map (mkMark kinds)).foldl part1 ([], [])).1 H' F' ∧ ML lf (((((kinds.zip lanes).take i).map (mkMark kinds)).foldl part1 ([], [])).2.map rNat) H' F')
    (fun H2 F2 g2 => ⟨e1.mono g2.ff, md.gr g2 fun z => z, mf.grow g2⟩) (fun i σ' H' F' H1 F1 ⟨a, m, l⟩ g => ⟨a.mono g.ff, m.gr g fun z => z, l.grow g⟩) (fun i x v σ2 H2 F2 hx g2 ⟨a2, m2, l2⟩ r N hN => ?_) fun σ2 H2 F2 g2 ⟨a2, m2, l2⟩ => ?_
  · obtain ⟨kd, ln⟩ := x
    have hmem : (kd, ln) ∈ kinds.zip lanes := List.mem_of_getElem? hx
    have hln := hq ln (List.of_mem_zip hmem).2
    have hi : i ≤ 100000 := by
      have h1 := (List.getElem?_eq_some_iff.mp hx).1
      rw [List.length_zip] at h1
      omega
    have hsn : ((((kinds.zip lanes).take (i + 1)).map (mkMark kinds)).foldl part1 ([], [])) = part1 ((((kinds.zip lanes).take i).map (mkMark kinds)).foldl part1 ([], [])) (mkMark kinds (kd, ln)) := by
      rw [take_snoc hx, List.map_append, List.foldl_append]; rfl
    have hlen : ∀ l : List Mark, ((l.foldl part1 ([], [])).1.length ≤ l.length ∧ (l.foldl part1 ([], [])).2.length = l.length) := fun l => by
      rw [part_fold]
      exact ⟨ddp_len l, List.length_map ..⟩
    have hA := hlen (((kinds.zip lanes).take i).map (mkMark kinds))
    rw [List.length_map, List.length_take] at hA
    generalize hB : (((kinds.zip lanes).take i).map (mkMark kinds)).foldl part1 ([], []) = B at *
    refine g_2 (R1 := rNat kd) (R2 := rLane ln) g2.fh a2 r fun σ3 e3 _ => ?_
    refine st_asg g2.fh e3 (R := rMark (mkMark kinds (kd, ln))) (ev_tup (ea_2 (ev_var rfl) (ev_tupOf (Ts := (mkMark kinds (kd, ln)).2.map rOne) (ev_lc0 (xs := ln) (RA := rOne) (f := fun q => (q.1, kinds.getD q.2 0)) (src_list (ev_var rfl)) (Nat.lt_of_le_of_lt hln.1 (by decide)) rfl (fun q _ => tgt_2 (R1 := rSg q.1) (R2 := rNat q.2)) fun q hqm => ev_tup (ea_2 (ev_var rfl) (ev_ixL (j := q.2) (R := rNat (kinds.getD q.2 0)) (ev_var rfl) (ev_var rfl) (map_at 0 (hln.2 q hqm)))))))) fun σ4 H4 F4 g4 e4 => ?_
    have m4 := m2.gr g4 fun z => z
    have l4 := l2.grow g4
    generalize mkMark kinds (kd, ln) = mk at *
    dsimp only
    refine st_ifC (fun σ' H' F' => Gr (M3 dn lf lf) H2 F2 H' F' ∧ En F' σ' [some (rLst (lanes.map rLane)), some (rLst (kinds.map rNat)), some (rV (.ref dn)), some (rV (.ref lf)), none, none, some (rMark mk), none, none] ∧ MN P w dn (ins1 B.1 mk) H' F' ∧ ML lf (B.2.map rNat) H' F') g4.fh e4
      (eb_B (ev_nin m4 (ev_var rfl) (ev_var rfl))) (fun hnin H5 F5 g5 e5 N5 hN5 => ?_) (fun hin H5 F5 g5 e5 => ?_) fun σ5 H5 F5 ⟨g5, e5, m5, l5⟩ => ?_
    · have hnin : mk ∉ B.1 := by simpa using hnin
      have m5 := m4.gr g5 fun z => z
      have l5 := l4.grow g5
      refine st_nput g5.fh e5 m5 (ev_var rfl) (ev_var rfl) (ev_nlen m5 (ev_var rfl) (by omega)) hnin (by omega) fun H6 F6 g6 f6 m6 => hN5 _ H6 F6 ⟨(g4.trans g5).up.trans (gr_at (.inl rfl) g6), (e5.mono f6).mask [true, true, true, true, false, false, true, false, false], ?_, l5.gr g6 hne.symm⟩
      unfold ins1
      rw [if_neg hnin]
      exact m6
    · have hin : mk ∈ B.1 := by simpa using hin
      refine ⟨(g4.trans g5).up, e5.mask [true, true, true, true, false, false, true, false, false], ?_, l4.grow g5⟩
      unfold ins1
      rw [if_pos hin]
      exact m4.gr g5 fun z => z
    · have hmk : mk ∈ ins1 B.1 mk := ins1_mem.mpr (.inr rfl)
      dsimp only
      refine st_appM g5.fh e5 l5 (ev_var rfl) (A := rNat (idx (ins1 B.1 mk) mk)) (ev_nget m5 (ev_var rfl) (ev_var rfl) hmk) (by rw [List.length_map]; omega) fun H6 F6 g6 f6 l6 => hN _ H6 F6 (g5.trans (gr_at (.inr (.inl rfl)) g6)) ⟨(e5.mono f6).mask [true, true, true, true, false, false, false, false, false], ?_, ?_⟩
      · rw [hsn]
        exact m5.gr g6 hne
      · rw [hsn]
        show ML lf ((B.2 ++ [idx (ins1 B.1 mk) mk]).map rNat) H6 F6
        rw [List.map_append]
        exact l6
  · rw [List.take_length] at l2
    have gH : G0 H F H2 F2 := g1.drop g2 fun x hx => by
      rcases hx with rfl | rfl | rfl
      · exact ndn
      · exact nlf
      · exact nlf
    obtain ⟨F3, g3, f3, r3⟩ := l2.fz gH nlf
    have e0 : (((kinds.zip lanes).map (mkMark kinds)).foldl part1 ([], [])).2 = parted lanes kinds := parted_fold lanes kinds
    rw [e0] at r3
    dsimp only
    exact st_ret g3.fh (a2.mono f3) (ev_ref rfl r3) fun v H4 F4 g4 r4 => k0 v H4 F4 (g3.trans g4) r4
theorem x_parted {Rs : Rs_} {H F : Hp} {ta tb : TE} {E : XK} {lanes : List Lane} {kinds : List Nat} (ha : EvE ta Rs H F (rLst (lanes.map rLane))) (hb : EvE tb Rs H F (rLst (kinds.map rNat))) (h1 : lanes.length ≤ 100000) (h2 : ∀ l ∈ lanes, l.length ≤ 100000 ∧ ∀ q ∈ l, q.2 < kinds.length) :
    EvE (tCall spParted [] E (tCons ta (tCons tb tNil))) Rs H F (rLst ((parted lanes kinds).map rNat)) := ev_call (res := fun p : List Lane × List Nat => rLst ((parted p.1 p.2).map rNat)) (lanes, kinds) (ea_2 ha hb) rfl fun _ _ _ => ⟨h1, h2⟩
end
end K81
set_option Elab.async false
set_option linter.all false
set_option maxRecDepth 100000
set_option maxHeartbeats 2000000
set_option autoImplicit false
/-! K81F: classes refined until they stay, plainly. -/
namespace K81

/-! ### numbering by the first place -/
section
variable {α β : Type} [DecidableEq α] [DecidableEq β]
def canon (l : List α) : List Nat := l.map fun x => idx (ddp l) x
theorem canon_len (l : List α) : (canon l).length = l.length := List.length_map ..
theorem idx_inj {l : List α} {x y : α} (hx : x ∈ l) (hy : y ∈ l) (h : idx l x = idx l y) : x = y := by
  have h1 := idx_get hx
  have h2 := idx_get hy
  rw [h] at h1
  rw [h1] at h2
  exact Option.some.inj h2
theorem canon_get {l : List α} {i : Nat} {x : α} (h : l[i]? = some x) : (canon l)[i]? = some (idx (ddp l) x) := by
  unfold canon
  rw [List.getElem?_map, h]; rfl
/-- equal numbers: equal elements -/
theorem canon_eq {l : List α} {i j : Nat} {x y : α} (hx : l[i]? = some x) (hy : l[j]? = some y) : (canon l)[i]? = (canon l)[j]? ↔ x = y := by
  rw [canon_get hx, canon_get hy]
  constructor
  · intro h
    exact idx_inj ((ddp_mem l).mpr (List.mem_of_getElem? hx)) ((ddp_mem l).mpr (List.mem_of_getElem? hy)) (Option.some.inj h)
  · rintro rfl; rfl
/-- the same pattern of equality, the same numbers -/
def SamePat (l : List α) (m : List β) : Prop := l.length = m.length ∧ ∀ (i j : Nat) (x y : α) (u v : β), l[i]? = some x → l[j]? = some y → m[i]? = some u → m[j]? = some v → (x = y ↔ u = v)
theorem canon_snoc (l : List α) (x : α) : canon (l ++ [x]) = canon l ++ [idx (ins1 (ddp l) x) x] := by
  unfold canon
  rw [List.map_append, List.map_singleton, ddp_snoc]
  congr 1
  refine List.map_congr_left fun y hy => ?_
  rw [idx_ins1 ((ddp_mem l).mpr hy)]
theorem samePat_len {l : List α} {m : List β} (h : SamePat l m) : (ddp l).length = (ddp m).length ∧ canon l = canon m := by
  induction l using snoc_ind generalizing m with
  | h0 =>
    have : m = [] := List.eq_nil_of_length_eq_zero h.1.symm
    subst this
    exact ⟨rfl, rfl⟩
  | h1 l x ih =>
    have hne : m ≠ [] := fun z => by have := h.1; rw [z] at this; simp at this
    obtain ⟨m', u, rfl⟩ : ∃ m' u, m = m' ++ [u] := ⟨_, _, (List.dropLast_concat_getLast hne).symm⟩
    have hl : l.length = m'.length := by have := h.1; simpa using this
    have hp : SamePat l m' := ⟨hl, fun i j a b c d h1 h2 h3 h4 => h.2 i j a b c d
      (by rw [List.getElem?_append_left (List.getElem?_eq_some_iff.mp h1).1]; exact h1) (by rw [List.getElem?_append_left (List.getElem?_eq_some_iff.mp h2).1]; exact h2)
      (by rw [List.getElem?_append_left (List.getElem?_eq_some_iff.mp h3).1]; exact h3) (by rw [List.getElem?_append_left (List.getElem?_eq_some_iff.mp h4).1]; exact h4)⟩
    obtain ⟨i1, i2⟩ := ih hp
    have hlast : ∀ i a c, l[i]? = some a → m'[i]? = some c → (a = x ↔ c = u) := fun i a c h1 h3 => h.2 i l.length a x c u
      (by rw [List.getElem?_append_left (List.getElem?_eq_some_iff.mp h1).1]; exact h1) (by simp)
      (by rw [List.getElem?_append_left (List.getElem?_eq_some_iff.mp h3).1]; exact h3) (by rw [hl]; simp)
    have hmem : x ∈ l ↔ u ∈ m' := by
      constructor
      · intro hx
        obtain ⟨i, hi, e⟩ := List.getElem_of_mem hx
        have h1 : l[i]? = some x := by rw [List.getElem?_eq_getElem hi, e]
        have h3 : m'[i]? = some m'[i] := List.getElem?_eq_getElem (by omega)
        rw [← (hlast i x _ h1 h3).mp rfl]
        exact List.getElem_mem _
      · intro hu
        obtain ⟨i, hi, e⟩ := List.getElem_of_mem hu
        have h3 : m'[i]? = some u := by rw [List.getElem?_eq_getElem hi, e]
        have h1 : l[i]? = some l[i] := List.getElem?_eq_getElem (by omega)
        rw [← (hlast i _ u h1 h3).mpr rfl]
        exact List.getElem_mem _
    rw [canon_snoc, canon_snoc, i2, ddp_snoc, ddp_snoc]
    by_cases hx : x ∈ l
    · have hu := hmem.mp hx
      have e1 : ins1 (ddp l) x = ddp l := if_pos ((ddp_mem l).mpr hx)
      have e2 : ins1 (ddp m') u = ddp m' := if_pos ((ddp_mem m').mpr hu)
      rw [e1, e2]
      refine ⟨i1, ?_⟩
      obtain ⟨i, hi, e⟩ := List.getElem_of_mem hx
      have h1 : l[i]? = some x := by rw [List.getElem?_eq_getElem hi, e]
      have h3 : m'[i]? = some m'[i] := List.getElem?_eq_getElem (by omega)
      have h4 := (hlast i x _ h1 h3).mp rfl
      rw [h4] at h3
      have q1 := canon_get h1
      have q2 := canon_get h3
      rw [i2, q2] at q1
      rw [Option.some.inj q1]
    · have hu := fun z => hx (hmem.mpr z)
      have e1 : ins1 (ddp l) x = ddp l ++ [x] := if_neg fun z => hx ((ddp_mem l).mp z)
      have e2 : ins1 (ddp m') u = ddp m' ++ [u] := if_neg fun z => hu ((ddp_mem m').mp z)
      rw [e1, e2]
      have ix : ∀ {γ : Type} [DecidableEq γ] (d : List γ) (z : γ), z ∉ d → idx (d ++ [z]) z = d.length := by
        intro γ _ d z
        induction d with
        | nil => intro _; exact idx_cons
        | cons y d ih =>
          intro h
          rw [List.mem_cons, not_or] at h
          rw [List.cons_append, idx_cons_ne fun e => h.1 e.symm, ih h.2]
          rfl
      rw [ix _ _ fun z => hx ((ddp_mem l).mp z), ix _ _ fun z => hu ((ddp_mem m').mp z), i1]
      exact ⟨by rw [List.length_append, List.length_append, i1]; rfl, rfl⟩
theorem canon_pat (l : List α) : SamePat l (canon l) := ⟨(canon_len l).symm, fun i j x y u v h1 h2 h3 h4 => by
  have := canon_eq h1 h2
  rw [h3, h4] at this
  exact ⟨fun h => Option.some.inj (this.mpr h), fun h => this.mp (by rw [h])⟩⟩
theorem canon_canon (l : List α) : canon (canon l) = canon l := (samePat_len (canon_pat l)).2.symm
theorem canon_cnt (l : List α) : (ddp (canon l)).length = (ddp l).length := (samePat_len (canon_pat l)).1.symm
/-- l refines m: equal in l, equal in m -/
def Refines (l : List α) (m : List β) : Prop := l.length = m.length ∧ ∀ (i j : Nat) (x : α) (u v : β), l[i]? = some x → l[j]? = some x → m[i]? = some u → m[j]? = some v → u = v
theorem cover_le (r : α → β → Prop) (hr : ∀ x u u', r x u → r x u' → u = u') : ∀ (d2 : List β) (d1 : List α), d2.Nodup → (∀ u ∈ d2, ∃ x ∈ d1, r x u) → d2.length ≤ d1.length
  | [], _, _, _ => Nat.zero_le _
  | u :: d2, d1, hn, hc => by
    rw [List.nodup_cons] at hn
    obtain ⟨x, hx, rx⟩ := hc u List.mem_cons_self
    have := cover_le r hr d2 (d1.erase x) hn.2 fun u' hu' => by
      obtain ⟨x', hx', rx'⟩ := hc u' (List.mem_cons_of_mem _ hu')
      have ne : x' ≠ x := fun e => hn.1 (by rw [hr x u u' rx (e ▸ rx')]; exact hu')
      exact ⟨x', (List.mem_erase_of_ne ne).mpr hx', rx'⟩
    rw [List.length_erase_of_mem hx] at this
    have : 0 < d1.length := List.length_pos_of_mem hx
    simp only [List.length_cons]
    omega
theorem refines_cnt {l : List α} {m : List β} (h : Refines l m) : (ddp m).length ≤ (ddp l).length ∧ ((ddp m).length = (ddp l).length → SamePat l m) := by
  let r : α → β → Prop := fun x u => ∃ i : Nat, l[i]? = some x ∧ m[i]? = some u
  have hr : ∀ x u u', r x u → r x u' → u = u' := fun x u u' ⟨i, a, b⟩ ⟨j, a', b'⟩ => h.2 i j x u u' a a' b b'
  have hc : ∀ u ∈ ddp m, ∃ x ∈ ddp l, r x u := fun u hu => by
    obtain ⟨i, hi, e⟩ := List.getElem_of_mem ((ddp_mem m).mp hu)
    have hil : i < l.length := by rw [h.1]; exact hi
    exact ⟨l[i], (ddp_mem l).mpr (List.getElem_mem hil), i, List.getElem?_eq_getElem hil, by rw [List.getElem?_eq_getElem hi, e]⟩
  refine ⟨cover_le r hr _ _ (ddp_nodup m) hc, fun he => ⟨h.1, fun i j x y u v h1 h2 h3 h4 => ⟨fun e => h.2 i j x u v h1 (e ▸ h2) h3 h4, fun e => ?_⟩⟩⟩
  subst e
  refine Classical.byContradiction fun ne => ?_
  have hx := (ddp_mem l).mpr (List.mem_of_getElem? h1)
  have := cover_le r hr (ddp m) ((ddp l).erase x) (ddp_nodup m) fun u' hu' => by
    obtain ⟨z, hz, rz⟩ := hc u' hu'
    by_cases e : z = x
    · subst e
      have := hr z u u' ⟨i, h1, h3⟩ rz
      subst this
      exact ⟨y, (List.mem_erase_of_ne (fun e => ne e.symm)).mpr ((ddp_mem l).mpr (List.mem_of_getElem? h2)), j, h2, h4⟩
    · exact ⟨z, (List.mem_erase_of_ne e).mpr hz, rz⟩
  rw [List.length_erase_of_mem hx] at this
  have : 0 < (ddp l).length := List.length_pos_of_mem hx
  omega
/-- finer, of equal count: the same numbers -/
theorem refines_eq {l : List α} {m : List β} (h : Refines l m) (he : (ddp m).length = (ddp l).length) : canon l = canon m := (samePat_len ((refines_cnt h).2 he)).2
end
end K81
set_option Elab.async false
set_option linter.all false
set_option maxRecDepth 100000
set_option maxHeartbeats 2000000
set_option autoImplicit false
/-! K81F2: the form of a box, plainly. -/
namespace K81
section
variable {α : Type} [DecidableEq α]
theorem idx_at {x : α} : ∀ {l : List α} {i : Nat}, l.Nodup → l[i]? = some x → idx l x = i
  | [], _, _, h => by cases h
  | y :: l, 0, _, h => by
    rw [List.getElem?_cons_zero] at h
    cases h
    exact idx_cons
  | y :: l, i + 1, hn, h => by
    rw [List.getElem?_cons_succ] at h
    rw [List.nodup_cons] at hn
    have hne : ¬ y = x := fun e => hn.1 (by rw [e]; exact List.mem_of_getElem? h)
    rw [idx_cons_ne hne, idx_at hn.2 h]
theorem canon_lt {l : List α} {i : Nat} (h : i ∈ canon l) : i < (ddp l).length := by
  obtain ⟨x, hx, rfl⟩ := List.mem_map.mp h
  exact idx_lt ((ddp_mem l).mpr hx)
theorem canon_all {l : List α} {i : Nat} (h : i < (ddp l).length) : i ∈ canon l :=
  List.mem_map.mpr ⟨(ddp l)[i], (ddp_mem l).mp (List.getElem_mem h), idx_at (ddp_nodup l) (List.getElem?_eq_getElem h)⟩
end
/-! ### rounds -/
def laneOf (steps : List Stp) (s : Nat) : Lane := (steps.filter fun m => decide (m.1 = s)).map (·.2)
def lanesOf (n : Nat) (steps : List Stp) : List Lane := (List.range n).map (laneOf steps)
theorem lanesOf_len (n : Nat) (steps : List Stp) : (lanesOf n steps).length = n := by unfold lanesOf; rw [List.length_map, List.length_range]
theorem laneOf_snoc (l : List Stp) (m : Stp) (s : Nat) : laneOf (l ++ [m]) s = laneOf l s ++ (if m.1 = s then [m.2] else []) := by
  unfold laneOf
  rw [List.filter_append, List.map_append]
  by_cases h : m.1 = s <;> simp [h]
theorem lanesOf_snoc (n : Nat) (l : List Stp) (m : Stp) : lanesOf n (l ++ [m]) = (lanesOf n l).set m.1 ((lanesOf n l).getD m.1 [] ++ [m.2]) := by
  unfold lanesOf
  refine List.ext_getElem (by simp) fun i h1 h2 => ?_
  have hi : i < n := by simpa using h1
  rw [List.getElem_set]
  split
  · rename_i e
    subst e
    rw [List.getElem_map, List.getElem_range, laneOf_snoc, if_pos rfl, List.getD_eq_getElem?_getD, List.getElem?_eq_getElem (by simpa using hi), List.getElem_map, List.getElem_range]
    rfl
  · rename_i e
    rw [List.getElem_map, List.getElem_range, laneOf_snoc, if_neg e, List.append_nil, List.getElem_map, List.getElem_range]
def kAt (lanes : List Lane) (n : Nat) : Nat → List Nat
  | 0 => List.replicate n 0
  | i + 1 => parted lanes (kAt lanes n i)
theorem parted_canon (lanes : List Lane) (kinds : List Nat) : parted lanes kinds = canon (marksOf lanes kinds) := rfl
theorem marks_len (lanes : List Lane) (kinds : List Nat) : (marksOf lanes kinds).length = min kinds.length lanes.length := by unfold marksOf; rw [List.length_map, List.length_zip]
variable {lanes : List Lane} {n : Nat}
theorem kAt_len (h : lanes.length = n) : ∀ i, (kAt lanes n i).length = n
  | 0 => List.length_replicate
  | i + 1 => by
    show (parted lanes (kAt lanes n i)).length = n
    rw [parted_canon, canon_len, marks_len, kAt_len h i, h, Nat.min_self]
theorem canon_rep : ∀ n, canon (List.replicate n (0 : Nat)) = List.replicate n 0 := by
  intro n
  have : ∀ x ∈ canon (List.replicate n (0 : Nat)), x = 0 := fun x hx => by
    obtain ⟨y, hy, rfl⟩ := List.mem_map.mp hx
    have h0 : ∀ z ∈ ddp (List.replicate n (0 : Nat)), z = 0 := fun z hz => List.eq_of_mem_replicate ((ddp_mem _).mp hz)
    have hy0 := List.eq_of_mem_replicate hy
    subst hy0
    have hm := (ddp_mem _).mpr hy
    cases hd : ddp (List.replicate n (0 : Nat)) with
    | nil => rw [hd] at hm; cases hm
    | cons a l =>
      have := h0 a (by rw [hd]; exact List.mem_cons_self)
      subst this
      exact idx_cons
  have := List.eq_replicate_of_mem this
  rw [canon_len, List.length_replicate] at this
  exact this
theorem kAt_canon : ∀ i, canon (kAt lanes n i) = kAt lanes n i
  | 0 => canon_rep n
  | i + 1 => canon_canon _
theorem marks_ref {kinds : List Nat} (h : lanes.length = kinds.length) : Refines (marksOf lanes kinds) kinds := by
  refine ⟨by rw [marks_len, h, Nat.min_self], fun i j x u v h1 h2 h3 h4 => ?_⟩
  have key : ∀ {i : Nat} {x : Mark} {u : Nat}, (marksOf lanes kinds)[i]? = some x → kinds[i]? = some u → x.1 = u := by
    intro i x u h1 h3
    unfold marksOf at h1
    rw [List.getElem?_map] at h1
    cases hz : (kinds.zip lanes)[i]? with
    | none => rw [hz] at h1; cases h1
    | some p =>
      rw [hz] at h1
      cases h1
      rw [(List.getElem?_zip_eq_some.mp hz).1] at h3
      exact Option.some.inj h3
  rw [← key h1 h3, ← key h2 h4]
theorem kAt_step (h : lanes.length = n) {i : Nat} (hne : kAt lanes n (i + 1) ≠ kAt lanes n i) : (ddp (kAt lanes n i)).length < (ddp (kAt lanes n (i + 1))).length := by
  have r := marks_ref (lanes := lanes) (kinds := kAt lanes n i) (by rw [kAt_len h, h])
  have h1 := (refines_cnt r).1
  have e : (ddp (kAt lanes n (i + 1))).length = (ddp (marksOf lanes (kAt lanes n i))).length := canon_cnt _
  refine Nat.lt_of_le_of_ne (by omega) fun he => hne ?_
  have := refines_eq r (by omega)
  rw [kAt_canon] at this
  exact this
theorem kAt_stay {i : Nat} (h : kAt lanes n (i + 1) = kAt lanes n i) : ∀ {j : Nat}, i ≤ j → kAt lanes n j = kAt lanes n i
  | 0, hj => by rw [Nat.le_zero.mp hj]
  | j + 1, hj => by
    rcases Nat.eq_or_lt_of_le hj with e | e
    · rw [e]
    · have ih := kAt_stay h (Nat.le_of_lt_succ e)
      show parted lanes (kAt lanes n j) = _
      rw [ih]
      exact h
theorem cnt_le (h : lanes.length = n) (i : Nat) : (ddp (kAt lanes n i)).length ≤ n := Nat.le_trans (ddp_len _) (Nat.le_of_eq (kAt_len h i))
theorem cnt_pos (h : lanes.length = n) (hn : 0 < n) (i : Nat) : 0 < (ddp (kAt lanes n i)).length := by
  cases hk : kAt lanes n i with
  | nil =>
    have := kAt_len h i
    rw [hk] at this
    simp at this
    omega
  | cons a l => exact List.length_pos_of_mem ((ddp_mem _).mpr List.mem_cons_self)
/-- before the round that stays, one class more with each round -/
theorem cnt_grow (h : lanes.length = n) (hn : 0 < n) : ∀ i, (∀ j < i, kAt lanes n (j + 1) ≠ kAt lanes n j) → i < (ddp (kAt lanes n i)).length
  | 0, _ => cnt_pos h hn 0
  | i + 1, hj => by
    have h1 := cnt_grow h hn i fun j hlt => hj j (Nat.lt_succ_of_lt hlt)
    have h2 := kAt_step h (hj i (Nat.lt_succ_self i))
    omega
/-- in the end -/
def kFin (lanes : List Lane) : List Nat := kAt lanes lanes.length lanes.length
theorem kFin_fix (hn : 0 < lanes.length) : parted lanes (kFin lanes) = kFin lanes := by
  refine Classical.byContradiction fun hne => ?_
  have h1 := cnt_grow (lanes := lanes) (n := lanes.length) rfl hn lanes.length fun j hj he => hne ?_
  · have := cnt_le (lanes := lanes) rfl lanes.length
    omega
  · have e1 := kAt_stay he (j := lanes.length) (Nat.le_of_lt hj)
    have e2 := kAt_stay he (j := lanes.length + 1) (by omega)
    show kAt lanes lanes.length (lanes.length + 1) = _
    rw [e2, ← e1]
    rfl
theorem kFin_at {i : Nat} (h : kAt lanes lanes.length (i + 1) = kAt lanes lanes.length i) (hi : i ≤ lanes.length) : kFin lanes = kAt lanes lanes.length i := kAt_stay h hi
theorem kFin_len : (kFin lanes).length = lanes.length := kAt_len rfl _
theorem kFin_canon : canon (kFin lanes) = kFin lanes := kAt_canon _
theorem kFin_lt {x : Nat} (h : x ∈ kFin lanes) : x < (ddp (kFin lanes)).length := by
  rw [← kFin_canon] at h
  exact canon_lt h
theorem kFin_all {x : Nat} (h : x < (ddp (kFin lanes)).length) : x ∈ kFin lanes := by
  rw [← kFin_canon]
  exact canon_all h
theorem kFin_cnt (hn : 0 < lanes.length) : 0 < (ddp (kFin lanes)).length ∧ (ddp (kFin lanes)).length ≤ lanes.length := ⟨cnt_pos rfl hn _, cnt_le rfl _⟩
/-! ### the states and steps gone through -/
section
variable {b : Bx}
theorem sws1_in {k : Nat} {a : List Nat × List Stp} {s : Sg} (hk : k < a.1.length) (h : ∀ m ∈ a.2, m.1 < a.1.length ∧ m.2.2 < a.1.length) : ∀ m ∈ (sws1 b k a s).2, m.1 < (sws1 b k a s).1.length ∧ m.2.2 < (sws1 b k a s).1.length := by
  intro m hm
  have hp := (sws1_pre (b := b) k a s).length_le
  unfold sws1 at hm ⊢
  split at hm
  · rename_i hc
    rw [if_pos hc] at *
    have hmem : b.behind (a.1.getD k 0) s ∈ (if b.behind (a.1.getD k 0) s ∈ a.1 then a.1 else a.1 ++ [b.behind (a.1.getD k 0) s]) := by
      split
      · assumption
      · simp
    have hp : a.1.length ≤ (if b.behind (a.1.getD k 0) s ∈ a.1 then a.1 else a.1 ++ [b.behind (a.1.getD k 0) s]).length := by
      split
      · exact Nat.le_refl _
      · simp
    rcases List.mem_append.mp hm with hm | hm
    · exact ⟨Nat.lt_of_lt_of_le (h m hm).1 hp, Nat.lt_of_lt_of_le (h m hm).2 hp⟩
    · rw [List.mem_singleton.mp hm]
      exact ⟨Nat.lt_of_lt_of_le hk hp, List.idxOf_lt_length_of_mem hmem⟩
  · rename_i hc
    rw [if_neg hc] at *
    exact h m hm
theorem swsF_in {k : Nat} : ∀ (l : List Sg) {a : List Nat × List Stp}, k < a.1.length → (∀ m ∈ a.2, m.1 < a.1.length ∧ m.2.2 < a.1.length) → ∀ m ∈ (l.foldl (sws1 b k) a).2, m.1 < (l.foldl (sws1 b k) a).1.length ∧ m.2.2 < (l.foldl (sws1 b k) a).1.length
  | [], _, _, h => h
  | s :: l, a, hk, h => swsF_in l (Nat.lt_of_lt_of_le hk (sws1_pre k a s).length_le) (sws1_in hk h)
theorem swsAt_in : ∀ k, ∀ m ∈ (swsAt b k).2, m.1 < (swsAt b k).1.length ∧ m.2.2 < (swsAt b k).1.length
  | 0 => fun m hm => nomatch hm
  | k + 1 => by
    show ∀ m ∈ (swsR b k (swsAt b k)).2, m.1 < (swsR b k (swsAt b k)).1.length ∧ m.2.2 < (swsR b k (swsAt b k)).1.length
    unfold swsR
    split
    · rename_i h
      exact swsF_in _ h (swsAt_in k)
    · exact swsAt_in k
theorem sws_in : ∀ m ∈ (sws b).2, m.1 < (sws b).1.length ∧ m.2.2 < (sws b).1.length := by
  unfold sws
  exact swsAt_in 1000
theorem sws_pos : 0 < (sws b).1.length := by
  unfold sws
  have h1 : (swsAt b 0).1.length = 1 := rfl
  have h2 := (swsAt_pres (b := b) (Nat.zero_le 1000)).length_le
  omega
theorem swsAt_len2 : ∀ k, k ≤ 1000 → (swsAt b k).2.length ≤ 5 * (sws b).1.length
  | 0, _ => Nat.zero_le _
  | k + 1, hk => by
    by_cases h : k < (swsAt b k).1.length
    · have h1 := swsAt_len (b := b) (k + 1)
      have h2 := (swsAt_pres (b := b) (show k ≤ 1000 by omega)).length_le
      unfold sws
      omega
    · rw [sws_stop h (Nat.le_succ k)]
      exact swsAt_len2 k (by omega)
theorem sws_len2 : (sws b).2.length ≤ 5 * (sws b).1.length := by
  have := swsAt_len2 (b := b) 1000 (Nat.le_refl _)
  rw [show swsAt b 1000 = sws b by unfold sws; rfl] at this
  exact this
end
def kindsOf (b : Bx) : List Nat := kFin (lanesOf (sws b).1.length (sws b).2)
def joinStp (ks : List Nat) (m : Stp) : Stp := (ks.getD m.1 0, m.2.1, ks.getD m.2.2 0)
def formOf (b : Bx) : Bx := mkBx (ddp (kindsOf b)).length [0] (srt rkStp (ddp ((sws b).2.map (joinStp (kindsOf b)))))
theorem kindsOf_len {b : Bx} : (kindsOf b).length = (sws b).1.length := by unfold kindsOf; rw [kFin_len, lanesOf_len]
theorem kindsOf_lt {b : Bx} {i : Nat} (h : i < (sws b).1.length) : (kindsOf b).getD i 0 < (ddp (kindsOf b)).length := by
  have hl : i < (kindsOf b).length := by rw [kindsOf_len]; exact h
  have hm : ∀ x ∈ kindsOf b, x < (ddp (kindsOf b)).length := by
    unfold kindsOf
    exact fun x hx => kFin_lt hx
  refine hm _ ?_
  rw [List.getD_eq_getElem?_getD, List.getElem?_eq_getElem hl]
  exact List.getElem_mem hl
theorem kindsOf_cnt {b : Bx} : 0 < (ddp (kindsOf b)).length ∧ (ddp (kindsOf b)).length ≤ (sws b).1.length := by
  unfold kindsOf
  have h := kFin_cnt (lanes := lanesOf (sws b).1.length (sws b).2) (by rw [lanesOf_len]; exact sws_pos)
  rw [lanesOf_len] at h
  exact h
theorem kindsOf_fix {b : Bx} : parted (lanesOf (sws b).1.length (sws b).2) (kindsOf b) = kindsOf b := by
  unfold kindsOf
  exact kFin_fix (by rw [lanesOf_len]; exact sws_pos)
theorem kindsOf_all {b : Bx} {x : Nat} (h : x < (ddp (kindsOf b)).length) : x ∈ kindsOf b := by
  unfold kindsOf at h ⊢
  exact kFin_all h
theorem kindsOf_canon {b : Bx} : canon (kindsOf b) = kindsOf b := by
  unfold kindsOf
  exact kFin_canon
end K81
set_option Elab.async false
set_option linter.all false
set_option maxRecDepth 100000
set_option maxHeartbeats 2000000
set_option autoImplicit false
/-! K81SA: a set or a dict made by a comprehension, stored in a local at once. -/
namespace K81
open PySem PySem.Spec L2
open PyProof.Rows
section
variable {X : Cx} {ex tg iter : Expr} {ifs : List Expr} {pos pos' : Pos} {mk : Sem Value} {ob : Obj} {o0 : Addr → HO} {B : TurnEnd} {scope : Scope} {own : List (PySem.Str × Nat)} {wi : TI} {g : TG} {tt : TT} {tB : Addr → L2.St → Hp → (Hp → Prop) → Prop}
theorem cm_coreU {use : Option (Value → Sem Unit)} {Qf : Value → Shared → Prop} {pins : List (Addr × Obj)} {s : Shared} {σ : L2.St} {H : Hp} {Q : VK} (M : CmpMk X ex tg iter ifs pos mk ob o0 B) (hc : X.calm = true) (hN : X.N.Nodup) (I : Inv X pins σ H s) (hi : PI X tg iter wi) (ok : BlkOk X.N X.env.scope scope own)
    (hg : ∀ (s : Shared) (H : Hp) (C : Addr) (cl : List (PySem.Str × Addr)) (fp : List Addr), PG (Blk X scope s H C cl fp) tg g) (ht : ∀ (s : Shared) (H : Hp) (C : Addr) (cl : List (PySem.Str × Addr)) (fp : List Addr), PTs (Blk X scope s H C cl fp) ifs tt)
    (hB : ∀ (s0 : Shared) (H0 : Hp) (C : Addr) (cl : List (PySem.Str × Addr)) (fp : List Addr) (D : Addr) (pins : List (Addr × Obj)) (s : Shared) (σ : L2.St) (H : Hp) (Nx : Hp → Prop) (Er : Value → Shared → Prop) (Q : Shared → Prop), Inv (Blk X scope s0 H0 C cl fp) pins σ H s → tB D σ H Nx →
      (∀ s' H', Inv (Blk X scope s0 H0 C cl fp) pins σ H' s' → Nx H' → Q s') → B (compEnvC scope cl C X.env) D Er Q s)
    (hs : ∀ x, foldedSetIterable iter X.env x = pure x) (h : tCm o0 wi g tt tB (own.map (·.2)) σ H Q)
    (hRR : ∀ D C s' m H', Inv X pins σ H' s' → Q (.ref D) H' → s'.heap.Ns C m → FpOk X pins H' C → compPost (model X.prog X.w) X.A X.xe use Qf (.ref D) C (.ok .next) s') :
    wpAny (model X.prog X.w) X.A (comprehension ex scope X.env pos' mk false (eval iter X.env) use) Qf X.xe s := by
  have hfree : ∀ y ∈ scope.names, y.2 = .free → ∃ c, X.env.cells.lookup y.1 = some c := fun y hy e => (ok.free y hy e).elim (fun k => I.ok.has _ (.inl k)) fun k => I.ok.has _ (.inr k)
  refine wpAny_comprehension_free (use := use) M.clause hs (closure_ok hfree) ok.kind (fun y hy e => by rw [ok.uniq y hy, e]) (thn (hi.run pins s σ H _ I h) fun xv s1 hx => thn hx fun itv s2 h2 => ?_)
  obtain ⟨it, fp, tn, J, H2, rfl, I2, T, st2, f2, q⟩ := h2
  refine M.make (newEnv_comp ?_)
  obtain ⟨D, hD⟩ : ∃ D, s2.heap.objs.size = D := ⟨_, rfl⟩
  have hDn : H2 D = none := I2.hok.fresh (Nat.le_of_eq hD)
  obtain ⟨W, ⟨m0, w0⟩, turn⟩ := q D hDn
  have I3 : Inv X pins σ (upd H2 D (o0 D)) { s2 with heap := s2.heap.push ob } := I2.laid (t' := s2.toks) (fun b o e => Heap.get?_push_of_some _ e) (Nat.le_of_eq hD) (hD ▸ M.new I2)
  rw [hD]
  generalize hs3 : ({ s2 with heap := s2.heap.push ob } : Shared) = s3 at I3 ⊢
  have k3 : ∀ b o, s2.heap.get? b = some o → s3.heap.get? b = some o := fun b o e => by rw [← hs3]; exact Heap.get?_push_of_some _ e
  have z3 : s3.heap.objs.size = s2.heap.objs.size + 1 := by rw [← hs3]; exact Heap.size_push _ _
  have f3 : ∀ b ∈ fp, FpOk X pins (upd H2 D (o0 D)) b ∧ b < s3.heap.objs.size := fun b hb => by
    obtain ⟨o, e, _⟩ := T.obj _ _ st2 b hb
    have hlt := Heap.lt_size e
    obtain ⟨n, r⟩ := f2 b hb
    exact ⟨⟨by rw [upd_ne (Nat.ne_of_lt (hD ▸ hlt))]; exact n, r⟩, by rw [z3]; exact Nat.lt_succ_of_lt hlt⟩
  have st3 : tn 0 s3.heap := T.keep _ _ _ st2 fun b _ o e => k3 b o e
  have I4 := block_start I3 ok hN f3
  obtain ⟨H3, hH3⟩ : ∃ H3, upd H2 D (o0 D) = H3 := ⟨_, rfl⟩
  rw [hH3] at I3 I4 w0 f3
  show codeAny _ _ (.compStart ex 0 (.ref it) (.ref D) (compEnvC scope (cellsFrom (s3.heap.objs.size + 1) scope.names (cloFrom X.env.cells scope.names [])) s3.heap.objs.size X.env)) (compPost (model X.prog X.w) X.A X.xe use Qf (.ref D) s3.heap.objs.size) { s3 with heap := pushCells (s3.heap.push { cls := .type "dict", data := .dict #[] }) scope.names }
  generalize hcl : cellsFrom (s3.heap.objs.size + 1) scope.names (cloFrom X.env.cells scope.names []) = cl at I4 ⊢
  have pg := hg s3 H3 s3.heap.objs.size cl fp
  have pt := ht s3 H3 s3.heap.objs.size cl fp
  have pb := hB s3 H3 s3.heap.objs.size cl fp D
  have cL : (compEnvC scope cl s3.heap.objs.size X.env).locals = s3.heap.objs.size := rfl
  generalize hs4 : ({ s3 with heap := pushCells (s3.heap.push { cls := .type "dict", data := .dict #[] }) scope.names } : Shared) = s4 at I4 ⊢
  have st4 : tn 0 s4.heap := T.keep _ _ _ st3 fun b _ o e => by rw [← hs4]; exact pushCells_keeps _ _ _ _ (Heap.get?_push_of_some _ e)
  have stat : ∀ {σ' : L2.St} {H' : Hp} {s' : Shared}, Inv (Blk X scope s3 H3 s3.heap.objs.size cl fp) [] σ' H' s' → (∀ b ∈ fp, H' b = none) → ∀ b ∈ fp, FpOk (Blk X scope s3 H3 s3.heap.objs.size cl fp) [] H' b := fun {σ' H' s'} J n b hb =>
    ⟨n b hb, (J.ok.exf b hb).1, J.ok.exfs b hb, .inl hb, fun x c e => (J.ok.exf b hb).2 x c e, fun p hp => absurd (show p ∈ ([] : List (Addr × Obj)) ++ [] from hp) (by simp)⟩
  have loop : codeAny (model X.prog X.w) X.A (.compLoop ex 0 (.ref it) (.ref D) (compEnvC scope cl s3.heap.objs.size X.env)) (compPost (model X.prog X.w) X.A X.xe use Qf (.ref D) s3.heap.objs.size) s4 := by
    refine M.loop (fun n s' => ∃ i H', Inv (Blk X scope s3 H3 s3.heap.objs.size cl fp) [] (wipe σ (own.map (·.2))) H' s' ∧ tn i s'.heap ∧ (∀ b ∈ fp, H' b = none) ∧ W i n H') ?_ m0 ⟨0, H3, I4, st4, fun b hb => (f3 b hb).1.1, w0⟩
    rintro n s5 ⟨i, H5, I5, st5, n5, w5⟩
    rcases turn i n H5 w5 with ⟨stop, qq⟩ | ⟨go, Nx, hNx, step⟩
    · refine thnF (T.done (Blk X scope s3 H3 s3.heap.objs.size cl fp) rfl rfl rfl hc i [] s5 _ H5 (fun _ _ => False) I5 (stat I5 n5) st5 stop) fun r s6 ⟨hr, I6⟩ => ?_
      subst hr
      have I7 : Inv X pins σ H5 s6 := I3.call' (ch := fp) I6.os I6.base I6.hok I6.bare fun b hb => ⟨(f3 b hb).1.2.2.2.1, (f3 b hb).1.2.1, (f3 b hb).1.2.2.2.2.1, (f3 b hb).1.2.2.2.2.2⟩
      have nC : H5 s3.heap.objs.size = none := I6.free
      obtain ⟨m, hn, _⟩ := I6.loc
      exact hRR D s3.heap.objs.size s6 m H5 I7 qq hn (I3.fpOk (Nat.le_refl _) nC)
    · refine thnF (T.item (Blk X scope s3 H3 s3.heap.objs.size cl fp) rfl rfl rfl hc i [] s5 _ H5 (fun _ _ => False) I5 (stat I5 n5) st5 go) fun r s6 ⟨u, hr, h6⟩ => ?_
      subst hr
      refine thnF h6 fun _ s7 ⟨x, H7, I7, r7, y7, st7, n7⟩ => ?_
      refine thnF (pg.run _ s7 _ H7 x u _ (I7.pinned (stat I7 n7) (T.obj _ _ st7)) r7 (step x H7 y7)) fun _ s8 ⟨σ8, H8, I8, hw8, q8⟩ => ?_
      have fin : ∀ {s' : Shared} {H' : Hp}, Inv (Blk X scope s3 H3 s3.heap.objs.size cl fp) ([] ++ pinsAt fp s7.heap) σ8 H' s' → Nx H' → ∃ m, m < n ∧ ∃ i H', Inv (Blk X scope s3 H3 s3.heap.objs.size cl fp) [] (wipe σ (own.map (·.2))) H' s' ∧ tn i s'.heap ∧ (∀ b ∈ fp, H' b = none) ∧ W i m H' := by
        intro s' H' J nx
        obtain ⟨m', hm, w'⟩ := hNx H' nx
        have pin : ∀ b ∈ fp, ∀ o, s7.heap.get? b = some o → s'.heap.get? b = some o ∧ H' b = none := fun b hb o e =>
          let z := J.pin (b, o) (List.mem_append_right _ (List.mem_append_right _ (mem_pinsAt hb e)))
          ⟨z.1, z.2.1⟩
        refine ⟨m', hm, i + 1, H', (J.unpinned (pins := [])).weak (by rw [← hw8, wipe_length]) (fun j v e => ?_), T.keep _ _ _ st7 fun b hb o e => (pin b hb o e).1, fun b hb => ?_, w'⟩
        · rw [← hw8] at e
          exact (wipe_some e).1
        · obtain ⟨o, e, _⟩ := T.obj _ _ st7 b hb
          exact (pin b hb o e).2
      refine thnF (pt.run _ s8 σ8 H8 _ I8 q8) fun b s9 ⟨H9, I9, q9⟩ => ?_
      cases b with
      | false =>
        rw [if_neg Bool.false_ne_true] at q9 ⊢
        exact fin I9 q9
      | true =>
        rw [if_pos rfl] at q9 ⊢
        exact ⟨rfl, pb _ s9 σ8 H9 Nx _ _ I9 q9 fun s' H' J nx => fin J nx⟩
  exact M.start loop (T.self X.A 0 _ _ _ st4 loop)
end
section
variable {X : Cx} {tg iter : Expr} {ifs : List Expr} {pos spos py : Pos} {y : PySem.Str} {i : Nat} {scope : Scope} {own : List (PySem.Str × Nat)} {wi : TI} {g : TG} {tt : TT}
/-- name = {..} on one line, the name a local -/
theorem ps_setSc {P : Program} {w : World} {elt : Expr} {te : TE} (hc : X.calm = true) (hu : X.A.units + 64 < cLine) (hN : X.N.Nodup) (hy : X.N[i]? = some y) (hyl : X.env.scope.names.lookup y = some .local)
    (hsw : swapsWith (.SetComp elt [⟨tg, iter, ifs, 0⟩] scope pos) (some (.Name y py)) spos.line X.env = pure true) (hi : PI X tg iter wi) (ok : BlkOk X.N X.env.scope scope own)
    (hg : ∀ (s : Shared) (H : Hp) (C : Addr) (cl : List (PySem.Str × Addr)) (fp : List Addr), PG (X.blk s H scope (compEnvC scope cl C X.env) fp) tg g) (ht : ∀ (s : Shared) (H : Hp) (C : Addr) (cl : List (PySem.Str × Addr)) (fp : List Addr), PTs (X.blk s H scope (compEnvC scope cl C X.env) fp) ifs tt)
    (he : ∀ (s : Shared) (H : Hp) (C : Addr) (cl : List (PySem.Str × Addr)) (fp : List Addr), PE (X.blk s H scope (compEnvC scope cl C X.env) fp) elt te) (hs : ∀ x, foldedSetIterable iter X.env x = pure x := by intro _; rfl) (hp : X.prog = P := by rfl) (hw : HEq X.w w := by rfl) :
    PS X (.Assign [.Name y py] (.SetComp elt [⟨tg, iter, ifs, 0⟩] scope pos) spos) (tAsg (tCm (fun D => KO P w D []) wi g tt (bSet P w te) (own.map (·.2))) (gName i)) := by
  subst hp
  cases hw
  refine ⟨fun pins s σ H D I h => ?_⟩
  rw [exec_Assign_Name_used _ _ _ _ hsw]
  refine wpAny_bind (wpAny_standAt (wpAny_bind ?_))
  show wpAny _ X.A (do let _ ← comprehension (.SetComp elt [⟨tg, iter, ifs, 0⟩] scope pos) scope X.env (firstIterPos [⟨tg, iter, ifs, 0⟩] pos) (newSet (.type "set")) false (eval iter X.env) (some (assign (.Name y py) X.env))) _ _ s
  have h : tCm (fun D => KO X.prog X.w D []) wi g tt (bSet X.prog X.w te) (own.map (·.2)) σ H (fun x H1 => gName i x σ H1 D.nx) := h
  refine wpAny_bind (thn (cm_coreU (Qf := fun _ s' => SP X pins D .next s') mk_set hc hN I hi ok hg ht (fun s0 H0 C cl fp D pins s σ H Nx Er Q I hb q => ?_) hs h fun L C s' m H' I' q hn f => ?_) fun _ s' hq => wpAny_pure (wpAny_pure hq))
  · refine thnF ((he s0 H0 C cl fp).run pins s σ H _ I hb) fun v s1 ⟨y, H1, I1, r1, x, k, L, ey, hx, hD, hT, hl, nx⟩ => ?_
    subst ey
    cases r1
    exact set_addK (X := Blk X scope s0 H0 C cl fp) hu I1 hD hx hT hl fun s' L' c1 c2 J => q s' _ J (nx L' c1 c2)
  · show wpAny _ _ (assign (.Name y py) X.env (.ref L)) _ _ _
    refine wpAny_assign_Name (store_ok2 (v := V.ref L) I' hN hy (.inl hyl) rfl (fun s2 I2 ⟨a, sb, ha⟩ => ?_) (.inr hyl))
    obtain ⟨f0, f1, f2, f3, f4, f5⟩ := f
    have haC : C ≠ a := by
      rcases ha with z | z
      · rw [z]; exact f1
      · exact fun e => f4 y a z e.symm
    refine ⟨m, hn.sameBut sb haC, fun h3 sb3 => ?_⟩
    exact ⟨_, H', I2.turned (t' := s2.toks) (fun b o hb e => (sb3.2 b hb).trans e) f0 f1 f3 f4 f5, q⟩
theorem ps_setDc {kx vx : Expr} {tk tv : TE} (hc : X.calm = true) (hu : X.A.units + 64 < cLine) (hN : X.N.Nodup) (hy : X.N[i]? = some y) (hyl : X.env.scope.names.lookup y = some .local)
    (hsw : swapsWith (.DictComp kx vx [⟨tg, iter, ifs, 0⟩] scope pos) (some (.Name y py)) spos.line X.env = pure true) (hi : PI X tg iter wi) (ok : BlkOk X.N X.env.scope scope own)
    (hg : ∀ (s : Shared) (H : Hp) (C : Addr) (cl : List (PySem.Str × Addr)) (fp : List Addr), PG (X.blk s H scope (compEnvC scope cl C X.env) fp) tg g) (ht : ∀ (s : Shared) (H : Hp) (C : Addr) (cl : List (PySem.Str × Addr)) (fp : List Addr), PTs (X.blk s H scope (compEnvC scope cl C X.env) fp) ifs tt)
    (hk : ∀ (s : Shared) (H : Hp) (C : Addr) (cl : List (PySem.Str × Addr)) (fp : List Addr), PE (X.blk s H scope (compEnvC scope cl C X.env) fp) kx tk)
    (he : ∀ (s : Shared) (H : Hp) (C : Addr) (cl : List (PySem.Str × Addr)) (fp : List Addr), PE (X.blk s H scope (compEnvC scope cl C X.env) fp) vx tv) (hs : ∀ x, foldedSetIterable iter X.env x = pure x := by intro _; rfl) :
    PS X (.Assign [.Name y py] (.DictComp kx vx [⟨tg, iter, ifs, 0⟩] scope pos) spos) (tAsg (tCm (fun _ => .dT []) wi g tt (bDict tk tv) (own.map (·.2))) (gName i)) := by
  refine ⟨fun pins s σ H D I h => ?_⟩
  rw [exec_Assign_Name_used _ _ _ _ hsw]
  refine wpAny_bind (wpAny_standAt (wpAny_bind ?_))
  show wpAny _ X.A (do let _ ← comprehension (.DictComp kx vx [⟨tg, iter, ifs, 0⟩] scope pos) scope X.env (firstIterPos [⟨tg, iter, ifs, 0⟩] pos) newDict false (eval iter X.env) (some (assign (.Name y py) X.env))) _ _ s
  have h : tCm (fun _ => .dT []) wi g tt (bDict tk tv) (own.map (·.2)) σ H (fun x H1 => gName i x σ H1 D.nx) := h
  refine wpAny_bind (thn (cm_coreU (Qf := fun _ s' => SP X pins D .next s') mk_dict hc hN I hi ok hg ht (fun s0 H0 C cl fp D pins s σ H Nx Er Q I hb q => ?_) hs h fun L C s' m H' I' q hn f => ?_) fun _ s' hq => wpAny_pure (wpAny_pure hq))
  · refine thnF ((hk s0 H0 C cl fp).run pins s σ H _ I hb) fun v s1 ⟨y, H1, I1, r1, h1⟩ => ?_
    refine thnF ((he s0 H0 C cl fp).run pins s1 σ H1 _ I1 h1) fun u s2 ⟨z, H2, I2, r2, b, k, kvs, ey, hb, hD, hl, nx⟩ => ?_
    subst ey
    cases r1
    exact d_dictSetT (X := Blk X scope s0 H0 C cl fp) (show X.A.units < cLine by omega) I2 hD hb hl r2 fun s' J => q s' _ J nx
  · show wpAny _ _ (assign (.Name y py) X.env (.ref L)) _ _ _
    refine wpAny_assign_Name (store_ok2 (v := V.ref L) I' hN hy (.inl hyl) rfl (fun s2 I2 ⟨a, sb, ha⟩ => ?_) (.inr hyl))
    obtain ⟨f0, f1, f2, f3, f4, f5⟩ := f
    have haC : C ≠ a := by
      rcases ha with z | z
      · rw [z]; exact f1
      · exact fun e => f4 y a z e.symm
    refine ⟨m, hn.sameBut sb haC, fun h3 sb3 => ?_⟩
    exact ⟨_, H', I2.turned (t' := s2.toks) (fun b o hb e => (sb3.2 b hb).trans e) f0 f1 f3 f4 f5, q⟩
theorem sw_trueS {elt : Expr} {gs : List Comprehension} {l : Nat} {env : Env} (hk : env.scope.kind = .function) (hy : env.scope.names.lookup y = some .local) (hl : (py.line == pos.line) = true)
    (ha : (scope.names.any fun (n, k) => n == y && (k == .local || k == .cell)) = false) : swapsWith (.SetComp elt gs scope pos) (some (.Name y py)) l env = pure true := by
  have ky : env.kindOf y = some .local := hy
  have hb : env.blockKind = .function := by unfold Env.blockKind; rw [hk]; rfl
  unfold swapsWith
  simp only [hb, ky, ha, Expr.pos, hl]
  rfl
theorem sw_trueD {kx vx : Expr} {gs : List Comprehension} {l : Nat} {env : Env} (hk : env.scope.kind = .function) (hy : env.scope.names.lookup y = some .local) (hl : (py.line == pos.line) = true)
    (ha : (scope.names.any fun (n, k) => n == y && (k == .local || k == .cell)) = false) : swapsWith (.DictComp kx vx gs scope pos) (some (.Name y py)) l env = pure true := by
  have ky : env.kindOf y = some .local := hy
  have hb : env.blockKind = .function := by unfold Env.blockKind; rw [hk]; rfl
  unfold swapsWith
  simp only [hb, ky, ha, Expr.pos, hl]
  rfl
end
end K81
set_option Elab.async false
set_option linter.all false
set_option maxRecDepth 100000
set_option maxHeartbeats 2000000
set_option autoImplicit false
/-! K81J: form_of, form. -/
namespace K81
open PySem PySem.Spec L2
open PyProof.Rows (envOfC)
/-- many lists that change -/
def MLs (as : List Addr) (Lss : List (List Rep)) (H F : Hp) : Prop := as.Nodup ∧ as.length = Lss.length ∧ ∀ (i : Nat) (a : Addr) (Ts : List Rep), as[i]? = some a → Lss[i]? = some Ts → ML a Ts H F
abbrev rAd (a : Addr) : Rep := rV (.ref a)
abbrev InL (as : List Addr) : Addr → Prop := fun a => a ∈ as
section
variable {as : List Addr} {Lss : List (List Rep)} {H F H1 F1 : Hp} {a : Addr}
theorem MLs.grow (m : MLs as Lss H F) (g : G0 H F H1 F1) : MLs as Lss H1 F1 := ⟨m.1, m.2.1, fun i a Ts h1 h2 => (m.2.2 i a Ts h1 h2).grow g⟩
theorem MLs.set {i : Nat} {T : List Rep} (m : MLs as Lss H F) (h : as[i]? = some a) (g : Gr (At a) H F H1 F1) (n : ML a T H1 F1) : MLs as (Lss.set i T) H1 F1 := by
  refine ⟨m.1, by rw [List.length_set]; exact m.2.1, fun j c Ts h1 h2 => ?_⟩
  rw [List.getElem?_set] at h2
  split at h2
  · rename_i e
    subst e
    rw [h] at h1
    cases h1
    split at h2
    · cases h2; exact n
    · cases h2
  · rename_i ne
    refine (m.2.2 j c Ts h1 h2).gr g fun (e : c = a) => ne ?_
    subst e
    rw [← idx_at m.1 h, ← idx_at m.1 h1]
/-- the first k stay from now on -/
theorem MLs.fzK (M : Addr → Prop) {H0 F0 : Hp} (m : MLs as Lss H F) (hf : ∀ a ∈ as, H0 a = none) (g : Gr M H0 F0 H F) : ∀ k, ∃ F', Gr M H0 F0 H F' ∧ Same F F' ∧ (∀ (i : Nat) (a : Addr) (Ts : List Rep), i < k → as[i]? = some a → Lss[i]? = some Ts → (rLst Ts).at_ F' (.ref a)) ∧ ∀ (i : Nat) (a : Addr) (Ts : List Rep), k ≤ i → as[i]? = some a → Lss[i]? = some Ts → ML a Ts H F'
  | 0 => ⟨F, g, Same.refl _, fun i a Ts h => absurd h (Nat.not_lt_zero _), fun i a Ts _ => m.2.2 i a Ts⟩
  | k + 1 => by
    obtain ⟨F1, g1, s1, r1, l1⟩ := MLs.fzK M m hf g k
    by_cases hk : k < as.length
    · have ha : as[k]? = some as[k] := List.getElem?_eq_getElem hk
      have hl : Lss[k]? = some (Lss[k]'(by rw [← m.2.1]; exact hk)) := List.getElem?_eq_getElem _
      have mk := l1 k _ _ (Nat.le_refl _) ha hl
      obtain ⟨F2, g2, s2, r2⟩ := mk.fz g1 (hf _ (List.getElem_mem hk))
      obtain ⟨nk, us, hk1, hr⟩ := mk
      refine ⟨upd F1 as[k] (.lst us), g1.fz (hf _ (List.getElem_mem hk)) nk hk1, s1.trans fun b o e => by rw [upd_ne (ne_of_none e nk)]; exact e, fun i a Ts hi h1 h2 => ?_, fun i a Ts hi h1 h2 => ?_⟩
      · have s3 : Same F1 (upd F1 as[k] (.lst us)) := fun b o e => by rw [upd_ne (ne_of_none e nk)]; exact e
        rcases Nat.lt_succ_iff_lt_or_eq.mp hi with hi | rfl
        · exact (rLst Ts).mono s3 (r1 i a Ts hi h1 h2)
        · rw [ha] at h1
          rw [hl] at h2
          cases h1
          cases h2
          exact ⟨_, us, rfl, upd_same, hr.mono s3⟩
      · have s3 : Same F1 (upd F1 as[k] (.lst us)) := fun b o e => by rw [upd_ne (ne_of_none e nk)]; exact e
        obtain ⟨n3, ws, h3, r3⟩ := l1 i a Ts (by omega) h1 h2
        refine ⟨?_, ws, h3, r3.mono s3⟩
        rw [upd_ne]
        · exact n3
        · rintro rfl
          have := idx_at m.1 h1
          rw [idx_at m.1 ha] at this
          omega
    · exact ⟨F1, g1, s1, fun i a Ts hi h1 h2 => r1 i a Ts (by have := (List.getElem?_eq_some_iff.mp h1).1; omega) h1 h2, fun i a Ts hi => l1 i a Ts (by omega)⟩
theorem LA.ofAll : ∀ {as : List Addr} {Lss : List (List Rep)} {F : Hp}, as.length = Lss.length → (∀ (i : Nat) (a : Addr) (Ts : List Rep), as[i]? = some a → Lss[i]? = some Ts → (rLst Ts).at_ F (.ref a)) → LA F (as.map V.ref) (Lss.map rLst)
  | [], [], _, _, _ => .nil
  | [], _ :: _, _, h, _ => by cases h
  | _ :: _, [], _, h, _ => by cases h
  | a :: as, T :: Lss, F, h, hr => .cons (hr 0 a T rfl rfl) (LA.ofAll (by simpa using h) fun i b Ts h1 h2 => hr (i + 1) b Ts (by simpa using h1) (by simpa using h2))
theorem MLs.fz (M : Addr → Prop) {H0 F0 : Hp} {o : Addr} (m : MLs as Lss H F) (hf : ∀ a ∈ as, H0 a = none) (g : Gr M H0 F0 H F) (ho : (rLst (as.map rAd)).at_ F (.ref o)) : ∃ F', Gr M H0 F0 H F' ∧ Same F F' ∧ (rLst (Lss.map rLst)).at_ F' (.ref o) := by
  obtain ⟨F', g', s', r', _⟩ := m.fzK M hf g as.length
  refine ⟨F', g', s', ?_⟩
  obtain ⟨a, us, e, ha, l⟩ := ho
  have eu : us = as.map V.ref := LA.rV_iff (us := as.map V.ref) (by rw [List.map_map]; exact l)
  subst eu
  exact ⟨a, _, e, s' _ _ ha, LA.ofAll m.2.1 fun i a Ts h1 h2 => r' i a Ts (List.getElem?_eq_some_iff.mp h1).1 h1 h2⟩
end
section
variable {α : Type} {xs : List α} {RA : α → Rep} {wi : TI} {g : TG} {vs : List Nat} {H F : Hp} {Rs : Rs_} {Ss : α → Rs_}
theorem tYes_run {A B : Hp → Prop} {σ : L2.St} {H : Hp} (h : A H) : tYes σ H (fun b H3 => if b = true then A H3 else B H3) := by
  show if true = true then A H else B H
  rw [if_pos rfl]
  exact h
/-- [[] for x in xs] -/
theorem lc_new (src : SrcL wi Rs H F xs RA) (hz : xs.length < sizeLine) (ho : offB vs Rs = true) (hg : ∀ x ∈ xs, Tgt g vs Rs (RA x) (Ss x)) (σ : L2.St) (H1 F1 : Hp) (g1 : G0 H F H1 F1) (e : En F1 σ Rs) (Q : VK)
    (q : ∀ o as H2 F2, G0 H1 F1 H2 F2 → (∀ a ∈ as, H1 a = none) → (rLst (as.map rAd)).at_ F2 (.ref o) → MLs as (xs.map fun _ => []) H2 F2 → Q (.ref o) H2) : tLc wi g tYes (tLst tNil) vs σ H1 Q := by
  refine src σ H1 F1 g1 e _ fun J H2 F2 k ok D hD => ?_
  have e2 := e.mono k.ff
  have nF : F2 D = none := k.fh.free hD
  refine ⟨fun i m H' => m = xs.length - i ∧ i ≤ xs.length ∧ ∃ F' as, G0 H2 F2 H' F' ∧ H' D = some (.lst (as.map V.ref)) ∧ F' D = none ∧ (∀ a ∈ as, H2 a = none ∧ a ≠ D) ∧ MLs as ((xs.take i).map fun _ => []) H' F', ⟨_, rfl, Nat.zero_le _, F2, [], Gr.newM k.fh hD, upd_same, nF, (fun a h => nomatch h), List.nodup_nil, rfl, fun i a Ts h => by simp at h⟩, ?_⟩
  rintro i m H' ⟨rfl, hi, F', as, g3, hd, hn, hf, ml⟩
  obtain ⟨o1, o2⟩ := ok H' F' g3.ff g3.fh
  by_cases hlt : i < xs.length
  · refine .inr ?_
    have hx : xs[i]? = some xs[i] := List.getElem?_eq_getElem hlt
    have hmem : xs[i] ∈ xs := List.getElem_mem hlt
    obtain ⟨q1, q2⟩ := o2 i xs[i] hx
    refine ⟨q1, fun H'' => i + 1 ≤ xs.length ∧ ∃ F'' as, G0 H2 F2 H'' F'' ∧ H'' D = some (.lst (as.map V.ref)) ∧ F'' D = none ∧ (∀ a ∈ as, H2 a = none ∧ a ≠ D) ∧ MLs as ((xs.take (i + 1)).map fun _ => []) H'' F'', fun H'' p' => ⟨_, by omega, rfl, p'⟩, fun v H3 y => ?_⟩
    obtain ⟨F3, k3, r⟩ := q2 v H3 y
    have g4 := g3.trans k3
    refine hg _ hmem v (wipe σ vs) H3 F3 k3.fh (off_wipe ho (e2.mono g4.ff)) r _ fun σ2 e4 w => ⟨w.trans wipe_wipe, ?_⟩
    have hd3 := k3.h hd
    have hn3 := k3.out hn hd
    have ml3 := ml.grow k3
    have hlen : as.length = i := by rw [ml.2.1, List.length_map, List.length_take]; omega
    refine tYes_run ?_
    refine ⟨Nat.zero_le _, fun p hp => ⟨as.map V.ref, ?_, by rw [List.length_map]; omega, hlt, F3, as ++ [p], ?_, ?_, hn3, ?_, ?_⟩⟩
    · rw [upd_ne (fun z => by rw [z] at hd3; rw [hd3] at hp; cases hp)]
      exact hd3
    · refine (g4.trans (Gr.newM k3.fh hp)).wr (.inl hD) hn3
    · rw [upd_same, List.map_append]; rfl
    · intro a ha
      rcases List.mem_append.mp ha with h | h
      · exact hf a h
      · rw [List.mem_singleton.mp h]
        exact ⟨g4.none hp, fun z => by rw [z, hd3] at hp; cases hp⟩
    · rw [take_snoc hx, List.map_append]
      have live : ∀ a ∈ as, H3 a ≠ none := fun a ha z => by
        obtain ⟨j, hj, e⟩ := List.getElem_of_mem ha
        have h2 : j < ((xs.take i).map fun _ => ([] : List Rep)).length := by rw [← ml.2.1]; exact hj
        exact (ml3.2.2 j a _ (by rw [List.getElem?_eq_getElem hj, e]) (List.getElem?_eq_getElem h2)).live z
      refine ⟨?_, by rw [List.length_append, List.length_append, ml.2.1]; rfl, fun j a Ts h1 h2 => ?_⟩
      · rw [List.nodup_append]
        refine ⟨ml.1, (List.nodup_cons.mpr ⟨List.not_mem_nil, List.nodup_nil⟩), fun a ha b hb z => ?_⟩
        rw [List.mem_singleton.mp hb] at z
        exact live a ha (z ▸ hp)
      · by_cases hj : j < as.length
        · rw [List.getElem?_append_left hj] at h1
          rw [List.getElem?_append_left (by rw [← ml.2.1]; exact hj)] at h2
          obtain ⟨n1, us, h3, r3⟩ := ml3.2.2 j a Ts h1 h2
          have ha := List.mem_of_getElem? h1
          exact ⟨n1, us, by rw [upd_ne (hf a ha).2, upd_ne (fun z => live a ha (by rw [z]; exact hp))]; exact h3, r3⟩
        · rw [List.getElem?_append_right (Nat.le_of_not_lt hj)] at h1
          rw [List.getElem?_append_right (by rw [← ml.2.1]; exact Nat.le_of_not_lt hj), ← ml.2.1] at h2
          have h0 : j - as.length = 0 := by
            have := (List.getElem?_eq_some_iff.mp h1).1
            simp at this
            omega
          rw [h0] at h1 h2
          cases h1
          cases h2
          exact ⟨k3.fh.free hp, [], by rw [upd_ne (fun z => by rw [z, hd3] at hp; cases hp), upd_same], .nil⟩
  · have e : i = xs.length := by omega
    subst e
    rw [List.take_length] at ml
    have s : Same F' (upd F' D (.lst (as.map V.ref))) := fun b o hb => by rw [upd_ne (ne_of_none hb hn)]; exact hb
    refine .inl ⟨o1, q D as H' (upd F' D (.lst (as.map V.ref))) ((k.trans g3).fz (k.none hD) hn hd) (fun a ha => k.none (hf a ha).1) ⟨D, _, rfl, upd_same, ?_⟩ ⟨ml.1, ml.2.1, fun i a Ts h1 h2 => ?_⟩⟩
    · have := LA.rVs (upd F' D (.lst (as.map V.ref))) (as.map V.ref)
      rw [List.map_map] at this
      exact this
    · obtain ⟨n1, us, h3, r3⟩ := ml.2.2 i a Ts h1 h2
      exact ⟨by rw [upd_ne (hf a (List.mem_of_getElem? h1)).2]; exact n1, us, h3, r3.mono s⟩
end
section
variable {H F : Hp} {Rs : Rs_} {σ : L2.St} {D : Ends} {te : TE} {g : TG} {R : Rep}
/-- any target -/
theorem st_asgG (s : Same F H) (e : En F σ Rs) (h : EvE te Rs H F R) (k : ∀ v H' F', G0 H F H' F' → En F' σ Rs → R.at_ F' v → g v σ H' D.nx) : tAsg te g D σ H :=
  h σ H F (Gr.refl s) e _ fun v H1 F1 g1 r => k v H1 F1 g1 (e.mono g1.ff) r
theorem st_lcNew {α : Type} {xs : List α} {RA : α → Rep} {wi : TI} {vs : List Nat} {Ss : α → Rs_} {i : Nat} (s : Same F H) (e : En F σ Rs) (src : SrcL wi Rs H F xs RA) (hz : xs.length < sizeLine) (ho : offB vs Rs = true) (hg : ∀ x ∈ xs, Tgt g vs Rs (RA x) (Ss x))
    (k : ∀ o as σ' H' F', G0 H F H' F' → (∀ a ∈ as, H a = none) → En F' σ' (Rs.set i (some (rAd o))) → (rLst (as.map rAd)).at_ F' (.ref o) → MLs as (xs.map fun _ => []) H' F' → D.nx σ' H') : tAsg (tLc wi g tYes (tLst tNil) vs) (gName i) D σ H :=
  lc_new src hz ho hg σ H F (Gr.refl s) e _ fun o as H2 F2 g2 hf ho ml => g_1 (R1 := rAd o) (e.mono g2.ff) rfl fun σ2 e2 _ => k o as σ2 H2 F2 g2 hf e2 ho ml
end
section
variable {P : Program} {w : World} {K : PySem.W.Frag} {mg : Str → Option Value} {base : Heap}
theorem ev_repL {Rs : Rs_} {H F : Hp} {ta tb : TE} {x k : Nat} (ha : EvE ta Rs H F (rLst [rNat x])) (hb : EvE tb Rs H F (rNat k)) (hk : k ≤ 100000) : EvE (tOp rRep ta tb) Rs H F (rLst ((List.replicate k x).map rNat)) :=
  ev_op ha hb fun H1 F1 y z g hy hz Q q => by
    obtain ⟨a, us, rfl, h1, l1⟩ := hy
    have hz : z = V.int (k : Nat) := hz
    subst hz
    have eu : us = [V.int (x : Nat)] := LA.rV_iff (us := [V.int (x : Nat)]) l1
    subst eu
    have big : 100000 ≤ sizeLine := by decide
    refine ⟨a, k, _, rfl, rfl, g.fh _ _ h1, by omega, by omega, by rw [Int.toNat_natCast]; simp; omega, fun p hp => ?_⟩
    have ef : (List.replicate (k : Int).toNat [V.int (x : Nat)]).flatten = (List.replicate k x).map fun i => V.int (i : Nat) := by rw [Int.toNat_natCast, rep_flat, List.map_replicate]
    rw [ef]
    have g2 : G0 H1 F1 (upd H1 p (.lst ((List.replicate k x).map fun i => V.int (i : Nat)))) (upd F1 p (.lst ((List.replicate k x).map fun i => V.int (i : Nat)))) := Gr.new g.fh hp
    refine q _ _ _ g2 ⟨p, _, rfl, upd_same, ?_⟩
    have := LA.rVs (upd F1 p (.lst ((List.replicate k x).map fun i => V.int (i : Nat)))) ((List.replicate k x).map fun i => V.int (i : Nat))
    rw [List.map_map] at this
    exact this
theorem ev_max {Rs : Rs_} {H F : Hp} {ta : TE} {l : List Nat} {m : Nat} (ha : EvE ta Rs H F (rLst (l.map rNat))) (hm : m ∈ l) (hl : ∀ x ∈ l, x ≤ m) : EvE (tCB (rMax K) (tCons ta tNil)) Rs H F (rNat m) :=
  ev_cb (ea_1 ha) fun H1 F1 vs g L Q q => by
    cases L with
    | cons r1 L =>
      cases L
      obtain ⟨a, us, rfl, h1, l1⟩ := r1
      have eu : us = (l.map fun i => ((i : Nat) : Int)).map V.int := LA.rV_iff (us := (l.map fun i => ((i : Nat) : Int)).map V.int) (by rw [List.map_map, List.map_map]; exact l1)
      subst eu
      refine ⟨a, _, rfl, SqL.of (g.fh _ _ h1), by rw [List.length_map]; exact List.length_pos_of_mem hm, fun n hn hu => ?_⟩
      have : n = (m : Int) := by
        obtain ⟨x, hx, rfl⟩ := List.mem_map.mp hn
        have h2 := hu (m : Int) (List.mem_map.mpr ⟨m, hm, rfl⟩)
        have h3 := hl x hx
        omega
      subst this
      exact q _ _ _ (Gr.refl g.fh) rfl
theorem lanesOf_short (n : Nat) (l : List Stp) (m : Nat) : ((lanesOf n l).getD m []).length ≤ l.length := by
  rw [List.getD_eq_getElem?_getD]
  cases h : (lanesOf n l)[m]? with
  | none => exact Nat.zero_le _
  | some x =>
    obtain ⟨t, _, rfl⟩ := List.mem_map.mp (List.mem_of_getElem? h)
    show (laneOf l t).length ≤ _
    unfold laneOf
    rw [List.length_map]
    exact List.length_filter_le _ _
theorem kFin_at' {lanes : List Lane} {n i : Nat} (hl : lanes.length = n) (h : kAt lanes n (i + 1) = kAt lanes n i) (hi : i ≤ n) : kFin lanes = kAt lanes n i := by
  subst hl
  exact kFin_at h hi
/-- the marks before a round -/
def kPrev (lanes : List Lane) (n : Nat) : Nat → List Nat
  | 0 => []
  | i + 1 => kAt lanes n i
abbrev spForm (K : PySem.W.Frag) : Sp := PSp (fun b : Bx => [rBox K b]) (fun b _ _ => b.Ok ∧ (sws b).1.length ≤ 200) (fun b => rBox K (formOf b))
theorem x_sws {Rs : Rs_} {H F : Hp} {ta : TE} {E : XK} {b : Bx} (ha : EvE ta Rs H F (rBox K b)) (h : b.Ok) (hL : (sws b).1.length ≤ 200) : EvE (tCall (spSws K) [] E (tCons ta tNil)) Rs H F (rTup [rLst ((sws b).1.map rNat), rLst ((sws b).2.map rStp)]) :=
  ev_call (res := fun b : Bx => rTup [rLst ((sws b).1.map rNat), rLst ((sws b).2.map rStp)]) b (ea_1 ha) rfl fun _ _ _ => ⟨h, Nat.le_trans hL (by decide)⟩
theorem ok_form_of (T : Hd K mg) (c_sets_with_steps : Ce P w K mg base 4 "sets_with_steps" ["box"] (spSws K)) (c_parted : Ce P w K mg base 1 "parted" ["lanes", "kinds"] spParted) (c_made_box : Ce P w K mg base 8 "made_box" ["many", "starts", "steps"] (spMade K)) :
    Ce P w K mg base 9 "form_of" ["box"] (spForm K) := by
  refine ce_plain T.d_form_of T.glo_form_of sc_form_of (fun _ _ _ _ _ _ us hl => match us, hl with | [_], _ => rfl) (fun _ => rfl) (fun cdv A outer s H0 E hr => ⟨_, (pss_cons (ps_asg (pe_c c_sets_with_steps (hr.mono (by decide)) rfl (pa_cons (pv 0) pa_nil)) (tup_k (K := K) (n := 2) rfl (pgs_cons (pg_name (i := 1) sc_form_of.nd rfl (Or.inl rfl)) (pgs_cons (pg_name (i := 2) sc_form_of.nd rfl (Or.inl rfl)) pgs_nil))))
      (pss_cons (ps_setLc (i := 3) (own := [("some", 4)]) (tt := tYes) rfl sc_form_of.nd rfl rfl (sw_true rfl rfl rfl (by decide +kernel)) (pi_list (pv 1)) (blkOk_by (own := [("some", 4)]) (N := ["box", "found", "steps", "lanes", "some", "state", "call", "answer", "goal", "kinds", "later", "joined"]) (sc := defScope s_form_of) (by decide +kernel)) (fun _ _ _ _ _ => (pg_name (i := 4) sc_form_of.nd rfl (Or.inl rfl))) (fun _ _ _ _ _ => pts_nil) (fun _ _ _ _ _ => (pe_lst pa_nil)))
      (pss_cons (ps_for PassesOwn.never rfl (pi_list (pv 2)) (tup_k (K := K) (n := 4) rfl (pgs_cons (pg_name (i := 5) sc_form_of.nd rfl (Or.inl rfl)) (pgs_cons (pg_name (i := 6) sc_form_of.nd rfl (Or.inl rfl)) (pgs_cons (pg_name (i := 7) sc_form_of.nd rfl (Or.inl rfl)) (pgs_cons (pg_name (i := 8) sc_form_of.nd rfl (Or.inl rfl)) pgs_nil))))) (pss_one (ps_expr (bm_k (K := K) PySem.F.plainAttrs_list PySem.F.slot_list_append PySem.F.type_list_append mt_append (pe_ix (ixl_k (K := K)) (pv 3) (pv 5) (fun _ _ => rfl)) (pa_cons (pe_tup (pa_cons (pe_tup (pa_cons (pv 6) (pa_cons (pv 7) pa_nil))) (pa_cons (pv 8) pa_nil))) pa_nil)))))
      (pss_cons (ps_asg (pe_tup (pa_cons (pe_lst pa_nil) (pa_cons (pe_op op_rep (pe_lst (pa_cons pe_int pa_nil)) (pe_callB (len_k (K := K)) (by rfl) T.free_len (by decide +kernel) (pa_cons (pv 1) pa_nil))) pa_nil))) (tup_k (K := K) (n := 2) rfl (pgs_cons (pg_name (i := 9) sc_form_of.nd rfl (Or.inr rfl)) (pgs_cons (pg_name (i := 10) sc_form_of.nd rfl (Or.inl rfl)) pgs_nil))))
      (pss_cons (ps_while PassesOwn.never (pt_cmpR (ned_k (K := K) hr.units) (pv 10) (pv 9) (nomark _)) (pss_cons (ps_set (i := 9) sc_form_of.nd rfl (Or.inr rfl) (pv 10))
      (pss_one (ps_set (i := 10) sc_form_of.nd rfl (Or.inl rfl) (pe_c c_parted (hr.mono (by decide)) rfl (pa_cons (pv 3) (pa_cons (pv 9) pa_nil)))))))
      (pss_cons (ps_setSc (P := P) (w := w) (i := 11) (own := [("state", 5), ("call", 6), ("answer", 7), ("goal", 8)]) (tt := tYes) rfl (hu64 hr) sc_form_of.nd rfl rfl (sw_trueS rfl rfl rfl (by decide +kernel)) (pi_list (pv 2)) (blkOk_by (own := [("state", 5), ("call", 6), ("answer", 7), ("goal", 8)]) (N := ["box", "found", "steps", "lanes", "some", "state", "call", "answer", "goal", "kinds", "later", "joined"]) (sc := defScope s_form_of) (by decide +kernel)) (fun _ _ _ _ _ => (tup_k (K := K) (n := 4) rfl (pgs_cons (pg_name (i := 5) sc_form_of.nd rfl (Or.inl rfl)) (pgs_cons (pg_name (i := 6) sc_form_of.nd rfl (Or.inl rfl)) (pgs_cons (pg_name (i := 7) sc_form_of.nd rfl (Or.inl rfl)) (pgs_cons (pg_name (i := 8) sc_form_of.nd rfl (Or.inl rfl)) pgs_nil)))))) (fun _ _ _ _ _ => pts_nil) (fun _ _ _ _ _ => (pe_tup (pa_cons (pe_ix (ixl_k (K := K)) (pv 9) (pv 5) (fun _ _ => rfl)) (pa_cons (pv 6) (pa_cons (pv 7) (pa_cons (pe_ix (ixl_k (K := K)) (pv 9) (pv 8) (fun _ _ => rfl)) pa_nil)))))))
      (pss_one (ps_ret (pe_c c_made_box (hr.mono (by decide)) rfl (pa_cons (pe_op op_add (pe_callB (max_k (K := K) rfl) (by rfl) T.free_max (by decide +kernel) (pa_cons (pv 9) pa_nil)) pe_int) (pa_cons (pe_lst (pa_cons pe_int pa_nil)) (pa_cons (pe_callB (srtK_k (P := P) (w := w) rfl (hu64 hr)) (by rfl) T.free_sorted (by decide +kernel) (pa_cons (pv 11) pa_nil)) pa_nil)))))))))))), ?_⟩)
  intro b F H σ Q s hd e k0
  obtain ⟨hb, hL⟩ : b.Ok ∧ (sws b).1.length ≤ 200 := hd
  have big : 1000000 < sizeLine := by decide
  refine st_asgG s e (x_sws (ev_var rfl) hb hL) fun v H1 F1 g1 e1 r1 => g_2 g1.fh e1 r1 fun σ1 e1 _ => ?_
  have hin := sws_in (b := b)
  have hpos := sws_pos (b := b)
  have hlen := sws_len2 (b := b)
  have hfix := kindsOf_fix (b := b)
  have hkn : kindsOf b = kFin (lanesOf (sws b).1.length (sws b).2) := rfl
  have hf : rBox K (formOf b) = rBox K (mkBx (ddp (kindsOf b)).length [0] (srt rkStp (ddp ((sws b).2.map (joinStp (kindsOf b)))))) := rfl
  have hkl := kindsOf_len (b := b)
  have hklt := fun i => kindsOf_lt (b := b) (i := i)
  have hkc := kindsOf_cnt (b := b)
  have hka := fun x => kindsOf_all (b := b) (x := x)
  have hkc2 := kindsOf_canon (b := b)
  generalize kindsOf b = ks at *
  generalize hn : (sws b).1.length = n at *
  generalize (sws b).1 = fs at *
  generalize (sws b).2 = ss at *
  dsimp only
  -- the lanes
  refine st_lcNew (xs := fs) (RA := rNat) g1.fh e1 (src_list (ev_var rfl)) (by omega) rfl (fun x _ => tgt_1) fun o as σ2 H2 F2 g2 hfr e2 ho ml => ?_
  have e0 : (fs.map fun _ => ([] : List Rep)) = (lanesOf n []).map (List.map rOne) := by
    refine List.ext_getElem (by rw [List.length_map, List.length_map, lanesOf_len, hn]) fun i h1 h2 => ?_
    simp [lanesOf, laneOf]
  rw [e0] at ml
  have hli : ∀ i x, ss[i]? = some x → i < 1000 := fun i x h => by
    have := (List.getElem?_eq_some_iff.mp h).1
    omega
  dsimp only
  refine st_for (InL as) g2.fh e2 (src_list (xs := ss) (RA := rStp) (ev_var rfl)) (fun i σ' H' F' => En F' σ' [some (rBox K b), some (rLst (fs.map rNat)), some (rLst (ss.map rStp)), some (rAd o), none, none, none, none, none, none, none, none] ∧ (rLst (as.map rAd)).at_ F' (.ref o) ∧ MLs as ((lanesOf n (ss.take i)).map (List.map rOne)) H' F')
    (fun H3 F3 g3 => ⟨(e2.mono g3.ff).mask [true, true, true, true, false, false, false, false, false, false, false, false], (rLst _).mono g3.ff ho, ml.grow g3⟩) (fun i σ' H' F' H1 F1 ⟨a, m, l⟩ g => ⟨a.mono g.ff, (rLst _).mono g.ff m, l.grow g⟩) (fun i m v σ' H' F' hm g ⟨a, ho', ml'⟩ r N hN => ?_) fun σ3 H3 F3 g3 ⟨e3, ho3, ml3⟩ => ?_
  · obtain ⟨m1, m2, m3⟩ := m
    have hmi := hin _ (List.mem_of_getElem? hm)
    have hi := hli _ _ hm
    refine g_4 (R1 := rNat m1) (R2 := rS (sgC m2)) (R3 := rS (sgA m2)) (R4 := rNat m3) g.fh a r fun σ4 e4 _ => ?_
    have has : as.length = n := by rw [ml'.2.1, List.length_map, lanesOf_len]
    have h1 : m1 < as.length := by rw [has]; exact hmi.1
    have ha : as[m1]? = some as[m1] := List.getElem?_eq_getElem h1
    have hTs : ((lanesOf n (ss.take i)).map (List.map rOne))[m1]? = some (((lanesOf n (ss.take i)).getD m1 []).map rOne) := by
      rw [List.getElem?_map, List.getD_eq_getElem?_getD, List.getElem?_eq_getElem (by rw [lanesOf_len]; exact hmi.1)]; rfl
    have hll : (((lanesOf n (ss.take i)).getD m1 []).map rOne).length < sizeLine := by
      rw [List.length_map]
      have := lanesOf_short n (ss.take i) m1
      have h2 : (ss.take i).length ≤ i := by rw [List.length_take]; omega
      omega
    refine st_appM g.fh e4 (ml'.2.2 m1 _ _ ha hTs) (ev_ixL (j := m1) (ev_ref rfl ho') (ev_var rfl) (by rw [List.getElem?_map, ha]; rfl)) (A := rOne (m2, m3)) (ev_tup (ea_2 (ev_tup (ea_2 (ev_var rfl) (ev_var rfl))) (ev_var rfl))) hll fun H5 F5 g5 f5 m5 => hN _ H5 F5 (gr_at (List.getElem_mem h1) g5) ⟨(e4.mono f5).mask [true, true, true, true, false, false, false, false, false, false, false, false], (rLst _).mono f5 ho', ?_⟩
    have := ml'.set ha g5 m5
    rw [take_snoc hm, lanesOf_snoc, List.map_set, List.map_append]
    exact this
  · rw [List.take_length] at ml3
    have hfr0 : ∀ a ∈ as, H a = none := fun a ha => g1.none (hfr a ha)
    have gH : G0 H F H3 F3 := (g1.trans g2).drop g3 hfr0
    obtain ⟨F4, g4, f4, r4⟩ := ml3.fz No hfr0 gH ho3
    have r4 : (rLst ((lanesOf n ss).map rLane)).at_ F4 (.ref o) := by
      have e : ((lanesOf n ss).map (List.map rOne)).map rLst = (lanesOf n ss).map rLane := by rw [List.map_map]; rfl
      rw [← e]
      exact r4
    have hlan : ∀ l ∈ lanesOf n ss, l.length ≤ 100000 ∧ ∀ q ∈ l, q.2 < n := fun l hl => by
      obtain ⟨t, _, rfl⟩ := List.mem_map.mp hl
      refine ⟨?_, fun q hq => ?_⟩
      · unfold laneOf
        rw [List.length_map]
        have := List.length_filter_le (fun m => decide (m.1 = t)) ss
        omega
      · obtain ⟨m, hm, rfl⟩ := List.mem_map.mp hq
        exact (hin m (List.mem_filter.mp hm).1).2
    have hll := lanesOf_len n ss
    generalize lanesOf n ss = lanes at *
    dsimp only
    refine st_asgG g4.fh (e3.mono f4) (ev_tup (ea_2 (ev_lst ea_nil) (ev_repL (k := n) (x := 0) (ev_lst (ea_1 (A := rNat 0) ev_c)) (EvE.eqI (ev_lenL (ev_var rfl)) (by rw [List.length_map, hn])) (by omega)))) fun v H5 F5 g5 e5 r5 => g_2 g5.fh e5 r5 fun σ5 e5 _ => ?_
    dsimp only
    refine st_while No g5.fh (fun m σ' H' F' => ∃ i, m = n + 1 - i ∧ i ≤ n ∧ (∀ j, j + 1 < i → kAt lanes n (j + 1) ≠ kAt lanes n j) ∧ (rLst (lanes.map rLane)).at_ F' (.ref o) ∧
      En F' σ' [some (rBox K b), some (rLst (fs.map rNat)), some (rLst (ss.map rStp)), some (rAd o), none, none, none, none, none, some (rLst ((kPrev lanes n i).map rNat)), some (rLst ((kAt lanes n i).map rNat)), none]) (n + 1)
      ⟨0, rfl, Nat.zero_le _, fun j h => absurd h (Nat.not_lt_zero _), (rLst _).mono g5.ff r4, e5⟩ fun m σ' H' F' g ⟨i, hm, hi, hj, hl, a⟩ => ?_
    refine ⟨_, !decide (kAt lanes n i = kPrev lanes n i), a, eb_test (EvE.eqB (ev_neD (ev_var rfl) (ev_var rfl) (dpr_lst (dprs_map dpr_nat _)) (dpr_lst (dprs_map dpr_nat _)) (ok_list ok_nat _).shaped (ok_list ok_nat _).shaped) (by rw [eqv_list (enc := encNat) (fun a => (ok_nat a).pl) encNat_inj])), fun hne H6 F6 g6 N hN => ?_, fun heq H6 F6 g6 => ?_⟩
    · have hne : kAt lanes n i ≠ kPrev lanes n i := by simpa using hne
      have hj' : ∀ j, j < i → kAt lanes n (j + 1) ≠ kAt lanes n j := fun j hji => by
        rcases Nat.lt_or_eq_of_le (show j + 1 ≤ i from hji) with h | h
        · exact hj j h
        · subst h; exact hne
      have hg := cnt_grow hll hpos i hj'
      have hg2 := cnt_le hll i
      refine st_asg g6.fh (a.mono g6.ff) (ev_var rfl) fun σ7 H7 F7 g7 e7 => ?_
      dsimp only
      refine st_asg g7.fh e7 (x_parted (lanes := lanes) (kinds := kAt lanes n i) (ev_ref rfl ((rLst _).mono (g6.ff.trans g7.ff) hl)) (ev_var rfl) (by omega) (by rw [kAt_len hll]; exact hlan)) fun σ8 H8 F8 g8 e8 => hN (n + 1 - (i + 1)) _ H8 F8 (by omega) ((g6.trans g7).trans g8) ⟨i + 1, rfl, by omega, fun j h => hj' j (by omega), (rLst _).mono ((g6.ff.trans g7.ff).trans g8.ff) hl, e8⟩
    · have heq : kAt lanes n i = kPrev lanes n i := by simpa using heq
      have hks : ks = kPrev lanes n i := by
        cases i with
        | zero =>
          have := kAt_len hll 0
          rw [heq] at this
          have h0 : (0 : Nat) = n := this
          omega
        | succ i => rw [hkn]; exact kFin_at' hll heq (by omega)
      rw [← hks] at a
      have gg := (((g4.trans g5).trans g).trans g6)
      have hk2 : ∀ i, i < n → (ks.map rNat)[i]? = some (rNat (ks.getD i 0)) := fun i h => map_at 0 (by rw [hkl]; exact h)
      dsimp only
      refine st_asg g6.fh (a.mono g6.ff) (ev_set0 (P := P) (w := w) (ky := kyStp) kyStp_inj (f := joinStp ks) (src_list (xs := ss) (RA := rStp) (ev_var rfl)) rfl (fun m _ => tgt_4 (R1 := rNat m.1) (R2 := rS (sgC m.2.1)) (R3 := rS (sgA m.2.1)) (R4 := rNat m.2.2))
        (fun m hm => ev_tup (ea_cons (ev_ixL (j := m.1) (ev_var rfl) (ev_var rfl) (hk2 _ (hin m hm).1)) (ea_cons (ev_var rfl) (ea_2 (ev_var rfl) (ev_ixL (j := m.2.2) (ev_var rfl) (ev_var rfl) (hk2 _ (hin m hm).2)))))) ?_) fun σ7 H7 F7 g7 e7 => ?_
      · have := ddp_len (ss.map (joinStp ks))
        rw [List.length_map] at this
        omega
      · dsimp only
        rw [hf] at k0
        refine st_ret g7.fh e7 (x_made (n := (ddp ks).length) (st := [0]) (sp := srt rkStp (ddp (ss.map (joinStp ks)))) (EvE.eqI (ev_add (a := (ddp ks).length - 1) (b := 1) (ev_max (ev_var rfl) (hka _ (by omega)) fun x hx => ?_) ev_c) (by omega)) (ev_lst (ea_1 ev_c)) (ev_sortK ok_kyStp (ev_var rfl)) ?_) fun v H8 F8 g8 r8 => k0 v H8 F8 ((gg.trans g7).trans g8) r8
        · rw [← hkc2] at hx
          have := canon_lt hx
          omega
        · refine ⟨by omega, by decide, ?_, fun x hx => by rw [List.mem_singleton.mp hx]; exact hkc.1, fun m hm => ?_⟩
          · rw [srt_len]
            have := ddp_len (ss.map (joinStp ks))
            rw [List.length_map] at this
            omega
          · obtain ⟨m', hm', rfl⟩ := List.mem_map.mp ((ddp_mem _).mp ((srt_perm _ _).mem_iff.mp hm))
            exact ⟨hklt _ (hin m' hm').1, hklt _ (hin m' hm').2⟩
theorem x_form_of {Rs : Rs_} {H F : Hp} {ta : TE} {E : XK} {b : Bx} (ha : EvE ta Rs H F (rBox K b)) (h : b.Ok) (hL : (sws b).1.length ≤ 200) : EvE (tCall (spForm K) [] E (tCons ta tNil)) Rs H F (rBox K (formOf b)) :=
  ev_call (res := fun b : Bx => rBox K (formOf b)) b (ea_1 ha) rfl fun _ _ _ => ⟨h, hL⟩
end
end K81
set_option Elab.async false
set_option linter.all false
set_option maxRecDepth 100000
set_option maxHeartbeats 2000000
set_option autoImplicit false
/-! K81AA: form, want_signs, want_states, onward. -/
namespace K81
open PySem PySem.Spec L2
open PyProof.Rows (envOfC)
section
variable {P : Program} {w : World} {K : PySem.W.Frag} {mg : Str → Option Value} {base : Heap}
theorem ok_form (T : Hd K mg) (c_want_limited : Ce P w K mg base 3 "want_limited" ["box"] (spWantLimited K)) (c_form_of : Ce P w K mg base 9 "form_of" ["box"] (spForm K)) :
    Ce P w K mg base 10 "form" ["box"] (PSp (fun b : Bx => [rBox K b]) (fun b _ _ => b.Ok ∧ b.n ≤ 7 ∧ (sws b).1.length ≤ 200) (fun b => rBox K (formOf b))) := by
  refine ce_plain T.d_form T.glo_form sc_form (fun _ _ _ _ _ _ us hl => match us, hl with | [_], _ => rfl) (fun _ => rfl) (fun cdv A outer s H0 E hr => ⟨_, (pss_cons (ps_expr (pe_c c_want_limited (hr.mono (by decide)) rfl (pa_cons (pv 0) pa_nil)))
      (pss_one (ps_ret (pe_c c_form_of (hr.mono (by decide)) rfl (pa_cons (pv 0) pa_nil))))), ?_⟩)
  intro b F H σ Q s hd e k
  obtain ⟨h1, h2, h3⟩ : b.Ok ∧ b.n ≤ 7 ∧ (sws b).1.length ≤ 200 := hd
  refine st_drop s e (ev_call (res := fun _ => rN) b (ea_1 (ev_var rfl)) rfl fun _ _ _ => h2) fun H1 F1 g1 e1 => ?_
  exact st_ret g1.fh e1 (x_form_of (ev_var rfl) h1 h3) fun v H2 F2 g2 r => k v H2 F2 (g1.trans g2) r
abbrev spWantSigns : Sp := PSp (fun l : List Sg => [rSeq (l.map rSg)]) (fun l _ _ => l.Nodup ∧ l.length ≤ 1000) (fun _ => rN)
theorem ok_want_signs (T : Hd K mg) (c_is_list : Ce P w K mg base 1 "is_list" ["value"] spIsList) (c_is_sign : Ce P w K mg base 2 "is_sign" ["value"] spIsSign) : Ce P w K mg base 3 "want_signs" ["signs"] spWantSigns := by
  refine ce_plain T.d_want_signs T.glo_want_signs sc_want_signs (fun _ _ _ _ _ _ us hl => match us, hl with | [_], _ => rfl) (fun _ => rfl) (fun cdv A outer s H0 E hr => ⟨_, (pss_cons (ps_if (pt_not (pt_val (pe_c c_is_list (hr.mono (by decide)) rfl (pa_cons (pv 0) pa_nil)))) (pss_one ps_never) pss_nil)
      (pss_one (ps_for PassesOwn.never rfl (pi_enumS rfl T.free_enumerate (pa_cons (pv 0) pa_nil)) (tup_k (K := K) (n := 2) rfl (pgs_cons (pg_name (i := 1) sc_want_signs.nd rfl (Or.inl rfl)) (pgs_cons (pg_name (i := 2) sc_want_signs.nd rfl (Or.inl rfl)) pgs_nil))) (pss_one (ps_if (PW.pt (pw_or (pt_not (pt_val (pe_c c_is_sign (hr.mono (by decide)) rfl (pa_cons (pv 2) pa_nil)))) (pw_or1 (pt_cmpR (inS2_k (K := K) (hu65 hr)) (pv 2) (pe_slice (slS_k (K := K)) (pv 0) po_none (po_some (pv 1))) (by rfl))))) (pss_one ps_never) pss_nil))))), ?_⟩)
  intro l F H σ Q s hd e k
  obtain ⟨h3, h2⟩ : l.Nodup ∧ l.length ≤ 1000 := hd
  refine st_no s e (EvB.eq (eb_not (eb_test (ev_is_list (ev_var rfl) isq_seq))) rfl) fun H1 F1 g1 e1 => ?_
  refine st_for No g1.fh e1 (src_enumS (xs := l) (RA := rSg) (ev_var rfl)) (fun i σ' H' F' => En F' σ' [some (rSeq (l.map rSg)), none, none]) (fun H2 F2 g => (e1.mono g.ff).mask [true, false, false]) (fun i σ' H' F' H1 F1 a g => a.mono g.ff) (fun i x v σ' H' F' hx g a r N hN => ?_) fun σ' H' F' g a => k _ H' F' (g1.trans g) rfl
  obtain ⟨rfl, hx⟩ := enumL_get hx
  have hi := (List.getElem?_eq_some_iff.mp hx).1
  refine g_2 g.fh a r fun σ2 e2 _ => ?_
  refine st_no g.fh e2 (EvB.eq (eb_or (eb_not (eb_test (ev_call (res := fun _ => rB true) x.2 (ea_1 (ev_var rfl)) rfl fun _ _ _ => trivial))) fun _ => eb_test (ev_inSeq (K := K) (d := encSg x.2) (ds := (l.take x.1).map encSg) (ev_var rfl) (ev_takeS (ev_var rfl) (ev_var rfl) (by rw [List.length_map]; exact hi)) (dpr_sg x.2) (by rw [← List.map_take]; exact dprs_map dpr_sg _) (ok_sg _).shaped (ok_list ok_sg _).shaped)) ?_) fun H2 F2 g2 e3 => hN _ H2 F2 g2.up (e3.mask [true, false, false])
  rw [any_dec (fun a => (ok_sg a).pl) encSg_inj, decide_eq_false (nodup_take h3 hx)]
  rfl
theorem ok_want_states (T : Hd K mg) (c_Box_states : Cp P w K mg base 1 (He.ga K "Box") "states" (spStates K)) : Ce P w K mg base 3 "want_states" ["box", "limit"] (PSp (fun p : Bx × Nat => [rBox K p.1, rNat p.2]) (fun p _ _ => p.1.n ≤ p.2) (fun _ => rN)) := by
  refine ce_plain T.d_want_states T.glo_want_states sc_want_states (fun _ _ _ _ _ _ us hl => match us, hl with | [_, _], _ => rfl) (fun _ => rfl) (fun cdv A outer s H0 E hr => ⟨_, (pss_one (ps_if (pt_cmpR op_gt (pe_p c_Box_states (pv 0) (hr.mono (by decide))) (pv 1) (nomark _)) (pss_one ps_never) pss_nil)), ?_⟩)
  intro ⟨b, i⟩ F H σ Q s hd e k
  have hd : b.n ≤ i := hd
  exact st_no s e (eb_test (EvE.eqB (ev_I0 (x_states (b := b) (ev_var rfl)) (ev_var rfl)) (decide_eq_false (show ¬ ((b.n : Int) > (i : Int)) by omega)))) fun H1 F1 g1 e1 => k _ H1 F1 g1 rfl
/-! pairs of sets, FREE among them -/
def rPk (K : PySem.W.Frag) (p : Nat × Nat) : Rep := rD K (encPr p)
theorem pk_at {F : Hp} {v : V} {p : Nat × Nat} (h : (rPk K p).at_ F v) : ∃ a, v = .ref a ∧ SqT K F a [.int (p.1 : Nat), .int (p.2 : Nat)] := by
  have h : Dp K F v (.tuple [.int (p.1 : Nat), .int (p.2 : Nat)]) := h
  cases h with
  | tup hs hd =>
    cases hd with
    | cons h1 hd => cases hd with
      | cons h2 hd =>
        cases hd
        cases h1
        cases h2
        exact ⟨_, rfl, hs⟩
theorem pk_of {F : Hp} {a : Addr} {p : Nat × Nat} (h : SqT K F a [.int (p.1 : Nat), .int (p.2 : Nat)]) : (rPk K p).at_ F (.ref a) := Dp.tup h (.cons (.int _) (.cons (.int _) .nil))
theorem sqt_same {F F' : Hp} {a : Addr} {xs : List V} (s : Same F F') (h : SqT K F a xs) : SqT K F' a xs := h.elim (fun h => .inl (h.elim (fun h => .inl (s _ _ h)) fun ⟨o, h⟩ => .inr ⟨o, s _ _ h⟩)) fun h => .inr h
theorem ev_pk0 {Rs : Rs_} {H F : Hp} {ta tb : TE} {p : Nat × Nat} (ha : EvE ta Rs H F (rPk K p)) (hb : EvE tb Rs H F (rI (0 : Nat))) : EvE (tOp (rIxT K) ta tb) Rs H F (rNat p.1) :=
  ev_op ha hb fun H1 F1 x y g hx hy Q q => by
    obtain ⟨a, rfl, h⟩ := pk_at hx
    exact ⟨a, _, (0 : Nat), _, rfl, hy, sqt_same g.fh h, atI_nat rfl, q _ _ _ (Gr.refl g.fh) rfl⟩
theorem ev_pk1 {Rs : Rs_} {H F : Hp} {ta tb : TE} {p : Nat × Nat} (ha : EvE ta Rs H F (rPk K p)) (hb : EvE tb Rs H F (rI (1 : Nat))) : EvE (tOp (rIxT K) ta tb) Rs H F (rNat p.2) :=
  ev_op ha hb fun H1 F1 x y g hx hy Q q => by
    obtain ⟨a, rfl, h⟩ := pk_at hx
    exact ⟨a, _, (1 : Nat), _, rfl, hy, sqt_same g.fh h, atI_nat rfl, q _ _ _ (Gr.refl g.fh) rfl⟩
theorem ev_pk {Rs : Rs_} {H F : Hp} {ta tb : TE} {p : Nat × Nat} (ha : EvE ta Rs H F (rNat p.1)) (hb : EvE tb Rs H F (rNat p.2)) : EvE (tTup (tCons ta (tCons tb tNil))) Rs H F (rPk K p) :=
  EvE.to (ev_tup (ea_2 ha hb)) fun F' v _ h => by
    obtain ⟨a, vs, rfl, h1, l⟩ := h
    cases l with
    | cons r1 l => cases l with
      | cons r2 l =>
        cases l
        rw [show _ = V.int (p.1 : Nat) from r1, show _ = V.int (p.2 : Nat) from r2] at h1
        exact pk_of (SqT.of h1)
def rOp (K : PySem.W.Frag) : Option (Nat × Nat) → Rep
  | none => rN
  | some p => rPk K p
/-- onward, plainly -/
def onw (bh bw : Bx) (p : Nat × Nat) (q : Sg) : Option (Nat × Nat) :=
  if bh.behind p.1 q = 0 then some (0, 0) else if 0 < bw.behind p.2 q then some (bh.behind p.1 q, bw.behind p.2 q) else none
abbrev spOnward (K : PySem.W.Frag) : Sp := PSp (fun p : Bx × Bx × (Nat × Nat) × Sg => [rBox K p.1, rBox K p.2.1, rPk K p.2.2.1, rSg p.2.2.2]) (fun p _ _ => p.1.Ok ∧ p.2.1.Ok ∧ p.2.2.1.1 < 2 ^ p.1.n ∧ p.2.2.1.2 < 2 ^ p.2.1.n) (fun p => rOp K (onw p.1 p.2.1 p.2.2.1 p.2.2.2))
theorem ok_onward (T : Hd K mg) (c_behind_set : Ce P w K mg base 3 "behind_set" ["box", "some", "sign"] (spBehindSet K)) : Ce P w K mg base 4 "onward" ["helper", "whole", "pair", "sign"] (spOnward K) := by
  refine ce_plain T.d_onward T.glo_onward sc_onward (fun _ _ _ _ _ _ us hl => match us, hl with | [_, _, _, _], _ => rfl) (fun _ => rfl) (fun cdv A outer s H0 E hr => ⟨_, (pss_cons (ps_set (i := 4) sc_onward.nd rfl (Or.inl rfl) (pe_c c_behind_set (hr.mono (by decide)) rfl (pa_cons (pv 0) (pa_cons (pe_ix (ixt_k (K := K)) (pv 2) pe_int (fun _ _ => rfl)) (pa_cons (pv 3) pa_nil)))))
      (pss_cons (ps_if (pt_cmpR op_eq (pv 4) pe_int (nomark _)) (pss_one (ps_ret (pe_gR rfl T.FREE))) pss_nil)
      (pss_cons (ps_set (i := 5) sc_onward.nd rfl (Or.inl rfl) (pe_c c_behind_set (hr.mono (by decide)) rfl (pa_cons (pv 1) (pa_cons (pe_ix (ixt_k (K := K)) (pv 2) pe_int (fun _ _ => rfl)) (pa_cons (pv 3) pa_nil)))))
      (pss_one (ps_ret (pe_ifExp (pt_cmpR op_gt (pv 5) pe_int (nomark _)) (pe_tup (pa_cons (pv 4) (pa_cons (pv 5) pa_nil))) pe_non)))))), ?_⟩)
  intro ⟨bh, bw, p, q⟩ F H σ Q s hd e k
  obtain ⟨h1, h2, h3, h4⟩ : bh.Ok ∧ bw.Ok ∧ p.1 < 2 ^ bh.n ∧ p.2 < 2 ^ bw.n := hd
  have k : ∀ v H' F', G0 H F H' F' → (rOp K (onw bh bw p q)).at_ F' v → Q v H' := k
  refine st_asg s e (x_behind (ev_var rfl) (ev_pk0 (ev_var rfl) ev_c) (ev_var rfl) h1 h3) fun σ1 H1 F1 g1 e1 => ?_
  unfold onw at k
  generalize bh.behind p.1 q = gh at *
  dsimp only
  refine st_ifC (fun σ' H' F' => gh ≠ 0 ∧ G0 H F H' F' ∧ En F' σ' [some (rBox K bh), some (rBox K bw), some (rPk K p), some (rSg q), some (rNat gh), none]) g1.fh e1 (eb_test (EvE.eqB (ev_eq (ev_var rfl) ev_c rfl) (j := decide (gh = 0)) (len_dec (m := 0)))) (fun hz H2 F2 g2 e2 N hN => ?_) (fun hz H2 F2 g2 e2 => ⟨of_decide_eq_false hz, g1.trans g2, e2⟩) fun σ2 H2 F2 ⟨hz, g2, e2⟩ => ?_
  · rw [if_pos (of_decide_eq_true hz)] at k
    exact st_ret g2.fh e2 (EvE.to ev_c fun F' v _ h => by rw [show v = _ from h]; exact pk_of (p := (0, 0)) (T.FREE_at F')) fun v H3 F3 g3 r => k v H3 F3 ((g1.trans g2).trans g3) r
  · rw [if_neg hz] at k
    refine st_asg g2.fh e2 (x_behind (ev_var rfl) (ev_pk1 (ev_var rfl) ev_c) (ev_var rfl) h2 h4) fun σ3 H3 F3 g3 e3 => ?_
    generalize bw.behind p.2 q = gw at *
    dsimp only
    refine st_ret g3.fh e3 (ev_if (b := decide (0 < gw)) (eb_test (ev_pos (ev_var rfl))) (fun h => ?_) fun h => ?_) fun v H4 F4 g4 r => k v H4 F4 ((g2.trans g3).trans g4) r
    · rw [if_pos (of_decide_eq_true h)]
      exact ev_pk (p := (gh, gw)) (ev_var rfl) (ev_var rfl)
    · rw [if_neg (of_decide_eq_false h)]
      exact ev_c
theorem x_onward {Rs : Rs_} {H F : Hp} {ta tb tc td : TE} {E : XK} {bh bw : Bx} {p : Nat × Nat} {q : Sg} (ha : EvE ta Rs H F (rBox K bh)) (hb : EvE tb Rs H F (rBox K bw)) (hc : EvE tc Rs H F (rPk K p)) (hd : EvE td Rs H F (rSg q)) (h1 : bh.Ok) (h2 : bw.Ok) (h3 : p.1 < 2 ^ bh.n) (h4 : p.2 < 2 ^ bw.n) :
    EvE (tCall (spOnward K) [] E (tCons ta (tCons tb (tCons tc (tCons td tNil))))) Rs H F (rOp K (onw bh bw p q)) := ev_call (res := fun p : Bx × Bx × (Nat × Nat) × Sg => rOp K (onw p.1 p.2.1 p.2.2.1 p.2.2.2)) (bh, bw, p, q) (ea_cons ha (ea_cons hb (ea_2 hc hd))) rfl fun _ _ _ => ⟨h1, h2, h3, h4⟩
end
end K81
set_option Elab.async false
set_option linter.all false
set_option maxRecDepth 100000
set_option maxHeartbeats 2000000
set_option autoImplicit false
/-! K81AB: room. -/
namespace K81
open PySem PySem.Spec L2
open PyProof.Rows (envOfC)
/-! ### plainly -/
section
variable (bh bw : Bx) (signs : List Sg)
def rm1 (k : Nat) (a : List (Nat × Nat) × List Stp) (q : Sg) : List (Nat × Nat) × List Stp :=
  match onw bh bw (a.1.getD k (0, 0)) q with
  | none => a
  | some p => (ins1 a.1 p, a.2 ++ [(k, q, idx (ins1 a.1 p) p)])
def rmR (k : Nat) (a : List (Nat × Nat) × List Stp) : List (Nat × Nat) × List Stp := if k < a.1.length then signs.foldl (rm1 bh bw k) a else a
def rmAt : Nat → List (Nat × Nat) × List Stp
  | 0 => ([(bh.start, bw.start)], [])
  | k + 1 => rmR bh bw signs k (rmAt k)
def rm : List (Nat × Nat) × List Stp := rmAt bh bw signs 128
/-- the box before its form -/
def rmBox : Bx := mkBx (rm bh bw signs).1.length [0] (rm bh bw signs).2
variable {bh bw : Bx} {signs : List Sg}
theorem ins1_pre {α : Type} [DecidableEq α] (l : List α) (x : α) : l <+: ins1 l x := by
  unfold ins1
  split
  · exact List.prefix_refl _
  · exact List.prefix_append _ _
theorem rm1_pre (k : Nat) (a : List (Nat × Nat) × List Stp) (q : Sg) : a.1 <+: (rm1 bh bw k a q).1 := by
  unfold rm1
  split
  · exact List.prefix_refl _
  · exact ins1_pre _ _
theorem rm1_len (k : Nat) (a : List (Nat × Nat) × List Stp) (q : Sg) : (rm1 bh bw k a q).2.length ≤ a.2.length + 1 := by
  unfold rm1
  split
  · omega
  · simp
theorem rmF_pre (k : Nat) : ∀ (l : List Sg) (a : List (Nat × Nat) × List Stp), a.1 <+: (l.foldl (rm1 bh bw k) a).1
  | [], a => List.prefix_refl _
  | s :: l, a => (rm1_pre k a s).trans (rmF_pre k l _)
theorem rmF_len (k : Nat) : ∀ (l : List Sg) (a : List (Nat × Nat) × List Stp), (l.foldl (rm1 bh bw k) a).2.length ≤ a.2.length + l.length
  | [], a => Nat.le_refl _
  | s :: l, a => by
    have h1 := rmF_len k l (rm1 bh bw k a s)
    have h2 := rm1_len (bh := bh) (bw := bw) k a s
    rw [List.foldl_cons, List.length_cons]
    omega
theorem rmAt_pre (k : Nat) : (rmAt bh bw signs k).1 <+: (rmAt bh bw signs (k + 1)).1 := by
  show _ <+: (rmR bh bw signs k (rmAt bh bw signs k)).1
  unfold rmR
  split
  · exact rmF_pre _ _ _
  · exact List.prefix_refl _
theorem rmAt_len (hs : signs.length ≤ 5) : ∀ k, (rmAt bh bw signs k).2.length ≤ 5 * k
  | 0 => Nat.le_refl _
  | k + 1 => by
    have h := rmAt_len hs k
    show (rmR bh bw signs k (rmAt bh bw signs k)).2.length ≤ _
    unfold rmR
    split
    · have h1 := rmF_len (bh := bh) (bw := bw) k signs (rmAt bh bw signs k)
      omega
    · omega
theorem rm_stop {k : Nat} (h : ¬ k < (rmAt bh bw signs k).1.length) : ∀ {j : Nat}, k ≤ j → rmAt bh bw signs j = rmAt bh bw signs k
  | 0, hj => by rw [Nat.le_zero.mp hj]
  | j + 1, hj => by
    rcases Nat.eq_or_lt_of_le hj with e | e
    · rw [e]
    · have ih := rm_stop h (Nat.le_of_lt_succ e)
      show rmR bh bw signs j (rmAt bh bw signs j) = _
      unfold rmR
      rw [ih, if_neg (by omega)]
/-- what all pairs are, what all steps are -/
structure RmOk (bh bw : Bx) (a : List (Nat × Nat) × List Stp) : Prop where
  nd : a.1.Nodup
  lt : ∀ p ∈ a.1, p.1 < 2 ^ bh.n ∧ p.2 < 2 ^ bw.n
  inp : ∀ m ∈ a.2, m.1 < a.1.length ∧ m.2.2 < a.1.length
theorem ins1_nodup {α : Type} [DecidableEq α] {l : List α} {x : α} (h : l.Nodup) : (ins1 l x).Nodup := by
  unfold ins1
  split
  · exact h
  · rename_i hx
    rw [List.nodup_append]
    refine ⟨h, List.nodup_cons.mpr ⟨List.not_mem_nil, List.nodup_nil⟩, fun a ha b hb e => hx ?_⟩
    rw [List.mem_singleton.mp hb] at e
    exact e ▸ ha
theorem onw_lt (h1 : bh.Ok) (h2 : bw.Ok) {p p' : Nat × Nat} {q : Sg} (h : onw bh bw p q = some p') : p'.1 < 2 ^ bh.n ∧ p'.2 < 2 ^ bw.n := by
  unfold onw at h
  split at h
  · cases h
    exact ⟨Nat.two_pow_pos _, Nat.two_pow_pos _⟩
  · split at h
    · cases h
      exact ⟨Bx.behind_lt h1 _ _, Bx.behind_lt h2 _ _⟩
    · cases h
theorem rm1_ok (h1 : bh.Ok) (h2 : bw.Ok) {k : Nat} {a : List (Nat × Nat) × List Stp} {q : Sg} (hk : k < a.1.length) (h : RmOk bh bw a) : RmOk bh bw (rm1 bh bw k a q) := by
  unfold rm1
  split
  · exact h
  · rename_i p hp
    have hpre := (ins1_pre a.1 p).length_le
    refine ⟨ins1_nodup h.nd, fun x hx => ?_, fun m hm => ?_⟩
    · rcases ins1_mem.mp hx with hx | hx
      · exact h.lt x hx
      · rw [hx]; exact onw_lt h1 h2 hp
    · rcases List.mem_append.mp hm with hm | hm
      · exact ⟨Nat.lt_of_lt_of_le (h.inp m hm).1 hpre, Nat.lt_of_lt_of_le (h.inp m hm).2 hpre⟩
      · rw [List.mem_singleton.mp hm]
        exact ⟨Nat.lt_of_lt_of_le hk hpre, idx_lt (ins1_mem.mpr (.inr rfl))⟩
theorem rmF_ok (h1 : bh.Ok) (h2 : bw.Ok) {k : Nat} : ∀ (l : List Sg) {a : List (Nat × Nat) × List Stp}, k < a.1.length → RmOk bh bw a → RmOk bh bw (l.foldl (rm1 bh bw k) a)
  | [], _, _, h => h
  | s :: l, a, hk, h => rmF_ok h1 h2 l (Nat.lt_of_lt_of_le hk (rm1_pre k a s).length_le) (rm1_ok h1 h2 hk h)
theorem rmAt_ok (h1 : bh.Ok) (h2 : bw.Ok) : ∀ k, RmOk bh bw (rmAt bh bw signs k)
  | 0 => ⟨List.nodup_cons.mpr ⟨List.not_mem_nil, List.nodup_nil⟩, fun p hp => by rw [List.mem_singleton.mp hp]; exact ⟨Bx.start_lt h1, Bx.start_lt h2⟩, fun m hm => nomatch hm⟩
  | k + 1 => by
    show RmOk bh bw (rmR bh bw signs k (rmAt bh bw signs k))
    unfold rmR
    split
    · rename_i h
      exact rmF_ok h1 h2 _ h (rmAt_ok h1 h2 k)
    · exact rmAt_ok h1 h2 k
/-- there are few pairs -/
theorem RmOk.few {a : List (Nat × Nat) × List Stp} (h : RmOk bh bw a) (hn : bh.n ≤ 3) (hw : bw.n ≤ 4) : a.1.length ≤ 128 := by
  have := nat_nodup_len (a.1.map fun p => p.1 * 16 + p.2) (List.range 128) ?_ fun x hx => ?_
  · rw [List.length_map, List.length_range] at this
    exact this
  · refine List.pairwise_map.mpr (List.Pairwise.imp_of_mem (fun {p p'} hp hp' hne e => hne ?_) h.nd)
    have a1 := (h.lt p hp).2
    have a2 := (h.lt p' hp').2
    have a3 : 2 ^ bw.n ≤ 2 ^ 4 := Nat.pow_le_pow_right (by decide) hw
    exact Prod.ext (by omega) (by omega)
  · obtain ⟨p, hp, rfl⟩ := List.mem_map.mp hx
    have a1 := (h.lt p hp).1
    have a2 := (h.lt p hp).2
    have a3 : 2 ^ bw.n ≤ 2 ^ 4 := Nat.pow_le_pow_right (by decide) hw
    have a4 : 2 ^ bh.n ≤ 2 ^ 3 := Nat.pow_le_pow_right (by decide) hn
    rw [List.mem_range]
    omega
theorem rm_raw (h1 : bh.Ok) (h2 : bw.Ok) (hn : bh.n ≤ 3) (hw : bw.n ≤ 4) (hs : signs.length ≤ 5) : Raw (rm bh bw signs).1.length [0] (rm bh bw signs).2 := by
  have ok := rmAt_ok (signs := signs) h1 h2 128
  have h3 := ok.few hn hw
  have h4 := rmAt_len (bh := bh) (bw := bw) hs 128
  have hpos : 0 < (rmAt bh bw signs 128).1.length := by
    have : ∀ k, 0 < (rmAt bh bw signs k).1.length := fun k => by
      induction k with
      | zero => exact Nat.zero_lt_one
      | succ k ih => exact Nat.lt_of_lt_of_le ih (rmAt_pre k).length_le
    exact this 128
  unfold rm
  exact ⟨by omega, by decide, by omega, fun x hx => by rw [List.mem_singleton.mp hx]; exact hpos, ok.inp⟩
end
theorem idx_first {α : Type} [DecidableEq α] {x z : α} : ∀ {l : List α} {m : Nat}, m < idx l x → l[m]? = some z → z ≠ x
  | [], _, _, h => by cases h
  | y :: l, m, hm, h => by
    by_cases e : y = x
    · subst e
      rw [idx_cons] at hm
      omega
    · rw [idx_cons_ne e] at hm
      cases m with
      | zero => cases h; exact e
      | succ m => exact idx_first (l := l) (m := m) (by omega) h
section
variable {K : PySem.W.Frag} {Rs : Rs_} {H F : Hp} {ta tb : TE} {l : Addr}
/-- x not in l, l.index(x), for a list that changes -/
theorem ev_ninML {α : Type} [DecidableEq α] {enc : α → PyData} {RA : α → Rep} {ls : List α} {x : α} {n : Nat} (m : ML l (ls.map RA) H F) (hd : ∀ a, DpR K (RA a) (enc a)) (ho : ∀ a, Ok (enc a) n) (hn : n < 60) (hi : ∀ a b, enc a = enc b → a = b) (ha : EvE ta Rs H F (RA x)) (hb : EvE tb Rs H F (rV (.ref l))) :
    EvE (tOp (rNotInD K) ta tb) Rs H F (rB (!decide (x ∈ ls))) := by
  obtain ⟨nf, us, h1, r1⟩ := m
  refine EvE.eqB (ev_ninM (ds := ls.map enc) h1 ((dprs_map hd ls).all r1) ha hb (hd x) ((ho x).shaped (by omega)) ((ok_list ho ls).shaped (by omega))) (by rw [any_dec (fun a => (ho a).pl) hi])
theorem ev_idxML {α : Type} [DecidableEq α] {enc : α → PyData} {RA : α → Rep} {ls : List α} {x : α} {n : Nat} (m : ML l (ls.map RA) H F) (hd : ∀ a, DpR K (RA a) (enc a)) (ho : ∀ a, Ok (enc a) n) (hn : n < 60) (hi : ∀ a b, enc a = enc b → a = b) (ha : EvE ta Rs H F (rV (.ref l))) (hb : EvE tb Rs H F (RA x)) (hx : x ∈ ls) :
    EvE (tBM K "list" (rIndexD K) ta (tCons tb tNil)) Rs H F (rNat (idx ls x)) := by
  obtain ⟨nf, us, h1, r1⟩ := m
  intro σ H1 F1 g e Q q
  refine ha σ H1 F1 g e _ fun v H2 F2 g2 r => ?_
  have r : v = V.ref l := r
  subst r
  refine ⟨tyv_l (G0.h (g.trans g2) h1), hb σ H2 F2 (g.trans g2) (e.mono g2.ff) _ fun u H3 F3 g3 r3 => ?_⟩
  have gg := (g.trans g2).trans g3
  have ev : ∀ a b, PyData.eqv (enc a) (enc b) = decide (a = b) := fun a b => eqv_dec (fun a => (ho a).pl) hi a b
  refine ⟨l, u, enc x, ls.map enc, idx ls x, enc x, rfl, rfl, .lst (SqL.of (G0.h gg h1)) ((dprs_map hd ls).all (r1.mono (gg.ff.trans gg.fh))), hd x _ _ ((RA x).mono g3.fh r3), (ok_list ho ls).shaped (by omega), (ho x).shaped (by omega), ?_, by rw [ev]; simp, fun m z' hm hz => ?_, q _ H3 F3 (g2.trans g3) rfl⟩
  · rw [List.getElem?_map, idx_get hx]; rfl
  · rw [List.getElem?_map] at hz
    cases ho : ls[m]? with
    | none => rw [ho] at hz; cases hz
    | some z =>
      rw [ho] at hz
      cases hz
      rw [ev, decide_eq_false (idx_first hm ho)]
end
section
variable {P : Program} {w : World} {K : PySem.W.Frag} {mg : Str → Option Value} {base : Heap}
abbrev rmDom (p : Bx × Bx × List Sg) : Prop := p.1.Ok ∧ p.2.1.Ok ∧ p.1.n ≤ 3 ∧ p.2.1.n ≤ 4 ∧ p.2.2.Nodup ∧ (sws (rmBox p.1 p.2.1 p.2.2)).1.length ≤ 200
abbrev spRoom (K : PySem.W.Frag) : Sp := PSp (fun p : Bx × Bx × List Sg => [rBox K p.1, rBox K p.2.1, rSeq (p.2.2.map rSg)]) (fun p _ _ => rmDom p) (fun p => rBox K (formOf (rmBox p.1 p.2.1 p.2.2)))
theorem ok_pr60 : ∀ a, Ok (encPr a) 1 := ok_pr
theorem sg_few {l : List Sg} (h : l.Nodup) : l.length ≤ 5 := by
  have := signs_few l
  rwa [ddp_id h] at this
theorem body_room (T : Hd K mg) (c_want_signs : Ce P w K mg base 3 "want_signs" ["signs"] spWantSigns) (c_want_states : Ce P w K mg base 3 "want_states" ["box", "limit"] (PSp (fun p : Bx × Nat => [rBox K p.1, rNat p.2]) (fun p _ _ => p.1.n ≤ p.2) (fun _ => rN)))
    (c_start_set : Ce P w K mg base 2 "start_set" ["box"] (spStartSet K)) (c_onward : Ce P w K mg base 4 "onward" ["helper", "whole", "pair", "sign"] (spOnward K)) (c_made_box : Ce P w K mg base 8 "made_box" ["many", "starts", "steps"] (spMade K)) (c_form_of : Ce P w K mg base 9 "form_of" ["box"] (spForm K)) :
    Body P w K mg base 9 ["helper", "whole", "signs", "pairs", "steps", "at", "call", "answer", "after"] "room" s_room (He.ga K "room") (fun p : Bx × Bx × List Sg => [rBox K p.1, rBox K p.2.1, rSeq (p.2.2.map rSg)]) (fun p _ _ => rmDom p) (fun p => rBox K (formOf (rmBox p.1 p.2.1 p.2.2))) := by
  refine fun cdv A outer s H0 E hr => ⟨_, (pss_cons (ps_expr (pe_c c_want_signs (hr.mono (by decide)) rfl (pa_cons (pv 2) pa_nil)))
      (pss_cons (ps_expr (pe_c c_want_states (hr.mono (by decide)) rfl (pa_cons (pv 0) (pa_cons (pe_gI rfl T.MOST_HELPER_STATES) pa_nil))))
      (pss_cons (ps_expr (pe_c c_want_states (hr.mono (by decide)) rfl (pa_cons (pv 1) (pa_cons (pe_gI rfl T.MOST_WHOLE_STATES) pa_nil))))
      (pss_cons (ps_par3 (i := 3) (j := 4) (l := 5) (by rfl) sc_room.nd rfl rfl rfl (by decide) (by decide) (by decide) rfl rfl rfl (pa_cons (pe_lst (pa_cons (pe_tup (pa_cons (pe_c c_start_set (hr.mono (by decide)) rfl (pa_cons (pv 0) pa_nil)) (pa_cons (pe_c c_start_set (hr.mono (by decide)) rfl (pa_cons (pv 1) pa_nil)) pa_nil))) pa_nil)) (pa_cons (pe_lst pa_nil) (pa_cons pe_int pa_nil))) (by rfl))
      (pss_cons (ps_while PassesOwn.never (pt_cmpR op_lt (pv 5) (pe_callB (len_k (K := K)) (by rfl) T.free_len (by decide +kernel) (pa_cons (pv 3) pa_nil)) (nomark _)) (pss_cons (ps_for PassesOwn.never rfl (pi_seq (pv 2)) (tup_k (K := K) (n := 2) rfl (pgs_cons (pg_name (i := 6) sc_room.nd rfl (Or.inl rfl)) (pgs_cons (pg_name (i := 7) sc_room.nd rfl (Or.inl rfl)) pgs_nil))) (pss_cons (ps_set (i := 8) sc_room.nd rfl (Or.inl rfl) (pe_c c_onward (hr.mono (by decide)) rfl (pa_cons (pv 0) (pa_cons (pv 1) (pa_cons (pe_ix (ixl_k (K := K)) (pv 3) (pv 5) (fun _ _ => rfl)) (pa_cons (pe_tup (pa_cons (pv 6) (pa_cons (pv 7) pa_nil))) pa_nil))))))
      (pss_one (ps_if (pt_cmpR op_notN (pv 8) pe_non (nomark _)) (pss_cons (ps_if (pt_cmpR (nid_k (K := K) (hu65 hr)) (pv 8) (pv 3) (by rfl)) (pss_one (ps_expr (bm_k (K := K) PySem.F.plainAttrs_list PySem.F.slot_list_append PySem.F.type_list_append mt_append (pv 3) (pa_cons (pv 8) pa_nil)))) pss_nil)
      (pss_one (ps_expr (bm_k (K := K) PySem.F.plainAttrs_list PySem.F.slot_list_append PySem.F.type_list_append mt_append (pv 4) (pa_cons (pe_tup (pa_cons (pv 5) (pa_cons (pv 6) (pa_cons (pv 7) (pa_cons (bm_k (K := K) PySem.F.plainAttrs_list PySem.F.slot_list_index PySem.F.type_list_index (idx_k (K := K) (hu65 hr)) (pv 3) (pa_cons (pv 8) pa_nil)) pa_nil))))) pa_nil))))) pss_nil))))
      (pss_one (ps_set (i := 5) sc_room.nd rfl (Or.inl rfl) (pe_op op_add (pv 5) pe_int)))))
      (pss_one (ps_ret (pe_c c_form_of (hr.mono (by decide)) rfl (pa_cons (pe_c c_made_box (hr.mono (by decide)) rfl (pa_cons (pe_callB (len_k (K := K)) (by rfl) T.free_len (by decide +kernel) (pa_cons (pv 3) pa_nil)) (pa_cons (pe_lst (pa_cons pe_int pa_nil)) (pa_cons (pv 4) pa_nil)))) pa_nil))))))))), ?_⟩
  intro ⟨bh, bw, sg⟩ F H σ Q s hd e k0
  obtain ⟨h1, h2, hn, hw, hnd, hL⟩ : rmDom (bh, bw, sg) := hd
  have hn : bh.n ≤ 3 := hn
  have hw : bw.n ≤ 4 := hw
  have hnd : sg.Nodup := hnd
  have hs5 := sg_few hnd
  have k0 : ∀ v H' F', G0 H F H' F' → (rBox K (formOf (rmBox bh bw sg))).at_ F' v → Q v H' := k0
  have hL : (sws (rmBox bh bw sg)).1.length ≤ 200 := hL
  have big : 1000000 < sizeLine := by decide
  refine st_drop s e (ev_call (res := fun _ => rN) sg (ea_1 (ev_var rfl)) rfl fun _ _ _ => ⟨hnd, Nat.le_trans hs5 (by decide)⟩) fun H1 F1 g1 e1 => ?_
  dsimp only
  refine st_drop g1.fh e1 (ev_call (res := fun _ => rN) (bh, 3) (ea_2 (ev_var rfl) ev_c) rfl fun _ _ _ => hn) fun H2 F2 g2 e2 => ?_
  dsimp only
  refine st_drop g2.fh e2 (ev_call (res := fun _ => rN) (bw, 4) (ea_2 (ev_var rfl) ev_c) rfl fun _ _ _ => hw) fun H3 F3 g3 e3 => ?_
  dsimp only
  refine st_par3MME g3.fh e3 (ev_lstM (ea_1 (ev_pk (K := K) (p := (bh.start, bw.start)) (x_start (ev_var rfl) h1) (x_start (ev_var rfl) h2)))) (ev_lstM ea_nil) (A := rNat 0) ev_c (fun _ _ _ _ _ m g => m.grow g) (fun _ _ _ _ _ m g => m.grow g) (fun _ _ _ m => m.live) fun lp ls σ4 H4 F4 g4 nlp nls hne mp ms e4 => ?_
  dsimp only
  have hok := rmAt_ok (signs := sg) h1 h2
  have hfew := fun k => (hok k).few hn hw
  refine st_while (InL [lp, ls]) g4.fh (fun m σ' H' F' => ∃ k, m = 129 - k ∧ k ≤ 128 ∧ En F' σ' [some (rBox K bh), some (rBox K bw), some (rSeq (sg.map rSg)), some (rV (.ref lp)), some (rV (.ref ls)), some (rNat k), none, none, none] ∧ ML lp ((rmAt bh bw sg k).1.map (rPk K)) H' F' ∧ ML ls ((rmAt bh bw sg k).2.map rStp) H' F') 129 ⟨0, rfl, by decide, e4, mp, ms⟩ fun m σ' H' F' g ⟨k, hm, hk, a, m1, m2⟩ => ?_
  refine ⟨_, decide (k < (rmAt bh bw sg k).1.length), a, eb_test (EvE.eqB (ev_ltN (ev_var rfl) (ev_lenML m1 (ev_var rfl))) (by rw [List.length_map])), fun hlt H5 F5 g5 N hN => ?_, fun hlt H5 F5 g5 => ?_⟩
  · -- one pair
    have hlt := of_decide_eq_true hlt
    have hk1 : k < 128 := Nat.lt_of_lt_of_le hlt (hfew k)
    have hnext : rmAt bh bw sg (k + 1) = sg.foldl (rm1 bh bw k) (rmAt bh bw sg k) := if_pos hlt
    refine st_for (InL [lp, ls]) g5.fh (a.mono g5.ff) (src_seq (xs := sg) (RA := rSg) (ev_var rfl)) (fun i σ' H' F' => En F' σ' [some (rBox K bh), some (rBox K bw), some (rSeq (sg.map rSg)), some (rV (.ref lp)), some (rV (.ref ls)), some (rNat k), none, none, none] ∧
        ML lp (((sg.take i).foldl (rm1 bh bw k) (rmAt bh bw sg k)).1.map (rPk K)) H' F' ∧ ML ls (((sg.take i).foldl (rm1 bh bw k) (rmAt bh bw sg k)).2.map rStp) H' F')
      (fun H6 F6 g6 => ⟨(a.mono g5.ff).mono g6.ff, (m1.grow g5).grow g6, (m2.grow g5).grow g6⟩) (fun i σ' H' F' H1 F1 ⟨a, w1, w2⟩ g => ⟨a.mono g.ff, w1.grow g, w2.grow g⟩) (fun i q v σ6 H6 F6 hq g6 ⟨a6, w1, w2⟩ r N6 hN6 => ?_) fun σ6 H6 F6 g6 ⟨a6, w1, w2⟩ => ?_
    · have hsn : (sg.take (i + 1)).foldl (rm1 bh bw k) (rmAt bh bw sg k) = rm1 bh bw k ((sg.take i).foldl (rm1 bh bw k) (rmAt bh bw sg k)) q := by
        rw [take_snoc hq, List.foldl_append]; rfl
      have hAok := rmF_ok h1 h2 (sg.take i) hlt (hok k)
      have hpre := (rmF_pre (bh := bh) (bw := bw) k (sg.take i) (rmAt bh bw sg k)).length_le
      have hsl : ((sg.take i).foldl (rm1 bh bw k) (rmAt bh bw sg k)).2.length ≤ 1000 := by
        have a1 := rmF_len (bh := bh) (bw := bw) k (sg.take i) (rmAt bh bw sg k)
        have a2 := rmAt_len (bh := bh) (bw := bw) hs5 k
        rw [List.length_take] at a1
        omega
      rw [hsn] at hN6
      generalize (sg.take i).foldl (rm1 bh bw k) (rmAt bh bw sg k) = A6 at *
      have hAf := hAok.few hn hw
      have hkl : k < A6.1.length := Nat.lt_of_lt_of_le hlt hpre
      have hpm : A6.1.getD k (0, 0) ∈ A6.1 := by
        rw [List.getD_eq_getElem?_getD, List.getElem?_eq_getElem hkl]
        exact List.getElem_mem hkl
      have hplt := hAok.lt _ hpm
      refine g_2 (R1 := rS (sgC q)) (R2 := rS (sgA q)) g6.fh a6 r fun σ7 e7 _ => ?_
      dsimp only
      refine st_asg g6.fh e7 (x_onward (p := A6.1.getD k (0, 0)) (q := q) (ev_var rfl) (ev_var rfl) (ev_ixML (j := k) w1 (ev_var rfl) (ev_var rfl) (map_at (0, 0) hkl)) (ev_tup (ea_2 (ev_var rfl) (ev_var rfl))) h1 h2 hplt.1 hplt.2) fun σ8 H8 F8 g8 e8 => ?_
      have w18 := w1.grow g8
      have w28 := w2.grow g8
      unfold rm1 at hN6
      cases ho : onw bh bw (A6.1.getD k (0, 0)) q with
      | none =>
        rw [ho] at hN6 e8
        dsimp only at hN6 ⊢
        exact st_no g8.fh e8 (eb_test (ev_notN (b := true) (ev_var rfl) fun F v h => by rw [show v = V.non from h]; rfl)) fun H9 F9 g9 e9 => hN6 _ H9 F9 (g8.trans g9).up ⟨e9.mask [true, true, true, true, true, true, false, false, false], w18.grow g9, w28.grow g9⟩
      | some p =>
        rw [ho] at hN6 e8
        dsimp only at hN6 ⊢
        have hnn : ∀ F v, (rPk K p).at_ F v → decide (v = V.non) = false := fun F v h => by
          obtain ⟨a, rfl, _⟩ := pk_at h
          rfl
        refine st_if (b := true) g8.fh e8 (eb_test (ev_notN (b := false) (ev_var rfl) hnn)) (fun _ H9 F9 g9 e9 => ?_) (fun z => nomatch z)
        have w19 := w18.grow g9
        have w29 := w28.grow g9
        refine st_ifC (fun σ' H' F' => Gr (InL [lp, ls]) H6 F6 H' F' ∧ En F' σ' [some (rBox K bh), some (rBox K bw), some (rSeq (sg.map rSg)), some (rV (.ref lp)), some (rV (.ref ls)), some (rNat k), some (rS (sgC q)), some (rS (sgA q)), some (rPk K p)] ∧ ML lp ((ins1 A6.1 p).map (rPk K)) H' F' ∧ ML ls (A6.2.map rStp) H' F') g9.fh e9
          (eb_test (ev_ninML (enc := encPr) w19 (fun _ => dpr_D) ok_pr (by decide) encPr_inj (ev_var rfl) (ev_var rfl))) (fun hnin H10 F10 g10 e10 N10 hN10 => ?_) (fun hin H10 F10 g10 e10 => ⟨((g8.trans g9).trans g10).up, e10, ?_, w29.grow g10⟩) fun σ10 H10 F10 ⟨g10, e10, w10, v10⟩ => ?_
        · have hnin : p ∉ A6.1 := by simpa using hnin
          refine st_appM g10.fh e10 (w19.grow g10) (ev_var rfl) (A := rPk K p) (ev_var rfl) (by rw [List.length_map]; omega) fun H11 F11 g11 f11 m11 => hN10 _ H11 F11 ⟨((g8.trans g9).trans g10).up.trans (gr_at (by simp) g11), e10.mono f11, ?_, (w29.grow g10).gr g11 hne.symm⟩
          unfold ins1
          rw [if_neg hnin, List.map_append]
          exact m11
        · have hin : p ∈ A6.1 := by simpa using hin
          unfold ins1
          rw [if_pos hin]
          exact w19.grow g10
        · have hpi : p ∈ ins1 A6.1 p := ins1_mem.mpr (.inr rfl)
          dsimp only
          refine st_appM g10.fh e10 v10 (ev_var rfl) (A := rStp (k, q, idx (ins1 A6.1 p) p)) (ev_tup (ea_cons (ev_var rfl) (ea_cons (ev_var rfl) (ea_2 (ev_var rfl) (ev_idxML (enc := encPr) w10 (fun _ => dpr_D) ok_pr (by decide) encPr_inj (ev_var rfl) (ev_var rfl) hpi))))) (by rw [List.length_map]; omega) fun H11 F11 g11 f11 m11 => hN6 _ H11 F11 (g10.trans (gr_at (by simp) g11)) ⟨(e10.mono f11).mask [true, true, true, true, true, true, false, false, false], w10.gr g11 hne, ?_⟩
          rw [List.map_append]
          exact m11
    · rw [List.take_length, ← hnext] at w1 w2
      dsimp only
      refine st_asg g6.fh a6 (ev_add (a := k) (b := 1) (ev_var rfl) ev_c) fun σ7 H7 F7 g7 e7 => hN (129 - (k + 1)) _ H7 F7 (by omega) ((g5.up.trans g6).trans g7.up) ⟨k + 1, rfl, by omega, e7.mask [true, true, true, true, true, true, false, false, false], w1.grow g7, w2.grow g7⟩
  · -- the end
    have hlt := of_decide_eq_false hlt
    have hfin : rm bh bw sg = rmAt bh bw sg k := rm_stop hlt hk
    rw [← hfin] at m1 m2
    have gH : G0 H F H5 F5 := ((((g1.trans g2).trans g3).trans g4).drop g fun x hx => by
      rcases List.mem_cons.mp hx with rfl | hx
      · exact ((g1.trans g2).trans g3).none nlp
      · rw [List.mem_singleton.mp hx]; exact ((g1.trans g2).trans g3).none nls).trans g5
    obtain ⟨F6, g6, f6, r1, r2⟩ := (m1.grow g5).fz2 (m2.grow g5) hne gH (((g1.trans g2).trans g3).none nlp) (((g1.trans g2).trans g3).none nls)
    have raw := rm_raw (signs := sg) h1 h2 hn hw hs5
    dsimp only
    refine st_ret g6.fh (a.mono (g5.ff.trans f6)) (x_form_of (b := rmBox bh bw sg) (x_made (n := (rm bh bw sg).1.length) (st := [0]) (sp := (rm bh bw sg).2) (EvE.eqI (ev_lenL (ev_ref rfl r1)) (by rw [List.length_map])) (ev_lst (ea_1 ev_c)) (ev_ref rfl r2) raw) raw.ok hL) fun v H7 F7 g7 r7 => k0 v H7 F7 (g6.trans g7) r7
theorem ok_room (T : Hd K mg) (c_want_signs : Ce P w K mg base 3 "want_signs" ["signs"] spWantSigns) (c_want_states : Ce P w K mg base 3 "want_states" ["box", "limit"] (PSp (fun p : Bx × Nat => [rBox K p.1, rNat p.2]) (fun p _ _ => p.1.n ≤ p.2) (fun _ => rN)))
    (c_start_set : Ce P w K mg base 2 "start_set" ["box"] (spStartSet K)) (c_onward : Ce P w K mg base 4 "onward" ["helper", "whole", "pair", "sign"] (spOnward K)) (c_made_box : Ce P w K mg base 8 "made_box" ["many", "starts", "steps"] (spMade K)) (c_form_of : Ce P w K mg base 9 "form_of" ["box"] (spForm K)) :
    Ce P w K mg base 10 "room" ["helper", "whole", "signs"] (spRoom K) := ce_plain T.d_room T.glo_room sc_room (fun _ _ _ _ _ _ us hl => match us, hl with | [_, _, _], _ => rfl) (fun _ => rfl) (body_room T c_want_signs c_want_states c_start_set c_onward c_made_box c_form_of)
end
end K81
set_option Elab.async false
set_option linter.all false
set_option maxRecDepth 100000
set_option maxHeartbeats 2000000
set_option autoImplicit false
/-! K81AC: box[state]. -/
namespace K81
open PySem PySem.Spec L2
open PyProof.Rows (envOfC)
section
variable (P : Program) (w : World) (K : PySem.W.Frag) (mg : Str → Option Value) (base : Heap)
/-- an own __getitem__ -/
structure Ci (k : Nat) (C : Addr) (ps : List Str) (sp : Sp) : Prop where
  ex : ∃ (f : Addr) (fd : FuncData), FnOk P w K mg base CX0 k f fd ps sp ∧ Meth K C "__getitem__" f ∧ PySem.W.fnIn K f = true ∧ Binds K fd ps []
end
def tItB (C : Addr) (sp : Sp) (ta tb : TE) : TE := fun σ H Q => ta σ H fun x H1 => tb σ H1 fun y H2 => ∃ a dx fs, x = .ref a ∧ H2 a = some (.ins C dx fs) ∧ sp [.ref a, y] H2 Q E0
section
variable {X : Cx} {o i : Expr} {ta tb : TE} {pos : Pos} {k : Nat} {C : Addr} {ps : List Str} {sp : Sp}
theorem pe_itemB (c : Ci X.prog X.w X.K X.mg X.base k C ps sp) (ho : PE X o ta) (hi : PE X i tb) (hr : Room (k + 1) X.A)
    (hsl : ∀ v u, subscripted i true v u = runValue (.builtin "lifetime.subscript" ⟨[v, u], []⟩) := by intro _ _; rfl) : PE X (.Subscript o i pos) (tItB C sp ta tb) := by
  obtain ⟨f, fd, F, hm, hf, hb⟩ := c.ex
  refine ⟨fun pins s σ H Q I h => ?_⟩
  refine PyProof.Rows.Subscript_ (thn (ho.run pins s σ H _ I h) fun v s1 ⟨x, H1, I1, rx, q1⟩ => thn (hi.run pins s1 σ H1 _ I1 q1) fun u s2 ⟨y, H2, I2, ry, a, dx, fs, ex, ha, q2⟩ => ?_)
  subst ex
  cases (show v = Value.ref a from rx)
  obtain ⟨mA, J, _⟩ := ins_get I2.hok ha
  obtain ⟨od, J, _⟩ := J.look
  obtain ⟨m, hF⟩ := I2.fr
  refine PySem.W.sub_K hF I2.ok.mod.kin J hm.at_ hf hm.fn ?_ (hsl _ _)
  exact wpAny_call (SlX.run_at (us := [.ref a, u]) (ws := [.ref a, y]) (F.raw hb .nil) hr.in1 I2.env0.in1 pass0 I2 (.cons rfl (.cons ry .nil)) (by rw [List.append_nil]; exact q2))
end
section
variable {Rs : Rs_} {H F : Hp} {ta tb : TE} {C : Addr}
theorem ev_itemB {G : Type} {args : G → List Rep} {dom : G → Hp → Hp → Prop} {res : G → Rep} (g : G) {R A : Rep} (ho : EvE ta Rs H F R) (hi : ∀ F v, R.at_ F v → ∃ a dx fs, v = .ref a ∧ F a = some (.ins C dx fs)) (h : EvE tb Rs H F A) (hg : [R, A] = args g) (hd : ∀ H1 F1, G0 H F H1 F1 → dom g H1 F1) :
    EvE (tItB C (PSp args dom res) ta tb) Rs H F (res g) := by
  intro σ H1 F1 k e Q q
  refine ho σ H1 F1 k e _ fun x H2 F2 k2 rx => h σ H2 F2 (k.trans k2) (e.mono k2.ff) _ fun y H3 F3 k3 ry => ?_
  have rx3 := R.mono k3.ff rx
  obtain ⟨a, dx, fs, rfl, ha⟩ := hi _ _ rx3
  exact ⟨a, dx, fs, rfl, k3.fh _ _ ha, g, F3, k3.fh, hg ▸ LA.cons rx3 (.cons ry .nil), hd H3 F3 ((k.trans k2).trans k3), fun v H4 F4 n r => q v H4 F4 ((k2.trans k3).trans n) r⟩
end
section
variable {P : Program} {w : World} {K : PySem.W.Frag} {mg : Str → Option Value} {base : Heap}
theorem signs_nodup (b : Bx) : b.signs.Nodup := srt_nodup (ddp_nodup _)
theorem forth_lt {b : Bx} (h : b.Ok) (s : Sg) (i : Nat) : (b.forth s).getD i 0 < 2 ^ b.n := lt_of_bits fun j hj => by
  unfold Bx.forth at hj
  rw [setsBy_bit (fun p hp => (h.inp _ ((b.prs_mem s p).mp hp)).1), Bx.prs_mem] at hj
  exact (h.inp _ hj).2
/-- the signs to go on by, the states behind each -/
def Bx.outs (b : Bx) (i : Nat) : List Sg := b.signs.filter fun s => decide (0 < (b.forth s).getD i 0)
def Bx.kvs (b : Bx) (i : Nat) : List (List Key × Rep) := (b.outs i).map fun s => (kySg s, rLst ((statesIn ((b.forth s).getD i 0)).map rNat))
abbrev spItem (K : PySem.W.Frag) : Sp := PSp (fun p : Bx × Nat => [rBox K p.1, rNat p.2]) (fun p _ _ => p.1.Ok ∧ p.2 < p.1.n) (fun p => rDT (p.1.kvs p.2))
theorem ok_item (T : Hd K mg) (c_want_state : Ce P w K mg base 4 "want_state" ["box", "value"] (spWantState K)) (c_Box_signs : Cq P w K mg base 1 (He.ga K "Box") "signs" ["self"] (spSigns K)) (c_states_in : Ce P w K mg base 1 "states_in" ["some"] spStatesIn) :
    Ci P w K mg base 5 (He.ga K "Box") ["self", "state"] (spItem K) := by
  obtain ⟨fd, D⟩ := T.d_Box_getitem
  have hfn : PySem.W.fnIn K (He.ma K (He.ga K "Box") "__getitem__") = true := by
    obtain ⟨oc, od, dV, kV, doc, pm, an, cdv, ct, osl, e, lk, _⟩ := D.ex
    unfold PySem.W.fnIn
    rw [lk]
  refine ⟨_, fd, fn_plain D sc_Box_getitem (fun _ => rfl) (fun cdv A outer s H0 E hr => ⟨_, (pss_cons (ps_expr (pe_c c_want_state (hr.mono (by decide)) rfl (pa_cons (pv 0) (pa_cons (pv 1) pa_nil))))
      (pss_cons (ps_set (i := 2) sc_Box_getitem.nd rfl (Or.inr rfl) (fld_k (K := K) (fld_k (K := K) (pv 0))))
      (pss_one (ps_ret (pe_lk (pe_dcU (own := [("sign", 3)]) rfl (hu64 hr) sc_Box_getitem.nd (pi_list (pe_q0 c_Box_signs (pv 0) (hr.mono (by decide)))) (blkOk_by (own := [("sign", 3)]) (N := ["self", "state", "forth", "sign"]) (sc := defScope s_Box_getitem) (by decide +kernel)) (fun _ _ _ _ _ => (pg_name (i := 3) sc_Box_getitem.nd rfl (Or.inl rfl))) (fun _ _ _ _ _ => (pts_one (pt_cmpR op_gt (pe_ix (ixl_k (K := K)) (pe_dget (hu_of hr) (pv 2) (pv 3) (fun _ _ => rfl)) (pv 1) (fun _ _ => rfl)) pe_int (nomark _)))) (fun _ _ _ _ _ => (pv 3)) (fun _ _ _ _ _ => (pe_c c_states_in (hr.mono (by decide)) rfl (pa_cons (pe_ix (ixl_k (K := K)) (pe_dget (hu_of hr) (pv 2) (pv 3) (fun _ _ => rfl)) (pv 1) (fun _ _ => rfl)) pa_nil))))))))), ?_⟩), T.m_Box_getitem, hfn, D.bindsN (fun _ _ _ _ _ _ us hl => match us, hl with | [_, _], _ => rfl)⟩
  intro ⟨b, i⟩ F H σ Q s hd e k
  obtain ⟨hb, hi⟩ : b.Ok ∧ i < b.n := hd
  refine st_drop s e (ev_call (res := fun _ => rN) (b, i) (ea_2 (ev_var rfl) (ev_var rfl)) rfl fun _ _ _ => hi) fun H1 F1 g1 e1 => ?_
  dsimp only
  refine st_asg g1.fh e1 (fld_forth T (fld_sh T (ev_var rfl))) fun σ2 H2 F2 g2 e2 => ?_
  have hg : ∀ s ∈ b.signs, ∀ {H F : Hp} {td ty ti : TE} {Rs : Rs_}, EvE td Rs H F (rDT (b.signs.map fun s => (kySg s, rLst ((b.forth s).map rNat)))) → EvE ty Rs H F (rKt (kySg s)) → EvE ti Rs H F (rNat i) → EvE (tOp (rIxL K) (tDGet td ty) ti) Rs H F (rNat ((b.forth s).getD i 0)) := fun s hs H F td ty ti Rs h1 h2 h3 =>
    ev_ixL (j := i) (ev_dgetT (k := kySg s) h1 h2 (by rw [atK_sg, if_pos hs])) h3 (map_at 0 (by unfold Bx.forth; rw [setsBy_len]; exact hi))
  dsimp only
  refine st_ret g2.fh e2 (EvM.lk (ev_dc (xs := b.signs) (RA := rSg) (p := fun s => decide (0 < (b.forth s).getD i 0)) (kf := kySg) (RB := fun s => rLst ((statesIn ((b.forth s).getD i 0)).map rNat)) (src_list (x_signs (ev_var rfl))) (Nat.lt_of_le_of_lt (signs_len (b := b)) (by decide)) rfl (fun _ _ => tgt_1)
    (fun s hs => eb_test (ev_pos (hg s hs (ev_var rfl) (ev_var rfl) (ev_var rfl)))) (fun s hs _ => ev_var rfl) (fun s hs _ => x_states_in (hg s hs (ev_var rfl) (ev_var rfl) (ev_var rfl)) ?_) ?_)) fun v H3 F3 g3 r => k v H3 F3 ((g1.trans g2).trans g3) r
  · exact Bx.pow_le hb (forth_lt hb s i)
  · exact nodup_ky kySg_inj ((signs_nodup b).sublist List.filter_sublist)
end
end K81
set_option Elab.async false
set_option linter.all false
set_option maxRecDepth 100000
set_option maxHeartbeats 2000000
set_option autoImplicit false
/-! K81AD: tuples_behind. -/
namespace K81
open PySem PySem.Spec L2
open PyProof.Rows (envOfC)
abbrev T3 := Nat × Nat × Nat
def rT3 (h : T3) : Rep := rTup [rNat h.1, rNat h.2.1, rNat h.2.2]
def rFur (m : Fur) : Rep := rTup [rNat m.1, rSg m.2.1, rNat m.2.2.1, rNat m.2.2.2.1, rPr m.2.2.2.2]
/-- the goals of one sign -/
def Bx.goals (b : Bx) (s : Nat) (q : Sg) : List Nat := statesIn ((b.forth q).getD s 0)
def tupQ (one other : Bx) (h : T3) (q : Sg) : List Fur := (one.goals h.2.1 q).map fun g => (h.1, q, g, other.behind h.2.2 q, (h.2.1, h.2.2))
def tupB (one other : Bx) (h : T3) : List Fur := (one.outs h.2.1).flatMap (tupQ one other h)
theorem flat_snoc {α β : Type} (f : α → List β) (l : List α) (x : α) : (l ++ [x]).flatMap f = l.flatMap f ++ f x := by
  rw [List.flatMap_append, List.flatMap_cons, List.flatMap_nil, List.append_nil]
theorem goals_lt {b : Bx} (h : b.Ok) {s : Nat} {q : Sg} {g : Nat} (hg : g ∈ b.goals s q) : g < b.n := bit_lt (forth_lt h q s) (statesIn_mem.mp hg)
theorem statesIn_nodup (n : Nat) : (statesIn n).Nodup := List.nodup_range.sublist List.filter_sublist
theorem goals_len {b : Bx} (h : b.Ok) (s : Nat) (q : Sg) : (b.goals s q).length ≤ b.n := nodup_lt_len (statesIn_nodup _) fun x hx => goals_lt h hx
theorem tupF_len {one other : Bx} (h1 : one.Ok) (h : T3) : ∀ l : List Sg, (l.flatMap (tupQ one other h)).length ≤ l.length * one.n
  | [] => Nat.zero_le _
  | q :: l => by
    have h2 := tupF_len (other := other) h1 h l
    have h3 := goals_len h1 h.2.1 q
    rw [List.flatMap_cons, List.length_append, List.length_cons, Nat.succ_mul]
    have : (tupQ one other h q).length = (one.goals h.2.1 q).length := List.length_map ..
    omega
section
variable {P : Program} {w : World} {K : PySem.W.Frag} {mg : Str → Option Value} {base : Heap}
abbrev spTup (K : PySem.W.Frag) : Sp := PSp (fun p : Bx × Bx × T3 => [rBox K p.1, rBox K p.2.1, rT3 p.2.2]) (fun p _ _ => p.1.Ok ∧ p.2.1.Ok ∧ p.2.2.2.1 < p.1.n ∧ p.2.2.2.2 < 2 ^ p.2.1.n) (fun p => rLst ((tupB p.1 p.2.1 p.2.2).map rFur))
theorem ok_tuples_behind (T : Hd K mg) (c_Box_getitem : Ci P w K mg base 5 (He.ga K "Box") ["self", "state"] (spItem K)) (c_behind_set : Ce P w K mg base 3 "behind_set" ["box", "some", "sign"] (spBehindSet K)) : Ce P w K mg base 7 "tuples_behind" ["one", "other", "here"] (spTup K) := by
  refine ce_plain T.d_tuples_behind T.glo_tuples_behind sc_tuples_behind (fun _ _ _ _ _ _ us hl => match us, hl with | [_, _, _], _ => rfl) (fun _ => rfl) (fun cdv A outer s H0 E hr => ⟨_, (pss_cons (ps_asg (pv 2) (tup_k (K := K) (n := 3) rfl (pgs_cons (pg_name (i := 3) sc_tuples_behind.nd rfl (Or.inr rfl)) (pgs_cons (pg_name (i := 4) sc_tuples_behind.nd rfl (Or.inr rfl)) (pgs_cons (pg_name (i := 5) sc_tuples_behind.nd rfl (Or.inr rfl)) pgs_nil)))))
      (pss_cons (ps_set (i := 6) sc_tuples_behind.nd rfl (Or.inl rfl) (pe_lst pa_nil))
      (pss_cons (ps_for PassesOwn.never rfl (pi_itemsT (pe_itemB c_Box_getitem (pv 0) (pv 4) (hr.mono (by decide)))) (tup_k (K := K) (n := 2) rfl (pgs_cons (pg_name (i := 7) sc_tuples_behind.nd rfl (Or.inr rfl)) (pgs_cons (pg_name (i := 8) sc_tuples_behind.nd rfl (Or.inl rfl)) pgs_nil))) (pss_cons (ps_set (i := 9) sc_tuples_behind.nd rfl (Or.inr rfl) (pe_c c_behind_set (hr.mono (by decide)) rfl (pa_cons (pv 1) (pa_cons (pv 5) (pa_cons (pv 7) pa_nil)))))
      (pss_one (ps_expr (bm_k (K := K) PySem.F.plainAttrs_list PySem.F.slot_list_extend PySem.F.type_list_extend mt_extend (pv 6) (pa_cons (pe_lc (own := [("goal", 10)]) (tt := tYes) rfl sc_tuples_behind.nd (pi_list (pv 8)) (blkOk_by (own := [("goal", 10)]) (N := ["one", "other", "here", "rank", "state", "some", "found", "sign", "goals", "after", "goal"]) (sc := defScope s_tuples_behind) (by decide +kernel)) (fun _ _ _ _ _ => (pg_name (i := 10) sc_tuples_behind.nd rfl (Or.inl rfl))) (fun _ _ _ _ _ => pts_nil) (fun _ _ _ _ _ => (pe_tup (pa_cons (pv 3) (pa_cons (pv 7) (pa_cons (pv 10) (pa_cons (pv 9) (pa_cons (pe_tup (pa_cons (pv 4) (pa_cons (pv 5) pa_nil))) pa_nil)))))))) pa_nil))))))
      (pss_one (ps_ret (pv 6)))))), ?_⟩)
  intro ⟨one, other, h⟩ F H σ Q s hd e k
  obtain ⟨h1, h2, h3, h4⟩ : one.Ok ∧ other.Ok ∧ h.2.1 < one.n ∧ h.2.2 < 2 ^ other.n := hd
  have k : ∀ v H' F', G0 H F H' F' → (rLst ((tupB one other h).map rFur)).at_ F' v → Q v H' := k
  have big : 5 * 1000 < sizeLine := by decide
  have hn1 := h1.n
  refine st_asgG s e (ev_var rfl) fun v H1 F1 g1 e1 r1 => g_3 g1.fh e1 (R1 := rNat h.1) (R2 := rNat h.2.1) (R3 := rNat h.2.2) r1 fun σ1 e1 _ => ?_
  dsimp only
  refine st_nilM g1.fh e1 fun l σ2 H2 nl g2 e2 ml => ?_
  dsimp only
  refine st_for (At l) g2.fh e2 (src_items (ks := one.kvs h.2.1) (ev_itemB (res := fun p : Bx × Nat => rDT (p.1.kvs p.2)) (one, h.2.1) (ev_var rfl) ins_Box (ev_var rfl) rfl fun _ _ _ => ⟨h1, h3⟩)) (fun i σ' H' F' => En F' σ' [some (rBox K one), some (rBox K other), some (rT3 h), some (rNat h.1), some (rNat h.2.1), some (rNat h.2.2), some (rV (.ref l)), none, none, none, none] ∧
      ML l ((((one.outs h.2.1).take i).flatMap (tupQ one other h)).map rFur) H' F') (fun H3 F3 g3 => ⟨e2.mono g3.ff, ml.grow g3⟩) (fun i σ' H' F' H1 F1 ⟨a, m⟩ g => ⟨a.mono g.ff, m.grow g⟩) (fun i x v σ' H' F' hx g ⟨a, m⟩ r N hN => ?_) fun σ3 H3 F3 g3 ⟨e3, m3⟩ => ?_
  · obtain ⟨q, hq, rfl⟩ : ∃ q, (one.outs h.2.1)[i]? = some q ∧ (kySg q, rLst ((one.goals h.2.1 q).map rNat)) = x := by
      unfold Bx.kvs at hx
      rw [List.getElem?_map] at hx
      cases ho : (one.outs h.2.1)[i]? with
      | none => rw [ho] at hx; cases hx
      | some q => rw [ho] at hx; exact ⟨q, rfl, Option.some.inj hx⟩
    have hi : i < 5 := by
      have a1 := (List.getElem?_eq_some_iff.mp hq).1
      have a2 := List.length_filter_le (fun s => decide (0 < (one.forth s).getD h.2.1 0)) one.signs
      have a3 := signs_len (b := one)
      unfold Bx.outs at a1
      omega
    refine g_2 (R1 := rSg q) (R2 := rLst ((one.goals h.2.1 q).map rNat)) g.fh a r fun σ4 e4 _ => ?_
    dsimp only
    refine st_asg g.fh e4 (x_behind (x := h.2.2) (q := q) (ev_var rfl) (ev_var rfl) (ev_var rfl) h2 h4) fun σ5 H5 F5 g5 e5 => ?_
    dsimp only
    refine st_extM g5.fh e5 (m.grow g5) (ev_var rfl) (Us := ((one.goals h.2.1 q).map fun g => ((h.1, q, g, other.behind h.2.2 q, (h.2.1, h.2.2)) : Fur)).map rFur)
      (ev_lc0 (xs := one.goals h.2.1 q) (RA := rNat) (RB := rFur) (src_list (ev_var rfl)) (Nat.lt_of_le_of_lt (goals_len h1 _ _) (by omega)) rfl (fun _ _ => tgt_1) fun x hx => ev_tup (ea_cons (ev_var rfl) (ea_cons (ev_var rfl) (ea_cons (ev_var rfl) (ea_2 (ev_var rfl) (ev_tup (ea_2 (ev_var rfl) (ev_var rfl)))))))) ?_ fun H6 F6 g6 f6 m6 => hN _ H6 F6 (g5.up.trans g6) ⟨(e5.mono f6).mask [true, true, true, true, true, true, true, false, false, false, false], ?_⟩
    · have a1 := tupF_len (other := other) h1 h ((one.outs h.2.1).take i)
      have a2 : ((one.outs h.2.1).take i).length ≤ 4 := by rw [List.length_take]; omega
      have a3 := goals_len h1 h.2.1 q
      have a4 : ((one.outs h.2.1).take i).length * one.n ≤ 4 * one.n := Nat.mul_le_mul_right _ a2
      rw [List.length_map, List.length_map, List.length_map]
      omega
    · rw [take_snoc hq, flat_snoc, List.map_append]
      exact m6
  · have e0 : (one.outs h.2.1).take (one.kvs h.2.1).length = one.outs h.2.1 := by
      rw [show (one.kvs h.2.1).length = (one.outs h.2.1).length from List.length_map .., List.take_length]
    rw [e0] at m3
    have nH : H l = none := g1.none nl
    have gH : G0 H F H3 F3 := (g1.trans g2).drop g3 fun x (hx : x = l) => by rw [hx]; exact nH
    obtain ⟨F4, g4, f4, r4⟩ := m3.fz gH nH
    dsimp only
    exact st_ret g4.fh (e3.mono f4) (ev_ref rfl r4) fun v H5 F5 g5 r5 => k v H5 F5 (g4.trans g5) r5
theorem x_tuples {Rs : Rs_} {H F : Hp} {ta tb tc : TE} {E : XK} {one other : Bx} {h : T3} (ha : EvE ta Rs H F (rBox K one)) (hb : EvE tb Rs H F (rBox K other)) (hc : EvE tc Rs H F (rT3 h)) (h1 : one.Ok) (h2 : other.Ok) (h3 : h.2.1 < one.n) (h4 : h.2.2 < 2 ^ other.n) :
    EvE (tCall (spTup K) [] E (tCons ta (tCons tb (tCons tc tNil)))) Rs H F (rLst ((tupB one other h).map rFur)) := ev_call (res := fun p : Bx × Bx × T3 => rLst ((tupB p.1 p.2.1 p.2.2).map rFur)) (one, other, h) (ea_cons ha (ea_2 hb hc)) rfl fun _ _ _ => ⟨h1, h2, h3, h4⟩
end
end K81
set_option Elab.async false
set_option linter.all false
set_option maxRecDepth 100000
set_option maxHeartbeats 2000000
set_option autoImplicit false
/-! K81AE: a dict with tuple keys that changes; row_to_place, next_front. -/
namespace K81
open PySem PySem.Spec L2
open PyProof.Rows (envOfC)
theorem Gr.dropTo {M M' : Addr → Prop} {H F H1 F1 H2 F2 : Hp} (g : Gr M' H F H1 F1) (k : Gr M H1 F1 H2 F2) (h : ∀ a, M a → M' a ∨ H a = Option.none) : Gr M' H F H2 F2 := by
  refine ⟨fun {a o} n e => k.hh (fun z => ?_) (g.hh n e), fun m e => ?_, g.ff.trans k.ff, k.fh, fun e => ?_⟩
  · rcases h a z with z | z
    · exact n z
    · rw [e] at z; cases z
  · obtain ⟨o', q, z⟩ := g.some e
    obtain ⟨o2, q2, z2⟩ := k.some q
    exact ⟨o2, q2, fun vs h => z vs (z2 vs h)⟩
  · rcases k.fr e with q | q | ⟨vs, rfl, q⟩
    · exact g.fr q
    · exact .inr (.inl (g.none q))
    · rcases g.back q with z | z
      · exact .inr (.inl z)
      · exact .inr (.inr ⟨vs, rfl, z⟩)
/-- a dict with tuple keys that changes -/
def MT (d : Addr) (ks : List (List Key × Rep)) (H F : Hp) : Prop := F d = none ∧ ∃ ws, H d = some (.dT ws) ∧ KA F ws ks
section
variable {K : PySem.W.Frag} {Rs : Rs_} {H F H1 F1 : Hp} {M : Addr → Prop} {td ty tv : TE} {σ : L2.St} {D : Ends} {d : Addr} {ks : List (List Key × Rep)} {k : List Key} {R : Rep}
theorem MT.gr (m : MT d ks H F) (g : Gr M H F H1 F1) (h : ¬ M d) : MT d ks H1 F1 := let ⟨n, ws, h', r⟩ := m; ⟨g.out n h', ws, g.hh h h', r.mono g.ff⟩
theorem MT.live (m : MT d ks H F) : H d ≠ none := let ⟨_, ws, h', _⟩ := m; fun z => by rw [z] at h'; cases h'
theorem ev_dgetMT (m : MT d ks H F) (hd : EvE td Rs H F (rV (.ref d))) (hy : EvE ty Rs H F (rKt k)) (h : atK ks k = some R) : EvE (tDGet td ty) Rs H F R := by
  intro σ H1 F1 g e Q q
  refine hd σ H1 F1 g e _ fun x H2 F2 g2 rx => hy σ H2 F2 (g.trans g2) (e.mono g2.ff) _ fun y H3 F3 g3 ry => ?_
  have rx : x = V.ref d := rx
  subst rx
  obtain ⟨b, rfl, hb⟩ := rKt_at ry
  obtain ⟨n, ws, hw, l⟩ := m
  have gg := (g.trans g2).trans g3
  rcases (l.mono gg.ff).val (k := k) with ⟨v, R', h1, h2, h3⟩ | ⟨_, h2⟩
  · rw [h] at h2
    cases h2
    exact ⟨d, v, rfl, .inr ⟨ws, k, b, .inl (G0.h gg hw), rfl, g3.fh _ _ hb, h1.symm⟩, q v H3 F3 (g2.trans g3) h3⟩
  · rw [h] at h2; cases h2
theorem ev_dninMT (m : MT d ks H F) (hy : EvE ty Rs H F (rKt k)) (hd : EvE td Rs H F (rV (.ref d))) : EvE (tDNotIn ty td) Rs H F (rB (!(atK ks k).isSome)) := by
  intro σ H1 F1 g e Q q
  refine hy σ H1 F1 g e _ fun y H2 F2 g2 ry => hd σ H2 F2 (g.trans g2) (e.mono g2.ff) _ fun x H3 F3 g3 rx => ?_
  have rx : x = V.ref d := rx
  subst rx
  obtain ⟨b, rfl, hb⟩ := rKt_at ry
  obtain ⟨n, ws, hw, l⟩ := m
  have gg := (g.trans g2).trans g3
  refine ⟨d, valV ws k, rfl, .inr ⟨ws, k, b, .inl (G0.h gg hw), rfl, g3.fh _ _ (g3.ff _ _ hb), rfl⟩, q _ H3 F3 (g2.trans g3) ?_⟩
  rcases (l.mono gg.ff).val (k := k) with ⟨v, R', h1, h2, h3⟩ | ⟨h1, h2⟩
  · show V.bl _ = V.bl _; rw [h1, h2]; rfl
  · show V.bl _ = V.bl _; rw [h1, h2]; rfl
theorem st_dputMT (s : Same F H) (e : En F σ Rs) (m : MT d ks H F) (hd : EvE td Rs H F (rV (.ref d))) (hy : EvE ty Rs H F (rKt k)) (hv : EvE tv Rs H F R) (hn : atK ks k = none) (hz : ks.length < sizeLine)
    (q : ∀ H' F', Gr (At d) H F H' F' → Same F F' → MT d (ks ++ [(k, R)]) H' F' → D.nx σ H') : sDPut td ty tv D σ H := by
  refine hv σ H F (Gr.refl s) e _ fun z H1 F1 g1 rz => hd σ H1 F1 g1 (e.mono g1.ff) _ fun x H2 F2 g2 rx => hy σ H2 F2 (g1.trans g2) (e.mono (g1.trans g2).ff) _ fun y H3 F3 g3 ry => ?_
  have rx : x = V.ref d := rx
  subst rx
  obtain ⟨b, rfl, hb⟩ := rKt_at ry
  obtain ⟨n, ws, hw, l⟩ := m
  have gg := (g1.trans g2).trans g3
  have n3 := gg.out n hw
  have l3 := l.mono gg.ff
  have hno : valV ws k = none := by
    rcases l3.val (k := k) with ⟨v, R', h1, h2, h3⟩ | ⟨h1, h2⟩
    · rw [hn] at h2; cases h2
    · exact h1
  refine ⟨d, _, rfl, DPut.t (G0.h gg hw) (g3.fh _ _ hb) (by rw [l.len]; exact hz), q _ F3 (gg.up.wr (.inr rfl) n3) gg.ff ⟨n3, _, upd_same, ?_⟩⟩
  rw [putK_new _ hno]
  exact l3.snoc (R.mono (g2.trans g3).ff rz)
theorem LA.append' {F : Hp} : ∀ {vs us : List V} {Rs Ss : List Rep}, LA F vs Rs → LA F us Ss → LA F (vs ++ us) (Rs ++ Ss) := fun h k => h.append k
theorem LA.reverse {F : Hp} : ∀ {vs : List V} {Rs : List Rep}, LA F vs Rs → LA F vs.reverse Rs.reverse
  | _, _, .nil => .nil
  | _, _, .cons h t => by
    rw [List.reverse_cons, List.reverse_cons]
    exact (LA.reverse t).append (.cons h .nil)
theorem ev_revL {te : TE} {Ts : List Rep} (h : EvE te Rs H F (rLst Ts)) : EvE (tRevL K te) Rs H F (rLst Ts.reverse) := by
  intro σ H1 F1 g e Q q
  refine h σ H1 F1 g e _ fun x H2 F2 g2 ⟨a, us, ex, ha, l⟩ => ⟨a, us, ex, SqL.of (g2.fh _ _ ha), fun p hp => ?_⟩
  have g3 : G0 H2 F2 (upd H2 p (.lst us.reverse)) (upd F2 p (.lst us.reverse)) := Gr.new g2.fh hp
  exact q _ _ _ (g2.trans g3) ⟨p, _, rfl, upd_same, (l.mono g3.ff).reverse⟩
end
/-! ### how each tuple was come by -/
abbrev Came := (Nat × Nat) × Option (Sg × (Nat × Nat))
def rCame : Option (Sg × (Nat × Nat)) → Rep
  | none => rN
  | some p => rTup [rSg p.1, rPr p.2]
def cKs (C : List Came) : List (List Key × Rep) := C.map fun c => (kyPr c.1, rCame c.2)
theorem cKs_at {p : Nat × Nat} {o : Option (Sg × (Nat × Nat))} : ∀ {C : List Came} {i : Nat}, (C.map (·.1)).Nodup → C[i]? = some (p, o) → atK (cKs C) (kyPr p) = some (rCame o)
  | [], _, _, h => by cases h
  | c :: C, 0, _, h => by
    rw [List.getElem?_cons_zero] at h
    cases h
    simp [cKs, atK]
  | c :: C, i + 1, hn, h => by
    rw [List.getElem?_cons_succ] at h
    rw [List.map_cons, List.nodup_cons] at hn
    have ne : ¬ kyPr c.1 = kyPr p := fun e => hn.1 (by rw [kyPr_inj _ _ e]; exact List.mem_map.mpr ⟨_, List.mem_of_getElem? h, rfl⟩)
    have ih := cKs_at hn.2 h
    unfold atK cKs at ih ⊢
    rw [List.map_cons, List.find?_cons_of_neg (by simpa using ne)]
    exact ih
theorem cKs_no {p : Nat × Nat} : ∀ {C : List Came}, (atK (cKs C) (kyPr p)).isSome = decide (p ∈ C.map (·.1))
  | [] => rfl
  | c :: C => by
    have ih := cKs_no (p := p) (C := C)
    unfold atK cKs at ih ⊢
    by_cases e : c.1 = p
    · rw [List.map_cons, List.find?_cons_of_pos (by simp [e])]
      simp [e]
    · have ne : ¬ kyPr c.1 = kyPr p := fun z => e (kyPr_inj _ _ z)
      rw [List.map_cons, List.find?_cons_of_neg (by simpa using ne), ih]
      have e2 : ¬ p = c.1 := fun z => e z.symm
      simp [e2]
/-- each is come by from an earlier one -/
def Chain (C : List Came) : Prop := ∀ (i : Nat) (p : Nat × Nat) (q : Sg) (p' : Nat × Nat), C[i]? = some (p, some (q, p')) → ∃ (j : Nat) (o : Option (Sg × (Nat × Nat))), j < i ∧ C[j]? = some (p', o)
/-- a list of not many things -/
def rLs (n : Nat) : Rep := ⟨fun F v => ∃ Ts, Ts.length ≤ n ∧ (rLst Ts).at_ F v, fun s ⟨Ts, h, r⟩ => ⟨Ts, h, (rLst Ts).mono s r⟩⟩
section
variable {P : Program} {w : World} {K : PySem.W.Frag} {mg : Str → Option Value} {base : Heap}
abbrev spRow : Sp := PSp (fun g : Addr × List Came × (Nat × Nat) => [rV (.ref g.1), rPr g.2.2]) (fun g H F => MT g.1 (cKs g.2.1) H F ∧ (g.2.1.map (·.1)).Nodup ∧ Chain g.2.1 ∧ g.2.1.length ≤ 1000000 ∧ ∃ (i : Nat) (o : Option (Sg × (Nat × Nat))), g.2.1[i]? = some (g.2.2, o)) (fun g => rLs g.2.1.length)
theorem ok_row_to_place (T : Hd K mg) : Ce P w K mg base 1 "row_to_place" ["came", "place"] spRow := by
  refine ce_plain T.d_row_to_place T.glo_row_to_place sc_row_to_place (fun _ _ _ _ _ _ us hl => match us, hl with | [_, _], _ => rfl) (fun _ => rfl) (fun cdv A outer s H0 E hr => ⟨_, (pss_cons (ps_par (i := 2) (j := 3) (by rfl) sc_row_to_place.nd rfl rfl (by decide) rfl rfl (pa_cons (pe_lst pa_nil) (pa_cons (pv 1) pa_nil)) (by rfl))
      (pss_cons (ps_while PassesOwn.never (pt_cmpR op_notN (pe_dget (hu_of hr) (pv 0) (pv 3) (fun _ _ => rfl)) pe_non (nomark _)) (pss_cons (ps_asg (pe_dget (hu_of hr) (pv 0) (pv 3) (fun _ _ => rfl)) (tup_k (K := K) (n := 2) rfl (pgs_cons (pg_name (i := 4) sc_row_to_place.nd rfl (Or.inl rfl)) (pgs_cons (pg_name (i := 3) sc_row_to_place.nd rfl (Or.inl rfl)) pgs_nil))))
      (pss_one (ps_expr (bm_k (K := K) PySem.F.plainAttrs_list PySem.F.slot_list_append PySem.F.type_list_append mt_append (pv 2) (pa_cons (pv 4) pa_nil))))))
      (pss_one (ps_ret (rev_k (K := K) (pv 2)))))), ?_⟩)
  intro ⟨d, C, place⟩ F H σ Q s hd e k
  obtain ⟨mt, hn, hc, hl, i0, o0, hi0⟩ : MT d (cKs C) H F ∧ (C.map (·.1)).Nodup ∧ Chain C ∧ C.length ≤ 1000000 ∧ ∃ (i : Nat) (o : Option (Sg × (Nat × Nat))), C[i]? = some (place, o) := hd
  have k : ∀ v H' F', G0 H F H' F' → (rLs C.length).at_ F' v → Q v H' := k
  have big : 1000000 < sizeLine := by decide
  refine st_parME s e (ev_lstM ea_nil) (A := rPr place) (ev_var rfl) (fun _ _ _ _ _ m g => m.grow g) fun l σ1 H1 F1 g1 nl ml e1 => ?_
  have hne : l ≠ d := fun z => mt.live (z ▸ nl)
  have mt1 := mt.gr g1 fun z => z
  dsimp only
  refine st_while (At l) g1.fh (fun m σ' H' F' => ∃ p o Ts, C[m]? = some (p, o) ∧ Ts.length + m ≤ C.length ∧ En F' σ' [some (rV (.ref d)), some (rPr place), some (rV (.ref l)), some (rPr p), none] ∧ ML l Ts H' F' ∧ MT d (cKs C) H' F') i0
    ⟨place, o0, [], hi0, by have := (List.getElem?_eq_some_iff.mp hi0).1; simp; omega, e1, ml, mt1⟩ fun m σ' H' F' g ⟨p, o, Ts, hm, hts, a, ml', mt'⟩ => ?_
  have hget : ∀ {H'' F'' : Hp}, MT d (cKs C) H'' F'' → EvE (tDGet (tVar 0) (tVar 3)) [some (rV (.ref d)), some (rPr place), some (rV (.ref l)), some (rPr p), none] H'' F'' (rCame o) := fun h => ev_dgetMT (k := kyPr p) h (ev_var rfl) (ev_var rfl) (cKs_at hn hm)
  refine ⟨_, o.isSome, a, eb_test (EvE.eqB (ev_notN (b := o.isNone) (hget mt') fun F v h => ?_) (by cases o <;> rfl)), fun ho H2 F2 g2 N hN => ?_, fun ho H2 F2 g2 => ?_⟩
  · cases o with
    | none => rw [show v = V.non from h]; rfl
    | some q => obtain ⟨a, us, rfl, _⟩ := h; rfl
  · cases o with
    | none => cases ho
    | some q =>
      obtain ⟨j, o', hj, hjo⟩ := hc m p q.1 q.2 hm
      have mt2 := mt'.gr g2 fun z => z
      refine st_asgG g2.fh (a.mono g2.ff) (hget mt2) fun v H3 F3 g3 e3 r3 => g_2 (R1 := rSg q.1) (R2 := rPr q.2) g3.fh e3 r3 fun σ3 e3 _ => ?_
      have mt3 := mt2.gr g3 fun z => z
      dsimp only
      refine st_appM g3.fh e3 ((ml'.grow g2).grow g3) (ev_var rfl) (A := rSg q.1) (ev_var rfl) (by omega) fun H4 F4 g4 f4 m4 => hN j _ H4 F4 hj ((g2.trans g3).up.trans g4) ⟨q.2, o', _, hjo, by rw [List.length_append]; simp; omega, (e3.mono f4).mask [true, true, true, true, false], m4, mt3.gr g4 fun z => hne z.symm⟩
  · have gH : G0 H F H2 F2 := (g1.drop g fun x (hx : x = l) => by rw [hx]; exact nl).trans g2
    obtain ⟨F3, g3, f3, r3⟩ := (ml'.grow g2).fz gH nl
    dsimp only
    exact st_ret g3.fh (a.mono (g2.ff.trans f3)) (EvE.to (S := rLs C.length) (ev_revL (ev_ref rfl r3)) fun F' v _ h => ⟨_, by rw [List.length_reverse]; omega, h⟩) fun v H4 F4 g4 r4 => k v H4 F4 (g3.trans g4) r4
end
end K81
set_option Elab.async false
set_option linter.all false
set_option maxRecDepth 100000
set_option maxHeartbeats 2000000
set_option autoImplicit false
/-! K81AF: next_front. -/
namespace K81
open PySem PySem.Spec L2
open PyProof.Rows (envOfC)
/-! ### plainly -/
abbrev NfS := (List Came × List T3) × (Option (Nat × Sg) × Nat)
def nfL (a : Option (Nat × Sg) × Nat) (f : Fur) : Option (Nat × Sg) × Nat := if some (f.1, f.2.1) = a.1 then a else (some (f.1, f.2.1), a.2 + 1)
def nf1 (a : NfS) (f : Fur) : NfS :=
  if (f.2.2.1, f.2.2.2.1) ∈ a.1.1.map (·.1) then (a.1, nfL a.2 f)
  else ((a.1.1 ++ [((f.2.2.1, f.2.2.2.1), some (f.2.1, f.2.2.2.2))], a.1.2 ++ [((nfL a.2 f).2 - 1, f.2.2.1, f.2.2.2.1)]), nfL a.2 f)
def nf (C : List Came) (fur : List Fur) : NfS := fur.foldl nf1 ((C, []), (none, 0))
theorem nfL_pos {a : Option (Nat × Sg) × Nat} (f : Fur) (h : a.1 ≠ none → 1 ≤ a.2) : 1 ≤ (nfL a f).2 ∧ (nfL a f).1 = some (f.1, f.2.1) := by
  unfold nfL
  split
  · rename_i e
    exact ⟨h (by rw [← e]; exact Option.some_ne_none _), e.symm⟩
  · exact ⟨by simp, rfl⟩
theorem nf1_two (a : NfS) (f : Fur) : (nf1 a f).2 = nfL a.2 f := by
  unfold nf1
  split <;> rfl
theorem nf1_came (a : NfS) (f : Fur) : (nf1 a f).1.1 = if (f.2.2.1, f.2.2.2.1) ∈ a.1.1.map (·.1) then a.1.1 else a.1.1 ++ [((f.2.2.1, f.2.2.2.1), some (f.2.1, f.2.2.2.2))] := by
  unfold nf1
  split <;> rfl
theorem nf1_found (a : NfS) (f : Fur) : (nf1 a f).1.2 = if (f.2.2.1, f.2.2.2.1) ∈ a.1.1.map (·.1) then a.1.2 else a.1.2 ++ [((nfL a.2 f).2 - 1, f.2.2.1, f.2.2.2.1)] := by
  unfold nf1
  split <;> rfl
theorem nfF_len : ∀ (l : List Fur) (a : NfS), (l.foldl nf1 a).1.1.length ≤ a.1.1.length + l.length ∧ (l.foldl nf1 a).1.2.length ≤ a.1.2.length + l.length
  | [], a => ⟨Nat.le_refl _, Nat.le_refl _⟩
  | f :: l, a => by
    have h := nfF_len l (nf1 a f)
    have h1 : (nf1 a f).1.1.length ≤ a.1.1.length + 1 ∧ (nf1 a f).1.2.length ≤ a.1.2.length + 1 := by
      unfold nf1
      split
      · exact ⟨by show a.1.1.length ≤ _; omega, by show a.1.2.length ≤ _; omega⟩
      · exact ⟨by simp, by simp⟩
    rw [List.foldl_cons, List.length_cons]
    omega
theorem nfF_pos : ∀ (l : List Fur) (a : NfS), (a.2.1 ≠ none → 1 ≤ a.2.2) → (l.foldl nf1 a).2.1 ≠ none → 1 ≤ (l.foldl nf1 a).2.2
  | [], _, h => h
  | f :: l, a, h => nfF_pos l (nf1 a f) fun _ => by rw [nf1_two]; exact (nfL_pos f h).1
/-- the sign before -/
def rLast : Option (Nat × Sg) → Rep
  | none => rN
  | some p => rTup [rNat p.1, rSg p.2]
def encLast : Option (Nat × Sg) → PyData
  | none => .none
  | some p => .tuple [.int (p.1 : Nat), encSg p.2]
theorem encLast_inj (a b : Option (Nat × Sg)) (h : encLast a = encLast b) : a = b := by
  cases a with
  | none => cases b with
    | none => rfl
    | some q => cases h
  | some p => cases b with
    | none => cases h
    | some q =>
      unfold encLast at h
      injection h with h
      injection h with h1 h2
      injection h2 with h2 h3
      injection h1 with h1
      rw [show p = q from Prod.ext (by omega) (encSg_inj _ _ h2)]
theorem ok_last (a : Option (Nat × Sg)) : Ok (encLast a) 2 := by
  cases a with
  | none => exact ⟨rfl, by simp [encLast, PyData.depth], rfl⟩
  | some p =>
    refine ok_tup fun d hd => ?_
    rcases List.mem_cons.mp hd with rfl | hd
    · exact ok_int
    · rw [List.mem_singleton.mp hd]
      exact ok_sg p.2
section
variable {P : Program} {w : World} {K : PySem.W.Frag} {mg : Str → Option Value} {base : Heap}
theorem dpr_last (a : Option (Nat × Sg)) : DpR K (rLast a) (encLast a) := by
  cases a with
  | none => exact dpr_non
  | some p => exact dpr_tup (.cons dpr_int (.cons (dpr_sg _) .nil))
theorem ev_neg1 {Rs : Rs_} {H F : Hp} : EvE (tUn (rU fun i => .int (-i)) (tC (.int 1))) Rs H F (rI (-1)) := ev_un (A := rI 1) ev_c fun H1 F1 x g hx Q q => ⟨1, hx, q _ H1 F1 (Gr.refl g.fh) rfl⟩
def spNf : Sp := fun vs H Q _ => ∃ (d : Addr) (C : List Came) (fur : List Fur) (F : Hp) (v : V), vs = [.ref d, v] ∧ Same F H ∧ (rLst (fur.map rFur)).at_ F v ∧ MT d (cKs C) H F ∧ C.length + fur.length < sizeLine ∧
  ∀ u H' F', Gr (At d) H F H' F' → MT d (cKs (nf C fur).1.1) H' F' → (rLst ((nf C fur).1.2.map rT3)).at_ F' u → Q u H'
theorem st_nf {Rs : Rs_} {H F : Hp} {σ : L2.St} {D : Ends} {ta tb : TE} {E : XK} {d : Addr} {C : List Came} {fur : List Fur} {i : Nat} (s : Same F H) (e : En F σ Rs) (m : MT d (cKs C) H F) (h1 : EvE ta Rs H F (rV (.ref d))) (h2 : EvE tb Rs H F (rLst (fur.map rFur))) (hl : C.length + fur.length < sizeLine)
    (k : ∀ σ' H' F', Gr (At d) H F H' F' → MT d (cKs (nf C fur).1.1) H' F' → En F' σ' (Rs.set i (some (rLst ((nf C fur).1.2.map rT3)))) → D.nx σ' H') : tAsg (tCall spNf [] E (tCons ta (tCons tb tNil))) (gName i) D σ H := by
  show tCons ta (tCons tb tNil) σ H (fun vs H1 => spNf (vs ++ []) H1 (fun x H1 => gName i x σ H1 D.nx) E)
  refine ea_2 h1 h2 σ H F (Gr.refl s) e _ fun vs H1 F1 g1 l => ?_
  cases l with
  | cons r1 l => cases l with
    | cons r2 l =>
      cases l
      have r1 : _ = V.ref d := r1
      subst r1
      exact ⟨d, C, fur, F1, _, rfl, g1.fh, r2, m.gr g1 fun z => z, hl, fun u H2 F2 g2 m2 r => g_1 (R1 := rLst ((nf C fur).1.2.map rT3)) (e.mono (g1.ff.trans g2.ff)) r fun σ2 e2 _ => k σ2 H2 F2 (g1.up.trans g2) m2 e2⟩
/-- it stays from now on; another thing is as it was -/
theorem ML.fz2T {M : Addr → Prop} {l : Addr} {Ts : List Rep} {H0 F0 H F : Hp} (m : ML l Ts H F) (g : Gr M H0 F0 H F) (n : H0 l = none) :
    ∃ F', Gr M H0 F0 H F' ∧ Same F F' ∧ (rLst Ts).at_ F' (.ref l) ∧ ∀ d ks, d ≠ l → MT d ks H F → MT d ks H F' := by
  obtain ⟨nf, us, h, r⟩ := m
  have s : Same F (upd F l (.lst us)) := fun b o e => by rw [upd_ne (ne_of_none e nf)]; exact e
  exact ⟨_, g.fz n nf h, s, ⟨l, us, rfl, upd_same, r.mono s⟩, fun d ks hd ⟨n1, ws, h1, k1⟩ => ⟨by rw [upd_ne hd]; exact n1, ws, h1, k1.mono s⟩⟩
theorem ok_next_front (T : Hd K mg) : Ce P w K mg base 1 "next_front" ["came", "further"] spNf := by
  refine ce_any T.d_next_front T.glo_next_front sc_next_front (fun _ _ _ _ _ _ us hl => match us, hl with | [_, _], _ => rfl) (fun vs H Q E ⟨d, C, fur, F, v, h, _⟩ => by rw [h]; rfl) (fun cdv A outer s H0 E hr => ⟨_, (pss_cons (ps_par3 (i := 2) (j := 3) (l := 4) (by rfl) sc_next_front.nd rfl rfl rfl (by decide) (by decide) (by decide) rfl rfl rfl (pa_cons (pe_lst pa_nil) (pa_cons pe_non (pa_cons (pe_un un_neg pe_int) pa_nil))) (by rfl))
      (pss_cons (ps_for PassesOwn.never rfl (pi_list (pv 1)) (tup_k (K := K) (n := 5) rfl (pgs_cons (pg_name (i := 5) sc_next_front.nd rfl (Or.inl rfl)) (pgs_cons (pg_name (i := 6) sc_next_front.nd rfl (Or.inl rfl)) (pgs_cons (pg_name (i := 7) sc_next_front.nd rfl (Or.inl rfl)) (pgs_cons (pg_name (i := 8) sc_next_front.nd rfl (Or.inl rfl)) (pgs_cons (pg_name (i := 9) sc_next_front.nd rfl (Or.inl rfl)) pgs_nil)))))) (pss_cons (ps_if (pt_cmpR (ned_k (K := K) hr.units) (pe_tup (pa_cons (pv 5) (pa_cons (pv 6) pa_nil))) (pv 3) (nomark _)) (pss_one (ps_par (i := 4) (j := 3) (by rfl) sc_next_front.nd rfl rfl (by decide) rfl rfl (pa_cons (pe_op op_add (pv 4) pe_int) (pa_cons (pe_tup (pa_cons (pv 5) (pa_cons (pv 6) pa_nil))) pa_nil)) (by rfl))) pss_nil)
      (pss_one (ps_if (pt_cmp (pc_dnotin (hu_of hr) (pe_tup (pa_cons (pv 7) (pa_cons (pv 8) pa_nil))) (pv 0))) (pss_cons (ps_dput (hu_of hr) (pv 0) (pe_tup (pa_cons (pv 7) (pa_cons (pv 8) pa_nil))) (pe_tup (pa_cons (pv 6) (pa_cons (pv 9) pa_nil))) rfl)
      (pss_one (ps_expr (bm_k (K := K) PySem.F.plainAttrs_list PySem.F.slot_list_append PySem.F.type_list_append mt_append (pv 2) (pa_cons (pe_tup (pa_cons (pv 4) (pa_cons (pv 7) (pa_cons (pv 8) pa_nil)))) pa_nil))))) pss_nil))))
      (pss_one (ps_ret (pv 2))))), ?_⟩)
  rintro vs H Q E ⟨d, C, fur, F, v0, rfl, s, hf, mt, hl, k⟩
  have e := En.start (N := ["came", "further", "found", "last", "rank", "before", "sign", "goal", "after", "place"]) (LA.cons (show (rV (.ref d)).at_ F (.ref d) from rfl) (.cons hf .nil))
  refine st_par3MEE s e (ev_lstM ea_nil) (A := rLast none) (B := rI (-1)) ev_c ev_neg1 (fun _ _ _ _ _ m g => m.grow g) fun l σ1 H1 F1 g1 nl ml e1 => ?_
  have hne : l ≠ d := fun z => mt.live (z ▸ nl)
  have mt1 := mt.gr g1 fun z => z
  have e1 : En F1 σ1 [some (rV (.ref d)), some (rLst (fur.map rFur)), some (rV (.ref l)), some (rLast none), some (rI (((0 : Nat) : Int) - 1)), none, none, none, none, none] := e1
  dsimp only
  refine st_for (InL [l, d]) g1.fh e1 (src_list (xs := fur) (RA := rFur) (ev_var rfl)) (fun i σ' H' F' => En F' σ' [some (rV (.ref d)), some (rLst (fur.map rFur)), some (rV (.ref l)), some (rLast ((fur.take i).foldl nf1 ((C, []), (none, 0))).2.1), some (rI ((((fur.take i).foldl nf1 ((C, []), (none, 0))).2.2 : Nat) - 1)), none, none, none, none, none] ∧
      ML l (((fur.take i).foldl nf1 ((C, []), (none, 0))).1.2.map rT3) H' F' ∧ MT d (cKs ((fur.take i).foldl nf1 ((C, []), (none, 0))).1.1) H' F')
    (fun H2 F2 g2 => ⟨e1.mono g2.ff, ml.grow g2, mt1.gr g2 fun z => z⟩) (fun i σ' H' F' H1 F1 ⟨a, w1, w2⟩ g => ⟨a.mono g.ff, w1.grow g, w2.gr g fun z => z⟩) (fun i f v σ' H' F' hx g ⟨a, w1, w2⟩ r N hN => ?_) fun σ2 H2 F2 g2 ⟨a, w1, w2⟩ => ?_
  · have hsn : (fur.take (i + 1)).foldl nf1 ((C, []), (none, 0)) = nf1 ((fur.take i).foldl nf1 ((C, []), (none, 0))) f := by
      rw [take_snoc hx, List.foldl_append]; rfl
    have hi := (List.getElem?_eq_some_iff.mp hx).1
    have hlen : ((fur.take i).foldl nf1 ((C, []), (none, 0))).1.1.length ≤ C.length + (fur.take i).length ∧ ((fur.take i).foldl nf1 ((C, []), (none, 0))).1.2.length ≤ 0 + (fur.take i).length := nfF_len (fur.take i) ((C, []), (none, 0))
    have hpos := nfF_pos (fur.take i) ((C, []), (none, 0)) (fun z => absurd rfl z)
    have hti : (fur.take i).length ≤ i := by rw [List.length_take]; omega
    rw [hsn] at hN
    generalize (fur.take i).foldl nf1 ((C, []), (none, 0)) = A at *
    obtain ⟨lp, hlast⟩ := nfL_pos f hpos
    obtain ⟨b, q, go, af, pl⟩ := f
    refine g_5 (R1 := rNat b) (R2 := rSg q) (R3 := rNat go) (R4 := rNat af) (R5 := rPr pl) g.fh a r fun σ3 e3 _ => ?_
    dsimp only
    refine st_ifC (fun σ' H'' F'' => G0 H' F' H'' F'' ∧ En F'' σ' [some (rV (.ref d)), some (rLst (fur.map rFur)), some (rV (.ref l)), some (rLast (nfL A.2 (b, q, go, af, pl)).1), some (rI (((nfL A.2 (b, q, go, af, pl)).2 : Nat) - 1)), some (rNat b), some (rSg q), some (rNat go), some (rNat af), some (rPr pl)]) g.fh e3
      (eb_test (EvE.eqB (ev_neD (K := K) (d := encLast (some (b, q))) (e := encLast A.2.1) (ev_tup (ea_2 (ev_var rfl) (ev_var rfl))) (ev_var rfl) (dpr_last (some (b, q))) (dpr_last _) (ok_last _).shaped (ok_last _).shaped) (j := !decide (some (b, q) = A.2.1)) (by rw [eqv_dec (fun a => (ok_last a).pl) encLast_inj])))
      (fun hd H3 F3 g3 e4 N3 hN3 => ?_) (fun hd H3 F3 g3 e4 => ?_) fun σ4 H4 F4 ⟨g4, e4⟩ => ?_
    · have hd : ¬ some (b, q) = A.2.1 := by simpa using hd
      refine st_par g3.fh e4 (R1 := rI ((A.2.2 : Nat) - 1 + 1)) (R2 := rLast (some (b, q))) (ea_2 (ev_I0 (ev_var rfl) ev_c) (ev_tup (ea_2 (ev_var rfl) (ev_var rfl)))) fun σ5 H5 F5 g5 e5 => hN3 _ H5 F5 ⟨g3.trans g5, ?_⟩
      unfold nfL
      rw [if_neg hd]
      have e0 : ((A.2.2 + 1 : Nat) : Int) - 1 = (A.2.2 : Int) - 1 + 1 := by omega
      show En F5 σ5 [some (rV (.ref d)), some (rLst (fur.map rFur)), some (rV (.ref l)), some (rLast (some (b, q))), some (rI (((A.2.2 + 1 : Nat) : Int) - 1)), some (rNat b), some (rSg q), some (rNat go), some (rNat af), some (rPr pl)]
      rw [e0]
      exact e5
    · have hd : some (b, q) = A.2.1 := by simpa using hd
      refine ⟨g3, ?_⟩
      unfold nfL
      rw [if_pos hd]
      exact e4
    · have w14 := w1.grow g4
      have w24 := w2.gr g4 fun z => z
      rw [nf1_two, nf1_came, nf1_found, hlast] at hN
      rw [hlast] at e4
      dsimp only at hN ⊢
      generalize (nfL A.2 (b, q, go, af, pl)).2 = rk at *
      refine st_ifC (fun σ' H'' F'' => Gr (InL [l, d]) H' F' H'' F'' ∧ En F'' σ' [some (rV (.ref d)), some (rLst (fur.map rFur)), some (rV (.ref l)), some (rLast (some (b, q))), some (rI ((rk : Nat) - 1)), none, none, none, none, none] ∧
          ML l ((if (go, af) ∈ A.1.1.map (·.1) then A.1.2 else A.1.2 ++ [(rk - 1, go, af)]).map rT3) H'' F'' ∧ MT d (cKs (if (go, af) ∈ A.1.1.map (·.1) then A.1.1 else A.1.1 ++ [((go, af), some (q, pl))])) H'' F'') g4.fh e4
        (eb_test (EvE.eqB (ev_dninMT (k := kyPr (go, af)) w24 (ev_tup (ea_2 (ev_var rfl) (ev_var rfl))) (ev_var rfl)) (j := !decide ((go, af) ∈ A.1.1.map (·.1))) (by rw [cKs_no]))) (fun hd H5 F5 g5 e5 N5 hN5 => ?_) (fun hd H5 F5 g5 e5 => ?_) fun σ5 H5 F5 ⟨g5, e5, m5, t5⟩ => hN σ5 H5 F5 g5 ?_
      · have hd : (go, af) ∉ A.1.1.map (·.1) := by simpa using hd
        rw [if_neg hd, if_neg hd] at hN5
        have hno : atK (cKs A.1.1) (kyPr (go, af)) = none := by
          have := cKs_no (p := (go, af)) (C := A.1.1)
          rw [decide_eq_false hd] at this
          simpa using this
        refine st_dputMT g5.fh e5 (w24.gr g5 fun z => z) (ev_var rfl) (k := kyPr (go, af)) (ev_tup (ea_2 (ev_var rfl) (ev_var rfl))) (R := rCame (some (q, pl))) (ev_tup (ea_2 (ev_var rfl) (ev_var rfl))) hno (by unfold cKs; rw [List.length_map]; omega) fun H6 F6 g6 f6 t6 => ?_
        dsimp only
        have hrk : rI ((rk : Int) - 1) = rNat (rk - 1) := by
          unfold rNat
          congr 1
          omega
        refine st_appM g6.fh (e5.mono f6) ((w14.grow g5).gr g6 hne) (ev_var rfl) (A := rT3 (rk - 1, go, af)) (ev_tup (ea_cons (ev_var (by rw [← hrk]; rfl)) (ea_2 (ev_var rfl) (ev_var rfl)))) (by rw [List.length_map]; omega) fun H7 F7 g7 f7 m7 => hN5 _ H7 F7 ⟨(((g4.trans g5).up.trans (gr_at (by simp) g6)).trans (gr_at (by simp) g7)), ((e5.mono f6).mono f7).mask [true, true, true, true, true, false, false, false, false, false], ?_, ?_⟩
        · rw [List.map_append]
          exact m7
        · unfold cKs at t6 ⊢
          rw [List.map_append]
          exact t6.gr g7 fun z => hne z.symm
      · have hd : (go, af) ∈ A.1.1.map (·.1) := by simpa using hd
        refine ⟨(g4.trans g5).up, e5.mask [true, true, true, true, true, false, false, false, false, false], ?_, ?_⟩
        · rw [if_pos hd]; exact w14.grow g5
        · rw [if_pos hd]; exact w24.gr g5 fun z => z
      · exact ⟨e5, m5, t5⟩
  · rw [List.take_length] at w1 w2
    have gH : Gr (At d) H F H2 F2 := Gr.dropTo g1.up g2 fun x hx => by
      rcases List.mem_cons.mp hx with rfl | hx
      · exact .inr nl
      · exact .inl (List.mem_singleton.mp hx)
    obtain ⟨F3, g3, f3, r3⟩ := w1.fz2T gH nl
    have w3 : MT d (cKs (nf C fur).1.1) H2 F3 := r3.2 d _ hne.symm w2
    have r3 := r3.1
    dsimp only
    exact st_ret g3.fh (a.mono f3) (ev_ref rfl r3) fun v H4 F4 g4 r4 => k v H4 F4 (g3.trans g4.up) (w3.gr g4 fun z => z) r4
end
end K81
set_option Elab.async false
set_option linter.all false
set_option maxRecDepth 100000
set_option maxHeartbeats 2000000
set_option autoImplicit false
/-! K81AG: missing_of, plainly. -/
namespace K81
open PySem PySem.Spec L2
def furOf (one other : Bx) (fr : List T3) : List Fur := srt rkFur (fr.flatMap (tupB one other))
def dead (f : Fur) : Bool := decide (f.2.2.2.1 = 0)
/-- true: nothing is missing -/
def miss (one other : Bx) : Nat → List Came × List T3 → Bool
  | 0, _ => true
  | k + 1, a => if a.2 = [] then true else if (furOf one other a.2).any dead then false else miss one other k (nf a.1 (furOf one other a.2)).1
def ms0 (one other : Bx) : List Came × List T3 := (one.st.map fun s => ((s, other.start), none), one.st.map fun s => (0, s, other.start))
def stands (one other : Bx) : Bool := miss one other (2 * (one.n * 2 ^ other.n + 1) + 1) (ms0 one other)
/-- a state of the search -/
structure MsOk (one other : Bx) (a : List Came × List T3) : Prop where
  nd : (a.1.map (·.1)).Nodup
  ch : Chain a.1
  lt : ∀ c ∈ a.1, c.1.1 < one.n ∧ c.1.2 < 2 ^ other.n
  fin : ∀ t ∈ a.2, t.2 ∈ a.1.map (·.1)
  fnd : (a.2.map (·.2)).Nodup
section
variable {one other : Bx} {a : List Came × List T3}
theorem key_few {l : List (Nat × Nat)} {n m : Nat} (h : l.Nodup) (hl : ∀ p ∈ l, p.1 < n ∧ p.2 < m) : l.length ≤ n * m := by
  have := nat_nodup_len (l.map fun p => p.1 * m + p.2) (List.range (n * m)) ?_ fun x hx => ?_
  · rw [List.length_map, List.length_range] at this
    exact this
  · refine List.pairwise_map.mpr (List.Pairwise.imp_of_mem (fun {p p'} hp hp' hne e => hne ?_) h)
    have a1 := (hl p hp).2
    have a2 := (hl p' hp').2
    have e1 : p.1 = p'.1 := by
      have h1 : (p.1 * m + p.2) / m = p.1 := by rw [Nat.mul_comm, Nat.mul_add_div (by omega), Nat.div_eq_of_lt a1, Nat.add_zero]
      have h2 : (p'.1 * m + p'.2) / m = p'.1 := by rw [Nat.mul_comm, Nat.mul_add_div (by omega), Nat.div_eq_of_lt a2, Nat.add_zero]
      rw [← h1, ← h2, e]
    refine Prod.ext e1 ?_
    rw [e1] at e
    omega
  · obtain ⟨p, hp, rfl⟩ := List.mem_map.mp hx
    obtain ⟨h1, h2⟩ := hl p hp
    rw [List.mem_range]
    calc p.1 * m + p.2 < p.1 * m + m := by omega
      _ = (p.1 + 1) * m := by rw [Nat.succ_mul]
      _ ≤ n * m := Nat.mul_le_mul_right _ h1
theorem MsOk.came (h : MsOk one other a) : a.1.length ≤ one.n * 2 ^ other.n := by
  have := key_few h.nd fun p hp => by
    obtain ⟨c, hc, rfl⟩ := List.mem_map.mp hp
    exact h.lt c hc
  rwa [List.length_map] at this
theorem MsOk.front (h : MsOk one other a) : a.2.length ≤ one.n * 2 ^ other.n := by
  have := key_few h.fnd fun p hp => by
    obtain ⟨t, ht, rfl⟩ := List.mem_map.mp hp
    obtain ⟨c, hc, e⟩ := List.mem_map.mp (h.fin t ht)
    rw [← e]
    exact h.lt c hc
  rwa [List.length_map] at this
theorem outs_len (b : Bx) (s : Nat) : (b.outs s).length ≤ 5 := Nat.le_trans (List.length_filter_le _ _) (signs_len (b := b))
theorem tupB_len (h1 : one.Ok) (t : T3) : (tupB one other t).length ≤ 5 * one.n := Nat.le_trans (tupF_len h1 t _) (Nat.mul_le_mul_right _ (outs_len _ _))
theorem flat_len {α β : Type} (f : α → List β) (n : Nat) (h : ∀ a, (f a).length ≤ n) : ∀ l : List α, (l.flatMap f).length ≤ l.length * n
  | [] => Nat.zero_le _
  | a :: l => by
    have h1 := flat_len f n h l
    have h2 := h a
    rw [List.flatMap_cons, List.length_append, List.length_cons, Nat.succ_mul]
    omega
theorem furOf_len (h1 : one.Ok) (fr : List T3) : (furOf one other fr).length ≤ fr.length * (5 * one.n) := by
  unfold furOf
  rw [srt_len]
  exact flat_len _ _ (tupB_len h1) _
/-- what is in furOf -/
theorem furOf_mem {fr : List T3} {f : Fur} : f ∈ furOf one other fr ↔ ∃ t ∈ fr, ∃ q ∈ one.outs t.2.1, ∃ g ∈ one.goals t.2.1 q, f = (t.1, q, g, other.behind t.2.2 q, t.2) := by
  unfold furOf
  rw [srt_mem, List.mem_flatMap]
  constructor
  · rintro ⟨t, ht, h⟩
    obtain ⟨q, hq, h⟩ := List.mem_flatMap.mp h
    obtain ⟨g, hg, rfl⟩ := List.mem_map.mp h
    exact ⟨t, ht, q, hq, g, hg, rfl⟩
  · rintro ⟨t, ht, q, hq, g, hg, rfl⟩
    exact ⟨t, ht, List.mem_flatMap.mpr ⟨q, hq, List.mem_map.mpr ⟨g, hg, rfl⟩⟩⟩
/-- one round: what is new -/
structure NfOk (C : List Came) (fur : List Fur) (a : NfS) (N : List Came) : Prop where
  came : a.1.1 = C ++ N
  found : a.1.2.map (·.2) = N.map (·.1)
  nd : (a.1.1.map (·.1)).Nodup
  old : ∀ c ∈ N, ∃ f ∈ fur, c = ((f.2.2.1, f.2.2.2.1), some (f.2.1, f.2.2.2.2))
theorem nf1_ok {C : List Came} {fur : List Fur} {a : NfS} {N : List Came} {f : Fur} (h : NfOk C fur a N) (hf : f ∈ fur) : ∃ N', NfOk C fur (nf1 a f) N' := by
  unfold nf1
  split
  · exact ⟨N, h.came, h.found, h.nd, h.old⟩
  · rename_i hn
    refine ⟨N ++ [((f.2.2.1, f.2.2.2.1), some (f.2.1, f.2.2.2.2))], ?_, ?_, ?_, fun c hc => ?_⟩
    · rw [← List.append_assoc, ← h.came]
    · rw [List.map_append, List.map_append, ← h.found]; rfl
    · show ((a.1.1 ++ [_]).map _).Nodup
      rw [List.map_append, List.nodup_append]
      refine ⟨h.nd, List.nodup_cons.mpr ⟨List.not_mem_nil, List.nodup_nil⟩, fun x hx y hy e => hn ?_⟩
      rw [List.map_singleton, List.mem_singleton] at hy
      rw [hy] at e
      have e : x = (f.2.2.1, f.2.2.2.1) := e
      rw [← e]
      exact hx
    · rcases List.mem_append.mp hc with hc | hc
      · exact h.old c hc
      · exact ⟨f, hf, List.mem_singleton.mp hc⟩
theorem nfF_ok {C : List Came} {fur : List Fur} : ∀ (l : List Fur) {a : NfS} {N : List Came}, (∀ f ∈ l, f ∈ fur) → NfOk C fur a N → ∃ N', NfOk C fur (l.foldl nf1 a) N'
  | [], a, N, _, h => ⟨N, h⟩
  | f :: l, a, N, hl, h => by
    obtain ⟨N', h'⟩ := nf1_ok h (hl f List.mem_cons_self)
    exact nfF_ok l (fun f hf => hl f (List.mem_cons_of_mem _ hf)) h'
theorem nf_ok {C : List Came} (hn : (C.map (·.1)).Nodup) (fur : List Fur) : ∃ N, NfOk C fur (nf C fur) N := nfF_ok fur (N := []) (fun _ h => h) ⟨(List.append_nil C).symm, rfl, hn, fun _ h => nomatch h⟩
theorem MsOk.next (h1 : one.Ok) (h2 : other.Ok) (h : MsOk one other a) : MsOk one other (nf a.1 (furOf one other a.2)).1 ∧ ∃ N, (nf a.1 (furOf one other a.2)).1.1 = a.1 ++ N ∧ (nf a.1 (furOf one other a.2)).1.2.length = N.length := by
  obtain ⟨N, k⟩ := nf_ok h.nd (furOf one other a.2)
  have hl : (nf a.1 (furOf one other a.2)).1.2.length = N.length := by
    have := congrArg List.length k.found
    simpa using this
  refine ⟨⟨k.nd, ?_, fun c hc => ?_, fun t ht => ?_, ?_⟩, N, k.came, hl⟩
  · rw [k.came]
    intro i p q p' hi
    by_cases hlt : i < a.1.length
    · rw [List.getElem?_append_left hlt] at hi
      obtain ⟨j, o, hj, hjo⟩ := h.ch i p q p' hi
      exact ⟨j, o, hj, by rw [List.getElem?_append_left (by omega)]; exact hjo⟩
    · rw [List.getElem?_append_right (by omega)] at hi
      obtain ⟨f, hf, e⟩ := k.old _ (List.mem_of_getElem? hi)
      obtain ⟨t, ht, q', hq, g, hg, rfl⟩ := furOf_mem.mp hf
      obtain ⟨j, hj, e2⟩ := List.getElem_of_mem (h.fin t ht)
      simp only [Prod.mk.injEq, Option.some.injEq] at e
      rw [List.length_map] at hj
      rw [List.getElem_map] at e2
      refine ⟨j, (a.1[j]).2, by omega, ?_⟩
      rw [List.getElem?_append_left hj, List.getElem?_eq_getElem hj, e.2.2, ← e2]
  · rw [k.came] at hc
    rcases List.mem_append.mp hc with hc | hc
    · exact h.lt c hc
    · obtain ⟨f, hf, rfl⟩ := k.old c hc
      obtain ⟨t, ht, q', hq, g, hg, rfl⟩ := furOf_mem.mp hf
      exact ⟨goals_lt h1 hg, Bx.behind_lt h2 _ _⟩
  · have : t.2 ∈ (nf a.1 (furOf one other a.2)).1.2.map (·.2) := List.mem_map.mpr ⟨t, ht, rfl⟩
    rw [k.found] at this
    rw [k.came, List.map_append]
    exact List.mem_append_right _ this
  · rw [k.found]
    have := k.nd
    rw [k.came, List.map_append, List.nodup_append] at this
    exact this.2.1
theorem ms0_ok (h1 : one.Ok) (h2 : other.Ok) (hn : one.st.Nodup) : MsOk one other (ms0 one other) := by
  refine ⟨?_, fun i p q p' hi => ?_, fun c hc => ?_, fun t ht => ?_, ?_⟩
  · unfold ms0
    rw [List.map_map]
    exact List.pairwise_map.mpr (hn.imp fun hne e => hne (by injection e))
  · obtain ⟨s, _, e⟩ := List.mem_map.mp (List.mem_of_getElem? hi)
    injection e with e1 e2
    cases e2
  · obtain ⟨s, hs, rfl⟩ := List.mem_map.mp hc
    exact ⟨h1.ins s hs, Bx.start_lt h2⟩
  · obtain ⟨s, hs, rfl⟩ := List.mem_map.mp ht
    exact List.mem_map.mpr ⟨_, List.mem_map.mpr ⟨s, hs, rfl⟩, rfl⟩
  · unfold ms0
    rw [List.map_map]
    exact List.pairwise_map.mpr (hn.imp fun hne e => hne (by injection e))
/-- fuel enough -/
def Fuel (one other : Bx) (k : Nat) (a : List Came × List T3) : Prop := 2 * (one.n * 2 ^ other.n + 1 - a.1.length) + (if a.2 = [] then 0 else 1) ≤ k
theorem fuel0 : Fuel one other (2 * (one.n * 2 ^ other.n + 1) + 1) (ms0 one other) := by
  unfold Fuel
  have : (if (ms0 one other).2 = [] then 0 else 1) ≤ 1 := by split <;> omega
  omega
theorem fuel_step (h1 : one.Ok) (h2 : other.Ok) (h : MsOk one other a) {k : Nat} (hf : Fuel one other k a) (hne : a.2 ≠ []) : ∃ j, k = j + 1 ∧ Fuel one other j (nf a.1 (furOf one other a.2)).1 := by
  unfold Fuel at hf
  rw [if_neg hne] at hf
  refine ⟨k - 1, by omega, ?_⟩
  obtain ⟨hok, N, hN, hl⟩ := h.next h1 h2
  have hb := hok.came
  unfold Fuel
  rw [hN] at hb ⊢
  rw [List.length_append] at hb ⊢
  split
  · omega
  · rename_i hne2
    have : 0 < N.length := by
      rw [← hl]
      exact List.length_pos_iff.mpr hne2
    omega
end
end K81
set_option Elab.async false
set_option linter.all false
set_option maxRecDepth 100000
set_option maxHeartbeats 2000000
set_option autoImplicit false
/-! K81AH: missing_of, stands_for. -/
namespace K81
open PySem PySem.Spec L2
open PyProof.Rows (envOfC)
/-- some object -/
def rRf : Rep := ⟨fun _ v => ∃ a, v = .ref a, fun _ h => h⟩
def rMs (b : Bool) : Rep := if b = true then rN else rRf
def encT3 (t : T3) : PyData := .tuple [.int (t.1 : Nat), .int (t.2.1 : Nat), .int (t.2.2 : Nat)]
theorem encT3_inj (a b : T3) (h : encT3 a = encT3 b) : a = b := by
  unfold encT3 at h
  injection h with h
  injection h with h1 h
  injection h with h2 h
  injection h with h3 _
  injection h1 with h1
  injection h2 with h2
  injection h3 with h3
  exact Prod.ext (by omega) (Prod.ext (by omega) (by omega))
theorem ok_T3 (t : T3) : Ok (encT3 t) 1 := by
  refine ok_tup fun d hd => ?_
  rcases List.mem_cons.mp hd with rfl | hd
  · exact ok_int
  · rcases List.mem_cons.mp hd with rfl | hd
    · exact ok_int
    · rw [List.mem_singleton.mp hd]
      exact ok_int
section
variable {P : Program} {w : World} {K : PySem.W.Frag} {mg : Str → Option Value} {base : Heap} {Rs : Rs_} {H F : Hp} {ta tb te : TE} {σ : L2.St} {D : Ends}
theorem dpr_T3 (t : T3) : DpR K (rT3 t) (encT3 t) := dpr_tup (.cons dpr_int (.cons dpr_int (.cons dpr_int .nil)))
theorem dpr_Fur (m : Fur) : DpR K (rFur m) (encFur m) := dpr_tup (.cons dpr_int (.cons (dpr_sg _) (.cons dpr_int (.cons dpr_int (.cons (dpr_pr _) .nil)))))
theorem ok_Fur (m : Fur) : Ok (encFur m) 2 := by
  refine ok_tup fun d hd => ?_
  rcases List.mem_cons.mp hd with rfl | hd
  · exact ok_int
  · rcases List.mem_cons.mp hd with rfl | hd
    · exact ok_sg _
    · rcases List.mem_cons.mp hd with rfl | hd
      · exact ok_int
      · rcases List.mem_cons.mp hd with rfl | hd
        · exact ok_int
        · rw [List.mem_singleton.mp hd]
          exact ok_pr _
theorem ev_srtFur {l : List Fur} (h : EvE ta Rs H F (rLst (l.map rFur))) : EvE (tCB (rSortD K) (tCons ta tNil)) Rs H F (rLst ((srt rkFur l).map rFur)) :=
  ev_sortD h dpr_Fur le_Fur (fun a b => by simp [encFur, encSg, encPr, PySem.W.alike, PySem.W.alikeAll]) (so_Fur l) fun b => Nat.le_trans (ok_Fur b).dep (by decide)
theorem ev_catRf {n : Nat} {A : Rep} (ha : EvE ta Rs H F (rLs n)) (hb : EvE tb Rs H F (rLst [A])) (hn : n + 1 ≤ sizeLine) : EvE (tOp rCat ta tb) Rs H F rRf :=
  ev_op ha hb fun H1 F1 x y g ⟨Ts, hl, a, us, ex, h1, l1⟩ ⟨b, ws, ey, h2, l2⟩ Q q => by
    refine ⟨a, b, us, ws, ex, ey, g.fh _ _ h1, g.fh _ _ h2, ?_, fun p hp => ?_⟩
    · rw [l1.len, l2.len]
      simp
      omega
    · have g3 : G0 H1 F1 (upd H1 p (.lst (us ++ ws))) F1 := Gr.newM g.fh hp
      exact q _ _ _ g3 ⟨p, rfl⟩
theorem st_asgM {i : Nat} {S : Addr → Hp → Hp → Prop} (s : Same F H) (e : En F σ Rs) (h : EvM te Rs H F S) (k : ∀ d σ' H' F', G0 H F H' F' → H d = none → S d H' F' → En F' σ' (Rs.set i (some (rV (.ref d)))) → D.nx σ' H') : tAsg te (gName i) D σ H :=
  h σ H F (Gr.refl s) e _ fun d H1 F1 g1 n1 s1 => g_1 (R1 := rV (.ref d)) (e.mono g1.ff) rfl fun σ2 e2 _ => k d σ2 H1 F1 g1 n1 s1 e2
abbrev msDom (p : Bx × Bx) : Prop := p.1.Ok ∧ p.2.Ok ∧ p.1.st.Nodup ∧ p.1.n * 2 ^ p.2.n ≤ 1000000 ∧ p.1.n * 2 ^ p.2.n * (5 * p.1.n) ≤ 12000000
abbrev spMissing (K : PySem.W.Frag) : Sp := PSp (fun p : Bx × Bx => [rBox K p.1, rBox K p.2]) (fun p _ _ => msDom p) (fun p => rMs (stands p.1 p.2))
theorem miss_nil {one other : Bx} : ∀ {k : Nat} {a : List Came × List T3}, a.2 = [] → miss one other k a = true
  | 0, _, _ => rfl
  | k + 1, a, h => by
    unfold miss
    rw [if_pos h]
theorem ok_missing_of (T : Hd K mg) (c_start_set : Ce P w K mg base 2 "start_set" ["box"] (spStartSet K)) (c_Box_starts : Cq P w K mg base 1 (He.ga K "Box") "starts" ["self"] (spStarts K)) (c_tuples_behind : Ce P w K mg base 7 "tuples_behind" ["one", "other", "here"] (spTup K))
    (c_row_to_place : Ce P w K mg base 1 "row_to_place" ["came", "place"] spRow) (c_next_front : Ce P w K mg base 1 "next_front" ["came", "further"] spNf) : Ce P w K mg base 8 "missing_of" ["one", "other"] (spMissing K) := by
  refine ce_plain T.d_missing_of T.glo_missing_of sc_missing_of (fun _ _ _ _ _ _ us hl => match us, hl with | [_, _], _ => rfl) (fun _ => rfl) (fun cdv A outer s H0 E hr => ⟨_, (pss_cons (ps_set (i := 2) sc_missing_of.nd rfl (Or.inr rfl) (pe_c c_start_set (hr.mono (by decide)) rfl (pa_cons (pv 1) pa_nil)))
      (pss_cons (ps_setDc (i := 3) (own := [("start", 4)]) (tt := tYes) rfl (hu64 hr) sc_missing_of.nd rfl rfl (sw_trueD rfl rfl rfl (by decide +kernel)) (pi_list (pe_q0 c_Box_starts (pv 0) (hr.mono (by decide)))) (blkOk_by (own := [("start", 4)]) (N := ["one", "other", "begin", "came", "start", "front", "further", "here", "rank", "sign", "goal", "after", "place"]) (sc := defScope s_missing_of) (by decide +kernel)) (fun _ _ _ _ _ => (pg_name (i := 4) sc_missing_of.nd rfl (Or.inl rfl))) (fun _ _ _ _ _ => pts_nil) (fun _ _ _ _ _ => (pe_tup (pa_cons (pv 4) (pa_cons (pv 2) pa_nil)))) (fun _ _ _ _ _ => pe_non))
      (pss_cons (ps_setLc (i := 5) (own := [("start", 4)]) (tt := tYes) rfl sc_missing_of.nd rfl rfl (sw_true rfl rfl rfl (by decide +kernel)) (pi_list (pe_q0 c_Box_starts (pv 0) (hr.mono (by decide)))) (blkOk_by (own := [("start", 4)]) (N := ["one", "other", "begin", "came", "start", "front", "further", "here", "rank", "sign", "goal", "after", "place"]) (sc := defScope s_missing_of) (by decide +kernel)) (fun _ _ _ _ _ => (pg_name (i := 4) sc_missing_of.nd rfl (Or.inl rfl))) (fun _ _ _ _ _ => pts_nil) (fun _ _ _ _ _ => (pe_tup (pa_cons pe_int (pa_cons (pv 4) (pa_cons (pv 2) pa_nil))))))
      (pss_cons (ps_while PassesOwn.never (pt_cmpR (ned_k (K := K) hr.units) (pv 5) (pe_lst pa_nil) (nomark _)) (pss_cons (ps_set (i := 6) sc_missing_of.nd rfl (Or.inl rfl) (pe_lst pa_nil))
      (pss_cons (ps_for PassesOwn.never rfl (pi_list (pv 5)) (pg_name (i := 7) sc_missing_of.nd rfl (Or.inl rfl)) (pss_one (ps_expr (bm_k (K := K) PySem.F.plainAttrs_list PySem.F.slot_list_extend PySem.F.type_list_extend mt_extend (pv 6) (pa_cons (pe_c c_tuples_behind (hr.mono (by decide)) rfl (pa_cons (pv 0) (pa_cons (pv 1) (pa_cons (pv 7) pa_nil)))) pa_nil)))))
      (pss_cons (ps_set (i := 6) sc_missing_of.nd rfl (Or.inl rfl) (pe_callB (srtD_k (K := K) (hu64 hr)) (by rfl) T.free_sorted (by decide +kernel) (pa_cons (pv 6) pa_nil)))
      (pss_cons (ps_for PassesOwn.never rfl (pi_list (pv 6)) (tup_k (K := K) (n := 5) rfl (pgs_cons (pg_name (i := 8) sc_missing_of.nd rfl (Or.inl rfl)) (pgs_cons (pg_name (i := 9) sc_missing_of.nd rfl (Or.inl rfl)) (pgs_cons (pg_name (i := 10) sc_missing_of.nd rfl (Or.inl rfl)) (pgs_cons (pg_name (i := 11) sc_missing_of.nd rfl (Or.inl rfl)) (pgs_cons (pg_name (i := 12) sc_missing_of.nd rfl (Or.inl rfl)) pgs_nil)))))) (pss_one (ps_if (pt_cmpR op_eq (pv 11) pe_int (nomark _)) (pss_one (ps_ret (pe_op op_cat (pe_c c_row_to_place (hr.mono (by decide)) rfl (pa_cons (pv 3) (pa_cons (pv 12) pa_nil))) (pe_lst (pa_cons (pv 9) pa_nil))))) pss_nil)))
      (pss_one (ps_set (i := 5) sc_missing_of.nd rfl (Or.inl rfl) (pe_c c_next_front (hr.mono (by decide)) rfl (pa_cons (pv 3) (pa_cons (pv 6) pa_nil))))))))))
      (pss_one (ps_ret pe_non)))))), ?_⟩)
  intro ⟨one, other⟩ F H σ Q s hd e k0
  obtain ⟨h1, h2, hnd, hb1, hb2⟩ : one.Ok ∧ other.Ok ∧ one.st.Nodup ∧ one.n * 2 ^ other.n ≤ 1000000 ∧ one.n * 2 ^ other.n * (5 * one.n) ≤ 12000000 := hd
  have k0 : ∀ v H' F', G0 H F H' F' → (rMs (stands one other)).at_ F' v → Q v H' := k0
  have big : 13000001 < sizeLine := by decide
  have hst := h1.st
  refine st_asg s e (x_start (ev_var rfl) h2) fun σ1 H1 F1 g1 e1 => ?_
  dsimp only
  refine st_asgM g1.fh e1 (ev_dc0 (xs := one.st) (RA := rNat) (kf := fun s => kyPr (s, other.start)) (RB := fun _ => rCame none) (src_list (x_starts (ev_var rfl))) (by omega) rfl (fun _ _ => tgt_1) (fun x _ => ev_tup (ea_2 (ev_var rfl) (ev_var rfl))) (fun x _ => ev_c) ?_) fun d σ2 H2 F2 g2 nd md e2 => ?_
  · exact List.pairwise_map.mpr (hnd.imp fun hne e => hne (by have := kyPr_inj _ _ e; injection this))
  have md : MT d (cKs (ms0 one other).1) H2 F2 := by
    have e0 : cKs (ms0 one other).1 = one.st.map fun x => (kyPr (x, other.start), rCame none) := by
      unfold cKs ms0
      rw [List.map_map]
      rfl
    rw [e0]
    exact md
  dsimp only
  refine st_asg g2.fh e2 (ev_lc0 (xs := one.st) (RA := rNat) (RB := rT3) (f := fun s => ((0, s, other.start) : T3)) (src_list (x_starts (ev_var rfl))) (by omega) rfl (fun _ _ => tgt_1) fun x _ => ev_tup (ea_cons ev_c (ea_2 (ev_var rfl) (ev_var rfl)))) fun σ3 H3 F3 g3 e3 => ?_
  have nd0 : H d = none := g1.none nd
  have ok0 := ms0_ok h1 h2 hnd
  dsimp only
  refine st_while (At d) g3.fh (fun m σ' H' F' => ∃ a, MsOk one other a ∧ Fuel one other m a ∧ miss one other m a = stands one other ∧ MT d (cKs a.1) H' F' ∧
      En F' σ' [some (rBox K one), some (rBox K other), some (rNat other.start), some (rV (.ref d)), none, some (rLst (a.2.map rT3)), none, none, none, none, none, none, none]) _
    ⟨ms0 one other, ok0, fuel0, rfl, md.gr g3 fun z => z, e3⟩ fun m σ' H' F' g ⟨a, hok, hfu, hms, mt, en⟩ => ?_
  refine ⟨_, !decide (a.2 = []), en, eb_test (EvE.eqB (ev_neD (K := K) (d := .list (a.2.map encT3)) (e := .list ([].map encT3)) (ev_var rfl) (ev_lst ea_nil) (dpr_lst (dprs_map dpr_T3 _)) (dpr_lst .nil) (ok_list ok_T3 _).shaped (ok_list ok_T3 _).shaped) (by rw [eqv_list (fun a => (ok_T3 a).pl) encT3_inj])), fun hne H4 F4 g4 N hN => ?_, fun hne H4 F4 g4 => ?_⟩
  · have hne : a.2 ≠ [] := by simpa using hne
    obtain ⟨j, rfl, hfj⟩ := fuel_step h1 h2 hok hfu hne
    have hms : (if (furOf one other a.2).any dead = true then false else miss one other j (nf a.1 (furOf one other a.2)).1) = stands one other := by
      rw [← hms]
      conv => rhs; unfold miss
      rw [if_neg hne]
    have hcl := hok.came
    have hfl := hok.front
    have hful := furOf_len (one := one) (other := other) h1 a.2
    have hmul : a.2.length * (5 * one.n) ≤ one.n * 2 ^ other.n * (5 * one.n) := Nat.mul_le_mul_right _ hfl
    refine st_nilM g4.fh (en.mono g4.ff) fun l σ5 H5 nl g5 e5 ml => ?_
    have mt5 := (mt.gr g4 fun z => z).gr g5 fun z => z
    have hne2 : d ≠ l := fun z => (mt.gr g4 fun z => z).live (z ▸ nl)
    dsimp only
    refine st_for (At l) g5.fh e5 (src_list (xs := a.2) (RA := rT3) (ev_var rfl)) (fun i σ' H' F' => En F' σ' [some (rBox K one), some (rBox K other), some (rNat other.start), some (rV (.ref d)), none, some (rLst (a.2.map rT3)), some (rV (.ref l)), none, none, none, none, none, none] ∧ ML l (((a.2.take i).flatMap (tupB one other)).map rFur) H' F' ∧ MT d (cKs a.1) H' F')
      (fun H6 F6 g6 => ⟨e5.mono g6.ff, ml.grow g6, mt5.gr g6 fun z => z⟩) (fun i σ' H' F' H1 F1 ⟨a, w1, w2⟩ g => ⟨a.mono g.ff, w1.grow g, w2.gr g fun z => z⟩) (fun i t v σ6 H6 F6 ht g6 ⟨e6, w1, w2⟩ r N6 hN6 => ?_) fun σ6 H6 F6 g6 ⟨e6, w1, w2⟩ => ?_
    · have htm := List.mem_of_getElem? ht
      have hti := (List.getElem?_eq_some_iff.mp ht).1
      obtain ⟨c, hc, hce⟩ := List.mem_map.mp (hok.fin t htm)
      have hlt := hok.lt c hc
      rw [hce] at hlt
      refine g_1 (R1 := rT3 t) e6 r fun σ7 e7 _ => ?_
      refine st_extM g6.fh e7 w1 (ev_var rfl) (x_tuples (h := t) (ev_var rfl) (ev_var rfl) (ev_var rfl) h1 h2 hlt.1 hlt.2) ?_ fun H8 F8 g8 f8 m8 => hN6 _ H8 F8 g8 ⟨(e7.mono f8).mask [true, true, true, true, false, true, true, false, false, false, false, false, false], ?_, w2.gr g8 hne2⟩
      · have b1 := flat_len (tupB one other) _ (tupB_len h1) (a.2.take i)
        have b2 := tupB_len (other := other) h1 t
        have b3 : (a.2.take i).length ≤ a.2.length := List.length_take_le' ..
        have b4 : (a.2.take i).length * (5 * one.n) ≤ a.2.length * (5 * one.n) := Nat.mul_le_mul_right _ b3
        have b5 := h1.n
        rw [List.length_map, List.length_map]
        omega
      · rw [take_snoc ht, flat_snoc, List.map_append]
        exact m8
    · rw [List.take_length] at w1
      obtain ⟨F7, g7, f7, r7, k7⟩ := w1.fz2T (g5.up.trans g6) nl
      have w7 := k7 d _ hne2 w2
      have gM : Gr (At d) H' F' H6 F7 := (g4.up).dropTo g7 fun x (hx : x = l) => .inr (by rw [hx]; exact g4.none nl)
      dsimp only
      refine st_asg g7.fh (e6.mono f7) (ev_srtFur (K := K) (ev_ref rfl r7)) fun σ8 H8 F8 g8 e8 => ?_
      have w8 := w7.gr g8 fun z => z
      have gH8 : G0 H F H8 F8 := (((g1.trans g2).trans g3).drop (g.trans (gM.trans g8.up)) fun x (hx : x = d) => by rw [hx]; exact nd0)
      have efu : srt rkFur (a.2.flatMap (tupB one other)) = furOf one other a.2 := rfl
      rw [efu] at e8
      dsimp only
      refine st_for No g8.fh e8 (src_list (xs := furOf one other a.2) (RA := rFur) (ev_var rfl)) (fun i σ' H' F' => En F' σ' [some (rBox K one), some (rBox K other), some (rNat other.start), some (rV (.ref d)), none, some (rLst (a.2.map rT3)), some (rLst ((furOf one other a.2).map rFur)), none, none, none, none, none, none] ∧ MT d (cKs a.1) H' F' ∧ ∀ f ∈ (furOf one other a.2).take i, dead f = false)
        (fun H9 F9 g9 => ⟨e8.mono g9.ff, w8.gr g9 fun z => z, fun f hf => nomatch hf⟩) (fun i σ' H' F' H1 F1 ⟨a, w1, w2⟩ g => ⟨a.mono g.ff, w1.gr g fun z => z, w2⟩) (fun i f v σ9 H9 F9 hf g9 ⟨e9, w9, hdd⟩ r N9 hN9 => ?_) fun σ9 H9 F9 g9 ⟨e9, w9, hdd⟩ => ?_
      · have hfm := List.mem_of_getElem? hf
        obtain ⟨t, ht, q, hq, go, hgo, rfl⟩ := furOf_mem.mp hfm
        refine g_5 (R1 := rNat t.1) (R2 := rSg q) (R3 := rNat go) (R4 := rNat (other.behind t.2.2 q)) (R5 := rPr t.2) g9.fh e9 r fun σ10 e10 _ => ?_
        dsimp only
        refine st_if (b := decide (other.behind t.2.2 q = 0)) g9.fh e10 (eb_test (EvE.eqB (ev_eq (ev_var rfl) ev_c rfl) (len_dec (m := 0)))) (fun hz H10 F10 g10 e11 => ?_) fun hz H10 F10 g10 e11 => ?_
        · have hz := of_decide_eq_true hz
          have hany : (furOf one other a.2).any dead = true := List.any_eq_true.mpr ⟨_, hfm, by unfold dead; rw [decide_eq_true_eq]; exact hz⟩
          rw [if_pos hany] at hms
          rw [← hms] at k0
          have w10 := w9.gr g10 fun z => z
          obtain ⟨i0, hi0, e0⟩ := List.getElem_of_mem (hok.fin t ht)
          rw [List.length_map] at hi0
          rw [List.getElem_map] at e0
          refine st_ret g10.fh e11 (R := rRf) (ev_catRf (n := a.1.length) (ev_call (res := fun g : Addr × List Came × (Nat × Nat) => rLs g.2.1.length) (d, a.1, t.2) (ea_2 (ev_var rfl) (ev_var rfl)) rfl fun H11 F11 g11 => ⟨w10.gr g11 fun z => z, hok.nd, hok.ch, Nat.le_trans hcl hb1, i0, (a.1[i0]).2, by rw [List.getElem?_eq_getElem hi0, ← e0]⟩) (ev_lst (ea_1 (A := rSg q) (ev_var rfl))) (by omega)) fun v H11 F11 g11 r11 => k0 v H11 F11 (((gH8.trans g9).trans g10).trans g11) r11
        · have hz := of_decide_eq_false hz
          refine hN9 _ H10 F10 g10.up ⟨e11.mask [true, true, true, true, false, true, true, false, false, false, false, false, false], w9.gr g10 fun z => z, fun f hf' => ?_⟩
          rw [take_snoc hf] at hf'
          rcases List.mem_append.mp hf' with hf' | hf'
          · exact hdd f hf'
          · rw [List.mem_singleton.mp hf']
            unfold dead
            rw [decide_eq_false_iff_not]
            exact hz
      · rw [List.take_length] at hdd
        have hany : (furOf one other a.2).any dead = false := List.any_eq_false.mpr fun f hf => by rw [hdd f hf]; exact Bool.false_ne_true
        rw [hany, if_neg Bool.false_ne_true] at hms
        dsimp only
        refine st_nf g9.fh e9 w9 (ev_var rfl) (ev_var rfl) (by omega) fun σ10 H10 F10 g10 m10 e10 => hN j _ H10 F10 (Nat.lt_succ_self j) (((gM.trans g8.up).trans g9.up).trans g10) ⟨(nf a.1 (furOf one other a.2)).1, (hok.next h1 h2).1, hfj, hms, m10, e10.mask [true, true, true, true, false, true, false, false, false, false, false, false, false]⟩
  · have hne : a.2 = [] := by simpa using hne
    rw [← hms, miss_nil hne] at k0
    have gH : G0 H F H4 F4 := (((g1.trans g2).trans g3).drop g fun x (hx : x = d) => by rw [hx]; exact nd0).trans g4
    dsimp only
    exact st_ret g4.fh (en.mono g4.ff) (R := rN) ev_c fun v H5 F5 g5 r5 => k0 v H5 F5 (gH.trans g5) r5
theorem ok_stands_for (T : Hd K mg) (c_want_limited : Ce P w K mg base 3 "want_limited" ["box"] (spWantLimited K)) (c_missing_of : Ce P w K mg base 8 "missing_of" ["one", "other"] (spMissing K)) :
    Ce P w K mg base 9 "stands_for" ["one", "other"] (PSp (fun p : Bx × Bx => [rBox K p.1, rBox K p.2]) (fun p _ _ => msDom p ∧ p.2.n ≤ 7) (fun p => rB (stands p.1 p.2))) := by
  refine ce_plain T.d_stands_for T.glo_stands_for sc_stands_for (fun _ _ _ _ _ _ us hl => match us, hl with | [_, _], _ => rfl) (fun _ => rfl) (fun cdv A outer s H0 E hr => ⟨_, (pss_cons (ps_expr (pe_c c_want_limited (hr.mono (by decide)) rfl (pa_cons (pv 1) pa_nil)))
      (pss_one (ps_ret (pe_cmpR op_isN (pe_c c_missing_of (hr.mono (by decide)) rfl (pa_cons (pv 0) (pa_cons (pv 1) pa_nil))) pe_non (nomark _))))), ?_⟩)
  intro ⟨one, other⟩ F H σ Q s hd e k0
  obtain ⟨hd, h7⟩ : msDom (one, other) ∧ other.n ≤ 7 := hd
  refine st_drop s e (ev_call (res := fun _ => rN) other (ea_1 (ev_var rfl)) rfl fun _ _ _ => h7) fun H1 F1 g1 e1 => ?_
  dsimp only
  refine st_ret g1.fh e1 (ev_isN (b := stands one other) (ev_call (res := fun p : Bx × Bx => rMs (stands p.1 p.2)) (one, other) (ea_2 (ev_var rfl) (ev_var rfl)) rfl fun _ _ _ => hd) fun F' v h => ?_) fun v H2 F2 g2 r => k0 v H2 F2 (g1.trans g2) r
  have h : (rMs (stands one other)).at_ F' v := h
  cases hs : stands one other with
  | true => rw [hs] at h; rw [show v = V.non from h]; rfl
  | false => rw [hs] at h; obtain ⟨a, rfl⟩ := h; rfl
end
end K81
set_option Elab.async false
set_option linter.all false
set_option maxRecDepth 100000
set_option maxHeartbeats 2000000
set_option autoImplicit false
/-! K81AI: two generators; both_starts, in_step. -/
namespace K81
open PySem PySem.Spec L2
open PyProof.Rows (envOfC)
section
variable {α α1 β : Type} {xs : List α} {ys : List α1} {RA : α → Rep} {RA1 : α1 → Rep} {RB : β → Rep} {wi wi1 : TI} {g g1 : TG} {te : TE} {vs vs1 : List Nat} {H F : Hp} {Rs : Rs_} {f : α → α1 → β} {Ss : α → Rs_} {Ss1 : α → α1 → Rs_}
theorem flat_take {xs : List α} {ys : List α1} (f : α → α1 → β) {i : Nat} {x : α} (hx : xs[i]? = some x) : (xs.take (i + 1)).flatMap (fun x => ys.map (f x)) = (xs.take i).flatMap (fun x => ys.map (f x)) ++ ys.map (f x) := by
  rw [take_snoc hx, flat_snoc]
theorem flat_len2 {xs : List α} {ys : List α1} (f : α → α1 → β) : (xs.flatMap (fun x => ys.map (f x))).length = xs.length * ys.length := by
  induction xs with
  | nil => simp
  | cons x xs ih => rw [List.flatMap_cons, List.length_append, ih, List.length_map, List.length_cons, Nat.succ_mul, Nat.add_comm]
theorem ev_lc2 (src : SrcL wi Rs H F xs RA) (ho : offB vs Rs = true) (hg : ∀ x ∈ xs, Tgt g vs Rs (RA x) (Ss x)) (src1 : ∀ x ∈ xs, SrcL wi1 (Ss x) H F ys RA1) (ho1 : ∀ x ∈ xs, offB vs1 (Ss x) = true)
    (hg1 : ∀ x ∈ xs, ∀ y ∈ ys, Tgt g1 vs1 (Ss x) (RA1 y) (Ss1 x y)) (he : ∀ x ∈ xs, ∀ y ∈ ys, EvE te (Ss1 x y) H F (RB (f x y))) (hz : xs.length * ys.length < sizeLine) :
    EvE (tLc2 wi g tYes wi1 g1 tYes te vs vs1) Rs H F (rLst ((xs.flatMap fun x => ys.map (f x)).map RB)) := by
  intro σ H1 F1 k0 e Q q
  refine src σ H1 F1 k0 e _ fun J H2 F2 k ok D hD => ?_
  have e2 := e.mono k.ff
  have nF : F2 D = none := k.fh.free hD
  refine ⟨fun i m H' => m = xs.length - i ∧ i ≤ xs.length ∧ ∃ F' us, G0 H2 F2 H' F' ∧ H' D = some (.lst us) ∧ F' D = none ∧ LA F' us (((xs.take i).flatMap fun x => ys.map (f x)).map RB), ⟨_, rfl, Nat.zero_le _, F2, [], Gr.newM k.fh hD, upd_same, nF, .nil⟩, ?_⟩
  rintro i m H' ⟨rfl, hi, F', us, g3, hd, hn, l⟩
  obtain ⟨o1, o2⟩ := ok H' F' g3.ff g3.fh
  by_cases hlt : i < xs.length
  · refine .inr ?_
    have hx : xs[i]? = some xs[i] := List.getElem?_eq_getElem hlt
    have hmem : xs[i] ∈ xs := List.getElem_mem hlt
    have hil : ((xs.take i).flatMap fun x => ys.map (f x)).length ≤ (xs.length - 1) * ys.length := by
      rw [flat_len2, List.length_take]
      exact Nat.mul_le_mul_right _ (by omega)
    have hsz : (xs.length - 1) * ys.length + ys.length = xs.length * ys.length := by
      rw [← Nat.succ_mul]
      congr 1
      omega
    have hft := flat_take (ys := ys) f hx
    generalize xs[i] = x at *
    obtain ⟨q1, q2⟩ := o2 i x hx
    refine ⟨q1, fun H'' => i + 1 ≤ xs.length ∧ ∃ F'' us, G0 H2 F2 H'' F'' ∧ H'' D = some (.lst us) ∧ F'' D = none ∧ LA F'' us (((xs.take (i + 1)).flatMap fun x => ys.map (f x)).map RB), fun H'' p' => ⟨_, by omega, rfl, p'⟩, fun v H3 y => ?_⟩
    obtain ⟨F3, k3, r⟩ := q2 v H3 y
    have g4 := g3.trans k3
    refine hg _ hmem v (wipe σ vs) H3 F3 k3.fh (off_wipe ho (e2.mono g4.ff)) r _ fun σ2 e4 w => ⟨w.trans wipe_wipe, ?_⟩
    refine tYes_run ?_
    refine src1 x hmem σ2 H3 F3 ((k0.trans k).trans g4) e4 _ fun J1 H4 F4 k4 ok1 => ?_
    have e5 := e4.mono k4.ff
    have hd4 := k4.h (k3.h hd)
    have hn4 := (k3.trans k4).out hn hd
    have l4 := l.mono (k3.trans k4).ff
    have g5 := g4.trans k4
    refine ⟨fun j m H' => m = ys.length - j ∧ j ≤ ys.length ∧ ∃ F' us, Gr (At D) H4 F4 H' F' ∧ H' D = some (.lst us) ∧ F' D = none ∧ LA F' us ((((xs.take i).flatMap fun x => ys.map (f x)) ++ (ys.take j).map (f x)).map RB), ⟨_, rfl, Nat.zero_le _, F4, us, Gr.refl k4.fh, hd4, hn4, ?_⟩, ?_⟩
    · rw [List.take_zero, List.map_nil, List.append_nil]
      exact l4
    rintro j m H5 ⟨rfl, hj, F5, us5, k5, hd5, hn5, l5⟩
    obtain ⟨p1, p2⟩ := ok1 H5 F5 k5.ff k5.fh
    have g6 : G0 H2 F2 H5 F5 := g5.drop k5 fun a (z : a = D) => by rw [z]; exact hD
    by_cases hjt : j < ys.length
    · refine .inr ?_
      have hy : ys[j]? = some ys[j] := List.getElem?_eq_getElem hjt
      have hmy : ys[j] ∈ ys := List.getElem_mem hjt
      generalize ys[j] = y1 at *
      obtain ⟨p3, p4⟩ := p2 j y1 hy
      refine ⟨p3, fun H'' => j + 1 ≤ ys.length ∧ ∃ F' us, Gr (At D) H4 F4 H'' F' ∧ H'' D = some (.lst us) ∧ F' D = none ∧ LA F' us ((((xs.take i).flatMap fun x => ys.map (f x)) ++ (ys.take (j + 1)).map (f x)).map RB), fun H'' p' => ⟨_, by omega, rfl, p'⟩, fun v1 H6 z1 => ?_⟩
      obtain ⟨F6, k6, r6⟩ := p4 v1 H6 z1
      have g7 := g6.trans k6
      have k7 := k5.trans k6.up
      refine hg1 x hmem _ hmy v1 (wipe σ2 vs1) H6 F6 k6.fh (off_wipe (ho1 x hmem) (e5.mono k7.ff)) r6 _ fun σ3 e6 w1 => ⟨w1.trans wipe_wipe, ?_⟩
      refine tYes_run ?_
      have hd6 := k6.h hd5
      have hn6 := k6.out hn5 hd5
      refine he x hmem _ hmy σ3 H6 F6 ((k0.trans k).trans g7) e6 _ fun u H8 F8 k8 ru => ⟨us5, k8.h hd6, ?_, hjt, F8, us5 ++ [u], (k7.trans k8.up).wr (.inr rfl) (k8.out hn6 hd6), upd_same, k8.out hn6 hd6, ?_⟩
      · have h1 := l5.len
        rw [List.length_map, List.length_append, List.length_map, List.length_take] at h1
        omega
      · have e9 : ((xs.take i).flatMap fun x => ys.map (f x)) ++ (ys.take j ++ [y1]).map (f x) = (((xs.take i).flatMap fun x => ys.map (f x)) ++ (ys.take j).map (f x)) ++ [f x y1] := by rw [List.map_append, List.append_assoc]; rfl
        rw [take_snoc hy, e9, List.map_append]
        exact (l5.mono (k6.trans k8).ff).append (.cons ru .nil)
    · have e : j = ys.length := by omega
      subst e
      refine .inl ⟨p1, hlt, F5, us5, g6, hd5, hn5, ?_⟩
      rw [List.take_length] at l5
      rw [hft]
      exact l5
  · have e : i = xs.length := by omega
    subst e
    refine .inl ⟨o1, q _ H' (upd F' D (.lst us)) ((k.trans g3).fz (k.none hD) hn hd) ⟨D, us, rfl, upd_same, ?_⟩⟩
    rw [List.take_length] at l
    refine l.mono fun b o hb => ?_
    rw [upd_ne (ne_of_none hb hn)]
    exact hb
end
theorem tgt_1w {i : Nat} {R : Rep} {vs : List Nat} {Rs : Rs_} (h : i ∈ vs) : Tgt (gName i) vs Rs R (Rs.set i (some R)) := fun v σ H1 F1 s e r Q q => g_1 e r fun σ2 e2 w => q σ2 e2 (w vs fun j hj => by rw [List.mem_singleton.mp hj]; exact h)
theorem pi_listK {X : Cx} {tg l : Expr} {tl : TE} {K : PySem.W.Frag} (hl : PE X l tl) (h : X.K = K := by rfl) : PI X tg l (iList K tl) := h ▸ pi_list hl
/-! ### in step -/
def bothStarts (one other : Bx) : List Nat := one.st.flatMap fun s => other.st.map fun f => s * other.n + f
def inStepM (other : Bx) (m : Stp) : List Stp := (other.sp.filter fun k => decide (m.2.1 = k.2.1)).map fun k => (m.1 * other.n + k.1, m.2.1, m.2.2 * other.n + k.2.2)
def inSteps (one other : Bx) : List Stp := one.sp.flatMap (inStepM other)
def inStep (one other : Bx) : Bx := mkBx (one.n * other.n) (bothStarts one other) (inSteps one other)
section
variable {P : Program} {w : World} {K : PySem.W.Frag} {mg : Str → Option Value} {base : Heap}
theorem ev_mul {Rs : Rs_} {H F : Hp} {ta tb : TE} {a b : Nat} (ha : EvE ta Rs H F (rNat a)) (hb : EvE tb Rs H F (rNat b)) (h : b ≤ 1000) : EvE (tOp (L2.rI CMul fun i j => .int (i * j)) ta tb) Rs H F (rNat (a * b)) :=
  EvE.eqI (ev_I ha hb (.inr ⟨by omega, by omega⟩)) (by rw [Int.natCast_mul])
abbrev spBoth (K : PySem.W.Frag) : Sp := PSp (fun p : Bx × Bx => [rBox K p.1, rBox K p.2]) (fun p _ _ => p.2.n ≤ 1000 ∧ p.1.st.length * p.2.st.length ≤ 1000000) (fun p => rLst ((bothStarts p.1 p.2).map rNat))
theorem ok_both_starts (T : Hd K mg) (c_Box_states : Cp P w K mg base 1 (He.ga K "Box") "states" (spStates K)) (c_Box_starts : Cq P w K mg base 1 (He.ga K "Box") "starts" ["self"] (spStarts K)) : Ce P w K mg base 3 "both_starts" ["one", "other"] (spBoth K) := by
  refine ce_plain T.d_both_starts T.glo_both_starts sc_both_starts (fun _ _ _ _ _ _ us hl => match us, hl with | [_, _], _ => rfl) (fun _ => rfl) (fun cdv A outer s H0 E hr => ⟨_, (pss_one (ps_ret (pe_lc2 (own := [("start", 2), ("far", 3)]) (vs1 := [3]) (tt := tYes) (tt1 := tYes) rfl sc_both_starts.nd (pi_list (pe_q0 c_Box_starts (pv 0) (hr.mono (by decide)))) (blkOk_by (own := [("start", 2), ("far", 3)]) (N := ["one", "other", "start", "far"]) (sc := defScope s_both_starts) (by decide +kernel)) (by decide) (fun _ _ _ _ _ => (pg_name (i := 2) sc_both_starts.nd rfl (Or.inl rfl))) (fun _ _ _ _ _ => pts_nil) (fun _ _ _ _ _ => (pi_listK (K := K) (pe_q0 c_Box_starts (pv 1) (hr.mono (by decide))))) (fun _ _ _ _ _ => (pg_name (i := 3) sc_both_starts.nd rfl (Or.inl rfl))) (fun _ _ _ _ _ => pts_nil) (fun _ _ _ _ _ => (pe_op op_add (pe_op op_mul (pv 2) (pe_p c_Box_states (pv 1) (hr.mono (by decide)))) (pv 3)))))), ?_⟩)
  intro ⟨one, other⟩ F H σ Q s hd e k0
  obtain ⟨hn, hd⟩ : other.n ≤ 1000 ∧ one.st.length * other.st.length ≤ 1000000 := hd
  refine st_ret s e (ev_lc2 (xs := one.st) (ys := other.st) (RA := rNat) (RA1 := rNat) (RB := rNat) (f := fun s f => s * other.n + f) (Ss := fun x => [some (rBox K one), some (rBox K other), some (rNat x), none]) (Ss1 := fun x y => [some (rBox K one), some (rBox K other), some (rNat x), some (rNat y)]) (src_list (x_starts (ev_var rfl))) rfl (fun _ _ => tgt_1w (by decide)) (fun x _ => src_list (x_starts (ev_var rfl))) (fun _ _ => rfl) (fun _ _ _ _ => tgt_1) (fun x _ y _ => ev_add (ev_mul (ev_var rfl) (x_states (b := other) (ev_var rfl)) hn) (ev_var rfl)) (Nat.lt_of_le_of_lt hd (by decide))) k0
abbrev stDom (p : Bx × Bx) : Prop := p.1.Ok ∧ p.2.Ok ∧ p.1.n * p.2.n ≤ 1000 ∧ p.1.st.length * p.2.st.length ≤ 100000 ∧ p.1.sp.length * p.2.sp.length ≤ 100000
abbrev spInStep (K : PySem.W.Frag) : Sp := PSp (fun p : Bx × Bx => [rBox K p.1, rBox K p.2]) (fun p _ _ => stDom p) (fun p => rBox K (inStep p.1 p.2))
theorem inStep_lt {n m a b : Nat} (h1 : a < n) (h2 : b < m) : a * m + b < n * m := by
  calc a * m + b < a * m + m := by omega
    _ = (a + 1) * m := by rw [Nat.succ_mul]
    _ ≤ n * m := Nat.mul_le_mul_right _ h1
theorem inStepM_len (other : Bx) (m : Stp) : (inStepM other m).length ≤ other.sp.length := by
  unfold inStepM
  rw [List.length_map]
  exact List.length_filter_le _ _
theorem inStep_raw {one other : Bx} (h : stDom (one, other)) : Raw (one.n * other.n) (bothStarts one other) (inSteps one other) := by
  obtain ⟨h1, h2, h3, h4, h5⟩ : one.Ok ∧ other.Ok ∧ one.n * other.n ≤ 1000 ∧ one.st.length * other.st.length ≤ 100000 ∧ one.sp.length * other.sp.length ≤ 100000 := h
  refine ⟨h3, ?_, ?_, fun x hx => ?_, fun m hm => ?_⟩
  · unfold bothStarts
    rw [flat_len2 (fun s f => s * other.n + f)]
    exact h4
  · exact Nat.le_trans (flat_len _ _ (inStepM_len other) _) h5
  · obtain ⟨s, hs, hx⟩ := List.mem_flatMap.mp hx
    obtain ⟨f, hf, rfl⟩ := List.mem_map.mp hx
    exact inStep_lt (h1.ins s hs) (h2.ins f hf)
  · obtain ⟨k, hk, hm⟩ := List.mem_flatMap.mp hm
    obtain ⟨j, hj, rfl⟩ := List.mem_map.mp hm
    have hj := (List.mem_filter.mp hj).1
    exact ⟨inStep_lt (h1.inp k hk).1 (h2.inp j hj).1, inStep_lt (h1.inp k hk).2 (h2.inp j hj).2⟩
theorem inStepM_snoc (l : List Stp) (m k : Stp) (n : Nat) : ((l ++ [k]).filter fun k => decide (m.2.1 = k.2.1)).map (fun k => ((m.1 * n + k.1, m.2.1, m.2.2 * n + k.2.2) : Stp)) =
    (l.filter fun k => decide (m.2.1 = k.2.1)).map (fun k => ((m.1 * n + k.1, m.2.1, m.2.2 * n + k.2.2) : Stp)) ++ (if m.2.1 = k.2.1 then [(m.1 * n + k.1, m.2.1, m.2.2 * n + k.2.2)] else []) := by
  rw [List.filter_append, List.map_append]
  by_cases h : m.2.1 = k.2.1 <;> simp [h]
theorem ok_in_step (T : Hd K mg) (c_Box_states : Cp P w K mg base 1 (He.ga K "Box") "states" (spStates K)) (c_Box_steps : Cq P w K mg base 1 (He.ga K "Box") "steps" ["self"] (spSteps K)) (c_both_starts : Ce P w K mg base 3 "both_starts" ["one", "other"] (spBoth K)) (c_made_box : Ce P w K mg base 8 "made_box" ["many", "starts", "steps"] (spMade K)) :
    Ce P w K mg base 9 "in_step" ["one", "other"] (spInStep K) := by
  refine ce_plain T.d_in_step T.glo_in_step sc_in_step (fun _ _ _ _ _ _ us hl => match us, hl with | [_, _], _ => rfl) (fun _ => rfl) (fun cdv A outer s H0 E hr => ⟨_, (pss_cons (ps_par (i := 2) (j := 3) (by rfl) sc_in_step.nd rfl rfl (by decide) rfl rfl (pa_cons (pe_p c_Box_states (pv 1) (hr.mono (by decide))) (pa_cons (pe_lst pa_nil) pa_nil)) (by rfl))
      (pss_cons (ps_for PassesOwn.never rfl (pi_list (pe_q0 c_Box_steps (pv 0) (hr.mono (by decide)))) (tup_k (K := K) (n := 4) rfl (pgs_cons (pg_name (i := 4) sc_in_step.nd rfl (Or.inl rfl)) (pgs_cons (pg_name (i := 5) sc_in_step.nd rfl (Or.inl rfl)) (pgs_cons (pg_name (i := 6) sc_in_step.nd rfl (Or.inl rfl)) (pgs_cons (pg_name (i := 7) sc_in_step.nd rfl (Or.inl rfl)) pgs_nil))))) (pss_one (ps_for PassesOwn.never rfl (pi_list (pe_q0 c_Box_steps (pv 1) (hr.mono (by decide)))) (tup_k (K := K) (n := 4) rfl (pgs_cons (pg_name (i := 8) sc_in_step.nd rfl (Or.inl rfl)) (pgs_cons (pg_name (i := 9) sc_in_step.nd rfl (Or.inl rfl)) (pgs_cons (pg_name (i := 10) sc_in_step.nd rfl (Or.inl rfl)) (pgs_cons (pg_name (i := 11) sc_in_step.nd rfl (Or.inl rfl)) pgs_nil))))) (pss_one (ps_if (pt_cmpR (eqd_k (K := K) hr.units) (pe_tup (pa_cons (pv 5) (pa_cons (pv 6) pa_nil))) (pe_tup (pa_cons (pv 9) (pa_cons (pv 10) pa_nil))) (nomark _)) (pss_one (ps_expr (bm_k (K := K) PySem.F.plainAttrs_list PySem.F.slot_list_append PySem.F.type_list_append mt_append (pv 3) (pa_cons (pe_tup (pa_cons (pe_op op_add (pe_op op_mul (pv 4) (pv 2)) (pv 8)) (pa_cons (pv 5) (pa_cons (pv 6) (pa_cons (pe_op op_add (pe_op op_mul (pv 7) (pv 2)) (pv 11)) pa_nil))))) pa_nil)))) pss_nil)))))
      (pss_one (ps_ret (pe_c c_made_box (hr.mono (by decide)) rfl (pa_cons (pe_op op_mul (pe_p c_Box_states (pv 0) (hr.mono (by decide))) (pv 2)) (pa_cons (pe_c c_both_starts (hr.mono (by decide)) rfl (pa_cons (pv 0) (pa_cons (pv 1) pa_nil))) (pa_cons (pv 3) pa_nil)))))))), ?_⟩)
  intro ⟨one, other⟩ F H σ Q s hd e k0
  have raw := inStep_raw hd
  obtain ⟨h1, h2, h3, h4, h5⟩ : one.Ok ∧ other.Ok ∧ one.n * other.n ≤ 1000 ∧ one.st.length * other.st.length ≤ 100000 ∧ one.sp.length * other.sp.length ≤ 100000 := hd
  have k0 : ∀ v H' F', G0 H F H' F' → (rBox K (inStep one other)).at_ F' v → Q v H' := k0
  have big : 1000000 < sizeLine := by decide
  refine st_parEM s e (x_states (ev_var rfl)) (ev_lstM ea_nil) fun l σ1 H1 F1 g1 nl ml e1 => ?_
  dsimp only
  refine st_for (At l) g1.fh e1 (src_list (xs := one.sp) (RA := rStp) (x_steps (ev_var rfl))) (fun i σ' H' F' => En F' σ' [some (rBox K one), some (rBox K other), some (rNat other.n), some (rV (.ref l)), none, none, none, none, none, none, none, none] ∧ ML l (((one.sp.take i).flatMap (inStepM other)).map rStp) H' F')
    (fun H2 F2 g2 => ⟨e1.mono g2.ff, ml.grow g2⟩) (fun i σ' H' F' H1 F1 ⟨a, w1⟩ g => ⟨a.mono g.ff, w1.grow g⟩) (fun i m v σ' H' F' hm g ⟨a, w1⟩ r N hN => ?_) fun σ2 H2 F2 g2 ⟨e2, w2⟩ => ?_
  · have hi := (List.getElem?_eq_some_iff.mp hm).1
    refine g_4 (R1 := rNat m.1) (R2 := rS (sgC m.2.1)) (R3 := rS (sgA m.2.1)) (R4 := rNat m.2.2) g.fh a r fun σ3 e3 _ => ?_
    dsimp only
    refine st_for (At l) g.fh e3 (src_list (xs := other.sp) (RA := rStp) (x_steps (ev_var rfl))) (fun j σ' H' F' => En F' σ' [some (rBox K one), some (rBox K other), some (rNat other.n), some (rV (.ref l)), some (rNat m.1), some (rS (sgC m.2.1)), some (rS (sgA m.2.1)), some (rNat m.2.2), none, none, none, none] ∧
        ML l (((one.sp.take i).flatMap (inStepM other) ++ ((other.sp.take j).filter fun k => decide (m.2.1 = k.2.1)).map fun k => ((m.1 * other.n + k.1, m.2.1, m.2.2 * other.n + k.2.2) : Stp)).map rStp) H' F')
      (fun H4 F4 g4 => ⟨e3.mono g4.ff, by rw [List.take_zero, List.filter_nil, List.map_nil, List.append_nil]; exact w1.grow g4⟩) (fun i σ' H' F' H1 F1 ⟨a, w1⟩ g => ⟨a.mono g.ff, w1.grow g⟩) (fun j k v4 σ4 H4 F4 hk g4 ⟨e4, w4⟩ r4 N4 hN4 => ?_) fun σ4 H4 F4 g4 ⟨e4, w4⟩ => ?_
    · have hj := (List.getElem?_eq_some_iff.mp hk).1
      rw [take_snoc hk, inStepM_snoc] at hN4
      have b1 := flat_len _ _ (inStepM_len other) (one.sp.take i)
      have b2 : (one.sp.take i).length * other.sp.length ≤ one.sp.length * other.sp.length := Nat.mul_le_mul_right _ (List.length_take_le' ..)
      have b3 : (((other.sp.take j).filter fun k => decide (m.2.1 = k.2.1)).map fun k => ((m.1 * other.n + k.1, m.2.1, m.2.2 * other.n + k.2.2) : Stp)).length ≤ 100000 := by
        rw [List.length_map]
        exact Nat.le_trans (List.length_filter_le _ _) (Nat.le_trans (List.length_take_le' ..) h2.sp)
      generalize (((other.sp.take j).filter fun k => decide (m.2.1 = k.2.1)).map fun k => ((m.1 * other.n + k.1, m.2.1, m.2.2 * other.n + k.2.2) : Stp)) = L at *
      refine g_4 (R1 := rNat k.1) (R2 := rS (sgC k.2.1)) (R3 := rS (sgA k.2.1)) (R4 := rNat k.2.2) g4.fh e4 r4 fun σ5 e5 _ => ?_
      refine st_if (b := decide (m.2.1 = k.2.1)) g4.fh e5 (eb_test (EvE.eqB (ev_eqD (K := K) (d := encSg m.2.1) (e := encSg k.2.1) (ev_tup (ea_2 (ev_var rfl) (ev_var rfl))) (ev_tup (ea_2 (ev_var rfl) (ev_var rfl))) (dpr_sg _) (dpr_sg _) (ok_sg _).shaped (ok_sg _).shaped) (eqv_dec (fun a => (ok_sg a).pl) encSg_inj _ _))) (fun h H6 F6 g6 e6 => ?_) fun h H6 F6 g6 e6 => ?_
      · have h := of_decide_eq_true h
        rw [if_pos h] at hN4
        refine st_appM g6.fh e6 (w4.grow g6) (ev_var rfl) (A := rStp (m.1 * other.n + k.1, m.2.1, m.2.2 * other.n + k.2.2)) (ev_tup (ea_cons (ev_add (ev_mul (ev_var rfl) (ev_var rfl) h2.n) (ev_var rfl)) (ea_cons (ev_var rfl) (ea_2 (ev_var rfl) (ev_add (ev_mul (ev_var rfl) (ev_var rfl) h2.n) (ev_var rfl)))))) (by rw [List.length_map, List.length_append]; omega) fun H7 F7 g7 f7 m7 => hN4 _ H7 F7 (g6.up.trans g7) ⟨(e6.mono f7).mask [true, true, true, true, true, true, true, true, false, false, false, false], ?_⟩
        rw [← List.append_assoc, List.map_append]
        exact m7
      · have h := of_decide_eq_false h
        rw [if_neg h] at hN4
        refine hN4 _ H6 F6 g6.up ⟨e6.mask [true, true, true, true, true, true, true, true, false, false, false, false], ?_⟩
        rw [List.append_nil]
        exact w4.grow g6
    · rw [List.take_length] at w4
      refine hN _ H4 F4 g4 ⟨e4.mask [true, true, true, true, false, false, false, false, false, false, false, false], ?_⟩
      rw [take_snoc hm, flat_snoc]
      exact w4
  · rw [List.take_length] at w2
    have gH : G0 H F H2 F2 := g1.drop g2 fun x (hx : x = l) => by rw [hx]; exact nl
    obtain ⟨F3, g3, f3, r3⟩ := w2.fz gH nl
    dsimp only
    exact st_ret g3.fh (e2.mono f3) (x_made (ev_mul (x_states (ev_var rfl)) (ev_var rfl) h2.n) (ev_call (res := fun p : Bx × Bx => rLst ((bothStarts p.1 p.2).map rNat)) (one, other) (ea_2 (ev_var rfl) (ev_var rfl)) rfl fun _ _ _ => ⟨h2.n, Nat.le_trans h4 (by decide)⟩) (ev_ref rfl r3) raw) fun v H4 F4 g4 r4 => k0 v H4 F4 (g3.trans g4) r4
end
end K81
set_option Elab.async false
set_option linter.all false
set_option maxRecDepth 100000
set_option maxHeartbeats 2000000
set_option autoImplicit false
/-! K81AJ: == of boxes. -/
namespace K81
open PySem PySem.Spec L2
open PyProof.Rows (envOfC)
section
variable {P : Program} {w : World} {K : PySem.W.Frag} {mg : Str → Option Value} {base : Heap}
abbrev spEqB (K : PySem.W.Frag) : Sp := PSp (fun p : Bx × Bx => [rBox K p.1, rBox K p.2]) Any (fun p => rB (decide (p.1 = p.2)))
theorem fn_Box_eq (T : Hd K mg) (c_Box_states : Cp P w K mg base 1 (He.ga K "Box") "states" (spStates K)) : ∃ fd, FnOk P w K mg base CX0 3 (He.ma K (He.ga K "Box") "__eq__") fd ["self", "other"] (spEqB K) ∧ Binds K fd ["self", "other"] [] := by
  obtain ⟨fd, D⟩ := T.d_Box_eq
  refine ⟨fd, fn_plain D sc_Box_eq (fun _ => rfl) (fun cdv A outer s H0 E hr => ⟨_, (pss_cons (ps_if (PW.pt (pw_or (pt_not (pt_val (pe_callB (isi_k (K := K)) (by rfl) T.free_isinstance (by decide +kernel) (pa_cons (pv 1) (pa_cons (pe_gR rfl T.glo_Box) pa_nil))))) (pw_or1 (pt_cmpR op_ne (pe_p c_Box_states (pv 0) (hr.mono (by decide))) (pe_p c_Box_states (pv 1) (hr.mono (by decide))) (nomark _))))) (pss_one (ps_ret pe_bl)) pss_nil)
      (pss_cons (ps_par (i := 2) (j := 3) (by rfl) sc_Box_eq.nd rfl rfl (by decide) rfl rfl (pa_cons (fld_k (K := K) (pv 0)) (pa_cons (fld_k (K := K) (pv 1)) pa_nil)) (by rfl))
      (pss_one (ps_ret (pe_and (pe_cmpR (eqd_k (K := K) hr.units) (fld_k (K := K) (pv 2)) (fld_k (K := K) (pv 3)) (nomark _)) (pe_one (pe_cmpR (eqd_k (K := K) hr.units) (fld_k (K := K) (pv 2)) (fld_k (K := K) (pv 3)) (nomark _)))))))), ?_⟩), D.bindsN (fun _ _ _ _ _ _ us hl => match us, hl with | [_, _], _ => rfl)⟩
  intro ⟨a, b⟩ F H σ Q s hd e k
  have k : ∀ v H' F', G0 H F H' F' → (rB (decide (a = b))).at_ F' v → Q v H' := k
  refine st_ifC (fun σ' H' F' => a.n = b.n ∧ G0 H F H' F' ∧ En F' σ' [some (rBox K a), some (rBox K b), none, none]) s e (EvB.eq (eb_or (eb_not (eb_test (ev_isiC (b := true) (ev_var rfl) ev_c (ty_Box T) T.kit_BB))) fun _ => eb_test (EvE.eqB (ev_ne (x_states (b := a) (ev_var rfl)) (x_states (b := b) (ev_var rfl)) rfl) (j := !decide (a.n = b.n)) (by rw [len_dec]))) (j := !decide (a.n = b.n)) (by simp))
    (fun hn H1 F1 g1 e1 N hN => ?_) (fun hn H1 F1 g1 e1 => ⟨by simpa using hn, g1, e1⟩) fun σ1 H1 F1 ⟨hn, g1, e1⟩ => ?_
  · have hn : a.n ≠ b.n := by simpa using hn
    have hab : a ≠ b := fun z => hn (by rw [z])
    rw [decide_eq_false hab] at k
    exact st_ret g1.fh e1 (R := rB false) ev_c fun v H2 F2 g2 r => k v H2 F2 (g1.trans g2) r
  · dsimp only
    refine st_par g1.fh e1 (R1 := rShape K a) (R2 := rShape K b) (ea_2 (fld_sh T (ev_var rfl)) (fld_sh T (ev_var rfl))) fun σ2 H2 F2 g2 e2 => ?_
    dsimp only
    refine st_ret g2.fh e2 (EvE.eqB (ev_andV (a := decide (a.st = b.st)) (b := decide (a.sp = b.sp)) (EvE.eqB (ev_eqD (K := K) (d := .list (a.st.map encNat)) (e := .list (b.st.map encNat)) (fld_starts T (ev_var rfl)) (fld_starts T (ev_var rfl)) (dpr_lst (dprs_map dpr_nat _)) (dpr_lst (dprs_map dpr_nat _)) (ok_list ok_nat _).shaped (ok_list ok_nat _).shaped) (eqv_list (fun a => (ok_nat a).pl) encNat_inj _ _))
      fun _ => EvE.eqB (ev_eqD (K := K) (d := .list (a.sp.map encStp)) (e := .list (b.sp.map encStp)) (fld_steps T (ev_var rfl)) (fld_steps T (ev_var rfl)) (dpr_lst (dprs_map dpr_stp _)) (dpr_lst (dprs_map dpr_stp _)) (ok_list ok_stp _).shaped (ok_list ok_stp _).shaped) (eqv_list (fun a => (ok_stp a).pl) encStp_inj _ _)) ?_) fun v H3 F3 g3 r => k v H3 F3 ((g1.trans g2).trans g3) r
    obtain ⟨n, st, sp⟩ := a
    obtain ⟨n', st', sp'⟩ := b
    have hn : n = n' := hn
    subst hn
    by_cases h1 : st = st' <;> by_cases h2 : sp = sp' <;> simp [h1, h2]
end
end K81
set_option Elab.async false
set_option linter.all false
set_option maxRecDepth 100000
set_option maxHeartbeats 2000000
set_option autoImplicit false
/-! K81AK: the operator == of boxes. -/
namespace K81
open PySem PySem.Spec L2
def rEqB (C : Addr) (sp : Sp) : R2 := fun x y H Q => ∃ a b dx dy fs gs, x = .ref a ∧ y = .ref b ∧ H a = some (.ins C dx fs) ∧ H b = some (.ins C dy gs) ∧ sp [x, y] H (fun v H' => ∃ t, v = .bl t ∧ Q (.bl t) H') E0
theorem op_eqB {X : Cx} {C f : Addr} {fd : FuncData} {ps : List Str} {sp : Sp} {n : Nat} (m : Meth X.K C "__eq__" f) (F : FnOk X.prog X.w X.K X.mg X.base CX0 n f fd ps sp) (hb : Binds X.K fd ps []) (hr : Room n X.A) : OpR X (compareOp .Eq) (rEqB C sp) := by
  intro pins s σ H x y v u Q I rx ry h
  obtain ⟨a, b, dx, dy, fs, gs, rfl, rfl, ha, hb', q⟩ := h
  cases (show v = Value.ref a from rx)
  cases (show u = Value.ref b from ry)
  obtain ⟨mA, J, _⟩ := ins_get I.hok ha
  obtain ⟨mB, J', _⟩ := ins_get I.hok hb'
  obtain ⟨od, J, _⟩ := J.look
  obtain ⟨od', J', _⟩ := J'.look
  obtain ⟨m', hF⟩ := I.fr
  show wpAny (model X.prog X.w) X.A (richCompare .Eq (.ref a) (.ref b)) (EP X pins σ Q) X.xe s
  refine PySem.W.cmp_K (op := .Eq) (tb := .ref C) hr.units0 hF I.ok.mod.kin J J'.type (by simp [PySem.W.notFirst]) m.at_ m.fn ?_
  refine wpAny_mono (run_fn (us := [.ref a, .ref b]) (vs := [.ref a, .ref b]) F hr hb .nil pass0 I (.cons rfl (.cons rfl .nil)) (by rw [List.append_nil]; exact q)) (fun w s' z => ?_) fun _ _ x => x
  obtain ⟨z', H', I', rz, t, ez, qz⟩ := z
  subst ez
  cases rz
  exact ⟨.bl t, H', I', rfl, qz⟩
end K81
set_option Elab.async false
set_option linter.all false
set_option maxRecDepth 100000
set_option maxHeartbeats 2000000
set_option autoImplicit false
/-! K81AL: the operator != of boxes. -/
namespace K81
open PySem PySem.Spec PySem.W L2
section
variable {prog : Program} {w : World} {M : Model} {A : Around} {E : Value → Shared → Prop} {s : Shared} {K : Frag} {x y C f : Addr} {ox : Obj} {od : Option Obj} {name : PySem.Str} {id : String}
theorem ifBound_B {args : List Value} {Q : Option Value → Shared → Prop} (X : K.In s.heap) (I : InstAt s.heap x ox C od) (hs : findIn K (.ref C) name = some (some (.builtin id))) (hb : ∀ self, bindSpecial (.builtin id) self = pure (.builtin id, [self]))
    (h : wpAny M A (call (.builtin id) (.ref x :: args)) (fun v => Q (some v)) E s) : wpAny M A (callSpecialIfBound? (.ref x) name args) Q E s := by
  simp only [callSpecialIfBound?, bindSpecialIfBound?]
  refine wpAny_holding (wpAny_bind (wpAny_bind (wpAny_bind (I.type.here ((looks_findIn X hs).here ?_)))))
  refine wpAny_bind (wpAny_askSetting (wpAny_ite ?_))
  have fin : wpAny M A (call (.builtin id) ([.ref x] ++ args) >>= fun v => pure (some v)) Q E s := wpAny_bind (wpAny_mono h (fun v s' h' => wpAny_pure h') fun _ _ h' => h')
  split
  · exact wpAny_bind ((Looks.of_pure (hb _)).here (wpAny_pure (by exact fin)))
  · exact wpAny_tryCatch (wpAny_bind ((Looks.of_pure (hb _)).here (wpAny_pure (by exact fin))))
open Builtin in
theorem objNe_own (hu : A.in1.units < cLine) (X : K.In s.heap) (I : InstAt s.heap x ox C od) (hm : mroIn K C (.type "object") = some true) (hq : findIn K (.ref C) "__eq__" = some (some (.ref f))) (hf : isFn K (.ref f) = true) {Q : Value → Shared → Prop}
    (h : wpAny (model prog w) A.in1 (call (.ref f) [.ref x, .ref y]) (fun v s' => ∃ b, v = .bool b ∧ Q (.bool (!b)) s') E s) : wpAny (model prog w) A (call (.builtin "object.__ne__") [.ref x, .ref y]) Q E s := by
  refine wpAny_call (codeAny_call_builtin (by decide +kernel) PySem.F.cmpEntry_ne (check_slot (i := "object.__ne__") (owner := "object") (n := "__ne__") PySem.F.cmpKind_ne PySem.F.cmpSplit_ne (I.type.andThen (looks_mroIn X hm)) (PySem.F.cmpArgs_ne _ _) ?_))
  unfold Builtin.«object.__ne__»
  repeat (first
    | with_reducible refine wpAny_cRoomFor hu ?_
    | (refine wpAny_bind (m := callSpecialIfBound? (.ref x) (Str.ofString "__eq__") [.ref y])
        (ifBound_K X I hq hf (wpAny_mono h (fun r s' hr => by
          obtain ⟨b, rfl, hq⟩ := hr
          repeat (first | exact hq | exact wpAny_pure hq | exact wpAny_truthy_bool hq | (refine wpAny_bind (m := truthy (.bool _)) (wpAny_truthy_bool ?_)) | wp_step)) fun _ _ e => e)))
    | wp_step)
theorem cmpNe_K {h₀ : Heap} {L : Addr} {m : PySem.Str → Option Value} {b : Value} {Q : Value → Shared → Prop} (hu : A.units < cLine) (F : PyProof.Rows.Fr h₀ L s.heap m) (X₀ : K.In h₀) (I : InstAt s.heap x ox C od) (hb : Looks (model prog w) s.heap (typeOf b) (.ref C))
    (hs : findIn K (.ref C) "__ne__" = some (some (.builtin "object.__ne__")))
    (h : wpAny (model prog w) A (call (.builtin "object.__ne__") [.ref x, b]) (CmpBack Q) E s) : wpAny (model prog w) A (richCompare .NotEq (.ref x) b) Q E s := by
  have X := X₀.keeps F.keep
  have one : wpAny (model prog w) A (tryCompare (.ref x) (cmpInfo .NotEq).2.1 b) (fun r s' => ∃ v, r = some v ∧ Q v s') E s := by
    unfold tryCompare
    refine wpAny_bind (ifBound_B X I hs PySem.F.slot_object_ne.bind (wpAny_mono h (fun v s' hv => ?_) fun _ _ e => e))
    cases v <;> first | exact hv.elim | exact wpAny_pure ⟨_, rfl, hv⟩
  unfold richCompare
  simp only [oneThing_ref]
  refine wpAny_holding (wpAny_bind (wpAny_cRoomFor hu ?_))
  refine wpAny_bind (I.type.here (wpAny_bind (hb.here ?_)))
  split
  · rename_i q
    simp at q
  · refine wpAny_bind (wpAny_pure ?_)
    simp only [Bool.false_eq_true, if_false]
    refine wpAny_bind (wpAny_mono one (fun r s' z => ?_) fun _ _ e => e)
    obtain ⟨v, rfl, hq⟩ := z
    exact wpAny_pure hq
end
/-- x != y -/
def rNeB (C : Addr) (sp : Sp) : R2 := fun x y H Q => ∃ a b dx dy fs gs, x = .ref a ∧ y = .ref b ∧ H a = some (.ins C dx fs) ∧ H b = some (.ins C dy gs) ∧ sp [x, y] H (fun v H' => ∃ t, v = .bl t ∧ Q (.bl (!t)) H') E0
theorem op_neB {X : Cx} {C f : Addr} {fd : FuncData} {ps : List PySem.Str} {sp : Sp} {n : Nat} (m : Meth X.K C "__eq__" f) (hne : findIn X.K (.ref C) "__ne__" = some (some (.builtin "object.__ne__"))) (hm : mroIn X.K C (.type "object") = some true) (F : FnOk X.prog X.w X.K X.mg X.base CX0 n f fd ps sp) (hb : Binds X.K fd ps []) (hr : Room (n + 2) X.A) : OpR X (compareOp .NotEq) (rNeB C sp) := by
  intro pins s σ H x y v u Q I rx ry h
  obtain ⟨a, b, dx, dy, fs, gs, rfl, rfl, ha, hb', q⟩ := h
  cases (show v = Value.ref a from rx)
  cases (show u = Value.ref b from ry)
  obtain ⟨mA, J, _⟩ := ins_get I.hok ha
  obtain ⟨mB, J', _⟩ := ins_get I.hok hb'
  obtain ⟨od, J, _⟩ := J.look
  obtain ⟨od', J', _⟩ := J'.look
  obtain ⟨m', hF⟩ := I.fr
  have hr1 : Room (n + 1) X.A.in1 := Room.in1 hr
  show wpAny (model X.prog X.w) X.A (richCompare .NotEq (.ref a) (.ref b)) (EP X pins σ Q) X.xe s
  refine cmpNe_K hr.units0 hF I.ok.mod.kin J J'.type hne ?_
  refine objNe_own hr1.units0 (I.ok.mod.kin.keeps hF.keep) J hm m.at_ m.fn ?_
  refine wpAny_mono (wpAny_call (SlX.run_at (us := [.ref a, .ref b]) (ws := [.ref a, .ref b]) (F.raw hb .nil) (hr1.mono (Nat.le_succ n)) I.env0.in1 pass0 I (.cons rfl (.cons rfl .nil)) (by rw [List.append_nil]; exact q))) (fun w s' z => ?_) fun _ _ x => x
  obtain ⟨z', H', I', rz, t, ez, qz⟩ := z
  subst ez
  cases rz
  exact ⟨t, rfl, .bl (!t), H', I', rfl, qz⟩
end K81
set_option Elab.async false
set_option linter.all false
set_option maxRecDepth 100000
set_option maxHeartbeats 2000000
set_option autoImplicit false
/-! K81AM: == and != of boxes, evaluated. -/
namespace K81
open PySem PySem.Spec L2
section
variable (P : Program) (w : World) (K : PySem.W.Frag) (mg : PySem.Str → Option Value) (base : Heap)
structure Cb (k : Nat) : Prop where
  ex : ∃ (f : Addr) (fd : FuncData), FnOk P w K mg base CX0 k f fd ["self", "other"] (spEqB K) ∧ Binds K fd ["self", "other"] [] ∧ Meth K (He.ga K "Box") "__eq__" f
  ne : PySem.W.findIn K (.ref (He.ga K "Box")) "__ne__" = some (some (.builtin "object.__ne__"))
  mr : PySem.W.mroIn K (He.ga K "Box") (.type "object") = some true
end
section
variable {X : Cx} {K : PySem.W.Frag} {k : Nat}
theorem op_eqBB (c : Cb X.prog X.w X.K X.mg X.base k) (hr : Room k X.A) (h : X.K = K := by rfl) : OpR X (compareOp .Eq) (rEqB (He.ga K "Box") (spEqB K)) := by
  subst h
  obtain ⟨f, fd, F, hb, m⟩ := c.ex
  exact op_eqB m F hb hr
theorem op_neBB (c : Cb X.prog X.w X.K X.mg X.base k) (hr : Room (k + 2) X.A) (h : X.K = K := by rfl) : OpR X (compareOp .NotEq) (rNeB (He.ga K "Box") (spEqB K)) := by
  subst h
  obtain ⟨f, fd, F, hb, m⟩ := c.ex
  exact op_neB m c.ne c.mr F hb hr
variable {Rs : Rs_} {H F : Hp} {ta tb : TE} {a b : Bx}
theorem ev_eqB (ha : EvE ta Rs H F (rBox K a)) (hb : EvE tb Rs H F (rBox K b)) : EvE (tOp (rEqB (He.ga K "Box") (spEqB K)) ta tb) Rs H F (rB (decide (a = b))) :=
  ev_op ha hb fun H1 F1 x y g hx hy Q q => by
    obtain ⟨p, dx, fs, rfl, h1⟩ := ins_Box _ _ hx
    obtain ⟨r, dy, gs, rfl, h2⟩ := ins_Box _ _ hy
    exact ⟨p, r, dx, dy, fs, gs, rfl, rfl, g.fh _ _ h1, g.fh _ _ h2, (a, b), F1, g.fh, .cons hx (.cons hy .nil), trivial, fun v H2 F2 g2 rv => ⟨_, rv, q _ H2 F2 g2 rfl⟩⟩
theorem ev_neB (ha : EvE ta Rs H F (rBox K a)) (hb : EvE tb Rs H F (rBox K b)) : EvE (tOp (rNeB (He.ga K "Box") (spEqB K)) ta tb) Rs H F (rB (!decide (a = b))) :=
  ev_op ha hb fun H1 F1 x y g hx hy Q q => by
    obtain ⟨p, dx, fs, rfl, h1⟩ := ins_Box _ _ hx
    obtain ⟨r, dy, gs, rfl, h2⟩ := ins_Box _ _ hy
    exact ⟨p, r, dx, dy, fs, gs, rfl, rfl, g.fh _ _ h1, g.fh _ _ h2, (a, b), F1, g.fh, .cons hx (.cons hy .nil), trivial, fun v H2 F2 g2 rv => ⟨_, rv, q _ H2 F2 g2 rfl⟩⟩
end
section
variable {P : Program} {w : World} {K : PySem.W.Frag} {mg : PySem.Str → Option Value} {base : Heap}
theorem ok_Box_eq (T : Hd K mg) (c_Box_states : Cp P w K mg base 1 (He.ga K "Box") "states" (spStates K)) : Cb P w K mg base 3 := by
  obtain ⟨fd, F, hb⟩ := fn_Box_eq (P := P) (w := w) (base := base) T c_Box_states
  refine ⟨⟨_, fd, F, hb, T.m_Box_eq⟩, He.eqO_ok (T.ex 12), ?_⟩
  obtain ⟨_, h⟩ := He.ba (T.ex 7)
  obtain ⟨_, h⟩ := He.ba h
  obtain ⟨_, h4⟩ := He.ba h
  exact of_decide_eq_true h4
end
end K81
set_option Elab.async false
set_option linter.all false
set_option maxRecDepth 100000
set_option maxHeartbeats 4000000
set_option autoImplicit false
/-! K81CA: sorted(set(a list of numbers)). -/
namespace K81
open PySem PySem.Spec L2
open PyProof.Rows
section
variable {P : Program} {w : World} {A : Around} {E : Value → Shared → Prop} {s : Shared}
theorem call_set_lstI {l : Addr} {items : Array Value} (ns : List Int) {Q : Value → Shared → Prop} (hh : A.handled = none) (hl : s.heap.IsList l items) (hit : IntsAre items.toList ns) (hb : ns.length + 1 < scanBound)
    (h : ∀ (h' : Heap) (tk c : Nat), SetR w h' s.heap.objs.size (fun j => decide (j ∈ ns)) c → c ≤ ns.length → (∀ b o, s.heap.get? b = some o → h'.get? b = some o) → Q (.ref s.heap.objs.size) { s with heap := h', toks := tk }) :
    wpAny (model P w) A (call (.type "set") [.ref l]) Q E s := by
  have hisz : items.size = ns.length := by
    have q := IntsAre.length hit
    rw [Array.length_toList] at q
    exact q
  obtain ⟨c, tl, hmro⟩ := F.called_set.mro
  have hmade := F.called_set.made
  have hsub := F.called_set.sub
  refine wpAny_call (codeAny_of_tree ?_)
  show wpAny _ _ (callAny (.type "set") _) _ _ _
  refine wpAny_pure ⟨Code.quiet_builtin _ (by decide +kernel), codeAny_builtin F.entry_type_call ?_⟩
  rw [Around.under_plain (weight_type_call_type "set" [.ref l] []) rfl]
  have h1 := F.called_set.notType
  have h2 := F.called_set.canCreate
  have hct := F.typeCall_set_1 (.ref l)
  repeat (any_goals (first | assumption | wp_step))

  refine codeAny_mono (code_set_led1 (.ref l) (E := E) (Q₁ := fun obj s₁ => obj = .ref s.heap.objs.size ∧ s₁ = { s with heap := s.heap.push { cls := .type "set", dict := none, data := .set #[] 0 (.fresh 0 0 (!w.params.followText "set-order")) } }) ⟨rfl, rfl⟩) fun r s₁ hr => ?_
  cases r with
  | error e => exact hr
  | ok fl =>
    cases fl with
    | ret obj =>
      obtain ⟨rfl, rfl⟩ := hr
      have hS : (s.heap.push { cls := .type "set", dict := none, data := .set #[] 0 (.fresh 0 0 (!w.params.followText "set-order")) }).get? s.heap.objs.size = some { cls := .type "set", dict := none, data := .set #[] 0 (.fresh 0 0 (!w.params.followText "set-order")) } := Heap.get?_push_size _ rfl
      have hT : Shared.TypeIs { s with heap := s.heap.push { cls := .type "set", dict := none, data := .set #[] 0 (.fresh 0 0 (!w.params.followText "set-order")) } } (.ref s.heap.objs.size) "set" := ⟨_, hS, rfl⟩
      have hli := F.called_set.init.lookup
      have hbi := F.called_set.init.bind (.ref s.heap.objs.size)
      repeat (any_goals (first | assumption | wp_step))

      refine codeAny_mono (codeAny_call_builtin (R := wants (fun r s₂ => r = .none ∧ ∃ h' tk c, s₂ = { s with heap := h', toks := tk } ∧ SetR w h' s.heap.objs.size (fun j => decide (j ∈ ns)) c ∧ c ≤ ns.length ∧
          (∀ b o, s.heap.get? b = some o → h'.get? b = some o)) E) F.called_set.init.plain F.entry_set_init (check_set_init_1 hT ?_)) fun r₂ s₂ hr₂ => ?_
      · obtain ⟨ol, hol, hcl, nl, hdl⟩ := hl
        obtain ⟨ocls, odict, odata, oslots⟩ := ol
        simp only at hcl hdl
        subst hcl; subst hdl
        have hol' : (s.heap.push { cls := .type "set", dict := none, data := .set #[] 0 (.fresh 0 0 (!w.params.followText "set-order")) }).get? l = some { cls := .type "list", dict := odict, data := .seq items nl, slots := oslots } := Heap.get?_push_of_some _ hol
        have hsls := F.sub_list_set
        have hslf := F.sub_list_frozenset
        have hne : (Value.type "list" == Value.type "dict") = false := by decide
        have hl1 : (s.heap.push { cls := .type "set", dict := none, data := .set #[] 0 (.fresh 0 0 (!w.params.followText "set-order")) }).IsList l items := ⟨_, hol', rfl, nl, rfl⟩
        unfold Builtin.«set.__init__» noKeywords Builtin.Frozenset.updateFrom
        generalize hPI : pyIter = PI
        wp_walk
        subst hPI

        refine wpAny_pyIter_list hl1 ?_
        refine wpAny_bind (wpAny_runValue ?_)
        have hlS : l < s.heap.objs.size := Heap.lt_size hol
        have hh3 : A.in1.in1.in1.handled = none := by simp [hh]
        have hz1 : (s.heap.push { cls := .type "set", dict := none, data := .set #[] 0 (.fresh 0 0 (!w.params.followText "set-order")) }).objs.size = s.heap.objs.size + 1 := Heap.size_push ..
        have hneI : l ≠ (s.heap.push { cls := .type "set", dict := none, data := .set #[] 0 (.fresh 0 0 (!w.params.followText "set-order")) }).objs.size := by
          rw [Heap.size_push]; exact Nat.ne_of_lt (Nat.lt_succ_of_lt hlS)
        have hSf : s.heap.objs.size ∉ [(s.heap.push { cls := .type "set", dict := none, data := .set #[] 0 (.fresh 0 0 (!w.params.followText "set-order")) }).objs.size, l] := by
          rw [Heap.size_push]; simp only [List.mem_cons, List.mem_singleton, List.not_mem_nil, or_false, not_or]
          exact ⟨Nat.ne_of_lt (Nat.lt_succ_self _), Nat.ne_of_gt hlS⟩
        have hval : ∀ (i : Nat) (v : Value), items[i]? = some v → ∃ k t, ns[i]? = some k ∧ v = .int k t := fun i v hv => by
          have hi : i < ns.length := by rw [← hisz]; exact (Array.getElem?_eq_some_iff.mp hv).1
          obtain ⟨t, e⟩ := PyProof.Rows.IntsAre.int_at hit i v (by rw [Array.getElem?_toList]; exact hv)
          refine ⟨ns[i], t, List.getElem?_eq_getElem hi, ?_⟩
          rw [e, List.getD_eq_getElem?_getD, List.getElem?_eq_getElem hi] <;> rfl
        refine set_update_ints ((Walks.list hh3 _ l hneI items).toS) s.heap.objs.size
          hSf ns hisz hb hval (items.size - 0) 0 _ (by omega) (Nat.zero_le _)
          ⟨⟨_, Heap.get?_push_size _ rfl, rfl, rfl⟩, (hl1.push _)⟩ ?hS0 ?hR
        case hS0 =>
          have hget : ((s.heap.push { cls := .type "set", dict := none, data := .set #[] 0 (.fresh 0 0 (!w.params.followText "set-order")) }).push { cls := .type "list_iterator", data := .fields #[.ref l, .int 0 0] }).get? s.heap.objs.size
              = some { cls := .type "set", dict := none, data := .set #[] 0 (.fresh 0 0 (!w.params.followText "set-order")) } := Heap.get?_push_of_some _ hS
          exact ⟨0, Nat.le_refl 0, setR_new_at hget⟩
        case hR =>
          intro s' c' hm hc' hS'
          obtain ⟨h', g2, d', tk', os'⟩ := s'
          have eg : g2 = s.gens := hm.gens
          have ed : d' = s.drawn := hm.drawn
          have eo : os' = s.os := hm.os
          subst eg; subst ed; subst eo
          show wpAny _ _ _ _ _ _
          refine wpAny_pure ?_
          show wpAny _ _ (ret Value.none) _ _ _
          rw [hisz] at hc'
          refine wpAny_pure ⟨rfl, h', tk', c', rfl, hS', hc', fun b o e => ?_⟩
          have hb0 : b < s.heap.objs.size := Heap.lt_size e
          have hb1 : b ≠ s.heap.objs.size := Nat.ne_of_lt hb0
          have hb2 : b ≠ (s.heap.push { cls := .type "set", dict := none, data := .set #[] 0 (.fresh 0 0 (!w.params.followText "set-order")) }).objs.size := by
            rw [Heap.size_push]; exact Nat.ne_of_lt (Nat.lt_succ_of_lt hb0)
          exact hm.heap b o (by simp only [List.mem_cons, List.mem_singleton, List.not_mem_nil, or_false, not_or]; exact ⟨hb1, hb2⟩) (Heap.get?_push_of_some _ (Heap.get?_push_of_some _ e))

      · cases r₂ with
        | error e => exact hr₂
        | ok fl₂ =>
          cases fl₂ with
          | ret r =>
            obtain ⟨rfl, h', tk, c', rfl, hS', hc', hk'⟩ := hr₂
            repeat (any_goals (first | assumption | wp_step))
            exact h _ _ _ hS' hc' hk'
          | _ => exact hr₂.elim
    | _ => exact hr.elim
end
end K81
set_option Elab.async false
set_option linter.all false
set_option maxRecDepth 100000
set_option maxHeartbeats 2000000
set_option autoImplicit false
/-! K81CB: sorted(set(a list of numbers)), the rules. -/
namespace K81
open PySem PySem.Spec L2
open PyProof.Rows
section
variable {X : Cx} {K : PySem.W.Frag} {w : World}
def rSetI (K : PySem.W.Frag) (w : World) : List V → Hp → VK → Prop := fun xs H Q => ∃ (l : Addr) (ns : List Int), xs = [.ref l] ∧ SqL K H l (ns.map V.int) ∧ ns.length < 1000 ∧ ∀ p c, H p = none → c ≤ ns.length → Q (.ref p) (upd H p (SetO w p (fun j => decide (j ∈ ns)) c))
theorem cr_setI0 (hc : X.calm = true) : CallR X (.type "set") (rSetI X.K X.w) := by
  intro pins s σ H xs us Q I r h
  obtain ⟨l, ns, rfl, hq, hl, q⟩ := h
  cases r with
  | cons r rr =>
    cases rr
    cases r
    obtain ⟨its, rv, pl, hz⟩ := I.list hq
    have hi : IntsAre its.toArray.toList ns := ints_of_vals rv
    refine call_set_lstI ns (I.ok.hd hc) pl.isList hi (by unfold scanBound; omega) fun h' tk c R1 hcn k => ?_
    exact ⟨.ref _, upd H s.heap.objs.size (SetO X.w s.heap.objs.size (fun j => decide (j ∈ ns)) c), I.laid (t' := tk) k (Nat.le_refl _) (setO_new R1), rfl, q _ _ (I.hok.fresh (Nat.le_refl _)) hcn⟩
theorem cr_setI (hc : X.calm = true) (h : X.K = K := by rfl) (h2 : HEq X.w w := by rfl) : CallR X (.type "set") (rSetI K w) := by
  subst h
  cases h2
  exact cr_setI0 hc
theorem srtI_k (hc : X.calm = true) (h2 : HEq X.w w := by rfl) : CallR X (.builtin "sorted") (rSortedSet w) := by
  cases h2
  exact cr_sortedSet hc
end
theorem strict_eq {a b : List Nat} (h1 : a.Pairwise (· < ·)) (h2 : b.Pairwise (· < ·)) (h : ∀ x, x ∈ a ↔ x ∈ b) : a = b := by
  have n1 : a.Nodup := h1.imp fun h => Nat.ne_of_lt h
  have n2 : b.Nodup := h2.imp fun h => Nat.ne_of_lt h
  exact List.Perm.eq_of_pairwise (fun x y _ _ p q => absurd p (Nat.lt_asymm q)) h1 h2 (perm_of_mem n1 n2 h)
theorem srtN_strict {l : List Nat} (h : l.Nodup) : (srt rkN l).Pairwise (· < ·) := by
  have h1 := srt_sorted rkN l
  have h2 : (srt rkN l).Nodup := srt_nodup h
  refine List.Pairwise.imp₂ (fun a b p q => ?_) h1 h2
  unfold leR rkN at p
  rw [decide_eq_true_eq] at p
  rcases Nat.lt_or_ge a b with z | z
  · exact z
  · exfalso
    rcases Nat.eq_or_lt_of_le z with z | z
    · exact q z.symm
    · have : ([b] : List Nat) < [a] := List.Lex.rel z
      exact absurd p (List.not_le.mpr this)
/-- numbers, in their order, each once -/
def nums (l : List Nat) : List Nat := srt rkN (ddp l)
theorem nums_mem {l : List Nat} {x : Nat} : x ∈ nums l ↔ x ∈ l := by unfold nums; rw [srt_mem, ddp_mem]
theorem nums_nodup (l : List Nat) : (nums l).Nodup := srt_nodup (ddp_nodup _)
theorem nums_len (l : List Nat) : (nums l).length ≤ l.length := by unfold nums; rw [srt_len]; exact ddp_len l
section
variable {P : Program} {w : World} {K : PySem.W.Frag} {Rs : Rs_} {H F : Hp} {ta : TE}
theorem ev_srtSet {l : List Nat} (h : EvE ta Rs H F (rLst (l.map rNat))) (hl : l.length < 64) : EvE (tCB (rSortedSet w) (tCons (tCB (rSetI K w) (tCons ta tNil)) tNil)) Rs H F (rLst ((nums l).map rNat)) := by
  intro σ H1 F1 g e Q q
  refine h σ H1 F1 g e _ fun v H2 F2 g2 rv => ?_
  obtain ⟨a, us, rfl, h2, l2⟩ := rv
  have eu : us = (l.map fun n : Nat => (n : Int)).map V.int := by
    refine LA.rV_iff (F := F2) ?_
    rw [List.map_map, List.map_map]
    exact l2
  subst eu
  refine ⟨a, l.map fun n : Nat => (n : Int), rfl, SqL.of (g2.fh _ _ h2), by rw [List.length_map]; omega, fun p c hp hc => ?_⟩
  rw [List.length_map] at hc
  refine ⟨p, _, c, rfl, upd_same, by omega, fun ns b hs hm hn hb => ?_⟩
  have g3 : G0 H2 F2 (upd H2 p (SetO w p (fun j => decide (j ∈ l.map fun n : Nat => (n : Int))) c)) F2 := Gr.newM g2.fh hp
  have g4 : G0 (upd H2 p (SetO w p (fun j => decide (j ∈ l.map fun n : Nat => (n : Int))) c)) F2 (upd (upd H2 p (SetO w p (fun j => decide (j ∈ l.map fun n : Nat => (n : Int))) c)) b (.lst (ns.map V.int))) (upd F2 b (.lst (ns.map V.int))) := Gr.new g3.fh hb
  have en : ns = (nums l).map fun n : Nat => (n : Int) := by
    have hnn : ∀ k ∈ ns, ∃ n ∈ l, k = (n : Int) := fun k hk => by
      obtain ⟨n, hn, e⟩ := List.mem_map.mp (of_decide_eq_true ((hm k).mp hk))
      exact ⟨n, hn, e.symm⟩
    have e1 : ns = (ns.map Int.toNat).map fun n : Nat => (n : Int) := by
      rw [List.map_map]
      conv => lhs; rw [← List.map_id ns]
      refine List.map_congr_left fun k hk => ?_
      obtain ⟨n, _, rfl⟩ := hnn k hk
      rfl
    rw [e1]
    congr 1
    refine strict_eq (List.pairwise_map.mpr (List.Pairwise.imp_of_mem (fun {x y} hx hy hlt => ?_) hs)) (srtN_strict (ddp_nodup _)) fun x => ?_
    · obtain ⟨n, _, rfl⟩ := hnn x hx
      obtain ⟨m, _, rfl⟩ := hnn y hy
      show n < m
      omega
    · rw [nums_mem]
      constructor
      · intro hx
        obtain ⟨k, hk, rfl⟩ := List.mem_map.mp hx
        obtain ⟨n, hn, rfl⟩ := hnn k hk
        exact hn
      · intro hx
        exact List.mem_map.mpr ⟨x, (hm x).mpr (decide_eq_true (List.mem_map.mpr ⟨x, hx, rfl⟩)), rfl⟩
  refine q _ _ _ ((g2.trans g3).trans g4) ⟨b, _, rfl, upd_same, ?_⟩
  rw [en, List.map_map]
  exact LA.of_map (by simp) fun i x v hx hv => by
    rw [List.getElem?_map, hx] at hv
    exact (Option.some.inj hv).symm
end
end K81
set_option Elab.async false
set_option linter.all false
set_option maxRecDepth 100000
set_option maxHeartbeats 2000000
set_option autoImplicit false
/-! K81CC: the pot; expressions that draw from it. -/
namespace K81
open PySem PySem.Spec L2
open PyProof.Rows (envOfC)
/-- the pot: two numbers that change -/
def Pot (l : Addr) (H F : Hp) : Prop := ∃ a b : Int, 0 ≤ a ∧ 0 ≤ b ∧ b < 4294967296 ∧ ML l [rI a, rI b] H F
section
variable {K : PySem.W.Frag} {l : Addr} {Rs : Rs_} {H F H1 F1 : Hp} {ta tb te : TE} {A B R : Rep}
theorem Pot.grow (p : Pot l H F) (g : G0 H F H1 F1) : Pot l H1 F1 := let ⟨a, b, h1, h2, h3, m⟩ := p; ⟨a, b, h1, h2, h3, m.grow g⟩
theorem Pot.live (p : Pot l H F) : H l ≠ none := let ⟨a, b, h1, h2, h3, m⟩ := p; m.live
theorem Pot.gr {M : Addr → Prop} (p : Pot l H F) (g : Gr M H F H1 F1) (h : ¬ M l) : Pot l H1 F1 := let ⟨a, b, h1, h2, h3, m⟩ := p; ⟨a, b, h1, h2, h3, m.gr g h⟩
/-- an expression that may draw -/
def EvP (l : Addr) (te : TE) (Rs : Rs_) (H F : Hp) (R : Rep) : Prop := ∀ σ H1 F1, Gr (At l) H F H1 F1 → En F1 σ Rs → Pot l H1 F1 → ∀ Q : VK, (∀ v H2 F2, Gr (At l) H1 F1 H2 F2 → Pot l H2 F2 → R.at_ F2 v → Q v H2) → te σ H1 Q
def EvPA (l : Addr) (ta : TA) (Rs : Rs_) (H F : Hp) (As : List Rep) : Prop := ∀ σ H1 F1, Gr (At l) H F H1 F1 → En F1 σ Rs → Pot l H1 F1 → ∀ Q : List V → Hp → Prop, (∀ vs H2 F2, Gr (At l) H1 F1 H2 F2 → Pot l H2 F2 → LA F2 vs As → Q vs H2) → ta σ H1 Q
theorem ep_e (h : ∀ H1 F1, Gr (At l) H F H1 F1 → EvE te Rs H1 F1 R) : EvP l te Rs H F R := fun σ H1 F1 g e p Q q => h H1 F1 g σ H1 F1 (Gr.refl g.fh) e Q fun v H2 F2 g2 r => q v H2 F2 g2.up (p.grow g2) r
theorem ep_to {S : Rep} (h : EvP l te Rs H F R) (hs : ∀ F' v, R.at_ F' v → S.at_ F' v) : EvP l te Rs H F S := fun σ H1 F1 g e p Q q => h σ H1 F1 g e p Q fun v H2 F2 g2 p2 r => q v H2 F2 g2 p2 (hs F2 v r)
theorem epa_nil : EvPA l tNil Rs H F [] := fun σ H1 F1 g e p Q q => q [] H1 F1 (Gr.refl g.fh) p .nil
theorem epa_cons {tr : TA} {As : List Rep} (h : EvP l te Rs H F A) (hr : EvPA l tr Rs H F As) : EvPA l (tCons te tr) Rs H F (A :: As) := fun σ H1 F1 g e p Q q =>
  h σ H1 F1 g e p _ fun x H2 F2 k p2 rx => hr σ H2 F2 (g.trans k) (e.mono k.ff) p2 _ fun vs H3 F3 m p3 rv => q _ H3 F3 (k.trans m) p3 (.cons (A.mono m.ff rx) rv)
theorem ep_op {r : R2} (ha : EvP l ta Rs H F A) (hb : EvP l tb Rs H F B) (hr : ∀ H1 F1 x y, Gr (At l) H F H1 F1 → A.at_ F1 x → B.at_ F1 y → ∀ Q : VK, (∀ v H2 F2, G0 H1 F1 H2 F2 → R.at_ F2 v → Q v H2) → r x y H1 Q) : EvP l (tOp r ta tb) Rs H F R := fun σ H1 F1 g e p Q q =>
  ha σ H1 F1 g e p _ fun x H2 F2 k p2 rx => hb σ H2 F2 (g.trans k) (e.mono k.ff) p2 _ fun y H3 F3 m p3 ry => hr H3 F3 x y ((g.trans k).trans m) (A.mono m.ff rx) ry Q fun v H4 F4 n r => q v H4 F4 ((k.trans m).trans n.up) (p3.grow n) r
theorem ep_tup {ta : TA} {As : List Rep} (h : EvPA l ta Rs H F As) (hl : As.length ≤ 100 := by exact Nat.le_of_ble_eq_true rfl) : EvP l (tTup ta) Rs H F (rTup As) := fun σ H1 F1 g e p Q q =>
  h σ H1 F1 g e p _ fun vs H2 F2 k p2 rv => ⟨by rw [rv.len]; exact Nat.le_trans hl (by decide), fun a ha => by
    have g3 : G0 H2 F2 (upd H2 a (.tup vs)) (upd F2 a (.tup vs)) := Gr.new k.fh ha
    exact q _ _ _ (k.trans g3.up) (p2.grow g3) ⟨a, vs, rfl, upd_same, rv.mono g3.ff⟩⟩
/-- a number below n -/
def rLt (n : Nat) : Rep := rEx (fun i : Nat => rNat i) (fun i => i < n)
/-! ### promises that draw -/
def PSpP {G : Type} (args : G → List Rep) (dom : G → Prop) (res : G → Rep) : Sp := fun vs H Q _ => ∃ (g : G) (l : Addr) (F : Hp) (us : List V), vs = .ref l :: us ∧ Same F H ∧ LA F us (args g) ∧ dom g ∧ Pot l H F ∧ ∀ v H' F', Gr (At l) H F H' F' → Pot l H' F' → (res g).at_ F' v → Q v H'
theorem ep_call {G : Type} {args : G → List Rep} {dom : G → Prop} {res : G → Rep} (g : G) {ta : TA} {E : XK} {As : List Rep} (h : EvPA l ta Rs H F (rV (.ref l) :: As)) (hg : As = args g) (hd : dom g) : EvP l (tCall (PSpP args dom res) [] E ta) Rs H F (res g) := by
  subst hg
  intro σ H1 F1 k e p Q q
  refine h σ H1 F1 k e p _ fun vs H2 F2 m p2 rv => ?_
  rw [List.append_nil]
  cases rv with
  | cons r1 rv =>
    have r1 : _ = V.ref l := r1
    subst r1
    exact ⟨g, l, F2, _, rfl, m.fh, rv, hd, p2, fun v H3 F3 n p3 r => q v H3 F3 (m.trans n) p3 r⟩
/-! ### statements that draw -/
variable {σ : L2.St} {D : Ends}
theorem stp_asg {i : Nat} (s : Same F H) (e : En F σ Rs) (p : Pot l H F) (h : EvP l te Rs H F R) (k : ∀ σ' H' F', Gr (At l) H F H' F' → Pot l H' F' → En F' σ' (Rs.set i (some R)) → D.nx σ' H') : tAsg te (gName i) D σ H :=
  h σ H F (Gr.refl s) e p _ fun v H1 F1 g p1 r => k _ H1 F1 g p1 ((e.mono g.ff).set r)
theorem stp_ret (s : Same F H) (e : En F σ Rs) (p : Pot l H F) (h : EvP l te Rs H F R) (k : ∀ v H' F', Gr (At l) H F H' F' → Pot l H' F' → R.at_ F' v → D.rt v H') : tRet te D σ H :=
  h σ H F (Gr.refl s) e p _ fun v H1 F1 g p1 r => k v H1 F1 g p1 r
theorem En.ex {α : Type} {f : α → Rep} {q : α → Prop} {i : Nat} (e : En F σ Rs) (h : Rs[i]? = some (some (rEx f q))) : ∃ a, q a ∧ En F σ (Rs.set i (some (f a))) := by
  obtain ⟨v, hv, a, hq, hr⟩ := e.get h
  refine ⟨a, hq, by rw [List.length_set]; exact e.len, fun {j S} hj => ?_⟩
  rw [List.getElem?_set] at hj
  split at hj
  · rename_i ij
    subst ij
    split at hj
    · cases hj
      exact ⟨v, hv, hr⟩
    · cases hj
  · exact e.get hj
end
/-! ### numbers -/
section
variable {Rs : Rs_} {H F : Hp} {ta tb : TE} {i j : Int}
theorem ev_int1 (h : EvE ta Rs H F (rI i)) : EvE (tCB (fun xs H Q => (∃ i, xs = [.int i] ∧ Q (.int i) H) ∨ ∃ k, xs = [.bl k] ∧ Q (.int (if k then 1 else 0)) H) (tCons ta tNil)) Rs H F (rI i) :=
  ev_cb (ea_1 h) fun H1 F1 vs g l Q q => by
    cases l with
    | cons r1 l =>
      cases l
      have r1 : _ = V.int i := r1
      subst r1
      exact .inl ⟨i, rfl, q _ _ _ (Gr.refl g.fh) rfl⟩
theorem ev_abs (h : EvE ta Rs H F (rI i)) : EvE (tCB (fun xs H Q => ∃ i, xs = [.int i] ∧ Q (.int (if i < 0 then -i else i)) H) (tCons ta tNil)) Rs H F (rI (if i < 0 then -i else i)) :=
  ev_cb (ea_1 h) fun H1 F1 vs g l Q q => by
    cases l with
    | cons r1 l =>
      cases l
      have r1 : _ = V.int i := r1
      subst r1
      exact ⟨i, rfl, q _ _ _ (Gr.refl g.fh) rfl⟩
theorem ev_max2 (h : EvE ta Rs H F (rI i)) (h2 : EvE tb Rs H F (rI j)) : EvE (tCB (fun xs H Q => ∃ i j, xs = [.int i, .int j] ∧ Q (.int (if j > i then j else i)) H) (tCons ta (tCons tb tNil))) Rs H F (rI (if j > i then j else i)) :=
  ev_cb (ea_2 h h2) fun H1 F1 vs g l Q q => by
    cases l with
    | cons r1 l => cases l with
      | cons r2 l =>
        cases l
        have r1 : _ = V.int i := r1
        have r2 : _ = V.int j := r2
        subst r1 r2
        exact ⟨i, j, rfl, q _ _ _ (Gr.refl g.fh) rfl⟩
theorem ev_min2 (h : EvE ta Rs H F (rI i)) (h2 : EvE tb Rs H F (rI j)) : EvE (tCB (fun xs H Q => ∃ i j, xs = [.int i, .int j] ∧ Q (.int (if j < i then j else i)) H) (tCons ta (tCons tb tNil))) Rs H F (rI (if j < i then j else i)) :=
  ev_cb (ea_2 h h2) fun H1 F1 vs g l Q q => by
    cases l with
    | cons r1 l => cases l with
      | cons r2 l =>
        cases l
        have r1 : _ = V.int i := r1
        have r2 : _ = V.int j := r2
        subst r1 r2
        exact ⟨i, j, rfl, q _ _ _ (Gr.refl g.fh) rfl⟩
/-- .. = divmod(i, j) -/
theorem st_divmod {g : TG} {D : Ends} {σ : L2.St} (s : Same F H) (e : En F σ Rs) (ha : EvE ta Rs H F (rI i)) (hb : EvE tb Rs H F (rI j)) (h0 : 0 < j) (h1 : j < 1073741824) (k : ∀ v H' F', G0 H F H' F' → (rTup [rI (i / j), rI (i % j)]).at_ F' v → g v σ H' D.nx) :
    tAsg (tCB (fun xs H Q => ∃ i j, xs = [.int i, .int j] ∧ CDiv i j ∧ ∀ p, H p = none → Q (.ref p) (upd H p (.tup [.int (i / j), .int (i % j)]))) (tCons ta (tCons tb tNil))) g D σ H := by
    show tCons ta (tCons tb tNil) σ H (fun vs H1 => ∃ i j, vs = [.int i, .int j] ∧ CDiv i j ∧ ∀ p, H1 p = none → g (.ref p) σ (upd H1 p (.tup [.int (i / j), .int (i % j)])) D.nx)
    refine ea_2 ha hb σ H F (Gr.refl s) e _ fun vs H2 F2 g2 l => ?_
    cases l with
    | cons r1 l => cases l with
      | cons r2 l =>
        cases l
        have r1 : _ = V.int i := r1
        have r2 : _ = V.int j := r2
        subst r1 r2
        refine ⟨i, j, rfl, ⟨h0, h1⟩, fun q hq => ?_⟩
        have g3 : G0 H2 F2 (upd H2 q (.tup [.int (i / j), .int (i % j)])) (upd F2 q (.tup [.int (i / j), .int (i % j)])) := Gr.new g2.fh hq
        exact k _ _ _ (g2.trans g3) ⟨q, _, rfl, upd_same, .cons rfl (.cons rfl .nil)⟩
theorem mod_lt (x : Int) {m : Int} (h : 0 < m) : 0 ≤ x % m ∧ x % m < m := ⟨Int.emod_nonneg _ (by omega), Int.emod_lt_of_pos _ h⟩
end
section
variable {P : Program} {w : World} {K : PySem.W.Frag} {mg : Str → Option Value} {base : Heap}
abbrev spDraw : Sp := PSpP (fun n : Nat => [rNat n]) (fun n => 0 < n ∧ n ≤ 1000) (fun n => rLt n)
theorem lst2 {us : List V} {a b : Int} {F : Hp} (h : LA F us [rI a, rI b]) : us = [.int a, .int b] := LA.rV_iff (us := [V.int a, V.int b]) h
theorem ok_law_draw (T : Hd K mg) : Ce P w K mg base 1 "_law_draw" ["_law_pot_here", "_law_many"] spDraw := by
  refine ce_any T.d__law_draw T.glo__law_draw sc__law_draw (fun _ _ _ _ _ _ us hl => match us, hl with | [_, _], _ => rfl) (fun vs H Q E ⟨g, l, F, us, h, _, la, _⟩ => by rw [h, List.length_cons, la.len]; rfl) (fun cdv A outer s H0 E hr => ⟨_, (pss_cons (ps_if (pt_cmpR op_gt (pe_ix (ixl_k (K := K)) (pv 0) pe_int (fun _ _ => rfl)) pe_int (nomark _)) (pss_cons (ps_asg (pe_callB call_divmod (by rfl) T.free_divmod (by decide +kernel) (pa_cons (pe_ix (ixl_k (K := K)) (pv 0) pe_int (fun _ _ => rfl)) (pa_cons (pv 1) pa_nil))) (tup_k (K := K) (n := 2) rfl (pgs_cons (pg_sub (pv 0) pe_int set_list) (pgs_cons (pg_name (i := 2) sc__law_draw.nd rfl (Or.inl rfl)) pgs_nil))))
      (pss_one (ps_ret (pv 2)))) pss_nil)
      (pss_cons (ps_asg (pe_op op_mod (pe_callTy call_int1 (by rfl) T.free_int (by decide +kernel) (pa_cons (pe_op op_add (pe_op op_mul (pe_ix (ixl_k (K := K)) (pv 0) pe_int (fun _ _ => rfl)) pe_int) pe_int) pa_nil)) pe_int) (pg_sub (pv 0) pe_int set_list))
      (pss_one (ps_ret (pe_op op_mod (pe_callTy call_int1 (by rfl) T.free_int (by decide +kernel) (pa_cons (pe_op op_fdiv (pe_op op_mod (pe_callTy call_int1 (by rfl) T.free_int (by decide +kernel) (pa_cons (pe_op op_mul (pe_ix (ixl_k (K := K)) (pv 0) pe_int (fun _ _ => rfl)) (pe_ix (ixl_k (K := K)) (pv 0) pe_int (fun _ _ => rfl))) pa_nil)) pe_int) pe_int) pa_nil)) (pv 1)))))), ?_⟩)
  rintro vs H Q E ⟨n, l, F, us, rfl, s, la, ⟨hn, hn2⟩, ⟨a, b, ha, hb, hb2, m⟩, k⟩
  have e := En.start (N := ["_law_pot_here", "_law_many", "_law_digit"]) (LA.cons (show (rV (.ref l)).at_ F (.ref l) from rfl) la)
  have p0 : ∀ {H1 F1 : Hp}, G0 H F H1 F1 → EvE (tOp (rIxL K) (tVar 0) (tC (.int 0))) [some (rV (.ref l)), some (rNat n), none] H1 F1 (rI a) := fun g => ev_ixML (j := 0) (m.grow g) (ev_var rfl) ev_c rfl
  have p1 : ∀ {H1 F1 : Hp}, G0 H F H1 F1 → EvE (tOp (rIxL K) (tVar 0) (tC (.int 1))) [some (rV (.ref l)), some (rNat n), none] H1 F1 (rI b) := fun g => ev_ixML (j := 1) (m.grow g) (ev_var rfl) ev_c rfl
  have g0 : G0 H F H F := Gr.refl s
  refine st_ifC (fun σ' H' F' => G0 H F H' F' ∧ En F' σ' [some (rV (.ref l)), some (rNat n), none]) s e (eb_test (EvE.eqB (ev_I0 (p0 g0) ev_c) (j := decide (a > 0)) rfl)) (fun hp H1 F1 g1 e1 N hN => ?_) (fun hp H1 F1 g1 e1 => ⟨g1, e1⟩) fun σ1 H1 F1 ⟨g1, e1⟩ => ?_
  · -- by its digits
    have hp := of_decide_eq_true hp
    have m1 := m.grow g1
    dsimp only
    refine st_divmod g1.fh e1 (p0 g1) (ev_var (i := 1) (R := rNat n) rfl) (by omega) (by omega) fun v H2 F2 hg r2 => ?_
    obtain ⟨q, ws, rfl, hq, lw⟩ := r2
    have ew := lst2 lw
    subst ew
    obtain ⟨nf, us, hl, lu⟩ := m1.grow hg
    have eu := lst2 lu
    subst eu
    have e3 := e1.mono hg.ff
    refine ⟨q, _, rfl, SqT.of (hg.fh _ _ hq), rfl, _, _, rfl, ?_⟩
    refine (ev_var (i := 0) rfl : EvE (tVar 0) [some (rV (.ref l)), some (rNat n), none] _ _ (rV (.ref l))) _ _ _ (Gr.refl hg.fh) e3 _ fun x H4 F4 g4 rx => (ev_c : EvE (tC (.int 0)) [some (rV (.ref l)), some (rNat n), none] _ _ _) _ H4 F4 g4 (e3.mono g4.ff) _ fun y H5 F5 g5 ry => ?_
    have rx : x = V.ref l := rx
    have ry : y = V.int ((0 : Nat) : Int) := ry
    subst rx ry
    have hg5 := g4.trans g5
    refine ⟨l, _, (0 : Nat), 0, rfl, rfl, G0.h hg5 hl, ixN_nat (Nat.zero_lt_succ _), ?_⟩
    refine ⟨_, _, rfl, g_1 (R1 := rI (a % (n : Nat))) (e3.mono hg5.ff) rfl fun σ6 e6 _ => ⟨rfl, ?_⟩⟩
    have n5 := hg5.out nf hl
    have g6 : Gr (At l) H F (upd H5 l (.lst [.int (a / (n : Nat)), .int b])) F5 := (g1.trans (hg.trans hg5)).up.wr (.inr rfl) n5
    obtain ⟨q1, q2⟩ := mod_lt a (show (0 : Int) < (n : Nat) by omega)
    refine st_ret g6.fh e6 (ev_var rfl) fun v H7 F7 g7 r7 => k v H7 F7 (g6.trans g7.up) ?_ ⟨(a % (n : Nat)).toNat, by omega, ?_⟩
    · exact Pot.grow ⟨_, b, Int.ediv_nonneg ha (by omega), hb, hb2, ML.wr n5 (.cons rfl (.cons rfl .nil))⟩ g7
    · have r7 : v = V.int (a % (n : Nat)) := r7
      rw [r7]
      show V.int _ = V.int _
      congr 1
      omega
  · -- by mixed numbers
    have m1 := m.grow g1
    dsimp only
    refine st_setM (j := 1) (A := rI ((b * 48271 + 8221) % 2147483587)) g1.fh e1 m1 (ev_I (ev_int1 (ev_I0 (ev_I (p1 g1) ev_c (.inr ⟨by decide, by decide⟩)) ev_c)) ev_c (by decide)) (ev_var rfl) ev_c (by simp) fun H2 F2 g2 f2 m2 => ?_
    obtain ⟨q1, q2⟩ := mod_lt (b * 48271 + 8221) (show (0 : Int) < 2147483587 by decide)
    generalize (b * 48271 + 8221) % 2147483587 = c at *
    have m2 : ML l [rI a, rI c] H2 F2 := m2
    have e2 := e1.mono f2
    have p2 : EvE (tOp (rIxL K) (tVar 0) (tC (.int 1))) [some (rV (.ref l)), some (rNat n), none] H2 F2 (rI c) := ev_ixML (j := 1) m2 (ev_var rfl) ev_c rfl
    have gg : Gr (At l) H F H2 F2 := g1.up.trans g2
    obtain ⟨q3, q4⟩ := mod_lt (c * c % 2147483629 / 17) (show (0 : Int) < (n : Nat) by omega)
    dsimp only
    refine st_ret g2.fh e2 (R := rI (c * c % 2147483629 / 17 % (n : Nat))) (ev_I (ev_int1 (ev_I (ev_I (ev_int1 (ev_I p2 p2 (.inl ⟨by omega, by omega⟩))) ev_c (by decide)) ev_c ⟨by decide, by decide⟩)) (ev_var rfl) (by omega)) fun v H3 F3 g3 r3 => k v H3 F3 (gg.trans g3.up) (Pot.grow ⟨a, c, ha, q1, by omega, m2⟩ g3) ⟨(c * c % 2147483629 / 17 % (n : Nat)).toNat, by omega, ?_⟩
    have r3 : v = V.int (c * c % 2147483629 / 17 % (n : Nat)) := r3
    rw [r3]
    show V.int _ = V.int _
    congr 1
    omega
end
end K81
set_option Elab.async false
set_option linter.all false
set_option maxRecDepth 100000
set_option maxHeartbeats 2000000
set_option autoImplicit false
/-! K81CD: deals; the smaller defs of the law. -/
namespace K81
open PySem PySem.Spec L2
open PyProof.Rows (envOfC)
/-- a drawn box, as the law keeps it -/
structure Dl where
  n : Nat
  fs : List Nat
  mv : List Stp
def dK1 : Key := .inr "many"
def dK2 : Key := .inr "firsts"
def dK3 : Key := .inr "moves"
def rDeal (d : Dl) : Rep := ⟨fun F v => ∃ a v1 v2, v = .ref a ∧ F a = some (.dK [(dK1, .int (d.n : Nat)), (dK2, v1), (dK3, v2)]) ∧ (rLst (d.fs.map rNat)).at_ F v1 ∧ (rLst (d.mv.map rStp)).at_ F v2,
  fun s ⟨a, v1, v2, e, h, h1, h2⟩ => ⟨a, v1, v2, e, s _ _ h, (rLst _).mono s h1, (rLst _).mono s h2⟩⟩
section
variable {K : PySem.W.Frag} {Rs : Rs_} {H F : Hp} {ta t1 t2 t3 : TE} {d : Dl}
theorem dl_merge (x y z : V) : mergeK [] [(dK1, x), (dK2, y), (dK3, z)] = [(dK1, x), (dK2, y), (dK3, z)] := by rfl
theorem dl_get (x y z : V) : valV [(dK1, x), (dK2, y), (dK3, z)] dK1 = some x ∧ valV [(dK1, x), (dK2, y), (dK3, z)] dK2 = some y ∧ valV [(dK1, x), (dK2, y), (dK3, z)] dK3 = some z := ⟨rfl, rfl, rfl⟩
theorem ev_deal (h1 : EvE t1 Rs H F (rNat d.n)) (h2 : EvE t2 Rs H F (rLst (d.fs.map rNat))) (h3 : EvE t3 Rs H F (rLst (d.mv.map rStp))) : EvE (tDisp [(tC (.str "many"), t1), (tC (.str "firsts"), t2), (tC (.str "moves"), t3)]) Rs H F (rDeal d) := by
  intro σ H1 F1 g1 e Q q p hp
  have g2 : G0 H1 F1 (upd H1 p (.dK [])) F1 := Gr.newM g1.fh hp
  have nF : F1 p = none := g1.fh.free hp
  have ec : ∀ (x : Str) (H4 F4 : Hp), G0 H F H4 F4 → EvE (tC (.str x)) Rs H4 F4 (rS x) := fun x H4 F4 g => ev_c
  have k1 := g1.trans g2
  refine ec "many" _ _ k1 σ _ F1 (Gr.refl g2.fh) e _ fun x1 H3 F3 g3 r1 => h1 σ H3 F3 (k1.trans g3) (e.mono g3.ff) _ fun y1 H4 F4 g4 s1 => ?_
  have k4 := (k1.trans g3).trans g4
  have e4 := (e.mono g3.ff).mono g4.ff
  refine ec "firsts" _ _ k4 σ _ F4 (Gr.refl g4.fh) e4 _ fun x2 H5 F5 g5 r2 => h2 σ H5 F5 (k4.trans g5) (e4.mono g5.ff) _ fun y2 H6 F6 g6 s2 => ?_
  have k6 := (k4.trans g5).trans g6
  have e6 := (e4.mono g5.ff).mono g6.ff
  refine ec "moves" _ _ k6 σ _ F6 (Gr.refl g6.fh) e6 _ fun x3 H7 F7 g7 r3 => h3 σ H7 F7 (k6.trans g7) (e6.mono g7.ff) _ fun y3 H8 F8 g8 s3 => ?_
  have r1 : x1 = V.str "many" := r1
  have r2 : x2 = V.str "firsts" := r2
  have r3 : x3 = V.str "moves" := r3
  subst r1 r2 r3
  have kk := ((((g3.trans g4).trans g5).trans g6).trans g7).trans g8
  have h8 : H8 p = some (.dK []) := G0.h kk upd_same
  have n8 : F8 p = none := kk.out nF upd_same
  refine ⟨h8, [(dK1, y1), (dK2, y2), (dK3, y3)], rfl, by simp, ?_⟩
  rw [dl_merge]
  have g9 : G0 H1 F1 (upd H8 p (.dK [(dK1, y1), (dK2, y2), (dK3, y3)])) F8 := (g2.trans kk).wr (.inl hp) n8
  have g10 := g9.fz hp n8 upd_same
  have f10 : Same F8 (upd F8 p (.dK [(dK1, y1), (dK2, y2), (dK3, y3)])) := fun b o hb => by rw [upd_ne (ne_of_none hb n8)]; exact hb
  have s1 : y1 = V.int (d.n : Nat) := s1
  refine q _ _ _ g10 ⟨p, y2, y3, rfl, ?_, (rLst _).mono (((g7.trans g8).ff).trans f10) s2, (rLst _).mono f10 s3⟩
  rw [upd_same, s1]
theorem ev_dget {R : Rep} {key : Key} (h : EvE ta Rs H F (rDeal d)) (hk : ∀ F v1 v2, (rLst (d.fs.map rNat)).at_ F v1 → (rLst (d.mv.map rStp)).at_ F v2 → ∃ v, valV [(dK1, .int (d.n : Nat)), (dK2, v1), (dK3, v2)] key = some v ∧ R.at_ F v) : EvE (tDGet ta (tC (kV key))) Rs H F R := by
  intro σ H1 F1 g e Q q
  refine h σ H1 F1 g e _ fun x H2 F2 g2 rx => (ev_c : EvE (tC (kV key)) Rs H2 F2 _) σ H2 F2 (Gr.refl g2.fh) (e.mono g2.ff) _ fun y H3 F3 g3 ry => ?_
  obtain ⟨a, v1, v2, rfl, ha, h1, h2⟩ := rx
  have ry : y = kV key := ry
  subst ry
  obtain ⟨v, hv, rv⟩ := hk F2 v1 v2 h1 h2
  exact ⟨a, v, rfl, hv ▸ DGet.k (g3.h (g2.fh _ _ ha)), q v H3 F3 (g2.trans g3) (R.mono g3.ff rv)⟩
theorem ev_many (h : EvE ta Rs H F (rDeal d)) : EvE (tDGet ta (tC (.str "many"))) Rs H F (rNat d.n) := ev_dget (key := dK1) h fun F v1 v2 h1 h2 => ⟨_, (dl_get _ _ _).1, rfl⟩
theorem ev_firsts (h : EvE ta Rs H F (rDeal d)) : EvE (tDGet ta (tC (.str "firsts"))) Rs H F (rLst (d.fs.map rNat)) := ev_dget (key := dK2) h fun F v1 v2 h1 h2 => ⟨_, (dl_get _ _ _).2.1, h1⟩
theorem ev_moves (h : EvE ta Rs H F (rDeal d)) : EvE (tDGet ta (tC (.str "moves"))) Rs H F (rLst (d.mv.map rStp)) := ev_dget (key := dK3) h fun F v1 v2 h1 h2 => ⟨_, (dl_get _ _ _).2.2, h2⟩
end
/-- as a box -/
def Dl.bx (d : Dl) : Bx := mkBx d.n d.fs d.mv
/-- the goals of the moves from some states by a sign -/
def bhd (d : Dl) (here : List Nat) (q : Sg) : List Nat := nums ((d.mv.filter fun m => decide (m.1 ∈ here) && decide (m.2.1 = q)).map fun m => m.2.2)
section
variable {P : Program} {w : World} {K : PySem.W.Frag} {mg : Str → Option Value} {base : Heap}
abbrev spLMade (K : PySem.W.Frag) : Sp := PSp (fun d : Dl => [rDeal d]) (fun d _ _ => RawB d.n d.fs d.mv) (fun d => rBox K d.bx)
theorem ok_law_made (T : Hd K mg) (c_Box : Cm P w K mg base 6 "Box" (He.ga K "Box") ["self", "states", "starts", "steps"] [] (spBox K)) : Ce P w K mg base 8 "_law_made" ["_law_deal_here"] (spLMade K) := by
  refine ce_plain T.d__law_made T.glo__law_made sc__law_made (fun _ _ _ _ _ _ us hl => match us, hl with | [_], _ => rfl) (fun _ => rfl) (fun cdv A outer s H0 E hr => ⟨_, (pss_one (ps_ret (pe_mk c_Box (hr.mono (by decide)) rfl (pa_cons (pe_dget (hu_of hr) (pv 0) pe_str (fun _ _ => rfl)) (pa_cons (pe_dget (hu_of hr) (pv 0) pe_str (fun _ _ => rfl)) (pa_cons (pe_dget (hu_of hr) (pv 0) pe_str (fun _ _ => rfl)) pa_nil)))))), ?_⟩)
  intro d F H σ Q s hd e k
  exact st_ret s e (x_Box (ev_many (ev_var rfl)) (ev_firsts (ev_var rfl)) (ev_moves (ev_var rfl)) hd) k
abbrev spLBehind : Sp := PSp (fun p : Dl × List Nat × Sg => [rDeal p.1, rLst (p.2.1.map rNat), rSg p.2.2]) (fun p _ _ => p.1.mv.length < 64) (fun p => rLst ((bhd p.1 p.2.1 p.2.2).map rNat))
theorem ok_law_behind (T : Hd K mg) : Ce P w K mg base 1 "_law_behind" ["_law_deal_here", "_law_here", "_law_sign"] spLBehind := by
  refine ce_plain T.d__law_behind T.glo__law_behind sc__law_behind (fun _ _ _ _ _ _ us hl => match us, hl with | [_, _, _], _ => rfl) (fun _ => rfl) (fun cdv A outer s H0 E hr => ⟨_, (pss_one (ps_ret (pe_callB (srtI_k (w := w) rfl) (by rfl) T.free_sorted (by decide +kernel) (pa_cons (pe_callTy (cr_setI (K := K) (w := w) rfl) (by rfl) T.free_set (by decide +kernel) (pa_cons (pe_lc (own := [("_law_move", 3)]) rfl sc__law_behind.nd (pi_list (pe_dget (hu_of hr) (pv 0) pe_str (fun _ _ => rfl))) (blkOk_by (own := [("_law_move", 3)]) (N := ["_law_deal_here", "_law_here", "_law_sign", "_law_move"]) (sc := defScope s__law_behind) (by decide +kernel)) (fun _ _ _ _ _ => (pg_name (i := 3) sc__law_behind.nd rfl (Or.inl rfl))) (fun _ _ _ _ _ => (pts_one (PW.pt (pw_and (pt_cmpR (ind_k (K := K) (hu65 hr)) (pe_ix (ixt_k (K := K)) (pv 3) pe_int (fun _ _ => rfl)) (pv 1) (by rfl)) (pw_and1 (pt_cmpR (eqd_k (K := K) hr.units) (pe_slice (slt_k (K := K)) (pv 3) (po_some pe_int) (po_some pe_int)) (pv 2) (nomark _))))))) (fun _ _ _ _ _ => (pe_ix (ixt_k (K := K)) (pv 3) pe_int (fun _ _ => rfl)))) pa_nil)) pa_nil)))), ?_⟩)
  intro ⟨d, here, q⟩ F H σ Q s hd e k
  have hd : d.mv.length < 64 := hd
  have k : ∀ v H' F', G0 H F H' F' → (rLst ((bhd d here q).map rNat)).at_ F' v → Q v H' := k
  refine st_ret s e (ev_srtSet (w := w) (K := K) (ev_lc (xs := d.mv) (RA := rStp) (RB := rNat) (p := fun m => decide (m.1 ∈ here) && decide (m.2.1 = q)) (f := fun m => m.2.2) (Ss := fun m => [some (rDeal d), some (rLst (here.map rNat)), some (rSg q), some (rStp m)]) (src_list (ev_moves (ev_var rfl))) (Nat.lt_of_lt_of_le hd (by decide)) rfl (fun m hm => tgt_1) (fun m hm => ?_) fun m hm _ => ev_ixT (j := 3) (ev_var rfl) ev_c rfl) ?_) k
  · refine eb_and (eb_test (EvE.eqB (ev_inD (K := K) (d := encNat m.1) (ds := here.map encNat) (ev_ixT (j := 0) (R := rNat m.1) (ev_var rfl) ev_c rfl) (ev_var rfl) (dpr_nat _) (dpr_lst (dprs_map dpr_nat _)) (ok_nat _).shaped (ok_list ok_nat _).shaped) (any_dec (fun a => (ok_nat a).pl) encNat_inj _ _))) fun _ => eb_test (EvE.eqB (ev_eqD (K := K) (d := encSg m.2.1) (e := encSg q) (ev_slT (K := K) (Ts := [rI (m.1 : Nat), rS (sgC m.2.1), rS (sgA m.2.1), rI (m.2.2 : Nat)]) (ev_var rfl) (eo_some (i := 1) ev_c) (eo_some (i := 3) ev_c) fun z => (by decide : ¬ HT.sIx 4 0 (some 1) = 0) z.1) (ev_var rfl) (dpr_sg _) (dpr_sg _) (ok_sg _).shaped (ok_sg _).shaped) (eqv_dec (fun a => (ok_sg a).pl) encSg_inj _ _))
  · rw [List.length_map]
    exact Nat.lt_of_le_of_lt (List.length_filter_le _ _) hd
end
end K81
set_option Elab.async false
set_option linter.all false
set_option maxRecDepth 100000
set_option maxHeartbeats 2000000
set_option autoImplicit false
/-! K81CE: loops and comprehensions that draw. -/
namespace K81
open PySem PySem.Spec L2
theorem it_range (n : Nat) (F : Hp) : ItOk (Itr 0 (n : Int).toNat) F (List.range n) (fun i => rI (i : Nat)) := by
  intro H3 F3 s1 s2
  refine ⟨by show Int.toNat n ≤ _; rw [List.length_range]; omega, fun i x hx => ?_⟩
  obtain ⟨hi, rfl⟩ := List.getElem?_eq_some_iff.mp hx
  rw [List.length_range] at hi
  refine ⟨by show i < Int.toNat n; omega, fun v H4 ⟨e4, y⟩ => ?_⟩
  subst e4 y
  exact ⟨F3, Gr.refl s2, by show V.int (0 + i) = V.int _; rw [List.getElem_range, Int.zero_add]⟩
section
variable {K : PySem.W.Frag} {l : Addr} {Rs : Rs_} {H F : Hp} {te0 te : TE} {p r : Nat → Prop} {g : TG} {tb : TS} {D : Ends} {σ : L2.St} {vs : List Nat} {Ss : Nat → Rs_}
theorem st_rngP (s : Same F H) (e : En F σ Rs) (pt : Pot l H F) (h : EvP l te Rs H F (rEx (fun n : Nat => rNat n) p)) (hp : ∀ n, p n → n ≤ 100000)
    (k : ∀ n H1 F1 wi, p n → Gr (At l) H F H1 F1 → Pot l H1 F1 → En F1 σ Rs → SrcL wi Rs H1 F1 (List.range n) (fun i => rI (i : Nat)) → tFor wi g tb D σ H1) : tFor (iRng1 (tCons te tNil)) g tb D σ H := by
  refine h σ H F (Gr.refl s) e pt _ fun v H1 F1 g1 p1 ⟨n, hn, rv⟩ => ?_
  have rv : v = V.int (n : Nat) := rv
  subst rv
  have := hp n hn
  exact ⟨n, rfl, by omega, by omega, k n H1 F1 (fun σ H R => R (Itr 0 (n : Int).toNat) H) hn g1 p1 (e.mono g1.ff) fun σ' H2 F2 g2 e2 R q => q _ H2 F2 (Gr.refl g2.fh) (it_range n F2)⟩
/-- [draw for i in range(draw)] -/
theorem ep_lc (h : EvP l te0 Rs H F (rEx (fun n : Nat => rNat n) p)) (hp : ∀ n, p n → n ≤ 100000) (ho : offB vs Rs = true) (hg : ∀ x, Tgt g vs Rs (rI (x : Nat)) (Ss x)) (he : ∀ x, EvP l te (Ss x) H F (rEx (fun n : Nat => rNat n) r)) :
    EvP l (tLc (iRng1 (tCons te0 tNil)) g tYes te vs) Rs H F (rEx (fun xs : List Nat => rLst (xs.map rNat)) fun xs => p xs.length ∧ ∀ x ∈ xs, r x) := by
  intro σ H1 F1 g1 e pt Q q
  refine h σ H1 F1 g1 e pt _ fun v H2 F2 k p2 ⟨n, hn, rv⟩ => ?_
  have rv : v = V.int (n : Nat) := rv
  subst rv
  have hn2 := hp n hn
  have big : 100000 < sizeLine := by decide
  refine ⟨n, rfl, by omega, by omega, fun D hD => ?_⟩
  have e2 := e.mono k.ff
  have nF : F2 D = none := k.fh.free hD
  have hDl : D ≠ l := fun z => p2.live (z ▸ hD)
  have ok := it_range n F2
  refine ⟨fun i m H' => m = n - i ∧ i ≤ n ∧ ∃ (F' : Hp) (us : List V) (xs : List Nat), Gr (At l) H2 F2 H' F' ∧ Pot l H' F' ∧ H' D = some (.lst us) ∧ F' D = none ∧ xs.length = i ∧ (∀ x ∈ xs, r x) ∧ LA F' us (xs.map rNat), ⟨_, rfl, Nat.zero_le _, F2, [], [], (Gr.newM k.fh hD), p2.grow (Gr.newM k.fh hD), upd_same, nF, rfl, fun x hx => (nomatch hx), .nil⟩, ?_⟩
  rintro i m H' ⟨rfl, hi, F', us, xs, g3, p3, hd, hnn, hxl, hxr, la⟩
  obtain ⟨o1, o2⟩ := ok H' F' g3.ff g3.fh
  rw [List.length_range] at o1
  by_cases hlt : i < n
  · refine .inr ?_
    obtain ⟨q1, q2⟩ := o2 i i (by rw [List.getElem?_range hlt])
    refine ⟨q1, fun H'' => i + 1 ≤ n ∧ ∃ (F'' : Hp) (us : List V) (xs : List Nat), Gr (At l) H2 F2 H'' F'' ∧ Pot l H'' F'' ∧ H'' D = some (.lst us) ∧ F'' D = none ∧ xs.length = i + 1 ∧ (∀ x ∈ xs, r x) ∧ LA F'' us (xs.map rNat), fun H'' p' => ⟨_, by omega, rfl, p'⟩, fun v H3 y => ?_⟩
    obtain ⟨F3, k3, rv⟩ := q2 v H3 y
    have g4 := g3.trans k3.up
    refine hg i v (wipe σ vs) H3 F3 k3.fh (off_wipe ho (e2.mono g4.ff)) rv _ fun σ2 e4 w => ⟨w.trans wipe_wipe, ?_⟩
    refine eb_yes (Rs := Ss i) (H := H3) (F := F3) σ2 H3 F3 (Gr.refl k3.fh) e4 _ fun H5 F5 k5 => ?_
    rw [if_pos rfl]
    have hd5 := k5.h (k3.h hd)
    have hn5 := k5.out (k3.out hnn hd) (k3.h hd)
    have g5 := (g1.trans k).trans (g4.trans k5.up)
    refine he i σ2 H5 F5 g5 (e4.mono k5.ff) ((p3.grow k3).grow k5) _ fun u H6 F6 k6 p6 ⟨x, hx, ru⟩ => ?_
    have hd6 : H6 D = some (.lst us) := k6.hh hDl hd5
    have hn6 := k6.out hn5 hd5
    have hl := la.len
    rw [List.length_map] at hl
    refine ⟨us, hd6, by omega, hlt, F6, us ++ [u], xs ++ [x], ((g4.trans k5.up).trans k6).wr (.inl hD) hn6, ?_, upd_same, hn6, by rw [List.length_append, hxl]; rfl, fun z hz => ?_, ?_⟩
    · obtain ⟨a, b, b1, b2, b3, nl, ws, hl6, lw⟩ := p6
      exact ⟨a, b, b1, b2, b3, nl, ws, by rw [upd_ne (Ne.symm hDl)]; exact hl6, lw⟩
    · rcases List.mem_append.mp hz with hz | hz
      · exact hxr z hz
      · rw [List.mem_singleton.mp hz]; exact hx
    · rw [List.map_append]
      exact (la.mono ((k3.ff.trans k5.ff).trans k6.ff)).append (.cons ru .nil)
  · have ei : i = n := by omega
    subst ei
    refine .inl ⟨o1, q _ H' (upd F' D (.lst us)) ((k.trans g3).fz (k.none hD) hnn hd) ?_ ⟨xs, ⟨by rw [hxl]; exact hn, hxr⟩, D, us, rfl, upd_same, la.mono fun b o hb => ?_⟩⟩
    · obtain ⟨a, b, b1, b2, b3, nl, ws, hl6, lw⟩ := p3
      refine ⟨a, b, b1, b2, b3, by rw [upd_ne (Ne.symm hDl)]; exact nl, ws, hl6, lw.mono fun b o hb => ?_⟩
      rw [upd_ne (ne_of_none hb hnn)]
      exact hb
    · rw [upd_ne (ne_of_none hb hnn)]
      exact hb
/-- ts[:draw] -/
theorem ep_takeL {te th : TE} {Ts : List Rep} (h : ∀ H1 F1, Gr (At l) H F H1 F1 → EvE te Rs H1 F1 (rLst Ts)) (hi : EvP l th Rs H F (rEx (fun n : Nat => rNat n) p)) (hl : ∀ n, p n → n ≤ Ts.length) : EvP l (tSl (rSlL K) te tNoPart (tPart th)) Rs H F (rEx (fun n : Nat => rLst (Ts.take n)) p) := by
  intro σ H1 F1 g1 e pt Q q
  refine h H1 F1 g1 σ H1 F1 (Gr.refl g1.fh) e _ fun x H2 F2 g2 rx => ?_
  refine hi σ H2 F2 (g1.trans g2.up) (e.mono g2.ff) (pt.grow g2) _ fun y H3 F3 g3 p3 ⟨n, hn, ry⟩ => ⟨(n : Nat), ry, ?_⟩
  obtain ⟨a, us, rfl, ha, la⟩ := (rLst Ts).mono g3.ff rx
  refine ⟨a, us, rfl, SqL.of (g3.fh _ _ ha), fun b hb => ?_⟩
  have k5 : G0 H3 F3 (upd H3 b (.lst (cutV us none (some ((n : Nat) : Int))))) (upd F3 b (.lst (cutV us none (some ((n : Nat) : Int))))) := Gr.new g3.fh hb
  refine q _ _ _ ((g2.up.trans g3).trans k5.up) (p3.grow k5) ⟨n, hn, b, _, rfl, upd_same, ?_⟩
  have := la_cut (lo := none) (hi := some ((n : Nat) : Int)) (la.mono k5.ff)
  rwa [show (Ts.drop _).take _ = _ from cut_take (hl n hn)] at this
/-- 1 + draw, draw + 1, the number itself -/
theorem ep_succ {te : TE} (h : EvP l te Rs H F (rEx (fun n : Nat => rNat n) p)) : EvP l (tOp (rI0 fun i j => .int (i + j)) (tC (.int 1)) te) Rs H F (rEx (fun n : Nat => rNat n) fun n => ∃ m, p m ∧ n = m + 1) :=
  ep_op (A := rI 1) (ep_e fun _ _ _ => ev_c) h fun H1 F1 x y g hx ⟨m, hm, hy⟩ Q q => ⟨1, (m : Nat), hx, hy, q _ _ _ (Gr.refl g.fh) ⟨m + 1, ⟨m, hm, rfl⟩, by show V.int _ = V.int _; congr 1; omega⟩⟩
/-- ts[draw] -/
theorem ep_ixL {ta tb : TE} {α : Type} {f : α → Rep} {xs : List α} (ha : ∀ H1 F1, Gr (At l) H F H1 F1 → EvE ta Rs H1 F1 (rLst (xs.map f))) (hb : EvP l tb Rs H F (rLt xs.length)) : EvP l (tOp (rIxL K) ta tb) Rs H F (rEx f fun x => x ∈ xs) :=
  ep_op (ep_e ha) hb fun H1 F1 x y g hx ⟨i, hi, hy⟩ Q q => by
    obtain ⟨a, us, rfl, h1, la⟩ := hx
    obtain ⟨v, hv, rv⟩ := la.get (i := i) (R := f xs[i]) (by rw [List.getElem?_map, List.getElem?_eq_getElem hi]; rfl)
    exact ⟨a, us, i, v, rfl, hy, SqL.of (g.fh _ _ h1), atI_nat hv, q _ _ _ (Gr.refl g.fh) ⟨xs[i], List.getElem_mem hi, rv⟩⟩
end
end K81
set_option Elab.async false
set_option linter.all false
set_option maxRecDepth 100000
set_option maxHeartbeats 2000000
set_option autoImplicit false
/-! K81CF: _law_pot, _law_pick, _law_menu, _law_some_signs. -/
namespace K81
open PySem PySem.Spec L2
open PyProof.Rows (envOfC)
section
variable {P : Program} {w : World} {K : PySem.W.Frag} {mg : Str → Option Value} {base : Heap}
theorem ep_draw {l : Addr} {Rs : Rs_} {H F : Hp} {ta tb : TE} {E : XK} {n : Nat} (ha : ∀ H1 F1, Gr (At l) H F H1 F1 → EvE ta Rs H1 F1 (rV (.ref l))) (hb : ∀ H1 F1, Gr (At l) H F H1 F1 → EvE tb Rs H1 F1 (rNat n)) (h0 : 0 < n) (h1 : n ≤ 1000) :
    EvP l (tCall spDraw [] E (tCons ta (tCons tb tNil))) Rs H F (rEx (fun i : Nat => rNat i) fun i => i < n) := ep_call (res := fun n => rLt n) n (epa_cons (ep_e ha) (epa_cons (ep_e hb) epa_nil)) rfl ⟨h0, h1⟩
/-- a new pot -/
def spPot : Sp := fun vs H Q _ => ∃ (ns : List Int) (k : Nat) (F : Hp) (v : V), vs = [v, .int (k : Nat)] ∧ Same F H ∧ (rLst (ns.map rI)).at_ F v ∧ k ≤ 10 ∧ ∀ l H' F', G0 H F H' F' → H l = none → Pot l H' F' → Q (.ref l) H'
theorem ok_law_pot (T : Hd K mg) : Ce P w K mg base 1 "_law_pot" ["_law_script", "_law_k"] spPot := by
  refine ce_any T.d__law_pot T.glo__law_pot sc__law_pot (fun _ _ _ _ _ _ us hl => match us, hl with | [_, _], _ => rfl) (fun vs H Q E ⟨ns, k, F, v, h, _⟩ => by rw [h]; rfl) (fun cdv A outer s H0 E hr => ⟨_, (pss_cons (ps_set (i := 2) sc__law_pot.nd rfl (Or.inl rfl) (pe_ifExp (pt_cmpR op_lt (pv 1) (pe_callB (len_k (K := K)) (by rfl) T.free_len (by decide +kernel) (pa_cons (pv 0) pa_nil)) (nomark _)) (pe_callB call_abs (by rfl) T.free_abs (by decide +kernel) (pa_cons (pe_ix (ixl_k (K := K)) (pv 0) (pv 1) (fun _ _ => rfl)) pa_nil)) (pe_op op_add (pe_op op_mul pe_int (pv 1)) pe_int)))
      (pss_one (ps_ret (pe_lst (pa_cons (pe_callB (call_max2 rfl) (by rfl) T.free_max (by decide +kernel) (pa_cons pe_int (pa_cons (pe_op op_sub (pv 2) (pe_op op_pow pe_int pe_int)) pa_nil))) (pa_cons (pe_op op_add (pe_op op_mod (pe_callTy call_int1 (by rfl) T.free_int (by decide +kernel) (pa_cons (pe_op op_add (pe_op op_add (pe_op op_mul (pe_op op_mod (pe_callTy call_int1 (by rfl) T.free_int (by decide +kernel) (pa_cons (pv 2) pa_nil)) pe_int) pe_int) (pe_op op_mul pe_int (pv 1))) pe_int) pa_nil)) pe_int) pe_int) pa_nil)))))), ?_⟩)
  rintro vs H Q E ⟨ns, k, F, v0, rfl, s, hv, hk, q⟩
  have e := En.start (N := ["_law_script", "_law_k", "_law_cell"]) (LA.cons hv (LA.cons (show (rNat k).at_ F (.int (k : Nat)) from rfl) .nil))
  have key : ∀ c : Int, ∃ te, te = te := fun c => ⟨0, rfl⟩
  refine st_asg s e (R := rEx rI fun _ => True) (ev_if (b := decide ((k : Int) < (ns.length : Nat))) (eb_test (EvE.eqB (ev_I0 (ev_var (i := 1) (R := rNat k) rfl) (ev_lenL (K := K) (Ts := ns.map rI) (ev_var rfl))) (by rw [List.length_map]))) (fun h => ?_) fun h => ?_) fun σ1 H1 F1 g1 e1 => ?_
  · have h := of_decide_eq_true h
    have hk2 : k < ns.length := by omega
    exact EvE.to (ev_abs (i := ns[k]) (ev_ixL (j := k) (ev_var rfl) (ev_var (i := 1) (R := rNat k) rfl) (by rw [List.getElem?_map, List.getElem?_eq_getElem hk2]; rfl))) fun F' v _ h => ⟨_, trivial, h⟩
  · exact EvE.to (ev_I0 (ev_I ev_c (ev_var (i := 1) (R := rNat k) rfl) (.inl ⟨by decide, by decide⟩)) ev_c) fun F' v _ h => ⟨_, trivial, h⟩
  · dsimp only
    obtain ⟨c, _, e1⟩ := e1.ex (i := 2) (f := rI) (q := fun _ => True) rfl
    have e1 : En F1 σ1 [some (rLst (ns.map rI)), some (rNat k), some (rI c)] := e1
    obtain ⟨q1, q2⟩ := mod_lt (c % 2147483563 * 53017 + 8219 * (k : Nat) + 59) (show (0 : Int) < 2147483549 by decide)
    have hb : EvE _ [some (rLst (ns.map rI)), some (rNat k), some (rI c)] H1 F1 (rI ((c % 2147483563 * 53017 + 8219 * (k : Nat) + 59) % 2147483549 + 1)) :=
      ev_I0 (f := fun i j => .int (i + j)) (ev_I (C := fun _ j => 0 < j) (f := fun i j => .int (i % j)) (ev_int1 (ev_I0 (f := fun i j => .int (i + j)) (ev_I0 (f := fun i j => .int (i + j)) (ev_I (C := CMul) (f := fun i j => .int (i * j)) (ev_I (C := fun _ j => 0 < j) (f := fun i j => .int (i % j)) (ev_int1 (ev_var (i := 2) rfl)) (ev_c (v := .int 2147483563)) (by decide)) (ev_c (v := .int 53017)) (.inr ⟨by decide, by decide⟩)) (ev_I (C := CMul) (f := fun i j => .int (i * j)) (ev_c (v := .int 8219)) (ev_var (i := 1) (R := rNat k) rfl) (.inl ⟨by decide, by decide⟩))) (ev_c (v := .int 59)))) (ev_c (v := .int 2147483549)) (by decide)) (ev_c (v := .int 1))
    generalize (c % 2147483563 * 53017 + 8219 * (k : Nat) + 59) % 2147483549 = z at *
    have ha : EvE _ [some (rLst (ns.map rI)), some (rNat k), some (rI c)] H1 F1 (rI (if c - 10 ^ 18 > 0 then c - 10 ^ 18 else 0)) :=
      ev_max2 (i := 0) (j := c - 10 ^ 18) (ev_c (v := .int 0)) (ev_I0 (f := fun i j => .int (i - j)) (ev_var (i := 2) rfl) (ev_I (C := CPow) (f := fun i j => .int (i ^ j.toNat)) (ev_c (v := .int 10)) (ev_c (v := .int 18)) ⟨by decide, by decide, by decide⟩))
    refine ev_lstM (ea_2 ha hb) (Nat.le_of_ble_eq_true rfl) σ1 H1 F1 (Gr.refl g1.fh) e1 _ fun l H2 F2 g2 nl ml => q l H2 F2 (g1.trans g2) (g1.none nl) ⟨_, _, ?_, by omega, by omega, ml⟩
    split <;> omega
abbrev MenuOk (ms : List Sg) : Prop := ms ≠ [] ∧ ms.Nodup
theorem menu_len {ms : List Sg} (h : MenuOk ms) : 0 < ms.length ∧ ms.length ≤ 5 := ⟨List.length_pos_iff.mpr h.1, sg_few h.2⟩
abbrev spPick : Sp := PSpP (fun ms : List Sg => [rLst (ms.map rSg)]) MenuOk (fun ms => rEx rSg fun q => q ∈ ms)
theorem ok_law_pick (T : Hd K mg) (c__law_draw : Ce P w K mg base 1 "_law_draw" ["_law_pot_here", "_law_many"] spDraw) : Ce P w K mg base 2 "_law_pick" ["_law_pot_here", "_law_menu_here"] spPick := by
  refine ce_any T.d__law_pick T.glo__law_pick sc__law_pick (fun _ _ _ _ _ _ us hl => match us, hl with | [_, _], _ => rfl) (fun vs H Q E ⟨g, l, F, us, h, _, la, _⟩ => by rw [h, List.length_cons, la.len]; rfl) (fun cdv A outer s H0 E hr => ⟨_, (pss_one (ps_ret (pe_ix (ixl_k (K := K)) (pv 1) (pe_c c__law_draw (hr.mono (by decide)) rfl (pa_cons (pv 0) (pa_cons (pe_callB (len_k (K := K)) (by rfl) T.free_len (by decide +kernel) (pa_cons (pv 1) pa_nil)) pa_nil))) (fun _ _ => rfl)))), ?_⟩)
  rintro vs H Q E ⟨ms, l, F, us, rfl, s, la, hm, p, k⟩
  have e := En.start (N := ["_law_pot_here", "_law_menu_here"]) (LA.cons (show (rV (.ref l)).at_ F (.ref l) from rfl) la)
  obtain ⟨h0, h5⟩ := menu_len hm
  exact stp_ret s e p (ep_ixL (f := rSg) (xs := ms) (fun _ _ _ => ev_var rfl) (ep_draw (n := ms.length) (fun _ _ _ => ev_var rfl) (fun _ _ _ => EvE.eqI (ev_lenL (Ts := ms.map rSg) (ev_var rfl)) (by rw [List.length_map])) h0 (by omega))) k
abbrev spMenu : Sp := PSpP (fun _ : Unit => []) (fun _ => True) (fun _ => rEx (fun ms : List Sg => rLst (ms.map rSg)) fun ms => MenuOk ms ∧ (4 : Sg) ∉ ms)
def menu0 : List Sg := [1, 3, 0, 2]
theorem ok_law_menu (T : Hd K mg) (c__law_draw : Ce P w K mg base 1 "_law_draw" ["_law_pot_here", "_law_many"] spDraw) : Ce P w K mg base 2 "_law_menu" ["_law_pot_here"] spMenu := by
  refine ce_any T.d__law_menu T.glo__law_menu sc__law_menu (fun _ _ _ _ _ _ us hl => match us, hl with | [_], _ => rfl) (fun vs H Q E ⟨g, l, F, us, h, _, la, _⟩ => by rw [h, List.length_cons, la.len]; rfl) (fun cdv A outer s H0 E hr => ⟨_, (pss_cons (ps_set (i := 1) sc__law_menu.nd rfl (Or.inl rfl) (pe_lst (pa_cons (pe_tup (pa_cons pe_str (pa_cons pe_str pa_nil))) (pa_cons (pe_tup (pa_cons pe_str (pa_cons pe_str pa_nil))) (pa_cons (pe_tup (pa_cons pe_str (pa_cons pe_str pa_nil))) (pa_cons (pe_tup (pa_cons pe_str (pa_cons pe_str pa_nil))) pa_nil))))))
      (pss_one (ps_ret (pe_slice (sll_k (K := K)) (pv 1) po_none (po_some (pe_op op_add pe_int (pe_c c__law_draw (hr.mono (by decide)) rfl (pa_cons (pv 0) (pa_cons pe_int pa_nil))))))))), ?_⟩)
  rintro vs H Q E ⟨_, l, F, us, rfl, s, la, _, p, k⟩
  have e := En.start (N := ["_law_pot_here", "_law_menu_here"]) (LA.cons (show (rV (.ref l)).at_ F (.ref l) from rfl) la)
  refine st_asg s e (R := rLst (menu0.map rSg)) (ev_lst (As := [rSg 1, rSg 3, rSg 0, rSg 2]) (ea_cons (ev_tup (ea_2 ev_c ev_c)) (ea_cons (ev_tup (ea_2 ev_c ev_c)) (ea_2 (ev_tup (ea_2 ev_c ev_c)) (ev_tup (ea_2 ev_c ev_c)))))) fun σ1 H1 F1 g1 e1 => ?_
  dsimp only
  refine stp_ret g1.fh e1 (p.grow g1) (ep_takeL (Ts := menu0.map rSg) (fun _ _ _ => ev_var rfl) (ep_succ (ep_draw (n := 4) (fun _ _ _ => ev_var rfl) (fun _ _ _ => ev_c) (by decide) (by decide))) ?_) fun v H2 F2 g2 p2 r => k v H2 F2 (g1.up.trans g2) p2 ?_
  · rintro n ⟨m, hm, rfl⟩
    exact hm
  · obtain ⟨n, ⟨m, hm, rfl⟩, r⟩ := r
    refine ⟨menu0.take (m + 1), ⟨⟨fun z => ?_, (by decide : menu0.Nodup).sublist (List.take_sublist _ _)⟩, fun z => absurd (List.mem_of_mem_take z) (by decide)⟩, by show (rLst ((menu0.take (m + 1)).map rSg)).at_ F2 v; rw [List.map_take]; exact r⟩
    have := congrArg List.length z
    rw [List.length_take] at this
    have e4 : menu0.length = 4 := rfl
    rw [e4] at this
    simp only [List.length_nil] at this
    omega
end
end K81
set_option Elab.async false
set_option linter.all false
set_option maxRecDepth 100000
set_option maxHeartbeats 2000000
set_option autoImplicit false
/-! K81CG: _law_some_signs. -/
namespace K81
open PySem PySem.Spec L2
open PyProof.Rows (envOfC)
theorem LA.erase {F : Hp} : ∀ {vs : List V} {Rs : List Rep} (i : Nat), LA F vs Rs → LA F (vs.eraseIdx i) (Rs.eraseIdx i)
  | _, _, _, .nil => by simp only [List.eraseIdx_nil]; exact .nil
  | _, _, 0, .cons _ t => t
  | _, _, i + 1, .cons a t => .cons a (LA.erase i t)
theorem erase_map {α β : Type} (f : α → β) : ∀ (l : List α) (i : Nat), (l.map f).eraseIdx i = (l.eraseIdx i).map f
  | [], _ => by simp only [List.map_nil, List.eraseIdx_nil]
  | _ :: _, 0 => rfl
  | a :: l, i + 1 => by
    show f a :: (l.map f).eraseIdx i = f a :: (l.eraseIdx i).map f
    rw [erase_map f l i]
theorem erase_perm {α : Type} : ∀ (l : List α) (i : Nat) (x : α), l[i]? = some x → l.Perm (x :: l.eraseIdx i)
  | [], _, _, h => by cases h
  | a :: l, 0, x, h => by cases h; exact List.Perm.refl _
  | a :: l, i + 1, x, h => ((erase_perm l i x h).cons a).trans (List.Perm.swap x a _)
section
variable {P : Program} {w : World} {K : PySem.W.Frag} {mg : Str → Option Value} {base : Heap}
theorem ev_catM {Rs : Rs_} {H F : Hp} {ta tb : TE} {As Bs : List Rep} (ha : EvE ta Rs H F (rLst As)) (hb : EvE tb Rs H F (rLst Bs)) (hz : As.length + Bs.length ≤ 1000) : EvM (tOp rCat ta tb) Rs H F (fun D => ML D (As ++ Bs)) := by
  intro σ H1 F1 g e Q q
  refine ha σ H1 F1 g e _ fun x H2 F2 g2 rx => hb σ H2 F2 (g.trans g2) (e.mono g2.ff) _ fun y H3 F3 g3 ry => ?_
  obtain ⟨a, us, rfl, h1, l1⟩ := (rLst As).mono g3.ff rx
  obtain ⟨b, ws, rfl, h2, l2⟩ := ry
  have big : 1000 < sizeLine := by decide
  refine ⟨a, b, us, ws, rfl, rfl, g3.fh _ _ h1, g3.fh _ _ h2, by rw [l1.len, l2.len]; omega, fun p hp => ?_⟩
  have g4 : G0 H3 F3 (upd H3 p (.lst (us ++ ws))) F3 := Gr.newM g3.fh hp
  exact q p _ F3 ((g2.trans g3).trans g4) ((g2.trans g3).none hp) ⟨g3.fh.free hp, _, upd_same, l1.append l2⟩
theorem st_popapp {ta tb td : TE} {D : Ends} {σ : L2.St} {H : Hp} (h : ta σ H fun x H1 => tyV K "list" x H1 ∧ tb σ H1 fun y H2 => tyV K "list" y H2 ∧ td σ H2 fun i H3 => rPopAt y [i] H3 fun z H4 => rAppend x [z] H4 fun _ H5 => D.nx σ H5) :
    tDrop (tBM K "list" rAppend ta (tCons (tBM K "list" rPopAt tb (tCons td tNil)) tNil)) D σ H := h
/-- a list stays from now on; the pot is as it was -/
theorem ML.fzP {M : Addr → Prop} {d l : Addr} {Ts : List Rep} {H0 F0 H F : Hp} (m : ML d Ts H F) (p : Pot l H F) (hne : d ≠ l) (g : Gr M H0 F0 H F) (n : H0 d = none) : ∃ F', Gr M H0 F0 H F' ∧ Same F F' ∧ (rLst Ts).at_ F' (.ref d) ∧ Pot l H F' := by
  obtain ⟨nf, us, h, r⟩ := m
  have s : Same F (upd F d (.lst us)) := fun b o e => by rw [upd_ne (ne_of_none e nf)]; exact e
  obtain ⟨a, b, b1, b2, b3, nl, ws, hl, lw⟩ := p
  exact ⟨_, g.fz n nf h, s, ⟨d, us, rfl, upd_same, r.mono s⟩, a, b, b1, b2, b3, by rw [upd_ne (Ne.symm hne)]; exact nl, ws, hl, lw.mono s⟩
abbrev spSome : Sp := PSpP (fun ms : List Sg => [rLst (ms.map rSg)]) (fun ms => MenuOk ms ∧ (4 : Sg) ∉ ms) (fun _ => rEx (fun ts : List Sg => rLst (ts.map rSg)) MenuOk)
theorem ok_law_some_signs (T : Hd K mg) (c__law_draw : Ce P w K mg base 1 "_law_draw" ["_law_pot_here", "_law_many"] spDraw) : Ce P w K mg base 2 "_law_some_signs" ["_law_pot_here", "_law_menu_here"] spSome := by
  refine ce_any T.d__law_some_signs T.glo__law_some_signs sc__law_some_signs (fun _ _ _ _ _ _ us hl => match us, hl with | [_, _], _ => rfl) (fun vs H Q E ⟨g, l, F, us, h, _, la, _⟩ => by rw [h, List.length_cons, la.len]; rfl) (fun cdv A outer s H0 E hr => ⟨_, (pss_cons (ps_par (i := 2) (j := 3) (by rfl) sc__law_some_signs.nd rfl rfl (by decide) rfl rfl (pa_cons (pe_op op_cat (pv 1) (pe_lst (pa_cons (pe_tup (pa_cons pe_str (pa_cons pe_str pa_nil))) pa_nil))) (pa_cons (pe_lst pa_nil) pa_nil)) (by rfl))
      (pss_cons (ps_for PassesOwn.never rfl (pi_range1 rfl T.free_range (pa_cons (pe_op op_add pe_int (pe_c c__law_draw (hr.mono (by decide)) rfl (pa_cons (pv 0) (pa_cons (pe_callB (call_min2 rfl) (by rfl) T.free_min (by decide +kernel) (pa_cons pe_int (pa_cons (pe_callB (len_k (K := K)) (by rfl) T.free_len (by decide +kernel) (pa_cons (pv 2) pa_nil)) pa_nil))) pa_nil)))) pa_nil)) (pg_name (i := 4) sc__law_some_signs.nd rfl (Or.inl rfl)) (pss_one (ps_expr (bm_k (K := K) PySem.F.plainAttrs_list PySem.F.slot_list_append PySem.F.type_list_append mt_append (pv 3) (pa_cons (bm_k (K := K) PySem.F.plainAttrs_list PySem.F.slot_list_pop PySem.F.type_list_pop mt_popAt (pv 2) (pa_cons (pe_c c__law_draw (hr.mono (by decide)) rfl (pa_cons (pv 0) (pa_cons (pe_callB (len_k (K := K)) (by rfl) T.free_len (by decide +kernel) (pa_cons (pv 2) pa_nil)) pa_nil))) pa_nil)) pa_nil)))))
      (pss_one (ps_ret (pv 3))))), ?_⟩)
  rintro vs H Q E ⟨ms, l, F, us, rfl, s, la, ⟨hm, h4⟩, p, k⟩
  have e := En.start (N := ["_law_pot_here", "_law_menu_here", "_law_rest", "_law_found", "_law_turn"]) (LA.cons (show (rV (.ref l)).at_ F (.ref l) from rfl) la)
  obtain ⟨h0, h5⟩ := menu_len hm
  have hnd : (ms ++ [(4 : Sg)]).Nodup := List.nodup_append.mpr ⟨hm.2, by simp, fun a ha b hb e => h4 (by rw [List.mem_singleton.mp hb] at e; exact e ▸ ha)⟩
  have hlen : (ms ++ [(4 : Sg)]).length = ms.length + 1 := by rw [List.length_append]; rfl
  refine st_parMM s e (S1 := fun D => ML D ((ms ++ [(4 : Sg)]).map rSg)) (fun σ H1 F1 g e Q q => ev_catM (As := ms.map rSg) (Bs := [rSg 4]) (ev_var rfl) (ev_lst (ea_1 (ev_tup (ea_2 ev_c ev_c)))) (by rw [List.length_map]; simp; omega) σ H1 F1 g e Q fun D H2 F2 g2 n m => q D H2 F2 g2 n (by rw [List.map_append]; exact m)) (ev_lstM ea_nil) (fun _ _ _ _ _ m g => m.grow g) (fun _ _ _ m => m.live) fun lr lf σ1 H1 F1 g1 nr nf hne mr mf e1 => ?_
  generalize ms ++ [(4 : Sg)] = L at *
  have p1 := p.grow g1
  have hlr : lr ≠ l := fun z => p.live (z ▸ nr)
  have hlf : lf ≠ l := fun z => p.live (z ▸ nf)
  dsimp only
  have e1 : En F1 σ1 [some (rV (.ref l)), some (rLst (ms.map rSg)), some (rV (.ref lr)), some (rV (.ref lf)), none] := e1
  have hmin : (if ((L.length : Nat) : Int) < 4 then ((L.length : Nat) : Int) else 4) = ((min 4 L.length : Nat) : Int) := by split <;> omega
  have hml : 0 < min 4 L.length ∧ min 4 L.length ≤ 4 := by omega
  refine st_rngP (l := l) (p := fun n => ∃ m, m < min 4 L.length ∧ n = m + 1) g1.fh e1 p1 (ep_succ (ep_draw (n := min 4 L.length) (fun _ _ _ => ev_var rfl) (fun H2 F2 g2 => EvE.eqI (ev_min2 (i := 4) (j := (L.length : Nat)) ev_c (EvE.eqI (ev_lenML (mr.gr g2 hlr) (ev_var rfl)) (by rw [List.length_map]))) hmin) hml.1 (by omega))) (fun n ⟨m, h, e⟩ => by omega) fun n H2 F2 wi ⟨n0, hn0, hn⟩ g2 p2 e2 src => ?_
  have mr2 := mr.gr g2 hlr
  have mf2 := mf.gr g2 hlf
  refine st_for (InL [l, lr, lf]) g2.fh e2 src (fun i σ' H' F' => En F' σ' [some (rV (.ref l)), some (rLst (ms.map rSg)), some (rV (.ref lr)), some (rV (.ref lf)), none] ∧ Pot l H' F' ∧ ∃ rs fs : List Sg, ML lr (rs.map rSg) H' F' ∧ ML lf (fs.map rSg) H' F' ∧ fs.length = i ∧ (fs ++ rs).Perm L)
    (fun H3 F3 g3 => ⟨e2.mono g3.ff, p2.grow g3, L, [], mr2.grow g3, mf2.grow g3, rfl, List.Perm.refl _⟩) (fun i σ' H' F' H1 F1 ⟨a, b, rs, fs, c, d, h⟩ g => ⟨a.mono g.ff, b.grow g, rs, fs, c.grow g, d.grow g, h⟩) (fun i x v σ3 H3 F3 hx g3 ⟨e3, p3, rs, fs, m3, f3, hfi, hp⟩ r N hN => ?_) fun σ3 H3 F3 g3 ⟨e3, p3, rs, fs, m3, f3, hfi, hp⟩ => ?_
  · refine g_1 (R1 := rNat x) e3 r fun σ4 e4 _ => ?_
    have hi := (List.getElem?_eq_some_iff.mp hx).1
    rw [List.length_range] at hi
    have hpl := hp.length_eq
    rw [List.length_append, hfi] at hpl
    have hrs : 0 < rs.length ∧ rs.length ≤ 1000 := by omega
    -- found.append(rest.pop(..))
    dsimp only
    refine st_popapp ?_
    refine (ev_var (i := 3) rfl : EvE (tVar 3) [some (rV (.ref l)), some (rLst (ms.map rSg)), some (rV (.ref lr)), some (rV (.ref lf)), some (rNat x)] H3 F3 (rV (.ref lf))) σ4 H3 F3 (Gr.refl g3.fh) e4 _ fun vf H5 F5 g5 rf => ?_
    have rf : vf = V.ref lf := rf
    subst rf
    obtain ⟨nf5, uf, hf5, lf5⟩ := f3.grow g5
    refine ⟨tyv_l hf5, ?_⟩
    refine (ev_var (i := 2) rfl : EvE (tVar 2) [some (rV (.ref l)), some (rLst (ms.map rSg)), some (rV (.ref lr)), some (rV (.ref lf)), some (rNat x)] H3 F3 (rV (.ref lr))) σ4 H5 F5 g5 (e4.mono g5.ff) _ fun vr H6 F6 g6 rr => ?_
    have rr : vr = V.ref lr := rr
    subst rr
    have g36 := g5.trans g6
    obtain ⟨nr6, ur, hr6, lr6⟩ := m3.grow g36
    refine ⟨tyv_l hr6, ?_⟩
    refine ep_draw (l := l) (n := rs.length) (H := H6) (F := F6) (Rs := [some (rV (.ref l)), some (rLst (ms.map rSg)), some (rV (.ref lr)), some (rV (.ref lf)), some (rNat x)]) (fun _ _ _ => ev_var rfl) (fun H7 F7 g7 => EvE.eqI (ev_lenML ((m3.grow g36).gr g7 hlr) (ev_var rfl)) (by rw [List.length_map])) hrs.1 hrs.2 σ4 H6 F6 (Gr.refl g36.fh) (e4.mono g36.ff) (p3.grow g36) _ fun vd H7 F7 g7 p7 ⟨j, hj, rd⟩ => ?_
    have rd : vd = V.int (j : Nat) := rd
    subst rd
    have hr7 : H7 lr = some (.lst ur) := g7.hh hlr hr6
    have nr7 := g7.out nr6 hr6
    have hrl := lr6.len
    rw [List.length_map] at hrl
    obtain ⟨y, hy, ry⟩ := (lr6.mono g7.ff).get (i := j) (R := rSg rs[j]) (by rw [List.getElem?_map, List.getElem?_eq_getElem hj]; rfl)
    have hsq : PySem.seqIndex? ((j : Nat) : Int) ur.length = some j := by
      unfold PySem.seqIndex?
      have h1 : ¬ ((j : Nat) : Int) < 0 := by omega
      rw [if_neg h1]
      have h2 : (decide (0 ≤ ((j : Nat) : Int)) && decide (((j : Nat) : Int) < (ur.length : Nat))) = true := by
        rw [Bool.and_eq_true, decide_eq_true_eq, decide_eq_true_eq]; omega
      simp only [h2, if_true, Int.toNat_natCast]
    refine ⟨lr, ur, (j : Nat), j, y, rfl, rfl, hr7, by omega, by omega, hsq, hy, ?_⟩
    have g8 : Gr (InL [l, lr, lf]) H3 F3 (upd H7 lr (.lst (ur.eraseIdx j))) F7 := ((g36.up.trans (gr_at (by simp) g7)).wr (.inr (by simp)) nr7)
    have hf7 : H7 lf = some (.lst uf) := g7.hh hlf (g6.h hf5)
    have hf8 : (upd H7 lr (.lst (ur.eraseIdx j))) lf = some (.lst uf) := by rw [upd_ne hne.symm]; exact hf7
    have nf7 := g7.out (g6.out nf5 hf5) (g6.h hf5)
    have lf7 := (lf5.mono g6.ff).mono g7.ff
    have hfl := lf7.len
    rw [List.length_map] at hfl
    have big : 1000 < sizeLine := by decide
    refine ⟨lf, uf, y, rfl, rfl, hf8, by omega, ?_⟩
    have g9 := g8.wr (l := lf) (o := .lst (uf ++ [y])) (.inr (by simp)) nf7
    refine hN _ _ F7 g9 ⟨(e4.mono (g36.ff.trans g7.ff)).mask [true, true, true, true, false], ?_, rs.eraseIdx j, fs ++ [rs[j]], ⟨nr7, ur.eraseIdx j, ?_, ?_⟩, ⟨nf7, uf ++ [y], upd_same, ?_⟩, by rw [List.length_append, hfi]; rfl, ?_⟩
    · obtain ⟨a, b, b1, b2, b3, nl, ws, hl7, lw⟩ := p7
      exact ⟨a, b, b1, b2, b3, nl, ws, by rw [upd_ne (Ne.symm hlf), upd_ne (Ne.symm hlr)]; exact hl7, lw⟩
    · rw [upd_ne hne, upd_same]
    · rw [← erase_map]
      exact LA.erase j (lr6.mono g7.ff)
    · rw [List.map_append]
      exact lf7.append (.cons ry .nil)
    · rw [List.append_assoc]
      exact ((erase_perm rs j rs[j] (List.getElem?_eq_getElem hj)).symm.append_left fs).trans hp
  · rw [List.length_range] at hfi
    have g13 : Gr (At l) H F H3 F3 := (g1.up.trans g2).dropTo g3 fun x hx => ?_
    · obtain ⟨F4, g4, sf, r4, p4⟩ := f3.fzP p3 hlf g13 nf
      refine st_ret g4.fh (e3.mono sf) (ev_ref rfl r4) fun v H5 F5 g5 r5 => k v H5 F5 (g4.trans g5.up) (p4.grow g5) ⟨fs, ⟨fun z => ?_, (List.nodup_append.mp (hp.nodup_iff.mpr hnd)).1⟩, r5⟩
      rw [z] at hfi
      simp only [List.length_nil] at hfi
      omega
    · have hx : x = l ∨ x = lr ∨ x = lf := by simpa using hx
      rcases hx with rfl | rfl | rfl
      · exact .inl rfl
      · exact .inr nr
      · exact .inr nf
end
end K81
set_option Elab.async false
set_option linter.all false
set_option maxRecDepth 100000
set_option maxHeartbeats 2000000
set_option autoImplicit false
/-! K81CH: _law_deal. -/
namespace K81
open PySem PySem.Spec L2
open PyProof.Rows (envOfC)
/-- what a drawn box is -/
structure DlOk (most wide : Nat) (ms : List Sg) (d : Dl) : Prop where
  n0 : 0 < d.n
  n1 : d.n ≤ most
  f0 : d.fs ≠ []
  fl : d.fs.length ≤ 2
  fn : d.fs.Nodup
  fi : ∀ x ∈ d.fs, x < d.n
  ml : d.mv.length ≤ wide
  mn : d.mv.Nodup
  mi : ∀ m ∈ d.mv, m.1 < d.n ∧ m.2.2 < d.n ∧ m.2.1 ∈ ms
theorem DlOk.raw {most wide : Nat} {ms : List Sg} {d : Dl} (h : DlOk most wide ms d) (h1 : most ≤ 6) (h2 : wide ≤ 24) : RawB d.n d.fs d.mv := by
  have a := h.n0
  have b := h.n1
  have c := h.fl
  have e := h.ml
  exact ⟨⟨by omega, by omega, by omega, h.fi, fun m hm => ⟨(h.mi m hm).1, (h.mi m hm).2.1⟩⟩, by omega, by omega, h.f0, h.fn, by omega, h.mn⟩
section
variable {P : Program} {w : World} {K : PySem.W.Frag} {mg : Str → Option Value} {base : Heap}
variable {l : Addr} {Rs : Rs_} {H F : Hp} {te : TE} {R : Rep} {D : Ends} {σ : L2.St} {i j : Nat}
/-- a, b = draw, [] -/
theorem st_tupP (s : Same F H) (e : En F σ Rs) (p : Pot l H F) (h : EvP l te Rs H F R) (k : ∀ d σ' H' F', Gr (At l) H F H' F' → Pot l H' F' → H d = none → ML d [] H' F' → En F' σ' ((Rs.set i (some R)).set j (some (rV (.ref d)))) → D.nx σ' H') :
    tAsg (tTup (tCons te (tCons (tLst tNil) tNil))) (gTup K 2 (gCons (gName i) (gCons (gName j) gNil))) D σ H := by
  refine h σ H F (Gr.refl s) e p _ fun v H1 F1 g1 p1 rv => ⟨Nat.zero_le _, fun d hd => ⟨by simp; exact Nat.le_of_ble_eq_true rfl, fun q hq => ?_⟩⟩
  have g2 : G0 H1 F1 (upd H1 d (.lst [])) F1 := Gr.newM g1.fh hd
  have m2 : ML d [] (upd H1 d (.lst [])) F1 := ml_new g1.fh hd
  have g3 : G0 (upd H1 d (.lst [])) F1 (upd (upd H1 d (.lst [])) q (.tup [v, .ref d])) F1 := Gr.newM g2.fh hq
  have g23 := g2.trans g3
  refine ⟨q, _, rfl, SqT.of upd_same, rfl, _, _, rfl, _, _, rfl, rfl, ?_⟩
  exact k d _ _ F1 (g1.trans g23.up) (p1.grow g23) (g1.none hd) (m2.grow g3) (((e.mono g1.ff).set rv).set rfl)
abbrev spDeal : Sp := PSpP (fun p : Nat × Nat × List Sg => [rNat p.1, rNat p.2.1, rLst (p.2.2.map rSg)]) (fun p => 0 < p.1 ∧ p.1 ≤ 100 ∧ p.2.1 ≤ 100 ∧ MenuOk p.2.2) (fun p => rEx rDeal (DlOk p.1 p.2.1 p.2.2))
theorem ok_law_deal (T : Hd K mg) (c__law_draw : Ce P w K mg base 1 "_law_draw" ["_law_pot_here", "_law_many"] spDraw) (c__law_pick : Ce P w K mg base 2 "_law_pick" ["_law_pot_here", "_law_menu_here"] spPick) : Ce P w K mg base 3 "_law_deal" ["_law_pot_here", "_law_most", "_law_wide", "_law_menu_here"] spDeal := by
  refine ce_any T.d__law_deal T.glo__law_deal sc__law_deal (fun _ _ _ _ _ _ us hl => match us, hl with | [_, _, _, _], _ => rfl) (fun vs H Q E ⟨g, l, F, us, h, _, la, _⟩ => by rw [h, List.length_cons, la.len]; rfl) (fun cdv A outer s H0 E hr => ⟨_, (pss_cons (ps_asg (pe_tup (pa_cons (pe_op op_add pe_int (pe_c c__law_draw (hr.mono (by decide)) rfl (pa_cons (pv 0) (pa_cons (pv 1) pa_nil)))) (pa_cons (pe_lst pa_nil) pa_nil))) (tup_k (K := K) (n := 2) rfl (pgs_cons (pg_name (i := 4) sc__law_deal.nd rfl (Or.inr rfl)) (pgs_cons (pg_name (i := 5) sc__law_deal.nd rfl (Or.inl rfl)) pgs_nil))))
      (pss_cons (ps_for PassesOwn.never rfl (pi_range1 rfl T.free_range (pa_cons (pe_c c__law_draw (hr.mono (by decide)) rfl (pa_cons (pv 0) (pa_cons (pe_op op_add (pv 2) pe_int) pa_nil))) pa_nil)) (pg_name (i := 6) sc__law_deal.nd rfl (Or.inl rfl)) (pss_cons (ps_asg (pe_c c__law_pick (hr.mono (by decide)) rfl (pa_cons (pv 0) (pa_cons (pv 3) pa_nil))) (tup_k (K := K) (n := 2) rfl (pgs_cons (pg_name (i := 7) sc__law_deal.nd rfl (Or.inl rfl)) (pgs_cons (pg_name (i := 8) sc__law_deal.nd rfl (Or.inl rfl)) pgs_nil))))
      (pss_cons (ps_set (i := 9) sc__law_deal.nd rfl (Or.inl rfl) (pe_tup (pa_cons (pe_c c__law_draw (hr.mono (by decide)) rfl (pa_cons (pv 0) (pa_cons (pv 4) pa_nil))) (pa_cons (pv 7) (pa_cons (pv 8) (pa_cons (pe_c c__law_draw (hr.mono (by decide)) rfl (pa_cons (pv 0) (pa_cons (pv 4) pa_nil))) pa_nil))))))
      (pss_one (ps_if (pt_cmpR (nid_k (K := K) (hu65 hr)) (pv 9) (pv 5) (by rfl)) (pss_one (ps_expr (bm_k (K := K) PySem.F.plainAttrs_list PySem.F.slot_list_append PySem.F.type_list_append mt_append (pv 5) (pa_cons (pv 9) pa_nil)))) pss_nil)))))
      (pss_cons (ps_setLc (i := 10) (own := [("_law_turn", 6)]) (tt := tYes) rfl sc__law_deal.nd rfl rfl (sw_true rfl rfl rfl (by decide +kernel)) (pi_range1 rfl T.free_range (pa_cons (pe_op op_add pe_int (pe_c c__law_draw (hr.mono (by decide)) rfl (pa_cons (pv 0) (pa_cons pe_int pa_nil)))) pa_nil)) (blkOk_by (own := [("_law_turn", 6)]) (N := ["_law_pot_here", "_law_most", "_law_wide", "_law_menu_here", "_law_many", "_law_moves", "_law_turn", "_law_call", "_law_answer", "_law_move", "_law_firsts"]) (sc := defScope s__law_deal) (by decide +kernel)) (fun _ _ _ _ _ => (pg_name (i := 6) sc__law_deal.nd rfl (Or.inl rfl))) (fun _ _ _ _ _ => pts_nil) (fun _ _ _ _ _ => (pe_c c__law_draw (hr.mono (by decide)) rfl (pa_cons (pv 0) (pa_cons (pv 4) pa_nil)))))
      (pss_one (ps_ret (pe_disp (pps_cons pe_str (pv 4) (pps_cons pe_str (pe_callB (srtI_k (w := w) rfl) (by rfl) T.free_sorted (by decide +kernel) (pa_cons (pe_callTy (cr_setI (K := K) (w := w) rfl) (by rfl) T.free_set (by decide +kernel) (pa_cons (pv 10) pa_nil)) pa_nil)) (pps_cons pe_str (pe_callB (srtD_k (K := K) (hu64 hr)) (by rfl) T.free_sorted (by decide +kernel) (pa_cons (pv 5) pa_nil)) pps_nil))) (by rfl) (by rfl) (fun z => by cases z) (by decide))))))), ?_⟩)
  rintro vs H Q E ⟨⟨most, wide, ms⟩, l, F, us, rfl, s, la, ⟨hm0, hm1, hw, hms⟩, p, k⟩
  have hm0 : 0 < most := hm0
  have hm1 : most ≤ 100 := hm1
  have hw : wide ≤ 100 := hw
  have hms : MenuOk ms := hms
  have k : ∀ v H' F', Gr (At l) H F H' F' → Pot l H' F' → (rEx rDeal (DlOk most wide ms)).at_ F' v → Q v H' := k
  have e := En.start (N := ["_law_pot_here", "_law_most", "_law_wide", "_law_menu_here", "_law_many", "_law_moves", "_law_turn", "_law_call", "_law_answer", "_law_move", "_law_firsts"]) (LA.cons (show (rV (.ref l)).at_ F (.ref l) from rfl) la)
  refine st_tupP (i := 4) (j := 5) s e p (ep_succ (ep_draw (n := most) (fun _ _ _ => ev_var rfl) (fun _ _ _ => ev_var (i := 1) (R := rNat most) rfl) hm0 (by omega))) fun d σ1 H1 F1 g1 p1 nd md e1 => ?_
  obtain ⟨n, ⟨n0, hn0, hn⟩, e1⟩ := e1.ex (i := 4) (f := fun n : Nat => rNat n) (q := fun n => ∃ m, m < most ∧ n = m + 1) rfl
  have e1 : En F1 σ1 [some (rV (.ref l)), some (rNat most), some (rNat wide), some (rLst (ms.map rSg)), some (rNat n), some (rV (.ref d)), none, none, none, none, none] := e1
  have hdl : d ≠ l := fun z => p.live (z ▸ nd)
  dsimp only
  refine st_rngP (l := l) (p := fun n => n < wide + 1) g1.fh e1 p1 (ep_draw (n := wide + 1) (fun _ _ _ => ev_var rfl) (fun _ _ _ => ev_add (a := wide) (b := 1) (ev_var rfl) ev_c) (by omega) (by omega)) (fun n h => by omega) fun t H2 F2 wi ht g2 p2 e2 src => ?_
  have md2 := md.gr g2 hdl
  refine st_for (InL [l, d]) g2.fh e2 src (fun i σ' H' F' => En F' σ' [some (rV (.ref l)), some (rNat most), some (rNat wide), some (rLst (ms.map rSg)), some (rNat n), some (rV (.ref d)), none, none, none, none, none] ∧ Pot l H' F' ∧ ∃ mv : List Stp, ML d (mv.map rStp) H' F' ∧ mv.length ≤ i ∧ mv.Nodup ∧ ∀ m ∈ mv, m.1 < n ∧ m.2.2 < n ∧ m.2.1 ∈ ms)
    (fun H3 F3 g3 => ⟨e2.mono g3.ff, p2.grow g3, [], md2.grow g3, Nat.zero_le _, List.nodup_nil, fun m hm => nomatch hm⟩) (fun i σ' H' F' H1 F1 ⟨a, b, mv, c, h⟩ g => ⟨a.mono g.ff, b.grow g, mv, c.grow g, h⟩) (fun i x v σ3 H3 F3 hx g3 ⟨e3, p3, mv, m3, hl, hnd, hin⟩ r N hN => ?_) fun σ3 H3 F3 g3 ⟨e3, p3, mv, m3, hl, hnd, hin⟩ => ?_
  · refine g_1 (R1 := rNat x) e3 r fun σ4 e4 _ => ?_
    have hi := (List.getElem?_eq_some_iff.mp hx).1
    rw [List.length_range] at hi
    have e4 := e4.mask [true, true, true, true, true, true, false, false, false, false, false]
    have e4 : En F3 σ4 [some (rV (.ref l)), some (rNat most), some (rNat wide), some (rLst (ms.map rSg)), some (rNat n), some (rV (.ref d)), none, none, none, none, none] := e4
    dsimp only
    refine ep_call (l := l) (H := H3) (F := F3) (Rs := [some (rV (.ref l)), some (rNat most), some (rNat wide), some (rLst (ms.map rSg)), some (rNat n), some (rV (.ref d)), none, none, none, none, none]) (res := fun ms => rEx rSg fun q => q ∈ ms) ms (epa_cons (ep_e fun _ _ _ => ev_var (i := 0) rfl) (epa_cons (ep_e fun _ _ _ => ev_var (i := 3) rfl) epa_nil)) rfl hms σ4 H3 F3 (Gr.refl g3.fh) e4 p3 _ fun v5 H5 F5 g5 p5 ⟨q, hq, r5⟩ => ?_
    refine g_2 (R1 := rS (sgC q)) (R2 := rS (sgA q)) g5.fh (e4.mono g5.ff) r5 fun σ5 e5 _ => ?_
    have m5 := m3.gr g5 hdl
    have hn1 : 0 < n ∧ n ≤ 1000 := by omega
    dsimp only
    have hdr : ∀ {H' F' : Hp}, EvP l (tCall spDraw [] E0 (tCons (tVar 0) (tCons (tVar 4) tNil))) [some (rV (.ref l)), some (rNat most), some (rNat wide), some (rLst (ms.map rSg)), some (rNat n), some (rV (.ref d)), none, some (rS (sgC q)), some (rS (sgA q)), none, none] H' F' (rEx (fun i : Nat => rNat i) fun i => i < n) := ep_draw (n := n) (fun _ _ _ => ev_var rfl) (fun _ _ _ => ev_var (i := 4) (R := rNat n) rfl) hn1.1 hn1.2
    have e5 : En F5 σ5 [some (rV (.ref l)), some (rNat most), some (rNat wide), some (rLst (ms.map rSg)), some (rNat n), some (rV (.ref d)), none, some (rS (sgC q)), some (rS (sgA q)), none, none] := e5
    refine stp_asg (i := 9) (R := rEx rStp fun m => m.1 < n ∧ m.2.2 < n ∧ m.2.1 = q) g5.fh e5 p5 (ep_to (ep_tup (epa_cons hdr (epa_cons (ep_e fun _ _ _ => ev_var (i := 7) rfl) (epa_cons (ep_e fun _ _ _ => ev_var (i := 8) rfl) (epa_cons hdr epa_nil))))) fun F' v h => ?_) fun σ6 H6 F6 g6 p6 e6 => ?_
    · obtain ⟨a, ws, rfl, ha, lw⟩ := h
      cases lw with
      | cons r1 lw => cases lw with
        | cons r2 lw => cases lw with
          | cons r3 lw => cases lw with
            | cons r4 lw =>
              cases lw
              obtain ⟨i1, hi1, r1⟩ := r1
              obtain ⟨i4, hi4, r4⟩ := r4
              exact ⟨(i1, q, i4), ⟨hi1, hi4, rfl⟩, a, _, rfl, ha, .cons r1 (.cons r2 (.cons r3 (.cons r4 .nil)))⟩
    · obtain ⟨m, ⟨hma, hmb, hmq⟩, e6⟩ := e6.ex (i := 9) (f := rStp) (q := fun m => m.1 < n ∧ m.2.2 < n ∧ m.2.1 = q) rfl
      have m6 := m5.gr g6 hdl
      have e6 : En F6 σ6 [some (rV (.ref l)), some (rNat most), some (rNat wide), some (rLst (ms.map rSg)), some (rNat n), some (rV (.ref d)), none, some (rS (sgC q)), some (rS (sgA q)), some (rStp m), none] := e6
      have g36 : Gr (InL [l, d]) H3 F3 H6 F6 := gr_at (by simp) (g5.trans g6)
      refine st_ifC (fun σ' H' F' => Gr (InL [l, d]) H3 F3 H' F' ∧ En F' σ' [some (rV (.ref l)), some (rNat most), some (rNat wide), some (rLst (ms.map rSg)), some (rNat n), some (rV (.ref d)), none, none, none, none, none] ∧ Pot l H' F' ∧ ∃ mv : List Stp, ML d (mv.map rStp) H' F' ∧ mv.length ≤ i + 1 ∧ mv.Nodup ∧ ∀ m ∈ mv, m.1 < n ∧ m.2.2 < n ∧ m.2.1 ∈ ms) g6.fh e6
        (eb_test (ev_ninML (enc := encStp) m6 dpr_stp ok_stp (by decide) encStp_inj (ev_var (i := 9) rfl) (ev_var (i := 5) rfl))) (fun hnin H7 F7 g7 e7 N7 hN7 => ?_) (fun hin2 H7 F7 g7 e7 => ⟨g36.trans g7.up, e7.mask [true, true, true, true, true, true, false, false, false, false, false], p6.grow g7, mv, m6.grow g7, by omega, hnd, hin⟩) fun σ7 H7 F7 ⟨g7, e7, p7, x7⟩ => hN σ7 H7 F7 g7 ⟨e7, p7, x7⟩
      have hnin : m ∉ mv := by simpa using hnin
      have big : 1000 < sizeLine := by decide
      refine st_appM g7.fh e7 (m6.grow g7) (ev_var (i := 5) rfl) (A := rStp m) (ev_var (i := 9) rfl) (by rw [List.length_map]; omega) fun H8 F8 g8 f8 m8 => hN7 _ H8 F8 ⟨(g36.trans g7.up).trans (gr_at (by simp) g8), (e7.mono f8).mask [true, true, true, true, true, true, false, false, false, false, false], ?_, mv ++ [m], by rw [List.map_append]; exact m8, by rw [List.length_append]; simp; omega, ?_, fun z hz => ?_⟩
      · exact (p6.grow g7).gr g8 (Ne.symm hdl)
      · exact List.nodup_append.mpr ⟨hnd, by simp, fun a ha b hb e => hnin (by rw [List.mem_singleton.mp hb] at e; exact e ▸ ha)⟩
      · rcases List.mem_append.mp hz with hz | hz
        · exact hin z hz
        · rw [List.mem_singleton.mp hz]
          exact ⟨hma, hmb, by rw [hmq]; exact hq⟩
  · rw [List.length_range] at hl
    have g13 : Gr (At l) H F H3 F3 := (g1.trans g2).dropTo g3 fun x hx => by
      have hx : x = l ∨ x = d := by simpa using hx
      rcases hx with rfl | rfl
      · exact .inl rfl
      · exact .inr nd
    obtain ⟨F4, g4, sf, r4, p4⟩ := m3.fzP p3 hdl g13 nd
    have e4 := e3.mono sf
    have hn1 : 0 < n ∧ n ≤ 1000 := by omega
    dsimp only
    refine stp_asg (i := 10) (R := rEx (fun xs : List Nat => rLst (xs.map rNat)) fun xs => (∃ m, m < 2 ∧ xs.length = m + 1) ∧ ∀ x ∈ xs, x < n) g4.fh e4 p4 (ep_lc (p := fun k => ∃ m, m < 2 ∧ k = m + 1) (r := fun x => x < n) (Ss := fun x => [some (rV (.ref l)), some (rNat most), some (rNat wide), some (rLst (ms.map rSg)), some (rNat n), some (rV (.ref d)), some (rNat x), none, none, none, none]) (ep_succ (ep_draw (n := 2) (fun _ _ _ => ev_var rfl) (fun _ _ _ => ev_c) (by decide) (by decide))) (fun k ⟨m, h, e⟩ => by omega) rfl (fun x => tgt_1) fun x => ep_draw (n := n) (fun _ _ _ => ev_var rfl) (fun _ _ _ => ev_var (i := 4) (R := rNat n) rfl) hn1.1 hn1.2) fun σ5 H5 F5 g5 p5 e5 => ?_
    obtain ⟨xs, ⟨⟨m, hm2, hxl⟩, hxn⟩, e5⟩ := e5.ex (i := 10) (f := fun xs : List Nat => rLst (xs.map rNat)) (q := fun xs => (∃ m, m < 2 ∧ xs.length = m + 1) ∧ ∀ x ∈ xs, x < n) rfl
    dsimp only
    have r5 := (rLst (mv.map rStp)).mono g5.ff r4
    refine st_ret g5.fh e5 (ev_deal (d := ⟨n, nums xs, srt rkStp mv⟩) (ev_var (i := 4) rfl) (ev_srtSet (w := w) (K := K) (ev_var (i := 10) rfl) (by omega)) (ev_srtStp (K := K) (ev_ref (i := 5) (a := d) rfl r5))) fun v H6 F6 g6 r6 => k v H6 F6 ((g4.trans g5).trans g6.up) (p5.grow g6) ⟨_, ⟨hn1.1, by show n ≤ most; omega, fun z => ?_, ?_, nums_nodup xs, fun x hx => hxn x (nums_mem.mp hx), ?_, srt_nodup hnd, fun x hx => hin x (srt_mem.mp hx)⟩, r6⟩
    · have : xs = [] := by
        cases hxs : xs with
        | nil => rfl
        | cons y ys =>
          have : y ∈ nums xs := nums_mem.mpr (by rw [hxs]; exact List.mem_cons_self)
          have z : nums xs = [] := z
          rw [z] at this
          cases this
      rw [this] at hxl
      simp only [List.length_nil] at hxl
      omega
    · have := nums_len xs
      show (nums xs).length ≤ 2
      omega
    · show (srt rkStp mv).length ≤ wide
      rw [srt_len]
      omega
end
end K81
set_option Elab.async false
set_option linter.all false
set_option maxRecDepth 100000
set_option maxHeartbeats 2000000
set_option autoImplicit false
/-! K81BA: breadth first search with one successor for each sign, plainly. -/
namespace K81
section
variable {α : Type} [DecidableEq α] (d : α) (nx : α → Sg → Option α) (T : List Sg)
def bf1 (k : Nat) (a : List α × List Stp) (q : Sg) : List α × List Stp :=
  match nx (a.1.getD k d) q with
  | none => a
  | some y => (ins1 a.1 y, a.2 ++ [(k, q, idx (ins1 a.1 y) y)])
def bfR (k : Nat) (a : List α × List Stp) : List α × List Stp := if k < a.1.length then T.foldl (bf1 d nx k) a else a
def bfAt (x : α) : Nat → List α × List Stp
  | 0 => ([x], [])
  | k + 1 => bfR d nx T k (bfAt x k)
end
section
variable {α : Type} [DecidableEq α] {d : α} {nx : α → Sg → Option α} {T : List Sg}
/-- the steps out of number i, by some of the signs -/
def stO (d : α) (nx : α → Sg → Option α) (l : List α) (i : Nat) (S : List Sg) : List Stp := S.filterMap fun q => (nx (l.getD i d) q).map fun y => (i, q, idx l y)
theorem stO_snoc (l : List α) (i : Nat) (S : List Sg) (q : Sg) : stO d nx l i (S ++ [q]) = stO d nx l i S ++ ((nx (l.getD i d) q).map fun y => (i, q, idx l y)).toList := by
  unfold stO
  rw [List.filterMap_append]
  rw [List.filterMap_cons, List.filterMap_nil]
  cases nx (l.getD i d) q <;> rfl
theorem getD_pre {l m : List α} (h : l <+: m) {i : Nat} (hi : i < l.length) : m.getD i d = l.getD i d := by
  obtain ⟨t, rfl⟩ := h
  rw [List.getD_eq_getElem?_getD, List.getD_eq_getElem?_getD, List.getElem?_append_left hi]
theorem idx_pre {l m : List α} (h : l <+: m) {x : α} (hx : x ∈ l) : idx m x = idx l x := by
  obtain ⟨t, rfl⟩ := h
  exact idx_app hx
theorem fm_congr {β γ : Type} {f g : β → Option γ} : ∀ {l : List β}, (∀ x ∈ l, f x = g x) → l.filterMap f = l.filterMap g
  | [], _ => rfl
  | x :: l, h => by
    have ih := fm_congr (l := l) fun y hy => h y (List.mem_cons_of_mem _ hy)
    rw [List.filterMap_cons, List.filterMap_cons, h x List.mem_cons_self, ih]
/-- a longer list, the same steps -/
theorem stO_pre {l m : List α} (h : l <+: m) {i : Nat} (hi : i < l.length) {S : List Sg} (hc : ∀ q ∈ S, ∀ y, nx (l.getD i d) q = some y → y ∈ l) : stO d nx m i S = stO d nx l i S := by
  unfold stO
  rw [getD_pre h hi]
  refine fm_congr fun q hq => ?_
  cases hn : nx (l.getD i d) q with
  | none => rfl
  | some y =>
    show some (i, q, idx m y) = some (i, q, idx l y)
    rw [idx_pre h (hc q hq y hn)]
/-- after the numbers below k, and some of the signs at k -/
structure BfI (d : α) (nx : α → Sg → Option α) (T : List Sg) (x : α) (k : Nat) (S : List Sg) (a : List α × List Stp) : Prop where
  nd : a.1.Nodup
  hd : a.1[0]? = some x
  done : ∀ i, i < k → ∀ q ∈ T, ∀ y, nx (a.1.getD i d) q = some y → y ∈ a.1
  part : ∀ q ∈ S, ∀ y, nx (a.1.getD k d) q = some y → y ∈ a.1
  stp : a.2 = (List.range k).flatMap (fun i => stO d nx a.1 i T) ++ stO d nx a.1 k S
theorem fl_congr {β γ : Type} {f g : β → List γ} : ∀ {l : List β}, (∀ x ∈ l, f x = g x) → l.flatMap f = l.flatMap g
  | [], _ => rfl
  | x :: l, h => by rw [List.flatMap_cons, List.flatMap_cons, h x List.mem_cons_self, fl_congr fun y hy => h y (List.mem_cons_of_mem _ hy)]
theorem bf1_pre (k : Nat) (a : List α × List Stp) (q : Sg) : a.1 <+: (bf1 d nx k a q).1 := by
  unfold bf1
  split
  · exact List.prefix_refl _
  · exact ins1_pre _ _
theorem bf1_ok {x : α} {k : Nat} {S : List Sg} {a : List α × List Stp} {q : Sg} (h : BfI d nx T x k S a) (hk : k < a.1.length) : BfI d nx T x k (S ++ [q]) (bf1 d nx k a q) := by
  unfold bf1
  cases hn : nx (a.1.getD k d) q with
  | none =>
    refine ⟨h.nd, h.hd, h.done, fun q' hq y hy => ?_, ?_⟩
    · rcases List.mem_append.mp hq with hq | hq
      · exact h.part q' hq y hy
      · rw [List.mem_singleton.mp hq, hn] at hy; cases hy
    · show a.2 = _
      rw [stO_snoc, hn, h.stp]
      simp
  | some y =>
    have hp : a.1 <+: ins1 a.1 y := ins1_pre _ _
    have hdone : ∀ i, i < k → ∀ q ∈ T, ∀ y', nx (a.1.getD i d) q = some y' → y' ∈ a.1 := h.done
    refine ⟨ins1_nodup h.nd, ?_, fun i hi q' hq y' hy => ?_, fun q' hq y' hy => ?_, ?_⟩
    · obtain ⟨t, e⟩ := hp
      show (ins1 a.1 y)[0]? = some x
      rw [← e, List.getElem?_append_left (by omega)]
      exact h.hd
    · rw [getD_pre hp (by omega)] at hy
      exact hp.subset (h.done i hi q' hq y' hy)
    · rw [getD_pre hp hk] at hy
      rcases List.mem_append.mp hq with hq | hq
      · exact hp.subset (h.part q' hq y' hy)
      · rw [List.mem_singleton.mp hq, hn] at hy
        cases hy
        exact ins1_mem.mpr (.inr rfl)
    · show a.2 ++ [(k, q, idx (ins1 a.1 y) y)] = _
      have e1 : (List.range k).flatMap (fun i => stO d nx (ins1 a.1 y) i T) = (List.range k).flatMap (fun i => stO d nx a.1 i T) := by
        refine fl_congr fun i hi => ?_
        have hi := List.mem_range.mp hi
        exact stO_pre hp (by omega) (h.done i hi)
      rw [stO_snoc, e1, stO_pre hp hk h.part, getD_pre hp hk, hn, h.stp, List.append_assoc]
      rfl
theorem bfF_ok {x : α} {k : Nat} : ∀ (l : List Sg) {S : List Sg} {a : List α × List Stp}, BfI d nx T x k S a → k < a.1.length → BfI d nx T x k (S ++ l) (l.foldl (bf1 d nx k) a)
  | [], S, a, h, _ => by rw [List.append_nil]; exact h
  | q :: l, S, a, h, hk => by
    have := bfF_ok l (bf1_ok (q := q) h hk) (Nat.lt_of_lt_of_le hk (bf1_pre k a q).length_le)
    rw [List.append_assoc] at this
    exact this
theorem BfI.next {x : α} {k : Nat} {a : List α × List Stp} (h : BfI d nx T x k T a) : BfI d nx T x (k + 1) [] a := by
  refine ⟨h.nd, h.hd, fun i hi => ?_, fun q hq => (nomatch hq), ?_⟩
  · rcases Nat.lt_succ_iff_lt_or_eq.mp hi with hi | rfl
    · exact h.done i hi
    · exact h.part
  · rw [h.stp, List.range_succ, List.flatMap_append, List.flatMap_cons, List.flatMap_nil, List.append_nil]
    show _ = _ ++ []
    rw [List.append_nil]
theorem bfAt_ok (x : α) : ∀ k, k ≤ (bfAt d nx T x k).1.length → BfI d nx T x k [] (bfAt d nx T x k)
  | 0, _ => ⟨List.nodup_cons.mpr ⟨List.not_mem_nil, List.nodup_nil⟩, rfl, fun i hi => absurd hi (Nat.not_lt_zero _), fun q hq => (nomatch hq), rfl⟩
  | k + 1, hk => by
    have hk : k + 1 ≤ (bfR d nx T k (bfAt d nx T x k)).1.length := hk
    show BfI d nx T x (k + 1) [] (bfR d nx T k (bfAt d nx T x k))
    unfold bfR at hk ⊢
    by_cases h : k < (bfAt d nx T x k).1.length
    · rw [if_pos h]
      exact (bfF_ok T (S := []) (bfAt_ok x k (Nat.le_of_lt h)) h).next
    · rw [if_neg h] at hk
      omega
end
/-- the two searches of the program -/
def nxS (b : Bx) (x : Nat) (s : Sg) : Option Nat := if 0 < b.behind x s then some (b.behind x s) else none
theorem sws1_bf (b : Bx) (k : Nat) (a : List Nat × List Stp) (s : Sg) : sws1 b k a s = bf1 0 (nxS b) k a s := by
  unfold sws1 bf1 nxS
  by_cases h : 0 < b.behind (a.1.getD k 0) s
  · rw [if_pos h, if_pos h]
    rfl
  · rw [if_neg h, if_neg h]
theorem swsAt_bf (b : Bx) : ∀ k, swsAt b k = bfAt 0 (nxS b) b.signs b.start k
  | 0 => rfl
  | k + 1 => by
    show swsR b k (swsAt b k) = bfR 0 (nxS b) b.signs k (bfAt 0 (nxS b) b.signs b.start k)
    rw [swsAt_bf b k]
    unfold swsR bfR
    rw [show sws1 b k = bf1 0 (nxS b) k from funext fun a => funext fun s => sws1_bf b k a s]
theorem rmAt_bf (bh bw : Bx) (sg : List Sg) : ∀ k, rmAt bh bw sg k = bfAt (0, 0) (onw bh bw) sg (bh.start, bw.start) k
  | 0 => rfl
  | k + 1 => by
    show rmR bh bw sg k (rmAt bh bw sg k) = bfR (0, 0) (onw bh bw) sg k (bfAt (0, 0) (onw bh bw) sg (bh.start, bw.start) k)
    rw [rmAt_bf bh bw sg k]
    unfold rmR bfR
    rw [show rm1 bh bw k = bf1 (0, 0) (onw bh bw) k from funext fun a => funext fun s => by unfold rm1 bf1; cases onw bh bw (a.1.getD k (0, 0)) s <;> rfl]
end K81
set_option Elab.async false
set_option linter.all false
set_option maxRecDepth 100000
set_option maxHeartbeats 2000000
set_option autoImplicit false
/-! K81BB: the search and a quotient. -/
namespace K81
section
variable {α β : Type} [DecidableEq α] [DecidableEq β] {d : α} {nx : α → Sg → Option α} {T : List Sg} {h : α → β}
def succs (nx : α → Sg → Option α) (T : List Sg) (u : α) : List α := T.filterMap (nx u)
theorem bfF_list (k : Nat) : ∀ (l : List Sg) (a : List α × List Stp), k < a.1.length → (l.foldl (bf1 d nx k) a).1 = (succs nx l (a.1.getD k d)).foldl ins1 a.1
  | [], a, _ => rfl
  | q :: l, a, hk => by
    have ih := bfF_list k l (bf1 d nx k a q) (Nat.lt_of_lt_of_le hk (bf1_pre k a q).length_le)
    rw [getD_pre (bf1_pre k a q) hk] at ih
    rw [List.foldl_cons, ih]
    unfold succs bf1
    rw [List.filterMap_cons]
    cases nx (a.1.getD k d) q <;> rfl
theorem ddp_ins1 (l : List α) (y : α) : ddp ((ins1 l y).map h) = ins1 (ddp (l.map h)) (h y) := by
  unfold ins1
  by_cases hy : y ∈ l
  · rw [if_pos hy, if_pos ((ddp_mem _).mpr (List.mem_map.mpr ⟨y, hy, rfl⟩))]
  · rw [if_neg hy, List.map_append, List.map_singleton, ddp_snoc]
    rfl
theorem ddp_insF : ∀ (ys l : List α), ddp ((ys.foldl ins1 l).map h) = (ys.map h).foldl ins1 (ddp (l.map h))
  | [], _ => rfl
  | y :: ys, l => by rw [List.foldl_cons, ddp_insF ys, ddp_ins1, List.map_cons, List.foldl_cons]
theorem ins1_all : ∀ (ys l : List α), (∀ y ∈ ys, y ∈ l) → ys.foldl ins1 l = l
  | [], _, _ => rfl
  | y :: ys, l, hl => by
    rw [List.foldl_cons, show ins1 l y = l from if_pos (hl y List.mem_cons_self)]
    exact ins1_all ys l fun z hz => hl z (List.mem_cons_of_mem _ hz)
theorem foldl_ins1_pre : ∀ (ys l : List β), l <+: ys.foldl ins1 l
  | [], _ => List.prefix_refl _
  | y :: ys, l => (ins1_pre l y).trans (foldl_ins1_pre ys _)
theorem ddp_pre (l m : List β) : ddp l <+: ddp (l ++ m) := by
  unfold ddp
  rw [List.foldl_append]
  exact foldl_ins1_pre _ _
theorem succs_map {nx' : β → Sg → Option β} (hq : ∀ u q, (nx u q).map h = nx' (h u) q) (u : α) : ∀ T : List Sg, (succs nx T u).map h = succs nx' T (h u)
  | [] => rfl
  | q :: T => by
    have ih := succs_map hq u T
    unfold succs at ih ⊢
    rw [List.filterMap_cons, List.filterMap_cons, ← hq u q]
    cases nx u q with
    | none => exact ih
    | some y =>
      show h y :: _ = _ :: _
      rw [ih]
theorem bf_quot {d' : β} {nx' : β → Sg → Option β} (hq : ∀ u q, (nx u q).map h = nx' (h u) q) (x : α) : ∀ k, k ≤ (bfAt d nx T x k).1.length →
    ddp ((bfAt d nx T x k).1.map h) = (bfAt d' nx' T (h x) (ddp (((bfAt d nx T x k).1.take k).map h)).length).1
  | 0, _ => rfl
  | k + 1, hk => by
    have hk : k + 1 ≤ (bfR d nx T k (bfAt d nx T x k)).1.length := hk
    show ddp ((bfR d nx T k (bfAt d nx T x k)).1.map h) = (bfAt d' nx' T (h x) (ddp (((bfR d nx T k (bfAt d nx T x k)).1.take (k + 1)).map h)).length).1
    by_cases hlt : k < (bfAt d nx T x k).1.length
    · have ih := bf_quot (d' := d') hq x k (Nat.le_of_lt hlt)
      have ok := bfAt_ok (d := d) (nx := nx) (T := T) x k (Nat.le_of_lt hlt)
      have e0 : (bfR d nx T k (bfAt d nx T x k)).1 = (succs nx T ((bfAt d nx T x k).1.getD k d)).foldl ins1 (bfAt d nx T x k).1 := by
        unfold bfR
        rw [if_pos hlt]
        exact bfF_list k T _ hlt
      rw [e0]
      generalize (bfAt d nx T x k) = a at *
      have hu : a.1[k]? = some (a.1.getD k d) := by rw [List.getD_eq_getElem?_getD, List.getElem?_eq_getElem hlt]; rfl
      have hpre : a.1 <+: (succs nx T (a.1.getD k d)).foldl ins1 a.1 := foldl_ins1_pre _ _
      have htk : ((succs nx T (a.1.getD k d)).foldl ins1 a.1).take (k + 1) = a.1.take k ++ [a.1.getD k d] := by
        obtain ⟨t, e⟩ := hpre
        rw [← e, List.take_append_of_le_length (by omega), List.take_add_one, hu]
        rfl
      rw [htk, List.map_append, List.map_singleton, ddp_snoc, ddp_insF, succs_map hq]
      generalize hU : a.1.getD k d = u at *
      by_cases hm : h u ∈ (a.1.take k).map h
      · -- seen before
        rw [show ins1 (ddp ((a.1.take k).map h)) (h u) = ddp ((a.1.take k).map h) from if_pos ((ddp_mem _).mpr hm), ← ih]
        refine ins1_all _ _ fun z hz => ?_
        obtain ⟨w, hw, e⟩ := List.mem_map.mp hm
        obtain ⟨j, hj, e2⟩ := List.getElem_of_mem hw
        rw [List.length_take] at hj
        rw [List.getElem_take] at e2
        obtain ⟨q, hqT, hz⟩ := List.mem_filterMap.mp hz
        rw [← e, ← hq w q] at hz
        obtain ⟨y, hy, rfl⟩ := Option.map_eq_some_iff.mp hz
        refine (ddp_mem _).mpr (List.mem_map.mpr ⟨y, ok.done j (by omega) q hqT y ?_, rfl⟩)
        rw [List.getD_eq_getElem?_getD, List.getElem?_eq_getElem (by omega)]
        show nx a.1[j] q = _
        rw [e2]
        exact hy
      · -- new
        have hin : ins1 (ddp ((a.1.take k).map h)) (h u) = ddp ((a.1.take k).map h) ++ [h u] := if_neg fun z => hm ((ddp_mem _).mp z)
        rw [hin, List.length_append, List.length_singleton]
        show _ = (bfR d' nx' T _ _).1
        have hp2 : ddp ((a.1.take k).map h) ++ [h u] <+: ddp (a.1.map h) := by
          rw [← hin, ← ddp_snoc]
          have e3 : a.1.map h = ((a.1.take k).map h ++ [h u]) ++ (a.1.drop (k + 1)).map h := by
            rw [← List.map_singleton, ← List.map_append, ← List.map_append]
            congr 1
            conv => lhs; rw [← List.take_append_drop (k + 1) a.1, List.take_add_one, hu]
            rfl
          conv => rhs; rw [e3]
          exact ddp_pre _ _
        rw [ih] at hp2 ⊢
        have hlen := hp2.length_le
        rw [List.length_append, List.length_singleton] at hlen
        have hgd : ((bfAt d' nx' T (h x) (ddp ((a.1.take k).map h)).length).1).getD (ddp ((a.1.take k).map h)).length d' = h u := by
          rw [getD_pre hp2 (by rw [List.length_append, List.length_singleton]; omega), List.getD_eq_getElem?_getD, List.getElem?_append_right (Nat.le_refl _), Nat.sub_self]
          rfl
        unfold bfR
        rw [if_pos (by omega), bfF_list _ _ _ (by omega), hgd]
    · unfold bfR at hk
      rw [if_neg hlt] at hk
      omega
end
end K81
set_option Elab.async false
set_option linter.all false
set_option maxRecDepth 100000
set_option maxHeartbeats 2000000
set_option autoImplicit false
/-! K81BC: languages. -/
namespace K81
section
variable {α : Type} (nx : α → Sg → Option α)
def run : α → List Sg → Option α
  | u, [] => some u
  | u, q :: w => (nx u q).bind fun y => run y w
abbrev Wd := List Sg → Prop
def Lang (u : α) : Wd := fun w => (run nx u w).isSome = true
end
open Classical in
noncomputable def nxL (X : Wd) (q : Sg) : Option Wd := if X [q] then some (fun w => X (q :: w)) else none
theorem lang_nx {α : Type} (nx : α → Sg → Option α) (u : α) (q : Sg) : (nx u q).map (Lang nx) = nxL (Lang nx u) q := by
  unfold nxL
  cases h : nx u q with
  | none =>
    rw [if_neg (by unfold Lang run; rw [h]; simp)]
    rfl
  | some y =>
    rw [if_pos (by unfold Lang run; rw [h]; rfl)]
    show some (Lang nx y) = some _
    congr 1
    funext w
    show _ = ((run nx u (q :: w)).isSome = true)
    unfold run
    rw [h]
    rfl
end K81
set_option Elab.async false
set_option linter.all false
set_option maxRecDepth 100000
set_option maxHeartbeats 2000000
set_option autoImplicit false
/-! K81BD: a box's rows and its search. -/
namespace K81
theorem behind_zero {b : Bx} (hb : b.Ok) (s : Sg) : b.behind 0 s = 0 := by
  refine Nat.eq_of_testBit_eq fun j => ?_
  rw [Nat.zero_testBit]
  cases h : (b.behind 0 s).testBit j with
  | false => rfl
  | true =>
    obtain ⟨i, hi, _⟩ := (Bx.behind_bit hb 0 s j).mp h
    rw [Nat.zero_testBit] at hi
    cases hi
theorem row_zero {b : Bx} (hb : b.Ok) : ∀ w : List Sg, b.row 0 w = 0
  | [] => rfl
  | q :: w => by
    show b.row (b.behind 0 q) w = 0
    rw [behind_zero hb, row_zero hb w]
theorem row_run {b : Bx} (hb : b.Ok) : ∀ (w : List Sg) (x : Nat), 0 < x → run (nxS b) x w = if 0 < b.row x w then some (b.row x w) else none
  | [], x, hx => by
    show some x = if 0 < x then some x else none
    rw [if_pos hx]
  | q :: w, x, hx => by
    show (nxS b x q).bind (fun y => run (nxS b) y w) = if 0 < b.row (b.behind x q) w then some (b.row (b.behind x q) w) else none
    unfold nxS
    by_cases h : 0 < b.behind x q
    · rw [if_pos h]
      exact row_run hb w _ h
    · rw [if_neg h]
      have : b.behind x q = 0 := by omega
      rw [this, row_zero hb]
      rfl
/-- a box's language -/
def Bx.L (b : Bx) : Wd := Lang (nxS b) b.start
theorem start_pos {b : Bx} (h : b.st ≠ []) : 0 < b.start := by
  cases hs : b.st with
  | nil => exact absurd hs h
  | cons x l =>
    refine Nat.pos_of_ne_zero fun z => ?_
    have := (b.start_bit x).mpr (by rw [hs]; exact List.mem_cons_self)
    rw [z, Nat.zero_testBit] at this
    cases this
theorem gives_L {b : Bx} (hb : b.Ok) (hs : b.st ≠ []) (w : List Sg) : b.gives w = true ↔ b.L w := by
  unfold Bx.gives Bx.L Lang
  rw [row_run hb w _ (start_pos hs), decide_eq_true_eq]
  by_cases h : 0 < b.row b.start w
  · rw [if_pos h]; simp [h]
  · rw [if_neg h]; simp [h]
/-- the search of a small box is at its end -/
theorem sws_end {b : Bx} (hL : (sws b).1.length ≤ 1000) : BfI 0 (nxS b) b.signs b.start (sws b).1.length [] (sws b) ∧ sws b = bfAt 0 (nxS b) b.signs b.start (sws b).1.length := by
  have h1 : ¬ (sws b).1.length < (swsAt b (sws b).1.length).1.length := by
    have := (swsAt_pres (b := b) hL).length_le
    unfold sws at this ⊢
    omega
  have h2 : sws b = swsAt b (sws b).1.length := by
    have := sws_stop h1 hL
    conv => lhs; unfold sws
    exact this
  have h3 : sws b = bfAt 0 (nxS b) b.signs b.start (sws b).1.length := h2.trans (swsAt_bf b _)
  refine ⟨?_, h3⟩
  have := bfAt_ok (d := 0) (nx := nxS b) (T := b.signs) b.start (sws b).1.length (Nat.le_of_eq (by rw [← h3]))
  rw [← h3] at this
  exact this
end K81
set_option Elab.async false
set_option linter.all false
set_option maxRecDepth 100000
set_option maxHeartbeats 2000000
set_option autoImplicit false
/-! K81BE: the kinds that a search ends with are the languages, plainly. -/
namespace K81
section
variable {α : Type} [DecidableEq α] {d : α} {nx : α → Sg → Option α} {T : List Sg}
/-- a search that is at its end -/
structure Done (d : α) (nx : α → Sg → Option α) (T : List Sg) (l : List α) (steps : List Stp) : Prop where
  nd : l.Nodup
  cl : ∀ i, i < l.length → ∀ q ∈ T, ∀ y, nx (l.getD i d) q = some y → y ∈ l
  st : steps = (List.range l.length).flatMap (fun i => stO d nx l i T)
theorem BfI.done' {x : α} {a : List α × List Stp} (h : BfI d nx T x a.1.length [] a) : Done d nx T a.1 a.2 :=
  ⟨h.nd, fun i hi q hq y hy => h.done i hi q hq y hy, by rw [h.stp]; show _ ++ [] = _; rw [List.append_nil]⟩
theorem laneOf_app (l m : List Stp) (s : Nat) : laneOf (l ++ m) s = laneOf l s ++ laneOf m s := by
  unfold laneOf
  rw [List.filter_append, List.map_append]
/-- the lane of a state -/
def lnO (d : α) (nx : α → Sg → Option α) (l : List α) (i : Nat) (T : List Sg) : Lane := T.filterMap fun q => (nx (l.getD i d) q).map fun y => (q, idx l y)
theorem laneOf_stO (l : List α) (i j : Nat) : ∀ T : List Sg, laneOf (stO d nx l i T) j = if i = j then lnO d nx l i T else []
  | [] => by
    unfold laneOf stO lnO
    split <;> rfl
  | q :: T => by
    have ih := laneOf_stO l i j T
    unfold laneOf stO lnO at ih ⊢
    rw [List.filterMap_cons, List.filterMap_cons]
    cases nx (l.getD i d) q with
    | none => exact ih
    | some y =>
      show (List.filter _ ((i, q, idx l y) :: _)).map _ = _
      by_cases e : i = j
      · subst e
        rw [if_pos rfl] at ih ⊢
        rw [List.filter_cons_of_pos (by simp), List.map_cons, ih]
        rfl
      · rw [if_neg e] at ih ⊢
        rw [List.filter_cons_of_neg (by simpa using e), ih]
theorem laneOf_range (l : List α) (j : Nat) : ∀ n, laneOf ((List.range n).flatMap fun i => stO d nx l i T) j = if j < n then lnO d nx l j T else []
  | 0 => rfl
  | n + 1 => by
    rw [List.range_succ, List.flatMap_append, laneOf_app, laneOf_range l j n, List.flatMap_cons, List.flatMap_nil, List.append_nil, laneOf_stO]
    by_cases h1 : j < n
    · rw [if_pos h1, if_neg (by omega), if_pos (by omega), List.append_nil]
    · rw [if_neg h1, List.nil_append]
      by_cases h2 : n = j
      · subst h2
        rw [if_pos rfl, if_pos (by omega)]
      · rw [if_neg h2, if_neg (by omega)]
variable {l : List α} {steps : List Stp}
theorem Done.lane (D : Done d nx T l steps) {j : Nat} (hj : j < l.length) : laneOf steps j = lnO d nx l j T := by
  rw [D.st, laneOf_range, if_pos hj]
theorem Done.lanes (D : Done d nx T l steps) {j : Nat} (hj : j < l.length) : (lanesOf l.length steps)[j]? = some (lnO d nx l j T) := by
  unfold lanesOf
  rw [List.getElem?_map, List.getElem?_range hj]
  show some _ = _
  rw [D.lane hj]
theorem marks_get {lanes : List Lane} {kinds : List Nat} {i k : Nat} {ln : Lane} (h1 : kinds[i]? = some k) (h2 : lanes[i]? = some ln) : (marksOf lanes kinds)[i]? = some (k, ln.map fun q => (q.1, kinds.getD q.2 0)) := by
  unfold marksOf
  rw [List.getElem?_map, (List.getElem?_zip_eq_some (z := (k, ln))).mpr ⟨h1, h2⟩]
  rfl
theorem getD_at {β : Type} {l : List β} {i : Nat} {x d : β} (h : l[i]? = some x) : l.getD i d = x := by rw [List.getD_eq_getElem?_getD, h]; rfl
theorem get_getD {β : Type} {l : List β} {i : Nat} (d : β) (h : i < l.length) : l[i]? = some (l.getD i d) := by rw [List.getD_eq_getElem?_getD, List.getElem?_eq_getElem h]; rfl
/-- a lane, its goals as kinds -/
def kLn (nx : α → Sg → Option α) (l : List α) (kinds : List Nat) (u : α) (T : List Sg) : List (Sg × Nat) := T.filterMap fun q => (nx u q).map fun y => (q, kinds.getD (idx l y) 0)
theorem lnO_map (l : List α) (kinds : List Nat) (i : Nat) : ∀ T : List Sg, (lnO d nx l i T).map (fun q => (q.1, kinds.getD q.2 0)) = kLn nx l kinds (l.getD i d) T
  | [] => rfl
  | q :: T => by
    have ih := lnO_map l kinds i T
    unfold lnO kLn at ih ⊢
    rw [List.filterMap_cons, List.filterMap_cons]
    cases nx (l.getD i d) q with
    | none => exact ih
    | some y =>
      show _ :: _ = _ :: _
      rw [ih]
theorem kLn_congr {kinds : List Nat} {u v : α} {T : List Sg} (h : ∀ q ∈ T, ((nx u q).map fun y => kinds.getD (idx l y) 0) = (nx v q).map fun y => kinds.getD (idx l y) 0) : kLn nx l kinds u T = kLn nx l kinds v T := by
  unfold kLn
  refine fm_congr fun q hq => ?_
  have := h q hq
  cases h1 : nx u q with
  | none =>
    rw [h1] at this
    cases h2 : nx v q with
    | none => rfl
    | some z => rw [h2] at this; cases this
  | some y =>
    rw [h1] at this
    cases h2 : nx v q with
    | none => rw [h2] at this; cases this
    | some z =>
      rw [h2] at this
      have this : kinds.getD (idx l y) 0 = kinds.getD (idx l z) 0 := Option.some.inj this
      show some (q, kinds.getD (idx l y) 0) = some (q, kinds.getD (idx l z) 0)
      rw [this]
theorem kLn_mem {kinds : List Nat} {u : α} {T : List Sg} {q : Sg} {k : Nat} : (q, k) ∈ kLn nx l kinds u T ↔ q ∈ T ∧ ∃ y, nx u q = some y ∧ k = kinds.getD (idx l y) 0 := by
  unfold kLn
  rw [List.mem_filterMap]
  constructor
  · rintro ⟨q', hq, h⟩
    obtain ⟨y, hy, e⟩ := Option.map_eq_some_iff.mp h
    injection e with e1 e2
    subst e1
    exact ⟨hq, y, hy, e2.symm⟩
  · rintro ⟨hq, y, hy, rfl⟩
    exact ⟨q, hq, by rw [hy]; rfl⟩
theorem kLn_inv {kinds : List Nat} {u v : α} {T : List Sg} (h : kLn nx l kinds u T = kLn nx l kinds v T) {q : Sg} (hq : q ∈ T) {y : α} (hy : nx u q = some y) : ∃ z, nx v q = some z ∧ kinds.getD (idx l y) 0 = kinds.getD (idx l z) 0 := by
  have : (q, kinds.getD (idx l y) 0) ∈ kLn nx l kinds u T := kLn_mem.mpr ⟨hq, y, hy, rfl⟩
  rw [h] at this
  obtain ⟨_, z, hz, e⟩ := kLn_mem.mp this
  exact ⟨z, hz, e⟩
theorem lang_iff (u v : α) : Lang nx u = Lang nx v ↔ ∀ w, (run nx u w).isSome = (run nx v w).isSome := by
  constructor
  · intro h w
    have := congrFun h w
    unfold Lang at this
    exact Bool.eq_iff_iff.mpr (by rw [this])
  · intro h
    funext w
    unfold Lang
    rw [h w]
/-- equal languages: equal kinds in all rounds -/
theorem Done.coarse (D : Done d nx T l steps) : ∀ (k i j : Nat), i < l.length → j < l.length → Lang nx (l.getD i d) = Lang nx (l.getD j d) → (kAt (lanesOf l.length steps) l.length k)[i]? = (kAt (lanesOf l.length steps) l.length k)[j]?
  | 0, i, j, hi, hj, _ => by
    show (List.replicate l.length 0)[i]? = (List.replicate l.length 0)[j]?
    rw [List.getElem?_replicate, List.getElem?_replicate, if_pos hi, if_pos hj]
  | k + 1, i, j, hi, hj, he => by
    have ih := D.coarse k
    have hl := kAt_len (lanes := lanesOf l.length steps) (n := l.length) (lanesOf_len _ _) k
    show (parted _ (kAt (lanesOf l.length steps) l.length k))[i]? = (parted _ (kAt (lanesOf l.length steps) l.length k))[j]?
    rw [parted_canon]
    generalize kAt (lanesOf l.length steps) l.length k = ks at *
    have hki := get_getD 0 (show i < ks.length by omega)
    have hkj := get_getD 0 (show j < ks.length by omega)
    have m1 := marks_get hki (D.lanes hi)
    have m2 := marks_get hkj (D.lanes hj)
    refine (canon_eq m1 m2).mpr ?_
    have e1 : ks.getD i 0 = ks.getD j 0 := by
      have := ih i j hi hj he
      rw [hki, hkj] at this
      exact Option.some.inj this
    rw [e1, lnO_map, lnO_map]
    refine congrArg (Prod.mk _) (kLn_congr fun q hq => ?_)
    have h1 := lang_nx nx (l.getD i d) q
    rw [he, ← lang_nx] at h1
    cases hy : nx (l.getD i d) q with
    | none =>
      rw [hy] at h1
      cases hz : nx (l.getD j d) q with
      | none => rfl
      | some z => rw [hz] at h1; cases h1
    | some y =>
      rw [hy] at h1
      cases hz : nx (l.getD j d) q with
      | none => rw [hz] at h1; cases h1
      | some z =>
        rw [hz] at h1
        have h1 : Lang nx y = Lang nx z := Option.some.inj h1
        have hyl := D.cl i hi q hq y hy
        have hzl := D.cl j hj q hq z hz
        have gy : l.getD (idx l y) d = y := getD_at (idx_get hyl)
        have gz : l.getD (idx l z) d = z := getD_at (idx_get hzl)
        have := ih (idx l y) (idx l z) (idx_lt hyl) (idx_lt hzl) (by rw [gy, gz]; exact h1)
        rw [get_getD 0 (show idx l y < ks.length by rw [hl]; exact idx_lt hyl), get_getD 0 (show idx l z < ks.length by rw [hl]; exact idx_lt hzl)] at this
        exact this
/-- kinds that stay tell languages apart -/
theorem Done.fine (D : Done d nx T l steps) (hT : ∀ u q, q ∉ T → nx u q = none) {ks : List Nat} (hl : ks.length = l.length) (hf : parted (lanesOf l.length steps) ks = ks) :
    ∀ (w : List Sg) (i j : Nat), i < l.length → j < l.length → ks.getD i 0 = ks.getD j 0 → (run nx (l.getD i d) w).isSome = true → (run nx (l.getD j d) w).isSome = true
  | [], _, _, _, _, _, _ => rfl
  | q :: w, i, j, hi, hj, he, hr => by
    have hki := get_getD 0 (show i < ks.length by omega)
    have hkj := get_getD 0 (show j < ks.length by omega)
    have m1 := marks_get hki (D.lanes hi)
    have m2 := marks_get hkj (D.lanes hj)
    have hm := (canon_eq m1 m2).mp (by rw [← parted_canon, hf, hki, hkj, he])
    injection hm with _ hm
    rw [lnO_map, lnO_map] at hm
    have hr : ((nx (l.getD i d) q).bind fun y => run nx y w).isSome = true := hr
    show ((nx (l.getD j d) q).bind fun y => run nx y w).isSome = true
    cases hy : nx (l.getD i d) q with
    | none => rw [hy] at hr; cases hr
    | some y =>
      rw [hy] at hr
      have hq : q ∈ T := Classical.byContradiction fun z => by rw [hT _ q z] at hy; cases hy
      obtain ⟨z, hz, e⟩ := kLn_inv hm hq hy
      have hyl := D.cl i hi q hq y hy
      have hzl := D.cl j hj q hq z hz
      have gy : l.getD (idx l y) d = y := getD_at (idx_get hyl)
      have gz : l.getD (idx l z) d = z := getD_at (idx_get hzl)
      have ih := D.fine hT hl hf w (idx l y) (idx l z) (idx_lt hyl) (idx_lt hzl) e
      rw [gy, gz] at ih
      rw [hz]
      exact ih hr
open Classical in
/-- the kinds are the languages -/
theorem Done.kinds (D : Done d nx T l steps) (hT : ∀ u q, q ∉ T → nx u q = none) (hn : 0 < l.length) : SamePat (kFin (lanesOf l.length steps)) (l.map (Lang nx)) := by
  have hlen : (kFin (lanesOf l.length steps)).length = l.length := by rw [kFin_len, lanesOf_len]
  have hfix := kFin_fix (lanes := lanesOf l.length steps) (by rw [lanesOf_len]; exact hn)
  refine ⟨by rw [hlen, List.length_map], fun i j x y u v h1 h2 h3 h4 => ?_⟩
  have hi : i < l.length := by have := (List.getElem?_eq_some_iff.mp h1).1; omega
  have hj : j < l.length := by have := (List.getElem?_eq_some_iff.mp h2).1; omega
  rw [List.getElem?_map, get_getD d hi] at h3
  rw [List.getElem?_map, get_getD d hj] at h4
  have h3 := Option.some.inj h3
  have h4 := Option.some.inj h4
  constructor
  · intro e
    have e0 : (kFin (lanesOf l.length steps)).getD i 0 = (kFin (lanesOf l.length steps)).getD j 0 := by rw [getD_at h1, getD_at h2, e]
    rw [← h3, ← h4]
    refine (lang_iff _ _).mpr fun w => Bool.eq_iff_iff.mpr ⟨fun h => ?_, fun h => ?_⟩
    · exact D.fine hT hlen hfix w i j hi hj e0 h
    · exact D.fine hT hlen hfix w j i hj hi e0.symm h
  · intro e
    rw [← h3, ← h4] at e
    have := D.coarse l.length i j hi hj e
    have e1 : kFin (lanesOf l.length steps) = kAt (lanesOf l.length steps) l.length l.length := by
      unfold kFin
      rw [lanesOf_len]
    rw [← e1, h1, h2] at this
    exact Option.some.inj this
end
end K81
set_option Elab.async false
set_option linter.all false
set_option maxRecDepth 100000
set_option maxHeartbeats 2000000
set_option autoImplicit false
/-! K81BF: the form of a box is a function of its language. -/
namespace K81
/-! ### more signs, the same search -/
section
variable {α : Type} [DecidableEq α] {d : α} {nx : α → Sg → Option α}
theorem bf1_none {k : Nat} {a : List α × List Stp} {q : Sg} (h : nx (a.1.getD k d) q = none) : bf1 d nx k a q = a := by
  unfold bf1
  rw [h]
theorem bfF_filter {p : Sg → Bool} (h : ∀ u q, p q = false → nx u q = none) (k : Nat) : ∀ (T : List Sg) (a : List α × List Stp), (T.filter p).foldl (bf1 d nx k) a = T.foldl (bf1 d nx k) a
  | [], _ => rfl
  | q :: T, a => by
    cases hp : p q with
    | true => rw [List.filter_cons_of_pos hp, List.foldl_cons, List.foldl_cons, bfF_filter h k T]
    | false => rw [List.filter_cons_of_neg (by rw [hp]; exact Bool.false_ne_true), List.foldl_cons, bf1_none (h _ _ hp), bfF_filter h k T]
theorem bfAt_filter {p : Sg → Bool} (h : ∀ u q, p q = false → nx u q = none) (T : List Sg) (x : α) : ∀ k, bfAt d nx (T.filter p) x k = bfAt d nx T x k
  | 0 => rfl
  | k + 1 => by
    show bfR d nx (T.filter p) k (bfAt d nx (T.filter p) x k) = bfR d nx T k (bfAt d nx T x k)
    rw [bfAt_filter h T x k]
    unfold bfR
    rw [bfF_filter h]
theorem bf_stop {T : List Sg} {x : α} {k : Nat} (h : ¬ k < (bfAt d nx T x k).1.length) : ∀ {j : Nat}, k ≤ j → bfAt d nx T x j = bfAt d nx T x k
  | 0, hj => by rw [Nat.le_zero.mp hj]
  | j + 1, hj => by
    rcases Nat.eq_or_lt_of_le hj with e | e
    · rw [e]
    · have ih := bf_stop h (Nat.le_of_lt_succ e)
      show bfR d nx T j (bfAt d nx T x j) = _
      unfold bfR
      rw [ih, if_neg (by omega)]
end
def allS : List Sg := [0, 1, 2, 3, 4]
theorem mem_allS (q : Sg) : q ∈ allS := by revert q; decide +kernel
theorem allS_srt : allS.Pairwise fun a b => leR rkSg a b = true := by decide +kernel
theorem allS_nd : allS.Nodup := by decide +kernel
theorem rkSg_inj' {a b : Sg} (h : rkSg a = rkSg b) : a = b := by
  unfold rkSg at h
  injection h with h
  exact Fin.ext h
theorem srtSg_all {l : List Sg} (h : l.Nodup) : srt rkSg l = allS.filter fun q => decide (q ∈ l) := by
  rw [srt_eq (fun a b => rkSg_inj') (perm_of_mem h (allS_nd.sublist List.filter_sublist) fun x => ?_)]
  · exact srt_id (allS_srt.sublist List.filter_sublist)
  · rw [List.mem_filter, decide_eq_true_eq]
    exact ⟨fun hx => ⟨mem_allS x, hx⟩, fun hx => hx.2⟩
theorem signs_all (b : Bx) : b.signs = allS.filter fun q => decide (q ∈ b.signs) := by
  have h : b.signs.Nodup := srt_nodup (ddp_nodup _)
  conv => lhs; rw [← srt_signs b]
  exact srtSg_all h
theorem nxS_out {b : Bx} {u : Nat} {q : Sg} (h : q ∉ b.signs) : nxS b u q = none := by
  unfold nxS Bx.behind
  rw [if_neg h]
  rfl
/-! ### the languages of a search, in their order -/
section
open Classical
noncomputable def langs {α : Type} (nx : α → Sg → Option α) (l : List α) : List Wd := ddp (l.map (Lang nx))
/-- a search that is at its end goes through the languages as the search over languages does -/
theorem langs_bf {α : Type} [DecidableEq α] {d : α} {nx : α → Sg → Option α} {x : α} {K : Nat} (h : K = (bfAt d nx allS x K).1.length) :
    langs nx (bfAt d nx allS x K).1 = (bfAt (fun _ => False) nxL allS (Lang nx x) (langs nx (bfAt d nx allS x K).1).length).1 := by
  have := bf_quot (d := d) (d' := (fun _ => False : Wd)) (nx := nx) (nx' := nxL) (T := allS) (h := Lang nx) (lang_nx nx) x K (Nat.le_of_eq h)
  rw [show (bfAt d nx allS x K).1.take K = (bfAt d nx allS x K).1 from List.take_of_length_le (Nat.le_of_eq h.symm)] at this
  exact this
theorem langs_eq {X : Wd} {R1 R2 : List Wd} (h1 : R1 = (bfAt (fun _ => False) nxL allS X R1.length).1) (h2 : R2 = (bfAt (fun _ => False) nxL allS X R2.length).1) : R1 = R2 := by
  have key : ∀ {R1 R2 : List Wd}, R1 = (bfAt (fun _ => False) nxL allS X R1.length).1 → R2 = (bfAt (fun _ => False) nxL allS X R2.length).1 → R1.length ≤ R2.length → R1 = R2 := by
    intro R1 R2 h1 h2 hle
    have hs : ¬ R1.length < (bfAt (fun _ => False) nxL allS X R1.length).1.length := by
      rw [← h1]
      exact Nat.lt_irrefl _
    have := bf_stop hs hle
    rw [h2, this]
    exact h1
  rcases Nat.le_total R1.length R2.length with h | h
  · exact key h1 h2 h
  · exact (key h2 h1 h).symm
end
/-! ### the search of a box -/
structure Small (b : Bx) : Prop where
  ok : b.Ok
  st : b.st ≠ []
  few : (sws b).1.length ≤ 1000
section
open Classical
variable {b : Bx}
theorem Small.sws (h : Small b) : sws b = bfAt 0 (nxS b) allS b.start (sws b).1.length := by
  have := (sws_end h.few).2
  have e := bfAt_filter (d := 0) (nx := nxS b) (p := fun q => decide (q ∈ b.signs)) (fun u q hq => nxS_out (of_decide_eq_false hq)) allS b.start (K81.sws b).1.length
  rw [← signs_all] at e
  rw [e] at this
  exact this
theorem Small.done (h : Small b) : Done 0 (nxS b) b.signs (K81.sws b).1 (K81.sws b).2 := (sws_end h.few).1.done'
noncomputable def Bx.R (b : Bx) : List Wd := langs (nxS b) (K81.sws b).1
theorem Small.Rbf (h : Small b) : b.R = (bfAt (fun _ => False) nxL allS b.L b.R.length).1 := by
  have e := h.sws
  have := langs_bf (d := 0) (nx := nxS b) (x := b.start) (K := (K81.sws b).1.length) (by rw [← e])
  rw [← e] at this
  exact this
theorem R_eq {a b : Bx} (h1 : Small a) (h2 : Small b) (h : a.L = b.L) : a.R = b.R := langs_eq h1.Rbf (by rw [h]; exact h2.Rbf)
theorem Small.pat (h : Small b) : SamePat (kindsOf b) ((K81.sws b).1.map (Lang (nxS b))) := by
  unfold kindsOf
  exact h.done.kinds (fun u q hq => nxS_out hq) sws_pos
theorem Small.kinds (h : Small b) : kindsOf b = canon ((K81.sws b).1.map (Lang (nxS b))) := by
  have := (samePat_len h.pat).2
  rw [kindsOf_canon] at this
  exact this
theorem Small.kindAt (h : Small b) {i : Nat} {u : Nat} (hi : (K81.sws b).1[i]? = some u) : (kindsOf b).getD i 0 = idx b.R (Lang (nxS b) u) := by
  rw [h.kinds]
  refine getD_at ?_
  have : ((K81.sws b).1.map (Lang (nxS b)))[i]? = some (Lang (nxS b) u) := by rw [List.getElem?_map, hi]; rfl
  exact canon_get this
theorem Small.cnt (h : Small b) : (ddp (kindsOf b)).length = b.R.length := (samePat_len h.pat).1
/-- the steps that are joined, by languages -/
theorem Done.steps {α : Type} [DecidableEq α] {d : α} {nx : α → Sg → Option α} {T : List Sg} {l : List α} {steps : List Stp} {ks : List Nat} {R : List Wd} (D : Done d nx T l steps) (hT : ∀ u q, q ∉ T → nx u q = none)
    (hk : ∀ (i : Nat) (u : α), l[i]? = some u → ks.getD i 0 = idx R (Lang nx u)) (hR : ∀ X, X ∈ R ↔ ∃ u, u ∈ l ∧ Lang nx u = X) (m : Stp) :
    m ∈ steps.map (joinStp ks) ↔ ∃ X Y, X ∈ R ∧ nxL X m.2.1 = some Y ∧ m.1 = idx R X ∧ m.2.2 = idx R Y := by
  rw [List.mem_map]
  constructor
  · rintro ⟨m', hm', rfl⟩
    rw [D.st, List.mem_flatMap] at hm'
    obtain ⟨i, hi, hm'⟩ := hm'
    have hi := List.mem_range.mp hi
    unfold stO at hm'
    obtain ⟨q, hq, e⟩ := List.mem_filterMap.mp hm'
    obtain ⟨y, hy, rfl⟩ := Option.map_eq_some_iff.mp e
    have hyl := D.cl i hi q hq y hy
    have gi := get_getD d hi
    refine ⟨Lang nx (l.getD i d), Lang nx y, (hR _).mpr ⟨_, List.mem_of_getElem? gi, rfl⟩, ?_, hk _ _ gi, hk _ _ (idx_get hyl)⟩
    show nxL _ q = _
    rw [← lang_nx, hy]
    rfl
  · rintro ⟨X, Y, hX, hY, h1, h2⟩
    obtain ⟨u, hu, rfl⟩ := (hR _).mp hX
    have hi := idx_lt hu
    have gi := idx_get hu
    rw [← lang_nx] at hY
    obtain ⟨y, hy, rfl⟩ := Option.map_eq_some_iff.mp hY
    have gu : l.getD (idx l u) d = u := getD_at gi
    have hq : m.2.1 ∈ T := Classical.byContradiction fun z => by rw [hT _ _ z] at hy; cases hy
    have hyl := D.cl _ hi _ hq y (by rw [gu]; exact hy)
    refine ⟨(idx l u, m.2.1, idx l y), ?_, ?_⟩
    · rw [D.st, List.mem_flatMap]
      refine ⟨_, List.mem_range.mpr hi, List.mem_filterMap.mpr ⟨m.2.1, hq, ?_⟩⟩
      rw [gu, hy]
      rfl
    · unfold joinStp
      rw [hk _ _ gi, hk _ _ (idx_get hyl), ← h1, ← h2]
theorem langs_mem {α : Type} {nx : α → Sg → Option α} {l : List α} (X : Wd) : X ∈ langs nx l ↔ ∃ u, u ∈ l ∧ Lang nx u = X := by
  unfold langs
  rw [ddp_mem, List.mem_map]
theorem Small.steps (h : Small b) (m : Stp) : m ∈ (K81.sws b).2.map (joinStp (kindsOf b)) ↔ ∃ X Y, X ∈ b.R ∧ nxL X m.2.1 = some Y ∧ m.1 = idx b.R X ∧ m.2.2 = idx b.R Y :=
  Done.steps h.done (fun u q hq => nxS_out hq) (fun i u hi => h.kindAt hi) langs_mem m
theorem rkStp_inj' {a b : Stp} (h : rkStp a = rkStp b) : a = b := by
  unfold rkStp at h
  injection h with h1 h
  injection h with h2 h
  injection h with h3 _
  exact Prod.ext h1 (Prod.ext (Fin.ext h2) h3)
theorem mk_congr {n n' : Nat} {st : List Nat} {sp sp' : List Stp} (h1 : n = n') (h2 : sp = sp') : mkBx n st sp = mkBx n' st sp' := by rw [h1, h2]
theorem srt_congr {l m : List Stp} (h : ∀ x, x ∈ l ↔ x ∈ m) : srt rkStp (ddp l) = srt rkStp (ddp m) :=
  srt_eq (fun a b => rkStp_inj') (perm_of_mem (ddp_nodup _) (ddp_nodup _) fun x => by rw [ddp_mem, ddp_mem]; exact h x)
/-- THE FORM: a function of the language -/
theorem form_eq {a b : Bx} (h1 : Small a) (h2 : Small b) (h : a.L = b.L) : formOf a = formOf b := by
  have hR := R_eq h1 h2 h
  unfold formOf
  refine mk_congr ?_ (srt_congr fun m => ?_)
  · rw [h1.cnt, h2.cnt, hR]
  · rw [h1.steps, h2.steps, hR]
end
end K81
set_option Elab.async false
set_option linter.all false
set_option maxRecDepth 100000
set_option maxHeartbeats 2000000
set_option autoImplicit false
/-! K81BG: sure boxes; the language of a form. -/
namespace K81
/-! ### two machines side by side -/
section
variable {α β : Type} {nx : α → Sg → Option α} {nx' : β → Sg → Option β}
def Sim (nx : α → Sg → Option α) (nx' : β → Sg → Option β) (r : α → β → Prop) : Prop :=
  ∀ u v, r u v → ∀ q, (nx u q = none ∧ nx' v q = none) ∨ ∃ y z, nx u q = some y ∧ nx' v q = some z ∧ r y z
theorem Sim.run {r : α → β → Prop} (h : Sim nx nx' r) : ∀ (w : List Sg) (u : α) (v : β), r u v → (run nx u w).isSome = (run nx' v w).isSome
  | [], _, _, _ => rfl
  | q :: w, u, v, k => by
    show ((nx u q).bind fun y => K81.run nx y w).isSome = ((nx' v q).bind fun y => K81.run nx' y w).isSome
    rcases h u v k q with ⟨h1, h2⟩ | ⟨y, z, h1, h2, h3⟩
    · rw [h1, h2]; rfl
    · rw [h1, h2]
      exact h.run w y z h3
theorem Sim.lang {r : α → β → Prop} (h : Sim nx nx' r) {u : α} {v : β} (k : r u v) : Lang nx u = Lang nx' v := by
  funext w
  unfold Lang
  rw [h.run w u v k]
end
/-! ### what a search keeps -/
section
variable {α : Type} [DecidableEq α] {d : α} {nx : α → Sg → Option α} {T : List Sg} {p : α → Prop}
theorem bfF_inv (hp : ∀ u, p u → ∀ q y, nx u q = some y → p y) (k : Nat) : ∀ (S : List Sg) (a : List α × List Stp), k < a.1.length → a.1.Nodup → (∀ u ∈ a.1, p u) → (S.foldl (bf1 d nx k) a).1.Nodup ∧ ∀ u ∈ (S.foldl (bf1 d nx k) a).1, p u
  | [], a, _, h1, h2 => ⟨h1, h2⟩
  | q :: S, a, hk, h1, h2 => by
    refine bfF_inv hp k S (bf1 d nx k a q) (Nat.lt_of_lt_of_le hk (bf1_pre k a q).length_le) ?_ ?_
    · unfold bf1
      split
      · exact h1
      · exact ins1_nodup h1
    · unfold bf1
      split
      · exact h2
      · rename_i y hy
        intro u hu
        rcases ins1_mem.mp hu with hu | hu
        · exact h2 u hu
        · rw [hu]
          exact hp _ (h2 _ (List.mem_of_getElem? (get_getD d hk))) q y hy
theorem bf_inv (hp : ∀ u, p u → ∀ q y, nx u q = some y → p y) {x : α} (hx : p x) : ∀ k, (bfAt d nx T x k).1.Nodup ∧ ∀ u ∈ (bfAt d nx T x k).1, p u
  | 0 => ⟨List.nodup_cons.mpr ⟨List.not_mem_nil, List.nodup_nil⟩, fun u hu => by rw [List.mem_singleton.mp hu]; exact hx⟩
  | k + 1 => by
    obtain ⟨h1, h2⟩ := bf_inv hp hx k
    show (bfR d nx T k (bfAt d nx T x k)).1.Nodup ∧ ∀ u ∈ (bfR d nx T k (bfAt d nx T x k)).1, p u
    unfold bfR
    split
    · rename_i h
      exact bfF_inv hp k T _ h h1 h2
    · exact ⟨h1, h2⟩
theorem bfF_head {x : α} (k : Nat) : ∀ (S : List Sg) (a : List α × List Stp), a.1[0]? = some x → (S.foldl (bf1 d nx k) a).1[0]? = some x
  | [], _, h => h
  | q :: S, a, h => by
    refine bfF_head k S _ ?_
    obtain ⟨t, e⟩ := bf1_pre (d := d) (nx := nx) k a q
    rw [← e, List.getElem?_append_left (List.getElem?_eq_some_iff.mp h).1]
    exact h
theorem bf_head (x : α) : ∀ k, (bfAt d nx T x k).1[0]? = some x
  | 0 => rfl
  | k + 1 => by
    show (bfR d nx T k (bfAt d nx T x k)).1[0]? = some x
    unfold bfR
    split
    · exact bfF_head k T _ (bf_head x k)
    · exact bf_head x k
end
/-! ### sure boxes -/
structure Det (c : Bx) : Prop where
  ok : c.Ok
  fn : ∀ i q j j', (i, q, j) ∈ c.sp → (i, q, j') ∈ c.sp → j = j'
section
variable {c : Bx}
theorem pow_bit (i j : Nat) : (2 ^ i).testBit j = true ↔ i = j := by rw [Nat.testBit_two_pow, decide_eq_true_eq]
theorem Det.some (h : Det c) {i j : Nat} {q : Sg} (hm : (i, q, j) ∈ c.sp) : nxS c (2 ^ i) q = some (2 ^ j) := by
  have e : c.behind (2 ^ i) q = 2 ^ j := bits_ext fun k => by
    rw [Bx.behind_bit h.ok, pow_bit]
    constructor
    · rintro ⟨i', hi, hk⟩
      rw [pow_bit] at hi
      subst hi
      exact h.fn _ _ _ _ hm hk
    · rintro rfl
      exact ⟨i, (pow_bit _ _).mpr rfl, hm⟩
  unfold nxS
  rw [e, if_pos (Nat.two_pow_pos j)]
theorem Det.none (h : Det c) {i : Nat} {q : Sg} (hm : ∀ j, (i, q, j) ∉ c.sp) : nxS c (2 ^ i) q = none := by
  have e : c.behind (2 ^ i) q = 0 := bits_ext fun k => by
    rw [Bx.behind_bit h.ok, Nat.zero_testBit]
    constructor
    · rintro ⟨i', hi, hk⟩
      rw [pow_bit] at hi
      subst hi
      exact absurd hk (hm k)
    · intro h; cases h
  unfold nxS
  rw [e, if_neg (Nat.lt_irrefl 0)]
theorem Det.inv (h : Det c) {u : Nat} (hu : ∃ i, i < c.n ∧ u = 2 ^ i) (q : Sg) (y : Nat) (hy : nxS c u q = Option.some y) : ∃ i, i < c.n ∧ y = 2 ^ i := by
  obtain ⟨i, hi, rfl⟩ := hu
  by_cases hm : ∃ j, (i, q, j) ∈ c.sp
  · obtain ⟨j, hj⟩ := hm
    rw [h.some hj] at hy
    exact ⟨j, (h.ok.inp _ hj).2, (Option.some.inj hy).symm⟩
  · rw [h.none fun j hj => hm ⟨j, hj⟩] at hy
    cases hy
theorem start_one {s : Nat} (h : c.st = [s]) : c.start = 2 ^ s := by
  unfold Bx.start
  rw [h]
  show 0 ||| 2 ^ s = 2 ^ s
  exact Nat.zero_or _
theorem pows_few {l : List Nat} {n : Nat} (h : l.Nodup) (hl : ∀ u ∈ l, ∃ i, i < n ∧ u = 2 ^ i) : l.length ≤ n := by
  have := L2.nat_nodup_len (l.map Nat.log2) (List.range n) ?_ fun x hx => ?_
  · rw [List.length_map, List.length_range] at this
    exact this
  · refine List.pairwise_map.mpr (List.Pairwise.imp_of_mem (fun {a b} ha hb hne e => hne ?_) h)
    obtain ⟨i, _, rfl⟩ := hl a ha
    obtain ⟨j, _, rfl⟩ := hl b hb
    rw [Nat.log2_two_pow, Nat.log2_two_pow] at e
    rw [e]
  · obtain ⟨u, hu, rfl⟩ := List.mem_map.mp hx
    obtain ⟨i, hi, rfl⟩ := hl u hu
    rw [Nat.log2_two_pow]
    exact List.mem_range.mpr hi
theorem Det.few (h : Det c) {s : Nat} (hs : c.st = [s]) : (sws c).1.length ≤ c.n := by
  have e : sws c = bfAt 0 (nxS c) c.signs c.start 1000 := by unfold sws; exact swsAt_bf c 1000
  rw [e]
  obtain ⟨h1, h2⟩ := bf_inv (d := 0) (nx := nxS c) (T := c.signs) (p := fun u => ∃ i, i < c.n ∧ u = 2 ^ i) (fun u hu q y => h.inv hu q y) (x := c.start) ⟨s, h.ok.ins s (by rw [hs]; exact List.mem_singleton_self s), start_one hs⟩ 1000
  exact pows_few h1 h2
end
/-! ### the language of a form -/
section
open Classical
/-- c is the form that goes with some languages, X the first -/
structure FormOk (c : Bx) (R : List Wd) (X : Wd) : Prop where
  ok : c.Ok
  st : c.st = [0]
  n : c.n = R.length
  sp : ∀ m : Stp, m ∈ c.sp ↔ ∃ X Y, X ∈ R ∧ nxL X m.2.1 = some Y ∧ m.1 = idx R X ∧ m.2.2 = idx R Y
  nds : c.sp.Nodup
  nd : R.Nodup
  hd : R[0]? = some X
  cl : ∀ X Y q, X ∈ R → nxL X q = some Y → Y ∈ R
theorem join_in {ks : List Nat} {n N : Nat} (h : ∀ i, i < N → ks.getD i 0 < n) {m : Stp} (hm : m.1 < N ∧ m.2.2 < N) : (joinStp ks m).1 < n ∧ (joinStp ks m).2.2 < n := ⟨h _ hm.1, h _ hm.2⟩
theorem join_raw {ks : List Nat} {l : List Nat} {steps : List Stp} {n : Nat} (h0 : 0 < n) (hn : n ≤ l.length) (h : ∀ i, i < l.length → ks.getD i 0 < n) (h2 : l.length ≤ 1000) (h3 : steps.length ≤ 5 * l.length) (hs : ∀ m ∈ steps, m.1 < l.length ∧ m.2.2 < l.length) :
    Raw n [0] (srt rkStp (ddp (steps.map (joinStp ks)))) := by
  refine ⟨by omega, by decide, ?_, fun x hx => ?_, fun m hm => ?_⟩
  · rw [srt_len]
    have := ddp_len (steps.map (joinStp ks))
    rw [List.length_map] at this
    omega
  · rw [List.mem_singleton.mp hx]
    exact h0
  · obtain ⟨m', hm', rfl⟩ := List.mem_map.mp ((ddp_mem _).mp (srt_mem.mp hm))
    exact join_in h (hs m' hm')
theorem formOk_of {n : Nat} {J : List Stp} {R : List Wd} {X : Wd} (raw : Raw n [0] (srt rkStp (ddp J))) (hn : n = R.length) (hJ : ∀ m : Stp, m ∈ J ↔ ∃ X Y, X ∈ R ∧ nxL X m.2.1 = some Y ∧ m.1 = idx R X ∧ m.2.2 = idx R Y)
    (nd : R.Nodup) (hd : R[0]? = some X) (cl : ∀ X Y q, X ∈ R → nxL X q = some Y → Y ∈ R) : FormOk (mkBx n [0] (srt rkStp (ddp J))) R X := by
  refine ⟨raw.ok, ?_, hn, fun m => ?_, ?_, nd, hd, cl⟩
  · exact List.perm_singleton.mp (srt_perm rkN [0])
  · rw [← hJ]
    show m ∈ srt rkStp (srt rkStp (ddp _)) ↔ _
    rw [srt_mem, srt_mem, ddp_mem]
  · exact srt_nodup (srt_nodup (ddp_nodup _))
theorem langs_closed {α : Type} [DecidableEq α] {d : α} {nx : α → Sg → Option α} {T : List Sg} {l : List α} {steps : List Stp} (D : Done d nx T l steps) (hT : ∀ u q, q ∉ T → nx u q = none) (X Y : Wd) (q : Sg) (hX : X ∈ langs nx l) (hY : nxL X q = some Y) : Y ∈ langs nx l := by
  obtain ⟨u, hu, rfl⟩ := (langs_mem X).mp hX
  rw [← lang_nx] at hY
  obtain ⟨y, hy, rfl⟩ := Option.map_eq_some_iff.mp hY
  have hq : q ∈ T := Classical.byContradiction fun z => by rw [hT _ _ z] at hy; cases hy
  have gu : l.getD (idx l u) d = u := getD_at (idx_get hu)
  have := D.cl _ (idx_lt hu) q hq y (by rw [gu]; exact hy)
  exact (langs_mem _).mpr ⟨y, this, rfl⟩
theorem head_of {X : Wd} {R : List Wd} (h : R = (bfAt (fun _ => False) nxL allS X R.length).1) : R[0]? = some X := by
  rw [h]
  exact bf_head _ _
variable {b : Bx}
theorem formOk (h : Small b) : FormOk (formOf b) b.R b.L := by
  unfold formOf
  exact formOk_of (join_raw kindsOf_cnt.1 kindsOf_cnt.2 (fun i hi => kindsOf_lt hi) h.few sws_len2 sws_in) h.cnt h.steps (by unfold Bx.R langs; exact ddp_nodup _) (head_of h.Rbf) (by unfold Bx.R; exact langs_closed h.done fun u q hq => nxS_out hq)
theorem form_le (b : Bx) : (formOf b).n ≤ (sws b).1.length := by
  have : ∀ {n : Nat} {J : List Stp}, (mkBx n [0] J).n = n := rfl
  unfold formOf
  rw [this]
  exact kindsOf_cnt.2
variable {c : Bx} {R : List Wd} {X : Wd}
theorem FormOk.det (F : FormOk c R X) : Det c := by
  refine ⟨F.ok, fun i q j j' h1 h2 => ?_⟩
  obtain ⟨X, Y, hX, hY, e1, e2⟩ := (F.sp _).mp h1
  obtain ⟨X', Y', hX', hY', e1', e2'⟩ := (F.sp _).mp h2
  have e1 : i = idx R X := e1
  have e1' : i = idx R X' := e1'
  have := idx_inj hX hX' (by rw [← e1, ← e1'])
  subst this
  have hY : nxL X q = some Y := hY
  have hY' : nxL X q = some Y' := hY'
  rw [hY] at hY'
  have e2 : j = idx R Y := e2
  have e2' : j' = idx R Y' := e2'
  rw [e2, e2', Option.some.inj hY']
theorem FormOk.sim (F : FormOk c R X) : Sim (nxS c) nxL fun v X => X ∈ R ∧ v = 2 ^ idx R X := by
  rintro v X ⟨hX, rfl⟩ q
  cases hY : nxL X q with
  | none =>
    refine .inl ⟨F.det.none fun j hj => ?_, rfl⟩
    obtain ⟨X', Y, hX', hY', e1, _⟩ := (F.sp _).mp hj
    have := idx_inj hX hX' e1
    subst this
    have hY' : nxL X q = some Y := hY'
    rw [hY] at hY'
    cases hY'
  | some Y =>
    exact .inr ⟨_, Y, F.det.some ((F.sp (_, q, _)).mpr ⟨X, Y, hX, hY, rfl, rfl⟩), rfl, F.cl _ _ _ hX hY, rfl⟩
theorem langL (X : Wd) (hp : ∀ u w, X (u ++ w) → X u) (h0 : X []) : Lang nxL X = X := by
  have key : ∀ (w : List Sg) (X : Wd), (∀ u w, X (u ++ w) → X u) → X [] → ((run nxL X w).isSome = true ↔ X w) := by
    intro w
    induction w with
    | nil => intro X _ h0; exact ⟨fun _ => h0, fun _ => rfl⟩
    | cons q w ih =>
      intro X hp h0
      show ((nxL X q).bind fun Y => run nxL Y w).isSome = true ↔ _
      unfold nxL
      by_cases h : X [q]
      · rw [if_pos h]
        exact ih (fun w => X (q :: w)) (fun u w h => hp (q :: u) w h) h
      · rw [if_neg h]
        refine ⟨fun z => (nomatch z), fun z => absurd (hp [q] w z) h⟩
  funext w
  exact propext (key w X hp h0)
theorem run_app {α : Type} (nx : α → Sg → Option α) : ∀ (u w : List Sg) (x : α), run nx x (u ++ w) = (run nx x u).bind fun y => run nx y w
  | [], _, _ => rfl
  | q :: u, w, x => by
    show (nx x q).bind (fun y => run nx y (u ++ w)) = ((nx x q).bind fun y => run nx y u).bind _
    cases nx x q with
    | none => rfl
    | some y => exact run_app nx u w y
theorem lang_pre {α : Type} {nx : α → Sg → Option α} {x : α} {u w : List Sg} (h : Lang nx x (u ++ w)) : Lang nx x u := by
  unfold Lang at h ⊢
  rw [run_app] at h
  cases hr : run nx x u with
  | none => rw [hr] at h; cases h
  | some y => rfl
theorem lang_nil {α : Type} {nx : α → Sg → Option α} {x : α} : Lang nx x [] := rfl
theorem FormOk.L (F : FormOk c R X) (hp : ∀ u w, X (u ++ w) → X u) (h0 : X []) : c.L = X := by
  have e : c.start = 2 ^ idx R X := by rw [start_one F.st, idx_at F.nd F.hd]
  have := F.sim.lang (u := c.start) (v := X) ⟨List.mem_of_getElem? F.hd, e⟩
  unfold Bx.L
  rw [this]
  exact langL _ hp h0
theorem FormOk.small (F : FormOk c R X) : Small c := ⟨F.ok, by rw [F.st]; exact List.cons_ne_nil _ _, Nat.le_trans (F.det.few F.st) F.ok.n⟩
theorem FormOk.sure (F : FormOk c R X) : c.sure = true := by
  unfold Bx.sure
  rw [F.st, Bool.and_eq_true]
  refine ⟨rfl, decide_eq_true ?_⟩
  rw [ddp_id, List.length_map]
  refine List.pairwise_map.mpr (List.Pairwise.imp_of_mem (fun {m m'} hm hm' hne e => hne ?_) F.nds)
  obtain ⟨i, q, j⟩ := m
  obtain ⟨i', q', j'⟩ := m'
  injection e with e1 e2
  subst e1 e2
  rw [F.det.fn _ _ _ _ hm hm']
/-- THE LANGUAGE OF A FORM -/
theorem form_L (h : Small b) : (formOf b).L = b.L := (formOk h).L (fun u w => by unfold Bx.L; exact lang_pre) (by unfold Bx.L; exact lang_nil)
theorem form_form (h : Small b) : formOf (formOf b) = formOf b := form_eq (formOk h).small h (form_L h)
theorem form_signs (h : Small b) {q : Sg} (hq : q ∈ (formOf b).signs) : q ∈ b.signs := by
  have F := formOk h
  generalize formOf b = c at *
  obtain ⟨i, j, hm⟩ := (c.signs_mem q).mp hq
  obtain ⟨X, Y, hX, hY, _⟩ := (F.sp _).mp hm
  obtain ⟨u, hu, rfl⟩ := (langs_mem X).mp hX
  have hY : nxL _ q = some Y := hY
  rw [← lang_nx] at hY
  obtain ⟨y, hy, _⟩ := Option.map_eq_some_iff.mp hY
  exact Classical.byContradiction fun z => by rw [nxS_out z] at hy; cases hy
end
end K81
set_option Elab.async false
set_option linter.all false
set_option maxRecDepth 100000
set_option maxHeartbeats 2000000
set_option autoImplicit false
/-! K81BH: the rows of a room, plainly. -/
namespace K81
/-! ### the box of a search -/
section
variable {α : Type} [DecidableEq α] {d : α} {nx : α → Sg → Option α} {T : List Sg} {l : List α} {steps : List Stp}
def nxT (T : List Sg) (nx : α → Sg → Option α) (u : α) (q : Sg) : Option α := if q ∈ T then nx u q else none
theorem Done.mem (D : Done d nx T l steps) (m : Stp) : m ∈ steps ↔ ∃ u y, u ∈ l ∧ m.2.1 ∈ T ∧ nx u m.2.1 = some y ∧ m.1 = idx l u ∧ m.2.2 = idx l y := by
  rw [D.st, List.mem_flatMap]
  constructor
  · rintro ⟨i, hi, hm⟩
    have hi := List.mem_range.mp hi
    obtain ⟨q, hq, e⟩ := List.mem_filterMap.mp hm
    obtain ⟨y, hy, rfl⟩ := Option.map_eq_some_iff.mp e
    have gi := get_getD d hi
    exact ⟨l.getD i d, y, List.mem_of_getElem? gi, hq, hy, (idx_at D.nd gi).symm, rfl⟩
  · rintro ⟨u, y, hu, hq, hy, e1, e2⟩
    refine ⟨idx l u, List.mem_range.mpr (idx_lt hu), List.mem_filterMap.mpr ⟨m.2.1, hq, ?_⟩⟩
    rw [getD_at (idx_get hu), hy]
    show some (idx l u, m.2.1, idx l y) = some m
    rw [← e1, ← e2]
structure SrchOk (d : α) (nx : α → Sg → Option α) (T : List Sg) (l : List α) (x : α) (c : Bx) : Prop where
  ok : c.Ok
  st : c.st = [0]
  n : c.n = l.length
  nd : l.Nodup
  hd : l[0]? = some x
  cl : ∀ u, u ∈ l → ∀ q ∈ T, ∀ y, nx u q = some y → y ∈ l
  sp : ∀ m : Stp, m ∈ c.sp ↔ ∃ u y, u ∈ l ∧ m.2.1 ∈ T ∧ nx u m.2.1 = some y ∧ m.1 = idx l u ∧ m.2.2 = idx l y
theorem Done.srch {x : α} (D : Done d nx T l steps) (hx : l[0]? = some x) (raw : Raw l.length [0] steps) : SrchOk d nx T l x (mkBx l.length [0] steps) := by
  refine ⟨raw.ok, List.perm_singleton.mp (srt_perm rkN [0]), rfl, D.nd, hx, fun u hu q hq y hy => ?_, fun m => ?_⟩
  · exact D.cl (idx l u) (idx_lt hu) q hq y (by rw [getD_at (idx_get hu)]; exact hy)
  · rw [← D.mem]
    exact srt_mem
variable {x : α} {c : Bx}
theorem SrchOk.det (S : SrchOk d nx T l x c) : Det c := by
  refine ⟨S.ok, fun i q j j' h1 h2 => ?_⟩
  obtain ⟨u, y, hu, _, hy, e1, e2⟩ := (S.sp _).mp h1
  obtain ⟨u', y', hu', _, hy', e1', e2'⟩ := (S.sp _).mp h2
  have e1 : i = idx l u := e1
  have e1' : i = idx l u' := e1'
  have := idx_inj hu hu' (by rw [← e1, ← e1'])
  subst this
  have hy : nx u q = some y := hy
  have hy' : nx u q = some y' := hy'
  rw [hy] at hy'
  have e2 : j = idx l y := e2
  have e2' : j' = idx l y' := e2'
  rw [e2, e2', Option.some.inj hy']
theorem SrchOk.sim (S : SrchOk d nx T l x c) : Sim (nxS c) (nxT T nx) fun v u => u ∈ l ∧ v = 2 ^ idx l u := by
  rintro v u ⟨hu, rfl⟩ q
  cases hY : nxT T nx u q with
  | none =>
    refine .inl ⟨S.det.none fun j hj => ?_, rfl⟩
    obtain ⟨u', y, hu', hq, hy, e1, _⟩ := (S.sp _).mp hj
    have := idx_inj hu hu' e1
    subst this
    unfold nxT at hY
    have hq : q ∈ T := hq
    have hy : nx u q = some y := hy
    rw [if_pos hq, hy] at hY
    cases hY
  | some y =>
    unfold nxT at hY
    by_cases hq : q ∈ T
    · rw [if_pos hq] at hY
      exact .inr ⟨_, y, S.det.some ((S.sp (_, q, _)).mpr ⟨u, y, hu, hq, hY, rfl, rfl⟩), rfl, S.cl u hu q hq y hY, rfl⟩
    · rw [if_neg hq] at hY
      cases hY
theorem SrchOk.L (S : SrchOk d nx T l x c) : c.L = Lang (nxT T nx) x := by
  have e : c.start = 2 ^ idx l x := by rw [start_one S.st, idx_at S.nd S.hd]
  have := S.sim.lang (u := c.start) (v := x) ⟨List.mem_of_getElem? S.hd, e⟩
  unfold Bx.L
  exact this
theorem SrchOk.small (S : SrchOk d nx T l x c) : Small c := ⟨S.ok, by rw [S.st]; exact List.cons_ne_nil _ _, Nat.le_trans (S.det.few S.st) S.ok.n⟩
theorem SrchOk.few (S : SrchOk d nx T l x c) : (sws c).1.length ≤ l.length := by
  have := S.det.few S.st
  rwa [S.n] at this
theorem SrchOk.signs (S : SrchOk d nx T l x c) {q : Sg} (h : q ∈ c.signs) : q ∈ T := by
  obtain ⟨i, j, hm⟩ := (c.signs_mem q).mp h
  obtain ⟨_, _, _, hq, _⟩ := (S.sp _).mp hm
  exact hq
end
/-! ### the pairs of a room -/
structure RoomIn (bh bw : Bx) (sg : List Sg) : Prop where
  h1 : bh.Ok
  h2 : bw.Ok
  s1 : bh.st ≠ []
  s2 : bw.st ≠ []
  n1 : bh.n ≤ 3
  n2 : bw.n ≤ 4
  nd : sg.Nodup
section
variable {bh bw : Bx} {sg : List Sg}
theorem sg_le5 {l : List Sg} (h : l.Nodup) : l.length ≤ 5 := by
  have := signs_few l
  rwa [ddp_id h] at this
theorem rm_few (I : RoomIn bh bw sg) : (rm bh bw sg).1.length ≤ 128 := by
  unfold rm
  exact (rmAt_ok I.h1 I.h2 128).few I.n1 I.n2
theorem rm_done (I : RoomIn bh bw sg) : Done (0, 0) (onw bh bw) sg (rm bh bw sg).1 (rm bh bw sg).2 := by
  have hf := rm_few I
  have h0 : ∀ {k j : Nat}, k ≤ j → (rmAt bh bw sg k).1 <+: (rmAt bh bw sg j).1 := by
    intro k j hkj
    induction j with
    | zero => rw [Nat.le_zero.mp hkj]; exact List.prefix_refl _
    | succ j ih =>
      rcases Nat.eq_or_lt_of_le hkj with e | e
      · rw [e]; exact List.prefix_refl _
      · exact (ih (Nat.le_of_lt_succ e)).trans (rmAt_pre j)
  have e0 : rm bh bw sg = rmAt bh bw sg 128 := by unfold rm; rfl
  generalize rm bh bw sg = a at *
  have h1 : ¬ a.1.length < (rmAt bh bw sg a.1.length).1.length := by
    have := (h0 hf).length_le
    rw [← e0] at this
    omega
  have h2 : a = rmAt bh bw sg a.1.length := by
    have := rm_stop h1 hf
    rw [← e0] at this
    exact this
  rw [rmAt_bf] at h2
  have := bfAt_ok (d := (0, 0)) (nx := onw bh bw) (T := sg) (bh.start, bw.start) a.1.length (Nat.le_of_eq (by rw [← h2]))
  rw [← h2] at this
  exact this.done'
theorem rm_head : (rm bh bw sg).1[0]? = some (bh.start, bw.start) := by
  unfold rm
  rw [rmAt_bf]
  exact bf_head _ _
theorem rm_srch (I : RoomIn bh bw sg) : SrchOk (0, 0) (onw bh bw) sg (rm bh bw sg).1 (bh.start, bw.start) (rmBox bh bw sg) := by
  unfold rmBox
  exact (rm_done I).srch rm_head (rm_raw I.h1 I.h2 I.n1 I.n2 (sg_le5 I.nd))
/-- how far a pair goes -/
theorem onw_run (h1 : bh.Ok) (h2 : bw.Ok) (sg : List Sg) : ∀ (w : List Sg) (p : Nat × Nat), (0 < p.1 → 0 < p.2) → ((run (nxT sg (onw bh bw)) p w).isSome = true ↔ (∀ q ∈ w, q ∈ sg) ∧ ∀ u, u <+: w → 0 < bh.row p.1 u → 0 < bw.row p.2 u)
  | [], p, hp => by
    refine ⟨fun _ => ⟨fun q hq => (nomatch hq), fun u hu => ?_⟩, fun _ => rfl⟩
    rw [List.prefix_nil.mp hu]
    exact hp
  | q :: w, p, hp => by
    show ((nxT sg (onw bh bw) p q).bind fun y => run (nxT sg (onw bh bw)) y w).isSome = true ↔ _
    unfold nxT
    by_cases hq : q ∈ sg
    · rw [if_pos hq]
      unfold onw
      by_cases hz : bh.behind p.1 q = 0
      · rw [if_pos hz]
        show (run (nxT sg (onw bh bw)) (0, 0) w).isSome = true ↔ _
        rw [onw_run h1 h2 sg w (0, 0) (fun h => h)]
        constructor
        · rintro ⟨a, _⟩
          refine ⟨fun q' hq' => ?_, fun u hu hr => ?_⟩
          · rcases List.mem_cons.mp hq' with rfl | hq'
            · exact hq
            · exact a q' hq'
          · cases u with
            | nil => exact hp hr
            | cons q' u =>
              obtain ⟨rfl, _⟩ := List.cons_prefix_cons.mp hu
              have hr : 0 < bh.row (bh.behind p.1 q') u := hr
              rw [hz, row_zero h1] at hr
              exact absurd hr (Nat.lt_irrefl 0)
        · rintro ⟨a, _⟩
          refine ⟨fun q' hq' => a q' (List.mem_cons_of_mem _ hq'), fun u _ hr => ?_⟩
          have hr : 0 < bh.row 0 u := hr
          rw [row_zero h1] at hr
          exact absurd hr (Nat.lt_irrefl 0)
      · rw [if_neg hz]
        by_cases hw : 0 < bw.behind p.2 q
        · rw [if_pos hw]
          show (run (nxT sg (onw bh bw)) (bh.behind p.1 q, bw.behind p.2 q) w).isSome = true ↔ _
          rw [onw_run h1 h2 sg w (bh.behind p.1 q, bw.behind p.2 q) (fun _ => hw)]
          constructor
          · rintro ⟨a, b⟩
            refine ⟨fun q' hq' => ?_, fun u hu hr => ?_⟩
            · rcases List.mem_cons.mp hq' with rfl | hq'
              · exact hq
              · exact a q' hq'
            · cases u with
              | nil => exact hp hr
              | cons q' u =>
                obtain ⟨rfl, hu2⟩ := List.cons_prefix_cons.mp hu
                exact b u hu2 hr
          · rintro ⟨a, b⟩
            refine ⟨fun q' hq' => a q' (List.mem_cons_of_mem _ hq'), fun u hu hr => b (q :: u) (List.cons_prefix_cons.mpr ⟨rfl, hu⟩) hr⟩
        · rw [if_neg hw]
          refine ⟨fun z => (nomatch z), fun ⟨_, b⟩ => absurd (b [q] (List.cons_prefix_cons.mpr ⟨rfl, List.nil_prefix⟩) ?_) hw⟩
          exact Nat.pos_of_ne_zero hz
    · rw [if_neg hq]
      exact ⟨fun z => (nomatch z), fun ⟨a, _⟩ => absurd (a q List.mem_cons_self) hq⟩
end
/-! ### a room -/
def roomOf (bh bw : Bx) (sg : List Sg) : Bx := formOf (rmBox bh bw sg)
/-- what a room is -/
structure RoomIs (bh bw : Bx) (sg : List Sg) (c : Bx) : Prop where
  ok : c.Ok
  st : c.st = [0]
  n : c.n ≤ 128
  sure : c.sure = true
  det : Det c
  nds : c.sp.Nodup
  form : formOf c = c
  few : (sws c).1.length ≤ 128
  signs : ∀ q ∈ c.signs, q ∈ sg
  gives : ∀ w, c.gives w = true ↔ (∀ q ∈ w, q ∈ sg) ∧ ∀ u, u <+: w → bh.gives u = true → bw.gives u = true
section
variable {bh bw : Bx} {sg : List Sg}
theorem rmBox_small (I : RoomIn bh bw sg) : Small (rmBox bh bw sg) := (rm_srch I).small
theorem rmBox_few (I : RoomIn bh bw sg) : (sws (rmBox bh bw sg)).1.length ≤ 128 := Nat.le_trans (rm_srch I).few (rm_few I)
theorem rmBox_L (I : RoomIn bh bw sg) (w : List Sg) : (rmBox bh bw sg).L w ↔ (∀ q ∈ w, q ∈ sg) ∧ ∀ u, u <+: w → bh.gives u = true → bw.gives u = true := by
  rw [(rm_srch I).L]
  show (run (nxT sg (onw bh bw)) (bh.start, bw.start) w).isSome = true ↔ _
  rw [onw_run I.h1 I.h2 sg w (bh.start, bw.start) fun _ => start_pos I.s2]
  unfold Bx.gives
  refine and_congr Iff.rfl (forall_congr' fun u => forall_congr' fun _ => ?_)
  rw [decide_eq_true_eq, decide_eq_true_eq]
theorem roomIs_of {b : Bx} (h : Small b) (hf : (sws b).1.length ≤ 128) (hs : ∀ q ∈ b.signs, q ∈ sg) (hL : ∀ w, b.L w ↔ (∀ q ∈ w, q ∈ sg) ∧ ∀ u, u <+: w → bh.gives u = true → bw.gives u = true) : RoomIs bh bw sg (formOf b) := by
  have F := formOk h
  have hn := form_le b
  have e1 := form_form h
  have e2 := form_L h
  have e3 : ∀ q ∈ (formOf b).signs, q ∈ b.signs := fun q => form_signs h
  generalize formOf b = c at *
  refine ⟨F.ok, F.st, Nat.le_trans hn hf, F.sure, F.det, F.nds, e1, Nat.le_trans (F.det.few F.st) (Nat.le_trans hn hf), fun q hq => hs q (e3 q hq), fun w => ?_⟩
  rw [gives_L F.ok F.small.st, e2]
  exact hL w
theorem roomIs (I : RoomIn bh bw sg) : RoomIs bh bw sg (roomOf bh bw sg) := by
  unfold roomOf
  exact roomIs_of (rmBox_small I) (rmBox_few I) (fun q => (rm_srch I).signs) (rmBox_L I)
theorem RoomIn.rev (I : RoomIn bh bw sg) : RoomIn bh bw sg.reverse := ⟨I.h1, I.h2, I.s1, I.s2, I.n1, I.n2, (List.reverse_perm sg).nodup_iff.mpr I.nd⟩
theorem room_rev (I : RoomIn bh bw sg) : roomOf bh bw sg.reverse = roomOf bh bw sg := by
  unfold roomOf
  refine form_eq (rmBox_small I.rev) (rmBox_small I) (funext fun w => propext ?_)
  rw [rmBox_L I, rmBox_L I.rev]
  refine and_congr ⟨fun h q hq => List.mem_reverse.mp (h q hq), fun h q hq => List.mem_reverse.mpr (h q hq)⟩ Iff.rfl
theorem rm_nil (k : Nat) : rmAt bh bw [] k = ([(bh.start, bw.start)], []) := by
  induction k with
  | zero => rfl
  | succ k ih =>
    show rmR bh bw [] k (rmAt bh bw [] k) = _
    rw [ih]
    unfold rmR
    split <;> rfl
theorem room_nil (I : RoomIn bh bw []) : roomOf bh bw [] = mkBx 1 [0] [] := by
  have h := roomIs I
  have hn : (roomOf bh bw []).n ≤ 1 := by
    unfold roomOf
    refine Nat.le_trans (form_le _) (Nat.le_trans (rm_srch I).few ?_)
    unfold rm
    rw [rm_nil]
    exact Nat.le_refl 1
  generalize roomOf bh bw [] = c at *
  have h0 : 0 < c.n := h.ok.ins 0 (by rw [h.st]; exact List.mem_singleton_self 0)
  have hsp : c.sp = [] := by
    cases hc : c.sp with
    | nil => rfl
    | cons m l =>
      have : m.2.1 ∈ c.signs := (c.signs_mem _).mpr ⟨m.1, m.2.2, by rw [hc]; exact List.mem_cons_self⟩
      exact nomatch h.signs _ this
  have hst := h.st
  obtain ⟨n, st, sp⟩ := c
  have e1 : n = 1 := by
    have hn : n ≤ 1 := hn
    have h0 : 0 < n := h0
    omega
  have hst : st = [0] := hst
  have hsp : sp = [] := hsp
  subst e1 hst hsp
  unfold mkBx
  rw [show srt rkN [0] = [0] from List.perm_singleton.mp (srt_perm rkN [0]), show srt rkStp [] = [] from List.perm_nil.mp (srt_perm rkStp [])]
end
end K81
set_option Elab.async false
set_option linter.all false
set_option maxRecDepth 100000
set_option maxHeartbeats 2000000
set_option autoImplicit false
/-! K81BI: whether a box stands for another one; boxes in step, plainly. -/
namespace K81
theorem forth_bit {b : Bx} (h : b.Ok) (q : Sg) (i j : Nat) : ((b.forth q).getD i 0).testBit j = true ↔ (i, q, j) ∈ b.sp := by
  unfold Bx.forth
  rw [setsBy_bit (fun p hp => (h.inp _ ((b.prs_mem q p).mp hp)).1), Bx.prs_mem]
theorem goal_mem {b : Bx} (h : b.Ok) {s : Nat} {q : Sg} {g : Nat} : (q ∈ b.outs s ∧ g ∈ b.goals s q) ↔ (s, q, g) ∈ b.sp := by
  unfold Bx.goals Bx.outs
  rw [statesIn_mem, forth_bit h, List.mem_filter, decide_eq_true_eq]
  refine ⟨fun z => z.2, fun z => ⟨⟨(b.signs_mem q).mpr ⟨_, _, z⟩, Nat.pos_of_ne_zero fun e => ?_⟩, z⟩⟩
  have := (forth_bit h q s g).mpr z
  rw [e, Nat.zero_testBit] at this
  cases this
theorem row_snoc' (b : Bx) (x : Nat) (r : List Sg) (s : Sg) : b.row x (r ++ [s]) = b.behind (b.row x r) s := by unfold Bx.row; rw [List.foldl_append]; rfl
theorem bit_pos {x j : Nat} (h : x.testBit j = true) : 0 < x := Nat.pos_of_ne_zero fun e => by rw [e, Nat.zero_testBit] at h; cases h
theorem pos_bit {x : Nat} (h : 0 < x) : ∃ j, x.testBit j = true := Classical.byContradiction fun z => by
  have : x = 0 := Nat.eq_of_testBit_eq fun j => by
    rw [Nat.zero_testBit]
    cases q : x.testBit j with
    | false => rfl
    | true => exact absurd ⟨j, q⟩ z
  omega
section
variable {one other : Bx} {a : List Came × List T3}
structure MsI (one other : Bx) (a : List Came × List T3) : Prop where
  reach : ∀ c ∈ a.1, ∃ u, (one.row one.start u).testBit c.1.1 = true ∧ c.1.2 = other.row other.start u
  clos : ∀ c ∈ a.1, c.1 ∈ a.2.map (·.2) ∨ ∀ q g, (c.1.1, q, g) ∈ one.sp → other.behind c.1.2 q ≠ 0 ∧ (g, other.behind c.1.2 q) ∈ a.1.map (·.1)
theorem nf1_keeps (a : NfS) (f : Fur) {p : Nat × Nat} (h : p ∈ a.1.1.map (·.1)) : p ∈ (nf1 a f).1.1.map (·.1) := by
  unfold nf1
  split
  · exact h
  · show p ∈ (a.1.1 ++ _).map _
    rw [List.map_append]
    exact List.mem_append_left _ h
theorem nf1_has (a : NfS) (f : Fur) : (f.2.2.1, f.2.2.2.1) ∈ (nf1 a f).1.1.map (·.1) := by
  unfold nf1
  split
  · assumption
  · show _ ∈ (a.1.1 ++ _).map _
    rw [List.map_append]
    exact List.mem_append_right _ (List.mem_singleton.mpr rfl)
theorem nfF_keeps : ∀ (l : List Fur) (a : NfS) {p : Nat × Nat}, p ∈ a.1.1.map (·.1) → p ∈ (l.foldl nf1 a).1.1.map (·.1)
  | [], _, _, h => h
  | f :: l, a, _, h => nfF_keeps l _ (nf1_keeps a f h)
theorem nfF_has : ∀ (l : List Fur) (a : NfS) {f : Fur}, f ∈ l → (f.2.2.1, f.2.2.2.1) ∈ (l.foldl nf1 a).1.1.map (·.1)
  | [], _, _, h => nomatch h
  | g :: l, a, f, h => by
    rcases List.mem_cons.mp h with rfl | h
    · exact nfF_keeps l _ (nf1_has a f)
    · exact nfF_has l _ h
theorem MsI.next (h1 : one.Ok) (ok : MsOk one other a) (I : MsI one other a) (hd : (furOf one other a.2).any dead = false) : MsI one other (nf a.1 (furOf one other a.2)).1 := by
  obtain ⟨N, k⟩ := nf_ok ok.nd (furOf one other a.2)
  have hall := List.any_eq_false.mp hd
  refine ⟨fun c hc => ?_, fun c hc => ?_⟩
  · rw [k.came] at hc
    rcases List.mem_append.mp hc with hc | hc
    · exact I.reach c hc
    · obtain ⟨f, hf, rfl⟩ := k.old c hc
      obtain ⟨t, ht, q, hq, g, hg, rfl⟩ := furOf_mem.mp hf
      obtain ⟨c0, hc0, e⟩ := List.mem_map.mp (ok.fin t ht)
      obtain ⟨u, hu1, hu2⟩ := I.reach c0 hc0
      rw [e] at hu1 hu2
      refine ⟨u ++ [q], ?_, ?_⟩
      · rw [row_snoc', Bx.behind_bit h1]
        exact ⟨_, hu1, (goal_mem h1).mp ⟨hq, hg⟩⟩
      · rw [row_snoc', ← hu2]
  · rw [k.came] at hc
    rcases List.mem_append.mp hc with hc | hc
    · right
      intro q g hm
      rcases I.clos c hc with hf | hcl
      · obtain ⟨t, ht, e⟩ := List.mem_map.mp hf
        have hmem : (t.1, q, g, other.behind t.2.2 q, t.2) ∈ furOf one other a.2 := by
          rw [← e] at hm
          obtain ⟨hq, hg⟩ := (goal_mem h1).mpr hm
          exact furOf_mem.mpr ⟨t, ht, q, hq, g, hg, rfl⟩
        have hnd := hall _ hmem
        unfold dead at hnd
        have hnd : ¬ other.behind t.2.2 q = 0 := by simpa using hnd
        rw [e] at hnd
        refine ⟨hnd, ?_⟩
        have := nfF_has (furOf one other a.2) ((a.1, []), (none, 0)) hmem
        rw [← e]
        exact this
      · obtain ⟨x1, x2⟩ := hcl q g hm
        exact ⟨x1, nfF_keeps (furOf one other a.2) ((a.1, []), (none, 0)) x2⟩
    · left
      rw [k.found]
      exact List.mem_map.mpr ⟨c, hc, rfl⟩
/-- each row of one is a row of other -/
def Incl (one other : Bx) : Prop := ∀ u, one.gives u = true → other.gives u = true
theorem dead_not (h1 : one.Ok) (ok : MsOk one other a) (I : MsI one other a) (hi : Incl one other) : (furOf one other a.2).any dead = false := by
  refine List.any_eq_false.mpr fun f hf hdd => ?_
  obtain ⟨t, ht, q, hq, g, hg, rfl⟩ := furOf_mem.mp hf
  have hz : other.behind t.2.2 q = 0 := of_decide_eq_true hdd
  obtain ⟨c0, hc0, e⟩ := List.mem_map.mp (ok.fin t ht)
  obtain ⟨u, hu1, hu2⟩ := I.reach c0 hc0
  rw [e] at hu1 hu2
  have hb : (one.row one.start (u ++ [q])).testBit g = true := by
    rw [row_snoc', Bx.behind_bit h1]
    exact ⟨_, hu1, (goal_mem h1).mp ⟨hq, hg⟩⟩
  have := hi (u ++ [q]) (decide_eq_true (bit_pos hb))
  have := of_decide_eq_true this
  rw [row_snoc', ← hu2, hz] at this
  exact Nat.lt_irrefl 0 this
theorem miss_of (h1 : one.Ok) (h2 : other.Ok) (hi : Incl one other) : ∀ (k : Nat) (a : List Came × List T3), MsOk one other a → MsI one other a → miss one other k a = true
  | 0, _, _, _ => rfl
  | k + 1, a, ok, I => by
    unfold miss
    have hd := dead_not h1 ok I hi
    rw [hd, if_neg Bool.false_ne_true]
    split
    · rfl
    · exact miss_of h1 h2 hi k _ (ok.next h1 h2).1 (I.next h1 ok hd)
/-- at the end -/
structure MsE (one other : Bx) (a : List Came × List T3) (C : List (Nat × Nat)) : Prop where
  sub : ∀ c ∈ a.1, c.1 ∈ C
  cl : ∀ p ∈ C, ∀ q g, (p.1, q, g) ∈ one.sp → other.behind p.2 q ≠ 0 ∧ (g, other.behind p.2 q) ∈ C
theorem miss_end (h1 : one.Ok) (h2 : other.Ok) : ∀ (k : Nat) (a : List Came × List T3), MsOk one other a → MsI one other a → Fuel one other k a → miss one other k a = true → ∃ C, MsE one other a C
  | k, a, ok, I, hf, hm => by
    by_cases he : a.2 = []
    · refine ⟨a.1.map (·.1), fun c hc => List.mem_map.mpr ⟨c, hc, rfl⟩, fun p hp q g hpm => ?_⟩
      obtain ⟨c, hc, rfl⟩ := List.mem_map.mp hp
      rcases I.clos c hc with h | h
      · rw [he] at h
        cases h
      · exact h q g hpm
    · obtain ⟨j, rfl, hj⟩ := fuel_step h1 h2 ok hf he
      unfold miss at hm
      rw [if_neg he] at hm
      have hd : (furOf one other a.2).any dead = false := by
        cases hx : (furOf one other a.2).any dead with
        | false => rfl
        | true => rw [hx, if_pos rfl] at hm; cases hm
      rw [hd, if_neg Bool.false_ne_true] at hm
      obtain ⟨C, E⟩ := miss_end h1 h2 j _ (ok.next h1 h2).1 (I.next h1 ok hd) hj hm
      obtain ⟨N, k'⟩ := nf_ok ok.nd (furOf one other a.2)
      exact ⟨C, fun c hc => E.sub c (by rw [k'.came]; exact List.mem_append_left _ hc), E.cl⟩
theorem ms0_I : MsI one other (ms0 one other) := by
  refine ⟨fun c hc => ?_, fun c hc => ?_⟩
  · obtain ⟨s, hs, rfl⟩ := List.mem_map.mp hc
    exact ⟨[], (one.start_bit s).mpr hs, rfl⟩
  · left
    obtain ⟨s, hs, rfl⟩ := List.mem_map.mp hc
    exact List.mem_map.mpr ⟨_, List.mem_map.mpr ⟨s, hs, rfl⟩, rfl⟩
theorem end_row (h1 : one.Ok) (hs : other.st ≠ []) {C : List (Nat × Nat)} (E : MsE one other (ms0 one other) C) (u : List Sg) : (∀ s, (one.row one.start u).testBit s = true → (s, other.row other.start u) ∈ C) ∧ (0 < one.row one.start u → 0 < other.row other.start u) := by
  induction u using snoc_ind with
  | h0 =>
    refine ⟨fun s h => ?_, fun _ => start_pos hs⟩
    have := (one.start_bit s).mp h
    exact E.sub _ (List.mem_map.mpr ⟨s, this, rfl⟩)
  | h1 u q ih =>
    rw [row_snoc', row_snoc']
    have key : ∀ g, (one.behind (one.row one.start u) q).testBit g = true → other.behind (other.row other.start u) q ≠ 0 ∧ (g, other.behind (other.row other.start u) q) ∈ C := fun g hg => by
      obtain ⟨s, h3, h4⟩ := (Bx.behind_bit h1 _ _ _).mp hg
      exact E.cl _ (ih.1 s h3) q g h4
    refine ⟨fun g hg => (key g hg).2, fun hp => ?_⟩
    obtain ⟨g, hg⟩ := pos_bit hp
    exact Nat.pos_of_ne_zero (key g hg).1
/-- STANDING: each row of one is a row of other -/
theorem stands_iff (h1 : one.Ok) (h2 : other.Ok) (hn : one.st.Nodup) (hs : other.st ≠ []) : stands one other = true ↔ Incl one other := by
  have ok := ms0_ok h1 h2 hn
  unfold stands
  constructor
  · intro h u hu
    obtain ⟨C, E⟩ := miss_end h1 h2 _ _ ok ms0_I fuel0 h
    exact decide_eq_true ((end_row h1 hs E u).2 (of_decide_eq_true hu))
  · exact fun h => miss_of h1 h2 h _ _ ok ms0_I
end
/-! ### in step -/
section
variable {one other : Bx}
theorem inSteps_mem (m : Stp) : m ∈ inSteps one other ↔ ∃ i j k l, (i, m.2.1, j) ∈ one.sp ∧ (k, m.2.1, l) ∈ other.sp ∧ m.1 = i * other.n + k ∧ m.2.2 = j * other.n + l := by
  unfold inSteps
  rw [List.mem_flatMap]
  constructor
  · rintro ⟨x, hx, hm⟩
    unfold inStepM at hm
    obtain ⟨y, hy, rfl⟩ := List.mem_map.mp hm
    obtain ⟨hy1, e⟩ := List.mem_filter.mp hy
    have e := of_decide_eq_true e
    obtain ⟨i, q, j⟩ := x
    obtain ⟨k, q', l⟩ := y
    have e : q = q' := e
    subst e
    exact ⟨i, j, k, l, hx, hy1, rfl, rfl⟩
  · rintro ⟨i, j, k, l, h1, h2, e1, e2⟩
    refine ⟨_, h1, ?_⟩
    unfold inStepM
    refine List.mem_map.mpr ⟨_, List.mem_filter.mpr ⟨h2, decide_eq_true rfl⟩, ?_⟩
    show (i * other.n + k, m.2.1, j * other.n + l) = m
    rw [← e1, ← e2]
theorem pair_inj {n a b c d : Nat} (h1 : b < n) (h2 : d < n) (h : a * n + b = c * n + d) : a = c ∧ b = d := by
  have e1 : (a * n + b) / n = a := by rw [Nat.mul_comm, Nat.mul_add_div (by omega), Nat.div_eq_of_lt h1, Nat.add_zero]
  have e2 : (c * n + d) / n = c := by rw [Nat.mul_comm, Nat.mul_add_div (by omega), Nat.div_eq_of_lt h2, Nat.add_zero]
  have : a = c := by rw [← e1, ← e2, h]
  subst this
  exact ⟨rfl, by omega⟩
theorem inStep_ok (h : stDom (one, other)) : (inStep one other).Ok := (inStep_raw h).ok
theorem inStep_row (h : stDom (one, other)) (u : List Sg) : ∀ x, ((inStep one other).row (inStep one other).start u).testBit x = true ↔ ∃ i k, (one.row one.start u).testBit i = true ∧ (other.row other.start u).testBit k = true ∧ k < other.n ∧ x = i * other.n + k := by
  have h1 : one.Ok := h.1
  have h2 : other.Ok := h.2.1
  induction u using snoc_ind with
  | h0 =>
    intro x
    show ((inStep one other).start).testBit x = true ↔ ∃ i k, one.start.testBit i = true ∧ other.start.testBit k = true ∧ _
    rw [Bx.start_bit]
    show x ∈ srt rkN (bothStarts one other) ↔ _
    rw [srt_mem]
    unfold bothStarts
    rw [List.mem_flatMap]
    constructor
    · rintro ⟨i, hi, hx⟩
      obtain ⟨k, hk, rfl⟩ := List.mem_map.mp hx
      exact ⟨i, k, (one.start_bit i).mpr hi, (other.start_bit k).mpr hk, h2.ins k hk, rfl⟩
    · rintro ⟨i, k, hi, hk, _, rfl⟩
      exact ⟨i, (one.start_bit i).mp hi, List.mem_map.mpr ⟨k, (other.start_bit k).mp hk, rfl⟩⟩
  | h1 u q ih =>
    intro x
    rw [row_snoc', row_snoc', row_snoc', Bx.behind_bit (inStep_ok h)]
    constructor
    · rintro ⟨y, hy, hm⟩
      obtain ⟨i, k, hi, hk, hkn, rfl⟩ := (ih y).mp hy
      obtain ⟨i', j, k', l, m1, m2, e1, e2⟩ := (inSteps_mem _).mp (srt_mem.mp hm)
      have m1 : (i', q, j) ∈ one.sp := m1
      have m2 : (k', q, l) ∈ other.sp := m2
      obtain ⟨rfl, rfl⟩ := pair_inj hkn (h2.inp _ m2).1 e1
      exact ⟨j, l, (Bx.behind_bit h1 _ _ _).mpr ⟨i, hi, m1⟩, (Bx.behind_bit h2 _ _ _).mpr ⟨k, hk, m2⟩, (h2.inp _ m2).2, e2⟩
    · rintro ⟨j, l, hj, hl, _, rfl⟩
      obtain ⟨i, hi, m1⟩ := (Bx.behind_bit h1 _ _ _).mp hj
      obtain ⟨k, hk, m2⟩ := (Bx.behind_bit h2 _ _ _).mp hl
      exact ⟨i * other.n + k, (ih _).mpr ⟨i, k, hi, hk, (h2.inp _ m2).1, rfl⟩, srt_mem.mpr ((inSteps_mem _).mpr ⟨i, j, k, l, m1, m2, rfl, rfl⟩)⟩
/-- the rows of both -/
theorem inStep_gives (h : stDom (one, other)) (u : List Sg) : (inStep one other).gives u = true ↔ one.gives u = true ∧ other.gives u = true := by
  have h2 : other.Ok := h.2.1
  unfold Bx.gives
  rw [decide_eq_true_eq, decide_eq_true_eq, decide_eq_true_eq]
  constructor
  · intro hp
    obtain ⟨x, hx⟩ := pos_bit hp
    obtain ⟨i, k, hi, hk, _, _⟩ := (inStep_row h u x).mp hx
    exact ⟨bit_pos hi, bit_pos hk⟩
  · rintro ⟨ha, hb⟩
    obtain ⟨i, hi⟩ := pos_bit ha
    obtain ⟨k, hk⟩ := pos_bit hb
    have hk2 : k < other.n := bit_lt (Bx.row_lt h2 u (Bx.start_lt h2)) hk
    exact bit_pos ((inStep_row h u (i * other.n + k)).mpr ⟨i, k, hi, hk, hk2, rfl⟩)
theorem nodup_fm {α β : Type} {f : α → List β} : ∀ {l : List α}, l.Nodup → (∀ a ∈ l, (f a).Nodup) → (∀ a ∈ l, ∀ b ∈ l, a ≠ b → ∀ x ∈ f a, x ∉ f b) → (l.flatMap f).Nodup
  | [], _, _, _ => List.nodup_nil
  | a :: l, h, h1, h2 => by
    rw [List.nodup_cons] at h
    rw [List.flatMap_cons, List.nodup_append]
    refine ⟨h1 a List.mem_cons_self, nodup_fm h.2 (fun b hb => h1 b (List.mem_cons_of_mem _ hb)) (fun b hb c hc => h2 b (List.mem_cons_of_mem _ hb) c (List.mem_cons_of_mem _ hc)), fun x hx y hy e => ?_⟩
    obtain ⟨b, hb, hy⟩ := List.mem_flatMap.mp hy
    exact h2 a List.mem_cons_self b (List.mem_cons_of_mem _ hb) (fun z => h.1 (z ▸ hb)) x hx (e ▸ hy)
theorem inStep_nodup (h : stDom (one, other)) (h1 : one.st.Nodup) (h2 : other.st.Nodup) : (inStep one other).st.Nodup := by
  show (srt rkN (bothStarts one other)).Nodup
  refine srt_nodup ?_
  unfold bothStarts
  have hk : ∀ k ∈ other.st, k < other.n := h.2.1.ins
  refine nodup_fm h1 (fun i _ => List.pairwise_map.mpr (h2.imp fun hne e => hne (by omega))) fun a _ b _ hne x hx hy => ?_
  obtain ⟨k, h3, e1⟩ := List.mem_map.mp hx
  obtain ⟨l, h4, e2⟩ := List.mem_map.mp hy
  exact hne (pair_inj (hk k h3) (hk l h4) (e1.trans e2.symm)).1
theorem inStep_n (one other : Bx) : (inStep one other).n = one.n * other.n := rfl
end
/-- a sure box has few steps -/
theorem det_steps {c : Bx} (h : Det c) (hn : c.sp.Nodup) : c.sp.length ≤ c.n * 5 := by
  have := key_few (l := c.sp.map fun m => (m.1, m.2.1.val)) (n := c.n) (m := 5) ?_ fun p hp => ?_
  · rwa [List.length_map] at this
  · refine List.pairwise_map.mpr (List.Pairwise.imp_of_mem (fun {m m'} hm hm' hne e => hne ?_) hn)
    obtain ⟨i, q, j⟩ := m
    obtain ⟨i', q', j'⟩ := m'
    injection e with e1 e2
    have e3 : q = q' := Fin.ext e2
    have e1 : i = i' := e1
    subst e1
    subst e3
    rw [h.fn _ _ _ _ hm hm']
  · obtain ⟨m, hm, rfl⟩ := List.mem_map.mp hp
    exact ⟨(h.ok.inp m hm).1, m.2.1.isLt⟩
end K81
set_option Elab.async false
set_option linter.all false
set_option maxRecDepth 100000
set_option maxHeartbeats 2000000
set_option autoImplicit false
/-! K81BJ: a room is the greatest box, plainly. -/
namespace K81
theorem gives_pre {b : Bx} (hb : b.Ok) (hs : b.st ≠ []) {u w : List Sg} (h : b.gives w = true) (hu : u <+: w) : b.gives u = true := by
  obtain ⟨t, rfl⟩ := hu
  rw [gives_L hb hs] at h ⊢
  unfold Bx.L at h ⊢
  exact lang_pre h
theorem gives_signs {b : Bx} (hb : b.Ok) : ∀ (w : List Sg) (x : Nat), 0 < b.row x w → ∀ q ∈ w, q ∈ b.signs
  | [], _, _, _, hq => nomatch hq
  | p :: w, x, h, q, hq => by
    have h : 0 < b.row (b.behind x p) w := h
    have hp : p ∈ b.signs := Classical.byContradiction fun z => by
      have e : b.behind x p = 0 := by unfold Bx.behind; rw [if_neg z]
      rw [e, row_zero hb] at h
      exact Nat.lt_irrefl 0 h
    rcases List.mem_cons.mp hq with rfl | hq
    · exact hp
    · exact gives_signs hb w _ h q hq
section
variable {bh bw c : Bx} {sg : List Sg}
/-- the rows that a room gives -/
def Good (bh bw : Bx) (sg : List Sg) (w : List Sg) : Prop := (∀ q ∈ w, q ∈ sg) ∧ ∀ u, u <+: w → bh.gives u = true → bw.gives u = true
theorem room_fits (I : RoomIn bh bw sg) (R : RoomIs bh bw sg c) (hn : bh.st.Nodup) (hd : stDom (bh, c)) : stands (inStep bh c) bw = true := by
  refine (stands_iff (inStep_ok hd) I.h2 (inStep_nodup hd hn (by rw [R.st]; exact List.nodup_cons.mpr ⟨List.not_mem_nil, List.nodup_nil⟩)) I.s2).mpr fun u hu => ?_
  obtain ⟨h1, h2⟩ := (inStep_gives hd u).mp hu
  exact ((R.gives u).mp h2).2 u (List.prefix_refl u) h1
theorem room_greatest (I : RoomIn bh bw sg) (R : RoomIs bh bw sg c) (hn : bh.st.Nodup) {g : Bx} (hg : g.Ok) (hs : g.st ≠ []) (hgn : g.st.Nodup) (hsg : ∀ q ∈ g.signs, q ∈ sg) (hd : stDom (bh, g)) : stands (inStep bh g) bw = stands g c := by
  refine Bool.eq_iff_iff.mpr ?_
  rw [stands_iff (inStep_ok hd) I.h2 (inStep_nodup hd hn hgn) I.s2, stands_iff hg R.ok hgn (by rw [R.st]; exact List.cons_ne_nil _ _)]
  constructor
  · intro h w hw
    refine (R.gives w).mpr ⟨fun q hq => hsg q (gives_signs hg w _ (of_decide_eq_true hw) q hq), fun u hu h1 => ?_⟩
    exact h u ((inStep_gives hd u).mpr ⟨h1, gives_pre hg hs hw hu⟩)
  · intro h u hu
    obtain ⟨h1, h2⟩ := (inStep_gives hd u).mp hu
    exact ((R.gives u).mp (h u h2)).2 u (List.prefix_refl u) h1
theorem room_dom (I : RoomIn bh bw sg) (R : RoomIs bh bw sg c) (hst : bh.st.length ≤ 100) (hsp : bh.sp.length ≤ 100) : stDom (bh, c) := by
  have h1 := I.n1
  have h2 := R.n
  have h3 := det_steps R.det R.nds
  refine ⟨I.h1, R.ok, ?_, ?_, ?_⟩
  · exact Nat.le_trans (Nat.mul_le_mul h1 h2) (by decide)
  · show bh.st.length * c.st.length ≤ _
    rw [R.st]
    show bh.st.length * 1 ≤ _
    omega
  · exact Nat.le_trans (Nat.mul_le_mul hsp (Nat.le_trans h3 (Nat.mul_le_mul_right 5 h2))) (by decide)
theorem mul_le {a b c d : Nat} (h1 : a ≤ c) (h2 : b ≤ d) : a * b ≤ c * d := Nat.mul_le_mul h1 h2
/-- the sizes that missing_of wants -/
theorem ms_dom {one other : Bx} (h1 : one.Ok) (h2 : other.Ok) (hn : one.st.Nodup) {n m : Nat} (a : one.n ≤ n) (b : other.n ≤ m) (h3 : n * 2 ^ m ≤ 1000000) (h4 : n * 2 ^ m * (5 * n) ≤ 12000000) : msDom (one, other) := by
  have e : one.n * 2 ^ other.n ≤ n * 2 ^ m := mul_le a (Nat.pow_le_pow_right (by decide) b)
  exact ⟨h1, h2, hn, Nat.le_trans e h3, Nat.le_trans (mul_le e (Nat.mul_le_mul_left 5 a)) h4⟩
theorem room_ms (I : RoomIn bh bw sg) (R : RoomIs bh bw sg c) (hn : bh.st.Nodup) (hst : bh.st.length ≤ 100) (hsp : bh.sp.length ≤ 100) : msDom (inStep bh c, bw) := by
  have hd := room_dom I R hst hsp
  refine ms_dom (n := 384) (m := 4) (inStep_ok hd) I.h2 (inStep_nodup hd hn (by rw [R.st]; exact List.nodup_cons.mpr ⟨List.not_mem_nil, List.nodup_nil⟩)) ?_ I.n2 (by decide) (by decide)
  rw [inStep_n]
  exact mul_le (c := 3) (d := 128) I.n1 R.n
end
end K81
set_option Elab.async false
set_option linter.all false
set_option maxRecDepth 100000
set_option maxHeartbeats 2000000
set_option autoImplicit false
/-! K81CI: _law_runs. -/
namespace K81
open PySem PySem.Spec L2
open PyProof.Rows (envOfC)
def rRow (w : List Sg) : Rep := rLst (w.map rSg)
abbrev It3 := List Sg × List Nat × List Nat
def rIt (x : It3) : Rep := rTup [rRow x.1, rLst (x.2.1.map rNat), rLst (x.2.2.map rNat)]
/-! ### plainly -/
section
variable {dl dr : Dl} {told : List Sg}
structure ItGood (dl dr : Dl) (told : List Sg) (x : It3) : Prop where
  good : Good dl.bx dr.bx told x.1
  here : ∀ j, j ∈ x.2.1 ↔ (dl.bx.row dl.bx.start x.1).testBit j = true
  there : ∀ j, j ∈ x.2.2 ↔ (dr.bx.row dr.bx.start x.1).testBit j = true
theorem bhd_bit {d : Dl} (h : d.bx.Ok) {here : List Nat} {x : Nat} (hh : ∀ j, j ∈ here ↔ x.testBit j = true) (q : Sg) (j : Nat) : j ∈ bhd d here q ↔ (d.bx.behind x q).testBit j = true := by
  unfold bhd
  rw [nums_mem, Bx.behind_bit h, List.mem_map]
  constructor
  · rintro ⟨m, hm, rfl⟩
    obtain ⟨hm1, hc⟩ := List.mem_filter.mp hm
    rw [Bool.and_eq_true, decide_eq_true_eq, decide_eq_true_eq] at hc
    obtain ⟨i, p, g⟩ := m
    have hc2 : p = q := hc.2
    subst hc2
    exact ⟨i, (hh i).mp hc.1, srt_mem.mpr hm1⟩
  · rintro ⟨i, hi, hm⟩
    refine ⟨(i, q, j), List.mem_filter.mpr ⟨srt_mem.mp hm, ?_⟩, rfl⟩
    rw [Bool.and_eq_true, decide_eq_true_eq, decide_eq_true_eq]
    exact ⟨(hh i).mpr hi, rfl⟩
theorem ne_nil_bit {l : List Nat} {x : Nat} (h : ∀ j, j ∈ l ↔ x.testBit j = true) : l ≠ [] ↔ 0 < x := by
  constructor
  · intro hn
    cases l with
    | nil => exact absurd rfl hn
    | cons a l => exact bit_pos ((h a).mp List.mem_cons_self)
  · intro hp e
    obtain ⟨j, hj⟩ := pos_bit hp
    have := (h j).mpr hj
    rw [e] at this
    cases this
structure RunsIn (dl dr : Dl) (told : List Sg) : Prop where
  h1 : dl.bx.Ok
  h2 : dr.bx.Ok
  l1 : dl.mv.length < 64
  l2 : dr.mv.length < 64
  s2 : dr.bx.st ≠ []
  tl : told.length ≤ 5
theorem it_step (I : RunsIn dl dr told) {x : It3} (h : ItGood dl dr told x) {q : Sg} (hq : q ∈ told) :
    (bhd dl x.2.1 q ≠ [] ∧ bhd dr x.2.2 q = [] → ¬ Good dl.bx dr.bx told (x.1 ++ [q])) ∧ (¬ (bhd dl x.2.1 q ≠ [] ∧ bhd dr x.2.2 q = []) → ItGood dl dr told (x.1 ++ [q], bhd dl x.2.1 q, bhd dr x.2.2 q)) := by
  have b1 := fun j => bhd_bit I.h1 h.here q j
  have b2 := fun j => bhd_bit I.h2 h.there q j
  rw [← row_snoc'] at b1 b2
  have c1 := ne_nil_bit b1
  have c2 := ne_nil_bit b2
  constructor
  · rintro ⟨a, b⟩ hg
    have := hg.2 (x.1 ++ [q]) (List.prefix_refl _) (decide_eq_true (c1.mp a))
    exact c2.mpr (of_decide_eq_true this) b
  · intro hn
    refine ⟨⟨fun p hp => ?_, fun u hu hg => ?_⟩, b1, b2⟩
    · rcases List.mem_append.mp hp with hp | hp
      · exact h.good.1 p hp
      · rw [List.mem_singleton.mp hp]; exact hq
    · rcases List.prefix_concat_iff.mp hu with e | hu
      · subst e
        have a := c1.mpr (of_decide_eq_true hg)
        exact decide_eq_true (c2.mp fun z => hn ⟨a, z⟩)
      · exact h.good.2 u hu hg
theorem it_first (I : RunsIn dl dr told) : ItGood dl dr told ([], dl.fs, dr.fs) := by
  refine ⟨⟨fun p hp => (nomatch hp), fun u hu _ => ?_⟩, fun j => ?_, fun j => ?_⟩
  · rw [List.prefix_nil.mp hu]
    exact decide_eq_true (start_pos I.s2)
  · rw [show dl.bx.row dl.bx.start [] = dl.bx.start from rfl, Bx.start_bit]
    exact srt_mem.symm
  · rw [show dr.bx.row dr.bx.start [] = dr.bx.start from rfl, Bx.start_bit]
    exact srt_mem.symm
end
section
variable {P : Program} {w : World} {K : PySem.W.Frag} {mg : Str → Option Value} {base : Heap} {Rs : Rs_} {H F : Hp} {ta tb tc : TE} {E : XK}
theorem x_law_behind {d : Dl} {here : List Nat} {q : Sg} (ha : EvE ta Rs H F (rDeal d)) (hb : EvE tb Rs H F (rLst (here.map rNat))) (hc : EvE tc Rs H F (rSg q)) (h : d.mv.length < 64) : EvE (tCall spLBehind [] E (tCons ta (tCons tb (tCons tc tNil)))) Rs H F (rLst ((bhd d here q).map rNat)) :=
  ev_call (res := fun p : Dl × List Nat × Sg => rLst ((bhd p.1 p.2.1 p.2.2).map rNat)) (d, here, q) (ea_cons ha (ea_2 hb hc)) rfl fun _ _ _ => h
theorem ev_nilN {l : List Nat} (ha : EvE ta Rs H F (rLst (l.map rNat))) : EvE (tOp (rNeD K) ta (tLst tNil)) Rs H F (rB (!decide (l = []))) :=
  EvE.eqB (ev_neD (K := K) (d := .list (l.map encNat)) (e := .list ([].map encNat)) ha (ev_lst ea_nil) (dpr_lst (dprs_map dpr_nat _)) (dpr_lst .nil) (ok_list ok_nat _).shaped (ok_list ok_nat _).shaped) (by rw [eqv_list (fun a => (ok_nat a).pl) encNat_inj])
theorem ev_nilE {l : List Nat} (ha : EvE ta Rs H F (rLst (l.map rNat))) : EvE (tOp (rEqD K) ta (tLst tNil)) Rs H F (rB (decide (l = []))) :=
  EvE.eqB (ev_eqD (K := K) (d := .list (l.map encNat)) (e := .list ([].map encNat)) ha (ev_lst ea_nil) (dpr_lst (dprs_map dpr_nat _)) (dpr_lst .nil) (ok_list ok_nat _).shaped (ok_list ok_nat _).shaped) (by rw [eqv_list (fun a => (ok_nat a).pl) encNat_inj])
theorem ev_catL {As Bs : List Rep} (ha : EvE ta Rs H F (rLst As)) (hb : EvE tb Rs H F (rLst Bs)) (hz : As.length + Bs.length ≤ 1000) : EvE (tOp rCat ta tb) Rs H F (rLst (As ++ Bs)) := by
  intro σ H1 F1 g e Q q
  refine ha σ H1 F1 g e _ fun x H2 F2 g2 rx => hb σ H2 F2 (g.trans g2) (e.mono g2.ff) _ fun y H3 F3 g3 ry => ?_
  obtain ⟨a, us, rfl, h1, l1⟩ := (rLst As).mono g3.ff rx
  obtain ⟨b, ws, rfl, h2, l2⟩ := ry
  have big : 1000 < sizeLine := by decide
  refine ⟨a, b, us, ws, rfl, rfl, g3.fh _ _ h1, g3.fh _ _ h2, by rw [l1.len, l2.len]; omega, fun p hp => ?_⟩
  have g4 : G0 H3 F3 (upd H3 p (.lst (us ++ ws))) (upd F3 p (.lst (us ++ ws))) := Gr.new g3.fh hp
  exact q _ _ _ ((g2.trans g3).trans g4) ⟨p, _, rfl, upd_same, (l1.append l2).mono g4.ff⟩
theorem ev_catRow {w : List Sg} {q : Sg} (ha : EvE ta Rs H F (rRow w)) (hb : EvE tb Rs H F (rSg q)) (hz : w.length ≤ 900) : EvE (tOp rCat ta (tLst (tCons tb tNil))) Rs H F (rRow (w ++ [q])) := by
  have := ev_catL (As := w.map rSg) (Bs := [rSg q]) ha (ev_lst (ea_1 hb)) (by rw [List.length_map]; simp; omega)
  unfold rRow
  rw [List.map_append]
  exact this
theorem cut_takeA {Ts : List Rep} (i : Nat) : cutR Ts none (some (i : Nat)) = Ts.take i := by
  unfold cutR
  have e : HT.sIx Ts.length 0 none = 0 := rfl
  rw [e, HT.sIx_nat, List.drop_zero, Nat.sub_zero]
  rcases Nat.le_total i Ts.length with h | h
  · rw [Nat.min_eq_left h]
  · rw [Nat.min_eq_right h, List.take_of_length_le (Nat.le_refl _), List.take_of_length_le h]
/-- a list stays from now on; the other things that change are as they were -/
theorem ML.fzO {M : Addr → Prop} {d : Addr} {Ts : List Rep} {H0 F0 H F : Hp} (m : ML d Ts H F) (g : Gr M H0 F0 H F) (n : H0 d = none) : ∃ F', Gr M H0 F0 H F' ∧ Same F F' ∧ (rLst Ts).at_ F' (.ref d) ∧ ∀ d' Ts', d' ≠ d → ML d' Ts' H F → ML d' Ts' H F' := by
  obtain ⟨nf, us, h, r⟩ := m
  have s : Same F (upd F d (.lst us)) := fun b o e => by rw [upd_ne (ne_of_none e nf)]; exact e
  exact ⟨_, g.fz n nf h, s, ⟨d, us, rfl, upd_same, r.mono s⟩, fun d' Ts' hne ⟨n', us', h', r'⟩ => ⟨by rw [upd_ne hne]; exact n', us', h', r'.mono s⟩⟩
abbrev RR (dl dr : Dl) (told : List Sg) (lg lb : Addr) (x5 x6 x7 x8 x9 x10 x11 x12 x13 : Option Rep) : Rs_ := [some (rDeal dl), some (rDeal dr), some (rLst (told.map rSg)), some (rV (.ref lg)), some (rV (.ref lb)), x5, x6, x7, x8, x9, x10, x11, x12, x13]
/-- the two lists of rows -/
structure GB (dl dr : Dl) (told : List Sg) (lg lb : Addr) (n : Nat) (H F : Hp) : Prop where
  ex : ∃ gs bs : List (List Sg), ML lg (gs.map rRow) H F ∧ ML lb (bs.map rRow) H F ∧ gs.length + bs.length ≤ n ∧ (∀ w ∈ gs, Good dl.bx dr.bx told w) ∧ ∀ w ∈ bs, ¬ Good dl.bx dr.bx told w
theorem GB.grow {dl dr : Dl} {told : List Sg} {lg lb : Addr} {n : Nat} {H F H1 F1 : Hp} (h : GB dl dr told lg lb n H F) (g : G0 H F H1 F1) : GB dl dr told lg lb n H1 F1 := let ⟨gs, bs, a, b, c⟩ := h.ex; ⟨gs, bs, a.grow g, b.grow g, c⟩
theorem GB.le {dl dr : Dl} {told : List Sg} {lg lb : Addr} {n m : Nat} {H F : Hp} (h : GB dl dr told lg lb n H F) (hl : n ≤ m) : GB dl dr told lg lb m H F := let ⟨gs, bs, a, b, c, d⟩ := h.ex; ⟨gs, bs, a, b, Nat.le_trans c hl, d⟩
/-- what is further to be looked at -/
structure LO (dl dr : Dl) (told : List Sg) (k : Nat) (lo : List It3) : Prop where
  ok : ∀ x ∈ lo, ItGood dl dr told x
  sz : ∀ x ∈ lo, x.1.length ≤ k
abbrev rRuns (dl dr : Dl) (told : List Sg) : Rep := rEx (fun p : List (List Sg) × List (List Sg) => rTup [rLst (p.1.map rRow), rLst (p.2.map rRow)]) fun p => p.1.length + p.2.length ≤ 1000 ∧ (∀ w ∈ p.1, Good dl.bx dr.bx told w) ∧ ∀ w ∈ p.2, ¬ Good dl.bx dr.bx told w
abbrev spRuns : Sp := PSp (fun p : Dl × Dl × List Sg => [rDeal p.1, rDeal p.2.1, rLst (p.2.2.map rSg)]) (fun p _ _ => RunsIn p.1 p.2.1 p.2.2) (fun p => rRuns p.1 p.2.1 p.2.2)
theorem ok_law_runs (T : Hd K mg) (c__law_behind : Ce P w K mg base 1 "_law_behind" ["_law_deal_here", "_law_here", "_law_sign"] spLBehind) : Ce P w K mg base 2 "_law_runs" ["_law_left", "_law_right_here", "_law_told"] spRuns := by
  refine ce_plain T.d__law_runs T.glo__law_runs sc__law_runs (fun _ _ _ _ _ _ us hl => match us, hl with | [_, _, _], _ => rfl) (fun _ => rfl) (fun cdv A outer s H0 E hr => ⟨_, (pss_cons (ps_par3 (i := 3) (j := 4) (l := 5) (by rfl) sc__law_runs.nd rfl rfl rfl (by decide) (by decide) (by decide) rfl rfl rfl (pa_cons (pe_lst (pa_cons (pe_lst pa_nil) pa_nil)) (pa_cons (pe_lst pa_nil) (pa_cons (pe_lst (pa_cons (pe_tup (pa_cons (pe_lst pa_nil) (pa_cons (pe_dget (hu_of hr) (pv 0) pe_str (fun _ _ => rfl)) (pa_cons (pe_dget (hu_of hr) (pv 1) pe_str (fun _ _ => rfl)) pa_nil)))) pa_nil)) pa_nil))) (by rfl))
      (pss_cons (ps_for PassesOwn.never rfl (pi_range1 rfl T.free_range (pa_cons pe_int pa_nil)) (pg_name (i := 6) sc__law_runs.nd rfl (Or.inl rfl)) (pss_cons (ps_set (i := 7) sc__law_runs.nd rfl (Or.inl rfl) (pe_lst pa_nil))
      (pss_cons (ps_for PassesOwn.never rfl (pi_list (pe_callTy (lst_k (K := K)) (by rfl) T.free_list (by decide +kernel) (pa_cons (pv 5) pa_nil))) (tup_k (K := K) (n := 3) rfl (pgs_cons (pg_name (i := 8) sc__law_runs.nd rfl (Or.inl rfl)) (pgs_cons (pg_name (i := 9) sc__law_runs.nd rfl (Or.inl rfl)) (pgs_cons (pg_name (i := 10) sc__law_runs.nd rfl (Or.inl rfl)) pgs_nil)))) (pss_one (ps_for PassesOwn.never rfl (pi_list (pv 2)) (pg_name (i := 11) sc__law_runs.nd rfl (Or.inl rfl)) (pss_cons (ps_par (i := 12) (j := 13) (by rfl) sc__law_runs.nd rfl rfl (by decide) rfl rfl (pa_cons (pe_c c__law_behind (hr.mono (by decide)) rfl (pa_cons (pv 0) (pa_cons (pv 9) (pa_cons (pv 11) pa_nil)))) (pa_cons (pe_c c__law_behind (hr.mono (by decide)) rfl (pa_cons (pv 1) (pa_cons (pv 10) (pa_cons (pv 11) pa_nil)))) pa_nil)) (by rfl))
      (pss_one (ps_if (PW.pt (pw_and (pt_cmpR (ned_k (K := K) hr.units) (pv 12) (pe_lst pa_nil) (nomark _)) (pw_and1 (pt_cmpR (eqd_k (K := K) hr.units) (pv 13) (pe_lst pa_nil) (nomark _))))) (pss_one (ps_expr (bm_k (K := K) PySem.F.plainAttrs_list PySem.F.slot_list_append PySem.F.type_list_append mt_append (pv 4) (pa_cons (pe_op op_cat (pv 8) (pe_lst (pa_cons (pv 11) pa_nil))) pa_nil)))) (pss_cons (ps_expr (bm_k (K := K) PySem.F.plainAttrs_list PySem.F.slot_list_append PySem.F.type_list_append mt_append (pv 3) (pa_cons (pe_op op_cat (pv 8) (pe_lst (pa_cons (pv 11) pa_nil))) pa_nil)))
      (pss_one (ps_expr (bm_k (K := K) PySem.F.plainAttrs_list PySem.F.slot_list_append PySem.F.type_list_append mt_append (pv 7) (pa_cons (pe_tup (pa_cons (pe_op op_cat (pv 8) (pe_lst (pa_cons (pv 11) pa_nil))) (pa_cons (pv 12) (pa_cons (pv 13) pa_nil)))) pa_nil)))))))))))
      (pss_one (ps_set (i := 5) sc__law_runs.nd rfl (Or.inl rfl) (pe_slice (sll_k (K := K)) (pv 7) po_none (po_some pe_int)))))))
      (pss_one (ps_ret (pe_tup (pa_cons (pv 3) (pa_cons (pv 4) pa_nil))))))), ?_⟩)
  intro ⟨dl, dr, told⟩ F H σ Q s hd e k
  have I : RunsIn dl dr told := hd
  have k : ∀ v H' F', G0 H F H' F' → (rRuns dl dr told).at_ F' v → Q v H' := k
  have htl := I.tl
  have big : 10000 < sizeLine := by decide
  refine st_par3MME s e (ev_lstM (ea_1 (ev_lst ea_nil))) (ev_lstM ea_nil) (A := rLst ([(([], dl.fs, dr.fs) : It3)].map rIt)) (ev_lst (ea_1 (ev_tup (ea_cons (ev_lst ea_nil) (ea_2 (ev_firsts (ev_var (i := 0) rfl)) (ev_firsts (ev_var (i := 1) rfl))))))) (fun _ _ _ _ _ m g => m.grow g) (fun _ _ _ _ _ m g => m.grow g) (fun _ _ _ m => m.live) fun lg lb σ1 H1 F1 g1 ng nb hne mg1 mb1 e1 => ?_
  have e1 : En F1 σ1 (RR dl dr told lg lb (some (rLst ([(([], dl.fs, dr.fs) : It3)].map rIt))) none none none none none none none none) := e1
  dsimp only
  refine st_for (InL [lg, lb]) g1.fh e1 (src_range (n := 4) (ea_1 ev_c)) (fun i σ' H' F' => GB dl dr told lg lb (1 + 150 * i) H' F' ∧ ∃ last : List It3, last.length ≤ 30 ∧ LO dl dr told i last ∧ En F' σ' (RR dl dr told lg lb (some (rLst (last.map rIt))) none none none none none none none none))
    (fun H2 F2 g2 => ⟨⟨[[]], [], mg1.grow g2, mb1.grow g2, by decide, fun w hw => ?_, fun w hw => (nomatch hw)⟩, [([], dl.fs, dr.fs)], (show 1 ≤ 30 by decide), ⟨fun x hx => ?_, fun x hx => ?_⟩, e1.mono g2.ff⟩) (fun i σ' H' F' H1 F1 ⟨a, last, b, c, d⟩ g => ⟨a.grow g, last, b, c, d.mono g.ff⟩) (fun i x v σ2 H2 F2 hx g2 ⟨gb2, last, hl2, lo2, e2⟩ r N hN => ?_) fun σ2 H2 F2 g2 ⟨gb2, last, hl2, lo2, e2⟩ => ?_
  · rw [List.mem_singleton.mp hw]
    exact (it_first I).good
  · rw [List.mem_singleton.mp hx]
    exact it_first I
  · rw [List.mem_singleton.mp hx]
    exact Nat.le_refl 0
  · -- one turn
    have hi4 : i < 4 := by
      have := (List.getElem?_eq_some_iff.mp hx).1
      rwa [List.length_range] at this
    refine g_1 (R1 := rNat x) e2 r fun σ3 e3 _ => ?_
    have e3 : En F2 σ3 (RR dl dr told lg lb (some (rLst (last.map rIt))) none none none none none none none none) := e3.mask [true, true, true, true, true, true, false, false, false, false, false, false, false, false]
    dsimp only
    refine st_nilM (i := 7) g2.fh e3 fun ll σ4 H4 nl g4 e4 ml => ?_
    have e4 : En F2 σ4 (RR dl dr told lg lb (some (rLst (last.map rIt))) none (some (rV (.ref ll))) none none none none none none) := e4
    have hlg : ll ≠ lg := fun z => by
      obtain ⟨gs, bs, a, _⟩ := gb2.ex
      exact a.live (z ▸ nl)
    have hlb : ll ≠ lb := fun z => by
      obtain ⟨gs, bs, _, a, _⟩ := gb2.ex
      exact a.live (z ▸ nl)
    dsimp only
    refine st_for (InL [lg, lb, ll]) g4.fh e4 (src_list (xs := last) (RA := rIt) (ev_copy (ev_var (i := 5) rfl))) (fun j σ' H' F' => GB dl dr told lg lb (1 + 150 * i + 5 * j) H' F' ∧ En F' σ' (RR dl dr told lg lb (some (rLst (last.map rIt))) none (some (rV (.ref ll))) none none none none none none) ∧ ∃ lo : List It3, ML ll (lo.map rIt) H' F' ∧ lo.length ≤ 5 * j ∧ LO dl dr told (i + 1) lo)
      (fun H5 F5 g5 => ⟨(gb2.grow g4).grow g5, e4.mono g5.ff, [], ml.grow g5, Nat.zero_le _, ⟨fun x hx => (nomatch hx), fun x hx => (nomatch hx)⟩⟩) (fun j σ' H' F' H1 F1 ⟨a, b, lo, c, d⟩ g => ⟨a.grow g, b.mono g.ff, lo, c.grow g, d⟩) (fun j it v5 σ5 H5 F5 hit g5 ⟨gb5, e5, lo5, ml5, hl5, ok5⟩ r5 N5 hN5 => ?_) fun σ5 H5 F5 g5 ⟨gb5, e5, lo5, ml5, hl5, ok5⟩ => ?_
    · -- one row
      have hj30 : j < 30 := by
        have := (List.getElem?_eq_some_iff.mp hit).1
        omega
      have hitm := List.mem_of_getElem? hit
      have hig := lo2.ok it hitm
      have his := lo2.sz it hitm
      refine g_3 (R1 := rRow it.1) (R2 := rLst (it.2.1.map rNat)) (R3 := rLst (it.2.2.map rNat)) g5.fh e5 r5 fun σ6 e6 _ => ?_
      have e6 : En F5 σ6 (RR dl dr told lg lb (some (rLst (last.map rIt))) none (some (rV (.ref ll))) (some (rRow it.1)) (some (rLst (it.2.1.map rNat))) (some (rLst (it.2.2.map rNat))) none none none) := e6
      refine st_for (InL [lg, lb, ll]) g5.fh e6 (src_list (xs := told) (RA := rSg) (ev_var (i := 2) rfl)) (fun m σ' H' F' => GB dl dr told lg lb (1 + 150 * i + 5 * j + m) H' F' ∧ En F' σ' (RR dl dr told lg lb (some (rLst (last.map rIt))) none (some (rV (.ref ll))) (some (rRow it.1)) (some (rLst (it.2.1.map rNat))) (some (rLst (it.2.2.map rNat))) none none none) ∧ ∃ lo : List It3, ML ll (lo.map rIt) H' F' ∧ lo.length ≤ 5 * j + m ∧ LO dl dr told (i + 1) lo)
        (fun H7 F7 g7 => ⟨gb5.grow g7, e6.mono g7.ff, lo5, ml5.grow g7, hl5, ok5⟩) (fun j σ' H' F' H1 F1 ⟨a, b, lo, c, d⟩ g => ⟨a.grow g, b.mono g.ff, lo, c.grow g, d⟩) (fun m q v7 σ7 H7 F7 hq g7 ⟨gb7, e7, lo7, ml7, hl7, ok7⟩ r7 N7 hN7 => ?_) fun σ7 H7 F7 g7 ⟨gb7, e7, lo7, ml7, hl7, ok7⟩ => ?_
      · -- one sign
        have hqm := List.mem_of_getElem? hq
        have hm5 := (List.getElem?_eq_some_iff.mp hq).1
        obtain ⟨st1, st2⟩ := it_step I hig hqm
        refine g_1 (R1 := rSg q) e7 r7 fun σ8 e8 _ => ?_
        have e8 : En F7 σ8 (RR dl dr told lg lb (some (rLst (last.map rIt))) none (some (rV (.ref ll))) (some (rRow it.1)) (some (rLst (it.2.1.map rNat))) (some (rLst (it.2.2.map rNat))) (some (rSg q)) none none) := e8
        dsimp only
        refine st_par g7.fh e8 (R1 := rLst ((bhd dl it.2.1 q).map rNat)) (R2 := rLst ((bhd dr it.2.2 q).map rNat)) (ea_2 (x_law_behind (ev_var (i := 0) rfl) (ev_var (i := 9) rfl) (ev_var (i := 11) rfl) I.l1) (x_law_behind (ev_var (i := 1) rfl) (ev_var (i := 10) rfl) (ev_var (i := 11) rfl) I.l2)) fun σ9 H9 F9 g9 e9 => ?_
        have gb9 := gb7.grow g9
        have ml9 := ml7.grow g9
        have e9 : En F9 σ9 (RR dl dr told lg lb (some (rLst (last.map rIt))) none (some (rV (.ref ll))) (some (rRow it.1)) (some (rLst (it.2.1.map rNat))) (some (rLst (it.2.2.map rNat))) (some (rSg q)) (some (rLst ((bhd dl it.2.1 q).map rNat))) (some (rLst ((bhd dr it.2.2 q).map rNat)))) := e9
        generalize bhd dl it.2.1 q = near at *
        generalize bhd dr it.2.2 q = far at *
        obtain ⟨gs, bs, mgs, mbs, hsz, hgs, hbs⟩ := gb9.ex
        dsimp only
        refine st_if (b := (!decide (near = [])) && decide (far = [])) g9.fh e9 (eb_and (eb_test (ev_nilN (K := K) (ev_var (i := 12) rfl))) fun _ => eb_test (ev_nilE (K := K) (ev_var (i := 13) rfl))) (fun hb H10 F10 g10 e10 => ?_) fun hb H10 F10 g10 e10 => ?_
        · have hb2 : near ≠ [] ∧ far = [] := by simpa using hb
          refine st_appM g10.fh e10 (mbs.grow g10) (ev_var (i := 4) rfl) (A := rRow (it.1 ++ [q])) (ev_catRow (ev_var (i := 8) rfl) (ev_var (i := 11) rfl) (by omega)) (by rw [List.length_map]; omega) fun H11 F11 g11 f11 m11 => hN7 _ H11 F11 ((g9.trans g10).up.trans (gr_at (by simp) g11)) ⟨⟨gs, bs ++ [it.1 ++ [q]], ?_, by rw [List.map_append]; exact m11, by rw [List.length_append]; simp; omega, hgs, fun w hw => ?_⟩, (e10.mono f11).mask [true, true, true, true, true, true, false, true, true, true, true, false, false, false], lo7, ?_, by omega, ok7⟩
          · exact (mgs.grow g10).gr g11 hne
          · rcases List.mem_append.mp hw with hw | hw
            · exact hbs w hw
            · rw [List.mem_singleton.mp hw]
              exact st1 hb2
          · exact (ml9.grow g10).gr g11 hlb
        · have hb2 : ¬ (near ≠ [] ∧ far = []) := by simpa using hb
          have hit2 := st2 hb2
          refine st_appM g10.fh e10 (mgs.grow g10) (ev_var (i := 3) rfl) (A := rRow (it.1 ++ [q])) (ev_catRow (ev_var (i := 8) rfl) (ev_var (i := 11) rfl) (by omega)) (by rw [List.length_map]; omega) fun H11 F11 g11 f11 m11 => ?_
          dsimp only
          refine st_appM g11.fh (e10.mono f11) ((ml9.grow g10).gr g11 hlg) (ev_var (i := 7) rfl) (A := rIt (it.1 ++ [q], near, far)) (ev_tup (ea_cons (ev_catRow (ev_var (i := 8) rfl) (ev_var (i := 11) rfl) (by omega)) (ea_2 (ev_var (i := 12) rfl) (ev_var (i := 13) rfl)))) (by rw [List.length_map]; omega) fun H12 F12 g12 f12 m12 => hN7 _ H12 F12 (((g9.trans g10).up.trans (gr_at (by simp) g11)).trans (gr_at (by simp) g12)) ⟨⟨gs ++ [it.1 ++ [q]], bs, ?_, ?_, by rw [List.length_append]; simp; omega, fun w hw => ?_, hbs⟩, ((e10.mono f11).mono f12).mask [true, true, true, true, true, true, false, true, true, true, true, false, false, false], lo7 ++ [(it.1 ++ [q], near, far)], by rw [List.map_append]; exact m12, by rw [List.length_append]; simp; omega, ⟨fun z hz => ?_, fun z hz => ?_⟩⟩
          · rw [List.map_append]
            exact ML.gr m11 g12 (Ne.symm hlg)
          · exact ((mbs.grow g10).gr g11 hne.symm).gr g12 (Ne.symm hlb)
          · rcases List.mem_append.mp hw with hw | hw
            · exact hgs w hw
            · rw [List.mem_singleton.mp hw]
              exact hit2.good
          · rcases List.mem_append.mp hz with hz | hz
            · exact ok7.ok z hz
            · rw [List.mem_singleton.mp hz]
              exact hit2
          · rcases List.mem_append.mp hz with hz | hz
            · exact ok7.sz z hz
            · rw [List.mem_singleton.mp hz]
              show (it.1 ++ [q]).length ≤ i + 1
              rw [List.length_append]
              simp
              exact his
      · refine hN5 _ H7 F7 g7 ⟨gb7.le (by omega), e7.mask [true, true, true, true, true, true, false, true, false, false, false, false, false, false], lo7, ml7, by omega, ok7⟩
    · -- the next rows
      have g25 : Gr (InL [lg, lb]) H2 F2 H5 F5 := (g4.up).dropTo g5 fun x hx => by
        have hx : x = lg ∨ x = lb ∨ x = ll := by simpa using hx
        rcases hx with rfl | rfl | rfl
        · exact .inl (by simp)
        · exact .inl (by simp)
        · exact .inr nl
      obtain ⟨F6, g6, sf, r6, keep⟩ := ml5.fzO g25 nl
      obtain ⟨gs, bs, mgs, mbs, hsz, hgs, hbs⟩ := gb5.ex
      have gb6 : GB dl dr told lg lb (1 + 150 * (i + 1)) H5 F6 := ⟨gs, bs, keep _ _ (Ne.symm hlg) mgs, keep _ _ (Ne.symm hlb) mbs, by omega, hgs, hbs⟩
      dsimp only
      refine st_asg (i := 5) (R := rLst ((lo5.take 30).map rIt)) g6.fh (e5.mono sf) (EvE.to (ev_slL (K := K) (hi := some ((30 : Nat) : Int)) (ev_ref (i := 7) rfl r6) eo_none (eo_some ev_c)) fun F' v _ h => by rw [cut_takeA, ← List.map_take] at h; exact h) fun σ7 H7 F7 g7 e7 => hN _ H7 F7 (g6.trans g7.up) ⟨gb6.grow g7, lo5.take 30, List.length_take_le _ _, ⟨fun x hx => ok5.ok x (List.mem_of_mem_take hx), fun x hx => ok5.sz x (List.mem_of_mem_take hx)⟩, e7.mask [true, true, true, true, true, true, false, false, false, false, false, false, false, false]⟩
  · -- the end
    obtain ⟨gs, bs, mgs, mbs, hsz, hgs, hbs⟩ := gb2.ex
    have g12 : G0 H F H2 F2 := g1.drop g2 fun x hx => by
      have hx : x = lg ∨ x = lb := by simpa using hx
      rcases hx with rfl | rfl
      · exact ng
      · exact nb
    obtain ⟨F3, g3, sf, r1, r2⟩ := mgs.fz2 mbs hne g12 ng nb
    dsimp only
    exact st_ret g3.fh (e2.mono sf) (ev_tup (ea_2 (ev_ref (i := 3) rfl r1) (ev_ref (i := 4) rfl r2))) fun v H4 F4 g4 r4 => k v H4 F4 (g3.trans g4) ⟨(gs, bs), ⟨by have : (List.range 4).length = 4 := rfl; rw [this] at hsz; show gs.length + bs.length ≤ 1000; omega, hgs, hbs⟩, r4⟩
end
end K81
set_option Elab.async false
set_option linter.all false
set_option maxRecDepth 100000
set_option maxHeartbeats 2000000
set_option autoImplicit false
/-! K81CJ: _law_greatest_right. -/
namespace K81
open PySem PySem.Spec L2
open PyProof.Rows (envOfC)
/-! ### drawn boxes, plainly -/
section
variable {most wide : Nat} {ms : List Sg} {d : Dl}
theorem DlOk.ok (h : DlOk most wide ms d) (h1 : most ≤ 6) (h2 : wide ≤ 24) : d.bx.Ok := (h.raw h1 h2).toRaw.ok
theorem DlOk.st (h : DlOk most wide ms d) : d.bx.st ≠ [] := fun z => h.f0 (by
  have : srt rkN d.fs = [] := z
  have e := srt_len rkN d.fs
  rw [this] at e
  exact List.eq_nil_of_length_eq_zero e.symm)
theorem DlOk.stn (h : DlOk most wide ms d) : d.bx.st.Nodup := srt_nodup h.fn
theorem DlOk.stl (h : DlOk most wide ms d) : d.bx.st.length ≤ 2 := by
  show (srt rkN d.fs).length ≤ 2
  rw [srt_len]
  exact h.fl
theorem DlOk.spl (h : DlOk most wide ms d) : d.bx.sp.length ≤ wide := by
  show (srt rkStp d.mv).length ≤ wide
  rw [srt_len]
  exact h.ml
theorem DlOk.sg (h : DlOk most wide ms d) {q : Sg} (hq : q ∈ d.bx.signs) : q ∈ ms := by
  obtain ⟨i, j, hm⟩ := (d.bx.signs_mem q).mp hq
  exact (h.mi _ (srt_mem.mp hm)).2.2
end
/-- two drawn boxes and some signs -/
structure Two (dl dr : Dl) (told : List Sg) : Prop where
  ex1 : ∃ ms, DlOk 3 5 ms dl
  ex2 : ∃ ms, DlOk 4 6 ms dr
  tl : told.Nodup
theorem Two.room {dl dr : Dl} {told : List Sg} (h : Two dl dr told) : RoomIn dl.bx dr.bx told := by
  obtain ⟨_, a⟩ := h.ex1
  obtain ⟨_, b⟩ := h.ex2
  exact ⟨a.ok (by decide) (by decide), b.ok (by decide) (by decide), a.st, b.st, a.n1, b.n1, h.tl⟩
theorem Two.runs {dl dr : Dl} {told : List Sg} (h : Two dl dr told) : RunsIn dl dr told := by
  have I := h.room
  obtain ⟨_, a⟩ := h.ex1
  obtain ⟨_, b⟩ := h.ex2
  have := a.ml
  have := b.ml
  exact ⟨I.h1, I.h2, by omega, by omega, I.s2, sg_le5 h.tl⟩
theorem Two.fits {dl dr : Dl} {told : List Sg} (h : Two dl dr told) : dl.bx.st.Nodup ∧ dl.bx.st.length ≤ 100 ∧ dl.bx.sp.length ≤ 100 := by
  obtain ⟨_, a⟩ := h.ex1
  have := a.stl
  have := a.spl
  exact ⟨a.stn, by omega, by omega⟩
theorem room_form_dom {bh bw c : Bx} {sg : List Sg} (R : RoomIs bh bw sg c) : (sws c).1.length ≤ 200 := Nat.le_trans R.few (by decide)
section
variable {P : Program} {w : World} {K : PySem.W.Frag} {mg : Str → Option Value} {base : Heap} {Rs : Rs_} {H F : Hp} {ta tb tc : TE} {E : XK}
abbrev spFormP (K : PySem.W.Frag) : Sp := PSp (fun b : Bx => [rBox K b]) (fun b _ _ => b.Ok ∧ b.n ≤ 7 ∧ (sws b).1.length ≤ 200) (fun b => rBox K (formOf b))
abbrev spStands (K : PySem.W.Frag) : Sp := PSp (fun p : Bx × Bx => [rBox K p.1, rBox K p.2]) (fun p _ _ => msDom p ∧ p.2.n ≤ 7) (fun p => rB (stands p.1 p.2))
theorem x_stands {a b : Bx} (ha : EvE ta Rs H F (rBox K a)) (hb : EvE tb Rs H F (rBox K b)) (h : msDom (a, b)) (h7 : b.n ≤ 7) : EvE (tCall (spStands K) [] E (tCons ta (tCons tb tNil))) Rs H F (rB (stands a b)) :=
  ev_call (res := fun p : Bx × Bx => rB (stands p.1 p.2)) (a, b) (ea_2 ha hb) rfl fun _ _ _ => ⟨h, h7⟩
theorem x_in_step {a b : Bx} (ha : EvE ta Rs H F (rBox K a)) (hb : EvE tb Rs H F (rBox K b)) (h : stDom (a, b)) : EvE (tCall (spInStep K) [] E (tCons ta (tCons tb tNil))) Rs H F (rBox K (inStep a b)) :=
  ev_call (res := fun p : Bx × Bx => rBox K (inStep p.1 p.2)) (a, b) (ea_2 ha hb) rfl fun _ _ _ => h
theorem x_form {b : Bx} (ha : EvE ta Rs H F (rBox K b)) (h : b.Ok) (h7 : b.n ≤ 7) (hf : (sws b).1.length ≤ 200) : EvE (tCall (spFormP K) [] E (tCons ta tNil)) Rs H F (rBox K (formOf b)) :=
  ev_call (res := fun b : Bx => rBox K (formOf b)) b (ea_1 ha) rfl fun _ _ _ => ⟨h, h7, hf⟩
theorem x_law_made {d : Dl} (ha : EvE ta Rs H F (rDeal d)) (h : RawB d.n d.fs d.mv) : EvE (tCall (spLMade K) [] E (tCons ta tNil)) Rs H F (rBox K d.bx) :=
  ev_call (res := fun d : Dl => rBox K d.bx) d (ea_1 ha) rfl fun _ _ _ => h
theorem ep_call1 {l : Addr} {α G : Type} {f : α → Rep} {p : α → Prop} {args : G → List Rep} {dom : G → Hp → Hp → Prop} {res : G → Rep} (g : α → G) (ha : EvP l ta Rs H F (rEx f p)) (hg : ∀ a, [f a] = args (g a)) (hd : ∀ a H1 F1, p a → dom (g a) H1 F1) :
    EvP l (tCall (PSp args dom res) [] E (tCons ta tNil)) Rs H F (rEx (fun a => res (g a)) p) := by
  intro σ H1 F1 k e pt Q q
  refine ha σ H1 F1 k e pt _ fun v H2 F2 k2 p2 ⟨a, pa, rv⟩ => ?_
  refine ⟨g a, F2, k2.fh, hg a ▸ LA.cons rv .nil, hd a H2 F2 pa, fun u H3 F3 k3 r => q u H3 F3 (k2.trans k3.up) (p2.grow k3) ⟨a, pa, r⟩⟩
abbrev spGreat (K : PySem.W.Frag) : Sp := PSpP (fun p : Dl × Dl × List Sg => [rDeal p.1, rDeal p.2.1, rBox K (roomOf p.1.bx p.2.1.bx p.2.2), rLst (p.2.2.map rSg)]) (fun p => Two p.1 p.2.1 p.2.2 ∧ p.2.2 ≠ [] ∧ (roomOf p.1.bx p.2.1.bx p.2.2).n ≤ 7) (fun _ => rB true)
theorem ok_law_greatest (T : Hd K mg) (c__law_made : Ce P w K mg base 8 "_law_made" ["_law_deal_here"] (spLMade K)) (c__law_deal : Ce P w K mg base 3 "_law_deal" ["_law_pot_here", "_law_most", "_law_wide", "_law_menu_here"] spDeal)
    (c_stands_for : Ce P w K mg base 9 "stands_for" ["one", "other"] (spStands K)) (c_in_step : Ce P w K mg base 9 "in_step" ["one", "other"] (spInStep K)) (c_form : Ce P w K mg base 10 "form" ["box"] (spFormP K)) (c_Box_eq : Cb P w K mg base 3) :
    Ce P w K mg base 11 "_law_greatest_right" ["_law_pot_here", "_law_left", "_law_right_here", "_law_found", "_law_told"] (spGreat K) := by
  refine ce_any T.d__law_greatest_right T.glo__law_greatest_right sc__law_greatest_right (fun _ _ _ _ _ _ us hl => match us, hl with | [_, _, _, _, _], _ => rfl) (fun vs H Q E ⟨g, l, F, us, h, _, la, _⟩ => by rw [h, List.length_cons, la.len]; rfl) (fun cdv A outer s H0 E hr => ⟨_, (pss_cons (ps_par (i := 5) (j := 6) (by rfl) sc__law_greatest_right.nd rfl rfl (by decide) rfl rfl (pa_cons (pe_c c__law_made (hr.mono (by decide)) rfl (pa_cons (pv 1) pa_nil)) (pa_cons (pe_c c__law_made (hr.mono (by decide)) rfl (pa_cons (pv 2) pa_nil)) pa_nil)) (by rfl))
      (pss_cons (ps_for PassesOwn.never rfl (pi_range1 rfl T.free_range (pa_cons pe_int pa_nil)) (pg_name (i := 7) sc__law_greatest_right.nd rfl (Or.inl rfl)) (pss_cons (ps_set (i := 8) sc__law_greatest_right.nd rfl (Or.inl rfl) (pe_c c__law_made (hr.mono (by decide)) rfl (pa_cons (pe_c c__law_deal (hr.mono (by decide)) rfl (pa_cons (pv 0) (pa_cons pe_int (pa_cons pe_int (pa_cons (pv 4) pa_nil))))) pa_nil)))
      (pss_one (ps_if (pt_cmpR op_ne (pe_c c_stands_for (hr.mono (by decide)) rfl (pa_cons (pe_c c_in_step (hr.mono (by decide)) rfl (pa_cons (pv 5) (pa_cons (pv 8) pa_nil))) (pa_cons (pv 6) pa_nil))) (pe_c c_stands_for (hr.mono (by decide)) rfl (pa_cons (pv 8) (pa_cons (pv 3) pa_nil))) (nomark _)) (pss_one (ps_ret pe_bl)) pss_nil))))
      (pss_one (ps_ret (pe_cmpR (op_eqBB (K := K) c_Box_eq (hr.mono (by decide))) (pe_c c_form (hr.mono (by decide)) rfl (pa_cons (pv 3) pa_nil)) (pv 3) (nomark _)))))), ?_⟩)
  rintro vs H Q E ⟨⟨dl, dr, told⟩, l, F, us, rfl, s, la, ⟨two, hne, hn7⟩, p, k⟩
  have two : Two dl dr told := two
  have hne : told ≠ [] := hne
  have hn7 : (roomOf dl.bx dr.bx told).n ≤ 7 := hn7
  have k : ∀ v H' F', Gr (At l) H F H' F' → Pot l H' F' → (rB true).at_ F' v → Q v H' := k
  have I := two.room
  have R := roomIs I
  have la : LA F us [rDeal dl, rDeal dr, rBox K (roomOf dl.bx dr.bx told), rLst (told.map rSg)] := la
  generalize roomOf dl.bx dr.bx told = c at *
  obtain ⟨f1, f2, f3⟩ := two.fits
  obtain ⟨ms1, o1⟩ := two.ex1
  obtain ⟨ms2, o2⟩ := two.ex2
  have e := En.start (N := ["_law_pot_here", "_law_left", "_law_right_here", "_law_found", "_law_told", "_law_near", "_law_far", "_law_turn", "_law_guest"]) (LA.cons (show (rV (.ref l)).at_ F (.ref l) from rfl) la)
  refine st_par s e (R1 := rBox K dl.bx) (R2 := rBox K dr.bx) (ea_2 (x_law_made (ev_var (i := 1) rfl) (o1.raw (by decide) (by decide))) (x_law_made (ev_var (i := 2) rfl) (o2.raw (by decide) (by decide)))) fun σ1 H1 F1 g1 e1 => ?_
  have e1 : En F1 σ1 [some (rV (.ref l)), some (rDeal dl), some (rDeal dr), some (rBox K c), some (rLst (told.map rSg)), some (rBox K dl.bx), some (rBox K dr.bx), none, none] := e1
  dsimp only
  refine st_for (At l) g1.fh e1 (src_range (n := 4) (ea_1 ev_c)) (fun i σ' H' F' => En F' σ' [some (rV (.ref l)), some (rDeal dl), some (rDeal dr), some (rBox K c), some (rLst (told.map rSg)), some (rBox K dl.bx), some (rBox K dr.bx), none, none] ∧ Pot l H' F') (fun H2 F2 g2 => ⟨e1.mono g2.ff, (p.grow g1).grow g2⟩) (fun i σ' H' F' H1 F1 ⟨a, b⟩ g => ⟨a.mono g.ff, b.grow g⟩) (fun i x v σ2 H2 F2 hx g2 ⟨e2, p2⟩ r N hN => ?_) fun σ2 H2 F2 g2 ⟨e2, p2⟩ => ?_
  · refine g_1 (R1 := rNat x) e2 r fun σ3 e3 _ => ?_
    have e3 : En F2 σ3 [some (rV (.ref l)), some (rDeal dl), some (rDeal dr), some (rBox K c), some (rLst (told.map rSg)), some (rBox K dl.bx), some (rBox K dr.bx), none, none] := e3.mask [true, true, true, true, true, true, true, false, false]
    dsimp only
    refine stp_asg (i := 8) (R := rEx (fun d : Dl => rBox K d.bx) (DlOk 3 5 told)) g2.fh e3 p2 (ep_call1 (fun d => d) (f := rDeal) (p := DlOk 3 5 told) (ep_call (res := fun p : Nat × Nat × List Sg => rEx rDeal (DlOk p.1 p.2.1 p.2.2)) (3, 5, told) (epa_cons (ep_e fun _ _ _ => ev_var (i := 0) rfl) (epa_cons (ep_e fun _ _ _ => ev_c) (epa_cons (ep_e fun _ _ _ => ev_c) (epa_cons (ep_e fun _ _ _ => ev_var (i := 4) rfl) epa_nil)))) rfl ⟨(show 0 < 3 by decide), (show 3 ≤ 100 by decide), (show 5 ≤ 100 by decide), hne, two.tl⟩) (fun _ => rfl) fun d H1 F1 h => h.raw (by decide) (by decide)) fun σ4 H4 F4 g4 p4 e4 => ?_
    obtain ⟨d, od, e4⟩ := e4.ex (i := 8) (f := fun d : Dl => rBox K d.bx) (q := DlOk 3 5 told) rfl
    have e4 : En F4 σ4 [some (rV (.ref l)), some (rDeal dl), some (rDeal dr), some (rBox K c), some (rLst (told.map rSg)), some (rBox K dl.bx), some (rBox K dr.bx), none, some (rBox K d.bx)] := e4
    have dn : d.bx.n ≤ 3 := od.n1
    have n1 := I.n1
    have n2 := I.n2
    have dok := od.ok (by decide) (by decide)
    have dom : stDom (dl.bx, d.bx) := by
      refine ⟨I.h1, dok, ?_, ?_, ?_⟩
      · exact Nat.le_trans (mul_le (c := 3) (d := 3) n1 dn) (by decide)
      · exact Nat.le_trans (mul_le (c := 2) (d := 2) o1.stl od.stl) (by decide)
      · exact Nat.le_trans (mul_le (c := 5) (d := 5) o1.spl od.spl) (by decide)
    have hst := room_greatest I R f1 dok od.st od.stn (fun q hq => od.sg hq) dom
    have md1 : msDom (inStep dl.bx d.bx, dr.bx) := ms_dom (n := 9) (m := 4) (inStep_ok dom) I.h2 (inStep_nodup dom f1 od.stn) (by rw [inStep_n]; exact mul_le (c := 3) (d := 3) n1 dn) n2 (by decide) (by decide)
    have md2 : msDom (d.bx, c) := ms_dom (n := 3) (m := 7) dok R.ok od.stn dn hn7 (by decide) (by decide)
    dsimp only
    refine st_no g4.fh e4 (eb_test (EvE.eqB (ev_ne (x := .bl (stands (inStep dl.bx d.bx) dr.bx)) (y := .bl (stands d.bx c)) (x_stands (x_in_step (ev_var (i := 5) rfl) (ev_var (i := 8) rfl) dom) (ev_var (i := 6) rfl) md1 (by omega)) (x_stands (ev_var (i := 8) rfl) (ev_var (i := 3) rfl) md2 hn7) rfl) (j := false) (by rw [hst]; simp))) fun H5 F5 g5 e5 => hN _ H5 F5 (g4.trans g5.up) ⟨e5.mask [true, true, true, true, true, true, true, false, false], p4.grow g5⟩
  · dsimp only
    refine st_ret g2.fh e2 (EvE.eqB (ev_eqB (x_form (ev_var (i := 3) rfl) R.ok hn7 (room_form_dom R)) (ev_var (i := 3) rfl)) (j := true) (by rw [R.form]; simp)) fun v H3 F3 g3 r3 => k v H3 F3 ((g1.up.trans g2).trans g3.up) (p2.grow g3) r3
end
end K81
set_option Elab.async false
set_option linter.all false
set_option maxRecDepth 100000
set_option maxHeartbeats 2000000
set_option autoImplicit false
/-! K81CK: defs below known guards; texts of data in an f-string. -/
namespace K81
open PySem PySem.Spec L2
open PyProof.Rows
/-- a promise that is kept where the guards that stand are just these -/
structure FnG (P : Program) (w : World) (K : PySem.W.Frag) (mg : PySem.Str → Option Value) (base : Heap) (CX : CXT) (g : List Code) (k : Nat) (f : Addr) (fd : FuncData) (ps : List PySem.Str) (sp : Sp) : Prop where
  len : ∀ vs H Q E, sp vs H Q E → vs.length = ps.length
  run : ∀ (A : Around) (outer : List Env) (s : Shared) (H : Hp) (args : Args) (us : List Value) (vs : List V) (Q : VK) (E : XK), A.guards = some g → Room k A → Env0 P w K mg base A outer s H → BindsTo s fd args (ps.zip us) → Vals vs us → sp vs H Q E →
    codeAny (model P w) A (.call (.ref f) args) (CR CX outer P w H s Q E) s
section
variable {P : Program} {w : World} {K : PySem.W.Frag} {mg : PySem.Str → Option Value} {base : Heap} {CX : CXT} {g : List Code} {k : Nat} {f : Addr} {fd : FuncData} {N ps : List PySem.Str} {sp : Sp} {x qual : PySem.Str} {params : Arguments} {body : List Stmt} {scope : Scope} {dvs : List V} {kws : List (PySem.Str × V)}
theorem fn_guard (F : FunD K x qual params body scope dvs kws f fd) (S : FnScope N ps scope) (len : ∀ vs H Q E, sp vs H Q E → vs.length = ps.length)
    (hbody : ∀ (cdv : Value) (A : Around) (outer : List Env) (s : Shared) (H : Hp) (vs : List V) (Q : VK) (E : XK), A.guards = some g → Room k (A.deeper (envOfC qual scope s.heap.objs.size f cdv)) → sp vs H Q E →
      ∃ t, PSs (cxOf CX P w K mg base N qual scope f cdv A outer s H E) body t ∧ t { nx := fun _ H' => Q .non H', rt := Q } (start N vs) H) : FnG P w K mg base CX g (k + 1) f fd ps sp := by
  obtain ⟨oc, od, dV, kV, doc, pm, an, cdv, ct, osl, rfl, lk, hcd, _, _⟩ := F.ex
  refine ⟨len, fun A outer s H args us vs Q E hg hr e0 hb r hsp => ?_⟩
  have inH : ∀ {b : Addr} {o : Obj}, base.get? b = some o → s.heap.get? b = some o := fun e => (e0.bs _ _ e).1
  have KX : K.In s.heap := e0.mod.kin.keeps fun b o e => inH e
  have lim : s.heap.NoLimit := e0.mod.nolimit.keeps fun b o e => inH e
  refine codeAny_call_function hr.depth (KX _ _ lk) rfl S.co S.gen rfl (PySem.W.codeRec_of KX hcd) (hb _ _ _ _ ?_)
  refine wpAny_newFunctionEnv_cells S.kind (fun y hy => ?_) fun env he s1 x => ?_
  · obtain ⟨y1, y2⟩ := y
    exact (S.par y1 (List.of_mem_zip hy).1).imp id fun q => ⟨q, PySem.W.cellsFrom_some _ _ _ (.inl q)⟩
  · subst he
    refine ⟨lim.keeps x.toInCall.keep, codeAny_func ?_⟩
    obtain ⟨t, ht, hq⟩ := hbody cdv A outer s H vs Q E hg (hr.deeper _) hsp
    refine wpAny_mono (ht.run [] s1 (start N vs) H _ (inv_start S hr.hd e0 (len _ _ _ _ hsp) r x) hq) (fun fl s' hs => ?_) fun e s' hs => hs
    cases fl with
    | ret u =>
      obtain ⟨v, σ', H', J, rv, q⟩ := hs
      exact ⟨v, H', J.os, J.bare, J.base, J.hok, rv, q⟩
    | next =>
      obtain ⟨σ', H', J, q⟩ := hs
      exact ⟨V.non, H', J.os, J.bare, J.base, J.hok, rfl, q⟩
    | brk => exact hs.elim fun _ z => z.elim fun _ z => z.2.elim
    | cont => exact hs.elim fun _ z => z.elim fun _ z => z.2.elim
end
/-! ### what stands for a text below a list's walk -/
/-- L is a list whose first item is an instance -/
def LOk (L : Addr) (H : Hp) : Prop := ∃ (p C dx : Addr) (rest : List V) (fs : List (PySem.Str × V)), H L = some (.lst (.ref p :: rest)) ∧ H p = some (.ins C dx fs)
theorem LOk.grow {L : Addr} {H F H' F' : Hp} (h : LOk L H) (g : G0 H F H' F') : LOk L H' := let ⟨p, C, dx, rest, fs, a, b⟩ := h; ⟨p, C, dx, rest, fs, g.h a, g.h b⟩
def gLoop (L : Addr) (rest : List Value) : List Code := [Code.builtin "list.__repr__.loop" ⟨.ref L :: rest, []⟩]
section
variable {X : Cx} {K : PySem.W.Frag} {pins : List (Addr × Obj)} {σ : L2.St} {H : Hp} {s : Shared} {L : Addr} {rest : List Value}
/-- what is read as plain data is not that list -/
theorem clear_data (I : Inv X pins σ H s) (h : LOk L H) {b : Addr} {d : PyData} {as : List Addr} (r : Reads s.heap (.ref b) d as) : Clear (gLoop L rest) b := by
  refine Clear.cons (Clear.nil b) fun e => ?_
  subst e
  obtain ⟨p, C, dx, rs, fs, hL, hp⟩ := h
  obtain ⟨its, rv, pl, _⟩ := I.list (SqL.of hL)
  obtain ⟨mA, J, _⟩ := ins_get I.hok hp
  obtain ⟨od, J, _⟩ := J.look
  obtain ⟨o, ho, hc, n, hd⟩ := pl.isList
  cases rv with
  | cons r1 rv =>
    cases r1
    cases r with
    | list h1 h2 h3 h4 =>
      rw [ho] at h1
      cases h1
      rw [hd] at h3
      cases h3
      cases h4 with
      | cons a _ =>
        cases a with
        | list h1 h2 _ _ =>
          rw [J.at_] at h1
          cases h1
          rw [J.cls] at h2
          cases h2
        | tuple h1 h2 _ _ =>
          rw [J.at_] at h1
          cases h1
          rw [J.cls] at h2
          cases h2
        | dict h1 h2 _ _ _ =>
          rw [J.at_] at h1
          cases h1
          rw [J.cls] at h2
          cases h2
    | tuple h1 h2 h3 h4 =>
      rw [ho] at h1
      cases h1
      rw [hc] at h2
      injection h2 with z
      exact absurd z (by decide)
    | dict h1 h2 h3 h4 h5 =>
      rw [ho] at h1
      cases h1
      rw [hc] at h2
      injection h2 with z
      exact absurd z (by decide)
/-- {x!r} of a list of data -/
def tFmtD (K : PySem.W.Frag) (L : Addr) (te : TE) : TE := fun σ H Q => te σ H fun x H1 => ∃ (a : Addr) (ds : List PyData), x = .ref a ∧ Dp K H1 (.ref a) (.list ds) ∧ LOk L H1 ∧ PyData.showableAll ds = true ∧ PyData.hasDictAll ds = false ∧ (PyData.shown (.list ds)).length ≤ sizeLine ∧ (PyData.list ds).depth ≤ 20 ∧ Q (.str (PyData.shown (.list ds))) H1
theorem pe_fmtD {e : Expr} {te : TE} {pos : Pos} {k : Nat} (hg : X.A.guards = some (gLoop L rest)) (hr : Room k X.A) (he : PE X e te) (h : X.K = K := by rfl) : PE X (.FormattedValue e 114 none pos) (tFmtD K L te) := by
  subst h
  refine ⟨fun pins s σ H Q I h => ?_⟩
  refine wpAny_FormattedValue_repr (thn (he.run pins s σ H _ I h) fun v s1 hv => ?_)
  obtain ⟨x, H1, I1, r1, a, ds, rfl, hdp, hL, hsh, hnd, hz, hdep, q⟩ := hv
  obtain ⟨as, rd⟩ := Dp.reads I1 (.list ds) (.ref a) v hdp r1
  cases r1
  have hu := hr.units
  have done : ∀ (t : PySem.Str) (h' : Heap) (u tk : Tok), t = PyData.shown (.list ds) → (∀ b o, s1.heap.get? b = some o → h'.get? b = some o) → wpAny (model X.prog X.w) X.A (formatField (.str t u) Str.empty) (EP X pins σ Q) X.xe { s1 with heap := h', toks := tk } := fun t h' u tk e hk => by
    subst e
    exact wpAny_formatField_str ⟨.str _, H1, I1.kept hk, ⟨u, rfl⟩, q⟩ ⟨.str _, H1, (I1.kept (t' := tk) hk).tok _, ⟨_, rfl⟩, q⟩ hz
  have rd0 := rd
  cases rd with
  | @list _ o vs n xs as h1 h2 h3 h4 =>
    have hz' : (listText (PyData.shownAll ds)).length ≤ sizeLine := by simpa only [PyData.shown] using hz
    obtain ⟨bs, hb, hk⟩ := ReprAllK.of_readsAll (prog := X.prog) (w := X.w) h4 hsh (fun z => by rw [hnd] at z; cases z) (fun t ht => Nat.le_trans (listText_mem_le ht) hz')
    have hna : a ∉ bs := not_mem_of_deeper rd0 (by simp only [PyData.depth]; omega) hb
    have hcl : ∀ b ∈ a :: bs, Clear (gLoop L rest) b := fun b hbm => by
      rcases List.mem_cons.mp hbm with rfl | hbm
      · exact clear_data I1 hL rd0
      · obtain ⟨d', as', r', _⟩ := hb b hbm
        exact clear_data I1 hL r'
    obtain ⟨l⟩ := vs
    cases l with
    | nil =>
      have h4' : ReadsAll s1.heap [] ds _ := h4
      cases h4'
      refine wpAny_pyReprObj_list_empty ⟨o, h1, h2⟩ (by omega) h1 h3 (done "[]" s1.heap _ _ ?_ fun _ _ z => z)
      simp only [PyData.shown, PyData.shownAll, listText_nil]
    | cons y l =>
      simp only [PyData.depth] at hdep
      refine wpAny_pyReprObj_listK h1 h2 h3 hna (by simpa using hk.length_eq) (fun i y e => hk.item i y (by simpa using e)) hg hcl (by omega) (fun _ _ z => z) (fun h' u tk hkk => done _ h' u tk (by simp only [PyData.shown]) hkk) hz'
end
end K81
set_option Elab.async false
set_option linter.all false
set_option maxRecDepth 100000
set_option maxHeartbeats 2000000
set_option autoImplicit false
/-! K81CL: Box.__repr__ below a list's walk. -/
namespace K81
open PySem PySem.Spec L2
open PyProof.Rows
/-! ### how long texts get -/
theorem txt_nat : ∀ n : Nat, n < 7 → (PyData.shown (encNat n)).length ≤ 1 := by
  intro n hn
  have : ∀ i : Fin 7, (PyData.shown (encNat i.val)).length ≤ 1 := by decide +kernel
  exact this ⟨n, hn⟩
theorem txt_sg : ∀ s : Sg, (reprText (sgC s)).length ≤ 8 ∧ (reprText (sgA s)).length ≤ 8 := by decide +kernel
theorem txt_list (ts : List PySem.Str) : (listText ts).length ≤ piled ts + 2 := by
  cases ts with
  | nil => decide +kernel
  | cons t r =>
    have h := textFrom_length_pos r 1 (("[" : PySem.Str) ++ (if (0 : Nat) > 0 then ", " else "" : String) ++ t) (Nat.succ_pos 0)
    have e : ((("[" : PySem.Str) ++ (if (0 : Nat) > 0 then ", " else "" : String) ++ t)).length = 1 + t.length := by
      rw [strLen_append, strLen_append]
      rfl
    have e1 : (listText (t :: r)).length = (textFrom 1 (("[" : PySem.Str) ++ (if (0 : Nat) > 0 then ", " else "" : String) ++ t) r).length + 1 := by
      show (textFrom 1 _ r ++ "]").length = _
      rw [strLen_append]
      rfl
    rw [e1, h, e, piled_cons]
    omega
theorem piled_max (n : Nat) : ∀ ts : List PySem.Str, (∀ t ∈ ts, t.length ≤ n) → piled ts ≤ ts.length * (n + 2)
  | [], _ => Nat.zero_le _
  | t :: r, h => by
    have h1 := h t List.mem_cons_self
    have h2 := piled_max n r fun u hu => h u (List.mem_cons_of_mem _ hu)
    rw [piled_cons, List.length_cons, Nat.succ_mul]
    omega
theorem shownAll_map : ∀ ds : List PyData, PyData.shownAll ds = ds.map PyData.shown
  | [] => by simp [PyData.shownAll]
  | d :: ds => by rw [PyData.shownAll, shownAll_map ds]; rfl
theorem txt_stp (m : Stp) (h1 : m.1 < 7) (h2 : m.2.2 < 7) : (PyData.shown (encStp m)).length ≤ 60 := by
  have a1 := txt_nat m.1 h1
  have a2 := txt_nat m.2.2 h2
  have a3 := txt_sg m.2.1
  have e : PyData.shown (encStp m) = tupleText [PyData.shown (encNat m.1), reprText (sgC m.2.1), reprText (sgA m.2.1), PyData.shown (encNat m.2.2)] := by
    simp [encStp, encNat, PyData.shown, PyData.shownAll]
  rw [e]
  have := PySem.fmt_text [PyData.shown (encNat m.1), reprText (sgC m.2.1), reprText (sgA m.2.1), PyData.shown (encNat m.2.2)]
  simp only [piled_cons, piled_nil] at this
  omega
/-- a small box -/
structure Sm (b : Bx) : Prop where
  n : b.n < 7
  st : b.st.length ≤ 6
  sp : b.sp.length ≤ 24
  sti : ∀ x ∈ b.st, x < 7
  spi : ∀ m ∈ b.sp, m.1 < 7 ∧ m.2.2 < 7
def txSt (b : Bx) : PyData := .list (b.st.map encNat)
def txSp (b : Bx) : PyData := .list (b.sp.map encStp)
theorem txt_st {b : Bx} (h : Sm b) : (PyData.shown (txSt b)).length ≤ 100 := by
  unfold txSt
  rw [PyData.shown, shownAll_map, List.map_map]
  have h1 := txt_list (b.st.map (PyData.shown ∘ encNat))
  have h2 := piled_max 1 (b.st.map (PyData.shown ∘ encNat)) fun t ht => by
    obtain ⟨x, hx, rfl⟩ := List.mem_map.mp ht
    exact txt_nat x (h.sti x hx)
  rw [List.length_map] at h2
  have := h.st
  omega
theorem txt_sp {b : Bx} (h : Sm b) : (PyData.shown (txSp b)).length ≤ 2000 := by
  unfold txSp
  rw [PyData.shown, shownAll_map, List.map_map]
  have h1 := txt_list (b.sp.map (PyData.shown ∘ encStp))
  have h2 := piled_max 60 (b.sp.map (PyData.shown ∘ encStp)) fun t ht => by
    obtain ⟨x, hx, rfl⟩ := List.mem_map.mp ht
    exact txt_stp x (h.spi x hx).1 (h.spi x hx).2
  rw [List.length_map] at h2
  have := h.sp
  omega
theorem show_nat (l : List Nat) (h : ∀ x ∈ l, x < 7) : PyData.showableAll (l.map encNat) = true := by
  induction l with
  | nil => simp [PyData.showableAll]
  | cons x l ih =>
    have hx := h x List.mem_cons_self
    have hs : ∀ i : Fin 7, PyData.showable (encNat i.val) = true := by decide +kernel
    rw [List.map_cons, PyData.showableAll, hs ⟨x, hx⟩, ih fun y hy => h y (List.mem_cons_of_mem _ hy)]
    rfl
theorem show_stp (l : List Stp) (h : ∀ m ∈ l, m.1 < 7 ∧ m.2.2 < 7) : PyData.showableAll (l.map encStp) = true := by
  induction l with
  | nil => simp [PyData.showableAll]
  | cons m l ih =>
    obtain ⟨h1, h2⟩ := h m List.mem_cons_self
    have hs : ∀ i : Fin 7, PyData.showable (encNat i.val) = true := by decide +kernel
    have e1 : PyData.showable (.int (m.1 : Nat)) = true := hs ⟨m.1, h1⟩
    have e2 : PyData.showable (.int (m.2.2 : Nat)) = true := hs ⟨m.2.2, h2⟩
    have e : PyData.showable (encStp m) = true := by
      unfold encStp
      show PyData.showableAll [.int (m.1 : Nat), .str (sgC m.2.1), .str (sgA m.2.1), .int (m.2.2 : Nat)] = true
      rw [PyData.showableAll, PyData.showableAll, PyData.showableAll, PyData.showableAll, e1, e2]
      simp [PyData.showable, PyData.showableAll]
    rw [List.map_cons, PyData.showableAll, e, ih fun y hy => h y (List.mem_cons_of_mem _ hy)]
    rfl
/-- the text of a small box -/
def boxParts (b : Bx) : List PySem.Str := ["Box(", (toString (b.n : Int) : String), ", ", PyData.shown (txSt b), ", ", PyData.shown (txSp b), ")"]
def boxText (b : Bx) : PySem.Str := (boxParts b).foldl (· ++ ·) Str.empty
theorem fold_len : ∀ (ys : List PySem.Str) (acc : PySem.Str), (ys.foldl (· ++ ·) acc).length = acc.length + (ys.map (·.length)).sum
  | [], acc => by simp
  | y :: ys, acc => by
    rw [List.foldl_cons, fold_len ys, strLen_append, List.map_cons, List.sum_cons]
    omega
theorem parts_len {b : Bx} (h : Sm b) : ((boxParts b).map (·.length)).sum ≤ 3000 := by
  have a1 := txt_st h
  have a2 := txt_sp h
  have a3 : ((toString (b.n : Int) : String) : PySem.Str).length ≤ 1 := txt_nat b.n h.n
  have c1 : (("Box(" : String) : PySem.Str).length = 4 := rfl
  have c2 : ((", " : String) : PySem.Str).length = 2 := rfl
  have c3 : ((")" : String) : PySem.Str).length = 1 := rfl
  unfold boxParts
  simp only [List.map_cons, List.map_nil, List.sum_cons, List.sum_nil]
  omega
theorem boxText_len {b : Bx} (h : Sm b) : (boxText b).length ≤ 3000 := by
  unfold boxText
  rw [fold_len]
  have := parts_len h
  have e : Str.empty.length = 0 := rfl
  omega
end K81
set_option Elab.async false
set_option linter.all false
set_option maxRecDepth 100000
set_option maxHeartbeats 2000000
set_option autoImplicit false
/-! K81CM: Box.__repr__, walked. -/
namespace K81
open PySem PySem.Spec L2
open PyProof.Rows
section
variable {K : PySem.W.Frag} {Rs : Rs_} {H F : Hp} {te : TE} {L : Addr}
inductive EJ (Rs : Rs_) (H F : Hp) : List TE → List PySem.Str → Prop
  | nil : EJ Rs H F [] []
  | cons {t : TE} {y : PySem.Str} {ts : List TE} {ys : List PySem.Str} : EvE t Rs H F (rS y) → EJ Rs H F ts ys → EJ Rs H F (t :: ts) (y :: ys)
theorem ej_run {ts : List TE} {ys : List PySem.Str} (h : EJ Rs H F ts ys) : ∀ (acc : PySem.Str) (σ : L2.St) (H1 F1 : Hp), G0 H F H1 F1 → En F1 σ Rs → acc.length + (ys.map (·.length)).sum ≤ sizeLine → ∀ Q : PySem.Str → Hp → Prop, (∀ H2 F2, G0 H1 F1 H2 F2 → Q (ys.foldl (· ++ ·) acc) H2) → tJs ts acc σ H1 Q := by
  induction h with
  | nil => exact fun acc σ H1 F1 g e hz Q q => q H1 F1 (Gr.refl g.fh)
  | @cons t y ts ys ht hr ih =>
    intro acc σ H1 F1 g e hz Q q
    rw [List.map_cons, List.sum_cons] at hz
    refine ht σ H1 F1 g e _ fun v H2 F2 g2 r => ⟨y, r, by rw [strLen_append]; omega, ?_⟩
    exact ih (acc ++ y) σ H2 F2 (g.trans g2) (e.mono g2.ff) (by rw [strLen_append]; omega) Q fun H3 F3 g3 => q H3 F3 (g2.trans g3)
theorem ev_joined {ts : List TE} {ys : List PySem.Str} (h : EJ Rs H F ts ys) (hz : (ys.map (·.length)).sum ≤ sizeLine) : EvE (fun σ H Q => tJs ts Str.empty σ H fun out H1 => Q (.str out) H1) Rs H F (rS (ys.foldl (· ++ ·) Str.empty)) := by
  intro σ H1 F1 g e Q q
  refine ej_run h Str.empty σ H1 F1 g e ?_ _ fun H2 F2 g2 => q _ H2 F2 g2 rfl
  have : Str.empty.length = 0 := rfl
  omega
theorem ev_fmtR {i : Int} (h : EvE te Rs H F (rI i)) (hi : i.natAbs.log2 < 1920) : EvE (tFmtR te) Rs H F (rS (toString i : String)) := fun σ H1 F1 g e Q q =>
  h σ H1 F1 g e _ fun v H2 F2 g2 r => .inr ⟨i, r, hi, q _ H2 F2 g2 rfl⟩
theorem ev_fmtD {Ts : List Rep} {ds : List PyData} (h : EvE te Rs H F (rLst Ts)) (hd : DpRs K Ts ds) (hL : LOk L H) (h1 : PyData.showableAll ds = true) (h2 : PyData.hasDictAll ds = false) (h3 : (PyData.shown (.list ds)).length ≤ sizeLine) (h4 : (PyData.list ds).depth ≤ 20) :
    EvE (tFmtD K L te) Rs H F (rS (PyData.shown (.list ds))) := fun σ H1 F1 g e Q q =>
  h σ H1 F1 g e _ fun v H2 F2 g2 r => by
    have hdp := dpr_lst hd F2 v r
    obtain ⟨a, us, rfl, _, _⟩ := r
    exact ⟨a, ds, rfl, dp_mono g2.fh hdp, (hL.grow g).grow g2, h1, h2, h3, h4, q _ H2 F2 g2 rfl⟩
end
theorem noDict {α : Type} {enc : α → PyData} {n : Nat} (h : ∀ a, Ok (enc a) n) (l : List α) : PyData.hasDictAll (l.map enc) = false := PyData.hasDictAll_of_canLayAll _ (okAll h l).1
section
variable {P : Program} {w : World} {K : PySem.W.Frag} {mg : PySem.Str → Option Value} {base : Heap}
abbrev spRepr (K : PySem.W.Frag) (L : Addr) : Sp := PSp (fun b : Bx => [rBox K b]) (fun b H _ => Sm b ∧ LOk L H) (fun b => rS (boxText b))
theorem fn_Box_repr (T : Hd K mg) (c_Box_states : Cp P w K mg base 1 (He.ga K "Box") "states" (spStates K)) : ∃ fd, (∀ (L : Addr) (rest : List Value), FnG P w K mg base CX0 (gLoop L rest) 4 (He.ma K (He.ga K "Box") "__repr__") fd ["self"] (spRepr K L)) ∧ Binds K fd ["self"] [] := by
  obtain ⟨fd, D⟩ := T.d_Box_repr
  refine ⟨fd, fun L rest => ?_, D.bindsN (fun _ _ _ _ _ _ us hl => match us, hl with | [_], _ => rfl)⟩
  refine fn_guard D sc_Box_repr (fun vs H Q E h => ?_) (fun cdv A outer s H vs Q E hg hr h => ?_)
  · obtain ⟨b, F, _, l, _⟩ := h
    rw [l.len]
    rfl
  · have hgd : (XX P w K mg base ["self"] "Box.__repr__" s_Box_repr (He.ma K (He.ga K "Box") "__repr__") cdv A outer s H E).A.guards = some (gLoop L rest) := hg
    have pr : PSs (XX P w K mg base ["self"] "Box.__repr__" s_Box_repr (He.ma K (He.ga K "Box") "__repr__") cdv A outer s H E) (defBody s_Box_repr) _ :=
      pss_one (ps_ret (pe_joined (.cons pe_str (.cons (pe_fmtR (pe_p c_Box_states (pv 0) (hr.mono (by decide)))) (.cons pe_str (.cons (pe_fmtD (K := K) (L := L) hgd hr (fld_k (K := K) (fld_k (K := K) (pv 0)))) (.cons pe_str (.cons (pe_fmtD (K := K) (L := L) hgd hr (fld_k (K := K) (fld_k (K := K) (pv 0)))) (.cons pe_str .nil)))))))))
    refine ⟨_, pr.nox, ?_⟩
    obtain ⟨b, F, sf, la, ⟨sm, hL⟩, k⟩ := h
    have e := En.start (N := ["self"]) la
    have a1 := txt_st sm
    have a2 := txt_sp sm
    have big : 10000 < sizeLine := by decide
    have hp := parts_len sm
    have hn : (b.n : Int).natAbs.log2 < 1920 := by
      have h1 := sm.n
      have : ∀ i : Fin 7, ((i.val : Nat) : Int).natAbs.log2 < 1920 := by decide +kernel
      exact this ⟨b.n, h1⟩
    refine st_ret sf e (R := rS (boxText b)) (ev_joined (ys := boxParts b) ?_ (by omega)) fun v H1 F1 g1 r1 => k v H1 F1 g1 r1
    exact .cons ev_c (.cons (ev_fmtR (x_states (b := b) (ev_var (i := 0) rfl)) hn) (.cons ev_c (.cons (ev_fmtD (fld_starts T (fld_sh T (ev_var (i := 0) rfl))) (dprs_map dpr_nat _) hL (show_nat _ sm.sti) (noDict ok_nat _) (by unfold txSt at a1; omega) (Nat.le_trans (ok_list ok_nat _).dep (by decide))) (.cons ev_c (.cons (ev_fmtD (fld_steps T (fld_sh T (ev_var (i := 0) rfl))) (dprs_map dpr_stp _) hL (show_stp _ sm.spi) (noDict ok_stp _) (by unfold txSp at a2; omega) (Nat.le_trans (ok_list ok_stp _).dep (by decide))) (.cons ev_c .nil))))))
end
end K81
set_option Elab.async false
set_option linter.all false
set_option maxRecDepth 100000
set_option maxHeartbeats 2000000
set_option autoImplicit false
/-! K81CN: repr of a list of boxes. -/
namespace K81
open PySem PySem.Spec L2
open PyProof.Rows
section
variable {M : Model} {A : Around} {E : Value → Shared → Prop} {s : Shared} {K : PySem.W.Frag} {x C f : Addr} {ox : Obj} {od : Option Obj} {name : PySem.Str}
theorem ifBoundBy_K {last : Value → List Value → Sem Value} {Q : Option Value → Shared → Prop} (X : K.In s.heap) (I : PySem.W.InstAt s.heap x ox C od) (hs : PySem.W.findIn K (.ref C) name = some (some (.ref f))) (hf : PySem.W.isFn K (.ref f) = true)
    (h : wpAny M A (last (.ref f) [.ref x]) (fun v => Q (some v)) E s) : wpAny M A (callSpecialIfBoundBy? last (.ref x) name) Q E s := by
  simp only [callSpecialIfBoundBy?, bindSpecialIfBound?]
  refine wpAny_holding (wpAny_bind (wpAny_bind (wpAny_bind (I.type.here ((PySem.W.looks_findIn X hs).here ?_)))))
  refine wpAny_bind (wpAny_askSetting (wpAny_ite ?_))
  have fin : wpAny M A (last (.ref f) [.ref x] >>= fun v => pure (some v)) Q E s := wpAny_bind (wpAny_mono h (fun v s' h' => wpAny_pure h') fun _ _ h' => h')
  split
  · exact wpAny_bind ((PySem.W.bind_fn X _ (beq_iff_eq.mp hf)).here (wpAny_pure (by exact fin)))
  · exact wpAny_tryCatch (wpAny_bind ((PySem.W.bind_fn X _ (beq_iff_eq.mp hf)).here (wpAny_pure (by exact fin))))
end
section
variable {X : Cx} {pins : List (Addr × Obj)} {σ : L2.St} {s : Shared} {H1 F1 : Hp} {L p : Addr} {rest : List Value} {f : Addr} {fd : FuncData} {b : Bx} {base : Nat} {E : Value → Shared → Prop} {A2 : Around}
/-- one box's text -/
theorem elem_repr (FG : ∀ (L : Addr) (rest : List Value), FnG X.prog X.w X.K X.mg X.base CX0 (gLoop L rest) 4 f fd ["self"] (spRepr X.K L)) (hbd : Binds X.K fd ["self"] []) (m : Meth X.K (He.ga X.K "Box") "__repr__" f)
    (hg2 : A2.guards = some (gLoop L rest)) (hr2 : Room 4 A2) (hf2 : A2.frames = some X.stack) (hE : ∀ e s', X.xe e s' → E e s') (I : Inv X pins σ H1 s) (hb : (rBox X.K b).at_ F1 (.ref p)) (sF : Same F1 H1) (sm : Sm b) (hL : LOk L H1) (hz : base + (boxText b).length ≤ sizeLine)
    {Q : PySem.Str → Shared → Prop} (q : ∀ s' H' F', G0 H1 F1 H' F' → Inv X pins σ H' s' → Q (boxText b) s') : wpAny (model X.prog X.w) A2 (pyReprUnder base (.ref p)) Q E s := by
  obtain ⟨pa, dx, fs, ep, hF⟩ := ins_Box _ _ hb
  cases ep
  have hH := sF _ _ hF
  obtain ⟨mA, J, _⟩ := ins_get I.hok hH
  obtain ⟨od, J, _⟩ := J.look
  have KX := I.kIn
  refine wpAny_pyReprUnder_ref (by omega) ?_
  unfold pyReprObjUnder pyReprObjBy
  refine wpAny_bind (wpAny_cRoomFor hr2.units0 ?_)
  refine wpAny_bind (wpAny_bind (J.type.here ((PySem.W.looks_findIn KX m.at_).here ?_)))
  refine wpAny_bind (ifBoundBy_K KX J m.at_ m.fn ?_)
  have e0 : Env0 X.prog X.w X.K X.mg X.base A2 X.stack s H1 := ⟨hf2, I.ok.mod, I.bs, Nat.le_trans I.ok.bsz I.sz, I.stack, I.stkFree, I.hok, I.bare⟩
  show wpAny _ _ (call (.ref f) [.ref p]) _ _ _
  refine wpAny_call (codeAny_mono ((FG L rest).run A2 X.stack s H1 ⟨[.ref p], []⟩ [.ref p] [.ref p] (fun v H' => v = .str (boxText b) ∧ ∃ F', G0 H1 F1 H' F') E0 hg2 hr2 e0 (hbd s [.ref p] KX rfl) (.cons rfl .nil) ⟨b, F1, sF, .cons hb .nil, ⟨sm, hL⟩, fun v H' F' g r => ⟨r, F', g⟩⟩) fun r s' hq => ?_)
  cases r with
  | error e => exact hE e s' (pass0 pins σ H1 s e s' I hq)
  | ok fl =>
    cases fl with
    | ret u =>
      obtain ⟨v, H', I', rv, ev, F', g'⟩ := I.after hq
      subst ev
      obtain ⟨t, rfl⟩ := rv
      refine wpAny_bind (wpAny_isInstance (T := "str") (b := true) rfl isSubtype_str_str (wpAny_pure ⟨_, t, rfl, q s' H' F' g' I'⟩))
    | next => exact False.elim hq
    | brk => exact False.elim hq
    | cont => exact False.elim hq
end
end K81
set_option Elab.async false
set_option linter.all false
set_option maxRecDepth 100000
set_option maxHeartbeats 2000000
set_option autoImplicit false
/-! K81CO: repr of a list of boxes: the walk of the list. -/
namespace K81
open PySem PySem.Spec L2
open PyProof.Rows
theorem under_loop {A : Around} {args : Args} {k : Nat} (hr : Room (k + 1) A) : Room k (A.under (.builtin "list.__repr__.loop" args)) := by
  refine ⟨hr.hd, ?_, ?_⟩
  · have h := hr.dp
    have e : (A.under (.builtin "list.__repr__.loop" args)).depth ≤ A.depth + 1 := by
      show A.depth + (Code.builtin "list.__repr__.loop" args).weight ≤ A.depth + 1
      have : (Code.builtin "list.__repr__.loop" args).weight ≤ 1 := by
        first | decide | simp [Code.weight, Code.frames, Code.isFrame, Code.isCreation, Code.isCaller, Code.isGuard, guardIds]
      omega
    omega
  · have h := hr.un
    have e := units_under_list_loop A args
    rw [e]
    omega
theorem under_frames {A : Around} {args : Args} {l : List Env} (h : A.frames = some l) : (A.under (.builtin "list.__repr__.loop" args)).frames = some l := by
  first | exact h | simpa [Around.under, Code.envs, Code.isFrame, pushEnvs] using h
section
variable {X : Cx} {pins : List (Addr × Obj)} {σ : L2.St} {H F : Hp} {L P : Addr} {f : Addr} {fd : FuncData} {A1 : Around} {R : Result → Shared → Prop} {bs : List Bx} {vs : List V}
theorem loop_repr (FG : ∀ (L : Addr) (rest : List Value), FnG X.prog X.w X.K X.mg X.base CX0 (gLoop L rest) 4 f fd ["self"] (spRepr X.K L)) (hbd : Binds X.K fd ["self"] []) (m : Meth X.K (He.ga X.K "Box") "__repr__" f)
    (hg : A1.guards = some []) (hr : Room 5 A1) (hf : A1.frames = some X.stack) (hE : ∀ e s', X.xe e s' → R (.error e) s') (hL : H L = some (.lst vs)) (la : LA F vs (bs.map (rBox X.K))) (sF : Same F H) (hLO : LOk L H) (sm : ∀ b ∈ bs, Sm b) (hbl : bs.length ≤ 1000) (hz : (listText (bs.map boxText)).length ≤ sizeLine)
    (hR : ∀ (u : Tok) (s' : Shared) (H' F' : Hp), G0 H F H' F' → Inv X pins σ H' s' → R (.ok (.ret (.str (listText (bs.map boxText)) u))) s') :
    ∀ (k i : Nat) (s : Shared) (H1 F1 : Hp) (acc : Array Value) (c : Nat) (done : List (PySem.Str × Tok)), bs.length - i = k → i ≤ bs.length → G0 H F H1 F1 → Inv X pins σ H1 s → FpOk X pins H1 P →
    s.heap.get? P = some { cls := .type "list", dict := none, data := .seq acc c, slots := #[] } → acc.toList = strValues done → done.map (·.1) = (bs.map boxText).take i →
    codeAny (model X.prog X.w) A1 (.builtin "list.__repr__.loop" ⟨[.ref L, rawInt i, .ref P, rawInt ((0 + piled ((bs.map boxText).take i) : Nat) : Int)], []⟩) R s := by
  have hp3 := piled_le_listText (bs.map boxText)
  have hvl : vs.length = bs.length := by rw [la.len, List.length_map]
  intro k
  induction k with
  | zero =>
    intro i s H1 F1 acc c done hk hi g I fp hP hacc hdone
    have hin : i = bs.length := by omega
    subst hin
    refine codeAny_builtin PySem.F.entry_list_repr_loop ?_
    show wpAny _ _ (Builtin.«list.__repr__.loop» ⟨[.ref L, .int ((bs.length : Nat) : Int) 0, .ref P, .int ((0 + piled ((bs.map boxText).take bs.length) : Nat) : Int) 0], []⟩) _ _ s
    rw [repr_loop_tree]
    obtain ⟨its, rv, pl, _⟩ := I.list (SqL.of (g.h hL))
    obtain ⟨o, ho, hc, n, hd⟩ := pl.isList
    refine wpAny_bind (wpAny_listItems ho hd ?_)
    have hil : its.length = bs.length := by rw [← rv.length, hvl]
    have hnone : its.toArray[((bs.length : Nat) : Int).toNat]? = none := by simp [hil]
    simp only [hnone]
    unfold reprEnd
    refine wpAny_bind (wpAny_listItems hP rfl ?_)
    rw [hacc, repr_fold]
    refine wpAny_bind (wpAny_pure ?_)
    have hall : done.map (·.1) = bs.map boxText := by rw [hdone, List.take_of_length_le (by rw [List.length_map]; exact Nat.le_refl _)]
    rw [hall]
    exact wpAny_bind (wpAny_mkStr (wpAny_pure (hR _ _ H1 F1 g (I.tok _))) hz)
  | succ k ih =>
    intro i s H1 F1 acc c done hk hi g I fp hP hacc hdone
    have hlt : i < bs.length := by omega
    have ht : (bs.map boxText)[i]? = some (boxText bs[i]) := by rw [List.getElem?_map, List.getElem?_eq_getElem hlt]; rfl
    have hp1 := piled_take_succ ht
    have hp2 := piled_take_le (bs.map boxText) (i + 1)
    refine codeAny_builtin PySem.F.entry_list_repr_loop ?_
    show wpAny _ _ (Builtin.«list.__repr__.loop» ⟨[.ref L, .int ((i : Nat) : Int) 0, .ref P, .int ((0 + piled ((bs.map boxText).take i) : Nat) : Int) 0], []⟩) _ _ s
    rw [repr_loop_tree]
    obtain ⟨its, rv, pl, _⟩ := I.list (SqL.of (g.h hL))
    obtain ⟨o, ho, hc, n, hd⟩ := pl.isList
    refine wpAny_bind (wpAny_listItems ho hd ?_)
    have hil : its.length = bs.length := by rw [← rv.length, hvl]
    obtain ⟨v, hv, rb⟩ := la.get (i := i) (R := rBox X.K bs[i]) (by rw [List.getElem?_map, List.getElem?_eq_getElem hlt]; rfl)
    obtain ⟨pa, dx, fs, ev, _⟩ := ins_Box _ _ rb
    subst ev
    obtain ⟨u, hu, ru⟩ := rv.get hv
    cases (show u = Value.ref pa from ru)
    have hsome : its.toArray[((i : Nat) : Int).toNat]? = some (.ref pa) := by
      rw [Int.toNat_natCast, List.getElem?_toArray]
      exact hu
    simp only [hsome]
    rw [Int.toNat_natCast]
    obtain ⟨f0, f1, f2, f3, f4, f5⟩ := fp
    have I2 : Inv X (pins ++ [(P, { cls := .type "list", dict := none, data := .seq acc c, slots := #[] })]) σ H1 s := I.pins_of fun q hq => by
      rcases List.mem_append.mp hq with hq | hq
      · exact I.pin q (List.mem_append_right _ hq)
      · rw [List.mem_singleton.mp hq]
        exact ⟨hP, f0, f1, f2, fun v z => nomatch z⟩
    refine wpAny_bind (wpAny_holding (elem_repr (rest := [rawInt i, .ref P, rawInt ((0 + piled ((bs.map boxText).take i) : Nat) : Int)]) FG hbd m (guards_under_guard (isGuard_list_loop _) hg) (under_loop hr) (under_frames hf) hE I2 ((rBox X.K bs[i]).mono g.ff rb) g.fh (sm _ (List.getElem_mem hlt)) (hLO.grow g) (by omega) fun s' H2 F2 g2 I3 => ?_))
    have hz2 : (boxText bs[i]).length ≤ sizeLine := by omega
    refine wpAny_bind (wpAny_mkStr ?_ hz2)
    refine wpAny_bind ?_
    show wpAny _ _ (updateSeq P _) _ _ _
    obtain ⟨hP3, n3, _⟩ := I3.pin (P, { cls := .type "list", dict := none, data := .seq acc c, slots := #[] }) (List.mem_append_right _ (List.mem_append_right _ (List.mem_singleton_self _)))
    have I4 : Inv X pins σ H2 s' := I3.unpinned
    have hasz : acc.size = i := by
      have e1 : acc.toList.length = acc.size := by simp
      have e2 : (strValues done).length = done.length := by simp [strValues]
      have e3 : done.length = ((bs.map boxText).take i).length := by rw [← hdone, List.length_map]
      rw [List.length_take, List.length_map, Nat.min_eq_left hi] at e3
      rw [hacc] at e1
      omega
    have big : 1000 < sizeLine := by decide
    refine wpAny_updateSeq hP3 rfl (wpAny_pure ⟨PySem.F.quiet_list_repr_loop _, ?_⟩) (by omega)
    have e1 : (((i : Nat) : Int) + 1) = ((i + 1 : Nat) : Int) := by omega
    have e2 : 0 + piled ((bs.map boxText).take i) + ((boxText bs[i]).length + 2) = 0 + piled ((bs.map boxText).take (i + 1)) := by omega
    rw [e1, e2]
    refine ih (i + 1) _ H2 F2 (acc.push (.str (boxText bs[i]) s'.toks)) _ (done ++ [(boxText bs[i], s'.toks)]) (by omega) hlt (g.trans g2) ?_ ⟨n3, f1, f2, f3, f4, f5⟩ (Heap.get?_update_self _ hP3 rfl) (by simp [hacc, strValues]) ?_
    · exact (I4.tok (s'.toks + 1)).turned (t' := s'.toks + 1) (it := P) (fun b o hb e => (Heap.get?_update_other _ _ (Ne.symm hb)).trans e) n3 f1 f3 f4 f5
    · rw [List.map_append, hdone, List.take_add_one, ht]
      rfl
end
end K81
set_option Elab.async false
set_option linter.all false
set_option maxRecDepth 100000
set_option maxHeartbeats 2000000
set_option autoImplicit false
/-! K81CP: repr of a list of boxes: the rule. -/
namespace K81
open PySem PySem.Spec L2
open PyProof.Rows
def rReprB (K : PySem.W.Frag) : List V → Hp → VK → Prop := fun xs H Q => ∃ (L : Addr) (F : Hp) (bs : List Bx) (vs : List V), xs = [.ref L] ∧ Same F H ∧ H L = some (.lst vs) ∧ LA F vs (bs.map (rBox K)) ∧ LOk L H ∧ (∀ b ∈ bs, Sm b) ∧ bs ≠ [] ∧ bs.length ≤ 2 ∧
  ∀ H' F', G0 H F H' F' → Q (.str (listText (bs.map boxText))) H'
theorem list_small {bs : List Bx} (h : ∀ b ∈ bs, Sm b) (hl : bs.length ≤ 2) : (listText (bs.map boxText)).length ≤ 7000 := by
  have h1 := txt_list (bs.map boxText)
  have h2 := piled_max 3000 (bs.map boxText) fun t ht => by
    obtain ⟨b, hb, rfl⟩ := List.mem_map.mp ht
    exact boxText_len (h b hb)
  rw [List.length_map] at h2
  omega
section
variable {P : Program} {w : World} {K : PySem.W.Frag} {mg : PySem.Str → Option Value} {base : Heap}
/-- what the method __repr__ keeps -/
structure Cr (P : Program) (w : World) (K : PySem.W.Frag) (mg : PySem.Str → Option Value) (base : Heap) : Prop where
  ex : ∃ (f : Addr) (fd : FuncData), (∀ (L : Addr) (rest : List Value), FnG P w K mg base CX0 (gLoop L rest) 4 f fd ["self"] (spRepr K L)) ∧ Binds K fd ["self"] [] ∧ Meth K (He.ga K "Box") "__repr__" f
theorem ok_Box_repr (T : Hd K mg) (c_Box_states : Cp P w K mg base 1 (He.ga K "Box") "states" (spStates K)) : Cr P w K mg base := by
  obtain ⟨fd, F, hb⟩ := fn_Box_repr (P := P) (w := w) (base := base) T c_Box_states
  exact ⟨_, fd, F, hb, T.m_Box_repr⟩
end
section
variable {X : Cx} {K : PySem.W.Frag}
theorem cr_repr0 (c : Cr X.prog X.w X.K X.mg X.base) (hg : X.A.guards = some []) (hr : Room 8 X.A) : CallR X (.builtin "repr") (rReprB X.K) := by
  intro pins s σ H xs us Q I r h
  obtain ⟨L, F, bs, vs, rfl, sF, hL, la, hLO, sm, hne, hl, q⟩ := h
  rw [Vals.ref1 r]
  obtain ⟨f, fd, FG, hbd, m⟩ := c.ex
  obtain ⟨its, rv, pl, _⟩ := I.list (SqL.of hL)
  obtain ⟨o, ho, hc, n, hd⟩ := pl.isList
  have hvl : vs.length = bs.length := by rw [la.len, List.length_map]
  have hil : its.length = bs.length := by rw [← rv.length, hvl]
  have hsz := list_small sm hl
  have big : 10000 < sizeLine := by decide
  have hu := hr.units
  refine call_repr_slot (by omega) ⟨o, ho, hc⟩ PySem.F.slot_list_repr.toG ?_
  cases its with
  | nil =>
    simp only [List.length_nil] at hil
    exact absurd (List.eq_nil_of_length_eq_zero hil.symm) hne
  | cons y l =>
    have hr1 : Room 7 X.A.in1 := Room.in1 hr
    refine wpAny_call (codeAny_call_builtin PySem.F.slot_list_repr.plain PySem.F.entry_list_repr (PySem.F.slot_list_repr.check _ _ _ _ _ _ _ _ ⟨o, ho, hc⟩ (PySem.F.args_list_repr_1 _) ?_))
    refine wpAny_list_repr_head (A := X.A.in1.in1) hg (fun _ _ _ hm => nomatch hm) ho hd ?_
    refine wpAny_bind (m := newList []) (wpAny_newObj_type ?_)
    refine wpAny_pure ⟨PySem.F.quiet_list_repr_loop _, ?_⟩
    have nP : H s.heap.objs.size = none := I.hok.fresh (Nat.le_refl _)
    have key := loop_repr (A1 := X.A.in1) (R := callEnd (fun r s₁ => ∃ x t, r = .str x t ∧ EP X pins σ Q r s₁) X.xe) (P := s.heap.objs.size) (F := F) (bs := bs) (vs := vs) (pins := pins) (σ := σ) (H := H) FG hbd m hg (hr1.mono (by decide)) I.ok.frames (fun e s' h => h) hL la sF hLO sm (by omega) (by omega) (fun u s' H' F' g I' => ⟨_, u, rfl, .str _, H', I', ⟨u, rfl⟩, q H' F' g⟩)
      (bs.length - 0) 0 { s with heap := s.heap.push { cls := .type "list", dict := none, data := .seq #[] 0, slots := #[] } } H F #[] 0 [] rfl (Nat.zero_le _) (Gr.refl sF) (I.kept (t' := s.toks) fun b u e => Heap.get?_push_of_some _ e) (I.fpOk (Nat.le_refl _) nP) (Heap.get?_push_size _ rfl) rfl (by simp)
    exact key
theorem cr_reprB (c : Cr X.prog X.w X.K X.mg X.base) (hg : X.A.guards = some []) (hr : Room 8 X.A) (h : X.K = K := by rfl) : CallR X (.builtin "repr") (rReprB K) := by
  subst h
  exact cr_repr0 c hg hr
end
section
variable {K : PySem.W.Frag} {Rs : Rs_} {H F : Hp} {t1 t2 : TE} {b1 b2 : Bx}
theorem ev_repr2 (h1 : EvE t1 Rs H F (rBox K b1)) (h2 : EvE t2 Rs H F (rBox K b2)) (s1 : Sm b1) (s2 : Sm b2) : EvE (tCB (rReprB K) (tCons (tLst (tCons t1 (tCons t2 tNil))) tNil)) Rs H F (rS (listText [boxText b1, boxText b2])) :=
  ev_cb (ea_1 (ev_lst (ea_2 h1 h2))) fun H1 F1 vs g l Q q => by
    cases l with
    | cons r1 l =>
      cases l
      obtain ⟨a, us, rfl, ha, la⟩ := r1
      have hH := g.fh _ _ ha
      refine ⟨a, F1, [b1, b2], us, rfl, g.fh, hH, la, ?_, fun b hb => ?_, List.cons_ne_nil _ _, Nat.le_refl _, fun H' F' g' => q _ H' F' g' rfl⟩
      · cases la with
        | cons rb _ =>
          obtain ⟨p, dx, fs, ep, hp⟩ := ins_Box _ _ rb
          subst ep
          exact ⟨p, _, dx, _, fs, hH, g.fh _ _ hp⟩
      · rcases List.mem_cons.mp hb with rfl | hb
        · exact s1
        · rw [List.mem_singleton.mp hb]; exact s2
end
end K81
set_option Elab.async false
set_option linter.all false
set_option maxRecDepth 100000
set_option maxHeartbeats 2000000
set_option autoImplicit false
/-! K81CQ: a call by keywords; a list that stays for a while. -/
namespace K81
open PySem PySem.Spec L2
open PyProof.Rows
/-! ### f(a = .., b = .., c = ..) -/
section
variable (P : Program) (w : World) (K : PySem.W.Frag) (mg : PySem.Str → Option Value) (base : Heap)
structure Ck (k : Nat) (x : PySem.Str) (ps ks : List PySem.Str) (sp : Sp) : Prop where
  ex : ∃ (f : Addr) (fd : FuncData), FnOk P w K mg base CX0 k f fd ps sp ∧ mg x = some (.ref f) ∧ PySem.W.keepIn K (.ref f) = true ∧ ∀ (s : Shared) (a b c : Value), BindsTo s fd ⟨[], ks.zip [a, b, c]⟩ (ps.zip [c, b, a])
/-- a def that keeps its promise where no guard stands -/
structure CeG (k : Nat) (x : PySem.Str) (ps : List PySem.Str) (sp : Sp) : Prop where
  ex : ∃ (f : Addr) (fd : FuncData), FnG P w K mg base CX0 [] k f fd ps sp ∧ mg x = some (.ref f) ∧ PySem.W.keepIn K (.ref f) = true ∧ Binds K fd ps [] ∧ ∀ (s : Shared) (us : List Value), us.length = ps.length → BindsTo s fd ⟨us, []⟩ (ps.zip us)
end
theorem kw_binds {K : PySem.W.Frag} {x qual : PySem.Str} {params : Arguments} {body : List Stmt} {scope : Scope} {kws : List (PySem.Str × V)} {f : Addr} {fd : FuncData} (D : FunD K x qual params body scope [] kws f fd) {args : Args} {binds : List (PySem.Str × Value)}
    (h : ∀ (kV doc pm : Value) (an : Option Addr) (cdv ct : Value), bindArgs (PySem.W.fnOf x qual params body scope .none kV doc pm an cdv ct) args = pure binds) (s : Shared) : BindsTo s fd args binds := by
  obtain ⟨oc, od, dV, kV, doc, pm, an, cdv, ct, osl, rfl, lk, hcd, hD, hK⟩ := D.ex
  rcases hD with ⟨_, rfl⟩ | ⟨hn, _⟩
  · exact .of_eq (h _ _ _ _ _ _)
  · exact absurd rfl hn
/-- the keywords' values, then the call -/
def tCallK3 (sp : Sp) (tk : TA) : TE := fun σ H Q => tk σ H fun zs H1 => ∃ a b c, zs = [a, b, c] ∧ sp [c, b, a] H1 Q E0
section
variable {X : Cx} {k : Nat} {x : PySem.Str} {p pos : Pos} {kws : List Keyword} {tk t : TA} {ps ks : List PySem.Str} {sp : Sp} {e : Expr} {es : List Expr}
theorem pe_ck (c : Ck X.prog X.w X.K X.mg X.base k x ps ks sp) (hr : Room k X.A) (hg : Gl X x) (hkw : PK X kws tk) (hall : (backToKw pos (keywordEach kws X.env)).all (·.1.isSome) = true := by rfl) (hks : (backToKw pos (keywordEach kws X.env)).filterMap (·.1) = ks := by rfl)
    (hdb : (x == ("__debug__" : PySem.Str)) = false := by decide) (hpl : ((backTo pos (starEach [] X.env)).any (·.1) || (backToKw pos (keywordEach kws X.env)).any (·.1.isNone)) = false := by rfl) : PE X (.Call (.Name x p) [] kws pos) (tCallK3 sp tk) := by
  obtain ⟨f, fd, F, hm, hk, hb⟩ := c.ex
  refine ⟨fun pins s σ H Q I h => ?_⟩
  refine wpAny_Call_Name_kw (ld_glob I hg hm ?_ hdb)
  refine PySem.W.callWith_KW0 (h₀ := X.base) I.ok.mod.kin hk hall (thn (hkw.run pos pins s σ H _ I h) fun ws s1 ⟨zs, H1, I1, rz, a, b, c, ez, q⟩ => ⟨I1.kIn, ?_⟩) hpl
  rw [hks]
  subst ez
  cases rz with
  | @cons _ u1 _ _ r1 rz => cases rz with
    | @cons _ u2 _ _ r2 rz => cases rz with
      | @cons _ u3 _ _ r3 rz =>
        cases rz
        refine wpAny_call (codeAny_mono (F.run X.A X.stack s1 H1 ⟨[], ks.zip [u1, u2, u3]⟩ [u3, u2, u1] [c, b, a] Q E0 hr I1.env0 (hb s1 u1 u2 u3) (.cons r3 (.cons r2 (.cons r1 .nil))) q) fun r s' hq => ?_)
        cases r with
        | error e => exact pass0 pins σ H1 s1 e s' I1 hq
        | ok fl =>
          cases fl with
          | ret u => exact I1.after hq
          | next => exact False.elim hq
          | brk => exact False.elim hq
          | cont => exact False.elim hq
/-- f(e, ..) where no guard stands -/
theorem pe_cG (c : CeG X.prog X.w X.K X.mg X.base k x ps sp) (hgd : X.A.guards = some []) (hr : Room k X.A) (hg : Gl X x) (ha : PA X (e :: es) t) (hdb : (x == ("__debug__" : PySem.Str)) = false := by decide)
    (he : starEach (e :: es) X.env = (false, eval e X.env) :: starEach es X.env := by rfl) (hpl : (backTo pos (starEach es X.env)).any (·.1) = false := by rfl) : PE X (.Call (.Name x p) (e :: es) [] pos) (tCall sp [] E0 t) := by
  obtain ⟨f, fd, F, hm, hk, hb, _⟩ := c.ex
  refine ⟨fun pins s σ H Q I h => ?_⟩
  refine wpAny_Call_Name_kw (ld_glob I hg hm ?_ hdb)
  refine PySem.W.callWith_K (h₀ := X.base) I.ok.mod.kin hk (thn (ha.run pos pins s σ H _ I h) fun us s1 ⟨vs, H1, I1, r, q⟩ => ⟨I1.kIn, ?_⟩) he hpl
  have q : sp (vs ++ []) H1 Q E0 := q
  rw [List.append_nil] at q
  have hl : us.length = ps.length := by rw [← r.length]; exact F.len _ _ _ _ q
  have hbd := hb s1 us I1.kIn (by rw [List.append_nil]; exact hl)
  rw [List.append_nil] at hbd
  refine wpAny_call (codeAny_mono (F.run X.A X.stack s1 H1 ⟨us, []⟩ us vs _ E0 hgd hr I1.env0 hbd r q) fun r s' hq => ?_)
  cases r with
  | error e => exact pass0 pins σ H1 s1 e s' I1 hq
  | ok fl =>
    cases fl with
    | ret u => exact I1.after hq
    | next => exact False.elim hq
    | brk => exact False.elim hq
    | cont => exact False.elim hq
end
section
variable {P : Program} {w : World} {K : PySem.W.Frag} {mg : PySem.Str → Option Value} {base : Heap}
theorem ck_room (T : Hd K mg) (b : Body P w K mg base 9 ["helper", "whole", "signs", "pairs", "steps", "at", "call", "answer", "after"] "room" s_room (He.ga K "room") (fun p : Bx × Bx × List Sg => [rBox K p.1, rBox K p.2.1, rSeq (p.2.2.map rSg)]) (fun p _ _ => rmDom p) (fun p => rBox K (formOf (rmBox p.1 p.2.1 p.2.2)))) :
    Ck P w K mg base 10 "room" ["helper", "whole", "signs"] ["signs", "whole", "helper"] (spRoom K) := by
  obtain ⟨fd, D⟩ := T.d_room
  exact ⟨_, fd, fn_plain D sc_room (fun _ => rfl) b, T.glo_room, D.kp, fun s a b c => kw_binds D (fun _ _ _ _ _ _ => rfl) s⟩
theorem ceG_any {x : PySem.Str} {st : Stmt} {f : Addr} {N ps : List PySem.Str} {k : Nat} {sp : Sp} (D : ∃ fd, FunD K x x (defArgs st) (defBody st) (defScope st) [] [] f fd) (m : mg x = some (.ref f)) (S : FnScope N ps (defScope st)) (b : BindR x x st ps) (len : ∀ vs H Q E, sp vs H Q E → vs.length = ps.length)
    (body : ∀ (cdv : Value) (A : Around) (outer : List Env) (s : Shared) (H0 : Hp) (E : XK), A.guards = some [] → Room k (A.deeper (envOfC x (defScope st) s.heap.objs.size f cdv)) →
      ∃ t, PSs (XX P w K mg base N x st f cdv A outer s H0 E) (defBody st) t ∧ ∀ (vs : List V) (H : Hp) (Q : VK) (E : XK), sp vs H Q E → t { nx := fun _ H' => Q .non H', rt := Q } (start N vs) H) : CeG P w K mg base (k + 1) x ps sp := by
  obtain ⟨fd, D⟩ := D
  refine ⟨f, fd, fn_guard D S len (fun cdv A outer s H vs Q E hg hr h => ?_), m, D.kp, D.bindsN b, D.bindsA b⟩
  obtain ⟨t, ht, q⟩ := body cdv A outer s H E hg hr
  exact ⟨t, ht.nox, q vs H Q E h⟩
end
/-! ### a list that stays for a while -/
def delA (F : Hp) (l : Addr) : Hp := fun a => if a = l then none else F a
theorem del_ne {F : Hp} {l a : Addr} {o : HO} (h : F a = some o) (hn : a ≠ l) : delA F l a = some o := by unfold delA; rw [if_neg hn]; exact h
theorem del_sub (F : Hp) (l : Addr) : Same (delA F l) F := fun a o h => by
  unfold delA at h
  split at h
  · cases h
  · exact h
/-- what stands for R stands for it without l, where l is a list of these -/
def Off (F : Hp) (l : Addr) (R : Rep) : Prop := ∀ v, R.at_ F v → R.at_ (delA F l) v
section
variable {F : Hp} {l : Addr} {vs0 : List V}
theorem off_V (u : V) : Off F l (rV u) := fun _ h => h
theorem off_la : ∀ {vs : List V} {Rs : List Rep}, (∀ R ∈ Rs, Off F l R) → LA F vs Rs → LA (delA F l) vs Rs
  | _, _, _, .nil => .nil
  | _, _, h, .cons r t => .cons (h _ List.mem_cons_self _ r) (off_la (fun R hR => h R (List.mem_cons_of_mem _ hR)) t)
theorem off_tup (hF : F l = some (.lst vs0)) {Rs : List Rep} (h : ∀ R ∈ Rs, Off F l R) : Off F l (rTup Rs) := fun v ⟨a, vs, e, ha, la⟩ => ⟨a, vs, e, del_ne ha (fun z => by rw [z, hF] at ha; cases ha), off_la h la⟩
theorem off_lst (hF : F l = some (.lst vs0)) {Rs : List Rep} (h : ∀ R ∈ Rs, Off F l R) (hne : ¬ LA F vs0 Rs) : Off F l (rLst Rs) := fun v ⟨a, vs, e, ha, la⟩ => by
  refine ⟨a, vs, e, del_ne ha fun z => ?_, off_la h la⟩
  rw [z, hF] at ha
  cases ha
  exact hne la
theorem off_ka {κ : Type} {ws : List (κ × V)} {ks : List (κ × Rep)} (k : KA F ws ks) : (∀ R ∈ ks.map (·.2), Off F l R) → KA (delA F l) ws ks := by
  induction k with
  | nil => exact fun _ => .nil
  | cons r t ih => exact fun h => .cons (h _ List.mem_cons_self _ r) (ih fun R hR => h R (List.mem_cons_of_mem _ hR))
theorem off_ins (hF : F l = some (.lst vs0)) {C : Addr} {fds : List (PySem.Str × Rep)} (h : ∀ R ∈ fds.map (·.2), Off F l R) : Off F l (rIns C fds) := fun v ⟨a, dx, fs, e, ha, la⟩ => ⟨a, dx, fs, e, del_ne ha (fun z => by rw [z, hF] at ha; cases ha), off_ka la h⟩
theorem off_DT (hF : F l = some (.lst vs0)) {ks : List (List Key × Rep)} (h : ∀ R ∈ ks.map (·.2), Off F l R) : Off F l (rDT ks) := fun v ⟨a, od, ws, e, ha, la⟩ => ⟨a, od, ws, e, del_ne ha (fun z => by rw [z, hF] at ha; cases ha), off_ka la h⟩
/-- the list's items are some signs, at least one -/
theorem odd_nat {told : List Sg} (hne : told ≠ []) (l0 : LA F vs0 (told.map rSg)) (st : List Nat) : ¬ LA F vs0 (st.map rNat) := by
  intro la
  cases told with
  | nil => exact hne rfl
  | cons q told =>
    cases l0 with
    | cons r0 _ =>
      obtain ⟨a, ws, e, _, _⟩ := r0
      subst e
      cases st with
      | nil => cases la
      | cons x st =>
        cases la with
        | cons r _ => cases (show V.ref a = V.int (x : Nat) from r)
theorem odd_stp {told : List Sg} (hne : told ≠ []) (l0 : LA F vs0 (told.map rSg)) (sp : List Stp) : ¬ LA F vs0 (sp.map rStp) := by
  intro la
  cases told with
  | nil => exact hne rfl
  | cons q told =>
    cases l0 with
    | cons r0 _ =>
      obtain ⟨a, ws, e, h0, lw⟩ := r0
      subst e
      cases sp with
      | nil => cases la
      | cons m sp =>
        cases la with
        | cons r _ =>
          obtain ⟨b, us, e, h1, lu⟩ := r
          cases e
          rw [h0] at h1
          cases h1
          have a1 := lw.len
          have a2 := lu.len
          rw [a1] at a2
          simp at a2
variable {told : List Sg} (hF : F l = some (.lst vs0)) (hne : told ≠ []) (l0 : LA F vs0 (told.map rSg))
include hF hne l0
theorem off_nats (st : List Nat) : Off F l (rLst (st.map rNat)) := off_lst hF (fun R hR => by obtain ⟨x, _, rfl⟩ := List.mem_map.mp hR; exact off_V _) (odd_nat hne l0 st)
theorem off_stps (sp : List Stp) : Off F l (rLst (sp.map rStp)) :=
  off_lst hF (fun R hR => by
    obtain ⟨x, _, rfl⟩ := List.mem_map.mp hR
    refine off_tup hF fun R hR => ?_
    simp only [List.mem_cons, List.not_mem_nil, or_false] at hR
    rcases hR with rfl | rfl | rfl | rfl <;> exact off_V _) (odd_stp hne l0 sp)
theorem off_tab (ls : List Sg) (f : Sg → List Nat) : Off F l (rTab ls f) := off_DT hF fun R hR => by
  rw [List.map_map] at hR
  obtain ⟨x, _, rfl⟩ := List.mem_map.mp hR
  exact off_nats hF hne l0 _
theorem off_box {K : PySem.W.Frag} (b : Bx) : Off F l (rBox K b) := by
  refine off_ins hF fun R hR => ?_
  have hR : R = rShape K b ∨ R = rLst (b.sp.map rStp) := by simpa [fBox] using hR
  rcases hR with rfl | rfl
  · refine off_ins hF fun R hR => ?_
    have hR : R = rNat b.n ∨ R = rLst (b.st.map rNat) ∨ R = rLst (b.sp.map rStp) ∨ R = rTab b.signs b.forth ∨ R = rTab b.signs b.back := by simpa [fShape] using hR
    rcases hR with rfl | rfl | rfl | rfl | rfl
    · exact off_V _
    · exact off_nats hF hne l0 _
    · exact off_stps hF hne l0 _
    · exact off_tab hF hne l0 _ _
    · exact off_tab hF hne l0 _ _
  · exact off_stps hF hne l0 _
end
end K81
set_option Elab.async false
set_option linter.all false
set_option maxRecDepth 100000
set_option maxHeartbeats 2000000
set_option autoImplicit false
/-! K81CR: the parts of _law_right. -/
namespace K81
open PySem PySem.Spec L2
open PyProof.Rows
section
variable {bh bw c : Bx} {told : List Sg}
theorem RoomIn.dom (I : RoomIn bh bw told) : rmDom (bh, bw, told) := ⟨I.h1, I.h2, I.n1, I.n2, I.nd, Nat.le_trans (rmBox_few I) (by decide)⟩
theorem RoomIs.good (R : RoomIs bh bw told c) (w : List Sg) : c.gives w = true ↔ Good bh bw told w := R.gives w
theorem all_good (R : RoomIs bh bw told c) {ws : List (List Sg)} (h : ∀ w ∈ ws, Good bh bw told w) : (ws.map fun w => c.gives w).all id = true := by
  rw [List.all_eq_true]
  intro b hb
  obtain ⟨w, hw, rfl⟩ := List.mem_map.mp hb
  exact (R.good w).mpr (h w hw)
theorem any_bad (R : RoomIs bh bw told c) {ws : List (List Sg)} (h : ∀ w ∈ ws, ¬ Good bh bw told w) : (ws.map fun w => c.gives w).any id = false := by
  rw [List.any_eq_false]
  intro b hb hbt
  obtain ⟨w, hw, rfl⟩ := List.mem_map.mp hb
  exact h w hw ((R.good w).mp hbt)
theorem RoomIs.sps (R : RoomIs bh bw told c) : c.sp.length < 1228 := by
  have h1 := det_steps R.det R.nds
  have h2 := R.n
  omega
theorem RoomIs.sgs (R : RoomIs bh bw told c) : (c.signs.filter fun q => decide (q ∈ told)) = c.signs := List.filter_eq_self.mpr fun q hq => decide_eq_true (R.signs q hq)
end
section
variable {most wide : Nat} {ms : List Sg} {d : Dl}
/-- begun elsewhere -/
def Dl.at (d : Dl) (x : Nat) : Dl := ⟨d.n, [x], d.mv⟩
theorem DlOk.at (h : DlOk most wide ms d) {x : Nat} (hx : x < d.n) : DlOk most wide ms (d.at x) :=
  ⟨h.n0, h.n1, List.cons_ne_nil _ _, (show 1 ≤ 2 by decide), List.nodup_cons.mpr ⟨List.not_mem_nil, List.nodup_nil⟩, fun y hy => by rw [List.mem_singleton.mp hy]; exact hx, h.ml, h.mn, h.mi⟩
theorem at_bx (d : Dl) (x : Nat) : mkBx d.bx.n [x] d.bx.sp = (d.at x).bx := by
  show (⟨d.n, srt rkN [x], srt rkStp (srt rkStp d.mv)⟩ : Bx) = ⟨d.n, srt rkN [x], srt rkStp d.mv⟩
  rw [srt_id (srt_sorted _ _)]
theorem DlOk.sm (h : DlOk most wide ms d) (h1 : most ≤ 6) (h2 : wide ≤ 24) : Sm d.bx := by
  have a := h.n1
  have b := h.stl
  have e := h.spl
  refine ⟨?_, by omega, by omega, fun x hx => ?_, fun m hm => ?_⟩
  · show d.n < 7
    omega
  · have := h.fi x (srt_mem.mp hx)
    omega
  · have := h.mi m (srt_mem.mp hm)
    omega
end
section
variable {P : Program} {w : World} {K : PySem.W.Frag} {Rs : Rs_} {H F : Hp} {ta tb tc te : TE} {E : XK} {bh bw c : Bx} {told : List Sg} {l : Addr}
theorem x_room (ha : EvE ta Rs H F (rBox K bh)) (hb : EvE tb Rs H F (rBox K bw)) (hc : EvE tc Rs H F (rSeq (told.map rSg))) (I : RoomIn bh bw told) : EvE (tCall (spRoom K) [] E (tCons ta (tCons tb (tCons tc tNil)))) Rs H F (rBox K (roomOf bh bw told)) :=
  ev_call (res := fun p : Bx × Bx × List Sg => rBox K (formOf (rmBox p.1 p.2.1 p.2.2))) (bh, bw, told) (ea_cons ha (ea_2 hb hc)) rfl fun _ _ _ => I.dom
theorem ev_seqL {Ts : List Rep} (h : EvE te Rs H F (rLst Ts)) : EvE te Rs H F (rSeq Ts) := h.to fun _ _ _ h => seq_lst h
theorem ev_seqT {Ts : List Rep} (h : EvE te Rs H F (rTup Ts)) : EvE te Rs H F (rSeq Ts) := h.to fun _ _ _ h => seq_tup h
/-- room(signs = .., whole = .., helper = ..) -/
theorem x_roomK (ha : EvE ta Rs H F (rSeq (told.map rSg))) (hb : EvE tb Rs H F (rBox K bw)) (hc : EvE tc Rs H F (rBox K bh)) (I : RoomIn bh bw told) : EvE (tCallK3 (spRoom K) (tCons ta (tCons tb (tCons tc tNil)))) Rs H F (rBox K (roomOf bh bw told)) := by
  intro σ H1 F1 g e Q q
  refine ea_cons ha (ea_2 hb hc) σ H1 F1 g e _ fun vs H2 F2 g2 l => ?_
  cases l with
  | cons r1 l => cases l with
    | cons r2 l => cases l with
      | cons r3 l =>
        cases l
        exact ⟨_, _, _, rfl, (bh, bw, told), F2, g2.fh, .cons r3 (.cons r2 (.cons r1 .nil)), I.dom, fun v H3 F3 g3 r => q v H3 F3 (g2.trans g3) r⟩
/-- with a list that changes -/
theorem ev_roomH (m : ML l (told.map rSg) H F) (ha : EvE ta Rs H F (rBox K bh)) (hb : EvE tb Rs H F (rBox K bw)) (hc : EvE tc Rs H F (rV (.ref l))) (I : RoomIn bh bw told) (hne : told ≠ []) : EvE (tCall (spRoom K) [] E (tCons ta (tCons tb (tCons tc tNil)))) Rs H F (rBox K (roomOf bh bw told)) := by
  intro σ H1 F1 g e Q q
  refine ea_cons ha (ea_2 hb hc) σ H1 F1 g e _ fun vs H2 F2 g2 la => ?_
  rw [List.append_nil]
  obtain ⟨nf, us, hl, lu⟩ := m.grow (g.trans g2)
  cases la with
  | cons r1 la => cases la with
    | cons r2 la => cases la with
      | cons r3 la =>
        cases la
        have r3 : _ = V.ref l := r3
        subst r3
        have sf : Same F2 (upd F2 l (.lst us)) := fun b o hb => by rw [upd_ne (ne_of_none hb nf)]; exact hb
        have sh : Same (upd F2 l (.lst us)) H2 := fun b o hb => by
          by_cases e : b = l
          · subst e; rw [upd_same] at hb; rw [hl]; exact hb
          · rw [upd_ne e] at hb; exact g2.fh _ _ hb
        refine ⟨(bh, bw, told), upd F2 l (.lst us), sh, .cons ((rBox K bh).mono sf r1) (.cons ((rBox K bw).mono sf r2) (.cons ⟨l, us, rfl, .inl upd_same, lu.mono sf⟩ .nil)), I.dom, fun v H3 F3 g3 r => ?_⟩
        have h3l : F3 l = some (.lst us) := g3.ff _ _ upd_same
        refine q v H3 (delA F3 l) (g2.trans ⟨g3.hh, g3.hm, fun b o hb => ?_, (del_sub F3 l).trans g3.fh, fun {b o} hb => ?_⟩) (off_box h3l hne (lu.mono (sf.trans g3.ff)) _ v r)
        · exact del_ne (g3.ff _ _ (sf _ _ hb)) (ne_of_none hb nf)
        · have hbl : b ≠ l := fun e => by subst e; unfold delA at hb; rw [if_pos rfl] at hb; cases hb
          have hb3 := del_sub F3 l _ _ hb
          rcases g3.fr hb3 with z | z
          · rw [upd_ne hbl] at z
            exact .inl z
          · exact .inr z
/-- a copy that may change -/
theorem ev_copyM {Ts : List Rep} (h : EvE ta Rs H F (rLst Ts)) : EvM (tCB (rListOf K) (tCons ta tNil)) Rs H F (fun D => ML D Ts) := by
  intro σ H1 F1 g e Q q
  refine ea_1 h σ H1 F1 g e _ fun vs H2 F2 g2 l => ?_
  cases l with
  | cons r1 l =>
    cases l
    obtain ⟨a, us, rfl, h2, l2⟩ := r1
    refine ⟨a, us, rfl, .inl (SqL.of (g2.fh _ _ h2)), fun p hp => ?_⟩
    exact q p _ F2 (g2.trans (Gr.newM g2.fh hp)) (g2.none hp) ⟨g2.fh.free hp, us, upd_same, l2⟩
/-- l.clear() -/
theorem st_clear {σ : L2.St} {D : Ends} {Ts : List Rep} (s : Same F H) (e : En F σ Rs) (m : ML l Ts H F) (ho : EvE ta Rs H F (rV (.ref l))) (k : ∀ H' F', Gr (At l) H F H' F' → En F' σ Rs → D.nx σ H') : tDrop (tBM0 K "list" rClear ta) D σ H := by
  refine ho σ H F (Gr.refl s) e _ fun v H1 F1 g r => ?_
  have r : v = V.ref l := r
  subst r
  obtain ⟨nf, us, hl, lu⟩ := m.grow g
  exact ⟨tyv_l hl, l, us, rfl, rfl, hl, k _ F1 (g.up.wr (.inr rfl) nf) (e.mono g.ff)⟩
/-- not all([gives(found, said) for said in good]) or any([.. in bad]) -/
theorem eb_runs {s f : Nat} {wg wb : TI} {gs bs : List (List Sg)} (R : RoomIs bh bw told c) (hg : ∀ w ∈ gs, Good bh bw told w) (hb : ∀ w ∈ bs, ¬ Good bh bw told w) (hz : gs.length + bs.length ≤ 1000) (sg : SrcL wg Rs H F gs rRow) (sb : SrcL wb Rs H F bs rRow)
    (hs : offB [s] Rs = true) (hc : ∀ w, (Rs.set s (some (rRow w)))[f]? = some (some (rBox K c))) (hw : ∀ w, (Rs.set s (some (rRow w)))[s]? = some (some (rRow w))) :
    EvB (tOr (tNot (tTest (tCB (rAll K) (tCons (tLc wg (gName s) tYes (tCall (spGives K) [] E0 (tCons (tVar f) (tCons (tVar s) tNil))) [s]) tNil)))) (tTest (tCB (rAny K) (tCons (tLc wb (gName s) tYes (tCall (spGives K) [] E0 (tCons (tVar f) (tCons (tVar s) tNil))) [s]) tNil)))) Rs H F false := by
  have big : 1000 < sizeLine := by decide
  have key : ∀ {wi : TI} {ws : List (List Sg)}, ws.length ≤ 1000 → SrcL wi Rs H F ws rRow → EvE (tLc wi (gName s) tYes (tCall (spGives K) [] E0 (tCons (tVar f) (tCons (tVar s) tNil))) [s]) Rs H F (rLst ((ws.map fun w => c.gives w).map rB)) := fun hl src =>
    ev_lc0 (RB := rB) (f := fun w => c.gives w) (Ss := fun w => Rs.set s (some (rRow w))) src (by omega) hs (fun _ _ => tgt_1) fun w _ => x_gives (ev_var (hc w)) (ev_var (hw w)) R.ok
  refine EvB.eq (eb_or (eb_not (eb_test (ev_all (key (by omega) sg)))) fun _ => eb_test (ev_any (key (by omega) sb))) ?_
  rw [all_good R hg, any_bad R hb]
  rfl
theorem ep_lst {ta : TA} {As : List Rep} (h : EvPA l ta Rs H F As) (hl : As.length ≤ 100 := by exact Nat.le_of_ble_eq_true rfl) : EvP l (tLst ta) Rs H F (rLst As) := fun σ H1 F1 g e p Q q =>
  h σ H1 F1 g e p _ fun vs H2 F2 k p2 rv => ⟨by rw [rv.len]; exact Nat.le_trans hl (by decide), fun a ha => by
    have g3 : G0 H2 F2 (upd H2 a (.lst vs)) (upd F2 a (.lst vs)) := Gr.new k.fh ha
    exact q _ _ _ (k.trans g3.up) (p2.grow g3) ⟨a, vs, rfl, upd_same, rv.mono g3.ff⟩⟩
theorem ep_orV {a b : Bool} (ha : EvP l ta Rs H F (rB a)) (hb : a = false → EvP l tb Rs H F (rB b)) : EvP l (tOrV ta tb) Rs H F (rB (a || b)) := by
  intro σ H1 F1 g e p Q q
  refine ha σ H1 F1 g e p _ fun v H2 F2 k p2 r => ⟨a, r, ?_⟩
  cases a with
  | true => rw [if_pos rfl]; exact q _ H2 F2 k p2 rfl
  | false => rw [if_neg Bool.false_ne_true]; exact hb rfl σ H2 F2 (g.trans k) (e.mono k.ff) p2 Q fun v H3 F3 m p3 r => q v H3 F3 (k.trans m) p3 r
theorem x_law_runs {dl dr : Dl} (ha : EvE ta Rs H F (rDeal dl)) (hb : EvE tb Rs H F (rDeal dr)) (hc : EvE tc Rs H F (rLst (told.map rSg))) (I : RunsIn dl dr told) : EvE (tCall spRuns [] E (tCons ta (tCons tb (tCons tc tNil)))) Rs H F (rRuns dl dr told) :=
  ev_call (res := fun p : Dl × Dl × List Sg => rRuns p.1 p.2.1 p.2.2) (dl, dr, told) (ea_cons ha (ea_2 hb hc)) rfl fun _ _ _ => I
/-- good, bad = _law_runs(..) -/
theorem st_runs {σ : L2.St} {D : Ends} {dl dr : Dl} {i j : Nat} (s : Same F H) (e : En F σ Rs) (h : EvE te Rs H F (rRuns dl dr told)) (k : ∀ (gs bs : List (List Sg)) (σ' : L2.St) (H' F' : Hp), G0 H F H' F' → gs.length + bs.length ≤ 1000 → (∀ w ∈ gs, Good dl.bx dr.bx told w) → (∀ w ∈ bs, ¬ Good dl.bx dr.bx told w) → En F' σ' ((Rs.set i (some (rLst (gs.map rRow)))).set j (some (rLst (bs.map rRow)))) → D.nx σ' H') :
    tAsg te (gTup K 2 (gCons (gName i) (gCons (gName j) gNil))) D σ H := by
  refine h σ H F (Gr.refl s) e _ fun v H1 F1 g ⟨⟨gs, bs⟩, ⟨h1, h2, h3⟩, r⟩ => ?_
  exact g_2 (R1 := rLst (gs.map rRow)) (R2 := rLst (bs.map rRow)) g.fh (e.mono g.ff) r fun σ' e' _ => k gs bs σ' H1 F1 g h1 h2 h3 e'
theorem x_with_starts {d : Dl} {x : Nat} (ha : EvE ta Rs H F (rBox K d.bx)) (hb : EvE tb Rs H F (rLst [rNat x])) (hd : d.bx.Ok) (hx : x < d.n) : EvE (tMeth (He.ga K "Box") "with_starts" (spWithStarts K) [] E ta (tCons tb tNil)) Rs H F (rBox K (d.at x).bx) := by
  rw [← at_bx]
  exact ev_meth (res := fun p : Bx × List Nat => rBox K (mkBx p.1.n p.2 p.1.sp)) (d.bx, [x]) ha (isIns_Box rfl) (ea_1 hb) rfl fun _ _ _ => ⟨hd, List.cons_ne_nil _ _, (by decide : 1 ≤ 1000), List.nodup_cons.mpr ⟨List.not_mem_nil, List.nodup_nil⟩, fun y hy => by rw [List.mem_singleton.mp hy]; exact hx⟩
/-- a, b, c = (.., .., ..), drawn -/
theorem stp_tup3 {σ : L2.St} {D : Ends} {t1 t2 t3 : TE} {A1 A2 A3 : Rep} {i j m : Nat} (s : Same F H) (e : En F σ Rs) (p : Pot l H F) (h1 : EvP l t1 Rs H F A1) (h2 : EvP l t2 Rs H F A2) (h3 : EvP l t3 Rs H F A3)
    (k : ∀ σ' H' F', Gr (At l) H F H' F' → Pot l H' F' → En F' σ' (((Rs.set i (some A1)).set j (some A2)).set m (some A3)) → D.nx σ' H') : tAsg (tTup (tCons t1 (tCons t2 (tCons t3 tNil)))) (gTup K 3 (gCons (gName i) (gCons (gName j) (gCons (gName m) gNil)))) D σ H := by
  refine ep_tup (epa_cons h1 (epa_cons h2 (epa_cons h3 epa_nil))) (Nat.le_of_ble_eq_true rfl) σ H F (Gr.refl s) e p _ fun v H1 F1 g1 p1 r => ?_
  exact g_3 (R1 := A1) (R2 := A2) (R3 := A3) g1.fh (e.mono g1.ff) r fun σ' e' _ => k σ' H1 F1 g1 p1 e'
theorem ev_revS {te : TE} {l : List Sg} (h : EvE te Rs H F (rLst (l.map rSg))) : EvE (tRevL K te) Rs H F (rLst (l.reverse.map rSg)) := by
  rw [List.map_reverse]
  exact ev_revL h
theorem ev_neSg {l k : List Sg} (ha : EvE ta Rs H F (rLst (l.map rSg))) (hb : EvE tb Rs H F (rLst (k.map rSg))) : EvE (tOp (rNeD K) ta tb) Rs H F (rB (!decide (l = k))) :=
  EvE.eqB (ev_neD (K := K) (d := .list (l.map encSg)) (e := .list (k.map encSg)) ha hb (dpr_lst (dprs_map dpr_sg _)) (dpr_lst (dprs_map dpr_sg _)) (ok_list ok_sg _).shaped (ok_list ok_sg _).shaped) (by rw [eqv_list (fun a => (ok_sg a).pl) encSg_inj])
theorem ev_inSg {q : Sg} {l : List Sg} (ha : EvE ta Rs H F (rSg q)) (hb : EvE tb Rs H F (rLst (l.map rSg))) : EvE (tOp (rInD K) ta tb) Rs H F (rB (decide (q ∈ l))) :=
  EvE.eqB (ev_inD (K := K) (d := encSg q) (ds := l.map encSg) ha hb (dpr_sg _) (dpr_lst (dprs_map dpr_sg _)) (ok_sg _).shaped (ok_list ok_sg _).shaped) (any_dec (fun a => (ok_sg a).pl) encSg_inj _ _)
theorem x_roomE (h : roomOf bh bw told = c) (ha : EvE ta Rs H F (rBox K bh)) (hb : EvE tb Rs H F (rBox K bw)) (hc : EvE tc Rs H F (rSeq (told.map rSg))) (I : RoomIn bh bw told) : EvE (tCall (spRoom K) [] E (tCons ta (tCons tb (tCons tc tNil)))) Rs H F (rBox K c) := h ▸ x_room ha hb hc I
theorem ev_repr2E {b1 b2 : Bx} {tx : PySem.Str} (h : listText [boxText b1, boxText b2] = tx) (h1 : EvE ta Rs H F (rBox K b1)) (h2 : EvE tb Rs H F (rBox K b2)) (s1 : Sm b1) (s2 : Sm b2) : EvE (tCB (rReprB K) (tCons (tLst (tCons ta (tCons tb tNil))) tNil)) Rs H F (rS tx) := h ▸ ev_repr2 h1 h2 s1 s2
theorem x_Box1 : RawB 1 [0] [] := ⟨⟨by decide, by decide, by decide, by decide, fun m hm => nomatch hm⟩, by decide, by decide, List.cons_ne_nil _ _, List.nodup_cons.mpr ⟨List.not_mem_nil, List.nodup_nil⟩, by decide, List.nodup_nil⟩
theorem ep_deal {most wide : Nat} {ms : List Sg} {td : TE} (ha : ∀ H1 F1, EvE ta Rs H1 F1 (rV (.ref l))) (hb : ∀ H1 F1, EvE tb Rs H1 F1 (rNat most)) (hc : ∀ H1 F1, EvE tc Rs H1 F1 (rNat wide)) (hd : ∀ H1 F1, EvE td Rs H1 F1 (rLst (ms.map rSg))) (h0 : 0 < most) (h1 : most ≤ 100) (h2 : wide ≤ 100) (hm : MenuOk ms) :
    EvP l (tCall spDeal [] E (tCons ta (tCons tb (tCons tc (tCons td tNil))))) Rs H F (rEx rDeal (DlOk most wide ms)) :=
  ep_call (res := fun p : Nat × Nat × List Sg => rEx rDeal (DlOk p.1 p.2.1 p.2.2)) (most, wide, ms) (epa_cons (ep_e fun _ _ _ => ha _ _) (epa_cons (ep_e fun _ _ _ => hb _ _) (epa_cons (ep_e fun _ _ _ => hc _ _) (epa_cons (ep_e fun _ _ _ => hd _ _) epa_nil)))) rfl ⟨h0, h1, h2, hm⟩
/-- [_law_draw(..)] -/
theorem ep_begun {n : Nat} (ha : ∀ H1 F1, EvE ta Rs H1 F1 (rV (.ref l))) (hb : ∀ H1 F1, EvE tb Rs H1 F1 (rNat n)) (h0 : 0 < n) (h1 : n ≤ 1000) : EvP l (tLst (tCons (tCall spDraw [] E (tCons ta (tCons tb tNil))) tNil)) Rs H F (rEx (fun x : Nat => rLst [rNat x]) fun x => x < n) :=
  ep_to (ep_lst (epa_cons (ep_draw (n := n) (fun _ _ _ => ha _ _) (fun _ _ _ => hb _ _) h0 h1) epa_nil)) fun F' v h => by
    obtain ⟨a, vs, rfl, h2, lv⟩ := h
    cases lv with
    | cons r lv =>
      cases lv
      obtain ⟨x, hx, r⟩ := r
      exact ⟨x, hx, a, _, rfl, h2, .cons r .nil⟩
end
end K81
set_option Elab.async false
set_option linter.all false
set_option maxRecDepth 100000
set_option maxHeartbeats 4000000
set_option autoImplicit false
/-! K81CS: _law_right. -/
namespace K81
open PySem PySem.Spec L2
open PyProof.Rows (envOfC)
section
variable {P : Program} {w : World} {K : PySem.W.Frag} {mg : Str → Option Value} {base : Heap}
abbrev spLRight : Sp := PSpP (fun _ : Unit => []) (fun _ => True) (fun _ => rB true)
abbrev RT (K : PySem.W.Frag) (l : Addr) (ms : List Sg) (dl dr : Dl) (told : List Sg) (tx : Str) (c : Bx) (x10 x11 x14 x15 x16 x17 : Option Rep) : Rs_ :=
  [some (rV (.ref l)), some (rLst (ms.map rSg)), some (rDeal dl), some (rDeal dr), some (rLst (told.map rSg)), some (rBox K dl.bx), some (rBox K dr.bx), some (rS tx), none, some (rBox K c), x10, x11, none, none, x14, x15, x16, x17]
theorem ok_law_right (T : Hd K mg) (c_Box : Cm P w K mg base 6 "Box" (He.ga K "Box") ["self", "states", "starts", "steps"] [] (spBox K)) (c_Box_eq : Cb P w K mg base 3) (c_Box_repr : Cr P w K mg base) (c_Box_is_sure : Cp P w K mg base 1 (He.ga K "Box") "is_sure" (spIsSure K)) (c_Box_states : Cp P w K mg base 1 (He.ga K "Box") "states" (spStates K)) (c_Box_signs : Cq P w K mg base 1 (He.ga K "Box") "signs" ["self"] (spSigns K))
    (c_Box_with_starts : Cq P w K mg base 9 (He.ga K "Box") "with_starts" ["self", "starts"] (spWithStarts K)) (c_gives : Ce P w K mg base 6 "gives" ["box", "row"] (spGives K)) (c_in_step : Ce P w K mg base 9 "in_step" ["one", "other"] (spInStep K)) (c_stands_for : Ce P w K mg base 9 "stands_for" ["one", "other"] (spStands K)) (c_room : Ce P w K mg base 10 "room" ["helper", "whole", "signs"] (spRoom K)) (ck_room : Ck P w K mg base 10 "room" ["helper", "whole", "signs"] ["signs", "whole", "helper"] (spRoom K))
    (c__law_draw : Ce P w K mg base 1 "_law_draw" ["_law_pot_here", "_law_many"] spDraw) (c__law_menu : Ce P w K mg base 2 "_law_menu" ["_law_pot_here"] spMenu) (c__law_deal : Ce P w K mg base 3 "_law_deal" ["_law_pot_here", "_law_most", "_law_wide", "_law_menu_here"] spDeal) (c__law_some_signs : Ce P w K mg base 2 "_law_some_signs" ["_law_pot_here", "_law_menu_here"] spSome) (c__law_made : Ce P w K mg base 8 "_law_made" ["_law_deal_here"] (spLMade K))
    (c__law_runs : Ce P w K mg base 2 "_law_runs" ["_law_left", "_law_right_here", "_law_told"] spRuns) (c__law_greatest_right : Ce P w K mg base 11 "_law_greatest_right" ["_law_pot_here", "_law_left", "_law_right_here", "_law_found", "_law_told"] (spGreat K)) :
    CeG P w K mg base 12 "_law_right" ["_law_pot_here"] spLRight := by
  refine ceG_any T.d__law_right T.glo__law_right sc__law_right (fun _ _ _ _ _ _ us hl => match us, hl with | [_], _ => rfl) (fun vs H Q E ⟨g, l, F, us, h, _, la, _⟩ => by rw [h, List.length_cons, la.len]; rfl) (fun cdv A outer s H0 E hgd hr => ⟨_, (pss_cons (ps_set (i := 1) sc__law_right.nd rfl (Or.inl rfl) (pe_c c__law_menu (hr.mono (by decide)) rfl (pa_cons (pv 0) pa_nil)))
      (pss_cons (ps_asg (pe_tup (pa_cons (pe_c c__law_deal (hr.mono (by decide)) rfl (pa_cons (pv 0) (pa_cons pe_int (pa_cons pe_int (pa_cons (pv 1) pa_nil))))) (pa_cons (pe_c c__law_deal (hr.mono (by decide)) rfl (pa_cons (pv 0) (pa_cons pe_int (pa_cons pe_int (pa_cons (pv 1) pa_nil))))) (pa_cons (pe_c c__law_some_signs (hr.mono (by decide)) rfl (pa_cons (pv 0) (pa_cons (pv 1) pa_nil))) pa_nil)))) (tup_k (K := K) (n := 3) rfl (pgs_cons (pg_name (i := 2) sc__law_right.nd rfl (Or.inl rfl)) (pgs_cons (pg_name (i := 3) sc__law_right.nd rfl (Or.inl rfl)) (pgs_cons (pg_name (i := 4) sc__law_right.nd rfl (Or.inr rfl)) pgs_nil)))))
      (pss_cons (ps_par (i := 5) (j := 6) (by rfl) sc__law_right.nd rfl rfl (by decide) rfl rfl (pa_cons (pe_c c__law_made (hr.mono (by decide)) rfl (pa_cons (pv 2) pa_nil)) (pa_cons (pe_c c__law_made (hr.mono (by decide)) rfl (pa_cons (pv 3) pa_nil)) pa_nil)) (by rfl))
      (pss_cons (ps_par (i := 7) (j := 8) (by rfl) sc__law_right.nd rfl rfl (by decide) rfl rfl (pa_cons (pe_callB (cr_reprB (K := K) c_Box_repr hgd (hr.mono (by decide))) (by rfl) T.free_repr (by decide +kernel) (pa_cons (pe_lst (pa_cons (pv 5) (pa_cons (pv 6) pa_nil))) pa_nil)) (pa_cons (pe_callTy (lst_k (K := K)) (by rfl) T.free_list (by decide +kernel) (pa_cons (pv 4) pa_nil)) pa_nil)) (by rfl))
      (pss_cons (ps_set (i := 9) sc__law_right.nd rfl (Or.inr rfl) (pe_c c_room (hr.mono (by decide)) rfl (pa_cons (pv 5) (pa_cons (pv 6) (pa_cons (pv 8) pa_nil)))))
      (pss_cons (ps_expr (bm0_k (K := K) PySem.F.plainAttrs_list PySem.F.slot_list_clear PySem.F.type_list_clear mt_clear (pv 8)))
      (pss_cons (ps_if (PW.pt (pw_or (pt_not (pt_val (pe_p c_Box_is_sure (pv 9) (hr.mono (by decide))))) (pw_or1 (pt_cmpR (op_neBB (K := K) c_Box_eq (hr.mono (by decide))) (pv 9) (pe_ck ck_room (hr.mono (by decide)) rfl (pk_cons (pe_callTy (tof_k (K := K)) (by rfl) T.free_tuple (by decide +kernel) (pa_cons (rev_k (K := K) (pv 4)) pa_nil)) (pk_cons (pv 6) (pk_cons (pv 5) pk_nil)))) (nomark _))))) (pss_one (ps_ret pe_bl)) pss_nil)
      (pss_cons (ps_asg (pe_c c__law_runs (hr.mono (by decide)) rfl (pa_cons (pv 2) (pa_cons (pv 3) (pa_cons (pv 4) pa_nil)))) (tup_k (K := K) (n := 2) rfl (pgs_cons (pg_name (i := 10) sc__law_right.nd rfl (Or.inl rfl)) (pgs_cons (pg_name (i := 11) sc__law_right.nd rfl (Or.inl rfl)) pgs_nil))))
      (pss_cons (ps_if (PW.pt (pw_or (pt_not (pt_val (pe_callB (all_k (K := K) rfl) (by rfl) T.free_all (by decide +kernel) (pa_cons (pe_lc (own := [("_law_said", 12)]) (tt := tYes) rfl sc__law_right.nd (pi_list (pv 10)) (blkOk_by (own := [("_law_said", 12)]) (N := ["_law_pot_here", "_law_menu_here", "_law_left", "_law_right_here", "_law_told", "_law_near", "_law_far", "_law_shown", "_law_handed", "_law_found", "_law_good", "_law_bad", "_law_said", "_law_sign", "_law_apart", "_law_begun", "_law_other_deal", "_law_moved"]) (sc := defScope s__law_right) (by decide +kernel)) (fun _ _ _ _ _ => (pg_name (i := 12) sc__law_right.nd rfl (Or.inl rfl))) (fun _ _ _ _ _ => pts_nil) (fun _ _ _ _ _ => (pe_c c_gives (hr.mono (by decide)) rfl (pa_cons (pv 9) (pa_cons (pv 12) pa_nil))))) pa_nil)))) (pw_or1 (pt_val (pe_callB (any_k (K := K) rfl) (by rfl) T.free_any (by decide +kernel) (pa_cons (pe_lc (own := [("_law_said", 12)]) (tt := tYes) rfl sc__law_right.nd (pi_list (pv 11)) (blkOk_by (own := [("_law_said", 12)]) (N := ["_law_pot_here", "_law_menu_here", "_law_left", "_law_right_here", "_law_told", "_law_near", "_law_far", "_law_shown", "_law_handed", "_law_found", "_law_good", "_law_bad", "_law_said", "_law_sign", "_law_apart", "_law_begun", "_law_other_deal", "_law_moved"]) (sc := defScope s__law_right) (by decide +kernel)) (fun _ _ _ _ _ => (pg_name (i := 12) sc__law_right.nd rfl (Or.inl rfl))) (fun _ _ _ _ _ => pts_nil) (fun _ _ _ _ _ => (pe_c c_gives (hr.mono (by decide)) rfl (pa_cons (pv 9) (pa_cons (pv 12) pa_nil))))) pa_nil)))))) (pss_one (ps_ret pe_bl)) pss_nil)
      (pss_cons (ps_if (pt_cmpR (ned_k (K := K) hr.units) (pe_q0 c_Box_signs (pv 9) (hr.mono (by decide))) (pe_callB (srtD_k (K := K) (hu64 hr)) (by rfl) T.free_sorted (by decide +kernel) (pa_cons (pe_lc (own := [("_law_sign", 13)]) rfl sc__law_right.nd (pi_list (pe_q0 c_Box_signs (pv 9) (hr.mono (by decide)))) (blkOk_by (own := [("_law_sign", 13)]) (N := ["_law_pot_here", "_law_menu_here", "_law_left", "_law_right_here", "_law_told", "_law_near", "_law_far", "_law_shown", "_law_handed", "_law_found", "_law_good", "_law_bad", "_law_said", "_law_sign", "_law_apart", "_law_begun", "_law_other_deal", "_law_moved"]) (sc := defScope s__law_right) (by decide +kernel)) (fun _ _ _ _ _ => (pg_name (i := 13) sc__law_right.nd rfl (Or.inl rfl))) (fun _ _ _ _ _ => (pts_one (pt_cmpR (ind_k (K := K) (hu65 hr)) (pv 13) (pv 4) (by rfl)))) (fun _ _ _ _ _ => (pv 13))) pa_nil)) (nomark _)) (pss_one (ps_ret pe_bl)) pss_nil)
      (pss_cons (ps_if (PW.pt (pw_or (pt_not (pt_val (pe_c c_stands_for (hr.mono (by decide)) rfl (pa_cons (pe_c c_in_step (hr.mono (by decide)) rfl (pa_cons (pv 5) (pa_cons (pv 9) pa_nil))) (pa_cons (pv 6) pa_nil))))) (pw_or1 (pt_cmpR op_ne (pe_callB (cr_reprB (K := K) c_Box_repr hgd (hr.mono (by decide))) (by rfl) T.free_repr (by decide +kernel) (pa_cons (pe_lst (pa_cons (pv 5) (pa_cons (pv 6) pa_nil))) pa_nil)) (pv 7) (nomark _))))) (pss_one (ps_ret pe_bl)) pss_nil)
      (pss_cons (ps_if (pt_cmpR (op_neBB (K := K) c_Box_eq (hr.mono (by decide))) (pe_c c_room (hr.mono (by decide)) rfl (pa_cons (pv 5) (pa_cons (pv 6) (pa_cons (pe_lst pa_nil) pa_nil)))) (pe_mk c_Box (hr.mono (by decide)) rfl (pa_cons pe_int (pa_cons (pe_lst (pa_cons pe_int pa_nil)) (pa_cons (pe_lst pa_nil) pa_nil)))) (nomark _)) (pss_one (ps_ret pe_bl)) pss_nil)
      (pss_cons (ps_set (i := 14) sc__law_right.nd rfl (Or.inl rfl) (pe_c c__law_made (hr.mono (by decide)) rfl (pa_cons (pe_c c__law_deal (hr.mono (by decide)) rfl (pa_cons (pv 0) (pa_cons pe_int (pa_cons pe_int (pa_cons (pv 1) pa_nil))))) pa_nil)))
      (pss_cons (ps_if (PW.pt (pw_or (pt_cmpR (op_neBB (K := K) c_Box_eq (hr.mono (by decide))) (pe_c c_room (hr.mono (by decide)) rfl (pa_cons (pv 5) (pa_cons (pv 14) (pa_cons (pv 4) pa_nil)))) (pe_c c_room (hr.mono (by decide)) rfl (pa_cons (pv 5) (pa_cons (pv 14) (pa_cons (rev_k (K := K) (pv 4)) pa_nil)))) (nomark _)) (pw_or1 (pt_cmpR (op_neBB (K := K) c_Box_eq (hr.mono (by decide))) (pe_c c_room (hr.mono (by decide)) rfl (pa_cons (pv 5) (pa_cons (pv 6) (pa_cons (pv 4) pa_nil)))) (pv 9) (nomark _))))) (pss_one (ps_ret pe_bl)) pss_nil)
      (pss_cons (ps_set (i := 15) sc__law_right.nd rfl (Or.inl rfl) (pe_lst (pa_cons (pe_c c__law_draw (hr.mono (by decide)) rfl (pa_cons (pv 0) (pa_cons (pe_dget (hu_of hr) (pv 3) pe_str (fun _ _ => rfl)) pa_nil))) pa_nil)))
      (pss_cons (ps_set (i := 16) sc__law_right.nd rfl (Or.inl rfl) (pe_disp (pps_cons pe_str (pe_dget (hu_of hr) (pv 3) pe_str (fun _ _ => rfl)) (pps_cons pe_str (pv 15) (pps_cons pe_str (pe_dget (hu_of hr) (pv 3) pe_str (fun _ _ => rfl)) pps_nil))) (by rfl) (by rfl) (fun z => by cases z) (by decide)))
      (pss_cons (ps_asg (pe_c c__law_runs (hr.mono (by decide)) rfl (pa_cons (pv 2) (pa_cons (pv 16) (pa_cons (pv 4) pa_nil)))) (tup_k (K := K) (n := 2) rfl (pgs_cons (pg_name (i := 10) sc__law_right.nd rfl (Or.inl rfl)) (pgs_cons (pg_name (i := 11) sc__law_right.nd rfl (Or.inl rfl)) pgs_nil))))
      (pss_cons (ps_set (i := 17) sc__law_right.nd rfl (Or.inr rfl) (pe_c c_room (hr.mono (by decide)) rfl (pa_cons (pv 5) (pa_cons (pe_q c_Box_with_starts (pv 6) (hr.mono (by decide)) (pa_cons (pv 15) pa_nil)) (pa_cons (pv 4) pa_nil)))))
      (pss_cons (ps_if (PW.pt (pw_or (pt_not (pt_val (pe_callB (all_k (K := K) rfl) (by rfl) T.free_all (by decide +kernel) (pa_cons (pe_lc (own := [("_law_said", 12)]) (tt := tYes) rfl sc__law_right.nd (pi_list (pv 10)) (blkOk_by (own := [("_law_said", 12)]) (N := ["_law_pot_here", "_law_menu_here", "_law_left", "_law_right_here", "_law_told", "_law_near", "_law_far", "_law_shown", "_law_handed", "_law_found", "_law_good", "_law_bad", "_law_said", "_law_sign", "_law_apart", "_law_begun", "_law_other_deal", "_law_moved"]) (sc := defScope s__law_right) (by decide +kernel)) (fun _ _ _ _ _ => (pg_name (i := 12) sc__law_right.nd rfl (Or.inl rfl))) (fun _ _ _ _ _ => pts_nil) (fun _ _ _ _ _ => (pe_c c_gives (hr.mono (by decide)) rfl (pa_cons (pv 17) (pa_cons (pv 12) pa_nil))))) pa_nil)))) (pw_or1 (pt_val (pe_callB (any_k (K := K) rfl) (by rfl) T.free_any (by decide +kernel) (pa_cons (pe_lc (own := [("_law_said", 12)]) (tt := tYes) rfl sc__law_right.nd (pi_list (pv 11)) (blkOk_by (own := [("_law_said", 12)]) (N := ["_law_pot_here", "_law_menu_here", "_law_left", "_law_right_here", "_law_told", "_law_near", "_law_far", "_law_shown", "_law_handed", "_law_found", "_law_good", "_law_bad", "_law_said", "_law_sign", "_law_apart", "_law_begun", "_law_other_deal", "_law_moved"]) (sc := defScope s__law_right) (by decide +kernel)) (fun _ _ _ _ _ => (pg_name (i := 12) sc__law_right.nd rfl (Or.inl rfl))) (fun _ _ _ _ _ => pts_nil) (fun _ _ _ _ _ => (pe_c c_gives (hr.mono (by decide)) rfl (pa_cons (pv 17) (pa_cons (pv 12) pa_nil))))) pa_nil)))))) (pss_one (ps_ret pe_bl)) pss_nil)
      (pss_cons (ps_set (i := 15) sc__law_right.nd rfl (Or.inl rfl) (pe_lst (pa_cons (pe_c c__law_draw (hr.mono (by decide)) rfl (pa_cons (pv 0) (pa_cons (pe_dget (hu_of hr) (pv 2) pe_str (fun _ _ => rfl)) pa_nil))) pa_nil)))
      (pss_cons (ps_asg (pe_c c__law_runs (hr.mono (by decide)) rfl (pa_cons (pe_disp (pps_cons pe_str (pe_dget (hu_of hr) (pv 2) pe_str (fun _ _ => rfl)) (pps_cons pe_str (pv 15) (pps_cons pe_str (pe_dget (hu_of hr) (pv 2) pe_str (fun _ _ => rfl)) pps_nil))) (by rfl) (by rfl) (fun z => by cases z) (by decide)) (pa_cons (pv 3) (pa_cons (pv 4) pa_nil)))) (tup_k (K := K) (n := 2) rfl (pgs_cons (pg_name (i := 10) sc__law_right.nd rfl (Or.inl rfl)) (pgs_cons (pg_name (i := 11) sc__law_right.nd rfl (Or.inl rfl)) pgs_nil))))
      (pss_cons (ps_set (i := 17) sc__law_right.nd rfl (Or.inr rfl) (pe_c c_room (hr.mono (by decide)) rfl (pa_cons (pe_q c_Box_with_starts (pv 5) (hr.mono (by decide)) (pa_cons (pv 15) pa_nil)) (pa_cons (pv 6) (pa_cons (pv 4) pa_nil)))))
      (pss_cons (ps_if (PW.pt (pw_or (pt_not (pt_val (pe_callB (all_k (K := K) rfl) (by rfl) T.free_all (by decide +kernel) (pa_cons (pe_lc (own := [("_law_said", 12)]) (tt := tYes) rfl sc__law_right.nd (pi_list (pv 10)) (blkOk_by (own := [("_law_said", 12)]) (N := ["_law_pot_here", "_law_menu_here", "_law_left", "_law_right_here", "_law_told", "_law_near", "_law_far", "_law_shown", "_law_handed", "_law_found", "_law_good", "_law_bad", "_law_said", "_law_sign", "_law_apart", "_law_begun", "_law_other_deal", "_law_moved"]) (sc := defScope s__law_right) (by decide +kernel)) (fun _ _ _ _ _ => (pg_name (i := 12) sc__law_right.nd rfl (Or.inl rfl))) (fun _ _ _ _ _ => pts_nil) (fun _ _ _ _ _ => (pe_c c_gives (hr.mono (by decide)) rfl (pa_cons (pv 17) (pa_cons (pv 12) pa_nil))))) pa_nil)))) (pw_or1 (pt_val (pe_callB (any_k (K := K) rfl) (by rfl) T.free_any (by decide +kernel) (pa_cons (pe_lc (own := [("_law_said", 12)]) (tt := tYes) rfl sc__law_right.nd (pi_list (pv 11)) (blkOk_by (own := [("_law_said", 12)]) (N := ["_law_pot_here", "_law_menu_here", "_law_left", "_law_right_here", "_law_told", "_law_near", "_law_far", "_law_shown", "_law_handed", "_law_found", "_law_good", "_law_bad", "_law_said", "_law_sign", "_law_apart", "_law_begun", "_law_other_deal", "_law_moved"]) (sc := defScope s__law_right) (by decide +kernel)) (fun _ _ _ _ _ => (pg_name (i := 12) sc__law_right.nd rfl (Or.inl rfl))) (fun _ _ _ _ _ => pts_nil) (fun _ _ _ _ _ => (pe_c c_gives (hr.mono (by decide)) rfl (pa_cons (pv 17) (pa_cons (pv 12) pa_nil))))) pa_nil)))))) (pss_one (ps_ret pe_bl)) pss_nil)
      (pss_cons (ps_if (pt_cmpR (op_neBB (K := K) c_Box_eq (hr.mono (by decide))) (pe_c c_room (hr.mono (by decide)) rfl (pa_cons (pv 5) (pa_cons (pv 6) (pa_cons (pv 4) pa_nil)))) (pv 9) (nomark _)) (pss_one (ps_ret pe_bl)) pss_nil)
      (pss_one (ps_ret (pe_or (pe_cmpR op_gt (pe_p c_Box_states (pv 9) (hr.mono (by decide))) pe_int (nomark _)) (pe_one (pe_c c__law_greatest_right (hr.mono (by decide)) rfl (pa_cons (pv 0) (pa_cons (pv 2) (pa_cons (pv 3) (pa_cons (pv 9) (pa_cons (pv 4) pa_nil)))))))))))))))))))))))))))))))))), ?_⟩)
  rintro vs H Q E ⟨⟨⟩, l, F, us, rfl, s, la, _, p, k⟩
  have k : ∀ v H' F', Gr (At l) H F H' F' → Pot l H' F' → (rB true).at_ F' v → Q v H' := k
  have la : LA F us [] := la
  have e := En.start (N := ["_law_pot_here", "_law_menu_here", "_law_left", "_law_right_here", "_law_told", "_law_near", "_law_far", "_law_shown", "_law_handed", "_law_found", "_law_good", "_law_bad", "_law_said", "_law_sign", "_law_apart", "_law_begun", "_law_other_deal", "_law_moved"]) (LA.cons (show (rV (.ref l)).at_ F (.ref l) from rfl) la)
  -- the menu
  refine stp_asg s e p (ep_call (res := fun _ : Unit => rEx (fun ms : List Sg => rLst (ms.map rSg)) fun ms => MenuOk ms ∧ (4 : Sg) ∉ ms) () (epa_cons (ep_e fun _ _ _ => ev_var (i := 0) rfl) epa_nil) rfl trivial) fun σ1 H1 F1 g1 p1 e1 => ?_
  obtain ⟨ms, ⟨hms, h4⟩, e1⟩ := e1.ex (i := 1) (f := fun ms : List Sg => rLst (ms.map rSg)) (q := fun ms => MenuOk ms ∧ (4 : Sg) ∉ ms) rfl
  have e1 : En F1 σ1 [some (rV (.ref l)), some (rLst (ms.map rSg)), none, none, none, none, none, none, none, none, none, none, none, none, none, none, none, none] := e1
  dsimp only
  -- the draws
  refine stp_tup3 (A1 := rEx rDeal (DlOk 3 5 ms)) (A2 := rEx rDeal (DlOk 4 6 ms)) (A3 := rEx (fun ts : List Sg => rLst (ts.map rSg)) MenuOk) g1.fh e1 p1
    (ep_call (res := fun p : Nat × Nat × List Sg => rEx rDeal (DlOk p.1 p.2.1 p.2.2)) (3, 5, ms) (epa_cons (ep_e fun _ _ _ => ev_var (i := 0) rfl) (epa_cons (ep_e fun _ _ _ => ev_c) (epa_cons (ep_e fun _ _ _ => ev_c) (epa_cons (ep_e fun _ _ _ => ev_var (i := 1) rfl) epa_nil)))) rfl ⟨(by decide : 0 < 3), (by decide : 3 ≤ 100), (by decide : 5 ≤ 100), hms⟩)
    (ep_call (res := fun p : Nat × Nat × List Sg => rEx rDeal (DlOk p.1 p.2.1 p.2.2)) (4, 6, ms) (epa_cons (ep_e fun _ _ _ => ev_var (i := 0) rfl) (epa_cons (ep_e fun _ _ _ => ev_c) (epa_cons (ep_e fun _ _ _ => ev_c) (epa_cons (ep_e fun _ _ _ => ev_var (i := 1) rfl) epa_nil)))) rfl ⟨(by decide : 0 < 4), (by decide : 4 ≤ 100), (by decide : 6 ≤ 100), hms⟩)
    (ep_call (res := fun _ : List Sg => rEx (fun ts : List Sg => rLst (ts.map rSg)) MenuOk) ms (epa_cons (ep_e fun _ _ _ => ev_var (i := 0) rfl) (epa_cons (ep_e fun _ _ _ => ev_var (i := 1) rfl) epa_nil)) rfl ⟨hms, h4⟩) fun σ2 H2 F2 g2 p2 e2 => ?_
  obtain ⟨dl, ol, e2⟩ := e2.ex (i := 2) (f := rDeal) (q := DlOk 3 5 ms) rfl
  obtain ⟨dr, or, e2⟩ := e2.ex (i := 3) (f := rDeal) (q := DlOk 4 6 ms) rfl
  obtain ⟨told, ht, e2⟩ := e2.ex (i := 4) (f := fun ts : List Sg => rLst (ts.map rSg)) (q := MenuOk) rfl
  have e2 : En F2 σ2 [some (rV (.ref l)), some (rLst (ms.map rSg)), some (rDeal dl), some (rDeal dr), some (rLst (told.map rSg)), none, none, none, none, none, none, none, none, none, none, none, none, none] := e2
  have g12 := g1.trans g2
  have hne := ht.1
  have two : Two dl dr told := ⟨⟨ms, ol⟩, ⟨ms, or⟩, ht.2⟩
  have I := two.room
  have R := roomIs I
  obtain ⟨f1, f2, f3⟩ := two.fits
  dsimp only
  -- the boxes
  refine st_par g2.fh e2 (R1 := rBox K dl.bx) (R2 := rBox K dr.bx) (ea_2 (x_law_made (ev_var (i := 2) rfl) (ol.raw (by decide) (by decide))) (x_law_made (ev_var (i := 3) rfl) (or.raw (by decide) (by decide)))) fun σ3 H3 F3 g3 e3 => ?_
  have p3 := p2.grow g3
  have e3 : En F3 σ3 [some (rV (.ref l)), some (rLst (ms.map rSg)), some (rDeal dl), some (rDeal dr), some (rLst (told.map rSg)), some (rBox K dl.bx), some (rBox K dr.bx), none, none, none, none, none, none, none, none, none, none, none] := e3
  dsimp only
  -- shown, handed
  have sm1 := ol.sm (by decide) (by decide)
  have sm2 := or.sm (by decide) (by decide)
  refine st_parEM g3.fh e3 (A := rS (listText [boxText dl.bx, boxText dr.bx])) (S2 := fun D => ML D (told.map rSg)) (ev_repr2 (ev_var (i := 5) rfl) (ev_var (i := 6) rfl) sm1 sm2) (ev_copyM (ev_var (i := 4) rfl)) fun lh σ4 H4 F4 g4 nh mh e4 => ?_
  have p4 := p3.grow g4
  have hlh : lh ≠ l := fun z => p3.live (z ▸ nh)
  have e4 : En F4 σ4 [some (rV (.ref l)), some (rLst (ms.map rSg)), some (rDeal dl), some (rDeal dr), some (rLst (told.map rSg)), some (rBox K dl.bx), some (rBox K dr.bx), some (rS (listText [boxText dl.bx, boxText dr.bx])), some (rV (.ref lh)), none, none, none, none, none, none, none, none, none] := e4
  dsimp only
  -- found
  refine st_asg (i := 9) (R := rBox K (roomOf dl.bx dr.bx told)) g4.fh e4 (ev_roomH mh (ev_var (i := 5) rfl) (ev_var (i := 6) rfl) (ev_var (i := 8) rfl) I hne) fun σ5 H5 F5 g5 e5 => ?_
  have mh5 := mh.grow g5
  have p5 := p4.grow g5
  dsimp only
  -- handed.clear()
  refine st_clear (l := lh) g5.fh e5 mh5 (ev_var (i := 8) rfl) fun H6 F6 g6 e6 => ?_
  have p6 : Pot l H6 F6 := p5.gr g6 (Ne.symm hlh)
  have g36 : Gr (At l) H3 F3 H6 F6 := (g4.trans g5).up.dropTo g6 fun x hx => by
    have hx : x = lh := hx
    rw [hx]
    exact .inr nh
  have g06 : Gr (At l) H F H6 F6 := (g12.trans g3.up).trans g36
  have e6 : En F6 σ5 (RT K l ms dl dr told (listText [boxText dl.bx, boxText dr.bx]) (roomOf dl.bx dr.bx told) none none none none none none) := e6.mask [true, true, true, true, true, true, true, true, false, true, false, false, false, false, false, false, false, false]
  obtain ⟨tx, htx⟩ : ∃ tx, listText [boxText dl.bx, boxText dr.bx] = tx := ⟨_, rfl⟩
  obtain ⟨c, hc⟩ : ∃ c, roomOf dl.bx dr.bx told = c := ⟨_, rfl⟩
  rw [htx, hc] at e6
  rw [hc] at R
  dsimp only
  -- sure, and by keywords
  refine st_no g06.fh e6 (EvB.eq (eb_or (eb_not (eb_test (x_is_sure (ev_var (i := 9) rfl) R.sps))) fun _ => eb_test (ev_neB (ev_var (i := 9) rfl) (x_roomK (told := told.reverse) (ev_seqT (ev_tupOf (K := K) (ev_revS (ev_var (i := 4) rfl)))) (ev_var (i := 6) rfl) (ev_var (i := 5) rfl) I.rev))) (j := false) (by rw [R.sure, room_rev I, hc]; simp)) fun H7 F7 g7 e7 => ?_
  have g07 := g06.trans g7.up
  have p7 := p6.grow g7
  dsimp only
  -- the rows
  refine st_runs (i := 10) (j := 11) g07.fh e7 (x_law_runs (ev_var (i := 2) rfl) (ev_var (i := 3) rfl) (ev_var (i := 4) rfl) two.runs) fun gs bs σ8 H8 F8 g8 hz hg hb e8 => ?_
  have e8 : En F8 σ8 (RT K l ms dl dr told tx c (some (rLst (gs.map rRow))) (some (rLst (bs.map rRow))) none none none none) := e8
  have g08 := g07.trans g8.up
  have p8 := p7.grow g8
  dsimp only
  refine st_no g08.fh e8 (eb_runs R hg hb hz (src_list (ev_var (i := 10) rfl)) (src_list (ev_var (i := 11) rfl)) rfl (fun _ => rfl) fun _ => rfl) fun H9 F9 g9 e9 => ?_
  have e9 : En F9 σ8 (RT K l ms dl dr told tx c none none none none none none) := e9.mask [true, true, true, true, true, true, true, true, false, true, false, false, false, false, false, false, false, false]
  have g09 := g08.trans g9.up
  have p9 := p8.grow g9
  dsimp only
  -- the signs
  refine st_no g09.fh e9 (EvB.eq (eb_test (ev_neSg (l := c.signs) (k := srt rkSg (((c.signs.filter fun q => decide (q ∈ told))).map fun q => q)) (x_signs (ev_var (i := 9) rfl)) (ev_srtSg (ev_lc (xs := c.signs) (RA := rSg) (RB := rSg) (p := fun q => decide (q ∈ told)) (f := fun q => q) (Ss := fun q => (RT K l ms dl dr told tx c none none none none none none).set 13 (some (rSg q))) (src_list (x_signs (ev_var (i := 9) rfl))) (Nat.lt_of_le_of_lt (signs_len (b := c)) (by decide)) rfl (fun _ _ => tgt_1) (fun q hq => eb_test (ev_inSg (ev_var (i := 13) rfl) (ev_var (i := 4) rfl))) fun q hq _ => ev_var (i := 13) rfl)))) (j := false) (by rw [R.sgs, List.map_id', srt_signs]; simp)) fun H10 F10 g10 e10 => ?_
  have g010 := g09.trans g10.up
  have p10 := p9.grow g10
  dsimp only
  -- it fits; nothing was changed
  refine st_no g010.fh e10 (EvB.eq (eb_or (eb_not (eb_test (x_stands (x_in_step (ev_var (i := 5) rfl) (ev_var (i := 9) rfl) (room_dom I R f2 f3)) (ev_var (i := 6) rfl) (room_ms I R f1 f2 f3) (Nat.le_trans I.n2 (by decide))))) fun _ => eb_test (ev_ne (x := .str tx) (y := .str tx) (ev_repr2E htx (ev_var (i := 5) rfl) (ev_var (i := 6) rfl) sm1 sm2) (ev_var (i := 7) rfl) rfl)) (j := false) (by rw [room_fits I R f1 (room_dom I R f2 f3)]; simp)) fun H11 F11 g11 e11 => ?_
  have g011 := g010.trans g11.up
  have p11 := p10.grow g11
  dsimp only
  -- no signs
  have I0 : RoomIn dl.bx dr.bx [] := ⟨I.h1, I.h2, I.s1, I.s2, I.n1, I.n2, List.nodup_nil⟩
  refine st_no g011.fh e11 (EvB.eq (eb_test (ev_neB (x_room (told := []) (ev_var (i := 5) rfl) (ev_var (i := 6) rfl) (ev_seqL (ev_lst ea_nil)) I0) (x_Box (n := 1) (st := [0]) (sp := []) ev_c (ev_lst (ea_1 ev_c)) (ev_lst ea_nil) x_Box1))) (j := false) (by rw [room_nil I0]; simp)) fun H12 F12 g12 e12 => ?_
  have g012 := g011.trans g12.up
  have p12 := p11.grow g12
  dsimp only
  -- another whole
  refine stp_asg (i := 14) (R := rEx (fun d : Dl => rBox K d.bx) (DlOk 4 6 ms)) g012.fh e12 p12 (ep_call1 (fun d => d) (f := rDeal) (p := DlOk 4 6 ms) (ep_deal (fun _ _ => ev_var (i := 0) rfl) (fun _ _ => ev_c) (fun _ _ => ev_c) (fun _ _ => ev_var (i := 1) rfl) (by decide) (by decide) (by decide) hms) (fun _ => rfl) fun d H1 F1 h => h.raw (by decide) (by decide)) fun σ13 H13 F13 g13 p13 e13 => ?_
  obtain ⟨da, oa, e13⟩ := e13.ex (i := 14) (f := fun d : Dl => rBox K d.bx) (q := DlOk 4 6 ms) rfl
  have e13 : En F13 σ13 (RT K l ms dl dr told tx c none none (some (rBox K da.bx)) none none none) := e13
  have g013 := g012.trans g13
  have IA : RoomIn dl.bx da.bx told := (⟨⟨ms, ol⟩, ⟨ms, oa⟩, ht.2⟩ : Two dl da told).room
  dsimp only
  refine st_no g013.fh e13 (EvB.eq (eb_or (eb_test (ev_neB (x_room (ev_var (i := 5) rfl) (ev_var (i := 14) rfl) (ev_seqL (ev_var (i := 4) rfl)) IA) (x_room (told := told.reverse) (ev_var (i := 5) rfl) (ev_var (i := 14) rfl) (ev_seqL (ev_revS (ev_var (i := 4) rfl))) IA.rev))) fun _ => eb_test (ev_neB (x_roomE hc (ev_var (i := 5) rfl) (ev_var (i := 6) rfl) (ev_seqL (ev_var (i := 4) rfl)) I) (ev_var (i := 9) rfl))) (j := false) (by rw [room_rev IA]; simp)) fun H14 F14 g14 e14 => ?_
  have g014 := g013.trans g14.up
  have p14 := p13.grow g14
  dsimp only
  -- the whole, begun elsewhere
  have drn := or.n1
  refine stp_asg (i := 15) (R := rEx (fun x : Nat => rLst [rNat x]) fun x => x < dr.n) g014.fh e14 p14 (ep_begun (fun _ _ => ev_var (i := 0) rfl) (fun _ _ => ev_many (ev_var (i := 3) rfl)) or.n0 (by omega)) fun σ15 H15 F15 g15 p15 e15 => ?_
  obtain ⟨x, hx, e15⟩ := e15.ex (i := 15) (f := fun x : Nat => rLst [rNat x]) (q := fun x => x < dr.n) rfl
  have e15 : En F15 σ15 (RT K l ms dl dr told tx c none none (some (rBox K da.bx)) (some (rLst [rNat x])) none none) := e15
  have g015 := g014.trans g15
  have twoR : Two dl (dr.at x) told := ⟨⟨ms, ol⟩, ⟨ms, or.at hx⟩, ht.2⟩
  dsimp only
  refine st_asg (i := 16) (R := rDeal (dr.at x)) g015.fh e15 (ev_deal (d := dr.at x) (ev_many (d := dr) (ev_var (i := 3) rfl)) (ev_var (i := 15) rfl) (ev_moves (d := dr) (ev_var (i := 3) rfl))) fun σ16 H16 F16 g16 e16 => ?_
  have g016 := g015.trans g16.up
  have p16 := p15.grow g16
  have e16 : En F16 σ16 (RT K l ms dl dr told tx c none none (some (rBox K da.bx)) (some (rLst [rNat x])) (some (rDeal (dr.at x))) none) := e16
  dsimp only
  refine st_runs (i := 10) (j := 11) g016.fh e16 (x_law_runs (ev_var (i := 2) rfl) (ev_var (i := 16) rfl) (ev_var (i := 4) rfl) twoR.runs) fun gs2 bs2 σ17 H17 F17 g17 hz2 hg2 hb2 e17 => ?_
  have e17 : En F17 σ17 (RT K l ms dl dr told tx c (some (rLst (gs2.map rRow))) (some (rLst (bs2.map rRow))) (some (rBox K da.bx)) (some (rLst [rNat x])) (some (rDeal (dr.at x))) none) := e17
  have g017 := g016.trans g17.up
  have p17 := p16.grow g17
  obtain ⟨c2, hc2⟩ : ∃ c2, roomOf dl.bx (dr.at x).bx told = c2 := ⟨_, rfl⟩
  have R2 := roomIs twoR.room
  rw [hc2] at R2
  dsimp only
  refine st_asg (i := 17) (R := rBox K c2) g017.fh e17 (x_roomE hc2 (ev_var (i := 5) rfl) (x_with_starts (ev_var (i := 6) rfl) (ev_var (i := 15) rfl) I.h2 hx) (ev_seqL (ev_var (i := 4) rfl)) twoR.room) fun σ18 H18 F18 g18 e18 => ?_
  have g018 := g017.trans g18.up
  have p18 := p17.grow g18
  have e18 : En F18 σ18 (RT K l ms dl dr told tx c (some (rLst (gs2.map rRow))) (some (rLst (bs2.map rRow))) (some (rBox K da.bx)) (some (rLst [rNat x])) (some (rDeal (dr.at x))) (some (rBox K c2))) := e18
  dsimp only
  refine st_no g018.fh e18 (eb_runs R2 hg2 hb2 hz2 (src_list (ev_var (i := 10) rfl)) (src_list (ev_var (i := 11) rfl)) rfl (fun _ => rfl) fun _ => rfl) fun H19 F19 g19 e19 => ?_
  have g019 := g018.trans g19.up
  have p19 := p18.grow g19
  have e19 : En F19 σ18 (RT K l ms dl dr told tx c none none none none none none) := e19.mask [true, true, true, true, true, true, true, true, false, true, false, false, false, false, false, false, false, false]
  dsimp only
  -- the helper, begun elsewhere
  have dln := ol.n1
  refine stp_asg (i := 15) (R := rEx (fun x : Nat => rLst [rNat x]) fun x => x < dl.n) g019.fh e19 p19 (ep_begun (fun _ _ => ev_var (i := 0) rfl) (fun _ _ => ev_many (ev_var (i := 2) rfl)) ol.n0 (by omega)) fun σ20 H20 F20 g20 p20 e20 => ?_
  obtain ⟨y, hy, e20⟩ := e20.ex (i := 15) (f := fun x : Nat => rLst [rNat x]) (q := fun x => x < dl.n) rfl
  have e20 : En F20 σ20 (RT K l ms dl dr told tx c none none none (some (rLst [rNat y])) none none) := e20
  have g020 := g019.trans g20
  have twoL : Two (dl.at y) dr told := ⟨⟨ms, ol.at hy⟩, ⟨ms, or⟩, ht.2⟩
  dsimp only
  refine st_runs (i := 10) (j := 11) g020.fh e20 (x_law_runs (ev_deal (d := dl.at y) (ev_many (d := dl) (ev_var (i := 2) rfl)) (ev_var (i := 15) rfl) (ev_moves (d := dl) (ev_var (i := 2) rfl))) (ev_var (i := 3) rfl) (ev_var (i := 4) rfl) twoL.runs) fun gs3 bs3 σ21 H21 F21 g21 hz3 hg3 hb3 e21 => ?_
  have e21 : En F21 σ21 (RT K l ms dl dr told tx c (some (rLst (gs3.map rRow))) (some (rLst (bs3.map rRow))) none (some (rLst [rNat y])) none none) := e21
  have g021 := g020.trans g21.up
  have p21 := p20.grow g21
  obtain ⟨c3, hc3⟩ : ∃ c3, roomOf (dl.at y).bx dr.bx told = c3 := ⟨_, rfl⟩
  have R3 := roomIs twoL.room
  rw [hc3] at R3
  dsimp only
  refine st_asg (i := 17) (R := rBox K c3) g021.fh e21 (x_roomE hc3 (x_with_starts (ev_var (i := 5) rfl) (ev_var (i := 15) rfl) I.h1 hy) (ev_var (i := 6) rfl) (ev_seqL (ev_var (i := 4) rfl)) twoL.room) fun σ22 H22 F22 g22 e22 => ?_
  have g022 := g021.trans g22.up
  have p22 := p21.grow g22
  have e22 : En F22 σ22 (RT K l ms dl dr told tx c (some (rLst (gs3.map rRow))) (some (rLst (bs3.map rRow))) none (some (rLst [rNat y])) none (some (rBox K c3))) := e22
  dsimp only
  refine st_no g022.fh e22 (eb_runs R3 hg3 hb3 hz3 (src_list (ev_var (i := 10) rfl)) (src_list (ev_var (i := 11) rfl)) rfl (fun _ => rfl) fun _ => rfl) fun H23 F23 g23 e23 => ?_
  have g023 := g022.trans g23.up
  have p23 := p22.grow g23
  have e23 : En F23 σ22 (RT K l ms dl dr told tx c none none none none none none) := e23.mask [true, true, true, true, true, true, true, true, false, true, false, false, false, false, false, false, false, false]
  dsimp only
  -- once more
  refine st_no g023.fh e23 (EvB.eq (eb_test (ev_neB (x_roomE hc (ev_var (i := 5) rfl) (ev_var (i := 6) rfl) (ev_seqL (ev_var (i := 4) rfl)) I) (ev_var (i := 9) rfl))) (j := false) (by simp)) fun H24 F24 g24 e24 => ?_
  have g024 := g023.trans g24.up
  have p24 := p23.grow g24
  dsimp only
  refine stp_ret g024.fh e24 p24 (ep_to (S := rB true) (ep_orV (a := decide (c.n > 7)) (b := true) (ep_e fun _ _ _ => EvE.eqB (i := decide (((c.n : Nat) : Int) > 7)) (ev_I0 (x_states (ev_var (i := 9) rfl)) ev_c) (decide_eq_decide.mpr (by omega))) fun hb => ep_call (res := fun _ => rB true) (dl, dr, told) (epa_cons (ep_e fun _ _ _ => ev_var (i := 0) rfl) (epa_cons (ep_e fun _ _ _ => ev_var (i := 2) rfl) (epa_cons (ep_e fun _ _ _ => ev_var (i := 3) rfl) (epa_cons (ep_e fun _ _ _ => ev_var (i := 9) rfl) (epa_cons (ep_e fun _ _ _ => ev_var (i := 4) rfl) epa_nil))))) (by rw [← hc]) ⟨two, hne, by rw [hc]; have := of_decide_eq_false hb; omega⟩) fun F' v h => by rw [Bool.or_true] at h; exact h) fun v H25 F25 g25 p25 r => k v H25 F25 (g024.trans g25) p25 r
end
end K81
set_option Elab.async false
set_option linter.all false
set_option maxRecDepth 100000
set_option maxHeartbeats 2000000
set_option autoImplicit false
/-! K81CT: law; the call from outside. -/
namespace K81
open PySem PySem.Spec L2
open PyProof.Rows (envOfC)
/-- the script: a list that is known -/
def rScr (K : PySem.W.Frag) (ns : List Int) : Rep := ⟨fun F v => ∃ a, v = .ref a ∧ SqL K F a (ns.map V.int), fun s ⟨a, e, h⟩ => ⟨a, e, h.ext s⟩⟩
section
variable {P : Program} {w : World} {K : PySem.W.Frag} {mg : Str → Option Value} {base : Heap}
theorem sq_grow {H H1 F1 : Hp} {a : Addr} {xs : List V} (h : SqL K F1 a xs) (s : Same F1 H1) : SqL K H1 a xs := h.ext s
section
variable {Rs : Rs_} {H F : Hp} {ta tb : TE} {ns : List Int}
theorem ev_lenScr (ha : EvE ta Rs H F (rScr K ns)) : EvE (tCB (rLen K) (tCons ta tNil)) Rs H F (rI (ns.length : Nat)) :=
  ev_cb (ea_1 ha) fun H1 F1 vs g l Q q => by
    cases l with
    | cons r1 l =>
      cases l
      obtain ⟨a, rfl, h⟩ := r1
      exact ⟨a, ns.map V.int, rfl, .inl (h.ext g.fh), q _ _ _ (Gr.refl g.fh) (by rw [List.length_map]; rfl)⟩
theorem ev_ixScr {j : Nat} {i : Int} (ha : EvE ta Rs H F (rScr K ns)) (hb : EvE tb Rs H F (rI j)) (hj : ns[j]? = some i) : EvE (tOp (rIxL K) ta tb) Rs H F (rI i) :=
  ev_op ha hb fun H1 F1 x y g hx hy Q q => by
    obtain ⟨a, rfl, h⟩ := hx
    exact ⟨a, _, j, .int i, rfl, hy, h.ext g.fh, atI_nat (by rw [List.getElem?_map, hj]; rfl), q _ _ _ (Gr.refl g.fh) rfl⟩
end
/-- a new pot -/
def spPotS (K : PySem.W.Frag) : Sp := fun vs H Q _ => ∃ (ns : List Int) (k : Nat) (F : Hp) (v : V), vs = [v, .int (k : Nat)] ∧ Same F H ∧ (rScr K ns).at_ F v ∧ k ≤ 10 ∧ ∀ l H' F', G0 H F H' F' → H l = none → Pot l H' F' → Q (.ref l) H'
theorem ok_law_potS (T : Hd K mg) : Ce P w K mg base 1 "_law_pot" ["_law_script", "_law_k"] (spPotS K) := by
  refine ce_any T.d__law_pot T.glo__law_pot sc__law_pot (fun _ _ _ _ _ _ us hl => match us, hl with | [_, _], _ => rfl) (fun vs H Q E ⟨ns, k, F, v, h, _⟩ => by rw [h]; rfl) (fun cdv A outer s H0 E hr => ⟨_, (pss_cons (ps_set (i := 2) sc__law_pot.nd rfl (Or.inl rfl) (pe_ifExp (pt_cmpR op_lt (pv 1) (pe_callB (len_k (K := K)) (by rfl) T.free_len (by decide +kernel) (pa_cons (pv 0) pa_nil)) (nomark _)) (pe_callB call_abs (by rfl) T.free_abs (by decide +kernel) (pa_cons (pe_ix (ixl_k (K := K)) (pv 0) (pv 1) (fun _ _ => rfl)) pa_nil)) (pe_op op_add (pe_op op_mul pe_int (pv 1)) pe_int)))
      (pss_one (ps_ret (pe_lst (pa_cons (pe_callB (call_max2 rfl) (by rfl) T.free_max (by decide +kernel) (pa_cons pe_int (pa_cons (pe_op op_sub (pv 2) (pe_op op_pow pe_int pe_int)) pa_nil))) (pa_cons (pe_op op_add (pe_op op_mod (pe_callTy call_int1 (by rfl) T.free_int (by decide +kernel) (pa_cons (pe_op op_add (pe_op op_add (pe_op op_mul (pe_op op_mod (pe_callTy call_int1 (by rfl) T.free_int (by decide +kernel) (pa_cons (pv 2) pa_nil)) pe_int) pe_int) (pe_op op_mul pe_int (pv 1))) pe_int) pa_nil)) pe_int) pe_int) pa_nil)))))), ?_⟩)
  rintro vs H Q E ⟨ns, k, F, v0, rfl, s, hv, hk, q⟩
  have e := En.start (N := ["_law_script", "_law_k", "_law_cell"]) (LA.cons hv (LA.cons (show (rNat k).at_ F (.int (k : Nat)) from rfl) .nil))
  refine st_asg s e (R := rEx rI fun _ => True) (ev_if (b := decide ((k : Int) < (ns.length : Nat))) (eb_test (ev_I0 (ev_var (i := 1) (R := rNat k) rfl) (ev_lenScr (K := K) (ns := ns) (ev_var rfl)))) (fun h => ?_) fun h => ?_) fun σ1 H1 F1 g1 e1 => ?_
  · have h := of_decide_eq_true h
    have hk2 : k < ns.length := by omega
    exact EvE.to (ev_abs (i := ns[k]) (ev_ixScr (j := k) (ev_var rfl) (ev_var (i := 1) (R := rNat k) rfl) (List.getElem?_eq_getElem hk2))) fun F' v _ h => ⟨_, trivial, h⟩
  · exact EvE.to (ev_I0 (ev_I ev_c (ev_var (i := 1) (R := rNat k) rfl) (.inl ⟨by decide, by decide⟩)) ev_c) fun F' v _ h => ⟨_, trivial, h⟩
  · dsimp only
    obtain ⟨c, _, e1⟩ := e1.ex (i := 2) (f := rI) (q := fun _ => True) rfl
    have e1 : En F1 σ1 [some (rScr K ns), some (rNat k), some (rI c)] := e1
    obtain ⟨q1, q2⟩ := mod_lt (c % 2147483563 * 53017 + 8219 * (k : Nat) + 59) (show (0 : Int) < 2147483549 by decide)
    have hb : EvE _ [some (rScr K ns), some (rNat k), some (rI c)] H1 F1 (rI ((c % 2147483563 * 53017 + 8219 * (k : Nat) + 59) % 2147483549 + 1)) :=
      ev_I0 (f := fun i j => .int (i + j)) (ev_I (C := fun _ j => 0 < j) (f := fun i j => .int (i % j)) (ev_int1 (ev_I0 (f := fun i j => .int (i + j)) (ev_I0 (f := fun i j => .int (i + j)) (ev_I (C := CMul) (f := fun i j => .int (i * j)) (ev_I (C := fun _ j => 0 < j) (f := fun i j => .int (i % j)) (ev_int1 (ev_var (i := 2) rfl)) (ev_c (v := .int 2147483563)) (by decide)) (ev_c (v := .int 53017)) (.inr ⟨by decide, by decide⟩)) (ev_I (C := CMul) (f := fun i j => .int (i * j)) (ev_c (v := .int 8219)) (ev_var (i := 1) (R := rNat k) rfl) (.inl ⟨by decide, by decide⟩))) (ev_c (v := .int 59)))) (ev_c (v := .int 2147483549)) (by decide)) (ev_c (v := .int 1))
    generalize (c % 2147483563 * 53017 + 8219 * (k : Nat) + 59) % 2147483549 = z at *
    have ha : EvE _ [some (rScr K ns), some (rNat k), some (rI c)] H1 F1 (rI (if c - 10 ^ 18 > 0 then c - 10 ^ 18 else 0)) :=
      ev_max2 (i := 0) (j := c - 10 ^ 18) (ev_c (v := .int 0)) (ev_I0 (f := fun i j => .int (i - j)) (ev_var (i := 2) rfl) (ev_I (C := CPow) (f := fun i j => .int (i ^ j.toNat)) (ev_c (v := .int 10)) (ev_c (v := .int 18)) ⟨by decide, by decide, by decide⟩))
    refine ev_lstM (ea_2 ha hb) (Nat.le_of_ble_eq_true rfl) σ1 H1 F1 (Gr.refl g1.fh) e1 _ fun l H2 F2 g2 nl ml => q l H2 F2 (g1.trans g2) (g1.none nl) ⟨_, _, ?_, by omega, by omega, ml⟩
    split <;> omega
/-- _law_right(_law_pot(..)) -/
theorem ev_round {Rs : Rs_} {H F : Hp} {ta tb : TE} {ns : List Int} {k : Nat} (ha : EvE ta Rs H F (rScr K ns)) (hb : EvE tb Rs H F (rNat k)) (hk : k ≤ 10) : EvE (tCall spLRight [] E0 (tCons (tCall (spPotS K) [] E0 (tCons ta (tCons tb tNil))) tNil)) Rs H F (rB true) := by
  intro σ H1 F1 g e Q q
  show (tCons ta (tCons tb tNil)) σ H1 fun vs H' => spPotS K (vs ++ []) H' (fun d H3 => spLRight ([d] ++ []) H3 Q E0) E0
  refine ea_2 ha hb σ H1 F1 g e _ fun vs H2 F2 g2 l => ?_
  cases l with
  | cons r1 l => cases l with
    | cons r2 l =>
      cases l
      have r2 : _ = V.int (k : Nat) := r2
      subst r2
      refine ⟨ns, k, F2, _, rfl, g2.fh, r1, hk, fun d H3 F3 g3 nd p3 => ?_⟩
      exact ⟨(), d, F3, [], rfl, g3.fh, .nil, trivial, p3, fun v H4 F4 g4 p4 r => q v H4 F4 (g2.trans (g3.drop g4 fun a ha => by rw [show a = d from ha]; exact nd)) r⟩
def spLaw (K : PySem.W.Frag) : Sp := fun vs H Q _ => ∃ (a : Addr) (ns : List Int), vs = [.ref a] ∧ SqL K H a (ns.map V.int) ∧ ∀ H', Q (.bl true) H'
theorem fn_law (T : Hd K mg) (F : ∀ base : Heap, CeG P w K mg base 12 "_law_right" ["_law_pot_here"] spLRight) : ∃ fd, (∀ base : Heap, FnG P w K mg base CX0 [] 13 (He.ga K "law") fd ["_law_script"] (spLaw K)) ∧ ∀ (s : Shared) (u : Value), BindsTo s fd ⟨[u], []⟩ [("_law_script", u)] := by
  obtain ⟨fd, D⟩ := T.d_law
  have b := D.bindsA (ps := ["_law_script"]) (fun _ _ _ _ _ _ us hl => match us, hl with | [_], _ => rfl)
  refine ⟨fd, fun base => fn_guard D sc_law (fun vs H Q E ⟨a, ns, h, _⟩ => by rw [h]; rfl) (fun cdv A outer s H0 vs Q E hgd hr h => ?_), fun s u => b s [u] rfl⟩
  have c__law_right := F base
  have c__law_pot : Ce P w K mg base 1 "_law_pot" ["_law_script", "_law_k"] (spPotS K) := ok_law_potS T
  suffices hh : ∃ t, PSs (XX P w K mg base ["_law_script", "_law_k"] "law" s_law (He.ga K "law") cdv A outer s H0 E) (defBody s_law) t ∧ t { nx := fun _ H' => Q .non H', rt := Q } (L2.start ["_law_script", "_law_k"] vs) H0 by
    obtain ⟨t, h1, h2⟩ := hh
    exact ⟨t, h1.nox, h2⟩
  refine ⟨_, (pss_one (ps_ret (pe_callB (all_k (K := K) rfl) (by rfl) T.free_all (by decide +kernel) (pa_cons (pe_lc (own := [("_law_k", 1)]) (tt := tYes) rfl sc_law.nd (pi_range1 rfl T.free_range (pa_cons (pe_callB (call_max2 rfl) (by rfl) T.free_max (by decide +kernel) (pa_cons pe_int (pa_cons (pe_callB (call_min2 rfl) (by rfl) T.free_min (by decide +kernel) (pa_cons pe_int (pa_cons (pe_callB (len_k (K := K)) (by rfl) T.free_len (by decide +kernel) (pa_cons (pv 0) pa_nil)) pa_nil))) pa_nil))) pa_nil)) (blkOk_by (own := [("_law_k", 1)]) (N := ["_law_script", "_law_k"]) (sc := defScope s_law) (by decide +kernel)) (fun _ _ _ _ _ => (pg_name (i := 1) sc_law.nd rfl (Or.inl rfl))) (fun _ _ _ _ _ => pts_nil) (fun _ _ _ _ _ => (pe_cG c__law_right hgd (hr.mono (by decide)) rfl (pa_cons (pe_c c__law_pot (hr.mono (by decide)) rfl (pa_cons (pv 0) (pa_cons (pv 1) pa_nil))) pa_nil)))) pa_nil)))), ?_⟩
  obtain ⟨a, ns, rfl, hS, hQ⟩ := h
  have e := En.start (F := H0) (N := ["_law_script", "_law_k"]) (LA.cons (show (rScr K ns).at_ H0 (.ref a) from ⟨a, rfl, hS⟩) .nil)
  have e : En H0 (L2.start ["_law_script", "_law_k"] [.ref a]) [some (rScr K ns), none] := e
  obtain ⟨n, hn, hn3⟩ : ∃ n : Nat, (let i : Int := if ((ns.length : Nat) : Int) < 3 then ((ns.length : Nat) : Int) else 3; if i > 1 then i else 1) = (n : Nat) ∧ n ≤ 3 := by
    refine ⟨max 1 (min 3 ns.length), ?_, by omega⟩
    dsimp only
    split <;> split <;> omega
  have big : 1000 < sizeLine := by decide
  refine st_ret (R := rB (((List.range n).map fun _ => true).all id)) (Same.refl _) e (ev_all (K := K) (ev_lc0 (xs := List.range n) (RA := fun i => rNat i) (RB := rB) (f := fun _ => true) (Ss := fun k => [some (rScr K ns), some (rNat k)])
    (src_range (n := n) (ea_1 (EvE.eqI (ev_max2 (i := 1) ev_c (ev_min2 (i := 3) ev_c (ev_lenScr (ev_var (i := 0) rfl)))) hn)) (by omega)) (by rw [List.length_range]; omega) rfl (fun _ _ => tgt_1) fun k hk => ev_round (k := k) (ev_var (i := 0) rfl) (ev_var (i := 1) rfl) (by have := List.mem_range.mp hk; omega))) fun v H1 F1 g r => ?_
  have r : v = V.bl ((((List.range n).map fun _ => true)).all id) := r
  rw [r, show ((((List.range n).map fun _ => true)).all id) = true from by simp]
  exact hQ H1
end
end K81
set_option Elab.async false
set_option linter.all false
set_option maxRecDepth 100000
set_option maxHeartbeats 2000000
set_option autoImplicit false
/-! K81CU: the call from outside, where no guard stands. -/
namespace K81
open PySem PySem.Spec L2
open PyProof.Rows
section
variable {P : Program} {w : World} {K : PySem.W.Frag} {mg mb : PySem.Str → Option Value} {k : Nat} {fa a : Addr} {fd : FuncData} {x : PySem.Str} {sp : Sp} {s₁ : Shared} {vs : List Value} {ns : List Int}
/-- what is tracked at first: the script, or nothing where it is the module's own -/
structure First (P : Program) (w : World) (K : PySem.W.Frag) (s₁ : Shared) (a : Addr) (ns : List Int) (H : Hp) : Prop where
  only : Only H
  sq : SqL K H a (ns.map V.int)
  ok : HOk P w H s₁.heap
  at_ : ∀ b, H b ≠ none → b = a
  own : H a ≠ none → K.lookup a = none
theorem first_of (KX : K.In s₁.heap) (ha : s₁.heap.get? a = some { cls := .type "list", data := .seq vs.toArray }) (hi : IntsAre vs ns) (hl : ns.length ≤ sizeLine) : ∃ H : Hp, First P w K s₁ a ns H := by
  have rv : Vals (ns.map V.int) vs := vals_ints hi
  have lenV := hi.length
  cases hk : K.lookup a with
  | some o =>
    have e := KX a o hk
    rw [ha] at e
    cases e
    exact ⟨fun _ => none, fun _ => .inl rfl, .inr ⟨_, vs.toArray, _, hk, rfl, rfl, rfl, by rw [List.size_toArray, lenV]; exact hl, by simpa using rv⟩, fun b u z => (by have z : (none : Option HO) = some u := z; cases z), fun b z => absurd rfl z, fun z => absurd rfl z⟩
  | none =>
    have hsome : ∀ {b : Addr} {u : HO}, (if b = a then some (HO.frz { cls := .type "list", data := .seq vs.toArray } (.lst (ns.map V.int))) else none) = some u → b = a ∧ u = .frz { cls := .type "list", data := .seq vs.toArray } (.lst (ns.map V.int)) := fun {b u} z => by
      by_cases hb : b = a
      · rw [if_pos hb] at z
        exact ⟨hb, (Option.some.inj z).symm⟩
      · rw [if_neg hb] at z
        cases z
    refine ⟨fun b => if b = a then some (.frz { cls := .type "list", data := .seq vs.toArray } (.lst (ns.map V.int))) else none, fun b => ?_, .inl (.inr ⟨{ cls := .type "list", data := .seq vs.toArray }, if_pos rfl⟩), fun b u z => ?_, fun b z => ?_, fun _ => hk⟩
    · by_cases hb : b = a
      · exact .inr ⟨_, _, if_pos hb⟩
      · exact .inl (if_neg hb)
    · obtain ⟨hb, hu⟩ := hsome z
      subst hb hu
      exact ⟨ha, by rw [List.length_map]; exact hl, vs, _, rv, ha⟩
    · exact Classical.byContradiction fun hb => z (if_neg hb)
theorem law_callG (KX : K.In s₁.heap) (hns : s₁.heap.Ns mainGlobals mg) (hb : s₁.heap.Ns builtinsNs mb) (hbb : ∀ x : PySem.Str, x ≠ "__name__" → mb x = bootBuiltins x) (hlim : s₁.heap.NoLimit) (hg : s₁.gens = #[])
    (ha : s₁.heap.get? a = some { cls := .type "list", data := .seq vs.toArray }) (hi : IntsAre vs ns) (hl : ns.length ≤ sizeLine) (hr : Room k callerA)
    (F : ∀ base : Heap, FnG P w K mg base CX0 [] k fa fd [x] sp) (hbind : ∀ (s : Shared) (u : Value), BindsTo s fd ⟨[u], []⟩ [(x, u)])
    (hsp : ∀ H : Hp, Only H → SqL K H a (ns.map V.int) → sp [.ref a] H (fun v _ => v = .bl true) fun _ _ _ => False) :
    codeAny (model P w) callerA (.call (.ref fa) ⟨[.ref a], []⟩) (fun r s' => r = .ok (.ret (.bool true)) ∧ PySem.OldK s₁.heap s'.heap ∧ s'.os = s₁.os ∧ AllBare s'.gens) s₁ := by
  obtain ⟨H, f⟩ := first_of (P := P) (w := w) KX ha hi hl
  have hid : ∀ {b : Addr} {o : Obj}, s₁.heap.get? b = some o → (b = a → H a = none) → (hidT s₁.heap H).get? b = some o := fun {b o} e n => hidT_get e (Classical.byContradiction fun q => by
    have z := f.at_ b q
    subst z
    exact q (n rfl))
  have nsK : ∀ {b : Addr} {m : PySem.Str → Option Value}, s₁.heap.Ns b m → (hidT s₁.heap H).Ns b m := fun {b m} ⟨o, es, ep, e, d, r⟩ => ⟨o, es, ep, hid e (fun z => by
    subst z
    rw [ha] at e
    cases e
    have d : Data.seq vs.toArray _ = Data.dict es ep := d
    cases d), d, r⟩
  have hKb : K.In (hidT s₁.heap H) := fun b o e => hid (KX b o e) fun z => Classical.byContradiction fun q => by
    subst z
    rw [f.own q] at e
    cases e
  have hM : Mod K mg (hidT s₁.heap H) := ⟨hKb, nsK hns, ⟨mb, nsK hb, hbb⟩, let ⟨mc, h1, h2⟩ := hlim; ⟨mc, nsK h1, h2⟩⟩
  have e0 : Env0 P w K mg (hidT s₁.heap H) callerA [] s₁ H := ⟨rfl, hM, fun b o e => of_hidT e, Nat.le_of_eq (hidT_size _ _), trivial, fun b hb => absurd (show b ∈ ([] : List Addr) from hb) (by simp), f.ok, .of_eq hg⟩
  refine codeAny_mono ((F (hidT s₁.heap H)).run callerA [] s₁ H ⟨[.ref a], []⟩ [.ref a] [.ref a] _ _ rfl hr e0 (hbind s₁ (.ref a)) (.cons rfl .nil) (hsp H f.only f.sq)) fun r s' h => ?_
  cases r with
  | error e => exact False.elim h
  | ok fl =>
    cases fl with
    | next => exact False.elim h
    | brk => exact False.elim h
    | cont => exact False.elim h
    | ret u =>
      obtain ⟨v, H', os, bare, un, hok', r', q⟩ := h
      have q : v = .bl true := q
      subst q
      obtain rfl : u = Value.bool true := r'
      refine ⟨rfl, PySem.OldK.of_keep fun b o e => ?_, os, bare⟩
      cases q : H b with
      | none => exact un.keep b o e q (by intro z; exact absurd (show b ∈ ([] : List Addr) from z) (by simp)) (by simp)
      | some u =>
        rcases f.only b with z | ⟨ob, xs, z⟩
        · rw [q] at z; cases z
        · obtain ⟨e1, _⟩ := f.ok b _ z
          obtain ⟨e2, _⟩ := hok' b _ (un.frzs b ob _ z)
          rw [e] at e1
          cases e1
          exact e2
end
theorem walk_ofG {l : PySem.W.OpenLaw} {n k : Nat} {q : Program} {loose : List PySem.Str} {XP : (PySem.Str → Option Value) → Heap → Prop} {YP : World → Heap → Prop} {d : DefRec} {x : PySem.Str}
    (hn : l.most = some n) (hn2 : n ≤ sizeLine) (hdf : d.params.defaults = []) (hr : Room k callerA)
    (F : ∀ (w : World) (mg : PySem.Str → Option Value) (fa : Addr) (h : Heap), YP w h → h.Ns mainGlobals mg → mg d.name = some (.ref fa) →
      ∃ (K : PySem.W.Frag) (fd : FuncData) (sp : Sp), K.In h ∧ (∀ (s : Shared) (u : Value), BindsTo s fd ⟨[u], []⟩ [(x, u)]) ∧
        (∀ (H : Hp) (a : Addr) (ns : List Int), Only H → SqL K H a (ns.map V.int) → sp [.ref a] H (fun v _ => v = .bl true) fun _ _ _ => False) ∧
        ∀ base : Heap, FnG l.prog w K mg base CX0 [] k fa fd [x] sp) :
    PySem.W.WalkO q loose XP YP l.row.toRowW d [] (fun f vs => PySem.call f vs) := by
  refine Att.attach_call hn hdf fun w s₀ s₁ mg mb fa o pm cd doc a vs ns G Y ho hd hcd hmg hobj hints hlen hg => ?_
  obtain ⟨K, fd, sp, KX, hb, hsp, hF⟩ := F w mg fa _ Y G.T.g hmg
  exact law_callG KX G.T.g G.T.b G.T.builtins G.T.nolimit hg hobj hints (Nat.le_trans hlen hn2) hr hF hb fun H hO hS => hsp H a ns hO hS
end K81
set_option Elab.async false
set_option linter.all false
set_option maxRecDepth 100000
set_option maxHeartbeats 0
/-! K81CV: all promises; the law. -/
namespace K81
open PySem PySem.Spec L2
open PyProof.Rows
theorem all_ok {P : Program} {w : World} {K : PySem.W.Frag} {mg : PySem.Str → Option Value} (T : Hd K mg) (base : Heap) : CeG P w K mg base 12 "_law_right" ["_law_pot_here"] spLRight := by
  have c_pairs_with := ok_pairs_with (P := P) (w := w) (base := base) T
  have c_turned_pairs := ok_turned_pairs (P := P) (w := w) (base := base) T
  have c_sets_by := ok_sets_by (P := P) (w := w) (base := base) T
  have c_Shape := ok_Shape (P := P) (w := w) (base := base) T c_pairs_with c_turned_pairs c_sets_by
  have c_is_integer := ok_is_integer (P := P) (w := w) (base := base) T
  have c_is_list := ok_is_list (P := P) (w := w) (base := base) T
  have c_is_count := ok_is_count (P := P) (w := w) (base := base) T c_is_integer
  have c_is_state_of := ok_is_state_of (P := P) (w := w) (base := base) T c_is_count
  have c_want_starts := ok_want_starts (P := P) (w := w) (base := base) T c_is_list c_is_state_of
  have c_is_name := ok_is_name (P := P) (w := w) (base := base) T
  have c_Box_is_step := cs_Box_is_step (P := P) (w := w) (base := base) T c_is_name c_is_state_of
  have c_want_steps := ok_want_steps (P := P) (w := w) (base := base) T c_is_list c_Box_is_step
  have c_want_limits := ok_want_limits (P := P) (w := w) (base := base) T
  have c_Box := ok_Box (P := P) (w := w) (base := base) T c_Shape c_is_integer c_want_starts c_want_steps c_want_limits
  have c_Box_states := ok_Box_states (P := P) (w := w) (base := base) T
  have c_Box_eq := ok_Box_eq (P := P) (w := w) (base := base) T c_Box_states
  have c_Box_repr := ok_Box_repr (P := P) (w := w) (base := base) T c_Box_states
  have c_Box_is_sure := ok_Box_is_sure (P := P) (w := w) (base := base) T
  have c_Box_signs := ok_Box_signs (P := P) (w := w) (base := base) T
  have c_BoxS := ok_BoxS (P := P) (w := w) (base := base) T c_Shape c_is_integer c_want_starts c_want_steps c_want_limits
  have c_made_box := ok_made_box (P := P) (w := w) (base := base) T c_Shape c_BoxS
  have c_Box_with_starts := ok_Box_with_starts (P := P) (w := w) (base := base) T c_want_starts c_Box_states c_made_box
  have c_is_sign := ok_is_sign (P := P) (w := w) (base := base) T c_is_name
  have c_want_row := ok_want_row (P := P) (w := w) (base := base) T c_is_list c_is_sign
  have c_states_in := ok_states_in (P := P) (w := w) (base := base) T
  have c_gathered := ok_gathered (P := P) (w := w) (base := base) T c_states_in
  have c_behind_set := ok_behind_set (P := P) (w := w) (base := base) T c_gathered
  have c_behind_row := ok_behind_row (P := P) (w := w) (base := base) T c_behind_set
  have c_set_of := ok_set_of (P := P) (w := w) (base := base) T
  have c_start_set := ok_start_set (P := P) (w := w) (base := base) T c_set_of
  have c_does_give := ok_does_give (P := P) (w := w) (base := base) T c_behind_row c_start_set
  have c_gives := ok_gives (P := P) (w := w) (base := base) T c_want_row c_does_give
  have c_Box_steps := ok_Box_steps (P := P) (w := w) (base := base) T
  have c_Box_starts := ok_Box_starts (P := P) (w := w) (base := base) T
  have c_both_starts := ok_both_starts (P := P) (w := w) (base := base) T c_Box_states c_Box_starts
  have c_in_step := ok_in_step (P := P) (w := w) (base := base) T c_Box_states c_Box_steps c_both_starts c_made_box
  have c_want_limited := ok_want_limited (P := P) (w := w) (base := base) T c_Box_states
  have c_want_state := ok_want_state (P := P) (w := w) (base := base) T c_is_state_of c_Box_states
  have c_Box_getitem := ok_item (P := P) (w := w) (base := base) T c_want_state c_Box_signs c_states_in
  have c_tuples_behind := ok_tuples_behind (P := P) (w := w) (base := base) T c_Box_getitem c_behind_set
  have c_row_to_place := ok_row_to_place (P := P) (w := w) (base := base) T
  have c_next_front := ok_next_front (P := P) (w := w) (base := base) T
  have c_missing_of := ok_missing_of (P := P) (w := w) (base := base) T c_start_set c_Box_starts c_tuples_behind c_row_to_place c_next_front
  have c_stands_for := ok_stands_for (P := P) (w := w) (base := base) T c_want_limited c_missing_of
  have c_want_signs := ok_want_signs (P := P) (w := w) (base := base) T c_is_list c_is_sign
  have c_want_states := ok_want_states (P := P) (w := w) (base := base) T c_Box_states
  have c_onward := ok_onward (P := P) (w := w) (base := base) T c_behind_set
  have c_sets_with_steps := ok_sets_with_steps (P := P) (w := w) (base := base) T c_start_set c_behind_set c_Box_signs
  have c_parted := ok_parted (P := P) (w := w) (base := base) T
  have c_form_of := ok_form_of (P := P) (w := w) (base := base) T c_sets_with_steps c_parted c_made_box
  have c_room := ok_room (P := P) (w := w) (base := base) T c_want_signs c_want_states c_start_set c_onward c_made_box c_form_of
  have ck_room := ck_room (P := P) (w := w) (base := base) T (body_room T c_want_signs c_want_states c_start_set c_onward c_made_box c_form_of)
  have c__law_draw := ok_law_draw (P := P) (w := w) (base := base) T
  have c__law_menu := ok_law_menu (P := P) (w := w) (base := base) T c__law_draw
  have c__law_pick := ok_law_pick (P := P) (w := w) (base := base) T c__law_draw
  have c__law_deal := ok_law_deal (P := P) (w := w) (base := base) T c__law_draw c__law_pick
  have c__law_some_signs := ok_law_some_signs (P := P) (w := w) (base := base) T c__law_draw
  have c__law_made := ok_law_made (P := P) (w := w) (base := base) T c_Box
  have c__law_behind := ok_law_behind (P := P) (w := w) (base := base) T
  have c__law_runs := ok_law_runs (P := P) (w := w) (base := base) T c__law_behind
  have c_form := ok_form (P := P) (w := w) (base := base) T c_want_limited c_form_of
  have c__law_greatest_right := ok_law_greatest (P := P) (w := w) (base := base) T c__law_made c__law_deal c_stands_for c_in_step c_form c_Box_eq
  have c__law_right := ok_law_right (P := P) (w := w) (base := base) T c_Box c_Box_eq c_Box_repr c_Box_is_sure c_Box_states c_Box_signs c_Box_with_starts c_gives c_in_step c_stands_for c_room ck_room c__law_draw c__law_menu c__law_deal c__law_some_signs c__law_made c__law_runs c__law_greatest_right
  exact c__law_right
theorem facts {P : Program} {w : World} {K : PySem.W.Frag} {h : Heap} {mg : PySem.Str → Option Value} {f : Addr} (X : K.In h) (G : h.Ns mainGlobals mg) (hfa : mg ("law" : PySem.Str) = some (.ref f)) (c : obsK K = valK) :
    ∃ fd : FuncData, (∀ (s : Shared) (v : Value), BindsTo s fd ⟨[v], []⟩ [("_law_script", v)]) ∧ ∀ base : Heap, FnG P w K mg base CX0 [] 13 f fd ["_law_script"] (spLaw K) := by
  have T : Hd K mg := ⟨c, fun e => PySem.W.mg_of X G e, fun e => PySem.W.mg_none_of X G e⟩
  obtain ⟨fd, h1, h2⟩ := fn_law (P := P) (w := w) T (all_ok T)
  have e := hfa.symm.trans T.glo_law
  cases e
  exact ⟨fd, h2, h1⟩
end K81
open PySem PySem.W PySem.Calls PyProof.Rows
theorem PySem.Challenge.cw_aheadbehind_k81_whole_rooms_beside_helpe_holds : PySem.Challenge.rw_aheadbehind_k81_whole_rooms_beside_helpe.Holds := by
  w_on; o_law
  refine HandSHeadRun.head_any (r := OpenLaw.row PySem.Challenge.rw_aheadbehind_k81_whole_rooms_beside_helpe) (q := view (OpenLaw.row PySem.Challenge.rw_aheadbehind_k81_whole_rooms_beside_helpe).prog [80]) (H := K81.hookK) (ob := K81.ob) (M := 20000) (loose := K81.loose) (d := HandSHeadRun.topDef (OpenLaw.row PySem.Challenge.rw_aheadbehind_k81_whole_rooms_beside_helpe).prog 80) (kwd := []) K81.ob_eq
    (by kernel_rfl) (fun s => by kernel_rfl) K81.head_run (by kernel_rfl) (by kernel_rfl) (by kernel_rfl) (by rfl) (by first | assumption | decide +kernel) (by decide +kernel) ⟨rfl, rfl, rfl, rfl, rfl, by decide +kernel⟩ ?hw ?hc
  case hw => w_witness2
  case hc =>
    refine K81.walk_ofG (l := PySem.Challenge.rw_aheadbehind_k81_whole_rooms_beside_helpe) (n := 63) (k := 13) (x := "_law_script") rfl (by decide) (by kernel_rfl) ⟨rfl, by decide, by decide⟩ ?F
    intro w mg fa h Y G hmg0
    obtain ⟨K, KX, c⟩ := Y
    have hmg : mg ("law" : PySem.Str) = some (.ref fa) := by
      have e : (HandSHeadRun.topDef (OpenLaw.row PySem.Challenge.rw_aheadbehind_k81_whole_rooms_beside_helpe).prog 80).name = ("law" : PySem.Str) := by kernel_rfl
      rw [← e]
      exact hmg0
    obtain ⟨fd, hb, hF⟩ := K81.facts (P := (PySem.Challenge.rw_aheadbehind_k81_whole_rooms_beside_helpe).prog) (w := w) KX G hmg c
    exact ⟨K, fd, K81.spLaw K, KX, hb, fun H a ns _ hS => ⟨a, ns, rfl, hS, fun _ => rfl⟩, hF⟩
