import PyProof.Rows.All
import Wide.All
import OpenK.AllK
import Wide.FinOn
import KE.KStateDown
import Lean
import HandS.ForMost
import HandS.More
import HandS.Defaults
import HandS.Head0
import HandS.Head1
import HandS.Head2
import HandS.HeadEnd
import HandS.HeadHook1
import HandS.HeadHook2
import HandS.HeadHook3
import HandS.HeadHook4
import HandS.HeadWalk
import HandS.Strs
import HandS.SetFor
import HandS.SetTxt0
import HandS.Walk
import HandS.IsInst
import HandS.Star
import KE.GoesZip
import KE.GoesMore
import KE.GoesEnum
import HandS.DictComp
import HandS.GenOver
import HandS.GenList
import HandS.TupSets
import HandS.SortOrd
import HandS.TupLe
import HandS.NamedTupSort
import HandS.SortInts
import HandS.TupAny
import PyProof.ReprRoads
import PyProof.ReprLen
import HandS.Ends
import PySem.Challenge.RW_lookdepth_k58_whole_fewest_out
set_option Elab.async false
set_option linter.all false
set_option maxRecDepth 100000
set_option maxHeartbeats 0
namespace K58
open PySem PySem.Spec PyProof.Rows L2
def topS (i : Nat) : Stmt := PySem.Challenge.pw_lookdepth_k58_whole_fewest_out.main.body.getD i (.Pass ⟨0, 0, 0, 0⟩)
abbrev sP_is_integer : Stmt := topS 3
def dP_is_integer : He.DefD := ⟨("is_integer", none), "is_integer", "is_integer", defArgs sP_is_integer, defBody sP_is_integer, defScope sP_is_integer, [], []⟩
abbrev sP_is_number : Stmt := topS 4
def dP_is_number : He.DefD := ⟨("is_number", none), "is_number", "is_number", defArgs sP_is_number, defBody sP_is_number, defScope sP_is_number, [], []⟩
abbrev sP_is_many : Stmt := topS 5
def dP_is_many : He.DefD := ⟨("is_many", none), "is_many", "is_many", defArgs sP_is_many, defBody sP_is_many, defScope sP_is_many, [], []⟩
abbrev sP_are_labels : Stmt := topS 6
def dP_are_labels : He.DefD := ⟨("are_labels", none), "are_labels", "are_labels", defArgs sP_are_labels, defBody sP_are_labels, defScope sP_are_labels, [], []⟩
abbrev sP_is_lot : Stmt := topS 7
def dP_is_lot : He.DefD := ⟨("is_lot", none), "is_lot", "is_lot", defArgs sP_is_lot, defBody sP_is_lot, defScope sP_is_lot, [], []⟩
abbrev sP_is_row : Stmt := topS 8
def dP_is_row : He.DefD := ⟨("is_row", none), "is_row", "is_row", defArgs sP_is_row, defBody sP_is_row, defScope sP_is_row, [], []⟩
abbrev sP_table_fault : Stmt := topS 9
def dP_table_fault : He.DefD := ⟨("table_fault", none), "table_fault", "table_fault", defArgs sP_table_fault, defBody sP_table_fault, defScope sP_table_fault, [], []⟩
abbrev sP_is_table : Stmt := topS 10
def dP_is_table : He.DefD := ⟨("is_table", none), "is_table", "is_table", defArgs sP_is_table, defBody sP_is_table, defScope sP_is_table, [], []⟩
abbrev sP_want : Stmt := topS 16
def dP_want : He.DefD := ⟨("want", none), "want", "want", defArgs sP_want, defBody sP_want, defScope sP_want, [.int (-1)], []⟩
abbrev sP_want_table : Stmt := topS 17
def dP_want_table : He.DefD := ⟨("want_table", none), "want_table", "want_table", defArgs sP_want_table, defBody sP_want_table, defScope sP_want_table, [.str "table"], []⟩
abbrev sP_lot_of : Stmt := topS 19
def dP_lot_of : He.DefD := ⟨("lot_of", none), "lot_of", "lot_of", defArgs sP_lot_of, defBody sP_lot_of, defScope sP_lot_of, [], []⟩
abbrev sP_is_within : Stmt := topS 20
def dP_is_within : He.DefD := ⟨("is_within", none), "is_within", "is_within", defArgs sP_is_within, defBody sP_is_within, defScope sP_is_within, [], []⟩
abbrev sP_labels_of : Stmt := topS 21
def dP_labels_of : He.DefD := ⟨("labels_of", none), "labels_of", "labels_of", defArgs sP_labels_of, defBody sP_labels_of, defScope sP_labels_of, [], []⟩
abbrev sP_arrows_by : Stmt := topS 23
def dP_arrows_by : He.DefD := ⟨("arrows_by", none), "arrows_by", "arrows_by", defArgs sP_arrows_by, defBody sP_arrows_by, defScope sP_arrows_by, [], []⟩
abbrev sP_next_lot_arrowwork : Stmt := topS 24
def dP_next_lot_arrowwork : He.DefD := ⟨("next_lot_arrowwork", none), "next_lot", "next_lot", defArgs sP_next_lot_arrowwork, defBody sP_next_lot_arrowwork, defScope sP_next_lot_arrowwork, [], []⟩
abbrev sP_labels_in : Stmt := topS 27
def dP_labels_in : He.DefD := ⟨("labels_in", none), "labels_in", "labels_in", defArgs sP_labels_in, defBody sP_labels_in, defScope sP_labels_in, [], []⟩
abbrev sP_next_lot_fullwork : Stmt := topS 29
def dP_next_lot_fullwork : He.DefD := ⟨("next_lot_fullwork", none), "next_lot", "next_lot", defArgs sP_next_lot_fullwork, defBody sP_next_lot_fullwork, defScope sP_next_lot_fullwork, [], []⟩
abbrev sP_falling_from : Stmt := topS 31
def dP_falling_from : He.DefD := ⟨("falling_from", none), "falling_from", "falling_from", defArgs sP_falling_from, defBody sP_falling_from, defScope sP_falling_from, [], []⟩
abbrev sP_want_lot : Stmt := topS 33
def dP_want_lot : He.DefD := ⟨("want_lot", none), "want_lot", "want_lot", defArgs sP_want_lot, defBody sP_want_lot, defScope sP_want_lot, [], []⟩
abbrev sP_falling : Stmt := topS 35
def dP_falling : He.DefD := ⟨("falling", none), "falling", "falling", defArgs sP_falling, defBody sP_falling, defScope sP_falling, [], []⟩
abbrev sP_lasting : Stmt := topS 36
def dP_lasting : He.DefD := ⟨("lasting", none), "lasting", "lasting", defArgs sP_lasting, defBody sP_lasting, defScope sP_lasting, [], []⟩
abbrev sP_reached_by : Stmt := topS 38
def dP_reached_by : He.DefD := ⟨("reached_by", none), "reached_by", "reached_by", defArgs sP_reached_by, defBody sP_reached_by, defScope sP_reached_by, [], []⟩
abbrev sP_divisor_of : Stmt := topS 39
def dP_divisor_of : He.DefD := ⟨("divisor_of", none), "divisor_of", "divisor_of", defArgs sP_divisor_of, defBody sP_divisor_of, defScope sP_divisor_of, [], []⟩
abbrev sP_period_by : Stmt := topS 40
def dP_period_by : He.DefD := ⟨("period_by", none), "period_by", "period_by", defArgs sP_period_by, defBody sP_period_by, defScope sP_period_by, [], []⟩
abbrev sP_parts_by : Stmt := topS 41
def dP_parts_by : He.DefD := ⟨("parts_by", none), "parts_by", "parts_by", defArgs sP_parts_by, defBody sP_parts_by, defScope sP_parts_by, [], []⟩
abbrev sP_loose_by : Stmt := topS 42
def dP_loose_by : He.DefD := ⟨("loose_by", none), "loose_by", "loose_by", defArgs sP_loose_by, defBody sP_loose_by, defScope sP_loose_by, [], []⟩
abbrev sP_pairs_in : Stmt := topS 44
def dP_pairs_in : He.DefD := ⟨("pairs_in", none), "pairs_in", "pairs_in", defArgs sP_pairs_in, defBody sP_pairs_in, defScope sP_pairs_in, [], []⟩
abbrev sP_is_endless : Stmt := topS 45
def dP_is_endless : He.DefD := ⟨("is_endless", none), "is_endless", "is_endless", defArgs sP_is_endless, defBody sP_is_endless, defScope sP_is_endless, [], []⟩
abbrev sP_longer_rows : Stmt := topS 46
def dP_longer_rows : He.DefD := ⟨("longer_rows", none), "longer_rows", "longer_rows", defArgs sP_longer_rows, defBody sP_longer_rows, defScope sP_longer_rows, [], []⟩
abbrev sP_all_rows : Stmt := topS 47
def dP_all_rows : He.DefD := ⟨("all_rows", none), "all_rows", "all_rows", defArgs sP_all_rows, defBody sP_all_rows, defScope sP_all_rows, [], []⟩
abbrev sP_length_of : Stmt := topS 48
def dP_length_of : He.DefD := ⟨("length_of", none), "length_of", "length_of", defArgs sP_length_of, defBody sP_length_of, defScope sP_length_of, [], []⟩
abbrev sP_root_by : Stmt := topS 49
def dP_root_by : He.DefD := ⟨("root_by", none), "root_by", "root_by", defArgs sP_root_by, defBody sP_root_by, defScope sP_root_by, [], []⟩
abbrev sP_sets_of : Stmt := topS 51
def dP_sets_of : He.DefD := ⟨("sets_of", none), "sets_of", "sets_of", defArgs sP_sets_of, defBody sP_sets_of, defScope sP_sets_of, [], []⟩
abbrev sP_is_greater : Stmt := topS 52
def dP_is_greater : He.DefD := ⟨("is_greater", none), "is_greater", "is_greater", defArgs sP_is_greater, defBody sP_is_greater, defScope sP_is_greater, [], []⟩
abbrev sP_fewest_out : Stmt := topS 53
def dP_fewest_out : He.DefD := ⟨("fewest_out", none), "fewest_out", "fewest_out", defArgs sP_fewest_out, defBody sP_fewest_out, defScope sP_fewest_out, [], []⟩
abbrev sP_root_of : Stmt := topS 55
def dP_root_of : He.DefD := ⟨("root_of", none), "root_of", "root_of", defArgs sP_root_of, defBody sP_root_of, defScope sP_root_of, [], []⟩
abbrev sL_feed : Stmt := topS 57
def dL_feed : He.DefD := ⟨("_law_feed", none), "_law_feed", "_law_feed", defArgs sL_feed, defBody sL_feed, defScope sL_feed, [], []⟩
abbrev sL_draw : Stmt := topS 58
def dL_draw : He.DefD := ⟨("_law_draw", none), "_law_draw", "_law_draw", defArgs sL_draw, defBody sL_draw, defScope sL_draw, [], []⟩
abbrev sL_any : Stmt := topS 59
def dL_any : He.DefD := ⟨("_law_any", none), "_law_any", "_law_any", defArgs sL_any, defBody sL_any, defScope sL_any, [], []⟩
abbrev sL_same : Stmt := topS 60
def dL_same : He.DefD := ⟨("_law_same", none), "_law_same", "_law_same", defArgs sL_same, defBody sL_same, defScope sL_same, [], []⟩
abbrev sL_words : Stmt := topS 61
def dL_words : He.DefD := ⟨("_law_words", none), "_law_words", "_law_words", defArgs sL_words, defBody sL_words, defScope sL_words, [], []⟩
abbrev sL_row_of : Stmt := topS 62
def dL_row_of : He.DefD := ⟨("_law_row_of", none), "_law_row_of", "_law_row_of", defArgs sL_row_of, defBody sL_row_of, defScope sL_row_of, [], []⟩
abbrev sL_table_of : Stmt := topS 63
def dL_table_of : He.DefD := ⟨("_law_table_of", none), "_law_table_of", "_law_table_of", defArgs sL_table_of, defBody sL_table_of, defScope sL_table_of, [], []⟩
abbrev sL_scenes : Stmt := topS 64
def dL_scenes : He.DefD := ⟨("_law_scenes", none), "_law_scenes", "_law_scenes", defArgs sL_scenes, defBody sL_scenes, defScope sL_scenes, [], []⟩
abbrev sL_drawn : Stmt := topS 65
def dL_drawn : He.DefD := ⟨("_law_drawn", none), "_law_drawn", "_law_drawn", defArgs sL_drawn, defBody sL_drawn, defScope sL_drawn, [], []⟩
abbrev sL_near : Stmt := topS 66
def dL_near : He.DefD := ⟨("_law_near", none), "_law_near", "_law_near", defArgs sL_near, defBody sL_near, defScope sL_near, [], []⟩
abbrev sL_case : Stmt := topS 67
def dL_case : He.DefD := ⟨("_law_case", none), "_law_case", "_law_case", defArgs sL_case, defBody sL_case, defScope sL_case, [], []⟩
abbrev sL_labels : Stmt := topS 68
def dL_labels : He.DefD := ⟨("_law_labels", none), "_law_labels", "_law_labels", defArgs sL_labels, defBody sL_labels, defScope sL_labels, [], []⟩
abbrev sL_inner : Stmt := topS 69
def dL_inner : He.DefD := ⟨("_law_inner", none), "_law_inner", "_law_inner", defArgs sL_inner, defBody sL_inner, defScope sL_inner, [], []⟩
abbrev sL_lasts : Stmt := topS 70
def dL_lasts : He.DefD := ⟨("_law_lasts", none), "_law_lasts", "_law_lasts", defArgs sL_lasts, defBody sL_lasts, defScope sL_lasts, [], []⟩
abbrev sL_ends : Stmt := topS 71
def dL_ends : He.DefD := ⟨("_law_ends", none), "_law_ends", "_law_ends", defArgs sL_ends, defBody sL_ends, defScope sL_ends, [], []⟩
abbrev sL_step : Stmt := topS 72
def dL_step : He.DefD := ⟨("_law_step", none), "_law_step", "_law_step", defArgs sL_step, defBody sL_step, defScope sL_step, [], []⟩
abbrev sL_far : Stmt := topS 73
def dL_far : He.DefD := ⟨("_law_far", none), "_law_far", "_law_far", defArgs sL_far, defBody sL_far, defScope sL_far, [], []⟩
abbrev sL_parts : Stmt := topS 74
def dL_parts : He.DefD := ⟨("_law_parts", none), "_law_parts", "_law_parts", defArgs sL_parts, defBody sL_parts, defScope sL_parts, [], []⟩
abbrev sL_is_loose : Stmt := topS 75
def dL_is_loose : He.DefD := ⟨("_law_is_loose", none), "_law_is_loose", "_law_is_loose", defArgs sL_is_loose, defBody sL_is_loose, defScope sL_is_loose, [], []⟩
abbrev sL_next : Stmt := topS 76
def dL_next : He.DefD := ⟨("_law_next", none), "_law_next", "_law_next", defArgs sL_next, defBody sL_next, defScope sL_next, [], []⟩
abbrev sL_good_rows : Stmt := topS 77
def dL_good_rows : He.DefD := ⟨("_law_good_rows", none), "_law_good_rows", "_law_good_rows", defArgs sL_good_rows, defBody sL_good_rows, defScope sL_good_rows, [], []⟩
abbrev sL_root : Stmt := topS 78
def dL_root : He.DefD := ⟨("_law_root", none), "_law_root", "_law_root", defArgs sL_root, defBody sL_root, defScope sL_root, [], []⟩
abbrev sL_stays : Stmt := topS 79
def dL_stays : He.DefD := ⟨("_law_stays", none), "_law_stays", "_law_stays", defArgs sL_stays, defBody sL_stays, defScope sL_stays, [], []⟩
abbrev sL_sets : Stmt := topS 80
def dL_sets : He.DefD := ⟨("_law_sets", none), "_law_sets", "_law_sets", defArgs sL_sets, defBody sL_sets, defScope sL_sets, [], []⟩
abbrev sL_small : Stmt := topS 81
def dL_small : He.DefD := ⟨("_law_small", none), "_law_small", "_law_small", defArgs sL_small, defBody sL_small, defScope sL_small, [], []⟩
abbrev sL_law : Stmt := topS 82
def dL_law : He.DefD := ⟨("law", none), "law", "law", defArgs sL_law, defBody sL_law, defScope sL_law, [], []⟩
def fn0 : List He.DefD := [dP_is_integer, dP_is_number, dP_is_many, dP_are_labels, dP_is_lot, dP_is_row, dP_table_fault, dP_is_table, dP_want, dP_want_table, dP_lot_of, dP_is_within, dP_labels_of, dP_arrows_by, dP_next_lot_arrowwork, dP_labels_in, dP_next_lot_fullwork, dP_falling_from, dP_want_lot, dP_falling]
def fn1 : List He.DefD := [dP_lasting, dP_reached_by, dP_divisor_of, dP_period_by, dP_parts_by, dP_loose_by, dP_pairs_in, dP_is_endless, dP_longer_rows, dP_all_rows, dP_length_of, dP_root_by, dP_sets_of, dP_is_greater, dP_fewest_out, dP_root_of, dL_feed, dL_draw, dL_any, dL_same]
def fn2 : List He.DefD := [dL_words, dL_row_of, dL_table_of, dL_scenes, dL_drawn, dL_near, dL_case, dL_labels, dL_inner, dL_lasts, dL_ends, dL_step, dL_far, dL_parts, dL_is_loose, dL_next, dL_good_rows, dL_root, dL_stays, dL_sets]
def fn3 : List He.DefD := [dL_small, dL_law]
def fn : List He.DefD := fn0 ++ fn1 ++ fn2 ++ fn3
def gnames0 : List Str := ["is_integer", "is_number", "is_many", "are_labels", "is_lot", "is_row", "table_fault", "is_table", "want", "want_table", "lot_of", "is_within", "labels_of", "arrows_by", "next_lot_arrowwork", "labels_in", "next_lot_fullwork", "falling_from", "want_lot", "falling"]
def gnames1 : List Str := ["lasting", "reached_by", "divisor_of", "period_by", "parts_by", "loose_by", "pairs_in", "is_endless", "longer_rows", "all_rows", "length_of", "root_by", "sets_of", "is_greater", "fewest_out", "root_of", "_law_feed", "_law_draw", "_law_any", "_law_same"]
def gnames2 : List Str := ["_law_words", "_law_row_of", "_law_table_of", "_law_scenes", "_law_drawn", "_law_near", "_law_case", "_law_labels", "_law_inner", "_law_lasts", "_law_ends", "_law_step", "_law_far", "_law_parts", "_law_is_loose", "_law_next", "_law_good_rows", "_law_root", "_law_stays", "_law_sets"]
def gnames3 : List Str := ["_law_small", "law"]
def gnames : List Str := gnames0 ++ gnames1 ++ gnames2 ++ gnames3
def fnames : List Str := ["abs", "all", "any", "bool", "dict", "enumerate", "int", "isinstance", "len", "list", "max", "range", "repr", "set", "sorted", "str", "tuple", "zip"]
def fa : List He.Fa := [.str "LETTERS" "abcdefghijklmnopqrstuvwxyz", .glo "MANIES"] ++ gnames.map .glo ++ fnames.map .free
def ex (K : PySem.W.Frag) : Bool := He.tupB K "MANIES" [.int 2, .int 3]
abbrev R : PySem.W.OpenRow := PySem.W.OpenLaw.row PySem.Challenge.rw_lookdepth_k58_whole_fewest_out
abbrev hk : PySem.W.Hook := He.hookX 4 fa fn [] [] ex
def ob (s : PySem.W.SharedT) : He.AlX := He.obsX 4 fa fn [] [] ex (HandSHeadRun.getT s)
theorem ob_eq (s : PySem.W.SharedT) : ob s = hk.obs s.abs := He.obsX_eq (HandSHeadRun.getT_eq s)
def loose0 : List Str := ["LETTERS", "LookError", "MANIES", "NotUsable", "TableError", "_law_any", "_law_case", "_law_draw", "_law_drawn", "_law_ends", "_law_far", "_law_feed", "_law_good_rows", "_law_inner", "_law_is_loose", "_law_labels", "_law_lasts", "_law_near", "_law_next", "_law_parts"]
def loose1 : List Str := ["_law_root", "_law_row_of", "_law_same", "_law_scenes", "_law_sets", "_law_small", "_law_stays", "_law_step", "_law_table_of", "_law_words", "all_rows", "are_labels", "arrows_by", "divisor_of", "falling", "falling_from", "fewest_out", "is_endless", "is_greater", "is_integer"]
def loose2 : List Str := ["is_lot", "is_many", "is_number", "is_row", "is_table", "is_within", "labels_in", "labels_of", "lasting", "length_of", "longer_rows", "loose_by", "lot_of", "next_lot", "next_lot_arrowwork", "next_lot_fullwork", "pairs_in", "parts_by", "period_by", "reached_by"]
def loose3 : List Str := ["root_by", "root_of", "sets_of", "table_fault", "want", "want_lot", "want_table"]
def loose : List Str := loose0 ++ loose1 ++ loose2 ++ loose3
abbrev qv : PySem.Program := PySem.W.view R.prog [82]
end K58
set_option Elab.async false
set_option linter.all false
set_option maxRecDepth 100000
set_option maxHeartbeats 1000000
namespace K58
open PySem PySem.Spec PyProof.Rows L2
/-! ### heaps that grow -/
/-- what is told of an object without the others -/
def plainHO : HO → Bool
  | .ins .. => false
  | .own .. => false
  | .dT .. => false
  | .frz _ u => plainHO u
  | _ => true
def PlainHp (H : Hp) : Prop := ∀ b o, H b = some o → plainHO o = true
/-- nothing is lost, what is new is plain -/
structure Ext (H H' : Hp) : Prop where
  same : ∀ b o, H b = some o → H' b = some o
  new : ∀ b o, H' b = some o → H b = some o ∨ plainHO o = true
theorem Ext.refl (H : Hp) : Ext H H := ⟨fun _ _ e => e, fun _ _ e => .inl e⟩
theorem Ext.trans {H H1 H2 : Hp} (a : Ext H H1) (b : Ext H1 H2) : Ext H H2 := ⟨fun c o e => b.same c o (a.same c o e), fun c o e => (b.new c o e).elim (a.new c o) .inr⟩
theorem Ext.add {H : Hp} {p : Addr} {o : HO} (hn : H p = none) (ho : plainHO o = true) : Ext H (upd H p o) := ⟨fun b u e => by rw [upd_ne fun z => by rw [z, hn] at e; cases e]; exact e, fun b u e => by
  by_cases z : b = p
  · rw [z, upd_same] at e; cases e; exact .inr ho
  · rw [upd_ne z] at e; exact .inl e⟩
theorem Ext.then {H H1 : Hp} {p : Addr} {o : HO} (a : Ext H H1) (hn : H1 p = none) (ho : plainHO o = true) : Ext H (upd H1 p o) := a.trans (.add hn ho)
theorem Ext.plain {H H' : Hp} (a : Ext H H') (h : PlainHp H) : PlainHp H' := fun b o e => (a.new b o e).elim (h b o) id
theorem Ext.none {H H' : Hp} (a : Ext H H') {p : Addr} (h : H' p = none) : H p = none := by
  cases e : H p with
  | none => rfl
  | some o => rw [a.same p o e] at h; cases h
theorem objOk_plain {P : Program} {w : World} {H H' : Hp} {h : Heap} {a : Addr} {o : HO} (hp : plainHO o = true) (x : ObjOk P w H h a o) : ObjOk P w H' h a o := by
  induction o with
  | ins _ _ _ => cases hp
  | own _ => cases hp
  | dT _ => cases hp
  | frz ob u ih => exact ⟨x.1, ih hp x.2⟩
  | _ => exact x
abbrev strV (x : List Str) : List V := x.map V.str
theorem Ext.seq {K : PySem.W.Frag} {H H' : Hp} (e : Ext H H') {a : Addr} {xs : List V} (h : SqL K H a xs) : SqL K H' a xs := Same.seq e.same h
theorem Ext.same' {H H' : Hp} (e : Ext H H') : Same H H' := e.same
/-- a reading, weakened -/
def tMono (te : TE) : TE := fun σ H Q => ∃ Q0 : VK, te σ H Q0 ∧ ∀ v H1, Q0 v H1 → Q v H1
theorem pe_mono {X : Cx} {e : Expr} {te : TE} (h : PE X e te) : PE X e (tMono te) :=
  ⟨fun pins s σ H Q I ⟨Q0, q, k⟩ => thn (h.run pins s σ H Q0 I q) fun _ _ ⟨v, H1, I1, r, z⟩ => ⟨v, H1, I1, r, k v H1 z⟩⟩
/-- a reading that gives another -/
theorem pe_of {X : Cx} {e : Expr} {te te2 : TE} (h : PE X e te) (k : ∀ σ H Q, te2 σ H Q → te σ H Q) : PE X e te2 :=
  ⟨fun pins s σ H Q I q => h.run pins s σ H Q I (k σ H Q q)⟩
end K58
set_option Elab.async false
set_option linter.all false
set_option maxRecDepth 100000
set_option maxHeartbeats 1000000
/-! What the top has written, as the proofs of the defs take it. -/
namespace K58
open PySem PySem.Spec PyProof.Rows L2

structure Top (K : PySem.W.Frag) (mg : Str → Option Value) : Prop where
  glo : ∀ x ∈ gnames, mg x = some (.ref (He.ga K x))
  free : ∀ x ∈ fnames, mg x = none
  letters : ∃ t, mg "LETTERS" = some (.str "abcdefghijklmnopqrstuvwxyz" t)
  manies : mg "MANIES" = some (.ref (He.ga K "MANIES"))
  many2 : ∀ H, SqT K H (He.ga K "MANIES") [.int 2, .int 3]
  fn : ∀ d ∈ fn, ∃ fd, FunD K d.name d.qual d.params d.body d.scope (d.dvs K) (d.kws K) (He.fAd K d.at_) fd
/-- the module's x is a def that keeps a promise -/
structure Has (P : Program) (w : World) (K : PySem.W.Frag) (mg : Str → Option Value) (base : Heap) (x : Str) (k : Nat) (ps : List Str) (sp : Sp) : Prop where
  ex : ∃ fd, FnOk P w K mg base CX0 k (He.ga K x) fd ps sp ∧ Binds K fd ps []
  kp : PySem.W.keepIn K (.ref (He.ga K x)) = true
  at_ : mg x = some (.ref (He.ga K x))
def tCallH (sp : Sp) (t : TA) : TE := fun σ H Q => t σ H fun vs H1 => sp vs H1 Q E0
theorem pe_has {X : Cx} {x : Str} {k : Nat} {ps : List Str} {sp : Sp} {p pos : Pos} {e : Expr} {es : List Expr} {t : TA} (h : Has X.prog X.w X.K X.mg X.base x k ps sp) (hr : Room k X.A) (hg : Gl X x) (ha : PA X (e :: es) t)
    (hdb : (x == ("__debug__" : Str)) = false := by decide) (he : starEach (e :: es) X.env = (false, eval e X.env) :: starEach es X.env := by rfl) (hpl : (backTo pos (starEach es X.env)).any (·.1) = false := by rfl) :
    PE X (.Call (.Name x p) (e :: es) [] pos) (tCallH sp t) := by
  obtain ⟨fd, F, b⟩ := h.ex
  refine ⟨fun pins s σ H Q I q => ?_⟩
  refine wpAny_Call_Name_kw (ld_glob I hg h.at_ ?_ hdb)
  refine PySem.W.callWith_K (h₀ := X.base) I.ok.mod.kin h.kp (thn (ha.run pos pins s σ H _ I q) fun us s1 ⟨vs, H1, I1, r, q1⟩ => ⟨I1.kIn, ?_⟩) he hpl
  exact run_fn (E := E0) F hr b .nil pass0 I1 r (by rw [List.append_nil]; exact q1)
/-- a def of the text, by its body -/
theorem has_of {P : Program} {w : World} {K : PySem.W.Frag} {mg : Str → Option Value} {base : Heap} {N ps : List Str} {k : Nat} {sp : Sp} (T : Top K mg) (d : He.DefD) {x : Str} (hd : d ∈ fn) (hx : d.at_ = (x, none)) (hn : x ∈ gnames) (hdf : d.dfl = []) (S : FnScope N ps d.scope)
    (len : ∀ vs H Q E, sp vs H Q E → vs.length = ps.length)
    (hb : ∀ (kV doc pm : Value) (an : Option Addr) (cdv ct : Value) (us : List Value), us.length = ps.length → bindArgs (PySem.W.fnOf d.name d.qual d.params d.body d.scope .none kV doc pm an cdv ct) ⟨us, []⟩ = pure (ps.zip us))
    (hbody : ∀ (cdv : Value) (A : Around) (outer : List Env) (s : Shared) (H : Hp) (vs : List V) (Q : VK) (E : XK), Room k (A.deeper (envOfC d.qual d.scope s.heap.objs.size (He.ga K x) cdv)) → sp vs H Q E →
      ∃ t, PSs (cxOf CX0 P w K mg base N d.qual d.scope (He.ga K x) cdv A outer s H E).nox d.body t ∧ t { nx := fun _ H' => Q .non H', rt := Q } (L2.start N vs) H) : Has P w K mg base x (k + 1) ps sp := by
  obtain ⟨fd, F⟩ := T.fn d hd
  have ea : He.fAd K d.at_ = He.ga K x := by rw [hx] <;> rfl
  have ed : d.dvs K = [] := by unfold He.DefD.dvs; rw [hdf] <;> rfl
  rw [ea, ed] at F
  exact ⟨⟨fd, F.ok S len fun cdv A outer s H vs Q E hr h => (let ⟨t, h1, h2⟩ := hbody cdv A outer s H vs Q E hr h; ⟨t, h1.nox, h2⟩), F.bindsN hb⟩, F.kp, T.glo x hn⟩
end K58
set_option linter.all false
/-! Lists of numbers in order; lists that are told by their members. -/
namespace K58
/-- less, as texts are compared by their codes -/
def ltL : List Nat → List Nat → Bool
  | [], [] => false
  | [], _ :: _ => true
  | _ :: _, [] => false
  | a :: r, b :: t => decide (a < b) || (decide (a = b) && ltL r t)
theorem ltL_irr : ∀ a : List Nat, ltL a a = false
  | [] => rfl
  | a :: r => by simp [ltL, ltL_irr r]
theorem ltL_trans : ∀ a b c : List Nat, ltL a b = true → ltL b c = true → ltL a c = true
  | [], [], [], h1, _ => by simp [ltL] at h1
  | [], _ :: _, [], _, h2 => by simp [ltL] at h2
  | [], _, _ :: _, _, _ => rfl
  | _ :: _, [], _, h1, _ => by simp [ltL] at h1
  | _ :: _, _ :: _, [], _, h2 => by simp [ltL] at h2
  | a :: r, b :: t, c :: u, h1, h2 => by
    simp only [ltL, Bool.or_eq_true, Bool.and_eq_true, decide_eq_true_eq] at h1 h2 ⊢
    rcases h1 with h1 | ⟨h1, h3⟩
    · rcases h2 with h2 | ⟨h2, _⟩
      · left; omega
      · left; omega
    · rcases h2 with h2 | ⟨h2, h4⟩
      · left; omega
      · exact .inr ⟨by omega, ltL_trans r t u h3 h4⟩
theorem ltL_tri : ∀ a b : List Nat, ltL a b = true ∨ a = b ∨ ltL b a = true
  | [], [] => .inr (.inl rfl)
  | [], _ :: _ => .inl rfl
  | _ :: _, [] => .inr (.inr rfl)
  | a :: r, b :: t => by
    simp only [ltL, Bool.or_eq_true, Bool.and_eq_true, decide_eq_true_eq]
    rcases Nat.lt_trichotomy a b with h | h | h
    · exact .inl (.inl h)
    · subst h
      rcases ltL_tri r t with h1 | h1 | h1
      · exact .inl (.inr ⟨rfl, h1⟩)
      · exact .inr (.inl (by rw [h1]))
      · exact .inr (.inr (.inr ⟨rfl, h1⟩))
    · exact .inr (.inr (.inl h))
theorem ltL_asymm {a b : List Nat} (h : ltL a b = true) : ltL b a = false := by
  cases e : ltL b a with
  | false => rfl
  | true => have := ltL_trans a b a h e; rw [ltL_irr] at this; cases this
theorem ltL_iff : ∀ a b : List Nat, ltL a b = decide (a < b)
  | [], [] => by simp [ltL]
  | [], b :: t => by simp [ltL]
  | a :: r, [] => by simp [ltL]
  | a :: r, b :: t => by
    have ih := ltL_iff r t
    simp only [ltL, ih, List.cons_lt_cons_iff]
    by_cases h : a < b
    · simp [h]
    · by_cases h2 : a = b
      · subst h2; simp
      · simp [h, h2]
/-- two lists of no doubles, one within the other and not longer, have the same members as often -/
theorem perm_of_sub {α : Type} [DecidableEq α] : ∀ (l ys : List α), l.Nodup → (∀ x ∈ l, x ∈ ys) → ys.length ≤ l.length → l.Perm ys
  | [], ys, _, _, h => by
    have : ys = [] := List.eq_nil_of_length_eq_zero (by simp at h; exact h ▸ rfl)
    rw [this]
  | a :: l, ys, hn, hs, h => by
    obtain ⟨h1, h2⟩ := List.nodup_cons.mp hn
    have ha := hs a List.mem_cons_self
    have p := List.perm_cons_erase ha
    refine (List.Perm.cons a (perm_of_sub l (ys.erase a) h2 (fun x hx => ?_) ?_)).trans p.symm
    · exact (List.mem_erase_of_ne (fun e : x = a => h1 (by rw [← e]; exact hx))).mpr (hs x (List.mem_cons_of_mem _ hx))
    · rw [List.length_erase_of_mem ha]; simp at h; omega
/-- strictly rising lists with the same members are one -/
theorem rising_eq {α : Type} {lt : α → α → Prop} (irr : ∀ a, ¬ lt a a) (tr : ∀ a b c, lt a b → lt b c → lt a c) : ∀ (xs ys : List α), xs.Pairwise lt → ys.Pairwise lt → (∀ x, x ∈ xs ↔ x ∈ ys) → xs = ys
  | [], [], _, _, _ => rfl
  | [], y :: ys, _, _, h => absurd ((h y).mpr List.mem_cons_self) (by simp)
  | x :: xs, [], _, _, h => absurd ((h x).mp List.mem_cons_self) (by simp)
  | x :: xs, y :: ys, hx, hy, h => by
    obtain ⟨hx1, hx2⟩ := List.pairwise_cons.mp hx
    obtain ⟨hy1, hy2⟩ := List.pairwise_cons.mp hy
    have e : x = y := by
      rcases List.mem_cons.mp ((h x).mp List.mem_cons_self) with q | q
      · exact q
      · rcases List.mem_cons.mp ((h y).mpr List.mem_cons_self) with q2 | q2
        · exact q2.symm
        · exact absurd (tr _ _ _ (hx1 y q2) (hy1 x q)) (irr x)
    subst e
    rw [rising_eq irr tr xs ys hx2 hy2 fun z => ?_]
    constructor
    · intro hz
      rcases List.mem_cons.mp ((h z).mp (List.mem_cons_of_mem _ hz)) with q | q
      · rw [q] at hz; exact absurd (hx1 x hz) (irr x)
      · exact q
    · intro hz
      rcases List.mem_cons.mp ((h z).mpr (List.mem_cons_of_mem _ hz)) with q | q
      · rw [q] at hz; exact absurd (hy1 x hz) (irr x)
      · exact q
end K58
set_option Elab.async false
set_option linter.all false
set_option maxRecDepth 100000
set_option maxHeartbeats 2000000
/-! Sets of texts, made of a text, a list, a tuple; sorted of these. -/
namespace K58
open PySem PySem.Spec PyProof.Rows L2
open PySem.Froz (SD sObj addTx tailTx TxOk add_ok add_x)

/-- the set of the texts l at a -/
structure TxS (P : Program) (w : World) (h : Heap) (a : Addr) (l : List Str) : Prop where
  obj : ∃ D : SD, h.get? a = some (sObj "set" D) ∧ TxOk P w D l ∧ Ris D.2.2.place.toList ∧ (w.params.followText "set-order" = true ∨ D.2.2.led = true)
  nd : l.Nodup
  few : l.length < scanBound
theorem TxS.at {P : Program} {w : World} {h h' : Heap} {a : Addr} {l : List Str} (x : TxS P w h a l) (k : ∀ o, h.get? a = some o → h'.get? a = some o) : TxS P w h' a l := by
  obtain ⟨⟨D, e, r⟩, n, f⟩ := x
  exact ⟨⟨D, k _ e, r⟩, n, f⟩
theorem tail_ris {ep : Nat} {es1 : Array (Int × Value)} {t2 : SetTable} {wd : Bool} (r : Ris t2.place.toList) : Ris (tailTx ep es1 t2 wd).2.2.place.toList := by
  unfold tailTx
  split
  · exact relayAll_ris _ _ _
  · exact r
theorem tail_led {ep : Nat} {es1 : Array (Int × Value)} {t2 : SetTable} {wd : Bool} : (tailTx ep es1 t2 wd).2.2.led = t2.led := by
  unfold tailTx
  split
  · exact relayAll_led _ _ _
  · rfl
theorem addTx_ris {h : Int} {v : Value} {D : SD} (r : Ris D.2.2.place.toList) : Ris (addTx h v D).2.2.place.toList := by
  have h1 := layNew_ris D.2.2 D.1 h v r
  refine tail_ris ?_
  split
  · exact h1
  · exact h1
theorem addTx_led {h : Int} {v : Value} {D : SD} : (addTx h v D).2.2.led = D.2.2.led := by
  have h1 := layNew_led D.2.2 D.1 h v
  refine tail_led.trans ?_
  split
  · exact h1
  · exact h1
/-- the distinct ones, the first of each, put in front -/
def addOne (l : List Str) (k : Str) : List Str := if k ∈ l then l else k :: l
theorem addOne_nd {l : List Str} {k : Str} (h : l.Nodup) : (addOne l k).Nodup := by
  unfold addOne
  split
  · exact h
  · exact List.nodup_cons.mpr ⟨‹_›, h⟩
theorem addOne_mem {l : List Str} {k x : Str} : x ∈ addOne l k ↔ x = k ∨ x ∈ l := by
  unfold addOne
  split
  · exact ⟨.inr, fun h => h.elim (fun e => e ▸ ‹_›) id⟩
  · exact List.mem_cons
theorem addOne_len (l : List Str) (k : Str) : (addOne l k).length ≤ l.length + 1 := by
  unfold addOne
  split
  · omega
  · exact Nat.le_refl _

section
variable {P : Program} {w : World} {A : Around} {E : Value → Shared → Prop} {s : Shared} {a : Addr} {l : List Str} {k : Str} {u : Tok}
theorem add_old {D : SD} {Q : Bool → Shared → Prop} (ho : s.heap.get? a = some (sObj "set" D)) (F : TxOk P w D l) (hk : k ∈ l) (hb : l.length < scanBound) (h : Q false s) : wpAny (model P w) A (setAddHashed a (.str k u) (hashStr w k)) Q E s := by
  obtain ⟨es, ep, t⟩ := D
  have hd : (sObj "set" (es, ep, t)).data = .set es ep t := rfl
  have hb0 : es.size < scanBound := by have : es.size = l.length := F.sz; omega
  have hkey : (strKind P w).is k (.str k u) = true := PySem.Froz.is_str k u
  obtain ⟨e, he, pe⟩ := (F.mem k).mp hk
  unfold setAddHashed setAddHashedIn
  refine wpAny_holding (wpAny_bind (wpAny_setState_of ho hd F.fit ?_))
  dsimp only
  rw [byScan_of rfl hb0 F.el]
  simp only [↓reduceIte]
  unfold setAddByScan
  refine wpAny_bind ?_
  refine wpAny_bind (wpAny_rule ?_)
  refine wpAny_bind (wpAny_setScan_of (knd := strKind P w) (k := k) hkey ho hd F.fit F.el ?_)
  cases hfi : List.findIdx? (fun e => (strKind P w).is k e.2) es.toList with
  | none =>
    have c := List.findIdx?_eq_none_iff.mp hfi e he
    rw [pe] at c
    cases c
  | some j => exact wpAny_pure (wpAny_pure h)
theorem add_text {Q : Bool → Shared → Prop} (R : TxS P w s.heap a l) (room : l.length + 1 < scanBound)
    (h : ∀ (b : Bool) (h' : Heap), Heap.SameBut a s.heap h' → TxS P w h' a (addOne l k) → Q b { s with heap := h' }) : wpAny (model P w) A (setAddHashed a (.str k u) (hashStr w k)) Q E s := by
  obtain ⟨⟨D, ho, F, r, hl⟩, nd, few⟩ := R
  by_cases c : k ∈ l
  · have e : addOne l k = l := if_pos c
    refine add_old ho F c few (h false s.heap (Heap.SameBut.refl a s.heap) ?_)
    rw [e]
    exact ⟨⟨D, ho, F, r, hl⟩, nd, few⟩
  · have e : addOne l k = k :: l := if_neg c
    refine add_x ho F c room (h true _ (Heap.SameBut.update ..) ?_)
    rw [e]
    refine ⟨⟨_, PySem.Froz.get_upd _ ho rfl, add_ok u F, addTx_ris r, ?_⟩, List.nodup_cons.mpr ⟨c, nd⟩, room⟩
    rw [addTx_led]; exact hl

/-- set.update's loop over texts -/
theorem loop_texts {R : Result → Shared → Prop} {I : Addr} {fp wr : List Addr} {G : Array GenState → Array GenState → Prop} {n : Nat} {Pv : Nat → Value → Prop} {St : Nat → Shared → Prop} (W : WalksS P w A.in1 I fp wr G n Pv St) (S : Addr) (hSf : S ∉ fp) (xs : List Str) (hn : xs.length = n)
    (hval : ∀ i v, Pv i v → ∃ x t, xs[i]? = some x ∧ v = .str x t) :
    ∀ (k i : Nat) (s : Shared) (l : List Str), n - i = k → i ≤ n → St i s → TxS P w s.heap S l → l.length + k < scanBound →
      (∀ s', Moved (S :: wr) G s s' → TxS P w s'.heap S ((xs.drop i).foldl addOne l) → R (.ok (.ret .none)) s') →
      codeAny (model P w) A (.builtin "set.update.loop" ⟨[.ref S, .ref I], []⟩) R s := by
  have hSw : S ∉ wr := fun h => hSf (W.sub _ h)
  have hsub : ∀ b ∈ wr, b ∈ S :: wr := fun b hb => List.mem_cons_of_mem _ hb
  intro k
  induction k with
  | zero =>
    intro i s l hk hi hst hS hb hR
    refine codeAny_builtin PyProof.Rows.F.entry_set_update_loop ?_
    rw [Around.under_plainId PyProof.Rows.F.plain_set_update_loop _]
    have hin : i = n := by omega
    subst hin
    show wpAny _ A.in1 (pyNext (.ref I) >>= _) _ _ s
    refine wpAny_bind (W.done s _ _ hst fun s' hm => ?_)
    show wpAny _ A.in1 (ret Value.none) _ _ s'
    refine wpAny_pure (hR s' (hm.mono hsub) ?_)
    rw [List.drop_of_length_le (by omega)]
    exact hS.at fun o e => hm.heap S o hSw e
  | succ k ih =>
    intro i s l hk hi hst hS hb hR
    refine codeAny_builtin PyProof.Rows.F.entry_set_update_loop ?_
    rw [Around.under_plainId PyProof.Rows.F.plain_set_update_loop _]
    have hlt : i < n := by omega
    show wpAny _ A.in1 (pyNext (.ref I) >>= _) _ _ s
    refine wpAny_bind (W.item i s _ _ hlt hst fun v s' hP hst' hm => ?_)
    obtain ⟨x, t, hx, rfl⟩ := hval i v hP
    show wpAny _ A.in1 (holding [Value.str x t] (setAdd S (.str x t)) >>= _) _ _ s'
    refine wpAny_bind (wpAny_holding ?_)
    unfold setAdd
    refine wpAny_holding (wpAny_bind ((strKind P w).pyHash (k := x) (strKind_is _ _ _ _) ?_))
    refine add_text (s := { s' with toks := s'.toks + 1 }) (hS.at fun o e => hm.heap S o hSw e) (by omega) fun b h' hsb hS2 => ?_
    have hl2 := addOne_len l x
    have hd : xs.drop i = x :: xs.drop (i + 1) := by
      obtain ⟨hi', e⟩ := List.getElem?_eq_some_iff.mp hx
      rw [List.drop_eq_getElem_cons hi', e]
    refine wpAny_pure ⟨plainId_quiet PyProof.Rows.F.plain_set_update_loop _, ih (i + 1) _ _ (by omega) hlt (W.frame _ s' _ _ hst' (Nat.le_succ _) fun c hc o e => ?_) hS2 (by omega) fun s'' hm'' hS'' => ?_⟩
    · rw [hsb.2 c (fun z : c = S => hSf (by rw [← z]; exact hc))]; exact e
    · refine hR s'' (Moved.trans W.gtrans ((hm.mono hsub).then_heap (Nat.le_succ _) fun c o hc e => ?_) hm'') ?_
      · rw [hsb.2 c (fun z : c = S => hc (by rw [z]; exact List.mem_cons_self))]; exact e
      · rw [hd]; exact hS''
end
end K58
set_option Elab.async false
set_option linter.all false
set_option maxRecDepth 100000
set_option maxHeartbeats 4000000
/-! set(x) of texts: the call. -/
namespace K58
open PySem PySem.Spec PyProof.Rows L2
open PySem.Froz (SD sObj addTx tailTx TxOk add_ok add_x)
abbrev newSet (w : World) : Obj := { cls := .type "set", dict := none, data := .set #[] 0 (.fresh 0 0 (!w.params.followText "set-order")) }
section
variable {P : Program} {w : World} {A : Around} {E : Value → Shared → Prop} {s : Shared}
theorem txS_fresh {h : Heap} {a : Addr} (ho : h.get? a = some (newSet w)) : TxS P w h a [] where
  obj := ⟨(#[], 0, .fresh 0 0 (!w.params.followText "set-order")), ho, TxOk.nil rfl, List.Pairwise.nil, by
    show _ ∨ (!w.params.followText "set-order") = true
    cases w.params.followText "set-order"
    · exact .inr rfl
    · exact .inl rfl⟩
  nd := List.nodup_nil
  few := by unfold scanBound; decide
/-- set(x), where x is walked; Z: what is told of the new set -/
theorem call_set_gen {v : Value} {Z : Heap → Prop} {Q : Value → Shared → Prop} (hh : A.handled = none)
    (upd : ∀ (A' : Around) (Q' : Unit → Shared → Prop), A'.handled = none → A'.units ≤ A.units + 3 → (∀ h' tk, Z h' → (∀ b o, s.heap.get? b = some o → h'.get? b = some o) → Q' () { s with heap := h', toks := tk }) →
      wpAny (model P w) A' (Builtin.Frozenset.updateFrom "set.__init__" s.heap.objs.size v) Q' E { s with heap := s.heap.push (newSet w) })
    (h : ∀ h' tk, Z h' → (∀ b o, s.heap.get? b = some o → h'.get? b = some o) → Q (.ref s.heap.objs.size) { s with heap := h', toks := tk }) :
    wpAny (model P w) A (call (.type "set") [v]) Q E s := by
  obtain ⟨c, tl, hmro⟩ := PySem.F.called_set.mro
  have hmade := PySem.F.called_set.made
  have hsub := PySem.F.called_set.sub
  refine wpAny_call (codeAny_of_tree ?_)
  show wpAny _ _ (callAny (.type "set") _) _ _ _
  refine wpAny_pure ⟨Code.quiet_builtin _ (by decide +kernel), codeAny_builtin PySem.F.entry_type_call ?_⟩
  rw [Around.under_plain (weight_type_call_type "set" [v] []) rfl]
  have h1 := PySem.F.called_set.notType
  have h2 := PySem.F.called_set.canCreate
  have hct := PySem.F.typeCall_set_1 v
  repeat (any_goals (first | assumption | wp_step))
  refine codeAny_mono (code_set_led1 v (E := E) (Q₁ := fun obj s1 => obj = .ref s.heap.objs.size ∧ s1 = { s with heap := s.heap.push (newSet w) }) ⟨rfl, rfl⟩) fun r s1 hr => ?_
  cases r with
  | error e => exact hr
  | ok fl =>
    cases fl with
    | ret obj =>
      obtain ⟨rfl, rfl⟩ := hr
      have hS : (s.heap.push (newSet w)).get? s.heap.objs.size = some (newSet w) := Heap.get?_push_size _ rfl
      have hT : Shared.TypeIs { s with heap := s.heap.push (newSet w) } (.ref s.heap.objs.size) "set" := ⟨_, hS, rfl⟩
      have hli := PySem.F.called_set.init.lookup
      have hbi := PySem.F.called_set.init.bind (.ref s.heap.objs.size)
      repeat (any_goals (first | assumption | wp_step))
      refine codeAny_mono (codeAny_call_builtin (R := wants (fun r s2 => r = .none ∧ ∃ h' tk, s2 = { s with heap := h', toks := tk } ∧ Z h' ∧ (∀ b o, s.heap.get? b = some o → h'.get? b = some o)) E)
        PySem.F.called_set.init.plain PySem.F.entry_set_init (check_set_init_1 hT ?_)) fun r2 s2 hr2 => ?_
      · unfold Builtin.«set.__init__» noKeywords
        generalize hU : Builtin.Frozenset.updateFrom = U
        wp_walk
        subst hU
        refine upd _ _ (by simp [hh]) (by first | (show A.units + 1 + 1 + 1 ≤ _; omega) | (show A.units + 1 + 1 ≤ _; omega) | (show A.units + 1 ≤ _; omega)) fun h' tk hx hk => ?_
        exact wpAny_pure ⟨rfl, h', tk, rfl, hx, hk⟩
      · cases r2 with
        | error e => exact hr2
        | ok fl2 =>
          cases fl2 with
          | ret r =>
            obtain ⟨rfl, h', tk, rfl, hS', hk'⟩ := hr2
            repeat (any_goals (first | assumption | wp_step))
            exact h _ _ hS' hk'
          | _ => exact hr2.elim
    | _ => exact hr.elim
theorem call_set_any {v : Value} {xs : List Str} {Q : Value → Shared → Prop} (hh : A.handled = none)
    (upd : ∀ (A' : Around) (Q' : Unit → Shared → Prop), A'.handled = none → (∀ h' tk, TxS P w h' s.heap.objs.size (xs.foldl addOne []) → (∀ b o, s.heap.get? b = some o → h'.get? b = some o) → Q' () { s with heap := h', toks := tk }) →
      wpAny (model P w) A' (Builtin.Frozenset.updateFrom "set.__init__" s.heap.objs.size v) Q' E { s with heap := s.heap.push (newSet w) })
    (h : ∀ h' tk, TxS P w h' s.heap.objs.size (xs.foldl addOne []) → (∀ b o, s.heap.get? b = some o → h'.get? b = some o) → Q (.ref s.heap.objs.size) { s with heap := h', toks := tk }) :
    wpAny (model P w) A (call (.type "set") [v]) Q E s := call_set_gen (Z := fun h' => TxS P w h' s.heap.objs.size (xs.foldl addOne [])) hh (fun A' Q' e _ k => upd A' Q' e k) h
end
end K58
set_option Elab.async false
set_option linter.all false
set_option maxRecDepth 100000
set_option maxHeartbeats 4000000
/-! set(x) of texts: from a text, a list, a tuple; sorted. -/
namespace K58
open PySem PySem.Spec PyProof.Rows L2
section
variable {P : Program} {w : World} {A : Around} {E : Value → Shared → Prop} {s : Shared}
theorem upd_walk {T : String} {v : Value} {S : Addr} {Q : Unit → Shared → Prop} (hT : s.TypeIs v T) (h1 : isSubtype (.type T) (.type "set") = pure false) (h2 : isSubtype (.type T) (.type "frozenset") = pure false) (hd : (Value.type T == Value.type "dict") = false)
    (hit : wpAny (model P w) A (pyIter v) (fun it s2 => codeAny (model P w) A (.builtin "set.update.loop" ⟨[.ref S, it], []⟩) (fun r s' => r = .ok (.ret .none) ∧ Q () s') s2) E s) :
    wpAny (model P w) A (Builtin.Frozenset.updateFrom "set.__init__" S v) Q E s := by
  unfold Builtin.Frozenset.updateFrom Builtin.Frozenset.isAnySet
  refine wpAny_bind (wpAny_bind (wpAny_isInstance hT h1 ?_))
  show wpAny _ _ (isInstance v (.type "frozenset")) _ _ s
  refine wpAny_isInstance hT h2 ?_
  show wpAny _ _ (typeOf v >>= _) _ _ s
  refine wpAny_bind (wpAny_typeOf hT ?_)
  rw [if_neg (by rw [hd]; exact Bool.false_ne_true)]
  refine wpAny_bind (wpAny_mono hit (fun it s2 h => ?_) fun _ _ x => x)
  refine wpAny_bind (wpAny_runValue (codeAny_mono h fun r s' hr => ?_))
  obtain ⟨rfl, q⟩ := hr
  exact wpAny_pure q
/-- from an iterator over the texts xs -/
theorem upd_texts {T : String} {v : Value} {xs : List Str} {Q : Unit → Shared → Prop} {s0 : Shared} (es : s = { s0 with heap := s0.heap.push (newSet w) }) (hT : s.TypeIs v T) (h1 : isSubtype (.type T) (.type "set") = pure false) (h2 : isSubtype (.type T) (.type "frozenset") = pure false) (hd : (Value.type T == Value.type "dict") = false) (hf : xs.length < 4000)
    (hit : ∀ (Q2 : Value → Shared → Prop), (∀ (h' : Heap) (I : Addr) (fp : List Addr) (Pv : Nat → Value → Prop) (St : Nat → Heap → Prop), (∀ b o, s.heap.get? b = some o → h'.get? b = some o) → s.heap.objs.size ≤ I → s0.heap.objs.size ∉ fp → (∀ b ∈ fp, b = I ∨ b < s.heap.objs.size) →
        Walks P w A.in1 I fp [I] xs.length Pv St → (∀ i v, Pv i v → ∃ x t, xs[i]? = some x ∧ v = .str x t) → St 0 h' → Q2 (.ref I) { s with heap := h' }) → wpAny (model P w) A (pyIter v) Q2 E s)
    (h : ∀ h' tk, TxS P w h' s0.heap.objs.size (xs.foldl addOne []) → (∀ b o, s0.heap.get? b = some o → h'.get? b = some o) → Q () { s0 with heap := h', toks := tk }) :
    wpAny (model P w) A (Builtin.Frozenset.updateFrom "set.__init__" s0.heap.objs.size v) Q E s := by
  refine upd_walk hT h1 h2 hd (hit _ fun h' I fp Pv St hk hI hSf hfp W hval st => ?_)
  have hS : s.heap.get? s0.heap.objs.size = some (newSet w) := by rw [es]; exact Heap.get?_push_size _ rfl
  refine loop_texts W.toS s0.heap.objs.size hSf xs rfl hval xs.length 0 _ [] (by omega) (Nat.zero_le _) st (txS_fresh (hk _ _ hS)) (by unfold scanBound; simp; omega) fun s' hm hx => ⟨rfl, ?_⟩
  obtain ⟨h2', g', d', tk', os'⟩ := s'
  have eg : g' = s0.gens := by have z := hm.gens; rw [es] at z; exact z
  have ed : d' = s0.drawn := by have z := hm.drawn; rw [es] at z; exact z
  have eo : os' = s0.os := by have z := hm.os; rw [es] at z; exact z
  subst eg; subst ed; subst eo
  refine h h2' tk' hx fun b o e => ?_
  have hb : b < s0.heap.objs.size := Heap.lt_size e
  have hs1 : s.heap.get? b = some o := by rw [es]; exact Heap.get?_push_of_some _ e
  have hsz : s.heap.objs.size = s0.heap.objs.size + 1 := by rw [es]; exact Heap.size_push ..
  refine hm.heap b o (fun z => ?_) (hk b o hs1)
  rcases List.mem_cons.mp z with z | z
  · exact absurd hb (by rw [z]; exact Nat.lt_irrefl _)
  · rw [List.mem_singleton] at z
    have h2 : s.heap.objs.size ≤ b := by rw [z]; exact hI
    rw [hsz] at h2
    exact absurd hb (Nat.not_lt_of_le (Nat.le_of_succ_le h2))
theorem getStr {us : List Value} {xs : List Str} (h : Vals (xs.map V.str) us) {i : Nat} {v : Value} (hv : us[i]? = some v) : ∃ x t, xs[i]? = some x ∧ v = .str x t := by
  have hl := h.length
  rw [List.length_map] at hl
  have hi : i < xs.length := by rw [hl]; exact (List.getElem?_eq_some_iff.mp hv).1
  have hx : (xs.map V.str)[i]? = some (.str xs[i]) := by rw [List.getElem?_map, List.getElem?_eq_getElem hi]; rfl
  obtain ⟨u, hu, t, rfl⟩ := h.get hx
  rw [hv] at hu
  exact ⟨xs[i], t, List.getElem?_eq_getElem hi, Option.some.inj hu⟩
theorem set_of_str {x : Str} {t : Tok} {Q : Value → Shared → Prop} (hh : A.handled = none) (hf : x.cps.size < 4000)
    (h : ∀ h' tk, TxS P w h' s.heap.objs.size ((x.cps.toList.map fun c => (⟨#[c]⟩ : Str)).foldl addOne []) → (∀ b o, s.heap.get? b = some o → h'.get? b = some o) → Q (.ref s.heap.objs.size) { s with heap := h', toks := tk }) :
    wpAny (model P w) A (call (.type "set") [.str x t]) Q E s := by
  refine call_set_any hh (fun A' Q' hA hq => ?_) h
  refine upd_texts (T := "str") rfl rfl PySem.F.sub_str_set PySem.F.sub_str_frozenset (by decide) (by rw [List.length_map, Array.length_toList]; exact hf) (fun Q2 hQ2 => ?_) hq
  refine wpAny_pyIter_str fun o St W st => ?_
  have hl : (x.cps.toList.map fun c => (⟨#[c]⟩ : Str)).length = x.cps.size := by rw [List.length_map, Array.length_toList]
  refine hQ2 _ _ _ (SignAt x) St (fun b o e => Heap.get?_push_of_some _ e) (Nat.le_refl _) (fun z => ?_) (fun b hb => .inl (List.mem_singleton.mp hb)) (by rw [hl]; exact W _ hA) (fun i v hv => ?_) st
  · have h1 := List.mem_singleton.mp z
    have h2 : (s.heap.push (newSet w)).objs.size = s.heap.objs.size + 1 := Heap.size_push ..
    rw [h2] at h1
    exact absurd h1 (Nat.ne_of_lt (Nat.lt_succ_self _))
  · obtain ⟨c, u, hc, rfl⟩ := hv
    exact ⟨⟨#[c]⟩, u, by rw [List.getElem?_map, Array.getElem?_toList, hc]; rfl, rfl⟩
theorem set_of_list {l : Addr} {its : List Value} {xs : List Str} {Q : Value → Shared → Prop} (hh : A.handled = none) (hl : s.heap.IsList l its.toArray) (hv : Vals (xs.map V.str) its) (hf : xs.length < 4000)
    (h : ∀ h' tk, TxS P w h' s.heap.objs.size (xs.foldl addOne []) → (∀ b o, s.heap.get? b = some o → h'.get? b = some o) → Q (.ref s.heap.objs.size) { s with heap := h', toks := tk }) :
    wpAny (model P w) A (call (.type "set") [.ref l]) Q E s := by
  refine call_set_any hh (fun A' Q' hA hq => ?_) h
  have hl1 : (s.heap.push (newSet w)).IsList l its.toArray := hl.push _
  have hlt : l < s.heap.objs.size := let ⟨_, ho, _⟩ := hl; Heap.lt_size ho
  have hz : (s.heap.push (newSet w)).objs.size = s.heap.objs.size + 1 := Heap.size_push ..
  refine upd_texts (T := "list") rfl hl1.typeIs PySem.F.sub_list_set PySem.F.sub_list_frozenset (by decide) hf (fun Q2 hQ2 => ?_) hq
  refine wpAny_pyIter_list hl1 ?_
  have hne : l ≠ (s.heap.push (newSet w)).objs.size := by rw [hz]; exact Nat.ne_of_lt (Nat.lt_succ_of_lt hlt)
  have hn : its.toArray.size = xs.length := by rw [List.size_toArray, ← hv.length, List.length_map]
  have W := Walks.list (prog := P) (w := w) (A := A'.in1) (show A'.in1.handled = none from hA) (s.heap.push (newSet w)).objs.size l hne its.toArray
  rw [hn] at W
  refine hQ2 _ _ [(s.heap.push (newSet w)).objs.size, l] _ _ (fun b o e => Heap.get?_push_of_some _ e) (Nat.le_refl _) (fun z => ?_) (fun b hb => ?_) W (fun i v hi => ?_) ⟨⟨_, Heap.get?_push_size _ rfl, rfl, rfl⟩, hl1.push _⟩
  · rcases List.mem_cons.mp z with z | z
    · rw [hz] at z; exact absurd z (Nat.ne_of_lt (Nat.lt_succ_self _))
    · rw [List.mem_singleton.mp z] at hlt; exact Nat.lt_irrefl _ hlt
  · rcases List.mem_cons.mp hb with z | z
    · exact .inl z
    · rw [List.mem_singleton.mp z]
      exact .inr (by show l < (s.heap.push (newSet w)).objs.size; rw [hz]; exact Nat.lt_succ_of_lt hlt)
  · exact getStr hv (by rw [← Array.getElem?_toList] at hi; simpa using hi)
theorem set_of_tuple {l : Addr} {its : List Value} {xs : List Str} {Q : Value → Shared → Prop} (hh : A.handled = none) (hl : s.heap.IsTuple l its.toArray) (hv : Vals (xs.map V.str) its) (hf : xs.length < 4000)
    (h : ∀ h' tk, TxS P w h' s.heap.objs.size (xs.foldl addOne []) → (∀ b o, s.heap.get? b = some o → h'.get? b = some o) → Q (.ref s.heap.objs.size) { s with heap := h', toks := tk }) :
    wpAny (model P w) A (call (.type "set") [.ref l]) Q E s := by
  refine call_set_any hh (fun A' Q' hA hq => ?_) h
  have hl1 : (s.heap.push (newSet w)).IsTuple l its.toArray := hl.push _
  have hlt : l < s.heap.objs.size := let ⟨_, ho, _⟩ := hl; Heap.lt_size ho
  have hz : (s.heap.push (newSet w)).objs.size = s.heap.objs.size + 1 := Heap.size_push ..
  refine upd_texts (T := "tuple") rfl hl1.typeIs PySem.F.sub_tuple_set PySem.F.sub_tuple_frozenset (by decide) hf (fun Q2 hQ2 => ?_) hq
  refine wpAny_pyIter_tuple hl1 ?_
  have hne : l ≠ (s.heap.push (newSet w)).objs.size := by rw [hz]; exact Nat.ne_of_lt (Nat.lt_succ_of_lt hlt)
  have hn : its.toArray.size = xs.length := by rw [List.size_toArray, ← hv.length, List.length_map]
  have W := Walks.tuple (prog := P) (w := w) (A := A'.in1) (show A'.in1.handled = none from hA) (s.heap.push (newSet w)).objs.size l hne its.toArray
  rw [hn] at W
  refine hQ2 _ _ [(s.heap.push (newSet w)).objs.size, l] _ _ (fun b o e => Heap.get?_push_of_some _ e) (Nat.le_refl _) (fun z => ?_) (fun b hb => ?_) W (fun i v hi => ?_) ⟨⟨_, Heap.get?_push_size _ rfl, rfl, rfl⟩, hl1.push _⟩
  · rcases List.mem_cons.mp z with z | z
    · rw [hz] at z; exact absurd z (Nat.ne_of_lt (Nat.lt_succ_self _))
    · rw [List.mem_singleton.mp z] at hlt; exact Nat.lt_irrefl _ hlt
  · rcases List.mem_cons.mp hb with z | z
    · exact .inl z
    · rw [List.mem_singleton.mp z]
      exact .inr (by show l < (s.heap.push (newSet w)).objs.size; rw [hz]; exact Nat.lt_succ_of_lt hlt)
  · exact getStr hv (by rw [← Array.getElem?_toList] at hi; simpa using hi)
end
end K58
set_option Elab.async false
set_option linter.all false
set_option maxRecDepth 100000
set_option maxHeartbeats 4000000
/-! sorted of a set of texts; both as rules. -/
namespace K58
open PySem PySem.Spec PyProof.Rows L2
open PySem.Froz (SD sObj TxOk)
def ltS (a b : Str) : Prop := ltL a.cps.toList b.cps.toList = true
theorem ltCps_ltL (a b : List Nat) : ltCps a b = ltL a b := by rw [ltCps_eq, ltL_iff]
theorem le_trans_L {a b c : List Nat} (h1 : ltL b a = false) (h2 : ltL c b = false) : ltL c a = false := by
  cases e : ltL c a with
  | false => rfl
  | true =>
    rcases ltL_tri a b with h | h | h
    · rw [ltL_trans c a b e h] at h2; cases h2
    · rw [← h, e] at h2; cases h2
    · rw [h] at h1; cases h1
theorem rising_pair : ∀ (l : List Str) (p : Str), risingS p l = true → (p :: l).Pairwise (fun a b => ltL b.cps.toList a.cps.toList = false)
  | [], p, _ => List.pairwise_cons.mpr ⟨fun _ h => by simp at h, List.Pairwise.nil⟩
  | x :: r, p, h => by
    have h' : (!ltCps x.cps.toList p.cps.toList && risingS x r) = true := h
    rw [Bool.and_eq_true, Bool.not_eq_true', ltCps_ltL] at h'
    have ih := rising_pair r x h'.2
    refine List.pairwise_cons.mpr ⟨fun y hy => ?_, ih⟩
    rcases List.mem_cons.mp hy with e | hy
    · rw [e]; exact h'.1
    · exact le_trans_L h'.1 ((List.pairwise_cons.mp ih).1 y hy)
theorem sortedS_pair : ∀ (l : List Str), sortedS l = true → l.Pairwise (fun a b => ltL b.cps.toList a.cps.toList = false)
  | [], _ => List.Pairwise.nil
  | x :: r, h => rising_pair r x h
theorem str_ext {a b : Str} (h : a.cps.toList = b.cps.toList) : a = b := by
  obtain ⟨⟨x⟩⟩ := a
  obtain ⟨⟨y⟩⟩ := b
  have e : x = y := h
  rw [e]
theorem strict_of : ∀ (l : List Str), l.Pairwise (fun a b => ltL b.cps.toList a.cps.toList = false) → l.Nodup → l.Pairwise ltS
  | [], _, _ => List.Pairwise.nil
  | x :: r, h, n => by
    obtain ⟨h1, h2⟩ := List.pairwise_cons.mp h
    obtain ⟨n1, n2⟩ := List.nodup_cons.mp n
    refine List.pairwise_cons.mpr ⟨fun y hy => ?_, strict_of r h2 n2⟩
    rcases ltL_tri x.cps.toList y.cps.toList with q | q | q
    · exact q
    · exact absurd hy (by rw [← str_ext q]; exact n1)
    · rw [h1 y hy] at q; cases q
theorem strs_of_vals : ∀ {us : List Value}, (∀ v ∈ us, ∃ x t, v = Value.str x t) → StrsAre us (us.map strOf)
  | [], _ => .nil
  | v :: us, h => by
    obtain ⟨x, t, rfl⟩ := h v List.mem_cons_self
    exact .cons x t (strs_of_vals fun u hu => h u (List.mem_cons_of_mem _ hu))

section
variable {P : Program} {w : World} {A : Around} {E : Value → Shared → Prop} {s : Shared} {a : Addr} {l : List Str}
theorem sorted_txs {Q : Value → Shared → Prop} (R : TxS P w s.heap a l) (hh : A.handled = none) (h64 : l.length < 64)
    (hQ : ∀ s' p (out : Array Value) (c : Nat) (ys : List Str), (∀ b o, s.heap.get? b = some o → s'.heap.get? b = some o) → s'.gens = s.gens → s'.os = s.os → s.heap.objs.size ≤ p →
      s'.heap.get? p = some (seqObj "list" out c) → StrsAre out.toList ys → ys.Pairwise ltS → (∀ x, x ∈ ys ↔ x ∈ l) → Q (.ref p) s') :
    wpAny (model P w) A (call (.builtin "sorted") [.ref a]) Q E s := by
  obtain ⟨⟨⟨es, ep, t⟩, ho, F, hr, hl⟩, nd, few⟩ := R
  have hb : es.size < scanBound := by have : es.size = l.length := F.sz; omega
  refine Calls.call_function_entry kind_sorted plain_sorted entry_sorted (args_sorted1 _) ?_
  unfold Builtin.«sorted»
  refine wpAny_bind (m := checkCount "sorted" 1 1 _) (wpAny_pure ?_)
  refine wpAny_bind (collect_set (A := A.in1) hh ⟨_, ho, rfl, rfl⟩ F.fit hb hr hl fun s1 vs k1 hz g1 o1 pm => ?_)
  have hvl : vs.length = l.length := by rw [pm.length_eq, List.length_map, Array.length_toList]; exact F.sz
  have hel : ∀ e ∈ es.toList, ∃ x t, e.2 = Value.str x t := fun e he => by
    obtain ⟨⟨k, hk, _⟩, _⟩ := F.el e he
    obtain ⟨t, q⟩ := Value.isStrOf_shape (show Value.isStrOf k e.2 = true from hk)
    exact ⟨k, t, q⟩
  have hS : StrsAre vs (vs.map strOf) := strs_of_vals fun v hv => by
    obtain ⟨e, he, q⟩ := List.mem_map.mp (pm.mem_iff.mp hv)
    rw [← q]; exact hel e he
  have memV : ∀ x, x ∈ vs.map strOf ↔ x ∈ l := fun x => by
    have pk := pm.map strOf
    rw [pk.mem_iff, List.map_map, F.mem x]
    constructor
    · intro h
      obtain ⟨e, he, q⟩ := List.mem_map.mp h
      refine ⟨e, he, ?_⟩
      obtain ⟨y, ty, ey⟩ := hel e he
      have q2 : strOf e.2 = x := q
      rw [ey] at q2 ⊢
      have q3 : y = x := q2
      rw [q3]; exact PySem.Froz.is_str x ty
    · rintro ⟨e, he, q⟩
      refine List.mem_map.mpr ⟨e, he, ?_⟩
      obtain ⟨t, q2⟩ := Value.isStrOf_shape (show Value.isStrOf x e.2 = true from q)
      show strOf e.2 = x
      rw [q2]; rfl
  refine wpAny_bind (wpAny_newList ?_ (by rw [hvl, sizeLine_eq]; omega))
  have hoL : (s1.heap.push (seqObj "list" vs.toArray 0)).get? s1.heap.objs.size = some (seqObj "list" vs.toArray 0) := Heap.get?_push_size _ rfl
  refine wpAny_bind (wpAny_holding (wpAny_call_entry slot_list_sort ⟨_, hoL, rfl⟩ entry_list_sort (list_sort_treeK strKind_oneLt hoL hS.keysOf (fun v1 v2 rest e => keyKind_strs (ss := (v1 :: v2 :: rest).map strOf) (by rw [← e]; exact hS)) (by rw [hvl]; exact h64) fun st' hp hs => ⟨_, rfl, ?_⟩) (args_list_sort _)))
  obtain ⟨ys, y1, y2, y3⟩ := sorted_out_str hS hp hs
  obtain ⟨c, hc⟩ := sortedHeap_at (vs := vs) (out := (arrOf st').map (·.2)) hoL
  have memY : ∀ x, x ∈ ys ↔ x ∈ l := fun x => y2.mem_iff.trans (memV x)
  have lenY : ys.length = l.length := by rw [y2.length_eq, List.length_map]; exact hvl
  have ndY : ys.Nodup := (perm_of_sub l ys nd (fun x hx => (memY x).mpr hx) (by rw [lenY]; exact Nat.le_refl _)).nodup_iff.mp nd
  refine wpAny_pure ⟨_, rfl, hQ _ s1.heap.objs.size _ c ys (fun b u e => ?_) g1 o1 hz hc y1 (strict_of ys (sortedS_pair ys y3) ndY) memY⟩
  have q := k1 b u e
  have hlt := Heap.lt_size q
  show (sortedHeap (s1.heap.push (seqObj "list" vs.toArray 0)) s1.heap.objs.size vs _).get? b = some u
  rw [sortedHeap_old (Nat.ne_of_lt hlt) (by rw [size_push']; exact Nat.lt_succ_of_lt hlt)]
  exact Heap.get?_push_of_some _ q
end
end K58
set_option Elab.async false
set_option linter.all false
set_option maxRecDepth 100000
set_option maxHeartbeats 4000000
/-! sorted(set(..)) of texts, as a rule. -/
namespace K58
open PySem PySem.Spec PyProof.Rows L2
/-- a text's signs -/
def signs (z : Str) : List Str := z.cps.toList.map fun c => ⟨#[c]⟩
def TxO (P : Program) (w : World) (a : Addr) (l : List Str) : HO := .ext fun h => TxS P w h a l
/-- what hands out the texts ss: a text, a list, a tuple -/
def SrcS (K : PySem.W.Frag) (H : Hp) (v : V) (ss : List Str) : Prop := (∃ z, v = .str z ∧ ss = signs z) ∨ (∃ l, v = .ref l ∧ SqL K H l (ss.map V.str)) ∨ (∃ l, v = .ref l ∧ SqT K H l (ss.map V.str))
theorem addAll_len : ∀ (ss l : List Str), (ss.foldl addOne l).length ≤ l.length + ss.length
  | [], l => by simp
  | x :: r, l => by
    have h1 := addAll_len r (addOne l x)
    have h2 := addOne_len l x
    show (r.foldl addOne (addOne l x)).length ≤ l.length + (r.length + 1)
    omega
theorem addAll_mem : ∀ (ss l : List Str) (x : Str), x ∈ ss.foldl addOne l ↔ x ∈ l ∨ x ∈ ss
  | [], l, x => by simp
  | y :: r, l, x => by
    show x ∈ r.foldl addOne (addOne l y) ↔ _
    rw [addAll_mem r (addOne l y) x, addOne_mem, List.mem_cons]
    constructor
    · rintro ((h | h) | h)
      · exact .inr (.inl h)
      · exact .inl h
      · exact .inr (.inr h)
    · rintro (h | h | h)
      · exact .inl (.inr h)
      · exact .inl (.inl h)
      · exact .inr h
section
variable {X : Cx}
theorem txO_new {P : Program} {w : World} {H : Hp} {h : Heap} {a : Addr} {l : List Str} (R : TxS P w h a l) : ObjOk P w H h a (TxO P w a l) := by
  have ⟨⟨_, ho, _⟩, _, _⟩ := R
  exact ⟨R, ⟨_, ho⟩, fun h1 h2 p k => TxS.at p k⟩
def rSetS (K : PySem.W.Frag) (P : Program) (w : World) : List V → Hp → VK → Prop := fun xs H Q => ∃ (v : V) (ss : List Str), xs = [v] ∧ ss.length < 4000 ∧ SrcS K H v ss ∧ ∀ p, H p = none → Q (.ref p) (upd H p (TxO P w p (ss.foldl addOne [])))
theorem cr_setS (hc : X.calm = true) : CallR X (.type "set") (rSetS X.K X.prog X.w) := by
  intro pins s σ H xs us Q I r h
  obtain ⟨v, ss, rfl, hl, src, q⟩ := h
  cases r with
  | cons rv rr =>
    cases rr
    have fin : ∀ h' tk, TxS X.prog X.w h' s.heap.objs.size (ss.foldl addOne []) → (∀ b o, s.heap.get? b = some o → h'.get? b = some o) →
        EP X pins σ Q (.ref s.heap.objs.size) { s with heap := h', toks := tk } := fun h' tk R k =>
      ⟨.ref s.heap.objs.size, upd H s.heap.objs.size (TxO X.prog X.w s.heap.objs.size (ss.foldl addOne [])), I.laid (t' := tk) k (Nat.le_refl _) (txO_new R), rfl, q _ (I.hok.fresh (Nat.le_refl _))⟩
    rcases src with ⟨z, rfl, rfl⟩ | ⟨l, rfl, hs⟩ | ⟨l, rfl, hs⟩
    · obtain ⟨t, rfl⟩ := rv
      refine set_of_str (I.ok.hd hc) (by unfold signs at hl; rw [List.length_map, Array.length_toList] at hl; exact hl) fin
    · obtain rfl := (show _ = Value.ref l from rv)
      obtain ⟨its, rv2, pl, hz⟩ := I.list hs
      exact set_of_list (I.ok.hd hc) pl.isList rv2 hl fin
    · obtain rfl := (show _ = Value.ref l from rv)
      obtain ⟨its, rv2, pl, hz⟩ := I.tuple hs
      exact set_of_tuple (I.ok.hd hc) pl rv2 hl fin
def rSortTx (P : Program) (w : World) : List V → Hp → VK → Prop := fun vs H Q => ∃ (a : Addr) (l : List Str), vs = [V.ref a] ∧ H a = some (TxO P w a l) ∧ l.length < 64 ∧
  ∀ (ys : List Str) (p : Addr), ys.Pairwise ltS → (∀ x, x ∈ ys ↔ x ∈ l) → H p = none → Q (.ref p) (upd H p (.lst (ys.map V.str)))
theorem cr_sortTx (hc : X.calm = true) : CallR X (.builtin "sorted") (rSortTx X.prog X.w) := by
  intro pins s σ H vs us Q I r h
  obtain ⟨a, l, rfl, ha, h64, q⟩ := h
  have R : TxS X.prog X.w s.heap a l := (I.hok a _ ha).1
  rw [Vals.ref1 r]
  refine sorted_txs R (I.ok.hd hc) h64 fun s' p out c ys k g o hp hg hi hs hm => ?_
  have hlen0 : ys.length ≤ sizeLine := by
    have nd := hs.imp (S := fun a b => a ≠ b) (fun {a b} h e => by rw [e] at h; unfold ltS at h; rw [ltL_irr] at h; cases h)
    have h1 := (perm_of_sub ys l nd (fun x hx => (hm x).mp hx) (by
      have h2 := (perm_of_sub l ys R.nd (fun x hx => (hm x).mpr hx))
      by_cases c : ys.length ≤ l.length
      · exact (h2 c).length_eq ▸ Nat.le_refl _
      · omega)).length_eq
    rw [sizeLine_eq]; omega
  have hlen : (ys.map V.str).length ≤ sizeLine := by rw [List.length_map]; exact hlen0
  have hn : H p = none := I.hok.fresh hp
  have J : Inv X pins σ (upd H p (.lst (ys.map V.str))) s' := I.call' (s' := s') (ch := []) o (Un.laid k hp hn) (I.hok.laid k hp ⟨hlen, out.toList, c, vals_of_strs hi, hg⟩) (by rw [g]; exact I.bare) (fun _ z => nomatch z)
  exact ⟨.ref p, _, J, rfl, q ys p hs hm hn⟩
/-- sorted(set(e)) -/
def tSortSet (K : PySem.W.Frag) (te : TE) : TE := fun σ H Q => te σ H fun v H1 => ∃ ss : List Str, ss.length < 64 ∧ SrcS K H1 v ss ∧
  ∀ (ys : List Str) (q : Addr) (H' : Hp), ys.Pairwise ltS → (∀ x, x ∈ ys ↔ x ∈ ss) → Ext H1 H' → H1 q = none → H' q = some (.lst (strV ys)) → Q (.ref q) H'
theorem pe_sortSet {e : Expr} {te : TE} {p1 p2 p3 p4 : Pos} (hc : X.calm = true) (gs : Gl X "sorted") (ms : X.mg "sorted" = none) (gt : Gl X "set") (mt : X.mg "set" = none) (he : PE X e te)
    (h1 : starEach [Expr.Call (.Name "set" p2) [e] [] p3] X.env = (false, eval (.Call (.Name "set" p2) [e] [] p3) X.env) :: starEach [] X.env := by rfl) (h2 : starEach [e] X.env = (false, eval e X.env) :: starEach [] X.env := by rfl) :
    PE X (.Call (.Name "sorted" p1) [.Call (.Name "set" p2) [e] [] p3] [] p4) (tSortSet X.K te) := by
  have h := pe_callB (X := X) (p := p1) (pos := p4) (cr_sortTx hc) gs ms (by decide +kernel) (pa_cons (pe_callTy (p := p2) (pos := p3) (cr_setS hc) gt mt (by decide +kernel) (pa_cons (pe_mono he) pa_nil h2) (by decide) (by decide) h2) pa_nil h1) (by decide) (by decide) h1
  refine pe_of h fun σ H Q q => ⟨_, q, fun v H1 ⟨ss, hl, src, k⟩ => ⟨v, ss, rfl, by omega, src, fun p np => ?_⟩⟩
  refine ⟨p, _, rfl, upd_same, Nat.lt_of_le_of_lt (addAll_len ss []) (by simpa using hl), fun ys q2 r m nq => ?_⟩
  refine k ys q2 _ r (fun x => (m x).trans ((addAll_mem ss [] x).trans (by simp))) (((Ext.refl H1).then np rfl).then nq rfl) ?_ upd_same
  have e : q2 ≠ p := fun z => by rw [z, upd_same] at nq; cases nq
  rw [upd_ne e] at nq
  exact nq
end
end K58
set_option Elab.async false
set_option linter.all false
set_option maxRecDepth 100000
/-! Texts as lists of codes; a lot: its signs rising, each once. -/
namespace K58
open PySem PySem.Spec PyProof.Rows L2
def S (l : List Nat) : Str := ⟨l.toArray⟩
theorem S_cps (l : List Nat) : (S l).cps.toList = l := rfl
theorem S_inj {a b : List Nat} (h : S a = S b) : a = b := by
  have := congrArg (fun z : Str => z.cps.toList) h
  exact this
theorem S_of (z : Str) : z = S z.cps.toList := str_ext rfl
theorem S_len (l : List Nat) : (S l).length = l.length := rfl
abbrev tx (l : List Nat) : V := .str (S l)
theorem tx_inj {a b : List Nat} (h : tx a = tx b) : a = b := by injection h with h; exact S_inj h
theorem map_tx (ls : List (List Nat)) : strV (ls.map S) = ls.map tx := by rw [strV, List.map_map]; rfl
theorem signs_S (l : List Nat) : signs (S l) = (l.map fun c => [c]).map S := by rw [List.map_map]; rfl
def ins (c : Nat) : List Nat → List Nat
  | [] => [c]
  | d :: r => if c < d then c :: d :: r else if c = d then d :: r else d :: ins c r
theorem ins_mem (c x : Nat) : ∀ l : List Nat, x ∈ ins c l ↔ x = c ∨ x ∈ l
  | [] => by simp [ins]
  | d :: r => by
    unfold ins
    split
    · simp
    · split
      · rename_i h; subst h; simp
      · have := ins_mem c x r; simp [this]; constructor
        · rintro (h | h | h) <;> simp [h]
        · rintro (h | h | h) <;> simp [h]
theorem ins_asc (c : Nat) : ∀ l : List Nat, l.Pairwise (· < ·) → (ins c l).Pairwise (· < ·)
  | [], _ => by simp [ins]
  | d :: r, h => by
    obtain ⟨h1, h2⟩ := List.pairwise_cons.mp h
    unfold ins
    split
    · rename_i hc
      refine List.pairwise_cons.mpr ⟨fun x hx => ?_, h⟩
      rcases List.mem_cons.mp hx with e | e
      · rw [e]; exact hc
      · exact Nat.lt_trans hc (h1 x e)
    · split
      · exact h
      · rename_i hc hd
        refine List.pairwise_cons.mpr ⟨fun x hx => ?_, ins_asc c r h2⟩
        rcases (ins_mem c x r).mp hx with e | e
        · rw [e]; omega
        · exact h1 x e
/-- the lot of some signs -/
def lotL (l : List Nat) : List Nat := l.foldr ins []
theorem lotL_mem (x : Nat) : ∀ l : List Nat, x ∈ lotL l ↔ x ∈ l
  | [] => by simp [lotL]
  | c :: r => by
    show x ∈ ins c (lotL r) ↔ _
    rw [ins_mem, lotL_mem x r]; simp
theorem lotL_asc : ∀ l : List Nat, (lotL l).Pairwise (· < ·)
  | [] => .nil
  | c :: r => ins_asc c _ (lotL_asc r)
def Asc (l : List Nat) : Prop := l.Pairwise (· < ·)
theorem asc_eq {a b : List Nat} (ha : Asc a) (hb : Asc b) (h : ∀ x, x ∈ a ↔ x ∈ b) : a = b :=
  rising_eq (fun a => Nat.lt_irrefl a) (fun a b c => Nat.lt_trans) a b ha hb h
theorem lotL_eq {a l : List Nat} (ha : Asc a) (h : ∀ x, x ∈ a ↔ x ∈ l) : a = lotL l := asc_eq ha (lotL_asc l) fun x => (h x).trans (lotL_mem x l).symm
theorem lotL_self {a : List Nat} (ha : Asc a) : lotL a = a := (lotL_eq ha fun _ => Iff.rfl).symm
theorem lotL_congr {a b : List Nat} (h : ∀ x, x ∈ a ↔ x ∈ b) : lotL a = lotL b := lotL_eq (lotL_asc a) fun x => (lotL_mem x a).trans (h x)
theorem Asc.nodup {l : List Nat} (h : Asc l) : l.Nodup := h.imp fun h => Nat.ne_of_lt h
theorem Asc.filter {l : List Nat} (h : Asc l) (p : Nat → Bool) : Asc (l.filter p) := List.Pairwise.filter p h
theorem nd_len {α : Type} [DecidableEq α] : ∀ (l D : List α), l.Nodup → (∀ x ∈ l, x ∈ D) → l.length ≤ D.length := fun l D hn hs => by
  rcases Nat.lt_or_ge D.length l.length with c | c
  · exact Nat.le_of_eq (perm_of_sub l D hn hs (Nat.le_of_lt c)).length_eq
  · exact c
theorem asc_len {a b : List Nat} (ha : Asc a) (h : ∀ x ∈ a, x ∈ b) : a.length ≤ b.length := nd_len a b ha.nodup h
theorem lotL_len (l : List Nat) : (lotL l).length ≤ l.length := asc_len (lotL_asc l) fun x h => (lotL_mem x l).mp h
/-- signs in the order of texts -/
theorem ltS_sg (a b : Nat) : ltS (S [a]) (S [b]) ↔ a < b := by
  unfold ltS
  show ltL [a] [b] = true ↔ _
  simp [ltL]
/-- what a sorted set of signs is -/
theorem ys_lot {ys : List Str} {l : List Nat} (hs : ys.Pairwise ltS) (hm : ∀ x, x ∈ ys ↔ x ∈ (l.map fun c => [c]).map S) : ys = ((lotL l).map fun c => [c]).map S := by
  have hinj : ∀ x ∈ ys, ∃ c, x = S [c] := fun x hx => by
    obtain ⟨y, hy, e⟩ := List.mem_map.mp ((hm x).mp hx)
    obtain ⟨c, _, e2⟩ := List.mem_map.mp hy
    exact ⟨c, by rw [← e, ← e2]⟩
  refine rising_eq (lt := ltS) (fun a h => by unfold ltS at h; rw [ltL_irr] at h; cases h) (fun a b c h1 h2 => ltL_trans _ _ _ h1 h2) ys _ hs ?_ fun x => ?_
  · rw [List.map_map]
    refine List.pairwise_map.mpr ((lotL_asc l).imp fun {a b} h => (ltS_sg a b).mpr h)
  · rw [hm, List.map_map, List.map_map]
    constructor
    · intro h
      obtain ⟨c, hc, e⟩ := List.mem_map.mp h
      exact List.mem_map.mpr ⟨c, (lotL_mem c l).mpr hc, e⟩
    · intro h
      obtain ⟨c, hc, e⟩ := List.mem_map.mp h
      exact List.mem_map.mpr ⟨c, (lotL_mem c l).mp hc, e⟩
/-- joins -/
theorem joinL_nil : ∀ ls : List (List Nat), TL.joinL [] ls = ls.flatten
  | [] => rfl
  | [p] => by simp [TL.joinL]
  | p :: q :: r => by
    show p ++ ([] ++ TL.joinL [] (q :: r)) = _
    rw [joinL_nil (q :: r)]; simp
theorem join_S (ls : List (List Nat)) : Txt.join "" (ls.map S) = S ls.flatten := by
  refine str_ext ?_
  rw [TL.join_eq]
  have h := TL.tl_join "" (ls.map S)
  have e : (ls.map S).map TL.tl = ls := by rw [List.map_map]; exact (List.map_congr_left fun x _ => rfl).trans (List.map_id ls)
  rw [e] at h
  have e2 : TL.tl "" = [] := rfl
  rw [e2, joinL_nil] at h
  exact h
/-- text sorted sets -/
def ltT (a b : List Nat) : Prop := ltL a b = true
def AscT (ls : List (List Nat)) : Prop := ls.Pairwise ltT
theorem ascT_eq {a b : List (List Nat)} (ha : AscT a) (hb : AscT b) (h : ∀ x, x ∈ a ↔ x ∈ b) : a = b :=
  rising_eq (lt := ltT) (fun a h => by unfold ltT at h; rw [ltL_irr] at h; cases h) (fun a b c h1 h2 => ltL_trans _ _ _ h1 h2) a b ha hb h
theorem AscT.nodup {l : List (List Nat)} (h : AscT l) : l.Nodup := h.imp fun {a b} h e => by rw [e] at h; unfold ltT at h; rw [ltL_irr] at h; cases h
theorem ys_sorted {ys : List Str} {ls : List (List Nat)} (hs : ys.Pairwise ltS) (hm : ∀ x, x ∈ ys ↔ x ∈ ls.map S) : ∃ zs, ys = zs.map S ∧ AscT zs ∧ ∀ x, x ∈ zs ↔ x ∈ ls := by
  refine ⟨ys.map fun z => z.cps.toList, ?_, ?_, fun x => ?_⟩
  · rw [List.map_map]
    have : (S ∘ fun z : Str => z.cps.toList) = id := by funext z; exact (S_of z).symm
    rw [this, List.map_id]
  · exact List.pairwise_map.mpr hs
  · constructor
    · intro h
      obtain ⟨z, hz, e⟩ := List.mem_map.mp h
      obtain ⟨y, hy, e2⟩ := List.mem_map.mp ((hm z).mp hz)
      rw [← e, ← e2]; exact hy
    · intro h
      exact List.mem_map.mpr ⟨S x, (hm _).mpr (List.mem_map.mpr ⟨x, h, rfl⟩), rfl⟩
/-- insertion into a sorted list of texts -/
def insT (c : List Nat) : List (List Nat) → List (List Nat)
  | [] => [c]
  | d :: r => if ltL c d = true then c :: d :: r else if c = d then d :: r else d :: insT c r
theorem insT_mem (c x : List Nat) : ∀ l : List (List Nat), x ∈ insT c l ↔ x = c ∨ x ∈ l
  | [] => by simp [insT]
  | d :: r => by
    unfold insT
    split
    · simp
    · split
      · rename_i h; subst h; simp
      · have := insT_mem c x r; simp [this]; constructor
        · rintro (h | h | h) <;> simp [h]
        · rintro (h | h | h) <;> simp [h]
theorem insT_asc (c : List Nat) : ∀ l : List (List Nat), AscT l → AscT (insT c l)
  | [], _ => by simp [insT, AscT]
  | d :: r, h => by
    obtain ⟨h1, h2⟩ := List.pairwise_cons.mp h
    unfold insT
    split
    · rename_i hc
      refine List.pairwise_cons.mpr ⟨fun x hx => ?_, h⟩
      rcases List.mem_cons.mp hx with e | e
      · rw [e]; exact hc
      · exact ltL_trans _ _ _ hc (h1 x e)
    · split
      · exact h
      · rename_i hc hd
        refine List.pairwise_cons.mpr ⟨fun x hx => ?_, insT_asc c r h2⟩
        rcases (insT_mem c x r).mp hx with e | e
        · rw [e]
          rcases ltL_tri c d with k | k | k
          · exact absurd k hc
          · exact absurd k hd
          · exact k
        · exact h1 x e
def sortT (l : List (List Nat)) : List (List Nat) := l.foldr insT []
theorem sortT_mem (x : List Nat) : ∀ l : List (List Nat), x ∈ sortT l ↔ x ∈ l
  | [] => by simp [sortT]
  | c :: r => by
    show x ∈ insT c (sortT r) ↔ _
    rw [insT_mem, sortT_mem x r]; simp
theorem sortT_asc : ∀ l : List (List Nat), AscT (sortT l)
  | [] => .nil
  | c :: r => insT_asc c _ (sortT_asc r)
theorem sortT_eq {a l : List (List Nat)} (ha : AscT a) (h : ∀ x, x ∈ a ↔ x ∈ l) : a = sortT l := ascT_eq ha (sortT_asc l) fun x => (h x).trans (sortT_mem x l).symm
end K58
set_option Elab.async false
set_option linter.all false
set_option maxRecDepth 100000
set_option maxHeartbeats 1000000
/-! Comprehensions, by the items: a rule of one turn each. -/
namespace K58
open PySem PySem.Spec PyProof.Rows L2

/-- all but D stands -/
def Keep (D : Addr) (H H' : Hp) : Prop := ∀ b o, b ≠ D → H b = some o → H' b = some o
inductive F2 {β : Type} (R : β → V → Prop) : List β → List V → Prop
  | nil : F2 R [] []
  | cons {z : β} {y : V} {zs : List β} {ys : List V} (h : R z y) (t : F2 R zs ys) : F2 R (z :: zs) (y :: ys)
theorem F2.snoc {β : Type} {R : β → V → Prop} {zs : List β} {ys : List V} {z : β} {y : V} (h : F2 R zs ys) (r : R z y) : F2 R (zs ++ [z]) (ys ++ [y]) := by
  induction h with
  | nil => exact .cons r .nil
  | cons h1 _ ih => exact .cons h1 ih
theorem F2.mono {β : Type} {R R' : β → V → Prop} {zs : List β} {ys : List V} (h : F2 R zs ys) (k : ∀ z y, R z y → R' z y) : F2 R' zs ys := by
  induction h with
  | nil => exact .nil
  | cons h1 _ ih => exact .cons (k _ _ h1) ih
theorem F2.len {β : Type} {R : β → V → Prop} {zs : List β} {ys : List V} (h : F2 R zs ys) : ys.length = zs.length := by
  induction h with
  | nil => rfl
  | cons _ _ ih => simp [ih]
theorem F2.eq {β : Type} {vv : β → V} {zs : List β} {ys : List V} (h : F2 (fun z y => y = vv z) zs ys) : ys = zs.map vv := by
  induction h with
  | nil => rfl
  | cons h1 _ ih => rw [h1, ih]; rfl
theorem F2.app {β : Type} {R : β → V → Prop} {zs zs' : List β} {ys ys' : List V} (h : F2 R zs ys) (h' : F2 R zs' ys') : F2 R (zs ++ zs') (ys ++ ys') := by
  induction h with
  | nil => exact h'
  | cons h1 _ ih => exact .cons h1 ih
theorem F2.get {β : Type} {R : β → V → Prop} {zs : List β} {ys : List V} (h : F2 R zs ys) : ∀ {i : Nat} {y : V}, ys[i]? = some y → ∃ z, zs[i]? = some z ∧ R z y := by
  induction h with
  | nil => intro i y e; simp at e
  | cons h1 _ ih =>
    intro i y e
    cases i with
    | zero => simp at e; exact ⟨_, rfl, e ▸ h1⟩
    | succ i => simp at e; obtain ⟨z, a, b⟩ := ih e; exact ⟨z, by simpa using a, b⟩
theorem F2.to {β : Type} {R : β → V → Prop} {zs : List β} {ys : List V} (h : F2 R zs ys) : ∀ {i : Nat} {z : β}, zs[i]? = some z → ∃ y, ys[i]? = some y ∧ R z y := by
  induction h with
  | nil => intro i y e; simp at e
  | cons h1 _ ih =>
    intro i y e
    cases i with
    | zero => simp at e; exact ⟨_, rfl, e ▸ h1⟩
    | succ i => simp at e; obtain ⟨z, a, b⟩ := ih e; exact ⟨z, by simpa using a, b⟩
theorem F2.mapL {γ β : Type} {R : β → V → Prop} {f : γ → β} {zs : List γ} {ys : List V} (h : F2 (fun z y => R (f z) y) zs ys) : F2 R (zs.map f) ys := by
  induction h with
  | nil => exact .nil
  | cons h1 _ ih => exact .cons h1 ih
/-- what stands in a heap that grew but for D, which is new -/
theorem Ext.keep {H H' : Hp} (e : Ext H H') (D : Addr) : Keep D H H' := fun b o _ h => e.same b o h
theorem Ext.updNew {H0 H : Hp} {D : Addr} {o : HO} (e : Ext H0 H) (hn : H0 D = Option.none) (ho : plainHO o = true) : Ext H0 (upd H D o) := ⟨fun b u h => by
    rw [upd_ne fun z => by rw [z, hn] at h; cases h]; exact e.same b u h, fun b u h => by
    by_cases z : b = D
    · rw [z, upd_same] at h; cases h; exact .inr ho
    · rw [upd_ne z] at h; exact e.new b u h⟩
theorem keep_upd (H : Hp) (D : Addr) (o : HO) : Keep D H (upd H D o) := fun b u hb h => by rw [upd_ne hb]; exact h

variable {J : It} {n : Nat} {G : Hp → Prop} {Y : Nat → Hp → V → Hp → Prop}
theorem lcFm (w : Walk J n G Y) {α β : Type} (as : List α) (av : α → V) (f : α → Option β) (Rl : β → V → Hp → Prop) {g : TG} {tt : TT} {te : TE} {vs : List Nat} {σ : L2.St} {H1 : Hp} {D : Addr} {Qd : Hp → Prop}
    (hn : as.length = n) (hY : ∀ i H x H', i < n → Y i H x H' → H' = H ∧ ∃ a, as[i]? = some a ∧ x = av a) (hD : H1 D = none) (hRl : ∀ b y H H', Keep D H H' → Rl b y H → Rl b y H') (hG : ∀ H, Ext H1 H → G H) (hlen : as.length < sizeLine)
    (hs : ∀ a ∈ as, ∀ H, Ext H1 H → ∀ (R1 : V → Hp → Prop) (R0 : Hp → Prop), (∀ z y H4, f a = some z → Ext H H4 → Rl z y H4 → R1 y H4) → (∀ H3, f a = none → Ext H H3 → R0 H3) →
      g (av a) (wipe σ vs) H fun σ2 H2 => wipe σ2 vs = wipe σ vs ∧ tt σ2 H2 fun b H3 => if b = true then te σ2 H3 R1 else R0 H3)
    (hd : ∀ H ys, Ext H1 H → H D = some (.lst ys) → F2 (fun z y => Rl z y H) (as.filterMap f) ys → Qd H) :
    ∃ W : Nat → Nat → Hp → Prop, (∃ m, W 0 m (upd H1 D (.lst []))) ∧ ∀ i m H, W i m H →
      (J.stop i H ∧ Qd H) ∨ (J.go i H ∧ ∃ Nx : Hp → Prop, (∀ H', Nx H' → ∃ m', m' < m ∧ W (i + 1) m' H') ∧ ∀ x H', J.yld i H x H' → g x (wipe σ vs) H' fun σ2 H2 => wipe σ2 vs = wipe σ vs ∧ tt σ2 H2 fun b H3 =>
        if b = true then te σ2 H3 fun y H4 => ∃ acc, H4 D = some (.lst acc) ∧ acc.length < sizeLine ∧ Nx (upd H4 D (.lst (acc ++ [y]))) else Nx H3) := by
  refine lc_it w (fun i H => Ext H1 H ∧ ∃ ys, H D = some (.lst ys) ∧ F2 (fun z y => Rl z y H) ((as.take i).filterMap f) ys) ⟨(Ext.refl H1).updNew hD rfl, [], upd_same, .nil⟩ (fun i H _ p => hG H p.1) (fun i x H H' hi p y => ?_) (fun H ⟨e, ys, h1, h2⟩ => ?_)
  · obtain ⟨e, ys, h1, h2⟩ := p
    obtain ⟨rfl, a, ha, rfl⟩ := hY i H x H' hi y
    have ht : as.take (i + 1) = as.take i ++ [a] := by rw [List.take_succ, ha]; rfl
    refine hs a (List.mem_of_getElem? ha) _ e _ _ (fun z y H4 hz e4 r => ⟨ys, e4.same _ _ h1, ?_, (e.trans e4).updNew hD rfl, _, upd_same, ?_⟩) fun H3 z e3 => ⟨e.trans e3, ys, e3.same _ _ h1, ?_⟩
    · rw [h2.len]
      refine Nat.lt_of_le_of_lt (List.length_filterMap_le _ _) (Nat.lt_of_le_of_lt ?_ hlen)
      rw [List.length_take]; exact Nat.min_le_right _ _
    · rw [ht, List.filterMap_append]
      have e1 : List.filterMap f [a] = [z] := by simp [hz]
      rw [e1]
      refine F2.snoc (h2.mono fun z y r => hRl z y _ _ (fun b o hb h => (keep_upd H4 D _) b o hb (e4.same b o h)) r) (hRl _ _ _ _ (keep_upd H4 D _) r)
    · rw [ht, List.filterMap_append]
      have e1 : List.filterMap f [a] = [] := by simp [z]
      rw [e1, List.append_nil]
      exact h2.mono fun z y r => hRl z y _ _ (e3.keep D) r
  · refine hd H ys e h1 ?_
    rw [← hn, List.take_length] at h2
    exact h2
theorem lcFmX (w : Walk J n G Y) {α β : Type} (as : List α) (av : α → V → Hp → Prop) (f : α → Option β) (Rl : β → V → Hp → Prop) {g : TG} {tt : TT} {te : TE} {vs : List Nat} {σ : L2.St} {H1 : Hp} {D : Addr} {Qd : Hp → Prop}
    (hn : as.length = n) (hY : ∀ i H x H', i < n → Y i H x H' → Ext H H' ∧ ∃ a, as[i]? = some a ∧ av a x H') (hD : H1 D = none) (hRl : ∀ b y H H', Keep D H H' → Rl b y H → Rl b y H') (hG : ∀ H, Ext H1 H → G H) (hlen : as.length < sizeLine)
    (hs : ∀ a ∈ as, ∀ x H, Ext H1 H → av a x H → ∀ (R1 : V → Hp → Prop) (R0 : Hp → Prop), (∀ z y H4, f a = some z → Ext H H4 → Rl z y H4 → R1 y H4) → (∀ H3, f a = none → Ext H H3 → R0 H3) →
      g x (wipe σ vs) H fun σ2 H2 => wipe σ2 vs = wipe σ vs ∧ tt σ2 H2 fun b H3 => if b = true then te σ2 H3 R1 else R0 H3)
    (hd : ∀ H ys, Ext H1 H → H D = some (.lst ys) → F2 (fun z y => Rl z y H) (as.filterMap f) ys → Qd H) :
    ∃ W : Nat → Nat → Hp → Prop, (∃ m, W 0 m (upd H1 D (.lst []))) ∧ ∀ i m H, W i m H →
      (J.stop i H ∧ Qd H) ∨ (J.go i H ∧ ∃ Nx : Hp → Prop, (∀ H', Nx H' → ∃ m', m' < m ∧ W (i + 1) m' H') ∧ ∀ x H', J.yld i H x H' → g x (wipe σ vs) H' fun σ2 H2 => wipe σ2 vs = wipe σ vs ∧ tt σ2 H2 fun b H3 =>
        if b = true then te σ2 H3 fun y H4 => ∃ acc, H4 D = some (.lst acc) ∧ acc.length < sizeLine ∧ Nx (upd H4 D (.lst (acc ++ [y]))) else Nx H3) := by
  refine lc_it w (fun i H => Ext H1 H ∧ ∃ ys, H D = some (.lst ys) ∧ F2 (fun z y => Rl z y H) ((as.take i).filterMap f) ys) ⟨(Ext.refl H1).updNew hD rfl, [], upd_same, .nil⟩ (fun i H _ p => hG H p.1) (fun i x H H' hi p y => ?_) (fun H ⟨e, ys, h1, h2⟩ => ?_)
  · obtain ⟨e, ys, h1, h2⟩ := p
    obtain ⟨e0, a, ha, hav⟩ := hY i H x H' hi y
    have ht : as.take (i + 1) = as.take i ++ [a] := by rw [List.take_succ, ha]; rfl
    refine hs a (List.mem_of_getElem? ha) _ _ (e.trans e0) hav _ _ (fun z y H4 hz e4' r => have e4 := e0.trans e4'; ⟨ys, e4.same _ _ h1, ?_, (e.trans e4).updNew hD rfl, _, upd_same, ?_⟩) fun H3 z e3' => have e3 := e0.trans e3'; ⟨e.trans e3, ys, e3.same _ _ h1, ?_⟩
    · rw [h2.len]
      refine Nat.lt_of_le_of_lt (List.length_filterMap_le _ _) (Nat.lt_of_le_of_lt ?_ hlen)
      rw [List.length_take]; exact Nat.min_le_right _ _
    · rw [ht, List.filterMap_append]
      have e1 : List.filterMap f [a] = [z] := by simp [hz]
      rw [e1]
      refine F2.snoc (h2.mono fun z y r => hRl z y _ _ (fun b o hb h => (keep_upd H4 D _) b o hb (e4.same b o h)) r) (hRl _ _ _ _ (keep_upd H4 D _) r)
    · rw [ht, List.filterMap_append]
      have e1 : List.filterMap f [a] = [] := by simp [z]
      rw [e1, List.append_nil]
      exact h2.mono fun z y r => hRl z y _ _ (e3.keep D) r
  · refine hd H ys e h1 ?_
    rw [← hn, List.take_length] at h2
    exact h2
theorem Ext.tup {K : PySem.W.Frag} {H H' : Hp} (e : Ext H H') {a : Addr} {xs : List V} (h : SqT K H a xs) : SqT K H' a xs := h.imp (fun h => h.imp (e.same _ _) fun ⟨o, h⟩ => ⟨o, e.same _ _ h⟩) id
theorem lcLi {K : PySem.W.Frag} {a : Addr} {α β : Type} (as : List α) (av : α → V) (f : α → Option β) (Rl : β → V → Hp → Prop) {g : TG} {tt : TT} {te : TE} {vs : List Nat} {σ : L2.St} {H1 : Hp} {D : Addr} {Qd : Hp → Prop}
    (hq : SqL K H1 a (as.map av)) (hD : H1 D = none) (hRl : ∀ b y H H', Keep D H H' → Rl b y H → Rl b y H') (hlen : as.length < sizeLine)
    (hs : ∀ a ∈ as, ∀ H, Ext H1 H → ∀ (R1 : V → Hp → Prop) (R0 : Hp → Prop), (∀ z y H4, f a = some z → Ext H H4 → Rl z y H4 → R1 y H4) → (∀ H3, f a = none → Ext H H3 → R0 H3) →
      g (av a) (wipe σ vs) H fun σ2 H2 => wipe σ2 vs = wipe σ vs ∧ tt σ2 H2 fun b H3 => if b = true then te σ2 H3 R1 else R0 H3)
    (hd : ∀ H ys, Ext H1 H → H D = some (.lst ys) → F2 (fun z y => Rl z y H) (as.filterMap f) ys → Qd H) :
    ∃ W : Nat → Nat → Hp → Prop, (∃ m, W 0 m (upd H1 D (.lst []))) ∧ ∀ i m H, W i m H →
      ((Itl K a).stop i H ∧ Qd H) ∨ ((Itl K a).go i H ∧ ∃ Nx : Hp → Prop, (∀ H', Nx H' → ∃ m', m' < m ∧ W (i + 1) m' H') ∧ ∀ x H', (Itl K a).yld i H x H' → g x (wipe σ vs) H' fun σ2 H2 => wipe σ2 vs = wipe σ vs ∧ tt σ2 H2 fun b H3 =>
        if b = true then te σ2 H3 fun y H4 => ∃ acc, H4 D = some (.lst acc) ∧ acc.length < sizeLine ∧ Nx (upd H4 D (.lst (acc ++ [y]))) else Nx H3) :=
  lcFm (walk_list (xs := as.map av)) as av f Rl (by simp) (fun i H x H' hi y => ⟨y.1, by have h := y.2; rw [List.getElem?_map] at h; cases e : as[i]? with | none => rw [e] at h; cases h | some a => rw [e] at h; exact ⟨a, rfl, (Option.some.inj h).symm⟩⟩) hD hRl (fun H e => e.seq hq) hlen hs hd
theorem lcTu {K : PySem.W.Frag} {a : Addr} {α β : Type} (as : List α) (av : α → V) (f : α → Option β) (Rl : β → V → Hp → Prop) {g : TG} {tt : TT} {te : TE} {vs : List Nat} {σ : L2.St} {H1 : Hp} {D : Addr} {Qd : Hp → Prop}
    (hq : SqT K H1 a (as.map av)) (hD : H1 D = none) (hRl : ∀ b y H H', Keep D H H' → Rl b y H → Rl b y H') (hlen : as.length < sizeLine)
    (hs : ∀ a ∈ as, ∀ H, Ext H1 H → ∀ (R1 : V → Hp → Prop) (R0 : Hp → Prop), (∀ z y H4, f a = some z → Ext H H4 → Rl z y H4 → R1 y H4) → (∀ H3, f a = none → Ext H H3 → R0 H3) →
      g (av a) (wipe σ vs) H fun σ2 H2 => wipe σ2 vs = wipe σ vs ∧ tt σ2 H2 fun b H3 => if b = true then te σ2 H3 R1 else R0 H3)
    (hd : ∀ H ys, Ext H1 H → H D = some (.lst ys) → F2 (fun z y => Rl z y H) (as.filterMap f) ys → Qd H) :
    ∃ W : Nat → Nat → Hp → Prop, (∃ m, W 0 m (upd H1 D (.lst []))) ∧ ∀ i m H, W i m H →
      ((Itt K a).stop i H ∧ Qd H) ∨ ((Itt K a).go i H ∧ ∃ Nx : Hp → Prop, (∀ H', Nx H' → ∃ m', m' < m ∧ W (i + 1) m' H') ∧ ∀ x H', (Itt K a).yld i H x H' → g x (wipe σ vs) H' fun σ2 H2 => wipe σ2 vs = wipe σ vs ∧ tt σ2 H2 fun b H3 =>
        if b = true then te σ2 H3 fun y H4 => ∃ acc, H4 D = some (.lst acc) ∧ acc.length < sizeLine ∧ Nx (upd H4 D (.lst (acc ++ [y]))) else Nx H3) :=
  lcFm (walk_tup (xs := as.map av)) as av f Rl (by simp) (fun i H x H' hi y => ⟨y.1, by have h := y.2; rw [List.getElem?_map] at h; cases e : as[i]? with | none => rw [e] at h; cases h | some a => rw [e] at h; exact ⟨a, rfl, (Option.some.inj h).symm⟩⟩) hD hRl (fun H e => e.tup hq) hlen hs hd
theorem lcSt {l : List Nat} {β : Type} (f : Nat → Option β) (Rl : β → V → Hp → Prop) {g : TG} {tt : TT} {te : TE} {vs : List Nat} {σ : L2.St} {H1 : Hp} {D : Addr} {Qd : Hp → Prop}
     (hD : H1 D = none) (hRl : ∀ b y H H', Keep D H H' → Rl b y H → Rl b y H') (hlen : l.length < sizeLine)
    (hs : ∀ a ∈ l, ∀ H, Ext H1 H → ∀ (R1 : V → Hp → Prop) (R0 : Hp → Prop), (∀ z y H4, f a = some z → Ext H H4 → Rl z y H4 → R1 y H4) → (∀ H3, f a = none → Ext H H3 → R0 H3) →
      g (tx [a]) (wipe σ vs) H fun σ2 H2 => wipe σ2 vs = wipe σ vs ∧ tt σ2 H2 fun b H3 => if b = true then te σ2 H3 R1 else R0 H3)
    (hd : ∀ H ys, Ext H1 H → H D = some (.lst ys) → F2 (fun z y => Rl z y H) (l.filterMap f) ys → Qd H) :
    ∃ W : Nat → Nat → Hp → Prop, (∃ m, W 0 m (upd H1 D (.lst []))) ∧ ∀ i m H, W i m H →
      ((Its (S l)).stop i H ∧ Qd H) ∨ ((Its (S l)).go i H ∧ ∃ Nx : Hp → Prop, (∀ H', Nx H' → ∃ m', m' < m ∧ W (i + 1) m' H') ∧ ∀ x H', (Its (S l)).yld i H x H' → g x (wipe σ vs) H' fun σ2 H2 => wipe σ2 vs = wipe σ vs ∧ tt σ2 H2 fun b H3 =>
        if b = true then te σ2 H3 fun y H4 => ∃ acc, H4 D = some (.lst acc) ∧ acc.length < sizeLine ∧ Nx (upd H4 D (.lst (acc ++ [y]))) else Nx H3) :=
  lcFm (walk_str (z := S l)) l (fun c => tx [c]) f Rl rfl (fun i H x H' hi y => ⟨y.1, by obtain ⟨c, h, e⟩ := y.2; exact ⟨c, by rw [← h]; exact (Array.getElem?_toList ..).symm ▸ rfl, e⟩⟩) hD hRl (fun _ _ => trivial) hlen hs hd
theorem lcRg {n : Nat} {β : Type} (f : Nat → Option β) (Rl : β → V → Hp → Prop) {g : TG} {tt : TT} {te : TE} {vs : List Nat} {σ : L2.St} {H1 : Hp} {D : Addr} {Qd : Hp → Prop}
     (hD : H1 D = none) (hRl : ∀ b y H H', Keep D H H' → Rl b y H → Rl b y H') (hlen : n < sizeLine)
    (hs : ∀ a ∈ List.range n, ∀ H, Ext H1 H → ∀ (R1 : V → Hp → Prop) (R0 : Hp → Prop), (∀ z y H4, f a = some z → Ext H H4 → Rl z y H4 → R1 y H4) → (∀ H3, f a = none → Ext H H3 → R0 H3) →
      g (.int (a : Nat)) (wipe σ vs) H fun σ2 H2 => wipe σ2 vs = wipe σ vs ∧ tt σ2 H2 fun b H3 => if b = true then te σ2 H3 R1 else R0 H3)
    (hd : ∀ H ys, Ext H1 H → H D = some (.lst ys) → F2 (fun z y => Rl z y H) ((List.range n).filterMap f) ys → Qd H) :
    ∃ W : Nat → Nat → Hp → Prop, (∃ m, W 0 m (upd H1 D (.lst []))) ∧ ∀ i m H, W i m H →
      ((Itr 0 n).stop i H ∧ Qd H) ∨ ((Itr 0 n).go i H ∧ ∃ Nx : Hp → Prop, (∀ H', Nx H' → ∃ m', m' < m ∧ W (i + 1) m' H') ∧ ∀ x H', (Itr 0 n).yld i H x H' → g x (wipe σ vs) H' fun σ2 H2 => wipe σ2 vs = wipe σ vs ∧ tt σ2 H2 fun b H3 =>
        if b = true then te σ2 H3 fun y H4 => ∃ acc, H4 D = some (.lst acc) ∧ acc.length < sizeLine ∧ Nx (upd H4 D (.lst (acc ++ [y]))) else Nx H3) :=
  lcFm (walk_range (lo := 0) (n := n)) (List.range n) (fun c => .int (c : Nat)) f Rl (by simp) (fun i H x H' hi y => ⟨y.1, i, by simp [hi], by have := y.2; simpa using this⟩) hD hRl (fun _ _ => trivial) (by simpa using hlen) hs hd
end K58
set_option Elab.async false
set_option linter.all false
set_option maxRecDepth 100000
/-! What the program and the law reckon: rows within a lot, what lasts, what is reached, parts, the tree, the root. -/
namespace K58
def iter {α : Type} (f : α → α) : Nat → α → α
  | 0, x => x
  | n + 1, x => f (iter f n x)
theorem iter_in {α : Type} (f : α → α) : ∀ n x, iter f n (f x) = f (iter f n x)
  | 0, _ => rfl
  | n + 1, x => by show f (iter f n (f x)) = _; rw [iter_in f n x]; rfl
theorem iter_add {α : Type} (f : α → α) (m : Nat) : ∀ n x, iter f (m + n) x = iter f n (iter f m x)
  | 0, _ => rfl
  | n + 1, x => by show f (iter f (m + n) x) = _; rw [iter_add f m n x]; rfl
theorem iter_stay {α : Type} {f : α → α} {x : α} (h : f x = x) : ∀ n, iter f n x = x
  | 0 => rfl
  | n + 1 => by show f (iter f n x) = x; rw [iter_stay h n, h]
theorem iter_same {α : Type} {f : α → α} {x : α} {k n : Nat} (h1 : f (iter f k x) = iter f k x) (h2 : f (iter f n x) = iter f n x) : iter f k x = iter f n x := by
  rcases Nat.le_total k n with h | h
  · have := iter_add f k (n - k) x
    rw [iter_stay h1, Nat.add_sub_cancel' h] at this
    exact this.symm
  · have := iter_add f n (k - n) x
    rw [iter_stay h2, Nat.add_sub_cancel' h] at this
    exact this
theorem iter_fix {α : Type} {f : α → α} (μ : α → Nat) (I : α → Prop) (hI : ∀ x, I x → I (f x)) (hm : ∀ x, I x → f x = x ∨ μ (f x) < μ x) : ∀ (n : Nat) (x : α), I x → μ x ≤ n → f (iter f n x) = iter f n x
  | 0, x, i, h => by
    rcases hm x i with e | e
    · exact e
    · omega
  | n + 1, x, i, h => by
    rcases hm x i with e | e
    · rw [iter_stay e]; exact e
    · have := iter_fix μ I hI hm n (f x) (hI x i) (by omega)
      rw [iter_in] at this
      exact this
theorem iter_inv {α : Type} {f : α → α} (I : α → Prop) (hI : ∀ x, I x → I (f x)) : ∀ (n : Nat) (x : α), I x → I (iter f n x)
  | 0, _, h => h
  | n + 1, x, h => hI _ (iter_inv I hI n x h)

def hd (r : List Nat) : Nat := r.headD 0
def within (r lot : List Nat) : Bool := r.all fun c => decide (c ∈ lot)
def inn (rows : List (List Nat)) (lot : List Nat) : List (List Nat) := rows.filter fun r => within r lot
def nextL (rows : List (List Nat)) (lot : List Nat) : List Nat := lotL ((inn rows lot).map hd)
def lastL (rows : List (List Nat)) (lot : List Nat) : List Nat := iter (nextL rows) lot.length lot
theorem within_iff {r lot : List Nat} : within r lot = true ↔ ∀ c ∈ r, c ∈ lot := by simp [within]
/-- no row is empty -/
def NE (rows : List (List Nat)) : Prop := ∀ r ∈ rows, r ≠ []
theorem hd_mem {r : List Nat} (h : r ≠ []) : hd r ∈ r := by
  cases r with
  | nil => exact absurd rfl h
  | cons a r => exact List.mem_cons_self
theorem nextL_sub {rows : List (List Nat)} (ne : NE rows) {lot : List Nat} : ∀ x ∈ nextL rows lot, x ∈ lot := fun x hx => by
  obtain ⟨r, hr, e⟩ := List.mem_map.mp ((lotL_mem x _).mp hx)
  obtain ⟨h1, h2⟩ := List.mem_filter.mp hr
  rw [← e]
  exact within_iff.mp h2 _ (hd_mem (ne r h1))
theorem nextL_asc (rows : List (List Nat)) (lot : List Nat) : Asc (nextL rows lot) := lotL_asc _
theorem nextL_less {rows : List (List Nat)} (ne : NE rows) {lot : List Nat} (ha : Asc lot) : nextL rows lot = lot ∨ (nextL rows lot).length < lot.length := by
  rcases Nat.lt_or_ge (nextL rows lot).length lot.length with h | h
  · exact .inr h
  · refine .inl (asc_eq (nextL_asc _ _) ha fun x => ⟨nextL_sub ne x, fun hx => ?_⟩)
    exact (perm_of_sub (nextL rows lot) lot (nextL_asc _ _).nodup (nextL_sub ne) h).mem_iff.mpr hx
theorem lastL_fix {rows : List (List Nat)} (ne : NE rows) {lot : List Nat} (ha : Asc lot) : nextL rows (lastL rows lot) = lastL rows lot :=
  iter_fix (f := nextL rows) List.length Asc (fun x _ => nextL_asc _ _) (fun x h => nextL_less ne h) lot.length lot ha (Nat.le_refl _)
theorem lastL_of {rows : List (List Nat)} (ne : NE rows) {lot : List Nat} (ha : Asc lot) {k : Nat} (h : nextL rows (iter (nextL rows) k lot) = iter (nextL rows) k lot) : iter (nextL rows) k lot = lastL rows lot :=
  iter_same h (lastL_fix ne ha)
theorem lastL_asc {rows : List (List Nat)} {lot : List Nat} (ha : Asc lot) : Asc (lastL rows lot) := iter_inv Asc (fun x _ => nextL_asc _ _) _ _ ha
theorem lastL_sub {rows : List (List Nat)} (ne : NE rows) {lot : List Nat} : ∀ x ∈ lastL rows lot, x ∈ lot :=
  iter_inv (fun l => ∀ x ∈ l, x ∈ lot) (fun l h x hx => h x (nextL_sub ne x hx)) _ _ fun _ h => h

/-- where each label leads within a lot -/
def ar (rows : List (List Nat)) (lot : List Nat) (s : Nat) : List Nat := lotL (((inn rows lot).filter fun r => hd r == s).flatMap List.tail)
theorem ar_asc (rows : List (List Nat)) (lot : List Nat) (s : Nat) : Asc (ar rows lot s) := lotL_asc _
theorem ar_sub {rows : List (List Nat)} {lot : List Nat} {s : Nat} : ∀ x ∈ ar rows lot s, x ∈ lot := fun x hx => by
  obtain ⟨r, hr, e⟩ := List.mem_flatMap.mp ((lotL_mem x _).mp hx)
  obtain ⟨h1, _⟩ := List.mem_filter.mp hr
  exact within_iff.mp (List.mem_filter.mp h1).2 _ (List.mem_of_mem_tail e)
/-- arrows of a lot -/
structure Arr (a : Nat → List Nat) (lot : List Nat) : Prop where
  asc : ∀ s, Asc (a s)
  sub : ∀ s, ∀ x ∈ a s, x ∈ lot
  lot : Asc lot
theorem ar_arr (rows : List (List Nat)) {lot : List Nat} (h : Asc lot) : Arr (ar rows lot) lot := ⟨ar_asc rows lot, fun _ => ar_sub, h⟩
def growL (a : Nat → List Nat) (f : List Nat) : List Nat := lotL (f ++ f.flatMap a)
def far (a : Nat → List Nat) (lot : List Nat) (s : Nat) : List Nat := iter (growL a) lot.length (a s)
variable {a : Nat → List Nat} {lot : List Nat}
theorem growL_mem {f : List Nat} {x : Nat} : x ∈ growL a f ↔ x ∈ f ∨ ∃ y ∈ f, x ∈ a y := by
  rw [growL, lotL_mem, List.mem_append, List.mem_flatMap]
def Sub (f lot : List Nat) : Prop := ∀ x ∈ f, x ∈ lot
theorem growL_in (A : Arr a lot) {f : List Nat} (h : Asc f ∧ Sub f lot) : Asc (growL a f) ∧ Sub (growL a f) lot := ⟨lotL_asc _, fun x hx => by
  rcases growL_mem.mp hx with q | ⟨y, _, q⟩
  · exact h.2 x q
  · exact A.sub y x q⟩
theorem growL_more (A : Arr a lot) {f : List Nat} (h : Asc f ∧ Sub f lot) : growL a f = f ∨ lot.length - (growL a f).length < lot.length - f.length := by
  have h1 : f.length ≤ (growL a f).length := asc_len h.1 fun x hx => growL_mem.mpr (.inl hx)
  have h2 := asc_len (growL_in A h).1 (growL_in A h).2
  rcases Nat.lt_or_ge f.length (growL a f).length with c | c
  · right; omega
  · left
    refine (asc_eq h.1 (growL_in A h).1 fun x => ⟨fun hx => growL_mem.mpr (.inl hx), fun hx => ?_⟩).symm
    exact (perm_of_sub f (growL a f) h.1.nodup (fun x hx => growL_mem.mpr (.inl hx)) c).mem_iff.mpr hx
theorem far_in (A : Arr a lot) (s : Nat) : Asc (far a lot s) ∧ Sub (far a lot s) lot := iter_inv (fun f => Asc f ∧ Sub f lot) (fun _ h => growL_in A h) _ _ ⟨A.asc s, A.sub s⟩
theorem far_fix (A : Arr a lot) (s : Nat) : growL a (far a lot s) = far a lot s :=
  iter_fix (f := growL a) (fun f => lot.length - f.length) (fun f => Asc f ∧ Sub f lot) (fun _ h => growL_in A h) (fun _ h => growL_more A h) lot.length (a s) ⟨A.asc s, A.sub s⟩ (Nat.sub_le _ _)
theorem far_of (A : Arr a lot) {s k : Nat} (h : growL a (iter (growL a) k (a s)) = iter (growL a) k (a s)) : iter (growL a) k (a s) = far a lot s := iter_same h (far_fix A s)
theorem far_first (s : Nat) : ∀ x ∈ a s, x ∈ far a lot s := fun x hx => iter_inv (fun f => x ∈ f) (fun f h => growL_mem.mpr (.inl h)) _ _ hx
theorem far_step (A : Arr a lot) {s x : Nat} (h : x ∈ far a lot s) : ∀ y ∈ a x, y ∈ far a lot s := fun y hy => by
  rw [← far_fix A s]; exact growL_mem.mpr (.inr ⟨x, h, hy⟩)
theorem far_least {s : Nat} {P : Nat → Prop} (h1 : ∀ x ∈ a s, P x) (h2 : ∀ x, P x → ∀ y ∈ a x, P y) : ∀ x ∈ far a lot s, P x :=
  iter_inv (fun f => ∀ x ∈ f, P x) (fun f h x hx => by
    rcases growL_mem.mp hx with q | ⟨y, hy, q⟩
    · exact h x q
    · exact h2 y (h y hy) x q) _ _ h1
theorem far_trans (A : Arr a lot) {s x y : Nat} (h1 : x ∈ far a lot s) (h2 : y ∈ far a lot x) : y ∈ far a lot s :=
  far_least (P := fun z => z ∈ far a lot s) (far_step A h1) (fun z hz => far_step A hz) y h2
def part (a : Nat → List Nat) (lot : List Nat) (s : Nat) : List Nat := (far a lot s).filter fun x => decide (s ∈ far a lot x)
theorem part_mem {s x : Nat} : x ∈ part a lot s ↔ x ∈ far a lot s ∧ s ∈ far a lot x := by simp [part]
theorem part_self (A : Arr a lot) {s x : Nat} (h : x ∈ part a lot s) : s ∈ part a lot s := by
  obtain ⟨h1, h2⟩ := part_mem.mp h
  have := far_trans A h1 h2
  exact part_mem.mpr ⟨this, this⟩
theorem part_asc (A : Arr a lot) (s : Nat) : Asc (part a lot s) := (far_in A s).1.filter _
theorem part_sub (A : Arr a lot) (s : Nat) : Sub (part a lot s) lot := fun x hx => (far_in A s).2 x (part_mem.mp hx).1
theorem part_eq (A : Arr a lot) {s x : Nat} (h : x ∈ part a lot s) : part a lot x = part a lot s := by
  obtain ⟨h1, h2⟩ := part_mem.mp h
  refine asc_eq (part_asc A x) (part_asc A s) fun y => ?_
  rw [part_mem, part_mem]
  exact ⟨fun ⟨p, q⟩ => ⟨far_trans A h1 p, far_trans A q h2⟩, fun ⟨p, q⟩ => ⟨far_trans A h2 p, far_trans A q h1⟩⟩
def partsL (a : Nat → List Nat) (lot : List Nat) : List (List Nat) := sortT ((lot.map (part a lot)).filter fun p => p ≠ [])
theorem partsL_mem (A : Arr a lot) {p : List Nat} : p ∈ partsL a lot ↔ ∃ s ∈ lot, s ∈ part a lot s ∧ p = part a lot s := by
  rw [partsL, sortT_mem, List.mem_filter, List.mem_map]
  constructor
  · rintro ⟨⟨s, hs, e⟩, hn⟩
    subst e
    refine ⟨s, hs, ?_, rfl⟩
    cases e : part a lot s with
    | nil => rw [e] at hn; simp at hn
    | cons x r => rw [← e]; exact part_self A (x := x) (by rw [e]; exact List.mem_cons_self)
  · rintro ⟨s, hs, h, e⟩
    refine ⟨⟨s, hs, e.symm⟩, ?_⟩
    rw [e]
    simp
    intro z; rw [z] at h; cases h
theorem partsL_asc : AscT (partsL a lot) := sortT_asc _
/-- steps within a part -/
def stepL (a : Nat → List Nat) (bag now : List Nat) : List Nat := bag.filter fun s => decide (s ∈ now.flatMap a)
def looseL (a : Nat → List Nat) (p : List Nat) : Bool := p.all fun s => iter (stepL a p) ((p.length - 1) ^ 2 + 1) [s] == p
def looseParts (rows : List (List Nat)) (L : List Nat) : List (List Nat) := (partsL (ar rows L) L).filter (looseL (ar rows L))
def endless (rows : List (List Nat)) (L : List Nat) : Bool := decide (L ∈ looseParts rows L)
def pairsL (rows : List (List Nat)) (L : List Nat) : List (List Nat × List Nat) := (looseParts rows L).map fun p => (p, lastL rows p)
def kids (rows : List (List Nat)) (L : List Nat) : List (List Nat × List Nat) := (pairsL rows L).filter fun p => decide (p.2 ≠ [])
def isLeaf (rows : List (List Nat)) (L : List Nat) : Bool := (kids rows L).isEmpty || endless rows L
def leavesF (rows : List (List Nat)) : Nat → Nat → List Nat → List (Nat × List Nat)
  | 0, _, _ => []
  | f + 1, n, L => if isLeaf rows L = true then [(n, L)] else (kids rows L).flatMap fun p => leavesF rows f (n + 1) p.2
def labs (rows : List (List Nat)) : List Nat := lotL rows.flatten
def firstL (rows : List (List Nat)) : List Nat := lastL rows (labs rows)
def leaves (rows : List (List Nat)) : List (Nat × List Nat) := if firstL rows = [] then [] else leavesF rows ((firstL rows).length + 1) 1 (firstL rows)
def maxN (l : List Nat) : Nat := l.foldr max 0
def rootL (rows : List (List Nat)) : Option Nat := if (leaves rows).any (fun q => endless rows q.2) = true then none else some (maxN ((leaves rows).map (·.1)))
end K58
set_option Elab.async false
set_option linter.all false
set_option maxRecDepth 100000
set_option maxHeartbeats 1000000
/-! The program's small defs. -/
namespace K58
open PySem PySem.Spec PyProof.Rows L2
def letters : List Nat := [97, 98, 99, 100, 101, 102, 103, 104, 105, 106, 107, 108, 109, 110, 111, 112, 113, 114, 115, 116, 117, 118, 119, 120, 121, 122]
theorem letters_eq : ("abcdefghijklmnopqrstuvwxyz" : Str) = S letters := by rfl
theorem pe_LETTERS {X : Cx} {pos : Pos} (T : Top X.K X.mg) (hg : Gl X "LETTERS" := by rfl) : PE X (.Name "LETTERS" pos) (tC (tx letters)) := by
  obtain ⟨t, h⟩ := T.letters
  exact pe_glob hg h ⟨t, by rw [letters_eq]⟩
theorem pe_MANIES {X : Cx} {pos : Pos} (T : Top X.K X.mg) (hg : Gl X "MANIES" := by rfl) : PE X (.Name "MANIES" pos) (tC (.ref (He.ga X.K "MANIES"))) := pe_glob hg T.manies rfl
theorem pe_cls {X : Cx} {x : Str} {pos : Pos} {n : String} (hg : Gl X x) (hm : X.mg x = none) (hv : bootBuiltins x = some (.type n)) (hn : x ≠ "__name__" := by decide) (hd : (x == ("__debug__" : Str)) = false := by decide) : PE X (.Name x pos) (tC (.ty n)) := pe_bltn hg hm hv rfl hn hd
theorem tyes' {A B : Hp → Prop} {σ : L2.St} {H : Hp} (h : A H) : tYes σ H fun b H3 => if b = true then A H3 else B H3 := by show (if true = true then A H else B H); rw [if_pos rfl]; exact h
abbrev sp1 (f : V → Hp → VK → Prop) : Sp := fun vs H Q _ => ∃ v, vs = [v] ∧ f v H Q
section
variable {P : Program} {w : World} {K : PySem.W.Frag} {mg : Str → Option Value} {base : Heap}
theorem sc_P_is_integer : FnScope ["thing"] ["thing"] (defScope sP_is_integer) := ⟨rfl, rfl, rfl, by decide +kernel, rfl, by decide +kernel, by decide +kernel⟩
def sp_is_integer : Sp := fun vs H Q _ => ∃ i, vs = [.int i] ∧ Q (.bl true) H
theorem h_is_integer (T : Top K mg) : Has P w K mg base "is_integer" 1 ["thing"] sp_is_integer := by
  have nd := sc_P_is_integer.nd
  refine has_of T dP_is_integer (by simp [fn, fn0, fn1, fn2, fn3]) rfl (by decide +kernel) rfl sc_P_is_integer (fun vs H Q E ⟨i, e, _⟩ => by rw [e]; rfl) (fun _ _ _ _ _ _ us hl => match us, hl with | [_], _ => rfl) (fun cdv A outer s H vs Q E hr h => ?_)
  obtain ⟨i, rfl, q⟩ := h
  refine ⟨_, (pss_one (ps_ret (pe_and (pe_callB call_isi (by rfl) (T.free _ (by decide +kernel)) (by decide +kernel) (pa_cons (pv 0) (pa_cons (pe_cls (n := "int") (by rfl) (T.free _ (by decide +kernel)) (by decide +kernel)) pa_nil))) (pe_one (pe_not (pe_callB call_isi (by rfl) (T.free _ (by decide +kernel)) (by decide +kernel) (pa_cons (pv 0) (pa_cons (pe_cls (n := "bool") (by rfl) (T.free _ (by decide +kernel)) (by decide +kernel)) pa_nil)))))))), ?_⟩
  refine ⟨.int i, rfl, .int i, .ty "int", _, _, true, rfl, .ty _, .base (.int i), kit_ty (by decide +kernel), true, rfl, ?_⟩
  exact ⟨.int i, rfl, .int i, .ty "bool", _, _, false, rfl, .ty _, .base (.int i), kit_ty (by decide +kernel), false, rfl, q⟩
theorem sc_P_is_number : FnScope ["thing"] ["thing"] (defScope sP_is_number) := ⟨rfl, rfl, rfl, by decide +kernel, rfl, by decide +kernel, by decide +kernel⟩
def sp_is_number : Sp := fun vs H Q _ => ∃ i : Int, vs = [.int i] ∧ 0 ≤ i ∧ Q (.bl true) H
theorem h_is_number (T : Top K mg) : Has P w K mg base "is_number" 2 ["thing"] sp_is_number := by
  have nd := sc_P_is_number.nd
  have h_is_integer := h_is_integer (P := P) (w := w) (base := base) T
  refine has_of T dP_is_number (by simp [fn, fn0, fn1, fn2, fn3]) rfl (by decide +kernel) rfl sc_P_is_number (fun vs H Q E ⟨i, e, _⟩ => by rw [e]; rfl) (fun _ _ _ _ _ _ us hl => match us, hl with | [_], _ => rfl) (fun cdv A outer s H vs Q E hr h => ?_)
  obtain ⟨i, rfl, h0, q⟩ := h
  refine ⟨_, (pss_one (ps_ret (pe_and (pe_has h_is_integer (hr.mono (by omega)) (by rfl) (pa_cons (pv 0) pa_nil)) (pe_one (pe_cmpR op_ge (pv 0) pe_int (nomark _)))))), ?_⟩
  refine ⟨.int i, rfl, i, rfl, true, rfl, ?_⟩
  refine ⟨.int i, rfl, i, 0, rfl, rfl, ?_⟩
  show Q (.bl (decide (0 ≤ i))) H
  rw [decide_eq_true h0]; exact q
theorem sc_P_is_many : FnScope ["thing"] ["thing"] (defScope sP_is_many) := ⟨rfl, rfl, rfl, by decide +kernel, rfl, by decide +kernel, by decide +kernel⟩
def sp_is_many : Sp := fun vs H Q _ => ∃ i : Int, vs = [.int i] ∧ (i = 2 ∨ i = 3) ∧ Q (.bl true) H
theorem h_is_many (T : Top K mg) : Has P w K mg base "is_many" 2 ["thing"] sp_is_many := by
  have nd := sc_P_is_many.nd
  have h_is_integer := h_is_integer (P := P) (w := w) (base := base) T
  refine has_of T dP_is_many (by simp [fn, fn0, fn1, fn2, fn3]) rfl (by decide +kernel) rfl sc_P_is_many (fun vs H Q E ⟨i, e, _⟩ => by rw [e]; rfl) (fun _ _ _ _ _ _ us hl => match us, hl with | [_], _ => rfl) (fun cdv A outer s H vs Q E hr h => ?_)
  obtain ⟨i, rfl, h0, q⟩ := h
  refine ⟨_, (pss_one (ps_ret (pe_and (pe_has h_is_integer (hr.mono (by omega)) (by rfl) (pa_cons (pv 0) pa_nil)) (pe_one (pe_cmpR op_in_seq (pv 0) (pe_MANIES T) rfl))))), ?_⟩
  refine ⟨.int i, rfl, i, rfl, true, rfl, ?_⟩
  refine ⟨.int i, rfl, _, _, rfl, .inr (T.many2 H), rfl, rfl, ?_⟩
  rcases h0 with e | e <;> subst e <;> exact q
theorem sc_P_are_labels : FnScope ["thing", "sign"] ["thing"] (defScope sP_are_labels) := ⟨rfl, rfl, rfl, by decide +kernel, rfl, by decide +kernel, by decide +kernel⟩
/-- a text of labels -/
def Low (l : List Nat) : Prop := ∀ c ∈ l, c ∈ letters
def sp_are_labels : Sp := fun vs H Q _ => ∃ l, vs = [tx l] ∧ Low l ∧ l.length ≤ 1000 ∧ ∀ H', Ext H H' → Q (.bl true) H'
theorem h_are_labels (T : Top K mg) : Has P w K mg base "are_labels" 1 ["thing"] sp_are_labels := by
  have nd := sc_P_are_labels.nd
  refine has_of T dP_are_labels (by simp [fn, fn0, fn1, fn2, fn3]) rfl (by decide +kernel) rfl sc_P_are_labels (fun vs H Q E ⟨l, e, _⟩ => by rw [e]; rfl) (fun _ _ _ _ _ _ us hl => match us, hl with | [_], _ => rfl) (fun cdv A outer s H vs Q E hr h => ?_)
  obtain ⟨l, rfl, hl, hn, q⟩ := h
  refine ⟨_, (pss_one (ps_ret (pe_and (pe_callB call_isi (by rfl) (T.free _ (by decide +kernel)) (by decide +kernel) (pa_cons (pv 0) (pa_cons (pe_cls (n := "str") (by rfl) (T.free _ (by decide +kernel)) (by decide +kernel)) pa_nil))) (pe_one (pe_callB (cr_all rfl) (by rfl) (T.free _ (by decide +kernel)) (by decide +kernel) (pa_cons (pe_lc (own := [("sign", 1)]) (g := (gName 1)) (tt := tYes) rfl nd (pi_str (pv 0)) (blkOk_by (by kernel_rfl)) (fun _ _ _ _ _ => (pg_name (i := 1) nd rfl (Or.inl rfl))) (fun _ _ _ _ _ => pts_nil) (fun _ _ _ _ _ => (pe_cmpR op_in_sign (pv 1) (pe_LETTERS T) rfl))) pa_nil)))))), ?_⟩
  refine ⟨tx l, rfl, tx l, .ty "str", _, _, true, rfl, .ty _, .base (.str _), kit_ty (by decide +kernel), true, rfl, ?_⟩
  refine ⟨tx l, rfl, S l, rfl, fun D hD => lcSt (fun _ => some true) (fun b y _ => y = .bl b) hD (fun _ _ _ _ _ h => h) (Nat.lt_of_le_of_lt hn (by decide)) (fun c hc H1 e1 R1 R0 k1 k0 => ⟨rfl, tyes' ?_⟩) fun H1 ys e1 hDy f2 => ?_⟩
  · refine ⟨tx [c], rfl, c, S letters, rfl, rfl, k1 true _ H1 rfl (Ext.refl _) ?_⟩
    rw [S_cps, decide_eq_true (hl c hc)]
  · refine ⟨_, _, rfl, .inl (.inl (by rw [hDy, f2.eq])), ?_⟩
    have e : (List.filterMap (fun _ => some true) l).all id = true := by simp
    rw [e]
    exact q H1 e1
end
end K58
set_option Elab.async false
set_option linter.all false
set_option maxRecDepth 100000
set_option maxHeartbeats 1000000
/-! enumerate over a tuple; zip over two texts. -/
namespace K58
open PySem PySem.Spec PyProof.Rows L2
theorem meets_enum1 {v : Value} {o : Obj} {H : Heap → Prop} (B : Begins v o H) :
    Meets (Builtin.«enumerate.__new__» ⟨[.type "enumerate", v], []⟩) (fun _ R s => H s.heap ∧
      R (.ok (.ret (.ref (s.heap.push o).objs.size))) { s with heap := (s.heap.push o).push { cls := .type "enumerate", data := .fields #[.none, .bool false, .ref s.heap.objs.size, rawInt 0, .none, .none] } }) :=
  .of_wp fun prog w A R s h => by
    obtain ⟨hp, g, d, tk, os⟩ := s; obtain ⟨h1, h⟩ := h
    have hsub := sub_enumerate
    have q1 : ∀ {A' : Around} {E : Value → Shared → Prop} {Q : Value → Shared → Prop}, Q (.ref hp.objs.size) ⟨hp.push o, g, d, tk, os⟩ → wpAny (model prog w) A' (pyIter v) Q E ⟨hp, g, d, tk, os⟩ :=
      fun q => B.iter prog w _ _ ⟨hp, g, d, tk, os⟩ _ h1 q
    wp_walk using q1
    refine wpAny_stack_any fun st => wpAny_pure ?_
    split
    · rename_i c _ _ _ _ _
      cases (c == Value.type "enumerate")
      · wp_walk using q1
        exact ⟨_, rfl, h⟩
      · wp_walk using q1
        exact ⟨_, rfl, h⟩
    · wp_walk using q1
      exact ⟨_, rfl, h⟩
section
variable {prog : Program} {w : World} {A : Around} {E : Value → Shared → Prop} {s : Shared}
theorem enum1_begins {v : Value} {o : Obj} {H : Heap → Prop} {Q : Value → Shared → Prop} (B : Begins v o H) (h1 : H s.heap)
    (h : ∀ h', IsEnum h' (s.heap.objs.size + 1) s.heap.objs.size 0 .none → h'.get? s.heap.objs.size = some o → h'.objs.size = s.heap.objs.size + 2 →
      (∀ b o, s.heap.get? b = some o → h'.get? b = some o) → Q (.ref (s.heap.objs.size + 1)) { s with heap := h' }) :
    wpAny (model prog w) A (call (.type "enumerate") [v]) Q E s := by
  refine callType_new PySem.F.called_enumerate (by decide) (PySem.F.typeCall_enumerate_1 _) (PySem.F.newCall_enumerate_1 _) (fun obj => PySem.F.args_object_init_2 obj _) PySem.F.entry_enumerate_new
    (meets_enum1 B) ⟨h1, ?_⟩
  have hz : (s.heap.push o).objs.size = s.heap.objs.size + 1 := Heap.size_push ..
  show _ ∧ _
  rw [hz]
  have he : IsEnum ((s.heap.push o).push { cls := .type "enumerate", data := .fields #[.none, .bool false, .ref s.heap.objs.size, rawInt 0, .none, .none] }) (s.heap.objs.size + 1) s.heap.objs.size 0 .none := by
    have := Heap.get?_push_size (s.heap.push o) (o := { cls := .type "enumerate", data := .fields #[.none, .bool false, .ref s.heap.objs.size, rawInt 0, .none, .none] }) rfl
    rw [hz] at this; exact this
  exact ⟨⟨_, he, rfl⟩, h _ he (Heap.get?_push_of_some _ (Heap.get?_push_size _ B.free)) (by rw [Heap.size_push, hz]) fun b o x => Heap.get?_push_of_some _ (Heap.get?_push_of_some _ x)⟩
end
/-- the tuple at a, each item in a new pair -/
def IteT (K : PySem.W.Frag) (a : Addr) : It :=
  ⟨fun i H => ∃ (xs : List V) (x : V), SqT K H a xs ∧ xs[i]? = some x, fun i H v H' => ∃ T x, v = .ref T ∧ H T = none ∧ H' = upd H T (.tup [.int (i : Nat), x]) ∧ ∀ xs, SqT K H a xs → xs[i]? = some x, fun i H => ∃ xs : List V, SqT K H a xs ∧ xs.length = i⟩
theorem turn_enumT {P : Program} {w : World} {K : PySem.W.Frag} {elts : List Expr} {kk : Nat} {tpos : Pos} (a e it : Addr) :
    Turn P w K (.Tuple elts kk tpos) (IteT K a) [e, it] e (fun i h => (∃ old, IsEnum h e it ((i : Nat) : Int) old) ∧ h.IsTupleIter it a i ∧ e ≠ it) where
  mem := by simp
  obj := fun i h st b hb => by
    obtain ⟨⟨old, he⟩, ⟨o, ho, hc, hd⟩, _⟩ := st
    have e' : b = e ∨ b = it := by simpa using hb
    rcases e' with z | z
    · rw [z]; exact ⟨_, he, fun v q => nomatch q⟩
    · rw [z]; exact ⟨o, ho, fun v q => by rw [hd] at q; cases q⟩
  keep := fun i h h' st k => let ⟨⟨old, he⟩, hi, hne⟩ := st; ⟨⟨old, k e (by simp) _ he⟩, hi.at fun o q => k it (by simp) o q, hne⟩
  item := by
    intro X hP hw hK hc i pins s σ H E I hf st hg
    subst hP hw hK
    obtain ⟨⟨old, he⟩, hit, hne⟩ := st
    obtain ⟨xs, x, hq, hx⟩ := hg
    obtain ⟨its, rv, p, hz⟩ := I.tuple hq
    obtain ⟨u, hu, ru⟩ := rv.get hx
    have hel : e < s.heap.objs.size := Heap.lt_size he
    have hil : it < s.heap.objs.size := by obtain ⟨_, q, _⟩ := hit; exact Heap.lt_size q
    obtain ⟨ot, hot, hct, _⟩ := id p
    have hae : e ≠ a := fun z => by rw [← z, he] at hot; cases hot; injection hct with q; exact absurd q (by decide)
    have hai : a ≠ it := fun z => by obtain ⟨oi, hoi, hci, _⟩ := id hit; rw [z, hoi] at hot; cases hot; rw [hci] at hct; injection hct with q; exact absurd q (by decide)
    have D := Draws.tuple (prog := X.prog) (w := X.w) (A := X.A.in1) (I.ok.hd hc) it a hai its.toArray
    have hlt : i < its.toArray.size := by
      have := (List.getElem?_eq_some_iff.mp hu).1
      simpa using this
    refine wpAny_pyNext_enum_itemD D he ⟨hit, p⟩ hlt hne (by simp [hae, hne]) fun u2 h' tk hP ho st' hT hsz hk => ?_
    have eu : u2 = u := by
      have h1 : its.toArray[i]? = some u2 := hP
      have h2 : its.toArray[i]? = some u := by simpa using hu
      rw [h1] at h2; exact Option.some.inj h2
    subst eu
    refine ⟨_, rfl, wpAny_letOwnedTupleGo_enum (s := { s with heap := h', toks := tk + 1 }) ho fun h'' he' sb => ?_⟩
    have hT2 : h''.get? s.heap.objs.size = some { cls := .type "tuple", data := .seq #[.int i tk, u2] } := (sb.2 _ (Nat.ne_of_gt hel)).trans hT
    have new : ObjOk X.prog X.w (upd H s.heap.objs.size (.tup [.int (i : Nat), x])) h'' s.heap.objs.size (.tup [.int (i : Nat), x]) :=
      ⟨by show 2 ≤ sizeLine; decide, [.int i tk, u2], .cons ⟨_, rfl⟩ (.cons ru .nil), ⟨_, hT2, rfl, _, rfl⟩⟩
    have I1 : Inv X pins σ (upd H s.heap.objs.size (.tup [.int (i : Nat), x])) { s with heap := h'', toks := tk + 1 } :=
      I.turnedNew (ch := [e, it]) (fun b ob hb q => (sb.2 b (fun z => hb (by simp [z]))).trans (hk b ob (fun z => hb (by simp [z])) (fun z => hb (by simp [z])) q)) hf (Nat.le_refl _) new
    refine ⟨.ref s.heap.objs.size, _, I1, rfl, ⟨_, x, rfl, I.hok.fresh (Nat.le_refl _), rfl, fun ys hy => by rw [I.tuple_inj hy hq]; exact hx⟩, ⟨⟨u2, ?_⟩, st'.1.at fun o q => (sb.2 it (Ne.symm hne)).trans q, hne⟩, fun b hb => ?_⟩
    · have e1 : ((i + 1 : Nat) : Int) = (i : Int) + 1 := by omega
      rw [e1]; exact he'
    · have hb' : b < s.heap.objs.size := by
        have e' : b = e ∨ b = it := by simpa using hb
        rcases e' with z | z
        · rw [z]; exact hel
        · rw [z]; exact hil
      rw [upd_ne (Nat.ne_of_lt hb')]
      exact (hf b hb).1
  done := by
    intro X hP hw hK hc i pins s σ H E I hf st hg
    subst hP hw hK
    obtain ⟨⟨old, he⟩, hit, hne⟩ := st
    obtain ⟨xs, hq, hx⟩ := hg
    obtain ⟨its, rv, p, hz⟩ := I.tuple hq
    obtain ⟨f0, f1, f2, f3, f4, f5⟩ := hf it (by simp)
    have hl := rv.length
    obtain ⟨ot, hot, hct, _⟩ := id p
    have hai : a ≠ it := fun z => by obtain ⟨oi, hoi, hci, _⟩ := id hit; rw [z, hoi] at hot; cases hot; rw [hci] at hct; injection hct with q; exact absurd q (by decide)
    have D := Draws.tuple (prog := X.prog) (w := X.w) (A := X.A.in1) (I.ok.hd hc) it a hai its.toArray
    have hn : its.toArray.size = i := by simp; omega
    refine wpAny_pyNext_enum_endD D he (by rw [hn]; exact ⟨hit, p⟩) fun h' eb => ⟨rfl, I.turned (t' := s.toks) (fun b o hb q => eb b o hb q) f0 f1 f3 f4 f5⟩
  self := fun A i s Q E st h => let ⟨⟨_, he⟩, _⟩ := st; wpAny_pyIter_enum he h
def iEnumT (K : PySem.W.Frag) (ta : TA) : TI := fun σ H R => ta σ H fun vs H1 => ∃ a xs, vs = [.ref a] ∧ SqT K H1 a xs ∧ R (IteT K a) H1
theorem pi_enumT {X : Cx} {e : Expr} {ta : TA} {p pos tpos : Pos} {elts : List Expr} {kk : Nat} (hg : Gl X "enumerate") (hm : X.mg "enumerate" = none) (ha : PA X [e] ta) (hs : starEach [e] X.env = [(false, eval e X.env)] := by rfl) :
    PI X (.Tuple elts kk tpos) (.Call (.Name "enumerate" p) [e] [] pos) (iEnumT X.K ta) := by
  refine ⟨fun pins s σ H R I h => ?_⟩
  refine Call_ (ld_blt I hg hm boot_enumerate (PyProof.Rows.callWith_type1 (thn (ha.run pos pins s σ H _ I h) fun us s1 ⟨vs, H1, I1, r1, q1⟩ => ?_) hs rfl))
  obtain ⟨a, xs, ex, hq, q⟩ := q1
  subst ex
  cases r1 with
  | cons r rr =>
    cases rr
    cases r
    obtain ⟨its, rv, p', hz⟩ := I1.tuple hq
    refine enum1_begins (begins_tuple a its.toArray) p' fun h' he hit hsz hk => wpAny_pyIter_enum he ?_
    have I2 : Inv X pins σ H1 { s1 with heap := h' } := I1.kept (t' := s1.toks) hk
    refine ⟨s1.heap.objs.size + 1, [s1.heap.objs.size + 1, s1.heap.objs.size], _, _, H1, rfl, I2, turn_enumT a (s1.heap.objs.size + 1) s1.heap.objs.size, ⟨⟨.none, he⟩, ⟨_, hit, rfl, rfl⟩, Nat.succ_ne_self _⟩, fun b hb => ?_, q⟩
    have e' : b = s1.heap.objs.size + 1 ∨ b = s1.heap.objs.size := by simpa using hb
    have hle : s1.heap.objs.size ≤ b := by
      rcases e' with z | z
      · rw [z]; exact Nat.le_add_right _ _
      · rw [z]; exact Nat.le_refl _
    exact I1.fpOk hle (I1.hok.fresh hle)
theorem walk_enumT {K : PySem.W.Frag} {a : Addr} {xs : List V} : Walk (IteT K a) xs.length (fun H => SqT K H a xs) (YPair (fun i => some (.int (i : Nat))) (fun i => xs[i]?)) := by
  refine ⟨fun i _ hi q => ⟨xs, xs[i], q, by simp [hi]⟩, fun _ q => ⟨xs, q, rfl⟩, fun i H v H' _ q y => ?_⟩
  obtain ⟨T, x, h1, h2, h3, h4⟩ := y
  exact ⟨T, .int (i : Nat), x, h1, h2, h3, rfl, h4 xs q⟩
/-! ### zip of two texts -/
def ItzS (x y : Str) : It :=
  ⟨fun i _ => i < min x.cps.size y.cps.size, fun i H v H' => ∃ T c d, v = .ref T ∧ H T = none ∧ H' = upd H T (.tup [.str ⟨#[c]⟩, .str ⟨#[d]⟩]) ∧ x.cps[i]? = some c ∧ y.cps[i]? = some d, fun i _ => i = min x.cps.size y.cps.size⟩
theorem turn_zipS {P : Program} {w : World} {K : PySem.W.Frag} {elts : List Expr} {kk : Nat} {tpos : Pos} {x y : Str} {t t2 : Tok} {z TI TO i1 i2 : Addr} (S : ZipSep2 z TI TO i1 i2 [i1] [i2]) :
    Turn P w K (.Tuple elts kk tpos) (ItzS x y) [z, TI, TO, i1, i2] z (fun i h => IsZip h z TI TO .none ∧ IsTupOf2 h TI (.ref i1) (.ref i2) ∧ (∃ a b, IsTupOf2 h TO a b) ∧ h.IsStrIter i1 (strIterType x) x t i ∧ h.IsStrIter i2 (strIterType y) y t2 i) where
  mem := by simp
  obj := fun i h st c hc => by
    obtain ⟨hz, hTI, ⟨a, b, hTO⟩, ⟨o1, e1, _, d1⟩, ⟨o2, e2, _, d2⟩⟩ := st
    have e' : c = z ∨ c = TI ∨ c = TO ∨ c = i1 ∨ c = i2 := by simpa using hc
    rcases e' with q | q | q | q | q
    · rw [q]; exact ⟨_, hz, fun v q => nomatch q⟩
    · rw [q]; exact ⟨_, hTI, fun v q => nomatch q⟩
    · rw [q]; exact ⟨_, hTO, fun v q => nomatch q⟩
    · rw [q]; exact ⟨o1, e1, fun v q => by rw [d1] at q; cases q⟩
    · rw [q]; exact ⟨o2, e2, fun v q => by rw [d2] at q; cases q⟩
  keep := fun i h h' st k => by
    obtain ⟨hz, hTI, ⟨a, b, hTO⟩, h1, h2⟩ := st
    exact ⟨k z (by simp) _ hz, k TI (by simp) _ hTI, ⟨a, b, k TO (by simp) _ hTO⟩, let ⟨o, ho, r⟩ := h1; ⟨o, k i1 (by simp) o ho, r⟩, let ⟨o, ho, r⟩ := h2; ⟨o, k i2 (by simp) o ho, r⟩⟩
  item := by
    intro X hP hw hK hc i pins s σ H E I hf st hg
    subst hP hw hK
    obtain ⟨hz, hTI, ⟨a0, b0, hTO⟩, h1, h2⟩ := st
    have hg : i < min x.cps.size y.cps.size := hg
    have hzl : z < s.heap.objs.size := Heap.lt_size hz
    have D1 := Draws.text (prog := X.prog) (w := X.w) (A := X.A.in1) (I.ok.hd hc) i1 x t
    have D2 := Draws.text (prog := X.prog) (w := X.w) (A := X.A.in1) (I.ok.hd hc) i2 y t2
    refine wpAny_pyNext_zipD2_item S D1 D2 hz hTI hTO h1 h2 (Nat.lt_of_lt_of_le hg (Nat.min_le_left _ _)) (Nat.lt_of_lt_of_le hg (Nat.min_le_right _ _)) fun u u2 h' tk p1 p2 z' TO' h1' h2' hT hsz hk => ?_
    obtain ⟨c, t3, hcx, rfl⟩ := p1
    obtain ⟨d, t4, hdy, rfl⟩ := p2
    refine ⟨_, rfl, wpAny_letOwnedTupleGo_zip (s := { s with heap := h', toks := tk }) z' fun h'' z'' sb => ?_⟩
    have hT2 : h''.get? s.heap.objs.size = some { cls := .type "tuple", data := .seq #[.str ⟨#[c]⟩ t3, .str ⟨#[d]⟩ t4] } := (sb.2 _ (Nat.ne_of_gt hzl)).trans hT
    have new : ObjOk X.prog X.w (upd H s.heap.objs.size (.tup [.str ⟨#[c]⟩, .str ⟨#[d]⟩])) h'' s.heap.objs.size (.tup [.str ⟨#[c]⟩, .str ⟨#[d]⟩]) :=
      ⟨by show 2 ≤ sizeLine; decide, [.str ⟨#[c]⟩ t3, .str ⟨#[d]⟩ t4], .cons ⟨_, rfl⟩ (.cons ⟨_, rfl⟩ .nil), ⟨_, hT2, rfl, _, rfl⟩⟩
    have I1 : Inv X pins σ (upd H s.heap.objs.size (.tup [.str ⟨#[c]⟩, .str ⟨#[d]⟩])) { s with heap := h'', toks := tk } :=
      I.turnedNew (ch := [z, TI, TO, i1, i2]) (fun c o hb q => (sb.2 c (fun q' => hb (by simp [q']))).trans (hk c o (fun q' => hb (by simp [q'])) (fun q' => hb (by simp [q'])) (fun q' => hb (by simp [q'])) (fun q' => hb (by simp [q'])) q)) hf (Nat.le_refl _) new
    refine ⟨.ref s.heap.objs.size, _, I1, rfl, ⟨_, c, d, rfl, I.hok.fresh (Nat.le_refl _), rfl, hcx, hdy⟩, ⟨z'', ?_, ⟨.str ⟨#[c]⟩ t3, .str ⟨#[d]⟩ t4, ?_⟩, ?_, ?_⟩, fun c hcm => ?_⟩
    · exact (sb.2 _ S.TIz).trans (hk _ _ S.TIz S.TITO S.TIi1 S.TIi2 hTI)
    · exact (sb.2 _ S.TOz).trans TO'
    · let ⟨o, ho, r⟩ := h1'; exact ⟨o, (sb.2 _ S.zi1.symm).trans ho, r⟩
    · let ⟨o, ho, r⟩ := h2'; exact ⟨o, (sb.2 _ S.zi2.symm).trans ho, r⟩
    · have hlt : c < s.heap.objs.size := by
        have e' : c = z ∨ c = TI ∨ c = TO ∨ c = i1 ∨ c = i2 := by simpa using hcm
        rcases e' with q | q | q | q | q
        · rw [q]; exact hzl
        · rw [q]; exact Heap.lt_size hTI
        · rw [q]; exact Heap.lt_size hTO
        · rw [q]; obtain ⟨_, e1, _⟩ := h1; exact Heap.lt_size e1
        · rw [q]; obtain ⟨_, e2, _⟩ := h2; exact Heap.lt_size e2
      rw [upd_ne (Nat.ne_of_lt hlt)]
      exact (hf c hcm).1
  done := by
    intro X hP hw hK hc i pins s σ H E I hf st hg
    subst hP hw hK
    obtain ⟨hz, hTI, ⟨a0, b0, hTO⟩, h1, h2⟩ := st
    have hg : i = min x.cps.size y.cps.size := hg
    have D1 := Draws.text (prog := X.prog) (w := X.w) (A := X.A.in1) (I.ok.hd hc) i1 x t
    have D2 := Draws.text (prog := X.prog) (w := X.w) (A := X.A.in1) (I.ok.hd hc) i2 y t2
    exact wpAny_pyNext_zipD2_end S D1 D2 hz hTI hTO h1 h2 (by omega) (by omega) (by omega) fun h' tk hk => ⟨rfl, I.turnedL (ch := [z, TI, TO, i1, i2]) (fun c o hb q =>
      hk c o (fun q' => hb (by simp [q'])) (fun q' => hb (by simp [q'])) (fun q' => hb (by simp [q'])) (fun q' => hb (by simp [q'])) q) hf⟩
  self := fun A i s Q E st h => wpAny_pyIter_zip st.1 h
def iZipS (ta : TA) : TI := fun σ H R => ta σ H fun vs H1 => ∃ x y, vs = [.str x, .str y] ∧ R (ItzS x y) H1
theorem pi_zipS {X : Cx} {e e2 : Expr} {ta : TA} {p pos tpos : Pos} {elts : List Expr} {kk : Nat} (hg : Gl X "zip") (hm : X.mg "zip" = none) (ha : PA X [e, e2] ta)
    (hs : starEach [e, e2] X.env = (false, eval e X.env) :: starEach [e2] X.env := by rfl) (hpl : (backTo pos (starEach [e2] X.env)).any (·.1) = false := by rfl) :
    PI X (.Tuple elts kk tpos) (.Call (.Name "zip" p) [e, e2] [] pos) (iZipS ta) := by
  refine ⟨fun pins s σ H R I h => ?_⟩
  refine Call_ (ld_blt I hg hm PyProof.Rows.boot_zip (PyProof.Rows.callWith_type1 (thn (ha.run pos pins s σ H _ I h) fun us s1 ⟨vs, H1, I1, r1, q1⟩ => ?_) hs hpl))
  obtain ⟨x, y, ex, q⟩ := q1
  subst ex
  cases r1 with
  | cons r rr =>
    cases rr with
    | cons r' rr =>
      cases rr
      obtain ⟨t, rfl⟩ := r
      obtain ⟨t2, rfl⟩ := r'
      refine zip_begins2 (begins_text x t) (begins_text y t2) trivial trivial fun h' hz hTI hTO h1 h2 hsz hk => wpAny_pyIter_zip hz ?_
      have I2 : Inv X pins σ H1 { s1 with heap := h' } := I1.kept (t' := s1.toks) hk
      refine ⟨s1.heap.objs.size + 4, [s1.heap.objs.size + 4, s1.heap.objs.size + 2, s1.heap.objs.size + 3, s1.heap.objs.size, s1.heap.objs.size + 1], _, _, H1, rfl, I2, turn_zipS (zip_sep2 (fp1 := []) (fp2 := []) (by simp) (by simp)), ⟨hz, hTI, ⟨_, _, hTO⟩, ⟨_, h1, rfl, rfl⟩, ⟨_, h2, rfl, rfl⟩⟩, fun c hcm => ?_, q⟩
      have e' : c = s1.heap.objs.size + 4 ∨ c = s1.heap.objs.size + 2 ∨ c = s1.heap.objs.size + 3 ∨ c = s1.heap.objs.size ∨ c = s1.heap.objs.size + 1 := by simpa using hcm
      have hle : s1.heap.objs.size ≤ c := by
        rcases e' with z | z | z | z | z
        · rw [z]; exact Nat.le_add_right _ _
        · rw [z]; exact Nat.le_add_right _ _
        · rw [z]; exact Nat.le_add_right _ _
        · rw [z]; exact Nat.le_refl _
        · rw [z]; exact Nat.le_add_right _ _
      exact I1.fpOk hle (I1.hok.fresh hle)
theorem walk_zipS {x y : Str} : Walk (ItzS x y) (min x.cps.size y.cps.size) (fun _ => True) (fun i H v H' => ∃ T c d, v = .ref T ∧ H T = none ∧ H' = upd H T (.tup [.str ⟨#[c]⟩, .str ⟨#[d]⟩]) ∧ x.cps[i]? = some c ∧ y.cps[i]? = some d) :=
  ⟨fun _ _ hi _ => hi, fun _ _ => rfl, fun _ _ _ _ _ _ y => y⟩
end K58
set_option Elab.async false
set_option linter.all false
set_option maxRecDepth 100000
set_option maxHeartbeats 1000000
/-! Lots, rows, tables: the program's checks. -/
namespace K58
open PySem PySem.Spec PyProof.Rows L2
theorem sIx_k (n k : Nat) : HT.sIx n 0 (some (k : Int)) = min k n := HT.sIx_nat n 0 k
theorem drop_min {α : Type} (l : List α) (k : Nat) : (l.drop (min k l.length)).take (l.length - min k l.length) = l.drop k := by
  rcases Nat.le_total k l.length with h | h
  · rw [Nat.min_eq_left h]
    exact List.take_of_length_le (by rw [List.length_drop]; exact Nat.le_refl _)
  · rw [Nat.min_eq_right h, List.drop_of_length_le h]; simp
theorem cut_drop (l : List Nat) (k : Nat) : cutS (S l) (some (k : Int)) none = S (l.drop k) := by
  unfold cutS
  rw [sIx_k]
  show (⟨((l.drop (min k l.length)).take (l.length - min k l.length)).toArray⟩ : Str) = _
  rw [drop_min]; rfl
theorem zip_tail {R : Nat → Nat → Prop} : ∀ l : List Nat, l.Pairwise R → ∀ p ∈ l.zip (l.drop 1), R p.1 p.2
  | [], _, p, h => by simp at h
  | [a], _, p, h => by simp at h
  | a :: b :: r, hp, p, h => by
    obtain ⟨h1, h2⟩ := List.pairwise_cons.mp hp
    have h : p ∈ (a, b) :: (b :: r).zip ((b :: r).drop 1) := h
    rcases List.mem_cons.mp h with e | e
    · rw [e]; exact h1 b List.mem_cons_self
    · exact zip_tail (b :: r) h2 p e
/-- the pairs of two texts, as a zip gives them -/
def PairS (p : Nat × Nat) (x : V) (H : Hp) : Prop := ∃ T, x = .ref T ∧ H T = some (.tup [tx [p.1], tx [p.2]])
theorem zipS_Y {l r : List Nat} : ∀ i (H : Hp) (x : V) (H' : Hp), i < min l.length r.length → (∃ T c d, x = .ref T ∧ H T = none ∧ H' = upd H T (.tup [.str ⟨#[c]⟩, .str ⟨#[d]⟩]) ∧ (S l).cps[i]? = some c ∧ (S r).cps[i]? = some d) →
    Ext H H' ∧ ∃ p, (l.zip r)[i]? = some p ∧ PairS p x H' := by
  rintro i H x H' hi ⟨T, c, d, rfl, hn, rfl, hc, hd⟩
  refine ⟨.add hn rfl, (c, d), ?_, T, rfl, upd_same⟩
  have e1 : l[i]? = some c := by rw [← hc]; exact (Array.getElem?_toList ..)
  have e2 : r[i]? = some d := by rw [← hd]; exact (Array.getElem?_toList ..)
  rw [List.getElem?_zip_eq_some]
  exact ⟨e1, e2⟩
theorem lcZipS {l r : List Nat} {g : TG} {te : TE} {vs : List Nat} {σ : L2.St} {H1 : Hp} {D : Addr} {Qd : Hp → Prop} (hD : H1 D = none) (hlen : l.length < sizeLine)
    (hs : ∀ p ∈ l.zip r, ∀ x H, Ext H1 H → PairS p x H → ∀ (R1 : V → Hp → Prop), (∀ H4, Ext H H4 → R1 (.bl true) H4) → g x (wipe σ vs) H fun σ2 H2 => wipe σ2 vs = wipe σ vs ∧ te σ2 H2 R1)
    (hd : ∀ H, Ext H1 H → H D = some (.lst (((l.zip r).map fun _ => true).map V.bl)) → Qd H)
    (hg : ∀ x σ H (P P' : L2.St → Hp → Prop), (∀ a b, P a b → P' a b) → g x σ H P → g x σ H P') :
    ∃ W : Nat → Nat → Hp → Prop, (∃ m, W 0 m (upd H1 D (.lst []))) ∧ ∀ i m H, W i m H →
      ((ItzS (S l) (S r)).stop i H ∧ Qd H) ∨ ((ItzS (S l) (S r)).go i H ∧ ∃ Nx : Hp → Prop, (∀ H', Nx H' → ∃ m', m' < m ∧ W (i + 1) m' H') ∧ ∀ x H', (ItzS (S l) (S r)).yld i H x H' → g x (wipe σ vs) H' fun σ2 H2 => wipe σ2 vs = wipe σ vs ∧ tYes σ2 H2 fun b H3 =>
        if b = true then te σ2 H3 fun y H4 => ∃ acc, H4 D = some (.lst acc) ∧ acc.length < sizeLine ∧ Nx (upd H4 D (.lst (acc ++ [y]))) else Nx H3) :=
  lcFmX (walk_zipS (x := S l) (y := S r)) (l.zip r) PairS (fun _ => some true) (fun b y _ => y = .bl b) (by simp [S]) (zipS_Y) hD (fun _ _ _ _ _ h => h) (fun _ _ => trivial)
    (by rw [List.length_zip]; exact Nat.lt_of_le_of_lt (Nat.min_le_left _ _) hlen)
    (fun p hp x H e hx R1 R0 k1 k0 => hg _ _ _ _ _ (fun σ2 H2 ⟨hw, q⟩ => ⟨hw, tyes' q⟩) (hs p hp x H e hx R1 fun H4 e4 => k1 true _ H4 rfl e4 rfl))
    fun H ys e h1 h2 => hd H e (by rw [h1, h2.eq]; simp)
/-- a def with defaults -/
structure HasD (P : Program) (w : World) (K : PySem.W.Frag) (mg : Str → Option Value) (base : Heap) (x : Str) (k : Nat) (ps : List Str) (dvs : List V) (sp : Sp) : Prop where
  ex : ∃ fd ds, FnOk P w K mg base CX0 k (He.ga K x) fd ps sp ∧ Vals dvs ds ∧ Binds K fd ps ds
  kp : PySem.W.keepIn K (.ref (He.ga K x)) = true
  at_ : mg x = some (.ref (He.ga K x))
def tCallD (sp : Sp) (dvs : List V) (t : TA) : TE := fun σ H Q => t σ H fun vs H1 => sp (vs ++ dvs) H1 Q E0
theorem pe_hasD {X : Cx} {x : Str} {k : Nat} {ps : List Str} {dvs : List V} {sp : Sp} {p pos : Pos} {e : Expr} {es : List Expr} {t : TA} (h : HasD X.prog X.w X.K X.mg X.base x k ps dvs sp) (hr : Room k X.A) (hg : Gl X x) (ha : PA X (e :: es) t)
    (hdb : (x == ("__debug__" : Str)) = false := by decide) (he : starEach (e :: es) X.env = (false, eval e X.env) :: starEach es X.env := by rfl) (hpl : (backTo pos (starEach es X.env)).any (·.1) = false := by rfl) :
    PE X (.Call (.Name x p) (e :: es) [] pos) (tCallD sp dvs t) := by
  obtain ⟨fd, ds, F, V1, b⟩ := h.ex
  exact pe_call F hr hg h.at_ h.kp b V1 pass0 ha hdb he hpl
theorem has_ofD {P : Program} {w : World} {K : PySem.W.Frag} {mg : Str → Option Value} {base : Heap} {N ps : List Str} {k : Nat} {sp : Sp} (T : Top K mg) (d : He.DefD) {x : Str} (hd : d ∈ fn) (hx : d.at_ = (x, none)) (hn : x ∈ gnames) (hdf : d.dvs K ≠ []) (S : FnScope N ps d.scope)
    (len : ∀ vs H Q E, sp vs H Q E → vs.length = ps.length) (n : Nat) (hps : n + ((d.dvs K).length - 0) = ps.length)
    (hb : ∀ (T : Addr) (kV doc pm : Value) (an : Option Addr) (cdv ct : Value) (us its : List Value), us.length = n → its.length = (d.dvs K).length →
      ∃ k, bindArgs (PySem.W.fnOf d.name d.qual d.params d.body d.scope (.ref T) kV doc pm an cdv ct) ⟨us, []⟩ = seqItems? (.ref T) >>= k ∧ k (some its.toArray) = pure (ps.zip (us ++ its.drop 0)))
    (hbody : ∀ (cdv : Value) (A : Around) (outer : List Env) (s : Shared) (H : Hp) (vs : List V) (Q : VK) (E : XK), Room k (A.deeper (envOfC d.qual d.scope s.heap.objs.size (He.ga K x) cdv)) → sp vs H Q E →
      ∃ t, PSs (cxOf CX0 P w K mg base N d.qual d.scope (He.ga K x) cdv A outer s H E).nox d.body t ∧ t { nx := fun _ H' => Q .non H', rt := Q } (L2.start N vs) H) : HasD P w K mg base x (k + 1) ps (d.dvs K) sp := by
  obtain ⟨fd, F⟩ := T.fn d hd
  have ea : He.fAd K d.at_ = He.ga K x := by rw [hx] <;> rfl
  rw [ea] at F
  obtain ⟨ds, h1, h2⟩ := F.binds1 n 0 hdf hps hb
  exact ⟨⟨fd, ds, F.ok S len (fun cdv A outer s H vs Q E hr h => (let ⟨t, h1, h2⟩ := hbody cdv A outer s H vs Q E hr h; ⟨t, h1.nox, h2⟩)), h1, h2⟩, F.kp, T.glo x hn⟩
section
variable {P : Program} {w : World} {K : PySem.W.Frag} {mg : Str → Option Value} {base : Heap}
theorem sc_P_is_lot : FnScope ["thing", "one", "other"] ["thing"] (defScope sP_is_lot) := ⟨rfl, rfl, rfl, by decide +kernel, rfl, by decide +kernel, by decide +kernel⟩
def sp_is_lot : Sp := fun vs H Q _ => ∃ l, vs = [tx l] ∧ Low l ∧ Asc l ∧ l.length ≤ 1000 ∧ ∀ H', Ext H H' → Q (.bl true) H'
theorem h_is_lot (T : Top K mg) : Has P w K mg base "is_lot" 2 ["thing"] sp_is_lot := by
  have nd := sc_P_is_lot.nd
  have h_are_labels := h_are_labels (P := P) (w := w) (base := base) T
  refine has_of T dP_is_lot (by simp [fn, fn0, fn1, fn2, fn3]) rfl (by decide +kernel) rfl sc_P_is_lot (fun vs H Q E ⟨l, e, _⟩ => by rw [e]; rfl) (fun _ _ _ _ _ _ us hl => match us, hl with | [_], _ => rfl) (fun cdv A outer s H vs Q E hr h => ?_)
  obtain ⟨l, rfl, hl, ha, hn, q⟩ := h
  -- cells: []; slots {'thing': 0, 'one': 1, 'other': 2}
  refine ⟨_, (pss_one (ps_ret (pe_and (pe_has h_are_labels (hr.mono (by omega)) (by rfl) (pa_cons (pv 0) pa_nil)) (pe_one (pe_callB (cr_all rfl) (by rfl) (T.free _ (by decide +kernel)) (by decide +kernel) (pa_cons (pe_lc (own := [("one", 1), ("other", 2)]) (g := (gTup K 2 (gCons (gName 1) (gCons (gName 2) gNil)))) (tt := tYes) rfl nd (pi_zipS (by rfl) (T.free _ (by decide +kernel)) (pa_cons (pv 0) (pa_cons (pe_slice sl_str (pv 0) (po_some pe_int) po_none) pa_nil))) (blkOk_by (by kernel_rfl)) (fun _ _ _ _ _ => (pg_tup (by rfl) (pgs_cons (pg_name (i := 1) nd rfl (Or.inl rfl)) (pgs_cons (pg_name (i := 2) nd rfl (Or.inl rfl)) pgs_nil)))) (fun _ _ _ _ _ => pts_nil) (fun _ _ _ _ _ => (pe_cmpR op_lt_str (pv 1) (pv 2) (nomark _)))) pa_nil)))))), ?_⟩
  refine ⟨tx l, rfl, l, rfl, hl, hn, fun H1 e1 => ⟨true, rfl, ?_⟩⟩
  refine ⟨tx l, rfl, tx l, rfl, 1, rfl, S l, rfl, Nat.le_trans hn (by decide), S l, S (l.drop 1), ?_, fun D hD => lcZipS hD (Nat.lt_of_le_of_lt hn (by decide)) (fun p hp x H2 e2 ⟨T', ex, hT⟩ R1 k1 => ?_) (fun H2 e2 h2 => ?_) ?_⟩
  · rw [show (1 : Int) = ((1 : Nat) : Int) from rfl, cut_drop]
  · subst ex
    refine ⟨T', _, rfl, .inl (.inl hT), rfl, _, _, rfl, _, _, rfl, rfl, rfl, ?_⟩
    refine ⟨_, rfl, _, rfl, S [p.1], S [p.2], rfl, rfl, ?_⟩
    have h1 : p.1 < p.2 := zip_tail l ha p hp
    have h3 : decide ((S [p.1]).cps.toList < (S [p.2]).cps.toList) = true := by
      rw [S_cps, S_cps, ← ltL_iff]; simp [ltL, h1]
    rw [h3]
    exact k1 _ (Ext.refl _)
  · refine ⟨_, _, rfl, .inl (.inl h2), ?_⟩
    have e : ((l.zip (l.drop 1)).map fun _ => true).all id = true := by simp
    rw [e]
    exact q H2 (e1.trans e2)
  · rintro x σ H P P' hP ⟨a, xs, h1, h2, h3, x1, r1, h4, x2, r2, h5, h6, h7⟩
    exact ⟨a, xs, h1, h2, h3, x1, r1, h4, x2, r2, h5, h6, hP _ _ h7⟩
/-- rows of a table -/
structure Rows (many : Nat) (rows : List (List Nat)) : Prop where
  mny : many = 2 ∨ many = 3
  ne : rows ≠ []
  len : rows.length ≤ 6
  row : ∀ r ∈ rows, r.length = many + 1 ∧ Low r ∧ (r.drop 1).Pairwise (· ≤ ·)
  asc : AscT rows
  few : (labs rows).length ≤ 4
/-- a table as a value -/
def TabV (K : PySem.W.Frag) (H : Hp) (v : V) (many : Nat) (rows : List (List Nat)) : Prop := ∃ t rt, v = .ref t ∧ SqT K H t [.int many, .ref rt] ∧ SqT K H rt (rows.map tx)
theorem TabV.ext {K : PySem.W.Frag} {H H' : Hp} (e : Ext H H') {v : V} {many : Nat} {rows : List (List Nat)} (h : TabV K H v many rows) : TabV K H' v many rows := by
  obtain ⟨t, rt, h1, h2, h3⟩ := h
  exact ⟨t, rt, h1, e.tup h2, e.tup h3⟩
theorem sc_P_is_row : FnScope ["many", "thing", "one", "other"] ["many", "thing"] (defScope sP_is_row) := ⟨rfl, rfl, rfl, by decide +kernel, rfl, by decide +kernel, by decide +kernel⟩
def sp_is_row : Sp := fun vs H Q _ => ∃ (m : Nat) (l : List Nat), vs = [.int m, tx l] ∧ (m = 2 ∨ m = 3) ∧ Low l ∧ l.length = m + 1 ∧ (l.drop 1).Pairwise (· ≤ ·) ∧ ∀ H', Ext H H' → Q (.bl true) H'
theorem h_is_row (T : Top K mg) : Has P w K mg base "is_row" 3 ["many", "thing"] sp_is_row := by
  have nd := sc_P_is_row.nd
  have h_is_many := h_is_many (P := P) (w := w) (base := base) T
  have h_are_labels := h_are_labels (P := P) (w := w) (base := base) T
  refine has_of T dP_is_row (by simp [fn, fn0, fn1, fn2, fn3]) rfl (by decide +kernel) rfl sc_P_is_row (fun vs H Q E ⟨m, l, e, _⟩ => by rw [e]; rfl) (fun _ _ _ _ _ _ us hl => match us, hl with | [_, _], _ => rfl) (fun cdv A outer s H vs Q E hr h => ?_)
  obtain ⟨m, l, rfl, hm, hl, hlen, ha, q⟩ := h
  -- cells: []; slots {'many': 0, 'thing': 1, 'one': 2, 'other': 3}
  refine ⟨_, (pss_cons (ps_if (PW.pt (pw_or (pt_not (pt_val (pe_has h_is_many (hr.mono (by omega)) (by rfl) (pa_cons (pv 0) pa_nil)))) (pw_or (pt_not (pt_val (pe_has h_are_labels (hr.mono (by omega)) (by rfl) (pa_cons (pv 1) pa_nil)))) (pw_or1 (pt_cmpR op_ne (pe_callB call_len_str (by rfl) (T.free _ (by decide +kernel)) (by decide +kernel) (pa_cons (pv 1) pa_nil)) (pe_op op_add (pv 0) pe_int) (nomark _)))))) (pss_one (ps_ret pe_bl)) pss_nil)
      (pss_one (ps_ret (pe_callB (cr_all rfl) (by rfl) (T.free _ (by decide +kernel)) (by decide +kernel) (pa_cons (pe_lc (own := [("one", 2), ("other", 3)]) (g := (gTup K 2 (gCons (gName 2) (gCons (gName 3) gNil)))) (tt := tYes) rfl nd (pi_zipS (by rfl) (T.free _ (by decide +kernel)) (pa_cons (pe_slice sl_str (pv 1) (po_some pe_int) po_none) (pa_cons (pe_slice sl_str (pv 1) (po_some pe_int) po_none) pa_nil))) (blkOk_by (by kernel_rfl)) (fun _ _ _ _ _ => (pg_tup (by rfl) (pgs_cons (pg_name (i := 2) nd rfl (Or.inl rfl)) (pgs_cons (pg_name (i := 3) nd rfl (Or.inl rfl)) pgs_nil)))) (fun _ _ _ _ _ => pts_nil) (fun _ _ _ _ _ => (pe_cmpR op_le_str (pv 2) (pv 3) (nomark _)))) pa_nil))))), ?_⟩
  have hn : l.length ≤ 1000 := by omega
  refine ⟨.int m, rfl, m, rfl, by omega, true, rfl, iteF ?_⟩
  refine ⟨tx l, rfl, l, rfl, hl, hn, fun H1 e1 => ⟨true, rfl, iteF ?_⟩⟩
  refine ⟨tx l, rfl, S l, rfl, Nat.le_trans hn (by decide), .int m, rfl, m, 1, rfl, rfl, rfl, _, rfl, ?_⟩
  have e0 : (!decide (V.int ((S l).length : Nat) = V.int ((m : Int) + 1))) = false := by
    rw [S_len, hlen]; simp
  rw [e0]
  refine iteF ?_
  refine ⟨tx l, rfl, 1, rfl, S l, rfl, Nat.le_trans hn (by decide), ?_⟩
  refine ⟨tx l, rfl, 2, rfl, S l, rfl, Nat.le_trans hn (by decide), S (l.drop 1), S ((l.drop 1).drop 1), ?_, fun D hD => lcZipS hD (Nat.lt_of_le_of_lt (Nat.le_trans (by simp) hn) (by decide)) (fun p hp x H2 e2 ⟨T', ex, hT⟩ R1 k1 => ?_) (fun H2 e2 h2 => ?_) ?_⟩
  · rw [show (1 : Int) = ((1 : Nat) : Int) from rfl, cut_drop, show (2 : Int) = ((2 : Nat) : Int) from rfl, cut_drop, List.drop_drop]
  · subst ex
    refine ⟨T', _, rfl, .inl (.inl hT), rfl, _, _, rfl, _, _, rfl, rfl, rfl, ?_⟩
    refine ⟨_, rfl, _, rfl, S [p.1], S [p.2], rfl, rfl, ?_⟩
    have h1 : p.1 ≤ p.2 := zip_tail (l.drop 1) ha p hp
    have h3 : (!decide ((S [p.2]).cps.toList < (S [p.1]).cps.toList)) = true := by
      rw [S_cps, S_cps, ← ltL_iff]; simp [ltL, h1]
    rw [h3]
    exact k1 _ (Ext.refl _)
  · refine ⟨_, _, rfl, .inl (.inl h2), ?_⟩
    have e : (((l.drop 1).zip ((l.drop 1).drop 1)).map fun _ => true).all id = true := by simp
    rw [e]
    exact q H2 (e1.trans e2)
  · rintro x σ H P P' hP ⟨a, xs, h1, h2, h3, x1, r1, h4, x2, r2, h5, h6, h7⟩
    exact ⟨a, xs, h1, h2, h3, x1, r1, h4, x2, r2, h5, h6, hP _ _ h7⟩
theorem sc_P_table_fault : FnScope ["thing", "many", "rows", "k", "row"] ["thing"] (defScope sP_table_fault) := ⟨rfl, rfl, rfl, by decide +kernel, rfl, by decide +kernel, by decide +kernel⟩
def sp_table_fault (K : PySem.W.Frag) : Sp := fun vs H Q _ => ∃ (v : V) (m : Nat) (rows : List (List Nat)), vs = [v] ∧ TabV K H v m rows ∧ Rows m rows ∧ ∀ H', Ext H H' → Q .non H'
theorem h_table_fault (T : Top K mg) : Has P w K mg base "table_fault" 4 ["thing"] (sp_table_fault K) := by
  have nd := sc_P_table_fault.nd
  have h_is_many := h_is_many (P := P) (w := w) (base := base) T
  have h_is_row := h_is_row (P := P) (w := w) (base := base) T
  refine has_of T dP_table_fault (by simp [fn, fn0, fn1, fn2, fn3]) rfl (by decide +kernel) rfl sc_P_table_fault (fun vs H Q E ⟨v, m, rows, e, _⟩ => by rw [e]; rfl) (fun _ _ _ _ _ _ us hl => match us, hl with | [_], _ => rfl) (fun cdv A outer s H vs Q E hr h => ?_)
  obtain ⟨v, m, rows, rfl, ⟨t, rt, rfl, ht, hrt⟩, R, q⟩ := h
  -- cells: []; slots {'thing': 0, 'many': 1, 'rows': 2, 'k': 3, 'row': 4}
  refine ⟨_, (pss_cons (ps_if (PW.pt (pw_or (pt_not (pt_val (pe_callB call_isi (by rfl) (T.free _ (by decide +kernel)) (by decide +kernel) (pa_cons (pv 0) (pa_cons (pe_cls (n := "tuple") (by rfl) (T.free _ (by decide +kernel)) (by decide +kernel)) pa_nil))))) (pw_or1 (pt_cmpR op_ne (pe_callB call_len_seq (by rfl) (T.free _ (by decide +kernel)) (by decide +kernel) (pa_cons (pv 0) pa_nil)) pe_int (nomark _))))) (pss_one (ps_ret (pe_tup (pa_cons pe_str (pa_cons (pe_un un_neg pe_int) pa_nil))))) pss_nil)
      (pss_cons (ps_asg (pv 0) (pg_tup (by rfl) (pgs_cons (pg_name (i := 1) nd rfl (Or.inl rfl)) (pgs_cons (pg_name (i := 2) nd rfl (Or.inl rfl)) pgs_nil))))
      (pss_cons (ps_if (pt_not (pt_val (pe_has h_is_many (hr.mono (by omega)) (by rfl) (pa_cons (pv 1) pa_nil)))) (pss_one (ps_ret (pe_tup (pa_cons pe_str (pa_cons (pe_un un_neg pe_int) pa_nil))))) pss_nil)
      (pss_cons (ps_if (PW.pt (pw_or (pt_not (pt_val (pe_callB call_isi (by rfl) (T.free _ (by decide +kernel)) (by decide +kernel) (pa_cons (pv 2) (pa_cons (pe_cls (n := "tuple") (by rfl) (T.free _ (by decide +kernel)) (by decide +kernel)) pa_nil))))) (pw_or1 (pt_cmpR op_eq (pe_callB call_len_seq (by rfl) (T.free _ (by decide +kernel)) (by decide +kernel) (pa_cons (pv 2) pa_nil)) pe_int (nomark _))))) (pss_one (ps_ret (pe_tup (pa_cons pe_str (pa_cons (pe_un un_neg pe_int) pa_nil))))) pss_nil)
      (pss_cons (ps_for PassesOwn.never rfl (pi_enumT (by rfl) (T.free _ (by decide +kernel)) (pa_cons (pv 2) pa_nil)) (pg_tup (by rfl) (pgs_cons (pg_name (i := 3) nd rfl (Or.inl rfl)) (pgs_cons (pg_name (i := 4) nd rfl (Or.inl rfl)) pgs_nil)))
        (pss_cons (ps_if (pt_not (pt_val (pe_has h_is_row (hr.mono (by omega)) (by rfl) (pa_cons (pv 1) (pa_cons (pv 4) pa_nil))))) (pss_one (ps_ret (pe_tup (pa_cons pe_str (pa_cons (pv 3) pa_nil))))) pss_nil)
        (pss_one (ps_if (PW.pt (pw_and (pt_cmpR op_gt (pv 3) pe_int (nomark _)) (pw_and1 (pt_cmpR op_le_str (pv 4) (pe_ix ix_tup (pv 2) (pe_op op_sub (pv 3) pe_int) (fun _ _ => rfl)) (nomark _))))) (pss_one (ps_ret (pe_tup (pa_cons pe_str (pa_cons (pv 3) pa_nil))))) pss_nil))))
      (pss_one (ps_ret pe_non))))))), ?_⟩
  have tt : ∀ {a : Addr} {xs : List V}, SqT K H a xs → TyX K H (.ref a) (.type "tuple") := fun h => by
    rcases h with (h | ⟨o, h⟩) | ⟨o, its, n, h1, h2, _⟩
    · exact .base (.tup h)
    · exact .fTuple h
    · exact .kTuple h1 h2
  refine ⟨.ref t, rfl, .ref t, .ty "tuple", _, _, true, rfl, .ty _, tt ht, kit_ty (by decide +kernel), true, rfl, iteF ?_⟩
  refine ⟨.ref t, rfl, t, _, rfl, .inr ht, rfl, _, rfl, iteF ?_⟩
  refine ⟨.ref t, rfl, t, _, rfl, ht, rfl, .int m, _, rfl, .ref rt, _, rfl, rfl, ?_⟩
  refine ⟨.int m, rfl, m, rfl, by have := R.mny; omega, true, rfl, iteF ?_⟩
  refine ⟨.ref rt, rfl, .ref rt, .ty "tuple", _, _, true, rfl, .ty _, tt hrt, kit_ty (by decide +kernel), true, rfl, iteF ?_⟩
  refine ⟨.ref rt, rfl, rt, _, rfl, .inr hrt, rfl, _, rfl, ?_⟩
  have hne : decide (V.int ((rows.map tx).length : Nat) = V.int 0) = false := by
    refine decide_eq_false fun e => R.ne (List.eq_nil_of_length_eq_zero ?_)
    injection e with e; rw [List.length_map] at e; omega
  rw [hne]
  refine iteF ?_
  refine ⟨.ref rt, rfl, rt, _, rfl, hrt, for_it (walk_enumT (xs := rows.map tx)) (fun i σ H' => (∃ y3 y4, σ = [some (.ref t), some (.int m), some (.ref rt), y3, y4]) ∧ Ext H H') ⟨⟨_, _, rfl⟩, Ext.refl _⟩ (fun i σ H' _ p => p.2.tup hrt) (fun i x σ H2 H3 hi p y => ?_) (fun σ H' p => ?_)⟩
  · obtain ⟨⟨y3, y4, rfl⟩, e2⟩ := p
    obtain ⟨T', x1, x2, rfl, nT, rfl, h1, h2⟩ := y
    obtain rfl := Option.some.inj h1
    replace h2 : (rows.map tx)[i]? = some x2 := h2
    rw [List.getElem?_map] at h2
    cases er : rows[i]? with
    | none => rw [er] at h2; cases h2
    | some r =>
      rw [er] at h2
      obtain rfl := Option.some.inj h2
      have e3 := e2.then nT (o := .tup [.int (i : Nat), tx r]) rfl
      refine ⟨T', _, rfl, .inl (.inl upd_same), rfl, _, _, rfl, _, _, rfl, rfl, ?_⟩
      obtain ⟨r1, r2, r3⟩ := R.row r (List.mem_of_getElem? er)
      refine ⟨.int m, rfl, tx r, rfl, m, r, rfl, R.mny, r2, r1, r3, fun H4 e4 => ⟨true, rfl, iteF ?_⟩⟩
      refine ⟨.int (i : Nat), rfl, (i : Nat), 0, rfl, rfl, _, rfl, ite2 (fun hc => ?_) fun hc => iteF ⟨⟨_, _, rfl⟩, e3.trans e4⟩⟩
      have hc : 0 < i := by
        have hc' := of_decide_eq_true hc
        omega
      have hj : i - 1 < rows.length := by
        have := (List.getElem?_eq_some_iff.mp er).1
        omega
      have hp : (rows.map tx)[i - 1]? = some (tx rows[i - 1]) := by rw [List.getElem?_map, List.getElem?_eq_getElem hj]; rfl
      refine ⟨tx r, rfl, .ref rt, rfl, .int (i : Nat), rfl, (i : Nat), 1, rfl, rfl, rt, _, _, _, rfl, rfl, (e3.trans e4).tup hrt, by rw [show ((i : Int) - 1) = ((i - 1 : Nat) : Int) by omega]; exact atI_nat hp, S r, S rows[i - 1], rfl, rfl, _, rfl, ?_⟩
      have hlt : ltL rows[i - 1] r = true := by
        have h3 := List.pairwise_iff_getElem.mp R.asc (i - 1) i hj (List.getElem?_eq_some_iff.mp er).1 (by omega)
        rw [(List.getElem?_eq_some_iff.mp er).2] at h3
        exact h3
      have h5 : (!decide ((S rows[i - 1]).cps.toList < (S r).cps.toList)) = false := by
        rw [S_cps, S_cps, ← ltL_iff, hlt]; rfl
      rw [h5]
      exact iteF ⟨⟨_, _, rfl⟩, e3.trans e4⟩
  · exact q H' p.2
end
end K58
set_option Elab.async false
set_option linter.all false
set_option maxRecDepth 100000
set_option maxHeartbeats 1000000
/-! Lots of a table, arrows, what comes next. -/
namespace K58
open PySem PySem.Spec PyProof.Rows L2
theorem Ext.rd {H H' : Hp} (e : Ext H H') {a : Addr} {u : HO} (h : Rd H a u) : Rd H' a u := h.imp (e.same _ _) fun ⟨o, h⟩ => ⟨o, e.same _ _ h⟩
/-- a dict of the lots that each label leads to -/
def arK (a : Nat → List Nat) (L : List Nat) : List (Key × V) := L.map fun s => (Sum.inr (S [s]), tx (a s))
def ArrV (H : Hp) (d : Addr) (a : Nat → List Nat) (L : List Nat) : Prop := Rd H d (.dK (arK a L))
theorem valV_map {α : Type} (kf : α → Key) (vf : α → V) (inj : ∀ a b, kf a = kf b → a = b) : ∀ (l : List α) (x : α), x ∈ l → valV (l.map fun a => (kf a, vf a)) (kf x) = some (vf x)
  | [], _, h => by cases h
  | y :: r, x, h => by
    by_cases e : kf y = kf x
    · rw [List.map_cons, valV_pos e]
      show some (vf y) = _
      rw [inj _ _ e]
    · rw [List.map_cons, valV_neg e]
      rcases List.mem_cons.mp h with q | q
      · exact absurd (by rw [q]) e
      · exact valV_map kf vf inj r x q
theorem keyS_inj (a b : Nat) (h : (Sum.inr (S [a]) : Key) = Sum.inr (S [b])) : a = b := by
  injection h with h
  have := S_inj h
  injection this
theorem ArrV.get {H : Hp} {d : Addr} {a : Nat → List Nat} {L : List Nat} (h : ArrV H d a L) {s : Nat} (hs : s ∈ L) : DGet H d (tx [s]) (some (tx (a s))) :=
  .inl ⟨_, Sum.inr (S [s]), h, rfl, (valV_map (fun s => Sum.inr (S [s])) (fun s => tx (a s)) keyS_inj L s hs).symm⟩
theorem putK_new {kvs : List (Key × V)} {k : Key} {v : V} (h : ∀ p ∈ kvs, p.1 ≠ k) : putK kvs k v = kvs ++ [(k, v)] := by
  unfold putK
  rw [if_neg]
  simp only [List.any_eq_true, decide_eq_true_eq, not_exists, not_and]
  exact h
/-- a dict comprehension over what grows nothing -/
theorem dcFm {J : It} {n : Nat} {G : Hp → Prop} {Y : Nat → Hp → V → Hp → Prop} (w : Walk J n G Y) {α : Type} (as : List α) (av : α → V) (kf : α → Key) (vf : α → V) {g : TG} {tk tv : TE} {vs : List Nat} {σ : L2.St} {H1 : Hp} {D : Addr} {Qd : Hp → Prop}
    (hn : as.length = n) (hY : ∀ i H x H', i < n → Y i H x H' → H' = H ∧ ∃ a, as[i]? = some a ∧ x = av a) (hD : H1 D = none) (nd : (as.map kf).Nodup) (hG : ∀ H, Ext H1 H → G H) (hlen : as.length < sizeLine)
    (hs : ∀ a ∈ as, ∀ H, Ext H1 H → ∀ (R1 : V → V → Hp → Prop), (∀ H5, Ext H H5 → R1 (kV (kf a)) (vf a) H5) → g (av a) (wipe σ vs) H fun σ2 H2 => wipe σ2 vs = wipe σ vs ∧ tk σ2 H2 fun y H4 => tv σ2 H4 fun z H5 => R1 y z H5)
    (gm : ∀ x σ H (P P' : L2.St → Hp → Prop), (∀ a b, P a b → P' a b) → g x σ H P → g x σ H P')
    (hd : ∀ H, Ext H1 H → H D = some (.dK (as.map fun a => (kf a, vf a))) → Qd H) :
    ∃ W : Nat → Nat → Hp → Prop, (∃ m, W 0 m (upd H1 D (.dK []))) ∧ ∀ i m H, W i m H →
      (J.stop i H ∧ Qd H) ∨ (J.go i H ∧ ∃ Nx : Hp → Prop, (∀ H', Nx H' → ∃ m', m' < m ∧ W (i + 1) m' H') ∧ ∀ x H', J.yld i H x H' → g x (wipe σ vs) H' fun σ2 H2 => wipe σ2 vs = wipe σ vs ∧ tYes σ2 H2 fun b H3 =>
        if b = true then tk σ2 H3 fun y H4 => tv σ2 H4 fun z H5 => ∃ kvs k, y = kV k ∧ H5 D = some (.dK kvs) ∧ kvs.length < sizeLine ∧ Nx (upd H5 D (.dK (putK kvs k z))) else Nx H3) := by
  refine ⟨fun i m H => m = n - i ∧ i ≤ n ∧ Ext H1 H ∧ H D = some (.dK ((as.take i).map fun a => (kf a, vf a))), ⟨n, by simp, Nat.zero_le _, (Ext.refl H1).updNew hD rfl, by rw [upd_same]; rfl⟩, ?_⟩
  rintro i m H ⟨rfl, hi, e, h1⟩
  by_cases hlt : i < n
  · refine .inr ⟨w.goes i H hlt (hG H e), fun H' => Ext H1 H' ∧ H' D = some (.dK ((as.take (i + 1)).map fun a => (kf a, vf a))), fun H' p' => ⟨n - (i + 1), by omega, rfl, hlt, p'⟩, fun x H' y => ?_⟩
    obtain ⟨rfl, a, ha, rfl⟩ := hY i H x H' hlt (w.yields i H x H' hlt (hG H e) y)
    refine gm _ _ _ _ _ (fun σ2 H2 ⟨hw, q⟩ => ⟨hw, tyes' q⟩) (hs a (List.mem_of_getElem? ha) _ e _ fun H5 e5 => ?_)
    have ht : as.take (i + 1) = as.take i ++ [a] := by rw [List.take_succ, ha]; rfl
    refine ⟨_, kf a, rfl, e5.same _ _ h1, ?_, (e.trans e5).updNew hD rfl, ?_⟩
    · rw [List.length_map]; refine Nat.lt_of_le_of_lt ?_ hlen; rw [List.length_take]; exact Nat.min_le_right _ _
    · rw [upd_same, ht, List.map_append, putK_new]
      · rfl
      · intro p hp z
        obtain ⟨b, hb, eb⟩ := List.mem_map.mp hp
        obtain ⟨j, hj, ej⟩ := List.getElem_of_mem hb
        rw [List.length_take] at hj
        rw [List.getElem_take] at ej
        have hia : i < as.length := by omega
        have h2 := List.pairwise_iff_getElem.mp nd j i (by rw [List.length_map]; omega) (by rw [List.length_map]; omega) (by omega)
        rw [List.getElem_map, List.getElem_map] at h2
        have h3 : as[i] = a := by rw [List.getElem?_eq_getElem hia] at ha; exact Option.some.inj ha
        rw [ej, h3] at h2
        rw [← eb] at z
        exact h2 z
  · have ei : i = n := by omega
    subst ei
    refine .inl ⟨w.stops H (hG H e), hd H e ?_⟩
    rw [h1, ← hn, List.take_length]
theorem map_txV (ls : List (List Nat)) : (ls.map S).map V.str = ls.map tx := by rw [List.map_map]; rfl
/-- lots of few labels -/
theorem srcTx {K : PySem.W.Frag} {H : Hp} (l : List Nat) : SrcS K H (tx l) ((l.map fun c => [c]).map S) := .inl ⟨S l, rfl, (signs_S l).symm⟩
section
variable {P : Program} {w : World} {K : PySem.W.Frag} {mg : Str → Option Value} {base : Heap}
theorem sc_P_is_table : FnScope ["thing"] ["thing"] (defScope sP_is_table) := ⟨rfl, rfl, rfl, by decide +kernel, rfl, by decide +kernel, by decide +kernel⟩
def sp_is_table (K : PySem.W.Frag) : Sp := fun vs H Q _ => ∃ (v : V) (m : Nat) (rows : List (List Nat)), vs = [v] ∧ TabV K H v m rows ∧ Rows m rows ∧ ∀ H', Ext H H' → Q (.bl true) H'
theorem h_is_table (T : Top K mg) : Has P w K mg base "is_table" 5 ["thing"] (sp_is_table K) := by
  have nd := sc_P_is_table.nd
  have h_table_fault := h_table_fault (P := P) (w := w) (base := base) T
  refine has_of T dP_is_table (by simp [fn, fn0, fn1, fn2, fn3]) rfl (by decide +kernel) rfl sc_P_is_table (fun vs H Q E ⟨v, m, rows, e, _⟩ => by rw [e]; rfl) (fun _ _ _ _ _ _ us hl => match us, hl with | [_], _ => rfl) (fun cdv A outer s H vs Q E hr h => ?_)
  obtain ⟨v, m, rows, rfl, tv, R, q⟩ := h
  -- cells: []; slots {'thing': 0}
  refine ⟨_, (pss_one (ps_ret (pe_cmpR op_isN (pe_has h_table_fault (hr.mono (by omega)) (by rfl) (pa_cons (pv 0) pa_nil)) pe_non (nomark _)))), ?_⟩
  exact ⟨v, rfl, v, m, rows, rfl, tv, R, fun H1 e1 => ⟨rfl, q H1 e1⟩⟩
theorem sc_P_want : FnScope ["is_right", "word", "at"] ["is_right", "word", "at"] (defScope sP_want) := ⟨rfl, rfl, rfl, by decide +kernel, rfl, by decide +kernel, by decide +kernel⟩
def sp_want : Sp := fun vs H Q _ => ∃ a b, vs = [.bl true, a, b] ∧ Q .non H
theorem h_want (T : Top K mg) : HasD P w K mg base "want" 1 ["is_right", "word", "at"] [.int (-1)] sp_want := by
  have nd := sc_P_want.nd
  refine has_ofD T dP_want (by simp [fn, fn0, fn1, fn2, fn3]) rfl (by decide +kernel) (by show [V.int (-1)] ≠ []; simp) sc_P_want (fun vs H Q E ⟨a, b, e, _⟩ => by rw [e]; rfl) 2 rfl (fun T kV doc pm an cdv ct us its h1 h2 => match us, h1, its, h2 with | [a, b], _, [c], _ => ⟨_, rfl, rfl⟩) (fun cdv A outer s H vs Q E hr h => ?_)
  obtain ⟨a, b, rfl, q⟩ := h
  -- cells: []; slots {'is_right': 0, 'word': 1, 'at': 2}
  refine ⟨_, (pss_one (ps_if (pt_not (pt_val (pv 0))) (pss_one ps_never) pss_nil)), ?_⟩
  exact ⟨.bl true, rfl, true, rfl, iteF q⟩
theorem sc_P_want_table : FnScope ["table", "word"] ["table", "word"] (defScope sP_want_table) := ⟨rfl, rfl, rfl, by decide +kernel, rfl, by decide +kernel, by decide +kernel⟩
def sp_want_table (K : PySem.W.Frag) : Sp := fun vs H Q _ => ∃ (v : V) (m : Nat) (rows : List (List Nat)) (a : V), vs = [v, a] ∧ TabV K H v m rows ∧ Rows m rows ∧ ∀ H', Ext H H' → Q .non H'
theorem h_want_table (T : Top K mg) : HasD P w K mg base "want_table" 6 ["table", "word"] [.str "table"] (sp_want_table K) := by
  have nd := sc_P_want_table.nd
  have h_want := h_want (P := P) (w := w) (base := base) T
  have h_is_table := h_is_table (P := P) (w := w) (base := base) T
  refine has_ofD T dP_want_table (by simp [fn, fn0, fn1, fn2, fn3]) rfl (by decide +kernel) (by show [V.str "table"] ≠ []; simp) sc_P_want_table (fun vs H Q E ⟨v, m, rows, a, e, _⟩ => by rw [e]; rfl) 1 rfl (fun T kV doc pm an cdv ct us its h1 h2 => match us, h1, its, h2 with | [a], _, [c], _ => ⟨_, rfl, rfl⟩) (fun cdv A outer s H vs Q E hr h => ?_)
  obtain ⟨v, m, rows, a, rfl, tv, R, q⟩ := h
  -- cells: []; slots {'table': 0, 'word': 1}
  refine ⟨_, (pss_one (ps_expr (pe_hasD h_want (hr.mono (by omega)) (by rfl) (pa_cons (pe_has h_is_table (hr.mono (by omega)) (by rfl) (pa_cons (pv 0) pa_nil)) (pa_cons (pv 1) pa_nil))))), ?_⟩
  exact ⟨v, rfl, v, m, rows, rfl, tv, R, fun H1 e1 => ⟨a, rfl, _, _, rfl, q H1 e1⟩⟩
theorem sc_P_lot_of : FnScope ["labels"] ["labels"] (defScope sP_lot_of) := ⟨rfl, rfl, rfl, by decide +kernel, rfl, by decide +kernel, by decide +kernel⟩
def sp_lot_of (K : PySem.W.Frag) : Sp := fun vs H Q _ => ∃ (v : V) (l : List Nat), vs = [v] ∧ SrcS K H v ((l.map fun c => [c]).map S) ∧ l.length < 64 ∧ ∀ H', Ext H H' → Q (tx (lotL l)) H'
theorem h_lot_of (T : Top K mg) : Has P w K mg base "lot_of" 1 ["labels"] (sp_lot_of K) := by
  have nd := sc_P_lot_of.nd
  refine has_of T dP_lot_of (by simp [fn, fn0, fn1, fn2, fn3]) rfl (by decide +kernel) rfl sc_P_lot_of (fun vs H Q E ⟨v, l, e, _⟩ => by rw [e]; rfl) (fun _ _ _ _ _ _ us hl => match us, hl with | [_], _ => rfl) (fun cdv A outer s H vs Q E hr h => ?_)
  obtain ⟨v, l, rfl, src, hl, q⟩ := h
  -- cells: []; slots {'labels': 0}
  refine ⟨_, (pss_one (ps_ret (pe_join pe_str (pe_sortSet rfl (by rfl) (T.free _ (by decide +kernel)) (by rfl) (T.free _ (by decide +kernel)) (pv 0))))), ?_⟩
  refine ⟨⟨_, rfl⟩, v, rfl, _, by simpa using hl, src, fun ys p H1 hs hm e1 np hp => ?_⟩
  have ey := ys_lot hs hm
  refine ⟨"", p, ys, rfl, rfl, .inl (.inl (.inl hp)), ?_, ?_⟩
  · have h1 : (ys.map (·.length)).sum = ys.length := by
      rw [ey, List.map_map, List.map_map]
      have : ∀ l : List Nat, (l.map (((fun x : Str => x.length) ∘ S) ∘ fun c => [c])).sum = l.length := fun l => by
        induction l with
        | nil => rfl
        | cons a r ih => simp only [List.map_cons, List.sum_cons, ih, List.length_cons]; show 1 + r.length = _; omega
      rw [this]; simp
    have h2 : ys.length ≤ 64 := by
      rw [ey]; simp only [List.length_map]
      exact Nat.le_trans (lotL_len l) (Nat.le_of_lt hl)
    rw [h1]
    have h3 : ("" : Str).length = 0 := rfl
    rw [h3]; omega
  · rw [ey, join_S]
    have e : ((lotL l).map fun c => [c]).flatten = lotL l := by
      induction lotL l with
      | nil => rfl
      | cons a r ih => simp [ih]
    rw [e]
    exact q H1 e1
theorem sc_P_is_within : FnScope ["row", "lot", "label"] ["row", "lot"] (defScope sP_is_within) := ⟨rfl, rfl, rfl, by decide +kernel, rfl, by decide +kernel, by decide +kernel⟩
def sp_is_within : Sp := fun vs H Q _ => ∃ (r lot : List Nat), vs = [tx r, tx lot] ∧ r.length ≤ 1000 ∧ ∀ H', Ext H H' → Q (.bl (within r lot)) H'
theorem h_is_within (T : Top K mg) : Has P w K mg base "is_within" 1 ["row", "lot"] sp_is_within := by
  have nd := sc_P_is_within.nd
  refine has_of T dP_is_within (by simp [fn, fn0, fn1, fn2, fn3]) rfl (by decide +kernel) rfl sc_P_is_within (fun vs H Q E ⟨r, lot, e, _⟩ => by rw [e]; rfl) (fun _ _ _ _ _ _ us hl => match us, hl with | [_, _], _ => rfl) (fun cdv A outer s H vs Q E hr h => ?_)
  obtain ⟨r, lot, rfl, hn, q⟩ := h
  -- cells: ['lot']; slots {'row': 0, 'lot': 1, 'label': 2}
  refine ⟨_, (pss_one (ps_ret (pe_callB (cr_all rfl) (by rfl) (T.free _ (by decide +kernel)) (by decide +kernel) (pa_cons (pe_lc (own := [("label", 2)]) (g := (gName 2)) (tt := tYes) rfl nd (pi_str (pv 0)) (blkOk_by (by kernel_rfl)) (fun _ _ _ _ _ => (pg_name (i := 2) nd rfl (Or.inl rfl))) (fun _ _ _ _ _ => pts_nil) (fun _ _ _ _ _ => (pe_cmpR op_in_sign (pv 2) (pv 1) rfl))) pa_nil)))), ?_⟩
  refine ⟨tx r, rfl, S r, rfl, fun D hD => lcSt (fun c => some (decide (c ∈ lot))) (fun b y _ => y = .bl b) hD (fun _ _ _ _ _ h => h) (Nat.lt_of_le_of_lt hn (by decide)) (fun c hc H1 e1 R1 R0 k1 k0 => ⟨rfl, tyes' ?_⟩) fun H1 ys e1 hDy f2 => ?_⟩
  · exact ⟨tx [c], rfl, tx lot, rfl, c, S lot, rfl, rfl, k1 _ _ H1 rfl (Ext.refl _) rfl⟩
  · refine ⟨_, _, rfl, .inl (.inl (by rw [hDy, f2.eq])), ?_⟩
    have e : (List.filterMap (fun c => some (decide (c ∈ lot))) r).all id = within r lot := by
      rw [List.filterMap_eq_map' (f := fun c => decide (c ∈ lot))]
      simp [within]
    rw [e]
    exact q H1 e1
theorem flat_len {n : Nat} : ∀ ls : List (List Nat), (∀ l ∈ ls, l.length ≤ n) → ls.flatten.length ≤ ls.length * n
  | [], _ => by simp
  | l :: r, h => by
    have h1 := h l List.mem_cons_self
    have h2 := flat_len r fun x hx => h x (List.mem_cons_of_mem _ hx)
    rw [List.flatten_cons, List.length_append, List.length_cons, Nat.add_mul]
    omega
theorem sum_len (ls : List (List Nat)) : ((ls.map S).map (·.length)).sum = ls.flatten.length := by
  induction ls with
  | nil => rfl
  | cons a r ih => rw [List.map_cons, List.map_cons, List.sum_cons, ih, List.flatten_cons, List.length_append]; rfl
theorem Rows.flat {m : Nat} {rows : List (List Nat)} (R : Rows m rows) : rows.flatten.length ≤ 24 := by
  have := flat_len (n := 4) rows fun r h => by have := (R.row r h).1; have := R.mny; omega
  have := R.len
  omega
theorem Rows.rowlen {m : Nat} {rows : List (List Nat)} (R : Rows m rows) {r : List Nat} (h : r ∈ rows) : r.length ≤ 4 := by have := (R.row r h).1; have := R.mny; omega
theorem Rows.nemp {m : Nat} {rows : List (List Nat)} (R : Rows m rows) : NE rows := fun r h e => by have := (R.row r h).1; rw [e] at this; simp at this
theorem sc_P_labels_of : FnScope ["table"] ["table"] (defScope sP_labels_of) := ⟨rfl, rfl, rfl, by decide +kernel, rfl, by decide +kernel, by decide +kernel⟩
def sp_labels_of (K : PySem.W.Frag) : Sp := fun vs H Q _ => ∃ (v : V) (m : Nat) (rows : List (List Nat)), vs = [v] ∧ TabV K H v m rows ∧ Rows m rows ∧ ∀ H', Ext H H' → Q (tx (labs rows)) H'
theorem h_labels_of (T : Top K mg) : Has P w K mg base "labels_of" 7 ["table"] (sp_labels_of K) := by
  have nd := sc_P_labels_of.nd
  have h_want_table := h_want_table (P := P) (w := w) (base := base) T
  have h_lot_of := h_lot_of (P := P) (w := w) (base := base) T
  refine has_of T dP_labels_of (by simp [fn, fn0, fn1, fn2, fn3]) rfl (by decide +kernel) rfl sc_P_labels_of (fun vs H Q E ⟨v, m, rows, e, _⟩ => by rw [e]; rfl) (fun _ _ _ _ _ _ us hl => match us, hl with | [_], _ => rfl) (fun cdv A outer s H vs Q E hr h => ?_)
  obtain ⟨v, m, rows, rfl, ⟨t, rt, rfl, ht, hrt⟩, R, q⟩ := h
  -- cells: []; slots {'table': 0}
  refine ⟨_, (pss_cons (ps_expr (pe_hasD h_want_table (hr.mono (by omega)) (by rfl) (pa_cons (pv 0) pa_nil)))
      (pss_one (ps_ret (pe_has h_lot_of (hr.mono (by omega)) (by rfl) (pa_cons (pe_join pe_str (pe_ix ix_tup (pv 0) pe_int (fun _ _ => rfl))) pa_nil))))), ?_⟩
  refine ⟨.ref t, rfl, .ref t, m, rows, _, rfl, ⟨t, rt, rfl, ht, hrt⟩, R, fun H1 e1 => ?_⟩
  refine ⟨⟨_, rfl⟩, .ref t, rfl, t, _, 1, _, rfl, rfl, e1.tup ht, rfl, "", rt, rows.map S, rfl, rfl, .inr (by rw [map_txV]; exact e1.tup hrt), ?_, ?_⟩
  · rw [sum_len]
    have := R.flat
    have h3 : ("" : Str).length = 0 := rfl
    rw [h3]; omega
  · rw [join_S]
    refine ⟨_, _, rfl, srcTx rows.flatten, Nat.lt_of_le_of_lt R.flat (by decide), fun H2 e2 => q H2 (e1.trans e2)⟩
theorem sc_P_labels_in : FnScope ["table"] ["table"] (defScope sP_labels_in) := ⟨rfl, rfl, rfl, by decide +kernel, rfl, by decide +kernel, by decide +kernel⟩
def sp_labels_in (K : PySem.W.Frag) : Sp := fun vs H Q _ => ∃ (v : V) (m : Nat) (rows : List (List Nat)), vs = [v] ∧ TabV K H v m rows ∧ Rows m rows ∧ ∀ H', Ext H H' → Q (tx (labs rows)) H'
theorem h_labels_in (T : Top K mg) : Has P w K mg base "labels_in" 2 ["table"] (sp_labels_in K) := by
  have nd := sc_P_labels_in.nd
  have h_lot_of := h_lot_of (P := P) (w := w) (base := base) T
  refine has_of T dP_labels_in (by simp [fn, fn0, fn1, fn2, fn3]) rfl (by decide +kernel) rfl sc_P_labels_in (fun vs H Q E ⟨v, m, rows, e, _⟩ => by rw [e]; rfl) (fun _ _ _ _ _ _ us hl => match us, hl with | [_], _ => rfl) (fun cdv A outer s H vs Q E hr h => ?_)
  obtain ⟨v, m, rows, rfl, ⟨t, rt, rfl, ht, hrt⟩, R, q⟩ := h
  -- cells: []; slots {'table': 0}
  refine ⟨_, (pss_one (ps_ret (pe_has h_lot_of (hr.mono (by omega)) (by rfl) (pa_cons (pe_join pe_str (pe_ix ix_tup (pv 0) pe_int (fun _ _ => rfl))) pa_nil)))), ?_⟩
  have e1 := Ext.refl H
  refine ⟨⟨_, rfl⟩, .ref t, rfl, t, _, 1, _, rfl, rfl, e1.tup ht, rfl, "", rt, rows.map S, rfl, rfl, .inr (by rw [map_txV]; exact e1.tup hrt), ?_, ?_⟩
  · rw [sum_len]
    have := R.flat
    have h3 : ("" : Str).length = 0 := rfl
    rw [h3]; omega
  · rw [join_S]
    refine ⟨_, _, rfl, srcTx rows.flatten, Nat.lt_of_le_of_lt R.flat (by decide), fun H2 e2 => q H2 (e1.trans e2)⟩
end
end K58
set_option Elab.async false
set_option linter.all false
set_option maxRecDepth 100000
set_option maxHeartbeats 1000000
/-! What comes next, what lasts, what is reached. -/
namespace K58
open PySem PySem.Spec PyProof.Rows L2
theorem fm_if {α β : Type} (p : α → Bool) (g : α → β) : ∀ l : List α, l.filterMap (fun x => if p x = true then some (g x) else none) = (l.filter p).map g
  | [] => rfl
  | a :: r => by
    have ih := fm_if p g r
    cases h : p a
    · simp [List.filterMap_cons, h, ih]
    · simp [List.filterMap_cons, h, ih]
theorem map_sgV (l : List Nat) : ((l.map fun c => [c]).map S).map V.str = l.map fun c => tx [c] := by rw [List.map_map, List.map_map]; rfl
theorem map_tx' (l : List Nat) (a : Nat → List Nat) : ((l.map a).map S).map V.str = l.map fun c => tx (a c) := by rw [List.map_map, List.map_map]; rfl
theorem hd_at {r : List Nat} (h : r ≠ []) : atI (S r).cps.toList 0 = some (hd r) := by
  cases r with
  | nil => exact absurd rfl h
  | cons a r => exact atI_nat (xs := a :: r) (j := 0) rfl
theorem S_add (a b : List Nat) : (S a ++ S b : Str) = S (a ++ b) := str_ext (TL.tl_append (S a) (S b))
/-- while, without a law of the test -/
def Wn (Pv : L2.St → Hp → Prop) (μ : L2.St → Hp → Nat) (k : Nat) (tb : TS) (D : Ends) (σ : L2.St) (H : Hp) : Prop :=
  ∃ N : L2.St → Hp → Prop, (∀ σ' H', N σ' H' → ∃ m', m' < k ∧ (m' = μ σ' H' ∧ Pv σ' H')) ∧ tb { D with nx := N, ct := N, bk := D.nx } σ H
theorem Wn.mk {Pv : L2.St → Hp → Prop} {μ : L2.St → Hp → Nat} {k : Nat} {tb : TS} {D : Ends} {σ : L2.St} {H : Hp} (h : tb { D with nx := fun σ' H' => Pv σ' H' ∧ μ σ' H' < k, ct := fun σ' H' => Pv σ' H' ∧ μ σ' H' < k, bk := D.nx } σ H) : Wn Pv μ k tb D σ H :=
  ⟨_, fun σ' H' p => ⟨_, p.2, rfl, p.1⟩, h⟩
theorem while_on {c : TT} {tb : TS} {D : Ends} {σ : L2.St} {H : Hp} (Pv : L2.St → Hp → Prop) (μ : L2.St → Hp → Nat) (h0 : Pv σ H)
    (hs : ∀ σ H, Pv σ H → c σ H fun b H1 => if b = true then Wn Pv μ (μ σ H) tb D σ H1 else D.nx σ H1) : tWhile c tb D σ H := by
  refine ⟨fun m σ H => m = μ σ H ∧ Pv σ H, ⟨_, rfl, h0⟩, ?_⟩
  rintro m σ H ⟨rfl, p⟩
  exact hs σ H p
section
variable {P : Program} {w : World} {K : PySem.W.Frag} {mg : Str → Option Value} {base : Heap}
theorem sc_P_next_lot_fullwork : FnScope ["table", "lot", "row"] ["table", "lot"] (defScope sP_next_lot_fullwork) := ⟨rfl, rfl, rfl, by decide +kernel, rfl, by decide +kernel, by decide +kernel⟩
def sp_next_lot_fullwork (K : PySem.W.Frag) : Sp := fun vs H Q _ => ∃ (v : V) (m : Nat) (rows : List (List Nat)) (lot : List Nat), vs = [v, tx lot] ∧ TabV K H v m rows ∧ Rows m rows ∧ ∀ H', Ext H H' → Q (tx (nextL rows lot)) H'
theorem h_next_lot_fullwork (T : Top K mg) : Has P w K mg base "next_lot_fullwork" 2 ["table", "lot"] (sp_next_lot_fullwork K) := by
  have nd := sc_P_next_lot_fullwork.nd
  have h_lot_of := h_lot_of (P := P) (w := w) (base := base) T
  have h_is_within := h_is_within (P := P) (w := w) (base := base) T
  refine has_of T dP_next_lot_fullwork (by simp [fn, fn0, fn1, fn2, fn3]) rfl (by decide +kernel) rfl sc_P_next_lot_fullwork (fun vs H Q E ⟨v, m, rows, lot, e, _⟩ => by rw [e]; rfl) (fun _ _ _ _ _ _ us hl => match us, hl with | [_, _], _ => rfl) (fun cdv A outer s H vs Q E hr h => ?_)
  obtain ⟨v, m, rows, lot, rfl, ⟨t, rt, rfl, ht, hrt⟩, R, q⟩ := h
  -- cells: ['lot']; slots {'table': 0, 'lot': 1, 'row': 2}
  refine ⟨_, (pss_one (ps_ret (pe_has h_lot_of (hr.mono (by omega)) (by rfl) (pa_cons (pe_lc (own := [("row", 2)]) (g := (gName 2)) (tt := _) rfl nd (pi_tup (pe_ix ix_tup (pv 0) pe_int (fun _ _ => rfl))) (blkOk_by (by kernel_rfl)) (fun _ _ _ _ _ => (pg_name (i := 2) nd rfl (Or.inl rfl))) (fun _ _ _ _ _ => (pts_one (pt_val (pe_has h_is_within (hr.mono (by omega)) (by rfl) (pa_cons (pv 2) (pa_cons (pv 1) pa_nil)))))) (fun _ _ _ _ _ => (pe_ix ix_str (pv 2) pe_int (fun _ _ => rfl)))) pa_nil)))), ?_⟩
  refine ⟨.ref t, rfl, t, _, 1, _, rfl, rfl, ht, rfl, rt, rfl, ⟨_, hrt⟩, fun D hD => lcTu rows tx (fun r => if within r lot = true then some (hd r) else none) (fun c y _ => y = tx [c]) hrt hD (fun _ _ _ _ _ h => h) (Nat.lt_of_le_of_lt R.len (by decide)) (fun r hr0 H1 e1 R1 R0 k1 k0 => ⟨rfl, ?_⟩) fun H1 ys e1 hDy f2 => ?_⟩
  · refine ⟨tx r, rfl, tx lot, rfl, r, lot, rfl, Nat.le_trans (R.rowlen hr0) (by decide), fun H2 e2 => ⟨_, rfl, ite2 (fun hc => ?_) fun hc => k0 _ (if_neg hc) e2⟩⟩
    exact ⟨tx r, rfl, S r, 0, hd r, rfl, rfl, Nat.le_trans (R.rowlen hr0) (by decide), hd_at (R.nemp r hr0), k1 _ _ _ (if_pos hc) e2 rfl⟩
  · have ey := f2.eq (vv := fun c => tx [c])
    rw [fm_if (fun r => within r lot) hd] at ey
    refine ⟨_, (inn rows lot).map hd, rfl, .inr (.inl ⟨D, rfl, .inl (.inl (by rw [hDy, ey, map_sgV]; rfl))⟩), ?_, fun H2 e2 => q H2 (e1.trans e2)⟩
    rw [List.length_map]
    exact Nat.lt_of_le_of_lt (List.length_filter_le _ _) (Nat.lt_of_le_of_lt R.len (by decide))
theorem sc_P_next_lot_arrowwork : FnScope ["arrows", "lot", "label"] ["arrows", "lot"] (defScope sP_next_lot_arrowwork) := ⟨rfl, rfl, rfl, by decide +kernel, rfl, by decide +kernel, by decide +kernel⟩
def sp_next_lot_arrowwork : Sp := fun vs H Q _ => ∃ (d : Addr) (a : Nat → List Nat) (L f : List Nat), vs = [.ref d, tx f] ∧ ArrV H d a L ∧ Arr a L ∧ L.length ≤ 4 ∧ Asc f ∧ Sub f L ∧ ∀ H', Ext H H' → Q (tx (lotL (f.flatMap a))) H'
theorem h_next_lot_arrowwork (T : Top K mg) : Has P w K mg base "next_lot_arrowwork" 2 ["arrows", "lot"] sp_next_lot_arrowwork := by
  have nd := sc_P_next_lot_arrowwork.nd
  have h_lot_of := h_lot_of (P := P) (w := w) (base := base) T
  refine has_of T dP_next_lot_arrowwork (by simp [fn, fn0, fn1, fn2, fn3]) rfl (by decide +kernel) rfl sc_P_next_lot_arrowwork (fun vs H Q E ⟨d, a, L, f, e, _⟩ => by rw [e]; rfl) (fun _ _ _ _ _ _ us hl => match us, hl with | [_, _], _ => rfl) (fun cdv A outer s H vs Q E hr h => ?_)
  obtain ⟨d, a, L, f, rfl, hd, A0, hL, hf, hs, q⟩ := h
  -- cells: ['arrows']; slots {'arrows': 0, 'lot': 1, 'label': 2}
  refine ⟨_, (pss_one (ps_ret (pe_has h_lot_of (hr.mono (by omega)) (by rfl) (pa_cons (pe_join pe_str (pe_lc (own := [("label", 2)]) (g := (gName 2)) (tt := tYes) rfl nd (pi_str (pv 1)) (blkOk_by (by kernel_rfl)) (fun _ _ _ _ _ => (pg_name (i := 2) nd rfl (Or.inl rfl))) (fun _ _ _ _ _ => pts_nil) (fun _ _ _ _ _ => (pe_dget (hu_of hr) (pv 0) (pv 2) (fun _ _ => rfl))))) pa_nil)))), ?_⟩
  have hf4 : f.length ≤ 4 := Nat.le_trans (asc_len hf hs) hL
  have hfl : (f.map a).flatten.length ≤ 16 := by
    have := flat_len (n := 4) (f.map a) fun l hl => by
      obtain ⟨s, _, rfl⟩ := List.mem_map.mp hl
      exact Nat.le_trans (asc_len (A0.asc s) (A0.sub s)) hL
    rw [List.length_map] at this
    omega
  refine ⟨⟨_, rfl⟩, tx f, rfl, S f, rfl, fun D hD => lcSt (fun c => some (a c)) (fun l y _ => y = tx l) hD (fun _ _ _ _ _ h => h) (Nat.lt_of_le_of_lt hf4 (by decide)) (fun c hc H1 e1 R1 R0 k1 k0 => ⟨rfl, tyes' ?_⟩) fun H1 ys e1 hDy f2 => ?_⟩
  · exact ⟨.ref d, rfl, tx [c], rfl, d, tx (a c), rfl, ArrV.get (e1.rd hd) (hs c hc), k1 _ _ _ rfl (Ext.refl _) rfl⟩
  · have ey := f2.eq (vv := tx)
    rw [List.filterMap_eq_map' (f := a), ← map_txV] at ey
    refine ⟨"", D, (f.map a).map S, rfl, rfl, .inl (.inl (.inl (by rw [hDy, ey]))), ?_, ?_⟩
    · rw [sum_len]
      have h3 : ("" : Str).length = 0 := rfl
      rw [h3]; omega
    · rw [join_S]
      exact ⟨_, _, rfl, srcTx _, Nat.lt_of_le_of_lt hfl (by decide), fun H2 e2 => q H2 (e1.trans e2)⟩
theorem sc_P_divisor_of : FnScope ["one", "other"] ["one", "other"] (defScope sP_divisor_of) := ⟨rfl, rfl, rfl, by decide +kernel, rfl, by decide +kernel, by decide +kernel⟩
def sp_divisor_of : Sp := fun vs H Q _ => ∃ a b : Nat, vs = [.int a, .int b] ∧ Q (.int (Nat.gcd a b : Nat)) H
theorem h_divisor_of (T : Top K mg) : Has P w K mg base "divisor_of" 1 ["one", "other"] sp_divisor_of := by
  have nd := sc_P_divisor_of.nd
  refine has_of T dP_divisor_of (by simp [fn, fn0, fn1, fn2, fn3]) rfl (by decide +kernel) rfl sc_P_divisor_of (fun vs H Q E ⟨a, b, e, _⟩ => by rw [e]; rfl) (fun _ _ _ _ _ _ us hl => match us, hl with | [_, _], _ => rfl) (fun cdv A outer s H vs Q E hr h => ?_)
  obtain ⟨a, b, rfl, q⟩ := h
  -- cells: []; slots {'one': 0, 'other': 1}
  refine ⟨_, (pss_cons (ps_while PassesOwn.never (pt_cmpR op_gt (pv 1) pe_int (nomark _))
        (pss_one (ps_par (i := 0) (j := 1) (by rfl) nd rfl rfl (by decide) rfl rfl (pa_cons (pv 1) (pa_cons (pe_op op_mod (pv 0) (pv 1)) pa_nil)) (by rfl))))
      (pss_one (ps_ret (pv 0)))), ?_⟩
  refine while_on (fun σ H' => H' = H ∧ ∃ a' b' : Nat, σ = [some (.int a'), some (.int b')] ∧ Nat.gcd a' b' = Nat.gcd a b) (fun σ _ => match σ with | [_, some (.int b)] => b.toNat | _ => 0) ⟨rfl, a, b, rfl, rfl⟩ fun σ H1 p => ?_
  obtain ⟨rfl, a', b', rfl, hg⟩ := p
  refine ⟨.int b', rfl, (b' : Int), 0, rfl, rfl, _, rfl, ite2 (fun hc => ?_) fun hc => ?_⟩
  · have hb : 0 < b' := by have := of_decide_eq_true hc; omega
    refine Wn.mk ⟨.int b', rfl, .int a', rfl, .int b', rfl, a', b', rfl, rfl, by omega, _, _, rfl, ⟨rfl, b', a' % b', by simp [L2.start], ?_⟩, ?_⟩
    · rw [← hg, Nat.gcd_comm a' b', Nat.gcd_rec b' a', Nat.gcd_comm]
    · show ((a' : Int) % (b' : Int)).toNat < (b' : Int).toNat
      have := Int.emod_lt_of_pos (a' : Int) (show (0 : Int) < b' by omega)
      omega
  · have hb : b' = 0 := by
      rcases Nat.eq_zero_or_pos b' with h | h
      · exact h
      · exact absurd (decide_eq_true (by omega)) hc
    subst hb
    refine ⟨.int a', rfl, ?_⟩
    rw [Nat.gcd_zero_right] at hg
    rw [hg]; exact q
/-- ten less the length of a list -/
def lenAt (H : Hp) (p : Addr) : Nat := match H p with
  | some (.lst xs) => 10 - xs.length
  | _ => 0
theorem lenAt_of {H : Hp} {p : Addr} {xs : List V} (h : H p = some (.lst xs)) : lenAt H p = 10 - xs.length := by unfold lenAt; rw [h]
theorem line_small {n : Nat} (h : n ≤ 1000) : n < sizeLine := Nat.lt_of_le_of_lt h (by decide)
theorem line_smallE {n : Nat} (h : n ≤ 1000) : n ≤ sizeLine := Nat.le_of_lt (line_small h)
/-- a lot of a table's labels -/
structure LotOf (rows : List (List Nat)) (L : List Nat) : Prop where
  asc : Asc L
  sub : Sub L (labs rows)
theorem LotOf.len {m : Nat} {rows : List (List Nat)} {L : List Nat} (h : LotOf rows L) (R : Rows m rows) : L.length ≤ 4 := Nat.le_trans (asc_len h.asc h.sub) R.few
theorem Rows.low {m : Nat} {rows : List (List Nat)} (R : Rows m rows) : ∀ c ∈ labs rows, c ∈ letters := fun c hc => by
  obtain ⟨r, hr, h⟩ := List.mem_flatten.mp ((lotL_mem c _).mp hc)
  exact (R.row r hr).2.1 c h
theorem LotOf.low {m : Nat} {rows : List (List Nat)} {L : List Nat} (h : LotOf rows L) (R : Rows m rows) : Low L := fun c hc => R.low c (h.sub c hc)
theorem sc_P_falling_from : FnScope ["table", "lot", "found", "late"] ["table", "lot"] (defScope sP_falling_from) := ⟨rfl, rfl, rfl, by decide +kernel, rfl, by decide +kernel, by decide +kernel⟩
def sp_falling_from (K : PySem.W.Frag) : Sp := fun vs H Q _ => ∃ (v : V) (m : Nat) (rows : List (List Nat)) (lot : List Nat), vs = [v, tx lot] ∧ TabV K H v m rows ∧ Rows m rows ∧ LotOf rows lot ∧ ∀ H' q (xs : List V), Ext H H' → H' q = some (.tup xs) → atI xs (-1) = some (tx (lastL rows lot)) → Q (.ref q) H'
theorem h_falling_from (T : Top K mg) : Has P w K mg base "falling_from" 3 ["table", "lot"] (sp_falling_from K) := by
  have nd := sc_P_falling_from.nd
  have h_next_lot_fullwork := h_next_lot_fullwork (P := P) (w := w) (base := base) T
  refine has_of T dP_falling_from (by simp [fn, fn0, fn1, fn2, fn3]) rfl (by decide +kernel) rfl sc_P_falling_from (fun vs H Q E ⟨v, m, rows, lot, e, _⟩ => by rw [e]; rfl) (fun _ _ _ _ _ _ us hl => match us, hl with | [_, _], _ => rfl) (fun cdv A outer s H vs Q E hr h => ?_)
  obtain ⟨v, m, rows, lot, rfl, tv, R, L0, q0⟩ := h
  -- cells: []; slots {'table': 0, 'lot': 1, 'found': 2, 'late': 3}
  refine ⟨_, (pss_cons (ps_set (i := 2) nd rfl (Or.inl rfl) (pe_lst (pa_cons (pv 1) pa_nil)))
      (pss_cons (ps_set (i := 3) nd rfl (Or.inl rfl) (pe_has h_next_lot_fullwork (hr.mono (by omega)) (by rfl) (pa_cons (pv 0) (pa_cons (pv 1) pa_nil))))
      (pss_cons (ps_while PassesOwn.never (pt_cmpR op_ne (pv 3) (pe_ix ix_list (pv 2) (pe_un un_neg pe_int) (fun _ _ => rfl)) (nomark _))
        (pss_cons (ps_expr (pe_bm PySem.F.plainAttrs_list PySem.F.slot_list_append PySem.F.type_list_append mt_append (pv 2) (pa_cons (pv 3) pa_nil)))
        (pss_one (ps_set (i := 3) nd rfl (Or.inl rfl) (pe_has h_next_lot_fullwork (hr.mono (by omega)) (by rfl) (pa_cons (pv 0) (pa_cons (pv 3) pa_nil)))))))
      (pss_one (ps_ret (pe_callTy call_tuple_of (by rfl) (T.free _ (by decide +kernel)) (by decide +kernel) (pa_cons (pv 2) pa_nil))))))), ?_⟩
  refine ⟨tx lot, rfl, by show 1 ≤ sizeLine; decide, fun p np => ?_⟩
  have e1 : Ext H (upd H p (.lst [tx lot])) := (Ext.refl H).then np rfl
  refine ⟨v, rfl, tx lot, rfl, v, m, rows, lot, rfl, tv.ext e1, R, fun H2 e2 => ?_⟩
  refine while_on (fun σ H' => ∃ (k : Nat) (xs : List V), σ = [some v, some (tx lot), some (.ref p), some (tx (iter (nextL rows) (k + 1) lot))] ∧ H' p = some (.lst (xs ++ [tx (iter (nextL rows) k lot)])) ∧ (iter (nextL rows) k lot).length + k ≤ 4 ∧ xs.length = k ∧ Ext H H') (fun _ H' => lenAt H' p) ⟨0, [], rfl, e2.same _ _ upd_same, by simpa [iter] using L0.len R, rfl, e1.trans e2⟩ fun σ H3 p3 => ?_
  obtain ⟨k, xs, rfl, hp, h4, hx, e3⟩ := p3
  have hasc : Asc (iter (nextL rows) k lot) := iter_inv Asc (fun x _ => nextL_asc _ _) k lot L0.asc
  refine ⟨_, rfl, .ref p, rfl, 1, rfl, p, _, _, _, rfl, rfl, .inl (.inl hp), atI_last _ _, rfl, _, rfl, ?_⟩
  rcases nextL_less R.nemp hasc with heq | hlt
  · have e0 : (!decide (tx (iter (nextL rows) (k + 1) lot) = tx (iter (nextL rows) k lot))) = false := by
      show (!decide (tx (nextL rows (iter (nextL rows) k lot)) = _)) = false
      rw [heq]; simp
    rw [e0]
    refine iteF ⟨.ref p, rfl, p, _, rfl, .inl ⟨.inl (.inl hp), fun q nq => q0 _ q _ (e3.then nq rfl) upd_same ?_⟩⟩
    rw [← lastL_of R.nemp L0.asc heq]
    exact atI_last _ _
  · have e0 : (!decide (tx (iter (nextL rows) (k + 1) lot) = tx (iter (nextL rows) k lot))) = true := by
      rw [decide_eq_false]; rfl
      intro z
      have z := tx_inj z
      have hlt : (iter (nextL rows) (k + 1) lot).length < _ := hlt
      rw [z] at hlt; omega
    rw [e0]
    refine iteT (Wn.mk ?_)
    have hk : k ≤ 4 := by omega
    refine ⟨.ref p, rfl, .inl ⟨rfl, _, .inl (.inl hp)⟩, _, rfl, p, _, _, rfl, rfl, hp, by simp [hx]; exact line_small (by omega), ?_⟩
    have e4 : Ext H (upd H3 p (.lst ((xs ++ [tx (iter (nextL rows) k lot)]) ++ [tx (iter (nextL rows) (k + 1) lot)]))) := e3.updNew np rfl
    refine ⟨v, rfl, _, rfl, v, m, rows, _, rfl, tv.ext e4, R, fun H5 e5 => ⟨⟨k + 1, _, rfl, e5.same _ _ upd_same, ?_, by simp [hx], e4.trans e5⟩, ?_⟩⟩
    · have hlt : (iter (nextL rows) (k + 1) lot).length < _ := hlt
      omega
    · rw [lenAt_of (e5.same _ _ upd_same), lenAt_of hp]
      simp [hx]; omega
theorem sc_P_want_lot : FnScope ["table", "lot", "label"] ["table", "lot"] (defScope sP_want_lot) := ⟨rfl, rfl, rfl, by decide +kernel, rfl, by decide +kernel, by decide +kernel⟩
def sp_want_lot (K : PySem.W.Frag) : Sp := fun vs H Q _ => ∃ (v : V) (m : Nat) (rows : List (List Nat)) (lot : List Nat), vs = [v, tx lot] ∧ TabV K H v m rows ∧ Rows m rows ∧ LotOf rows lot ∧ ∀ H', Ext H H' → Q .non H'
theorem h_want_lot (T : Top K mg) : Has P w K mg base "want_lot" 3 ["table", "lot"] (sp_want_lot K) := by
  have nd := sc_P_want_lot.nd
  have h_want := h_want (P := P) (w := w) (base := base) T
  have h_is_lot := h_is_lot (P := P) (w := w) (base := base) T
  have h_labels_in := h_labels_in (P := P) (w := w) (base := base) T
  refine has_of T dP_want_lot (by simp [fn, fn0, fn1, fn2, fn3]) rfl (by decide +kernel) rfl sc_P_want_lot (fun vs H Q E ⟨v, m, rows, lot, e, _⟩ => by rw [e]; rfl) (fun _ _ _ _ _ _ us hl => match us, hl with | [_, _], _ => rfl) (fun cdv A outer s H vs Q E hr h => ?_)
  obtain ⟨v, m, rows, lot, rfl, tv, R, L0, q⟩ := h
  -- cells: ['table']; slots {'table': 0, 'lot': 1, 'label': 2}
  refine ⟨_, (pss_one (ps_expr (pe_hasD h_want (hr.mono (by omega)) (by rfl) (pa_cons (pe_and (pe_has h_is_lot (hr.mono (by omega)) (by rfl) (pa_cons (pv 1) pa_nil)) (pe_one (pe_callB (cr_all rfl) (by rfl) (T.free _ (by decide +kernel)) (by decide +kernel) (pa_cons (pe_lc (own := [("label", 2)]) (g := (gName 2)) (tt := tYes) rfl nd (pi_str (pv 1)) (blkOk_by (by kernel_rfl)) (fun _ _ _ _ _ => (pg_name (i := 2) nd rfl (Or.inl rfl))) (fun _ _ _ _ _ => pts_nil) (fun _ _ _ _ _ => (pe_cmpR op_in_sign (pv 2) (pe_has h_labels_in (hr.mono (by omega)) (by rfl) (pa_cons (pv 0) pa_nil)) rfl))) pa_nil)))) (pa_cons pe_str pa_nil))))), ?_⟩
  have h4 := L0.len R
  refine ⟨tx lot, rfl, lot, rfl, L0.low R, L0.asc, by omega, fun H1 e1 => ⟨true, rfl, iteT ?_⟩⟩
  refine ⟨tx lot, rfl, S lot, rfl, fun D hD => lcSt (fun c => some true) (fun b y _ => y = .bl b) hD (fun _ _ _ _ _ h => h) (line_small (by omega)) (fun c hc H2 e2 R1 R0 k1 k0 => ⟨rfl, tyes' ?_⟩) fun H2 ys e2 hDy f2 => ?_⟩
  · refine ⟨tx [c], rfl, v, rfl, v, m, rows, rfl, tv.ext (e1.trans e2), R, fun H3 e3 => ⟨c, S (labs rows), rfl, rfl, k1 _ _ H3 rfl e3 ?_⟩⟩
    rw [S_cps, decide_eq_true (L0.sub c hc)]
  · refine ⟨_, _, rfl, .inl (.inl (by rw [hDy, f2.eq])), ?_⟩
    have e : (List.filterMap (fun c => some true) lot).all id = true := by simp
    rw [e]
    exact ⟨_, _, rfl, q H2 (e1.trans e2)⟩
theorem sc_P_falling : FnScope ["table", "lot"] ["table", "lot"] (defScope sP_falling) := ⟨rfl, rfl, rfl, by decide +kernel, rfl, by decide +kernel, by decide +kernel⟩
def sp_falling (K : PySem.W.Frag) : Sp := fun vs H Q _ => ∃ (v : V) (m : Nat) (rows : List (List Nat)) (lot : List Nat), vs = [v, tx lot] ∧ TabV K H v m rows ∧ Rows m rows ∧ LotOf rows lot ∧ ∀ H' q (xs : List V), Ext H H' → H' q = some (.tup xs) → atI xs (-1) = some (tx (lastL rows lot)) → Q (.ref q) H'
theorem h_falling (T : Top K mg) : Has P w K mg base "falling" 4 ["table", "lot"] (sp_falling K) := by
  have nd := sc_P_falling.nd
  have h_want_lot := h_want_lot (P := P) (w := w) (base := base) T
  have h_falling_from := h_falling_from (P := P) (w := w) (base := base) T
  refine has_of T dP_falling (by simp [fn, fn0, fn1, fn2, fn3]) rfl (by decide +kernel) rfl sc_P_falling (fun vs H Q E ⟨v, m, rows, lot, e, _⟩ => by rw [e]; rfl) (fun _ _ _ _ _ _ us hl => match us, hl with | [_, _], _ => rfl) (fun cdv A outer s H vs Q E hr h => ?_)
  obtain ⟨v, m, rows, lot, rfl, tv, R, L0, q⟩ := h
  -- cells: []; slots {'table': 0, 'lot': 1}
  refine ⟨_, (pss_cons (ps_expr (pe_has h_want_lot (hr.mono (by omega)) (by rfl) (pa_cons (pv 0) (pa_cons (pv 1) pa_nil))))
      (pss_one (ps_ret (pe_has h_falling_from (hr.mono (by omega)) (by rfl) (pa_cons (pv 0) (pa_cons (pv 1) pa_nil)))))), ?_⟩
  refine ⟨v, rfl, tx lot, rfl, v, m, rows, lot, rfl, tv, R, L0, fun H1 e1 => ?_⟩
  exact ⟨v, rfl, tx lot, rfl, v, m, rows, lot, rfl, tv.ext e1, R, L0, fun H2 p xs e2 h1 h2 => q H2 p xs (e1.trans e2) h1 h2⟩
theorem sc_P_lasting : FnScope ["table", "lot"] ["table", "lot"] (defScope sP_lasting) := ⟨rfl, rfl, rfl, by decide +kernel, rfl, by decide +kernel, by decide +kernel⟩
def sp_lasting (K : PySem.W.Frag) : Sp := fun vs H Q _ => ∃ (v : V) (m : Nat) (rows : List (List Nat)) (lot : List Nat), vs = [v, tx lot] ∧ TabV K H v m rows ∧ Rows m rows ∧ LotOf rows lot ∧ ∀ H', Ext H H' → Q (tx (lastL rows lot)) H'
theorem h_lasting (T : Top K mg) : Has P w K mg base "lasting" 5 ["table", "lot"] (sp_lasting K) := by
  have nd := sc_P_lasting.nd
  have h_falling := h_falling (P := P) (w := w) (base := base) T
  refine has_of T dP_lasting (by simp [fn, fn0, fn1, fn2, fn3]) rfl (by decide +kernel) rfl sc_P_lasting (fun vs H Q E ⟨v, m, rows, lot, e, _⟩ => by rw [e]; rfl) (fun _ _ _ _ _ _ us hl => match us, hl with | [_, _], _ => rfl) (fun cdv A outer s H vs Q E hr h => ?_)
  obtain ⟨v, m, rows, lot, rfl, tv, R, L0, q⟩ := h
  -- cells: []; slots {'table': 0, 'lot': 1}
  refine ⟨_, (pss_one (ps_ret (pe_ix ix_tup (pe_has h_falling (hr.mono (by omega)) (by rfl) (pa_cons (pv 0) (pa_cons (pv 1) pa_nil))) (pe_un un_neg pe_int) (fun _ _ => rfl)))), ?_⟩
  exact ⟨v, rfl, tx lot, rfl, v, m, rows, lot, rfl, tv, R, L0, fun H1 p xs e1 h1 h2 => ⟨1, rfl, p, xs, -1, _, rfl, rfl, .inl (.inl h1), h2, q H1 e1⟩⟩
theorem sc_P_reached_by : FnScope ["arrows", "label", "found", "late"] ["arrows", "label"] (defScope sP_reached_by) := ⟨rfl, rfl, rfl, by decide +kernel, rfl, by decide +kernel, by decide +kernel⟩
def sp_reached_by : Sp := fun vs H Q _ => ∃ (d : Addr) (a : Nat → List Nat) (L : List Nat) (c : Nat), vs = [.ref d, tx [c]] ∧ ArrV H d a L ∧ Arr a L ∧ L.length ≤ 4 ∧ c ∈ L ∧ ∀ H', Ext H H' → Q (tx (far a L c)) H'
theorem h_reached_by (T : Top K mg) : Has P w K mg base "reached_by" 3 ["arrows", "label"] sp_reached_by := by
  have nd := sc_P_reached_by.nd
  have h_lot_of := h_lot_of (P := P) (w := w) (base := base) T
  have h_next_lot_arrowwork := h_next_lot_arrowwork (P := P) (w := w) (base := base) T
  refine has_of T dP_reached_by (by simp [fn, fn0, fn1, fn2, fn3]) rfl (by decide +kernel) rfl sc_P_reached_by (fun vs H Q E ⟨d, a, L, c, e, _⟩ => by rw [e]; rfl) (fun _ _ _ _ _ _ us hl => match us, hl with | [_, _], _ => rfl) (fun cdv A outer s H vs Q E hr h => ?_)
  obtain ⟨d, a, L, c, rfl, hd, A0, hL, hc, q⟩ := h
  -- cells: []; slots {'arrows': 0, 'label': 1, 'found': 2, 'late': 3}
  refine ⟨_, (pss_cons (ps_par (i := 2) (j := 3) (by rfl) nd rfl rfl (by decide) rfl rfl (pa_cons pe_str (pa_cons (pe_dget (hu_of hr) (pv 0) (pv 1) (fun _ _ => rfl)) pa_nil)) (by rfl))
      (pss_cons (ps_while PassesOwn.never (pt_cmpR op_ne (pv 3) (pv 2) (nomark _))
        (pss_cons (ps_set (i := 2) nd rfl (Or.inl rfl) (pv 3))
        (pss_one (ps_set (i := 3) nd rfl (Or.inl rfl) (pe_has h_lot_of (hr.mono (by omega)) (by rfl) (pa_cons (pe_op op_add_str (pv 2) (pe_has h_next_lot_arrowwork (hr.mono (by omega)) (by rfl) (pa_cons (pv 0) (pa_cons (pv 2) pa_nil)))) pa_nil))))))
      (pss_one (ps_ret (pv 2))))), ?_⟩
  refine ⟨.ref d, rfl, tx [c], rfl, d, tx (a c), rfl, ArrV.get hd hc, _, _, rfl, ?_⟩
  have inL : ∀ k, Asc (iter (growL a) k (a c)) ∧ Sub (iter (growL a) k (a c)) L := fun k => iter_inv (fun f => Asc f ∧ Sub f L) (fun _ h => growL_in A0 h) k _ ⟨A0.asc c, A0.sub c⟩
  have len4 : ∀ k, (iter (growL a) k (a c)).length ≤ 4 := fun k => Nat.le_trans (asc_len (inL k).1 (inL k).2) hL
  refine while_on (fun σ H' => Ext H H' ∧ ∃ k f, σ = [some (.ref d), some (tx [c]), some (tx f), some (tx (iter (growL a) k (a c)))] ∧ (f = iter (growL a) k (a c) → f = far a L c) ∧ (f ≠ iter (growL a) k (a c) → f.length < (iter (growL a) k (a c)).length)) (fun σ _ => match σ with | [_, _, some (.str x), _] => 5 - x.length | _ => 0) ⟨Ext.refl _, 0, [], rfl, fun e => ?_, fun e => ?_⟩ fun σ H1 p => ?_
  · have h1 : growL a (iter (growL a) 0 (a c)) = iter (growL a) 0 (a c) := by rw [← e]; rfl
    rw [← far_of A0 h1, ← e]
  · exact List.length_pos_iff.mpr fun z => e z.symm
  · obtain ⟨e1, k, f, rfl, hf1, hf2⟩ := p
    refine ⟨_, rfl, _, rfl, rfl, _, rfl, ?_⟩
    by_cases hfl : f = iter (growL a) k (a c)
    · have e0 : (!decide (tx (iter (growL a) k (a c)) = tx f)) = false := by rw [← hfl]; simp
      rw [e0]
      refine iteF ⟨_, rfl, ?_⟩
      rw [hf1 hfl]
      exact q H1 e1
    · have e0 : (!decide (tx (iter (growL a) k (a c)) = tx f)) = true := by
        rw [decide_eq_false]; rfl
        exact fun z => hfl (tx_inj z).symm
      rw [e0]
      refine iteT (Wn.mk ?_)
      have h4 := len4 k
      have hcat : (S (iter (growL a) k (a c)) ++ S (lotL ((iter (growL a) k (a c)).flatMap a)) : Str) = S (iter (growL a) k (a c) ++ lotL ((iter (growL a) k (a c)).flatMap a)) := S_add _ _
      have hsub : Sub (lotL ((iter (growL a) k (a c)).flatMap a)) L := fun x hx => by
        obtain ⟨y, _, h⟩ := List.mem_flatMap.mp ((lotL_mem x _).mp hx)
        exact A0.sub y x h
      have h44 : (lotL ((iter (growL a) k (a c)).flatMap a)).length ≤ 4 := Nat.le_trans (asc_len (lotL_asc _) hsub) hL
      refine ⟨_, rfl, _, rfl, .ref d, rfl, _, rfl, d, a, L, _, rfl, e1.rd hd, A0, hL, (inL k).1, (inL k).2, fun H2 e2 => ⟨S (iter (growL a) k (a c)), S (lotL ((iter (growL a) k (a c)).flatMap a)), rfl, rfl, ?_, _, iter (growL a) k (a c) ++ lotL ((iter (growL a) k (a c)).flatMap a), rfl, ?_, ?_, fun H3 e3 => ⟨⟨e1.trans (e2.trans e3), k + 1, iter (growL a) k (a c), ?_, fun e => ?_, fun e => ?_⟩, ?_⟩⟩⟩
      · rw [S_len, S_len]; exact line_smallE (by omega)
      · rw [hcat]; exact srcTx _
      · rw [List.length_append]; omega
      · have : lotL (iter (growL a) k (a c) ++ lotL ((iter (growL a) k (a c)).flatMap a)) = iter (growL a) (k + 1) (a c) :=
          lotL_congr fun x => by rw [List.mem_append, lotL_mem, List.mem_append]
        rw [this]; rfl
      · exact far_of A0 e.symm
      · rcases growL_more A0 (inL k) with h | h
        · exact absurd h.symm e
        · have hlt : L.length - (iter (growL a) (k + 1) (a c)).length < L.length - (iter (growL a) k (a c)).length := h
          omega
      · show 5 - (iter (growL a) k (a c)).length < 5 - f.length
        have := hf2 hfl
        omega
end
end K58
set_option Elab.async false
set_option linter.all false
set_option maxRecDepth 100000
/-! The search of depths: what the program's period is. -/
namespace K58
abbrev Dep := List (Nat × Int)
def dget (d : Dep) (x : Nat) : Option Int := (d.find? fun q => decide (q.1 = x)).map (·.2)
theorem dget_nil (x : Nat) : dget [] x = none := rfl
theorem dget_cons (q : Nat × Int) (d : Dep) (x : Nat) : dget (q :: d) x = if q.1 = x then some q.2 else dget d x := by
  unfold dget
  by_cases h : q.1 = x
  · simp [h]
  · simp [h]
theorem dget_app (d : Dep) (b : Nat) (n : Int) (x : Nat) : dget (d ++ [(b, n)]) x = match dget d x with | some v => some v | none => if b = x then some n else none := by
  induction d with
  | nil => rw [List.nil_append, dget_cons, dget_nil]
  | cons q d ih =>
    rw [List.cons_append, dget_cons, dget_cons]
    by_cases h : q.1 = x
    · rw [if_pos h, if_pos h]
    · rw [if_neg h, if_neg h]; exact ih
theorem dget_some {d : Dep} {x : Nat} {v : Int} (h : dget d x = some v) : x ∈ d.map (·.1) := by
  induction d with
  | nil => cases h
  | cons q d ih =>
    rw [dget_cons] at h
    by_cases e : q.1 = x
    · rw [List.map_cons, e]; exact List.mem_cons_self
    · rw [if_neg e] at h; exact List.mem_cons_of_mem _ (ih h)
theorem dget_mem {d : Dep} {x : Nat} (h : x ∈ d.map (·.1)) : ∃ v, dget d x = some v := by
  induction d with
  | nil => cases h
  | cons q d ih =>
    rw [dget_cons]
    by_cases e : q.1 = x
    · exact ⟨q.2, if_pos e⟩
    · rw [if_neg e]
      rcases List.mem_cons.mp h with z | z
      · exact absurd z.symm e
      · exact ih z
theorem dget_none {d : Dep} {x : Nat} (h : dget d x = none) : x ∉ d.map (·.1) := fun m => by obtain ⟨v, e⟩ := dget_mem m; rw [h] at e; cases e
abbrev DSt := Dep × List Nat × Nat
def visit (s : Nat) (st : DSt) (b : Nat) : DSt :=
  match dget st.1 b with
  | some db => (st.1, st.2.1, Nat.gcd st.2.2 ((dget st.1 s).getD 0 + 1 - db).natAbs)
  | none => (st.1 ++ [(b, (dget st.1 s).getD 0 + 1)], st.2.1 ++ [b], st.2.2)
/-- depths that fit, up to k -/
def Pot (a : Nat → List Nat) (p : List Nat) (k : Nat) (φ : Nat → Int) : Prop := ∀ u ∈ p, ∀ v ∈ a u, v ∈ p → (k : Int) ∣ φ u + 1 - φ v
/-- what holds while s is gone through, bs of its arrows done -/
structure DI (a : Nat → List Nat) (p : List Nat) (root : Nat) (s : Option Nat) (bs : List Nat) (st : DSt) : Prop where
  nd : (st.1.map (·.1)).Nodup
  rt0 : dget st.1 root = some 0
  sub : ∀ x ∈ st.1.map (·.1), x ∈ p
  tk : ∀ x ∈ st.2.1, x ∈ st.1.map (·.1)
  own : ∀ x, s = some x → x ∈ st.1.map (·.1)
  done : ∀ u ∈ st.1.map (·.1), u ∉ st.2.1 → s ≠ some u → ∀ v ∈ a u, v ∈ p → ∃ du dv, dget st.1 u = some du ∧ dget st.1 v = some dv ∧ (st.2.2 : Int) ∣ du + 1 - dv
  prt : ∀ u, s = some u → ∀ v ∈ bs, ∃ du dv, dget st.1 u = some du ∧ dget st.1 v = some dv ∧ (st.2.2 : Int) ∣ du + 1 - dv
  pot : ∀ k φ, Pot a p k φ → k ∣ st.2.2 ∧ ∀ u du, dget st.1 u = some du → (k : Int) ∣ du - φ u + φ root
variable {a : Nat → List Nat} {p : List Nat} {root : Nat}
theorem DI.start (hr : root ∈ p) : DI a p root none [] ([(root, 0)], [root], 0) where
  nd := by simp
  rt0 := by rw [dget_cons, if_pos rfl]
  sub := by simpa using hr
  tk := by simp
  own := fun x h => by cases h
  done := fun u hu hn => by simp at hu hn; exact absurd hu hn
  prt := fun u h => by cases h
  pot := fun k φ _ => ⟨Nat.dvd_zero k, fun u du h => by
    rw [dget_cons] at h
    by_cases e : root = u
    · rw [if_pos e] at h; injection h with h; subst e
      refine ⟨0, ?_⟩; omega
    · rw [if_neg e, dget_nil] at h; cases h⟩
theorem DI.pop {ts : List Nat} {s : Nat} {d : Dep} {g : Nat} (h : DI a p root none [] (d, ts ++ [s], g)) : DI a p root (some s) [] (d, ts, g) where
  nd := h.nd
  rt0 := h.rt0
  sub := h.sub
  tk := fun x hx => h.tk x (List.mem_append_left _ hx)
  own := fun x e => by injection e with e; subst e; exact h.tk _ (by simp)
  done := fun u hu hn hs => h.done u hu (fun m => by
    rcases List.mem_append.mp m with q | q
    · exact hn q
    · rw [List.mem_singleton] at q; exact hs (by rw [q])) (by simp)
  prt := fun u _ v hv => by cases hv
  pot := h.pot
theorem DI.visit {s b : Nat} {bs : List Nat} {st : DSt} (h : DI a p root (some s) bs st) (hb : b ∈ a s) (hp : b ∈ p) : DI a p root (some s) (bs ++ [b]) (visit s st b) := by
  obtain ⟨d, ts, g⟩ := st
  have hs := h.own s rfl
  obtain ⟨ds, es⟩ := dget_mem hs
  have es : dget d s = some ds := es
  have hsp : s ∈ p := h.sub s hs
  unfold K58.visit
  cases e : dget (d, ts, g).1 b with
  | some db =>
    have e : dget d b = some db := e
    show DI a p root (some s) (bs ++ [b]) (d, ts, Nat.gcd g ((dget d s).getD 0 + 1 - db).natAbs)
    rw [es]
    show DI a p root (some s) (bs ++ [b]) (d, ts, Nat.gcd g (ds + 1 - db).natAbs)
    have hg : ((Nat.gcd g (ds + 1 - db).natAbs : Nat) : Int) ∣ (g : Int) := Int.natCast_dvd_natCast.mpr (Nat.gcd_dvd_left _ _)
    have hn : ((Nat.gcd g (ds + 1 - db).natAbs : Nat) : Int) ∣ ds + 1 - db := by
      have := Int.natCast_dvd_natCast.mpr (Nat.gcd_dvd_right g (ds + 1 - db).natAbs)
      exact Int.dvd_natAbs.mp this
    exact {
      nd := h.nd
      rt0 := h.rt0
      sub := h.sub
      tk := h.tk
      own := h.own
      done := fun u hu hn' hs' v hv hvp => by
        obtain ⟨du, dv, h1, h2, h3⟩ := h.done u hu hn' hs' v hv hvp
        exact ⟨du, dv, h1, h2, Int.dvd_trans hg h3⟩
      prt := fun u hu v hv => by
        rcases List.mem_append.mp hv with q | q
        · obtain ⟨du, dv, h1, h2, h3⟩ := h.prt u hu v q
          exact ⟨du, dv, h1, h2, Int.dvd_trans hg h3⟩
        · rw [List.mem_singleton] at q; subst q
          injection hu with hu; subst hu
          exact ⟨ds, db, es, e, hn⟩
      pot := fun k φ hk => by
        obtain ⟨h1, h2⟩ := h.pot k φ hk
        refine ⟨Nat.dvd_gcd h1 ?_, h2⟩
        have q1 := h2 s ds es
        have q2 := h2 b db e
        have q3 := hk s hsp b hb hp
        have q4 : (k : Int) ∣ ds + 1 - db := by
          have := Int.dvd_sub (Int.dvd_add q1 q3) q2
          have e0 : ds - φ s + φ root + (φ s + 1 - φ b) - (db - φ b + φ root) = ds + 1 - db := by omega
          rw [e0] at this; exact this
        exact Int.natCast_dvd_natCast.mp (Int.dvd_natAbs.mpr q4) }
  | none =>
    have e : dget d b = none := e
    show DI a p root (some s) (bs ++ [b]) (d ++ [(b, (dget d s).getD 0 + 1)], ts ++ [b], g)
    rw [es]
    show DI a p root (some s) (bs ++ [b]) (d ++ [(b, ds + 1)], ts ++ [b], g)
    have old : ∀ {x v}, dget d x = some v → dget (d ++ [(b, ds + 1)]) x = some v := fun hx => by rw [dget_app, hx]
    have new : dget (d ++ [(b, ds + 1)]) b = some (ds + 1) := by rw [dget_app, e]; simp
    have keys : (d ++ [(b, ds + 1)]).map (·.1) = d.map (·.1) ++ [b] := by simp
    exact {
      nd := by
        show ((d ++ [(b, ds + 1)]).map (·.1)).Nodup
        rw [keys]
        refine List.nodup_append.mpr ⟨h.nd, by simp, fun x hx y hy => ?_⟩
        rw [List.mem_singleton] at hy; subst hy
        exact fun z => dget_none e (z ▸ hx)
      rt0 := old h.rt0
      sub := fun x hx => by
        have hx : x ∈ (d ++ [(b, ds + 1)]).map (·.1) := hx
        rw [keys] at hx
        rcases List.mem_append.mp hx with q | q
        · exact h.sub x q
        · rw [List.mem_singleton] at q; rw [q]; exact hp
      tk := fun x hx => by
        show x ∈ (d ++ [(b, ds + 1)]).map (·.1)
        rw [keys]
        rcases List.mem_append.mp hx with q | q
        · exact List.mem_append_left _ (h.tk x q)
        · exact List.mem_append_right _ q
      own := fun x hx => by
        show x ∈ (d ++ [(b, ds + 1)]).map (·.1)
        rw [keys]
        exact List.mem_append_left _ (h.own x hx)
      done := fun u hu hn hs' v hv hvp => by
        have hu : u ∈ (d ++ [(b, ds + 1)]).map (·.1) := hu
        rw [keys] at hu
        have hub : u ≠ b := fun z => hn (by rw [z]; exact List.mem_append_right _ (by simp))
        rcases List.mem_append.mp hu with q | q
        · obtain ⟨du, dv, h1, h2, h3⟩ := h.done u q (fun m => hn (List.mem_append_left _ m)) hs' v hv hvp
          exact ⟨du, dv, old h1, old h2, h3⟩
        · rw [List.mem_singleton] at q; exact absurd q hub
      prt := fun u hu v hv => by
        rcases List.mem_append.mp hv with q | q
        · obtain ⟨du, dv, h1, h2, h3⟩ := h.prt u hu v q
          exact ⟨du, dv, old h1, old h2, h3⟩
        · rw [List.mem_singleton] at q; subst q
          injection hu with hu; subst hu
          refine ⟨ds, ds + 1, old es, new, ⟨0, by omega⟩⟩
      pot := fun k φ hk => by
        obtain ⟨h1, h2⟩ := h.pot k φ hk
        refine ⟨h1, fun u du hu => ?_⟩
        have hu : dget (d ++ [(b, ds + 1)]) u = some du := hu
        rw [dget_app] at hu
        cases e2 : dget d u with
        | some v => rw [e2] at hu; injection hu with hu; subst hu; exact h2 u v e2
        | none =>
          rw [e2] at hu
          simp only at hu
          by_cases e3 : b = u
          · rw [if_pos e3] at hu
            have hu2 : ds + 1 = du := Option.some.inj hu
            subst e3
            rw [← hu2]
            have q1 := h2 s ds es
            have q3 := hk s hsp b hb hp
            have := Int.dvd_add q1 q3
            have e0 : ds - φ s + φ root + (φ s + 1 - φ b) = ds + 1 - φ b + φ root := by omega
            rw [e0] at this; exact this
          · rw [if_neg e3] at hu; cases hu }
theorem di_visits {s : Nat} : ∀ (cs bs : List Nat) (st : DSt), DI a p root (some s) bs st → (∀ b ∈ cs, b ∈ a s ∧ b ∈ p) → DI a p root (some s) (bs ++ cs) (cs.foldl (K58.visit s) st)
  | [], bs, st, h, _ => by rw [List.append_nil]; exact h
  | c :: cs, bs, st, h, hb => by
    have h1 := h.visit (hb c List.mem_cons_self).1 (hb c List.mem_cons_self).2
    have h2 := di_visits cs (bs ++ [c]) _ h1 fun b hb' => hb b (List.mem_cons_of_mem _ hb')
    rw [List.append_assoc] at h2
    exact h2
theorem DI.close {s : Nat} {bs : List Nat} {st : DSt} (h : DI a p root (some s) bs st) (hb : ∀ v ∈ a s, v ∈ p → v ∈ bs) : DI a p root none [] st where
  nd := h.nd
  rt0 := h.rt0
  sub := h.sub
  tk := h.tk
  own := fun x e => by cases e
  done := fun u hu hn _ v hv hvp => by
    by_cases e : u = s
    · exact h.prt u (by rw [e]) v (hb v (e ▸ hv) hvp)
    · exact h.done u hu hn (fun z => e (by injection z with z; exact z.symm)) v hv hvp
  prt := fun u e => by cases e
  pot := h.pot
/-- the measure: what is not yet met, twice, and what is still to do -/
def dmu (st : DSt) : Nat := 2 * (10 - st.1.length) + st.2.1.length
theorem visit_mu (s b : Nat) (st : DSt) (h : st.1.length < 10) : dmu (visit s st b) ≤ dmu st := by
  unfold visit
  split
  · exact Nat.le_refl _
  · simp [dmu]; omega
/-- what the period is -/
structure PerOk (a : Nat → List Nat) (p : List Nat) (g : Nat) : Prop where
  fits : ∃ φ : Nat → Int, Pot a p g φ
  most : ∀ k φ, Pot a p k φ → k ∣ g
theorem DI.end {d : Dep} {g : Nat} (h : DI a p root none [] (d, [], g)) (hall : ∀ x ∈ p, x ∈ d.map (·.1)) : PerOk a p g where
  fits := ⟨fun x => (dget d x).getD 0, fun u hu v hv hvp => by
    obtain ⟨du, dv, h1, h2, h3⟩ := h.done u (hall u hu) (by simp) (by simp) v hv hvp
    have h1 : dget d u = some du := h1
    have h2 : dget d v = some dv := h2
    show (g : Int) ∣ (dget d u).getD 0 + 1 - (dget d v).getD 0
    rw [h1, h2]; exact h3⟩
  most := fun k φ hk => (h.pot k φ hk).1
theorem di_all {L : List Nat} (A : Arr a L) {s0 : Nat} (hp : p = part a L s0) (hr : root ∈ p) {d : Dep} {g : Nat} (h : DI a p root none [] (d, [], g)) : ∀ x ∈ p, x ∈ d.map (·.1) := by
  subst hp
  have e := part_eq A hr
  have hr2 : root ∈ part a L root := part_self A (x := root) (by rw [e]; exact hr)
  have key : ∀ x ∈ far a L root, x ∈ far a L root ∧ (x ∈ part a L s0 → x ∈ d.map (·.1)) := by
    have step : ∀ u, u ∈ part a L s0 → u ∈ d.map (·.1) → ∀ v ∈ a u, v ∈ part a L s0 → v ∈ d.map (·.1) := fun u hu hk v hv hvp => by
      obtain ⟨du, dv, _, h2, _⟩ := h.done u hk (by simp) (by simp) v hv hvp
      exact dget_some h2
    refine far_least (P := fun x => x ∈ far a L root ∧ (x ∈ part a L s0 → x ∈ d.map (·.1))) (fun x hx => ⟨far_first root x hx, fun hxp => step root hr (dget_some h.rt0) x hx hxp⟩) (fun x ⟨h1, h2⟩ y hy => ⟨far_step A h1 y hy, fun hyp => ?_⟩)
    have hyr : root ∈ far a L y := by rw [← e] at hyp; exact (part_mem.mp hyp).2
    have hxr : root ∈ far a L x := far_trans A (far_first x y hy) hyr
    have hxp : x ∈ part a L s0 := by rw [← e]; exact part_mem.mpr ⟨h1, hxr⟩
    exact step x hxp (h2 hxp) y hy hyp
  intro x hx
  have hx' : x ∈ part a L root := by rw [e]; exact hx
  exact (key x (part_mem.mp hx').1).2 hx
end K58
set_option linter.all false
set_option maxRecDepth 100000
set_option maxHeartbeats 1000000
/-! Graphs of at most four nodes: strongly joined and with no depths up to a k: any two are joined by a walk of the one length. Printed by gen_m3.py. -/
namespace K58
abbrev Mat := List (List Bool)
def bit (M : Mat) (i j : Nat) : Bool := (M.getD i []).getD j false
def setB (M : Mat) (i j : Nat) (b : Bool) : Mat := M.set i ((M.getD i []).set j b)
theorem getD_set {α : Type} (l : List α) (i j : Nat) (x d : α) : (l.set i x).getD j d = if i = j ∧ j < l.length then x else l.getD j d := by
  rw [List.getD_eq_getElem?_getD, List.getD_eq_getElem?_getD, List.getElem?_set]
  by_cases h : i = j
  · subst h
    by_cases h2 : i < l.length
    · simp [h2]
    · simp [h2]
  · simp [h]
theorem bit_set (M : Mat) (i j : Nat) (b : Bool) (u v : Nat) : bit (setB M i j b) u v = bit M u v ∨ (u = i ∧ v = j ∧ bit (setB M i j b) u v = b) := by
  unfold bit setB
  rw [getD_set]
  by_cases h : i = u ∧ u < M.length
  · rw [if_pos h]
    obtain ⟨h1, h2⟩ := h
    subst h1
    rw [getD_set]
    by_cases h3 : j = v ∧ v < (M.getD i []).length
    · rw [if_pos h3]
      exact .inr ⟨rfl, h3.1.symm, rfl⟩
    · rw [if_neg h3]
      exact .inl rfl
  · rw [if_neg h]; exact .inl rfl
/-- one step of a set of nodes -/
def stp (z : List Bool) : Mat → List Bool → List Bool
  | row :: M, s :: S => if s = true then List.zipWith (· || ·) row (stp z M S) else stp z M S
  | _, _ => z
theorem zipWith_or : ∀ (a b : List Bool) (j : Nat), (List.zipWith (· || ·) a b).getD j false = true → a.getD j false = true ∨ b.getD j false = true
  | [], b, j, h => by simp at h
  | a :: as, [], j, h => by simp at h
  | a :: as, b :: bs, 0, h => by
    have h : (a || b) = true := h
    rcases Bool.or_eq_true _ _ ▸ h with q | q
    · exact .inl q
    · exact .inr q
  | a :: as, b :: bs, j + 1, h => zipWith_or as bs j h
theorem stp_sound {z : List Bool} (hz : ∀ j, z.getD j false = false) : ∀ (M : Mat) (S : List Bool) (j : Nat), (stp z M S).getD j false = true → ∃ i, S.getD i false = true ∧ bit M i j = true
  | [], S, j, h => by
    have h : z.getD j false = true := by cases S <;> exact h
    rw [hz] at h; cases h
  | row :: M, [], j, h => by
    have h : z.getD j false = true := h
    rw [hz] at h; cases h
  | row :: M, s :: S, j, h => by
    have back : (stp z M S).getD j false = true → ∃ i, (s :: S).getD i false = true ∧ bit (row :: M) i j = true := fun h => by
      obtain ⟨i, h1, h2⟩ := stp_sound hz M S j h
      exact ⟨i + 1, h1, h2⟩
    unfold stp at h
    by_cases hs : s = true
    · rw [if_pos hs] at h
      rcases zipWith_or _ _ _ h with q | q
      · exact ⟨0, hs, q⟩
      · exact back q
    · rw [if_neg hs] at h
      exact back h
def stps (z : List Bool) (M : Mat) : Nat → List Bool → List Bool
  | 0, S => S
  | t + 1, S => stp z M (stps z M t S)
/-- a walk of t steps among nodes below n -/
def Wlk (n : Nat) (E : Nat → Nat → Prop) : Nat → Nat → Nat → Prop
  | 0, i, j => i = j
  | t + 1, i, j => ∃ m, m < n ∧ Wlk n E t i m ∧ E m j
def unit (n i : Nat) : List Bool := (List.range n).map fun j => decide (j = i)
def zer (n : Nat) : List Bool := List.replicate n false
theorem zer_get (n j : Nat) : (zer n).getD j false = false := by
  unfold zer
  rw [List.getD_eq_getElem?_getD, List.getElem?_replicate]
  split <;> rfl
theorem unit_get {n i j : Nat} (h : (unit n i).getD j false = true) : j = i ∧ j < n := by
  unfold unit at h
  rw [List.getD_eq_getElem?_getD, List.getElem?_map] at h
  by_cases hj : j < n
  · rw [List.getElem?_range hj] at h
    simp at h
    exact ⟨h, hj⟩
  · rw [List.getElem?_eq_none (by simpa using hj)] at h
    simp at h
inductive Tr where
  | f
  | w (S : List Bool)
  | p (k : Nat) (φ : List Nat)
  | b (i j : Nat) (x y : Tr)
def isFull (n N : Nat) (M : Mat) : Bool := (List.range n).all fun i => (List.range n).all fun j => (stps (zer n) M N (unit n i)).getD j false
def isWeak (n : Nat) (M : Mat) (S : List Bool) : Bool := ((List.range n).any fun i => S.getD i false) && ((List.range n).any fun i => !S.getD i false) &&
  ((List.range n).all fun i => (List.range n).all fun j => !(S.getD i false && bit M i j) || S.getD j false)
def isPot (n k : Nat) (M : Mat) (φ : List Nat) : Bool := decide (2 ≤ k) && ((List.range n).all fun i => (List.range n).all fun j => !bit M i j || decide ((φ.getD i 0 + 1 + k * 9 - φ.getD j 0) % k = 0) && decide (φ.getD j 0 ≤ k * 9))
def chk (n N : Nat) : Tr → Mat → Mat → Bool
  | .f, lo, _ => isFull n N lo
  | .w S, _, hi => isWeak n hi S
  | .p k φ, _, hi => isPot n k hi φ
  | .b i j x y, lo, hi => chk n N x (setB lo i j true) hi && chk n N y lo (setB hi i j false)
structure Joined (n : Nat) (E : Nat → Nat → Prop) : Prop where
  strong : ∀ S : Nat → Prop, (∃ i, i < n ∧ S i) → (∀ i j, i < n → j < n → S i → E i j → S j) → ∀ j, j < n → S j
  nopot : ∀ (k : Nat) (φ : Nat → Int), 2 ≤ k → (∀ i j, i < n → j < n → E i j → (k : Int) ∣ φ i + 1 - φ j) → False
theorem full_sound {n N : Nat} {M : Mat} {E : Nat → Nat → Prop} (hM : ∀ i j, i < n → j < n → bit M i j = true → E i j) (hlen : ∀ i j, bit M i j = true → i < n ∧ j < n) (h : isFull n N M = true) : ∀ i j, i < n → j < n → Wlk n E N i j := by
  intro i j hi hj
  have h1 : (stps (zer n) M N (unit n i)).getD j false = true := List.all_eq_true.mp (List.all_eq_true.mp h i (List.mem_range.mpr hi)) j (List.mem_range.mpr hj)
  have key : ∀ t j, (stps (zer n) M t (unit n i)).getD j false = true → j < n ∧ Wlk n E t i j := by
    intro t
    induction t with
    | zero => intro j h; obtain ⟨h1, h2⟩ := unit_get h; exact ⟨h2, h1.symm⟩
    | succ t ih =>
      intro j h
      obtain ⟨m, h1, h2⟩ := stp_sound (zer_get n) M _ j h
      obtain ⟨h3, h4⟩ := ih m h1
      have hl := hlen m j h2
      exact ⟨hl.2, m, h3, h4, hM m j h3 hl.2 h2⟩
  exact (key N j h1).2
theorem chk_sound {n N : Nat} {E : Nat → Nat → Prop} (J : Joined n E) (dec : ∀ i j, E i j ∨ ¬ E i j) : ∀ (tr : Tr) (lo hi : Mat), (∀ i j, i < n → j < n → bit lo i j = true → E i j) → (∀ i j, bit lo i j = true → i < n ∧ j < n) → (∀ i j, i < n → j < n → E i j → bit hi i j = true) → chk n N tr lo hi = true →
    ∀ i j, i < n → j < n → Wlk n E N i j
  | .f, lo, hi, hlo, hll, hhi, h => full_sound hlo hll h
  | .w S, lo, hi, hlo, hll, hhi, h => by
    exfalso
    have h : isWeak n hi S = true := h
    unfold isWeak at h
    rw [Bool.and_eq_true, Bool.and_eq_true] at h
    obtain ⟨⟨h1, h2⟩, h3⟩ := h
    obtain ⟨i, hi1, hi2⟩ := List.any_eq_true.mp h1
    obtain ⟨j, hj1, hj2⟩ := List.any_eq_true.mp h2
    have := J.strong (fun i => S.getD i false = true) ⟨i, List.mem_range.mp hi1, hi2⟩ (fun u v hu hv hs he => by
      have q := List.all_eq_true.mp (List.all_eq_true.mp h3 u (List.mem_range.mpr hu)) v (List.mem_range.mpr hv)
      have hs : S.getD u false = true := hs
      rw [hs, hhi u v hu hv he] at q
      simpa using q) j (List.mem_range.mp hj1)
    have this : S.getD j false = true := this
    rw [this] at hj2; cases hj2
  | .p k φ, lo, hi, hlo, hll, hhi, h => by
    exfalso
    have h : isPot n k hi φ = true := h
    unfold isPot at h
    rw [Bool.and_eq_true] at h
    obtain ⟨h1, h2⟩ := h
    have hk : 2 ≤ k := of_decide_eq_true h1
    refine J.nopot k (fun i => (φ.getD i 0 : Nat)) hk fun u v hu hv he => ?_
    have q := List.all_eq_true.mp (List.all_eq_true.mp h2 u (List.mem_range.mpr hu)) v (List.mem_range.mpr hv)
    rw [hhi u v hu hv he] at q
    simp only [Bool.not_true, Bool.false_or, Bool.and_eq_true, decide_eq_true_eq] at q
    obtain ⟨q1, q2⟩ := q
    have q3 : (k : Int) ∣ (((φ.getD u 0 + 1 + k * 9 - φ.getD v 0 : Nat)) : Int) := Int.natCast_dvd_natCast.mpr (Nat.dvd_of_mod_eq_zero q1)
    have q4 : (((φ.getD u 0 + 1 + k * 9 - φ.getD v 0 : Nat)) : Int) = (φ.getD u 0 : Nat) + 1 - (φ.getD v 0 : Nat) + (k : Int) * 9 := by
      rw [Int.ofNat_sub (by omega)]
      simp only [Int.natCast_add, Int.natCast_mul]
      omega
    rw [q4] at q3
    have q5 := Int.dvd_sub q3 (Int.dvd_mul_right (k : Int) 9)
    rw [Int.add_sub_cancel] at q5
    exact q5
  | .b i j x y, lo, hi, hlo, hll, hhi, h => by
    have h : (chk n N x (setB lo i j true) hi && chk n N y lo (setB hi i j false)) = true := h
    rw [Bool.and_eq_true] at h
    rcases dec i j with d | d
    · by_cases hij : i < n ∧ j < n
      · refine chk_sound J dec x (setB lo i j true) hi (fun u v hu hv hb => ?_) (fun u v hb => ?_) hhi h.1
        · rcases bit_set lo i j true u v with q | ⟨q1, q2, _⟩
          · rw [q] at hb; exact hlo u v hu hv hb
          · rw [q1, q2]; exact d
        · rcases bit_set lo i j true u v with q | ⟨q1, q2, _⟩
          · rw [q] at hb; exact hll u v hb
          · rw [q1, q2]; exact hij
      · refine chk_sound J dec y lo (setB hi i j false) hlo hll (fun u v hu hv he => ?_) h.2
        rcases bit_set hi i j false u v with q | ⟨q1, q2, _⟩
        · rw [q]; exact hhi u v hu hv he
        · exact absurd ⟨q1 ▸ hu, q2 ▸ hv⟩ hij
    · refine chk_sound J dec y lo (setB hi i j false) hlo hll (fun u v hu hv he => ?_) h.2
      rcases bit_set hi i j false u v with q | ⟨q1, q2, _⟩
      · rw [q]; exact hhi u v hu hv he
      · rw [q1, q2] at he; exact absurd he d
def allM (n : Nat) (b : Bool) : Mat := List.replicate n (List.replicate n b)
theorem bit_all (n : Nat) (b : Bool) (i j : Nat) : bit (allM n b) i j = (b && decide (i < n) && decide (j < n)) := by
  have rep : ∀ {α : Type} (m i : Nat) (x d : α), (List.replicate m x).getD i d = if i < m then x else d := fun m i x d => by
    rw [List.getD_eq_getElem?_getD, List.getElem?_replicate]
    split <;> rfl
  unfold bit allM
  rw [rep]
  by_cases hi : i < n
  · rw [if_pos hi, rep]
    by_cases hj : j < n
    · rw [if_pos hj]; simp [hi, hj]
    · rw [if_neg hj]; simp [hj]
  · rw [if_neg hi]; simp [hi]
def tree1 : Tr := (.b 0 0 .f (.p 2 [0]))
theorem tree1_ok : chk 1 1 tree1 (allM 1 false) (allM 1 true) = true := by decide +kernel
def tree2 : Tr := (.b 0 1 (.b 1 0 (.b 0 0 .f (.b 1 1 .f (.p 2 [0, 1]))) (.w [false, true])) (.w [true, false]))
theorem tree2_ok : chk 2 2 tree2 (allM 2 false) (allM 2 true) = true := by decide +kernel
def tree3 : Tr := (.b 0 1 (.b 1 2 (.b 2 0 (.b 0 2 .f (.b 1 0 .f (.b 2 1 .f (.b 0 0 .f (.b 1 1 .f (.b 2 2 .f (.p 3 [0, 1, 2]))))))) (.b 0 2 (.b 1 0 (.b 2 1 .f (.w [false, false, true])) (.w [false, true, true])) (.b 1 0 (.b 2 1 (.b 0 0 .f (.b 1 1 .f (.b 2 2 .f (.p 2 [0, 1, 0])))) (.w [false, false, true])) (.w [false, true, true])))) (.b 2 0 (.b 0 2 (.b 1 0 (.b 2 1 .f (.b 0 0 .f (.b 1 1 .f (.b 2 2 .f (.p 2 [0, 1, 1]))))) (.w [false, true, false])) (.w [true, true, false])) (.b 0 2 (.b 1 0 (.b 2 1 .f (.w [false, false, true])) (.w [false, true, false])) (.w [true, true, false])))) (.b 1 2 (.b 2 0 (.b 0 2 (.b 1 0 (.b 2 1 .f (.w [true, false, true])) (.b 2 1 (.b 0 0 .f (.b 1 1 .f (.b 2 2 .f (.p 2 [0, 0, 1])))) (.w [true, false, true]))) (.w [true, false, false])) (.b 0 2 (.b 1 0 (.b 2 1 .f (.w [false, false, true])) (.w [false, true, true])) (.w [true, false, false]))) (.b 2 0 (.b 0 2 (.b 1 0 (.b 2 1 .f (.w [true, false, true])) (.w [false, true, false])) (.w [true, false, false])) (.b 0 2 (.b 1 0 (.b 2 1 (.b 0 0 .f (.b 1 1 .f (.b 2 2 .f (.p 3 [0, 2, 1])))) (.w [false, false, true])) (.w [false, true, false])) (.w [true, false, false])))))
theorem tree3_ok : chk 3 5 tree3 (allM 3 false) (allM 3 true) = true := by decide +kernel
def tree4 : Tr := (.b 0 1 (.b 1 2 (.b 2 3 (.b 3 0 (.b 0 2 .f (.b 1 3 .f (.b 2 0 .f (.b 3 1 .f (.b 0 3 (.b 1 0 (.b 2 1 (.b 3 2 (.b 0 0 .f (.b 1 1 .f (.b 2 2 .f (.b 3 3 .f (.p 2 [0, 1, 0, 1]))))) (.b 0 0 .f (.b 1 1 .f (.b 2 2 .f (.b 3 3 .f (.p 2 [0, 1, 0, 1])))))) (.b 3 2 (.b 0 0 .f (.b 1 1 .f (.b 2 2 .f (.b 3 3 .f (.p 2 [0, 1, 0, 1]))))) (.b 0 0 .f (.b 1 1 .f (.b 2 2 .f (.b 3 3 .f (.p 2 [0, 1, 0, 1]))))))) (.b 2 1 (.b 3 2 (.b 0 0 .f (.b 1 1 .f (.b 2 2 .f (.b 3 3 .f (.p 2 [0, 1, 0, 1]))))) (.b 0 0 .f (.b 1 1 .f (.b 2 2 .f (.b 3 3 .f (.p 2 [0, 1, 0, 1])))))) (.b 3 2 (.b 0 0 .f (.b 1 1 .f (.b 2 2 .f (.b 3 3 .f (.p 2 [0, 1, 0, 1]))))) (.b 0 0 .f (.b 1 1 .f (.b 2 2 .f (.b 3 3 .f (.p 2 [0, 1, 0, 1])))))))) (.b 1 0 (.b 2 1 (.b 3 2 (.b 0 0 .f (.b 1 1 .f (.b 2 2 .f (.b 3 3 .f (.p 2 [0, 1, 0, 1]))))) (.b 0 0 .f (.b 1 1 .f (.b 2 2 .f (.b 3 3 .f (.p 2 [0, 1, 0, 1])))))) (.b 3 2 (.b 0 0 .f (.b 1 1 .f (.b 2 2 .f (.b 3 3 .f (.p 2 [0, 1, 0, 1]))))) (.b 0 0 .f (.b 1 1 .f (.b 2 2 .f (.b 3 3 .f (.p 2 [0, 1, 0, 1]))))))) (.b 2 1 (.b 3 2 (.b 0 0 .f (.b 1 1 .f (.b 2 2 .f (.b 3 3 .f (.p 2 [0, 1, 0, 1]))))) (.b 0 0 .f (.b 1 1 .f (.b 2 2 .f (.b 3 3 .f (.p 2 [0, 1, 0, 1])))))) (.b 3 2 (.b 0 0 .f (.b 1 1 .f (.b 2 2 .f (.b 3 3 .f (.p 2 [0, 1, 0, 1]))))) (.b 0 0 .f (.b 1 1 .f (.b 2 2 .f (.b 3 3 .f (.p 2 [0, 1, 0, 1]))))))))))))) (.b 0 2 (.b 1 3 (.b 2 0 (.b 3 1 .f (.b 0 3 (.b 1 0 (.b 2 1 (.b 3 2 .f (.w [false, false, false, true])) (.b 3 2 .f (.w [false, false, false, true]))) (.b 2 1 (.b 3 2 .f (.w [false, false, false, true])) (.b 3 2 .f (.w [false, false, false, true])))) (.b 1 0 (.b 2 1 (.b 3 2 .f (.w [false, false, false, true])) (.b 3 2 .f (.w [false, false, false, true]))) (.b 2 1 (.b 3 2 .f (.w [false, false, false, true])) (.b 3 2 .f (.w [false, false, false, true])))))) (.b 3 1 (.b 0 3 (.b 1 0 .f (.w [false, true, true, true])) (.b 1 0 .f (.w [false, true, true, true]))) (.b 0 3 (.b 1 0 (.b 2 1 (.b 3 2 .f (.w [false, false, false, true])) (.w [false, false, true, true])) (.w [false, true, true, true])) (.b 1 0 (.b 2 1 (.b 3 2 .f (.w [false, false, false, true])) (.w [false, false, true, true])) (.w [false, true, true, true]))))) (.b 2 0 (.b 3 1 .f (.b 0 3 (.b 1 0 (.b 2 1 (.b 3 2 .f (.w [false, false, false, true])) (.b 3 2 .f (.w [false, false, false, true]))) (.b 2 1 (.b 3 2 .f (.w [false, false, false, true])) (.b 3 2 .f (.w [false, false, false, true])))) (.b 1 0 (.b 2 1 (.b 3 2 .f (.w [false, false, false, true])) (.b 3 2 .f (.w [false, false, false, true]))) (.b 2 1 (.b 3 2 .f (.w [false, false, false, true])) (.b 3 2 .f (.w [false, false, false, true])))))) (.b 3 1 (.b 0 3 (.b 1 0 .f (.w [false, true, true, true])) (.b 1 0 .f (.w [false, true, true, true]))) (.b 0 3 (.b 1 0 (.b 2 1 (.b 3 2 .f (.w [false, false, false, true])) (.w [false, false, true, true])) (.w [false, true, true, true])) (.b 1 0 (.b 2 1 (.b 3 2 .f (.w [false, false, false, true])) (.w [false, false, true, true])) (.w [false, true, true, true])))))) (.b 1 3 (.b 2 0 (.b 3 1 .f (.b 0 3 (.b 1 0 (.b 2 1 (.b 3 2 .f (.w [false, false, false, true])) (.b 3 2 .f (.w [false, false, false, true]))) (.b 2 1 (.b 3 2 .f (.w [false, false, false, true])) (.b 3 2 .f (.w [false, false, false, true])))) (.b 1 0 (.b 2 1 (.b 3 2 .f (.w [false, false, false, true])) (.b 3 2 .f (.w [false, false, false, true]))) (.b 2 1 (.b 3 2 .f (.w [false, false, false, true])) (.b 3 2 .f (.w [false, false, false, true])))))) (.b 3 1 (.b 0 3 (.b 1 0 .f (.w [false, true, true, true])) (.b 1 0 .f (.w [false, true, true, true]))) (.b 0 3 (.b 1 0 (.b 2 1 (.b 3 2 .f (.w [false, false, false, true])) (.w [false, false, true, true])) (.w [false, true, true, true])) (.b 1 0 (.b 2 1 (.b 3 2 .f (.w [false, false, false, true])) (.w [false, false, true, true])) (.w [false, true, true, true]))))) (.b 2 0 (.b 3 1 (.b 0 3 .f (.b 1 0 .f (.b 2 1 .f (.b 3 2 .f (.b 0 0 .f (.b 1 1 .f (.b 2 2 .f (.b 3 3 .f (.p 3 [0, 1, 2, 0]))))))))) (.b 0 3 (.b 1 0 (.b 2 1 (.b 3 2 .f (.w [false, false, false, true])) (.b 3 2 .f (.w [false, false, false, true]))) (.b 2 1 (.b 3 2 .f (.w [false, false, false, true])) (.b 3 2 .f (.w [false, false, false, true])))) (.b 1 0 (.b 2 1 (.b 3 2 .f (.w [false, false, false, true])) (.b 3 2 .f (.w [false, false, false, true]))) (.b 2 1 (.b 3 2 .f (.w [false, false, false, true])) (.b 3 2 .f (.w [false, false, false, true])))))) (.b 3 1 (.b 0 3 (.b 1 0 .f (.w [false, true, true, true])) (.b 1 0 .f (.w [false, true, true, true]))) (.b 0 3 (.b 1 0 (.b 2 1 (.b 3 2 (.b 0 0 .f (.b 1 1 .f (.b 2 2 .f (.b 3 3 .f (.p 2 [0, 1, 0, 1]))))) (.w [false, false, false, true])) (.w [false, false, true, true])) (.w [false, true, true, true])) (.b 1 0 (.b 2 1 (.b 3 2 (.b 0 0 .f (.b 1 1 .f (.b 2 2 .f (.b 3 3 .f (.p 2 [0, 1, 0, 1]))))) (.w [false, false, false, true])) (.w [false, false, true, true])) (.w [false, true, true, true])))))))) (.b 3 0 (.b 0 2 (.b 1 3 (.b 2 0 .f (.b 3 1 (.b 0 3 (.b 1 0 (.b 2 1 .f (.w [false, false, true, false])) (.b 2 1 .f (.w [false, false, true, false]))) (.b 1 0 (.b 2 1 .f (.w [false, false, true, false])) (.b 2 1 .f (.w [false, false, true, false])))) (.b 0 3 (.b 1 0 (.b 2 1 .f (.w [false, false, true, false])) (.b 2 1 .f (.w [false, false, true, false]))) (.b 1 0 (.b 2 1 .f (.w [false, false, true, false])) (.b 2 1 .f (.w [false, false, true, false])))))) (.b 2 0 (.b 3 1 (.b 0 3 .f (.w [true, true, true, false])) (.b 0 3 .f (.w [true, true, true, false]))) (.b 3 1 (.b 0 3 (.b 1 0 (.b 2 1 .f (.w [false, false, true, false])) (.w [false, true, true, false])) (.w [true, true, true, false])) (.b 0 3 (.b 1 0 (.b 2 1 .f (.w [false, false, true, false])) (.w [false, true, true, false])) (.w [true, true, true, false]))))) (.b 1 3 (.b 2 0 (.b 3 1 .f (.b 0 3 .f (.b 1 0 .f (.b 2 1 .f (.b 3 2 .f (.b 0 0 .f (.b 1 1 .f (.b 2 2 .f (.b 3 3 .f (.p 3 [0, 1, 2, 2])))))))))) (.b 3 1 (.b 0 3 (.b 1 0 (.b 2 1 .f (.w [false, false, true, false])) (.b 2 1 .f (.w [false, false, true, false]))) (.b 1 0 (.b 2 1 .f (.w [false, false, true, false])) (.b 2 1 .f (.w [false, false, true, false])))) (.b 0 3 (.b 1 0 (.b 2 1 .f (.w [false, false, true, false])) (.b 2 1 .f (.w [false, false, true, false]))) (.b 1 0 (.b 2 1 .f (.w [false, false, true, false])) (.b 2 1 .f (.w [false, false, true, false])))))) (.b 2 0 (.b 3 1 (.b 0 3 .f (.w [true, true, true, false])) (.b 0 3 .f (.w [true, true, true, false]))) (.b 3 1 (.b 0 3 (.b 1 0 (.b 2 1 .f (.w [false, false, true, false])) (.w [false, true, true, false])) (.w [true, true, true, false])) (.b 0 3 (.b 1 0 (.b 2 1 (.b 3 2 (.b 0 0 .f (.b 1 1 .f (.b 2 2 .f (.b 3 3 .f (.p 2 [0, 1, 0, 1]))))) (.b 0 0 .f (.b 1 1 .f (.b 2 2 .f (.b 3 3 .f (.p 2 [0, 1, 0, 1])))))) (.w [false, false, true, false])) (.w [false, true, true, false])) (.w [true, true, true, false])))))) (.b 0 2 (.b 1 3 (.b 2 0 (.b 3 1 .f (.b 0 3 (.b 1 0 (.b 2 1 (.b 3 2 .f (.w [false, false, false, true])) (.b 3 2 .f (.w [false, false, false, true]))) (.b 2 1 (.b 3 2 .f (.w [false, false, false, true])) (.b 3 2 .f (.w [false, false, false, true])))) (.b 1 0 (.b 2 1 (.b 3 2 .f (.w [false, false, false, true])) (.b 3 2 .f (.w [false, false, false, true]))) (.b 2 1 (.b 3 2 .f (.w [false, false, false, true])) (.b 3 2 .f (.w [false, false, false, true])))))) (.b 3 1 (.b 0 3 (.b 1 0 (.b 2 1 .f (.w [false, false, true, false])) (.w [false, true, true, true])) (.b 1 0 (.b 2 1 .f (.w [false, false, true, false])) (.w [false, true, true, true]))) (.b 0 3 (.b 1 0 (.b 2 1 (.b 3 2 .f (.w [false, false, false, true])) (.w [false, false, true, false])) (.w [false, true, true, true])) (.b 1 0 (.b 2 1 (.b 3 2 .f (.w [false, false, false, true])) (.w [false, false, true, false])) (.w [false, true, true, true]))))) (.b 2 0 (.b 3 1 (.b 0 3 .f (.w [true, true, true, false])) (.b 0 3 (.b 1 0 (.b 2 1 (.b 3 2 .f (.w [false, false, false, true])) (.b 3 2 .f (.w [false, false, false, true]))) (.b 2 1 (.b 3 2 .f (.w [false, false, false, true])) (.b 3 2 .f (.w [false, false, false, true])))) (.w [true, true, true, false]))) (.b 3 1 (.b 0 3 (.b 1 0 (.b 2 1 .f (.w [false, false, true, false])) (.w [false, true, true, false])) (.w [true, true, true, false])) (.b 0 3 (.b 1 0 (.b 2 1 (.b 3 2 .f (.w [false, false, false, true])) (.w [false, false, true, false])) (.w [false, true, true, false])) (.w [true, true, true, false]))))) (.b 1 3 (.b 2 0 (.b 3 1 .f (.b 0 3 (.b 1 0 (.b 2 1 (.b 3 2 .f (.w [false, false, false, true])) (.b 3 2 .f (.w [false, false, false, true]))) (.b 2 1 (.b 3 2 .f (.w [false, false, false, true])) (.b 3 2 .f (.w [false, false, false, true])))) (.b 1 0 (.b 2 1 (.b 3 2 .f (.w [false, false, false, true])) (.b 3 2 .f (.w [false, false, false, true]))) (.b 2 1 (.b 3 2 .f (.w [false, false, false, true])) (.b 3 2 .f (.w [false, false, false, true])))))) (.b 3 1 (.b 0 3 (.b 1 0 (.b 2 1 .f (.w [false, false, true, false])) (.w [false, true, true, true])) (.b 1 0 (.b 2 1 (.b 3 2 .f (.b 0 0 .f (.b 1 1 .f (.b 2 2 .f (.b 3 3 .f (.p 2 [0, 1, 0, 0])))))) (.w [false, false, true, false])) (.w [false, true, true, true]))) (.b 0 3 (.b 1 0 (.b 2 1 (.b 3 2 .f (.w [false, false, false, true])) (.w [false, false, true, false])) (.w [false, true, true, true])) (.b 1 0 (.b 2 1 (.b 3 2 .f (.w [false, false, false, true])) (.w [false, false, true, false])) (.w [false, true, true, true]))))) (.b 2 0 (.b 3 1 (.b 0 3 .f (.w [true, true, true, false])) (.b 0 3 (.b 1 0 (.b 2 1 (.b 3 2 .f (.w [false, false, false, true])) (.b 3 2 .f (.w [false, false, false, true]))) (.b 2 1 (.b 3 2 .f (.w [false, false, false, true])) (.b 3 2 (.b 0 0 .f (.b 1 1 .f (.b 2 2 .f (.b 3 3 .f (.p 3 [0, 1, 2, 1]))))) (.w [false, false, false, true])))) (.w [true, true, true, false]))) (.b 3 1 (.b 0 3 (.b 1 0 (.b 2 1 .f (.w [false, false, true, false])) (.w [false, true, true, false])) (.w [true, true, true, false])) (.b 0 3 (.b 1 0 (.b 2 1 (.b 3 2 (.b 0 0 .f (.b 1 1 .f (.b 2 2 .f (.b 3 3 .f (.p 2 [0, 1, 0, 1]))))) (.w [false, false, false, true])) (.w [false, false, true, false])) (.w [false, true, true, false])) (.w [true, true, true, false])))))))) (.b 2 3 (.b 3 0 (.b 0 2 (.b 1 3 (.b 2 0 .f (.b 3 1 .f (.b 0 3 .f (.b 1 0 .f (.b 2 1 .f (.b 3 2 .f (.b 0 0 .f (.b 1 1 .f (.b 2 2 .f (.b 3 3 .f (.p 3 [0, 1, 1, 2]))))))))))) (.b 2 0 (.b 3 1 (.b 0 3 (.b 1 0 .f (.w [false, true, false, false])) (.b 1 0 .f (.w [false, true, false, false]))) (.b 0 3 (.b 1 0 .f (.w [false, true, false, false])) (.b 1 0 .f (.w [false, true, false, false])))) (.b 3 1 (.b 0 3 (.b 1 0 .f (.w [false, true, false, false])) (.b 1 0 .f (.w [false, true, false, false]))) (.b 0 3 (.b 1 0 .f (.w [false, true, false, false])) (.b 1 0 .f (.w [false, true, false, false])))))) (.b 1 3 (.b 2 0 (.b 3 1 (.b 0 3 (.b 1 0 (.b 2 1 (.b 3 2 .f (.w [true, true, false, true])) (.b 3 2 .f (.w [true, true, false, true]))) (.b 2 1 (.b 3 2 .f (.w [true, true, false, true])) (.b 3 2 .f (.w [true, true, false, true])))) (.b 1 0 (.b 2 1 (.b 3 2 .f (.w [true, true, false, true])) (.b 3 2 .f (.w [true, true, false, true]))) (.b 2 1 (.b 3 2 .f (.w [true, true, false, true])) (.b 3 2 .f (.w [true, true, false, true]))))) (.b 0 3 (.b 1 0 (.b 2 1 (.b 3 2 .f (.w [true, true, false, true])) (.b 3 2 .f (.w [true, true, false, true]))) (.b 2 1 (.b 3 2 .f (.w [true, true, false, true])) (.b 3 2 .f (.w [true, true, false, true])))) (.b 1 0 (.b 2 1 (.b 3 2 .f (.w [true, true, false, true])) (.b 3 2 .f (.w [true, true, false, true]))) (.b 2 1 (.b 3 2 .f (.w [true, true, false, true])) (.b 3 2 .f (.w [true, true, false, true])))))) (.b 3 1 (.b 0 3 (.b 1 0 (.b 2 1 (.b 3 2 .f (.w [true, true, false, true])) (.b 3 2 .f (.w [true, true, false, true]))) (.b 2 1 (.b 3 2 .f (.w [true, true, false, true])) (.b 3 2 .f (.w [true, true, false, true])))) (.b 1 0 (.b 2 1 (.b 3 2 .f (.w [true, true, false, true])) (.b 3 2 .f (.w [true, true, false, true]))) (.b 2 1 (.b 3 2 .f (.w [true, true, false, true])) (.b 3 2 .f (.w [true, true, false, true]))))) (.b 0 3 (.b 1 0 (.b 2 1 (.b 3 2 .f (.w [true, true, false, true])) (.b 3 2 .f (.w [true, true, false, true]))) (.b 2 1 (.b 3 2 .f (.w [true, true, false, true])) (.b 3 2 .f (.w [true, true, false, true])))) (.b 1 0 (.b 2 1 (.b 3 2 .f (.w [true, true, false, true])) (.b 3 2 .f (.w [true, true, false, true]))) (.b 2 1 (.b 3 2 .f (.w [true, true, false, true])) (.b 3 2 .f (.w [true, true, false, true]))))))) (.b 2 0 (.b 3 1 (.b 0 3 (.b 1 0 (.b 2 1 (.b 3 2 .f (.w [true, true, false, true])) (.b 3 2 .f (.w [true, true, false, true]))) (.w [false, true, false, false])) (.w [true, true, false, false])) (.b 0 3 (.b 1 0 (.b 2 1 (.b 3 2 .f (.w [true, true, false, true])) (.b 3 2 .f (.w [true, true, false, true]))) (.w [false, true, false, false])) (.w [true, true, false, false]))) (.b 3 1 (.b 0 3 (.b 1 0 (.b 2 1 (.b 3 2 .f (.w [true, true, false, true])) (.b 3 2 .f (.w [true, true, false, true]))) (.w [false, true, false, false])) (.w [true, true, false, false])) (.b 0 3 (.b 1 0 (.b 2 1 (.b 3 2 (.b 0 0 .f (.b 1 1 .f (.b 2 2 .f (.b 3 3 .f (.p 2 [0, 1, 0, 1]))))) (.w [true, true, false, true])) (.b 3 2 (.b 0 0 .f (.b 1 1 .f (.b 2 2 .f (.b 3 3 .f (.p 2 [0, 1, 0, 1]))))) (.w [true, true, false, true]))) (.w [false, true, false, false])) (.w [true, true, false, false])))))) (.b 0 2 (.b 1 3 (.b 2 0 (.b 3 1 (.b 0 3 (.b 1 0 .f (.b 2 1 (.b 3 2 .f (.w [false, true, false, true])) (.b 3 2 .f (.w [false, true, false, true])))) (.b 1 0 (.b 2 1 .f (.b 3 2 (.b 0 0 .f (.b 1 1 .f (.b 2 2 .f (.b 3 3 .f (.p 2 [0, 1, 1, 0]))))) (.b 0 0 .f (.b 1 1 .f (.b 2 2 .f (.b 3 3 .f (.p 2 [0, 1, 1, 0]))))))) (.b 2 1 (.b 3 2 .f (.w [false, true, false, true])) (.b 3 2 (.b 0 0 .f (.b 1 1 .f (.b 2 2 .f (.b 3 3 .f (.p 2 [0, 1, 1, 0]))))) (.w [false, true, false, true]))))) (.b 0 3 (.b 1 0 (.b 2 1 (.b 3 2 .f (.w [false, false, false, true])) (.b 3 2 .f (.w [false, false, false, true]))) (.b 2 1 (.b 3 2 .f (.w [false, false, false, true])) (.b 3 2 .f (.w [false, false, false, true])))) (.b 1 0 (.b 2 1 (.b 3 2 .f (.w [false, false, false, true])) (.b 3 2 (.b 0 0 .f (.b 1 1 .f (.b 2 2 .f (.b 3 3 .f (.p 2 [0, 1, 1, 0]))))) (.w [false, false, false, true]))) (.b 2 1 (.b 3 2 .f (.w [false, false, false, true])) (.b 3 2 (.b 0 0 .f (.b 1 1 .f (.b 2 2 .f (.b 3 3 .f (.p 2 [0, 1, 1, 0]))))) (.w [false, false, false, true])))))) (.b 3 1 (.b 0 3 (.b 1 0 .f (.w [false, true, true, true])) (.b 1 0 (.b 2 1 .f (.b 3 2 (.b 0 0 .f (.b 1 1 .f (.b 2 2 .f (.b 3 3 .f (.p 2 [0, 1, 1, 0]))))) (.b 0 0 .f (.b 1 1 .f (.b 2 2 .f (.b 3 3 .f (.p 2 [0, 1, 1, 0]))))))) (.w [false, true, true, true]))) (.b 0 3 (.b 1 0 (.b 2 1 (.b 3 2 .f (.w [false, false, false, true])) (.w [false, false, true, true])) (.w [false, true, true, true])) (.b 1 0 (.b 2 1 (.b 3 2 .f (.w [false, false, false, true])) (.w [false, false, true, true])) (.w [false, true, true, true]))))) (.b 2 0 (.b 3 1 (.b 0 3 (.b 1 0 .f (.w [false, true, false, false])) (.b 1 0 (.b 2 1 .f (.b 3 2 (.b 0 0 .f (.b 1 1 .f (.b 2 2 .f (.b 3 3 .f (.p 2 [0, 1, 1, 0]))))) (.b 0 0 .f (.b 1 1 .f (.b 2 2 .f (.b 3 3 .f (.p 2 [0, 1, 1, 0]))))))) (.w [false, true, false, false]))) (.b 0 3 (.b 1 0 (.b 2 1 (.b 3 2 .f (.w [false, false, false, true])) (.b 3 2 .f (.w [false, false, false, true]))) (.w [false, true, false, false])) (.b 1 0 (.b 2 1 (.b 3 2 .f (.w [false, false, false, true])) (.b 3 2 (.b 0 0 .f (.b 1 1 .f (.b 2 2 .f (.b 3 3 .f (.p 2 [0, 1, 1, 0]))))) (.w [false, false, false, true]))) (.w [false, true, false, false])))) (.b 3 1 (.b 0 3 (.b 1 0 .f (.w [false, true, false, false])) (.b 1 0 (.b 2 1 .f (.b 3 2 (.b 0 0 .f (.b 1 1 .f (.b 2 2 .f (.b 3 3 .f (.p 2 [0, 1, 1, 0]))))) (.b 0 0 .f (.b 1 1 .f (.b 2 2 .f (.b 3 3 .f (.p 2 [0, 1, 1, 0]))))))) (.w [false, true, false, false]))) (.b 0 3 (.b 1 0 (.b 2 1 (.b 3 2 .f (.w [false, false, false, true])) (.w [false, false, true, true])) (.w [false, true, false, false])) (.b 1 0 (.b 2 1 (.b 3 2 .f (.w [false, false, false, true])) (.w [false, false, true, true])) (.w [false, true, false, false])))))) (.b 1 3 (.b 2 0 (.b 3 1 (.b 0 3 (.b 1 0 (.b 2 1 (.b 3 2 .f (.w [true, true, false, true])) (.b 3 2 .f (.w [true, true, false, true]))) (.b 2 1 (.b 3 2 .f (.w [false, true, false, true])) (.b 3 2 .f (.w [false, true, false, true])))) (.b 1 0 (.b 2 1 (.b 3 2 .f (.w [true, true, false, true])) (.b 3 2 (.b 0 0 .f (.b 1 1 .f (.b 2 2 .f (.b 3 3 .f (.p 2 [0, 1, 1, 0]))))) (.w [true, true, false, true]))) (.b 2 1 (.b 3 2 .f (.w [false, true, false, true])) (.b 3 2 (.b 0 0 .f (.b 1 1 .f (.b 2 2 .f (.b 3 3 .f (.p 2 [0, 1, 1, 0]))))) (.w [false, true, false, true]))))) (.b 0 3 (.b 1 0 (.b 2 1 (.b 3 2 .f (.w [false, false, false, true])) (.b 3 2 .f (.w [false, false, false, true]))) (.b 2 1 (.b 3 2 .f (.w [false, false, false, true])) (.b 3 2 .f (.w [false, false, false, true])))) (.b 1 0 (.b 2 1 (.b 3 2 .f (.w [false, false, false, true])) (.b 3 2 (.b 0 0 .f (.b 1 1 .f (.b 2 2 .f (.b 3 3 .f (.p 2 [0, 1, 1, 0]))))) (.w [false, false, false, true]))) (.b 2 1 (.b 3 2 .f (.w [false, false, false, true])) (.b 3 2 (.b 0 0 .f (.b 1 1 .f (.b 2 2 .f (.b 3 3 .f (.p 2 [0, 1, 1, 0]))))) (.w [false, false, false, true])))))) (.b 3 1 (.b 0 3 (.b 1 0 (.b 2 1 (.b 3 2 .f (.w [true, true, false, true])) (.b 3 2 .f (.w [true, true, false, true]))) (.w [false, true, true, true])) (.b 1 0 (.b 2 1 (.b 3 2 .f (.w [true, true, false, true])) (.b 3 2 (.b 0 0 .f (.b 1 1 .f (.b 2 2 .f (.b 3 3 .f (.p 2 [0, 1, 1, 0]))))) (.w [true, true, false, true]))) (.w [false, true, true, true]))) (.b 0 3 (.b 1 0 (.b 2 1 (.b 3 2 .f (.w [false, false, false, true])) (.w [false, false, true, true])) (.w [false, true, true, true])) (.b 1 0 (.b 2 1 (.b 3 2 .f (.w [false, false, false, true])) (.w [false, false, true, true])) (.w [false, true, true, true]))))) (.b 2 0 (.b 3 1 (.b 0 3 (.b 1 0 (.b 2 1 (.b 3 2 .f (.w [true, true, false, true])) (.b 3 2 .f (.w [true, true, false, true]))) (.w [false, true, false, false])) (.w [true, true, false, false])) (.b 0 3 (.b 1 0 (.b 2 1 (.b 3 2 .f (.w [false, false, false, true])) (.b 3 2 .f (.w [false, false, false, true]))) (.w [false, true, false, false])) (.w [true, true, false, false]))) (.b 3 1 (.b 0 3 (.b 1 0 (.b 2 1 (.b 3 2 .f (.w [true, true, false, true])) (.b 3 2 .f (.w [true, true, false, true]))) (.w [false, true, false, false])) (.w [true, true, false, false])) (.b 0 3 (.b 1 0 (.b 2 1 (.b 3 2 (.b 0 0 .f (.b 1 1 .f (.b 2 2 .f (.b 3 3 .f (.p 2 [0, 1, 0, 1]))))) (.w [false, false, false, true])) (.w [false, false, true, true])) (.w [false, true, false, false])) (.w [true, true, false, false]))))))) (.b 3 0 (.b 0 2 (.b 1 3 (.b 2 0 .f (.b 3 1 (.b 0 3 (.b 1 0 (.b 2 1 .f (.w [false, false, true, false])) (.b 2 1 .f (.w [false, false, true, false]))) (.b 1 0 (.b 2 1 .f (.w [false, false, true, false])) (.b 2 1 .f (.w [false, false, true, false])))) (.b 0 3 (.b 1 0 (.b 2 1 .f (.w [false, false, true, false])) (.b 2 1 .f (.w [false, false, true, false]))) (.b 1 0 (.b 2 1 .f (.w [false, false, true, false])) (.b 2 1 .f (.w [false, false, true, false])))))) (.b 2 0 (.b 3 1 (.b 0 3 (.b 1 0 .f (.w [false, true, false, false])) (.w [true, true, true, false])) (.b 0 3 (.b 1 0 (.b 2 1 .f (.b 3 2 .f (.b 0 0 .f (.b 1 1 .f (.b 2 2 .f (.b 3 3 .f (.p 2 [0, 1, 1, 1]))))))) (.w [false, true, false, false])) (.w [true, true, true, false]))) (.b 3 1 (.b 0 3 (.b 1 0 (.b 2 1 .f (.w [false, false, true, false])) (.w [false, true, false, false])) (.w [true, true, true, false])) (.b 0 3 (.b 1 0 (.b 2 1 .f (.w [false, false, true, false])) (.w [false, true, false, false])) (.w [true, true, true, false]))))) (.b 1 3 (.b 2 0 (.b 3 1 (.b 0 3 (.b 1 0 (.b 2 1 (.b 3 2 .f (.w [true, true, false, true])) (.b 3 2 .f (.w [true, true, false, true]))) (.b 2 1 (.b 3 2 .f (.w [true, true, false, true])) (.b 3 2 .f (.w [true, true, false, true])))) (.b 1 0 (.b 2 1 (.b 3 2 .f (.w [true, true, false, true])) (.b 3 2 .f (.w [true, true, false, true]))) (.b 2 1 (.b 3 2 .f (.w [true, true, false, true])) (.b 3 2 .f (.w [true, true, false, true]))))) (.b 0 3 (.b 1 0 (.b 2 1 (.b 3 2 .f (.w [true, true, false, true])) (.b 3 2 .f (.w [true, true, false, true]))) (.b 2 1 (.b 3 2 .f (.w [true, true, false, true])) (.b 3 2 .f (.w [true, true, false, true])))) (.b 1 0 (.b 2 1 (.b 3 2 .f (.w [true, true, false, true])) (.b 3 2 .f (.w [true, true, false, true]))) (.b 2 1 (.b 3 2 .f (.w [true, true, false, true])) (.b 3 2 .f (.w [true, true, false, true])))))) (.b 3 1 (.b 0 3 (.b 1 0 (.b 2 1 (.b 3 2 .f (.w [true, true, false, true])) (.w [false, false, true, false])) (.b 2 1 (.b 3 2 .f (.w [true, true, false, true])) (.w [false, false, true, false]))) (.b 1 0 (.b 2 1 (.b 3 2 .f (.w [true, true, false, true])) (.w [false, false, true, false])) (.b 2 1 (.b 3 2 .f (.w [true, true, false, true])) (.w [false, false, true, false])))) (.b 0 3 (.b 1 0 (.b 2 1 (.b 3 2 .f (.w [true, true, false, true])) (.w [false, false, true, false])) (.b 2 1 (.b 3 2 .f (.w [true, true, false, true])) (.w [false, false, true, false]))) (.b 1 0 (.b 2 1 (.b 3 2 .f (.w [true, true, false, true])) (.w [false, false, true, false])) (.b 2 1 (.b 3 2 (.b 0 0 .f (.b 1 1 .f (.b 2 2 .f (.b 3 3 .f (.p 3 [0, 1, 0, 2]))))) (.w [true, true, false, true])) (.w [false, false, true, false])))))) (.b 2 0 (.b 3 1 (.b 0 3 (.b 1 0 (.b 2 1 (.b 3 2 .f (.w [true, true, false, true])) (.b 3 2 .f (.w [true, true, false, true]))) (.w [false, true, false, false])) (.w [true, true, false, false])) (.b 0 3 (.b 1 0 (.b 2 1 (.b 3 2 .f (.w [true, true, false, true])) (.b 3 2 .f (.w [true, true, false, true]))) (.w [false, true, false, false])) (.w [true, true, false, false]))) (.b 3 1 (.b 0 3 (.b 1 0 (.b 2 1 (.b 3 2 .f (.w [true, true, false, true])) (.w [false, false, true, false])) (.w [false, true, false, false])) (.w [true, true, false, false])) (.b 0 3 (.b 1 0 (.b 2 1 (.b 3 2 (.b 0 0 .f (.b 1 1 .f (.b 2 2 .f (.b 3 3 .f (.p 2 [0, 1, 0, 1]))))) (.w [true, true, false, true])) (.w [false, false, true, false])) (.w [false, true, false, false])) (.w [true, true, false, false])))))) (.b 0 2 (.b 1 3 (.b 2 0 (.b 3 1 (.b 0 3 (.b 1 0 .f (.b 2 1 (.b 3 2 .f (.w [false, true, false, true])) (.b 3 2 .f (.w [false, true, false, true])))) (.b 1 0 (.b 2 1 .f (.b 3 2 (.b 0 0 .f (.b 1 1 .f (.b 2 2 .f (.b 3 3 .f (.p 2 [0, 1, 1, 0]))))) (.b 0 0 .f (.b 1 1 .f (.b 2 2 .f (.b 3 3 .f (.p 2 [0, 1, 1, 0]))))))) (.b 2 1 (.b 3 2 .f (.w [false, true, false, true])) (.b 3 2 (.b 0 0 .f (.b 1 1 .f (.b 2 2 .f (.b 3 3 .f (.p 2 [0, 1, 1, 0]))))) (.w [false, true, false, true]))))) (.b 0 3 (.b 1 0 (.b 2 1 (.b 3 2 .f (.w [false, false, false, true])) (.b 3 2 .f (.w [false, false, false, true]))) (.b 2 1 (.b 3 2 .f (.w [false, false, false, true])) (.b 3 2 .f (.w [false, false, false, true])))) (.b 1 0 (.b 2 1 (.b 3 2 .f (.w [false, false, false, true])) (.b 3 2 (.b 0 0 .f (.b 1 1 .f (.b 2 2 .f (.b 3 3 .f (.p 2 [0, 1, 1, 0]))))) (.w [false, false, false, true]))) (.b 2 1 (.b 3 2 .f (.w [false, false, false, true])) (.b 3 2 (.b 0 0 .f (.b 1 1 .f (.b 2 2 .f (.b 3 3 .f (.p 2 [0, 1, 1, 0]))))) (.w [false, false, false, true])))))) (.b 3 1 (.b 0 3 (.b 1 0 (.b 2 1 .f (.w [false, false, true, false])) (.w [false, true, true, true])) (.b 1 0 (.b 2 1 .f (.w [false, false, true, false])) (.w [false, true, true, true]))) (.b 0 3 (.b 1 0 (.b 2 1 (.b 3 2 .f (.w [false, false, false, true])) (.w [false, false, true, false])) (.w [false, true, true, true])) (.b 1 0 (.b 2 1 (.b 3 2 .f (.w [false, false, false, true])) (.w [false, false, true, false])) (.w [false, true, true, true]))))) (.b 2 0 (.b 3 1 (.b 0 3 (.b 1 0 .f (.w [false, true, false, false])) (.w [true, true, true, false])) (.b 0 3 (.b 1 0 (.b 2 1 (.b 3 2 .f (.w [false, false, false, true])) (.b 3 2 .f (.w [false, false, false, true]))) (.w [false, true, false, false])) (.w [true, true, true, false]))) (.b 3 1 (.b 0 3 (.b 1 0 (.b 2 1 .f (.w [false, false, true, false])) (.w [false, true, false, false])) (.w [true, true, true, false])) (.b 0 3 (.b 1 0 (.b 2 1 (.b 3 2 .f (.w [false, false, false, true])) (.w [false, false, true, false])) (.w [false, true, false, false])) (.w [true, true, true, false]))))) (.b 1 3 (.b 2 0 (.b 3 1 (.b 0 3 (.b 1 0 (.b 2 1 (.b 3 2 .f (.w [true, true, false, true])) (.b 3 2 .f (.w [true, true, false, true]))) (.b 2 1 (.b 3 2 .f (.w [false, true, false, true])) (.b 3 2 .f (.w [false, true, false, true])))) (.b 1 0 (.b 2 1 (.b 3 2 .f (.w [true, true, false, true])) (.b 3 2 (.b 0 0 .f (.b 1 1 .f (.b 2 2 .f (.b 3 3 .f (.p 2 [0, 1, 1, 0]))))) (.w [true, true, false, true]))) (.b 2 1 (.b 3 2 .f (.w [false, true, false, true])) (.b 3 2 (.b 0 0 .f (.b 1 1 .f (.b 2 2 .f (.b 3 3 .f (.p 2 [0, 1, 1, 0]))))) (.w [false, true, false, true]))))) (.b 0 3 (.b 1 0 (.b 2 1 (.b 3 2 .f (.w [false, false, false, true])) (.b 3 2 .f (.w [false, false, false, true]))) (.b 2 1 (.b 3 2 .f (.w [false, false, false, true])) (.b 3 2 .f (.w [false, false, false, true])))) (.b 1 0 (.b 2 1 (.b 3 2 .f (.w [false, false, false, true])) (.b 3 2 (.b 0 0 .f (.b 1 1 .f (.b 2 2 .f (.b 3 3 .f (.p 2 [0, 1, 1, 0]))))) (.w [false, false, false, true]))) (.b 2 1 (.b 3 2 .f (.w [false, false, false, true])) (.b 3 2 (.b 0 0 .f (.b 1 1 .f (.b 2 2 .f (.b 3 3 .f (.p 2 [0, 1, 1, 0]))))) (.w [false, false, false, true])))))) (.b 3 1 (.b 0 3 (.b 1 0 (.b 2 1 (.b 3 2 .f (.w [true, true, false, true])) (.w [false, false, true, false])) (.w [false, true, true, true])) (.b 1 0 (.b 2 1 (.b 3 2 .f (.w [true, true, false, true])) (.w [false, false, true, false])) (.w [false, true, true, true]))) (.b 0 3 (.b 1 0 (.b 2 1 (.b 3 2 .f (.w [false, false, false, true])) (.w [false, false, true, false])) (.w [false, true, true, true])) (.b 1 0 (.b 2 1 (.b 3 2 .f (.w [false, false, false, true])) (.w [false, false, true, false])) (.w [false, true, true, true]))))) (.b 2 0 (.b 3 1 (.b 0 3 (.b 1 0 (.b 2 1 (.b 3 2 .f (.w [true, true, false, true])) (.b 3 2 .f (.w [true, true, false, true]))) (.w [false, true, false, false])) (.w [true, true, false, false])) (.b 0 3 (.b 1 0 (.b 2 1 (.b 3 2 .f (.w [false, false, false, true])) (.b 3 2 .f (.w [false, false, false, true]))) (.w [false, true, false, false])) (.w [true, true, false, false]))) (.b 3 1 (.b 0 3 (.b 1 0 (.b 2 1 (.b 3 2 .f (.w [true, true, false, true])) (.w [false, false, true, false])) (.w [false, true, false, false])) (.w [true, true, false, false])) (.b 0 3 (.b 1 0 (.b 2 1 (.b 3 2 (.b 0 0 .f (.b 1 1 .f (.b 2 2 .f (.b 3 3 .f (.p 2 [0, 1, 0, 1]))))) (.w [false, false, false, true])) (.w [false, false, true, false])) (.w [false, true, false, false])) (.w [true, true, false, false]))))))))) (.b 1 2 (.b 2 3 (.b 3 0 (.b 0 2 (.b 1 3 (.b 2 0 (.b 3 1 .f (.b 0 3 (.b 1 0 (.b 2 1 .f (.w [true, false, true, true])) (.b 2 1 .f (.w [true, false, true, true]))) (.b 1 0 (.b 2 1 .f (.w [true, false, true, true])) (.b 2 1 .f (.w [true, false, true, true]))))) (.b 3 1 .f (.b 0 3 (.b 1 0 (.b 2 1 .f (.w [true, false, true, true])) (.b 2 1 .f (.w [true, false, true, true]))) (.b 1 0 (.b 2 1 .f (.w [true, false, true, true])) (.b 2 1 .f (.w [true, false, true, true])))))) (.b 2 0 (.b 3 1 .f (.b 0 3 (.b 1 0 (.b 2 1 .f (.w [true, false, true, true])) (.b 2 1 .f (.w [true, false, true, true]))) (.b 1 0 (.b 2 1 .f (.w [true, false, true, true])) (.b 2 1 .f (.w [true, false, true, true]))))) (.b 3 1 (.b 0 3 .f (.b 1 0 .f (.b 2 1 .f (.b 3 2 .f (.b 0 0 .f (.b 1 1 .f (.b 2 2 .f (.b 3 3 .f (.p 3 [0, 0, 1, 2]))))))))) (.b 0 3 (.b 1 0 (.b 2 1 .f (.w [true, false, true, true])) (.b 2 1 .f (.w [true, false, true, true]))) (.b 1 0 (.b 2 1 .f (.w [true, false, true, true])) (.b 2 1 .f (.w [true, false, true, true]))))))) (.b 1 3 (.b 2 0 (.b 3 1 (.b 0 3 .f (.w [true, false, false, false])) (.b 0 3 (.b 1 0 (.b 2 1 (.b 3 2 .f (.w [true, false, false, true])) (.w [true, false, true, true])) (.b 2 1 (.b 3 2 .f (.w [true, false, false, true])) (.w [true, false, true, true]))) (.w [true, false, false, false]))) (.b 3 1 (.b 0 3 .f (.w [true, false, false, false])) (.b 0 3 (.b 1 0 (.b 2 1 (.b 3 2 .f (.w [true, false, false, true])) (.w [true, false, true, true])) (.b 2 1 (.b 3 2 .f (.w [true, false, false, true])) (.w [true, false, true, true]))) (.w [true, false, false, false])))) (.b 2 0 (.b 3 1 (.b 0 3 .f (.w [true, false, false, false])) (.b 0 3 (.b 1 0 (.b 2 1 (.b 3 2 .f (.w [true, false, false, true])) (.w [true, false, true, true])) (.b 2 1 (.b 3 2 .f (.w [true, false, false, true])) (.w [true, false, true, true]))) (.w [true, false, false, false]))) (.b 3 1 (.b 0 3 .f (.w [true, false, false, false])) (.b 0 3 (.b 1 0 (.b 2 1 (.b 3 2 (.b 0 0 .f (.b 1 1 .f (.b 2 2 .f (.b 3 3 .f (.p 2 [0, 1, 0, 1]))))) (.w [true, false, false, true])) (.w [true, false, true, true])) (.b 2 1 (.b 3 2 (.b 0 0 .f (.b 1 1 .f (.b 2 2 .f (.b 3 3 .f (.p 2 [0, 1, 0, 1]))))) (.w [true, false, false, true])) (.w [true, false, true, true]))) (.w [true, false, false, false])))))) (.b 0 2 (.b 1 3 (.b 2 0 (.b 3 1 .f (.b 0 3 (.b 1 0 (.b 2 1 (.b 3 2 .f (.w [false, false, false, true])) (.w [true, false, true, true])) (.b 2 1 (.b 3 2 .f (.w [false, false, false, true])) (.w [true, false, true, true]))) (.b 1 0 (.b 2 1 (.b 3 2 .f (.w [false, false, false, true])) (.w [true, false, true, true])) (.b 2 1 (.b 3 2 .f (.w [false, false, false, true])) (.w [true, false, true, true]))))) (.b 3 1 (.b 0 3 (.b 1 0 .f (.w [false, true, true, true])) (.b 1 0 .f (.w [false, true, true, true]))) (.b 0 3 (.b 1 0 (.b 2 1 (.b 3 2 .f (.w [false, false, false, true])) (.w [false, false, true, true])) (.w [false, true, true, true])) (.b 1 0 (.b 2 1 (.b 3 2 .f (.w [false, false, false, true])) (.w [false, false, true, true])) (.w [false, true, true, true]))))) (.b 2 0 (.b 3 1 .f (.b 0 3 (.b 1 0 (.b 2 1 (.b 3 2 .f (.w [false, false, false, true])) (.w [true, false, true, true])) (.b 2 1 (.b 3 2 .f (.w [false, false, false, true])) (.w [true, false, true, true]))) (.b 1 0 (.b 2 1 (.b 3 2 .f (.w [false, false, false, true])) (.w [true, false, true, true])) (.b 2 1 (.b 3 2 (.b 0 0 .f (.b 1 1 .f (.b 2 2 .f (.b 3 3 .f (.p 2 [0, 0, 1, 0]))))) (.w [false, false, false, true])) (.w [true, false, true, true]))))) (.b 3 1 (.b 0 3 (.b 1 0 .f (.w [false, true, true, true])) (.b 1 0 .f (.w [false, true, true, true]))) (.b 0 3 (.b 1 0 (.b 2 1 (.b 3 2 .f (.w [false, false, false, true])) (.w [false, false, true, true])) (.w [false, true, true, true])) (.b 1 0 (.b 2 1 (.b 3 2 .f (.w [false, false, false, true])) (.w [false, false, true, true])) (.w [false, true, true, true])))))) (.b 1 3 (.b 2 0 (.b 3 1 (.b 0 3 .f (.w [true, false, false, false])) (.b 0 3 (.b 1 0 (.b 2 1 (.b 3 2 .f (.w [false, false, false, true])) (.w [true, false, true, true])) (.b 2 1 (.b 3 2 .f (.w [false, false, false, true])) (.w [true, false, true, true]))) (.w [true, false, false, false]))) (.b 3 1 (.b 0 3 (.b 1 0 .f (.w [false, true, true, true])) (.w [true, false, false, false])) (.b 0 3 (.b 1 0 (.b 2 1 (.b 3 2 .f (.w [false, false, false, true])) (.w [false, false, true, true])) (.w [false, true, true, true])) (.w [true, false, false, false])))) (.b 2 0 (.b 3 1 (.b 0 3 .f (.w [true, false, false, false])) (.b 0 3 (.b 1 0 (.b 2 1 (.b 3 2 .f (.w [false, false, false, true])) (.w [true, false, true, true])) (.b 2 1 (.b 3 2 .f (.w [false, false, false, true])) (.w [true, false, true, true]))) (.w [true, false, false, false]))) (.b 3 1 (.b 0 3 (.b 1 0 (.b 2 1 .f (.b 3 2 .f (.b 0 0 .f (.b 1 1 .f (.b 2 2 .f (.b 3 3 .f (.p 3 [0, 2, 0, 1]))))))) (.w [false, true, true, true])) (.w [true, false, false, false])) (.b 0 3 (.b 1 0 (.b 2 1 (.b 3 2 (.b 0 0 .f (.b 1 1 .f (.b 2 2 .f (.b 3 3 .f (.p 2 [0, 1, 0, 1]))))) (.w [false, false, false, true])) (.w [false, false, true, true])) (.w [false, true, true, true])) (.w [true, false, false, false]))))))) (.b 3 0 (.b 0 2 (.b 1 3 (.b 2 0 (.b 3 1 (.b 0 3 (.b 1 0 .f (.b 2 1 (.b 3 2 .f (.b 0 0 .f (.b 1 1 .f (.b 2 2 .f (.b 3 3 .f (.p 2 [0, 0, 1, 1])))))) (.b 3 2 .f (.b 0 0 .f (.b 1 1 .f (.b 2 2 .f (.b 3 3 .f (.p 2 [0, 0, 1, 1])))))))) (.b 1 0 (.b 2 1 .f (.w [true, false, true, false])) (.b 2 1 (.b 3 2 .f (.b 0 0 .f (.b 1 1 .f (.b 2 2 .f (.b 3 3 .f (.p 2 [0, 0, 1, 1])))))) (.w [true, false, true, false])))) (.b 0 3 (.b 1 0 (.b 2 1 .f (.w [true, false, true, true])) (.b 2 1 (.b 3 2 .f (.b 0 0 .f (.b 1 1 .f (.b 2 2 .f (.b 3 3 .f (.p 2 [0, 0, 1, 1])))))) (.w [true, false, true, true]))) (.b 1 0 (.b 2 1 .f (.w [true, false, true, false])) (.b 2 1 (.b 3 2 .f (.b 0 0 .f (.b 1 1 .f (.b 2 2 .f (.b 3 3 .f (.p 2 [0, 0, 1, 1])))))) (.w [true, false, true, false]))))) (.b 3 1 (.b 0 3 (.b 1 0 (.b 2 1 .f (.w [false, false, true, false])) (.b 2 1 (.b 3 2 .f (.b 0 0 .f (.b 1 1 .f (.b 2 2 .f (.b 3 3 .f (.p 2 [0, 0, 1, 1])))))) (.w [false, false, true, false]))) (.b 1 0 (.b 2 1 .f (.w [false, false, true, false])) (.b 2 1 (.b 3 2 .f (.b 0 0 .f (.b 1 1 .f (.b 2 2 .f (.b 3 3 .f (.p 2 [0, 0, 1, 1])))))) (.w [false, false, true, false])))) (.b 0 3 (.b 1 0 (.b 2 1 .f (.w [false, false, true, false])) (.b 2 1 (.b 3 2 .f (.b 0 0 .f (.b 1 1 .f (.b 2 2 .f (.b 3 3 .f (.p 2 [0, 0, 1, 1])))))) (.w [false, false, true, false]))) (.b 1 0 (.b 2 1 .f (.w [false, false, true, false])) (.b 2 1 (.b 3 2 .f (.b 0 0 .f (.b 1 1 .f (.b 2 2 .f (.b 3 3 .f (.p 2 [0, 0, 1, 1])))))) (.w [false, false, true, false])))))) (.b 2 0 (.b 3 1 (.b 0 3 (.b 1 0 .f (.b 2 1 (.b 3 2 .f (.b 0 0 .f (.b 1 1 .f (.b 2 2 .f (.b 3 3 .f (.p 2 [0, 0, 1, 1])))))) (.b 3 2 .f (.b 0 0 .f (.b 1 1 .f (.b 2 2 .f (.b 3 3 .f (.p 2 [0, 0, 1, 1])))))))) (.w [true, true, true, false])) (.b 0 3 (.b 1 0 (.b 2 1 .f (.w [true, false, true, true])) (.b 2 1 (.b 3 2 .f (.b 0 0 .f (.b 1 1 .f (.b 2 2 .f (.b 3 3 .f (.p 2 [0, 0, 1, 1])))))) (.w [true, false, true, true]))) (.w [true, true, true, false]))) (.b 3 1 (.b 0 3 (.b 1 0 (.b 2 1 .f (.w [false, false, true, false])) (.w [false, true, true, false])) (.w [true, true, true, false])) (.b 0 3 (.b 1 0 (.b 2 1 .f (.w [false, false, true, false])) (.w [false, true, true, false])) (.w [true, true, true, false]))))) (.b 1 3 (.b 2 0 (.b 3 1 (.b 0 3 (.b 1 0 .f (.b 2 1 (.b 3 2 .f (.b 0 0 .f (.b 1 1 .f (.b 2 2 .f (.b 3 3 .f (.p 2 [0, 0, 1, 1])))))) (.b 3 2 .f (.b 0 0 .f (.b 1 1 .f (.b 2 2 .f (.b 3 3 .f (.p 2 [0, 0, 1, 1])))))))) (.w [true, false, false, false])) (.b 0 3 (.b 1 0 (.b 2 1 (.b 3 2 .f (.w [true, false, false, true])) (.w [true, false, true, true])) (.b 2 1 (.b 3 2 .f (.w [true, false, false, true])) (.w [true, false, true, true]))) (.w [true, false, false, false]))) (.b 3 1 (.b 0 3 (.b 1 0 (.b 2 1 .f (.w [false, false, true, false])) (.b 2 1 (.b 3 2 .f (.b 0 0 .f (.b 1 1 .f (.b 2 2 .f (.b 3 3 .f (.p 2 [0, 0, 1, 1])))))) (.w [false, false, true, false]))) (.w [true, false, false, false])) (.b 0 3 (.b 1 0 (.b 2 1 (.b 3 2 .f (.w [true, false, false, true])) (.w [false, false, true, false])) (.b 2 1 (.b 3 2 .f (.w [true, false, false, true])) (.w [false, false, true, false]))) (.w [true, false, false, false])))) (.b 2 0 (.b 3 1 (.b 0 3 (.b 1 0 .f (.b 2 1 (.b 3 2 .f (.b 0 0 .f (.b 1 1 .f (.b 2 2 .f (.b 3 3 .f (.p 2 [0, 0, 1, 1])))))) (.b 3 2 .f (.b 0 0 .f (.b 1 1 .f (.b 2 2 .f (.b 3 3 .f (.p 2 [0, 0, 1, 1])))))))) (.w [true, false, false, false])) (.b 0 3 (.b 1 0 (.b 2 1 (.b 3 2 .f (.w [true, false, false, true])) (.w [true, false, true, true])) (.b 2 1 (.b 3 2 .f (.w [true, false, false, true])) (.w [true, false, true, true]))) (.w [true, false, false, false]))) (.b 3 1 (.b 0 3 (.b 1 0 (.b 2 1 .f (.w [false, false, true, false])) (.w [false, true, true, false])) (.w [true, false, false, false])) (.b 0 3 (.b 1 0 (.b 2 1 (.b 3 2 (.b 0 0 .f (.b 1 1 .f (.b 2 2 .f (.b 3 3 .f (.p 2 [0, 1, 0, 1]))))) (.w [true, false, false, true])) (.w [false, false, true, false])) (.w [false, true, true, false])) (.w [true, false, false, false])))))) (.b 0 2 (.b 1 3 (.b 2 0 (.b 3 1 (.b 0 3 (.b 1 0 .f (.b 2 1 (.b 3 2 .f (.b 0 0 .f (.b 1 1 .f (.b 2 2 .f (.b 3 3 .f (.p 2 [0, 0, 1, 1])))))) (.b 3 2 .f (.b 0 0 .f (.b 1 1 .f (.b 2 2 .f (.b 3 3 .f (.p 2 [0, 0, 1, 1])))))))) (.b 1 0 (.b 2 1 .f (.w [true, false, true, false])) (.b 2 1 (.b 3 2 .f (.b 0 0 .f (.b 1 1 .f (.b 2 2 .f (.b 3 3 .f (.p 2 [0, 0, 1, 1])))))) (.w [true, false, true, false])))) (.b 0 3 (.b 1 0 (.b 2 1 (.b 3 2 .f (.w [false, false, false, true])) (.w [true, false, true, true])) (.b 2 1 (.b 3 2 .f (.w [false, false, false, true])) (.w [true, false, true, true]))) (.b 1 0 (.b 2 1 (.b 3 2 .f (.w [false, false, false, true])) (.w [true, false, true, false])) (.b 2 1 (.b 3 2 .f (.w [false, false, false, true])) (.w [true, false, true, false]))))) (.b 3 1 (.b 0 3 (.b 1 0 (.b 2 1 .f (.w [false, false, true, false])) (.w [false, true, true, true])) (.b 1 0 (.b 2 1 .f (.w [false, false, true, false])) (.w [false, true, true, true]))) (.b 0 3 (.b 1 0 (.b 2 1 (.b 3 2 .f (.w [false, false, false, true])) (.w [false, false, true, false])) (.w [false, true, true, true])) (.b 1 0 (.b 2 1 (.b 3 2 .f (.w [false, false, false, true])) (.w [false, false, true, false])) (.w [false, true, true, true]))))) (.b 2 0 (.b 3 1 (.b 0 3 (.b 1 0 .f (.b 2 1 (.b 3 2 .f (.b 0 0 .f (.b 1 1 .f (.b 2 2 .f (.b 3 3 .f (.p 2 [0, 0, 1, 1])))))) (.b 3 2 .f (.b 0 0 .f (.b 1 1 .f (.b 2 2 .f (.b 3 3 .f (.p 2 [0, 0, 1, 1])))))))) (.w [true, true, true, false])) (.b 0 3 (.b 1 0 (.b 2 1 (.b 3 2 .f (.w [false, false, false, true])) (.w [true, false, true, true])) (.b 2 1 (.b 3 2 .f (.w [false, false, false, true])) (.w [true, false, true, true]))) (.w [true, true, true, false]))) (.b 3 1 (.b 0 3 (.b 1 0 (.b 2 1 .f (.w [false, false, true, false])) (.w [false, true, true, false])) (.w [true, true, true, false])) (.b 0 3 (.b 1 0 (.b 2 1 (.b 3 2 .f (.w [false, false, false, true])) (.w [false, false, true, false])) (.w [false, true, true, false])) (.w [true, true, true, false]))))) (.b 1 3 (.b 2 0 (.b 3 1 (.b 0 3 (.b 1 0 .f (.b 2 1 (.b 3 2 .f (.b 0 0 .f (.b 1 1 .f (.b 2 2 .f (.b 3 3 .f (.p 2 [0, 0, 1, 1])))))) (.b 3 2 .f (.b 0 0 .f (.b 1 1 .f (.b 2 2 .f (.b 3 3 .f (.p 2 [0, 0, 1, 1])))))))) (.w [true, false, false, false])) (.b 0 3 (.b 1 0 (.b 2 1 (.b 3 2 .f (.w [false, false, false, true])) (.w [true, false, true, true])) (.b 2 1 (.b 3 2 .f (.w [false, false, false, true])) (.w [true, false, true, true]))) (.w [true, false, false, false]))) (.b 3 1 (.b 0 3 (.b 1 0 (.b 2 1 .f (.w [false, false, true, false])) (.w [false, true, true, true])) (.w [true, false, false, false])) (.b 0 3 (.b 1 0 (.b 2 1 (.b 3 2 .f (.w [false, false, false, true])) (.w [false, false, true, false])) (.w [false, true, true, true])) (.w [true, false, false, false])))) (.b 2 0 (.b 3 1 (.b 0 3 (.b 1 0 .f (.b 2 1 (.b 3 2 .f (.b 0 0 .f (.b 1 1 .f (.b 2 2 .f (.b 3 3 .f (.p 2 [0, 0, 1, 1])))))) (.b 3 2 .f (.b 0 0 .f (.b 1 1 .f (.b 2 2 .f (.b 3 3 .f (.p 2 [0, 0, 1, 1])))))))) (.w [true, false, false, false])) (.b 0 3 (.b 1 0 (.b 2 1 (.b 3 2 .f (.w [false, false, false, true])) (.w [true, false, true, true])) (.b 2 1 (.b 3 2 .f (.w [false, false, false, true])) (.w [true, false, true, true]))) (.w [true, false, false, false]))) (.b 3 1 (.b 0 3 (.b 1 0 (.b 2 1 .f (.w [false, false, true, false])) (.w [false, true, true, false])) (.w [true, false, false, false])) (.b 0 3 (.b 1 0 (.b 2 1 (.b 3 2 (.b 0 0 .f (.b 1 1 .f (.b 2 2 .f (.b 3 3 .f (.p 2 [0, 1, 0, 1]))))) (.w [false, false, false, true])) (.w [false, false, true, false])) (.w [false, true, true, false])) (.w [true, false, false, false])))))))) (.b 2 3 (.b 3 0 (.b 0 2 (.b 1 3 (.b 2 0 (.b 3 1 .f (.b 0 3 (.b 1 0 (.b 2 1 .f (.w [true, false, true, true])) (.b 2 1 .f (.w [true, false, true, true]))) (.b 1 0 (.b 2 1 .f (.w [true, false, true, true])) (.b 2 1 .f (.w [true, false, true, true]))))) (.b 3 1 .f (.b 0 3 (.b 1 0 (.b 2 1 .f (.w [true, false, true, true])) (.b 2 1 .f (.w [true, false, true, true]))) (.b 1 0 (.b 2 1 .f (.w [true, false, true, true])) (.b 2 1 .f (.w [true, false, true, true])))))) (.b 2 0 (.b 3 1 (.b 0 3 (.b 1 0 .f (.w [false, true, false, false])) (.b 1 0 .f (.w [false, true, false, false]))) (.b 0 3 (.b 1 0 (.b 2 1 .f (.w [true, false, true, true])) (.w [false, true, false, false])) (.b 1 0 (.b 2 1 .f (.w [true, false, true, true])) (.w [false, true, false, false])))) (.b 3 1 (.b 0 3 (.b 1 0 .f (.w [false, true, false, false])) (.b 1 0 .f (.w [false, true, false, false]))) (.b 0 3 (.b 1 0 (.b 2 1 .f (.w [true, false, true, true])) (.w [false, true, false, false])) (.b 1 0 (.b 2 1 (.b 3 2 .f (.b 0 0 .f (.b 1 1 .f (.b 2 2 .f (.b 3 3 .f (.p 3 [0, 2, 1, 2])))))) (.w [true, false, true, true])) (.w [false, true, false, false])))))) (.b 1 3 (.b 2 0 (.b 3 1 (.b 0 3 (.b 1 0 (.b 2 1 (.b 3 2 .f (.w [true, true, false, true])) (.b 3 2 .f (.w [true, true, false, true]))) (.b 2 1 (.b 3 2 .f (.w [true, true, false, true])) (.b 3 2 .f (.w [true, true, false, true])))) (.w [true, false, false, false])) (.b 0 3 (.b 1 0 (.b 2 1 (.b 3 2 .f (.w [true, false, false, true])) (.w [true, false, true, true])) (.b 2 1 (.b 3 2 .f (.w [true, false, false, true])) (.w [true, false, true, true]))) (.w [true, false, false, false]))) (.b 3 1 (.b 0 3 (.b 1 0 (.b 2 1 (.b 3 2 .f (.w [true, true, false, true])) (.b 3 2 .f (.w [true, true, false, true]))) (.b 2 1 (.b 3 2 .f (.w [true, true, false, true])) (.b 3 2 (.b 0 0 .f (.b 1 1 .f (.b 2 2 .f (.b 3 3 .f (.p 2 [0, 0, 0, 1]))))) (.w [true, true, false, true])))) (.w [true, false, false, false])) (.b 0 3 (.b 1 0 (.b 2 1 (.b 3 2 .f (.w [true, false, false, true])) (.w [true, false, true, true])) (.b 2 1 (.b 3 2 .f (.w [true, false, false, true])) (.w [true, false, true, true]))) (.w [true, false, false, false])))) (.b 2 0 (.b 3 1 (.b 0 3 (.b 1 0 (.b 2 1 (.b 3 2 .f (.w [true, true, false, true])) (.b 3 2 .f (.w [true, true, false, true]))) (.w [false, true, false, false])) (.w [true, false, false, false])) (.b 0 3 (.b 1 0 (.b 2 1 (.b 3 2 .f (.w [true, false, false, true])) (.w [true, false, true, true])) (.w [false, true, false, false])) (.w [true, false, false, false]))) (.b 3 1 (.b 0 3 (.b 1 0 (.b 2 1 (.b 3 2 .f (.w [true, true, false, true])) (.b 3 2 .f (.w [true, true, false, true]))) (.w [false, true, false, false])) (.w [true, false, false, false])) (.b 0 3 (.b 1 0 (.b 2 1 (.b 3 2 (.b 0 0 .f (.b 1 1 .f (.b 2 2 .f (.b 3 3 .f (.p 2 [0, 1, 0, 1]))))) (.w [true, false, false, true])) (.w [true, false, true, true])) (.w [false, true, false, false])) (.w [true, false, false, false])))))) (.b 0 2 (.b 1 3 (.b 2 0 (.b 3 1 (.b 0 3 (.b 1 0 .f (.b 2 1 (.b 3 2 .f (.w [false, true, false, true])) (.b 3 2 .f (.w [false, true, false, true])))) (.b 1 0 (.b 2 1 .f (.b 3 2 (.b 0 0 .f (.b 1 1 .f (.b 2 2 .f (.b 3 3 .f (.p 2 [0, 1, 1, 0]))))) (.b 0 0 .f (.b 1 1 .f (.b 2 2 .f (.b 3 3 .f (.p 2 [0, 1, 1, 0]))))))) (.b 2 1 (.b 3 2 .f (.w [false, true, false, true])) (.b 3 2 (.b 0 0 .f (.b 1 1 .f (.b 2 2 .f (.b 3 3 .f (.p 2 [0, 1, 1, 0]))))) (.w [false, true, false, true]))))) (.b 0 3 (.b 1 0 (.b 2 1 (.b 3 2 .f (.w [false, false, false, true])) (.w [true, false, true, true])) (.b 2 1 (.b 3 2 .f (.w [false, false, false, true])) (.w [true, false, true, true]))) (.b 1 0 (.b 2 1 (.b 3 2 .f (.w [false, false, false, true])) (.w [true, false, true, true])) (.b 2 1 (.b 3 2 .f (.w [false, false, false, true])) (.w [true, false, true, true]))))) (.b 3 1 (.b 0 3 (.b 1 0 .f (.w [false, true, true, true])) (.b 1 0 (.b 2 1 .f (.b 3 2 (.b 0 0 .f (.b 1 1 .f (.b 2 2 .f (.b 3 3 .f (.p 2 [0, 1, 1, 0]))))) (.b 0 0 .f (.b 1 1 .f (.b 2 2 .f (.b 3 3 .f (.p 2 [0, 1, 1, 0]))))))) (.w [false, true, true, true]))) (.b 0 3 (.b 1 0 (.b 2 1 (.b 3 2 .f (.w [false, false, false, true])) (.w [false, false, true, true])) (.w [false, true, true, true])) (.b 1 0 (.b 2 1 (.b 3 2 .f (.w [false, false, false, true])) (.w [false, false, true, true])) (.w [false, true, true, true]))))) (.b 2 0 (.b 3 1 (.b 0 3 (.b 1 0 .f (.w [false, true, false, false])) (.b 1 0 (.b 2 1 .f (.b 3 2 (.b 0 0 .f (.b 1 1 .f (.b 2 2 .f (.b 3 3 .f (.p 2 [0, 1, 1, 0]))))) (.b 0 0 .f (.b 1 1 .f (.b 2 2 .f (.b 3 3 .f (.p 2 [0, 1, 1, 0]))))))) (.w [false, true, false, false]))) (.b 0 3 (.b 1 0 (.b 2 1 (.b 3 2 .f (.w [false, false, false, true])) (.w [true, false, true, true])) (.w [false, true, false, false])) (.b 1 0 (.b 2 1 (.b 3 2 .f (.w [false, false, false, true])) (.w [true, false, true, true])) (.w [false, true, false, false])))) (.b 3 1 (.b 0 3 (.b 1 0 .f (.w [false, true, false, false])) (.b 1 0 (.b 2 1 .f (.b 3 2 (.b 0 0 .f (.b 1 1 .f (.b 2 2 .f (.b 3 3 .f (.p 2 [0, 1, 1, 0]))))) (.b 0 0 .f (.b 1 1 .f (.b 2 2 .f (.b 3 3 .f (.p 2 [0, 1, 1, 0]))))))) (.w [false, true, false, false]))) (.b 0 3 (.b 1 0 (.b 2 1 (.b 3 2 .f (.w [false, false, false, true])) (.w [false, false, true, true])) (.w [false, true, false, false])) (.b 1 0 (.b 2 1 (.b 3 2 .f (.w [false, false, false, true])) (.w [false, false, true, true])) (.w [false, true, false, false])))))) (.b 1 3 (.b 2 0 (.b 3 1 (.b 0 3 (.b 1 0 (.b 2 1 (.b 3 2 .f (.w [true, true, false, true])) (.b 3 2 .f (.w [true, true, false, true]))) (.b 2 1 (.b 3 2 .f (.w [false, true, false, true])) (.b 3 2 .f (.w [false, true, false, true])))) (.w [true, false, false, false])) (.b 0 3 (.b 1 0 (.b 2 1 (.b 3 2 .f (.w [false, false, false, true])) (.w [true, false, true, true])) (.b 2 1 (.b 3 2 .f (.w [false, false, false, true])) (.w [true, false, true, true]))) (.w [true, false, false, false]))) (.b 3 1 (.b 0 3 (.b 1 0 (.b 2 1 (.b 3 2 .f (.w [true, true, false, true])) (.b 3 2 .f (.w [true, true, false, true]))) (.w [false, true, true, true])) (.w [true, false, false, false])) (.b 0 3 (.b 1 0 (.b 2 1 (.b 3 2 .f (.w [false, false, false, true])) (.w [false, false, true, true])) (.w [false, true, true, true])) (.w [true, false, false, false])))) (.b 2 0 (.b 3 1 (.b 0 3 (.b 1 0 (.b 2 1 (.b 3 2 .f (.w [true, true, false, true])) (.b 3 2 .f (.w [true, true, false, true]))) (.w [false, true, false, false])) (.w [true, false, false, false])) (.b 0 3 (.b 1 0 (.b 2 1 (.b 3 2 .f (.w [false, false, false, true])) (.w [true, false, true, true])) (.w [false, true, false, false])) (.w [true, false, false, false]))) (.b 3 1 (.b 0 3 (.b 1 0 (.b 2 1 (.b 3 2 .f (.w [true, true, false, true])) (.b 3 2 .f (.w [true, true, false, true]))) (.w [false, true, false, false])) (.w [true, false, false, false])) (.b 0 3 (.b 1 0 (.b 2 1 (.b 3 2 (.b 0 0 .f (.b 1 1 .f (.b 2 2 .f (.b 3 3 .f (.p 2 [0, 1, 0, 1]))))) (.w [false, false, false, true])) (.w [false, false, true, true])) (.w [false, true, false, false])) (.w [true, false, false, false]))))))) (.b 3 0 (.b 0 2 (.b 1 3 (.b 2 0 (.b 3 1 (.b 0 3 (.b 1 0 .f (.b 2 1 (.b 3 2 .f (.b 0 0 .f (.b 1 1 .f (.b 2 2 .f (.b 3 3 .f (.p 2 [0, 0, 1, 1])))))) (.b 3 2 .f (.b 0 0 .f (.b 1 1 .f (.b 2 2 .f (.b 3 3 .f (.p 2 [0, 0, 1, 1])))))))) (.b 1 0 (.b 2 1 .f (.w [true, false, true, false])) (.b 2 1 (.b 3 2 .f (.b 0 0 .f (.b 1 1 .f (.b 2 2 .f (.b 3 3 .f (.p 2 [0, 0, 1, 1])))))) (.w [true, false, true, false])))) (.b 0 3 (.b 1 0 (.b 2 1 .f (.w [true, false, true, true])) (.b 2 1 (.b 3 2 .f (.b 0 0 .f (.b 1 1 .f (.b 2 2 .f (.b 3 3 .f (.p 2 [0, 0, 1, 1])))))) (.w [true, false, true, true]))) (.b 1 0 (.b 2 1 .f (.w [true, false, true, false])) (.b 2 1 (.b 3 2 .f (.b 0 0 .f (.b 1 1 .f (.b 2 2 .f (.b 3 3 .f (.p 2 [0, 0, 1, 1])))))) (.w [true, false, true, false]))))) (.b 3 1 (.b 0 3 (.b 1 0 (.b 2 1 .f (.w [false, false, true, false])) (.b 2 1 (.b 3 2 .f (.b 0 0 .f (.b 1 1 .f (.b 2 2 .f (.b 3 3 .f (.p 2 [0, 0, 1, 1])))))) (.w [false, false, true, false]))) (.b 1 0 (.b 2 1 .f (.w [false, false, true, false])) (.b 2 1 (.b 3 2 .f (.b 0 0 .f (.b 1 1 .f (.b 2 2 .f (.b 3 3 .f (.p 2 [0, 0, 1, 1])))))) (.w [false, false, true, false])))) (.b 0 3 (.b 1 0 (.b 2 1 .f (.w [false, false, true, false])) (.b 2 1 (.b 3 2 .f (.b 0 0 .f (.b 1 1 .f (.b 2 2 .f (.b 3 3 .f (.p 2 [0, 0, 1, 1])))))) (.w [false, false, true, false]))) (.b 1 0 (.b 2 1 .f (.w [false, false, true, false])) (.b 2 1 (.b 3 2 .f (.b 0 0 .f (.b 1 1 .f (.b 2 2 .f (.b 3 3 .f (.p 2 [0, 0, 1, 1])))))) (.w [false, false, true, false])))))) (.b 2 0 (.b 3 1 (.b 0 3 (.b 1 0 .f (.w [false, true, false, false])) (.w [true, true, true, false])) (.b 0 3 (.b 1 0 (.b 2 1 .f (.w [true, false, true, true])) (.w [false, true, false, false])) (.w [true, true, true, false]))) (.b 3 1 (.b 0 3 (.b 1 0 (.b 2 1 .f (.w [false, false, true, false])) (.w [false, true, false, false])) (.w [true, true, true, false])) (.b 0 3 (.b 1 0 (.b 2 1 .f (.w [false, false, true, false])) (.w [false, true, false, false])) (.w [true, true, true, false]))))) (.b 1 3 (.b 2 0 (.b 3 1 (.b 0 3 (.b 1 0 (.b 2 1 (.b 3 2 .f (.w [true, true, false, true])) (.b 3 2 .f (.w [true, true, false, true]))) (.b 2 1 (.b 3 2 .f (.w [true, true, false, true])) (.b 3 2 .f (.w [true, true, false, true])))) (.w [true, false, false, false])) (.b 0 3 (.b 1 0 (.b 2 1 (.b 3 2 .f (.w [true, false, false, true])) (.w [true, false, true, true])) (.b 2 1 (.b 3 2 .f (.w [true, false, false, true])) (.w [true, false, true, true]))) (.w [true, false, false, false]))) (.b 3 1 (.b 0 3 (.b 1 0 (.b 2 1 (.b 3 2 .f (.w [true, true, false, true])) (.w [false, false, true, false])) (.b 2 1 (.b 3 2 .f (.w [true, true, false, true])) (.w [false, false, true, false]))) (.w [true, false, false, false])) (.b 0 3 (.b 1 0 (.b 2 1 (.b 3 2 .f (.w [true, false, false, true])) (.w [false, false, true, false])) (.b 2 1 (.b 3 2 .f (.w [true, false, false, true])) (.w [false, false, true, false]))) (.w [true, false, false, false])))) (.b 2 0 (.b 3 1 (.b 0 3 (.b 1 0 (.b 2 1 (.b 3 2 .f (.w [true, true, false, true])) (.b 3 2 .f (.w [true, true, false, true]))) (.w [false, true, false, false])) (.w [true, false, false, false])) (.b 0 3 (.b 1 0 (.b 2 1 (.b 3 2 .f (.w [true, false, false, true])) (.w [true, false, true, true])) (.w [false, true, false, false])) (.w [true, false, false, false]))) (.b 3 1 (.b 0 3 (.b 1 0 (.b 2 1 (.b 3 2 .f (.w [true, true, false, true])) (.w [false, false, true, false])) (.w [false, true, false, false])) (.w [true, false, false, false])) (.b 0 3 (.b 1 0 (.b 2 1 (.b 3 2 (.b 0 0 .f (.b 1 1 .f (.b 2 2 .f (.b 3 3 .f (.p 2 [0, 1, 0, 1]))))) (.w [true, false, false, true])) (.w [false, false, true, false])) (.w [false, true, false, false])) (.w [true, false, false, false])))))) (.b 0 2 (.b 1 3 (.b 2 0 (.b 3 1 (.b 0 3 (.b 1 0 .f (.b 2 1 (.b 3 2 .f (.w [false, true, false, true])) (.b 3 2 .f (.w [false, true, false, true])))) (.b 1 0 (.b 2 1 .f (.w [true, false, true, false])) (.b 2 1 (.b 3 2 .f (.w [false, true, false, true])) (.w [true, false, true, false])))) (.b 0 3 (.b 1 0 (.b 2 1 (.b 3 2 .f (.w [false, false, false, true])) (.w [true, false, true, true])) (.b 2 1 (.b 3 2 .f (.w [false, false, false, true])) (.w [true, false, true, true]))) (.b 1 0 (.b 2 1 (.b 3 2 .f (.w [false, false, false, true])) (.w [true, false, true, false])) (.b 2 1 (.b 3 2 .f (.w [false, false, false, true])) (.w [true, false, true, false]))))) (.b 3 1 (.b 0 3 (.b 1 0 (.b 2 1 .f (.w [false, false, true, false])) (.w [false, true, true, true])) (.b 1 0 (.b 2 1 .f (.w [false, false, true, false])) (.w [false, true, true, true]))) (.b 0 3 (.b 1 0 (.b 2 1 (.b 3 2 .f (.w [false, false, false, true])) (.w [false, false, true, false])) (.w [false, true, true, true])) (.b 1 0 (.b 2 1 (.b 3 2 (.b 0 0 .f (.b 1 1 .f (.b 2 2 .f (.b 3 3 .f (.p 3 [0, 2, 1, 0]))))) (.w [false, false, false, true])) (.w [false, false, true, false])) (.w [false, true, true, true]))))) (.b 2 0 (.b 3 1 (.b 0 3 (.b 1 0 .f (.w [false, true, false, false])) (.w [true, true, true, false])) (.b 0 3 (.b 1 0 (.b 2 1 (.b 3 2 .f (.w [false, false, false, true])) (.w [true, false, true, true])) (.w [false, true, false, false])) (.w [true, true, true, false]))) (.b 3 1 (.b 0 3 (.b 1 0 (.b 2 1 (.b 3 2 .f (.b 0 0 .f (.b 1 1 .f (.b 2 2 .f (.b 3 3 .f (.p 3 [0, 2, 1, 1])))))) (.w [false, false, true, false])) (.w [false, true, false, false])) (.w [true, true, true, false])) (.b 0 3 (.b 1 0 (.b 2 1 (.b 3 2 .f (.w [false, false, false, true])) (.w [false, false, true, false])) (.w [false, true, false, false])) (.w [true, true, true, false]))))) (.b 1 3 (.b 2 0 (.b 3 1 (.b 0 3 (.b 1 0 (.b 2 1 (.b 3 2 .f (.w [true, true, false, true])) (.b 3 2 .f (.w [true, true, false, true]))) (.b 2 1 (.b 3 2 .f (.w [false, true, false, true])) (.b 3 2 .f (.w [false, true, false, true])))) (.w [true, false, false, false])) (.b 0 3 (.b 1 0 (.b 2 1 (.b 3 2 .f (.w [false, false, false, true])) (.w [true, false, true, true])) (.b 2 1 (.b 3 2 (.b 0 0 .f (.b 1 1 .f (.b 2 2 .f (.b 3 3 .f (.p 3 [0, 0, 2, 1]))))) (.w [false, false, false, true])) (.w [true, false, true, true]))) (.w [true, false, false, false]))) (.b 3 1 (.b 0 3 (.b 1 0 (.b 2 1 (.b 3 2 .f (.w [true, true, false, true])) (.w [false, false, true, false])) (.w [false, true, true, true])) (.w [true, false, false, false])) (.b 0 3 (.b 1 0 (.b 2 1 (.b 3 2 .f (.w [false, false, false, true])) (.w [false, false, true, false])) (.w [false, true, true, true])) (.w [true, false, false, false])))) (.b 2 0 (.b 3 1 (.b 0 3 (.b 1 0 (.b 2 1 (.b 3 2 .f (.w [true, true, false, true])) (.b 3 2 (.b 0 0 .f (.b 1 1 .f (.b 2 2 .f (.b 3 3 .f (.p 3 [0, 2, 2, 1]))))) (.w [true, true, false, true]))) (.w [false, true, false, false])) (.w [true, false, false, false])) (.b 0 3 (.b 1 0 (.b 2 1 (.b 3 2 .f (.w [false, false, false, true])) (.w [true, false, true, true])) (.w [false, true, false, false])) (.w [true, false, false, false]))) (.b 3 1 (.b 0 3 (.b 1 0 (.b 2 1 (.b 3 2 .f (.w [true, true, false, true])) (.w [false, false, true, false])) (.w [false, true, false, false])) (.w [true, false, false, false])) (.b 0 3 (.b 1 0 (.b 2 1 (.b 3 2 (.b 0 0 .f (.b 1 1 .f (.b 2 2 .f (.b 3 3 .f (.p 2 [0, 1, 0, 1]))))) (.w [false, false, false, true])) (.w [false, false, true, false])) (.w [false, true, false, false])) (.w [true, false, false, false]))))))))))
theorem tree4_ok : chk 4 10 tree4 (allM 4 false) (allM 4 true) = true := by decide +kernel
/-- any two nodes are joined by a walk of that length -/
theorem joined_full {n : Nat} (h0 : 0 < n) (h4 : n ≤ 4) {E : Nat → Nat → Prop} (J : Joined n E) : ∀ i j, i < n → j < n → Wlk n E ((n - 1) ^ 2 + 1) i j := by
  have go : ∀ tr, chk n ((n - 1) ^ 2 + 1) tr (allM n false) (allM n true) = true → ∀ i j, i < n → j < n → Wlk n E ((n - 1) ^ 2 + 1) i j := fun tr h =>
    chk_sound J (fun i j => Classical.em _) tr _ _ (fun i j _ _ hb => by rw [bit_all] at hb; simp at hb) (fun i j hb => by rw [bit_all] at hb; simp at hb) (fun i j hi hj _ => by rw [bit_all]; simp [hi, hj]) h
  have e : n = 1 ∨ n = 2 ∨ n = 3 ∨ n = 4 := by omega
  rcases e with e | e | e | e <;> subst e
  · exact go tree1 tree1_ok
  · exact go tree2 tree2_ok
  · exact go tree3 tree3_ok
  · exact go tree4 tree4_ok
end K58
set_option Elab.async false
set_option linter.all false
set_option maxRecDepth 100000
/-! The period is one where the law steps to the whole part, and only there. -/
namespace K58
variable {a : Nat → List Nat} {p L : List Nat}
theorem stepL_mem {bag now : List Nat} {x : Nat} : x ∈ stepL a bag now ↔ x ∈ bag ∧ ∃ y ∈ now, x ∈ a y := by
  simp [stepL, List.mem_filter, List.mem_flatMap]
/-- what holds of one of a part and goes on, holds of all -/
theorem part_closed (A : Arr a L) {s0 root : Nat} (hp : p = part a L s0) (hr : root ∈ p) {C : Nat → Prop} (h0 : C root) (hs : ∀ u ∈ p, C u → ∀ v ∈ a u, v ∈ p → C v) : ∀ x ∈ p, C x := by
  subst hp
  have e := part_eq A hr
  have key : ∀ x ∈ far a L root, x ∈ far a L root ∧ (x ∈ part a L s0 → C x) := by
    refine far_least (P := fun x => x ∈ far a L root ∧ (x ∈ part a L s0 → C x)) (fun x hx => ⟨far_first root x hx, fun hxp => hs root hr h0 x hx hxp⟩) (fun x ⟨h1, h2⟩ y hy => ⟨far_step A h1 y hy, fun hyp => ?_⟩)
    have hyr : root ∈ far a L y := by rw [← e] at hyp; exact (part_mem.mp hyp).2
    have hxr : root ∈ far a L x := far_trans A (far_first x y hy) hyr
    have hxp : x ∈ part a L s0 := by rw [← e]; exact part_mem.mpr ⟨h1, hxr⟩
    exact hs x hxp (h2 hxp) y hy hyp
  intro x hx
  have hx' : x ∈ part a L root := by rw [e]; exact hx
  exact (key x (part_mem.mp hx').1).2 hx
theorem iter_sub {s : Nat} (hs : s ∈ p) : ∀ t, ∀ x ∈ iter (stepL a p) t [s], x ∈ p
  | 0, x, h => by rw [List.mem_singleton.mp h]; exact hs
  | t + 1, x, h => (stepL_mem.mp h).1
/-- depths tell a walk's length -/
theorem pot_walk {k : Nat} {φ : Nat → Int} (hφ : Pot a p k φ) {s : Nat} (hs : s ∈ p) : ∀ t, ∀ x ∈ iter (stepL a p) t [s], (k : Int) ∣ φ s + t - φ x
  | 0, x, h => by
    rw [List.mem_singleton.mp h]
    exact ⟨0, by show φ s + ((0 : Nat) : Int) - φ s = _; omega⟩
  | t + 1, x, h => by
    obtain ⟨h1, y, hy, hxy⟩ := stepL_mem.mp h
    have q1 := pot_walk hφ hs t y hy
    have q2 := hφ y (iter_sub hs t y hy) x hxy h1
    have := Int.dvd_add q1 q2
    have e : φ s + (t : Int) - φ y + (φ y + 1 - φ x) = φ s + ((t + 1 : Nat) : Int) - φ x := by omega
    rw [e] at this; exact this
theorem loose_one (hne : p ≠ []) {g : Nat} (G : PerOk a p g) (h : looseL a p = true) : g = 1 := by
  obtain ⟨φ, hφ⟩ := G.fits
  cases p with
  | nil => exact absurd rfl hne
  | cons s r =>
    have full : ∀ u ∈ s :: r, ∀ v ∈ s :: r, v ∈ iter (stepL a (s :: r)) ((((s :: r).length - 1) ^ 2) + 1) [u] := fun u hu v hv => by
      have := beq_iff_eq.mp (List.all_eq_true.mp h u hu)
      rw [this]; exact hv
    have hsm : s ∈ s :: r := List.mem_cons_self
    obtain ⟨_, y, hy, hsy⟩ := stepL_mem.mp (full s hsm s hsm)
    have hyp : y ∈ s :: r := iter_sub hsm _ y hy
    have q1 := pot_walk hφ hyp _ s (full y hyp s hsm)
    have q2 := hφ y hyp s hsy hsm
    have q3 := pot_walk hφ hyp _ y (full y hyp y hyp)
    generalize ((((s :: r).length - 1) ^ 2) + 1 : Nat) = n at q1 q3
    have q4 := Int.dvd_sub q3 (Int.dvd_sub q1 q2)
    have e : φ y + (n : Int) - φ y - (φ y + (n : Int) - φ s - (φ y + 1 - φ s)) = 1 := by omega
    rw [e] at q4
    have := Int.natCast_dvd_natCast.mp (show (g : Int) ∣ ((1 : Nat) : Int) from q4)
    exact Nat.dvd_one.mp this
theorem one_loose (A : Arr a L) {s0 : Nat} (hp : p = part a L s0) (hs0 : s0 ∈ p) (h4 : p.length ≤ 4) {g : Nat} (G : PerOk a p g) (hg : g = 1) : looseL a p = true := by
  have hasc : Asc p := by rw [hp]; exact part_asc A s0
  have hn0 : 0 < p.length := List.length_pos_of_mem hs0
  have at_ : ∀ i, i < p.length → p.getD i 0 ∈ p := fun i hi => by
    rw [List.getD_eq_getElem?_getD, List.getElem?_eq_getElem hi]; exact List.getElem_mem hi
  have ix : ∀ x ∈ p, ∃ i, i < p.length ∧ p.getD i 0 = x := fun x hx => by
    obtain ⟨i, hi, e⟩ := List.getElem_of_mem hx
    exact ⟨i, hi, by rw [List.getD_eq_getElem?_getD, List.getElem?_eq_getElem hi]; exact e⟩
  have inj : ∀ i j, i < p.length → j < p.length → p.getD i 0 = p.getD j 0 → i = j := fun i j hi hj e => by
    rw [List.getD_eq_getElem?_getD, List.getElem?_eq_getElem hi, List.getD_eq_getElem?_getD, List.getElem?_eq_getElem hj] at e
    have e : p[i] = p[j] := e
    rcases Nat.lt_trichotomy i j with h | h | h
    · have := List.pairwise_iff_getElem.mp hasc i j hi hj h; omega
    · exact h
    · have := List.pairwise_iff_getElem.mp hasc j i hj hi h; omega
  have J : Joined p.length (fun i j => p.getD j 0 ∈ a (p.getD i 0)) := {
    strong := fun S ⟨i, hi, hS⟩ hstep j hj => by
      have := part_closed A hp (at_ i hi) (C := fun x => ∃ j, j < p.length ∧ p.getD j 0 = x ∧ S j) ⟨i, hi, rfl, hS⟩ (fun u hu ⟨j, hj, e, hSj⟩ v hv hvp => by
        obtain ⟨m, hm, em⟩ := ix v hvp
        exact ⟨m, hm, em, hstep j m hj hm hSj (by rw [em, e]; exact hv)⟩) (p.getD j 0) (at_ j hj)
      obtain ⟨m, hm, em, hSm⟩ := this
      rw [← inj m j hm hj em]; exact hSm
    nopot := fun k φ hk h => by
      have := G.most k (fun x => φ (p.findIdx fun y => decide (y = x))) (fun u hu v hv hvp => by
        have fi : ∀ x ∈ p, (p.findIdx fun y => decide (y = x)) < p.length ∧ p.getD (p.findIdx fun y => decide (y = x)) 0 = x := fun x hx => by
          have h1 : (p.findIdx fun y => decide (y = x)) < p.length := List.findIdx_lt_length_of_exists ⟨x, hx, by simp⟩
          refine ⟨h1, ?_⟩
          rw [List.getD_eq_getElem?_getD, List.getElem?_eq_getElem h1]
          exact of_decide_eq_true (List.findIdx_getElem (w := h1))
        obtain ⟨f1, f2⟩ := fi u hu
        obtain ⟨g1, g2⟩ := fi v hvp
        exact h _ _ f1 g1 (by rw [f2, g2]; exact hv))
      rw [hg] at this
      have := Nat.dvd_one.mp this
      omega }
  have W := joined_full hn0 h4 J
  have walk : ∀ t i j, i < p.length → j < p.length → Wlk p.length (fun i j => p.getD j 0 ∈ a (p.getD i 0)) t i j → p.getD j 0 ∈ iter (stepL a p) t [p.getD i 0] := by
    intro t
    induction t with
    | zero => intro i j _ _ h; have h : i = j := h; rw [h]; exact List.mem_singleton.mpr rfl
    | succ t ih =>
      intro i j hi hj h
      obtain ⟨m, hm, h1, h2⟩ := h
      exact stepL_mem.mpr ⟨at_ j hj, _, ih i m hi hm h1, h2⟩
  refine List.all_eq_true.mpr fun u hu => beq_iff_eq.mpr ?_
  obtain ⟨i, hi, ei⟩ := ix u hu
  have hfil : Asc (iter (stepL a p) ((p.length - 1) ^ 2 + 1) [u]) := hasc.filter _
  refine asc_eq hfil hasc fun x => ⟨fun hx => iter_sub hu _ x hx, fun hx => ?_⟩
  obtain ⟨j, hj, ej⟩ := ix x hx
  have := walk _ i j hi hj (W i j hi hj)
  rw [ei, ej] at this
  exact this
theorem loose_iff (A : Arr a L) {s0 : Nat} (hp : p = part a L s0) (hs0 : s0 ∈ p) (h4 : p.length ≤ 4) {g : Nat} (G : PerOk a p g) : g = 1 ↔ looseL a p = true :=
  ⟨one_loose A hp hs0 h4 G, loose_one (fun e => by rw [e] at hs0; cases hs0) G⟩
end K58
set_option Elab.async false
set_option linter.all false
set_option maxRecDepth 100000
set_option maxHeartbeats 1000000
/-! Arrows, periods, parts. -/
namespace K58
open PySem PySem.Spec PyProof.Rows L2
section
variable {X : Cx} {K : PySem.W.Frag}
theorem pi_listK {tg l : Expr} {tl : TE} (hK : X.K = K) (hl : PE X l tl) : PI X tg l (iList K tl) := by subst hK; exact pi_list hl
theorem pi_tupK {tg l : Expr} {tl : TE} (hK : X.K = K) (hl : PE X l tl) : PI X tg l (iTup K tl) := by subst hK; exact pi_tup hl
theorem ix_tupK (hK : X.K = K) : IxR X (rIxT K) := by subst hK; exact ix_tup
theorem ix_listK (hK : X.K = K) : IxR X (rIxL K) := by subst hK; exact ix_list
theorem op_in_seqK (hK : X.K = K) : OpR X (compareOp .In) (rIn K false) := by subst hK; exact op_in_seq
theorem op_notIn_seqK (hK : X.K = K) : OpR X (compareOp .NotIn) (rIn K true) := by subst hK; exact op_notIn_seq
theorem pe_joinK {o e : Expr} {to te : TE} {apos pos : Pos} (hK : X.K = K) (ho : PE X o to) (he : PE X e te) (hs : starEach [e] X.env = [(false, eval e X.env)] := by rfl) (hbase : attributeBase o "join" X.env (eval o X.env) = eval o X.env := by rfl) (hline : (apos.endLine == pos.line) = true := by rfl) :
    PE X (.Call (.Attribute o "join" apos) [e] [] pos) (tM1 (fun x xs H Q => ∃ a p, ∃ ys : List Str, x = .str a ∧ xs = [.ref p] ∧ (SqL K H p (ys.map V.str) ∨ SqT K H p (ys.map V.str)) ∧
      (ys.map (·.length)).sum + ys.length * a.length ≤ 16777216 ∧ Q (.str (Txt.join a ys)) H) to te) := by subst hK; exact pe_join ho he hs hbase hline
end
theorem fm_id {α : Type} (p : α → Bool) (l : List α) : l.filterMap (fun x => if p x = true then some x else none) = l.filter p := (fm_if p id l).trans (List.map_id _)
def depK (d : Dep) : List (Key × V) := d.map fun q => (Sum.inr (S [q.1]), .int q.2)
theorem valV_dep (d : Dep) (x : Nat) : valV (depK d) (Sum.inr (S [x])) = (dget d x).map V.int := by
  induction d with
  | nil => rfl
  | cons q d ih =>
    rw [dget_cons]
    by_cases h : q.1 = x
    · rw [if_pos h]
      exact valV_pos (p := (Sum.inr (S [q.1]), V.int q.2)) (by rw [h])
    · rw [if_neg h, ← ih]
      exact valV_neg (p := (Sum.inr (S [q.1]), V.int q.2)) (fun e => h (keyS_inj _ _ e))
theorem putK_dep {d : Dep} {x : Nat} {n : Int} (h : dget d x = none) : putK (depK d) (Sum.inr (S [x])) (.int n) = depK (d ++ [(x, n)]) := by
  rw [putK_new]
  · simp [depK]
  · intro p hp e
    obtain ⟨q, hq, eq⟩ := List.mem_map.mp hp
    rw [← eq] at e
    exact dget_none h (List.mem_map.mpr ⟨q, hq, keyS_inj _ _ e⟩)
def dlen (H : Hp) (D : Addr) : Nat := match H D with
  | some (.dK kvs) => kvs.length
  | _ => 0
def llen (H : Hp) (D : Addr) : Nat := match H D with
  | some (.lst xs) => xs.length
  | _ => 0
/-- a state of the search in the heap -/
structure DsH (H : Hp) (D T : Addr) (st : DSt) : Prop where
  d : H D = some (.dK (depK st.1))
  t : H T = some (.lst (st.2.1.map fun c => tx [c]))
theorem DsH.mu {H : Hp} {D T : Addr} {st : DSt} (h : DsH H D T st) : 2 * (10 - dlen H D) + llen H T = dmu st := by
  unfold dlen llen dmu
  rw [h.d, h.t]
  simp [depK]
theorem DI.len {a : Nat → List Nat} {p bs : List Nat} {root : Nat} {s : Option Nat} {st : DSt} (h : DI a p root s bs st) (h4 : p.length ≤ 4) : st.1.length ≤ 4 := by
  have := nd_len (st.1.map (·.1)) p h.nd h.sub
  rw [List.length_map] at this
  omega
theorem abs_eq (x : Int) : (if x < 0 then -x else x) = (x.natAbs : Int) := by split <;> omega
section
variable {P : Program} {w : World} {K : PySem.W.Frag} {mg : Str → Option Value} {base : Heap}
theorem sc_P_arrows_by : FnScope ["table", "lot", "rows", "row", "label"] ["table", "lot"] (defScope sP_arrows_by) := ⟨rfl, rfl, rfl, by decide +kernel, rfl, by decide +kernel, by decide +kernel⟩
def sp_arrows_by (K : PySem.W.Frag) : Sp := fun vs H Q _ => ∃ (v : V) (m : Nat) (rows : List (List Nat)) (L : List Nat), vs = [v, tx L] ∧ TabV K H v m rows ∧ Rows m rows ∧ LotOf rows L ∧ ∀ H' d, Ext H H' → H' d = some (.dK (arK (ar rows L) L)) → Q (.ref d) H'
theorem h_arrows_by (T : Top K mg) : Has P w K mg base "arrows_by" 2 ["table", "lot"] (sp_arrows_by K) := by
  have nd := sc_P_arrows_by.nd
  have h_lot_of := h_lot_of (P := P) (w := w) (base := base) T
  have h_is_within := h_is_within (P := P) (w := w) (base := base) T
  refine has_of T dP_arrows_by (by simp [fn, fn0, fn1, fn2, fn3]) rfl (by decide +kernel) rfl sc_P_arrows_by (fun vs H Q E ⟨v, m, rows, L, e, _⟩ => by rw [e]; rfl) (fun _ _ _ _ _ _ us hl => match us, hl with | [_, _], _ => rfl) (fun cdv A outer s H vs Q E hr h => ?_)
  obtain ⟨v, m, rows, L, rfl, ⟨t, rt, rfl, ht, hrt⟩, R, L0, q⟩ := h
  -- cells: ['label', 'lot', 'rows']; slots {'table': 0, 'lot': 1, 'rows': 2, 'row': 3, 'label': 4}
  refine ⟨_, (pss_cons (ps_set (i := 2) nd rfl (Or.inr rfl) (pe_lc (own := [("row", 3)]) (g := (gName 3)) (tt := _) rfl nd (pi_tup (pe_ix ix_tup (pv 0) pe_int (fun _ _ => rfl))) (blkOk_by (by kernel_rfl)) (fun _ _ _ _ _ => (pg_name (i := 3) nd rfl (Or.inl rfl))) (fun _ _ _ _ _ => (pts_one (pt_val (pe_has h_is_within (hr.mono (by omega)) (by rfl) (pa_cons (pv 3) (pa_cons (pv 1) pa_nil)))))) (fun _ _ _ _ _ => (pv 3))))
      (pss_one (ps_ret (pe_dc (own := [("label", 4)]) (g := (gName 4)) (tt := tYes) rfl nd (pi_str (pv 1)) (blkOk_by (by kernel_rfl)) (fun _ _ _ _ _ => (pg_name (i := 4) nd rfl (Or.inr rfl))) (fun _ _ _ _ _ => pts_nil) (fun _ _ _ _ _ => (pv 4)) (fun _ _ _ _ _ => (pe_has h_lot_of (hr.mono (by omega)) (by rfl) (pa_cons (pe_joinK (K := K) rfl pe_str (pe_lc (own := [("row", 3)]) (g := (gName 3)) (tt := _) rfl nd (pi_listK (K := K) rfl (pv 2)) (blkOk_by (by kernel_rfl)) (fun _ _ _ _ _ => (pg_name (i := 3) nd rfl (Or.inl rfl))) (fun _ _ _ _ _ => (pts_one (pt_cmpR op_eq (pe_ix ix_str (pv 3) pe_int (fun _ _ => rfl)) (pv 4) (nomark _)))) (fun _ _ _ _ _ => (pe_slice sl_str (pv 3) (po_some pe_int) po_none)))) pa_nil))))))), ?_⟩
  refine ⟨.ref t, rfl, t, _, 1, _, rfl, rfl, ht, rfl, rt, rfl, ⟨_, hrt⟩, fun D hD => lcTu rows tx (fun r => if within r L = true then some r else none) (fun r y _ => y = tx r) hrt hD (fun _ _ _ _ _ h => h) (Nat.lt_of_le_of_lt R.len (by decide)) (fun r hr0 H1 e1 R1 R0 k1 k0 => ⟨rfl, ?_⟩) fun H1 ys e1 hDy f2 => ?_⟩
  · refine ⟨tx r, rfl, tx L, rfl, r, L, rfl, Nat.le_trans (R.rowlen hr0) (by decide), fun H2 e2 => ⟨_, rfl, ite2 (fun hc => ?_) fun hc => k0 _ (if_neg hc) e2⟩⟩
    exact ⟨tx r, rfl, k1 _ _ _ (if_pos hc) e2 rfl⟩
  have ey := f2.eq (vv := tx)
  rw [fm_id (fun r => within r L)] at ey
  have hL1 : H1 D = some (.lst ((inn rows L).map tx)) := by rw [hDy, ey]; rfl
  have h4 := L0.len R
  refine ⟨tx L, rfl, S L, rfl, fun D2 hD2 => dcFm (walk_str (z := S L)) L (fun c => tx [c]) (fun c => Sum.inr (S [c])) (fun c => tx (ar rows L c)) rfl (fun i H x H' hi y => ⟨y.1, by obtain ⟨c, h, e⟩ := y.2; exact ⟨c, by rw [← h]; exact (Array.getElem?_toList ..).symm ▸ rfl, e⟩⟩) hD2 ?_ (fun _ _ => trivial) (line_small (by omega)) (fun c hc H2 e2 R1 k1 => ⟨rfl, ?_⟩) (fun x σ H P P' hP h => hP _ _ h) fun H2 e2 hD2' => q H2 D2 (e1.trans e2) hD2'⟩
  · exact List.Pairwise.map _ (fun a b h e => h (keyS_inj a b e)) L0.asc.nodup
  · have hL2 := e2.same _ _ hL1
    refine ⟨tx [c], rfl, ⟨_, rfl⟩, .ref D, rfl, D, rfl, ⟨_, .inl (.inl hL2)⟩, fun D3 hD3 => lcLi (inn rows L) tx (fun r => if (hd r == c) = true then some r.tail else none) (fun r y _ => y = tx r) (.inl (.inl hL2)) hD3 (fun _ _ _ _ _ h => h) (Nat.lt_of_le_of_lt (List.length_filter_le _ _) (Nat.lt_of_le_of_lt R.len (by decide))) (fun r hr0 H3 e3 R1' R0' k1' k0' => ⟨rfl, ?_⟩) fun H3 ys3 e3 hDy3 f23 => ?_⟩
    · have hrr : r ∈ rows := (List.mem_filter.mp hr0).1
      refine ⟨tx r, rfl, S r, 0, hd r, rfl, rfl, Nat.le_trans (R.rowlen hrr) (by decide), hd_at (R.nemp r hrr), tx [c], rfl, rfl, _, rfl, ?_⟩
      by_cases e : hd r = c
      · have e0 : decide (V.str ⟨#[hd r]⟩ = tx [c]) = true := by rw [e]; exact decide_eq_true rfl
        rw [e0]
        refine iteT ⟨tx r, rfl, 1, rfl, S r, rfl, Nat.le_trans (R.rowlen hrr) (by decide), ?_⟩
        rw [show (1 : Int) = ((1 : Nat) : Int) from rfl, cut_drop, List.drop_one]
        exact k1' r.tail _ _ (by simp [e]) (Ext.refl _) rfl
      · have e0 : decide (V.str ⟨#[hd r]⟩ = tx [c]) = false := decide_eq_false fun z => e (by have := tx_inj (a := [hd r]) (b := [c]) z; injection this)
        rw [e0]
        exact iteF (k0' _ (by simp [e]) (Ext.refl _))
    · have ey3 := f23.eq (vv := tx)
      rw [fm_if (fun r => hd r == c) List.tail, ← map_txV] at ey3
      have hlen : ((((inn rows L).filter fun r => hd r == c).map List.tail).flatten).length ≤ 24 := by
        have := flat_len (n := 4) (((inn rows L).filter fun r => hd r == c).map List.tail) fun l hl => by
          obtain ⟨r, hr0, rfl⟩ := List.mem_map.mp hl
          have := R.rowlen (List.mem_filter.mp (List.mem_filter.mp hr0).1).1
          rw [List.length_tail]; omega
        rw [List.length_map] at this
        have h1 : ((inn rows L).filter fun r => hd r == c).length ≤ 6 := Nat.le_trans (List.length_filter_le _ _) (Nat.le_trans (List.length_filter_le _ _) R.len)
        omega
      refine ⟨"", D3, _, rfl, rfl, .inl (.inl (.inl (by rw [hDy3, ey3]))), ?_, ?_⟩
      · rw [sum_len]
        have h3 : ("" : Str).length = 0 := rfl
        rw [h3]; omega
      · rw [join_S]
        exact ⟨_, _, rfl, srcTx _, Nat.lt_of_le_of_lt hlen (by decide), fun H4 e4 => k1 H4 (e3.trans e4)⟩
theorem sc_P_period_by : FnScope ["arrows", "part", "depths", "tasks", "period", "label", "below", "own"] ["arrows", "part"] (defScope sP_period_by) := ⟨rfl, rfl, rfl, by decide +kernel, rfl, by decide +kernel, by decide +kernel⟩
def sp_period_by : Sp := fun vs H Q _ => ∃ (d : Addr) (a : Nat → List Nat) (L : List Nat) (s0 : Nat), vs = [.ref d, tx (part a L s0)] ∧ s0 ∈ part a L s0 ∧ ArrV H d a L ∧ Arr a L ∧ L.length ≤ 4 ∧ ∀ H' (g : Nat), Ext H H' → PerOk a (part a L s0) g → Q (.int g) H'
theorem h_period_by (T : Top K mg) : Has P w K mg base "period_by" 2 ["arrows", "part"] sp_period_by := by
  have nd := sc_P_period_by.nd
  have h_divisor_of := h_divisor_of (P := P) (w := w) (base := base) T
  refine has_of T dP_period_by (by simp [fn, fn0, fn1, fn2, fn3]) rfl (by decide +kernel) rfl sc_P_period_by (fun vs H Q E ⟨d, a, L, s0, e, _⟩ => by rw [e]; rfl) (fun _ _ _ _ _ _ us hl => match us, hl with | [_, _], _ => rfl) (fun cdv A outer s H vs Q E hr h => ?_)
  obtain ⟨d, a, L, s0, rfl, hs0, hd0, A0, hL, q⟩ := h
  -- cells: ['part']; slots {'arrows': 0, 'part': 1, 'depths': 2, 'tasks': 3, 'period': 4, 'label': 5, 'below': 6, 'own': 7}
  refine ⟨_, (pss_cons (ps_set (i := 2) nd rfl (Or.inl rfl) (pe_disp (pps_cons (pe_ix ix_str (pv 1) pe_int (fun _ _ => rfl)) pe_int pps_nil) (by rfl) (by rfl) (fun z => by cases z) (by decide)))
      (pss_cons (ps_set (i := 3) nd rfl (Or.inl rfl) (pe_lst (pa_cons (pe_ix ix_str (pv 1) pe_int (fun _ _ => rfl)) pa_nil)))
      (pss_cons (ps_set (i := 4) nd rfl (Or.inl rfl) pe_int)
      (pss_cons (ps_while PassesOwn.never (pt_cmpR op_gt (pe_callB call_len_seq (by rfl) (T.free _ (by decide +kernel)) (by decide +kernel) (pa_cons (pv 3) pa_nil)) pe_int (nomark _))
        (pss_cons (ps_set (i := 5) nd rfl (Or.inl rfl) (pe_bm0 PySem.F.plainAttrs_list PySem.F.slot_list_pop PySem.F.type_list_pop mt_pop (pv 3)))
        (pss_one (ps_for PassesOwn.never rfl (pi_list (pe_lc (own := [("own", 7)]) (g := (gName 7)) (tt := _) rfl nd (pi_str (pe_dget (hu_of hr) (pv 0) (pv 5) (fun _ _ => rfl))) (blkOk_by (by kernel_rfl)) (fun _ _ _ _ _ => (pg_name (i := 7) nd rfl (Or.inl rfl))) (fun _ _ _ _ _ => (pts_one (pt_cmpR op_in_sign (pv 7) (pv 1) rfl))) (fun _ _ _ _ _ => (pv 7)))) (pg_name (i := 6) nd rfl (Or.inl rfl))
          (pss_one (ps_if (pt_cmp (pc_din (hu_of hr) (pv 6) (pv 2))) (pss_one (ps_set (i := 4) nd rfl (Or.inl rfl) (pe_has h_divisor_of (hr.mono (by omega)) (by rfl) (pa_cons (pv 4) (pa_cons (pe_callB call_abs (by rfl) (T.free _ (by decide +kernel)) (by decide +kernel) (pa_cons (pe_op op_sub (pe_op op_add (pe_dget (hu_of hr) (pv 2) (pv 5) (fun _ _ => rfl)) pe_int) (pe_dget (hu_of hr) (pv 2) (pv 6) (fun _ _ => rfl))) pa_nil)) pa_nil))))) (pss_cons (ps_dput (hu_of hr) (pv 2) (pv 6) (pe_op op_add (pe_dget (hu_of hr) (pv 2) (pv 5) (fun _ _ => rfl)) pe_int) rfl)
            (pss_one (ps_expr (pe_bm PySem.F.plainAttrs_list PySem.F.slot_list_append PySem.F.type_list_append mt_append (pv 3) (pa_cons (pv 6) pa_nil)))))))))))
      (pss_one (ps_ret (pv 4))))))), ?_⟩
  generalize hp : part a L s0 = p at hs0 q ⊢
  have hasc : Asc p := by rw [← hp]; exact part_asc A0 s0
  have hsub : Sub p L := by rw [← hp]; exact part_sub A0 s0
  have h4 : p.length ≤ 4 := Nat.le_trans (asc_len hasc hsub) hL
  have hne : p ≠ [] := fun e => by rw [e] at hs0; cases hs0
  have hroot : hd p ∈ p := hd_mem hne
  intro D nD
  refine ⟨tx p, rfl, S p, 0, hd p, rfl, rfl, line_smallE (by rw [S_len]; omega), hd_at hne, ?_⟩
  refine ⟨upd_same, [(Sum.inr (S [hd p]), .int 0)], rfl, by show 1 ≤ 15; decide, ?_⟩
  have e1 : Ext H (upd (upd H D (.dK [])) D (.dK (mergeK [] [(Sum.inr (S [hd p]), .int 0)]))) := ((Ext.refl H).updNew nD rfl).updNew nD rfl
  have hDv : (upd (upd H D (.dK [])) D (.dK (mergeK [] [(Sum.inr (S [hd p]), .int 0)]))) D = some (.dK (depK [(hd p, 0)])) := upd_same
  generalize (upd (upd H D (.dK [])) D (.dK (mergeK [] [(Sum.inr (S [hd p]), .int 0)]))) = H1 at e1 hDv ⊢
  refine ⟨tx p, rfl, S p, 0, hd p, rfl, rfl, line_smallE (by rw [S_len]; omega), hd_at hne, by show 1 ≤ sizeLine; decide, fun T' nT => ?_⟩
  have hDT : D ≠ T' := fun z => by rw [← z, hDv] at nT; cases nT
  have nTH : H T' = none := e1.none nT
  refine while_on (fun σ H' => Ext H H' ∧ ∃ (st : DSt) (y5 y6 y7 : Option V), σ = [some (.ref d), some (tx p), some (.ref D), some (.ref T'), some (.int (st.2.2 : Nat)), y5, y6, y7] ∧ DsH H' D T' st ∧ DI a p (hd p) none [] st ∧ dmu st ≤ 20) (fun _ H' => 2 * (10 - dlen H' D) + llen H' T') ⟨e1.then nT rfl, ([(hd p, 0)], [hd p], 0), none, none, none, rfl, ⟨by rw [upd_ne hDT]; exact hDv, upd_same⟩, DI.start hroot, by simp [dmu]⟩ fun σ H2 p2 => ?_
  obtain ⟨e2, ⟨dep, ts0, g⟩, y5, y6, y7, rfl, ds, I0, mu20⟩ := p2
  have hT2 : H2 T' = some (.lst (ts0.map fun c => tx [c])) := ds.t
  refine ⟨.ref T', rfl, T', _, rfl, .inl (.inl (.inl hT2)), ((ts0.map fun c => tx [c]).length : Nat), 0, rfl, rfl, _, rfl, ?_⟩
  rcases List.eq_nil_or_concat ts0 with rfl | ⟨ts, s, ets⟩
  · refine iteF ⟨_, rfl, ?_⟩
    have := I0.end (di_all A0 hp.symm hroot I0)
    exact q _ _ e2 this
  · rw [List.concat_eq_append] at ets
    subst ets
    have hpos : decide ((0 : Int) < (((ts ++ [s]).map fun c => tx [c]).length : Nat)) = true := decide_eq_true (by simp)
    rw [hpos]
    refine iteT (Wn.mk ?_)
    rw [List.map_append] at hT2
    have hlast : (ts.map (fun c => tx [c]) ++ [s].map fun c => tx [c])[(ts.map (fun c => tx [c]) ++ [s].map fun c => tx [c]).length - 1]? = some (tx [s]) := by simp
    refine ⟨.ref T', rfl, .inl ⟨rfl, _, .inl (.inl hT2)⟩, T', _, _, rfl, rfl, hT2, hlast, ?_⟩
    have hdl : (ts.map (fun c => tx [c]) ++ [s].map fun c => tx [c]).dropLast = ts.map fun c => tx [c] := by simp
    rw [hdl]
    have e3 := e2.updNew (o := .lst (ts.map fun c => tx [c])) nTH rfl
    have ds3 : DsH (upd H2 T' (.lst (ts.map fun c => tx [c]))) D T' (dep, ts, g) := ⟨by rw [upd_ne hDT]; exact ds.d, upd_same⟩
    have mu0 := ds.mu
    have I1 := I0.pop
    have hsp : s ∈ p := I1.sub s (I1.own s rfl)
    have hsL : s ∈ L := hsub s hsp
    generalize (upd H2 T' (.lst (ts.map fun c => tx [c]))) = H3 at e3 ds3 ⊢
    have ha4 : (a s).length ≤ 4 := Nat.le_trans (asc_len (A0.asc s) (A0.sub s)) hL
    refine ⟨.ref d, rfl, tx [s], rfl, d, tx (a s), rfl, ArrV.get (e3.rd hd0) hsL, S (a s), rfl, fun D2 hD2 => lcSt (l := a s) (fun c => if decide (c ∈ p) = true then some c else none) (fun c y _ => y = tx [c]) hD2 (fun _ _ _ _ _ h => h) (line_small (by omega)) (fun c hc H4 e4 R1 R0 k1 k0 => ⟨rfl, ?_⟩) fun H4 ys e4 hDy f2 => ?_⟩
    · refine ⟨tx [c], rfl, tx p, rfl, c, S p, rfl, rfl, _, rfl, ite2 (fun hc => ?_) fun hc => k0 _ (if_neg hc) (Ext.refl _)⟩
      exact ⟨tx [c], rfl, k1 c _ _ (if_pos hc) (Ext.refl _) rfl⟩
    have ey := f2.eq (vv := fun c => tx [c])
    rw [fm_id (fun c => decide (c ∈ p))] at ey
    generalize hbs : (a s).filter (fun c => decide (c ∈ p)) = bs at ey
    have hbm : ∀ b ∈ bs, b ∈ a s ∧ b ∈ p := fun b hb => by rw [← hbs] at hb; have := List.mem_filter.mp hb; exact ⟨this.1, of_decide_eq_true this.2⟩
    rw [ey] at hDy
    have ds4 : DsH H4 D T' (dep, ts, g) := ⟨e4.same _ _ ds3.d, e4.same _ _ ds3.t⟩
    have e40 := e3.trans e4
    have hD2T : D2 ≠ T' := fun z => by rw [z, ds3.t] at hD2; cases hD2
    have hD2D : D2 ≠ D := fun z => by rw [z, ds3.d] at hD2; cases hD2
    refine ⟨D2, rfl, ⟨_, .inl (.inl hDy)⟩, for_it (walk_list (xs := bs.map fun c => tx [c])) (fun i σ H' => Ext H H' ∧ H' D2 = some (.lst (bs.map fun c => tx [c])) ∧ ∃ (st : DSt) (y6 y7 : Option V), σ = [some (.ref d), some (tx p), some (.ref D), some (.ref T'), some (.int (st.2.2 : Nat)), some (tx [s]), y6, y7] ∧ DsH H' D T' st ∧ DI a p (hd p) (some s) (bs.take i) st ∧ dmu st ≤ dmu (dep, ts, g)) ⟨e40, hDy, (dep, ts, g), _, _, rfl, ds4, by rw [List.take_zero]; exact I1, Nat.le_refl _⟩ (fun i σ H' _ p => .inl (.inl p.2.1)) (fun i x σ H6 H5 hi p5 y => ?_) fun σ H5 p5 => ?_⟩
    · obtain ⟨e5, hD25, st, y6', y7', rfl, ds5, I5, m5⟩ := p5
      obtain ⟨rfl, hx⟩ := y
      rw [List.getElem?_map] at hx
      cases eb : bs[i]? with
      | none => rw [eb] at hx; cases hx
      | some b =>
        rw [eb] at hx
        obtain rfl := Option.some.inj hx
        obtain ⟨hba, hbp⟩ := hbm b (List.mem_of_getElem? eb)
        have ht : bs.take (i + 1) = bs.take i ++ [b] := by rw [List.take_succ, eb]; rfl
        have I6 := I5.visit hba hbp
        rw [← ht] at I6
        have hdl4 := I5.len h4
        have m6 := Nat.le_trans (visit_mu s b st (by omega)) m5
        obtain ⟨dep5, ts5, g5⟩ := st
        have hdl5 : dep5.length ≤ 4 := hdl4
        obtain ⟨dss, es⟩ := dget_mem (I5.own s rfl)
        have es : dget dep5 s = some dss := es
        have hDd : H5 D = some (.dK (depK dep5)) := ds5.d
        have hTt : H5 T' = some (.lst (ts5.map fun c => tx [c])) := ds5.t
        have getS : DGet H5 D (tx [s]) (some (.int dss)) := by have := DGet.k (k := Sum.inr (S [s])) hDd; rw [valV_dep, es] at this; exact this
        refine ⟨tx [b], rfl, .ref D, rfl, D, _, rfl, DGet.k (k := Sum.inr (S [b])) hDd, _, rfl, ?_⟩
        rw [valV_dep]
        cases eg : dget dep5 b with
        | some db =>
          have getB : DGet H5 D (tx [b]) (some (.int db)) := by have := DGet.k (k := Sum.inr (S [b])) hDd; rw [valV_dep, eg] at this; exact this
          refine iteT ⟨.int g5, rfl, .ref D, rfl, tx [s], rfl, D, _, rfl, getS, dss, 1, rfl, rfl, .ref D, rfl, tx [b], rfl, D, _, rfl, getB, dss + 1, db, rfl, rfl, _, rfl, g5, (dss + 1 - db).natAbs, ?_, ?_⟩
          · rw [abs_eq]
          · have hv : visit s (dep5, ts5, g5) b = (dep5, ts5, Nat.gcd g5 (dss + 1 - db).natAbs) := by
              unfold visit; simp only [eg, es]; rfl
            rw [hv] at I6 m6
            exact ⟨e5, hD25, _, _, _, rfl, ⟨hDd, hTt⟩, I6, m6⟩
        | none =>
          have hv : visit s (dep5, ts5, g5) b = (dep5 ++ [(b, dss + 1)], ts5 ++ [b], g5) := by
            unfold visit; simp only [eg, es]; rfl
          rw [hv] at I6 m6
          have nDH : H D = none := nD
          refine iteF ⟨.ref D, rfl, tx [s], rfl, D, _, rfl, getS, dss, 1, rfl, rfl, .ref D, rfl, tx [b], rfl, D, _, rfl, DPut.k (k := Sum.inr (S [b])) hDd (line_small (by simp [depK]; omega)), ?_⟩
          rw [putK_dep eg]
          have hT6 : (upd H5 D (.dK (depK (dep5 ++ [(b, dss + 1)])))) T' = some (.lst (ts5.map fun c => tx [c])) := by rw [upd_ne hDT.symm]; exact hTt
          have hts : ts5.length ≤ 20 := by
            have h7 := m5
            have h8 := mu20
            simp only [dmu, List.length_append, List.length_singleton] at h7 h8
            omega
          refine ⟨.ref T', rfl, .inl ⟨rfl, _, .inl (.inl hT6)⟩, tx [b], rfl, T', _, _, rfl, rfl, hT6, line_small (by simp; omega), (e5.updNew nDH rfl).updNew nTH rfl, ?_, (dep5 ++ [(b, dss + 1)], ts5 ++ [b], g5), _, _, rfl, ⟨?_, ?_⟩, I6, m6⟩
          · rw [upd_ne hD2T, upd_ne hD2D]; exact hD25
          · rw [upd_ne hDT]; exact upd_same
          · rw [upd_same]; simp
    · obtain ⟨e5, hD25, st, y6', y7', rfl, ds5, I5, m5⟩ := p5
      rw [List.length_map, List.take_length] at I5
      refine ⟨⟨e5, st, _, _, _, rfl, ds5, I5.close fun v hv hvp => ?_, ?_⟩, ?_⟩
      · rw [← hbs]; exact List.mem_filter.mpr ⟨hv, decide_eq_true hvp⟩
      · refine Nat.le_trans m5 (Nat.le_trans ?_ mu20)
        simp [dmu]
      · rw [ds5.mu, mu0]
        refine Nat.lt_of_le_of_lt m5 ?_
        simp [dmu]
end
end K58
set_option Elab.async false
set_option linter.all false
set_option maxRecDepth 100000
set_option maxHeartbeats 1000000
/-! Parts and what is loose. -/
namespace K58
open PySem PySem.Spec PyProof.Rows L2
section
variable {J : It} {n : Nat} {G : Hp → Prop} {Y : Nat → Hp → V → Hp → Prop}
theorem lcFmT (w : Walk J n G Y) {α β : Type} (as : List α) (av : α → V → Hp → Prop) (f : α → Option β) (Rl : β → V → Hp → Prop) {g : TG} {tt : TT} {te : TE} {vs : List Nat} {σ : L2.St} {H1 : Hp} {D : Addr} {Qd : Hp → Prop}
    (hn : as.length = n) (hY : ∀ i H x H', i < n → Y i H x H' → Ext H H' ∧ ∃ a, as[i]? = some a ∧ av a x H') (hD : H1 D = none) (hRl : ∀ b y H H', Keep D H H' → Rl b y H → Rl b y H') (hG : ∀ H, Ext H1 H → G H) (hlen : as.length < sizeLine)
    (hs : ∀ a ∈ as, ∀ x H, Ext H1 H → (∃ ys, H D = some (.lst ys)) → av a x H → ∀ (R1 : V → Hp → Prop) (R0 : Hp → Prop), (∀ z y H4, f a = some z → Ext H H4 → Rl z y H4 → R1 y H4) → (∀ H3, f a = none → Ext H H3 → R0 H3) →
      g x (wipe σ vs) H fun σ2 H2 => wipe σ2 vs = wipe σ vs ∧ tt σ2 H2 fun b H3 => if b = true then te σ2 H3 R1 else R0 H3)
    (hd : ∀ H ys, Ext H1 H → H D = some (.lst ys) → F2 (fun z y => Rl z y H) (as.filterMap f) ys → Qd H) :
    ∃ W : Nat → Nat → Hp → Prop, (∃ m, W 0 m (upd H1 D (.lst []))) ∧ ∀ i m H, W i m H →
      (J.stop i H ∧ Qd H) ∨ (J.go i H ∧ ∃ Nx : Hp → Prop, (∀ H', Nx H' → ∃ m', m' < m ∧ W (i + 1) m' H') ∧ ∀ x H', J.yld i H x H' → g x (wipe σ vs) H' fun σ2 H2 => wipe σ2 vs = wipe σ vs ∧ tt σ2 H2 fun b H3 =>
        if b = true then te σ2 H3 fun y H4 => ∃ acc, H4 D = some (.lst acc) ∧ acc.length < sizeLine ∧ Nx (upd H4 D (.lst (acc ++ [y]))) else Nx H3) := by
  refine lc_it w (fun i H => Ext H1 H ∧ ∃ ys, H D = some (.lst ys) ∧ F2 (fun z y => Rl z y H) ((as.take i).filterMap f) ys) ⟨(Ext.refl H1).updNew hD rfl, [], upd_same, .nil⟩ (fun i H _ p => hG H p.1) (fun i x H H' hi p y => ?_) (fun H ⟨e, ys, h1, h2⟩ => ?_)
  · obtain ⟨e, ys, h1, h2⟩ := p
    obtain ⟨e0, a, ha, hav⟩ := hY i H x H' hi y
    have ht : as.take (i + 1) = as.take i ++ [a] := by rw [List.take_succ, ha]; rfl
    refine hs a (List.mem_of_getElem? ha) _ _ (e.trans e0) ⟨_, e0.same _ _ h1⟩ hav _ _ (fun z y H4 hz e4' r => have e4 := e0.trans e4'; ⟨ys, e4.same _ _ h1, ?_, (e.trans e4).updNew hD rfl, _, upd_same, ?_⟩) fun H3 z e3' => have e3 := e0.trans e3'; ⟨e.trans e3, ys, e3.same _ _ h1, ?_⟩
    · rw [h2.len]
      refine Nat.lt_of_le_of_lt (List.length_filterMap_le _ _) (Nat.lt_of_le_of_lt ?_ hlen)
      rw [List.length_take]; exact Nat.min_le_right _ _
    · rw [ht, List.filterMap_append]
      have e1 : List.filterMap f [a] = [z] := by simp [hz]
      rw [e1]
      refine F2.snoc (h2.mono fun z y r => hRl z y _ _ (fun b o hb h => (keep_upd H4 D _) b o hb (e4.same b o h)) r) (hRl _ _ _ _ (keep_upd H4 D _) r)
    · rw [ht, List.filterMap_append]
      have e1 : List.filterMap f [a] = [] := by simp [z]
      rw [e1, List.append_nil]
      exact h2.mono fun z y r => hRl z y _ _ (e3.keep D) r
  · refine hd H ys e h1 ?_
    rw [← hn, List.take_length] at h2
    exact h2
end
/-- over a list whose items are told by a relation -/
theorem lcLiT {K : PySem.W.Frag} {a : Addr} {xs : List V} {α β : Type} (as : List α) (av : α → V → Prop) (f : α → Option β) (Rl : β → V → Hp → Prop) {g : TG} {tt : TT} {te : TE} {vs : List Nat} {σ : L2.St} {H1 : Hp} {D : Addr} {Qd : Hp → Prop}
    (hq : SqL K H1 a xs) (hx : F2 av as xs) (hD : H1 D = none) (hRl : ∀ b y H H', Keep D H H' → Rl b y H → Rl b y H') (hlen : as.length < sizeLine)
    (hs : ∀ a ∈ as, ∀ x H, Ext H1 H → (∃ ys, H D = some (.lst ys)) → av a x → ∀ (R1 : V → Hp → Prop) (R0 : Hp → Prop), (∀ z y H4, f a = some z → Ext H H4 → Rl z y H4 → R1 y H4) → (∀ H3, f a = none → Ext H H3 → R0 H3) →
      g x (wipe σ vs) H fun σ2 H2 => wipe σ2 vs = wipe σ vs ∧ tt σ2 H2 fun b H3 => if b = true then te σ2 H3 R1 else R0 H3)
    (hd : ∀ H ys, Ext H1 H → H D = some (.lst ys) → F2 (fun z y => Rl z y H) (as.filterMap f) ys → Qd H) :
    ∃ W : Nat → Nat → Hp → Prop, (∃ m, W 0 m (upd H1 D (.lst []))) ∧ ∀ i m H, W i m H →
      ((Itl K a).stop i H ∧ Qd H) ∨ ((Itl K a).go i H ∧ ∃ Nx : Hp → Prop, (∀ H', Nx H' → ∃ m', m' < m ∧ W (i + 1) m' H') ∧ ∀ x H', (Itl K a).yld i H x H' → g x (wipe σ vs) H' fun σ2 H2 => wipe σ2 vs = wipe σ vs ∧ tt σ2 H2 fun b H3 =>
        if b = true then te σ2 H3 fun y H4 => ∃ acc, H4 D = some (.lst acc) ∧ acc.length < sizeLine ∧ Nx (upd H4 D (.lst (acc ++ [y]))) else Nx H3) :=
  lcFmT (walk_list (xs := xs)) as (fun a x _ => av a x) f Rl hx.len.symm (fun i H x H' hi y => ⟨y.1 ▸ Ext.refl _, hx.get y.2⟩) hD hRl (fun H e => e.seq hq) hlen hs hd
theorem ext_lock {H H1 : Hp} (e : Ext H H1) {d : Addr} {o : HO} (ho : plainHO o = true) : Ext (upd H d o) (upd H1 d o) := ⟨fun b u h => by
    by_cases z : b = d
    · rw [z, upd_same] at h ⊢; exact h
    · rw [upd_ne z] at h ⊢; exact e.same b u h, fun b u h => by
    by_cases z : b = d
    · rw [z, upd_same] at h; cases h; exact .inr ho
    · rw [upd_ne z] at h ⊢; exact e.new b u h⟩
theorem ext_unlock {H H1 : Hp} {d : Addr} {u o : HO} (h0 : H d = some u) (e : Ext (upd H d o) H1) : Ext H (upd H1 d u) := ⟨fun b v h => by
    by_cases z : b = d
    · rw [z] at h ⊢; rw [upd_same, ← h0, h]
    · rw [upd_ne z]; exact e.same b v (by rw [upd_ne z]; exact h), fun b v h => by
    by_cases z : b = d
    · rw [z, upd_same] at h; cases h; rw [z]; exact .inl h0
    · rw [upd_ne z] at h
      rcases e.new b v h with q | q
      · rw [upd_ne z] at q; exact .inl q
      · exact .inr q⟩
theorem inV_tx (x : List Nat) (ls : List (List Nat)) : inV (tx x) (ls.map tx) = decide (x ∈ ls) := by
  unfold inV
  induction ls with
  | nil => rfl
  | cons a r ih =>
    rw [List.map_cons, List.any_cons, ih]
    have e : eqV (tx a) (tx x) = decide (a = x) := by
      show (S a == S x) = _
      by_cases h : a = x
      · rw [h]; simp
      · rw [decide_eq_false h]
        exact beq_eq_false_iff_ne.mpr fun z => h (S_inj z)
    rw [e]
    by_cases h : a = x
    · simp [h]
    · simp [h]; exact fun z => absurd z.symm h
theorem flat_tx (ls : List (List Nat)) : (ls.map tx).all flatV = true := by simp [flatV]
theorem flat_sg (l : List Nat) : (l.map fun c => [c]).flatten = l := by
  induction l with
  | nil => rfl
  | cons a r ih => simp [ih]
/-- a pair (part, period) -/
def PerR (a : Nat → List Nat) (H : Hp) (p : List Nat) (y : V) : Prop := ∃ r, ∃ g : Nat, y = .ref r ∧ H r = some (.tup [tx p, .int g]) ∧ (g = 1 ↔ looseL a p = true)
/-- a pair of texts -/
def PairR (H : Hp) (p : List Nat × List Nat) (y : V) : Prop := ∃ r, y = .ref r ∧ H r = some (.tup [tx p.1, tx p.2])
theorem PerR.ext {a : Nat → List Nat} {H H' : Hp} (e : Ext H H') {p : List Nat} {y : V} (h : PerR a H p y) : PerR a H' p y := by
  obtain ⟨r, g, h1, h2, h3⟩ := h; exact ⟨r, g, h1, e.same _ _ h2, h3⟩
theorem PairR.ext {H H' : Hp} (e : Ext H H') {p : List Nat × List Nat} {y : V} (h : PairR H p y) : PairR H' p y := by
  obtain ⟨r, h1, h2⟩ := h; exact ⟨r, h1, e.same _ _ h2⟩
theorem partsL_len {a : Nat → List Nat} {L : List Nat} : (partsL a L).length ≤ L.length := by
  have h1 := nd_len (partsL a L) (L.map (part a L)) partsL_asc.nodup fun x hx => by
    rw [partsL, sortT_mem] at hx
    exact (List.mem_filter.mp hx).1
  rw [List.length_map] at h1
  exact h1
section
variable {P : Program} {w : World} {K : PySem.W.Frag} {mg : Str → Option Value} {base : Heap}
theorem sc_P_parts_by : FnScope ["arrows", "reached", "parts", "label", "part", "one"] ["arrows"] (defScope sP_parts_by) := ⟨rfl, rfl, rfl, by decide +kernel, rfl, by decide +kernel, by decide +kernel⟩
def sp_parts_by : Sp := fun vs H Q _ => ∃ (d : Addr) (a : Nat → List Nat) (L : List Nat), vs = [.ref d] ∧ H d = some (.dK (arK a L)) ∧ Arr a L ∧ L.length ≤ 4 ∧ ∀ H' q ys, Ext H H' → H' q = some (.lst ys) → F2 (PerR a H') (partsL a L) ys → Q (.ref q) H'
theorem h_parts_by (T : Top K mg) : Has P w K mg base "parts_by" 4 ["arrows"] sp_parts_by := by
  have nd := sc_P_parts_by.nd
  have h_reached_by := h_reached_by (P := P) (w := w) (base := base) T
  have h_period_by := h_period_by (P := P) (w := w) (base := base) T
  refine has_of T dP_parts_by (by simp [fn, fn0, fn1, fn2, fn3]) rfl (by decide +kernel) rfl sc_P_parts_by (fun vs H Q E ⟨d, a, L, e, _⟩ => by rw [e]; rfl) (fun _ _ _ _ _ _ us hl => match us, hl with | [_], _ => rfl) (fun cdv A outer s H vs Q E hr h => ?_)
  obtain ⟨d, a, L, rfl, hd0, A0, hL, q⟩ := h
  -- cells: ['arrows', 'label', 'reached']; slots {'arrows': 0, 'reached': 1, 'parts': 2, 'label': 3, 'part': 4, 'one': 5}
  refine ⟨_, (pss_cons (ps_set (i := 1) nd rfl (Or.inr rfl) (pe_lock (pe_dc (own := [("label", 3)]) (g := (gName 3)) (tt := tYes) rfl nd (pi_keys (pv 0)) (blkOk_by (by kernel_rfl)) (fun _ _ _ _ _ => (pg_name (i := 3) nd rfl (Or.inl rfl))) (fun _ _ _ _ _ => pts_nil) (fun _ _ _ _ _ => (pv 3)) (fun _ _ _ _ _ => (pe_has h_reached_by (hr.mono (by omega)) (by rfl) (pa_cons (pv 0) (pa_cons (pv 3) pa_nil)))))))
      (pss_cons (ps_set (i := 2) nd rfl (Or.inl rfl) (pe_lst pa_nil))
      (pss_cons (ps_lock (ps_for PassesOwn.never rfl (pi_keys (pv 0)) (pg_name (i := 3) nd rfl (Or.inr rfl))
        (pss_cons (ps_set (i := 4) nd rfl (Or.inl rfl) (pe_join pe_str (pe_lc (own := [("one", 5)]) (g := (gName 5)) (tt := _) rfl nd (pi_str (pe_dget (hu_of hr) (pv 1) (pv 3) (fun _ _ => rfl))) (blkOk_by (by kernel_rfl)) (fun _ _ _ _ _ => (pg_name (i := 5) nd rfl (Or.inl rfl))) (fun _ _ _ _ _ => (pts_one (pt_cmpR op_in_sign (pv 3) (pe_dget (hu_of hr) (pv 1) (pv 5) (fun _ _ => rfl)) rfl))) (fun _ _ _ _ _ => (pv 5)))))
        (pss_one (ps_if (PW.pt (pw_and (pt_cmpR op_in_sign (pv 3) (pv 4) rfl) (pw_and1 (pt_cmpR op_notIn_seq (pv 4) (pv 2) rfl)))) (pss_one (ps_expr (pe_bm PySem.F.plainAttrs_list PySem.F.slot_list_append PySem.F.type_list_append mt_append (pv 2) (pa_cons (pv 4) pa_nil)))) pss_nil)))))
      (pss_one (ps_ret (pe_lc (own := [("part", 4)]) (g := (gName 4)) (tt := tYes) rfl nd (pi_list (pe_sortSet rfl (by rfl) (T.free _ (by decide +kernel)) (by rfl) (T.free _ (by decide +kernel)) (pv 2))) (blkOk_by (by kernel_rfl)) (fun _ _ _ _ _ => (pg_name (i := 4) nd rfl (Or.inl rfl))) (fun _ _ _ _ _ => pts_nil) (fun _ _ _ _ _ => (pe_tup (pa_cons (pv 4) (pa_cons (pe_has h_period_by (hr.mono (by omega)) (by rfl) (pa_cons (pv 0) (pa_cons (pv 4) pa_nil))) pa_nil)))))))))), ?_⟩
  refine ⟨d, _, hd0, trivial, fun od => ?_⟩
  generalize hH0 : upd H d (.frz od (.dK (arK a L))) = H0
  have hfz : H0 d = some (.frz od (.dK (arK a L))) := by rw [← hH0]; exact upd_same
  have keyn : (L.map fun c => (Sum.inr (S [c]) : Key)).Nodup := List.Pairwise.map _ (fun a b h e => h (keyS_inj a b e)) A0.lot.nodup
  have keyY : ∀ i (H : Hp) (x : V) (H' : Hp), i < (arK a L).length → (H' = H ∧ ∃ k v, (arK a L)[i]? = some (k, v) ∧ x = kV k) → H' = H ∧ ∃ c, L[i]? = some c ∧ x = tx [c] := fun i H x H' _ y => by
    obtain ⟨rfl, k, v, h1, rfl⟩ := y
    refine ⟨rfl, ?_⟩
    unfold arK at h1
    rw [List.getElem?_map] at h1
    cases e : L[i]? with
    | none => rw [e] at h1; cases h1
    | some c => rw [e] at h1; injection h1 with h1; injection h1 with h1 _; exact ⟨c, rfl, by rw [← h1]; rfl⟩
  have keyl : L.length = (arK a L).length := by simp [arK]
  refine ⟨.ref d, rfl, d, od, rfl, .inl ⟨_, hfz, fun D hD => dcFm (walk_keys (kvs := arK a L)) L (fun c => tx [c]) (fun c => Sum.inr (S [c])) (fun c => tx (far a L c)) keyl keyY hD keyn (fun H e => e.same _ _ hfz) (line_small (by omega)) (fun c hc H1 e1 R1 k1 => ⟨rfl, tx [c], rfl, .ref d, rfl, tx [c], rfl, d, a, L, c, rfl, .inr ⟨od, e1.same _ _ hfz⟩, A0, hL, hc, fun H2 e2 => k1 H2 e2⟩) (fun x σ H P P' hP h => hP _ _ h) fun H1 e1 hD1 => ⟨e1.same _ _ hfz, ?_⟩⟩⟩
  subst hH0
  have eU : Ext H (upd H1 d (.dK (arK a L))) := ext_unlock hd0 e1
  have hDd : D ≠ d := fun z => by rw [z, hfz] at hD; cases hD
  have hR : (upd H1 d (.dK (arK a L))) D = some (.dK (arK (far a L) L)) := by rw [upd_ne hDd]; exact hD1
  generalize (upd H1 d (.dK (arK a L))) = H2 at eU hR ⊢
  refine ⟨Nat.zero_le _, fun Pp nP => ?_⟩
  have e3 : Ext H (upd H2 Pp (.lst [])) := eU.then nP rfl
  have hdP : d ≠ Pp := fun z => by rw [← z, eU.same _ _ hd0] at nP; cases nP
  have hDP : D ≠ Pp := fun z => by rw [← z, hR] at nP; cases nP
  have nPH : H Pp = none := eU.none nP
  refine ⟨d, _, e3.same _ _ hd0, trivial, fun od2 => ?_⟩
  have nPl : (upd H d (.frz od2 (.dK (arK a L)))) Pp = none := by rw [upd_ne hdP.symm]; exact nPH
  have hfz2 : (upd H d (.frz od2 (.dK (arK a L)))) d = some (.frz od2 (.dK (arK a L))) := upd_same
  refine ⟨.ref d, rfl, d, od2, rfl, .inl ⟨arK a L, upd_same, for_it (walk_keys (kvs := arK a L)) (fun i σ H' => ∃ (ps : List (List Nat)) (y3 y4 y5 : Option V), σ = [some (.ref d), some (.ref D), some (.ref Pp), y3, y4, y5] ∧ Ext (upd H d (.frz od2 (.dK (arK a L)))) H' ∧ H' D = some (.dK (arK (far a L) L)) ∧ H' Pp = some (.lst (ps.map tx)) ∧ ps.length ≤ i ∧ (∀ x ∈ ps, ∃ s ∈ L, s ∈ part a L s ∧ x = part a L s) ∧ (∀ s ∈ L.take i, s ∈ part a L s → part a L s ∈ ps)) ⟨[], none, none, none, rfl, ext_lock e3 rfl, by rw [upd_ne hDd, upd_ne hDP]; exact hR, by rw [upd_ne hdP.symm]; exact upd_same, Nat.le_refl _, (fun x h => by cases h), (fun s h => by simp at h)⟩ (fun i σ H' _ p => by obtain ⟨ps, y3, y4, y5, _, e, _⟩ := p; exact e.same _ _ hfz2) (fun i x σ H5 H6 hi p5 y => ?_) fun σ H5 p5 => ?_⟩⟩
  · obtain ⟨ps, y3, y4, y5, rfl, e5, hR5, hP5, hl5, hm5, ha5⟩ := p5
    obtain ⟨rfl, c, hc, rfl⟩ := keyY i H5 x H6 hi y
    have hcL : c ∈ L := List.mem_of_getElem? hc
    have hi4 : i < 4 := by have := (List.getElem?_eq_some_iff.mp hc).1; omega
    have ht : L.take (i + 1) = L.take i ++ [c] := by rw [List.take_succ, hc]; rfl
    have far4 : ∀ c, (far a L c).length ≤ 4 := fun c => Nat.le_trans (asc_len (far_in A0 c).1 (far_in A0 c).2) hL
    refine ⟨⟨_, rfl⟩, .ref D, rfl, tx [c], rfl, D, _, rfl, ArrV.get (.inl hR5) hcL, S (far a L c), rfl, fun D6 hD6 => lcSt (l := far a L c) (fun b => if decide (c ∈ far a L b) = true then some b else none) (fun b y _ => y = tx [b]) hD6 (fun _ _ _ _ _ h => h) (line_small (by have := far4 c; omega)) (fun b hb H7 e7 R1 R0 k1 k0 => ⟨rfl, ?_⟩) fun H7 ys e7 hDy f2 => ?_⟩
    · refine ⟨tx [c], rfl, .ref D, rfl, tx [b], rfl, D, _, rfl, ArrV.get (.inl (e7.same _ _ hR5)) ((far_in A0 c).2 b hb), c, S (far a L b), rfl, rfl, _, rfl, ite2 (fun hc => ?_) fun hc => k0 _ (if_neg hc) (Ext.refl _)⟩
      exact ⟨tx [b], rfl, k1 b _ _ (if_pos hc) (Ext.refl _) rfl⟩
    have ey := f2.eq (vv := fun b => tx [b])
    rw [fm_id (fun b => decide (c ∈ far a L b)), ← map_sgV] at ey
    have hpart : (far a L c).filter (fun b => decide (c ∈ far a L b)) = part a L c := rfl
    rw [hpart] at ey
    have part4 : (part a L c).length ≤ 4 := Nat.le_trans (asc_len (part_asc A0 c) (part_sub A0 c)) hL
    refine ⟨"", D6, _, rfl, rfl, .inl (.inl (.inl (by rw [hDy, ey]))), ?_, ?_⟩
    · rw [sum_len, flat_sg]
      have h3 : ("" : Str).length = 0 := rfl
      rw [h3]; omega
    · rw [join_S, flat_sg]
      have e57 := e5.trans e7
      have hP7 := e7.same _ _ hP5
      have hR7 := e7.same _ _ hR5
      refine ⟨tx [c], rfl, tx (part a L c), rfl, c, S (part a L c), rfl, rfl, _, rfl, ite2 (fun hin => ?_) fun hin => iteF ⟨ps, _, _, _, rfl, e57, hR7, hP7, by omega, hm5, fun s hs hss => ?_⟩⟩
      · have hin : c ∈ part a L c := of_decide_eq_true hin
        refine ⟨tx (part a L c), rfl, .ref Pp, rfl, Pp, _, rfl, .inl (.inl (.inl hP7)), rfl, flat_tx ps, _, rfl, ?_⟩
        rw [inV_tx]
        by_cases hmem : part a L c ∈ ps
        · rw [decide_eq_true hmem]
          refine iteF ⟨ps, _, _, _, rfl, e57, hR7, hP7, by omega, hm5, fun s hs hss => ?_⟩
          rw [ht] at hs
          rcases List.mem_append.mp hs with q1 | q1
          · exact ha5 s q1 hss
          · rw [List.mem_singleton] at q1; rw [q1]; exact hmem
        · rw [decide_eq_false hmem]
          refine iteT ⟨.ref Pp, rfl, .inl ⟨rfl, _, .inl (.inl hP7)⟩, tx (part a L c), rfl, Pp, _, _, rfl, rfl, hP7, line_small (by rw [List.length_map]; omega), ps ++ [part a L c], _, _, _, rfl, e57.updNew nPl rfl, ?_, ?_, by simp; omega, fun x hx => ?_, fun s hs hss => ?_⟩
          · rw [upd_ne hDP]; exact hR7
          · rw [upd_same]; simp
          · rcases List.mem_append.mp hx with q1 | q1
            · exact hm5 x q1
            · rw [List.mem_singleton] at q1; exact ⟨c, hcL, hin, q1⟩
          · rw [ht] at hs
            rcases List.mem_append.mp hs with q1 | q1
            · exact List.mem_append_left _ (ha5 s q1 hss)
            · rw [List.mem_singleton] at q1; rw [q1]; exact List.mem_append_right _ (by simp)
      · rw [ht] at hs
        rcases List.mem_append.mp hs with q1 | q1
        · exact ha5 s q1 hss
        · rw [List.mem_singleton] at q1
          rw [q1] at hss
          exact absurd (decide_eq_true hss) hin
  · obtain ⟨ps, y3, y4, y5, rfl, e5, hR5, hP5, hl5, hm5, ha5⟩ := p5
    rw [← keyl] at hl5 ha5
    rw [List.take_length] at ha5
    refine ⟨e5.same _ _ hfz2, ?_⟩
    have eU2 : Ext H (upd H5 d (.dK (arK a L))) := ext_unlock hd0 e5
    have hP8 : (upd H5 d (.dK (arK a L))) Pp = some (.lst (ps.map tx)) := by rw [upd_ne hdP.symm]; exact hP5
    generalize (upd H5 d (.dK (arK a L))) = H8 at eU2 hP8 ⊢
    refine ⟨.ref Pp, rfl, ps.map S, by rw [List.length_map]; omega, .inr (.inl ⟨Pp, rfl, .inl (.inl (by rw [map_txV]; exact hP8))⟩), fun ys q9 H9 hs9 hm9 e9 nq9 hq9 => ?_⟩
    obtain ⟨zs, rfl, hza, hzm⟩ := ys_sorted hs9 hm9
    have hz : zs = partsL a L := ascT_eq hza partsL_asc fun x => by
      rw [hzm, partsL_mem A0]
      exact ⟨fun h => hm5 x h, fun ⟨s, h1, h2, h3⟩ => by rw [h3]; exact ha5 s h1 h2⟩
    rw [map_tx, hz] at hq9
    have e89 := eU2.trans e9
    have pl := partsL_len (a := a) (L := L)
    refine ⟨q9, rfl, ⟨_, .inl (.inl hq9)⟩, fun D9 hD9 => lcLiT (partsL a L) (fun p x => x = tx p) (fun p => some p) (fun p y H => ∃ r, ∃ g : Nat, y = .ref r ∧ r ≠ D9 ∧ H r = some (.tup [tx p, .int g]) ∧ (g = 1 ↔ looseL a p = true)) (.inl (.inl hq9)) ?_ hD9 (fun p y H H' k ⟨r, g, h1, h2, h3, h4⟩ => ⟨r, g, h1, h2, k _ _ h2 h3, h4⟩) (line_small (by omega)) (fun p hp x H10 e10 hDl hx R1 R0 k1 k0 => ⟨rfl, tyes' ?_⟩) fun H10 ys e10 hDy f2 => ?_⟩
    · have : ∀ l : List (List Nat), F2 (fun p x => x = tx p) l (l.map tx) := fun l => by
        induction l with
        | nil => exact .nil
        | cons a r ih => exact .cons rfl ih
      exact this _
    · subst hx
      obtain ⟨s, hsL, hss, rfl⟩ := (partsL_mem A0).mp hp
      refine ⟨_, rfl, .ref d, rfl, _, rfl, d, a, L, s, rfl, hss, .inl ((e89.trans e10).same _ _ hd0), A0, hL, fun H11 g e11 G => ⟨by show 2 ≤ sizeLine; decide, fun r nr => k1 _ _ _ rfl (e11.then nr rfl) ⟨r, g, rfl, fun z => ?_, upd_same, ?_⟩⟩⟩
      · obtain ⟨ys', hys⟩ := hDl
        rw [z, e11.same _ _ hys] at nr; cases nr
      · exact loose_iff A0 rfl hss (Nat.le_trans (asc_len (part_asc A0 s) (part_sub A0 s)) hL) G
    · refine q H10 D9 ys (e89.trans e10) hDy ?_
      have e0 : (partsL a L).filterMap (fun p => some p) = partsL a L := by simp
      rw [e0] at f2
      exact f2.mono fun p y ⟨r, g, h1, _, h3, h4⟩ => ⟨r, g, h1, h3, h4⟩
end
end K58
set_option Elab.async false
set_option linter.all false
set_option maxRecDepth 100000
/-! The tree of rows: what comes below is smaller; how many leaves. -/
namespace K58
theorem partsL_len' {a : Nat → List Nat} {L : List Nat} : (partsL a L).length ≤ L.length := by
  have h1 := nd_len (partsL a L) (L.map (part a L)) partsL_asc.nodup fun x hx => by
    rw [partsL, sortT_mem] at hx
    exact (List.mem_filter.mp hx).1
  rw [List.length_map] at h1
  exact h1
theorem kids_len {rows : List (List Nat)} {L : List Nat} : (kids rows L).length ≤ L.length := by
  refine Nat.le_trans (List.length_filter_le _ _) ?_
  rw [pairsL, List.length_map]
  exact Nat.le_trans (List.length_filter_le _ _) partsL_len'
theorem loose_part {rows : List (List Nat)} {L q : List Nat} (hL : Asc L) (h : q ∈ looseParts rows L) : Asc q ∧ Sub q L ∧ ∃ s ∈ L, s ∈ part (ar rows L) L s ∧ q = part (ar rows L) L s := by
  have A := ar_arr rows hL
  obtain ⟨h1, _⟩ := List.mem_filter.mp h
  obtain ⟨s, hs, hss, rfl⟩ := (partsL_mem A).mp h1
  exact ⟨part_asc A s, part_sub A s, s, hs, hss, rfl⟩
theorem kid_lot {rows : List (List Nat)} (ne : NE rows) {L : List Nat} (hL : Asc L) {p : List Nat × List Nat} (h : p ∈ kids rows L) : Asc p.2 ∧ Sub p.2 L ∧ p.2 ≠ [] ∧ (endless rows L = false → p.2.length < L.length) := by
  obtain ⟨h1, h2⟩ := List.mem_filter.mp h
  obtain ⟨q, hq, rfl⟩ := List.mem_map.mp h1
  obtain ⟨qa, qs, _⟩ := loose_part hL hq
  have la : Asc (lastL rows q) := lastL_asc qa
  have ls : Sub (lastL rows q) L := fun x hx => qs x (lastL_sub ne x hx)
  refine ⟨la, ls, of_decide_eq_true h2, fun he => ?_⟩
  rcases Nat.lt_or_ge (lastL rows q).length L.length with c | c
  · exact c
  · exfalso
    have hp := perm_of_sub (lastL rows q) L la.nodup ls c
    have e : q = L := asc_eq qa hL fun x => ⟨qs x, fun hx => lastL_sub ne x (hp.mem_iff.mpr hx)⟩
    rw [e] at hq
    unfold endless at he
    rw [decide_eq_true hq] at he
    cases he
theorem leaves_len {rows : List (List Nat)} (ne : NE rows) : ∀ (f k : Nat) (L : List Nat), Asc L → L.length ≤ 4 → (leavesF rows f k L).length ≤ 4 ^ f
  | 0, _, _, _, _ => by simp [leavesF]
  | f + 1, k, L, hL, h4 => by
    unfold leavesF
    split
    · rw [List.length_singleton]; exact Nat.pow_pos (by decide)
    · have h1 : ∀ ps : List (List Nat × List Nat), (∀ p ∈ ps, p ∈ kids rows L) → (ps.flatMap fun p => leavesF rows f (k + 1) p.2).length ≤ ps.length * 4 ^ f := by
        intro ps
        induction ps with
        | nil => intro _; simp
        | cons p r ih =>
          intro h
          obtain ⟨la, ls, _⟩ := kid_lot ne hL (h p List.mem_cons_self)
          have := leaves_len ne f (k + 1) p.2 la (Nat.le_trans (asc_len la ls) h4)
          have h2 := ih fun x hx => h x (List.mem_cons_of_mem _ hx)
          rw [List.flatMap_cons, List.length_append, List.length_cons, Nat.add_mul]
          omega
      refine Nat.le_trans (h1 _ fun _ h => h) ?_
      rw [Nat.pow_succ, Nat.mul_comm]
      exact Nat.mul_le_mul_left _ (Nat.le_trans kids_len h4)
theorem leaf_false {rows : List (List Nat)} {L : List Nat} (h : ¬ isLeaf rows L = true) : endless rows L = false := by
  cases e : endless rows L with
  | false => rfl
  | true => exact absurd (by unfold isLeaf; rw [e]; simp) h
theorem flatMap_same {α β : Type} {f g : α → List β} : ∀ l : List α, (∀ x ∈ l, f x = g x) → l.flatMap f = l.flatMap g
  | [], _ => rfl
  | a :: r, h => by rw [List.flatMap_cons, List.flatMap_cons, h a List.mem_cons_self, flatMap_same r fun x hx => h x (List.mem_cons_of_mem _ hx)]
/-- fuel enough is enough -/
theorem leaves_fuel {rows : List (List Nat)} (ne : NE rows) : ∀ (f f' k : Nat) (L : List Nat), Asc L → L.length < f → L.length < f' → leavesF rows f k L = leavesF rows f' k L
  | 0, _, _, _, _, h, _ => absurd h (Nat.not_lt_zero _)
  | _, 0, _, _, _, _, h => absurd h (Nat.not_lt_zero _)
  | f + 1, f' + 1, k, L, hL, h1, h2 => by
    rw [leavesF, leavesF]
    by_cases hl : isLeaf rows L = true
    · rw [if_pos hl, if_pos hl]
    · rw [if_neg hl, if_neg hl]
      refine flatMap_same _ fun p hp => ?_
      obtain ⟨ka, ks, kn, kl⟩ := kid_lot ne hL hp
      have := kl (leaf_false hl)
      exact leaves_fuel ne f f' (k + 1) p.2 ka (by omega) (by omega)
theorem leaves_in {rows : List (List Nat)} (ne : NE rows) : ∀ (f k : Nat) (L : List Nat), Asc L → ∀ q ∈ leavesF rows f k L, Asc q.2 ∧ Sub q.2 L
  | 0, _, _, _, q, h => by cases h
  | f + 1, k, L, hL, q, h => by
    rw [leavesF] at h
    by_cases hl : isLeaf rows L = true
    · rw [if_pos hl, List.mem_singleton] at h
      rw [h]; exact ⟨hL, fun _ h => h⟩
    · rw [if_neg hl] at h
      obtain ⟨p, hp, h2⟩ := List.mem_flatMap.mp h
      obtain ⟨ka, ks, _⟩ := kid_lot ne hL hp
      obtain ⟨h3, h4⟩ := leaves_in ne f (k + 1) p.2 ka q h2
      exact ⟨h3, fun x hx => ks x (h4 x hx)⟩
theorem maxN_le : ∀ (l : List Nat), ∀ x ∈ l, x ≤ maxN l
  | a :: r, x, h => by
    show x ≤ max a (maxN r)
    rcases List.mem_cons.mp h with e | e
    · rw [e]; exact Nat.le_max_left _ _
    · exact Nat.le_trans (maxN_le r x e) (Nat.le_max_right _ _)
theorem maxN_mem : ∀ (l : List Nat), maxN l = 0 ∨ maxN l ∈ l
  | [] => .inl rfl
  | a :: r => by
    have e : maxN (a :: r) = max a (maxN r) := rfl
    rw [e]
    rcases Nat.le_total a (maxN r) with h | h
    · rw [Nat.max_eq_right h]
      rcases maxN_mem r with q | q
      · exact .inl q
      · exact .inr (List.mem_cons_of_mem _ q)
    · rw [Nat.max_eq_left h]; exact .inr List.mem_cons_self
theorem maxN_eq {l : List Nat} {m : Nat} (h1 : m = 0 ∨ m ∈ l) (h2 : ∀ x ∈ l, x ≤ m) : m = maxN l := by
  have a : m ≤ maxN l := by
    rcases h1 with e | e
    · omega
    · exact maxN_le l m e
  have b : maxN l ≤ m := by
    rcases maxN_mem l with e | e
    · omega
    · exact h2 _ e
  omega
end K58
set_option Elab.async false
set_option linter.all false
set_option maxRecDepth 100000
set_option maxHeartbeats 1000000
/-! What is loose, the pairs, the rows, the root. -/
namespace K58
open PySem PySem.Spec PyProof.Rows L2
theorem PairR.keep {H : Hp} {p : List Nat × List Nat} {y : V} (h : PairR H p y) : ∃ r, y = .ref r ∧ H r = some (.tup [tx p.1, tx p.2]) := h
theorem Rows.arr {m : Nat} {rows : List (List Nat)} (R : Rows m rows) {L : List Nat} (h : LotOf rows L) : Arr (ar rows L) L := ar_arr rows h.asc
theorem looseParts_len {rows : List (List Nat)} {L : List Nat} : (looseParts rows L).length ≤ L.length := Nat.le_trans (List.length_filter_le _ _) partsL_len
theorem loose_lot {m : Nat} {rows : List (List Nat)} (R : Rows m rows) {L : List Nat} (h : LotOf rows L) {p : List Nat} (hp : p ∈ looseParts rows L) : LotOf rows p := by
  obtain ⟨h1, h2, _⟩ := loose_part h.asc hp
  exact ⟨h1, fun x hx => h.sub x (h2 x hx)⟩
theorem kid_lotOf {m : Nat} {rows : List (List Nat)} (R : Rows m rows) {L : List Nat} (h : LotOf rows L) {p : List Nat × List Nat} (hp : p ∈ kids rows L) : LotOf rows p.2 := by
  obtain ⟨h1, h2, _⟩ := kid_lot R.nemp h.asc hp
  exact ⟨h1, fun x hx => h.sub x (h2 x hx)⟩
section
variable {P : Program} {w : World} {K : PySem.W.Frag} {mg : Str → Option Value} {base : Heap}
theorem sc_P_loose_by : FnScope ["arrows", "part", "period"] ["arrows"] (defScope sP_loose_by) := ⟨rfl, rfl, rfl, by decide +kernel, rfl, by decide +kernel, by decide +kernel⟩
def sp_loose_by : Sp := fun vs H Q _ => ∃ (d : Addr) (a : Nat → List Nat) (L : List Nat), vs = [.ref d] ∧ H d = some (.dK (arK a L)) ∧ Arr a L ∧ L.length ≤ 4 ∧ ∀ H' q, Ext H H' → H' q = some (.lst (((partsL a L).filter (looseL a)).map tx)) → Q (.ref q) H'
theorem h_loose_by (T : Top K mg) : Has P w K mg base "loose_by" 5 ["arrows"] sp_loose_by := by
  have nd := sc_P_loose_by.nd
  have h_parts_by := h_parts_by (P := P) (w := w) (base := base) T
  refine has_of T dP_loose_by (by simp [fn, fn0, fn1, fn2, fn3]) rfl (by decide +kernel) rfl sc_P_loose_by (fun vs H Q E ⟨d, a, L, e, _⟩ => by rw [e]; rfl) (fun _ _ _ _ _ _ us hl => match us, hl with | [_], _ => rfl) (fun cdv A outer s H vs Q E hr h => ?_)
  obtain ⟨d, a, L, rfl, hd0, A0, hL, q⟩ := h
  -- cells: []; slots {'arrows': 0, 'part': 1, 'period': 2}
  refine ⟨_, (pss_one (ps_ret (pe_lc (own := [("part", 1), ("period", 2)]) (g := (gTup K 2 (gCons (gName 1) (gCons (gName 2) gNil)))) (tt := _) rfl nd (pi_list (pe_has h_parts_by (hr.mono (by omega)) (by rfl) (pa_cons (pv 0) pa_nil))) (blkOk_by (by kernel_rfl)) (fun _ _ _ _ _ => (pg_tup (by rfl) (pgs_cons (pg_name (i := 1) nd rfl (Or.inl rfl)) (pgs_cons (pg_name (i := 2) nd rfl (Or.inl rfl)) pgs_nil)))) (fun _ _ _ _ _ => (pts_one (pt_cmpR op_eq (pv 2) pe_int (nomark _)))) (fun _ _ _ _ _ => (pv 1))))), ?_⟩
  have pl := partsL_len (a := a) (L := L)
  refine ⟨.ref d, rfl, d, a, L, rfl, hd0, A0, hL, fun H1 q1 ys e1 hq1 f1 => ⟨q1, rfl, ⟨_, .inl (.inl hq1)⟩, fun D hD => lcLiT (partsL a L) (PerR a H1) (fun p => if looseL a p = true then some p else none) (fun p y _ => y = tx p) (.inl (.inl hq1)) f1 hD (fun _ _ _ _ _ h => h) (line_small (by omega)) (fun p hp x H2 e2 _ hx R1 R0 k1 k0 => ?_) fun H2 ys2 e2 hDy f2 => ?_⟩⟩
  · obtain ⟨r, g, rfl, hr1, hg⟩ := hx
    refine ⟨r, _, rfl, .inl (.inl (e2.same _ _ hr1)), rfl, _, _, rfl, _, _, rfl, rfl, rfl, ?_⟩
    refine ⟨_, rfl, rfl, _, rfl, ite2 (fun hc => ?_) fun hc => ?_⟩
    · have h1 : g = 1 := by have := of_decide_eq_true hc; injection this with this; omega
      exact ⟨tx p, rfl, k1 _ _ _ (if_pos (hg.mp h1)) (Ext.refl _) rfl⟩
    · refine k0 _ (if_neg fun z => hc (decide_eq_true ?_)) (Ext.refl _)
      rw [hg.mpr z]; rfl
  · have ey := f2.eq (vv := tx)
    rw [fm_id (looseL a)] at ey
    exact q H2 D (e1.trans e2) (by rw [hDy, ey])
theorem sc_P_pairs_in : FnScope ["table", "lot", "part"] ["table", "lot"] (defScope sP_pairs_in) := ⟨rfl, rfl, rfl, by decide +kernel, rfl, by decide +kernel, by decide +kernel⟩
def sp_pairs_in (K : PySem.W.Frag) : Sp := fun vs H Q _ => ∃ (v : V) (m : Nat) (rows : List (List Nat)) (L : List Nat), vs = [v, tx L] ∧ TabV K H v m rows ∧ Rows m rows ∧ LotOf rows L ∧ ∀ H' q ys, Ext H H' → H' q = some (.lst ys) → F2 (PairR H') (pairsL rows L) ys → Q (.ref q) H'
theorem h_pairs_in (T : Top K mg) : Has P w K mg base "pairs_in" 6 ["table", "lot"] (sp_pairs_in K) := by
  have nd := sc_P_pairs_in.nd
  have h_lasting := h_lasting (P := P) (w := w) (base := base) T
  have h_loose_by := h_loose_by (P := P) (w := w) (base := base) T
  have h_arrows_by := h_arrows_by (P := P) (w := w) (base := base) T
  refine has_of T dP_pairs_in (by simp [fn, fn0, fn1, fn2, fn3]) rfl (by decide +kernel) rfl sc_P_pairs_in (fun vs H Q E ⟨v, m, rows, L, e, _⟩ => by rw [e]; rfl) (fun _ _ _ _ _ _ us hl => match us, hl with | [_, _], _ => rfl) (fun cdv A outer s H vs Q E hr h => ?_)
  obtain ⟨v, m, rows, L, rfl, tv, R, L0, q⟩ := h
  -- cells: ['table']; slots {'table': 0, 'lot': 1, 'part': 2}
  refine ⟨_, (pss_one (ps_ret (pe_lc (own := [("part", 2)]) (g := (gName 2)) (tt := tYes) rfl nd (pi_list (pe_has h_loose_by (hr.mono (by omega)) (by rfl) (pa_cons (pe_has h_arrows_by (hr.mono (by omega)) (by rfl) (pa_cons (pv 0) (pa_cons (pv 1) pa_nil))) pa_nil))) (blkOk_by (by kernel_rfl)) (fun _ _ _ _ _ => (pg_name (i := 2) nd rfl (Or.inl rfl))) (fun _ _ _ _ _ => pts_nil) (fun _ _ _ _ _ => (pe_tup (pa_cons (pv 2) (pa_cons (pe_has h_lasting (hr.mono (by omega)) (by rfl) (pa_cons (pv 0) (pa_cons (pv 2) pa_nil))) pa_nil))))))), ?_⟩
  have hL := L0.len R
  have pl := looseParts_len (rows := rows) (L := L)
  refine ⟨v, rfl, tx L, rfl, v, m, rows, L, rfl, tv, R, L0, fun H1 d e1 hd1 => ⟨d, _, L, rfl, hd1, R.arr L0, hL, fun H2 q2 e2 hq2 => ?_⟩⟩
  have e12 := e1.trans e2
  refine ⟨q2, rfl, ⟨_, .inl (.inl hq2)⟩, fun D hD => lcLiT (looseParts rows L) (fun p x => x = tx p) (fun p => some (p, lastL rows p)) (fun p y H => ∃ r, y = .ref r ∧ r ≠ D ∧ H r = some (.tup [tx p.1, tx p.2])) (.inl (.inl hq2)) ?_ hD (fun p y H H' k ⟨r, h1, h2, h3⟩ => ⟨r, h1, h2, k _ _ h2 h3⟩) (line_small (by omega)) (fun p hp x H3 e3 hDl hx R1 R0 k1 k0 => ⟨rfl, tyes' ?_⟩) fun H3 ys e3 hDy f2 => ?_⟩
  · have : ∀ l : List (List Nat), F2 (fun p x => x = tx p) l (l.map tx) := fun l => by
      induction l with
      | nil => exact .nil
      | cons a r ih => exact .cons rfl ih
    exact this _
  · subst hx
    refine ⟨_, rfl, v, rfl, _, rfl, v, m, rows, p, rfl, tv.ext (e12.trans e3), R, loose_lot R L0 hp, fun H4 e4 => ⟨by show 2 ≤ sizeLine; decide, fun r nr => k1 _ _ _ rfl (e4.then nr rfl) ⟨r, rfl, fun z => ?_, upd_same⟩⟩⟩
    obtain ⟨ys', hys⟩ := hDl
    rw [z, e4.same _ _ hys] at nr; cases nr
  · refine q H3 D ys (e12.trans e3) hDy ?_
    rw [List.filterMap_eq_map' (f := fun p => (p, lastL rows p))] at f2
    exact f2.mono fun p y ⟨r, h1, _, h3⟩ => ⟨r, h1, h3⟩
theorem sc_P_is_endless : FnScope ["table", "row"] ["table", "row"] (defScope sP_is_endless) := ⟨rfl, rfl, rfl, by decide +kernel, rfl, by decide +kernel, by decide +kernel⟩
def sp_is_endless (K : PySem.W.Frag) : Sp := fun vs H Q _ => ∃ (v : V) (m : Nat) (rows : List (List Nat)) (r : Addr) (xs : List V) (L : List Nat), vs = [v, .ref r] ∧ TabV K H v m rows ∧ Rows m rows ∧ SqT K H r xs ∧ atI xs (-1) = some (tx L) ∧ LotOf rows L ∧ ∀ H', Ext H H' → Q (.bl (endless rows L)) H'
theorem h_is_endless (T : Top K mg) : Has P w K mg base "is_endless" 6 ["table", "row"] (sp_is_endless K) := by
  have nd := sc_P_is_endless.nd
  have h_loose_by := h_loose_by (P := P) (w := w) (base := base) T
  have h_arrows_by := h_arrows_by (P := P) (w := w) (base := base) T
  refine has_of T dP_is_endless (by simp [fn, fn0, fn1, fn2, fn3]) rfl (by decide +kernel) rfl sc_P_is_endless (fun vs H Q E ⟨v, m, rows, r, xs, L, e, _⟩ => by rw [e]; rfl) (fun _ _ _ _ _ _ us hl => match us, hl with | [_, _], _ => rfl) (fun cdv A outer s H vs Q E hr h => ?_)
  obtain ⟨v, m, rows, r, xs, L, rfl, tv, R, hr0, hat, L0, q⟩ := h
  -- cells: []; slots {'table': 0, 'row': 1}
  refine ⟨_, (pss_one (ps_ret (pe_cmpR op_in_seq (pe_ix ix_tup (pv 1) (pe_un un_neg pe_int) (fun _ _ => rfl)) (pe_has h_loose_by (hr.mono (by omega)) (by rfl) (pa_cons (pe_has h_arrows_by (hr.mono (by omega)) (by rfl) (pa_cons (pv 0) (pa_cons (pe_ix ix_tup (pv 1) (pe_un un_neg pe_int) (fun _ _ => rfl)) pa_nil))) pa_nil)) rfl))), ?_⟩
  have hL := L0.len R
  refine ⟨.ref r, rfl, 1, rfl, r, xs, -1, _, rfl, rfl, hr0, hat, ?_⟩
  refine ⟨v, rfl, .ref r, rfl, 1, rfl, r, xs, -1, _, rfl, rfl, hr0, hat, v, m, rows, L, rfl, tv, R, L0, fun H1 d e1 hd1 => ⟨d, _, L, rfl, hd1, R.arr L0, hL, fun H2 q2 e2 hq2 => ?_⟩⟩
  refine ⟨q2, _, rfl, .inl (.inl (.inl hq2)), rfl, flat_tx _, ?_⟩
  rw [inV_tx]
  exact q H2 (e1.trans e2)
theorem sc_P_length_of : FnScope ["row"] ["row"] (defScope sP_length_of) := ⟨rfl, rfl, rfl, by decide +kernel, rfl, by decide +kernel, by decide +kernel⟩
def sp_length_of (K : PySem.W.Frag) : Sp := fun vs H Q _ => ∃ (r : Addr) (xs : List V), vs = [.ref r] ∧ SqT K H r xs ∧ Q (.int ((xs.length + 1) / 2 : Nat)) H
theorem h_length_of (T : Top K mg) : Has P w K mg base "length_of" 1 ["row"] (sp_length_of K) := by
  have nd := sc_P_length_of.nd
  refine has_of T dP_length_of (by simp [fn, fn0, fn1, fn2, fn3]) rfl (by decide +kernel) rfl sc_P_length_of (fun vs H Q E ⟨r, xs, e, _⟩ => by rw [e]; rfl) (fun _ _ _ _ _ _ us hl => match us, hl with | [_], _ => rfl) (fun cdv A outer s H vs Q E hr h => ?_)
  obtain ⟨r, xs, rfl, hr0, q⟩ := h
  -- cells: []; slots {'row': 0}
  refine ⟨_, (pss_one (ps_ret (pe_op op_fdiv (pe_op op_add (pe_callB call_len_seq (by rfl) (T.free _ (by decide +kernel)) (by decide +kernel) (pa_cons (pv 0) pa_nil)) pe_int) pe_int))), ?_⟩
  refine ⟨.ref r, rfl, r, xs, rfl, .inr hr0, _, 1, rfl, rfl, _, 2, rfl, rfl, ⟨by decide, by decide⟩, ?_⟩
  have e : ((xs.length : Nat) : Int) + 1 = ((xs.length + 1 : Nat) : Int) := by omega
  have e2 : (((xs.length : Nat) : Int) + 1) / 2 = (((xs.length + 1) / 2 : Nat) : Int) := by omega
  show Q (.int ((((xs.length : Nat) : Int) + 1) / 2)) H
  rw [e2]; exact q
theorem sc_P_is_greater : FnScope ["root", "most"] ["root", "most"] (defScope sP_is_greater) := ⟨rfl, rfl, rfl, by decide +kernel, rfl, by decide +kernel, by decide +kernel⟩
def sp_is_greater : Sp := fun vs H Q _ => ∃ (o : Option Nat) (n : Int), vs = [(match o with | none => .non | some k => .int (k : Nat)), .int n] ∧ Q (.bl (match o with | none => true | some k => decide (n < (k : Nat)))) H
theorem h_is_greater (T : Top K mg) : Has P w K mg base "is_greater" 1 ["root", "most"] sp_is_greater := by
  have nd := sc_P_is_greater.nd
  refine has_of T dP_is_greater (by simp [fn, fn0, fn1, fn2, fn3]) rfl (by decide +kernel) rfl sc_P_is_greater (fun vs H Q E ⟨o, n, e, _⟩ => by rw [e]; rfl) (fun _ _ _ _ _ _ us hl => match us, hl with | [_, _], _ => rfl) (fun cdv A outer s H vs Q E hr h => ?_)
  obtain ⟨o, n, rfl, q⟩ := h
  -- cells: []; slots {'root': 0, 'most': 1}
  refine ⟨_, (pss_one (ps_ret (pe_or (pe_cmpR op_isN (pv 0) pe_non (nomark _)) (pe_one (pe_cmpR op_gt (pv 0) (pv 1) (nomark _)))))), ?_⟩
  cases o with
  | none => exact ⟨.non, rfl, rfl, true, rfl, q⟩
  | some k => exact ⟨.int k, rfl, rfl, false, rfl, .int k, rfl, .int n, rfl, k, n, rfl, rfl, q⟩
end
end K58
set_option Elab.async false
set_option linter.all false
set_option maxRecDepth 100000
set_option maxHeartbeats 1000000
/-! The rows of lots, the root. -/
namespace K58
open PySem PySem.Spec PyProof.Rows L2
/-- a leaf: how many lots, the last one -/
def LeafR (H : Hp) (q : Nat × List Nat) (y : V) : Prop := ∃ r w, y = .ref r ∧ H r = some (.tup w) ∧ w.length + 1 = 2 * q.1 ∧ atI w (-1) = some (tx q.2)
theorem LeafR.ext {H H' : Hp} (e : Ext H H') {p : Nat × List Nat} {y : V} (h : LeafR H p y) : LeafR H' p y := by
  obtain ⟨r, w, h1, h2, h3, h4⟩ := h; exact ⟨r, w, h1, e.same _ _ h2, h3, h4⟩
theorem LeafR.keep {H H' : Hp} {D : Addr} (k : Keep D H H') (hD : ∃ ys, H D = some (.lst ys)) {p : Nat × List Nat} {y : V} (h : LeafR H p y) : LeafR H' p y := by
  obtain ⟨r, w, h1, h2, h3, h4⟩ := h
  obtain ⟨ys, hy⟩ := hD
  exact ⟨r, w, h1, k _ _ (fun z => by rw [z, hy] at h2; cases h2) h2, h3, h4⟩
theorem leaf_one {rows : List (List Nat)} {f k : Nat} {L : List Nat} (h : isLeaf rows L = true) : leavesF rows (f + 1) k L = [(k, L)] := by
  unfold leavesF; rw [if_pos h]
theorem leaf_more {rows : List (List Nat)} {f k : Nat} {L : List Nat} (h : isLeaf rows L = false) : leavesF rows (f + 1) k L = (kids rows L).flatMap fun p => leavesF rows f (k + 1) p.2 := by
  rw [leavesF, if_neg (by rw [h]; simp)]
section
variable {P : Program} {w : World} {K : PySem.W.Frag} {mg : Str → Option Value} {base : Heap}
def sp_longer_rows (K : PySem.W.Frag) (n : Nat) : Sp := fun vs H Q _ => ∃ (v : V) (m : Nat) (rows : List (List Nat)) (r : Addr) (w : List V) (L : List Nat) (k : Nat), vs = [v, .ref r] ∧ TabV K H v m rows ∧ Rows m rows ∧ H r = some (.tup w) ∧ w.length + 1 = 2 * k ∧ atI w (-1) = some (tx L) ∧ LotOf rows L ∧ L.length ≤ n ∧ k + n ≤ 6 ∧
  ∀ H' q ys, Ext H H' → H' q = some (.lst ys) → F2 (LeafR H') (leavesF rows (n + 1) k L) ys → Q (.ref q) H'
theorem sc_P_longer_rows : FnScope ["table", "row", "choices", "found", "pair"] ["table", "row"] (defScope sP_longer_rows) := ⟨rfl, rfl, rfl, by decide +kernel, rfl, by decide +kernel, by decide +kernel⟩
theorem h_longer_rows (T : Top K mg) : ∀ n : Nat, Has P w K mg base "longer_rows" (8 + n) ["table", "row"] (sp_longer_rows K n) := by
  have nd := sc_P_longer_rows.nd
  have h_is_endless := h_is_endless (P := P) (w := w) (base := base) T
  have h_pairs_in := h_pairs_in (P := P) (w := w) (base := base) T
  have S0 := sc_P_longer_rows
  intro n
  induction n with
  | zero =>
    refine has_of (k := 7) T dP_longer_rows (by simp [fn, fn0, fn1, fn2, fn3]) rfl (by decide +kernel) rfl sc_P_longer_rows (fun vs H Q E ⟨v, m, rows, r, w, L, k, e, _⟩ => by rw [e]; rfl) (fun _ _ _ _ _ _ us hl => match us, hl with | [_, _], _ => rfl) (fun cdv A outer s H vs Q E hr h => ?_)
    obtain ⟨v, m, rows, r, w, L, k, rfl, tv, R, hr0, hw, hat, L0, hLn, hk, q⟩ := h
    refine ⟨_, (pss_cons (ps_setLc (i := 2) (own := [("pair", 4)]) (g := (gName 4)) (tt := _) rfl nd rfl rfl (sw_true rfl rfl rfl (by decide +kernel)) (pi_list (pe_has h_pairs_in (hr.mono (by omega)) (by rfl) (pa_cons (pv 0) (pa_cons (pe_ix ix_tup (pv 1) (pe_un un_neg pe_int) (fun _ _ => rfl)) pa_nil)))) (blkOk_by (by kernel_rfl)) (fun _ _ _ _ _ => (pg_name (i := 4) nd rfl (Or.inl rfl))) (fun _ _ _ _ _ => (pts_one (pt_cmpR op_ne (pe_ix (ix_tupK (K := K) rfl) (pv 4) pe_int (fun _ _ => rfl)) pe_str (nomark _)))) (fun _ _ _ _ _ => (pv 4)))
        (pss_cons (ps_if (PW.pt (pw_or (pt_cmpR op_eq (pe_callB call_len_seq (by rfl) (T.free _ (by decide +kernel)) (by decide +kernel) (pa_cons (pv 2) pa_nil)) pe_int (nomark _)) (pw_or1 (pt_val (pe_has h_is_endless (hr.mono (by omega)) (by rfl) (pa_cons (pv 0) (pa_cons (pv 1) pa_nil))))))) (pss_one (ps_ret (pe_lst (pa_cons (pv 1) pa_nil)))) pss_nil)
        (pss_cons (ps_set (i := 3) nd rfl (Or.inl rfl) (pe_lst pa_nil))
        (pss_cons ps_never
        (pss_one (ps_ret (pv 3))))))), ?_⟩
    have hL4 := L0.len R
    have pl := looseParts_len (rows := rows) (L := L)
    refine ⟨v, rfl, .ref r, rfl, 1, rfl, r, w, -1, _, rfl, rfl, .inl (.inl hr0), hat, v, m, rows, L, rfl, tv, R, L0, fun H1 q1 ys1 e1 hq1 f1 => ?_⟩
    have hpl : (pairsL rows L).length ≤ 4 := by rw [pairsL, List.length_map]; omega
    refine ⟨q1, rfl, ⟨_, .inl (.inl hq1)⟩, fun C hC => lcLiT (pairsL rows L) (PairR H1) (fun p => if decide (p.2 ≠ []) = true then some p else none) (fun p y _ => PairR H1 p y) (.inl (.inl hq1)) f1 hC (fun _ _ _ _ _ h => h) (line_small (by omega)) (fun p hp x H2 e2 _ hx R1 R0 k1 k0 => ⟨rfl, ?_⟩) fun H2 ys2 e2 hCy f2 => ?_⟩
    · obtain ⟨pr, rfl, hpr⟩ := hx
      refine ⟨.ref pr, rfl, pr, _, _, tx p.2, rfl, rfl, .inl (.inl (e2.same _ _ hpr)), rfl, rfl, _, rfl, ?_⟩
      have e0 : (!decide (tx p.2 = V.str "")) = decide (p.2 ≠ []) := by
        by_cases h : p.2 = []
        · rw [h]; rfl
        · have : ¬ (tx p.2 = V.str "") := fun z => h (tx_inj (b := []) z)
          rw [decide_eq_false this, decide_eq_true h]; rfl
      rw [e0]
      exact ite2 (fun hc => ⟨.ref pr, rfl, k1 _ _ _ (if_pos hc) (Ext.refl _) ⟨pr, rfl, hpr⟩⟩) fun hc => k0 _ (if_neg hc) (Ext.refl _)
    rw [fm_id (fun p : List Nat × List Nat => decide (p.2 ≠ []))] at f2
    have f2 : F2 (PairR H1) (kids rows L) ys2 := f2
    have e12 := e1.trans e2
    have hlen := f2.len
    refine ⟨.ref C, rfl, C, _, rfl, .inl (.inl (.inl hCy)), rfl, _, rfl, ?_⟩
    have one : ∀ (H3 : Hp), Ext H H3 → isLeaf rows L = true → ∀ p, H3 p = none → Q (.ref p) (upd H3 p (.lst [.ref r])) := fun H3 e3 hlf p np => by
      refine q _ p _ (e3.then np rfl) upd_same ?_
      rw [leaf_one hlf]
      exact .cons ⟨r, w, rfl, (e3.then np rfl).same _ _ hr0, hw, hat⟩ .nil
    by_cases hnil : kids rows L = []
    · have e0 : decide (V.int (ys2.length : Nat) = V.int 0) = true := by
        rw [hlen, hnil]; rfl
      rw [e0]
      exact iteT (iteT ⟨.ref r, rfl, by show 1 ≤ sizeLine; decide, one H2 e12 (by unfold isLeaf; rw [hnil]; rfl)⟩)
    have e0 : decide (V.int (ys2.length : Nat) = V.int 0) = false := decide_eq_false fun z => by
      rw [hlen] at z
      injection z with z
      exact hnil (List.eq_nil_of_length_eq_zero (by omega))
    rw [e0]
    refine iteF ⟨v, rfl, .ref r, rfl, v, m, rows, r, w, L, rfl, tv.ext e12, R, .inl (.inl (e12.same _ _ hr0)), hat, L0, fun H3 e3 => ⟨_, rfl, ?_⟩⟩
    have e13 := e12.trans e3
    cases hend : endless rows L with
    | true => exact iteT ⟨.ref r, rfl, by show 1 ≤ sizeLine; decide, one H3 e13 (by unfold isLeaf; rw [hend]; simp)⟩
    | false =>
      have hlf : isLeaf rows L = false := by
        unfold isLeaf; rw [hend]
        cases hk : kids rows L with
        | nil => exact absurd hk hnil
        | cons _ _ => rfl
      refine iteF ?_
      exfalso
      have hL : L = [] := List.eq_nil_of_length_eq_zero (by omega)
      rw [hL] at hnil
      exact hnil rfl
  | succ n ih =>
    have h_longer_rows := ih
    refine has_of (k := 8 + n) T dP_longer_rows (by simp [fn, fn0, fn1, fn2, fn3]) rfl (by decide +kernel) rfl sc_P_longer_rows (fun vs H Q E ⟨v, m, rows, r, w, L, k, e, _⟩ => by rw [e]; rfl) (fun _ _ _ _ _ _ us hl => match us, hl with | [_, _], _ => rfl) (fun cdv A outer s H vs Q E hr h => ?_)
    obtain ⟨v, m, rows, r, w, L, k, rfl, tv, R, hr0, hw, hat, L0, hLn, hk, q⟩ := h
    refine ⟨_, (pss_cons (ps_setLc (i := 2) (own := [("pair", 4)]) (g := (gName 4)) (tt := _) rfl nd rfl rfl (sw_true rfl rfl rfl (by decide +kernel)) (pi_list (pe_has h_pairs_in (hr.mono (by omega)) (by rfl) (pa_cons (pv 0) (pa_cons (pe_ix ix_tup (pv 1) (pe_un un_neg pe_int) (fun _ _ => rfl)) pa_nil)))) (blkOk_by (by kernel_rfl)) (fun _ _ _ _ _ => (pg_name (i := 4) nd rfl (Or.inl rfl))) (fun _ _ _ _ _ => (pts_one (pt_cmpR op_ne (pe_ix (ix_tupK (K := K) rfl) (pv 4) pe_int (fun _ _ => rfl)) pe_str (nomark _)))) (fun _ _ _ _ _ => (pv 4)))
        (pss_cons (ps_if (PW.pt (pw_or (pt_cmpR op_eq (pe_callB call_len_seq (by rfl) (T.free _ (by decide +kernel)) (by decide +kernel) (pa_cons (pv 2) pa_nil)) pe_int (nomark _)) (pw_or1 (pt_val (pe_has h_is_endless (hr.mono (by omega)) (by rfl) (pa_cons (pv 0) (pa_cons (pv 1) pa_nil))))))) (pss_one (ps_ret (pe_lst (pa_cons (pv 1) pa_nil)))) pss_nil)
        (pss_cons (ps_set (i := 3) nd rfl (Or.inl rfl) (pe_lst pa_nil))
        (pss_cons (ps_for PassesOwn.never rfl (pi_list (pv 2)) (pg_name (i := 4) nd rfl (Or.inl rfl))
          (pss_one (ps_expr (pe_bm PySem.F.plainAttrs_list PySem.F.slot_list_extend PySem.F.type_list_extend mt_extend (pv 3) (pa_cons (pe_has h_longer_rows (hr.mono (by omega)) (by rfl) (pa_cons (pv 0) (pa_cons (pe_tup (StX.pa_star (pv 1) (StX.pa_star (pv 4) pa_nil))) pa_nil))) pa_nil)))))
        (pss_one (ps_ret (pv 3))))))), ?_⟩
    have hL4 := L0.len R
    have pl := looseParts_len (rows := rows) (L := L)
    refine ⟨v, rfl, .ref r, rfl, 1, rfl, r, w, -1, _, rfl, rfl, .inl (.inl hr0), hat, v, m, rows, L, rfl, tv, R, L0, fun H1 q1 ys1 e1 hq1 f1 => ?_⟩
    have hpl : (pairsL rows L).length ≤ 4 := by rw [pairsL, List.length_map]; omega
    refine ⟨q1, rfl, ⟨_, .inl (.inl hq1)⟩, fun C hC => lcLiT (pairsL rows L) (PairR H1) (fun p => if decide (p.2 ≠ []) = true then some p else none) (fun p y _ => PairR H1 p y) (.inl (.inl hq1)) f1 hC (fun _ _ _ _ _ h => h) (line_small (by omega)) (fun p hp x H2 e2 _ hx R1 R0 k1 k0 => ⟨rfl, ?_⟩) fun H2 ys2 e2 hCy f2 => ?_⟩
    · obtain ⟨pr, rfl, hpr⟩ := hx
      refine ⟨.ref pr, rfl, pr, _, _, tx p.2, rfl, rfl, .inl (.inl (e2.same _ _ hpr)), rfl, rfl, _, rfl, ?_⟩
      have e0 : (!decide (tx p.2 = V.str "")) = decide (p.2 ≠ []) := by
        by_cases h : p.2 = []
        · rw [h]; rfl
        · have : ¬ (tx p.2 = V.str "") := fun z => h (tx_inj (b := []) z)
          rw [decide_eq_false this, decide_eq_true h]; rfl
      rw [e0]
      exact ite2 (fun hc => ⟨.ref pr, rfl, k1 _ _ _ (if_pos hc) (Ext.refl _) ⟨pr, rfl, hpr⟩⟩) fun hc => k0 _ (if_neg hc) (Ext.refl _)
    rw [fm_id (fun p : List Nat × List Nat => decide (p.2 ≠ []))] at f2
    have f2 : F2 (PairR H1) (kids rows L) ys2 := f2
    have e12 := e1.trans e2
    have hlen := f2.len
    refine ⟨.ref C, rfl, C, _, rfl, .inl (.inl (.inl hCy)), rfl, _, rfl, ?_⟩
    have one : ∀ (H3 : Hp), Ext H H3 → isLeaf rows L = true → ∀ p, H3 p = none → Q (.ref p) (upd H3 p (.lst [.ref r])) := fun H3 e3 hlf p np => by
      refine q _ p _ (e3.then np rfl) upd_same ?_
      rw [leaf_one hlf]
      exact .cons ⟨r, w, rfl, (e3.then np rfl).same _ _ hr0, hw, hat⟩ .nil
    by_cases hnil : kids rows L = []
    · have e0 : decide (V.int (ys2.length : Nat) = V.int 0) = true := by
        rw [hlen, hnil]; rfl
      rw [e0]
      exact iteT (iteT ⟨.ref r, rfl, by show 1 ≤ sizeLine; decide, one H2 e12 (by unfold isLeaf; rw [hnil]; rfl)⟩)
    have e0 : decide (V.int (ys2.length : Nat) = V.int 0) = false := decide_eq_false fun z => by
      rw [hlen] at z
      injection z with z
      exact hnil (List.eq_nil_of_length_eq_zero (by omega))
    rw [e0]
    refine iteF ⟨v, rfl, .ref r, rfl, v, m, rows, r, w, L, rfl, tv.ext e12, R, .inl (.inl (e12.same _ _ hr0)), hat, L0, fun H3 e3 => ⟨_, rfl, ?_⟩⟩
    have e13 := e12.trans e3
    cases hend : endless rows L with
    | true => exact iteT ⟨.ref r, rfl, by show 1 ≤ sizeLine; decide, one H3 e13 (by unfold isLeaf; rw [hend]; simp)⟩
    | false =>
      have hlf : isLeaf rows L = false := by
        unfold isLeaf; rw [hend]
        cases hk : kids rows L with
        | nil => exact absurd hk hnil
        | cons _ _ => rfl
      refine iteF ?_
      refine ⟨Nat.zero_le _, fun Fd nF => ?_⟩
      have e4 := e13.then (o := .lst []) nF rfl
      have hC3 := e3.same _ _ hCy
      have hCF : C ≠ Fd := fun z => by rw [z, nF] at hC3; cases hC3
      have nFH : H Fd = none := e13.none nF
      have e1F : Ext H1 (upd H3 Fd (.lst [])) := (e2.trans e3).then nF rfl
      have nF1 : H1 Fd = none := (e2.trans e3).none nF
      refine ⟨.ref C, rfl, C, rfl, ⟨_, .inl (.inl (by rw [upd_ne hCF]; exact hC3))⟩, for_it (walk_list (xs := ys2)) (fun i σ H' => ∃ (y4 : Option V) (zs : List V), σ = [some v, some (.ref r), some (.ref C), some (.ref Fd), y4] ∧ Ext H H' ∧ Ext H1 H' ∧ H' C = some (.lst ys2) ∧ H' Fd = some (.lst zs) ∧ F2 (LeafR H') (((kids rows L).take i).flatMap fun p => leavesF rows (n + 1) (k + 1) p.2) zs) ⟨_, [], rfl, e4, e1F, by rw [upd_ne hCF]; exact hC3, upd_same, .nil⟩ (fun i σ H' _ p => by obtain ⟨_, _, _, _, _, hc, _⟩ := p; exact .inl (.inl hc)) (fun i x σ H6 H5 hi p5 y => ?_) fun σ H5 p5 => ?_⟩
      · obtain ⟨y4, zs, rfl, e5, e15, hC5, hF5, f5⟩ := p5
        obtain ⟨rfl, hx⟩ := y
        obtain ⟨p, hp, pr, rfl, hpr⟩ := f2.get hx
        have hpk : p ∈ kids rows L := List.mem_of_getElem? hp
        obtain ⟨ka, ks, kn, kl⟩ := kid_lot R.nemp L0.asc hpk
        have hlt := kl hend
        have ht : (kids rows L).take (i + 1) = (kids rows L).take i ++ [p] := by rw [List.take_succ, hp]; rfl
        have hw4 : w.length ≤ 40 := by omega
        have hpr5 := e15.same _ _ hpr
        have hr5 := e5.same _ _ hr0
        have hkl : (kids rows L).length ≤ 4 := Nat.le_trans kids_len hL4
        have hzl : zs.length ≤ 4 ^ (n + 2) := by
          rw [f5.len]
          have h1 : ∀ ps : List (List Nat × List Nat), (∀ p ∈ ps, p ∈ kids rows L) → (ps.flatMap fun p => leavesF rows (n + 1) (k + 1) p.2).length ≤ ps.length * 4 ^ (n + 1) := by
            intro ps
            induction ps with
            | nil => intro _; simp
            | cons p r ih =>
              intro h
              obtain ⟨la, ls, _⟩ := kid_lot R.nemp L0.asc (h p List.mem_cons_self)
              have := leaves_len (rows := rows) R.nemp (n + 1) (k + 1) p.2 la (Nat.le_trans (asc_len la ls) hL4)
              have h2 := ih fun x hx => h x (List.mem_cons_of_mem _ hx)
              rw [List.flatMap_cons, List.length_append, List.length_cons, Nat.add_mul]
              omega
          refine Nat.le_trans (h1 _ fun x hx => List.mem_of_mem_take hx) ?_
          rw [Nat.pow_succ, Nat.mul_comm]
          refine Nat.mul_le_mul_left _ (Nat.le_trans ?_ hkl)
          rw [List.length_take]; exact Nat.min_le_right _ _
        refine ⟨.ref Fd, rfl, .inl ⟨rfl, _, .inl (.inl hF5)⟩, v, rfl, .ref r, rfl, r, w, rfl, .inl (.inl (.inl hr5)), .ref pr, rfl, pr, _, rfl, .inl (.inl (.inl hpr5)), by simp; exact line_smallE (by omega), fun N nN => ?_⟩
        have e6 := e5.then (o := .tup (w ++ ([tx p.1, tx p.2] ++ []))) nN rfl
        refine ⟨v, m, rows, N, _, p.2, k + 1, rfl, tv.ext e6, R, upd_same, by simp; omega, ?_, kid_lotOf R L0 hpk, by omega, by omega, fun H7 q7 ys7 e7 hq7 f7 => ?_⟩
        · have : w ++ ([tx p.1, tx p.2] ++ []) = (w ++ [tx p.1]) ++ [tx p.2] := by simp
          rw [this]; exact atI_last _ _
        · have hFN : Fd ≠ N := fun z => by rw [← z, hF5] at nN; cases nN
          have hCN : C ≠ N := fun z => by rw [← z, hC5] at nN; cases nN
          have e57 : Ext H5 H7 := ((Ext.refl H5).then nN rfl).trans e7
          have hF7 := e57.same _ _ hF5
          have hC7 := e57.same _ _ hC5
          have hy7 : ys7.length ≤ 4 ^ (n + 1) := by
            rw [f7.len]
            exact leaves_len R.nemp _ _ _ ka (Nat.le_trans (asc_len ka ks) hL4)
          have hn4 : n ≤ 10 := by omega
          have hq : q7 ≠ Fd ∨ True := .inr trivial
          refine ⟨Fd, q7, zs, ys7, rfl, rfl, hF7, hq7, ?_, _, zs ++ ys7, rfl, (e5.trans e57).updNew nFH rfl, (e15.trans e57).updNew nF1 rfl, by rw [upd_ne hCF]; exact hC7, upd_same, ?_⟩
          · have h10 : (4 : Nat) ^ (n + 2) ≤ 4 ^ 8 := Nat.pow_le_pow_right (by decide) (by omega)
            have h11 : (4 : Nat) ^ (n + 1) ≤ 4 ^ 7 := Nat.pow_le_pow_right (by decide) (by omega)
            have h12 : (4 : Nat) ^ 8 + 4 ^ 7 ≤ sizeLine := by decide
            exact Nat.le_trans (Nat.add_le_add (Nat.le_trans hzl h10) (Nat.le_trans hy7 h11)) h12
          · rw [ht, List.flatMap_append]
            have e0 : ([p].flatMap fun p => leavesF rows (n + 1) (k + 1) p.2) = leavesF rows (n + 1) (k + 1) p.2 := by simp
            rw [e0]
            refine ((f5.mono fun z y h => (h.ext e57)).app f7).mono fun z y h => h.keep (keep_upd H7 Fd _) ⟨_, hF7⟩
      · obtain ⟨y4, zs, rfl, e5, e15, hC5, hF5, f5⟩ := p5
        rw [hlen, List.take_length] at f5
        refine ⟨_, rfl, q H5 Fd zs e5 hF5 ?_⟩
        rw [leaf_more hlf]
        exact f5
end
end K58
set_option Elab.async false
set_option linter.all false
set_option maxRecDepth 100000
set_option maxHeartbeats 1000000
/-! All rows, the root. -/
namespace K58
open PySem PySem.Spec PyProof.Rows L2
def rootV : Option Nat → V
  | none => .non
  | some k => .int (k : Nat)
theorem lot_labs (rows : List (List Nat)) : LotOf rows (labs rows) := ⟨lotL_asc _, fun _ h => h⟩
theorem lot_last {m : Nat} {rows : List (List Nat)} (R : Rows m rows) {L : List Nat} (h : LotOf rows L) : LotOf rows (lastL rows L) := ⟨lastL_asc h.asc, fun x hx => h.sub x (lastL_sub R.nemp x hx)⟩
section
variable {P : Program} {w : World} {K : PySem.W.Frag} {mg : Str → Option Value} {base : Heap}
theorem sc_P_all_rows : FnScope ["table", "first"] ["table"] (defScope sP_all_rows) := ⟨rfl, rfl, rfl, by decide +kernel, rfl, by decide +kernel, by decide +kernel⟩
def sp_all_rows (K : PySem.W.Frag) : Sp := fun vs H Q _ => ∃ (v : V) (m : Nat) (rows : List (List Nat)), vs = [v] ∧ TabV K H v m rows ∧ Rows m rows ∧ ∀ H' q ys, Ext H H' → H' q = some (.lst ys) → F2 (LeafR H') (leaves rows) ys → Q (.ref q) H'
theorem h_all_rows (T : Top K mg) : Has P w K mg base "all_rows" 16 ["table"] (sp_all_rows K) := by
  have nd := sc_P_all_rows.nd
  have h_lasting := h_lasting (P := P) (w := w) (base := base) T
  have h_labels_of := h_labels_of (P := P) (w := w) (base := base) T
  have h_longer_rows := h_longer_rows (P := P) (w := w) (base := base) T 4
  refine has_of T dP_all_rows (by simp [fn, fn0, fn1, fn2, fn3]) rfl (by decide +kernel) rfl sc_P_all_rows (fun vs H Q E ⟨v, m, rows, e, _⟩ => by rw [e]; rfl) (fun _ _ _ _ _ _ us hl => match us, hl with | [_], _ => rfl) (fun cdv A outer s H vs Q E hr h => ?_)
  obtain ⟨v, m, rows, rfl, tv, R, q⟩ := h
  -- cells: []; slots {'table': 0, 'first': 1}
  refine ⟨_, (pss_cons (ps_set (i := 1) nd rfl (Or.inl rfl) (pe_has h_lasting (hr.mono (by omega)) (by rfl) (pa_cons (pv 0) (pa_cons (pe_has h_labels_of (hr.mono (by omega)) (by rfl) (pa_cons (pv 0) pa_nil)) pa_nil))))
      (pss_one (ps_ret (pe_ifExp (pt_cmpR op_ne (pv 1) pe_str (nomark _)) (pe_has h_longer_rows (hr.mono (by omega)) (by rfl) (pa_cons (pv 0) (pa_cons (pe_tup (pa_cons (pv 1) pa_nil)) pa_nil))) (pe_lst pa_nil))))), ?_⟩
  refine ⟨v, rfl, v, rfl, v, m, rows, rfl, tv, R, fun H1 e1 => ⟨v, m, rows, labs rows, rfl, tv.ext e1, R, lot_labs rows, fun H2 e2 => ?_⟩⟩
  have e12 := e1.trans e2
  have hf : lastL rows (labs rows) = firstL rows := rfl
  rw [hf]
  have L1 : LotOf rows (firstL rows) := lot_last R (lot_labs rows)
  have h4 := L1.len R
  refine ⟨tx (firstL rows), rfl, rfl, _, rfl, ?_⟩
  have e0 : (!decide (tx (firstL rows) = V.str "")) = decide (firstL rows ≠ []) := by
    by_cases h : firstL rows = []
    · rw [h]; rfl
    · have : ¬ (tx (firstL rows) = V.str "") := fun z => h (tx_inj (b := []) z)
      rw [decide_eq_false this, decide_eq_true h]; rfl
  rw [e0]
  refine ite2 (fun hc => ?_) fun hc => ?_
  · have hc := of_decide_eq_true hc
    refine ⟨v, rfl, tx (firstL rows), rfl, by show 1 ≤ sizeLine; decide, fun r nr => ?_⟩
    have e3 := e12.then (o := .tup [tx (firstL rows)]) nr rfl
    refine ⟨v, m, rows, r, _, firstL rows, 1, rfl, tv.ext e3, R, upd_same, rfl, rfl, L1, h4, by omega, fun H4 q4 ys e4 hq4 f4 => q H4 q4 ys (e3.trans e4) hq4 ?_⟩
    unfold leaves
    rw [if_neg hc, leaves_fuel R.nemp _ (4 + 1) 1 (firstL rows) L1.asc (by omega) (by omega)]
    exact f4
  · have hc : firstL rows = [] := Classical.byContradiction fun z => hc (decide_eq_true z)
    refine ⟨Nat.zero_le _, fun p np => q _ p [] (e12.then np rfl) upd_same ?_⟩
    unfold leaves
    rw [if_pos hc]; exact .nil
theorem leaves_bound {m : Nat} {rows : List (List Nat)} (R : Rows m rows) : (leaves rows).length ≤ 1024 := by
  have L1 : LotOf rows (firstL rows) := lot_last R (lot_labs rows)
  have h4 := L1.len R
  unfold leaves
  split
  · simp
  · rw [leaves_fuel R.nemp _ (4 + 1) 1 (firstL rows) L1.asc (by omega) (by omega)]
    exact leaves_len R.nemp 5 1 _ L1.asc h4
theorem leaves_lot {m : Nat} {rows : List (List Nat)} (R : Rows m rows) {q : Nat × List Nat} (h : q ∈ leaves rows) : LotOf rows q.2 := by
  have L1 : LotOf rows (firstL rows) := lot_last R (lot_labs rows)
  unfold leaves at h
  split at h
  · cases h
  · obtain ⟨h1, h2⟩ := leaves_in R.nemp _ _ _ L1.asc q h
    exact ⟨h1, fun x hx => L1.sub x (h2 x hx)⟩
theorem sc_P_root_by : FnScope ["table", "rows", "row"] ["table"] (defScope sP_root_by) := ⟨rfl, rfl, rfl, by decide +kernel, rfl, by decide +kernel, by decide +kernel⟩
def sp_root_by (K : PySem.W.Frag) : Sp := fun vs H Q _ => ∃ (v : V) (m : Nat) (rows : List (List Nat)), vs = [v] ∧ TabV K H v m rows ∧ Rows m rows ∧ ∀ H', Ext H H' → Q (rootV (rootL rows)) H'
theorem h_root_by (T : Top K mg) : Has P w K mg base "root_by" 17 ["table"] (sp_root_by K) := by
  have nd := sc_P_root_by.nd
  have h_all_rows := h_all_rows (P := P) (w := w) (base := base) T
  have h_is_endless := h_is_endless (P := P) (w := w) (base := base) T
  have h_length_of := h_length_of (P := P) (w := w) (base := base) T
  refine has_of T dP_root_by (by simp [fn, fn0, fn1, fn2, fn3]) rfl (by decide +kernel) rfl sc_P_root_by (fun vs H Q E ⟨v, m, rows, e, _⟩ => by rw [e]; rfl) (fun _ _ _ _ _ _ us hl => match us, hl with | [_], _ => rfl) (fun cdv A outer s H vs Q E hr h => ?_)
  obtain ⟨v, m, rows, rfl, tv, R, q⟩ := h
  -- cells: ['table']; slots {'table': 0, 'rows': 1, 'row': 2}
  refine ⟨_, (pss_cons (ps_set (i := 1) nd rfl (Or.inl rfl) (pe_has h_all_rows (hr.mono (by omega)) (by rfl) (pa_cons (pv 0) pa_nil)))
      (pss_cons (ps_if (pt_val (pe_callB (cr_any rfl) (by rfl) (T.free _ (by decide +kernel)) (by decide +kernel) (pa_cons (pe_lc (own := [("row", 2)]) (g := (gName 2)) (tt := tYes) rfl nd (pi_list (pv 1)) (blkOk_by (by kernel_rfl)) (fun _ _ _ _ _ => (pg_name (i := 2) nd rfl (Or.inl rfl))) (fun _ _ _ _ _ => pts_nil) (fun _ _ _ _ _ => (pe_has h_is_endless (hr.mono (by omega)) (by rfl) (pa_cons (pv 0) (pa_cons (pv 2) pa_nil))))) pa_nil))) (pss_one (ps_ret pe_non)) pss_nil)
      (pss_one (ps_ret (pe_callB (cr_max rfl) (by rfl) (T.free _ (by decide +kernel)) (by decide +kernel) (pa_cons (pe_lst (pa_cons pe_int (StX.pa_star (pe_lc (own := [("row", 2)]) (g := (gName 2)) (tt := tYes) rfl nd (pi_list (pv 1)) (blkOk_by (by kernel_rfl)) (fun _ _ _ _ _ => (pg_name (i := 2) nd rfl (Or.inl rfl))) (fun _ _ _ _ _ => pts_nil) (fun _ _ _ _ _ => (pe_has h_length_of (hr.mono (by omega)) (by rfl) (pa_cons (pv 2) pa_nil)))) pa_nil))) pa_nil)))))), ?_⟩
  have hb := leaves_bound R
  refine ⟨v, rfl, v, m, rows, rfl, tv, R, fun H1 q1 ys1 e1 hq1 f1 => ?_⟩
  refine ⟨.ref q1, rfl, q1, rfl, ⟨_, .inl (.inl hq1)⟩, fun D hD => lcLiT (leaves rows) (LeafR H1) (fun p => some (endless rows p.2)) (fun b y _ => y = .bl b) (.inl (.inl hq1)) f1 hD (fun _ _ _ _ _ h => h) (Nat.lt_of_le_of_lt hb (by decide)) (fun p hp x H2 e2 _ hx R1 R0 k1 k0 => ⟨rfl, tyes' ?_⟩) fun H2 ys2 e2 hDy f2 => ?_⟩
  · obtain ⟨r, ws, rfl, hr1, hw1, hw2⟩ := hx
    exact ⟨v, rfl, .ref r, rfl, v, m, rows, r, ws, p.2, rfl, tv.ext (e1.trans e2), R, .inl (.inl (e2.same _ _ hr1)), hw2, leaves_lot R hp, fun H3 e3 => k1 _ _ _ rfl e3 rfl⟩
  have ey := f2.eq (vv := V.bl)
  rw [List.filterMap_eq_map' (f := fun p : Nat × List Nat => endless rows p.2)] at ey
  refine ⟨_, _, rfl, .inl (.inl (by rw [hDy, ey])), _, rfl, ?_⟩
  have ea : ((leaves rows).map fun p => endless rows p.2).any id = (leaves rows).any fun p => endless rows p.2 := by rw [List.any_map]; rfl
  rw [ea]
  have e12 := e1.trans e2
  cases hany : (leaves rows).any fun p => endless rows p.2 with
  | true =>
    refine iteT ?_
    have := q H2 e12
    unfold rootL at this
    rw [if_pos hany] at this
    exact this
  | false =>
    refine iteF ?_
    have hq2 := e2.same _ _ hq1
    refine ⟨.ref q1, rfl, q1, rfl, ⟨_, .inl (.inl hq2)⟩, fun D2 hD2 => lcLiT (leaves rows) (LeafR H1) (fun p => some p.1) (fun (n : Nat) y _ => y = .int n) (.inl (.inl hq2)) f1 hD2 (fun _ _ _ _ _ h => h) (Nat.lt_of_le_of_lt hb (by decide)) (fun p hp x H3 e3 _ hx R1 R0 k1 k0 => ⟨rfl, tyes' ?_⟩) fun H3 ys3 e3 hDy3 f3 => ?_⟩
    · obtain ⟨r, ws, rfl, hr1, hw1, hw2⟩ := hx
      refine ⟨.ref r, rfl, r, ws, rfl, .inl (.inl ((e2.trans e3).same _ _ hr1)), k1 _ _ _ rfl (Ext.refl _) ?_⟩
      have : (ws.length + 1) / 2 = p.1 := by omega
      rw [this]
    have ey3 := f3.eq (vv := fun n : Nat => V.int n)
    rw [List.filterMap_eq_map' (f := fun p : Nat × List Nat => p.1)] at ey3
    refine ⟨D2, _, rfl, .inr (.inl (.inl hDy3)), ?_⟩
    have e13 := e12.trans e3
    have hl3 : ys3.length ≤ 1024 := by rw [ey3]; simp; exact hb
    refine ⟨by simp; exact Nat.le_trans (Nat.succ_le_succ hl3) (by decide), fun p np => ?_⟩
    have e4 := e13.then (o := .lst ([V.int 0] ++ (ys3 ++ []))) np rfl
    have hns : [V.int 0] ++ (ys3 ++ []) = (((0 :: (leaves rows).map (·.1)).map fun n : Nat => (n : Int))).map V.int := by
      rw [ey3]; simp
    refine ⟨p, ((0 :: (leaves rows).map (·.1)).map fun n : Nat => (n : Int)), rfl, .inl (.inl (by rw [← hns]; exact upd_same)), by simp, fun mx hm hle => ?_⟩
    obtain ⟨n, hn, rfl⟩ := List.mem_map.mp hm
    have hmx : n = maxN ((leaves rows).map (·.1)) := by
      refine maxN_eq (List.mem_cons.mp hn) fun x hx => ?_
      have := hle (x : Int) (List.mem_map.mpr ⟨x, List.mem_cons_of_mem _ hx, rfl⟩)
      omega
    have := q _ e4
    unfold rootL at this
    rw [if_neg (by rw [hany]; simp)] at this
    rw [hmx]; exact this
theorem sc_P_root_of : FnScope ["table"] ["table"] (defScope sP_root_of) := ⟨rfl, rfl, rfl, by decide +kernel, rfl, by decide +kernel, by decide +kernel⟩
def sp_root_of (K : PySem.W.Frag) : Sp := fun vs H Q _ => ∃ (v : V) (m : Nat) (rows : List (List Nat)), vs = [v] ∧ TabV K H v m rows ∧ Rows m rows ∧ ∀ H', Ext H H' → Q (rootV (rootL rows)) H'
theorem h_root_of (T : Top K mg) : Has P w K mg base "root_of" 18 ["table"] (sp_root_of K) := by
  have nd := sc_P_root_of.nd
  have h_want_table := h_want_table (P := P) (w := w) (base := base) T
  have h_root_by := h_root_by (P := P) (w := w) (base := base) T
  refine has_of T dP_root_of (by simp [fn, fn0, fn1, fn2, fn3]) rfl (by decide +kernel) rfl sc_P_root_of (fun vs H Q E ⟨v, m, rows, e, _⟩ => by rw [e]; rfl) (fun _ _ _ _ _ _ us hl => match us, hl with | [_], _ => rfl) (fun cdv A outer s H vs Q E hr h => ?_)
  obtain ⟨v, m, rows, rfl, tv, R, q⟩ := h
  -- cells: []; slots {'table': 0}
  refine ⟨_, (pss_cons (ps_expr (pe_hasD h_want_table (hr.mono (by omega)) (by rfl) (pa_cons (pv 0) pa_nil)))
      (pss_one (ps_ret (pe_has h_root_by (hr.mono (by omega)) (by rfl) (pa_cons (pv 0) pa_nil))))), ?_⟩
  refine ⟨v, rfl, v, m, rows, _, rfl, tv, R, fun H1 e1 => ?_⟩
  exact ⟨v, rfl, v, m, rows, rfl, tv.ext e1, R, fun H2 e2 => q H2 (e1.trans e2)⟩
end
end K58
set_option Elab.async false
set_option linter.all false
set_option maxRecDepth 100000
set_option maxHeartbeats 1000000
/-! A def of two parameters, called by place or by the names alone, the later first. -/
namespace K58
open PySem PySem.Spec PyProof.Rows L2
structure HasW (P : Program) (w : World) (K : PySem.W.Frag) (mg : Str → Option Value) (base : Heap) (x : Str) (k : Nat) (a b : Str) (sp : Sp) : Prop where
  ex : ∃ fd, FnOk P w K mg base CX0 k (He.ga K x) fd [a, b] sp ∧ Binds K fd [a, b] [] ∧ ∀ (s : Shared) (u v : Value), BindsTo s fd ⟨[], [(b, v), (a, u)]⟩ [(a, u), (b, v)]
  kp : PySem.W.keepIn K (.ref (He.ga K x)) = true
  at_ : mg x = some (.ref (He.ga K x))
theorem HasW.has {P : Program} {w : World} {K : PySem.W.Frag} {mg : Str → Option Value} {base : Heap} {x : Str} {k : Nat} {a b : Str} {sp : Sp} (h : HasW P w K mg base x k a b sp) : Has P w K mg base x k [a, b] sp := by
  obtain ⟨fd, h1, h2, _⟩ := h.ex
  exact ⟨⟨fd, h1, h2⟩, h.kp, h.at_⟩
theorem bindsW {K : PySem.W.Frag} {x qual : Str} {params : Arguments} {body : List Stmt} {scope : Scope} {kws : List (Str × V)} {f : Addr} {fd : FuncData} {a b : Str} (F : FunD K x qual params body scope [] kws f fd)
    (h : ∀ (kV doc pm : Value) (an : Option Addr) (cdv ct u v : Value), bindArgs (PySem.W.fnOf x qual params body scope .none kV doc pm an cdv ct) ⟨[], [(b, v), (a, u)]⟩ = pure [(a, u), (b, v)]) (s : Shared) (u v : Value) : BindsTo s fd ⟨[], [(b, v), (a, u)]⟩ [(a, u), (b, v)] := by
  obtain ⟨oc, od, dV, kV, doc, pm, an, cdv, ct, osl, e, lk, hcd, hD, hK⟩ := F.ex
  subst e
  cases hD with
  | inl z =>
    obtain ⟨_, z⟩ := z
    subst z
    exact BindsTo.of_eq (h kV doc pm an cdv ct u v)
  | inr z => exact absurd rfl z.1
theorem has_ofW {P : Program} {w : World} {K : PySem.W.Frag} {mg : Str → Option Value} {base : Heap} {N : List Str} {a b : Str} {k : Nat} {sp : Sp} (T : Top K mg) (d : He.DefD) {x : Str} (hd : d ∈ fn) (hx : d.at_ = (x, none)) (hn : x ∈ gnames) (hdf : d.dfl = []) (S : FnScope N [a, b] d.scope)
    (len : ∀ vs H Q E, sp vs H Q E → vs.length = 2)
    (hb : ∀ (kV doc pm : Value) (an : Option Addr) (cdv ct : Value) (us : List Value), us.length = 2 → bindArgs (PySem.W.fnOf d.name d.qual d.params d.body d.scope .none kV doc pm an cdv ct) ⟨us, []⟩ = pure ([a, b].zip us))
    (hkw : ∀ (kV doc pm : Value) (an : Option Addr) (cdv ct u v : Value), bindArgs (PySem.W.fnOf d.name d.qual d.params d.body d.scope .none kV doc pm an cdv ct) ⟨[], [(b, v), (a, u)]⟩ = pure [(a, u), (b, v)])
    (hbody : ∀ (cdv : Value) (A : Around) (outer : List Env) (s : Shared) (H : Hp) (vs : List V) (Q : VK) (E : XK), Room k (A.deeper (envOfC d.qual d.scope s.heap.objs.size (He.ga K x) cdv)) → sp vs H Q E →
      ∃ t, PSs (cxOf CX0 P w K mg base N d.qual d.scope (He.ga K x) cdv A outer s H E).nox d.body t ∧ t { nx := fun _ H' => Q .non H', rt := Q } (L2.start N vs) H) : HasW P w K mg base x (k + 1) a b sp := by
  obtain ⟨fd, F⟩ := T.fn d hd
  have ea : He.fAd K d.at_ = He.ga K x := by rw [hx] <;> rfl
  have ed : d.dvs K = [] := by unfold He.DefD.dvs; rw [hdf] <;> rfl
  rw [ea, ed] at F
  exact ⟨⟨fd, F.ok S len fun cdv A outer s H vs Q E hr h => (let ⟨t, h1, h2⟩ := hbody cdv A outer s H vs Q E hr h; ⟨t, h1.nox, h2⟩), F.bindsN hb, bindsW F hkw⟩, F.kp, T.glo x hn⟩
theorem run_W {X : Cx} {k : Nat} {a b : Str} {sp : Sp} {f : Addr} {fd : FuncData} {pins : List (Addr × Obj)} {σ : L2.St} {H : Hp} {s : Shared} {Q : VK} {wu wv : Value} {u v : V} (F : FnOk X.prog X.w X.K X.mg X.base CX0 k f fd [a, b] sp) (hr : Room k X.A)
    (bw : BindsTo s fd ⟨[], [(b, wv), (a, wu)]⟩ [(a, wu), (b, wv)]) (I : Inv X pins σ H s) (ru : RelV u wu) (rv : RelV v wv) (q1 : sp [u, v] H Q E0) : wpAny (model X.prog X.w) X.A (call (.ref f) [] [(b, wv), (a, wu)]) (EP X pins σ Q) X.xe s := by
  refine wpAny_call (codeAny_mono (F.run X.A X.stack s H ⟨[], [(b, wv), (a, wu)]⟩ [wu, wv] [u, v] Q E0 hr I.env0 bw (.cons ru (.cons rv .nil)) q1) fun r2 s2 done => ?_)
  cases r2 with
  | error e => exact pass0 pins σ H s e s2 I done
  | ok fl => cases fl with
    | ret u => exact I.after done
    | next => cases done
    | brk => cases done
    | cont => cases done
/-- f(b = .., a = ..) -/
def tCallW (sp : Sp) (tk : TA) : TE := fun σ H Q => tk σ H fun zs H1 => ∃ u v, zs = [v, u] ∧ sp [u, v] H1 Q E0
theorem pe_hasW {X : Cx} {x : Str} {k : Nat} {a b : Str} {sp : Sp} {p pos : Pos} {kws : List Keyword} {tk : TA} (h : HasW X.prog X.w X.K X.mg X.base x k a b sp) (hr : Room k X.A) (hg : Gl X x) (hkw : PK X kws tk)
    (hall : (backToKw pos (keywordEach kws X.env)).all (·.1.isSome) = true) (hks : (backToKw pos (keywordEach kws X.env)).filterMap (·.1) = [b, a])
    (hdb : (x == ("__debug__" : Str)) = false) (hpl : ((backTo pos (starEach [] X.env)).any (·.1) || (backToKw pos (keywordEach kws X.env)).any (·.1.isNone)) = false) :
    PE X (.Call (.Name x p) [] kws pos) (tCallW sp tk) := by
  obtain ⟨fd, F, _, bw⟩ := h.ex
  refine ⟨fun pins s σ H Q I q => ?_⟩
  refine wpAny_Call_Name_kw (ld_glob I hg h.at_ ?_ hdb)
  refine PySem.W.callWith_KW0 (h₀ := X.base) I.ok.mod.kin h.kp hall (thn (hkw.run pos pins s σ H _ I q) fun ws s1 hh => ?_) hpl
  obtain ⟨zs, H1, I1, rz, u, v, e, q1⟩ := hh
  subst e
  refine ⟨I1.kIn, ?_⟩
  rw [hks]
  cases rz with
  | cons rv rz =>
    cases rz with
    | cons ru rz =>
      cases rz with
      | nil => exact run_W F hr (bw s1 _ _) I1 ru rv q1
end K58
set_option Elab.async false
set_option linter.all false
set_option maxRecDepth 100000
set_option maxHeartbeats 1000000
/-! Sleeping generators stay as they are while code runs that does not wake them: the run from a table in which they cannot be woken carries over. -/
namespace K58
open PySem PySem.Spec PyProof.Rows
open Sem (wp)

/-- the same to be looked at, but not to be woken -/
def deadOf : GenState → GenState
  | .suspended _ l c p fs cl => .suspended (fun _ => .unsupported "dead") l c p fs cl
  | g => g
def isSusp : GenState → Bool
  | .suspended .. => true
  | _ => false
/-- two tables: where D is told, the second has it and the first a dead one -/
structure Twin (D : Nat → Option GenState) (a b : Array GenState) : Prop where
  size : a.size = b.size
  here : ∀ i g, D i = some g → isSusp g = true ∧ b[i]? = some g ∧ a[i]? = some (deadOf g)
  same : ∀ i, D i = none → a[i]? = b[i]?
  clean : ∀ i k l c p fs cl, D i = none → a[i]? = some (.suspended k l c p fs cl) → splitAtGen fs = none

theorem Twin.push {D : Nat → Option GenState} {a b : Array GenState} {c : Code} (T : Twin D a b) : Twin D (a.push (.fresh c)) (b.push (.fresh c)) where
  size := by rw [Array.size_push, Array.size_push, T.size]
  here := fun i g h => by
    obtain ⟨h1, h2, h3⟩ := T.here i g h
    refine ⟨h1, ?_, ?_⟩
    · obtain ⟨hi, e⟩ := Array.getElem?_eq_some_iff.mp h2
      rw [Array.getElem?_push_lt hi, e]
    · obtain ⟨hi, e⟩ := Array.getElem?_eq_some_iff.mp h3
      rw [Array.getElem?_push_lt hi, e]
  same := fun i h => by
    rw [Array.getElem?_push, Array.getElem?_push, T.size, T.same i h]
  clean := fun i k l c' p fs cl h e => by
    rw [Array.getElem?_push] at e
    split at e
    · cases e
    · exact T.clean i k l c' p fs cl h e
theorem Twin.set {D : Nat → Option GenState} {a b : Array GenState} (T : Twin D a b) {i : Nat} {x : GenState} (hi : D i = none) (hx : ∀ k l c p fs cl, x = .suspended k l c p fs cl → splitAtGen fs = none) :
    Twin D (a.setIfInBounds i x) (b.setIfInBounds i x) where
  size := by rw [Array.size_setIfInBounds, Array.size_setIfInBounds, T.size]
  here := fun j g h => by
    obtain ⟨h1, h2, h3⟩ := T.here j g h
    have ne : i ≠ j := fun z => by rw [z, h] at hi; cases hi
    exact ⟨h1, by rw [Array.getElem?_setIfInBounds_ne ne]; exact h2, by rw [Array.getElem?_setIfInBounds_ne ne]; exact h3⟩
  same := fun j h => by
    by_cases e : i = j
    · subst e
      rw [Array.getElem?_setIfInBounds_self, Array.getElem?_setIfInBounds_self, T.size]
    · rw [Array.getElem?_setIfInBounds_ne e, Array.getElem?_setIfInBounds_ne e]
      exact T.same j h
  clean := fun j k l c p fs cl h e => by
    by_cases z : i = j
    · subst z
      rw [Array.getElem?_setIfInBounds_self] at e
      split at e
      · exact hx k l c p fs cl (Option.some.inj e)
      · cases e
    · rw [Array.getElem?_setIfInBounds_ne z] at e
      exact T.clean j k l c p fs cl h e
theorem Twin.get {D : Nat → Option GenState} {a b : Array GenState} (T : Twin D a b) {i : Nat} {x : GenState} (h : a[i]? = some x) (hx : x = .running ∨ x = .finished ∨ ∃ c, x = .fresh c) : D i = none ∧ b[i]? = some x := by
  cases e : D i with
  | none => exact ⟨rfl, by rw [← T.same i e]; exact h⟩
  | some g =>
    obtain ⟨h1, _, h3⟩ := T.here i g e
    rw [h] at h3
    cases g <;> cases h1
    have h4 := Option.some.inj h3
    rcases hx with z | z | ⟨c, z⟩ <;> (rw [z] at h4; cases h4)
theorem Twin.seen {D : Nat → Option GenState} {a b : Array GenState} (T : Twin D a b) {i : Nat} {x : GenState} (h : a[i]? = some x) : ∃ y, b[i]? = some y ∧ y.seen = x.seen := by
  cases e : D i with
  | none => exact ⟨x, by rw [← T.same i e]; exact h, rfl⟩
  | some g =>
    obtain ⟨h1, h2, h3⟩ := T.here i g e
    rw [h] at h3
    have h4 := Option.some.inj h3
    refine ⟨g, h2, ?_⟩
    rw [h4]
    cases g <;> first | rfl | cases h1
theorem no_unsup {M : Model} {Γ : PySem.Ctx} {p : Pos} {w : String} {fs : List Frame} {s : Shared} {e : End} {s' : Shared} : ¬ Runs M Γ p (.unsupported w) fs s e s' := by
  intro h
  generalize ht : (Sem.unsupported w : Sem PySem.Fin) = t at h
  induction h <;> first | (cases ht; done) | (subst ht; simp_all)
theorem Twin.susp {D : Nat → Option GenState} {a b : Array GenState} (T : Twin D a b) {i : Nat} {k : Resume → Sem PySem.Fin} {l : List Value} {c : Code} {p : Pos} {fs : List Frame} {cl : Bool} (h : a[i]? = some (.suspended k l c p fs cl))
    {M : Model} {Γ : PySem.Ctx} {p' : Pos} {r : Resume} {fs' : List Frame} {s : Shared} {e : End} {s' : Shared} (hr : Runs M Γ p' (k r) fs' s e s') : D i = none ∧ b[i]? = some (.suspended k l c p fs cl) := by
  cases e : D i with
  | none => exact ⟨rfl, by rw [← T.same i e]; exact h⟩
  | some g =>
    obtain ⟨h1, _, h3⟩ := T.here i g e
    rw [h] at h3
    cases g <;> cases h1
    have h4 := Option.some.inj h3
    simp only [deadOf, GenState.suspended.injEq] at h4
    rw [h4.1] at hr
    exact absurd hr no_unsup
def cleanEnd : End → Prop
  | .susp _ _ _ _ _ _ fs => splitAtGen fs = none
  | .ret _ => True
theorem clean_state {e : End} (h : cleanEnd e) : ∀ k l c p fs cl, e.genState = .suspended k l c p fs cl → splitAtGen fs = none := by
  intro k l c p fs cl q
  cases e with
  | ret r => cases q
  | susp v g l₀ k₀ c₀ p₀ fs₀ =>
    have h' : splitAtGen fs₀ = none := h
    simp only [End.genState, GenState.suspended.injEq] at q
    rw [← q.2.2.2.2.1]
    exact h'
theorem split_append : ∀ {a b : List Frame}, splitAtGen a = none → splitAtGen b = none → splitAtGen (a ++ b) = none
  | [], _, _, h => h
  | .gen .. :: _, _, h, _ => by simp [splitAtGen] at h
  | .ret k h' g l c p kp :: r, b, h, h2 => by
    have h1 : splitAtGen r = none := by
      have q : (splitAtGen r).map (fun x : List Frame × (Nat × (GenResult → Sem PySem.Fin) × Code × Pos) × List Frame => (Frame.ret k h' g l c p kp :: x.1, x.2.1, x.2.2)) = none := h
      exact Option.map_eq_none_iff.mp q
    show (splitAtGen (r ++ b)).map _ = none
    rw [split_append h1 h2]
    rfl
theorem split_tail {k : Result → Sem PySem.Fin} {h' : Option Value} {g : Bool} {l : List Value} {c : Code} {p : Pos} {kp : List Value} {r : List Frame} (h : splitAtGen (.ret k h' g l c p kp :: r) = none) : splitAtGen r = none := by
  have q : (splitAtGen r).map (fun x : List Frame × (Nat × (GenResult → Sem PySem.Fin) × Code × Pos) × List Frame => (Frame.ret k h' g l c p kp :: x.1, x.2.1, x.2.2)) = none := h
  exact Option.map_eq_none_iff.mp q

theorem runs_twin {D : Nat → Option GenState} {M : Model} {Γ : PySem.Ctx} {p : Pos} {t : Sem PySem.Fin} {fs : List Frame} {s s' : Shared} {e : End} (h : Runs M Γ p t fs s e s') :
    splitAtGen fs = none → ∀ b, Twin D s.gens b → ∃ b', Runs M Γ p t fs { s with gens := b } e { s' with gens := b' } ∧ Twin D s'.gens b' ∧ cleanEnd e := by
  induction h with
  | done => exact fun _ b T => ⟨b, .done, T, trivial⟩
  | raise => exact fun _ b T => ⟨b, .raise, T, trivial⟩
  | again hq _ ih => exact fun hf b T => let ⟨b', r, T', c⟩ := ih hf b T; ⟨b', .again hq r, T', c⟩
  | rule _ ih => exact fun hf b T => let ⟨b', r, T', c⟩ := ih hf b T; ⟨b', .rule r, T', c⟩
  | «at» _ ih => exact fun hf b T => let ⟨b', r, T', c⟩ := ih hf b T; ⟨b', .at r, T', c⟩
  | load ho _ ih => exact fun hf b T => let ⟨b', r, T', c⟩ := ih hf b T; ⟨b', .load ho r, T', c⟩
  | update ho _ ih => exact fun hf b T => let ⟨b', r, T', c⟩ := ih hf b T; ⟨b', .update ho r, T', c⟩
  | loadIfAlive _ ih => exact fun hf b T => let ⟨b', r, T', c⟩ := ih hf b T; ⟨b', .loadIfAlive r, T', c⟩
  | point _ ih => exact fun hf b T => let ⟨b', r, T', c⟩ := ih hf b T; ⟨b', .point r, T', c⟩
  | alloc _ ih => exact fun hf b T => let ⟨b', r, T', c⟩ := ih hf b T; ⟨b', .alloc r, T', c⟩
  | fresh _ ih => exact fun hf b T => let ⟨b', r, T', c⟩ := ih hf b T; ⟨b', .fresh r, T', c⟩
  | ask _ ih => exact fun hf b T => let ⟨b', r, T', c⟩ := ih hf b T; ⟨b', .ask r, T', c⟩
  | choose hn _ ih => exact fun hf b T => let ⟨b', r, T', c⟩ := ih hf b T; ⟨b', .choose hn r, T', c⟩
  | os _ ih => exact fun hf b T => let ⟨b', r, T', c⟩ := ih hf b T; ⟨b', .os r, T', c⟩
  | handled _ ih => exact fun hf b T => let ⟨b', r, T', c⟩ := ih hf b T; ⟨b', .handled r, T', c⟩
  | genState hg _ ih =>
    intro hf b T
    obtain ⟨y, hy, es⟩ := T.seen hg
    obtain ⟨b', r, T', c⟩ := ih hf b T
    rw [← es] at r
    exact ⟨b', .genState hy r, T', c⟩
  | stack _ ih => exact fun hf b T => let ⟨b', r, T', c⟩ := ih hf b T; ⟨b', .stack r, T', c⟩
  | thread _ ih => exact fun hf b T => let ⟨b', r, T', c⟩ := ih hf b T; ⟨b', .thread r, T', c⟩
  | newGen _ ih =>
    intro hf b T
    obtain ⟨b', r, T', c⟩ := ih hf _ T.push
    rw [T.size] at r
    exact ⟨b', .newGen r, T', c⟩
  | call _ _ ih1 ih2 =>
    intro hf b T
    obtain ⟨b1, r1, T1, _⟩ := ih1 rfl b T
    obtain ⟨b', r, T', c⟩ := ih2 hf b1 T1
    exact ⟨b', .call r1 r, T', c⟩
  | callSusp _ ih =>
    intro hf b T
    obtain ⟨b1, r1, T1, c⟩ := ih rfl b T
    exact ⟨b1, .callSusp r1, T1, split_append c rfl⟩
  | yield => exact fun _ b T => ⟨b, .yield, T, rfl⟩
  | resumeFresh hg _ hq _ ih1 ih2 =>
    intro hf b T
    obtain ⟨hD, hb⟩ := T.get hg (.inr (.inr ⟨_, rfl⟩))
    obtain ⟨b1, r1, T1, c1⟩ := ih1 rfl _ (T.set hD (x := .running) (fun _ _ _ _ _ _ z => by cases z))
    obtain ⟨b2, r2, T2, c2⟩ := ih2 hf _ (T1.set hD (clean_state c1))
    exact ⟨b2, .resumeFresh hb r1 hq r2, T2, c2⟩
  | resumeSuspended hg hr hq _ ih1 ih2 =>
    intro hf b T
    obtain ⟨hD, hb⟩ := T.susp hg hr
    obtain ⟨b1, r1, T1, c1⟩ := ih1 (T.clean _ _ _ _ _ _ _ hD hg) _ (T.set hD (x := .running) (fun _ _ _ _ _ _ z => by cases z))
    obtain ⟨b2, r2, T2, c2⟩ := ih2 hf _ (T1.set hD (clean_state c1))
    exact ⟨b2, .resumeSuspended hb r1 hq r2, T2, c2⟩
  | resumeJustStarted hg hv _ ih =>
    intro hf b T
    obtain ⟨hD, hb⟩ := T.get hg (.inr (.inr ⟨_, rfl⟩))
    obtain ⟨b', r, T', c⟩ := ih hf b T
    exact ⟨b', .resumeJustStarted hb hv r, T', c⟩
  | resumeThrowFresh hg _ ih =>
    intro hf b T
    obtain ⟨hD, hb⟩ := T.get hg (.inr (.inr ⟨_, rfl⟩))
    obtain ⟨b', r, T', c⟩ := ih hf _ (T.set hD (x := .finished) (fun _ _ _ _ _ _ z => by cases z))
    exact ⟨b', .resumeThrowFresh hb r, T', c⟩
  | resumeRunning hg _ ih =>
    intro hf b T
    obtain ⟨hD, hb⟩ := T.get hg (.inl rfl)
    obtain ⟨b', r, T', c⟩ := ih hf b T
    exact ⟨b', .resumeRunning hb r, T', c⟩
  | resumeFinished hg _ ih =>
    intro hf b T
    obtain ⟨hD, hb⟩ := T.get hg (.inr (.inl rfl))
    obtain ⟨b', r, T', c⟩ := ih hf b T
    exact ⟨b', .resumeFinished hb r, T', c⟩
  | segRet _ _ ih1 ih2 =>
    intro hf b T
    obtain ⟨b1, r1, T1, _⟩ := ih1 rfl b T
    obtain ⟨b', r, T', c⟩ := ih2 (split_tail hf) b1 T1
    exact ⟨b', .segRet r1 r, T', c⟩
  | segGen _ _ _ _ => exact fun hf => by simp [splitAtGen] at hf
  | segSuspOut hs _ ih =>
    intro hf b T
    obtain ⟨b1, r1, T1, c⟩ := ih rfl b T
    exact ⟨b1, .segSuspOut hs r1, T1, split_append c hf⟩
  | segSuspGen hs _ _ _ _ _ =>
    intro hf
    rw [hf] at hs
    cases hs

/-- the same end, with the other table -/
def TwP (D : Nat → Option GenState) {α : Type} (Q : α → Shared → Prop) (a : α) (s' : Shared) : Prop := ∃ s1, Q a s1 ∧ Twin D s1.gens s'.gens ∧ s' = { s1 with gens := s'.gens }
theorem wakes_twin {D : Nat → Option GenState} {M : Model} {Γ : PySem.Ctx} {p : Pos} {g : Nat} {r : Resume} {s s' : Shared} {res : GenResult} (h : Wakes M Γ p g r s res s') (b : Array GenState) (T : Twin D s.gens b) :
    ∃ b', Wakes M Γ p g r { s with gens := b } res { s' with gens := b' } ∧ Twin D s'.gens b' := by
  unfold Wakes at h
  split at h
  · exact h.elim
  · rename_i c hg
    obtain ⟨hD, hb⟩ := T.get hg (.inr (.inr ⟨_, rfl⟩))
    split at h
    · obtain ⟨e₁, s₁, hr, hq, rfl, rfl⟩ := h
      obtain ⟨b1, r1, T1, c1⟩ := runs_twin hr rfl _ (T.set hD (x := .running) (fun _ _ _ _ _ _ z => by cases z))
      refine ⟨_, ?_, T1.set hD (clean_state c1)⟩
      unfold Wakes
      rw [show ({ s with gens := b } : Shared).gens[g]? = some (.fresh c) from hb]
      exact ⟨e₁, _, r1, hq, rfl, rfl⟩
    · obtain ⟨rfl, rfl⟩ := h
      refine ⟨b, ?_, T⟩
      unfold Wakes
      rw [show ({ s' with gens := b } : Shared).gens[g]? = some (.fresh c) from hb]
      rename_i v hv
      cases v <;> first | exact ⟨rfl, rfl⟩ | exact absurd rfl hv
    · obtain ⟨rfl, rfl⟩ := h
      refine ⟨_, ?_, T.set hD (x := .finished) (fun _ _ _ _ _ _ z => by cases z)⟩
      unfold Wakes
      rw [show ({ s with gens := b } : Shared).gens[g]? = some (.fresh c) from hb]
      exact ⟨rfl, rfl⟩
  · rename_i k₀ l₀ c₀ p₀ fs cl hg
    obtain ⟨e₁, s₁, hr, hq, rfl, rfl⟩ := h
    obtain ⟨hD, hb⟩ := T.susp hg hr
    obtain ⟨b1, r1, T1, c1⟩ := runs_twin hr (T.clean _ _ _ _ _ _ _ hD hg) _ (T.set hD (x := .running) (fun _ _ _ _ _ _ z => by cases z))
    refine ⟨_, ?_, T1.set hD (clean_state c1)⟩
    unfold Wakes
    rw [show ({ s with gens := b } : Shared).gens[g]? = some (.suspended k₀ l₀ c₀ p₀ fs cl) from hb]
    exact ⟨e₁, _, r1, hq, rfl, rfl⟩
  · rename_i hg
    obtain ⟨rfl, rfl⟩ := h
    obtain ⟨hD, hb⟩ := T.get hg (.inl rfl)
    refine ⟨b, ?_, T⟩
    unfold Wakes
    rw [show ({ s' with gens := b } : Shared).gens[g]? = some .running from hb]
    exact ⟨rfl, rfl⟩
  · rename_i hg
    obtain ⟨rfl, rfl⟩ := h
    obtain ⟨hD, hb⟩ := T.get hg (.inr (.inl rfl))
    refine ⟨b, ?_, T⟩
    unfold Wakes
    rw [show ({ s' with gens := b } : Shared).gens[g]? = some .finished from hb]
    exact ⟨rfl, rfl⟩

theorem wp_twin {D : Nat → Option GenState} {α : Type} (M : Model) (Γ : PySem.Ctx) (t : Sem α) : ∀ (Q : α → Pos → Shared → Prop) (E : Value → Pos → Shared → Prop) (p : Pos) (s : Shared) (b : Array GenState), Twin D s.gens b → wp M Γ t Q E p s →
    wp M Γ t (fun a p' s' => ∃ s1, Q a p' s1 ∧ Twin D s1.gens s'.gens ∧ s' = { s1 with gens := s'.gens }) (fun e p' s' => ∃ s1, E e p' s1 ∧ Twin D s1.gens s'.gens ∧ s' = { s1 with gens := s'.gens }) p { s with gens := b } := by
  induction t with
  | pure a => intro Q E p s b T h; exact ⟨s, h, T, rfl⟩
  | raise e => intro Q E p s b T h; exact ⟨s, h, T, rfl⟩
  | unsupported _ => intro Q E p s b _ h; exact h
  | finish _ => intro Q E p s b _ h; exact h
  | rule _ k ih => intro Q E p s b T h; exact ih () Q E p s b T h
  | «at» p' k ih => intro Q E p s b T h; exact ih () Q E p' s b T h
  | load a _ k ih => intro Q E p s b T h; obtain ⟨o, ho, h⟩ := h; exact ⟨o, ho, ih o Q E p s b T h⟩
  | update a _ f k ih => intro Q E p s b T h; exact ⟨h.1, ih () Q E p { s with heap := s.heap.update a f } b T h.2⟩
  | loadIfAlive a k ih => intro Q E p s b T h; exact ih _ Q E p s b T h
  | point _ k ih => intro Q E p s b T h; exact ih () Q E p s b T h
  | register _ _ => intro Q E p s b _ h; exact h
  | alloc o k ih => intro Q E p s b T h; exact ih _ Q E p { s with heap := s.heap.push o } b T h
  | fresh k ih => intro Q E p s b T h; exact ih _ Q E p { s with toks := s.toks + 1 } b T h
  | ask k ih => intro Q E p s b T h; exact ih _ Q E p s b T h
  | choose src m k ih => intro Q E p s b T h; exact ⟨h.1, ih _ Q E p { s with drawn := s.drawn.bump src } b T h.2⟩
  | os q _ k ih => intro Q E p s b T h; exact ih _ Q E p { s with os := (Os.step s.os q).1 } b T h
  | call c hd _ _ k ih =>
    intro Q E p s b T h
    obtain ⟨r, s', hr, h⟩ := h
    obtain ⟨b', r1, T1, _⟩ := runs_twin hr rfl b T
    exact ⟨r, _, r1, ih r Q E p s' b' T1 h⟩
  | handled own k ih => intro Q E p s b T h; exact ih _ Q E p s b T h
  | genState g k ih =>
    intro Q E p s b T h
    obtain ⟨st, hs, h⟩ := h
    obtain ⟨y, hy, es⟩ := T.seen hs
    refine ⟨y, hy, ?_⟩
    rw [es]
    exact ih _ Q E p s b T h
  | newGen c k ih =>
    intro Q E p s b T h
    show wp M Γ (k b.size) _ _ p { s with gens := b.push (.fresh c) }
    rw [← T.size]
    exact ih _ Q E p { s with gens := s.gens.push (.fresh c) } _ T.push h
  | resume g r _ k ih =>
    intro Q E p s b T h
    obtain ⟨res, s', hw, h⟩ := h
    obtain ⟨b', w1, T1⟩ := wakes_twin hw b T
    exact ⟨res, _, w1, ih res Q E p s' b' T1 h⟩
  | yield _ _ _ _ => intro Q E p s b _ h; exact h
  | stack k ih => intro Q E p s b T h; exact ih _ Q E p s b T h
  | fork _ _ => intro Q E p s b _ h; exact h
  | thread k ih => intro Q E p s b T h; exact ih _ Q E p s b T h
  | await _ _ _ _ _ => intro Q E p s b _ h; exact h

theorem wpAny_twin {D : Nat → Option GenState} {α : Type} {M : Model} {A : Around} {t : Sem α} {Q : α → Shared → Prop} {E : Value → Shared → Prop} {s : Shared} {b : Array GenState} (T : Twin D s.gens b) (h : wpAny M A t Q E s) :
    wpAny M A t (TwP D Q) (TwP D E) { s with gens := b } := fun Γ p hΓ => wp_twin M Γ t _ _ p s b T (h Γ p hΓ)

/-- what sleeps in a table -/
def sleepers (b : Array GenState) (i : Nat) : Option GenState := (b[i]?).filter isSusp
theorem twin_of (b : Array GenState) : Twin (sleepers b) (b.map deadOf) b where
  size := by rw [Array.size_map]
  here := fun i g h => by
    have h2 : b[i]? = some g ∧ isSusp g = true := by
      unfold sleepers at h
      rw [Option.filter_eq_some_iff] at h
      exact h
    refine ⟨h2.2, h2.1, ?_⟩
    rw [Array.getElem?_map, h2.1]
    rfl
  same := fun i h => by
    rw [Array.getElem?_map]
    cases e : b[i]? with
    | none => rfl
    | some g =>
      have q : isSusp g = false := by
        unfold sleepers at h
        rw [e] at h
        cases z : isSusp g with
        | false => rfl
        | true => simp [Option.filter, z] at h
      cases g <;> first | rfl | cases q
  clean := fun i k l c p fs cl h e => by
    rw [Array.getElem?_map] at e
    cases e2 : b[i]? with
    | none => rw [e2] at e; cases e
    | some g =>
      rw [e2] at e
      have e3 : deadOf g = .suspended k l c p fs cl := Option.some.inj e
      have q : isSusp g = false := by
        unfold sleepers at h
        rw [e2] at h
        cases z : isSusp g with
        | false => rfl
        | true => simp [Option.filter, z] at h
      cases g <;> first | (cases q; done) | (cases e3; done)
theorem bare_dead {b : Array GenState} (h : AllBare b) : AllBare (b.map deadOf) := fun y hy => by
  obtain ⟨x, hx, e⟩ := Array.mem_map.mp hy
  have := h x hx
  rw [← e]
  cases x <;> first | rfl | exact this
/-- behind such a run: the sleepers as they were, all bare -/
theorem Twin.kept {D : Nat → Option GenState} {a b : Array GenState} (T : Twin D a b) {i : Nat} {g : GenState} (h : D i = some g) : b[i]? = some g := (T.here i g h).2.1
theorem Twin.bare {D : Nat → Option GenState} {a b : Array GenState} (T : Twin D a b) (ha : AllBare a) (hD : ∀ i g, D i = some g → g.bare = true) : AllBare b := fun y hy => by
  obtain ⟨i, hi, rfl⟩ := Array.mem_iff_getElem.mp hy
  cases e : D i with
  | none =>
    have q := T.same i e
    rw [Array.getElem?_eq_getElem hi] at q
    exact ha _ (Array.mem_of_getElem? q)
  | some g =>
    obtain ⟨_, h2, _⟩ := T.here i g e
    rw [Array.getElem?_eq_getElem hi] at h2
    rw [Option.some.inj h2]
    exact hD i g e
theorem sleepers_bare {b : Array GenState} (h : AllBare b) : ∀ i g, sleepers b i = some g → g.bare = true := fun i g e => by
  unfold sleepers at e
  rw [Option.filter_eq_some_iff] at e
  exact h g (Array.mem_of_getElem? e.1)
end K58
set_option Elab.async false
set_option linter.all false
set_option maxRecDepth 100000
set_option maxHeartbeats 1000000
/-! A for loop within a generator's body. -/
namespace K58
open PySem PySem.Spec PyProof.Rows L2 GenW
open Sem (wp)

section
variable {M : Model} {A : Around} {R : GenEnd} {Y : Protocol} {n : Nat} {s₀ s : Shared} {c : Code} {fs : List Frame} {env : Env}
  {K : Flow → Sem PySem.Fin} {J : Value → Sem PySem.Fin} {gd : Bool → Bool} {lv : List Value → List Value}
abbrev NoE : Value → Shared → Prop := fun _ _ => False
/-- nothing is raised -/
theorem seg_bw {α β : Type} {m : Sem α} {f : α → Sem β} {K' : β → Sem PySem.Fin} (h : wpAny M (A.over c fs) m (fun a s' => Seg M A R Y n s₀ c ((f a).wrap K' J gd lv) fs s') NoE s) :
    Seg M A R Y n s₀ c ((m >>= f).wrap K' J gd lv) fs s := seg_bind_wrap (wpAny_mono h (fun _ _ x => x) fun _ _ x => x.elim)
theorem seg_b {α : Type} {m : Sem α} {f : α → Sem PySem.Fin} (h : wpAny M (A.over c fs) m (fun a s' => Seg M A R Y n s₀ c (f a) fs s') NoE s) :
    Seg M A R Y n s₀ c (m >>= f) fs s := seg_bind (wpAny_mono h (fun _ _ x => x) fun _ _ x => x.elim)
theorem seg_If {test : Expr} {body orelse : List Stmt} {pos : Pos}
    (h : wpAny M (A.over c fs) (isTrue test env (eval test env)) (fun b s1 => if b = true then Seg M A R Y n s₀ c ((execs body env).wrap K J gd lv) fs s1 else Seg M A R Y n s₀ c ((execs orelse env).wrap K J gd lv) fs s1) NoE s) :
    Seg M A R Y n s₀ c ((exec (.If test body orelse pos) env).wrap K J gd lv) fs s := by
  have e : exec (.If test body orelse pos) env = (standAt pos >>= fun _ => isTrue test env (eval test env) >>= fun b => if b = true then execs body env else execs orelse env) := rfl
  rw [e]
  refine seg_bw (wpAny_standAt ?_)
  refine seg_bw (wpAny_mono h (fun b s1 h1 => ?_) fun _ _ x => x)
  cases b with
  | true => exact h1
  | false => exact h1
/-- where a loop's code hands back to -/
abbrev loopFrame (env : Env) (K : Flow → Sem PySem.Fin) (J : Value → Sem PySem.Fin) (gd : Bool → Bool) (lv : List Value → List Value) (c : Code) (p : Pos) : Frame :=
  .ret (fun r => ((match r with | .ok f => (.pure f : Sem Flow) | .error e => .raise e).onRaise (cameBack env)).wrap K J gd lv) none (gd false) (lv []) c p []
theorem seg_For {target iter : Expr} {body : List Stmt} {pos : Pos}
    (h : wpAny M (A.over c fs) (eval iter env) (fun x s1 => wpAny M (A.over c fs) (pyIter x) (fun it s2 => ∀ p, Seg M A R Y n s₀ (.forLoop target it body [] env) (M.den (.forLoop target it body [] env)) (loopFrame env K J gd lv c p :: fs) s2) NoE s1) NoE s)
    (hs : ∀ x, foldedSetIterable iter env x = pure x := by intro _; rfl) :
    Seg M A R Y n s₀ c ((exec (.For target iter body [] pos) env).wrap K J gd lv) fs s := by
  rw [exec_For]
  refine seg_bw (wpAny_standAt ?_)
  refine seg_bw (wpAny_mono h (fun x s1 h1 => ?_) fun _ _ x => x)
  refine seg_bw (wpAny_of_eq (hs x) ?_)
  refine seg_bw (wpAny_standAt ?_)
  refine seg_bw (wpAny_holding (wpAny_mono h1 (fun it s2 h2 => ?_) fun _ _ x => x))
  exact seg_call h2
end

section
variable {P : Program} {w : World} {A : Around} {R : GenEnd} {Y : Protocol} {n : Nat} {s₀ s : Shared} {fs : List Frame} {env : Env}
theorem seg_forLoop {x : Str} {tpos : Pos} {it : Value} {body : List Stmt}
    (h : wpAny (model P w) (A.over (.forLoop (.Name x tpos) it body [] env) fs) (pyNext it) (fun r s1 => match r with
      | none => ∀ fs', fs' = fs → Seg (model P w) A R Y n s₀ (.block [] env) (.pure (.done .next)) fs' s1
      | some v => wpAny (model P w) (A.over (.forLoop (.Name x tpos) it body [] env) fs) (letOwnedTupleGo (.Name x tpos) it v) (fun _ sg => wpAny (model P w) (A.over (.forLoop (.Name x tpos) it body [] env) fs) (assign (.Name x tpos) env v) (fun _ s2 =>
          Seg (model P w) A R Y n s₀ (.forLoop (.Name x tpos) it body [] env) ((execs body env).wrap (fun f => match f with
            | .next | .cont => .pure (.again (.forLoop (.Name x tpos) it body [] env))
            | .brk => .pure (.done .next)
            | .ret v => .pure (.done (.ret v))) (fun e => (do noteFrame e env; theTreesLotGoes e : Sem Unit).wrap (fun _ => .raise e) .raise id id) id id) fs s2) NoE sg) NoE s1) NoE s) :
    Seg (model P w) A R Y n s₀ (.forLoop (.Name x tpos) it body [] env) ((model P w).den (.forLoop (.Name x tpos) it body [] env)) fs s := by
  show Seg _ A R Y n s₀ _ ((forTurn (.Name x tpos) it body [] env).onRaise (fun x => do noteFrame x env; theTreesLotGoes x)) fs s
  unfold forTurn
  rw [Sem.onRaise_eq_wrap]
  refine seg_bw (wpAny_standAt ?_)
  refine seg_bw (wpAny_onRaise (wpAny_mono h (fun r s1 h1 => ?_) fun _ _ x => x.elim))
  cases r with
  | none =>
    show Seg _ A R Y n s₀ _ (.pure (.again (.block [] env))) fs s1
    exact seg_again rfl (h1 fs rfl)
  | some v =>
    refine seg_bw (wpAny_mono h1 (fun _ sg hg => ?_) fun _ _ x => x)
    refine seg_bw (wpAny_mono hg (fun _ s2 h2 => ?_) fun _ _ x => x)
    rw [Sem.bind_eq_wrap', Sem.wrap_wrap]
    rw [Sem.wrap_congr (execs body env) _ _ (K' := fun f => match f with
            | .next | .cont => .pure (.again (.forLoop (.Name x tpos) it body [] env))
            | .brk => .pure (.done .next)
            | .ret v => .pure (.done (.ret v))) (H' := (fun e => (do noteFrame e env; theTreesLotGoes e : Sem Unit).wrap (fun _ => .raise e) .raise id id))
        (fun f => by cases f <;> rfl)
        (fun e => by first | exact Sem.bind_eq_wrap _ _ | (show (do noteFrame e env; theTreesLotGoes e : Sem Unit).bind (fun _ => .raise e) = _; rw [Sem.bind_eq_wrap]))]
    exact h2
end
end K58
set_option Elab.async false
set_option linter.all false
set_option maxRecDepth 100000
set_option maxHeartbeats 1000000
/-! The next item of a generator whose sleep is a real one. -/
namespace K58
open PySem PySem.Spec PyProof.Rows L2 GenW
open Sem (wp)

/-- what the sleeper does when it is woken, with so many items left -/
def wokenBy (M : Model) (A : Around) (R : GenEnd) (Y : Protocol) (gz : GenState) : Nat → Resume → Shared → Prop
  | 0 => fun _ _ => False
  | m + 1 => fun r s => gz.Goes M A R Y m r s
section
variable {M : Model}
/-- waking: what it hands out, it then sleeps -/
theorem resume_S {A : Around} {R : GenEnd} {Y : Protocol} {n : Nat} {E : Value → Shared → Prop} {s : Shared} {g : Nat} {gs : GenState} {r : Resume} {l : List Value} {α : Type} {k : GenResult → Sem α} {Q : α → Shared → Prop}
    (at_ : s.gens[g]? = some gs) (goes : gs.Goes M A R Y n r (s.setGen g .running))
    (fin : ∀ x s1, R n (s.setGen g .running) x s1 → wpAny M A (k (End.ret x).result) Q E (s1.setGen g .finished))
    (out : ∀ v s1 gz, isSusp gz = true → gz.bare = true → Y (n - 1) (s.setGen g .running) v s1 (wokenBy M A R Y gz n) → wpAny M A (k (.yielded v)) Q E (s1.setGen g gz)) :
    wpAny M A (.resume g r l k) Q E s := by
  intro Γ p hΓ
  rw [Sem.wp_resume]
  have key : ∀ e s1, SegEnd R Y n (Seg.next M A R Y n) (s.setGen g .running) e s1 → e.quiet = true ∧ wp M Γ (k e.result) (fun a _ z => Q a z) (fun x _ z => E x z) p (s1.setGen g e.genState) := fun e s1 he => by
    cases e with
    | ret x => exact ⟨rfl, fin x s1 he Γ p hΓ⟩
    | susp v gd lv k1 c1 p1 fs1 =>
      refine ⟨he.1, out v s1 (End.susp v gd lv k1 c1 p1 fs1).genState rfl (End.bare_of_quiet he.1) ?_ Γ p hΓ⟩
      cases n with
      | zero => exact he.2
      | succ m => exact he.2
  cases gs with
  | running => exact False.elim goes
  | finished => exact False.elim goes
  | fresh c =>
    obtain ⟨rfl, go⟩ := goes
    obtain ⟨e, s1, run, he⟩ := seg_iff.mp go (Γ.wake c p) p rfl (hΓ.wake c p)
    obtain ⟨q, z⟩ := key e s1 he
    exact ⟨e.result, s1.setGen g e.genState, by unfold Wakes; rw [at_]; exact ⟨e, s1, run, q, rfl, rfl⟩, z⟩
  | suspended k1 l1 c1 p1 fs1 cl =>
    obtain ⟨e, s1, run, he⟩ := seg_iff.mp goes (Γ.wake c1 p) p1 rfl (hΓ.wake c1 p)
    obtain ⟨q, z⟩ := key e s1 he
    exact ⟨e.result, s1.setGen g e.genState, by unfold Wakes; rw [at_]; exact ⟨e, s1, run, q, rfl, rfl⟩, z⟩
end

section
variable {P : Program} {w : World} {A : Around} {E : Value → Shared → Prop} {s : Shared}
theorem next_S {a : Addr} {g n : Nat} {gs : GenState} {F : Nat → Shared → Shared → Prop} {Y : Protocol} {Q : Option Value → Shared → Prop} (calm : A.handled = none) (lim : s.heap.NoLimit) (room : A.depth < recursionLimit)
    (gen : s.heap.IsGen a g) (at_ : s.gens[g]? = some gs)
    (goes : gs.Goes (model P w) A.in1 (fun n s0 r s1 => (r = .ok (.ret .none) ∨ r = .ok .next) ∧ F n s0 s1) Y n (.send .none) (s.setGen g .running))
    (out : ∀ v s1 gz, isSusp gz = true → gz.bare = true → Y (n - 1) (s.setGen g .running) v s1 (wokenBy (model P w) A.in1 (fun n s0 r s1 => (r = .ok (.ret .none) ∨ r = .ok .next) ∧ F n s0 s1) Y gz n) → Q (some v) (s1.setGen g gz))
    (fin : ∀ s1, F n (s.setGen g .running) s1 → ∀ h', (∀ b o, s1.heap.get? b = some o → h'.get? b = some o) → Q none { s1.setGen g .finished with heap := h' }) :
    wpAny (model P w) A (pyNext (.ref a)) Q E s := by
  unfold pyNext
  refine wpAny_bind (wpAny_attempt (wpAny_callSpecial?_slot (name := Str.ofString "__next__") gen.typeIs slot_gen_next (wpAny_call_entry slot_gen_next gen.typeIs entry_gen_next ?_ (args_gen_next _))))
  show wpAny (model P w) A.in1 (Builtin.Generator.genWake (.ref a) (.send .none)) _ _ s
  unfold Builtin.Generator.genWake
  refine wpAny_bind (wpAny_holding (wpAny_genNumber gen (wpAny_bind (wpAny_genState at_ ?_))))
  cases gs with
  | running => exact False.elim goes
  | finished => exact False.elim goes
  | fresh c =>
    refine wpAny_bind (wpAny_roomToWake lim room ?_)
    refine resume_S at_ goes (fun x s1 hx => ?_) fun v s1 gz hz hb hv => wpAny_pure ⟨v, rfl, wpAny_pure (out v s1 gz hz hb hv)⟩
    obtain ⟨hr, hp⟩ := hx
    have e1 : (End.ret x).result = .returned .none := by rcases hr with q | q <;> rw [q] <;> rfl
    simp only [e1]
    show wpAny _ A.in1 (newExc (.type "StopIteration") [] >>= _) _ _ _
    refine wpAny_bind ?_
    simp only [newExc, newTuple]
    refine wpAny_bind (wpAny_newObj_type ?_ (by size_fits))
    refine wpAny_bind (m := firstArgMember _ _) (wpAny_of_eq (a := Value.none) (by first | rfl | (simp only [firstArgMember]; rfl)) ?_)
    refine wpAny_newObj_type ?_ (by size_fits)
    simp only [raiseNew]
    refine wpAny_bind (wpAny_bind (wpAny_handled ?_))
    first | rw [show A.in1.handled = none from calm] | rw [calm]
    refine wpAny_throw ?_
    refine wpAny_bind (wpAny_isInstance (T := "StopIteration") (b := true) ⟨_, Heap.get?_push_size _ rfl, rfl⟩ isSubtype_stop ?_)
    exact wpAny_pure (fin s1 hp _ fun b o q => Heap.get?_push_of_some _ (Heap.get?_push_of_some _ q))
  | suspended k1 l1 c1 p1 fs1 cl =>
    refine wpAny_bind (wpAny_roomToWake lim room ?_)
    refine resume_S at_ goes (fun x s1 hx => ?_) fun v s1 gz hz hb hv => wpAny_pure ⟨v, rfl, wpAny_pure (out v s1 gz hz hb hv)⟩
    obtain ⟨hr, hp⟩ := hx
    have e1 : (End.ret x).result = .returned .none := by rcases hr with q | q <;> rw [q] <;> rfl
    simp only [e1]
    show wpAny _ A.in1 (newExc (.type "StopIteration") [] >>= _) _ _ _
    refine wpAny_bind ?_
    simp only [newExc, newTuple]
    refine wpAny_bind (wpAny_newObj_type ?_ (by size_fits))
    refine wpAny_bind (m := firstArgMember _ _) (wpAny_of_eq (a := Value.none) (by first | rfl | (simp only [firstArgMember]; rfl)) ?_)
    refine wpAny_newObj_type ?_ (by size_fits)
    simp only [raiseNew]
    refine wpAny_bind (wpAny_bind (wpAny_handled ?_))
    first | rw [show A.in1.handled = none from calm] | rw [calm]
    refine wpAny_throw ?_
    refine wpAny_bind (wpAny_isInstance (T := "StopIteration") (b := true) ⟨_, Heap.get?_push_size _ rfl, rfl⟩ isSubtype_stop ?_)
    exact wpAny_pure (fin s1 hp _ fun b o q => Heap.get?_push_of_some _ (Heap.get?_push_of_some _ q))
end
end K58
set_option Elab.async false
set_option linter.all false
set_option maxRecDepth 100000
set_option maxHeartbeats 1000000
/-! The generator sets_of: how its frame stands between two wakings. -/
namespace K58
open PySem PySem.Spec PyProof.Rows L2 GenW
open Sem (wp)

/-! ### a heap's older part -/
def cutTo (h : Heap) (L : Addr) : Heap := { h with objs := h.objs.extract 0 L }
theorem ext_get {α : Type} (a : Array α) {n i : Nat} (hi : i < n) : (a.extract 0 n)[i]? = a[i]? := by
  rw [Array.getElem?_extract]
  by_cases c : i < a.size
  · rw [if_pos (by omega), Nat.zero_add]
  · rw [if_neg (by omega), Array.getElem?_eq_none (by omega)]
theorem ext_size {α : Type} (a : Array α) (n : Nat) : (a.extract 0 n).size ≤ n ∧ (n ≤ a.size → (a.extract 0 n).size = n) := by
  rw [Array.size_extract]; omega
theorem cut_get {h : Heap} {L b : Addr} (hb : b < L) : (cutTo h L).get? b = h.get? b := by
  unfold Heap.get? cutTo
  simp only [ext_get h.objs hb]
theorem cut_size {h : Heap} {L : Addr} (hL : L ≤ h.objs.size) : (cutTo h L).objs.size = L := by
  exact (ext_size h.objs L).2 hL
theorem cut_some {h : Heap} {L b : Addr} {o : Obj} (e : (cutTo h L).get? b = some o) : b < L ∧ h.get? b = some o := by
  have h1 : b < (cutTo h L).objs.size := Heap.lt_size e
  have h2 : (cutTo h L).objs.size ≤ L := (ext_size h.objs L).1
  have h3 : b < L := Nat.lt_of_lt_of_le h1 h2
  exact ⟨h3, by rw [← cut_get h3]; exact e⟩
def lowHp (H : Hp) (L : Addr) : Hp := fun b => if b < L then H b else none
theorem low_lt {H : Hp} {L b : Addr} (h : b < L) : lowHp H L b = H b := if_pos h
theorem low_ge {H : Hp} {L b : Addr} (h : L ≤ b) : lowHp H L b = none := if_neg (Nat.not_lt_of_le h)
theorem low_some {H : Hp} {L b : Addr} {o : HO} (h : lowHp H L b = some o) : b < L ∧ H b = some o := by
  unfold lowHp at h
  split at h
  · exact ⟨‹_›, h⟩
  · cases h

/-! ### the frame -/
abbrev nSets : List Str := ["some", "size", "k", "rest"]
abbrev gEnv (f : Addr) (cd : Value) (L : Addr) : Env := envOfC "sets_of" (defScope sP_sets_of) L f cd
def gX (P : Program) (w : World) (K : PySem.W.Frag) (mg : Str → Option Value) (base : Heap) (f : Addr) (cd : Value) (Ai : Around) (outer : List Env) (L : Addr) (H : Hp) (s : Shared) : Cx where
  prog := P
  w := w
  K := K
  mg := mg
  base := base
  A := Ai
  N := nSets
  s_0 := { s with heap := cutTo s.heap L }
  H_0 := lowHp H L
  env := gEnv f cd L
  outer := outer
  stack := gEnv f cd L :: outer
  ex := []
  fn := fun _ => true
  calm := true
  pn := []
  xe := fun _ _ => False
structure GOk (K : PySem.W.Frag) (mg : Str → Option Value) (base : Heap) (f : Addr) (cd : Value) (Ai : Around) (outer : List Env) (L : Addr) : Prop where
  mod : Mod K mg base
  hd : Ai.handled = none
  fr : Ai.frames = some (gEnv f cd L :: outer)
  bsz : base.objs.size ≤ L
  frl : ∀ b ∈ frs outer, b < L
structure Raw (P : Program) (w : World) (base : Heap) (outer : List Env) (L : Addr) (σ : L2.St) (H : Hp) (s : Shared) : Prop where
  bare : AllBare s.gens
  bas : ∀ b o, base.get? b = some o → s.heap.get? b = some o ∧ H b = none
  funs : s.heap.FunFrames base outer
  frf : ∀ b ∈ frs outer, H b = none
  loc : ∃ m, s.heap.Ns L m ∧ ∀ (i : Nat) (x : Str) (v : V), nSets[i]? = some x → σ[i]? = some (some v) → ∃ u, RelV v u ∧ m x = some u
  free : H L = none
  hok : HOk P w H s.heap
  len : σ.length = 4
theorem kind_sets : ∀ (i : Nat) (x : Str), nSets[i]? = some x → (defScope sP_sets_of).names.lookup x = some .local := by
  intro i x h
  match i, h with
  | 0, h => cases h; rfl
  | 1, h => cases h; rfl
  | 2, h => cases h; rfl
  | 3, h => cases h; rfl
theorem cells_sets : ∀ (x : Str), (defScope sP_sets_of).names.lookup x ≠ some .cell ∧ (defScope sP_sets_of).names.lookup x ≠ some .free := by
  have h : (defScope sP_sets_of).names.all (fun y => decide (y.2 ≠ .cell ∧ y.2 ≠ .free)) = true := by decide +kernel
  intro x
  constructor <;> intro e
  · have := List.all_eq_true.mp h _ (PySem.mem_of_lookup e)
    simp at this
  · have := List.all_eq_true.mp h _ (PySem.mem_of_lookup e)
    simp at this
theorem noCells (L : Addr) : cellsFrom (L + 1) (defScope sP_sets_of).names [] = [] := rfl

section
variable {P : Program} {w : World} {K : PySem.W.Frag} {mg : Str → Option Value} {base : Heap} {f : Addr} {cd : Value} {Ai : Around} {outer : List Env} {L : Addr} {σ σ' : L2.St} {H H' : Hp} {s s' : Shared} {pins : List (Addr × Obj)}

theorem Raw.ltL (R : Raw P w base outer L σ H s) : L < s.heap.objs.size := let ⟨_, hn, _⟩ := R.loc; hn.lt
theorem inv_of_raw (G : GOk K mg base f cd Ai outer L) (R : Raw P w base outer L σ H s) (hp : ∀ p ∈ pins, s.heap.get? p.1 = some p.2 ∧ H p.1 = none ∧ L < p.1 ∧ ∀ v, p.2.data ≠ .cell v) :
    Inv (gX P w K mg base f cd Ai outer L H s) pins σ H s := by
  have hL := R.ltL
  have nc : ∀ (x : Str) (c : Addr), (gX P w K mg base f cd Ai outer L H s).env.cells.lookup x = some c → False := fun x c e => by cases (show ([] : List (Str × Addr)).lookup x = some c from e)
  have nx : ∀ b : Addr, b ∉ (gX P w K mg base f cd Ai outer L H s).ex := fun b z => by cases (show b ∈ ([] : List Addr) from z)
  refine ⟨⟨G.mod, rfl, rfl, rfl, ?_, fun x y c e _ => (nc x c e).elim, fun x hx => ?_, fun x c _ e => (nc x c e).elim, fun _ => G.hd, G.fr, .inr ⟨rfl, rfl⟩, fun b z => (nx b z).elim, fun b o e => ?_, ?_, fun b _ _ => nx b, fun b z => (nx b z).elim, ?_, fun b hb => ?_⟩,
    rfl, R.bare, ?_, ?_, fun x c e => (nc x c e).elim, R.free, fun x c e => (nc x c e).elim, fun p h => ?_, R.hok, R.len⟩
  · show (cutTo s.heap L).objs.size ≤ L
    rw [cut_size (Nat.le_of_lt hL)]; exact Nat.le_refl _
  · exact absurd hx fun z => z.elim (cells_sets x).1 (cells_sets x).2
  · obtain ⟨h1, h2⟩ := R.bas b o e
    have hb : b < L := Nat.lt_of_lt_of_le (Heap.lt_size e) G.bsz
    exact ⟨(cut_get hb).trans h1, (low_lt hb).trans h2⟩
  · show base.objs.size ≤ (cutTo s.heap L).objs.size
    rw [cut_size (Nat.le_of_lt hL)]; exact G.bsz
  · have all : ∀ l : List Env, (∀ b ∈ frs l, b < L) → s.heap.FunFrames base l → (cutTo s.heap L).FunFrames base l := by
      intro l
      induction l with
      | nil => intro _ _; trivial
      | cons env r ih =>
        intro hb ⟨hk, ⟨a, o, hf, hn, ho, hd⟩, hr⟩
        have ha : a < L := hb a (by unfold frs; rw [List.filterMap_cons, hf]; exact List.mem_cons_self)
        refine ⟨hk, ⟨a, o, hf, hn, (cut_get ha).trans ho, hd⟩, ih (fun b z => hb b ?_) hr⟩
        unfold frs
        rw [List.filterMap_cons, hf]
        exact List.mem_cons_of_mem _ z
    exact all outer G.frl R.funs
  · exact (low_lt (G.frl b hb)).trans (R.frf b hb)
  · refine ⟨fun b o e _ _ _ => (cut_some e).2, fun b o e _ _ _ => ⟨o.slots, (cut_some e).2⟩, fun b o e n _ => ?_, fun b o e _ => ⟨o, (cut_some e).2⟩, fun b xs e => (low_some e).2, fun b o u e => (low_some e).2, fun b ps e => ⟨#[], by rw [(low_some e).2]; simp⟩⟩
    rw [← low_lt (H := H) (cut_some e).1]; exact n
  · obtain ⟨m, hn, hl⟩ := R.loc
    refine ⟨m, hn, fun i x v h1 h2 _ => ?_⟩
    obtain ⟨u, r, e⟩ := hl i x v h1 h2
    exact ⟨u, r, .inl ⟨kind_sets i x h1, e⟩⟩
  · obtain ⟨h1, h2, h3, h4⟩ := hp p h
    exact ⟨h1, h2, Nat.ne_of_gt h3, fun z => Nat.lt_irrefl _ (Nat.lt_trans h3 (G.frl _ z)), h4⟩

/-- what a run of the frame leaves of what is older than it; ta: the tuple that it walks -/
structure Woke (outer : List Env) (L ta : Addr) (xs : List V) (s s' : Shared) : Prop where
  os : s'.os = s.os
  keep : ∀ b o, b < L → b ≠ ta → b ∉ frs outer → s.heap.get? b = some o → s'.heap.get? b = some o
  slot : ∀ b o, b < L → b ≠ ta → b ∈ frs outer → s.heap.get? b = some o → ∃ sl, s'.heap.get? b = some { o with slots := sl }
  tup : ∃ its : List Value, Vals xs its ∧ IsTup s'.heap ta its.toArray
theorem Woke.refl {ta : Addr} {xs : List V} (h : ∃ its : List Value, Vals xs its ∧ IsTup s.heap ta its.toArray) : Woke outer L ta xs s s := ⟨rfl, fun _ _ _ _ _ e => e, fun _ o _ _ _ e => ⟨o.slots, e⟩, h⟩
theorem Woke.trans {ta : Addr} {xs : List V} {s1 s2 : Shared} (a : Woke outer L ta xs s s1) (b : Woke outer L ta xs s1 s2) : Woke outer L ta xs s s2 where
  os := b.os.trans a.os
  keep := fun c o h1 h2 h3 e => b.keep c o h1 h2 h3 (a.keep c o h1 h2 h3 e)
  slot := fun c o h1 h2 h3 e => by
    obtain ⟨sl, e1⟩ := a.slot c o h1 h2 h3 e
    obtain ⟨sl2, e2⟩ := b.slot c _ h1 h2 h3 e1
    exact ⟨sl2, e2⟩
  tup := b.tup
/-- another table of generators -/
theorem Woke.gens {ta : Addr} {xs : List V} {g g' : Array GenState} (a : Woke outer L ta xs s s') : Woke outer L ta xs { s with gens := g } { s' with gens := g' } := ⟨a.os, a.keep, a.slot, a.tup⟩

theorem raw_of_inv (G : GOk K mg base f cd Ai outer L) (hL : L ≤ s.heap.objs.size) (I : Inv (gX P w K mg base f cd Ai outer L H s) pins σ' H' s') {ta : Addr} {xs : List V} (hta : ta < L) (ht : H ta = some (.tup xs)) (only : ∀ b, b < L → b ≠ ta → H b = none) :
    Raw P w base outer L σ' H' s' ∧ Woke outer L ta xs s s' ∧ (∀ p ∈ pins, s'.heap.get? p.1 = some p.2 ∧ H' p.1 = none) ∧ H' ta = some (.tup xs) ∧ (∀ b, b < L → b ≠ ta → b ∉ frs outer → (∃ o, s.heap.get? b = some o) → H' b = none) := by
  have ht' : H' ta = some (.tup xs) := I.base.tups ta xs ((low_lt hta).trans ht)
  have nx : ∀ b : Addr, b ∉ (gX P w K mg base f cd Ai outer L H s).ex := fun b z => by cases (show b ∈ ([] : List Addr) from z)
  have nl : ∀ b, b < L → b ≠ ta → lowHp H L b = none := fun b h1 h2 => (low_lt h1).trans (only b h1 h2)
  refine ⟨⟨I.bare, I.bs, I.funs, fun b hb => ?_, ?_, I.free, I.hok, I.len⟩, ⟨I.os, fun b o h1 h2 h3 e => ?_, fun b o h1 h2 h3 e => ?_, ?_⟩, fun p hp => ?_, ht', fun b h1 h2 _ ⟨o, e⟩ => ?_⟩
  · have hb' : b ∈ (gX P w K mg base f cd Ai outer L H s).fs := hb
    obtain ⟨_, o, ho, _⟩ := I.ok.funs.mem hb'
    exact I.base.free b o ho (I.ok.frf b hb') (nx b)
  · obtain ⟨m, hn, hl⟩ := I.loc
    refine ⟨m, hn, fun i x v h1 h2 => ?_⟩
    have hk := kind_sets i x h1
    obtain ⟨u, r, l⟩ := hl i x v h1 h2 (.inl hk)
    rcases l with l | ⟨l, _⟩
    · exact ⟨u, r, l.2⟩
    · exact absurd l fun z => z.elim (cells_sets x).1 (cells_sets x).2
  · exact I.base.keep b o ((cut_get h1).trans e) (nl b h1 h2) h3 (nx b)
  · exact I.base.slot b o ((cut_get h1).trans e) (nl b h1 h2) h3 (nx b)
  · obtain ⟨_, its, r, t⟩ := (show ObjOk P w H' s'.heap ta (.tup xs) from I.hok ta _ ht')
    exact ⟨its, r, t⟩
  · obtain ⟨h1, h2, _⟩ := I.pin p (List.mem_append_right _ hp)
    exact ⟨h1, h2⟩
  · exact I.base.free b o ((cut_get h1).trans e) (nl b h1 h2) (nx b)
end
end K58
set_option Elab.async false
set_option linter.all false
set_option maxRecDepth 100000
set_option maxHeartbeats 1000000
/-! The generator sets_of: a call makes it. -/
namespace K58
open PySem PySem.Spec PyProof.Rows L2 GenW
open Sem (wp)

abbrev bSets : List Stmt := defBody sP_sets_of
abbrev FSets (K : PySem.W.Frag) (f : Addr) (fd : FuncData) : Prop := FunD K "sets_of" "sets_of" (defArgs sP_sets_of) bSets (defScope sP_sets_of) [] [] f fd
theorem scSets : GScope nSets ["some", "size"] (defScope sP_sets_of) := ⟨rfl, rfl, rfl, by decide +kernel, rfl, by decide +kernel, by decide +kernel⟩
/-- a generator of sets_of that has not begun, made at s; it stands at a, its frame at L -/
structure Made (f : Addr) (cd : Value) (vs : List V) (s s' : Shared) (L a : Addr) (g : Nat) : Prop where
  L_eq : L = s.heap.objs.size
  lt : L < a
  gi : g = s.gens.size
  gen : s'.heap.IsGen a g
  ncell : ∀ o, s'.heap.get? a = some o → ∀ v, o.data ≠ .cell v
  fresh : s'.gens[g]? = some (.fresh (.func bSets (gEnv f cd L)))
  os : s'.os = s.os
  bare : AllBare s'.gens
  keep : ∀ b o, s.heap.get? b = some o → s'.heap.get? b = some o
  loc : ∃ m, s'.heap.Ns L m ∧ ∀ (i : Nat) (x : Str) (v : V), nSets[i]? = some x → (L2.start nSets vs)[i]? = some (some v) → ∃ u, RelV v u ∧ m x = some u
  nloc : ∀ o, s'.heap.get? L = some o → ∀ v, o.data ≠ .cell v

/-- the table of generators only grows -/
theorem grow0 {α : Type} {M : Model} {A : Around} {t : Sem α} {Q : α → Shared → Prop} {E : Value → Shared → Prop} {s : Shared} {n : Nat} (hn : n ≤ s.gens.size) (h : wpAny M A t Q E s) : wpAny M A t (fun a z => n ≤ z.gens.size ∧ Q a z) E s :=
  wpAny_mono (fun Γ p hΓ => wp_gsz M Γ n t _ _ p s hn (h Γ p hΓ) : wpAny M A t (fun a z => n ≤ z.gens.size ∧ Q a z) (fun e z => n ≤ z.gens.size ∧ E e z) s) (fun _ _ x => x) fun _ _ x => x.2
section
variable {P : Program} {w : World} {K : PySem.W.Frag} {f : Addr} {fd : FuncData} {A : Around} {s : Shared} {us : List Value} {vs : List V} {k : Nat}
theorem made_S (F : FSets K f fd) : ∃ cd : Value, ∀ {A : Around} {s : Shared} {us : List Value} {vs : List V} {k : Nat}, Room (k + 1) A → K.In s.heap → s.heap.NoLimit → AllBare s.gens → vs.length = 2 → Vals vs us →
    codeAny (model P w) A (.call (.ref f) ⟨us, []⟩) (fun r s' => match r with | .ok (.ret u) => ∃ L a g, u = .ref a ∧ Made f cd vs s s' L a g | _ => False) s := by
  obtain ⟨oc, od, dV, kV, doc, pm, an, cdv, ct, osl, rfl, lk, hcd, hD, _⟩ := F.ex
  refine ⟨cdv, fun {A s us vs k} hr KX lim hb hl r => ?_⟩
  have hl2 : us.length = 2 := by rw [← r.length]; exact hl
  have hdv : dV = .none := by
    rcases hD with ⟨_, e⟩ | ⟨e, _⟩
    · exact e
    · exact absurd rfl e
  subst hdv
  have hkind : ∀ y ∈ (["some", "size"] : List Str).zip us, (defScope sP_sets_of).names.lookup y.1 = some .local ∨ ((defScope sP_sets_of).names.lookup y.1 = some .cell ∧ ((cellsFrom (s.heap.objs.size + 1) (defScope sP_sets_of).names []).lookup y.1).isSome = true) := fun ⟨n, v⟩ hy => by
    rcases scSets.par n (List.of_mem_zip hy).1 with q | q
    · exact .inl q
    · exact .inr ⟨q, PySem.W.cellsFrom_some _ _ _ (.inl q)⟩
  have hbind : BindsTo s (PySem.W.fnOf "sets_of" "sets_of" (defArgs sP_sets_of) bSets (defScope sP_sets_of) .none kV doc pm an cdv ct) ⟨us, []⟩ ((["some", "size"] : List Str).zip us) := by
    refine .of_eq ?_
    match us, hl2 with
    | [_, _], _ => rfl
  refine codeAny_call_generator hr.depth (KX _ _ lk) rfl scSets.co scSets.gen rfl (PySem.W.codeRec_of KX hcd) (hbind _ _ _ _ ?_)
  refine wpAny_newFunctionEnv_cells scSets.kind hkind fun env he s1 x => ?_
  subst he
  have lim1 : s1.heap.NoLimit := lim.keeps x.toInCall.keep
  refine ⟨lim1, ?_⟩
  obtain ⟨h1, tk, es1, hk1⟩ := x.done
  have ns1 := x.toInCall.ns
  have kp1 : ∀ b o, s.heap.get? b = some o → s1.heap.get? b = some o := x.toInCall.keep
  have lt1 : s.heap.objs.size < s1.heap.objs.size := ns1.lt
  have gen1 : s1.gens = s.gens := by rw [es1]
  have main : ∀ (go : Obj) (nm qn : Value) (tk2 : Nat), go.cls = .type "generator" → go.data = .fields #[.int s1.gens.size 0, nm, qn] → go.slots = #[] → (∀ h : Heap, (h.push go).get? h.objs.size = some go) →
      ∃ L a g, Value.ref s1.heap.objs.size = .ref a ∧ Made f cdv vs s { s1 with gens := s1.gens.push (.fresh (.func bSets (envOfC "sets_of" (defScope sP_sets_of) s.heap.objs.size f cdv))), toks := tk2, heap := s1.heap.push go } L a g := by
    intro go nm qn tk2 c1 c2 c3 c4
    have at1 : (s1.heap.push go).get? s1.heap.objs.size = some go := c4 _
    refine ⟨s.heap.objs.size, s1.heap.objs.size, s1.gens.size, rfl, rfl, lt1, by rw [gen1], ⟨go, nm, qn, at1, c1, c2, c3⟩, fun o e v => ?_, Array.getElem?_push_size .., by rw [es1], AllBare.push (by rw [gen1]; exact hb) rfl, fun b o e => Heap.get?_push_of_some _ (kp1 b o e), ?_, fun o e v z => ?_⟩
    · rw [at1] at e
      cases e
      intro z
      rw [c2] at z; cases z
    · refine ⟨_, ns1.push go, fun i y v h1 h2 => ?_⟩
      have hi : i < vs.length := by
        unfold L2.start at h2
        by_cases hi : i < vs.length
        · exact hi
        · rw [List.getElem?_append_right (by simpa using hi), List.getElem?_replicate] at h2
          split at h2 <;> cases h2
      have ha : vs[i]? = some v := by
        unfold L2.start at h2
        rw [List.getElem?_append_left (by simpa using hi), List.getElem?_map] at h2
        cases e : vs[i]? with
        | none => rw [e] at h2; cases h2
        | some a => rw [e] at h2; cases h2; rfl
      obtain ⟨u, hu, rv⟩ := r.get ha
      have hi2 : i < 2 := by omega
      have hp : (["some", "size"] : List Str)[i]? = some y := by
        rw [← h1]
        match i, hi2 with
        | 0, _ => rfl
        | 1, _ => rfl
      exact ⟨u, rv, bindL_get (by decide +kernel) hp hu (kind_sets i y h1)⟩
    · obtain ⟨o', es, ep, ho, hd, _⟩ := ns1.push go
      have eo : o = o' := Option.some.inj ((show _ = some o from e).symm.trans ho)
      rw [eo, hd] at z; cases z
  exact main _ _ _ _ rfl rfl rfl fun h => Heap.get?_push_size _ rfl

/-- the call's expression -/
theorem call_S {X : Cx} {x : Str} {p pos : Pos} {e : Expr} {es : List Expr} {t : TA} {cd : Value} (hX : X.A.handled = none)
    (made : ∀ {A : Around} {s : Shared} {us : List Value} {vs : List V} {k : Nat}, Room (k + 1) A → X.K.In s.heap → s.heap.NoLimit → AllBare s.gens → vs.length = 2 → Vals vs us →
      codeAny (model X.prog X.w) A (.call (.ref f) ⟨us, []⟩) (fun r s' => match r with | .ok (.ret u) => ∃ L a g, u = .ref a ∧ Made f cd vs s s' L a g | _ => False) s)
    (hr : Room (k + 1) X.A) (hg : Gl X x) (hm : X.mg x = some (.ref f)) (hk : PySem.W.keepIn X.K (.ref f) = true) (ha : PA X (e :: es) t)
    {pins : List (Addr × Obj)} {σ : L2.St} {H : Hp} {s : Shared} {cont : List V → Hp → Prop} {n : Nat} (hn : n ≤ s.gens.size) (I : Inv X pins σ H s) (ht : t σ H fun vs H1 => vs.length = 2 ∧ cont vs H1)
    (hdb : (x == ("__debug__" : Str)) = false := by decide) (he : starEach (e :: es) X.env = (false, eval e X.env) :: starEach es X.env := by rfl) (hpl : (backTo pos (starEach es X.env)).any (·.1) = false := by rfl) :
    wpAny (model X.prog X.w) X.A (eval (.Call (.Name x p) (e :: es) [] pos) X.env) (fun u s' => ∃ vs H1 s1 L a g, u = .ref a ∧ Inv X pins σ H1 s1 ∧ n ≤ s1.gens.size ∧ cont vs H1 ∧ Made f cd vs s1 s' L a g) X.xe s := by
  refine wpAny_Call_Name_kw (ld_glob I hg hm ?_ hdb)
  refine PySem.W.callWith_K (h₀ := X.base) I.ok.mod.kin hk (thn (grow0 hn (ha.run pos pins s σ H _ I ht)) fun us s1 ⟨hn1, vs, H1, I1, r, hl, q⟩ => ⟨I1.kIn, ?_⟩) he hpl
  refine wpAny_call (codeAny_mono (made hr I1.kIn I1.nolimit I1.bare hl r) fun r s' hq => ?_)
  cases r with
  | error e => exact False.elim hq
  | ok fl =>
    cases fl with
    | ret u =>
      obtain ⟨L, a, g, eu, M⟩ := hq
      exact ⟨vs, H1, s1, L, a, g, eu, I1, hn1, q, M⟩
    | next => exact False.elim hq
    | brk => exact False.elim hq
    | cont => exact False.elim hq
end
end K58
set_option Elab.async false
set_option linter.all false
set_option maxRecDepth 100000
set_option maxHeartbeats 1000000
/-! The generator sets_of: what it hands out, and who takes it. -/
namespace K58
open PySem PySem.Spec PyProof.Rows L2 GenW
open Sem (wp)

/-- the tuples of so many things of a list, in order -/
def combos {α : Type} : List α → Nat → List (List α)
  | _, 0 => [[]]
  | [], _ + 1 => []
  | x :: t, d + 1 => (combos t d).map (x :: ·) ++ combos t (d + 1)
theorem combos_zero {α : Type} (xs : List α) : combos xs 0 = [[]] := by cases xs <;> rfl

/-- how the sleeper's things stand when it is woken; os: the world's, as it was -/
structure Asl (base : Heap) (outer : List Env) (g : Nat) (os : OsState) (fp : List (Addr × Obj)) (gp : List (Nat × GenState)) (ta : Addr) (xs : List V) (s : Shared) : Prop where
  os : s.os = os
  bare : AllBare s.gens
  sz : g + 1 ≤ s.gens.size
  obj : ∀ p ∈ fp, s.heap.get? p.1 = some p.2
  gen : ∀ p ∈ gp, s.gens[p.1]? = some p.2
  bas : ∀ b o, base.get? b = some o → s.heap.get? b = some o
  funs : s.heap.FunFrames base outer
  tup : ∃ its : List Value, Vals xs its ∧ IsTup s.heap ta its.toArray
/-- what it leans on while it sleeps: its objects, the sleepers below it -/
structure Foot (L a : Addr) (g : Nat) (fp : List (Addr × Obj)) (gp : List (Nat × GenState)) (s : Shared) : Prop where
  obj : ∀ p ∈ fp, L ≤ p.1 ∧ (∀ v, p.2.data ≠ .cell v) ∧ s.heap.get? p.1 = some p.2
  gen : ∀ p ∈ gp, isSusp p.2 = true ∧ g < p.1 ∧ s.gens[p.1]? = some p.2
  self : ∃ o nm qn, (a, o) ∈ fp ∧ o.cls = .type "generator" ∧ o.data = .fields #[.int g 0, nm, qn] ∧ o.slots = #[]
def YS (base : Heap) (outer : List Env) (L a : Addr) (g : Nat) (ta : Addr) (xs : List V) (all : List (List Str)) : Protocol := fun n s0 v s1 kap =>
  ∃ (x : List Str) (q : Addr) (rem : List (List Str)) (fp : List (Addr × Obj)) (gp : List (Nat × GenState)), n = rem.length + 1 ∧ (x :: rem) <:+ all ∧ v = .ref q ∧ L ≤ q ∧ (∀ p ∈ fp, p.1 ≠ q) ∧
    (x.length ≤ sizeLine ∧ ∃ its : List Value, Vals (strV x) its ∧ IsTup s1.heap q its.toArray) ∧ Woke outer L ta xs s0 s1 ∧ AllBare s1.gens ∧ Foot L a g fp gp s1 ∧ ∀ s', Asl base outer g s1.os fp gp ta xs s' → kap (.send .none) s'
def FS (outer : List Env) (L ta : Addr) (xs : List V) : Nat → Shared → Shared → Prop := fun n s0 s1 => n = 1 ∧ Woke outer L ta xs s0 s1 ∧ AllBare s1.gens
abbrev RS (outer : List Env) (L ta : Addr) (xs : List V) : GenEnd := fun n s0 r s1 => (r = .ok (.ret .none) ∨ r = .ok .next) ∧ FS outer L ta xs n s0 s1
/-- it sleeps, these tuples are left -/
structure Ready (P : Program) (w : World) (base : Heap) (A : Around) (outer : List Env) (L a : Addr) (g : Nat) (ta : Addr) (xs : List V) (all rem : List (List Str)) (gs : GenState) (fp : List (Addr × Obj)) (gp : List (Nat × GenState)) (s : Shared) : Prop where
  at_ : s.gens[g]? = some gs
  foot : Foot L a g fp gp s
  suf : rem <:+ all
  goes : ∀ s', Asl base outer g s.os fp gp ta xs s' → gs.Goes (model P w) A.in1 (RS outer L ta xs) (YS base outer L a g ta xs all) (rem.length + 1) (.send .none) s'

theorem suffix_eq {α : Type} {a b l : List α} (h1 : a <:+ l) (h2 : b <:+ l) (e : a.length = b.length) : a = b := by
  obtain ⟨p, rfl⟩ := h1
  obtain ⟨q, h2⟩ := h2
  exact (List.append_inj' h2 e.symm).2.symm

section
variable {X : Cx} {pins : List (Addr × Obj)} {σ : L2.St} {H : Hp} {s s1 : Shared}
theorem not_stack (I : Inv X pins σ H s) {b : Addr} (h : H b ≠ none) : b ∉ frs X.stack := fun hb => by
  have hL : b ≠ X.env.locals := fun z => h (z ▸ I.free)
  have hf : b ∈ X.fs := by
    rcases I.ok.stk with e | ⟨e, ef⟩
    · rw [e] at hb; exact hb
    · rw [e] at hb
      unfold frs at hb
      rw [List.filterMap_cons, ef] at hb
      rcases List.mem_cons.mp hb with z | z
      · exact absurd z hL
      · exact z
  obtain ⟨_, o, ho, _⟩ := I.ok.funs.mem hf
  exact h (I.base.free b o ho (I.ok.frf b hf) fun z => I.ok.exfs b z hf)
theorem inv_gens {g : Array GenState} (I : Inv X pins σ H s) (hg : AllBare g) : Inv X pins σ H { s with gens := g } :=
  I.call' (ch := []) (s' := { s with gens := g }) rfl Un.refl I.hok hg fun b z => by simp at z
theorem inv_gens2 {g : Array GenState} (I : Inv X pins σ H { s with gens := g }) (hg : AllBare s.gens) : Inv X pins σ H s := by
  have J := inv_gens (g := s.gens) I hg
  exact J
/-- behind a waking, for who took it: what is older than the generator stands -/
theorem after_wake (I : Inv X pins σ H s) {L ta : Addr} {xs : List V} {g : Array GenState} (hL : X.env.locals < L) (hc : ∀ x c, X.env.cells.lookup x = some c → c < L) (hp : ∀ p ∈ X.pn ++ pins, p.1 < L) (hH : ∀ b, H b ≠ none → b < L)
    (ht : H ta = some (.tup xs)) (W : Woke X.stack L ta xs s s1) (hg : AllBare g) : Inv X pins σ H { s1 with gens := g } := by
  have hs0 : X.s_0.heap.objs.size ≤ L := Nat.le_trans I.ok.above (Nat.le_of_lt hL)
  have nta : ∀ b, H b = none → b ≠ ta := fun b e z => by rw [z, ht] at e; cases e
  have old : ∀ b o, s.heap.get? b = some o → b ∉ (List.range s.heap.objs.size).filter (fun c => decide (L ≤ c)) → b < L := fun b o e hb => by
    refine Nat.lt_of_not_le fun z => hb (List.mem_filter.mpr ⟨List.mem_range.mpr (Heap.lt_size e), decide_eq_true z⟩)
  have tr : ∀ b u, H b = some u → b ≠ ta → ∀ o, s.heap.get? b = some o → s1.heap.get? b = some o := fun b u e ne o eo =>
    W.keep b o (hH b (by rw [e]; simp)) ne (not_stack I (by rw [e]; simp)) eo
  refine I.call' (s' := { s1 with gens := g }) (ch := (List.range s.heap.objs.size).filter fun c => decide (L ≤ c)) W.os ⟨fun b o e n hf hx => ?_, fun b o e n hf hx => ?_, fun _ _ _ n _ => n, fun b o e hx => ?_, fun _ _ q => q, fun _ _ _ q => q, fun b ps q => ⟨#[], by rw [q]; simp⟩⟩ (fun b u e => ?_) hg fun b hb => ?_
  · exact W.keep b o (old b o e hx) (nta b n) hf e
  · exact W.slot b o (old b o e hx) (nta b n) hf e
  · have hb := old b o e hx
    by_cases z : b = ta
    · obtain ⟨its, _, o', h1, _⟩ := W.tup
      rw [z]; exact ⟨o', h1⟩
    · by_cases hf : b ∈ frs X.stack
      · obtain ⟨sl, q⟩ := W.slot b o hb z hf e
        exact ⟨_, q⟩
      · exact ⟨o, W.keep b o hb z hf e⟩
  · by_cases z : b = ta
    · rw [z, ht] at e
      cases e
      obtain ⟨hl, _⟩ := (show ObjOk X.prog X.w H s.heap ta (.tup xs) from I.hok ta _ ht)
      obtain ⟨its, r, t⟩ := W.tup
      rw [z]
      exact ⟨hl, its, r, t⟩
    · refine (I.hok b u e).stay (fun c o hcb eo => ?_) (fun _ q => q) fun _ _ q => q
      rcases hcb with q | q
      · rw [q] at eo ⊢
        exact tr b u e z o eo
      · exact tr c _ q (fun z2 => by rw [z2, ht] at q; cases q) o eo
  · obtain ⟨h1, h2⟩ := List.mem_filter.mp hb
    have hb2 : L ≤ b := of_decide_eq_true h2
    refine ⟨.inr (Nat.le_trans hs0 hb2), Nat.ne_of_gt (Nat.lt_of_lt_of_le hL hb2), fun x c e z => ?_, fun p hm z => ?_⟩
    · exact absurd (Nat.lt_of_lt_of_le (hc x c e) hb2) (by rw [z]; exact Nat.lt_irrefl _)
    · exact absurd (Nat.lt_of_lt_of_le (hp p hm) hb2) (by rw [z]; exact Nat.lt_irrefl _)
/-- an object that stands is tracked from now on -/
theorem track (I : Inv X pins σ H s) {q : Addr} {xs : List V} (hq : X.s_0.heap.objs.size ≤ q) (nL : q ≠ X.env.locals) (nc : ∀ x c, X.env.cells.lookup x = some c → c ≠ q) (np : ∀ p ∈ X.pn ++ pins, p.1 ≠ q) (hn : H q = none)
    (hl : xs.length ≤ sizeLine) (ht : ∃ its : List Value, Vals xs its ∧ IsTup s.heap q its.toArray) : Inv X pins σ (upd H q (.tup xs)) s := by
  have ne : ∀ b u, H b = some u → b ≠ q := fun b u e z => by rw [z, hn] at e; cases e
  refine I.call' (s' := s) (ch := [q]) rfl ⟨fun b o e _ _ _ => e, fun b o e _ _ _ => ⟨o.slots, e⟩, fun b o e n hx => ?_, fun b o e _ => ⟨o, e⟩, fun b ys e => by rw [upd_ne (ne b _ e)]; exact e, fun b o y e => by rw [upd_ne (ne b _ e)]; exact e, fun b ps e => ⟨#[], by rw [upd_ne (ne b _ e), e]; simp⟩⟩ (fun b u e => ?_) I.bare fun b hb => ?_
  · rw [upd_ne fun z => hx (by rw [z]; exact List.mem_singleton.mpr rfl)]; exact n
  · by_cases z : b = q
    · rw [z, upd_same] at e
      cases e
      obtain ⟨its, r, t⟩ := ht
      rw [z]
      exact ⟨hl, its, r, t⟩
    · rw [upd_ne z] at e
      exact (I.hok b u e).stay (fun _ _ _ y => y) (fun c y => by rw [upd_ne (ne c _ y)]; exact y) fun c ys y => by rw [upd_ne (ne c _ y)]; exact y
  · rw [List.mem_singleton.mp hb]
    exact ⟨.inr hq, nL, nc, np⟩
/-- one more pin -/
theorem pin_more {more : List (Addr × Obj)} (I : Inv X pins σ H s) (h : ∀ p ∈ more, s.heap.get? p.1 = some p.2 ∧ H p.1 = none ∧ p.1 ≠ X.env.locals ∧ p.1 ∉ X.fs ∧ ∀ v, p.2.data ≠ .cell v) : Inv X (pins ++ more) σ H s :=
  I.pins_of fun p hp => by
    rcases List.mem_append.mp hp with z | z
    · exact I.pin p (List.mem_append_right _ z)
    · exact h p z

theorem grow {α : Type} {M : Model} {A : Around} {t : Sem α} {Q : α → Shared → Prop} {s : Shared} {n : Nat} (hn : n ≤ s.gens.size) (h : wpAny M A t Q NoE s) : wpAny M A t (fun a z => n ≤ z.gens.size ∧ Q a z) NoE s := grow0 hn h
/-- what runs beside sleepers leaves them -/
theorem stay {α : Type} {M : Model} {A : Around} {t : Sem α} {Q : α → Shared → Prop} {s : Shared} (hb : AllBare s.gens) (h : wpAny M A t Q NoE { s with gens := s.gens.map deadOf }) (hQ : ∀ a z, Q a z → AllBare z.gens) :
    wpAny M A t (fun a z => ∃ g1, Q a { z with gens := g1 } ∧ AllBare z.gens ∧ ∀ (i : Nat) (gz : GenState), s.gens[i]? = some gz → isSusp gz = true → z.gens[i]? = some gz) NoE s := by
  have T : Twin (sleepers s.gens) ({ s with gens := s.gens.map deadOf } : Shared).gens s.gens := twin_of s.gens
  have hh := wpAny_twin (s := { s with gens := s.gens.map deadOf }) T h
  refine wpAny_mono (show wpAny M A t _ _ s from hh) (fun a z hz => ?_) fun e z hz => ?_
  · obtain ⟨z1, q, T1, ez⟩ := hz
    refine ⟨z1.gens, ?_, T1.bare (hQ a z1 q) (sleepers_bare hb), fun i gz e hs => T1.kept (i := i) ?_⟩
    · have e1 : ({ z with gens := z1.gens } : Shared) = z1 := by
        rw [ez]
      rw [e1]; exact q
    · unfold sleepers
      rw [e]
      simp [Option.filter, hs]
  · obtain ⟨_, q, _⟩ := hz
    exact q.elim
end
end K58
set_option Elab.async false
set_option linter.all false
set_option maxRecDepth 100000
set_option maxHeartbeats 1000000
/-! The generator sets_of: the next tuple. -/
namespace K58
open PySem PySem.Spec PyProof.Rows L2 GenW
open Sem (wp)

section
variable {X : Cx} {pins : List (Addr × Obj)} {σ : L2.St} {H : Hp} {s : Shared} {L a : Addr} {g : Nat} {ta : Addr} {xs : List V} {all rem : List (List Str)} {gs : GenState} {fp : List (Addr × Obj)} {gp : List (Nat × GenState)} {E : Value → Shared → Prop}
/-- what is older than L -/
structure Older (X : Cx) (pins : List (Addr × Obj)) (H : Hp) (L : Addr) : Prop where
  loc : X.env.locals < L
  cell : ∀ x c, X.env.cells.lookup x = some c → c < L
  pin : ∀ p ∈ X.pn ++ pins, p.1 < L
  hp : ∀ b, H b ≠ none → b < L
theorem Foot.isGen {s : Shared} (F : Foot L a g fp gp s) : s.heap.IsGen a g := by
  obtain ⟨o, nm, qn, h, r⟩ := F.self
  exact ⟨o, nm, qn, (F.obj _ h).2.2, r⟩
theorem asl_run (hg : g < s.gens.size) (I : Inv X pins σ H s) (ht : H ta = some (.tup xs)) (F : Foot L a g fp gp s) : Asl X.base X.stack g s.os fp gp ta xs (s.setGen g .running) where
  os := rfl
  bare := allBare_setGen I.bare rfl
  sz := by rw [setGen_size]; exact hg
  obj := fun p hp => (F.obj p hp).2.2
  gen := fun p hp => by
    obtain ⟨_, h2, h3⟩ := F.gen p hp
    show (s.gens.setIfInBounds g .running)[p.1]? = _
    rw [Array.getElem?_setIfInBounds_ne (Nat.ne_of_lt h2)]; exact h3
  bas := fun b o e => (I.bs b o e).1
  funs := I.env0.funs
  tup := by
    obtain ⟨_, its, r, t⟩ := (show ObjOk X.prog X.w H s.heap ta (.tup xs) from I.hok ta _ ht)
    exact ⟨its, r, t⟩
theorem consumer_next (I : Inv X pins σ H s) (calm : X.A.handled = none) (room : X.A.depth < recursionLimit) (O : Older X pins H L) (ht : H ta = some (.tup xs)) (R : Ready X.prog X.w X.base X.A X.stack L a g ta xs all rem gs fp gp s) :
    wpAny (model X.prog X.w) X.A (pyNext (.ref a)) (fun r z => match rem with
      | [] => r = none ∧ Inv X pins σ H z
      | x :: t => ∃ q gz fp' gp', r = some (.ref q) ∧ L ≤ q ∧ isSusp gz = true ∧ (∀ p ∈ fp', p.1 ≠ q) ∧ Inv X pins σ (upd H q (.tup (strV x))) z ∧ Ready X.prog X.w X.base X.A X.stack L a g ta xs all t gz fp' gp' z) E s := by
  have hgl : g < s.gens.size := (Array.getElem?_eq_some_iff.mp R.at_).1
  have wk : ∀ {s1 : Shared}, Woke X.stack L ta xs (s.setGen g .running) s1 → Woke X.stack L ta xs s s1 := fun W => ⟨W.os, W.keep, W.slot, W.tup⟩
  refine wpAny_gsz (n := g + 1) hgl ?_
  refine next_S (F := FS X.stack L ta xs) (Y := YS X.base X.stack L a g ta xs all) (n := rem.length + 1) calm I.nolimit room R.foot.isGen R.at_ (R.goes _ (asl_run hgl I ht R.foot)) (fun v s1 gz hz hb hY => ?_) fun s1 hF h' hk => ?_
  · obtain ⟨x, q, rem', fp', gp', hn, hs, rfl, hq, hnq, ⟨hxl, hit⟩, W, hb1, F, kap⟩ := hY
    intro hsz
    have er : rem = x :: rem' := suffix_eq R.suf hs (by rw [List.length_cons]; omega)
    subst er
    have bz : AllBare (s1.setGen g gz).gens := allBare_setGen hb1 hb
    have I1 : Inv X pins σ H (s1.setGen g gz) := after_wake I O.loc O.cell O.pin O.hp ht (wk W) bz
    have hn2 : H q = none := by
      cases e : H q with
      | none => rfl
      | some u => exact absurd (O.hp q (by rw [e]; simp)) (Nat.not_lt_of_le hq)
    have hsz1 : g < s1.gens.size := by
      have z : (s1.setGen g gz).gens.size = s1.gens.size := setGen_size _ _ _
      have : g + 1 ≤ (s1.setGen g gz).gens.size := hsz
      omega
    refine ⟨q, gz, fp', gp', rfl, hq, hz, hnq, track I1 (Nat.le_trans I.ok.above (Nat.le_trans (Nat.le_of_lt O.loc) hq)) (Nat.ne_of_gt (Nat.lt_of_lt_of_le O.loc hq)) (fun y c e => Nat.ne_of_lt (Nat.lt_of_lt_of_le (O.cell y c e) hq))
      (fun p hp => Nat.ne_of_lt (Nat.lt_of_lt_of_le (O.pin p hp) hq)) hn2 (by rw [List.length_map]; exact hxl) hit, ?_⟩
    refine ⟨setGen_at hsz1, ⟨F.obj, fun p hp => ?_, F.self⟩, (List.suffix_cons x rem').trans hs, fun s' hA => ?_⟩
    · obtain ⟨h1, h2, h3⟩ := F.gen p hp
      refine ⟨h1, h2, ?_⟩
      show (s1.gens.setIfInBounds g gz)[p.1]? = _
      rw [Array.getElem?_setIfInBounds_ne (Nat.ne_of_lt h2)]; exact h3
    · exact kap s' hA
  · obtain ⟨hn, W, hb1⟩ := hF
    intro _
    have er : rem = [] := List.eq_nil_of_length_eq_zero (by omega)
    subst er
    refine ⟨rfl, ?_⟩
    have I1 : Inv X pins σ H (s1.setGen g .finished) := after_wake I O.loc O.cell O.pin O.hp ht (wk W) (allBare_setGen hb1 rfl)
    exact I1.kept (t' := s1.toks) hk
end
end K58
set_option Elab.async false
set_option linter.all false
set_option maxRecDepth 100000
set_option maxHeartbeats 1000000
/-! The generator sets_of: its body. -/
namespace K58
open PySem PySem.Spec PyProof.Rows L2 GenW
open Sem (wp)

def tHp (ta : Addr) (xs : List V) : Hp := fun b => if b = ta then some (.tup xs) else none
theorem tHp_at {ta : Addr} {xs : List V} : tHp ta xs ta = some (.tup xs) := if_pos rfl
theorem tHp_ne {ta b : Addr} {xs : List V} (h : b ≠ ta) : tHp ta xs b = none := if_neg h
/-- a new tuple, told to be new -/
def rSlN (X : Cx) : V → Option Int → Option Int → Hp → VK → Prop := fun x lo hi H Q => ∃ a xs, x = .ref a ∧ SqT X.K H a xs ∧
  ¬ (HT.sIx xs.length 0 lo = 0 ∧ HT.sIx xs.length xs.length hi = xs.length) ∧ ∀ p, X.s_0.heap.objs.size ≤ p → H p = none → Q (.ref p) (upd H p (.tup (cutV xs lo hi)))
theorem sl_new {X : Cx} : SlR X (rSlN X) := by
  intro pins s σ H x v vl vu lo hi sl Q I rx hs pl pu h
  obtain ⟨a, xs, rfl, hx, hw, q⟩ := h
  cases rx
  obtain ⟨its, r, ht, hz⟩ := I.tuple hx
  have hl : its.toArray.size = xs.length := (List.size_toArray ..).trans r.length.symm
  refine ⟨"tuple", _, PyProof.Rows.slot_tuple_getitem.lookup, ht.typeIs, HT.getItem_tuple_cut ht hs pl pu (by rw [hl]; exact hw) ?_ (by rw [hl]; exact hz)⟩
  rw [hl]
  refine ⟨.ref s.heap.objs.size, _, I.laid (t' := s.toks) (o := .tup (cutV xs lo hi)) (fun b ob e => Heap.get?_push_of_some _ e) (Nat.le_refl _) ?_, rfl, q _ I.sz (I.hok.fresh (Nat.le_refl _))⟩
  exact ⟨Nat.le_trans (cutV_length xs lo hi) hz, _, (r.drop (HT.sIx xs.length 0 lo)).take (HT.sIx xs.length xs.length hi - HT.sIx xs.length 0 lo), IsTup.new _ _⟩
def tTupN (X : Cx) (t : TA) : TE := fun σ H Q => t σ H fun xs H1 => xs.length ≤ sizeLine ∧ ∀ p, X.s_0.heap.objs.size ≤ p → H1 p = none → Q (.ref p) (upd H1 p (.tup xs))
theorem pe_tupN {X : Cx} {es : List Expr} {t : TA} {pos : Pos} {k : Tok} (h : PA X es t) : PE X (.Tuple es k pos) (tTupN X t) := by
  refine ⟨fun pins s σ H Q I hq => wpAny_Tuple_spliced (thn (h.run pos pins s σ H _ I hq) fun us s1 ⟨xs, H1, I1, r, z, q⟩ => ⟨by rw [← r.length]; exact z, ?_⟩)⟩
  exact ⟨.ref s1.heap.objs.size, upd H1 s1.heap.objs.size (.tup xs), I1.laid (t' := s1.toks) (fun b u e => Heap.get?_push_of_some _ e) (Nat.le_refl _) ⟨z, us, r, ⟨_, Heap.get?_push_size _ rfl, rfl, _, rfl⟩⟩, rfl, q _ I1.sz (I1.hok.fresh (Nat.le_refl _))⟩

/-- the frame at a loop's head -/
structure Head (P : Program) (w : World) (base : Heap) (outer : List Env) (L a : Addr) (g : Nat) (ta : Addr) (xs : List V) (s0 : Shared) (σ : L2.St) (s : Shared) : Prop where
  raw : Raw P w base outer L σ (tHp ta xs) s
  gen : s.heap.IsGen a g
  gsz : g + 1 ≤ s.gens.size
  wok : Woke outer L ta xs s0 s

section
variable {P : Program} {w : World} {K : PySem.W.Frag} {mg : Str → Option Value} {base : Heap} {f : Addr} {cd : Value} {Ai : Around} {outer : List Env} {L a : Addr} {g : Nat} {ta : Addr} {xs : List V} {σ σ' : L2.St} {H H' : Hp} {s0 s s' : Shared} {pins : List (Addr × Obj)}
theorem Raw.drop (R : Raw P w base outer L σ H s) (ht : H ta = some (.tup xs)) : Raw P w base outer L σ (tHp ta xs) s where
  bare := R.bare
  bas := fun b o e => by
    obtain ⟨h1, h2⟩ := R.bas b o e
    exact ⟨h1, tHp_ne fun z => by rw [z, ht] at h2; cases h2⟩
  funs := R.funs
  frf := fun b hb => tHp_ne fun z => by have := R.frf b hb; rw [z, ht] at this; cases this
  loc := R.loc
  free := tHp_ne fun z => by have := R.free; rw [z, ht] at this; cases this
  hok := fun b o e => by
    by_cases z : b = ta
    · rw [z, tHp_at] at e
      cases e
      rw [z]
      exact (R.hok ta _ ht)
    · rw [tHp_ne z] at e; cases e
  len := R.len
theorem gen_pin (h : s.heap.IsGen a g) : ∃ oa : Obj, s.heap.get? a = some oa ∧ (∀ v, oa.data ≠ .cell v) ∧ ∀ h' : Heap, h'.get? a = some oa → h'.IsGen a g := by
  obtain ⟨o, nm, qn, e, c1, c2, c3⟩ := h
  exact ⟨o, e, fun v z => (by rw [c2] at z; cases z), fun h' e' => ⟨o, nm, qn, e', c1, c2, c3⟩⟩
theorem head_inv (G : GOk K mg base f cd Ai outer L) (Hd : Head P w base outer L a g ta xs s0 σ s) (hta : ta < L) (hp : ∀ p ∈ pins, s.heap.get? p.1 = some p.2 ∧ L < p.1 ∧ ∀ v, p.2.data ≠ .cell v) :
    Inv (gX P w K mg base f cd Ai outer L (tHp ta xs) s) pins σ (tHp ta xs) s :=
  inv_of_raw G Hd.raw fun p h => by
    obtain ⟨h1, h2, h3⟩ := hp p h
    exact ⟨h1, tHp_ne (Nat.ne_of_gt (Nat.lt_trans hta h2)), h2, h3⟩
theorem head_of (G : GOk K mg base f cd Ai outer L) (Hd : Head P w base outer L a g ta xs s0 σ s) (hta : ta < L) (I : Inv (gX P w K mg base f cd Ai outer L (tHp ta xs) s) pins σ' H' s') {oa : Obj} (hz : g + 1 ≤ s'.gens.size) (hm : (a, oa) ∈ pins) (ho : ∀ h' : Heap, h'.get? a = some oa → h'.IsGen a g) :
    Head P w base outer L a g ta xs s0 σ' s' ∧ (∀ p ∈ pins, s'.heap.get? p.1 = some p.2 ∧ H' p.1 = none) ∧ Raw P w base outer L σ' H' s' ∧ H' ta = some (.tup xs) := by
  obtain ⟨h1, h2, h3, h4, _⟩ := raw_of_inv G (Nat.le_of_lt Hd.raw.ltL) I hta tHp_at fun b _ ne => tHp_ne ne
  exact ⟨⟨h1.drop h4, ho _ (h3 _ hm).1, hz, Hd.wok.trans h2⟩, h3, h1, h4⟩
end
end K58
set_option Elab.async false
set_option linter.all false
set_option maxRecDepth 100000
set_option maxHeartbeats 2000000
/-! The generator sets_of: its inner loop. -/
namespace K58
open PySem PySem.Spec PyProof.Rows L2 GenW
open Sem (wp)

/-- where code of the frame stands -/
structure Stand (A1 Ai : Around) (c : Code) (fs : List Frame) (gd : Bool → Bool) : Prop where
  over : A1.over c fs = Ai
  split : splitAtGen fs = none
  guard : fs.any Frame.guarded = false
  gd : gd false = false
theorem Stand.loop {A1 Ai : Around} {c c' : Code} {fs : List Frame} {gd : Bool → Bool} {env : Env} {K : Flow → Sem PySem.Fin} {J : Value → Sem PySem.Fin} {lv : List Value → List Value} {p : Pos} (S : Stand A1 Ai c fs gd) (hw : c'.weight = 0) (hu : c'.cUnits = 0) :
    Stand A1 Ai c' (loopFrame env K J gd lv c p :: fs) id where
  over := (over_loop hw hu).trans S.over
  split := by
    show (splitAtGen fs).map _ = none
    rw [S.split]; rfl
  guard := by
    show (gd false || fs.any Frame.guarded) = false
    rw [S.gd, S.guard]; rfl
  gd := rfl

section
variable {P : Program} {w : World} {K : PySem.W.Frag} {mg : Str → Option Value} {base : Heap} {f : Addr} {cd : Value} {A1 Ai : Around} {outer : List Env} {L a : Addr} {g : Nat} {ta : Addr} {xs : List Str}
/-- the frame's own iterator over range(n) -/
structure Rng (P : Program) (w : World) (K : PySem.W.Frag) (tg : Expr) (n : Nat) (L a : Addr) (fpr : List Addr) (it : Addr) (tn : Nat → Heap → Prop) : Prop where
  turn : Turn P w K tg (Itr 0 n) fpr it tn
  old : ∀ b ∈ fpr, L < b ∧ b ≠ a
theorem rng_pins {tg : Expr} {n : Nat} {fpr : List Addr} {it : Addr} {tn : Nat → Heap → Prop} (R : Rng P w K tg n L a fpr it tn) {i : Nat} {h h' : Heap} (st : tn i h) (k : ∀ p ∈ pinsAt fpr h, h'.get? p.1 = some p.2) : tn i h' :=
  R.turn.keep i h h' st fun b hb o e => k (b, o) (mem_pinsAt hb e)
theorem tup_obj {h : Heap} {q : Addr} {its : List Value} (t : IsTup h q its.toArray) : ∃ o, h.get? q = some o ∧ (∀ v, o.data ≠ .cell v) ∧ ∀ h' : Heap, h'.get? q = some o → IsTup h' q its.toArray := by
  obtain ⟨o, e, c, n, d⟩ := t
  exact ⟨o, e, fun v z => (by rw [d] at z; cases z), fun h' e' => ⟨o, e', c, n, d⟩⟩
theorem ns_obj {h : Heap} {q : Addr} {m : Str → Option Value} (t : h.Ns q m) : ∃ o, h.get? q = some o ∧ (∀ v, o.data ≠ .cell v) ∧ ∀ h' : Heap, h'.get? q = some o → h'.Ns q m := by
  obtain ⟨o, es, ep, e, d, r⟩ := t
  exact ⟨o, e, fun v z => (by rw [d] at z; cases z), fun h' e' => ⟨o, es, ep, e', d, r⟩⟩

/-- who takes the inner generator's tuples, at the loop's head -/
theorem inner_pre (G : GOk K mg base f cd Ai outer L) (hta : ta < L) {tgk : Expr} {nk : Nat} {fpr : List Addr} {itr : Addr} {tn : Nat → Heap → Prop} (RG : Rng P w K tgk nk L a fpr itr tn) {L' ta' : Addr} {ys : List V} (hLL : L < L') (haL : L < a) (ha' : a < L') (ht1 : L < ta') (ht2 : ta' < L') (hta2 : ta' ≠ a) (htr : ta' ∉ fpr) (hrl : ∀ b ∈ fpr, b < L')
    {s0 s : Shared} {σ : L2.St} {k : Nat} (Hd : Head P w base outer L a g ta (strV xs) s0 σ s) (rng : tn k s.heap) (tup : ∃ its : List Value, Vals ys its ∧ IsTup s.heap ta' its.toArray) (hlen : ys.length ≤ sizeLine) :
    ∃ oa : Obj, s.heap.get? a = some oa ∧ (∀ v, oa.data ≠ .cell v) ∧ (∀ h' : Heap, h'.get? a = some oa → h'.IsGen a g) ∧ (∀ q ∈ pinsAt fpr s.heap, s.heap.get? q.1 = some q.2 ∧ L < q.1 ∧ ∀ v, q.2.data ≠ .cell v) ∧
      Inv (gX P w K mg base f cd Ai outer L (tHp ta (strV xs)) s) ((a, oa) :: pinsAt fpr s.heap) σ (upd (tHp ta (strV xs)) ta' (.tup ys)) s ∧
      Older (gX P w K mg base f cd Ai outer L (tHp ta (strV xs)) s) ((a, oa) :: pinsAt fpr s.heap) (upd (tHp ta (strV xs)) ta' (.tup ys)) L' := by
  obtain ⟨oa, eoa, noa, ioa⟩ := gen_pin Hd.gen
  have hpr : ∀ q ∈ pinsAt fpr s.heap, s.heap.get? q.1 = some q.2 ∧ L < q.1 ∧ ∀ v, q.2.data ≠ .cell v := fun q z => by
    obtain ⟨z1, z2⟩ := of_pinsAt z
    obtain ⟨o, e1, e2⟩ := RG.turn.obj _ _ rng q.1 z1
    have eo : o = q.2 := Option.some.inj (e1.symm.trans z2)
    exact ⟨z2, (RG.old _ z1).1, fun v => by rw [← eo]; exact e2 v⟩
  have I0 : Inv (gX P w K mg base f cd Ai outer L (tHp ta (strV xs)) s) ((a, oa) :: pinsAt fpr s.heap) _ _ s := head_inv G Hd hta (pins := (a, oa) :: pinsAt fpr s.heap) (fun q hq => by
    rcases List.mem_cons.mp hq with z | z
    · rw [z]; exact ⟨eoa, haL, noa⟩
    · exact hpr q z)
  have s0L : (cutTo s.heap L).objs.size = L := cut_size (Nat.le_of_lt Hd.raw.ltL)
  have nil : ∀ {q : Addr × Obj}, q ∈ (gX P w K mg base f cd Ai outer L (tHp ta (strV xs)) s).pn → False := fun {q} z => by cases (show q ∈ ([] : List (Addr × Obj)) from z)
  have I1 := track I0 (q := ta') (xs := ys) (by show (cutTo s.heap L).objs.size ≤ ta'; rw [s0L]; exact Nat.le_of_lt ht1) (Nat.ne_of_gt ht1) (fun x c e => by cases (show ([] : List (Str × Addr)).lookup x = some c from e)) (fun q hq => by
    rcases List.mem_append.mp hq with z | z
    · exact (nil z).elim
    · rcases List.mem_cons.mp z with z | z
      · rw [z]; exact Ne.symm hta2
      · exact fun y => htr (y ▸ (of_pinsAt z).1)) (tHp_ne (Nat.ne_of_gt (Nat.lt_trans hta ht1))) hlen tup
  refine ⟨oa, eoa, noa, ioa, hpr, I1, hLL, fun x c e => (by cases (show ([] : List (Str × Addr)).lookup x = some c from e)), fun q hq => ?_, fun b hb => ?_⟩
  · rcases List.mem_append.mp hq with z | z
    · exact (nil z).elim
    · rcases List.mem_cons.mp z with z | z
      · rw [z]; exact ha'
      · exact hrl _ (of_pinsAt z).1
  · by_cases z : b = ta'
    · rw [z]; exact ht2
    · rw [upd_ne z] at hb
      by_cases z2 : b = ta
      · rw [z2]; exact Nat.lt_trans hta hLL
      · exact absurd (tHp_ne z2) hb

/-- the inner loop: rest runs through the tuples of what stands behind the k-th -/
theorem inner_loop (G : GOk K mg base f cd Ai outer L) (hta : ta < L) (hd0 : Ai.depth < recursionLimit) {tgk : Expr} {nk : Nat} {fpr : List Addr} {itr : Addr} {tn : Nat → Heap → Prop} (RG : Rng P w K tgk nk L a fpr itr tn)
    {all : List (List Str)} {d k : Nat} {xk : Str} (hk : xs[k]? = some xk) {L' a' ta' : Addr} {g' : Nat} (hLL : L < L') (haL : L < a) (ha' : a < L') (ht1 : L < ta') (ht2 : ta' < L') (hta2 : ta' ≠ a) (htr : ta' ∉ fpr) (hrl : ∀ b ∈ fpr, b < L') (hgg : g < g')
    (hcl : ∀ y ∈ combos (xs.drop (k + 1)) d, y.length + 1 ≤ sizeLine)
    {p1 p2 p3 p4 p5 p6 p7 p8 p9 : Pos} {k0 : Tok} {c : Code} {fs : List Frame} {KK : Flow → Sem PySem.Fin} {J : Value → Sem PySem.Fin} {gd : Bool → Bool} {lv : List Value → List Value} (S : Stand A1 Ai c fs gd)
    (hK : ∀ (s0 s : Shared) (y3 : Option V), Head P w base outer L a g ta (strV xs) s0 [some (.ref ta), some (.int ((d : Int) + 1)), some (.int (k : Int)), y3] s → tn (k + 1) s.heap →
      Seg (model P w) A1 (RS outer L ta (strV xs)) (YS base outer L a g ta (strV xs) all) ((combos (xs.drop (k + 1)) (d + 1)).length + 1) s0 c (KK .next) fs s) :
    ∀ (rem : List (List Str)) (gs : GenState) (fp : List (Addr × Obj)) (gp : List (Nat × GenState)) (s0 s : Shared) (y3 : Option V),
      Head P w base outer L a g ta (strV xs) s0 [some (.ref ta), some (.int ((d : Int) + 1)), some (.int (k : Int)), y3] s → tn (k + 1) s.heap →
      (∃ its : List Value, Vals (strV (xs.drop (k + 1))) its ∧ IsTup s.heap ta' its.toArray) → (strV (xs.drop (k + 1))).length ≤ sizeLine →
      Ready P w base Ai (gEnv f cd L :: outer) L' a' g' ta' (strV (xs.drop (k + 1))) (combos (xs.drop (k + 1)) d) rem gs fp gp s →
      (rem.map (xk :: ·) ++ combos (xs.drop (k + 1)) (d + 1)) <:+ all →
      ∀ p, Seg (model P w) A1 (RS outer L ta (strV xs)) (YS base outer L a g ta (strV xs) all) ((rem.map (xk :: ·) ++ combos (xs.drop (k + 1)) (d + 1)).length + 1) s0
        (.forLoop (.Name "rest" p1) (.ref a') [.Expr (.Yield (some (.Tuple [.Subscript (.Name "some" p2) (.Name "k" p3) p4, .Starred (.Name "rest" p5) p6] k0 p7)) p8) p9] [] (gEnv f cd L))
        ((model P w).den (.forLoop (.Name "rest" p1) (.ref a') [.Expr (.Yield (some (.Tuple [.Subscript (.Name "some" p2) (.Name "k" p3) p4, .Starred (.Name "rest" p5) p6] k0 p7)) p8) p9] [] (gEnv f cd L)))
        (loopFrame (gEnv f cd L) KK J gd lv c p :: fs) s := by
  intro rem
  induction rem with
  | nil =>
    intro gs fp gp s0 s y3 Hd rng tup hlen R hsuf p
    refine seg_forLoop ?_
    have S' : Stand A1 Ai (.forLoop (.Name "rest" p1) (.ref a') [.Expr (.Yield (some (.Tuple [.Subscript (.Name "some" p2) (.Name "k" p3) p4, .Starred (.Name "rest" p5) p6] k0 p7)) p8) p9] [] (gEnv f cd L)) (loopFrame (gEnv f cd L) KK J gd lv c p :: fs) id := S.loop rfl rfl
    rw [S'.over]
    obtain ⟨oa, eoa, noa, ioa, hpr, I1, O⟩ := inner_pre (mg := mg) (f := f) (cd := cd) (Ai := Ai) G hta RG hLL haL ha' ht1 ht2 hta2 htr hrl Hd rng tup hlen
    refine wpAny_mono (grow Hd.gsz (consumer_next I1 G.hd hd0 O upd_same R)) (fun r z hz => ?_) (fun _ _ h => h)
    obtain ⟨gz, rfl, I2⟩ := hz
    intro fs' hfs
    subst hfs
    obtain ⟨h1, h2, _, _⟩ := head_of G Hd hta I2 gz List.mem_cons_self ioa
    exact seg_leaf (.ok .next) (hK s0 z y3 h1 (rng_pins RG rng fun q hq => (h2 q (List.mem_cons_of_mem _ hq)).1))
  | cons x t ih =>
    intro gs fp gp s0 s y3 Hd rng tup hlen R hsuf p
    refine seg_forLoop ?_
    have S' : Stand A1 Ai (.forLoop (.Name "rest" p1) (.ref a') [.Expr (.Yield (some (.Tuple [.Subscript (.Name "some" p2) (.Name "k" p3) p4, .Starred (.Name "rest" p5) p6] k0 p7)) p8) p9] [] (gEnv f cd L)) (loopFrame (gEnv f cd L) KK J gd lv c p :: fs) id := S.loop rfl rfl
    rw [S'.over]
    obtain ⟨oa, eoa, noa, ioa, hpr, I1, O⟩ := inner_pre (mg := mg) (f := f) (cd := cd) (Ai := Ai) G hta RG hLL haL ha' ht1 ht2 hta2 htr hrl Hd rng tup hlen
    refine wpAny_mono (grow Hd.gsz (consumer_next I1 G.hd hd0 O upd_same R)) (fun r z hz => ?_) (fun _ _ h => h)
    obtain ⟨gz, q, gn, fp', gp', rfl, hq, hsusp, hnq, I2, R2⟩ := hz
    refine (show wpAny (model P w) Ai (letOwnedTupleGo (.Name "rest" p1) (.ref a') (.ref q)) _ NoE z from wpAny_pure ?_)
    have hqL : L < q := Nat.lt_of_lt_of_le hLL hq
    have qta' : ta' ≠ q := Nat.ne_of_lt (Nat.lt_of_lt_of_le ht2 hq)
    have qta : ta ≠ q := Nat.ne_of_lt (Nat.lt_trans hta hqL)
    have tata' : ta ≠ ta' := Nat.ne_of_lt (Nat.lt_trans hta ht1)
    have H2ta : upd (upd (tHp ta (strV xs)) ta' (.tup (strV (xs.drop (k + 1))))) q (.tup (strV x)) ta = some (.tup (strV xs)) := by rw [upd_ne qta, upd_ne tata']; exact tHp_at
    have I3 := pin_more I2 (more := fp') (fun o ho => by
      obtain ⟨h1, h2, h3⟩ := R2.foot.obj o ho
      have l1 : L < o.1 := Nat.lt_of_lt_of_le hLL h1
      refine ⟨h3, ?_, Nat.ne_of_gt l1, fun y => Nat.lt_irrefl _ (Nat.lt_trans l1 (G.frl _ y)), h2⟩
      rw [upd_ne (hnq o ho), upd_ne (Nat.ne_of_gt (Nat.lt_of_lt_of_le ht2 h1))]
      exact tHp_ne (Nat.ne_of_gt (Nat.lt_trans hta l1)))
    have hA : wpAny (model P w) Ai (assign (.Name "rest" p1) (gEnv f cd L) (.ref q)) (fun _ s2 => Inv (gX P w K mg base f cd Ai outer L (tHp ta (strV xs)) s) (((a, oa) :: pinsAt fpr s.heap) ++ fp') [some (.ref ta), some (.int ((d : Int) + 1)), some (.int (k : Int)), some (.ref q)]
        (upd (upd (tHp ta (strV xs)) ta' (.tup (strV (xs.drop (k + 1))))) q (.tup (strV x))) s2) NoE { z with gens := z.gens.map deadOf } :=
      wpAny_mono ((pg_name (X := gX P w K mg base f cd Ai outer L (tHp ta (strV xs)) s) (i := 3) scSets.nd rfl (.inl rfl)).run _ _ _ _ (.ref q) (.ref q) (fun σ' H' => σ' = [some (.ref ta), some (.int ((d : Int) + 1)), some (.int (k : Int)), some (.ref q)] ∧ H' = upd (upd (tHp ta (strV xs)) ta' (.tup (strV (xs.drop (k + 1))))) q (.tup (strV x)))
        (inv_gens I3 (bare_dead I3.bare)) rfl ⟨rfl, rfl⟩) (fun _ s2 ⟨σ', H', I, e1, e2⟩ => by rw [e1, e2] at I; exact I) (fun _ _ h => h)
    refine wpAny_mono (grow gz (stay I3.bare hA (fun _ _ I => I.bare))) (fun _ s2 h2 => ?_) (fun _ _ h => h)
    obtain ⟨gz2, g1, J2, hb2, keep2⟩ := h2
    have I4 : Inv (gX P w K mg base f cd Ai outer L (tHp ta (strV xs)) s) (((a, oa) :: pinsAt fpr s.heap) ++ fp') [some (.ref ta), some (.int ((d : Int) + 1)), some (.int (k : Int)), some (.ref q)]
        (upd (upd (tHp ta (strV xs)) ta' (.tup (strV (xs.drop (k + 1))))) q (.tup (strV x))) s2 := inv_gens2 J2 hb2
    refine seg_execs_cons ?_
    show Seg _ _ _ _ ((t.map (xk :: ·) ++ combos (xs.drop (k + 1)) (d + 1)).length + 1 + 1) _ _ _ _ _
    refine seg_Expr_Yield S'.split rfl S'.guard ?_
    rw [S'.over]
    have hxl : x.length + 1 ≤ sizeLine := hcl x (R.suf.subset List.mem_cons_self)
    have hE : wpAny (model P w) Ai (eval (.Tuple [.Subscript (.Name "some" p2) (.Name "k" p3) p4, .Starred (.Name "rest" p5) p6] k0 p7) (gEnv f cd L)) (fun v s3 => ∃ q2, v = .ref q2 ∧ L ≤ q2 ∧ upd (upd (tHp ta (strV xs)) ta' (.tup (strV (xs.drop (k + 1))))) q (.tup (strV x)) q2 = none ∧
        Inv (gX P w K mg base f cd Ai outer L (tHp ta (strV xs)) s) (((a, oa) :: pinsAt fpr s.heap) ++ fp') [some (.ref ta), some (.int ((d : Int) + 1)), some (.int (k : Int)), some (.ref q)]
          (upd (upd (upd (tHp ta (strV xs)) ta' (.tup (strV (xs.drop (k + 1))))) q (.tup (strV x))) q2 (.tup (strV (xk :: x)))) s3) NoE { s2 with gens := s2.gens.map deadOf } := by
      refine wpAny_mono ((pe_tupN (X := gX P w K mg base f cd Ai outer L (tHp ta (strV xs)) s) (pa_cons (pe_ix ix_tup (pv 0) (pv 2) (fun _ _ => rfl)) (StX.pa_star (pv 3) pa_nil))).run _ _ _ _ (fun v H3 => ∃ q2, v = V.ref q2 ∧ L ≤ q2 ∧ upd (upd (tHp ta (strV xs)) ta' (.tup (strV (xs.drop (k + 1))))) q (.tup (strV x)) q2 = none ∧ H3 = upd (upd (upd (tHp ta (strV xs)) ta' (.tup (strV (xs.drop (k + 1))))) q (.tup (strV x))) q2 (.tup (strV (xk :: x))))
        (inv_gens I4 (bare_dead I4.bare)) ?_) (fun v s3 ⟨y, H3, I, r, q2, e1, e2, e3, e4⟩ => ?_) (fun _ _ h => h)
      · refine ⟨.ref ta, rfl, .int (k : Int), rfl, ta, strV xs, (k : Int), .str xk, rfl, rfl, .inl (.inl H2ta), atI_nat (by rw [List.getElem?_map, hk]; rfl), .ref q, rfl, q, strV x, rfl, .inl (.inl (.inl upd_same)), ?_, fun p' hp hn => ⟨p', rfl, ?_, hn, ?_⟩⟩
        · show (strV x ++ []).length + 1 ≤ sizeLine
          rw [List.append_nil, List.length_map]; exact hxl
        · rw [show (gX P w K mg base f cd Ai outer L (tHp ta (strV xs)) s).s_0.heap.objs.size = L from cut_size (Nat.le_of_lt Hd.raw.ltL)] at hp
          exact hp
        · rw [List.append_nil]
          rfl
      · subst e1
        subst e4
        exact ⟨q2, r, e2, e3, I⟩
    refine wpAny_mono (grow gz2 (stay I4.bare hE (fun _ _ ⟨_, _, _, _, I⟩ => I.bare))) (fun v s3 h3 => ?_) (fun _ _ h => h.elim)
    obtain ⟨gz3, g2, ⟨q2, rfl, hq2, hn2, J3⟩, hb3, keep3⟩ := h3
    have I5 : Inv (gX P w K mg base f cd Ai outer L (tHp ta (strV xs)) s) (((a, oa) :: pinsAt fpr s.heap) ++ fp') [some (.ref ta), some (.int ((d : Int) + 1)), some (.int (k : Int)), some (.ref q)]
          (upd (upd (upd (tHp ta (strV xs)) ta' (.tup (strV (xs.drop (k + 1))))) q (.tup (strV x))) q2 (.tup (strV (xk :: x)))) s3 := inv_gens2 J3 hb3
    intro kap hkap
    obtain ⟨Hd5, hp5, R5, ht5⟩ := head_of G Hd hta I5 gz3 (List.mem_append_left _ List.mem_cons_self) ioa
    obtain ⟨m, ens, hloc⟩ := R5.loc
    obtain ⟨oL, eL, nL, iL⟩ := ns_obj ens
    have q2ta' : ta' ≠ q2 := fun y => by rw [← y, upd_ne qta', upd_same] at hn2; cases hn2
    obtain ⟨_, its', r', t'⟩ := (show ObjOk P w _ s3.heap ta' (.tup (strV (xs.drop (k + 1)))) from I5.hok ta' _ (by rw [upd_ne q2ta', upd_ne qta', upd_same]))
    obtain ⟨ot, et, nt, it_⟩ := tup_obj t'
    obtain ⟨l2, its2, r2, t2⟩ := (show ObjOk P w _ s3.heap q2 (.tup (strV (xk :: x))) from I5.hok q2 _ upd_same)
    have lxs : (strV xs).length ≤ sizeLine := (show ObjOk P w _ s3.heap ta (.tup (strV xs)) from I5.hok ta _ ht5).1
    have rng3 : tn (k + 1) s3.heap := rng_pins RG rng fun o ho => (hp5 o (List.mem_append_left _ (List.mem_cons_of_mem _ ho))).1
    have sl : ∀ (i : Nat) (y : GenState), z.gens[i]? = some y → isSusp y = true → s3.gens[i]? = some y := fun i y e1 e2 => keep3 i y (keep2 i y e1 e2) e2
    have H3q2 : ∀ o : Addr × Obj, o ∈ ((a, oa) :: pinsAt fpr s.heap) ++ fp' → o.1 ≠ q2 := fun o ho y => by
      have h1 := (hp5 o ho).2
      rw [y, upd_same] at h1; cases h1
    obtain ⟨og, nm, qn, eg, cg1, cg2, cg3⟩ := ioa s.heap eoa
    have eog : og = oa := Option.some.inj (eg.symm.trans eoa)
    subst eog
    refine ⟨xk :: x, q2, t.map (xk :: ·) ++ combos (xs.drop (k + 1)) (d + 1), (L, oL) :: (a, og) :: (ta', ot) :: (pinsAt fpr s3.heap ++ fp'), (g', gn) :: gp', rfl, hsuf, rfl, hq2, fun o ho => ?_, ⟨by rw [List.length_map] at l2; exact l2, its2, r2, t2⟩, Hd5.wok, I5.bare,
      ⟨fun o ho => ?_, fun o ho => ?_, ⟨og, nm, qn, by simp, cg1, cg2, cg3⟩⟩, fun s' A => hkap .none s' ?_⟩
    · rcases List.mem_cons.mp ho with y | ho
      · rw [y]; intro y2; have h1 := I5.free; rw [show (gX P w K mg base f cd Ai outer L (tHp ta (strV xs)) s).env.locals = q2 from y2, upd_same] at h1; cases h1
      · rcases List.mem_cons.mp ho with y | ho
        · rw [y]; exact H3q2 (a, og) (List.mem_append_left _ List.mem_cons_self)
        · rcases List.mem_cons.mp ho with y | ho
          · rw [y]; exact q2ta'
          · rcases List.mem_append.mp ho with y | y
            · obtain ⟨y1, _⟩ := of_pinsAt y
              obtain ⟨ob, e1, _⟩ := RG.turn.obj _ _ rng o.1 y1
              exact H3q2 (o.1, ob) (List.mem_append_left _ (List.mem_cons_of_mem _ (mem_pinsAt y1 e1)))
            · exact H3q2 o (List.mem_append_right _ y)
    · rcases List.mem_cons.mp ho with y | ho
      · rw [y]; exact ⟨Nat.le_refl _, nL, eL⟩
      · rcases List.mem_cons.mp ho with y | ho
        · rw [y]; exact ⟨Nat.le_of_lt haL, noa, (hp5 (a, og) (List.mem_append_left _ List.mem_cons_self)).1⟩
        · rcases List.mem_cons.mp ho with y | ho
          · rw [y]; exact ⟨Nat.le_of_lt ht1, nt, et⟩
          · rcases List.mem_append.mp ho with y | y
            · obtain ⟨y1, y2⟩ := of_pinsAt y
              obtain ⟨ob, e1, e2⟩ := RG.turn.obj _ _ rng3 o.1 y1
              have eo : ob = o.2 := Option.some.inj (e1.symm.trans y2)
              exact ⟨Nat.le_of_lt (RG.old _ y1).1, fun v => by rw [← eo]; exact e2 v, y2⟩
            · obtain ⟨h1, h2, _⟩ := R2.foot.obj o y
              exact ⟨Nat.le_trans (Nat.le_of_lt hLL) h1, h2, (hp5 o (List.mem_append_right _ y)).1⟩
    · rcases List.mem_cons.mp ho with y | ho
      · rw [y]; exact ⟨hsusp, hgg, sl g' gn R2.at_ hsusp⟩
      · obtain ⟨h1, h2, h3⟩ := R2.foot.gen o ho
        exact ⟨h1, Nat.lt_trans hgg h2, sl o.1 o.2 h3 h1⟩
    · have eos : s'.os = z.os := A.os.trans (I5.os.trans I2.os.symm)
      have Ag := A.gen (g', gn) List.mem_cons_self
      have Hd' : Head P w base outer L a g ta (strV xs) s' [some (.ref ta), some (.int ((d : Int) + 1)), some (.int (k : Int)), some (.ref q)] s' := {
        raw := {
          bare := A.bare
          bas := fun b o e => ⟨A.bas b o e, (Hd5.raw.bas b o e).2⟩
          funs := A.funs
          frf := Hd5.raw.frf
          loc := ⟨m, iL s'.heap (A.obj (L, oL) List.mem_cons_self), hloc⟩
          free := Hd5.raw.free
          hok := fun b o e => by
            by_cases y : b = ta
            · rw [y, tHp_at] at e
              cases e
              rw [y]
              exact ⟨lxs, A.tup⟩
            · rw [tHp_ne y] at e; cases e
          len := rfl }
        gen := ioa s'.heap (A.obj (a, og) (by simp))
        gsz := A.sz
        wok := Woke.refl A.tup }
      refine seg_execs_nil (seg_again rfl (ih gn fp' gp' s' s' (some (.ref q)) Hd' (RG.turn.keep _ _ _ rng3 fun b hb o e => A.obj (b, o) ?_) ⟨its', r', it_ s'.heap (A.obj (ta', ot) (by simp))⟩ hlen
        { at_ := Ag, foot := ⟨fun o ho => ⟨(R2.foot.obj o ho).1, (R2.foot.obj o ho).2.1, A.obj o (by simp [ho])⟩, fun o ho => ⟨(R2.foot.gen o ho).1, (R2.foot.gen o ho).2.1, A.gen o (List.mem_cons_of_mem _ ho)⟩, R2.foot.self⟩, suf := R2.suf,
          goes := fun s4 A4 => R2.goes s4 ⟨A4.os.trans eos, A4.bare, A4.sz, A4.obj, A4.gen, A4.bas, A4.funs, A4.tup⟩ } ((List.suffix_cons _ _).trans hsuf) p))
      have hm := mem_pinsAt hb e
      simp [hm]
end
end K58
set_option Elab.async false
set_option linter.all false
set_option maxRecDepth 100000
set_option maxHeartbeats 4000000
/-! The generator sets_of: its outer loop, its body. -/
namespace K58
open PySem PySem.Spec PyProof.Rows L2 GenW
open Sem (wp)

/-- what makes a generator of sets_of -/
def MakesS (P : Program) (w : World) (K : PySem.W.Frag) (f : Addr) (cd : Value) : Prop :=
  ∀ {A : Around} {s : Shared} {us : List Value} {vs : List V} {k : Nat}, Room (k + 1) A → K.In s.heap → s.heap.NoLimit → AllBare s.gens → vs.length = 2 → Vals vs us →
    codeAny (model P w) A (.call (.ref f) ⟨us, []⟩) (fun r s' => match r with | .ok (.ret u) => ∃ L a g, u = .ref a ∧ Made f cd vs s s' L a g | _ => False) s
/-- a new generator of sets_of hands out the tuples of so many -/
def FreshReady (P : Program) (w : World) (K : PySem.W.Frag) (mg : Str → Option Value) (base : Heap) (f : Addr) (cd : Value) (d : Nat) : Prop :=
  ∀ (X : Cx) (pins : List (Addr × Obj)) (σ : L2.St) (H1 : Hp) (s1 s2 : Shared) (L a : Addr) (g : Nat) (ta : Addr) (xs : List Str), X.prog = P → X.w = w → X.base = base → X.K = K → X.mg = mg →
    Inv X pins σ H1 s1 → Room (2 * d + 3) X.A → H1 ta = some (.tup (strV xs)) → xs.length + d ≤ 1000 → Made f cd [.ref ta, .int (d : Int)] s1 s2 L a g →
    ∃ fp, Ready P w base X.A X.stack L a g ta (strV xs) (combos xs d) (combos xs d) (.fresh (.func bSets (gEnv f cd L))) fp [] s2

theorem combos_len {α : Type} : ∀ (xs : List α) (d : Nat), ∀ y ∈ combos xs d, y.length = d
  | _, 0, y, h => by rw [combos_zero] at h; rw [List.mem_singleton.mp h]; rfl
  | [], d + 1, y, h => by simp [combos] at h
  | x :: t, d + 1, y, h => by
    rcases List.mem_append.mp (show y ∈ (combos t d).map (x :: ·) ++ combos t (d + 1) from h) with q | q
    · obtain ⟨z, hz, e⟩ := List.mem_map.mp q
      rw [← e, List.length_cons, combos_len t d z hz]
    · exact combos_len t (d + 1) y q
theorem combos_at {α : Type} {xs : List α} {k : Nat} {x : α} (h : xs[k]? = some x) (d : Nat) : combos (xs.drop k) (d + 1) = (combos (xs.drop (k + 1)) d).map (x :: ·) ++ combos (xs.drop (k + 1)) (d + 1) := by
  obtain ⟨hk, e⟩ := List.getElem?_eq_some_iff.mp h
  rw [List.drop_eq_getElem_cons hk, e]
  rfl
theorem cut_from (xs : List V) {k : Nat} (hk : k < xs.length) : cutV xs (some (((k + 1 : Nat) : Int))) none = xs.drop (k + 1) := by
  unfold cutV
  rw [HT.sIx_nat xs.length 0 (k + 1), HT.sIx_none, Nat.min_eq_left hk]
  exact List.take_of_length_le (by rw [List.length_drop]; exact Nat.le_refl _)

section
variable {P : Program} {w : World} {K : PySem.W.Frag} {mg : Str → Option Value} {base : Heap} {f : Addr} {cd : Value} {A1 Ai : Around} {outer : List Env} {L a : Addr} {g : Nat} {ta : Addr} {xs : List Str} {all : List (List Str)}

theorem head_pins (G : GOk K mg base f cd Ai outer L) (hta : ta < L) (haL : L < a) {tgk : Expr} {nk : Nat} {fpr : List Addr} {itr : Addr} {tn : Nat → Heap → Prop} {s0 s : Shared} {σ : L2.St} (Hd : Head P w base outer L a g ta (strV xs) s0 σ s) :
    ∃ oa : Obj, s.heap.get? a = some oa ∧ (∀ v, oa.data ≠ .cell v) ∧ (∀ h' : Heap, h'.get? a = some oa → h'.IsGen a g) ∧ Inv (gX P w K mg base f cd Ai outer L (tHp ta (strV xs)) s) [(a, oa)] σ (tHp ta (strV xs)) s := by
  obtain ⟨oa, eoa, noa, ioa⟩ := gen_pin Hd.gen
  exact ⟨oa, eoa, noa, ioa, head_inv G Hd hta fun q hq => by rw [List.mem_singleton.mp hq]; exact ⟨eoa, haL, noa⟩⟩
theorem rng_ok (hta : ta < L) {tgk : Expr} {nk : Nat} {fpr : List Addr} {itr : Addr} {tn : Nat → Heap → Prop} (RG : Rng P w K tgk nk L a fpr itr tn) (G : GOk K mg base f cd Ai outer L) {s : Shared} (hs : L ≤ s.heap.objs.size) {oa : Obj} :
    ∀ b ∈ fpr, FpOk (gX P w K mg base f cd Ai outer L (tHp ta (strV xs)) s) [(a, oa)] (tHp ta (strV xs)) b := fun b hb => by
  obtain ⟨h1, h2⟩ := RG.old b hb
  refine ⟨tHp_ne (Nat.ne_of_gt (Nat.lt_trans hta h1)), Nat.ne_of_gt h1, fun y => Nat.lt_irrefl _ (Nat.lt_trans h1 (G.frl _ y)), .inr ?_, fun x c e => (by cases (show ([] : List (Str × Addr)).lookup x = some c from e)), fun p hp => ?_⟩
  · show (cutTo s.heap L).objs.size ≤ b
    rw [cut_size hs]; exact Nat.le_of_lt h1
  · rcases List.mem_append.mp hp with z | z
    · cases (show p ∈ ([] : List (Addr × Obj)) from z)
    · rw [List.mem_singleton.mp z]; exact Ne.symm h2

/-- no turn is left -/
theorem end_loop (G : GOk K mg base f cd Ai outer L) (hta : ta < L) (haL : L < a) {n : Nat} {pk : Pos} {fpr : List Addr} {itr : Addr} {tn : Nat → Heap → Prop} (RG : Rng P w K (.Name "k" pk) n L a fpr itr tn) {body : List Stmt} {σ : L2.St}
    {c : Code} {fs : List Frame} {KK : Flow → Sem PySem.Fin} {J : Value → Sem PySem.Fin} {gd : Bool → Bool} {lv : List Value → List Value} (S : Stand A1 Ai c fs gd)
    (hend : ∀ (s0 s : Shared) (σ' : L2.St), Head P w base outer L a g ta (strV xs) s0 σ' s → Seg (model P w) A1 (RS outer L ta (strV xs)) (YS base outer L a g ta (strV xs) all) 1 s0 c (KK .next) fs s)
    {s0 s : Shared} (Hd : Head P w base outer L a g ta (strV xs) s0 σ s) (rng : tn n s.heap) (p : Pos) :
    Seg (model P w) A1 (RS outer L ta (strV xs)) (YS base outer L a g ta (strV xs) all) 1 s0 (.forLoop (.Name "k" pk) (.ref itr) body [] (gEnv f cd L)) ((model P w).den (.forLoop (.Name "k" pk) (.ref itr) body [] (gEnv f cd L))) (loopFrame (gEnv f cd L) KK J gd lv c p :: fs) s := by
  refine seg_forLoop ?_
  have S' : Stand A1 Ai (.forLoop (.Name "k" pk) (.ref itr) body [] (gEnv f cd L)) (loopFrame (gEnv f cd L) KK J gd lv c p :: fs) id := S.loop rfl rfl
  rw [S'.over]
  obtain ⟨oa, eoa, noa, ioa, I0⟩ := head_pins (mg := mg) (f := f) (cd := cd) (Ai := Ai) (K := K) (nk := n) (tgk := .Name "k" pk) (itr := itr) (tn := tn) (fpr := fpr) G hta haL Hd
  refine wpAny_mono (grow Hd.gsz (RG.turn.done (gX P w K mg base f cd Ai outer L (tHp ta (strV xs)) s) rfl rfl rfl rfl n _ s _ _ NoE I0 (rng_ok hta RG G (Nat.le_of_lt Hd.raw.ltL)) rng (Nat.le_refl _))) (fun r z hz => ?_) (fun _ _ h => h)
  obtain ⟨gz, rfl, I2⟩ := hz
  intro fs' hfs
  subst hfs
  obtain ⟨h1, _⟩ := head_of G Hd hta I2 gz List.mem_cons_self ioa
  exact seg_leaf (.ok .next) (hend s0 z _ h1)

/-- the outer loop: k runs over the places -/
theorem outer_loop (G : GOk K mg base f cd Ai outer L) (hta : ta < L) (haL : L < a) {d : Nat} (hrd : Room (2 * d + 3) Ai) (hms : mg "sets_of" = some (.ref f)) (hkp : PySem.W.keepIn K (.ref f) = true) (mk : MakesS P w K f cd) (ihd : FreshReady P w K mg base f cd d)
    (hsz : xs.length + (d + 1) ≤ 1000) {pk : Pos} {fpr : List Addr} {itr : Addr} {tn : Nat → Heap → Prop} (RG : Rng P w K (.Name "k" pk) xs.length L a fpr itr tn)
    {p1 p2 p3 p4 p5 p6 p7 p8 p9 q1 q2 q3 q4 q5 q6 q7 q8 q9 q10 q11 q12 : Pos} {k0 k1 k2 : Tok} {c : Code} {fs : List Frame} {KK : Flow → Sem PySem.Fin} {J : Value → Sem PySem.Fin} {gd : Bool → Bool} {lv : List Value → List Value} (S : Stand A1 Ai c fs gd)
    (hend : ∀ (s0 s : Shared) (σ' : L2.St), Head P w base outer L a g ta (strV xs) s0 σ' s → Seg (model P w) A1 (RS outer L ta (strV xs)) (YS base outer L a g ta (strV xs) all) 1 s0 c (KK .next) fs s) (p : Pos) :
    ∀ (j k : Nat) (s0 s : Shared) (y2 y3 : Option V), xs.length = k + j → Head P w base outer L a g ta (strV xs) s0 [some (.ref ta), some (.int ((d : Int) + 1)), y2, y3] s → tn k s.heap → combos (xs.drop k) (d + 1) <:+ all →
      Seg (model P w) A1 (RS outer L ta (strV xs)) (YS base outer L a g ta (strV xs) all) ((combos (xs.drop k) (d + 1)).length + 1) s0
        (.forLoop (.Name "k" pk) (.ref itr) [.For (.Name "rest" p1) (.Call (.Name "sets_of" q1) [.Subscript (.Name "some" q2) (.Slice (some (.BinOp (.Name "k" q3) .Add (.Constant (.int 1) k1 q4) q5)) none none q6) q7, .BinOp (.Name "size" q8) .Sub (.Constant (.int 1) k2 q9) q10] [] q11)
          [.Expr (.Yield (some (.Tuple [.Subscript (.Name "some" p2) (.Name "k" p3) p4, .Starred (.Name "rest" p5) p6] k0 p7)) p8) p9] [] q12] [] (gEnv f cd L))
        ((model P w).den (.forLoop (.Name "k" pk) (.ref itr) [.For (.Name "rest" p1) (.Call (.Name "sets_of" q1) [.Subscript (.Name "some" q2) (.Slice (some (.BinOp (.Name "k" q3) .Add (.Constant (.int 1) k1 q4) q5)) none none q6) q7, .BinOp (.Name "size" q8) .Sub (.Constant (.int 1) k2 q9) q10] [] q11)
          [.Expr (.Yield (some (.Tuple [.Subscript (.Name "some" p2) (.Name "k" p3) p4, .Starred (.Name "rest" p5) p6] k0 p7)) p8) p9] [] q12] [] (gEnv f cd L)))
        (loopFrame (gEnv f cd L) KK J gd lv c p :: fs) s := by
  intro j
  induction j with
  | zero =>
    intro k s0 s y2 y3 hj Hd rng hsuf
    have ek : k = xs.length := by omega
    subst ek
    have e0 : combos (xs.drop xs.length) (d + 1) = [] := by rw [List.drop_length]; rfl
    rw [e0]
    exact end_loop G hta haL RG S hend Hd rng p
  | succ j ih =>
    intro k s0 s y2 y3 hj Hd rng hsuf
    have hklt : k < xs.length := by omega
    obtain ⟨xk, hk⟩ : ∃ x, xs[k]? = some x := ⟨_, List.getElem?_eq_getElem hklt⟩
    rw [combos_at hk d] at hsuf ⊢
    refine seg_forLoop ?_
    have S' : Stand A1 Ai (.forLoop (.Name "k" pk) (.ref itr) [.For (.Name "rest" p1) (.Call (.Name "sets_of" q1) [.Subscript (.Name "some" q2) (.Slice (some (.BinOp (.Name "k" q3) .Add (.Constant (.int 1) k1 q4) q5)) none none q6) q7, .BinOp (.Name "size" q8) .Sub (.Constant (.int 1) k2 q9) q10] [] q11)
          [.Expr (.Yield (some (.Tuple [.Subscript (.Name "some" p2) (.Name "k" p3) p4, .Starred (.Name "rest" p5) p6] k0 p7)) p8) p9] [] q12] [] (gEnv f cd L)) (loopFrame (gEnv f cd L) KK J gd lv c p :: fs) id := S.loop rfl rfl
    rw [S'.over]
    obtain ⟨oa, eoa, noa, ioa, I0⟩ := head_pins (mg := mg) (f := f) (cd := cd) (Ai := Ai) (K := K) (nk := xs.length) (tgk := .Name "k" pk) (itr := itr) (tn := tn) (fpr := fpr) G hta haL Hd
    refine wpAny_mono (grow Hd.gsz (RG.turn.item (gX P w K mg base f cd Ai outer L (tHp ta (strV xs)) s) rfl rfl rfl rfl k _ s _ _ NoE I0 (rng_ok hta RG G (Nat.le_of_lt Hd.raw.ltL)) rng hklt)) (fun r z hz => ?_) (fun _ _ h => h)
    obtain ⟨gz, u, rfl, hz⟩ := hz
    refine wpAny_mono (grow gz hz) (fun _ z1 hz1 => ?_) (fun _ _ h => h)
    obtain ⟨gz1, x, H', I1, rx, ⟨rfl, rfl⟩, rng1, hfr⟩ := hz1
    have es0 : (gX P w K mg base f cd Ai outer L (tHp ta (strV xs)) s).s_0.heap.objs.size = L := cut_size (Nat.le_of_lt Hd.raw.ltL)
    -- the pins: the generator's object, the iterator's
    have I1' := I1.pinned (fp := fpr) (rng_ok hta RG G (Nat.le_of_lt Hd.raw.ltL)) (RG.turn.obj _ _ rng1)
    refine wpAny_mono (grow gz1 ((pg_name (X := gX P w K mg base f cd Ai outer L (tHp ta (strV xs)) s) (i := 2) scSets.nd rfl (.inl rfl)).run _ _ _ _ _ _ (fun σ' H' => σ' = [some (.ref ta), some (.int ((d : Int) + 1)), some (.int (k : Int)), y3] ∧ H' = tHp ta (strV xs)) I1' rx ⟨?_, rfl⟩)) (fun _ z2 hz2 => ?_) (fun _ _ h => h)
    · show [some (V.ref ta), some (V.int ((d : Int) + 1)), some (V.int ((0 : Int) + (k : Int))), y3] = _
      rw [Int.zero_add]
    obtain ⟨gz2, σ', H', I2, rfl, rfl⟩ := hz2
    refine seg_execs_cons ?_
    refine seg_For ?_
    rw [S'.over]
    refine wpAny_mono (grow gz2 (call_S (X := gX P w K mg base f cd Ai outer L (tHp ta (strV xs)) s) (n := g + 1) (k := 2) G.hd mk (hrd.mono (by omega)) (by rfl) hms hkp (pa_cons (pe_slice sl_new (pv 0) (po_some (pe_op op_add (pv 2) pe_int)) po_none) (pa_cons (pe_op op_sub (pv 1) pe_int) pa_nil)) gz2 I2
      (cont := fun vs H1 => ∃ ta', vs = [.ref ta', .int (d : Int)] ∧ L ≤ ta' ∧ H1 = upd (tHp ta (strV xs)) ta' (.tup (strV (xs.drop (k + 1)))) ∧ tHp ta (strV xs) ta' = none) ?_)) (fun v z3 hz3 => ?_) (fun _ _ h => h)
    · refine ⟨.ref ta, rfl, .int (k : Int), rfl, _, _, rfl, rfl, _, rfl, ta, strV xs, rfl, .inl (.inl tHp_at), ?_, fun ta' hp hn => ?_⟩
      · rw [show ((k : Int) + 1) = ((k + 1 : Nat) : Int) by omega, HT.sIx_nat]
        rw [show (strV xs).length = xs.length from List.length_map ..]
        omega
      · refine ⟨.int ((d : Int) + 1), rfl, _, _, rfl, rfl, rfl, ta', ?_, ?_, ?_, hn⟩
        · show [V.ref ta', V.int ((d : Int) + 1 - 1)] = _
          rw [show (d : Int) + 1 - 1 = d by omega]
        · rw [← es0]; exact hp
        · rw [show ((k : Int) + 1) = ((k + 1 : Nat) : Int) by omega, cut_from _ (by rw [List.length_map]; exact hklt), ← List.map_drop]
    · obtain ⟨gz3, vs, H1, s1, L', a', g', rfl, I3, gn3, ⟨ta', rfl, hta', rfl, hnt⟩, M⟩ := hz3
      refine wpAny_pyIter_gen M.gen ?_
      intro p'
      have I4 : Inv (gX P w K mg base f cd Ai outer L (tHp ta (strV xs)) s) ([(a, oa)] ++ pinsAt fpr z1.heap) [some (.ref ta), some (.int ((d : Int) + 1)), some (.int (k : Int)), y3] (upd (tHp ta (strV xs)) ta' (.tup (strV (xs.drop (k + 1))))) z3 :=
        I3.call' (s' := z3) (ch := []) M.os (Un.kept M.keep) (I3.hok.kept M.keep) M.bare fun b z => by simp at z
      obtain ⟨Hd4, hp4, R4, ht4⟩ := head_of G Hd hta I4 gz3 (List.mem_append_left _ List.mem_cons_self) ioa
      have rng4 : tn (k + 1) z3.heap := rng_pins RG rng1 fun o ho => (hp4 o (List.mem_append_right _ ho)).1
      obtain ⟨fp, R⟩ := ihd _ _ _ _ s1 z3 L' a' g' ta' (xs.drop (k + 1)) rfl rfl rfl rfl rfl I3 hrd upd_same (by rw [List.length_drop]; omega) M
      have eL : L' = s1.heap.objs.size := M.L_eq
      obtain ⟨lt', its', r', t'⟩ := (show ObjOk P w _ z3.heap ta' (.tup (strV (xs.drop (k + 1)))) from I4.hok ta' _ upd_same)
      have nL : ta' ≠ L := fun y => by
        have h1 := I3.free
        rw [show (gX P w K mg base f cd Ai outer L (tHp ta (strV xs)) s).env.locals = ta' from y.symm, upd_same] at h1
        cases h1
      have pin3 : ∀ o ∈ [(a, oa)] ++ pinsAt fpr z1.heap, s1.heap.get? o.1 = some o.2 ∧ upd (tHp ta (strV xs)) ta' (.tup (strV (xs.drop (k + 1)))) o.1 = none := fun o ho => by
        obtain ⟨h1, h2, _⟩ := I3.pin o (List.mem_append_right _ ho)
        exact ⟨h1, h2⟩
      have npin : ∀ o ∈ [(a, oa)] ++ pinsAt fpr z1.heap, ta' ≠ o.1 := fun o ho y => by
        have h1 := (pin3 o ho).2
        rw [← y, upd_same] at h1; cases h1
      refine inner_loop G hta (by have := hrd.dp; omega) RG hk (L' := L') (a' := a') (ta' := ta') (g' := g') ?_ haL ?_ (Nat.lt_of_le_of_ne hta' (Ne.symm nL)) ?_ (npin (a, oa) (by simp)) (fun hm => ?_) (fun b hb => ?_) ?_ (fun y hy => ?_) S'
        (fun s0 s y3 Hd rng => seg_again rfl (ih (k + 1) s0 s _ y3 (by omega) Hd rng ((List.suffix_append _ _).trans hsuf))) (combos (xs.drop (k + 1)) d) _ fp [] s0 z3 y3 Hd4 rng4 ⟨its', r', t'⟩ lt' R hsuf p'
      · rw [eL]; exact I3.lt
      · rw [eL]; exact Heap.lt_size (pin3 (a, oa) (by simp)).1
      · rw [eL]; exact I3.hok.lt upd_same
      · obtain ⟨ob, e1, _⟩ := RG.turn.obj _ _ rng1 ta' hm
        exact npin (ta', ob) (List.mem_append_right _ (mem_pinsAt hm e1)) rfl
      · obtain ⟨ob, e1, _⟩ := RG.turn.obj _ _ rng1 b hb
        rw [eL]; exact Heap.lt_size (pin3 (b, ob) (List.mem_append_right _ (mem_pinsAt hb e1))).1
      · rw [M.gi]; exact gn3
      · rw [combos_len _ _ y hy]
        exact Nat.le_of_lt (small1000 (by omega))
end
end K58
set_option Elab.async false
set_option linter.all false
set_option maxRecDepth 100000
/-! The fewest rows out. -/
namespace K58
theorem combos_map {α β : Type} (f : α → β) : ∀ (xs : List α) (d : Nat), combos (xs.map f) d = (combos xs d).map fun x => x.map f
  | xs, 0 => by rw [combos_zero, combos_zero]; rfl
  | [], d + 1 => rfl
  | x :: t, d + 1 => by
    rw [List.map_cons]
    show (combos (t.map f) d).map (f x :: ·) ++ combos (t.map f) (d + 1) = ((combos t d).map (x :: ·) ++ combos t (d + 1)).map _
    rw [combos_map f t d, combos_map f t (d + 1), List.map_append, List.map_map, List.map_map]
    rfl
/-- is the root within the bound -/
def okRoot (o : Option Nat) (n : Int) : Bool := match o with
  | none => false
  | some k => !decide (n < (k : Nat))
def leftOf (rows x : List (List Nat)) : List (List Nat) := rows.filter fun r => decide (r ∉ x)
def setsL (rows : List (List Nat)) : List (List (List Nat)) := (List.range rows.length).flatMap fun d => combos rows d
def fewestL (rows : List (List Nat)) (n : Int) : Option (List (List Nat)) := (setsL rows).find? fun x => okRoot (rootL (leftOf rows x)) n
theorem fewest_none {rows : List (List Nat)} {n : Int} (h : ∀ d < rows.length, ∀ x ∈ combos rows d, okRoot (rootL (leftOf rows x)) n = false) : fewestL rows n = none := by
  unfold fewestL setsL
  rw [List.find?_eq_none]
  intro x hx
  obtain ⟨d, hd, hx⟩ := List.mem_flatMap.mp hx
  rw [h d (List.mem_range.mp hd) x hx]; simp
theorem range_split {n d : Nat} (h : d < n) : List.range n = List.range d ++ (d :: (List.range (n - (d + 1))).map (· + (d + 1))) := by
  have e : n = d + (1 + (n - (d + 1))) := by omega
  conv => lhs; rw [e, List.range_add, List.range_add]
  simp [List.range_succ, Function.comp_def]
  intro a _; omega
theorem fewest_some {rows : List (List Nat)} {n : Int} {d : Nat} (hd : d < rows.length) (h : ∀ e < d, ∀ x ∈ combos rows e, okRoot (rootL (leftOf rows x)) n = false) {done rem : List (List (List Nat))} {x : List (List Nat)} (hc : combos rows d = done ++ x :: rem)
    (hdone : ∀ y ∈ done, okRoot (rootL (leftOf rows y)) n = false) (hx : okRoot (rootL (leftOf rows x)) n = true) : fewestL rows n = some x := by
  unfold fewestL setsL
  rw [range_split hd, List.flatMap_append, List.flatMap_cons, hc, List.find?_append, List.find?_append, List.find?_append]
  have h1 : ((List.range d).flatMap fun d => combos rows d).find? (fun x => okRoot (rootL (leftOf rows x)) n) = none := by
    rw [List.find?_eq_none]
    intro y hy
    obtain ⟨e, he, hy⟩ := List.mem_flatMap.mp hy
    rw [h e (List.mem_range.mp he) y hy]; simp
  have h2 : done.find? (fun x => okRoot (rootL (leftOf rows x)) n) = none := by
    rw [List.find?_eq_none]
    intro y hy
    rw [hdone y hy]; simp
  rw [h1, h2, List.find?_cons, hx]
  rfl
end K58
set_option Elab.async false
set_option linter.all false
set_option maxRecDepth 100000
set_option maxHeartbeats 4000000
/-! The generator sets_of: its body, and that it is ready. -/
namespace K58
open PySem PySem.Spec PyProof.Rows L2 GenW
open Sem (wp)

def forSets : Stmt := bSets.getD 1 (.Pass ⟨0, 0, 0, 0⟩)
section
variable {P : Program} {w : World} {K : PySem.W.Frag} {mg : Str → Option Value} {base : Heap} {f : Addr} {cd : Value} {A1 Ai : Around} {outer : List Env} {L a : Addr} {g : Nat} {ta : Addr} {xs : List Str} {all : List (List Str)}

/-- the for statement: by so many for size d -/
theorem for_go (G : GOk K mg base f cd Ai outer L) (hta : ta < L) (haL : L < a) (hmr : mg "range" = none) (hml : mg "len" = none) (hms : mg "sets_of" = some (.ref f)) (hkp : PySem.W.keepIn K (.ref f) = true) (mk : MakesS P w K f cd) (d : Nat)
    (hrd : ∀ d', d = d' + 1 → Room (2 * d' + 3) Ai ∧ FreshReady P w K mg base f cd d') (hsz : xs.length + d ≤ 1000)
    {c : Code} {fs : List Frame} {KK : Flow → Sem PySem.Fin} {J : Value → Sem PySem.Fin} {gd : Bool → Bool} {lv : List Value → List Value} (S : Stand A1 Ai c fs gd)
    (hend : ∀ (s0 s : Shared) (σ' : L2.St), Head P w base outer L a g ta (strV xs) s0 σ' s → Seg (model P w) A1 (RS outer L ta (strV xs)) (YS base outer L a g ta (strV xs) all) 1 s0 c (KK .next) fs s)
    {s0 s : Shared} {y2 y3 : Option V} (Hd : Head P w base outer L a g ta (strV xs) s0 [some (.ref ta), some (.int (d : Int)), y2, y3] s) (hsuf : (if d = 0 then [] else combos xs d) <:+ all) :
    Seg (model P w) A1 (RS outer L ta (strV xs)) (YS base outer L a g ta (strV xs) all) ((if d = 0 then [] else combos xs d).length + 1) s0 c ((exec forSets (gEnv f cd L)).wrap KK J gd lv) fs s := by
  have es0 : (gX P w K mg base f cd Ai outer L (tHp ta (strV xs)) s).s_0.heap.objs.size = L := cut_size (Nat.le_of_lt Hd.raw.ltL)
  obtain ⟨oa, eoa, noa, ioa, I0⟩ := head_pins (mg := mg) (f := f) (cd := cd) (Ai := Ai) (K := K) (nk := 0) (tgk := .Name "k" ⟨0, 0, 0, 0⟩) (itr := 0) (tn := fun _ _ => True) (fpr := []) G hta haL Hd
  refine seg_For ?_
  rw [S.over]
  refine wpAny_mono (grow Hd.gsz ((pi_range1 (X := gX P w K mg base f cd Ai outer L (tHp ta (strV xs)) s) (tg := .Name "k" ⟨150, 8, 150, 9⟩) (by rfl) hmr (pa_cons (pe_ifExp (pt_cmpR op_gt (pv 1) pe_int (nomark _)) (pe_callB call_len_seq (by rfl) hml PySem.boot_len (pa_cons (pv 0) pa_nil)) pe_int) pa_nil)).run [(a, oa)] s _ _
    (fun J' H' => J' = Itr 0 (if d = 0 then 0 else xs.length) ∧ H' = tHp ta (strV xs)) I0 ?_)) (fun x s1 h1 => ?_) (fun _ _ h => h)
  · refine ⟨.int (d : Int), rfl, _, _, rfl, rfl, _, rfl, ?_⟩
    cases d with
    | zero =>
      refine ite2 (fun e => absurd (of_decide_eq_true e) (by decide)) (fun _ => ?_)
      exact ⟨0, rfl, by decide, by decide, rfl, rfl⟩
    | succ d' =>
      refine ite2 (fun _ => ?_) (fun e => absurd (decide_eq_true (show (((d' + 1 : Nat) : Int)) > 0 by omega)) e)
      refine ⟨.ref ta, rfl, ta, strV xs, rfl, .inr (.inl (.inl tHp_at)), ?_⟩
      have hl : (strV xs).length = xs.length := List.length_map ..
      refine ⟨_, rfl, ?_, ?_, ?_, rfl⟩
      · rw [hl]; omega
      · rw [hl]; omega
      · rw [hl, Int.toNat_natCast]; rfl
  · obtain ⟨gz1, h1⟩ := h1
    refine wpAny_mono (grow gz1 h1) (fun v z hz => ?_) (fun _ _ h => h)
    obtain ⟨gz, it, fpr, tn, Jt, H', rfl, I1, T, tn0, fok, rfl, rfl⟩ := hz
    intro p
    obtain ⟨Hd1, hp1, _, _⟩ := head_of G Hd hta I1 gz List.mem_cons_self ioa
    have RG : Rng P w K (.Name "k" ⟨150, 8, 150, 9⟩) (if d = 0 then 0 else xs.length) L a fpr it tn := ⟨T, fun b hb => by
      obtain ⟨f1, f2, f3, f4, f5, f6⟩ := fok b hb
      have hLb : L ≤ b := by
        rcases f4 with z | z
        · cases (show b ∈ ([] : List Addr) from z)
        · rw [es0] at z; exact z
      exact ⟨Nat.lt_of_le_of_ne hLb (Ne.symm f2), Ne.symm (f6 (a, oa) (by simp))⟩⟩
    cases d with
    | zero => exact end_loop G hta haL RG S hend Hd1 tn0 p
    | succ d' =>
      obtain ⟨hr1, hr2⟩ := hrd d' rfl
      exact outer_loop G hta haL hr1 hms hkp mk hr2 (by omega) RG S hend p xs.length 0 s0 z y2 y3 (by omega) Hd1 tn0 hsuf

/-- the whole body, from a waking on -/
theorem body_go (G : GOk K mg base f cd Ai outer L) (hAi : Ai = A1.deeper (gEnv f cd L)) (hta : ta < L) (haL : L < a) (hmr : mg "range" = none) (hml : mg "len" = none) (hms : mg "sets_of" = some (.ref f)) (hkp : PySem.W.keepIn K (.ref f) = true) (mk : MakesS P w K f cd) (d : Nat)
    (hrd : ∀ d', d = d' + 1 → Room (2 * d' + 3) Ai ∧ FreshReady P w K mg base f cd d') (hsz : xs.length + d ≤ 1000)
    {s : Shared} (Hd : Head P w base outer L a g ta (strV xs) s [some (.ref ta), some (.int (d : Int)), none, none] s) :
    Seg (model P w) A1 (RS outer L ta (strV xs)) (YS base outer L a g ta (strV xs) (combos xs d)) ((combos xs d).length + 1) s (.func bSets (gEnv f cd L)) ((model P w).den (.func bSets (gEnv f cd L))) [] s := by
  have S : Stand A1 Ai (.func bSets (gEnv f cd L)) [] id := ⟨by rw [hAi]; exact over_func, rfl, rfl, rfl⟩
  refine seg_func ?_
  refine seg_execs_cons ?_
  have fin : ∀ (s0 s : Shared) (σ' : L2.St), Head P w base outer L a g ta (strV xs) s0 σ' s → Seg (model P w) A1 (RS outer L ta (strV xs)) (YS base outer L a g ta (strV xs) (combos xs d)) 1 s0 (.func bSets (gEnv f cd L)) (.pure (.done (.ret .none))) [] s :=
    fun s0 s σ' Hd => seg_end (.ok (.ret .none)) ⟨.inl rfl, rfl, Hd.wok, Hd.raw.bare⟩
  have rest : ∀ (s0 s : Shared) (y2 y3 : Option V), Head P w base outer L a g ta (strV xs) s0 [some (.ref ta), some (.int (d : Int)), y2, y3] s →
      Seg (model P w) A1 (RS outer L ta (strV xs)) (YS base outer L a g ta (strV xs) (combos xs d)) ((if d = 0 then [] else combos xs d).length + 1) s0 (.func bSets (gEnv f cd L)) ((execs [forSets] (gEnv f cd L)).wrap (fun f => .pure (.done (.ret (match f with | .ret v => v | _ => .none)))) (fun e => (leaving (gEnv f cd L) e).wrap (fun _ => .raise e) .raise id id) id id) [] s := fun s0 s y2 y3 Hd => by
    refine seg_execs_cons (for_go G hta haL hmr hml hms hkp mk d hrd hsz S (fun s0 s σ' Hd => fin s0 s σ' Hd) Hd ?_)
    by_cases e : d = 0
    · rw [if_pos e]; exact List.nil_suffix
    · rw [if_neg e]; exact List.suffix_refl _
  obtain ⟨oa, eoa, noa, ioa, I0⟩ := head_pins (mg := mg) (f := f) (cd := cd) (Ai := Ai) (K := K) (nk := 0) (tgk := .Name "k" ⟨0, 0, 0, 0⟩) (itr := 0) (tn := fun _ _ => True) (fpr := []) G hta haL Hd
  refine seg_If ?_
  rw [S.over]
  refine wpAny_mono (grow Hd.gsz ((pt_cmpR (X := gX P w K mg base f cd Ai outer L (tHp ta (strV xs)) s) op_eq (pv 1) pe_int (nomark _)).run [(a, oa)] s _ _ (fun b H' => b = decide (d = 0) ∧ H' = tHp ta (strV xs)) I0 ?_)) (fun b z hz => ?_) (fun _ _ h => h)
  · refine ⟨.int (d : Int), rfl, rfl, _, rfl, ?_, rfl⟩
    by_cases e : d = 0
    · subst e; rfl
    · rw [decide_eq_false e]
      exact decide_eq_false fun z => e (by have := V.int.inj z; omega)
  · obtain ⟨gz, H', I1, rfl, rfl⟩ := hz
    obtain ⟨Hd1, hp1, R1, ht1⟩ := head_of G Hd hta I1 gz List.mem_cons_self ioa
    by_cases e : d = 0
    · rw [decide_eq_true e, if_pos rfl]
      subst e
      have ec : combos xs 0 = [[]] := combos_zero xs
      refine seg_execs_cons ?_
      have cnt : (combos xs 0).length + 1 = 1 + 1 := by rw [ec]; rfl
      rw [cnt]
      refine seg_Expr_Yield S.split rfl S.guard ?_
      rw [S.over]
      refine wpAny_mono (grow gz ((pe_tupN (X := gX P w K mg base f cd Ai outer L (tHp ta (strV xs)) s) pa_nil).run [(a, oa)] z _ _ (fun v H3 => ∃ q2, v = V.ref q2 ∧ L ≤ q2 ∧ tHp ta (strV xs) q2 = none ∧ H3 = upd (tHp ta (strV xs)) q2 (.tup [])) I1 ?_)) (fun v z2 hz2 => ?_) (fun _ _ h => h.elim)
      · refine ⟨Nat.zero_le _, fun q2 h1 h2 => ⟨q2, rfl, ?_, h2, rfl⟩⟩
        rw [show (gX P w K mg base f cd Ai outer L (tHp ta (strV xs)) s).s_0.heap.objs.size = L from cut_size (Nat.le_of_lt Hd.raw.ltL)] at h1
        exact h1
      · obtain ⟨gz2, v', H3, I2, rv, q2, rfl, hq2, hn2, rfl⟩ := hz2
        obtain rfl : v = Value.ref q2 := rv
        intro kap hkap
        obtain ⟨Hd2, hp2, R2, ht2⟩ := head_of G Hd hta I2 gz2 List.mem_cons_self ioa
        obtain ⟨m, ens, hloc⟩ := R2.loc
        obtain ⟨oL, eL, nL, iL⟩ := ns_obj ens
        obtain ⟨l2, its2, r2, t2⟩ := (show ObjOk P w _ z2.heap q2 (.tup []) from I2.hok q2 _ upd_same)
        have lxs : (strV xs).length ≤ sizeLine := (show ObjOk P w _ z2.heap ta (.tup (strV xs)) from I2.hok ta _ ht2).1
        obtain ⟨og, nm, qn, eg, cg1, cg2, cg3⟩ := ioa s.heap eoa
        have eog : og = oa := Option.some.inj (eg.symm.trans eoa)
        subst eog
        refine ⟨[], q2, [], [(L, oL), (a, og)], [], rfl, by rw [ec]; exact List.suffix_refl _, rfl, hq2, fun o ho => ?_, ⟨Nat.zero_le _, its2, r2, t2⟩, Hd2.wok, I2.bare, ⟨fun o ho => ?_, fun o ho => by simp at ho, ⟨og, nm, qn, by simp, cg1, cg2, cg3⟩⟩, fun s' A => hkap .none s' ?_⟩
        · rcases List.mem_cons.mp ho with y | ho
          · rw [y]; intro y2; have h1 := I2.free; rw [show (gX P w K mg base f cd Ai outer L (tHp ta (strV xs)) s).env.locals = q2 from y2, upd_same] at h1; cases h1
          · rw [List.mem_singleton.mp ho]
            intro y
            have h1 := (hp2 (a, og) List.mem_cons_self).2
            rw [show a = q2 from y, upd_same] at h1; cases h1
        · rcases List.mem_cons.mp ho with y | ho
          · rw [y]; exact ⟨Nat.le_refl _, nL, eL⟩
          · rw [List.mem_singleton.mp ho]; exact ⟨Nat.le_of_lt haL, noa, (hp2 (a, og) List.mem_cons_self).1⟩
        · have Hd' : Head P w base outer L a g ta (strV xs) s' [some (.ref ta), some (.int ((0 : Nat) : Int)), none, none] s' := {
            raw := {
              bare := A.bare
              bas := fun b o e => ⟨A.bas b o e, (Hd2.raw.bas b o e).2⟩
              funs := A.funs
              frf := Hd2.raw.frf
              loc := ⟨m, iL s'.heap (A.obj (L, oL) List.mem_cons_self), hloc⟩
              free := Hd2.raw.free
              hok := fun b o e => by
                by_cases y : b = ta
                · rw [y, tHp_at] at e
                  cases e
                  rw [y]
                  exact ⟨lxs, A.tup⟩
                · rw [tHp_ne y] at e; cases e
              len := rfl }
            gen := ioa s'.heap (A.obj (a, og) (by simp))
            gsz := A.sz
            wok := Woke.refl A.tup }
          exact rest s' s' none none Hd'
    · rw [decide_eq_false e, if_neg Bool.false_ne_true]
      have h := rest s z none none Hd1
      rw [if_neg e] at h
      exact h
end
end K58
set_option Elab.async false
set_option linter.all false
set_option maxRecDepth 100000
set_option maxHeartbeats 4000000
/-! The generator sets_of: ready; a for loop over it. -/
namespace K58
open PySem PySem.Spec PyProof.Rows L2 GenW
open Sem (wp)

theorem fresh_ready {P : Program} {w : World} {K : PySem.W.Frag} {mg : Str → Option Value} {base : Heap} {f : Addr} {cd : Value} (hmr : mg "range" = none) (hml : mg "len" = none) (hms : mg "sets_of" = some (.ref f)) (hkp : PySem.W.keepIn K (.ref f) = true) (mk : MakesS P w K f cd) :
    ∀ d, FreshReady P w K mg base f cd d := by
  intro d
  induction d with
  | zero =>
    intro X pins σ H1 s1 s2 L a g ta xs hP hw hb hK hm I1 hr ht hsz M
    exact step hmr hml hms hkp mk 0 (fun d' e => by omega) X pins σ H1 s1 s2 L a g ta xs hP hw hb hK hm I1 hr ht hsz M
  | succ d ih =>
    intro X pins σ H1 s1 s2 L a g ta xs hP hw hb hK hm I1 hr ht hsz M
    exact step hmr hml hms hkp mk (d + 1) (fun d' e => by rw [show d' = d by omega]; exact ih) X pins σ H1 s1 s2 L a g ta xs hP hw hb hK hm I1 hr ht hsz M
where
  step {P : Program} {w : World} {K : PySem.W.Frag} {mg : Str → Option Value} {base : Heap} {f : Addr} {cd : Value} (hmr : mg "range" = none) (hml : mg "len" = none) (hms : mg "sets_of" = some (.ref f)) (hkp : PySem.W.keepIn K (.ref f) = true) (mk : MakesS P w K f cd) (d : Nat)
      (hd : ∀ d', d = d' + 1 → FreshReady P w K mg base f cd d') : FreshReady P w K mg base f cd d := by
    intro X pins σ H1 s1 s2 L a g ta xs hP hw hb hK hm I1 hr ht hsz M
    subst hP hw hb hK hm
    have eL := M.L_eq
    have hta : ta < L := by rw [eL]; exact I1.hok.lt ht
    obtain ⟨oa, eoa, noa, ioa⟩ := gen_pin M.gen
    obtain ⟨m, ens, hloc⟩ := M.loc
    obtain ⟨oL, eL', nL, iL⟩ := ns_obj ens
    obtain ⟨og, nm, qn, eg, cg1, cg2, cg3⟩ := ioa s2.heap eoa
    have eog : og = oa := Option.some.inj (eg.symm.trans eoa)
    subst eog
    have lxs : (strV xs).length ≤ sizeLine := (show ObjOk X.prog X.w _ s1.heap ta (.tup (strV xs)) from I1.hok ta _ ht).1
    have nta : H1 ta ≠ none := by rw [ht]; simp
    have G : GOk X.K X.mg X.base f cd (X.A.in1.deeper (gEnv f cd L)) X.stack L := ⟨I1.ok.mod, hr.hd, Around.frames_deeper (A := X.A.in1) I1.ok.frames, by rw [eL]; exact Nat.le_trans I1.ok.bsz I1.sz, fun b hb => by
      obtain ⟨_, o, ho, _⟩ := I1.env0.funs.mem hb
      rw [eL]; exact Heap.lt_size ho⟩
    refine ⟨[(L, oL), (a, og)], M.fresh, ⟨fun o ho => ?_, fun o ho => by simp at ho, ⟨og, nm, qn, by simp, cg1, cg2, cg3⟩⟩, List.suffix_refl _, fun s' A => ⟨rfl, ?_⟩⟩
    · rcases List.mem_cons.mp ho with y | ho
      · rw [y]; exact ⟨Nat.le_refl _, nL, eL'⟩
      · rw [List.mem_singleton.mp ho]; exact ⟨Nat.le_of_lt M.lt, noa, eoa⟩
    · refine body_go G rfl hta M.lt hmr hml hms hkp mk d (fun d' e => ⟨?_, hd d' e⟩) hsz {
        raw := {
          bare := A.bare
          bas := fun b o e => ⟨A.bas b o e, tHp_ne fun y => nta (by rw [← y]; exact (I1.bs b o e).2)⟩
          funs := A.funs
          frf := fun b hb => tHp_ne fun y => not_stack I1 nta (y ▸ hb)
          loc := ⟨m, iL s'.heap (A.obj (L, oL) List.mem_cons_self), hloc⟩
          free := tHp_ne (Nat.ne_of_gt hta)
          hok := fun b o e => by
            by_cases y : b = ta
            · rw [y, tHp_at] at e
              cases e
              rw [y]
              exact ⟨lxs, A.tup⟩
            · rw [tHp_ne y] at e; cases e
          len := rfl }
        gen := ioa s'.heap (A.obj (a, og) (by simp))
        gsz := A.sz
        wok := Woke.refl A.tup }
      subst e
      have h1 : Room ((2 * d' + 3) + 1 + 1) X.A := hr.mono (by omega)
      exact (h1.in1).deeper _

theorem drop_to {X : Cx} {pins : List (Addr × Obj)} {σ : L2.St} {H H' : Hp} {s : Shared} (I : Inv X pins σ H' s) (e : Ext H H') (hp : PlainHp H) (hu : Un X.fs X.ex X.H_0 H X.s_0.heap s.heap) : Inv X pins σ H s where
  ok := I.ok
  os := I.os
  bare := I.bare
  base := hu
  loc := I.loc
  cell := I.cell
  free := e.none I.free
  freeC := fun x c h => e.none (I.freeC x c h)
  pin := fun p hm => by
    obtain ⟨h1, h2, h3⟩ := I.pin p hm
    exact ⟨h1, e.none h2, h3⟩
  hok := fun b o h => objOk_plain (hp b o h) (I.hok b o (e.same b o h))
  len := I.len
theorem un_drop {fs ex : List Addr} {H0 H H' : Hp} {h0 h1 h2 : Heap} (a : Un fs ex H0 H h0 h1) (b : Un fs ex H0 H' h0 h2) (e : Ext H H') : Un fs ex H0 H h0 h2 where
  keep := b.keep
  slot := b.slot
  free := fun c o q n hx => e.none (b.free c o q n hx)
  there := b.there
  tups := a.tups
  frzs := a.frzs
  tbls := a.tbls
end K58
set_option Elab.async false
set_option linter.all false
set_option maxRecDepth 100000
set_option maxHeartbeats 4000000
/-! A for loop over sets_of, in a def. -/
namespace K58
open PySem PySem.Spec PyProof.Rows L2 GenW
open Sem (wp)

/-- an exception's wish does not ask for the table of generators -/
def GenFree (E : Value → Shared → Prop) : Prop := ∀ (D : Nat → Option GenState) e (z : Shared) b, Twin D z.gens b → E e z → E e { z with gens := b }
theorem stayE {α : Type} {M : Model} {A : Around} {t : Sem α} {Q : α → Shared → Prop} {E : Value → Shared → Prop} {s : Shared} (hE : GenFree E) (hb : AllBare s.gens) (h : wpAny M A t Q E { s with gens := s.gens.map deadOf }) (hQ : ∀ a z, Q a z → AllBare z.gens) :
    wpAny M A t (fun a z => ∃ g1, Q a { z with gens := g1 } ∧ AllBare z.gens ∧ ∀ (i : Nat) (gz : GenState), s.gens[i]? = some gz → isSusp gz = true → z.gens[i]? = some gz) E s := by
  have T : Twin (sleepers s.gens) ({ s with gens := s.gens.map deadOf } : Shared).gens s.gens := twin_of s.gens
  have hh := wpAny_twin (s := { s with gens := s.gens.map deadOf }) T h
  refine wpAny_mono (show wpAny M A t _ _ s from hh) (fun a z hz => ?_) fun e z hz => ?_
  · obtain ⟨z1, q, T1, ez⟩ := hz
    refine ⟨z1.gens, ?_, T1.bare (hQ a z1 q) (sleepers_bare hb), fun i gz e hs => T1.kept (i := i) ?_⟩
    · have e1 : ({ z with gens := z1.gens } : Shared) = z1 := by
        rw [ez]
      rw [e1]; exact q
    · unfold sleepers
      rw [e]
      simp [Option.filter, hs]
  · obtain ⟨z1, q, T1, ez⟩ := hz
    rw [ez]
    exact hE _ e z1 _ T1 q
theorem sp_bare {X : Cx} {pins : List (Addr × Obj)} {D : Ends} {f : Flow} {s : Shared} (h : SP X pins D f s) : AllBare s.gens := by
  cases f with
  | next => obtain ⟨_, _, I, _⟩ := h; exact I.bare
  | brk => obtain ⟨_, _, I, _⟩ := h; exact I.bare
  | cont => obtain ⟨_, _, I, _⟩ := h; exact I.bare
  | ret v => obtain ⟨_, _, _, I, _⟩ := h; exact I.bare
/-- an exception that is not to be: CX0 -/
theorem genFree0 {P : Program} {w : World} {K : PySem.W.Frag} {mg : Str → Option Value} {base : Heap} {N : List Str} {qual : Str} {scope : Scope} {f : Addr} {cd : Value} {A : Around} {outer : List Env} {s : Shared} {H : Hp} {E : XK} :
    GenFree (cxOf CX0 P w K mg base N qual scope f cd A outer s H E).xe := fun D e z b T h => by
  have h2 := wpAny_twin (s := z) T (show wpAny (model P w) _ (leaving _ e) (fun _ s'' => CX0 outer H s E e s'') (fun e' s'' => CX0 outer H s E e' s'') z from h)
  exact wpAny_mono h2 (fun _ _ ⟨_, q, _⟩ => q.elim) fun _ _ ⟨_, q, _⟩ => q.elim

/-- for x in sets_of(tuple, size): W tells of what is left; nothing but new plain things from turn to turn -/
def tForS (m i : Nat) (t : TA) (tb : TS) : TS := fun D σ H => t σ H fun vs H1 => vs.length = 2 ∧ ∃ (ta : Addr) (xs : List Str) (d : Nat), vs = [.ref ta, .int (d : Int)] ∧ H1 ta = some (.tup (strV xs)) ∧ d ≤ m ∧ xs.length + d ≤ 1000 ∧ PlainHp H1 ∧
  ∃ W : List (List Str) → L2.St → Prop, W (combos xs d) σ ∧ (∀ σ', W [] σ' → D.nx σ' H1) ∧ ∀ x rem σ' q, W (x :: rem) σ' → H1 q = none →
    tb { D with nx := fun σ2 H2 => W rem σ2 ∧ Ext H1 H2, ct := fun σ2 H2 => W rem σ2 ∧ Ext H1 H2, bk := fun _ _ => False } (σ'.set i (some (.ref q))) (upd H1 q (.tup (strV x)))

section
variable {X : Cx} {x : Str} {tpos p q pos : Pos} {e : Expr} {es : List Expr} {t : TA} {tb : TS} {body : List Stmt} {f : Addr} {cd : Value} {m i : Nat}
theorem ps_forS (hp : PassesOwn (model X.prog X.w) X.A X.env X.xe) (hE : GenFree X.xe) (hmr : X.mg "range" = none) (hml : X.mg "len" = none) (hms : X.mg "sets_of" = some (.ref f)) (hkp : PySem.W.keepIn X.K (.ref f) = true) (mk : MakesS X.prog X.w X.K f cd) (hr : Room (2 * m + 3) X.A)
    (hgl : Gl X "sets_of") (ha : PA X (e :: es) t) (hg : PG X (.Name x tpos) (gName i)) (hb : PSs X body tb)
    (he : starEach (e :: es) X.env = (false, eval e X.env) :: starEach es X.env := by rfl) (hpl : (backTo q (starEach es X.env)).any (·.1) = false := by rfl) : PS X (.For (.Name x tpos) (.Call (.Name "sets_of" p) (e :: es) [] q) body [] pos) (tForS m i t tb) := by
  refine ⟨fun pins s σ H D I h => ?_⟩
  refine wpAny_For (thn (call_S (n := 0) (k := 2) (cont := fun vs H1 => ∃ (ta : Addr) (xs : List Str) (d : Nat), vs = [.ref ta, .int (d : Int)] ∧ H1 ta = some (.tup (strV xs)) ∧ d ≤ m ∧ xs.length + d ≤ 1000 ∧ PlainHp H1 ∧
    ∃ W : List (List Str) → L2.St → Prop, W (combos xs d) σ ∧ (∀ σ', W [] σ' → D.nx σ' H1) ∧ ∀ x rem σ' q, W (x :: rem) σ' → H1 q = none →
      tb { D with nx := fun σ2 H2 => W rem σ2 ∧ Ext H1 H2, ct := fun σ2 H2 => W rem σ2 ∧ Ext H1 H2, bk := fun _ _ => False } (σ'.set i (some (.ref q))) (upd H1 q (.tup (strV x))))
    hr.hd mk (hr.mono (by omega)) hgl hms hkp ha (Nat.zero_le _) I h (by decide) he hpl) fun v z hz => ?_)
  · obtain ⟨vs, H1, s1, L, a, g, rfl, I1, _, ⟨ta, xs, d, rfl, ht, hdm, hsz, hpn, W, w0, wend, wturn⟩, M⟩ := hz
    refine wpAny_pyIter_gen M.gen ?_
    have eL : L = s1.heap.objs.size := M.L_eq
    have I2 : Inv X pins σ H1 z := I1.call' (s' := z) (ch := []) M.os (Un.kept M.keep) (I1.hok.kept M.keep) M.bare fun b y => by simp at y
    obtain ⟨fp0, R0⟩ := fresh_ready hmr hml hms hkp mk d X pins σ H1 s1 z L a g ta xs rfl rfl rfl rfl rfl I1 (hr.mono (by omega)) ht hsz M
    have O : Older X pins H1 L := ⟨by rw [eL]; exact I1.lt, fun y c hc => by
      obtain ⟨v, q⟩ := I1.cell y c hc
      rw [eL]; exact q.lt, fun o ho => by rw [eL]; exact Heap.lt_size (I1.pin o ho).1, fun b hb2 => by
      cases e1 : H1 b with
      | none => exact absurd e1 hb2
      | some u => rw [eL]; exact I1.hok.lt e1⟩
    refine codeAny_forLoop_any (fun n s' => ∃ rem gs fp gp σ', rem.length = n ∧ W rem σ' ∧ Inv X pins σ' H1 s' ∧ Ready X.prog X.w X.base X.A X.stack L a g ta (strV xs) (combos xs d) rem gs fp gp s') ?_ (combos xs d).length ⟨combos xs d, _, fp0, [], σ, rfl, w0, I2, R0⟩
    rintro n s3 ⟨rem, gs, fp, gp, σ3, hn, w3, I3, R3⟩
    refine thn (consumer_next I3 hr.hd (by have := hr.dp; omega) O ht R3) fun r s4 h4 => ?_
    cases rem with
    | nil =>
      obtain ⟨rfl, I4⟩ := h4
      exact wpAny_execs_nil ⟨σ3, H1, I4, wend σ3 w3⟩
    | cons x1 t1 =>
      obtain ⟨q1, gz, fp', gp', rfl, hq, hs, hnq, I4, R4⟩ := h4
      refine (show wpAny (model X.prog X.w) X.A (letOwnedTupleGo (.Name x tpos) (.ref a) (.ref q1)) _ _ s4 from wpAny_pure ?_)
      have hn1 : H1 q1 = none := by
        cases e1 : H1 q1 with
        | none => rfl
        | some u => exact absurd (O.hp q1 (by rw [e1]; simp)) (Nat.not_lt_of_le hq)
      have I5 := pin_more I4 (more := fp') (fun o ho => by
        obtain ⟨h1, h2, h3⟩ := R4.foot.obj o ho
        refine ⟨h3, ?_, Nat.ne_of_gt (Nat.lt_of_lt_of_le O.loc h1), fun y => ?_, h2⟩
        · rw [upd_ne (hnq o ho)]
          cases e1 : H1 o.1 with
          | none => rfl
          | some u => exact absurd (O.hp o.1 (by rw [e1]; simp)) (Nat.not_lt_of_le h1)
        · obtain ⟨_, ob, hob, _⟩ := I1.ok.funs.mem y
          have h4 : o.1 < s1.heap.objs.size := Nat.lt_of_lt_of_le (Heap.lt_size hob) I1.sz
          rw [← eL] at h4
          exact absurd h4 (Nat.not_lt_of_le h1))
      refine wpAny_passesOwn hp (thn (stayE hE I5.bare (hg.run _ _ σ3 _ (.ref q1) (.ref q1) _ (inv_gens I5 (bare_dead I5.bare)) rfl (wturn x1 t1 σ3 q1 w3 hn1)) (fun _ _ ⟨_, _, J, _⟩ => J.bare)) fun _ s6 h6 => ?_)
      obtain ⟨g1, ⟨σ6, H6, J6, q6⟩, hb6, keep6⟩ := h6
      have I6 := inv_gens2 J6 hb6
      refine wpAny_passesOwn hp (thn (stayE hE I6.bare (hb.run _ _ σ6 H6 _ (inv_gens I6 (bare_dead I6.bare)) q6) (fun _ _ h => sp_bare h)) fun fl s7 h7 => ?_)
      obtain ⟨g2, q7, hb7, keep7⟩ := h7
      have sl : ∀ (i : Nat) (y : GenState), s4.gens[i]? = some y → isSusp y = true → s7.gens[i]? = some y := fun i y e1 e2 => keep7 i y (keep6 i y e1 e2) e2
      have again : ∀ {σ7 : L2.St} {H7 : Hp}, Inv X (pins ++ fp') σ7 H7 { s7 with gens := g2 } → W t1 σ7 → Ext H1 H7 → ∃ m, m < n ∧ ∃ rem gs fp gp σ', rem.length = m ∧ W rem σ' ∧ Inv X pins σ' H1 s7 ∧ Ready X.prog X.w X.base X.A X.stack L a g ta (strV xs) (combos xs d) rem gs fp gp s7 := fun {σ7 H7} J7 w7 e7 => by
        have I7 : Inv X (pins ++ fp') σ7 H7 s7 := inv_gens2 J7 hb7
        have I8 := drop_to I7 e7 hpn (un_drop I2.base I7.base e7)
        have eos : s7.os = s4.os := I7.os.trans I4.os.symm
        refine ⟨t1.length, by rw [← hn]; exact Nat.lt_succ_self _, t1, gz, fp', gp', σ7, rfl, w7, I8.unpinned, sl g gz R4.at_ hs, ⟨fun o ho => ?_, fun o ho => ?_, R4.foot.self⟩, R4.suf, fun s' A => R4.goes s' ⟨A.os.trans eos, A.bare, A.sz, A.obj, A.gen, A.bas, A.funs, A.tup⟩⟩
        · obtain ⟨h1, h2, _⟩ := R4.foot.obj o ho
          exact ⟨h1, h2, (I8.pin o (List.mem_append_right _ (List.mem_append_right _ ho))).1⟩
        · obtain ⟨h1, h2, h3⟩ := R4.foot.gen o ho
          exact ⟨h1, h2, sl o.1 o.2 h3 h1⟩
      cases fl with
      | next => obtain ⟨σ7, H7, J7, w7, e7⟩ := q7; exact again J7 w7 e7
      | cont => obtain ⟨σ7, H7, J7, w7, e7⟩ := q7; exact again J7 w7 e7
      | brk => obtain ⟨_, _, _, q⟩ := q7; exact q.elim
      | ret v => obtain ⟨x7, σ7, H7, J7, r7, q8⟩ := q7; exact ⟨x7, σ7, H7, (inv_gens2 J7 hb7).unpinned, r7, q8⟩
end
end K58
set_option Elab.async false
set_option linter.all false
set_option maxRecDepth 100000
set_option maxHeartbeats 1000000
/-! The fewest rows out: the program's. -/
namespace K58
open PySem PySem.Spec PyProof.Rows L2
/-- a table that was made in the run -/
def TabH (H : Hp) (v : V) (many : Nat) (rows : List (List Nat)) : Prop := ∃ t rt, v = .ref t ∧ H t = some (.tup [.int many, .ref rt]) ∧ H rt = some (.tup (rows.map tx))
theorem TabH.ext {H H' : Hp} (e : Ext H H') {v : V} {many : Nat} {rows : List (List Nat)} (h : TabH H v many rows) : TabH H' v many rows := by
  obtain ⟨t, rt, h1, h2, h3⟩ := h
  exact ⟨t, rt, h1, e.same _ _ h2, e.same _ _ h3⟩
theorem TabH.tab {K : PySem.W.Frag} {H : Hp} {v : V} {many : Nat} {rows : List (List Nat)} (h : TabH H v many rows) : TabV K H v many rows := by
  obtain ⟨t, rt, h1, h2, h3⟩ := h
  exact ⟨t, rt, h1, .inl (.inl h2), .inl (.inl h3)⟩
theorem Rows.left {m : Nat} {rows : List (List Nat)} (R : Rows m rows) {x : List (List Nat)} (h : x.length < rows.length) : Rows m (leftOf rows x) where
  mny := R.mny
  ne := fun e => by
    have : ∀ r ∈ rows, r ∈ x := fun r hr => Classical.byContradiction fun hn => by
      have : r ∈ leftOf rows x := List.mem_filter.mpr ⟨hr, decide_eq_true hn⟩
      rw [e] at this; cases this
    have := nd_len rows x R.asc.nodup this
    omega
  len := Nat.le_trans (List.length_filter_le _ _) R.len
  row := fun r hr => R.row r (List.mem_filter.mp hr).1
  asc := List.Pairwise.filter _ R.asc
  few := by
    refine Nat.le_trans (asc_len (lotL_asc _) fun c hc => ?_) R.few
    obtain ⟨r, hr, h⟩ := List.mem_flatten.mp ((lotL_mem c _).mp hc)
    exact (lotL_mem c _).mpr (List.mem_flatten.mpr ⟨r, (List.mem_filter.mp hr).1, h⟩)
section
variable {P : Program} {w : World} {K : PySem.W.Frag} {mg : Str → Option Value} {base : Heap}
theorem sc_P_fewest_out : FnScope ["table", "most", "many", "rows", "size", "some", "left", "one"] ["table", "most"] (defScope sP_fewest_out) := ⟨rfl, rfl, rfl, by decide +kernel, rfl, by decide +kernel, by decide +kernel⟩
def sp_fewest_out : Sp := fun vs H Q _ => ∃ (v : V) (m : Nat) (rows : List (List Nat)) (most : Int), vs = [v, .int most] ∧ TabH H v m rows ∧ Rows m rows ∧ PlainHp H ∧ 0 ≤ most ∧ (∀ H', Ext H H' → fewestL rows most = none → Q .non H') ∧ ∀ H' q x, Ext H H' → fewestL rows most = some x → H' q = some (.tup (x.map tx)) → Q (.ref q) H'
theorem hw_fewest_out (T : Top K mg) : HasW P w K mg base "fewest_out" 21 "table" "most" sp_fewest_out := by
  have nd := sc_P_fewest_out.nd
  have h_want_table := h_want_table (P := P) (w := w) (base := base) T
  have h_want := h_want (P := P) (w := w) (base := base) T
  have h_is_number := h_is_number (P := P) (w := w) (base := base) T
  have h_is_greater := h_is_greater (P := P) (w := w) (base := base) T
  have h_root_by := h_root_by (P := P) (w := w) (base := base) T
  refine has_ofW T dP_fewest_out (by simp [fn, fn0, fn1, fn2, fn3]) rfl (by decide +kernel) rfl sc_P_fewest_out (fun vs H Q E ⟨v, m, rows, most, e, _⟩ => by rw [e]; rfl) (fun _ _ _ _ _ _ us hl => match us, hl with | [_, _], _ => rfl) (fun _ _ _ _ _ _ _ _ => rfl) (fun cdv A outer s H vs Q E hr h => ?_)
  obtain ⟨v, m, rows, most, rfl, ⟨t, rt, rfl, ht, hrt⟩, R, hpl, h0, qn, qs⟩ := h
  obtain ⟨fds, Fs⟩ := T.fn dP_sets_of (by simp [fn, fn0, fn1, fn2, fn3])
  obtain ⟨cds, mk⟩ := made_S (P := P) (w := w) Fs
  -- cells: ['some']; slots {'table': 0, 'most': 1, 'many': 2, 'rows': 3, 'size': 4, 'some': 5, 'left': 6, 'one': 7}
  refine ⟨_, (pss_cons (ps_expr (pe_hasD h_want_table (hr.mono (by omega)) (by rfl) (pa_cons (pv 0) pa_nil)))
      (pss_cons (ps_expr (pe_hasD h_want (hr.mono (by omega)) (by rfl) (pa_cons (pe_has h_is_number (hr.mono (by omega)) (by rfl) (pa_cons (pv 1) pa_nil)) (pa_cons pe_str pa_nil))))
      (pss_cons (ps_asg (pv 0) (pg_tup (by rfl) (pgs_cons (pg_name (i := 2) nd rfl (Or.inl rfl)) (pgs_cons (pg_name (i := 3) nd rfl (Or.inl rfl)) pgs_nil))))
      (pss_cons (ps_for PassesOwn.never rfl (pi_range1 (by rfl) (T.free _ (by decide +kernel)) (pa_cons (pe_callB call_len_seq (by rfl) (T.free _ (by decide +kernel)) (by decide +kernel) (pa_cons (pv 3) pa_nil)) pa_nil)) (pg_name (i := 4) nd rfl (Or.inl rfl))
        (pss_one (ps_forS (m := 6) PassesOwn.never (fun _ _ _ _ _ h => h.elim) (T.free _ (by decide +kernel)) (T.free _ (by decide +kernel)) (T.glo _ (by decide +kernel)) Fs.kp mk (hr.mono (by omega)) (by rfl) (pa_cons (pv 3) (pa_cons (pv 4) pa_nil)) (pg_name (i := 5) nd rfl (Or.inr rfl))
          (pss_cons (ps_set (i := 6) nd rfl (Or.inl rfl) (pe_callTy call_tuple_of (by rfl) (T.free _ (by decide +kernel)) (by decide +kernel) (pa_cons (pe_lc (own := [("one", 7)]) (g := (gName 7)) (tt := _) rfl nd (pi_tup (pv 3)) (blkOk_by (by kernel_rfl)) (fun _ _ _ _ _ => (pg_name (i := 7) nd rfl (Or.inl rfl))) (fun _ _ _ _ _ => (pts_one (pt_cmpR (op_notIn_seqK (K := K) rfl) (pv 7) (pv 5) rfl))) (fun _ _ _ _ _ => (pv 7))) pa_nil)))
          (pss_one (ps_if (pt_not (pt_val (pe_has h_is_greater (hr.mono (by omega)) (by rfl) (pa_cons (pe_has h_root_by (hr.mono (by omega)) (by rfl) (pa_cons (pe_tup (pa_cons (pv 2) (pa_cons (pv 6) pa_nil))) pa_nil)) (pa_cons (pv 1) pa_nil))))) (pss_one (ps_ret (pv 5))) pss_nil))))))
      (pss_one (ps_ret pe_non)))))), ?_⟩
  have tv0 : TabV K H (.ref t) m rows := TabH.tab ⟨t, rt, rfl, ht, hrt⟩
  refine ⟨.ref t, rfl, .ref t, m, rows, _, rfl, tv0, R, fun H1 e1 => ?_⟩
  refine ⟨.int most, rfl, most, rfl, h0, _, _, rfl, ?_⟩
  refine ⟨.ref t, rfl, t, _, rfl, .inl (.inl (e1.same _ _ ht)), rfl, .int m, _, rfl, .ref rt, _, rfl, rfl, ?_⟩
  refine ⟨.ref rt, rfl, rt, _, rfl, .inr (.inl (.inl (e1.same _ _ hrt))), ?_⟩
  have hlen := R.len
  have elen : (rows.map tx).length = rows.length := by simp
  refine ⟨((rows.map tx).length : Nat), rfl, by have := elen; omega, by have := elen; omega, ?_⟩
  refine for_it (walk_range (lo := 0) (n := (((rows.map tx).length : Nat) : Int).toNat)) (fun i σ H' => Ext H H' ∧ (∃ y4 y5 y6 y7 : Option V, σ = [some (.ref t), some (.int most), some (.int m), some (.ref rt), y4, y5, y6, y7]) ∧ ∀ d < i, ∀ x ∈ combos rows d, okRoot (rootL (leftOf rows x)) most = false) ⟨e1, ⟨_, _, _, _, rfl⟩, fun d h => absurd h (Nat.not_lt_zero _)⟩ (fun _ _ _ _ _ => trivial) (fun i x σ H3 H2 hi p2 y => ?_) fun σ H2 p2 => ?_
  · obtain ⟨e2, ⟨y4, y5, y6, y7, rfl⟩, hno⟩ := p2
    obtain ⟨rfl, rfl⟩ := y
    have hi : i < rows.length := by simpa using hi
    have hrt2 := e2.same _ _ hrt
    refine ⟨.ref rt, rfl, .int ((0 : Int) + (i : Nat)), rfl, rfl, rt, rows.map S, i, by rw [Int.zero_add], by rw [map_tx]; exact hrt2, by omega, by simp; omega, e2.plain hpl, ?_⟩
    refine ⟨fun rem σ' => (∃ y5 y6 y7 : Option V, σ' = [some (.ref t), some (.int most), some (.int m), some (.ref rt), some (.int i), y5, y6, y7]) ∧ ∃ (done rem' : List (List (List Nat))), combos rows i = done ++ rem' ∧ rem = rem'.map (fun x => x.map S) ∧ ∀ x ∈ done, okRoot (rootL (leftOf rows x)) most = false, ⟨⟨y5, y6, y7, by simp⟩, [], combos rows i, rfl, combos_map S rows i, fun x h => by cases h⟩, fun σ' ⟨⟨z5, z6, z7, hσ⟩, done, rem', hc, hr', hd⟩ => ?_, fun x rem σ' q2 ⟨⟨z5, z6, z7, hσ⟩, done, rem', hc, hr', hd⟩ nq => ?_⟩
    · subst hσ
      have hr' : rem' = [] := by
        cases rem' with
        | nil => rfl
        | cons _ _ => cases hr'
      rw [hr', List.append_nil] at hc
      refine ⟨e2, ⟨_, _, _, _, rfl⟩, fun d hd' x hx => ?_⟩
      rcases Nat.lt_succ_iff_lt_or_eq.mp hd' with h | h
      · exact hno d h x hx
      · subst h; rw [hc] at hx; exact hd x hx
    · subst hσ
      cases rem' with
      | nil => cases hr'
      | cons x' rem'' =>
        rw [List.map_cons] at hr'
        obtain ⟨hx1, hx2⟩ := List.cons.inj hr'
        subst hx1
        rw [map_tx]
        have hxl : x'.length = i := combos_len rows i x' (by rw [hc]; simp)
        have e3 : Ext H2 (upd H2 q2 (.tup (x'.map tx))) := (Ext.refl H2).then nq rfl
        have hq3 : (upd H2 q2 (.tup (x'.map tx))) q2 = some (.tup (x'.map tx)) := upd_same
        generalize (upd H2 q2 (.tup (x'.map tx))) = H3 at e3 hq3 ⊢
        have hrt3 := e3.same _ _ hrt2
        refine ⟨.ref rt, rfl, rt, rfl, ⟨_, .inl (.inl hrt3)⟩, fun D hD => lcTu rows tx (fun r => if decide (r ∉ x') = true then some r else none) (fun r y _ => y = tx r) (.inl (.inl hrt3)) hD (fun _ _ _ _ _ h => h) (line_small (by omega)) (fun r hr0 H4 e4 R1 R0 k1 k0 => ⟨rfl, ?_⟩) fun H4 ys e4 hDy f4 => ?_⟩
        · refine ⟨tx r, rfl, .ref q2, rfl, q2, _, rfl, .inr (.inl (.inl (e4.same _ _ hq3))), rfl, flat_tx _, _, rfl, ?_⟩
          rw [inV_tx]
          by_cases hm : r ∈ x'
          · rw [decide_eq_true hm]
            exact iteF (k0 _ (by simp [hm]) (Ext.refl _))
          · rw [decide_eq_false hm]
            exact iteT ⟨tx r, rfl, k1 r _ _ (by simp [hm]) (Ext.refl _) rfl⟩
        have ey := f4.eq (vv := tx)
        rw [fm_id (fun r => decide (r ∉ x'))] at ey
        have hleft : rows.filter (fun r => decide (r ∉ x')) = leftOf rows x' := rfl
        rw [hleft] at ey
        rw [ey] at hDy
        refine ⟨D, _, rfl, .inl ⟨.inl (.inl hDy), fun lt nlt => ?_⟩⟩
        have e5 : Ext H2 (upd H4 lt (.tup ((leftOf rows x').map tx))) := (e3.trans e4).then nlt rfl
        have hq5 : (upd H4 lt (.tup ((leftOf rows x').map tx))) q2 = some (.tup (x'.map tx)) := (e4.then nlt rfl).same _ _ hq3
        have hlt5 : (upd H4 lt (.tup ((leftOf rows x').map tx))) lt = some (.tup ((leftOf rows x').map tx)) := upd_same
        generalize (upd H4 lt (.tup ((leftOf rows x').map tx))) = H5 at e5 hq5 hlt5 ⊢
        refine ⟨.int m, rfl, .ref lt, rfl, by show 2 ≤ sizeLine; decide, fun tt ntt => ?_⟩
        have e6 : Ext H5 (upd H5 tt (.tup [.int m, .ref lt])) := (Ext.refl H5).then ntt rfl
        refine ⟨.ref tt, m, leftOf rows x', rfl, TabH.tab ⟨tt, lt, rfl, upd_same, e6.same _ _ hlt5⟩, R.left (by omega), fun H7 e7 => ?_⟩
        have e57 := e6.trans e7
        have no : okRoot (rootL (leftOf rows x')) most = false → ∀ y ∈ done ++ [x'], okRoot (rootL (leftOf rows y)) most = false := fun hok y hy => by
          rcases List.mem_append.mp hy with h | h
          · exact hd y h
          · rw [List.mem_singleton] at h; rw [h]; exact hok
        cases hr3 : rootL (leftOf rows x') with
        | none =>
          have hok : okRoot (rootL (leftOf rows x')) most = false := by rw [hr3]; rfl
          exact ⟨.int most, rfl, none, most, rfl, true, rfl, iteF ⟨⟨⟨_, _, _, rfl⟩, done ++ [x'], rem'', by rw [hc]; simp, hx2, no hok⟩, e5.trans e57⟩⟩
        | some k =>
          refine ⟨.int most, rfl, some k, most, rfl, decide (most < (k : Nat)), rfl, ?_⟩
          by_cases hk : most < (k : Nat)
          · have hok : okRoot (rootL (leftOf rows x')) most = false := by rw [hr3]; simp [okRoot, hk]
            rw [decide_eq_true hk]
            exact iteF ⟨⟨⟨_, _, _, rfl⟩, done ++ [x'], rem'', by rw [hc]; simp, hx2, no hok⟩, e5.trans e57⟩
          · have hok : okRoot (rootL (leftOf rows x')) most = true := by rw [hr3]; simp only [okRoot, decide_eq_false hk]; rfl
            rw [decide_eq_false hk]
            exact iteT ⟨.ref q2, rfl, qs _ _ x' (e2.trans (e5.trans e57)) (fewest_some hi hno hc hd hok) (e57.same _ _ hq5)⟩
  · obtain ⟨e2, ⟨y4, y5, y6, y7, rfl⟩, hno⟩ := p2
    refine qn H2 e2 (fewest_none fun d hd x hx => hno d (by simpa using hd) x hx)
theorem h_fewest_out (T : Top K mg) : Has P w K mg base "fewest_out" 21 ["table", "most"] sp_fewest_out := (hw_fewest_out T).has
end
end K58
set_option Elab.async false
set_option linter.all false
set_option maxRecDepth 100000
set_option maxHeartbeats 1000000
/-! The law's own reckoning: labels, steps. -/
namespace K58
open PySem PySem.Spec PyProof.Rows L2
section
variable {X : Cx} {K : PySem.W.Frag}
theorem op_eqDK (hK : X.K = K) (hu : X.A.units + 64 < cLine) : OpR X (compareOp .Eq) (rEqD K) := by subst hK; exact op_eqD hu
end
/-- the join of a sorted set of signs -/
theorem join_sort {ys : List Str} {l : List Nat} (hs : ys.Pairwise ltS) (hm : ∀ x, x ∈ ys ↔ x ∈ (l.map fun c => [c]).map S) (hl : l.length < 64) : (ys.map (·.length)).sum + ys.length * ("" : Str).length ≤ 16777216 ∧ Txt.join "" ys = S (lotL l) := by
  have ey := ys_lot hs hm
  have h3 : ("" : Str).length = 0 := rfl
  rw [ey, sum_len, join_S, flat_sg, h3]
  have := lotL_len l
  exact ⟨by omega, rfl⟩
section
variable {P : Program} {w : World} {K : PySem.W.Frag} {mg : Str → Option Value} {base : Heap}
theorem sc_L_labels : FnScope ["_law_rows"] ["_law_rows"] (defScope sL_labels) := ⟨rfl, rfl, rfl, by decide +kernel, rfl, by decide +kernel, by decide +kernel⟩
def sp__law_labels (K : PySem.W.Frag) : Sp := fun vs H Q _ => ∃ (r : Addr) (rows : List (List Nat)), vs = [.ref r] ∧ (SqL K H r (rows.map tx) ∨ SqT K H r (rows.map tx)) ∧ rows.flatten.length < 64 ∧ ∀ H', Ext H H' → Q (tx (labs rows)) H'
theorem h__law_labels (T : Top K mg) : Has P w K mg base "_law_labels" 1 ["_law_rows"] (sp__law_labels K) := by
  have nd := sc_L_labels.nd
  refine has_of T dL_labels (by simp [fn, fn0, fn1, fn2, fn3]) rfl (by decide +kernel) rfl sc_L_labels (fun vs H Q E ⟨r, rows, e, _⟩ => by rw [e]; rfl) (fun _ _ _ _ _ _ us hl => match us, hl with | [_], _ => rfl) (fun cdv A outer s H vs Q E hr h => ?_)
  obtain ⟨r, rows, rfl, hr0, hl, q⟩ := h
  -- cells: []; slots {'_law_rows': 0}
  refine ⟨_, (pss_one (ps_ret (pe_join pe_str (pe_sortSet rfl (by rfl) (T.free _ (by decide +kernel)) (by rfl) (T.free _ (by decide +kernel)) (pe_join pe_str (pv 0)))))), ?_⟩
  refine ⟨⟨_, rfl⟩, ⟨_, rfl⟩, .ref r, rfl, "", r, rows.map S, rfl, rfl, by rw [map_txV]; exact hr0, ?_, (rows.flatten.map fun c => [c]).map S, by rw [List.length_map, List.length_map]; exact hl, by rw [join_S]; exact srcTx rows.flatten, fun ys p H1 hs hm e1 np hp => ?_⟩
  · rw [sum_len]
    have h3 : ("" : Str).length = 0 := rfl
    rw [h3]; omega
  · obtain ⟨j1, j2⟩ := join_sort hs hm hl
    refine ⟨"", p, ys, rfl, rfl, .inl (.inl (.inl hp)), j1, ?_⟩
    rw [j2]
    exact q H1 e1
theorem sc_L_step : FnScope ["_law_ends_here", "_law_now", "_law_bag", "_law_told", "_law_sign"] ["_law_ends_here", "_law_now", "_law_bag"] (defScope sL_step) := ⟨rfl, rfl, rfl, by decide +kernel, rfl, by decide +kernel, by decide +kernel⟩
def sp__law_step : Sp := fun vs H Q _ => ∃ (d : Addr) (a : Nat → List Nat) (L f bag : List Nat), vs = [.ref d, tx f, tx bag] ∧ ArrV H d a L ∧ Arr a L ∧ L.length ≤ 4 ∧ f.length ≤ 4 ∧ Sub f L ∧ bag.length ≤ 4 ∧ ∀ H', Ext H H' → Q (tx (stepL a bag f)) H'
theorem h__law_step (T : Top K mg) : Has P w K mg base "_law_step" 1 ["_law_ends_here", "_law_now", "_law_bag"] sp__law_step := by
  have nd := sc_L_step.nd
  refine has_of T dL_step (by simp [fn, fn0, fn1, fn2, fn3]) rfl (by decide +kernel) rfl sc_L_step (fun vs H Q E ⟨d, a, L, f, bag, e, _⟩ => by rw [e]; rfl) (fun _ _ _ _ _ _ us hl => match us, hl with | [_, _, _], _ => rfl) (fun cdv A outer s H vs Q E hr h => ?_)
  obtain ⟨d, a, L, f, bag, rfl, hd0, A0, hL, hf, hs, hb, q⟩ := h
  -- cells: ['_law_ends_here', '_law_told']; slots {'_law_ends_here': 0, '_law_now': 1, '_law_bag': 2, '_law_told': 3, '_law_sign': 4}
  refine ⟨_, (pss_cons (ps_set (i := 3) nd rfl (Or.inr rfl) (pe_join pe_str (pe_lc (own := [("_law_sign", 4)]) (g := (gName 4)) (tt := tYes) rfl nd (pi_str (pv 1)) (blkOk_by (by kernel_rfl)) (fun _ _ _ _ _ => (pg_name (i := 4) nd rfl (Or.inl rfl))) (fun _ _ _ _ _ => pts_nil) (fun _ _ _ _ _ => (pe_dget (hu_of hr) (pv 0) (pv 4) (fun _ _ => rfl))))))
      (pss_one (ps_ret (pe_join pe_str (pe_lc (own := [("_law_sign", 4)]) (g := (gName 4)) (tt := _) rfl nd (pi_str (pv 2)) (blkOk_by (by kernel_rfl)) (fun _ _ _ _ _ => (pg_name (i := 4) nd rfl (Or.inl rfl))) (fun _ _ _ _ _ => (pts_one (pt_cmpR op_in_sign (pv 4) (pv 3) rfl))) (fun _ _ _ _ _ => (pv 4))))))), ?_⟩
  have hfl : (f.map a).flatten.length ≤ 16 := by
    have := flat_len (n := 4) (f.map a) fun l hl => by
      obtain ⟨s, _, rfl⟩ := List.mem_map.mp hl
      exact Nat.le_trans (asc_len (A0.asc s) (A0.sub s)) hL
    rw [List.length_map] at this
    omega
  refine ⟨⟨_, rfl⟩, tx f, rfl, S f, rfl, fun D hD => lcSt (l := f) (fun c => some (a c)) (fun l y _ => y = tx l) hD (fun _ _ _ _ _ h => h) (line_small (by omega)) (fun c hc H1 e1 R1 R0 k1 k0 => ⟨rfl, tyes' ?_⟩) fun H1 ys e1 hDy f2 => ?_⟩
  · exact ⟨.ref d, rfl, tx [c], rfl, d, tx (a c), rfl, ArrV.get (e1.rd hd0) (hs c hc), k1 _ _ _ rfl (Ext.refl _) rfl⟩
  have ey := f2.eq (vv := tx)
  rw [List.filterMap_eq_map' (f := a), ← map_txV] at ey
  have h3 : ("" : Str).length = 0 := rfl
  refine ⟨"", D, (f.map a).map S, rfl, rfl, .inl (.inl (.inl (by rw [hDy, ey]))), by rw [sum_len, h3]; omega, ?_⟩
  rw [join_S]
  refine ⟨⟨_, rfl⟩, tx bag, rfl, S bag, rfl, fun D2 hD2 => lcSt (l := bag) (fun c => if decide (c ∈ f.flatMap a) = true then some c else none) (fun c y _ => y = tx [c]) hD2 (fun _ _ _ _ _ h => h) (line_small (by omega)) (fun c hc H2 e2 R1 R0 k1 k0 => ⟨rfl, ?_⟩) fun H2 ys2 e2 hDy2 f22 => ?_⟩
  · refine ⟨tx [c], rfl, tx (f.map a).flatten, rfl, c, _, rfl, rfl, _, rfl, ite2 (fun hc => ?_) fun hc => k0 _ (if_neg hc) (Ext.refl _)⟩
    exact ⟨tx [c], rfl, k1 c _ _ (if_pos hc) (Ext.refl _) rfl⟩
  have ey2 := f22.eq (vv := fun c => tx [c])
  rw [fm_id (fun c => decide (c ∈ f.flatMap a)), ← map_sgV] at ey2
  refine ⟨"", D2, _, rfl, rfl, .inl (.inl (.inl (by rw [hDy2, ey2]))), ?_, ?_⟩
  · rw [sum_len, flat_sg, h3]
    have := List.length_filter_le (fun c => decide (c ∈ f.flatMap a)) bag
    omega
  · rw [join_S, flat_sg]
    exact q H2 (e1.trans e2)
theorem stepL_one {a : Nat → List Nat} {L : List Nat} (A : Arr a L) (s : Nat) : stepL a L [s] = a s :=
  asc_eq (A.lot.filter _) (A.asc s) fun x => by
    rw [stepL_mem]
    exact ⟨fun ⟨_, y, hy, h⟩ => by rw [List.mem_singleton] at hy; rw [hy] at h; exact h, fun h => ⟨A.sub s x h, s, by simp, h⟩⟩
theorem grow_step {a : Nat → List Nat} {L : List Nat} (A : Arr a L) (f : List Nat) : lotL (f ++ stepL a L f) = growL a f :=
  lotL_congr fun x => by
    rw [List.mem_append, List.mem_append, stepL_mem, List.mem_flatMap]
    exact ⟨fun h => h.imp id fun ⟨_, h⟩ => h, fun h => h.imp id fun ⟨y, hy, h⟩ => ⟨A.sub y x h, y, hy, h⟩⟩
theorem sc_L_far : FnScope ["_law_ends_here", "_law_sign", "_law_bag", "_law_found", "_law_lap"] ["_law_ends_here", "_law_sign", "_law_bag"] (defScope sL_far) := ⟨rfl, rfl, rfl, by decide +kernel, rfl, by decide +kernel, by decide +kernel⟩
def sp__law_far : Sp := fun vs H Q _ => ∃ (d : Addr) (a : Nat → List Nat) (L : List Nat) (c : Nat), vs = [.ref d, tx [c], tx L] ∧ ArrV H d a L ∧ Arr a L ∧ L.length ≤ 4 ∧ c ∈ L ∧ ∀ H', Ext H H' → Q (tx (far a L c)) H'
theorem h__law_far (T : Top K mg) : Has P w K mg base "_law_far" 2 ["_law_ends_here", "_law_sign", "_law_bag"] sp__law_far := by
  have nd := sc_L_far.nd
  have h__law_step := h__law_step (P := P) (w := w) (base := base) T
  refine has_of T dL_far (by simp [fn, fn0, fn1, fn2, fn3]) rfl (by decide +kernel) rfl sc_L_far (fun vs H Q E ⟨d, a, L, c, e, _⟩ => by rw [e]; rfl) (fun _ _ _ _ _ _ us hl => match us, hl with | [_, _, _], _ => rfl) (fun cdv A outer s H vs Q E hr h => ?_)
  obtain ⟨d, a, L, c, rfl, hd0, A0, hL, hc, q⟩ := h
  -- cells: []; slots {'_law_ends_here': 0, '_law_sign': 1, '_law_bag': 2, '_law_found': 3, '_law_lap': 4}
  refine ⟨_, (pss_cons (ps_set (i := 3) nd rfl (Or.inl rfl) (pe_has h__law_step (hr.mono (by omega)) (by rfl) (pa_cons (pv 0) (pa_cons (pv 1) (pa_cons (pv 2) pa_nil)))))
      (pss_cons (ps_for PassesOwn.never rfl (pi_range1 (by rfl) (T.free _ (by decide +kernel)) (pa_cons (pe_callB call_len_str (by rfl) (T.free _ (by decide +kernel)) (by decide +kernel) (pa_cons (pv 2) pa_nil)) pa_nil)) (pg_name (i := 4) nd rfl (Or.inl rfl))
        (pss_one (ps_set (i := 3) nd rfl (Or.inl rfl) (pe_join pe_str (pe_sortSet rfl (by rfl) (T.free _ (by decide +kernel)) (by rfl) (T.free _ (by decide +kernel)) (pe_op op_add_str (pv 3) (pe_has h__law_step (hr.mono (by omega)) (by rfl) (pa_cons (pv 0) (pa_cons (pv 3) (pa_cons (pv 2) pa_nil))))))))))
      (pss_one (ps_ret (pv 3))))), ?_⟩
  refine ⟨.ref d, rfl, tx [c], rfl, tx L, rfl, d, a, L, [c], L, rfl, hd0, A0, hL, by simp, fun x hx => by rw [List.mem_singleton] at hx; rw [hx]; exact hc, hL, fun H1 e1 => ?_⟩
  rw [stepL_one A0]
  have inL : ∀ k, Asc (iter (growL a) k (a c)) ∧ Sub (iter (growL a) k (a c)) L := fun k => iter_inv (fun f => Asc f ∧ Sub f L) (fun _ h => growL_in A0 h) k _ ⟨A0.asc c, A0.sub c⟩
  have len4 : ∀ k, (iter (growL a) k (a c)).length ≤ 4 := fun k => Nat.le_trans (asc_len (inL k).1 (inL k).2) hL
  refine ⟨tx L, rfl, S L, rfl, line_smallE (by rw [S_len]; omega), ((S L).length : Nat), rfl, by rw [S_len]; omega, by rw [S_len]; omega, ?_⟩
  refine for_it (walk_range (lo := 0) (n := (((S L).length : Nat) : Int).toNat)) (fun i σ H' => Ext H H' ∧ ∃ y4, σ = [some (.ref d), some (tx [c]), some (tx L), some (tx (iter (growL a) i (a c))), y4]) ⟨e1, _, rfl⟩ (fun _ _ _ _ _ => trivial) (fun i x σ H3 H2 hi p2 y => ?_) fun σ H2 p2 => ?_
  · obtain ⟨e2, y4, rfl⟩ := p2
    obtain ⟨rfl, rfl⟩ := y
    refine ⟨⟨_, rfl⟩, _, rfl, .ref d, rfl, _, rfl, tx L, rfl, d, a, L, _, L, rfl, e2.rd hd0, A0, hL, len4 i, (inL i).2, hL, fun H4 e4 => ⟨S (iter (growL a) i (a c)), S (stepL a L (iter (growL a) i (a c))), rfl, rfl, ?_, ((iter (growL a) i (a c) ++ stepL a L (iter (growL a) i (a c))).map fun c => [c]).map S, ?_, ?_, fun ys p H5 hs hm e5 np hp => ?_⟩⟩
    · have h1 := len4 i
      have h2 : (stepL a L (iter (growL a) i (a c))).length ≤ L.length := List.length_filter_le _ _
      rw [S_len, S_len]; exact line_smallE (by omega)
    · have h1 := len4 i
      have h2 : (stepL a L (iter (growL a) i (a c))).length ≤ L.length := List.length_filter_le _ _
      rw [List.length_map, List.length_map, List.length_append]; omega
    · rw [S_add]; exact srcTx _
    · have h1 := len4 i
      have h2 : (stepL a L (iter (growL a) i (a c))).length ≤ L.length := List.length_filter_le _ _
      obtain ⟨j1, j2⟩ := join_sort hs hm (by rw [List.length_append]; omega)
      refine ⟨"", p, ys, rfl, rfl, .inl (.inl (.inl hp)), j1, ?_⟩
      rw [j2, grow_step A0]
      exact ⟨e2.trans (e4.trans e5), _, rfl⟩
  · obtain ⟨e2, y4, rfl⟩ := p2
    refine ⟨_, rfl, ?_⟩
    exact q H2 e2
end
end K58
set_option Elab.async false
set_option linter.all false
set_option maxRecDepth 100000
set_option maxHeartbeats 1000000
/-! The law's own reckoning: rows within a bag, what lasts, where labels lead. -/
namespace K58
open PySem PySem.Spec PyProof.Rows L2
/-- texts as data -/
def dtx (l : List Nat) : PyData := .str (S l)
theorem dp_txs {K : PySem.W.Frag} {H : Hp} : ∀ ls : List (List Nat), DpAll K H (ls.map tx) (ls.map dtx)
  | [] => .nil
  | a :: r => .cons (.str _) (dp_txs r)
def Cps (l : List Nat) : Prop := ∀ c ∈ l, c < 0x110000
theorem strOk_S {l : List Nat} (h : Cps l) : PyData.strOk (S l) = true := by
  unfold PyData.strOk S
  simp only [List.all_toArray, List.all_eq_true, decide_eq_true_eq]
  exact h
theorem canLay_txs : ∀ ls : List (List Nat), (∀ l ∈ ls, Cps l) → PyData.canLayAll0 (ls.map dtx) = true
  | [], _ => rfl
  | a :: r, h => by
    show (PyData.canLay0 (dtx a) && PyData.canLayAll0 (r.map dtx)) = true
    rw [canLay_txs r fun l hl => h l (List.mem_cons_of_mem _ hl), Bool.and_true]
    exact strOk_S (h a List.mem_cons_self)
theorem depth_txs : ∀ ls : List (List Nat), PyData.depthAll (ls.map dtx) = 0
  | [] => rfl
  | a :: r => by
    show max (PyData.depth (dtx a)) (PyData.depthAll (r.map dtx)) = 0
    rw [depth_txs r]; rfl
theorem shaped_txs {ls : List (List Nat)} (h : ∀ l ∈ ls, Cps l) : SeqAt.shaped (.list (ls.map dtx)) = true := by
  unfold SeqAt.shaped
  have h1 : PyData.canLay0 (.list (ls.map dtx)) = PyData.canLayAll0 (ls.map dtx) := rfl
  have h2 : PyData.depth (.list (ls.map dtx)) = PyData.depthAll (ls.map dtx) + 1 := rfl
  rw [h1, canLay_txs ls h, h2, depth_txs]; rfl
theorem low_cps {l : List Nat} (h : Low l) : Cps l := fun c hc => by
  have : ∀ c ∈ letters, c < 0x110000 := by decide
  exact this c (h c hc)
theorem cps_one {c : Nat} {l : List Nat} (h : Cps l) (hc : c ∈ l) : Cps [c] := fun x hx => by rw [List.mem_singleton] at hx; rw [hx]; exact h c hc
theorem eqv_nil (ds : List PyData) : PyData.eqv (.list ds) (.list []) = ds.isEmpty := by
  cases ds <;> rfl
section
variable {P : Program} {w : World} {K : PySem.W.Frag} {mg : Str → Option Value} {base : Heap}
theorem sc_L_inner : FnScope ["_law_rows", "_law_bag", "_law_row", "_law_sign"] ["_law_rows", "_law_bag"] (defScope sL_inner) := ⟨rfl, rfl, rfl, by decide +kernel, rfl, by decide +kernel, by decide +kernel⟩
def sp__law_inner (K : PySem.W.Frag) : Sp := fun vs H Q _ => ∃ (r : Addr) (m : Nat) (rows : List (List Nat)) (bag : List Nat), vs = [.ref r, tx bag] ∧ SqL K H r (rows.map tx) ∧ Rows m rows ∧ ∀ H' q, Ext H H' → H q = none → H' q = some (.lst ((inn rows bag).map tx)) → Q (.ref q) H'
theorem h__law_inner (T : Top K mg) : Has P w K mg base "_law_inner" 1 ["_law_rows", "_law_bag"] (sp__law_inner K) := by
  have nd := sc_L_inner.nd
  refine has_of T dL_inner (by simp [fn, fn0, fn1, fn2, fn3]) rfl (by decide +kernel) rfl sc_L_inner (fun vs H Q E ⟨r, m, rows, bag, e, _⟩ => by rw [e]; rfl) (fun _ _ _ _ _ _ us hl => match us, hl with | [_, _], _ => rfl) (fun cdv A outer s H vs Q E hr h => ?_)
  obtain ⟨r, m, rows, bag, rfl, hr0, R, q⟩ := h
  -- cells: ['_law_bag']; slots {'_law_rows': 0, '_law_bag': 1, '_law_row': 2, '_law_sign': 3}
  refine ⟨_, (pss_one (ps_ret (pe_lc (own := [("_law_row", 2)]) (g := (gName 2)) (tt := _) rfl nd (pi_list (pv 0)) (blkOk_by (by kernel_rfl)) (fun _ _ _ _ _ => (pg_name (i := 2) nd rfl (Or.inl rfl))) (fun _ _ _ _ _ => (pts_one (pt_cmpR (op_eqDK (K := K) rfl (by have := hr.units; exact this)) (pe_lc (own := [("_law_sign", 3)]) (g := (gName 3)) (tt := _) rfl nd (pi_str (pv 2)) (blkOk_by (by kernel_rfl)) (fun _ _ _ _ _ => (pg_name (i := 3) nd rfl (Or.inl rfl))) (fun _ _ _ _ _ => (pts_one (pt_cmpR op_notIn_sign (pv 3) (pv 1) rfl))) (fun _ _ _ _ _ => (pv 3))) (pe_lst pa_nil) (nomark _)))) (fun _ _ _ _ _ => (pv 2))))), ?_⟩
  have hlen := R.len
  refine ⟨.ref r, rfl, r, rfl, ⟨_, hr0⟩, fun D hD => lcLi rows tx (fun x => if within x bag = true then some x else none) (fun x y _ => y = tx x) hr0 hD (fun _ _ _ _ _ h => h) (line_small (by omega)) (fun x hx H1 e1 R1 R0 k1 k0 => ⟨rfl, ?_⟩) fun H1 ys e1 hDy f2 => ?_⟩
  · have hxl := R.rowlen hx
    refine ⟨tx x, rfl, S x, rfl, fun D2 hD2 => lcSt (l := x) (fun c => if decide (c ∉ bag) = true then some c else none) (fun c y _ => y = tx [c]) hD2 (fun _ _ _ _ _ h => h) (line_small (by omega)) (fun c hc H2 e2 R1' R0' k1' k0' => ⟨rfl, ?_⟩) fun H2 ys2 e2 hDy2 f22 => ?_⟩
    · refine ⟨tx [c], rfl, tx bag, rfl, c, S bag, rfl, rfl, _, rfl, ?_⟩
      have e0 : (!decide (c ∈ (S bag).cps.toList)) = decide (c ∉ bag) := by rw [S_cps]; simp
      rw [e0]
      exact ite2 (fun hc => ⟨tx [c], rfl, k1' c _ _ (if_pos hc) (Ext.refl _) rfl⟩) fun hc => k0' _ (if_neg hc) (Ext.refl _)
    · have ey2 := f22.eq (vv := fun c => tx [c])
      rw [fm_id (fun c => decide (c ∉ bag))] at ey2
      have ey3 : ys2 = ((x.filter (fun c => decide (c ∉ bag))).map fun c => [c]).map tx := by rw [ey2, List.map_map]; rfl
      refine ⟨Nat.zero_le _, fun D3 hD3 => ?_⟩
      have e3 : Ext H2 (upd H2 D3 (.lst [])) := (Ext.refl H2).then hD3 rfl
      refine ⟨.list (((x.filter (fun c => decide (c ∉ bag))).map fun c => [c]).map dtx), .list [], .lst (.inl (.inl (e3.same _ _ hDy2))) (by rw [ey3]; exact dp_txs _), .lst (.inl (.inl upd_same)) .nil, shaped_txs (fun l hl => ?_), rfl, _, rfl, ?_⟩
      · obtain ⟨c, hc, rfl⟩ := List.mem_map.mp hl
        exact cps_one (low_cps (R.row x hx).2.1) (List.mem_filter.mp hc).1
      · have e0 : PyData.eqv (.list (((x.filter (fun c => decide (c ∉ bag))).map fun c => [c]).map dtx)) (.list []) = within x bag := by
          rw [eqv_nil]
          cases hf : x.filter (fun c => decide (c ∉ bag)) with
          | nil =>
            have : within x bag = true := within_iff.mpr fun c hc => Classical.byContradiction fun hn => by
              have : c ∈ x.filter (fun c => decide (c ∉ bag)) := List.mem_filter.mpr ⟨hc, decide_eq_true hn⟩
              rw [hf] at this; cases this
            rw [this]; rfl
          | cons c r =>
            have hc : c ∈ x.filter (fun c => decide (c ∉ bag)) := by rw [hf]; exact List.mem_cons_self
            obtain ⟨h1, h2⟩ := List.mem_filter.mp hc
            have : within x bag = false := by
              cases e : within x bag with
              | false => rfl
              | true => exact absurd (within_iff.mp e c h1) (of_decide_eq_true h2)
            rw [this]; rfl
        rw [e0]
        exact ite2 (fun hc => ⟨tx x, rfl, k1 x _ _ (if_pos hc) (e2.trans e3) rfl⟩) fun hc => k0 _ (if_neg hc) (e2.trans e3)
  · have ey := f2.eq (vv := tx)
    rw [fm_id (fun x => within x bag)] at ey
    exact q H1 D e1 hD (by rw [hDy, ey]; rfl)
theorem next_filter {rows : List (List Nat)} (ne : NE rows) {bag : List Nat} (hb : Asc bag) : bag.filter (fun c => decide (c ∈ (inn rows bag).map hd)) = nextL rows bag := by
  refine asc_eq (hb.filter _) (nextL_asc _ _) fun x => ?_
  rw [List.mem_filter, nextL, lotL_mem]
  exact ⟨fun ⟨_, h⟩ => of_decide_eq_true h, fun h => ⟨nextL_sub ne x ((lotL_mem x _).mpr h), decide_eq_true h⟩⟩
theorem in_sg (c : Nat) (l : List Nat) : decide ([c] ∈ l.map fun c => [c]) = decide (c ∈ l) := by
  by_cases h : c ∈ l
  · rw [decide_eq_true h]; exact decide_eq_true (List.mem_map.mpr ⟨c, h, rfl⟩)
  · rw [decide_eq_false h]
    refine decide_eq_false fun z => h ?_
    obtain ⟨d, hd, e⟩ := List.mem_map.mp z
    injection e with e
    rw [← e]; exact hd
theorem sc_L_lasts : FnScope ["_law_rows", "_law_bag", "_law_lap", "_law_tops", "_law_row", "_law_sign"] ["_law_rows", "_law_bag"] (defScope sL_lasts) := ⟨rfl, rfl, rfl, by decide +kernel, rfl, by decide +kernel, by decide +kernel⟩
def sp__law_lasts (K : PySem.W.Frag) : Sp := fun vs H Q _ => ∃ (r : Addr) (m : Nat) (rows : List (List Nat)) (bag : List Nat), vs = [.ref r, tx bag] ∧ SqL K H r (rows.map tx) ∧ Rows m rows ∧ LotOf rows bag ∧ ∀ H', Ext H H' → Q (tx (lastL rows bag)) H'
theorem h__law_lasts (T : Top K mg) : Has P w K mg base "_law_lasts" 2 ["_law_rows", "_law_bag"] (sp__law_lasts K) := by
  have nd := sc_L_lasts.nd
  have h__law_inner := h__law_inner (P := P) (w := w) (base := base) T
  refine has_of T dL_lasts (by simp [fn, fn0, fn1, fn2, fn3]) rfl (by decide +kernel) rfl sc_L_lasts (fun vs H Q E ⟨r, m, rows, bag, e, _⟩ => by rw [e]; rfl) (fun _ _ _ _ _ _ us hl => match us, hl with | [_, _], _ => rfl) (fun cdv A outer s H vs Q E hr h => ?_)
  obtain ⟨r, m, rows, bag, rfl, hr0, R, L0, q⟩ := h
  -- cells: ['_law_tops']; slots {'_law_rows': 0, '_law_bag': 1, '_law_lap': 2, '_law_tops': 3, '_law_row': 4, '_law_sign': 5}
  refine ⟨_, (pss_cons (ps_for PassesOwn.never rfl (pi_range1 (by rfl) (T.free _ (by decide +kernel)) (pa_cons (pe_callB call_len_str (by rfl) (T.free _ (by decide +kernel)) (by decide +kernel) (pa_cons (pv 1) pa_nil)) pa_nil)) (pg_name (i := 2) nd rfl (Or.inl rfl))
        (pss_cons (ps_set (i := 3) nd rfl (Or.inr rfl) (pe_lc (own := [("_law_row", 4)]) (g := (gName 4)) (tt := tYes) rfl nd (pi_list (pe_has h__law_inner (hr.mono (by omega)) (by rfl) (pa_cons (pv 0) (pa_cons (pv 1) pa_nil)))) (blkOk_by (by kernel_rfl)) (fun _ _ _ _ _ => (pg_name (i := 4) nd rfl (Or.inl rfl))) (fun _ _ _ _ _ => pts_nil) (fun _ _ _ _ _ => (pe_ix ix_str (pv 4) pe_int (fun _ _ => rfl)))))
        (pss_one (ps_set (i := 1) nd rfl (Or.inl rfl) (pe_join pe_str (pe_lc (own := [("_law_sign", 5)]) (g := (gName 5)) (tt := _) rfl nd (pi_str (pv 1)) (blkOk_by (by kernel_rfl)) (fun _ _ _ _ _ => (pg_name (i := 5) nd rfl (Or.inl rfl))) (fun _ _ _ _ _ => (pts_one (pt_cmpR (op_in_seqK (K := K) rfl) (pv 5) (pv 3) rfl))) (fun _ _ _ _ _ => (pv 5))))))))
      (pss_one (ps_ret (pv 1)))), ?_⟩
  have hL := L0.len R
  refine ⟨tx bag, rfl, S bag, rfl, line_smallE (by rw [S_len]; omega), ((S bag).length : Nat), rfl, by rw [S_len]; omega, by rw [S_len]; omega, ?_⟩
  have ascI : ∀ i, Asc (iter (nextL rows) i bag) := fun i => iter_inv Asc (fun x _ => nextL_asc _ _) i bag L0.asc
  have subI : ∀ i, Sub (iter (nextL rows) i bag) bag := fun i => iter_inv (fun l => Sub l bag) (fun l h x hx => h x (nextL_sub R.nemp x hx)) i bag fun _ h => h
  refine for_it (walk_range (lo := 0) (n := (((S bag).length : Nat) : Int).toNat)) (fun i σ H' => Ext H H' ∧ ∃ y2 y3 y4 y5, σ = [some (.ref r), some (tx (iter (nextL rows) i bag)), y2, y3, y4, y5]) ⟨Ext.refl _, _, _, _, _, rfl⟩ (fun _ _ _ _ _ => trivial) (fun i x σ H3 H2 hi p2 y => ?_) fun σ H2 p2 => ?_
  · obtain ⟨e2, y2, y3, y4, y5, rfl⟩ := p2
    obtain ⟨rfl, rfl⟩ := y
    generalize hB : iter (nextL rows) i bag = B
    have hBa : Asc B := by rw [← hB]; exact ascI i
    have hB4 : B.length ≤ 4 := by rw [← hB]; exact Nat.le_trans (asc_len (ascI i) (subI i)) hL
    refine ⟨.ref r, rfl, _, rfl, r, m, rows, B, rfl, e2.seq hr0, R, fun H4 q4 e4 nq hq4 => ?_⟩
    have hil : (inn rows B).length ≤ 6 := Nat.le_trans (List.length_filter_le _ _) R.len
    refine ⟨q4, rfl, ⟨_, .inl (.inl hq4)⟩, fun D hD => lcLi (inn rows B) tx (fun x => some (hd x)) (fun c y _ => y = tx [c]) (.inl (.inl hq4)) hD (fun _ _ _ _ _ h => h) (line_small (by omega)) (fun x hx H5 e5 R1 R0 k1 k0 => ⟨rfl, tyes' ?_⟩) fun H5 ys e5 hDy f2 => ?_⟩
    · have hxr : x ∈ rows := (List.mem_filter.mp hx).1
      exact ⟨tx x, rfl, S x, 0, hd x, rfl, rfl, line_smallE (by have := R.rowlen hxr; rw [S_len]; omega), hd_at (R.nemp x hxr), k1 _ _ _ rfl (Ext.refl _) rfl⟩
    have ey := f2.eq (vv := fun c => tx [c])
    rw [List.filterMap_eq_map' (f := hd)] at ey
    have ey2 : ys = (((inn rows B).map hd).map fun c => [c]).map tx := by
      rw [ey]
      generalize (inn rows B).map hd = hs
      rw [List.map_map]; rfl
    rw [ey2] at hDy
    have e25 := e2.trans (e4.trans e5)
    refine ⟨⟨_, rfl⟩, _, rfl, S B, rfl, fun D6 hD6 => lcSt (l := B) (fun c => if decide (c ∈ (inn rows B).map hd) = true then some c else none) (fun c y _ => y = tx [c]) hD6 (fun _ _ _ _ _ h => h) (line_small (by omega)) (fun c hc H7 e7 R1 R0 k1 k0 => ⟨rfl, ?_⟩) fun H7 ys7 e7 hDy7 f7 => ?_⟩
    · refine ⟨tx [c], rfl, .ref D, rfl, D, _, rfl, .inl (.inl (.inl (e7.same _ _ hDy))), rfl, flat_tx _, _, rfl, ?_⟩
      rw [inV_tx, in_sg]
      exact ite2 (fun hc => ⟨tx [c], rfl, k1 c _ _ (if_pos hc) (Ext.refl _) rfl⟩) fun hc => k0 _ (if_neg hc) (Ext.refl _)
    have ey7 := f7.eq (vv := fun c => tx [c])
    rw [fm_id (fun c => decide (c ∈ (inn rows B).map hd)), next_filter R.nemp hBa, ← map_sgV] at ey7
    have h3 : ("" : Str).length = 0 := rfl
    refine ⟨"", D6, _, rfl, rfl, .inl (.inl (.inl (by rw [hDy7, ey7]))), ?_, ?_⟩
    · rw [sum_len, flat_sg, h3]
      have := asc_len (nextL_asc rows B) (nextL_sub R.nemp)
      omega
    · rw [join_S, flat_sg]
      exact ⟨e25.trans e7, _, _, _, _, by rw [← hB]; rfl⟩
  · obtain ⟨e2, y2, y3, y4, y5, rfl⟩ := p2
    exact ⟨_, rfl, q H2 e2⟩
end
end K58
set_option Elab.async false
set_option linter.all false
set_option maxRecDepth 100000
set_option maxHeartbeats 1000000
/-! The law's own reckoning: where labels lead. -/
namespace K58
open PySem PySem.Spec PyProof.Rows L2
/-- a pair (key, value) -/
def KvR (H : Hp) (kv : Key × V) (y : V) : Prop := ∃ r, y = .ref r ∧ H r = some (.tup [kV kv.1, kv.2])
theorem paired_of {K : PySem.W.Frag} {H : Hp} {kvs : List (Key × V)} {ys : List V} (h : F2 (KvR H) kvs ys) : ∃ ps : List Addr, ys = ps.map V.ref ∧ Paired (fun p kv => SqT K H p [kV kv.1, kv.2]) ps kvs := by
  induction h with
  | nil => exact ⟨[], rfl, .nil⟩
  | cons h1 _ ih =>
    obtain ⟨r, rfl, h2⟩ := h1
    obtain ⟨ps, rfl, h3⟩ := ih
    exact ⟨r :: ps, rfl, .cons (.inl (.inl h2)) h3⟩
theorem mergeK_nd : ∀ (more kvs : List (Key × V)), ((kvs ++ more).map (·.1)).Nodup → mergeK kvs more = kvs ++ more
  | [], kvs, _ => by simp [mergeK]
  | (k, v) :: r, kvs, h => by
    have h1 : putK kvs k v = kvs ++ [(k, v)] := putK_new fun p hp e => by
      rw [List.map_append, List.map_cons] at h
      have := (List.nodup_append.mp h).2.2 p.1 (List.mem_map.mpr ⟨p, hp, rfl⟩) k List.mem_cons_self
      exact this e
    show mergeK (putK kvs k v) r = _
    rw [h1, mergeK_nd r (kvs ++ [(k, v)]) (by rw [List.append_assoc]; exact h), List.append_assoc]
    rfl
theorem keys_nd {L : List Nat} (h : Asc L) (a : Nat → List Nat) : ((arK a L).map (·.1)).Nodup := by
  unfold arK
  rw [List.map_map]
  exact List.Pairwise.map _ (fun a b h e => h (keyS_inj a b e)) h.nodup
def updA (a : Nat → List Nat) (c : Nat) (l : List Nat) : Nat → List Nat := fun s => if s = c then l else a s
theorem putK_ar {a : Nat → List Nat} {L : List Nat} {c : Nat} {l : List Nat} (hc : c ∈ L) : putK (arK a L) (Sum.inr (S [c])) (tx l) = arK (updA a c l) L := by
  unfold putK
  have h1 : ((arK a L).any fun kv => decide (kv.1 = Sum.inr (S [c]))) = true := List.any_eq_true.mpr ⟨(Sum.inr (S [c]), tx (a c)), List.mem_map.mpr ⟨c, hc, rfl⟩, by simp⟩
  rw [if_pos h1]
  unfold arK
  rw [List.map_map]
  refine List.map_congr_left fun s _ => ?_
  show (if (Sum.inr (S [s]) : Key) = Sum.inr (S [c]) then (Sum.inr (S [s]), tx l) else (Sum.inr (S [s]), tx (a s))) = (Sum.inr (S [s]), tx (updA a c l s))
  unfold updA
  by_cases h : s = c
  · subst h; simp
  · rw [if_neg (fun e => h (keyS_inj _ _ e)), if_neg h]
/-- where labels lead by some rows -/
def arOf (rs : List (List Nat)) (s : Nat) : List Nat := lotL ((rs.filter fun r => hd r == s).flatMap List.tail)
theorem arOf_snoc (rs : List (List Nat)) (r : List Nat) : updA (arOf rs) (hd r) (lotL (arOf rs (hd r) ++ r.tail)) = arOf (rs ++ [r]) := by
  funext s
  unfold updA
  by_cases h : s = hd r
  · rw [if_pos h]
    unfold arOf
    rw [List.filter_append]
    refine lotL_congr fun x => ?_
    rw [List.mem_append, lotL_mem, List.flatMap_append, List.mem_append]
    simp [h]
  · rw [if_neg h]
    unfold arOf
    rw [List.filter_append]
    have e : ([r].filter fun r => hd r == s) = [] := by simp; exact fun z => h z.symm
    rw [e, List.append_nil]
section
variable {P : Program} {w : World} {K : PySem.W.Frag} {mg : Str → Option Value} {base : Heap}
theorem sc_L_ends : FnScope ["_law_rows", "_law_bag", "_law_found", "_law_row", "_law_sign"] ["_law_rows", "_law_bag"] (defScope sL_ends) := ⟨rfl, rfl, rfl, by decide +kernel, rfl, by decide +kernel, by decide +kernel⟩
def sp__law_ends (K : PySem.W.Frag) : Sp := fun vs H Q _ => ∃ (r : Addr) (m : Nat) (rows : List (List Nat)) (bag : List Nat), vs = [.ref r, tx bag] ∧ SqL K H r (rows.map tx) ∧ Rows m rows ∧ LotOf rows bag ∧ ∀ H' d, Ext H H' → H' d = some (.dK (arK (ar rows bag) bag)) → Q (.ref d) H'
theorem h__law_ends (T : Top K mg) : Has P w K mg base "_law_ends" 2 ["_law_rows", "_law_bag"] (sp__law_ends K) := by
  have nd := sc_L_ends.nd
  have h__law_inner := h__law_inner (P := P) (w := w) (base := base) T
  refine has_of T dL_ends (by simp [fn, fn0, fn1, fn2, fn3]) rfl (by decide +kernel) rfl sc_L_ends (fun vs H Q E ⟨r, m, rows, bag, e, _⟩ => by rw [e]; rfl) (fun _ _ _ _ _ _ us hl => match us, hl with | [_, _], _ => rfl) (fun cdv A outer s H vs Q E hr h => ?_)
  obtain ⟨r, m, rows, bag, rfl, hr0, R, L0, q⟩ := h
  -- cells: []; slots {'_law_rows': 0, '_law_bag': 1, '_law_found': 2, '_law_row': 3, '_law_sign': 4}
  refine ⟨_, (pss_cons (ps_set (i := 2) nd rfl (Or.inl rfl) (pe_callTy (call_dictP rfl) (by rfl) (T.free _ (by decide +kernel)) (by decide +kernel) (pa_cons (pe_lc (own := [("_law_sign", 4)]) (g := (gName 4)) (tt := tYes) rfl nd (pi_str (pv 1)) (blkOk_by (by kernel_rfl)) (fun _ _ _ _ _ => (pg_name (i := 4) nd rfl (Or.inl rfl))) (fun _ _ _ _ _ => pts_nil) (fun _ _ _ _ _ => (pe_tup (pa_cons (pv 4) (pa_cons pe_str pa_nil))))) pa_nil)))
      (pss_cons (ps_for PassesOwn.never rfl (pi_list (pe_has h__law_inner (hr.mono (by omega)) (by rfl) (pa_cons (pv 0) (pa_cons (pv 1) pa_nil)))) (pg_name (i := 3) nd rfl (Or.inl rfl))
        (pss_one (ps_dput (hu_of hr) (pv 2) (pe_ix ix_str (pv 3) pe_int (fun _ _ => rfl)) (pe_join pe_str (pe_sortSet rfl (by rfl) (T.free _ (by decide +kernel)) (by rfl) (T.free _ (by decide +kernel)) (pe_op op_add_str (pe_dget (hu_of hr) (pv 2) (pe_ix ix_str (pv 3) pe_int (fun _ _ => rfl)) (fun _ _ => rfl)) (pe_slice sl_str (pv 3) (po_some pe_int) po_none)))) rfl)))
      (pss_one (ps_ret (pv 2))))), ?_⟩
  have hL := L0.len R
  refine ⟨tx bag, rfl, S bag, rfl, fun D hD => lcFmT (walk_str (z := S bag)) bag (fun c x _ => x = tx [c]) (fun c => some c) (fun c y H => ∃ p, y = .ref p ∧ p ≠ D ∧ H p = some (.tup [tx [c], tx []])) rfl (fun i H x H' hi y => ⟨y.1 ▸ Ext.refl _, by obtain ⟨c, h, e⟩ := y.2; exact ⟨c, by rw [← h]; exact (Array.getElem?_toList ..).symm ▸ rfl, e⟩⟩) hD (fun c y H H' k ⟨p, h1, h2, h3⟩ => ⟨p, h1, h2, k _ _ h2 h3⟩) (fun _ _ => trivial) (line_small (by omega)) (fun c hc x H1 e1 hDl hx R1 R0 k1 k0 => ⟨rfl, tyes' ?_⟩) fun H1 ys e1 hDy f2 => ?_⟩
  · subst hx
    refine ⟨tx [c], rfl, by show 2 ≤ sizeLine; decide, fun p np => k1 c _ _ rfl ((Ext.refl H1).then np rfl) ⟨p, rfl, fun z => ?_, upd_same⟩⟩
    obtain ⟨ys', hys⟩ := hDl
    rw [z, hys] at np; cases np
  have e0 : bag.filterMap (fun c => some c) = bag := by simp
  rw [e0] at f2
  have f3 : F2 (KvR H1) (arK (fun _ => []) bag) ys := (F2.mapL (f := fun s => ((Sum.inr (S [s]) : Key), tx [])) (f2.mono fun c y ⟨p, h1, _, h3⟩ => ⟨p, h1, h3⟩))
  obtain ⟨ps, rfl, hps⟩ := paired_of (K := K) f3
  refine ⟨D, ps, _, rfl, .inl (.inl hDy), hps, fun F nF => ?_⟩
  rw [mergeK_nd _ [] (by rw [List.nil_append]; exact keys_nd L0.asc _), List.nil_append]
  have hz : (fun _ : Nat => ([] : List Nat)) = arOf [] := by funext s; rfl
  rw [hz]
  have eF : Ext H (upd H1 F (.dK (arK (arOf []) bag))) := e1.then nF rfl
  have hF1 : (upd H1 F (.dK (arK (arOf []) bag))) F = some (.dK (arK (arOf []) bag)) := upd_same
  have nFH : H F = none := e1.none nF
  generalize (upd H1 F (.dK (arK (arOf []) bag))) = H2 at eF hF1 ⊢
  refine ⟨.ref r, rfl, _, rfl, r, m, rows, bag, rfl, eF.seq hr0, R, fun H3 q3 e3 nq3 hq3 => ?_⟩
  have e13 := eF.trans e3
  have hqF : q3 ≠ F := fun z => by rw [z, hF1] at nq3; cases nq3
  refine ⟨q3, rfl, ⟨_, .inl (.inl hq3)⟩, for_it (walk_list (xs := (inn rows bag).map tx)) (fun i σ H' => Ext H H' ∧ H' q3 = some (.lst ((inn rows bag).map tx)) ∧ H' F = some (.dK (arK (arOf ((inn rows bag).take i)) bag)) ∧ ∃ y3 y4, σ = [some (.ref r), some (tx bag), some (.ref F), y3, y4]) ⟨e13, hq3, e3.same _ _ hF1, _, _, rfl⟩ (fun i σ H' _ p => .inl (.inl p.2.1)) (fun i x σ H5 H4 hi p4 y => ?_) fun σ H4 p4 => ?_⟩
  · obtain ⟨e4, hq4, hF4, y3, y4, rfl⟩ := p4
    obtain ⟨rfl, hx⟩ := y
    rw [List.getElem?_map] at hx
    cases er : (inn rows bag)[i]? with
    | none => rw [er] at hx; cases hx
    | some row =>
      rw [er] at hx
      obtain rfl := Option.some.inj hx
      have ht : (inn rows bag).take (i + 1) = (inn rows bag).take i ++ [row] := by rw [List.take_succ, er]; rfl
      obtain ⟨hrr, hw⟩ := List.mem_filter.mp (List.mem_of_getElem? er)
      have hrl := R.rowlen hrr
      have hne := R.nemp row hrr
      have hhd : hd row ∈ bag := within_iff.mp hw _ (hd_mem hne)
      have hrow : atI (S row).cps.toList 0 = some (hd row) := hd_at hne
      have hsl : (S row).length ≤ sizeLine := line_smallE (by rw [S_len]; omega)
      generalize hA : arOf ((inn rows bag).take i) = A at hF4
      have hA4 : (A (hd row)).length ≤ 4 := by
        rw [← hA]
        refine Nat.le_trans (asc_len (lotL_asc _) fun x hx => ?_) hL
        obtain ⟨r', hr', h⟩ := List.mem_flatMap.mp ((lotL_mem x _).mp hx)
        have h2 := List.mem_of_mem_take (List.mem_filter.mp hr').1
        exact within_iff.mp (List.mem_filter.mp h2).2 _ (List.mem_of_mem_tail h)
      refine ⟨⟨_, rfl⟩, .ref F, rfl, tx row, rfl, S row, 0, hd row, rfl, rfl, hsl, hrow, F, tx (A (hd row)), rfl, ArrV.get (.inl hF4) hhd, tx row, rfl, 1, rfl, S row, rfl, hsl, S (A (hd row)), cutS (S row) (some 1) none, rfl, rfl, ?_, ((A (hd row) ++ row.tail).map fun c => [c]).map S, ?_, ?_, fun ys p H5 hs hm e5 np hp => ?_⟩
      · rw [show (1 : Int) = ((1 : Nat) : Int) from rfl, cut_drop, S_len, S_len, List.length_drop]
        exact line_smallE (by omega)
      · rw [List.length_map, List.length_map, List.length_append, List.length_tail]; omega
      · rw [show (1 : Int) = ((1 : Nat) : Int) from rfl, cut_drop, S_add, List.drop_one]; exact srcTx _
      · obtain ⟨j1, j2⟩ := join_sort hs hm (by rw [List.length_append, List.length_tail]; omega)
        refine ⟨"", p, ys, rfl, rfl, .inl (.inl (.inl hp)), j1, .ref F, rfl, tx row, rfl, S row, 0, hd row, rfl, rfl, hsl, hrow, F, _, rfl, DPut.k (k := Sum.inr (S [hd row])) (e5.same _ _ hF4) (line_small (by simp [arK]; omega)), ?_⟩
        rw [j2]
        have e9 : putK (arK A bag) (Sum.inr (S [hd row])) (V.str (S (lotL (A (hd row) ++ row.tail)))) = arK (arOf ((inn rows bag).take (i + 1))) bag := by
          rw [ht, ← arOf_snoc, hA]; exact putK_ar hhd
        rw [e9]
        exact ⟨(e4.trans e5).updNew nFH rfl, by rw [upd_ne hqF]; exact e5.same _ _ hq4, upd_same, _, _, rfl⟩
  · obtain ⟨e4, hq4, hF4, y3, y4, rfl⟩ := p4
    rw [List.length_map, List.take_length] at hF4
    exact ⟨_, rfl, q H4 F e4 hF4⟩
end
end K58
set_option Elab.async false
set_option linter.all false
set_option maxRecDepth 100000
set_option maxHeartbeats 1000000
/-! The law's own reckoning: what is loose, parts. -/
namespace K58
open PySem PySem.Spec PyProof.Rows L2
section
variable {P : Program} {w : World} {K : PySem.W.Frag} {mg : Str → Option Value} {base : Heap}
theorem sc_L_is_loose : FnScope ["_law_ends_here", "_law_part", "_law_sign", "_law_now", "_law_lap"] ["_law_ends_here", "_law_part"] (defScope sL_is_loose) := ⟨rfl, rfl, rfl, by decide +kernel, rfl, by decide +kernel, by decide +kernel⟩
def sp__law_is_loose : Sp := fun vs H Q _ => ∃ (d : Addr) (a : Nat → List Nat) (L p : List Nat), vs = [.ref d, tx p] ∧ ArrV H d a L ∧ Arr a L ∧ L.length ≤ 4 ∧ Asc p ∧ Sub p L ∧ ∀ H', Ext H H' → Q (.bl (looseL a p)) H'
theorem h__law_is_loose (T : Top K mg) : Has P w K mg base "_law_is_loose" 2 ["_law_ends_here", "_law_part"] sp__law_is_loose := by
  have nd := sc_L_is_loose.nd
  have h__law_step := h__law_step (P := P) (w := w) (base := base) T
  refine has_of T dL_is_loose (by simp [fn, fn0, fn1, fn2, fn3]) rfl (by decide +kernel) rfl sc_L_is_loose (fun vs H Q E ⟨d, a, L, p, e, _⟩ => by rw [e]; rfl) (fun _ _ _ _ _ _ us hl => match us, hl with | [_, _], _ => rfl) (fun cdv A outer s H vs Q E hr h => ?_)
  obtain ⟨d, a, L, p, rfl, hd0, A0, hL, hpa, hps, q⟩ := h
  -- cells: []; slots {'_law_ends_here': 0, '_law_part': 1, '_law_sign': 2, '_law_now': 3, '_law_lap': 4}
  refine ⟨_, (pss_cons (ps_for PassesOwn.never rfl (pi_str (pv 1)) (pg_name (i := 2) nd rfl (Or.inl rfl))
        (pss_cons (ps_set (i := 3) nd rfl (Or.inl rfl) (pv 2))
        (pss_cons (ps_for PassesOwn.never rfl (pi_range1 (by rfl) (T.free _ (by decide +kernel)) (pa_cons (pe_op op_add (pe_op op_pow (pe_op op_sub (pe_callB call_len_str (by rfl) (T.free _ (by decide +kernel)) (by decide +kernel) (pa_cons (pv 1) pa_nil)) pe_int) pe_int) pe_int) pa_nil)) (pg_name (i := 4) nd rfl (Or.inl rfl))
          (pss_one (ps_set (i := 3) nd rfl (Or.inl rfl) (pe_has h__law_step (hr.mono (by omega)) (by rfl) (pa_cons (pv 0) (pa_cons (pv 3) (pa_cons (pv 1) pa_nil)))))))
        (pss_one (ps_if (pt_cmpR op_ne (pv 3) (pv 1) (nomark _)) (pss_one (ps_ret pe_bl)) pss_nil)))))
      (pss_one (ps_ret pe_bl))), ?_⟩
  have hp4 : p.length ≤ 4 := Nat.le_trans (asc_len hpa hps) hL
  refine ⟨tx p, rfl, S p, rfl, for_it (walk_str (z := S p)) (fun i σ H' => Ext H H' ∧ (∃ y2 y3 y4, σ = [some (.ref d), some (tx p), y2, y3, y4]) ∧ ∀ s ∈ p.take i, iter (stepL a p) ((p.length - 1) ^ 2 + 1) [s] = p) ⟨Ext.refl _, ⟨_, _, _, rfl⟩, fun s h => by simp at h⟩ (fun _ _ _ _ _ => trivial) (fun i x σ H2 H1 hi p1 y => ?_) fun σ H1 p1 => ?_⟩
  · obtain ⟨e1, ⟨y2, y3, y4, rfl⟩, hall⟩ := p1
    obtain ⟨rfl, c, hc, rfl⟩ := y
    have hc : p[i]? = some c := by rw [← hc]; exact (Array.getElem?_toList ..)
    have hcp : c ∈ p := List.mem_of_getElem? hc
    refine ⟨tx [c], rfl, ?_⟩
    have hpos : 0 < p.length := List.length_pos_of_mem hcp
    have ej : (((S p).length : Nat) : Int) - 1 = ((p.length - 1 : Nat) : Int) := by rw [S_len]; omega
    have ej2 : ((((S p).length : Nat) : Int) - 1) ^ (2 : Int).toNat + 1 = (((p.length - 1) ^ 2 + 1 : Nat) : Int) := by
      rw [ej]; simp
    have hN : (p.length - 1) ^ 2 + 1 ≤ 10 := by
      have : p.length - 1 ≤ 3 := by omega
      have := Nat.pow_le_pow_left this 2
      omega
    refine ⟨tx p, rfl, S p, rfl, line_smallE (by rw [S_len]; omega), _, 1, rfl, rfl, _, 2, rfl, rfl, ⟨by decide, by decide, by rw [ej]; omega⟩, _, 1, rfl, rfl, (((p.length - 1) ^ 2 + 1 : Nat) : Int), congrArg (fun z : Int => [V.int z]) ej2, by omega, by omega, ?_⟩
    refine for_it (walk_range (lo := 0) (n := ((((p.length - 1) ^ 2 + 1 : Nat) : Int)).toNat)) (fun k σ H' => Ext H H' ∧ ∃ y4, σ = [some (.ref d), some (tx p), some (tx [c]), some (tx (iter (stepL a p) k [c])), y4]) ⟨e1, _, rfl⟩ (fun _ _ _ _ _ => trivial) (fun k x σ H3 H2 hk p2 y => ?_) fun σ H2 p2 => ?_
    · obtain ⟨e2, y4', rfl⟩ := p2
      obtain ⟨rfl, rfl⟩ := y
      have hsub : Sub (iter (stepL a p) k [c]) p := iter_sub hcp k
      have hlen : (iter (stepL a p) k [c]).length ≤ 4 := by
        cases k with
        | zero => simp [iter]
        | succ k => exact Nat.le_trans (List.length_filter_le _ _) hp4
      exact ⟨.ref d, rfl, _, rfl, tx p, rfl, d, a, L, _, p, rfl, e2.rd hd0, A0, hL, hlen, fun x hx => hps x (hsub x hx), hp4, fun H4 e4 => ⟨e2.trans e4, _, rfl⟩⟩
    · obtain ⟨e2, y4', rfl⟩ := p2
      rw [Int.toNat_natCast]
      refine ⟨_, rfl, _, rfl, rfl, _, rfl, ?_⟩
      by_cases he : iter (stepL a p) ((p.length - 1) ^ 2 + 1) [c] = p
      · have e0 : (!decide (tx (iter (stepL a p) ((p.length - 1) ^ 2 + 1) [c]) = tx p)) = false := by rw [he]; simp
        rw [e0]
        refine iteF ⟨e2, ⟨_, _, _, rfl⟩, fun s hs => ?_⟩
        have ht : p.take (i + 1) = p.take i ++ [c] := by rw [List.take_succ, hc]; rfl
        rw [ht] at hs
        rcases List.mem_append.mp hs with h | h
        · exact hall s h
        · rw [List.mem_singleton] at h; rw [h]; exact he
      · have e0 : (!decide (tx (iter (stepL a p) ((p.length - 1) ^ 2 + 1) [c]) = tx p)) = true := by
          rw [decide_eq_false (fun z => he (tx_inj z))]; rfl
        rw [e0]
        refine iteT ?_
        have h : looseL a p = false := by
          cases e : looseL a p with
          | false => rfl
          | true => exact absurd (beq_iff_eq.mp (List.all_eq_true.mp e c hcp)) he
        have := q H2 e2
        rw [h] at this
        exact this
  · obtain ⟨e1, ⟨y2, y3, y4, rfl⟩, hall⟩ := p1
    have h : looseL a p = true := List.all_eq_true.mpr fun s hs => beq_iff_eq.mpr (hall s (by rw [show (S p).cps.size = p.length from rfl, List.take_length]; exact hs))
    have := q H1 e1
    rw [h] at this
    exact this
end
end K58
set_option Elab.async false
set_option linter.all false
set_option maxRecDepth 100000
set_option maxHeartbeats 1000000
/-! The law's own reckoning: parts. -/
namespace K58
open PySem PySem.Spec PyProof.Rows L2
section
variable {P : Program} {w : World} {K : PySem.W.Frag} {mg : Str → Option Value} {base : Heap}
theorem sc_L_parts : FnScope ["_law_rows", "_law_bag", "_law_ends_here", "_law_found", "_law_far_here", "_law_sign", "_law_part", "_law_one"] ["_law_rows", "_law_bag"] (defScope sL_parts) := ⟨rfl, rfl, rfl, by decide +kernel, rfl, by decide +kernel, by decide +kernel⟩
def sp__law_parts (K : PySem.W.Frag) : Sp := fun vs H Q _ => ∃ (r : Addr) (m : Nat) (rows : List (List Nat)) (bag : List Nat), vs = [.ref r, tx bag] ∧ SqL K H r (rows.map tx) ∧ Rows m rows ∧ LotOf rows bag ∧ ∀ H' q, Ext H H' → H' q = some (.lst ((partsL (ar rows bag) bag).map tx)) → Q (.ref q) H'
theorem h__law_parts (T : Top K mg) : Has P w K mg base "_law_parts" 3 ["_law_rows", "_law_bag"] (sp__law_parts K) := by
  have nd := sc_L_parts.nd
  have h__law_ends := h__law_ends (P := P) (w := w) (base := base) T
  have h__law_far := h__law_far (P := P) (w := w) (base := base) T
  refine has_of T dL_parts (by simp [fn, fn0, fn1, fn2, fn3]) rfl (by decide +kernel) rfl sc_L_parts (fun vs H Q E ⟨r, m, rows, bag, e, _⟩ => by rw [e]; rfl) (fun _ _ _ _ _ _ us hl => match us, hl with | [_, _], _ => rfl) (fun cdv A outer s H vs Q E hr h => ?_)
  obtain ⟨r, m, rows, bag, rfl, hr0, R, L0, q⟩ := h
  -- cells: ['_law_bag', '_law_ends_here', '_law_far_here', '_law_sign']; slots {'_law_rows': 0, '_law_bag': 1, '_law_ends_here': 2, '_law_found': 3, '_law_far_here': 4, '_law_sign': 5, '_law_part': 6, '_law_one': 7}
  refine ⟨_, (pss_cons (ps_asg (pe_tup (pa_cons (pe_has h__law_ends (hr.mono (by omega)) (by rfl) (pa_cons (pv 0) (pa_cons (pv 1) pa_nil))) (pa_cons (pe_lst pa_nil) pa_nil))) (pg_tup (by rfl) (pgs_cons (pg_name (i := 2) nd rfl (Or.inr rfl)) (pgs_cons (pg_name (i := 3) nd rfl (Or.inl rfl)) pgs_nil))))
      (pss_cons (ps_set (i := 4) nd rfl (Or.inr rfl) (pe_callTy (call_dictP rfl) (by rfl) (T.free _ (by decide +kernel)) (by decide +kernel) (pa_cons (pe_lc (own := [("_law_sign", 5)]) (g := (gName 5)) (tt := tYes) rfl nd (pi_str (pv 1)) (blkOk_by (by kernel_rfl)) (fun _ _ _ _ _ => (pg_name (i := 5) nd rfl (Or.inl rfl))) (fun _ _ _ _ _ => pts_nil) (fun _ _ _ _ _ => (pe_tup (pa_cons (pv 5) (pa_cons (pe_has h__law_far (hr.mono (by omega)) (by rfl) (pa_cons (pv 2) (pa_cons (pv 5) (pa_cons (pv 1) pa_nil)))) pa_nil))))) pa_nil)))
      (pss_cons (ps_for PassesOwn.never rfl (pi_str (pv 1)) (pg_name (i := 5) nd rfl (Or.inr rfl))
        (pss_cons (ps_set (i := 6) nd rfl (Or.inl rfl) (pe_join pe_str (pe_lc (own := [("_law_one", 7)]) (g := (gName 7)) (tt := _) rfl nd (pi_str (pe_dget (hu_of hr) (pv 4) (pv 5) (fun _ _ => rfl))) (blkOk_by (by kernel_rfl)) (fun _ _ _ _ _ => (pg_name (i := 7) nd rfl (Or.inl rfl))) (fun _ _ _ _ _ => (pts_one (pt_cmpR op_in_sign (pv 5) (pe_dget (hu_of hr) (pv 4) (pv 7) (fun _ _ => rfl)) rfl))) (fun _ _ _ _ _ => (pv 7)))))
        (pss_one (ps_set (i := 3) nd rfl (Or.inl rfl) (pe_op op_cat (pv 3) (pe_op op_rep (pe_lst (pa_cons (pv 6) pa_nil)) (pe_callTy call_int1 (by rfl) (T.free _ (by decide +kernel)) (by decide +kernel) (pa_cons (pe_cmpR op_ne (pv 6) pe_str (nomark _)) pa_nil))))))))
      (pss_one (ps_ret (pe_sortSet rfl (by rfl) (T.free _ (by decide +kernel)) (by rfl) (T.free _ (by decide +kernel)) (pv 3))))))), ?_⟩
  have hL := L0.len R
  have A0 := R.arr L0
  generalize hA : ar rows bag = a at A0 q
  refine ⟨.ref r, rfl, _, rfl, r, m, rows, bag, rfl, hr0, R, L0, fun H1 d e1 hd1 => ⟨Nat.zero_le _, fun Fd nF => ⟨by show 2 ≤ sizeLine; decide, fun t0 nt => ⟨t0, _, rfl, .inl (.inl upd_same), rfl, _, _, rfl, _, _, rfl, rfl, ?_⟩⟩⟩⟩
  rw [hA] at hd1
  have e2 : Ext H1 (upd H1 Fd (.lst [])) := (Ext.refl H1).then nF rfl
  have e4 : Ext H (upd (upd H1 Fd (.lst [])) t0 (.tup [.ref d, .ref Fd])) := (e1.trans e2).then nt rfl
  have hF4 : (upd (upd H1 Fd (.lst [])) t0 (.tup [.ref d, .ref Fd])) Fd = some (.lst ([].map tx)) := ((Ext.refl _).then nt rfl).same _ _ upd_same
  have hd4 : (upd (upd H1 Fd (.lst [])) t0 (.tup [.ref d, .ref Fd])) d = some (.dK (arK a bag)) := ((Ext.refl _).then nt rfl).same _ _ (e2.same _ _ hd1)
  generalize (upd (upd H1 Fd (.lst [])) t0 (.tup [.ref d, .ref Fd])) = H4 at e4 hF4 hd4 ⊢
  refine ⟨tx bag, rfl, S bag, rfl, fun D hD => lcFmT (walk_str (z := S bag)) bag (fun c x _ => x = tx [c]) (fun c => some c) (fun c y H => ∃ p, y = .ref p ∧ p ≠ D ∧ H p = some (.tup [tx [c], tx (far a bag c)])) rfl (fun i H x H' hi y => ⟨y.1 ▸ Ext.refl _, by obtain ⟨c, h, e⟩ := y.2; exact ⟨c, by rw [← h]; exact (Array.getElem?_toList ..).symm ▸ rfl, e⟩⟩) hD (fun c y H H' k ⟨p, h1, h2, h3⟩ => ⟨p, h1, h2, k _ _ h2 h3⟩) (fun _ _ => trivial) (line_small (by omega)) (fun c hc x H5 e5 hDl hx R1 R0 k1 k0 => ⟨rfl, tyes' ?_⟩) fun H5 ys e5 hDy f2 => ?_⟩
  · subst hx
    refine ⟨tx [c], rfl, .ref d, rfl, tx [c], rfl, tx bag, rfl, d, a, bag, c, rfl, .inl (e5.same _ _ hd4), A0, hL, hc, fun H6 e6 => ⟨by show 2 ≤ sizeLine; decide, fun p np => k1 c _ _ rfl (e6.then np rfl) ⟨p, rfl, fun z => ?_, upd_same⟩⟩⟩
    obtain ⟨ys', hys⟩ := hDl
    rw [z, e6.same _ _ hys] at np; cases np
  have e0 : bag.filterMap (fun c => some c) = bag := by simp
  rw [e0] at f2
  have f3 : F2 (KvR H5) (arK (far a bag) bag) ys := (F2.mapL (f := fun s => ((Sum.inr (S [s]) : Key), tx (far a bag s))) (f2.mono fun c y ⟨p, h1, _, h3⟩ => ⟨p, h1, h3⟩))
  obtain ⟨ps0, rfl, hps⟩ := paired_of (K := K) f3
  refine ⟨D, ps0, _, rfl, .inl (.inl hDy), hps, fun G nG => ?_⟩
  rw [mergeK_nd _ [] (by rw [List.nil_append]; exact keys_nd L0.asc _), List.nil_append]
  have e6 : Ext H (upd H5 G (.dK (arK (far a bag) bag))) := (e4.trans e5).then nG rfl
  have hG6 : (upd H5 G (.dK (arK (far a bag) bag))) G = some (.dK (arK (far a bag) bag)) := upd_same
  have hF6 := ((Ext.refl H5).then (o := .dK (arK (far a bag) bag)) nG rfl).same _ _ (e5.same _ _ hF4)
  generalize (upd H5 G (.dK (arK (far a bag) bag))) = H6 at e6 hG6 hF6 ⊢
  refine ⟨tx bag, rfl, S bag, rfl, for_it (walk_str (z := S bag)) (fun i σ H' => ∃ (F : Addr) (ps : List (List Nat)) (y5 y6 y7 : Option V), σ = [some (.ref r), some (tx bag), some (.ref d), some (.ref F), some (.ref G), y5, y6, y7] ∧ Ext H H' ∧ H' G = some (.dK (arK (far a bag) bag)) ∧ H' F = some (.lst (ps.map tx)) ∧ ps.length ≤ i ∧ ∀ x, x ∈ ps ↔ x ∈ ((bag.take i).map (part a bag)).filter fun p => p ≠ []) ⟨Fd, [], _, _, _, rfl, e6, hG6, hF6, Nat.le_refl _, fun x => by simp⟩ (fun _ _ _ _ _ => trivial) (fun i x σ H8 H7 hi p7 y => ?_) fun σ H7 p7 => ?_⟩
  · obtain ⟨F, ps, y5, y6, y7, rfl, e7, hG7, hF7, hl7, hm7⟩ := p7
    obtain ⟨rfl, c, hc, rfl⟩ := y
    have hc : bag[i]? = some c := by rw [← hc]; exact (Array.getElem?_toList ..)
    have hcL : c ∈ bag := List.mem_of_getElem? hc
    have hi4 : i < 4 := by have := (List.getElem?_eq_some_iff.mp hc).1; omega
    have ht : bag.take (i + 1) = bag.take i ++ [c] := by rw [List.take_succ, hc]; rfl
    have far4 : ∀ c, (far a bag c).length ≤ 4 := fun c => Nat.le_trans (asc_len (far_in A0 c).1 (far_in A0 c).2) hL
    refine ⟨⟨_, rfl⟩, .ref G, rfl, tx [c], rfl, G, _, rfl, ArrV.get (.inl hG7) hcL, S (far a bag c), rfl, fun D6 hD6 => lcSt (l := far a bag c) (fun b => if decide (c ∈ far a bag b) = true then some b else none) (fun b y _ => y = tx [b]) hD6 (fun _ _ _ _ _ h => h) (line_small (by have := far4 c; omega)) (fun b hb H9 e9 R1 R0 k1 k0 => ⟨rfl, ?_⟩) fun H9 ys9 e9 hDy9 f9 => ?_⟩
    · refine ⟨tx [c], rfl, .ref G, rfl, tx [b], rfl, G, _, rfl, ArrV.get (.inl (e9.same _ _ hG7)) ((far_in A0 c).2 b hb), c, S (far a bag b), rfl, rfl, _, rfl, ite2 (fun hc => ?_) fun hc => k0 _ (if_neg hc) (Ext.refl _)⟩
      exact ⟨tx [b], rfl, k1 b _ _ (if_pos hc) (Ext.refl _) rfl⟩
    have ey := f9.eq (vv := fun b => tx [b])
    rw [fm_id (fun b => decide (c ∈ far a bag b)), ← map_sgV] at ey
    have hpart : (far a bag c).filter (fun b => decide (c ∈ far a bag b)) = part a bag c := rfl
    rw [hpart] at ey
    have part4 : (part a bag c).length ≤ 4 := Nat.le_trans (asc_len (part_asc A0 c) (part_sub A0 c)) hL
    have h3 : ("" : Str).length = 0 := rfl
    refine ⟨"", D6, _, rfl, rfl, .inl (.inl (.inl (by rw [hDy9, ey]))), by rw [sum_len, flat_sg, h3]; omega, ?_⟩
    rw [join_S, flat_sg]
    have e79 := e7.trans e9
    have hF9 := e9.same _ _ hF7
    refine ⟨.ref F, rfl, tx (part a bag c), rfl, by show 1 ≤ sizeLine; decide, fun p1 np1 => ?_⟩
    have e10 := e79.then (o := .lst [tx (part a bag c)]) np1 rfl
    have e9p := (Ext.refl H9).then (o := .lst [tx (part a bag c)]) np1 rfl
    refine ⟨tx (part a bag c), rfl, rfl, .inr ⟨_, rfl, p1, _, _, rfl, rfl, upd_same, by split <;> omega, by split <;> omega, by split <;> simp <;> decide, fun p2 np2 => ?_⟩⟩
    have hZ : (List.replicate (if (!decide (tx (part a bag c) = V.str "")) = true then (1 : Int) else 0).toNat [tx (part a bag c)]).flatten = ([part a bag c].filter fun p => p ≠ []).map tx := by
      by_cases h : part a bag c = []
      · rw [h]; rfl
      · have h1 : ¬ (tx (part a bag c) = V.str "") := fun z => h (tx_inj (b := []) z)
        rw [decide_eq_false h1]
        simp [h]
    rw [hZ]
    have e11 := e10.then (o := .lst (([part a bag c].filter fun p => p ≠ []).map tx)) np2 rfl
    have e9q := e9p.trans ((Ext.refl _).then (o := .lst (([part a bag c].filter fun p => p ≠ []).map tx)) np2 rfl)
    have hz1 : ([part a bag c].filter fun p => p ≠ []).length ≤ 1 := List.length_filter_le _ _
    refine ⟨F, p2, _, _, rfl, rfl, e9q.same _ _ hF9, upd_same, by rw [List.length_map, List.length_map]; exact line_smallE (by omega), fun p3 np3 => ?_⟩
    refine ⟨p3, ps ++ [part a bag c].filter (fun p => p ≠ []), _, _, _, rfl, e11.then np3 rfl, ?_, ?_, ?_, fun x => ?_⟩
    · exact ((Ext.refl _).then np3 rfl).same _ _ (e9q.same _ _ (e9.same _ _ hG7))
    · rw [upd_same, List.map_append]
    · rw [List.length_append]; omega
    · rw [List.mem_append, hm7, ht, List.map_append, List.filter_append, List.mem_append]
      rfl
  · obtain ⟨F, ps, y5, y6, y7, rfl, e7, hG7, hF7, hl7, hm7⟩ := p7
    rw [show (S bag).cps.size = bag.length from rfl] at hl7 hm7
    rw [List.take_length] at hm7
    refine ⟨.ref F, rfl, ps.map S, by rw [List.length_map]; omega, .inr (.inl ⟨F, rfl, .inl (.inl (by rw [map_txV]; exact hF7))⟩), fun ys q9 H9 hs9 hm9 e9 nq9 hq9 => ?_⟩
    obtain ⟨zs, rfl, hza, hzm⟩ := ys_sorted hs9 hm9
    have hz : zs = partsL a bag := sortT_eq hza fun x => (hzm x).trans (hm7 x)
    rw [map_tx, hz] at hq9
    exact q H9 q9 (e7.trans e9) hq9
end
end K58
set_option Elab.async false
set_option linter.all false
set_option maxRecDepth 100000
set_option maxHeartbeats 1000000
/-! The law's own reckoning: what comes next, what stays. -/
namespace K58
open PySem PySem.Spec PyProof.Rows L2
theorem fm_ifm {α β : Type} (p : α → Bool) (g : α → β) (l : List α) : l.filterMap (fun x => if p x = true then some (g x) else none) = (l.filter p).map g := fm_if p g l
section
variable {P : Program} {w : World} {K : PySem.W.Frag} {mg : Str → Option Value} {base : Heap}
theorem sc_L_next : FnScope ["_law_rows", "_law_bag", "_law_ends_here", "_law_part"] ["_law_rows", "_law_bag"] (defScope sL_next) := ⟨rfl, rfl, rfl, by decide +kernel, rfl, by decide +kernel, by decide +kernel⟩
def sp__law_next (K : PySem.W.Frag) : Sp := fun vs H Q _ => ∃ (r : Addr) (m : Nat) (rows : List (List Nat)) (bag : List Nat), vs = [.ref r, tx bag] ∧ SqL K H r (rows.map tx) ∧ Rows m rows ∧ LotOf rows bag ∧ ∀ H' q ys, Ext H H' → H' q = some (.lst ys) → F2 (PairR H') (pairsL rows bag) ys → Q (.ref q) H'
theorem h__law_next (T : Top K mg) : Has P w K mg base "_law_next" 4 ["_law_rows", "_law_bag"] (sp__law_next K) := by
  have nd := sc_L_next.nd
  have h__law_ends := h__law_ends (P := P) (w := w) (base := base) T
  have h__law_lasts := h__law_lasts (P := P) (w := w) (base := base) T
  have h__law_parts := h__law_parts (P := P) (w := w) (base := base) T
  have h__law_is_loose := h__law_is_loose (P := P) (w := w) (base := base) T
  refine has_of T dL_next (by simp [fn, fn0, fn1, fn2, fn3]) rfl (by decide +kernel) rfl sc_L_next (fun vs H Q E ⟨r, m, rows, bag, e, _⟩ => by rw [e]; rfl) (fun _ _ _ _ _ _ us hl => match us, hl with | [_, _], _ => rfl) (fun cdv A outer s H vs Q E hr h => ?_)
  obtain ⟨r, m, rows, bag, rfl, hr0, R, L0, q⟩ := h
  -- cells: ['_law_ends_here', '_law_rows']; slots {'_law_rows': 0, '_law_bag': 1, '_law_ends_here': 2, '_law_part': 3}
  refine ⟨_, (pss_cons (ps_set (i := 2) nd rfl (Or.inr rfl) (pe_has h__law_ends (hr.mono (by omega)) (by rfl) (pa_cons (pv 0) (pa_cons (pv 1) pa_nil))))
      (pss_one (ps_ret (pe_lc (own := [("_law_part", 3)]) (g := (gName 3)) (tt := _) rfl nd (pi_list (pe_has h__law_parts (hr.mono (by omega)) (by rfl) (pa_cons (pv 0) (pa_cons (pv 1) pa_nil)))) (blkOk_by (by kernel_rfl)) (fun _ _ _ _ _ => (pg_name (i := 3) nd rfl (Or.inl rfl))) (fun _ _ _ _ _ => (pts_one (pt_val (pe_has h__law_is_loose (hr.mono (by omega)) (by rfl) (pa_cons (pv 2) (pa_cons (pv 3) pa_nil)))))) (fun _ _ _ _ _ => (pe_tup (pa_cons (pv 3) (pa_cons (pe_has h__law_lasts (hr.mono (by omega)) (by rfl) (pa_cons (pv 0) (pa_cons (pv 3) pa_nil))) pa_nil)))))))), ?_⟩
  have hL := L0.len R
  have A0 := R.arr L0
  refine ⟨.ref r, rfl, _, rfl, r, m, rows, bag, rfl, hr0, R, L0, fun H1 d e1 hd1 => ?_⟩
  refine ⟨.ref r, rfl, _, rfl, r, m, rows, bag, rfl, e1.seq hr0, R, L0, fun H2 q2 e2 hq2 => ?_⟩
  have e12 := e1.trans e2
  have pl := partsL_len (a := ar rows bag) (L := bag)
  refine ⟨q2, rfl, ⟨_, .inl (.inl hq2)⟩, fun D hD => lcLiT (partsL (ar rows bag) bag) (fun p x => x = tx p) (fun p => if looseL (ar rows bag) p = true then some (p, lastL rows p) else none) (fun p y H => ∃ r, y = .ref r ∧ r ≠ D ∧ H r = some (.tup [tx p.1, tx p.2])) (.inl (.inl hq2)) ?_ hD (fun p y H H' k ⟨r, h1, h2, h3⟩ => ⟨r, h1, h2, k _ _ h2 h3⟩) (line_small (by omega)) (fun p hp x H3 e3 hDl hx R1 R0 k1 k0 => ⟨rfl, ?_⟩) fun H3 ys e3 hDy f2 => ?_⟩
  · have : ∀ l : List (List Nat), F2 (fun p x => x = tx p) l (l.map tx) := fun l => by
      induction l with
      | nil => exact .nil
      | cons a r ih => exact .cons rfl ih
    exact this _
  · subst hx
    obtain ⟨s, hsL, hss, rfl⟩ := (partsL_mem A0).mp hp
    have hLp : LotOf rows (part (ar rows bag) bag s) := ⟨part_asc A0 s, fun x hx => L0.sub x (part_sub A0 s x hx)⟩
    refine ⟨.ref d, rfl, _, rfl, d, ar rows bag, bag, _, rfl, .inl ((e2.trans e3).same _ _ hd1), A0, hL, part_asc A0 s, part_sub A0 s, fun H4 e4 => ⟨_, rfl, ite2 (fun hc => ?_) fun hc => k0 _ (if_neg hc) e4⟩⟩
    refine ⟨_, rfl, .ref r, rfl, _, rfl, r, m, rows, _, rfl, (e12.trans (e3.trans e4)).seq hr0, R, hLp, fun H5 e5 => ⟨by show 2 ≤ sizeLine; decide, fun p0 np => k1 _ _ _ (if_pos hc) ((e4.trans e5).then np rfl) ⟨p0, rfl, fun z => ?_, upd_same⟩⟩⟩
    obtain ⟨ys', hys⟩ := hDl
    rw [z, (e4.trans e5).same _ _ hys] at np; cases np
  · refine q H3 D ys (e12.trans e3) hDy ?_
    rw [fm_ifm (looseL (ar rows bag)) (fun p => (p, lastL rows p))] at f2
    exact f2.mono fun p y ⟨r, h1, _, h3⟩ => ⟨r, h1, h3⟩
theorem eqvAll_txs : ∀ ls ms : List (List Nat), PyData.eqvAll (ls.map dtx) (ms.map dtx) = decide (ls = ms)
  | [], [] => rfl
  | [], b :: ms => rfl
  | a :: ls, [] => rfl
  | a :: ls, b :: ms => by
    show (PyData.eqv (dtx a) (dtx b) && PyData.eqvAll (ls.map dtx) (ms.map dtx)) = _
    rw [eqvAll_txs ls ms]
    have e : PyData.eqv (dtx a) (dtx b) = decide (a = b) := by
      show (S a == S b) = _
      by_cases h : a = b
      · rw [h]; simp
      · rw [decide_eq_false h]; exact beq_eq_false_iff_ne.mpr fun z => h (S_inj z)
    rw [e]
    by_cases h : a = b
    · subst h; simp
    · simp [h]
theorem endless_iff {rows : List (List Nat)} {L : List Nat} (hL : Asc L) : endless rows L = (decide (partsL (ar rows L) L = [L]) && looseL (ar rows L) L) := by
  have A := ar_arr rows hL
  have key : L ∈ partsL (ar rows L) L → partsL (ar rows L) L = [L] := fun h => by
    obtain ⟨s, hs, hss, e⟩ := (partsL_mem A).mp h
    refine ascT_eq partsL_asc (List.pairwise_singleton _ _) fun x => ?_
    rw [List.mem_singleton]
    refine ⟨fun hx => ?_, fun hx => hx ▸ h⟩
    obtain ⟨t, ht, htt, rfl⟩ := (partsL_mem A).mp hx
    rw [e] at ht
    rw [part_eq A ht]; exact e.symm
  unfold endless looseParts
  by_cases h : L ∈ partsL (ar rows L) L
  · rw [key h]
    cases hl : looseL (ar rows L) L with
    | true => simp [hl]
    | false => simp [hl]
  · have h2 : ¬ partsL (ar rows L) L = [L] := fun e => h (by rw [e]; simp)
    rw [decide_eq_false h2, decide_eq_false fun z => h (List.mem_filter.mp z).1]; rfl
theorem sc_L_stays : FnScope ["_law_rows", "_law_bag"] ["_law_rows", "_law_bag"] (defScope sL_stays) := ⟨rfl, rfl, rfl, by decide +kernel, rfl, by decide +kernel, by decide +kernel⟩
def sp__law_stays (K : PySem.W.Frag) : Sp := fun vs H Q _ => ∃ (r : Addr) (m : Nat) (rows : List (List Nat)) (bag : List Nat), vs = [.ref r, tx bag] ∧ SqL K H r (rows.map tx) ∧ Rows m rows ∧ LotOf rows bag ∧ ∀ H', Ext H H' → Q (.bl (endless rows bag)) H'
theorem h__law_stays (T : Top K mg) : Has P w K mg base "_law_stays" 4 ["_law_rows", "_law_bag"] (sp__law_stays K) := by
  have nd := sc_L_stays.nd
  have h__law_is_loose := h__law_is_loose (P := P) (w := w) (base := base) T
  have h__law_parts := h__law_parts (P := P) (w := w) (base := base) T
  have h__law_ends := h__law_ends (P := P) (w := w) (base := base) T
  refine has_of T dL_stays (by simp [fn, fn0, fn1, fn2, fn3]) rfl (by decide +kernel) rfl sc_L_stays (fun vs H Q E ⟨r, m, rows, bag, e, _⟩ => by rw [e]; rfl) (fun _ _ _ _ _ _ us hl => match us, hl with | [_, _], _ => rfl) (fun cdv A outer s H vs Q E hr h => ?_)
  obtain ⟨r, m, rows, bag, rfl, hr0, R, L0, q⟩ := h
  -- cells: []; slots {'_law_rows': 0, '_law_bag': 1}
  refine ⟨_, (pss_one (ps_ret (pe_and (pe_cmpR (op_eqD hr.units) (pe_has h__law_parts (hr.mono (by omega)) (by rfl) (pa_cons (pv 0) (pa_cons (pv 1) pa_nil))) (pe_lst (pa_cons (pv 1) pa_nil)) (nomark _)) (pe_one (pe_has h__law_is_loose (hr.mono (by omega)) (by rfl) (pa_cons (pe_has h__law_ends (hr.mono (by omega)) (by rfl) (pa_cons (pv 0) (pa_cons (pv 1) pa_nil))) (pa_cons (pv 1) pa_nil))))))), ?_⟩
  have hL := L0.len R
  have A0 := R.arr L0
  have hlow := L0.low R
  rw [endless_iff L0.asc] at q
  refine ⟨.ref r, rfl, _, rfl, r, m, rows, bag, rfl, hr0, R, L0, fun H1 q1 e1 hq1 => ?_⟩
  refine ⟨tx bag, rfl, by show 1 ≤ sizeLine; decide, fun p np => ?_⟩
  have e2 := (Ext.refl H1).then (o := .lst [tx bag]) np rfl
  have e12 := e1.trans e2
  refine ⟨.list ((partsL (ar rows bag) bag).map dtx), .list ([bag].map dtx), .lst (.inl (.inl (e2.same _ _ hq1))) (dp_txs _), .lst (.inl (.inl upd_same)) (dp_txs [bag]), shaped_txs (fun l hl => ?_), shaped_txs (fun l hl => ?_), _, rfl, ?_⟩
  · obtain ⟨s, hs, hss, rfl⟩ := (partsL_mem A0).mp hl
    exact low_cps fun c hc => hlow c (part_sub A0 s c hc)
  · rw [List.mem_singleton] at hl; rw [hl]; exact low_cps hlow
  · have e0 : PyData.eqv (.list ((partsL (ar rows bag) bag).map dtx)) (.list ([bag].map dtx)) = decide (partsL (ar rows bag) bag = [bag]) := eqvAll_txs _ _
    rw [e0]
    cases hd : decide (partsL (ar rows bag) bag = [bag]) with
    | false =>
      refine iteF ?_
      have := q _ e12
      rw [hd] at this
      exact this
    | true =>
      refine iteT ⟨.ref r, rfl, _, rfl, r, m, rows, bag, rfl, e12.seq hr0, R, L0, fun H3 d e3 hd3 => ⟨tx bag, rfl, d, ar rows bag, bag, bag, rfl, .inl hd3, A0, hL, L0.asc, fun _ h => h, fun H4 e4 => ?_⟩⟩
      have := q _ (e12.trans (e3.trans e4))
      rw [hd, Bool.true_and] at this
      exact this
end
end K58
set_option Elab.async false
set_option linter.all false
set_option maxRecDepth 100000
/-! The law's rows, level by level. -/
namespace K58
def nextOpen (rows : List (List Nat)) (q : Nat × List Nat) : List (Nat × List Nat) := if isLeaf rows q.2 = true then [] else (kids rows q.2).map fun p => (q.1 + 1, p.2)
def bfs (rows : List (List Nat)) : Nat → List (Nat × List Nat) → List (Nat × List Nat)
  | 0, _ => []
  | f + 1, os => os.filter (fun q => isLeaf rows q.2) ++ bfs rows f (os.flatMap (nextOpen rows))
theorem bfs_mem {rows : List (List Nat)} : ∀ (f : Nat) (os : List (Nat × List Nat)) (x : Nat × List Nat), x ∈ bfs rows f os ↔ ∃ q ∈ os, x ∈ leavesF rows f q.1 q.2
  | 0, os, x => by simp [bfs, leavesF]
  | f + 1, os, x => by
    rw [bfs, List.mem_append, bfs_mem f, List.mem_filter]
    constructor
    · rintro (⟨h1, h2⟩ | ⟨q, hq, hx⟩)
      · refine ⟨x, h1, ?_⟩
        rw [leavesF, if_pos h2]; simp
      · obtain ⟨o, ho, hq⟩ := List.mem_flatMap.mp hq
        refine ⟨o, ho, ?_⟩
        unfold nextOpen at hq
        by_cases hl : isLeaf rows o.2 = true
        · rw [if_pos hl] at hq; cases hq
        · rw [if_neg hl] at hq
          obtain ⟨p, hp, rfl⟩ := List.mem_map.mp hq
          rw [leavesF, if_neg hl]
          exact List.mem_flatMap.mpr ⟨p, hp, hx⟩
    · rintro ⟨o, ho, hx⟩
      rw [leavesF] at hx
      by_cases hl : isLeaf rows o.2 = true
      · rw [if_pos hl, List.mem_singleton] at hx
        left
        have : x = o := hx
        rw [this]; exact ⟨ho, hl⟩
      · rw [if_neg hl] at hx
        obtain ⟨p, hp, hx⟩ := List.mem_flatMap.mp hx
        right
        refine ⟨(o.1 + 1, p.2), List.mem_flatMap.mpr ⟨o, ho, ?_⟩, hx⟩
        unfold nextOpen
        rw [if_neg hl]
        exact List.mem_map.mpr ⟨p, hp, rfl⟩
end K58
set_option Elab.async false
set_option linter.all false
set_option maxRecDepth 100000
/-! The law's tree, level by level, with the rows themselves; the root. -/
namespace K58
def lastOf (one : List (List Nat)) : List Nat := one.getLastD []
theorem lastOf_snoc (one : List (List Nat)) (p : List Nat) : lastOf (one ++ [p]) = p := by simp [lastOf]
theorem lastOf_two (one : List (List Nat)) (p q : List Nat) : lastOf (one ++ [p, q]) = q := by
  have : one ++ [p, q] = (one ++ [p]) ++ [q] := by simp
  rw [this, lastOf_snoc]
def mu (one : List (List Nat)) : Nat × List Nat := ((one.length + 1) / 2, lastOf one)
def isLf (rows one : List (List Nat)) : Bool := isLeaf rows (lastOf one)
def moreR (rows one : List (List Nat)) : List (List (List Nat)) := if isLf rows one = true then [] else (kids rows (lastOf one)).map fun p => one ++ [p.1, p.2]
def bfsR (rows : List (List Nat)) : Nat → List (List (List Nat)) → List (List (List Nat))
  | 0, _ => []
  | f + 1, os => os.filter (isLf rows) ++ bfsR rows f (os.flatMap (moreR rows))
theorem more_mu (rows one : List (List Nat)) : (moreR rows one).map mu = nextOpen rows (mu one) := by
  unfold moreR nextOpen
  by_cases h : isLf rows one = true
  · rw [if_pos h, if_pos (show isLeaf rows (mu one).2 = true from h)]; rfl
  · rw [if_neg h, if_neg (show ¬ isLeaf rows (mu one).2 = true from h), List.map_map]
    refine List.map_congr_left fun p _ => ?_
    show mu (one ++ [p.1, p.2]) = _
    unfold mu
    rw [lastOf_two, List.length_append]
    have : (one.length + [p.1, p.2].length + 1) / 2 = (one.length + 1) / 2 + 1 := by simp; omega
    rw [this]
theorem bfs_mu (rows : List (List Nat)) : ∀ (f : Nat) (os : List (List (List Nat))), (bfsR rows f os).map mu = bfs rows f (os.map mu)
  | 0, _ => rfl
  | f + 1, os => by
    rw [bfsR, bfs, List.map_append, bfs_mu rows f]
    have h1 : (os.filter (isLf rows)).map mu = (os.map mu).filter (fun q => isLeaf rows q.2) := by rw [List.filter_map]; rfl
    have h2 : (os.flatMap (moreR rows)).map mu = (os.map mu).flatMap (nextOpen rows) := by
      rw [List.map_flatMap, List.flatMap_map]
      exact flatMap_same os fun x _ => more_mu rows x
    rw [h1, h2]
/-- steps of the law's outer loop: found, open -/
def lapR (rows : List (List Nat)) : Nat → List (List (List Nat)) × List (List (List Nat)) → List (List (List Nat)) × List (List (List Nat))
  | 0, x => x
  | f + 1, x => let y := lapR rows f x; (y.1 ++ y.2.filter (isLf rows), y.2.flatMap (moreR rows))
theorem lapR_bfs (rows : List (List Nat)) : ∀ (f g : Nat) (os : List (List (List Nat))), bfsR rows (f + g) os = (lapR rows f ([], os)).1 ++ bfsR rows g (lapR rows f ([], os)).2
  | 0, g, os => by rw [Nat.zero_add]; rfl
  | f + 1, g, os => by
    have h := lapR_bfs rows f (g + 1) os
    have e : f + 1 + g = f + (g + 1) := by omega
    rw [e, h]
    show _ = ((lapR rows f ([], os)).1 ++ (lapR rows f ([], os)).2.filter (isLf rows)) ++ bfsR rows g ((lapR rows f ([], os)).2.flatMap (moreR rows))
    rw [bfsR, List.append_assoc]
theorem lapR_all (rows : List (List Nat)) (f : Nat) (os : List (List (List Nat))) : (lapR rows f ([], os)).1 = bfsR rows f os := by
  have h := lapR_bfs rows f 0 os
  rw [Nat.add_zero] at h
  rw [h]; simp [bfsR]
/-! ### sizes -/
def Tame (rows one : List (List Nat)) : Prop := Asc (lastOf one) ∧ Sub (lastOf one) (labs rows) ∧ lastOf one ≠ []
theorem parts_disj {a : Nat → List Nat} {L : List Nat} (A : Arr a L) {p q : List Nat} (hp : p ∈ partsL a L) (hq : q ∈ partsL a L) {x : Nat} (h1 : x ∈ p) (h2 : x ∈ q) : p = q := by
  obtain ⟨s, _, _, rfl⟩ := (partsL_mem A).mp hp
  obtain ⟨t, _, _, rfl⟩ := (partsL_mem A).mp hq
  rw [← part_eq A h1, ← part_eq A h2]
theorem sum_flat (ls : List (List Nat × List Nat)) : (ls.map fun p => p.2.length).sum = (ls.flatMap fun p => p.2).length := by
  induction ls with
  | nil => rfl
  | cons a r ih => rw [List.map_cons, List.sum_cons, List.flatMap_cons, List.length_append, ih]
theorem kids_weight {rows : List (List Nat)} (ne : NE rows) {L : List Nat} (hL : Asc L) : ((kids rows L).map fun p => p.2.length).sum ≤ L.length := by
  have A := ar_arr rows hL
  rw [sum_flat]
  refine nd_len _ _ ?_ fun x hx => ?_
  · refine List.pairwise_flatMap.mpr ⟨fun p hp => (kid_lot ne hL hp).1.nodup, ?_⟩
    unfold kids pairsL
    refine List.Pairwise.filter _ (List.pairwise_map.mpr ?_)
    unfold looseParts
    refine (List.Pairwise.and_mem.mp (List.Pairwise.filter _ (partsL_asc (a := ar rows L) (lot := L)).nodup)).imp fun {p q} ⟨hp, hq, hpq⟩ x hx y hy e => hpq ?_
    have hp' := (List.mem_filter.mp hp).1
    have hq' := (List.mem_filter.mp hq).1
    exact parts_disj A hp' hq' (lastL_sub ne x hx) (e ▸ lastL_sub ne y hy)
  · obtain ⟨p, hp, hx⟩ := List.mem_flatMap.mp hx
    exact (kid_lot ne hL hp).2.1 x hx
def wt (os : List (List (List Nat))) : Nat := (os.map fun one => (lastOf one).length).sum
theorem wt_app (a b : List (List (List Nat))) : wt (a ++ b) = wt a + wt b := by unfold wt; rw [List.map_append, List.sum_append]
theorem wt_len {rows : List (List Nat)} : ∀ (os : List (List (List Nat))), (∀ o ∈ os, Tame rows o) → os.length ≤ wt os
  | [], _ => Nat.zero_le _
  | o :: r, h => by
    have h1 := wt_len r fun x hx => h x (List.mem_cons_of_mem _ hx)
    have h2 := List.length_pos_iff.mpr (h o List.mem_cons_self).2.2
    have e : wt (o :: r) = (lastOf o).length + wt r := by unfold wt; rw [List.map_cons, List.sum_cons]
    rw [e, List.length_cons]; omega
theorem more_wt {rows : List (List Nat)} (ne : NE rows) {one : List (List Nat)} (t : Tame rows one) : wt (moreR rows one) + wt ([one].filter (isLf rows)) ≤ (lastOf one).length := by
  unfold moreR
  by_cases h : isLf rows one = true
  · rw [if_pos h]
    have : [one].filter (isLf rows) = [one] := by simp [h]
    rw [this]; simp [wt]
  · rw [if_neg h]
    have : [one].filter (isLf rows) = [] := by simp [h]
    rw [this]
    have e : wt ((kids rows (lastOf one)).map fun p => one ++ [p.1, p.2]) = ((kids rows (lastOf one)).map fun p => p.2.length).sum := by
      unfold wt
      rw [List.map_map]
      refine congrArg List.sum (List.map_congr_left fun p _ => ?_)
      show (lastOf (one ++ [p.1, p.2])).length = _
      rw [lastOf_two]
    rw [e]
    have := kids_weight ne t.1
    simp [wt]; exact this
theorem more_tame {rows : List (List Nat)} (ne : NE rows) {one : List (List Nat)} (t : Tame rows one) : ∀ o ∈ moreR rows one, Tame rows o := fun o ho => by
  unfold moreR at ho
  by_cases h : isLf rows one = true
  · rw [if_pos h] at ho; cases ho
  · rw [if_neg h] at ho
    obtain ⟨p, hp, rfl⟩ := List.mem_map.mp ho
    obtain ⟨h1, h2, h3, _⟩ := kid_lot ne t.1 hp
    unfold Tame
    rw [lastOf_two]
    exact ⟨h1, fun x hx => t.2.1 x (h2 x hx), h3⟩
theorem lap_wt {rows : List (List Nat)} (ne : NE rows) : ∀ (os : List (List (List Nat))), (∀ o ∈ os, Tame rows o) → wt (os.filter (isLf rows)) + wt (os.flatMap (moreR rows)) ≤ wt os
  | [], _ => Nat.zero_le _
  | o :: r, h => by
    have h1 := lap_wt ne r fun x hx => h x (List.mem_cons_of_mem _ hx)
    have h2 := more_wt ne (h o List.mem_cons_self)
    have e : wt (o :: r) = (lastOf o).length + wt r := by unfold wt; rw [List.map_cons, List.sum_cons]
    have e2 : (o :: r).filter (isLf rows) = [o].filter (isLf rows) ++ r.filter (isLf rows) := by rw [← List.filter_append]; rfl
    rw [e, e2, List.flatMap_cons, wt_app, wt_app]
    omega
/-- what stands after so many laps -/
structure LapOk (rows : List (List Nat)) (k : Nat) (x : List (List (List Nat)) × List (List (List Nat))) : Prop where
  found : ∀ o ∈ x.1, Tame rows o
  opens : ∀ o ∈ x.2, Tame rows o
  wt4 : wt x.1 + wt x.2 ≤ 4
  len1 : ∀ o ∈ x.1, o.length ≤ 2 * k + 1
  len2 : ∀ o ∈ x.2, o.length ≤ 2 * k + 1
theorem LapOk.fl {rows : List (List Nat)} {k : Nat} {x : List (List (List Nat)) × List (List (List Nat))} (h : LapOk rows k x) : x.1.length + x.2.length ≤ 4 := by
  have := wt_len x.1 h.found
  have := wt_len x.2 h.opens
  have := h.wt4
  omega
theorem lapR_ok {rows : List (List Nat)} (ne : NE rows) (few : (labs rows).length ≤ 4) {os : List (List (List Nat))} (h : LapOk rows 0 ([], os)) : ∀ k, LapOk rows k (lapR rows k ([], os))
  | 0 => h
  | k + 1 => by
    have ih := lapR_ok ne few h k
    have hw := lap_wt ne _ ih.opens
    refine ⟨fun o ho => ?_, fun o ho => ?_, ?_, fun o ho => ?_, fun o ho => ?_⟩
    · rcases List.mem_append.mp ho with h | h
      · exact ih.found o h
      · exact ih.opens o (List.mem_filter.mp h).1
    · obtain ⟨q, hq, ho⟩ := List.mem_flatMap.mp ho
      exact more_tame ne (ih.opens q hq) o ho
    · show wt ((lapR rows k ([], os)).1 ++ (lapR rows k ([], os)).2.filter (isLf rows)) + wt ((lapR rows k ([], os)).2.flatMap (moreR rows)) ≤ 4
      rw [wt_app]
      have := ih.wt4
      omega
    · rcases List.mem_append.mp ho with h | h
      · have := ih.len1 o h; omega
      · have := ih.len2 o (List.mem_filter.mp h).1; omega
    · obtain ⟨q, hq, ho⟩ := List.mem_flatMap.mp ho
      unfold moreR at ho
      split at ho
      · cases ho
      · obtain ⟨p, _, rfl⟩ := List.mem_map.mp ho
        have := ih.len2 q hq
        simp; omega
/-- where the law begins -/
def openR (rows : List (List Nat)) : List (List (List Nat)) := if firstL rows = [] then [] else [[firstL rows]]
theorem first_tame {rows : List (List Nat)} (ne : NE rows) (h : firstL rows ≠ []) : Tame rows [firstL rows] := ⟨lastL_asc (lotL_asc _), fun x hx => lastL_sub ne x hx, h⟩
theorem openR_ok {rows : List (List Nat)} (ne : NE rows) (few : (labs rows).length ≤ 4) : LapOk rows 0 ([], openR rows) := by
  unfold openR
  by_cases h : firstL rows = []
  · rw [if_pos h]
    exact ⟨fun o h => by (cases h), fun o h => by (cases h), Nat.zero_le _, fun o h => by (cases h), fun o h => by (cases h)⟩
  · rw [if_neg h]
    have t := first_tame ne h
    refine ⟨fun o h => by (cases h), fun o ho => ?_, ?_, fun o h => by (cases h), fun o ho => ?_⟩
    · rw [List.mem_singleton] at ho; rw [ho]; exact t
    · show wt [] + wt [[firstL rows]] ≤ 4
      have : wt [[firstL rows]] = (firstL rows).length := by simp [wt, lastOf]
      rw [this]
      have := asc_len t.1 t.2.1
      have e : lastOf [firstL rows] = firstL rows := rfl
      rw [e] at this
      simp [wt]; omega
    · rw [List.mem_singleton] at ho; rw [ho]; simp
def goodR (rows : List (List Nat)) : List (List (List Nat)) := (lapR rows ((labs rows).length + 2) ([], openR rows)).1
theorem good_leaves {rows : List (List Nat)} (ne : NE rows) (x : Nat × List Nat) : x ∈ (goodR rows).map mu ↔ x ∈ leaves rows := by
  unfold goodR
  rw [lapR_all, bfs_mu, bfs_mem]
  unfold openR leaves
  by_cases h : firstL rows = []
  · rw [if_pos h, if_pos h]; simp
  · rw [if_neg h, if_neg h]
    have e : [[firstL rows]].map mu = [(1, firstL rows)] := by simp [mu, lastOf]
    rw [e]
    have t := first_tame ne h
    have hl : (firstL rows).length ≤ (labs rows).length := asc_len t.1 t.2.1
    have := leaves_fuel ne ((labs rows).length + 2) ((firstL rows).length + 1) 1 (firstL rows) t.1 (by omega) (by omega)
    simp [this]
/-- the law's root, of what it found -/
def rootOf (rows : List (List Nat)) (fs : List (List (List Nat))) : Option Nat := if fs.any (fun o => endless rows (lastOf o)) = true then none else some (maxN (fs.map fun o => (o.length + 1) / 2))
theorem rootOf_eq {rows : List (List Nat)} (ne : NE rows) {fs : List (List (List Nat))} (h : ∀ x, x ∈ fs ↔ x ∈ goodR rows) : rootOf rows fs = rootL rows := by
  have hm : ∀ x, x ∈ fs.map mu ↔ x ∈ leaves rows := fun x => by
    rw [← good_leaves ne, List.mem_map, List.mem_map]
    exact ⟨fun ⟨o, h1, h2⟩ => ⟨o, (h o).mp h1, h2⟩, fun ⟨o, h1, h2⟩ => ⟨o, (h o).mpr h1, h2⟩⟩
  unfold rootOf rootL
  have e1 : fs.any (fun o => endless rows (lastOf o)) = (leaves rows).any (fun q => endless rows q.2) := by
    rw [Bool.eq_iff_iff, List.any_eq_true, List.any_eq_true]
    constructor
    · rintro ⟨o, h1, h2⟩
      exact ⟨mu o, (hm _).mp (List.mem_map.mpr ⟨o, h1, rfl⟩), h2⟩
    · rintro ⟨q, h1, h2⟩
      obtain ⟨o, h3, rfl⟩ := List.mem_map.mp ((hm q).mpr h1)
      exact ⟨o, h3, h2⟩
  have e2 : maxN (fs.map fun o => (o.length + 1) / 2) = maxN ((leaves rows).map (·.1)) := by
    refine maxN_eq ?_ fun x hx => ?_
    · rcases maxN_mem (fs.map fun o => (o.length + 1) / 2) with q | q
      · exact .inl q
      · right
        obtain ⟨o, ho, e⟩ := List.mem_map.mp q
        exact List.mem_map.mpr ⟨mu o, (hm _).mp (List.mem_map.mpr ⟨o, ho, rfl⟩), e⟩
    · obtain ⟨q, hq, rfl⟩ := List.mem_map.mp hx
      obtain ⟨o, ho, rfl⟩ := List.mem_map.mp ((hm q).mpr hq)
      exact maxN_le _ _ (List.mem_map.mpr ⟨o, ho, rfl⟩)
  rw [e1, e2]
end K58
set_option Elab.async false
set_option linter.all false
set_option maxRecDepth 100000
/-! All sets of rows, as the law orders them. -/
namespace K58
/-- less, as tuples of texts are compared -/
def ltLL : List (List Nat) → List (List Nat) → Bool
  | [], [] => false
  | [], _ :: _ => true
  | _ :: _, [] => false
  | a :: r, b :: t => ltL a b || (decide (a = b) && ltLL r t)
theorem ltLL_irr : ∀ a : List (List Nat), ltLL a a = false
  | [] => rfl
  | a :: r => by simp [ltLL, ltL_irr a, ltLL_irr r]
theorem ltLL_trans : ∀ a b c : List (List Nat), ltLL a b = true → ltLL b c = true → ltLL a c = true
  | [], [], [], h1, _ => by simp [ltLL] at h1
  | [], _ :: _, [], _, h2 => by simp [ltLL] at h2
  | [], _, _ :: _, _, _ => rfl
  | _ :: _, [], _, h1, _ => by simp [ltLL] at h1
  | _ :: _, _ :: _, [], _, h2 => by simp [ltLL] at h2
  | a :: r, b :: t, c :: u, h1, h2 => by
    simp only [ltLL, Bool.or_eq_true, Bool.and_eq_true, decide_eq_true_eq] at h1 h2 ⊢
    rcases h1 with h1 | ⟨h1, h3⟩
    · rcases h2 with h2 | ⟨h2, _⟩
      · exact .inl (ltL_trans _ _ _ h1 h2)
      · subst h2; exact .inl h1
    · subst h1
      rcases h2 with h2 | ⟨h2, h4⟩
      · exact .inl h2
      · exact .inr ⟨h2, ltLL_trans r t u h3 h4⟩
theorem ltLL_tri : ∀ a b : List (List Nat), ltLL a b = true ∨ a = b ∨ ltLL b a = true
  | [], [] => .inr (.inl rfl)
  | [], _ :: _ => .inl rfl
  | _ :: _, [] => .inr (.inr rfl)
  | a :: r, b :: t => by
    simp only [ltLL, Bool.or_eq_true, Bool.and_eq_true, decide_eq_true_eq]
    rcases ltL_tri a b with h | h | h
    · exact .inl (.inl h)
    · subst h
      rcases ltLL_tri r t with h1 | h1 | h1
      · exact .inl (.inr ⟨rfl, h1⟩)
      · exact .inr (.inl (by rw [h1]))
      · exact .inr (.inr (.inr ⟨rfl, h1⟩))
    · exact .inr (.inr (.inl h))
theorem ltLL_asymm {a b : List (List Nat)} (h : ltLL a b = true) : ltLL b a = false := by
  cases e : ltLL b a with
  | false => rfl
  | true => have := ltLL_trans a b a h e; rw [ltLL_irr] at this; cases this
def AscLL (l : List (List (List Nat))) : Prop := l.Pairwise fun a b => ltLL a b = true
theorem ascLL_eq {a b : List (List (List Nat))} (ha : AscLL a) (hb : AscLL b) (h : ∀ x, x ∈ a ↔ x ∈ b) : a = b :=
  rising_eq (lt := fun a b => ltLL a b = true) (fun a h => by rw [ltLL_irr] at h; cases h) (fun a b c h1 h2 => ltLL_trans _ _ _ h1 h2) a b ha hb h
/-- all sublists -/
def powL {α : Type} (rows : List α) : List (List α) := rows.foldl (fun f r => f ++ f.map fun p => p ++ [r]) [[]]
theorem powL_snoc {α : Type} (rows : List α) (r : α) : powL (rows ++ [r]) = powL rows ++ (powL rows).map fun p => p ++ [r] := by
  unfold powL
  rw [List.foldl_append]; rfl
theorem powL_len {α : Type} (rows : List α) : (powL rows).length = 2 ^ rows.length := by
  have h : ∀ (rs : List α) (f : List (List α)), (rs.foldl (fun f r => f ++ f.map fun p => p ++ [r]) f).length = f.length * 2 ^ rs.length := by
    intro rs
    induction rs with
    | nil => intro f; simp
    | cons r rs ih =>
      intro f
      rw [List.foldl_cons, ih, List.length_append, List.length_map, List.length_cons, Nat.pow_succ]
      rw [← Nat.two_mul, Nat.mul_comm 2, Nat.mul_assoc, Nat.mul_comm 2]
  have := h rows [[]]
  unfold powL
  rw [this]; simp
theorem powL_mem {α : Type} (rows : List α) (x : List α) : x ∈ powL rows ↔ x.Sublist rows := by
  have key : ∀ (rs : List α) (f : List (List α)), x ∈ rs.foldl (fun f r => f ++ f.map fun p => p ++ [r]) f ↔ ∃ y ∈ f, ∃ z, z.Sublist rs ∧ x = y ++ z := by
    intro rs
    induction rs with
    | nil => intro f; simp
    | cons r rs ih =>
      intro f
      rw [List.foldl_cons, ih]
      constructor
      · rintro ⟨y, hy, z, hz, rfl⟩
        rcases List.mem_append.mp hy with h | h
        · exact ⟨y, h, z, hz.cons r, rfl⟩
        · obtain ⟨p, hp, rfl⟩ := List.mem_map.mp h
          exact ⟨p, hp, r :: z, hz.cons₂ r, by simp⟩
      · rintro ⟨y, hy, z, hz, rfl⟩
        rcases List.sublist_cons_iff.mp hz with h | ⟨z', rfl, h⟩
        · exact ⟨y, List.mem_append_left _ hy, z, h, rfl⟩
        · exact ⟨y ++ [r], List.mem_append_right _ (List.mem_map.mpr ⟨y, hy, rfl⟩), z', h, by simp⟩
  unfold powL
  rw [key]
  simp
theorem combos_mem {α : Type} : ∀ (rows : List α) (d : Nat) (x : List α), x ∈ combos rows d ↔ x.Sublist rows ∧ x.length = d
  | rows, 0, x => by
    rw [combos_zero, List.mem_singleton]
    exact ⟨fun h => by subst h; simp, fun ⟨_, h⟩ => List.eq_nil_of_length_eq_zero h⟩
  | [], d + 1, x => by
    constructor
    · intro h; cases h
    · rintro ⟨h1, h2⟩
      rw [List.sublist_nil] at h1
      subst h1; cases h2
  | r :: t, d + 1, x => by
    show x ∈ (combos t d).map (r :: ·) ++ combos t (d + 1) ↔ _
    rw [List.mem_append, List.mem_map, combos_mem t (d + 1) x]
    constructor
    · rintro (⟨y, hy, rfl⟩ | ⟨h1, h2⟩)
      · obtain ⟨h1, h2⟩ := (combos_mem t d y).mp hy
        exact ⟨h1.cons₂ r, by simp [h2]⟩
      · exact ⟨h1.cons r, h2⟩
    · rintro ⟨h1, h2⟩
      rcases List.sublist_cons_iff.mp h1 with h | ⟨z', rfl, h⟩
      · exact .inr ⟨h, h2⟩
      · exact .inl ⟨z', (combos_mem t d z').mpr ⟨h, by simpa using h2⟩, rfl⟩
theorem combos_asc : ∀ (rows : List (List Nat)) (d : Nat), AscT rows → AscLL (combos rows d)
  | rows, 0, _ => by rw [combos_zero]; exact List.pairwise_singleton _ _
  | [], d + 1, _ => List.Pairwise.nil
  | r :: t, d + 1, h => by
    obtain ⟨h1, h2⟩ := List.pairwise_cons.mp h
    show List.Pairwise _ ((combos t d).map (r :: ·) ++ combos t (d + 1))
    refine List.pairwise_append.mpr ⟨?_, combos_asc t (d + 1) h2, fun x hx y hy => ?_⟩
    · refine List.pairwise_map.mpr ((combos_asc t d h2).imp fun {a b} h => ?_)
      simp [ltLL, h]
    · obtain ⟨x', _, rfl⟩ := List.mem_map.mp hx
      obtain ⟨s1, l1⟩ := (combos_mem t (d + 1) y).mp hy
      cases y with
      | nil => cases l1
      | cons b y' =>
        have hb : b ∈ t := s1.mem List.mem_cons_self
        have := h1 b hb
        unfold ltT at this
        simp [ltLL, this]
theorem combos_all {α : Type} : ∀ rows : List α, combos rows rows.length = [rows]
  | [] => rfl
  | r :: t => by
    have h : combos t (t.length + 1) = [] := by
      cases e : combos t (t.length + 1) with
      | nil => rfl
      | cons x _ =>
        obtain ⟨h1, h2⟩ := (combos_mem t (t.length + 1) x).mp (by rw [e]; exact List.mem_cons_self)
        have := h1.length_le
        omega
    show (combos t t.length).map (r :: ·) ++ combos t (t.length + 1) = _
    rw [h, combos_all t]; rfl
/-- the law's order -/
theorem pow_size {rows : List (List Nat)} (hr : AscT rows) {zs : List (List (List Nat))} (hz : AscLL zs) (hm : ∀ x, x ∈ zs ↔ x ∈ powL rows) (d : Nat) : zs.filter (fun x => decide (x.length = d)) = combos rows d := by
  refine ascLL_eq (List.Pairwise.filter _ hz) (combos_asc rows d hr) fun x => ?_
  rw [List.mem_filter, hm, powL_mem, combos_mem, decide_eq_true_eq]
theorem order_sets (rows : List (List Nat)) : (List.range (rows.length + 1)).flatMap (fun d => combos rows d) = setsL rows ++ [rows] := by
  rw [List.range_succ, List.flatMap_append, List.flatMap_cons, combos_all]
  simp [setsL]
theorem sets_drop (rows : List (List Nat)) : (setsL rows ++ [rows]).dropLast = setsL rows := by simp
theorem sets_sub {rows x : List (List Nat)} (h : x ∈ setsL rows) : x.Sublist rows ∧ x.length < rows.length := by
  unfold setsL at h
  obtain ⟨d, hd, hx⟩ := List.mem_flatMap.mp h
  obtain ⟨h1, h2⟩ := (combos_mem rows d x).mp hx
  exact ⟨h1, by rw [h2]; exact List.mem_range.mp hd⟩
theorem powL_order {rows x : List (List Nat)} (h : x ∈ setsL rows ++ [rows]) : x ∈ powL rows := by
  rw [powL_mem]
  rcases List.mem_append.mp h with h | h
  · exact (sets_sub h).1
  · rw [List.mem_singleton] at h; rw [h]; exact List.Sublist.refl _
theorem order_len (rows : List (List Nat)) (hr : AscT rows) : (setsL rows ++ [rows]).length ≤ 2 ^ rows.length := by
  rw [← powL_len]
  refine nd_len _ _ ?_ fun x hx => powL_order hx
  rw [← order_sets]
  refine List.pairwise_flatMap.mpr ⟨fun d _ => (combos_asc rows d hr).imp fun {a b} h e => ?_, ?_⟩
  · rw [e, ltLL_irr] at h; cases h
  · refine (List.nodup_range (n := rows.length + 1)).imp fun {d e} hde x hx y hy exy => hde ?_
    rw [← ((combos_mem rows d x).mp hx).2, ← ((combos_mem rows e y).mp hy).2, exy]
end K58
set_option Elab.async false
set_option linter.all false
set_option maxRecDepth 100000
/-! No row of lots comes twice. -/
namespace K58
theorem kids_nodup (rows : List (List Nat)) (L : List Nat) : (kids rows L).Nodup := by
  unfold kids pairsL looseParts
  refine List.Pairwise.filter _ (List.Pairwise.map _ (fun a b h e => h ?_) (List.Pairwise.filter _ (partsL_asc (a := ar rows L) (lot := L)).nodup))
  injection e
theorem more_nodup (rows one : List (List Nat)) : (moreR rows one).Nodup := by
  unfold moreR
  by_cases h : isLf rows one = true
  · rw [if_pos h]; exact List.nodup_nil
  · rw [if_neg h]
    refine List.Pairwise.map _ (fun a b h e => h ?_) (kids_nodup rows (lastOf one))
    have e1 := List.append_cancel_left e
    have e2 := (List.cons.inj e1).1
    have e3 := (List.cons.inj (List.cons.inj e1).2).1
    exact Prod.ext e2 e3
theorem more_len {rows one o : List (List Nat)} (h : o ∈ moreR rows one) : o.length = one.length + 2 ∧ o.take one.length = one := by
  unfold moreR at h
  split at h
  · cases h
  · obtain ⟨p, _, rfl⟩ := List.mem_map.mp h
    simp
structure LapNd (k : Nat) (x : List (List (List Nat)) × List (List (List Nat))) : Prop where
  nf : x.1.Nodup
  no : x.2.Nodup
  lf : ∀ o ∈ x.1, o.length < 2 * k + 1
  lo : ∀ o ∈ x.2, o.length = 2 * k + 1
theorem lapR_nd {rows : List (List Nat)} {os : List (List (List Nat))} (h : LapNd 0 ([], os)) : ∀ k, LapNd k (lapR rows k ([], os))
  | 0 => h
  | k + 1 => by
    have ih := lapR_nd h k (rows := rows)
    refine ⟨?_, ?_, fun o ho => ?_, fun o ho => ?_⟩
    · refine List.nodup_append.mpr ⟨ih.nf, List.Pairwise.filter _ ih.no, fun a ha b hb e => ?_⟩
      have h1 := ih.lf a ha
      have h2 := ih.lo b (List.mem_filter.mp hb).1
      rw [e] at h1; omega
    · refine List.pairwise_flatMap.mpr ⟨fun o _ => more_nodup rows o, ?_⟩
      refine (List.Pairwise.and_mem.mp ih.no).imp fun {a b} ⟨ha, hb, hab⟩ x hx y hy e => hab ?_
      have h1 := more_len hx
      have h2 := more_len hy
      rw [ih.lo a ha] at h1
      rw [ih.lo b hb] at h2
      rw [← h1.2, ← h2.2, e]
    · rcases List.mem_append.mp ho with h | h
      · have := ih.lf o h; omega
      · have := ih.lo o (List.mem_filter.mp h).1; omega
    · obtain ⟨q, hq, ho⟩ := List.mem_flatMap.mp ho
      have := (more_len ho).1
      rw [this, ih.lo q hq]; omega
theorem openR_nd (rows : List (List Nat)) : LapNd 0 ([], openR rows) := by
  unfold openR
  split
  · exact ⟨List.nodup_nil, List.nodup_nil, fun o h => by (cases h), fun o h => by (cases h)⟩
  · exact ⟨List.nodup_nil, by simp, fun o h => by (cases h), fun o h => by rw [List.mem_singleton] at h; rw [h]; rfl⟩
theorem good_nodup (rows : List (List Nat)) : (goodR rows).Nodup := (lapR_nd (openR_nd rows) _).nf
/-- all lots of the rows are of the table's labels -/
def InL (rows : List (List Nat)) (o : List (List Nat)) : Prop := o ≠ [] ∧ ∀ l ∈ o, Sub l (labs rows)
theorem more_inL {rows one : List (List Nat)} (ne : NE rows) (t : Tame rows one) (i : InL rows one) : ∀ o ∈ moreR rows one, InL rows o := fun o ho => by
  unfold moreR at ho
  split at ho
  · cases ho
  · obtain ⟨p, hp, rfl⟩ := List.mem_map.mp ho
    refine ⟨by simp, fun l hl => ?_⟩
    rcases List.mem_append.mp hl with h | h
    · exact i.2 l h
    · obtain ⟨h1, _⟩ := List.mem_filter.mp hp
      obtain ⟨q, hq, rfl⟩ := List.mem_map.mp h1
      obtain ⟨qa, qs, _⟩ := loose_part t.1 hq
      simp only [List.mem_cons, List.not_mem_nil, or_false] at h
      rcases h with h | h
      · rw [h]; exact fun x hx => t.2.1 x (qs x hx)
      · rw [h]; exact fun x hx => t.2.1 x (qs x (lastL_sub ne x hx))
theorem lapR_inL {rows : List (List Nat)} (ne : NE rows) (few : (labs rows).length ≤ 4) : ∀ k, (∀ o ∈ (lapR rows k ([], openR rows)).1, InL rows o) ∧ ∀ o ∈ (lapR rows k ([], openR rows)).2, InL rows o
  | 0 => ⟨fun o h => by (cases h), fun o h => by
    have h : o ∈ openR rows := h
    unfold openR at h
    split at h
    · cases h
    · rename_i hn
      rw [List.mem_singleton] at h
      rw [h]
      exact ⟨by simp, fun l hl => by rw [List.mem_singleton] at hl; rw [hl]; exact (first_tame ne hn).2.1⟩⟩
  | k + 1 => by
    obtain ⟨h1, h2⟩ := lapR_inL ne few k
    have ok := lapR_ok ne few (openR_ok ne few) k
    refine ⟨fun o ho => ?_, fun o ho => ?_⟩
    · rcases List.mem_append.mp ho with h | h
      · exact h1 o h
      · exact h2 o (List.mem_filter.mp h).1
    · obtain ⟨q, hq, ho⟩ := List.mem_flatMap.mp ho
      exact more_inL ne (ok.opens q hq) (h2 q hq) o ho
end K58
set_option Elab.async false
set_option linter.all false
set_option maxRecDepth 100000
set_option maxHeartbeats 4000000
/-! Sets of tuples of texts: what is asked of a tuple; adding one that is not in. -/
namespace K58
open PySem PySem.Spec PyProof.Rows L2
/-- a tuple's hash -/
abbrev hT (P : Program) (w : World) (k : List Str) : Int := tupleKeyHash (strKind P w) k
/-- the texts k make up the tuple at a -/
abbrev IsTx (P : Program) (w : World) (h : Heap) (k : List Str) (a : Addr) : Prop := IsTupleKey (strKind P w) h k a
theorem IsTx.at {P : Program} {w : World} {h h' : Heap} {k : List Str} {a : Addr} (x : IsTx P w h k a) (e : ∀ o, h.get? a = some o → h'.get? a = some o) : IsTx P w h' k a :=
  let ⟨o, its, n, h1, h2⟩ := x; ⟨o, its, n, e o h1, h2⟩
theorem txts_of {P : Program} {w : World} {k : List Str} {vs : List Value} (h : PySem.ItemsAre (strKind P w) k vs) : ∀ v ∈ vs, ∃ z t, v = Value.str z t := by
  induction h with
  | nil => intro v hv; exact absurd hv (by simp)
  | @cons z u ks us h1 _ ih =>
    intro v hv
    obtain ⟨t, e2⟩ := Value.isStrOf_shape (show Value.isStrOf z u = true from h1)
    exact (List.mem_cons.mp hv).elim (fun e => ⟨z, t, e.trans e2⟩) (ih v)
theorem clsOf_txt (n : Nat) (z : Str) (t : Tok) : ofAClassStatement n (.str z t) = pure false := by cases n <;> rfl
theorem valOf_txt (n : Nat) (z : Str) (t : Tok) : hashByValue n (.str z t) = pure false := by cases n <;> rfl
section
variable {P : Program} {w : World} {A : Around} {E : Value → Shared → Prop} {s : Shared}
theorem clsOf_tup {k : List Str} {b : Addr} {Q : Bool → Shared → Prop} (hk : IsTx P w s.heap k b) (h : Q false s) : wpAny (model P w) A (ofAClassStatement 8 (.ref b)) Q E s := by
  have tp := hk.typeIs
  obtain ⟨o, its, n, ho, _, hd, hi⟩ := hk
  have hv := txts_of hi
  unfold ofAClassStatement
  refine wpAny_bind (wpAny_typeOf tp ?_)
  dsimp only
  have e : (("tuple" : String) == "tuple") = true := by decide
  simp only [e, if_true, Bool.not_true, Bool.false_eq_true, if_false]
  try refine wpAny_bind (wpAny_pure ?_)
  try simp only [Bool.not_true, Bool.false_eq_true, if_false]
  refine wpAny_bind (wpAny_seqItems ho hd ?_)
  dsimp only
  refine wpAny_bind ?_
  show wpAny _ _ (forIn its _ _) _ _ s
  rw [← Array.forIn_toList]
  refine wpAny_forIn_list _ (fun rest r s' => (s' = s ∧ r.1 = none) ∧ ∀ v ∈ rest, ∃ z t, v = Value.str z t) _ (fun v rest r s' => ?_) (fun r s' => ?_) _ _ ⟨⟨rfl, rfl⟩, hv⟩
  · rintro ⟨⟨rfl, hr⟩, hall⟩
    obtain ⟨z, t, rfl⟩ := hall v List.mem_cons_self
    rw [clsOf_txt]
    refine wpAny_bind (wpAny_pure ?_)
    simp only [Bool.false_eq_true, if_false]
    exact wpAny_pure ⟨⟨rfl, rfl⟩, fun u hu => hall u (List.mem_cons_of_mem _ hu)⟩
  · obtain ⟨r1, r2⟩ := r
    rintro ⟨⟨rfl, hr⟩, _⟩
    have hr : r1 = none := hr
    subst hr
    exact wpAny_pure h
theorem valOf_tup {k : List Str} {b : Addr} {Q : Bool → Shared → Prop} (hk : IsTx P w s.heap k b) (h : ∀ c, Q c s) : wpAny (model P w) A (hashByValue 8 (.ref b)) Q E s := by
  have tp := hk.typeIs
  obtain ⟨o, its, n, ho, _, hd, hi⟩ := hk
  have hv := txts_of hi
  unfold hashByValue
  refine wpAny_bind (wpAny_specialOf tp PySem.F.slot_tuple_hash.lookup ?_)
  refine wpAny_bind (wpAny_seqItems ho hd ?_)
  refine wpAny_bind ?_
  show wpAny _ _ (forIn its _ _) _ _ s
  rw [← Array.forIn_toList]
  refine wpAny_forIn_list _ (fun rest r s' => s' = s ∧ ∀ v ∈ rest, ∃ z t, v = Value.str z t) _ (fun v rest r s' => ?_) (fun r s' => ?_) _ _ ⟨rfl, hv⟩
  · rintro ⟨rfl, hall⟩
    obtain ⟨z, t, rfl⟩ := hall v List.mem_cons_self
    rw [valOf_txt]
    refine wpAny_bind (wpAny_pure ?_)
    simp only [Bool.not_false, if_true]
    exact wpAny_pure (wpAny_pure (h false))
  · obtain ⟨r1, r2⟩ := r
    rintro ⟨rfl, _⟩
    cases r1 with
    | none => exact wpAny_pure (h true)
    | some c => exact wpAny_pure (h c)
theorem hid_tup {k : List Str} {b : Addr} {Q : Bool → Shared → Prop} (hk : IsTx P w s.heap k b) {ys : List Value} (hy : ∀ y ∈ ys, ∃ k' c, y = Value.ref c ∧ IsTx P w s.heap k' c) (h : Q false s) :
    wpAny (model P w) A (searchCouldBeSeen (.ref b) ys) Q E s := by
  unfold searchCouldBeSeen
  refine wpAny_bind ?_
  refine wpAny_forIn_list _ (fun rest r s' => (s' = s ∧ r.1 = none) ∧ ∀ y ∈ rest, ∃ k' c, y = Value.ref c ∧ IsTx P w s.heap k' c) _ (fun v rest r s' => ?_) (fun r s' => ?_) _ _ ⟨⟨rfl, rfl⟩, hy⟩
  · rintro ⟨⟨rfl, hr⟩, hall⟩
    obtain ⟨k', c, rfl, hc⟩ := hall v List.mem_cons_self
    have hrest := fun u (hu : u ∈ rest) => hall u (List.mem_cons_of_mem _ hu)
    dsimp only
    by_cases hv : (b == c || (carriedByValue (.ref b) && carriedByValue (.ref c))) = true
    · exact wp_if_pos hv (wpAny_pure ⟨⟨rfl, rfl⟩, hrest⟩)
    · refine wp_if_neg hv ?_
      refine wpAny_bind (wpAny_eqIsQuiet_tuple hk ?_)
      simp only [Bool.not_true, Bool.false_eq_true, if_false]
      refine wpAny_bind (wpAny_eqIsQuiet_tuple hc ?_)
      simp only [Bool.not_true, Bool.false_eq_true, if_false]
      refine wpAny_bind (clsOf_tup hk ?_)
      simp only [Bool.false_eq_true, if_false]
      refine wpAny_bind (clsOf_tup hc ?_)
      simp only [Bool.false_eq_true, if_false]
      exact wpAny_pure ⟨⟨rfl, rfl⟩, hrest⟩
  · obtain ⟨r1, r2⟩ := r
    rintro ⟨⟨rfl, hr⟩, _⟩
    have hr : r1 = none := hr
    subst hr
    exact wpAny_pure h

/-- what the set's table holds of the tuples L -/
def entsOf (P : Program) (w : World) (L : List (Addr × List Str)) : List (Int × Value) := L.map fun p => (hT P w p.2, Value.ref p.1)
structure StT (P : Program) (w : World) (h : Heap) (a : Addr) (L : List (Addr × List Str)) (es : Array (Int × Value)) (ep : Nat) (t : SetTable) : Prop where
  ob : ∃ o, h.get? a = some o ∧ o.ExactSet ∧ o.data = .set es ep t
  ents : es.toList = entsOf P w L
  tab : TabOk t (L.map fun p => hT P w p.2)
  tup : ∀ p ∈ L, IsTx P w h p.2 p.1
  led : w.params.followText "set-order" = true ∨ t.led = true
  room : L.length * 5 < t.mask * 3
  few : L.length ≤ 64
variable {a : Addr} {L : List (Addr × List Str)} {es : Array (Int × Value)} {ep : Nat} {t : SetTable}
theorem ents_size {es : Array (Int × Value)} {L : List (Addr × List Str)} (h : es.toList = entsOf P w L) : es.size = L.length := by
  rw [← Array.length_toList, h, entsOf, List.length_map]
theorem StT.fits (R : StT P w s.heap a L es ep t) : t.fits es.size = true := by
  have h1 := R.tab.sz
  have h2 := ents_size R.ents
  have h3 := R.room
  rw [List.length_map] at h1
  unfold SetTable.fits SetTable.fill
  rw [R.tab.dm, Bool.and_eq_true, beq_iff_eq, decide_eq_true_eq]
  exact ⟨by omega, by show t.place.size + 0 ≤ t.mask; omega⟩
theorem StT.ent (R : StT P w s.heap a L es ep t) {i : Nat} {p : Addr × List Str} (h : L[i]? = some p) : es[i]? = some (hT P w p.2, Value.ref p.1) := by
  rw [← Array.getElem?_toList, R.ents, entsOf, List.getElem?_map, h]; rfl
theorem StT.odd (R : StT P w s.heap a L es ep t) : ¬ t.gaveWay = true := by
  unfold SetTable.gaveWay
  rw [mask_odd R.tab.mok]; decide
/-- the c-th probe -/
abbrev prb (m : Nat) (h : Int) (c : Nat) : SetTable.Probe := nth m (runAt m (SetTable.bits h % (m + 1)) (SetTable.bits h)) c
theorem prb_clean (m : Nat) (h : Int) (c : Nat) : (prb m h c).dummy = none := by
  have key : ∀ (n : Nat) (p : SetTable.Probe), p.dummy = none → (nth m p n).dummy = none := by
    intro n
    induction n with
    | zero => exact fun _ h => h
    | succ n ih => exact fun p h => ih (adv m p) (by unfold adv; split <;> exact h)
  exact key c _ rfl
theorem prb_on (m : Nat) (h : Int) (c q : Nat) : nth m (prb m h c) q = prb m h (c + q) := (nth_add m c _ q).symm
/-- the search for what is not in comes to the first empty slot -/
theorem seek (R : StT P w s.heap a L es ep t) {x : Addr} {k : List Str} (hx : IsTx P w s.heap k x) (hn : ∀ p ∈ L, p.2 ≠ k) (hu : A.units < cLine) {K : Nat} (hKf : K < 10 * SetTable.turns t.mask)
    (hK : way t.mask (hT P w k) K ∉ t.place.toList) (hKb : ∀ c, c < K → way t.mask (hT P w k) c ∈ t.place.toList) {Q : SetFound → Shared → Prop} (h : Q (.free (way t.mask (hT P w k) K) false) s) :
    ∀ (f c : Nat) (stand : Option SetTable.Probe), stand.getD (t.probeStart (hT P w k)) = prb t.mask (hT P w k) c → c ≤ K → K - c < f → wpAny (model P w) A (setSearchFrom a (.ref x) (hT P w k) true f stand) Q E s
  | 0, _, _, _, _, hf => absurd hf (Nat.not_lt_zero _)
  | f + 1, c, stand, hst, hc, hf => by
    obtain ⟨o, ho, hex, hd⟩ := R.ob
    rw [setSearchFrom_succ]
    refine wpAny_bind (wpAny_setState_of ho hd R.fits ?_)
    dsimp only
    refine wp_if_neg R.odd ?_
    try refine wpAny_bind (wpAny_pure ?_)
    have eK : c + (K - c) = K := by omega
    have go := go_spec t R.tab.ris R.tab.dm (fun i => (es[i]?.map (·.1)).getD 0) (hT P w k) (10 * SetTable.turns t.mask) (K - c) (prb t.mask (hT P w k) c) (prb_clean _ _ _) (by omega)
      (fun q hq => by rw [prb_on]; exact hKb (c + q) (by omega)) (by rw [prb_on, eK]; exact hK)
    rcases go with ⟨q, i, hq, hi, _, _, hp⟩ | ⟨_, hp⟩
    · have hp' : t.probe (fun i => (es[i]?.map (·.1)).getD 0) (hT P w k) (stand.getD (t.probeStart (hT P w k))) = some (.candidate (way t.mask (hT P w k) (c + q)) i (prb t.mask (hT P w k) (c + (q + 1)))) := by
        rw [prb_on t.mask (hT P w k) c q, prb_on t.mask (hT P w k) c (q + 1)] at hp
        rw [hst]; exact hp
      rw [hp']
      dsimp only
      rw [prb_on t.mask (hT P w k) c q] at hi
      have hil : i < L.length := by
        have h1 := (List.getElem?_eq_some_iff.mp hi).1
        have h2 := R.tab.sz
        rw [List.length_map] at h2
        rw [Array.length_toList] at h1
        omega
      obtain ⟨p, hpi⟩ : ∃ p, L[i]? = some p := ⟨_, List.getElem?_eq_getElem hil⟩
      have hpm := List.mem_of_getElem? hpi
      have hne : ¬ p.2 = k := hn p hpm
      have rest : wpAny (model P w) A (searchRest a (.ref x) (hT P w k) true f es t (way t.mask (hT P w k) (c + q)) i (prb t.mask (hT P w k) (c + (q + 1)))) Q E s := by
        unfold searchRest
        rw [R.ent hpi]
        dsimp only
        refine wpAny_bind (wpAny_holding (wpAny_eqBool_tuple hu (R.tup p hpm) hx ?_))
        refine wpAny_bind (wpAny_setState_of ho hd R.fits ?_)
        dsimp only
        refine wp_if_neg (by simp [hne]) ?_
        try refine wpAny_bind (wpAny_pure ?_)
        rw [sameMem]
        dsimp only
        have hs : t.slot (way t.mask (hT P w k) (c + q)) = .live i := slot_live R.tab.ris hi
        simp only [if_true, hs, R.ent hpi]
        refine wpAny_bind (wpAny_isSame_ref_self (wpAny_bind (wpAny_pure ?_)))
        simp only [if_true]
        refine wp_if_neg (by simp [hne]) ?_
        exact seek R hx hn hu hKf hK hKb h f (c + (q + 1)) _ rfl (by omega) (by omega)
      by_cases hl : t.led = true
      · refine wp_if_neg (by simp [hl]) ?_
        try refine wpAny_bind (wpAny_pure ?_)
        exact rest
      · refine wp_if_pos (by simp [hl]) ?_
        refine wpAny_bind (hid_tup hx (fun y hy => ?_) ?_)
        · obtain ⟨e, he, ee⟩ := List.mem_map.mp hy
          have he2 : e ∈ es.toList := by
            have : e ∈ es ∧ e.1 = hT P w k := by simpa using he
            simpa using this.1
          rw [R.ents] at he2
          obtain ⟨p2, hp2, e2⟩ := List.mem_map.mp he2
          exact ⟨p2.2, p2.1, by rw [← ee, ← e2], R.tup p2 hp2⟩
        · refine wp_if_neg (by decide) ?_
          try refine wpAny_bind (wpAny_pure ?_)
          exact rest
    · have hp' : t.probe (fun i => (es[i]?.map (·.1)).getD 0) (hT P w k) (stand.getD (t.probeStart (hT P w k))) = some (.empty (way t.mask (hT P w k) K) none) := by
        rw [prb_on t.mask (hT P w k) c (K - c), eK] at hp
        rw [hst]; exact hp
      rw [hp']
      dsimp only
      exact wpAny_pure h
end
end K58
set_option Elab.async false
set_option linter.all false
set_option maxRecDepth 100000
set_option maxHeartbeats 4000000
/-! Sets of tuples of texts: adding one that is not in. -/
namespace K58
open PySem PySem.Spec PyProof.Rows L2
section
variable {P : Program} {w : World} {A : Around} {E : Value → Shared → Prop} {s : Shared} {a : Addr} {L : List (Addr × List Str)} {es : Array (Int × Value)} {ep : Nat} {t : SetTable}
theorem tab_off {t : SetTable} {hs : List Int} (T : TabOk t hs) : TabOk { t with plain := false } hs := ⟨T.ris, T.dm, T.sz, T.mok, T.bd, T.reach⟩
theorem isTx_but {h h' : Heap} {k : List Str} {a b : Addr} {o : Obj} (hb : IsTx P w h k b) (ho : h.get? a = some o) (hd : o.data = .set es ep t) (hs : Heap.SameBut a h h') : IsTx P w h' k b := by
  have hne : b ≠ a := fun z => by
    obtain ⟨o', its, n, h1, _, h3, _⟩ := hb
    rw [z, ho] at h1
    cases h1
    rw [hd] at h3
    cases h3
  exact hb.at fun o e => (hs.2 b hne).trans e
/-- another order of the table -/
theorem ents_order {es : Array (Int × Value)} {L : List (Addr × List Str)} {order : Array Nat} (he : es.toList = entsOf P w L) (hp : order.toList.Perm (List.range L.length)) :
    ∃ M, (order.filterMap (es[·]?)).toList = entsOf P w M ∧ M.Perm L ∧ (M.map fun p => hT P w p.2) = order.toList.map fun i => (es.map (·.1)).getD i 0 := by
  have at_ : ∀ i, es[i]? = (L[i]?).map fun p : Addr × List Str => (hT P w p.2, Value.ref p.1) := fun i => by rw [← Array.getElem?_toList, he, entsOf, List.getElem?_map]
  refine ⟨order.toList.filterMap fun i => L[i]?, ?_, ?_, ?_⟩
  · have e1 : (order.filterMap (es[·]?)).toList = order.toList.filterMap fun i => es[i]? := by simp
    rw [e1, entsOf, List.map_filterMap]
    exact congrArg (fun f => List.filterMap f order.toList) (funext at_)
  · have h1 := hp.filterMap fun i => L[i]?
    rw [List.filterMap_getElem?_range_length] at h1
    exact h1
  · have lt : ∀ i ∈ order.toList, i < L.length := fun i hi => List.mem_range.mp (hp.mem_iff.mp hi)
    revert lt
    generalize order.toList = l
    intro lt
    induction l with
    | nil => rfl
    | cons i l ih =>
      have hi := lt i List.mem_cons_self
      have h1 : L[i]? = some L[i] := List.getElem?_eq_getElem hi
      rw [List.filterMap_cons_some h1, List.map_cons, List.map_cons, ih fun j hj => lt j (List.mem_cons_of_mem _ hj)]
      congr 1
      have h2 : (es.map (·.1))[i]? = some (hT P w (L[i]).2) := by rw [Array.getElem?_map, at_, h1]; rfl
      simp [Array.getD_eq_getD_getElem?, h2]
theorem relay_tx {o : Obj} (ho : s.heap.get? a = some o) (hex : o.ExactSet) (hd : o.data = .set es ep t) (he : es.toList = entsOf P w L) (T : TabOk t (L.map fun p => hT P w p.2)) (fit : t.fits es.size = true)
    (tup : ∀ p ∈ L, IsTx P w s.heap p.2 p.1) (ld : w.params.followText "set-order" = true ∨ t.led = true) (few : L.length ≤ 64) {wanted M : Nat}
    (hw : SetTable.sizeAbove wanted - 1 = M) (hM : MaskOk M) (hw2 : SetTable.sizeAbove wanted ≤ 128) (hn : L.length * 5 < M * 3) {Q : Unit → Shared → Prop}
    (hQ : ∀ h' L' es' ep' t', Heap.SameBut a s.heap h' → StT P w h' a L' es' ep' t' → L'.Perm L → Q () { s with heap := h' }) : wpAny (model P w) A (setRelay a wanted) Q E s := by
  have hsl := ents_size he
  obtain ⟨t', order, e, hp, T', em, el, _, _⟩ := relaid_ok t (hs := es.map (·.1)) (wanted := wanted) hw hM (by rw [Array.size_map, hsl]; omega)
  rw [Array.size_map, hsl] at hp
  obtain ⟨N, r1, r2, r3⟩ := ents_order he hp
  rw [← r3] at T'
  have hs2 : (order.filterMap (es[·]?)).size = es.size := by rw [ents_size r1, r2.length_eq, hsl]
  rw [setRelay_eq]
  refine wpAny_bind (wpAny_setState_of ho hd fit ?_)
  dsimp only
  refine wp_if_neg (by rw [sizeLine_eq]; omega) ?_
  try refine wpAny_bind (wpAny_pure ?_)
  rw [e]
  dsimp only
  refine wpAny_bind ?_
  refine wp_if_neg (by rw [hs2]; simp) ?_
  try refine wpAny_bind (wpAny_pure ?_)
  refine wpAny_pure ?_
  dsimp only
  refine wpAny_storeSet_of ho hd ?_ (by rw [hs2, hsl, sizeLine_eq]; omega)
  have sb : Heap.SameBut a s.heap (s.heap.update a (Obj.putSet (order.filterMap (es[·]?)) t')) := Heap.SameBut.update ..
  refine hQ _ N (order.filterMap (es[·]?)) (ep + 1) t' sb ⟨⟨_, store_at ho hd, ⟨hex.1, hex.2.1, hex.2.2⟩, rfl⟩, r1, T', fun p hpm => isTx_but (tup p (r2.mem_iff.mp hpm)) ho hd sb, by rw [el]; exact ld, ?_, by rw [r2.length_eq]; exact few⟩ r2
  rw [r2.length_eq, em]; exact hn
/-- what adding leaves -/
def Added (P : Program) (w : World) (a : Addr) (L : List (Addr × List Str)) (p : Addr × List Str) (Q : Bool → Shared → Prop) (s : Shared) : Prop :=
  ∀ h' L' es' ep' t', Heap.SameBut a s.heap h' → StT P w h' a L' es' ep' t' → L'.Perm (p :: L) → Q true { s with heap := h' }
/-- what is done behind the store -/
def tailOf (a : Addr) (n : Nat) (t : SetTable) : Sem Bool := do
  if !false && t.tooFull then setRelay a (SetTable.grown (n + 1))
  return true
theorem add_tx (R : StT P w s.heap a L es ep t) {x : Addr} {k : List Str} (hx : IsTx P w s.heap k x) (hn : ∀ p ∈ L, p.2 ≠ k) (hu : A.units < cLine) (hfew : L.length + 1 ≤ 64) {Q : Bool → Shared → Prop}
    (hQ : Added P w a L (x, k) Q s) : wpAny (model P w) A (setAddHashed a (.ref x) (hT P w k)) Q E s := by
  obtain ⟨o, ho, hex, hd⟩ := R.ob
  have hsl := ents_size R.ents
  have hroom := R.room
  obtain ⟨K, hKf, hK, hKb⟩ := R.tab.first (by rw [List.length_map]; omega) (hT P w k)
  have hbig : K < 100000 := by
    have : 10 * SetTable.turns t.mask ≤ 1420 := by unfold SetTable.turns; rcases R.tab.mok with e | e | e <;> omega
    omega
  unfold setAddHashed
  refine wpAny_holding ?_
  rw [show (100000 : Nat) = 99999 + 1 from rfl, setAddHashedIn_succ]
  refine wpAny_bind (wpAny_setState_of ho hd R.fits ?_)
  dsimp only
  refine wp_if_neg (by simp [byScan, Value.scannable]) ?_
  try refine wpAny_bind (wpAny_pure ?_)
  unfold setSearch
  refine wpAny_bind (seek R hx hn hu hKf hK hKb ?_ 100000 0 none rfl (Nat.zero_le _) (by omega))
  dsimp only
  refine wpAny_bind (wpAny_setState_of ho hd R.fits ?_)
  dsimp only
  obtain ⟨q1, q2, q3, q4, q5, q6, q7, q8, q9⟩ := R.tab.put hK hKb
  generalize hpt : t.put (way t.mask (hT P w k) K) = pt at q1 q3 q4 q5 q6 q7 q8 q9 ⊢
  obtain ⟨t1, i⟩ := pt
  dsimp only at q1 q3 q4 q5 q6 q7 q8 q9 ⊢
  subst q1
  have hin : (SetTable.insertAt es (SetTable.below t.place (way t.mask (hT P w k) K)) (hT P w k, Value.ref x)).toList = entsOf P w (L.take (SetTable.below t.place (way t.mask (hT P w k) K)) ++ (x, k) :: L.drop (SetTable.below t.place (way t.mask (hT P w k) K))) := by
    rw [SetTable.toList_insertAt, R.ents]
    unfold entsOf
    rw [List.map_append, List.map_cons, List.map_take, List.map_drop]
  generalize SetTable.below t.place (way t.mask (hT P w k) K) = i at q2 q3 hin ⊢
  have pm : (L.take i ++ (x, k) :: L.drop i).Perm ((x, k) :: L) := by
    have h : (L.take i ++ (x, k) :: L.drop i).Perm ((x, k) :: (L.take i ++ L.drop i)) := List.perm_middle
    rw [List.take_append_drop] at h; exact h
  have hlen : (L.take i ++ (x, k) :: L.drop i).length = L.length + 1 := pm.length_eq
  have hhs : (L.take i ++ (x, k) :: L.drop i).map (fun p => hT P w p.2) = (L.map fun p => hT P w p.2).take i ++ hT P w k :: (L.map fun p => hT P w p.2).drop i := by
    rw [List.map_append, List.map_cons, List.map_take, List.map_drop]
  rw [← hhs] at q3
  have hes := ents_size hin
  rw [hlen] at hes
  generalize SetTable.insertAt es i (hT P w k, Value.ref x) = es1 at hin hes ⊢
  generalize L.take i ++ (x, k) :: L.drop i = L1 at pm hlen q3 hin
  have ld1 : w.params.followText "set-order" = true ∨ t1.led = true := by rw [q5]; exact R.led
  have sz1 : t1.place.size = es1.size := by have h := q3.sz; rw [List.length_map, hlen] at h; rw [h, hes]
  have full1 : t1.tooFull = decide ((L.length + 1) * 5 ≥ t1.mask * 3) := by
    unfold SetTable.tooFull
    rw [q9, List.length_map]
  have core : ∀ t2 : SetTable, TabOk t2 (L1.map fun p => hT P w p.2) → t2.led = t1.led → t2.mask = t1.mask → t2.fits es1.size = true → t2.tooFull = t1.tooFull →
      wpAny (model P w) A (storeSet a es1 t2) (fun _ s' => wpAny (model P w) A (tailOf a es.size t2) Q E s') E s := by
    intro t2 T2 e1 e2 f2 e3
    unfold tailOf
    refine wpAny_storeSet_of ho hd ?_ (by rw [hes, sizeLine_eq]; omega)
    have sb : Heap.SameBut a s.heap (s.heap.update a (Obj.putSet es1 t2)) := Heap.SameBut.update ..
    have ho1 := store_at (es' := es1) (t' := t2) ho hd
    generalize s.heap.update a (Obj.putSet es1 t2) = h1 at sb ho1 ⊢
    have tup1 : ∀ p ∈ L1, IsTx P w h1 p.2 p.1 := fun p hp => (List.mem_cons.mp (pm.mem_iff.mp hp)).elim (fun e => by rw [e]; exact isTx_but hx ho hd sb) fun hp => isTx_but (R.tup p hp) ho hd sb
    have ld2 : w.params.followText "set-order" = true ∨ t2.led = true := by rw [e1]; exact ld1
    by_cases hf : t1.tooFull = true
    · have hfull : (L.length + 1) * 5 ≥ t1.mask * 3 := by rw [full1, decide_eq_true_eq] at hf; exact hf
      have go : ∀ M, SetTable.sizeAbove (SetTable.grown (L.length + 1)) - 1 = M → MaskOk M → SetTable.sizeAbove (SetTable.grown (L.length + 1)) ≤ 128 → (L.length + 1) * 5 < M * 3 →
          wpAny (model P w) A (setRelay a (SetTable.grown (L.length + 1))) (fun _ s' => wpAny (model P w) A (pure true) Q E s') E { s with heap := h1 } := fun M z1 z2 z3 z4 =>
        relay_tx (s := { s with heap := h1 }) ho1 ⟨hex.1, hex.2.1, hex.2.2⟩ rfl hin T2 f2 tup1 ld2 (by rw [hlen]; exact hfew) z1 z2 z3 (by rw [hlen]; exact z4) fun h2 N es2 ep2 t3 sb2 R2 pm2 =>
          wpAny_pure (hQ h2 N es2 ep2 t3 (sb.trans sb2) R2 (pm2.trans pm))
      have body : wpAny (model P w) A (setRelay a (SetTable.grown (es.size + 1))) (fun _ s' => wpAny (model P w) A (pure true) Q E s') E { s with heap := h1 } := by
        rw [hsl]
        rcases R.tab.mok with e | e | e
        · have e4 : L.length = 4 := by rw [q4, e] at hfull; rw [e] at hroom; omega
          exact go 31 (by rw [e4, size_20]) (.inr (.inl rfl)) (by rw [e4, size_20]; decide) (by omega)
        · have e4 : L.length = 18 := by rw [q4, e] at hfull; rw [e] at hroom; omega
          exact go 127 (by rw [e4, size_76]) (.inr (.inr rfl)) (by rw [e4, size_76]; decide) (by omega)
        · exfalso; rw [q4, e] at hfull; omega
      first
        | (refine wpAny_bind ?_; refine wp_if_pos (by simp [e3, hf]) ?_; exact body)
        | (refine wp_if_pos (by simp [e3, hf]) ?_; exact wpAny_bind body)
    · have nf : ¬ (L.length + 1) * 5 ≥ t1.mask * 3 := by rw [full1, decide_eq_true_eq] at hf; exact hf
      have fin : wpAny (model P w) A (pure true) Q E { s with heap := h1 } :=
        wpAny_pure (hQ h1 L1 es1 (ep + 1) t2 sb ⟨⟨_, ho1, ⟨hex.1, hex.2.1, hex.2.2⟩, rfl⟩, hin, T2, tup1, ld2, by rw [hlen, e2]; omega, by rw [hlen]; exact hfew⟩ pm)
      first
        | (refine wp_if_neg (by simp [e3, hf]) ?_; exact fin)
        | (refine wpAny_bind ?_; refine wp_if_neg (by simp [e3, hf]) ?_; exact wpAny_pure fin)
  have fit1 : t1.fits es1.size = true := by
    unfold SetTable.fits
    rw [Bool.and_eq_true, beq_iff_eq, decide_eq_true_eq, q9, List.length_map]
    exact ⟨sz1, by rw [q4]; omega⟩
  have both : ∀ b : Bool, wpAny (model P w) A (storeSet a es1 (if b = true then t1 else { t1 with plain := false })) (fun _ s' => wpAny (model P w) A (tailOf a es.size (if b = true then t1 else { t1 with plain := false })) Q E s') E s := fun b => by
    cases b with
    | true => exact core t1 q3 rfl rfl fit1 rfl
    | false => exact core { t1 with plain := false } (tab_off q3) rfl rfl fit1 rfl
  by_cases hp1 : t1.plain = true
  · first
      | (refine wpAny_bind ?_; refine wp_if_pos hp1 ?_; exact valOf_tup hx fun c => wpAny_bind (both c))
      | (refine wp_if_pos hp1 ?_; exact wpAny_bind (valOf_tup hx fun c => wpAny_bind (both c)))
  · first
      | (refine wpAny_bind ?_; refine wp_if_neg hp1 ?_; exact wpAny_pure (wpAny_bind (both true)))
      | (refine wp_if_neg hp1 ?_; exact wpAny_bind (wpAny_pure (wpAny_bind (both true))))
end
end K58
set_option Elab.async false
set_option linter.all false
set_option maxRecDepth 100000
set_option maxHeartbeats 4000000
/-! set(x) of a list of tuples of texts, all unlike. -/
namespace K58
open PySem PySem.Spec PyProof.Rows L2
section
variable {P : Program} {w : World} {A : Around} {E : Value → Shared → Prop} {s : Shared}
theorem StT.keep {h h' : Heap} {a : Addr} {L : List (Addr × List Str)} {es : Array (Int × Value)} {ep : Nat} {t : SetTable} (R : StT P w h a L es ep t) (ha : ∀ o, h.get? a = some o → h'.get? a = some o) (ht : ∀ p ∈ L, IsTx P w h' p.2 p.1) : StT P w h' a L es ep t :=
  let ⟨o, ho, r⟩ := R.ob
  ⟨⟨o, ha o ho, r⟩, R.ents, R.tab, ht, R.led, R.room, R.few⟩
theorem stT_new {h : Heap} {a : Addr} (ho : h.get? a = some (newSet w)) : StT P w h a [] #[] 0 (.fresh 0 0 (!w.params.followText "set-order")) where
  ob := ⟨_, ho, ⟨rfl, rfl, rfl⟩, rfl⟩
  ents := rfl
  tab := ⟨List.Pairwise.nil, rfl, rfl, .inl rfl, fun x hx => absurd hx (by simp [SetTable.fresh]), fun i h j hi => absurd hi (by simp)⟩
  tup := fun p hp => absurd hp (by simp)
  led := by
    show _ ∨ (!w.params.followText "set-order") = true
    cases w.params.followText "set-order"
    · exact .inr rfl
    · exact .inl rfl
  room := by show 0 * 5 < 7 * 3; decide
  few := Nat.zero_le _
/-- the set of some tuples -/
def SomeT (P : Program) (w : World) (h : Heap) (a : Addr) (ks : List (Addr × List Str)) : Prop := ∃ L es ep t, StT P w h a L es ep t ∧ L.Perm ks
theorem loop_tups {R : Result → Shared → Prop} {I : Addr} {fp wr : List Addr} {G : Array GenState → Array GenState → Prop} {n : Nat} {Pv : Nat → Value → Prop} {St : Nat → Shared → Prop} (W : WalksS P w A.in1 I fp wr G n Pv St) (S : Addr) (hSf : S ∉ fp) (ks : List (Addr × List Str)) (hn : ks.length = n)
    (hd : (ks.map (·.2)).Nodup) (h64 : ks.length ≤ 64) (hval : ∀ i v, Pv i v → ∃ p, ks[i]? = some p ∧ v = .ref p.1) {h0 : Heap} (hk : ∀ p ∈ ks, IsTx P w h0 p.2 p.1) (hS0 : h0.get? S = none) (hw0 : ∀ b ∈ wr, h0.get? b = none) (hu : A.in1.units < cLine) :
    ∀ (k i : Nat) (s : Shared), n - i = k → i ≤ n → St i s → (∀ b o, h0.get? b = some o → s.heap.get? b = some o) → SomeT P w s.heap S (ks.take i) →
      (∀ s', Moved (S :: wr) G s s' → SomeT P w s'.heap S ks → R (.ok (.ret .none)) s') →
      codeAny (model P w) A (.builtin "set.update.loop" ⟨[.ref S, .ref I], []⟩) R s := by
  have hSw : S ∉ wr := fun h => hSf (W.sub _ h)
  have hsub : ∀ b ∈ wr, b ∈ S :: wr := fun b hb => List.mem_cons_of_mem _ hb
  have moved : ∀ {s1 s2 : Shared}, Moved wr G s1 s2 → (∀ b o, h0.get? b = some o → s1.heap.get? b = some o) → ∀ b o, h0.get? b = some o → s2.heap.get? b = some o := fun hm k b o e =>
    hm.heap b o (fun z => by rw [hw0 b z] at e; cases e) (k b o e)
  intro k
  induction k with
  | zero =>
    intro i s hk' hi hst hkp hS hR
    obtain ⟨L, es, ep, t, hS, pm⟩ := hS
    have hin : i = n := by omega
    subst hin
    refine codeAny_builtin PyProof.Rows.F.entry_set_update_loop ?_
    rw [Around.under_plainId PyProof.Rows.F.plain_set_update_loop _]
    show wpAny _ A.in1 (pyNext (.ref I) >>= _) _ _ s
    refine wpAny_bind (W.done s _ _ hst fun s' hm => ?_)
    show wpAny _ A.in1 (ret Value.none) _ _ s'
    rw [← hn, List.take_length] at pm
    refine wpAny_pure (hR s' (hm.mono hsub) ⟨L, es, ep, t, hS.keep (fun o e => hm.heap S o hSw e) fun p hp => ?_, pm⟩)
    exact (hk p (pm.mem_iff.mp hp)).at fun o e => moved hm hkp _ _ e
  | succ k ih =>
    intro i s hk' hi hst hkp hS hR
    obtain ⟨L, es, ep, t, hS, pm⟩ := hS
    refine codeAny_builtin PyProof.Rows.F.entry_set_update_loop ?_
    rw [Around.under_plainId PyProof.Rows.F.plain_set_update_loop _]
    have hlt : i < n := by omega
    show wpAny _ A.in1 (pyNext (.ref I) >>= _) _ _ s
    refine wpAny_bind (W.item i s _ _ hlt hst fun v s' hP hst' hm => ?_)
    obtain ⟨p, hp, rfl⟩ := hval i v hP
    have hkp' := moved hm hkp
    have inks : ∀ q ∈ L, q ∈ ks := fun q hq => List.mem_of_mem_take (pm.mem_iff.mp hq)
    have hS' : StT P w s'.heap S L es ep t := hS.keep (fun o e => hm.heap S o hSw e) fun q hq => (hk q (inks q hq)).at fun o e => hkp' _ _ e
    have hx : IsTx P w s'.heap p.2 p.1 := (hk p (List.mem_of_getElem? hp)).at fun o e => hkp' _ _ e
    have ht : ks.take (i + 1) = ks.take i ++ [p] := by rw [List.take_succ, hp]; rfl
    have hnew : ∀ q ∈ L, q.2 ≠ p.2 := fun q hq e => by
      have nd : ((ks.take (i + 1)).map (·.2)).Nodup := hd.sublist ((List.take_sublist _ _).map _)
      rw [ht, List.map_append] at nd
      exact (List.nodup_append.mp nd).2.2 q.2 (List.mem_map.mpr ⟨q, pm.mem_iff.mp hq, rfl⟩) p.2 (by simp) e
    have hL : L.length + 1 ≤ 64 := by
      have h1 := pm.length_eq
      rw [List.length_take] at h1
      omega
    show wpAny _ A.in1 (holding [Value.ref p.1] (setAdd S (.ref p.1)) >>= _) _ _ s'
    refine wpAny_bind (wpAny_holding ?_)
    unfold setAdd
    refine wpAny_holding (wpAny_bind (wpAny_pyHash_tuple hu hx ?_))
    refine add_tx (s := { s' with toks := s'.toks + (p.2.length + 1) }) hS' hx hnew hu hL fun h' L' es' ep' t' hsb hS2 pm2 => ?_
    have hkp2 : ∀ b o, h0.get? b = some o → h'.get? b = some o := fun b o e => (hsb.2 b (fun z => by rw [z, hS0] at e; cases e)).trans (hkp' b o e)
    have pm3 : L'.Perm (ks.take (i + 1)) := by
      rw [ht]
      exact pm2.trans ((List.Perm.cons p pm).trans (List.perm_append_comm (l₁ := [p]) (l₂ := ks.take i)))
    refine wpAny_pure ⟨plainId_quiet PyProof.Rows.F.plain_set_update_loop _, ih (i + 1) _ (by omega) hlt (W.frame _ s' _ _ hst' (Nat.le_add_right _ _) fun c hc o e => ?_) hkp2 ⟨L', es', ep', t', hS2, pm3⟩ fun s'' hm'' hS'' => ?_⟩
    · rw [hsb.2 c (fun z : c = S => hSf (by rw [← z]; exact hc))]; exact e
    · refine hR s'' (Moved.trans W.gtrans ((hm.mono hsub).then_heap (Nat.le_add_right _ _) fun c o hc e => ?_) hm'') hS''
      rw [hsb.2 c (fun z : c = S => hc (by rw [z]; exact List.mem_cons_self))]; exact e
theorem set_of_tups {l : Addr} {its : List Value} {ks : List (Addr × List Str)} {Q : Value → Shared → Prop} (hh : A.handled = none) (hu : A.units + 4 < cLine) (hl : s.heap.IsList l its.toArray) (hv : its = ks.map fun p => Value.ref p.1) (hd : (ks.map (·.2)).Nodup) (h64 : ks.length ≤ 64)
    (hk : ∀ p ∈ ks, IsTx P w s.heap p.2 p.1)
    (h : ∀ h' tk, SomeT P w h' s.heap.objs.size ks → (∀ b o, s.heap.get? b = some o → h'.get? b = some o) → Q (.ref s.heap.objs.size) { s with heap := h', toks := tk }) :
    wpAny (model P w) A (call (.type "set") [.ref l]) Q E s := by
  refine call_set_gen (Z := fun h' => SomeT P w h' s.heap.objs.size ks) hh (fun A' Q' hA hAu hq => ?_) h
  have hl1 : (s.heap.push (newSet w)).IsList l its.toArray := hl.push _
  have hlt : l < s.heap.objs.size := let ⟨_, ho, _⟩ := hl; Heap.lt_size ho
  have hz : (s.heap.push (newSet w)).objs.size = s.heap.objs.size + 1 := Heap.size_push ..
  refine upd_walk (T := "list") hl1.typeIs PySem.F.sub_list_set PySem.F.sub_list_frozenset (by decide) ?_
  refine wpAny_pyIter_list hl1 ?_
  have hne : l ≠ (s.heap.push (newSet w)).objs.size := by rw [hz]; exact Nat.ne_of_lt (Nat.lt_succ_of_lt hlt)
  have hn : its.toArray.size = ks.length := by rw [List.size_toArray, hv, List.length_map]
  have W := Walks.list (prog := P) (w := w) (A := A'.in1) (show A'.in1.handled = none from hA) (s.heap.push (newSet w)).objs.size l hne its.toArray
  rw [hn] at W
  have none_of : ∀ b, s.heap.objs.size ≤ b → s.heap.get? b = none := fun b hb => by
    cases q : s.heap.get? b with
    | none => rfl
    | some o => exact absurd (Nat.lt_of_lt_of_le (Heap.lt_size q) hb) (Nat.lt_irrefl _)
  refine loop_tups W.toS s.heap.objs.size (fun z => ?_) ks rfl hd h64 (fun i v hi => ?_) hk (none_of _ (Nat.le_refl _)) (fun b hb => none_of b (by rw [List.mem_singleton.mp hb, hz]; exact Nat.le_succ _)) (by show A'.units + 1 < cLine; omega) ks.length 0 _ (by omega) (Nat.zero_le _)
    ⟨⟨_, Heap.get?_push_size _ rfl, rfl, rfl⟩, hl1.push _⟩ (fun b o e => Heap.get?_push_of_some _ (Heap.get?_push_of_some _ e)) ⟨[], _, _, _, stT_new (Heap.get?_push_of_some _ (Heap.get?_push_size _ rfl)), by simp⟩ fun s' hm hx => ⟨rfl, ?_⟩
  · rcases List.mem_cons.mp z with z | z
    · rw [hz] at z; exact absurd z (Nat.ne_of_lt (Nat.lt_succ_self _))
    · rw [List.mem_singleton.mp z] at hlt; exact Nat.lt_irrefl _ hlt
  · have hi : its[i]? = some v := by rw [← Array.getElem?_toList] at hi; simpa using hi
    rw [hv, List.getElem?_map] at hi
    cases e : ks[i]? with
    | none => rw [e] at hi; cases hi
    | some p => rw [e] at hi; exact ⟨p, rfl, (Option.some.inj hi).symm⟩
  · obtain ⟨h2', g', d', tk', os'⟩ := s'
    obtain rfl : g' = s.gens := hm.gens
    obtain rfl : d' = s.drawn := hm.drawn
    obtain rfl : os' = s.os := hm.os
    refine hq h2' tk' hx fun b o e => ?_
    have hb : b < s.heap.objs.size := Heap.lt_size e
    refine hm.heap b o (fun z => ?_) (Heap.get?_push_of_some _ (Heap.get?_push_of_some _ e))
    rcases List.mem_cons.mp z with z | z
    · exact absurd hb (by rw [z]; exact Nat.lt_irrefl _)
    · rw [List.mem_singleton.mp z, hz] at hb
      exact absurd hb (Nat.not_lt_of_le (Nat.le_succ _))
end
end K58
set_option Elab.async false
set_option linter.all false
set_option maxRecDepth 100000
set_option maxHeartbeats 4000000
/-! Tuples of texts in order: how two compare, what a sort asks of many. -/
namespace K58
open PySem PySem.Spec PyProof.Rows L2
def codesOf (v : Value) : List Nat := match v with
  | .str z _ => z.cps.toList
  | _ => []
def itsOf (h : Heap) (v : Value) : List Value := match v with
  | .ref a => match h.get? a with
    | some o => match o.data with
      | .seq its _ => its.toList
      | _ => []
    | none => []
  | _ => []
def txOf (h : Heap) (v : Value) : List (List Nat) := (itsOf h v).map codesOf
def cp (k : List Str) : List (List Nat) := k.map fun z => z.cps.toList
theorem cp_inj {a b : List Str} (h : cp a = cp b) : a = b := by
  induction a generalizing b with
  | nil => cases b with
    | nil => rfl
    | cons _ _ => cases h
  | cons x r ih => cases b with
    | nil => cases h
    | cons y t =>
      obtain ⟨h1, h2⟩ := List.cons.inj (show x.cps.toList :: cp r = y.cps.toList :: cp t from h)
      rw [str_ext h1, ih h2]
theorem txOf_is {P : Program} {w : World} {h : Heap} {k : List Str} {a : Addr} (x : IsTx P w h k a) : txOf h (.ref a) = cp k := by
  obtain ⟨o, its, n, h1, _, h3, h4⟩ := x
  unfold txOf itsOf
  dsimp only
  rw [h1]
  dsimp only
  rw [h3]
  dsimp only
  generalize its.toList = vs at h4
  induction h4 with
  | nil => rfl
  | @cons z u ks us h1 _ ih =>
    obtain ⟨t, rfl⟩ := Value.isStrOf_shape (show Value.isStrOf z u = true from h1)
    rw [List.map_cons, ih]; rfl
def ltV (h : Heap) (v u : Value) : Bool := ltLL (txOf h v) (txOf h u)
theorem swoV (h : Heap) : SrtO.Swo (ltV h) := by
  refine ⟨fun x y h1 => ltLL_asymm h1, fun x y z h1 h2 => ?_⟩
  unfold ltV at h1 h2 ⊢
  cases e : ltLL (txOf h z) (txOf h x) with
  | false => rfl
  | true =>
    rcases ltLL_tri (txOf h x) (txOf h y) with q | q | q
    · rw [ltLL_trans _ _ _ e q] at h2; cases h2
    · rw [← q, e] at h2; cases h2
    · rw [h1] at q; cases q
/-- the first place that differs decides -/
theorem lex_ltLL {e r : Nat → Bool} : ∀ (n i : Nat) (a b : List (List Nat)), n = min a.length b.length → (∀ j (h1 : j < a.length) (h2 : j < b.length), e (i + j) = decide (a[j] = b[j]) ∧ r (i + j) = ltL a[j] b[j]) →
    Ob.lexAt e r (decide (a.length < b.length)) i n = ltLL a b
  | 0, i, a, b, hn, _ => by
    rw [Ob.lexAt_zero]
    cases a with
    | nil => cases b with
      | nil => rfl
      | cons _ _ => simp [ltLL]
    | cons x r => cases b with
      | nil => simp [ltLL]
      | cons y t => simp at hn
  | n + 1, i, a, b, hn, h => by
    cases a with
    | nil => simp at hn
    | cons x ra => cases b with
      | nil => simp at hn
      | cons y rb =>
        obtain ⟨h1, h2⟩ := h 0 (by simp) (by simp)
        rw [Nat.add_zero] at h1 h2
        have e0 : ((x :: ra)[0]'(by simp)) = x := rfl
        have e1 : ((y :: rb)[0]'(by simp)) = y := rfl
        rw [e0, e1] at h1 h2
        have hz : decide ((x :: ra).length < (y :: rb).length) = decide (ra.length < rb.length) := by simp
        rw [Ob.lexAt_succ, hz]
        have ih := lex_ltLL n (i + 1) ra rb (by simp at hn; omega) fun j k1 k2 => by
          have q := h (j + 1) (by simp; omega) (by simp; omega)
          rw [show i + 1 + j = i + (j + 1) by omega]
          exact q
        by_cases hxy : x = y
        · rw [h1, decide_eq_true hxy, if_pos rfl, ih]
          simp [ltLL, hxy, ltL_irr]
        · rw [h1, decide_eq_false hxy, if_neg Bool.false_ne_true, h2]
          simp [ltLL, hxy]
section
variable {P : Program} {w : World} {A : Around} {E : Value → Shared → Prop} {s : Shared}
theorem isTuple_tx {h : Heap} {k : List Str} {a : Addr} (x : IsTx P w h k a) : ∃ its : List Value, h.IsTuple a its.toArray ∧ StrsAre its k := by
  obtain ⟨o, its, n, h1, h2, h3, h4⟩ := x
  refine ⟨its.toList, ⟨o, h1, h2, n, by rw [h3]⟩, ?_⟩
  clear h3
  generalize its.toList = vs at h4
  induction h4 with
  | nil => exact .nil
  | @cons z u ks us h1 _ ih =>
    obtain ⟨t, rfl⟩ := Value.isStrOf_shape (show Value.isStrOf z u = true from h1)
    exact .cons z t ih
theorem strs_get : ∀ {vs : List Value} {k : List Str}, StrsAre vs k → vs.length = k.length ∧ ∀ j (h1 : j < vs.length) (h2 : j < k.length), ∃ t, vs[j] = .str k[j] t
  | _, _, .nil => ⟨rfl, fun j h => absurd h (by simp)⟩
  | _, _, .cons z t r => by
    obtain ⟨h1, h2⟩ := strs_get r
    refine ⟨by simp [h1], fun j k1 k2 => ?_⟩
    cases j with
    | zero => exact ⟨t, rfl⟩
    | succ j =>
      have := h2 j (by simpa using k1) (by simpa using k2)
      simpa using this
theorem two_txs {xs ys : List Value} {k m : List Str} (sx : StrsAre xs k) (sy : StrsAre ys m) : ∃ e r : Nat → Bool,
    (∀ (A : Around) (s : Shared) j (h1 : j < xs.toArray.size) (h2 : j < ys.toArray.size), SeqAt.EqAt A s xs.toArray[j] ys.toArray[j] (e j)) ∧
    (∀ (A : Around) (s : Shared) j (h1 : j < xs.toArray.size) (h2 : j < ys.toArray.size), Ob.RcOp .Lt A s xs.toArray[j] ys.toArray[j] (r j)) ∧
    Ob.lexAt e r (decide (xs.toArray.size < ys.toArray.size)) 0 (min xs.toArray.size ys.toArray.size) = ltLL (cp k) (cp m) := by
  obtain ⟨lx, gx⟩ := strs_get sx
  obtain ⟨ly, gy⟩ := strs_get sy
  have at_ : ∀ j (h1 : j < xs.toArray.size) (h2 : j < ys.toArray.size), ∃ a b t u, xs.toArray[j] = .str a t ∧ ys.toArray[j] = .str b u ∧ (cp k)[j]? = some a.cps.toList ∧ (cp m)[j]? = some b.cps.toList := fun j h1 h2 => by
    have k1 : j < k.length := by rw [← lx]; simpa using h1
    have k2 : j < m.length := by rw [← ly]; simpa using h2
    obtain ⟨t, e1⟩ := gx j (by simpa using h1) k1
    obtain ⟨u, e2⟩ := gy j (by simpa using h2) k2
    exact ⟨k[j], m[j], t, u, by simpa using e1, by simpa using e2, by unfold cp; rw [List.getElem?_map, List.getElem?_eq_getElem k1]; rfl, by unfold cp; rw [List.getElem?_map, List.getElem?_eq_getElem k2]; rfl⟩
  refine ⟨fun j => decide ((cp k)[j]? = (cp m)[j]?), fun j => ltL ((cp k).getD j []) ((cp m).getD j []), fun A s j h1 h2 => ?_, fun A s j h1 h2 => ?_, ?_⟩
  · obtain ⟨a, b, t, u, z1, z2, q1, q2⟩ := at_ j h1 h2
    have hh : decide ((cp k)[j]? = (cp m)[j]?) = (a == b) := by
      rw [q1, q2]
      by_cases h : a = b
      · rw [h]; simp
      · have : ¬ some a.cps.toList = some b.cps.toList := fun z => h (str_ext (Option.some.inj z))
        rw [decide_eq_false this]
        exact (beq_eq_false_iff_ne.mpr h).symm
    show SeqAt.EqAt A s _ _ (decide ((cp k)[j]? = (cp m)[j]?))
    rw [hh, z1, z2]
    exact SeqAt.EqAt.str_str _ _ _ _
  · obtain ⟨a, b, t, u, z1, z2, q1, q2⟩ := at_ j h1 h2
    show Ob.RcOp .Lt A s _ _ (ltL ((cp k).getD j []) ((cp m).getD j []))
    rw [z1, z2, List.getD_eq_getElem?_getD, List.getD_eq_getElem?_getD, q1, q2]
    intro prog w' E Q h
    refine PyProof.Rows.lt_str ?_
    have e : decide (a.cps.toList < b.cps.toList) = ltL a.cps.toList b.cps.toList := (ltL_iff _ _).symm
    rw [e]; exact h
  · have hz : decide (xs.toArray.size < ys.toArray.size) = decide ((cp k).length < (cp m).length) := by simp [lx, ly, cp]
    have hm : min xs.toArray.size ys.toArray.size = min (cp k).length (cp m).length := by simp [lx, ly, cp]
    rw [hz, hm, lex_ltLL _ 0 (cp k) (cp m) rfl fun j h1 h2 => by
      rw [Nat.zero_add, List.getElem?_eq_getElem h1, List.getElem?_eq_getElem h2, List.getD_eq_getElem?_getD, List.getD_eq_getElem?_getD, List.getElem?_eq_getElem h1, List.getElem?_eq_getElem h2]
      exact ⟨by simp, rfl⟩]
theorem rc_txs {a b : Addr} {k m : List Str} (hu : A.units < cLine) (ha : IsTx P w s.heap k a) (hb : IsTx P w s.heap m b) : Ob.RcOp .Lt A s (.ref a) (.ref b) (ltLL (cp k) (cp m)) := by
  obtain ⟨xs, tx1, sx⟩ := isTuple_tx ha
  obtain ⟨ys, ty1, sy⟩ := isTuple_tx hb
  obtain ⟨e, r, h1, h2, h3⟩ := two_txs sx sy
  have key := Ob.RcOp.tuples_lt (e := e) (r := r) tx1 ty1 hu (fun j k1 k2 => h1 _ _ j k1 k2) (fun j k1 k2 _ => h2 _ _ j k1 k2)
  rw [h3] at key
  exact key
theorem call_txs {a b : Addr} {k m : List Str} {Q : Value → Shared → Prop} (ha : IsTx P w s.heap k a) (hb : IsTx P w s.heap m b) (h : Q (.bool (ltLL (cp k) (cp m))) s) : wpAny (model P w) A (call (.builtin "tuple.__lt__") [.ref a, .ref b]) Q E s := by
  obtain ⟨xs, tx1, sx⟩ := isTuple_tx ha
  obtain ⟨ys, ty1, sy⟩ := isTuple_tx hb
  obtain ⟨e, r, h1, h2, h3⟩ := two_txs sx sy
  obtain ⟨⟨cls, dd, data, sl⟩, ho, hc, n, hd⟩ := id tx1
  obtain ⟨⟨cls2, dd2, data2, sl2⟩, ho2, hc2, n2, hd2⟩ := id ty1
  simp only at hc hd hc2 hd2
  subst hc hd hc2 hd2
  refine call_meets PySem.F.slot_tuple_lt ⟨_, ho, rfl⟩ PySem.F.entry_tuple_lt (PySem.F.args_tuple_lt_2 _ _) (Ob.tuple_ltAt a b xs.toArray ys.toArray n n2 dd dd2 sl sl2 e r) ⟨ho, ho2, fun j k1 k2 => h1 _ _ j k1 k2, fun j k1 k2 _ => h2 _ _ j k1 k2, ?_⟩
  rw [h3]; exact h
end
end K58
set_option Elab.async false
set_option linter.all false
set_option maxRecDepth 100000
set_option maxHeartbeats 4000000
/-! sorted of a set of tuples of texts. -/
namespace K58
open PySem PySem.Spec PyProof.Rows L2
theorem keyLt_gen (x y : Value) : keyLt' general' x y = oneLt' false x y := rfl
section
variable {P : Program} {w : World} {A : Around} {E : Value → Shared → Prop} {s : Shared}
/-- all of vs are tuples of texts -/
def AllTx (P : Program) (w : World) (h : Heap) (vs : List Value) : Prop := ∀ v ∈ vs, ∃ a k, v = Value.ref a ∧ IsTx P w h k a
theorem lt_false {a b : Addr} {k m : List Str} {Q : Bool → Shared → Prop} (hu : A.units < cLine) (ha : IsTx P w s.heap k a) (hb : IsTx P w s.heap m b) (h : Q (ltLL (cp k) (cp m)) s) : wpAny (model P w) A (oneLt' false (.ref a) (.ref b)) Q E s := by
  rw [oneLt'_eq]
  simp only [Bool.false_eq_true, if_false]
  refine wpAny_bind (rc_txs hu ha hb P w _ _ ?_)
  exact wpAny_truthy_bool h
theorem lt_true {a b : Addr} {k m : List Str} {Q : Bool → Shared → Prop} (hu : A.units + 4 < cLine) (ha : IsTx P w s.heap k a) (hb : IsTx P w s.heap m b) (h : Q (ltLL (cp k) (cp m)) s) : wpAny (model P w) A (oneLt' true (.ref a) (.ref b)) Q E s := by
  rw [oneLt'_eq]
  simp only [if_true]
  refine wpAny_bind (wpAny_cRoomFor (by omega) ?_)
  have ty : s.TypeIs (.ref a) "tuple" := let ⟨o, _, _, h1, h2, _⟩ := ha; ⟨o, h1, h2⟩
  refine wpAny_bind (wpAny_callSpecialIfBound?_slot ty PySem.F.slot_tuple_lt (call_txs ha hb ?_))
  exact wpAny_truthy_bool h
theorem first_tx {k : List Str} {a : Addr} {Q : Option Value → Shared → Prop} (x : IsTx P w s.heap k a) (h : Q (itsOf s.heap (.ref a))[0]? s) : wpAny (model P w) A (firstOfTuple' (.ref a)) Q E s := by
  obtain ⟨o, its, n, ho, hc, hd, _⟩ := x
  rw [PySem.W.kas_first_eq]
  refine wpAny_bind (PySem.W.Looks.here (show PySem.W.Looks (model P w) s.heap (typeOf (.ref a)) o.cls from (PySem.W.Looks.ld ho).andThen .now) ?_)
  rw [hc, if_neg (by first | decide | simp)]
  refine wpAny_bind (listItems_at ho hd (wpAny_pure ?_))
  have e : itsOf s.heap (.ref a) = its.toList := by
    unfold itsOf
    dsimp only
    rw [ho]
    dsimp only
    rw [hd]
  rw [e] at h
  rw [← Array.getElem?_toList]
  exact h
theorem mapM_each {α β : Type} {M : Model} {f : α → Sem β} {g : α → β} : ∀ (l : List α) {Q : List β → Shared → Prop}, (∀ v ∈ l, ∀ (Q' : β → Shared → Prop), Q' (g v) s → wpAny M A (f v) Q' E s) → Q (l.map g) s → wpAny M A (l.mapM f) Q E s
  | [], Q, _, h => by rw [List.mapM_nil]; exact wpAny_pure h
  | a :: l, Q, hf, h => by
    rw [List.mapM_cons]
    refine wpAny_bind (hf a List.mem_cons_self _ (wpAny_bind (mapM_each l (Q := fun bs s' => wpAny M A (pure (g a :: bs)) Q E s') (fun v hv => hf v (List.mem_cons_of_mem _ hv)) (wpAny_pure h))))
theorem one_type {vs : List Value} {T : String} {Q : Option Value → Shared → Prop} (hne : vs ≠ []) (hT : ∀ v ∈ vs, s.TypeIs v T) (h : Q (some (.type T)) s) : wpAny (model P w) A (oneTypeOnly' vs.toArray) Q E s := by
  rw [oneTypeOnly'_eq, List.mapM_toArray, map_eq_pure_bind]
  refine wpAny_bind (wpAny_bind (mapM_each (g := fun _ => Value.type T) vs (fun v hv Q' hq => wpAny_typeOf (hT v hv) hq) (wpAny_pure ?_)))
  obtain ⟨v, r, rfl⟩ := List.exists_cons_of_ne_nil hne
  have h0 : (List.map (fun _ => Value.type T) (v :: r)).toArray[0]? = some (.type T) := by simp
  rw [h0]
  have hall : ((List.map (fun _ => Value.type T) (v :: r)).toArray.all fun x => x == .type T) = true := by
    rw [List.all_toArray, List.all_map, List.all_eq_true]
    exact fun _ _ => beq_self_eq_true (Value.type T)
  dsimp only
  rw [if_pos hall]
  exact wpAny_pure h
theorem kat_txs {b : Bool} {Q : Bool → Shared → Prop} : ∀ {xs ys : List Value} {k m : List Str}, StrsAre xs k → StrsAre ys m → ∀ i : Nat, Q (ltLL (cp k) (cp m)) s → PySem.W.KatLex P w A b (decide (xs.length < ys.length)) Q (xs.zip ys) i s
  | _, _, _, _, .nil, .nil, i, h => PySem.W.kat_nil h
  | _, _, _, _, .nil, .cons y u r, i, h => PySem.W.kat_nil (by simpa [cp, ltLL] using h)
  | _, _, _, _, .cons x t r, .nil, i, h => PySem.W.kat_nil (by simpa [cp, ltLL] using h)
  | _, _, _, _, .cons (vs := vs) (ys := ks) x t r, .cons (vs := us) (ys := ms) y u q, i, h => by
    have hz : decide ((Value.str x t :: vs).length < (Value.str y u :: us).length) = decide (vs.length < us.length) := by simp
    rw [hz, List.zip_cons_cons]
    have hl : ltLL (cp (x :: ks)) (cp (y :: ms)) = (ltL x.cps.toList y.cps.toList || (decide (x.cps.toList = y.cps.toList) && ltLL (cp ks) (cp ms))) := rfl
    rw [hl] at h
    refine PySem.W.kat_cons (SeqAt.EqAt.str_str x t y u P w _ _ ?_)
    refine PySem.W.kat_go (fun e1 => ?_) (fun e1 => ?_)
    · have ex : x = y := by simpa using e1
      subst ex
      rw [ltL_irr] at h
      have h' : Q (ltLL (cp ks) (cp ms)) s := by simpa using h
      exact PySem.W.kat_yes (kat_txs r q (i + 1) h')
    · have ex : ¬ x = y := by simpa using e1
      have ex2 : ¬ x.cps.toList = y.cps.toList := fun z => ex (str_ext z)
      rw [decide_eq_false ex2, Bool.false_and, Bool.or_false, ltL_iff] at h
      refine PySem.W.kat_no ?_
      cases b && i == 0 with
      | true => exact oneLt_str h
      | false => exact PySem.W.kat_one _ _ (PyProof.Rows.lt_str h)
theorem lt_tups {b : Bool} {a c : Addr} {k m : List Str} {Q : Bool → Shared → Prop} (ha : IsTx P w s.heap k a) (hb : IsTx P w s.heap m c) (h : Q (ltLL (cp k) (cp m)) s) : wpAny (model P w) A (keyLt' (tuples' b) (.ref a) (.ref c)) Q E s := by
  obtain ⟨xs, ⟨o, ho, _, n, hd⟩, sx⟩ := isTuple_tx ha
  obtain ⟨ys, ⟨o2, ho2, _, n2, hd2⟩, sy⟩ := isTuple_tx hb
  refine PySem.W.kat_lt ho hd ho2 hd2 ?_
  have := kat_txs (P := P) (w := w) (A := A) (b := b) sx sy 0 h
  simpa using this
theorem kind_txs {vs : List Value} (h2 : 2 ≤ vs.length) (hv : AllTx P w s.heap vs) : ∃ κ, (κ = tuples' true ∨ κ = general' ∨ κ = oneType') ∧ ∀ (Q : SortKind → Shared → Prop) (E : Value → Shared → Prop), Q κ s → wpAny (model P w) A (keyKind' vs.toArray) Q E s := by
  have hf : ∀ v ∈ vs, ∀ (E : Value → Shared → Prop) (Q' : Option Value → Shared → Prop), Q' (itsOf s.heap v)[0]? s → wpAny (model P w) A (firstOfTuple' v) Q' E s := fun v m E Q' h => by
    obtain ⟨a, k, rfl, x⟩ := hv v m
    exact first_tx x h
  have hty : ∀ v ∈ vs, s.TypeIs v "tuple" := fun v m => by
    obtain ⟨a, k, rfl, o, _, _, h1, h2, _⟩ := hv v m
    exact ⟨o, h1, h2⟩
  have hstr : ∀ v ∈ vs, ∀ u, (itsOf s.heap v)[0]? = some u → s.TypeIs u "str" := fun v m u hu => by
    obtain ⟨a, k, rfl, o, its, n, h1, h2, h3, h4⟩ := hv v m
    have e : itsOf s.heap (.ref a) = its.toList := by
      unfold itsOf
      dsimp only
      rw [h1]
      dsimp only
      rw [h3]
    rw [e] at hu
    obtain ⟨z, t, rfl⟩ := txts_of h4 u (List.mem_of_getElem? hu)
    exact rfl
  have hne : vs ≠ [] := fun e => by rw [e] at h2; simp at h2
  by_cases hall : ((vs.map fun v => (itsOf s.heap v)[0]?).toArray.all fun x => x.isSome) = true
  · refine ⟨tuples' true, .inl rfl, fun Q E h => ?_⟩
    rw [PyProof.Rows.kat_kind_eq, List.mapM_toArray, map_eq_pure_bind]
    refine wpAny_bind (wpAny_bind (mapM_each (g := fun v => (itsOf s.heap v)[0]?) vs (fun v m => hf v m E) (wpAny_pure ?_)))
    rw [if_pos hall]
    refine wpAny_bind (wpAny_rule ?_)
    have e1 : ((vs.map fun v => (itsOf s.heap v)[0]?).toArray.filterMap id) = (vs.filterMap fun v => (itsOf s.heap v)[0]?).toArray := by simp
    rw [e1]
    have hne2 : (vs.filterMap fun v => (itsOf s.heap v)[0]?) ≠ [] := fun e => by
      obtain ⟨v, r, rfl⟩ := List.exists_cons_of_ne_nil hne
      have h1 : ((itsOf s.heap v)[0]?).isSome = true := by
        rw [List.all_toArray, List.all_map, List.all_eq_true] at hall
        exact hall v List.mem_cons_self
      obtain ⟨u, hu⟩ := Option.isSome_iff_exists.mp h1
      have e3 : List.filterMap (fun v => (itsOf s.heap v)[0]?) (v :: r) = u :: List.filterMap (fun v => (itsOf s.heap v)[0]?) r := List.filterMap_cons_some (f := fun v => (itsOf s.heap v)[0]?) hu
      rw [e3] at e
      cases e
    refine wpAny_bind (one_type hne2 (T := "str") (fun u hu => ?_) ?_)
    · obtain ⟨v, hvm, hu⟩ := List.mem_filterMap.mp hu
      exact hstr v hvm u hu
    · have e2 : ((some (Value.type "str") : Option Value).any fun x => x != .type "tuple") = true := by decide
      rw [e2]
      exact wpAny_pure h
  · by_cases h0 : (((vs.map fun v => (itsOf s.heap v)[0]?).toArray[0]?).bind id).isSome = true
    · refine ⟨general', .inr (.inl rfl), fun Q E h => ?_⟩
      rw [PyProof.Rows.kat_kind_eq, List.mapM_toArray, map_eq_pure_bind]
      refine wpAny_bind (wpAny_bind (mapM_each (g := fun v => (itsOf s.heap v)[0]?) vs (fun v m => hf v m E) (wpAny_pure ?_)))
      rw [if_neg hall, if_pos h0]
      exact wpAny_pure h
    · refine ⟨oneType', .inr (.inr rfl), fun Q E h => ?_⟩
      rw [PyProof.Rows.kat_kind_eq, List.mapM_toArray, map_eq_pure_bind]
      refine wpAny_bind (wpAny_bind (mapM_each (g := fun v => (itsOf s.heap v)[0]?) vs (fun v m => hf v m E) (wpAny_pure ?_)))
      rw [if_neg hall, if_neg h0]
      refine wpAny_bind (one_type hne (T := "tuple") hty ?_)
      exact wpAny_pure h
theorem cmp_txs {vs : List Value} {κ : SortKind} (hκ : κ = tuples' true ∨ κ = general' ∨ κ = oneType') (hu : A.units + 4 < cLine) (hv : AllTx P w s.heap vs) : SrtO.Cmp P w A s κ (fun p => p.1 ∈ vs) (SrtO.lt2 (ltV s.heap)) := by
  intro p q hp hq
  obtain ⟨a, k, e1, x1⟩ := hv p.1 hp
  obtain ⟨b, m, e2, x2⟩ := hv q.1 hq
  have e : SrtO.lt2 (ltV s.heap) p q = ltLL (cp k) (cp m) := by
    show ltLL (txOf s.heap p.1) (txOf s.heap q.1) = _
    rw [e1, e2, txOf_is x1, txOf_is x2]
  rw [e, e1, e2]
  rcases hκ with rfl | rfl | rfl
  · exact lt_tups x1 x2 ⟨rfl, rfl⟩
  · rw [keyLt_gen]; exact lt_false (by omega) x1 x2 ⟨rfl, rfl⟩
  · rw [keyLt'_oneType]; exact lt_true hu x1 x2 ⟨rfl, rfl⟩
theorem AllTx.at {h h' : Heap} {vs : List Value} (x : AllTx P w h vs) (k : ∀ v ∈ vs, ∀ a o, v = .ref a → h.get? a = some o → h'.get? a = some o) : AllTx P w h' vs := fun v m => by
  obtain ⟨a, l, e, y⟩ := x v m
  exact ⟨a, l, e, y.at fun o ho => k v m a o e ho⟩
theorem AllTx.ltV {h h' : Heap} {vs : List Value} (x : AllTx P w h vs) (y : ∀ v ∈ vs, ∀ a o, v = .ref a → h.get? a = some o → h'.get? a = some o) {v : Value} (m : v ∈ vs) : txOf h' v = txOf h v := by
  obtain ⟨a, l, rfl, z⟩ := x v m
  rw [txOf_is z, txOf_is (z.at fun o ho => y _ m a o rfl ho)]
/-- sorting asks no more, at any heap that keeps the tuples -/
theorem sortable_txs {a : Addr} {vs : List Value} {lt : Value → Value → Bool} (h2 : 2 ≤ vs.length) (hu : A.units + 4 < cLine) (hv : AllTx P w s.heap vs) (ha : ∀ v ∈ vs, v ≠ .ref a) (hlt : ∀ v ∈ vs, ∀ u ∈ vs, lt v u = ltV s.heap v u) : SrtO.SortableO P w A s a vs lt := by
  intro h' keep
  have kp : ∀ v ∈ vs, ∀ b o, v = .ref b → s.heap.get? b = some o → h'.get? b = some o := fun v m b o e ho => keep b o (fun z => ha v m (by rw [e, z])) ho
  have hv' := hv.at kp
  obtain ⟨κ, h1, h3⟩ := kind_txs (A := A) (s := { s with heap := h' }) h2 hv'
  refine ⟨κ, h3, fun p q hp hq => ?_⟩
  have c := cmp_txs (A := A) (s := { s with heap := h' }) h1 hu hv' p q hp hq
  have e : SrtO.lt2 lt p q = SrtO.lt2 (ltV h') p q := by
    show lt p.1 q.1 = ltLL (txOf h' p.1) (txOf h' q.1)
    rw [hlt p.1 hp q.1 hq, hv.ltV kp hp, hv.ltV kp hq]; rfl
  rw [e]
  exact c
end
end K58
set_option Elab.async false
set_option linter.all false
set_option maxRecDepth 100000
set_option maxHeartbeats 4000000
/-! sorted(set(..)) of tuples of texts, as a rule. -/
namespace K58
open PySem PySem.Spec PyProof.Rows L2
theorem perm_back {α β : Type} {f : α → β} {l m : List β} (h : l.Perm m) : ∀ {ks : List α}, m = ks.map f → ∃ ys : List α, ys.Perm ks ∧ l = ys.map f := by
  induction h with
  | nil => intro ks e; exact ⟨[], by rw [List.map_eq_nil_iff.mp e.symm], rfl⟩
  | cons x h ih =>
    intro ks e
    cases ks with
    | nil => cases e
    | cons k r =>
      obtain ⟨e1, e2⟩ := List.cons.inj e
      obtain ⟨ys, h1, h2⟩ := ih e2
      exact ⟨k :: ys, h1.cons k, by rw [e1, h2]; rfl⟩
  | swap x y l =>
    intro ks e
    cases ks with
    | nil => cases e
    | cons k r => cases r with
      | nil => cases e
      | cons k2 r =>
        obtain ⟨e1, e2⟩ := List.cons.inj e
        obtain ⟨e3, e4⟩ := List.cons.inj e2
        exact ⟨k2 :: k :: r, List.Perm.swap .., by rw [e1, e3, e4]; rfl⟩
  | trans h1 h2 ih1 ih2 =>
    intro ks e
    obtain ⟨ys, p1, e1⟩ := ih2 e
    obtain ⟨zs, p2, e2⟩ := ih1 e1
    exact ⟨zs, p2.trans p1, e2⟩
section
variable {P : Program} {w : World} {A : Around} {E : Value → Shared → Prop} {s : Shared}
theorem sorted_tups {a : Addr} {ks : List (Addr × List Str)} {Q : Value → Shared → Prop} (R : SomeT P w s.heap a ks) (hh : A.handled = none) (hu : A.units + 8 < cLine) (hd : (ks.map (·.2)).Nodup)
    (hQ : ∀ s' p (out : Array Value) (c : Nat) (ys : List (Addr × List Str)), (∀ b o, s.heap.get? b = some o → s'.heap.get? b = some o) → s'.gens = s.gens → s'.os = s.os → s.heap.objs.size ≤ p →
      s'.heap.get? p = some (seqObj "list" out c) → out.toList = ys.map (fun q => Value.ref q.1) → ys.Perm ks → ys.Pairwise (fun q r => ltLL (cp q.2) (cp r.2) = true) → Q (.ref p) s') :
    wpAny (model P w) A (call (.builtin "sorted") [.ref a]) Q E s := by
  obtain ⟨L, es, ep, t, R, pmL⟩ := R
  obtain ⟨o, ho, hex, hdt⟩ := R.ob
  have hsz := ents_size R.ents
  have hfew := R.few
  refine Calls.call_function_entry kind_sorted plain_sorted entry_sorted (args_sorted1 _) ?_
  unfold Builtin.«sorted»
  refine wpAny_bind (m := checkCount "sorted" 1 1 _) (wpAny_pure ?_)
  refine wpAny_bind (collect_set (A := A.in1) hh ⟨o, ho, hex.1, hdt⟩ R.fits (by unfold scanBound; omega) R.tab.ris R.led fun s1 vs k1 hz g1 o1 pm => ?_)
  have hes : es.toList.map (·.2) = L.map fun q => Value.ref q.1 := by
    rw [R.ents, entsOf, List.map_map]; rfl
  rw [hes] at pm
  have pmk : vs.Perm (ks.map fun q => Value.ref q.1) := pm.trans (pmL.map _)
  have hvl : vs.length ≤ 64 := by rw [pm.length_eq, List.length_map]; exact hfew
  refine wpAny_bind (wpAny_newList ?_ (by rw [sizeLine_eq]; omega))
  have hoL : (s1.heap.push (seqObj "list" vs.toArray 0)).get? s1.heap.objs.size = some (seqObj "list" vs.toArray 0) := Heap.get?_push_size _ rfl
  have tupL : ∀ q ∈ ks, IsTx P w (s1.heap.push (seqObj "list" vs.toArray 0)) q.2 q.1 := fun q hq => (R.tup q (pmL.mem_iff.mpr hq)).at fun u e => Heap.get?_push_of_some _ (k1 _ u e)
  have hv : AllTx P w (s1.heap.push (seqObj "list" vs.toArray 0)) vs := fun v m => by
    obtain ⟨q, hq, rfl⟩ := List.mem_map.mp (pmk.mem_iff.mp m)
    exact ⟨q.1, q.2, rfl, tupL q hq⟩
  have hna : ∀ v ∈ vs, v ≠ .ref s1.heap.objs.size := fun v m z => by
    obtain ⟨q, hq, e⟩ := List.mem_map.mp (pmk.mem_iff.mp m)
    rw [← e] at z
    have z' : q.1 = s1.heap.objs.size := by injection z
    obtain ⟨o', its, n, h1, _⟩ := R.tup q (pmL.mem_iff.mpr hq)
    have := Heap.lt_size (k1 _ _ h1)
    rw [z'] at this
    exact Nat.lt_irrefl _ this
  refine wpAny_bind (wpAny_holding (wpAny_call_entry slot_list_sort ⟨_, hoL, rfl⟩ entry_list_sort (SrtO.list_sort_ord (s := { s1 with heap := s1.heap.push (seqObj "list" vs.toArray 0) }) (swoV (s1.heap.push (seqObj "list" vs.toArray 0))) hoL (by rw [sizeLine_eq]; omega) (fun h2 => ?_) fun out hs hb => ⟨_, rfl, ?_⟩) (args_list_sort _)))
  · exact sortable_txs (s := { s1 with heap := s1.heap.push (seqObj "list" vs.toArray 0) }) h2 (by show A.units + 1 + 1 + 4 < cLine; omega) hv hna fun v _ u _ => rfl
  · obtain ⟨c, hc⟩ := sortedHeap_at (vs := vs) (out := out.toArray) hoL
    obtain ⟨ys, p1, e1⟩ := perm_back (hb.perm.trans pmk) rfl
    have nd2 : (ys.map (·.2)).Nodup := (p1.map (·.2)).nodup_iff.mpr hd
    have asc : ys.Pairwise (fun q r => ltLL (cp q.2) (cp r.2) = true) := by
      rw [e1] at hs
      have h1 := List.pairwise_map.mp hs
      have h2 := List.pairwise_map.mp nd2
      refine List.Pairwise.imp_of_mem (fun {q r} hq hr h => ?_) (h1.and h2)
      obtain ⟨g1, g2⟩ := h
      have x1 := txOf_is (tupL q (p1.mem_iff.mp hq))
      have x2 := txOf_is (tupL r (p1.mem_iff.mp hr))
      have g1 : ltLL (txOf (s1.heap.push (seqObj "list" vs.toArray 0)) (.ref r.1)) (txOf (s1.heap.push (seqObj "list" vs.toArray 0)) (.ref q.1)) = false := g1
      rw [x1, x2] at g1
      rcases ltLL_tri (cp q.2) (cp r.2) with z | z | z
      · exact z
      · exact absurd (cp_inj z) g2
      · rw [g1] at z; cases z
    refine wpAny_pure ⟨_, rfl, hQ _ s1.heap.objs.size _ c ys (fun b u e => ?_) g1 o1 hz hc (by simpa using e1) p1 asc⟩
    have q := k1 b u e
    have hlt := Heap.lt_size q
    show (sortedHeap (s1.heap.push (seqObj "list" vs.toArray 0)) s1.heap.objs.size vs _).get? b = some u
    rw [sortedHeap_old (Nat.ne_of_lt hlt) (by rw [size_push']; exact Nat.lt_succ_of_lt hlt)]
    exact Heap.get?_push_of_some _ q
/-- the same without the tuples -/
def SomeC (P : Program) (w : World) (h : Heap) (a : Addr) (ks : List (Addr × List Str)) : Prop := ∃ L es ep t, (∃ o, h.get? a = some o ∧ o.ExactSet ∧ o.data = .set es ep t) ∧ es.toList = entsOf P w L ∧ TabOk t (L.map fun p => hT P w p.2) ∧
  (w.params.followText "set-order" = true ∨ t.led = true) ∧ L.length * 5 < t.mask * 3 ∧ L.length ≤ 64 ∧ L.Perm ks
theorem SomeT.core {h : Heap} {a : Addr} {ks : List (Addr × List Str)} (x : SomeT P w h a ks) : SomeC P w h a ks :=
  let ⟨L, es, ep, t, R, pm⟩ := x
  ⟨L, es, ep, t, R.ob, R.ents, R.tab, R.led, R.room, R.few, pm⟩
theorem SomeC.full {h : Heap} {a : Addr} {ks : List (Addr × List Str)} (x : SomeC P w h a ks) (hk : ∀ p ∈ ks, IsTx P w h p.2 p.1) : SomeT P w h a ks :=
  let ⟨L, es, ep, t, h1, h2, h3, h4, h5, h6, pm⟩ := x
  ⟨L, es, ep, t, ⟨h1, h2, h3, fun p hp => hk p (pm.mem_iff.mp hp), h4, h5, h6⟩, pm⟩
end
def TupO (P : Program) (w : World) (a : Addr) (ks : List (Addr × List Str)) : HO := .ext fun h => SomeC P w h a ks
theorem tupO_ok {P : Program} {w : World} {H : Hp} {h : Heap} {a : Addr} {ks : List (Addr × List Str)} (x : SomeC P w h a ks) : ObjOk P w H h a (TupO P w a ks) := by
  have ⟨_, _, _, _, ⟨o, ho, _⟩, _⟩ := x
  refine ⟨x, ⟨o, ho⟩, fun h1 h2 y k => ?_⟩
  have ⟨L, es, ep, t, ⟨o', ho', r⟩, q⟩ := y
  exact ⟨L, es, ep, t, ⟨o', k o' ho', r⟩, q⟩
section
variable {X : Cx}
theorem inv_isTx {pins : List (Addr × Obj)} {σ : L2.St} {H : Hp} {s : Shared} {b : Addr} {k : List Str} (I : Inv X pins σ H s) (h : SqT X.K H b (k.map V.str)) : IsTx X.prog X.w s.heap k b := by
  obtain ⟨its, r, ⟨o, ho, hc, n, hd⟩, _⟩ := I.tuple h
  refine ⟨o, its.toArray, n, ho, hc, hd, ?_⟩
  have key : ∀ {k : List Str} {us : List Value}, Vals (k.map V.str) us → PySem.ItemsAre (PySem.strKind X.prog X.w) k us := by
    intro k
    induction k with
    | nil => intro us r; cases r; exact .nil
    | cons z k ih =>
      intro us r
      cases r with
      | cons r t =>
        obtain ⟨tk, rfl⟩ := r
        exact .cons (PySem.Froz.is_str z tk) (ih t)
  simpa using key r
theorem refs_is : ∀ {ks : List (Addr × List Str)} {us : List Value}, Vals (ks.map fun p => V.ref p.1) us → us = ks.map fun p => Value.ref p.1
  | [], _, .nil => rfl
  | p :: ks, _, .cons r t => by
    cases r
    rw [refs_is t]; rfl
theorem is_refs : ∀ ks : List (Addr × List Str), Vals (ks.map fun p => V.ref p.1) (ks.map fun p => Value.ref p.1)
  | [] => .nil
  | p :: ks => .cons rfl (is_refs ks)
def rSetT (K : PySem.W.Frag) (P : Program) (w : World) : List V → Hp → VK → Prop := fun xs H Q => ∃ (l : Addr) (ks : List (Addr × List Str)), xs = [V.ref l] ∧ SqL K H l (ks.map fun p => V.ref p.1) ∧ (∀ p ∈ ks, SqT K H p.1 (p.2.map V.str)) ∧ (ks.map (·.2)).Nodup ∧ ks.length ≤ 64 ∧
  ∀ p, H p = none → Q (.ref p) (upd H p (TupO P w p ks))
theorem cr_setT (hc : X.calm = true) (hu : X.A.units + 64 < cLine) : CallR X (.type "set") (rSetT X.K X.prog X.w) := by
  intro pins s σ H xs us Q I r h
  obtain ⟨l, ks, rfl, hs, hk, hd, h64, q⟩ := h
  rw [Vals.ref1 r]
  obtain ⟨its, rv, pl, hz⟩ := I.list hs
  refine set_of_tups (I.ok.hd hc) (by omega) pl.isList (refs_is rv) hd h64 (fun p hp => inv_isTx I (hk p hp)) fun h' tk R k => ?_
  exact ⟨.ref s.heap.objs.size, upd H s.heap.objs.size (TupO X.prog X.w s.heap.objs.size ks), I.laid (t' := tk) k (Nat.le_refl _) (tupO_ok R.core), rfl, q _ (I.hok.fresh (Nat.le_refl _))⟩
def rSortTp (K : PySem.W.Frag) (P : Program) (w : World) : List V → Hp → VK → Prop := fun vs H Q => ∃ (a : Addr) (ks : List (Addr × List Str)), vs = [V.ref a] ∧ H a = some (TupO P w a ks) ∧ (∀ p ∈ ks, SqT K H p.1 (p.2.map V.str)) ∧ (ks.map (·.2)).Nodup ∧ ks.length ≤ 64 ∧
  ∀ (ys : List (Addr × List Str)) (p : Addr), ys.Perm ks → ys.Pairwise (fun q r => ltLL (cp q.2) (cp r.2) = true) → H p = none → Q (.ref p) (upd H p (.lst (ys.map fun p => V.ref p.1)))
theorem cr_sortTp (hc : X.calm = true) (hu : X.A.units + 64 < cLine) : CallR X (.builtin "sorted") (rSortTp X.K X.prog X.w) := by
  intro pins s σ H vs us Q I r h
  obtain ⟨a, ks, rfl, ha, hk, hd, h64, q⟩ := h
  have R : SomeC X.prog X.w s.heap a ks := (I.hok a _ ha).1
  rw [Vals.ref1 r]
  refine sorted_tups (R.full fun p hp => inv_isTx I (hk p hp)) (I.ok.hd hc) (by omega) hd fun s' p out c ys k g o hp hg hi pm hs => ?_
  have hlen : (ys.map fun p => V.ref p.1).length ≤ sizeLine := by rw [List.length_map, pm.length_eq, sizeLine_eq]; omega
  have hn : H p = none := I.hok.fresh hp
  have hv : Vals (ys.map fun p => V.ref p.1) out.toList := by rw [hi]; exact is_refs ys
  have J : Inv X pins σ (upd H p (.lst (ys.map fun p => V.ref p.1))) s' := I.call' (s' := s') (ch := []) o (Un.laid k hp hn) (I.hok.laid k hp ⟨hlen, out.toList, c, hv, hg⟩) (by rw [g]; exact I.bare) (fun _ z => nomatch z)
  exact ⟨.ref p, _, J, rfl, q ys p pm hs hn⟩
/-- sorted(set(e)), e a list of tuples of texts, all unlike -/
def tSortSetT (K : PySem.W.Frag) (te : TE) : TE := fun σ H Q => te σ H fun v H1 => ∃ (l : Addr) (ks : List (Addr × List (List Nat))), v = .ref l ∧ SqL K H1 l (ks.map fun p => V.ref p.1) ∧ (∀ p ∈ ks, SqT K H1 p.1 (p.2.map tx)) ∧ (ks.map (·.2)).Nodup ∧ ks.length ≤ 64 ∧
  ∀ (ys : List (Addr × List (List Nat))) (q : Addr) (H' : Hp), ys.Perm ks → AscLL (ys.map (·.2)) → Ext H1 H' → H1 q = none → H' q = some (.lst (ys.map fun p => V.ref p.1)) → Q (.ref q) H'
def toS (p : Addr × List (List Nat)) : Addr × List Str := (p.1, p.2.map S)
def ofS (p : Addr × List Str) : Addr × List (List Nat) := (p.1, cp p.2)
theorem cp_S (c : List (List Nat)) : cp (c.map S) = c := by unfold cp; rw [List.map_map]; exact (List.map_congr_left fun x _ => S_cps x).trans (List.map_id c)
theorem ofS_toS (p : Addr × List (List Nat)) : ofS (toS p) = p := by unfold ofS toS; rw [cp_S]
theorem map_tx2 (c : List (List Nat)) : (c.map S).map V.str = c.map tx := by rw [List.map_map]; rfl
theorem pe_sortSetT {e : Expr} {te : TE} {p1 p2 p3 p4 : Pos} (hc : X.calm = true) (hu : X.A.units + 64 < cLine) (gs : Gl X "sorted") (ms : X.mg "sorted" = none) (gt : Gl X "set") (mt : X.mg "set" = none) (he : PE X e te)
    (h1 : starEach [Expr.Call (.Name "set" p2) [e] [] p3] X.env = (false, eval (.Call (.Name "set" p2) [e] [] p3) X.env) :: starEach [] X.env := by rfl) (h2 : starEach [e] X.env = (false, eval e X.env) :: starEach [] X.env := by rfl) :
    PE X (.Call (.Name "sorted" p1) [.Call (.Name "set" p2) [e] [] p3] [] p4) (tSortSetT X.K te) := by
  have h := pe_callB (X := X) (p := p1) (pos := p4) (cr_sortTp hc hu) gs ms (by decide +kernel) (pa_cons (pe_callTy (p := p2) (pos := p3) (cr_setT hc hu) gt mt (by decide +kernel) (pa_cons (pe_mono he) pa_nil h2) (by decide) (by decide) h2) pa_nil h1) (by decide) (by decide) h1
  refine pe_of h fun σ H Q q => ⟨_, q, fun v H1 h0 => ?_⟩
  obtain ⟨l, ks, rfl, hl, hk, hd, h64, k⟩ := h0
  have e0 : (ks.map toS).map (fun p => V.ref p.1) = ks.map fun p => V.ref p.1 := by rw [List.map_map]; rfl
  have nd : ((ks.map toS).map (·.2)).Nodup := by
    rw [List.map_map]
    have e1 : ks.map ((·.2) ∘ toS) = (ks.map (·.2)).map fun c => c.map S := by rw [List.map_map]; rfl
    rw [e1]
    refine List.Pairwise.map _ (fun a b hab z => hab ?_) hd
    have := congrArg cp z
    rw [cp_S, cp_S] at this
    exact this
  have tup : ∀ H2, Ext H1 H2 → ∀ p ∈ ks.map toS, SqT X.K H2 p.1 (p.2.map V.str) := fun H2 e2 p hp => by
    obtain ⟨p0, hp0, rfl⟩ := List.mem_map.mp hp
    show SqT X.K H2 p0.1 ((p0.2.map S).map V.str)
    rw [map_tx2]
    exact e2.tup (hk p0 hp0)
  refine ⟨l, ks.map toS, rfl, by rw [e0]; exact hl, tup H1 (Ext.refl _), nd, by rw [List.length_map]; exact h64, fun p np => ?_⟩
  have e1 : Ext H1 (upd H1 p (TupO X.prog X.w p (ks.map toS))) := (Ext.refl H1).then np rfl
  refine ⟨p, ks.map toS, rfl, upd_same, tup _ e1, nd, by rw [List.length_map]; exact h64, fun ys q2 pm hs nq => ?_⟩
  obtain ⟨zs, pz, ez⟩ := perm_back pm rfl
  subst ez
  have ea : (zs.map toS).map (fun p => V.ref p.1) = zs.map fun p => V.ref p.1 := by rw [List.map_map]; rfl
  rw [ea]
  refine k zs q2 _ pz ?_ (e1.then nq rfl) ?_ upd_same
  · refine List.pairwise_map.mpr ((List.pairwise_map.mp hs).imp fun {a b} h => ?_)
    have h : ltLL (cp (a.2.map S)) (cp (b.2.map S)) = true := h
    rw [cp_S, cp_S] at h
    exact h
  · have e : q2 ≠ p := fun z => by rw [z, upd_same] at nq; cases nq
    rw [upd_ne e] at nq
    exact nq
end
end K58
set_option Elab.async false
set_option linter.all false
set_option maxRecDepth 100000
set_option maxHeartbeats 1000000
/-! The law's own reckoning: the good rows, the root. -/
namespace K58
open PySem PySem.Spec PyProof.Rows L2
/-- a tuple of texts, made in the run -/
def TupR (H : Hp) (c : List (List Nat)) (y : V) : Prop := ∃ r, y = .ref r ∧ H r = some (.tup (c.map tx))
theorem TupR.ext {H H' : Hp} (e : Ext H H') {c : List (List Nat)} {y : V} (h : TupR H c y) : TupR H' c y := by
  obtain ⟨r, h1, h2⟩ := h; exact ⟨r, h1, e.same _ _ h2⟩
theorem tupRs {H H' : Hp} (e : Ext H H') {cs : List (List (List Nat))} {ys : List V} (h : F2 (TupR H) cs ys) : F2 (TupR H') cs ys := h.mono fun _ _ r => r.ext e
theorem tupR_keys {H : Hp} {cs : List (List (List Nat))} {ys : List V} (h : F2 (TupR H) cs ys) : ∃ ks : List (Addr × List (List Nat)), ys = ks.map (fun p => V.ref p.1) ∧ ks.map (·.2) = cs ∧ ∀ p ∈ ks, H p.1 = some (.tup (p.2.map tx)) := by
  induction h with
  | nil => exact ⟨[], rfl, rfl, fun p h => by cases h⟩
  | @cons c y cs ys h1 _ ih =>
    obtain ⟨r, rfl, h2⟩ := h1
    obtain ⟨ks, rfl, rfl, h3⟩ := ih
    refine ⟨(r, c) :: ks, rfl, rfl, fun p hp => ?_⟩
    rcases List.mem_cons.mp hp with e | e
    · rw [e]; exact h2
    · exact h3 p e
theorem tupR_of {H : Hp} : ∀ ks : List (Addr × List (List Nat)), (∀ p ∈ ks, H p.1 = some (.tup (p.2.map tx))) → F2 (TupR H) (ks.map (·.2)) (ks.map fun p => V.ref p.1)
  | [], _ => .nil
  | p :: r, h => .cons ⟨p.1, rfl, h p List.mem_cons_self⟩ (tupR_of r fun q hq => h q (List.mem_cons_of_mem _ hq))
/-- as data -/
def dtup (c : List (List Nat)) : PyData := .tuple (c.map dtx)
theorem dp_tups {K : PySem.W.Frag} {H : Hp} {cs : List (List (List Nat))} {ys : List V} (h : F2 (TupR H) cs ys) : DpAll K H ys (cs.map dtup) := by
  induction h with
  | nil => exact .nil
  | cons h1 _ ih =>
    obtain ⟨r, rfl, h2⟩ := h1
    exact .cons (.tup (.inl (.inl h2)) (dp_txs _)) ih
theorem canLay_tups : ∀ cs : List (List (List Nat)), (∀ c ∈ cs, ∀ l ∈ c, Cps l) → PyData.canLayAll0 (cs.map dtup) = true
  | [], _ => rfl
  | a :: r, h => by
    show (PyData.canLayAll0 (a.map dtx) && PyData.canLayAll0 (r.map dtup)) = true
    rw [canLay_tups r fun l hl => h l (List.mem_cons_of_mem _ hl), Bool.and_true]
    exact canLay_txs a (h a List.mem_cons_self)
theorem depth_tups : ∀ cs : List (List (List Nat)), PyData.depthAll (cs.map dtup) ≤ 1
  | [] => Nat.zero_le _
  | a :: r => by
    show max (PyData.depthAll (a.map dtx) + 1) (PyData.depthAll (r.map dtup)) ≤ 1
    rw [depth_txs a]
    have := depth_tups r
    omega
theorem shaped_tups {cs : List (List (List Nat))} (h : ∀ c ∈ cs, ∀ l ∈ c, Cps l) : SeqAt.shaped (.list (cs.map dtup)) = true := by
  unfold SeqAt.shaped
  have h1 : PyData.canLay0 (.list (cs.map dtup)) = PyData.canLayAll0 (cs.map dtup) := rfl
  have h2 : PyData.depth (.list (cs.map dtup)) = PyData.depthAll (cs.map dtup) + 1 := rfl
  have h3 := depth_tups cs
  rw [h1, canLay_tups cs h, h2]
  simp; omega
theorem eqv_nil2 (cs : List (List (List Nat))) : PyData.eqv (.list (cs.map dtup)) (.list []) = cs.isEmpty := by rw [eqv_nil]; cases cs <;> rfl
section
variable {X : Cx} {K : PySem.W.Frag}
theorem op_catTK (hK : X.K = K) : OpR X (binaryOp .Add) (rCatT K) := by subst hK; exact op_catT
theorem call_len_seqK (hK : X.K = K) : CallR X (.builtin "len") (fun xs H Q => ∃ p ys, xs = [.ref p] ∧ (SqL K H p ys ∨ SqT K H p ys) ∧ Q (.int ys.length) H) := by subst hK; exact call_len_seq
theorem op_catAK (hK : X.K = K) : OpR X (binaryOp .Add) (rCatA K) := by subst hK; exact op_catA
end
theorem last_at {one : List (List Nat)} (h : one ≠ []) : atI (one.map tx) (-1) = some (tx (lastOf one)) := by
  have e := List.dropLast_concat_getLast h
  rw [← e, lastOf_snoc, List.map_append]
  exact atI_last _ _
theorem inL_cps {m : Nat} {rows o : List (List Nat)} (R : Rows m rows) (h : InL rows o) : ∀ l ∈ o, Cps l := fun l hl => low_cps fun c hc => R.low c (h.2 l hl c hc)
theorem flatMap_take_len {α β : Type} (l : List α) (f : α → List β) (j : Nat) : ((l.take j).flatMap f).length ≤ (l.flatMap f).length := by
  conv => rhs; rw [← List.take_append_drop j l, List.flatMap_append, List.length_append]
  omega
theorem filter_take_len {α : Type} (l : List α) (f : α → Bool) (j : Nat) : ((l.take j).filter f).length ≤ (l.filter f).length := by
  conv => rhs; rw [← List.take_append_drop j l, List.filter_append, List.length_append]
  omega
section
variable {P : Program} {w : World} {K : PySem.W.Frag} {mg : Str → Option Value} {base : Heap}
theorem sc_L_good_rows : FnScope ["_law_rows", "_law_bag", "_law_first", "_law_found", "_law_open_now", "_law_lap", "_law_late", "_law_one", "_law_stays_here", "_law_more", "_law_pair"] ["_law_rows"] (defScope sL_good_rows) := ⟨rfl, rfl, rfl, by decide +kernel, rfl, by decide +kernel, by decide +kernel⟩
def sp__law_good_rows (K : PySem.W.Frag) : Sp := fun vs H Q _ => ∃ (r : Addr) (m : Nat) (rows : List (List Nat)), vs = [.ref r] ∧ SqL K H r (rows.map tx) ∧ Rows m rows ∧ ∀ H' q cs ys, Ext H H' → H' q = some (.lst ys) → F2 (TupR H') cs ys → (∀ x, x ∈ cs ↔ x ∈ goodR rows) → cs.length ≤ 4 → Q (.ref q) H'
theorem h__law_good_rows (T : Top K mg) : Has P w K mg base "_law_good_rows" 5 ["_law_rows"] (sp__law_good_rows K) := by
  have nd := sc_L_good_rows.nd
  have h__law_labels := h__law_labels (P := P) (w := w) (base := base) T
  have h__law_lasts := h__law_lasts (P := P) (w := w) (base := base) T
  have h__law_stays := h__law_stays (P := P) (w := w) (base := base) T
  have h__law_next := h__law_next (P := P) (w := w) (base := base) T
  refine has_of T dL_good_rows (by simp [fn, fn0, fn1, fn2, fn3]) rfl (by decide +kernel) rfl sc_L_good_rows (fun vs H Q E ⟨r, m, rows, e, _⟩ => by rw [e]; rfl) (fun _ _ _ _ _ _ us hl => match us, hl with | [_], _ => rfl) (fun cdv A outer s H vs Q E hr h => ?_)
  obtain ⟨r, m, rows, rfl, hr0, R, q⟩ := h
  -- cells: ['_law_one', '_law_stays_here']; slots {'_law_rows': 0, '_law_bag': 1, '_law_first': 2, '_law_found': 3, '_law_open_now': 4, '_law_lap': 5, '_law_late': 6, '_law_one': 7, '_law_stays_here': 8, '_law_more': 9, '_law_pair': 10}
  refine ⟨_, (pss_cons (ps_set (i := 1) nd rfl (Or.inl rfl) (pe_has h__law_labels (hr.mono (by omega)) (by rfl) (pa_cons (pv 0) pa_nil)))
      (pss_cons (ps_par (i := 2) (j := 3) (by rfl) nd rfl rfl (by decide) rfl rfl (pa_cons (pe_has h__law_lasts (hr.mono (by omega)) (by rfl) (pa_cons (pv 0) (pa_cons (pv 1) pa_nil))) (pa_cons (pe_lst pa_nil) pa_nil)) (by rfl))
      (pss_cons (ps_set (i := 4) nd rfl (Or.inl rfl) (pe_mono (pe_ifExp (pt_cmpR op_ne (pv 2) pe_str (nomark _)) (pe_lst (pa_cons (pe_tup (pa_cons (pv 2) pa_nil)) pa_nil)) (pe_lst pa_nil))))
      (pss_cons (ps_for PassesOwn.never rfl (pi_range1 (by rfl) (T.free _ (by decide +kernel)) (pa_cons (pe_op op_add (pe_callB call_len_str (by rfl) (T.free _ (by decide +kernel)) (by decide +kernel) (pa_cons (pv 1) pa_nil)) pe_int) pa_nil)) (pg_name (i := 5) nd rfl (Or.inl rfl))
        (pss_cons (ps_set (i := 6) nd rfl (Or.inl rfl) (pe_lst pa_nil))
        (pss_cons (ps_for PassesOwn.never rfl (pi_list (pv 4)) (pg_name (i := 7) nd rfl (Or.inr rfl))
          (pss_cons (ps_set (i := 8) nd rfl (Or.inr rfl) (pe_has h__law_stays (hr.mono (by omega)) (by rfl) (pa_cons (pv 0) (pa_cons (pe_ix ix_tup (pv 7) (pe_un un_neg pe_int) (fun _ _ => rfl)) pa_nil))))
          (pss_cons (ps_setLc (i := 9) (own := [("_law_pair", 10)]) (g := (gName 10)) (tt := _) rfl nd rfl rfl (sw_true rfl rfl rfl (by decide +kernel)) (pi_list (pe_has h__law_next (hr.mono (by omega)) (by rfl) (pa_cons (pv 0) (pa_cons (pe_ix ix_tup (pv 7) (pe_un un_neg pe_int) (fun _ _ => rfl)) pa_nil)))) (blkOk_by (by kernel_rfl)) (fun _ _ _ _ _ => (pg_name (i := 10) nd rfl (Or.inl rfl))) (fun _ _ _ _ _ => (pts_one (PW.pt (pw_and (pt_cmpR op_ne (pe_ix (ix_tupK (K := K) rfl) (pv 10) pe_int (fun _ _ => rfl)) pe_str (nomark _)) (pw_and1 (pt_not (pt_val (pv 8)))))))) (fun _ _ _ _ _ => (pe_op (op_catTK (K := K) rfl) (pv 7) (pv 10))))
          (pss_cons (ps_set (i := 3) nd rfl (Or.inl rfl) (pe_op op_cat (pv 3) (pe_op op_rep (pe_lst (pa_cons (pv 7) pa_nil)) (pe_callTy call_int1 (by rfl) (T.free _ (by decide +kernel)) (by decide +kernel) (pa_cons (pe_cmpR (op_eqD hr.units) (pv 9) (pe_lst pa_nil) (nomark _)) pa_nil)))))
          (pss_one (ps_set (i := 6) nd rfl (Or.inl rfl) (pe_op op_cat (pv 6) (pv 9))))))))
        (pss_one (ps_set (i := 4) nd rfl (Or.inl rfl) (pv 6))))))
      (pss_one (ps_ret (pe_sortSetT rfl hr.units (by rfl) (T.free _ (by decide +kernel)) (by rfl) (T.free _ (by decide +kernel)) (pv 3)))))))), ?_⟩
  have few := R.few
  have ne := R.nemp
  have ok := lapR_ok ne few (openR_ok ne few)
  have il := lapR_inL ne few
  have L0 : LotOf rows (labs rows) := ⟨lotL_asc _, fun _ h => h⟩
  refine ⟨.ref r, rfl, r, rows, rfl, .inl hr0, by have := R.flat; omega, fun H1 e1 => ?_⟩
  refine ⟨.ref r, rfl, _, rfl, r, m, rows, labs rows, rfl, e1.seq hr0, R, L0, fun H2 e2 => ⟨Nat.zero_le _, fun F0 nF => ⟨_, _, rfl, ?_⟩⟩⟩
  have e3 : Ext H (upd H2 F0 (.lst [])) := (e1.trans e2).then nF rfl
  have hF3 : (upd H2 F0 (.lst [])) F0 = some (.lst []) := upd_same
  generalize (upd H2 F0 (.lst [])) = H3 at e3 hF3 ⊢
  refine ⟨fun v H' => ∃ O ys, v = .ref O ∧ Ext H3 H' ∧ H' O = some (.lst ys) ∧ F2 (TupR H') (openR rows) ys, ?_, fun v H4 ⟨O0, ysO0, hv, e4, hO0, f0⟩ => ?_⟩
  · refine ⟨tx (firstL rows), rfl, rfl, _, rfl, ?_⟩
    by_cases hf : firstL rows = []
    · have e0 : (!decide (tx (lastL rows (labs rows)) = V.str "")) = false := by
        have : lastL rows (labs rows) = [] := hf
        rw [this]; rfl
      rw [show (!decide (tx (firstL rows) = V.str "")) = false from e0]
      refine iteF ⟨Nat.zero_le _, fun O nO => ⟨O, [], rfl, (Ext.refl _).then nO rfl, upd_same, ?_⟩⟩
      unfold openR
      rw [if_pos hf]; exact .nil
    · have e0 : (!decide (tx (firstL rows) = V.str "")) = true := by
        have : ¬ (tx (firstL rows) = V.str "") := fun z => hf (tx_inj (b := []) z)
        rw [decide_eq_false this]; rfl
      rw [e0]
      refine iteT ⟨tx (firstL rows), rfl, by show 1 ≤ sizeLine; decide, fun t nt => ⟨by show 1 ≤ sizeLine; decide, fun O nO => ⟨O, _, rfl, ((Ext.refl _).then nt rfl).then nO rfl, upd_same, ?_⟩⟩⟩
      unfold openR
      rw [if_neg hf]
      exact .cons ⟨t, rfl, ((Ext.refl _).then nO rfl).same _ _ upd_same⟩ .nil
  subst hv
  have hF4 := e4.same _ _ hF3
  have e04 := e3.trans e4
  have eN : (((S (labs rows)).length : Nat) : Int) + 2 = (((labs rows).length + 2 : Nat) : Int) := by rw [S_len]; omega
  refine ⟨tx (labs rows), rfl, S (labs rows), rfl, line_smallE (by rw [S_len]; omega), _, 2, rfl, rfl, (((labs rows).length + 2 : Nat) : Int), congrArg (fun z : Int => [V.int z]) eN, by omega, by omega, ?_⟩
  refine for_it (walk_range (lo := 0) (n := ((((labs rows).length + 2 : Nat) : Int)).toNat)) (fun i σ H' => Ext H H' ∧ ∃ (F O : Addr) (ysF ysO : List V) (y5 y6 y7 y8 y9 y10 : Option V), σ = [some (.ref r), some (tx (labs rows)), some (tx (firstL rows)), some (.ref F), some (.ref O), y5, y6, y7, y8, y9, y10] ∧ H' F = some (.lst ysF) ∧ H' O = some (.lst ysO) ∧ F2 (TupR H') (lapR rows i ([], openR rows)).1 ysF ∧ F2 (TupR H') (lapR rows i ([], openR rows)).2 ysO)
    ⟨e04, F0, O0, [], ysO0, _, _, _, _, _, _, rfl, hF4, hO0, .nil, f0⟩ (fun _ _ _ _ _ => trivial) (fun i x σ H6 H5 hi p5 y => ?_) fun σ H5 p5 => ?_
  · obtain ⟨e5, F, O, ysF, ysO, y5, y6, y7, y8, y9, y10, rfl, hF5, hO5, fF5, fO5⟩ := p5
    obtain ⟨rfl, rfl⟩ := y
    have oki := ok i
    obtain ⟨il1, il2⟩ := il i
    have oks := ok (i + 1)
    generalize hX : lapR rows i ([], openR rows) = xx at fF5 fO5 oki il1 il2
    have hX1 : lapR rows (i + 1) ([], openR rows) = (xx.1 ++ xx.2.filter (isLf rows), xx.2.flatMap (moreR rows)) := by rw [← hX]; rfl
    rw [hX1] at oks
    have fl : (xx.1 ++ xx.2.filter (isLf rows)).length + (xx.2.flatMap (moreR rows)).length ≤ 4 := oks.fl
    rw [List.length_append] at fl
    refine ⟨Nat.zero_le _, fun A0 nA => ?_⟩
    have e6 := e5.then (o := .lst []) nA rfl
    have e56 := (Ext.refl H5).then (o := .lst []) nA rfl
    have hA6 : (upd H5 A0 (.lst [])) A0 = some (.lst []) := upd_same
    have hF6 := e56.same _ _ hF5
    have hO6 := e56.same _ _ hO5
    have fF6 := tupRs e56 fF5
    have fO6 := tupRs e56 fO5
    generalize (upd H5 A0 (.lst [])) = H6 at e6 hA6 hF6 hO6 fF6 fO6 ⊢
    refine ⟨.ref O, rfl, O, rfl, ⟨_, .inl (.inl hO6)⟩, for_it (walk_list (xs := ysO)) (fun j σ H' => Ext H6 H' ∧ ∃ (F A : Addr) (ysF ysA : List V) (y5 y7 y8 y9 y10 : Option V), σ = [some (.ref r), some (tx (labs rows)), some (tx (firstL rows)), some (.ref F), some (.ref O), y5, some (.ref A), y7, y8, y9, y10] ∧ H' F = some (.lst ysF) ∧ H' A = some (.lst ysA) ∧ F2 (TupR H') (xx.1 ++ (xx.2.take j).filter (isLf rows)) ysF ∧ F2 (TupR H') ((xx.2.take j).flatMap (moreR rows)) ysA)
      ⟨Ext.refl _, F, A0, ysF, [], _, _, _, _, _, rfl, hF6, hA6, by simpa using fF6, .nil⟩ (fun j σ H' _ p => .inl (.inl (p.1.same _ _ hO6))) (fun j x σ H8 H7 hj p7 y => ?_) fun σ H7 p7 => ?_⟩
    · obtain ⟨e7, F, A, ysF, ysA, z5, z7, z8, z9, z10, rfl, hF7, hA7, fF7, fA7⟩ := p7
      obtain ⟨rfl, hx⟩ := y
      obtain ⟨one, hone, ro, rfl, hro⟩ := fO6.get hx
      have ho2 : one ∈ xx.2 := List.mem_of_getElem? hone
      have tm := oki.opens one ho2
      have inl := il2 one ho2
      have hlen1 := oki.len2 one ho2
      have Lo : LotOf rows (lastOf one) := ⟨tm.1, tm.2.1⟩
      have L4 := Lo.len R
      have hat := last_at inl.1
      have ht : xx.2.take (j + 1) = xx.2.take j ++ [one] := by rw [List.take_succ, hone]; rfl
      have hro7 := e7.same _ _ hro
      have e07 := e6.trans e7
      refine ⟨.ref r, rfl, .ref ro, rfl, 1, rfl, ro, _, -1, _, rfl, rfl, .inl (.inl hro7), hat, r, m, rows, lastOf one, rfl, e07.seq hr0, R, Lo, fun H8 e8 => ?_⟩
      have hro8 := e8.same _ _ hro7
      refine ⟨.ref r, rfl, .ref ro, rfl, 1, rfl, ro, _, -1, _, rfl, rfl, .inl (.inl hro8), hat, r, m, rows, lastOf one, rfl, (e07.trans e8).seq hr0, R, Lo, fun H9 q9 ys9 e9 hq9 f9 => ?_⟩
      have pl : (pairsL rows (lastOf one)).length ≤ 4 := by
        have := looseParts_len (rows := rows) (L := lastOf one)
        rw [pairsL, List.length_map]; omega
      have hro9 := e9.same _ _ hro8
      refine ⟨q9, rfl, ⟨_, .inl (.inl hq9)⟩, fun D hD => lcLiT (pairsL rows (lastOf one)) (PairR H9) (fun p => if (decide (p.2 ≠ []) && !endless rows (lastOf one)) = true then some (one ++ [p.1, p.2]) else none) (fun z y H => ∃ r, y = .ref r ∧ r ≠ D ∧ H r = some (.tup (z.map tx))) (.inl (.inl hq9)) f9 hD (fun z y H H' k ⟨r, h1, h2, h3⟩ => ⟨r, h1, h2, k _ _ h2 h3⟩) (line_small (by omega)) (fun p hp x H10 e10 hDl hx R1 R0 k1 k0 => ⟨rfl, ?_⟩) fun H10 ys10 e10 hDy f10 => ?_⟩
      · obtain ⟨pr, rfl, hpr⟩ := hx
        refine ⟨.ref pr, rfl, pr, _, _, tx p.2, rfl, rfl, .inl (.inl (e10.same _ _ hpr)), rfl, rfl, _, rfl, ?_⟩
        have e0 : (!decide (tx p.2 = V.str "")) = decide (p.2 ≠ []) := by
          by_cases h : p.2 = []
          · rw [h]; rfl
          · have : ¬ (tx p.2 = V.str "") := fun z => h (tx_inj (b := []) z)
            rw [decide_eq_false this, decide_eq_true h]; rfl
        rw [e0]
        refine ite2 (fun hc => ?_) fun hc => iteF (k0 _ (if_neg fun z => hc ((Bool.and_eq_true _ _).mp z).1) (Ext.refl _))
        refine ⟨.bl (endless rows (lastOf one)), rfl, _, rfl, ite2 (fun he => ?_) fun he => k0 _ (if_neg fun z => he ((Bool.and_eq_true _ _).mp z).2) (Ext.refl _)⟩
        refine ⟨.ref ro, rfl, .ref pr, rfl, ro, pr, _, _, rfl, rfl, .inl (.inl (e10.same _ _ hro9)), .inl (.inl (e10.same _ _ hpr)), ?_, ?_, (fun z => nomatch z), fun _ p0 np => k1 (one ++ [p.1, p.2]) _ _ (if_pos (by rw [hc, he]; rfl)) ((Ext.refl _).then np rfl) ⟨p0, rfl, fun z => ?_, by rw [upd_same, List.map_append]; rfl⟩⟩
        · exact fun z => inl.1 (List.map_eq_nil_iff.mp z)
        · have hi' : i < (labs rows).length + 2 := by
            have : ((((labs rows).length + 2 : Nat) : Int)).toNat = (labs rows).length + 2 := by omega
            omega
          rw [List.length_map]
          refine line_smallE ?_
          simp; omega
        · obtain ⟨ys', hys⟩ := hDl
          rw [z, hys] at np; cases np
      have hmore : (pairsL rows (lastOf one)).filterMap (fun p => if (decide (p.2 ≠ []) && !endless rows (lastOf one)) = true then some (one ++ [p.1, p.2]) else none) = moreR rows one := by
        rw [fm_if (fun p : List Nat × List Nat => decide (p.2 ≠ []) && !endless rows (lastOf one)) (fun p => one ++ [p.1, p.2])]
        unfold moreR isLf isLeaf
        cases he : endless rows (lastOf one) with
        | true => simp
        | false =>
          have e1 : (pairsL rows (lastOf one)).filter (fun p => decide (p.2 ≠ []) && !false) = kids rows (lastOf one) := by unfold kids; simp
          rw [e1, Bool.or_false]
          cases hk : kids rows (lastOf one) with
          | nil => rfl
          | cons a b => rfl
      rw [hmore] at f10
      have f10 : F2 (TupR H10) (moreR rows one) ys10 := f10.mono fun z y ⟨r, h1, _, h3⟩ => ⟨r, h1, h3⟩
      have e710 := e8.trans (e9.trans e10)
      have hF10 := e710.same _ _ hF7
      have hA10 := e710.same _ _ hA7
      have hro10 := e710.same _ _ hro7
      refine ⟨.ref F, rfl, .ref ro, rfl, by show 1 ≤ sizeLine; decide, fun p1 np1 => ?_⟩
      have e11 := (Ext.refl H10).then (o := .lst [.ref ro]) np1 rfl
      have hp1 : (upd H10 p1 (.lst [.ref ro])) p1 = some (.lst [.ref ro]) := upd_same
      generalize (upd H10 p1 (.lst [.ref ro])) = H11 at e11 hp1 ⊢
      refine ⟨.ref D, rfl, Nat.zero_le _, fun E0 nE => ?_⟩
      have e12 := (Ext.refl H11).then (o := .lst []) nE rfl
      have hE12 : (upd H11 E0 (.lst [])) E0 = some (.lst []) := upd_same
      generalize (upd H11 E0 (.lst [])) = H12 at e12 hE12 ⊢
      have hin : ∀ c ∈ moreR rows one, ∀ l ∈ c, Cps l := fun c hc => inL_cps R (more_inL ne tm inl c hc)
      have e1012 := e11.trans e12
      refine ⟨.list ((moreR rows one).map dtup), .list [], .lst (.inl (.inl (e1012.same _ _ hDy))) (dp_tups (tupRs e1012 f10)), .lst (.inl (.inl hE12)) .nil, shaped_tups hin, rfl, .inr ⟨_, rfl, p1, _, _, rfl, rfl, e12.same _ _ hp1, by split <;> omega, by split <;> omega, by split <;> simp <;> decide, fun p2 np2 => ?_⟩⟩
      have hZ : (List.replicate (if PyData.eqv (.list ((moreR rows one).map dtup)) (.list []) = true then (1 : Int) else 0).toNat [V.ref ro]).flatten = if isLf rows one = true then [V.ref ro] else [] := by
        rw [eqv_nil2]
        have : (moreR rows one).isEmpty = isLf rows one := by
          unfold moreR
          cases h : isLf rows one with
          | true => rfl
          | false =>
            have h2 : (kids rows (lastOf one)).isEmpty = false := by
              unfold isLf isLeaf at h
              exact (Bool.or_eq_false_iff.mp h).1
            cases hk : kids rows (lastOf one) with
            | nil => rw [hk] at h2; cases h2
            | cons a b => rfl
        rw [this]
        cases isLf rows one <;> rfl
      rw [hZ]
      have e13 := (Ext.refl H12).then (o := .lst (if isLf rows one = true then [V.ref ro] else [])) np2 rfl
      have hp2 : (upd H12 p2 (.lst (if isLf rows one = true then [V.ref ro] else []))) p2 = some (.lst (if isLf rows one = true then [V.ref ro] else [])) := upd_same
      generalize (upd H12 p2 (.lst (if isLf rows one = true then [V.ref ro] else []))) = H13 at e13 hp2 ⊢
      have e1013 := e1012.trans e13
      have h1 : ((xx.2.take j).filter (isLf rows)).length ≤ (xx.2.filter (isLf rows)).length := filter_take_len _ _ _
      have h2 : ((xx.2.take j).flatMap (moreR rows)).length ≤ (xx.2.flatMap (moreR rows)).length := flatMap_take_len _ _ _
      have lF := fF7.len
      have lA := fA7.len
      have lD := f10.len
      rw [List.length_append] at lF
      have hk1 : (if isLf rows one = true then [V.ref ro] else []).length ≤ 1 := by split <;> simp
      refine ⟨F, p2, _, _, rfl, rfl, e1013.same _ _ hF10, hp2, line_smallE (by omega), fun p3 np3 => ?_⟩
      have e14 := (Ext.refl H13).then (o := .lst (ysF ++ if isLf rows one = true then [V.ref ro] else [])) np3 rfl
      have hp3 : (upd H13 p3 (.lst (ysF ++ if isLf rows one = true then [V.ref ro] else []))) p3 = some (.lst (ysF ++ if isLf rows one = true then [V.ref ro] else [])) := upd_same
      generalize (upd H13 p3 (.lst (ysF ++ if isLf rows one = true then [V.ref ro] else []))) = H14 at e14 hp3 ⊢
      have e1014 := e1013.trans e14
      have hm4 : (moreR rows one).length ≤ 4 := by
        unfold moreR
        split
        · exact Nat.zero_le _
        · rw [List.length_map]; exact Nat.le_trans (List.length_filter_le _ _) pl
      refine ⟨.ref A, rfl, .ref D, rfl, A, D, _, _, rfl, rfl, e1014.same _ _ hA10, e1014.same _ _ hDy, line_smallE (by omega), fun p4 np4 => ?_⟩
      have e15 := (Ext.refl H14).then (o := .lst (ysA ++ ys10)) np4 rfl
      have e715 := e710.trans (e1014.trans e15)
      refine ⟨e7.trans e715, p3, p4, _, _, _, _, _, _, _, rfl, e15.same _ _ hp3, upd_same, ?_, ?_⟩
      · rw [ht, List.filter_append, ← List.append_assoc]
        refine (tupRs e715 fF7).app ?_
        by_cases hl : isLf rows one = true
        · rw [if_pos hl]
          have : [one].filter (isLf rows) = [one] := by simp [hl]
          rw [this]
          exact .cons ⟨ro, rfl, e715.same _ _ hro7⟩ .nil
        · rw [if_neg hl]
          have : [one].filter (isLf rows) = [] := by simp [hl]
          rw [this]; exact .nil
      · rw [ht, List.flatMap_append]
        refine (tupRs e715 fA7).app ?_
        have : [one].flatMap (moreR rows) = moreR rows one := by simp
        rw [this]
        exact tupRs (e1014.trans e15) f10
    · obtain ⟨e7, F, A, ysF, ysA, z5, z7, z8, z9, z10, rfl, hF7, hA7, fF7, fA7⟩ := p7
      have hlO := fO6.len
      rw [hlO, List.take_length] at fF7 fA7
      refine ⟨_, rfl, e6.trans e7, F, A, ysF, ysA, _, _, _, _, _, _, rfl, hF7, hA7, ?_, ?_⟩
      · rw [hX1]; exact fF7
      · rw [hX1]; exact fA7
  · obtain ⟨e5, F, O, ysF, ysO, y5, y6, y7, y8, y9, y10, rfl, hF5, hO5, fF5, fO5⟩ := p5
    have hN : ((((labs rows).length + 2 : Nat) : Int)).toNat = (labs rows).length + 2 := by omega
    rw [hN] at fF5
    have fF5 : F2 (TupR H5) (goodR rows) ysF := fF5
    have fl := (ok ((labs rows).length + 2)).fl
    have gl : (goodR rows).length ≤ 4 := by
      show (lapR rows ((labs rows).length + 2) ([], openR rows)).1.length ≤ 4
      omega
    obtain ⟨ks, rfl, hks, htup⟩ := tupR_keys fF5
    have kl : ks.length ≤ 4 := by rw [← List.length_map (f := (·.2)), hks]; exact gl
    refine ⟨.ref F, rfl, F, ks, rfl, .inl (.inl hF5), fun p hp => .inl (.inl (htup p hp)), by rw [hks]; exact good_nodup rows, by omega, fun ys q9 H9 pm _ e9 nq9 hq9 => ?_⟩
    refine q H9 q9 (ys.map (·.2)) _ (e5.trans e9) hq9 (tupR_of ys fun p hp => e9.same _ _ (htup p (pm.mem_iff.mp hp))) (fun x => ?_) (by rw [List.length_map, pm.length_eq]; exact kl)
    rw [← hks]
    exact (pm.map (·.2)).mem_iff
theorem at_map {α β : Type} (f : α → β) (l : List α) (i : Int) : atI (l.map f) i = (atI l i).map f := by
  unfold atI
  rw [List.length_map]
  cases ixN l.length i with
  | none => rfl
  | some j => simp
theorem max_last {ns : List Int} {l : List Nat} (hp : ns.Perm (l.map fun n : Nat => ((n : Nat) : Int))) (hs : ns.Pairwise (· ≤ ·)) (hl : l ≠ []) : atI ns (-1) = some ((maxN l : Nat) : Int) := by
  have hne : ns ≠ [] := fun e => by
    rw [e] at hp
    exact hl (List.map_eq_nil_iff.mp hp.nil_eq.symm)
  have e := List.dropLast_concat_getLast hne
  have hm : ns.getLast hne = ((maxN l : Nat) : Int) := by
    have h1 : ns.getLast hne ∈ l.map (fun n : Nat => ((n : Nat) : Int)) := hp.mem_iff.mp (List.getLast_mem hne)
    obtain ⟨n, hn, e1⟩ := List.mem_map.mp h1
    rw [← e1]
    congr 1
    refine maxN_eq (.inr hn) fun x hx => ?_
    have h2 : (x : Int) ∈ ns := hp.mem_iff.mpr (List.mem_map.mpr ⟨x, hx, rfl⟩)
    have h3 : (x : Int) ≤ ns.getLast hne := by
      rw [← e] at h2 hs
      rcases List.mem_append.mp h2 with h | h
      · exact (List.pairwise_append.mp hs).2.2 _ h _ (by simp)
      · rw [List.mem_singleton.mp h]; exact Int.le_refl _
    rw [← e1] at h3
    exact Int.ofNat_le.mp h3
  rw [← e, hm]
  exact atI_last _ _
theorem sc_L_root : FnScope ["_law_rows", "_law_found", "_law_one"] ["_law_rows"] (defScope sL_root) := ⟨rfl, rfl, rfl, by decide +kernel, rfl, by decide +kernel, by decide +kernel⟩
def sp__law_root (K : PySem.W.Frag) : Sp := fun vs H Q _ => ∃ (r : Addr) (m : Nat) (rows : List (List Nat)), vs = [.ref r] ∧ SqL K H r (rows.map tx) ∧ Rows m rows ∧ ∀ H', Ext H H' → Q (rootV (rootL rows)) H'
theorem h__law_root (T : Top K mg) : Has P w K mg base "_law_root" 6 ["_law_rows"] (sp__law_root K) := by
  have nd := sc_L_root.nd
  have h__law_good_rows := h__law_good_rows (P := P) (w := w) (base := base) T
  have h__law_stays := h__law_stays (P := P) (w := w) (base := base) T
  refine has_of T dL_root (by simp [fn, fn0, fn1, fn2, fn3]) rfl (by decide +kernel) rfl sc_L_root (fun vs H Q E ⟨r, m, rows, e, _⟩ => by rw [e]; rfl) (fun _ _ _ _ _ _ us hl => match us, hl with | [_], _ => rfl) (fun cdv A outer s H vs Q E hr h => ?_)
  obtain ⟨r, m, rows, rfl, hr0, R, q⟩ := h
  -- cells: ['_law_rows']; slots {'_law_rows': 0, '_law_found': 1, '_law_one': 2}
  refine ⟨_, (pss_cons (ps_set (i := 1) nd rfl (Or.inl rfl) (pe_has h__law_good_rows (hr.mono (by omega)) (by rfl) (pa_cons (pv 0) pa_nil)))
      (pss_cons (ps_if (pt_cmpR (op_neD hr.units) (pe_lc (own := [("_law_one", 2)]) (g := (gName 2)) (tt := _) rfl nd (pi_list (pv 1)) (blkOk_by (by kernel_rfl)) (fun _ _ _ _ _ => (pg_name (i := 2) nd rfl (Or.inl rfl))) (fun _ _ _ _ _ => (pts_one (pt_val (pe_has h__law_stays (hr.mono (by omega)) (by rfl) (pa_cons (pv 0) (pa_cons (pe_ix (ix_tupK (K := K) rfl) (pv 2) (pe_un un_neg pe_int) (fun _ _ => rfl)) pa_nil)))))) (fun _ _ _ _ _ => (pv 2))) (pe_lst pa_nil) (nomark _)) (pss_one (ps_ret pe_non)) pss_nil)
      (pss_one (ps_ret (pe_ifExp (pt_cmpR (op_neD hr.units) (pv 1) (pe_lst pa_nil) (nomark _)) (pe_ix ix_list (pe_callB cr_sortedI (by rfl) (T.free _ (by decide +kernel)) (by decide +kernel) (pa_cons (pe_lc (own := [("_law_one", 2)]) (g := (gName 2)) (tt := tYes) rfl nd (pi_list (pv 1)) (blkOk_by (by kernel_rfl)) (fun _ _ _ _ _ => (pg_name (i := 2) nd rfl (Or.inl rfl))) (fun _ _ _ _ _ => pts_nil) (fun _ _ _ _ _ => (pe_op op_fdiv (pe_op op_add (pe_callB (call_len_seqK (K := K) rfl) (by rfl) (T.free _ (by decide +kernel)) (by decide +kernel) (pa_cons (pv 2) pa_nil)) pe_int) pe_int))) pa_nil)) (pe_un un_neg pe_int) (fun _ _ => rfl)) pe_int))))), ?_⟩
  have ne := R.nemp
  refine ⟨.ref r, rfl, r, m, rows, rfl, hr0, R, fun H1 F cs ys e1 hF1 f1 hm h4 => ?_⟩
  have hR := rootOf_eq ne hm
  rw [← hR] at q
  have il : ∀ c ∈ cs, InL rows c := fun c hc => (lapR_inL ne R.few _).1 c ((hm c).mp hc)
  have tm : ∀ c ∈ cs, Tame rows c := fun c hc => (lapR_ok ne R.few (openR_ok ne R.few) _).found c ((hm c).mp hc)
  refine ⟨.ref F, rfl, F, rfl, ⟨_, .inl (.inl hF1)⟩, fun D hD => lcLiT cs (TupR H1) (fun c => if endless rows (lastOf c) = true then some c else none) (fun z y H => ∃ r, y = .ref r ∧ r ≠ D ∧ H r = some (.tup (z.map tx))) (.inl (.inl hF1)) f1 hD (fun z y H H' k ⟨r, h1, h2, h3⟩ => ⟨r, h1, h2, k _ _ h2 h3⟩) (line_small (by omega)) (fun c hc x H2 e2 hDl hx R1 R0 k1 k0 => ⟨rfl, ?_⟩) fun H2 ys2 e2 hDy f2 => ?_⟩
  · obtain ⟨ro, rfl, hro⟩ := hx
    have hro2 := e2.same _ _ hro
    refine ⟨.ref r, rfl, .ref ro, rfl, 1, rfl, ro, _, -1, _, rfl, rfl, .inl (.inl hro2), last_at (il c hc).1, r, m, rows, lastOf c, rfl, (e1.trans e2).seq hr0, R, ⟨(tm c hc).1, (tm c hc).2.1⟩, fun H3 e3 => ⟨_, rfl, ite2 (fun he => ?_) fun he => k0 _ (if_neg he) e3⟩⟩
    refine ⟨.ref ro, rfl, k1 c _ _ (if_pos he) e3 ⟨ro, rfl, fun z => ?_, e3.same _ _ hro2⟩⟩
    obtain ⟨ys', hys⟩ := hDl
    rw [z, hys] at hro2; cases hro2
  rw [fm_id (fun c => endless rows (lastOf c))] at f2
  have f2 : F2 (TupR H2) (cs.filter fun c => endless rows (lastOf c)) ys2 := f2.mono fun z y ⟨r, h1, _, h3⟩ => ⟨r, h1, h3⟩
  have hF2 := e2.same _ _ hF1
  refine ⟨Nat.zero_le _, fun E0 nE => ?_⟩
  have e3 := (Ext.refl H2).then (o := .lst []) nE rfl
  have hE3 : (upd H2 E0 (.lst [])) E0 = some (.lst []) := upd_same
  generalize (upd H2 E0 (.lst [])) = H3 at e3 hE3 ⊢
  have e13 := e1.trans (e2.trans e3)
  refine ⟨.list ((cs.filter fun c => endless rows (lastOf c)).map dtup), .list [], .lst (.inl (.inl (e3.same _ _ hDy))) (dp_tups (tupRs e3 f2)), .lst (.inl (.inl hE3)) .nil, shaped_tups (fun c hc => inL_cps R (il c (List.mem_filter.mp hc).1)), rfl, _, rfl, ?_⟩
  rw [eqv_nil2]
  have hany : (cs.filter fun c => endless rows (lastOf c)).isEmpty = !(cs.any fun c => endless rows (lastOf c)) := by
    have key : ∀ l : List (List (List Nat)), (l.filter fun c => endless rows (lastOf c)).isEmpty = !(l.any fun c => endless rows (lastOf c)) := fun l => by
      induction l with
      | nil => rfl
      | cons a t ih => cases h : endless rows (lastOf a) <;> simp [h, ih]
    exact key cs
  rw [hany, Bool.not_not]
  cases ha : cs.any fun c => endless rows (lastOf c) with
  | true =>
    refine iteT ?_
    have := q H3 e13
    unfold rootOf at this
    rw [ha, if_pos rfl] at this
    exact this
  | false =>
    refine iteF ?_
    have q : ∀ H', Ext H H' → Q (.int ((maxN (cs.map fun o => (o.length + 1) / 2) : Nat) : Int)) H' := fun H' e => by
      have := q H' e
      unfold rootOf at this
      rw [ha, if_neg (by simp)] at this
      exact this
    have hF3 := e3.same _ _ hF2
    refine ⟨.ref F, rfl, Nat.zero_le _, fun E1 nE1 => ?_⟩
    have e4 := (Ext.refl H3).then (o := .lst []) nE1 rfl
    have hE4 : (upd H3 E1 (.lst [])) E1 = some (.lst []) := upd_same
    generalize (upd H3 E1 (.lst [])) = H4 at e4 hE4 ⊢
    have e14 := e13.trans e4
    have f4 := tupRs (e2.trans (e3.trans e4)) f1
    have hF4 := e4.same _ _ hF3
    refine ⟨.list (cs.map dtup), .list [], .lst (.inl (.inl hF4)) (dp_tups f4), .lst (.inl (.inl hE4)) .nil, shaped_tups (fun c hc => inL_cps R (il c hc)), rfl, _, rfl, ?_⟩
    rw [eqv_nil2]
    cases hcs : cs with
    | nil =>
      refine iteF ?_
      have := q H4 e14
      rw [hcs] at this
      exact this
    | cons a t =>
      refine iteT ?_
      refine ⟨.ref F, rfl, F, rfl, ⟨_, .inl (.inl hF4)⟩, fun D2 hD2 => lcLiT cs (TupR H4) (fun c => some ((c.length + 1) / 2)) (fun z y _ => y = .int (z : Nat)) (.inl (.inl hF4)) f4 hD2 (fun _ _ _ _ _ h => h) (line_small (by omega)) (fun c hc x H5 e5 hDl hx R1 R0 k1 k0 => ⟨rfl, tyes' ?_⟩) fun H5 ys5 e5 hDy5 f5 => ?_⟩
      · obtain ⟨ro, rfl, hro⟩ := hx
        refine ⟨.ref ro, rfl, ro, _, rfl, .inr (.inl (.inl (e5.same _ _ hro))), _, 1, rfl, rfl, _, 2, rfl, rfl, ⟨by decide, by decide⟩, k1 ((c.length + 1) / 2) _ _ rfl (Ext.refl _) ?_⟩
        rw [List.length_map]
        have : (((c.length : Nat) : Int) + 1) / 2 = (((c.length + 1) / 2 : Nat) : Int) := by omega
        exact congrArg V.int this
      · have ey := f5.eq (vv := fun z : Nat => V.int (z : Nat))
        have e9 : cs.filterMap (fun c => some ((c.length + 1) / 2)) = cs.map fun c => (c.length + 1) / 2 := by rw [← List.filterMap_eq_map]; rfl
        rw [e9] at ey
        have ey2 : ys5 = ((cs.map fun c => (c.length + 1) / 2).map fun n : Nat => ((n : Nat) : Int)).map V.int := by
          rw [ey]
          generalize cs.map (fun c => (c.length + 1) / 2) = ls
          rw [List.map_map]; rfl
        rw [ey2] at hDy5
        refine ⟨D2, _, rfl, .inl (.inl hDy5), fun ns' p hp hs np => ?_⟩
        have hmx := max_last hp hs (by rw [hcs]; simp)
        refine ⟨1, rfl, p, ns'.map V.int, -1, .int ((maxN (cs.map fun o => (o.length + 1) / 2) : Nat) : Int), rfl, rfl, .inl (.inl upd_same), ?_, ?_⟩
        · have := congrArg (Option.map V.int) hmx
          rw [← at_map] at this
          exact this
        · exact q _ ((e14.trans e5).then np rfl)
end
end K58
set_option Elab.async false
set_option linter.all false
set_option maxRecDepth 100000
set_option maxHeartbeats 1000000
/-! The law's own reckoning: all sets. -/
namespace K58
open PySem PySem.Spec PyProof.Rows L2
theorem powL_nodup {α : Type} {rows : List α} (h : rows.Nodup) : (powL rows).Nodup := by
  have key : ∀ (rs : List α) (f : List (List α)), f.Nodup → (∀ x ∈ f, ∀ r ∈ rs, r ∉ x) → rs.Nodup → (rs.foldl (fun f r => f ++ f.map fun p => p ++ [r]) f).Nodup := by
    intro rs
    induction rs with
    | nil => exact fun f h _ _ => h
    | cons r rs ih =>
      intro f hf hx hr
      obtain ⟨hr1, hr2⟩ := List.nodup_cons.mp hr
      rw [List.foldl_cons]
      refine ih _ ?_ (fun x hxm q hq => ?_) hr2
      · refine List.nodup_append.mpr ⟨hf, List.Pairwise.map _ (fun a b hab e => hab (List.append_cancel_right e)) hf, fun a ha b hb e => ?_⟩
        obtain ⟨p, _, rfl⟩ := List.mem_map.mp hb
        exact hx a ha r List.mem_cons_self (by rw [e]; simp)
      · rcases List.mem_append.mp hxm with h | h
        · exact hx x h q (List.mem_cons_of_mem _ hq)
        · obtain ⟨p, hp, rfl⟩ := List.mem_map.mp h
          intro hz
          rcases List.mem_append.mp hz with z | z
          · exact hx p hp q (List.mem_cons_of_mem _ hq) z
          · rw [List.mem_singleton.mp z] at hq; exact hr1 hq
  exact key rows [[]] (by simp) (fun x hx => by rw [List.mem_singleton.mp hx]; simp) h
theorem combos_few {rows : List (List Nat)} (ha : AscT rows) (d : Nat) : (combos rows d).length ≤ 2 ^ rows.length := by
  rw [← powL_len]
  refine nd_len _ _ ((combos_asc rows d ha).imp fun {a b} h e => by rw [e, ltLL_irr] at h; cases h) fun x hx => ?_
  rw [powL_mem]
  exact ((combos_mem rows d x).mp hx).1
theorem flatMap_few {α β : Type} {f : α → List β} {n : Nat} : ∀ l : List α, (∀ x ∈ l, (f x).length ≤ n) → (l.flatMap f).length ≤ l.length * n
  | [], _ => Nat.zero_le _
  | a :: r, h => by
    have h1 := flatMap_few r fun x hx => h x (List.mem_cons_of_mem _ hx)
    have h2 := h a List.mem_cons_self
    rw [List.flatMap_cons, List.length_append, List.length_cons, Nat.add_mul]
    omega
theorem pow64 {n : Nat} (h : n ≤ 6) : 2 ^ n ≤ 64 := Nat.pow_le_pow_right (by decide) h
section
variable {P : Program} {w : World} {K : PySem.W.Frag} {mg : Str → Option Value} {base : Heap}
theorem sc_L_sets : FnScope ["_law_some", "_law_found", "_law_order", "_law_one", "_law_size", "_law_part"] ["_law_some"] (defScope sL_sets) := ⟨rfl, rfl, rfl, by decide +kernel, rfl, by decide +kernel, by decide +kernel⟩
def sp__law_sets (K : PySem.W.Frag) : Sp := fun vs H Q _ => ∃ (r : Addr) (rows : List (List Nat)), vs = [.ref r] ∧ SqL K H r (rows.map tx) ∧ rows.length ≤ 6 ∧ AscT rows ∧ ∀ H' q ys, Ext H H' → H' q = some (.lst ys) → F2 (TupR H') (setsL rows ++ [rows]) ys → Q (.ref q) H'
theorem h__law_sets (T : Top K mg) : Has P w K mg base "_law_sets" 1 ["_law_some"] (sp__law_sets K) := by
  have nd := sc_L_sets.nd
  refine has_of T dL_sets (by simp [fn, fn0, fn1, fn2, fn3]) rfl (by decide +kernel) rfl sc_L_sets (fun vs H Q E ⟨r, rows, e, _⟩ => by rw [e]; rfl) (fun _ _ _ _ _ _ us hl => match us, hl with | [_], _ => rfl) (fun cdv A outer s H vs Q E hr h => ?_)
  obtain ⟨r, rows, rfl, hr0, hl6, ha, q⟩ := h
  -- cells: ['_law_one', '_law_size']; slots {'_law_some': 0, '_law_found': 1, '_law_order': 2, '_law_one': 3, '_law_size': 4, '_law_part': 5}
  refine ⟨_, (pss_cons (ps_par (i := 1) (j := 2) (by rfl) nd rfl rfl (by decide) rfl rfl (pa_cons (pe_lst (pa_cons (pe_tup pa_nil) pa_nil)) (pa_cons (pe_lst pa_nil) pa_nil)) (by rfl))
      (pss_cons (ps_for PassesOwn.never rfl (pi_list (pv 0)) (pg_name (i := 3) nd rfl (Or.inr rfl))
        (pss_one (ps_set (i := 1) nd rfl (Or.inl rfl) (pe_op op_cat (pv 1) (pe_lc (own := [("_law_part", 5)]) (g := (gName 5)) (tt := tYes) rfl nd (pi_list (pv 1)) (blkOk_by (by kernel_rfl)) (fun _ _ _ _ _ => (pg_name (i := 5) nd rfl (Or.inl rfl))) (fun _ _ _ _ _ => pts_nil) (fun _ _ _ _ _ => (pe_op (op_catAK (K := K) rfl) (pv 5) (pe_tup (pa_cons (pv 3) pa_nil)))))))))
      (pss_cons (ps_for PassesOwn.never rfl (pi_range1 (by rfl) (T.free _ (by decide +kernel)) (pa_cons (pe_op op_add (pe_callB call_len_seq (by rfl) (T.free _ (by decide +kernel)) (by decide +kernel) (pa_cons (pv 0) pa_nil)) pe_int) pa_nil)) (pg_name (i := 4) nd rfl (Or.inr rfl))
        (pss_one (ps_set (i := 2) nd rfl (Or.inl rfl) (pe_op op_cat (pv 2) (pe_lc (own := [("_law_part", 5)]) (g := (gName 5)) (tt := _) rfl nd (pi_list (pe_sortSetT rfl hr.units (by rfl) (T.free _ (by decide +kernel)) (by rfl) (T.free _ (by decide +kernel)) (pv 1))) (blkOk_by (by kernel_rfl)) (fun _ _ _ _ _ => (pg_name (i := 5) nd rfl (Or.inl rfl))) (fun _ _ _ _ _ => (pts_one (pt_cmpR op_eq (pe_callB (call_len_seqK (K := K) rfl) (by rfl) (T.free _ (by decide +kernel)) (by decide +kernel) (pa_cons (pv 5) pa_nil)) (pv 4) (nomark _)))) (fun _ _ _ _ _ => (pv 5)))))))
      (pss_one (ps_ret (pv 2)))))), ?_⟩
  refine ⟨Nat.zero_le _, fun t nt => ⟨by show 1 ≤ sizeLine; decide, fun F0 nF => ⟨Nat.zero_le _, fun O0 nO => ⟨_, _, rfl, ?_⟩⟩⟩⟩
  have e1 : Ext H (upd (upd (upd H t (.tup [])) F0 (.lst [.ref t])) O0 (.lst [])) := (((Ext.refl H).then nt rfl).then nF rfl).then nO rfl
  have hF1 : (upd (upd (upd H t (.tup [])) F0 (.lst [.ref t])) O0 (.lst [])) F0 = some (.lst [.ref t]) := ((Ext.refl _).then nO rfl).same _ _ upd_same
  have hO1 : (upd (upd (upd H t (.tup [])) F0 (.lst [.ref t])) O0 (.lst [])) O0 = some (.lst []) := upd_same
  have ht1 : (upd (upd (upd H t (.tup [])) F0 (.lst [.ref t])) O0 (.lst [])) t = some (.tup []) := ((Ext.refl _).then nO rfl).same _ _ (((Ext.refl _).then nF rfl).same _ _ upd_same)
  generalize (upd (upd (upd H t (.tup [])) F0 (.lst [.ref t])) O0 (.lst [])) = H1 at e1 hF1 hO1 ht1 ⊢
  have hp6 := pow64 hl6
  refine ⟨.ref r, rfl, r, rfl, ⟨_, e1.seq hr0⟩, for_it (walk_list (xs := rows.map tx)) (fun i σ H' => Ext H1 H' ∧ ∃ (F : Addr) (ysF : List V) (y3 y4 y5 : Option V), σ = [some (.ref r), some (.ref F), some (.ref O0), y3, y4, y5] ∧ H' F = some (.lst ysF) ∧ F2 (TupR H') (powL (rows.take i)) ysF)
    ⟨Ext.refl _, F0, _, _, _, _, rfl, hF1, .cons ⟨t, rfl, ht1⟩ .nil⟩ (fun i σ H' _ p => (e1.trans p.1).seq hr0) (fun i x σ H3 H2 hi p2 y => ?_) fun σ H2 p2 => ?_⟩
  · obtain ⟨e2, F, ysF, y3, y4, y5, rfl, hF2, fF⟩ := p2
    obtain ⟨rfl, hx⟩ := y
    rw [List.getElem?_map] at hx
    cases er : rows[i]? with
    | none => rw [er] at hx; cases hx
    | some row =>
      rw [er] at hx
      obtain rfl := Option.some.inj hx
      have ht : rows.take (i + 1) = rows.take i ++ [row] := by rw [List.take_succ, er]; rfl
      have hi6 : i < rows.length := (List.getElem?_eq_some_iff.mp er).1
      have hlen : (powL (rows.take i)).length ≤ 64 := by
        rw [powL_len, List.length_take]
        exact pow64 (by omega)
      have hFl := fF.len
      refine ⟨.ref F, rfl, .ref F, rfl, F, rfl, ⟨_, .inl (.inl hF2)⟩, fun D hD => lcLiT (powL (rows.take i)) (TupR H2) (fun c => some (c ++ [row])) (fun z y H => ∃ r, y = .ref r ∧ r ≠ D ∧ H r = some (.tup (z.map tx))) (.inl (.inl hF2)) fF hD (fun z y H H' k ⟨r, h1, h2, h3⟩ => ⟨r, h1, h2, k _ _ h2 h3⟩) (line_small (by omega)) (fun c hc x H3 e3 hDl hx R1 R0 k1 k0 => ⟨rfl, tyes' ?_⟩) fun H3 ys3 e3 hDy f3 => ?_⟩
      · obtain ⟨ro, rfl, hro⟩ := hx
        have hcl : c.length ≤ 6 := by
          have := ((powL_mem _ _).mp hc).length_le
          rw [List.length_take] at this; omega
        refine ⟨.ref ro, rfl, tx row, rfl, by show 1 ≤ sizeLine; decide, fun t2 nt2 => ?_⟩
        have e4 := (Ext.refl H3).then (o := .tup [tx row]) nt2 rfl
        have ht2 : (upd H3 t2 (.tup [tx row])) t2 = some (.tup [tx row]) := upd_same
        have hD2 : t2 ≠ D := fun z => by
          obtain ⟨ys', hys⟩ := hDl
          rw [z, hys] at nt2; cases nt2
        have hDl4 : ∃ ys, (upd H3 t2 (.tup [tx row])) D = some (.lst ys) := by
          obtain ⟨ys', hys⟩ := hDl
          exact ⟨ys', e4.same _ _ hys⟩
        generalize (upd H3 t2 (.tup [tx row])) = H4 at e4 ht2 hDl4 ⊢
        refine ⟨ro, t2, c.map tx, [tx row], rfl, rfl, .inl (.inl (e4.same _ _ (e3.same _ _ hro))), .inl (.inl ht2), by rw [List.length_map]; exact line_smallE (by simp; omega), fun hn => ?_, (fun _ z => nomatch z), fun _ _ p0 np => ?_⟩
        · have : c = [] := List.map_eq_nil_iff.mp hn
          exact k1 (c ++ [row]) _ _ rfl e4 ⟨t2, rfl, hD2, by rw [this]; exact ht2⟩
        · refine k1 (c ++ [row]) _ _ rfl (e4.then np rfl) ⟨p0, rfl, fun z => ?_, by rw [upd_same, List.map_append]; rfl⟩
          obtain ⟨ys', hys⟩ := hDl4
          rw [z, hys] at np; cases np
      have ef : (powL (rows.take i)).filterMap (fun c => some (c ++ [row])) = (powL (rows.take i)).map fun c => c ++ [row] := by rw [← List.filterMap_eq_map]; rfl
      rw [ef] at f3
      have f3 : F2 (TupR H3) ((powL (rows.take i)).map fun c => c ++ [row]) ys3 := f3.mono fun z y ⟨r, h1, _, h3⟩ => ⟨r, h1, h3⟩
      have h3l := f3.len
      rw [List.length_map] at h3l
      refine ⟨F, D, _, _, rfl, rfl, e3.same _ _ hF2, hDy, line_smallE (by omega), fun p np => ?_⟩
      have e4 := (Ext.refl H3).then (o := .lst (ysF ++ ys3)) np rfl
      refine ⟨e2.trans (e3.trans e4), p, _, _, _, _, rfl, upd_same, ?_⟩
      rw [ht, powL_snoc]
      exact (tupRs (e3.trans e4) fF).app (tupRs e4 f3)
  obtain ⟨e2, F, ysF, y3, y4, y5, rfl, hF2, fF⟩ := p2
  rw [List.length_map, List.take_length] at fF
  have hFl : (powL rows).length ≤ 64 := by rw [powL_len]; exact hp6
  obtain ⟨ks, rfl, hks, htup⟩ := tupR_keys fF
  have kl : ks.length ≤ 64 := by rw [← List.length_map (f := (·.2)), hks]; exact hFl
  have e12 := e1.trans e2
  have hO2 := e2.same _ _ hO1
  have eN : (((rows.map tx).length : Nat) : Int) + 1 = ((rows.length + 1 : Nat) : Int) := by rw [List.length_map]; omega
  refine ⟨.ref r, rfl, r, _, rfl, .inl (e12.seq hr0), _, 1, rfl, rfl, ((rows.length + 1 : Nat) : Int), congrArg (fun z : Int => [V.int z]) eN, by omega, by omega, ?_⟩
  refine for_it (walk_range (lo := 0) (n := (((rows.length + 1 : Nat) : Int)).toNat)) (fun i σ H' => Ext H2 H' ∧ ∃ (O : Addr) (ysO : List V) (y3 y4 y5 : Option V), σ = [some (.ref r), some (.ref F), some (.ref O), y3, y4, y5] ∧ H' O = some (.lst ysO) ∧ F2 (TupR H') ((List.range i).flatMap fun d => combos rows d) ysO)
    ⟨Ext.refl _, O0, [], _, _, _, rfl, hO2, .nil⟩ (fun _ _ _ _ _ => trivial) (fun i x σ H4 H3 hi p3 y => ?_) fun σ H3 p3 => ?_
  · obtain ⟨e3, O, ysO, y3, y4, y5, rfl, hO3, fO⟩ := p3
    obtain ⟨rfl, rfl⟩ := y
    have hi7 : i < rows.length + 1 := by omega
    refine ⟨.ref O, rfl, .ref F, rfl, F, ks, rfl, .inl (.inl (e3.same _ _ hF2)), fun p hp => .inl (.inl (e3.same _ _ (htup p hp))), by rw [hks]; exact powL_nodup ha.nodup, kl, fun ys q4 H4 pm asc e4 nq hq4 => ?_⟩
    have fz : F2 (TupR H4) (ys.map (·.2)) (ys.map fun p => V.ref p.1) := tupR_of ys fun p hp => e4.same _ _ (e3.same _ _ (htup p (pm.mem_iff.mp hp)))
    have hm : ∀ x, x ∈ ys.map (·.2) ↔ x ∈ powL rows := fun x => by rw [← hks]; exact (pm.map (·.2)).mem_iff
    have hzl : (ys.map (·.2)).length ≤ 64 := by rw [List.length_map, pm.length_eq]; exact kl
    have hsz := pow_size ha asc hm i
    generalize (ys.map fun p => V.ref p.1) = zs at hq4 fz
    generalize (ys.map (·.2)) = cs at fz hzl hsz
    refine ⟨q4, rfl, ⟨_, .inl (.inl hq4)⟩, fun D hD => lcLiT cs (TupR H4) (fun c => if decide (c.length = i) = true then some c else none) (fun z y H => ∃ r, y = .ref r ∧ r ≠ D ∧ H r = some (.tup (z.map tx))) (.inl (.inl hq4)) fz hD (fun z y H H' k ⟨r, h1, h2, h3⟩ => ⟨r, h1, h2, k _ _ h2 h3⟩) (line_small (by omega)) (fun c hc x H5 e5 hDl hx R1 R0 k1 k0 => ⟨rfl, ?_⟩) fun H5 ys5 e5 hDy f5 => ?_⟩
    · obtain ⟨ro, rfl, hro⟩ := hx
      have hro5 := e5.same _ _ hro
      refine ⟨.ref ro, rfl, ro, _, rfl, .inr (.inl (.inl hro5)), _, rfl, rfl, _, rfl, ?_⟩
      have e0 : decide (V.int (((c.map tx).length : Nat) : Int) = V.int ((0 : Int) + ((i : Nat) : Int))) = decide (c.length = i) := by
        rw [List.length_map]
        by_cases h : c.length = i
        · rw [h]; simp
        · rw [decide_eq_false h]
          exact decide_eq_false fun z => h (by injection z with z; omega)
      rw [e0]
      refine ite2 (fun he => ?_) fun he => k0 _ (if_neg he) (Ext.refl _)
      refine ⟨.ref ro, rfl, k1 c _ _ (if_pos he) (Ext.refl _) ⟨ro, rfl, fun z => ?_, hro5⟩⟩
      obtain ⟨ys', hys⟩ := hDl
      rw [z, hys] at hro5; cases hro5
    rw [fm_id (fun c : List (List Nat) => decide (c.length = i)), hsz] at f5
    have f5 : F2 (TupR H5) (combos rows i) ys5 := f5.mono fun z y ⟨r, h1, _, h3⟩ => ⟨r, h1, h3⟩
    have e45 := e4.trans e5
    have l1 := fO.len
    have l2 := f5.len
    have l3 := flatMap_few (f := fun d => combos rows d) (n := 64) (List.range i) fun d _ => Nat.le_trans (combos_few ha d) hp6
    have l4 := Nat.le_trans (combos_few ha i) hp6
    rw [List.length_range] at l3
    refine ⟨O, D, _, _, rfl, rfl, e45.same _ _ hO3, hDy, line_smallE (by omega), fun p np => ?_⟩
    have e6 := (Ext.refl H5).then (o := .lst (ysO ++ ys5)) np rfl
    refine ⟨e3.trans (e45.trans e6), p, _, _, _, _, rfl, upd_same, ?_⟩
    rw [List.range_succ, List.flatMap_append]
    refine (tupRs (e45.trans e6) fO).app ?_
    have : [i].flatMap (fun d => combos rows d) = combos rows i := by simp
    rw [this]
    exact tupRs e6 f5
  · obtain ⟨e3, O, ysO, y3, y4, y5, rfl, hO3, fO⟩ := p3
    have hN : (((rows.length + 1 : Nat) : Int)).toNat = rows.length + 1 := by omega
    rw [hN, order_sets] at fO
    exact ⟨.ref O, rfl, q H3 O ysO (e12.trans e3) hO3 fO⟩
end
end K58
set_option Elab.async false
set_option linter.all false
set_option maxRecDepth 100000
set_option maxHeartbeats 1000000
/-! The law's draws. -/
namespace K58
open PySem PySem.Spec PyProof.Rows L2
def feedK (c : Addr) (sp rs tu : Int) : List (Key × V) := [(Sum.inr "cells", .ref c), (Sum.inr "spot", .int sp), (Sum.inr "rest", .int rs), (Sum.inr "turn", .int tu)]
/-- the feed at d -/
def Fd (H : Hp) (d c : Addr) : Prop := ∃ (ns : List Int) (sp rs tu : Int), H d = some (.dK (feedK c sp rs tu)) ∧ H c = some (.lst (ns.map V.int)) ∧ 0 ≤ sp ∧ 0 ≤ rs ∧ ns.length ≤ 63
/-- nothing but the feed changes, what is new is plain -/
structure FX (d : Addr) (H H' : Hp) : Prop where
  keep : ∀ b o, b ≠ d → H b = some o → H' b = some o
  new : ∀ b o, H' b = some o → H b = some o ∨ plainHO o = true
theorem FX.of {d : Addr} {H H' : Hp} (e : Ext H H') : FX d H H' := ⟨fun b o _ h => e.same b o h, e.new⟩
theorem FX.refl (d : Addr) (H : Hp) : FX d H H := .of (Ext.refl H)
theorem FX.trans {d : Addr} {H H1 H2 : Hp} (a : FX d H H1) (b : FX d H1 H2) : FX d H H2 := ⟨fun c o n e => b.keep c o n (a.keep c o n e), fun c o e => (b.new c o e).elim (a.new c o) .inr⟩
theorem FX.put {d : Addr} {H : Hp} {kvs : List (Key × V)} : FX d H (upd H d (.dK kvs)) := ⟨fun b o n e => by rw [upd_ne n]; exact e, fun b o e => by
  by_cases z : b = d
  · rw [z, upd_same] at e; cases e; exact .inr rfl
  · rw [upd_ne z] at e; exact .inl e⟩
theorem FX.plain {d : Addr} {H H' : Hp} (a : FX d H H') (h : PlainHp H) : PlainHp H' := fun b o e => (a.new b o e).elim (h b o) id
theorem FX.new' {d : Addr} {H0 H : Hp} {D : Addr} {o : HO} (e : FX d H0 H) (hn : H0 D = Option.none) (ho : plainHO o = true) : FX d H0 (upd H D o) := ⟨fun b u n h => by
    rw [upd_ne fun z => by rw [z, hn] at h; cases h]; exact e.keep b u n h, fun b u h => by
    by_cases z : b = D
    · rw [z, upd_same] at h; cases h; exact .inr ho
    · rw [upd_ne z] at h; exact e.new b u h⟩
theorem FX.isNone {d : Addr} {H H' : Hp} (a : FX d H H') (hd : H d ≠ none) {p : Addr} (h : H' p = none) (hd' : H' d ≠ none) : H p = none := by
  cases e : H p with
  | none => rfl
  | some o =>
    by_cases z : p = d
    · rw [z] at h; exact absurd h hd'
    · rw [a.keep p o z e] at h; cases h
theorem Fd.there {H : Hp} {d c : Addr} (f : Fd H d c) : H d ≠ none := by
  obtain ⟨ns, sp, rs, tu, h, _⟩ := f
  rw [h]; exact (fun z => nomatch z)
theorem Fd.ne {H : Hp} {d c b : Addr} {o : HO} (f : Fd H d c) (h : H b = some o) (ho : ∀ kvs, o ≠ .dK kvs) : b ≠ d := fun z => by
  obtain ⟨ns, sp, rs, tu, h1, _⟩ := f
  rw [z, h1] at h
  exact ho _ (Option.some.inj h).symm
theorem Fd.lst {H H' : Hp} {d c b : Addr} {xs : List V} (f : Fd H d c) (x : FX d H H') (h : H b = some (.lst xs)) : H' b = some (.lst xs) := x.keep b _ (f.ne h (fun _ z => nomatch z)) h
theorem Fd.tup {H H' : Hp} {d c b : Addr} {xs : List V} (f : Fd H d c) (x : FX d H H') (h : H b = some (.tup xs)) : H' b = some (.tup xs) := x.keep b _ (f.ne h (fun _ z => nomatch z)) h
theorem Fd.cell {H : Hp} {d c : Addr} (f : Fd H d c) : H c ≠ none := by
  obtain ⟨ns, sp, rs, tu, _, h, _⟩ := f
  rw [h]; exact (fun z => nomatch z)
theorem Fd.upd {H : Hp} {d c D : Addr} {o : HO} (f : Fd H d c) (h1 : D ≠ d) (h2 : D ≠ c) : Fd (upd H D o) d c := by
  obtain ⟨ns, sp, rs, tu, a, b, k⟩ := f
  exact ⟨ns, sp, rs, tu, by rw [upd_ne h1.symm]; exact a, by rw [upd_ne h2.symm]; exact b, k⟩
theorem Fd.free {H : Hp} {d c D : Addr} (f : Fd H d c) (h : H D = none) : D ≠ d ∧ D ≠ c := ⟨fun z => f.there (by rw [← z]; exact h), fun z => f.cell (by rw [← z]; exact h)⟩
theorem Fd.ext {H H' : Hp} {d c : Addr} (f : Fd H d c) (e : Ext H H') : Fd H' d c := by
  obtain ⟨ns, sp, rs, tu, h1, h2, h3⟩ := f
  exact ⟨ns, sp, rs, tu, e.same _ _ h1, e.same _ _ h2, h3⟩
section
variable {H : Hp} {d c : Addr} {sp rs tu : Int}
theorem get_c (h : H d = some (.dK (feedK c sp rs tu))) : DGet H d (.str "cells") (some (.ref c)) := .inl ⟨_, Sum.inr "cells", .inl h, rfl, rfl⟩
theorem get_s (h : H d = some (.dK (feedK c sp rs tu))) : DGet H d (.str "spot") (some (.int sp)) := .inl ⟨_, Sum.inr "spot", .inl h, rfl, rfl⟩
theorem get_r (h : H d = some (.dK (feedK c sp rs tu))) : DGet H d (.str "rest") (some (.int rs)) := .inl ⟨_, Sum.inr "rest", .inl h, rfl, rfl⟩
theorem get_t (h : H d = some (.dK (feedK c sp rs tu))) : DGet H d (.str "turn") (some (.int tu)) := .inl ⟨_, Sum.inr "turn", .inl h, rfl, rfl⟩
theorem put_s (x : Int) : putK (feedK c sp rs tu) (Sum.inr "spot") (.int x) = feedK c x rs tu := rfl
theorem put_r (x : Int) : putK (feedK c sp rs tu) (Sum.inr "rest") (.int x) = feedK c sp x tu := rfl
theorem put_t (x : Int) : putK (feedK c sp rs tu) (Sum.inr "turn") (.int x) = feedK c sp rs x := rfl
end
theorem posd {k : Int} (h : 0 < k) : 0 < k := h
theorem canLay_ints : ∀ ns : List Int, PyData.canLayAll0 (ns.map PyData.int) = true
  | [] => rfl
  | a :: r => by
    show (PyData.canLay0 (.int a) && PyData.canLayAll0 (r.map PyData.int)) = true
    rw [canLay_ints r]; rfl
theorem depth_ints : ∀ ns : List Int, PyData.depthAll (ns.map PyData.int) = 0
  | [] => rfl
  | a :: r => by
    show max (PyData.depth (.int a)) (PyData.depthAll (r.map PyData.int)) = 0
    rw [depth_ints r]; rfl
theorem shaped_ints (ns : List Int) : SeqAt.shaped (.list (ns.map PyData.int)) = true := by
  unfold SeqAt.shaped
  have h1 : PyData.canLay0 (.list (ns.map PyData.int)) = PyData.canLayAll0 (ns.map PyData.int) := rfl
  have h2 : PyData.depth (.list (ns.map PyData.int)) = PyData.depthAll (ns.map PyData.int) + 1 := rfl
  rw [h1, canLay_ints, h2, depth_ints]; rfl
theorem dp_ints {K : PySem.W.Frag} {H : Hp} : ∀ ns : List Int, DpAll K H (ns.map V.int) (ns.map PyData.int)
  | [] => .nil
  | a :: r => .cons (.int a) (dp_ints r)
section
variable {X : Cx}
def rIxSome (K : PySem.W.Frag) : R2 := fun x y H Q => rIxS x y H Q ∨ rIxL K x y H Q
theorem ix_some : IxR X (rIxSome X.K) := by
  intro value slice pins s σ H x y v u Q I rx ry h hs
  rcases h with h | h
  · exact ix_str value slice pins s σ H x y v u Q I rx ry h hs
  · exact ix_list value slice pins s σ H x y v u Q I rx ry h hs
theorem call_len_some : CallR X (.builtin "len") (fun xs H Q => (∃ z : Str, xs = [.str z] ∧ z.length ≤ sizeLine ∧ Q (.int z.length) H) ∨ ∃ p ys, xs = [.ref p] ∧ (SqL X.K H p ys ∨ SqT X.K H p ys) ∧ Q (.int ys.length) H) := by
  intro pins s σ H xs us Q I r h
  rcases h with h | h
  · exact call_len_str pins s σ H xs us Q I r h
  · exact call_len_seq pins s σ H xs us Q I r h
end
section
variable {P : Program} {w : World} {K : PySem.W.Frag} {mg : Str → Option Value} {base : Heap}
theorem sc_L_draw : FnScope ["_law_feed_here", "_law_many", "_law_digit", "_law_cells", "_law_spot", "_law_cell", "_law_mixed"] ["_law_feed_here", "_law_many"] (defScope sL_draw) := ⟨rfl, rfl, rfl, by decide +kernel, rfl, by decide +kernel, by decide +kernel⟩
def sp__law_draw : Sp := fun vs H Q _ => ∃ (d c : Addr) (n : Int), vs = [.ref d, .int n] ∧ 0 < n ∧ n < 1000 ∧ Fd H d c ∧ ∀ H' k, FX d H H' → Fd H' d c → 0 ≤ k → k < n → Q (.int k) H'
theorem h__law_draw (T : Top K mg) : Has P w K mg base "_law_draw" 1 ["_law_feed_here", "_law_many"] sp__law_draw := by
  have nd := sc_L_draw.nd
  refine has_of T dL_draw (by simp [fn, fn0, fn1, fn2, fn3]) rfl (by decide +kernel) rfl sc_L_draw (fun vs H Q E ⟨d, c, n, e, _⟩ => by rw [e]; rfl) (fun _ _ _ _ _ _ us hl => match us, hl with | [_, _], _ => rfl) (fun cdv A outer s H vs Q E hr h => ?_)
  obtain ⟨d, c, n, rfl, hn0, hn1, f0, q⟩ := h
  -- cells: []; slots {'_law_feed_here': 0, '_law_many': 1, '_law_digit': 2, '_law_cells': 3, '_law_spot': 4, '_law_cell': 5, '_law_mixed': 6}
  refine ⟨_, (pss_cons (ps_dput (hu_of hr) (pv 0) pe_str (pe_op op_add (pe_dget (hu_of hr) (pv 0) pe_str (fun _ _ => rfl)) pe_int) rfl)
      (pss_cons (ps_if (pt_cmpR op_gt (pe_dget (hu_of hr) (pv 0) pe_str (fun _ _ => rfl)) pe_int (nomark _)) (pss_cons (ps_set (i := 2) nd rfl (Or.inl rfl) (pe_op op_mod (pe_callTy call_int1 (by rfl) (T.free _ (by decide +kernel)) (by decide +kernel) (pa_cons (pe_dget (hu_of hr) (pv 0) pe_str (fun _ _ => rfl)) pa_nil)) (pv 1)))
        (pss_cons (ps_dput (hu_of hr) (pv 0) pe_str (pe_op op_fdiv (pe_dget (hu_of hr) (pv 0) pe_str (fun _ _ => rfl)) (pv 1)) rfl)
        (pss_one (ps_ret (pv 2))))) pss_nil)
      (pss_cons (ps_par (i := 3) (j := 4) (by rfl) nd rfl rfl (by decide) rfl rfl (pa_cons (pe_dget (hu_of hr) (pv 0) pe_str (fun _ _ => rfl)) (pa_cons (pe_dget (hu_of hr) (pv 0) pe_str (fun _ _ => rfl)) pa_nil)) (by rfl))
      (pss_cons (ps_dput (hu_of hr) (pv 0) pe_str (pe_op op_add (pv 4) pe_int) rfl)
      (pss_cons (ps_set (i := 5) nd rfl (Or.inl rfl) (pe_mono (pe_ifExp (pt_cmpR (op_neD hr.units) (pv 3) (pe_lst pa_nil) (nomark _)) (pe_ix ix_list (pv 3) (pe_op op_mod (pe_callTy call_int1 (by rfl) (T.free _ (by decide +kernel)) (by decide +kernel) (pa_cons (pv 4) pa_nil)) (pe_callB call_len_seq (by rfl) (T.free _ (by decide +kernel)) (by decide +kernel) (pa_cons (pv 3) pa_nil))) (fun _ _ => rfl)) pe_int)))
      (pss_cons (ps_if (PW.pt (pw_and (pt_cmpR op_ge (pv 5) (pe_op op_pow pe_int pe_int) (nomark _)) (pw_and1 (pt_cmpR op_lt (pv 4) (pe_callB call_len_seq (by rfl) (T.free _ (by decide +kernel)) (by decide +kernel) (pa_cons (pv 3) pa_nil)) (nomark _))))) (pss_cons (ps_dput (hu_of hr) (pv 0) pe_str (pe_op op_fdiv (pv 5) (pv 1)) rfl)
        (pss_one (ps_ret (pe_op op_mod (pe_callTy call_int1 (by rfl) (T.free _ (by decide +kernel)) (by decide +kernel) (pa_cons (pv 5) pa_nil)) (pv 1))))) pss_nil)
      (pss_cons (ps_set (i := 6) nd rfl (Or.inl rfl) (pe_mono (pe_op op_mod (pe_callTy call_int1 (by rfl) (T.free _ (by decide +kernel)) (by decide +kernel) (pa_cons (pe_op op_add (pe_op op_add (pe_op op_mod (pe_callTy call_int1 (by rfl) (T.free _ (by decide +kernel)) (by decide +kernel) (pa_cons (pv 5) pa_nil)) pe_int) (pe_op op_mul pe_int (pe_dget (hu_of hr) (pv 0) pe_str (fun _ _ => rfl)))) pe_int) pa_nil)) pe_int)))
      (pss_cons (ps_set (i := 6) nd rfl (Or.inl rfl) (pe_mono (pe_op op_mod (pe_callTy call_int1 (by rfl) (T.free _ (by decide +kernel)) (by decide +kernel) (pa_cons (pe_op op_add (pe_op op_add (pe_op op_mul (pv 6) (pv 6)) (pe_op op_mul pe_int (pe_dget (hu_of hr) (pv 0) pe_str (fun _ _ => rfl)))) pe_int) pa_nil)) pe_int)))
      (pss_one (ps_ret (pe_op op_mod (pe_callTy call_int1 (by rfl) (T.free _ (by decide +kernel)) (by decide +kernel) (pa_cons (pe_op op_fdiv (pe_op op_mod (pe_callTy call_int1 (by rfl) (T.free _ (by decide +kernel)) (by decide +kernel) (pa_cons (pe_op op_add (pe_op op_mul (pv 6) (pv 6)) (pe_op op_mul pe_int (pv 6))) pa_nil)) pe_int) pe_int) pa_nil)) (pv 1)))))))))))), ?_⟩
  obtain ⟨ns, sp, rs, tu, hd, hc, hs0, hr0, hl⟩ := f0
  have hcd : c ≠ d := fun z => by rw [z, hd] at hc; cases hc
  refine ⟨.ref d, rfl, d, _, rfl, get_t hd, _, 1, rfl, rfl, .ref d, rfl, d, _, rfl, DPut.k (k := Sum.inr "turn") hd (by show 4 < sizeLine; decide), ?_⟩
  rw [put_t]
  have x1 : FX d H (upd H d (.dK (feedK c sp rs (tu + 1)))) := FX.put
  have hd1 : (upd H d (.dK (feedK c sp rs (tu + 1)))) d = some (.dK (feedK c sp rs (tu + 1))) := upd_same
  have hc1 := x1.keep _ _ hcd hc
  generalize (upd H d (.dK (feedK c sp rs (tu + 1)))) = H1 at x1 hd1 hc1 ⊢
  refine ⟨.ref d, rfl, d, _, rfl, get_r hd1, _, _, rfl, rfl, _, rfl, ite2 (fun hgt => ?_) fun hgt => ?_⟩
  · refine ⟨.ref d, rfl, d, _, rfl, get_r hd1, .inl ⟨_, rfl, .int n, rfl, _, _, rfl, rfl, hn0, ?_⟩⟩
    refine ⟨.ref d, rfl, d, _, rfl, get_r hd1, .int n, rfl, _, _, rfl, rfl, ⟨hn0, by omega⟩, .ref d, rfl, d, _, rfl, DPut.k (k := Sum.inr "rest") hd1 (by show 4 < sizeLine; decide), ?_⟩
    rw [put_r]
    have x2 : FX d H1 (upd H1 d (.dK (feedK c sp (rs / n) (tu + 1)))) := FX.put
    refine ⟨_, rfl, q _ _ (x1.trans x2) ⟨ns, sp, rs / n, tu + 1, upd_same, x2.keep _ _ hcd hc1, hs0, Int.ediv_nonneg hr0 (by omega), hl⟩ (Int.emod_nonneg _ (by omega)) (Int.emod_lt_of_pos _ hn0)⟩
  refine ⟨.ref d, rfl, d, _, rfl, get_c hd1, .ref d, rfl, d, _, rfl, get_s hd1, _, _, rfl, ?_⟩
  refine ⟨.int sp, rfl, _, 1, rfl, rfl, .ref d, rfl, d, _, rfl, DPut.k (k := Sum.inr "spot") hd1 (by show 4 < sizeLine; decide), ?_⟩
  rw [put_s]
  have x2 : FX d H1 (upd H1 d (.dK (feedK c (sp + 1) rs (tu + 1)))) := FX.put
  have hd2 : (upd H1 d (.dK (feedK c (sp + 1) rs (tu + 1)))) d = some (.dK (feedK c (sp + 1) rs (tu + 1))) := upd_same
  have hc2 := x2.keep _ _ hcd hc1
  generalize (upd H1 d (.dK (feedK c (sp + 1) rs (tu + 1)))) = H2 at x2 hd2 hc2 ⊢
  refine ⟨fun v H' => (∃ cell, v = .int cell) ∧ Ext H2 H', ⟨.ref c, rfl, Nat.zero_le _, fun E0 nE => ?_⟩, fun v H3 hv => ?_⟩
  · have e3 := (Ext.refl H2).then (o := .lst []) nE rfl
    have hE3 : (upd H2 E0 (.lst [])) E0 = some (.lst []) := upd_same
    have hc3 := e3.same _ _ hc2
    generalize (upd H2 E0 (.lst [])) = H3 at e3 hE3 hc3 ⊢
    refine ⟨.list (ns.map PyData.int), .list [], .lst (.inl (.inl hc3)) (dp_ints ns), .lst (.inl (.inl hE3)) .nil, shaped_ints ns, rfl, _, rfl, ?_⟩
    rw [eqv_nil]
    refine ite2 (fun hne => ?_) fun hne => ⟨⟨_, rfl⟩, e3⟩
    have hpos : 0 < ns.length := by
      cases ns with
      | nil => cases hne
      | cons a r => simp
    have hpos2 : (0 : Int) < ((ns.map V.int).length : Nat) := by rw [List.length_map]; omega
    refine ⟨.ref c, rfl, .int sp, rfl, .inl ⟨_, rfl, .ref c, rfl, c, _, rfl, .inl (.inl (.inl hc3)), _, _, rfl, rfl, hpos2, ?_⟩⟩
    obtain ⟨k, hk⟩ := Int.eq_ofNat_of_zero_le (Int.emod_nonneg sp (show (((ns.map V.int).length : Nat) : Int) ≠ 0 by omega))
    have hk2 := Int.emod_lt_of_pos sp hpos2
    have hk3 : k < (ns.map V.int).length := by omega
    refine ⟨c, ns.map V.int, (k : Int), .int (ns[k]'(by simpa using hk3)), rfl, congrArg V.int hk, .inl (.inl hc3), atI_nat (by rw [List.getElem?_eq_getElem hk3]; simp), ⟨_, rfl⟩, e3⟩
  obtain ⟨⟨cell, rfl⟩, e3⟩ := hv
  have hd3 := e3.same _ _ hd2
  have hc3 := e3.same _ _ hc2
  have x3 := (x1.trans x2).trans (FX.of e3)
  refine ⟨.int cell, rfl, 10, 18, rfl, rfl, ⟨by decide, by decide, by decide⟩, _, _, rfl, rfl, _, rfl, ite2 (fun h1 => ⟨.int sp, rfl, .ref c, rfl, c, _, rfl, .inl (.inl (.inl hc3)), _, _, rfl, rfl, _, rfl, ite2 (fun h2 => ?body) fun h2 => ?rest1⟩) fun h1 => iteF ?rest2⟩
  case body =>
    have hcell : (0 : Int) ≤ cell := by
      have : (10 : Int) ^ (18 : Int).toNat ≤ cell := of_decide_eq_true h1
      have h0 : (0 : Int) ≤ (10 : Int) ^ (18 : Int).toNat := by decide
      omega
    refine ⟨.int cell, rfl, .int n, rfl, _, _, rfl, rfl, ⟨hn0, by omega⟩, .ref d, rfl, d, _, rfl, DPut.k (k := Sum.inr "rest") hd3 (by show 4 < sizeLine; decide), ?_⟩
    rw [put_r]
    have x4 : FX d H3 (upd H3 d (.dK (feedK c (sp + 1) (cell / n) (tu + 1)))) := FX.put
    refine ⟨.int cell, rfl, .inl ⟨_, rfl, .int n, rfl, _, _, rfl, rfl, hn0, ?_⟩⟩
    exact q _ _ (x3.trans x4) ⟨ns, sp + 1, cell / n, tu + 1, upd_same, x4.keep _ _ hcd hc3, by omega, Int.ediv_nonneg hcell (by omega), hl⟩ (Int.emod_nonneg _ (by omega)) (Int.emod_lt_of_pos _ hn0)
  case rest1 | rest2 =>
    refine ⟨fun v H' => ∃ m, v = .int m ∧ 0 ≤ m ∧ m < 2147483629 ∧ H' = H3, ⟨.int cell, rfl, .inl ⟨_, rfl, _, _, rfl, rfl, posd (by decide), .ref d, rfl, d, _, rfl, get_t hd3, _, _, rfl, rfl, .inl ⟨by decide, by decide⟩, _, _, rfl, rfl, _, _, rfl, rfl, .inl ⟨_, rfl, _, _, rfl, rfl, posd (by decide), _, rfl, Int.emod_nonneg _ (by decide), Int.emod_lt_of_pos _ (by decide), rfl⟩⟩⟩, fun v H4 hv => ?_⟩
    obtain ⟨m, rfl, m0, m1, rfl⟩ := hv
    refine ⟨fun v H' => ∃ m, v = .int m ∧ 0 ≤ m ∧ m < 2147483563 ∧ H' = H4, ⟨.int m, rfl, .int m, rfl, _, _, rfl, rfl, .inl ⟨by omega, by omega⟩, .ref d, rfl, d, _, rfl, get_t hd3, _, _, rfl, rfl, .inl ⟨by decide, by decide⟩, _, _, rfl, rfl, _, _, rfl, rfl, .inl ⟨_, rfl, _, _, rfl, rfl, posd (by decide), _, rfl, Int.emod_nonneg _ (by decide), Int.emod_lt_of_pos _ (by decide), rfl⟩⟩, fun v H5 hv => ?_⟩
    obtain ⟨m2, rfl, m20, m21, rfl⟩ := hv
    refine ⟨.int m2, rfl, .int m2, rfl, _, _, rfl, rfl, .inl ⟨by omega, by omega⟩, .int m2, rfl, _, _, rfl, rfl, .inl ⟨by decide, by decide⟩, _, _, rfl, rfl, .inl ⟨_, rfl, _, _, rfl, rfl, posd (by decide), _, _, rfl, rfl, ⟨by decide, by decide⟩, .inl ⟨_, rfl, .int n, rfl, _, _, rfl, rfl, hn0, ?_⟩⟩⟩
    exact q _ _ x3 ⟨ns, sp + 1, rs, tu + 1, hd3, hc3, by omega, hr0, hl⟩ (Int.emod_nonneg _ (by omega)) (Int.emod_lt_of_pos _ hn0)
theorem sc_L_any : FnScope ["_law_feed_here", "_law_some"] ["_law_feed_here", "_law_some"] (defScope sL_any) := ⟨rfl, rfl, rfl, by decide +kernel, rfl, by decide +kernel, by decide +kernel⟩
def sp__law_any : Sp := fun vs H Q _ => ∃ (d kc : Addr) (v : V), vs = [.ref d, v] ∧ Fd H d kc ∧ ((∃ l, v = tx l ∧ l ≠ [] ∧ l.length < 1000 ∧ ∀ H' c, FX d H H' → Fd H' d kc → c ∈ l → Q (tx [c]) H') ∨ ∃ a ls, v = .ref a ∧ H a = some (.lst (ls.map tx)) ∧ ls ≠ [] ∧ ls.length < 1000 ∧ ∀ H' x, FX d H H' → Fd H' d kc → x ∈ ls → Q (tx x) H')
theorem h__law_any (T : Top K mg) : Has P w K mg base "_law_any" 2 ["_law_feed_here", "_law_some"] sp__law_any := by
  have nd := sc_L_any.nd
  have h__law_draw := h__law_draw (P := P) (w := w) (base := base) T
  refine has_of T dL_any (by simp [fn, fn0, fn1, fn2, fn3]) rfl (by decide +kernel) rfl sc_L_any (fun vs H Q E ⟨d, kc, v, e, _⟩ => by rw [e]; rfl) (fun _ _ _ _ _ _ us hl => match us, hl with | [_, _], _ => rfl) (fun cdv A outer s H vs Q E hr h => ?_)
  obtain ⟨d, kc, v, rfl, f0, hq⟩ := h
  -- cells: []; slots {'_law_feed_here': 0, '_law_some': 1}
  refine ⟨_, (pss_one (ps_ret (pe_ix ix_some (pv 1) (pe_has h__law_draw (hr.mono (by omega)) (by rfl) (pa_cons (pv 0) (pa_cons (pe_callB call_len_some (by rfl) (T.free _ (by decide +kernel)) (by decide +kernel) (pa_cons (pv 1) pa_nil)) pa_nil))) (fun _ _ => rfl)))), ?_⟩
  rcases hq with ⟨l, rfl, hne, hl, q⟩ | ⟨a, ls, rfl, ha, hne, hl, q⟩
  · have hp := List.length_pos_iff.mpr hne
    refine ⟨tx l, rfl, .ref d, rfl, tx l, rfl, .inl ⟨S l, rfl, line_smallE (by rw [S_len]; omega), d, kc, _, rfl, by rw [S_len]; omega, by rw [S_len]; omega, f0, fun H' k x f k0 k1 => ?_⟩⟩
    rw [S_len] at k1
    obtain ⟨j, rfl⟩ := Int.eq_ofNat_of_zero_le k0
    have hj : j < l.length := by omega
    exact .inl ⟨S l, (j : Int), l[j], rfl, rfl, line_smallE (by rw [S_len]; omega), atI_nat (by rw [S_cps]; exact List.getElem?_eq_getElem hj), q H' _ x f (List.getElem_mem hj)⟩
  · have hp := List.length_pos_iff.mpr hne
    refine ⟨.ref a, rfl, .ref d, rfl, .ref a, rfl, .inr ⟨a, _, rfl, .inl (.inl (.inl ha)), d, kc, _, rfl, by rw [List.length_map]; omega, by rw [List.length_map]; omega, f0, fun H' k x f k0 k1 => ?_⟩⟩
    rw [List.length_map] at k1
    obtain ⟨j, rfl⟩ := Int.eq_ofNat_of_zero_le k0
    have hj : j < ls.length := by omega
    exact .inr ⟨a, ls.map tx, (j : Int), tx ls[j], rfl, rfl, .inl (.inl (f0.lst x ha)), atI_nat (by rw [List.getElem?_map, List.getElem?_eq_getElem hj]; rfl), q H' _ x f (List.getElem_mem hj)⟩
theorem cut_ints (ns : List Int) (lo hi : Option Int) : ∃ ms : List Int, cutV (ns.map V.int) lo hi = ms.map V.int ∧ ms.length ≤ ns.length := by
  refine ⟨(ns.drop (HT.sIx (ns.map V.int).length 0 lo)).take (HT.sIx (ns.map V.int).length (ns.map V.int).length hi - HT.sIx (ns.map V.int).length 0 lo), ?_, ?_⟩
  · unfold cutV; rw [List.map_take, List.map_drop]
  · rw [List.length_take, List.length_drop]; omega
theorem sc_L_feed : FnScope ["_law_script", "_law_cell"] ["_law_script"] (defScope sL_feed) := ⟨rfl, rfl, rfl, by decide +kernel, rfl, by decide +kernel, by decide +kernel⟩
def sp__law_feed (K : PySem.W.Frag) : Sp := fun vs H Q _ => ∃ (a : Addr) (ns : List Int), vs = [.ref a] ∧ SqL K H a (ns.map V.int) ∧ ns.length ≤ 63 ∧ ∀ H' d c, Ext H H' → H d = none → Fd H' d c → Q (.ref d) H'
theorem h__law_feed (T : Top K mg) : Has P w K mg base "_law_feed" 1 ["_law_script"] (sp__law_feed K) := by
  have nd := sc_L_feed.nd
  refine has_of T dL_feed (by simp [fn, fn0, fn1, fn2, fn3]) rfl (by decide +kernel) rfl sc_L_feed (fun vs H Q E ⟨a, ns, e, _⟩ => by rw [e]; rfl) (fun _ _ _ _ _ _ us hl => match us, hl with | [_], _ => rfl) (fun cdv A outer s H vs Q E hr h => ?_)
  obtain ⟨a, ns, rfl, ha, hl, q⟩ := h
  -- cells: []; slots {'_law_script': 0, '_law_cell': 1}
  refine ⟨_, (pss_one (ps_ret (pe_disp (pps_cons pe_str (pe_lc (own := [("_law_cell", 1)]) (g := (gName 1)) (tt := tYes) rfl nd (pi_list (pe_slice sl_list (pv 0) po_none (po_some pe_int))) (blkOk_by (by kernel_rfl)) (fun _ _ _ _ _ => (pg_name (i := 1) nd rfl (Or.inl rfl))) (fun _ _ _ _ _ => pts_nil) (fun _ _ _ _ _ => (pe_callTy call_int1 (by rfl) (T.free _ (by decide +kernel)) (by decide +kernel) (pa_cons (pv 1) pa_nil)))) (pps_cons pe_str pe_int (pps_cons pe_str pe_int (pps_cons pe_str pe_int pps_nil)))) (by rfl) (by rfl) (fun z => by cases z) (by decide)))), ?_⟩
  obtain ⟨ms, hms, hml⟩ := cut_ints ns none (some 63)
  refine fun p np => ⟨.ref a, rfl, 63, rfl, a, _, rfl, ((Ext.refl H).then np rfl).seq ha, fun p1 np1 => ?_⟩
  have e1 : Ext H (upd H p (.dK [])) := (Ext.refl H).then np rfl
  have hp1 : (upd H p (.dK [])) p = some (.dK []) := upd_same
  generalize (upd H p (.dK [])) = H1 at e1 hp1 np1 ⊢
  have e2 := (Ext.refl H1).then (o := .lst (cutV (ns.map V.int) none (some 63))) np1 rfl
  have hq2 : (upd H1 p1 (.lst (cutV (ns.map V.int) none (some 63)))) p1 = some (.lst (ms.map V.int)) := by rw [upd_same, hms]
  generalize (upd H1 p1 (.lst (cutV (ns.map V.int) none (some 63)))) = H2 at e2 hq2 ⊢
  refine ⟨p1, rfl, ⟨_, .inl (.inl hq2)⟩, fun D hD => lcLi ms V.int (fun i => some i) (fun z y _ => y = .int z) (.inl (.inl hq2)) hD (fun _ _ _ _ _ h => h) (line_small (by omega)) (fun i hi H3 e3 R1 R0 k1 k0 => ⟨rfl, tyes' ?_⟩) fun H3 ys e3 hDy f3 => ?_⟩
  · exact ⟨.int i, rfl, .inl ⟨i, rfl, k1 i _ _ rfl (Ext.refl _) rfl⟩⟩
  have ey := f3.eq (vv := V.int)
  have e0 : ms.filterMap (fun i => some i) = ms := by simp
  rw [e0] at ey
  rw [ey] at hDy
  have hp3 := (e2.trans e3).same _ _ hp1
  refine ⟨hp3, [(Sum.inr "cells", .ref D), (Sum.inr "spot", .int 0), (Sum.inr "rest", .int 0), (Sum.inr "turn", .int 0)], rfl, by show 4 ≤ 15; decide, ?_⟩
  have em : mergeK [] [((Sum.inr "cells" : Key), V.ref D), (Sum.inr "spot", .int 0), (Sum.inr "rest", .int 0), (Sum.inr "turn", .int 0)] = feedK D 0 0 0 := rfl
  rw [em]
  have hDp : D ≠ p := fun z => by rw [z, hp3] at hDy; cases hDy
  refine q _ p D ?_ np ⟨ms, 0, 0, 0, upd_same, by rw [upd_ne hDp]; exact hDy, by decide, by decide, by omega⟩
  exact ((e1.trans e2).trans e3).updNew np rfl
end
end K58
set_option Elab.async false
set_option linter.all false
set_option maxRecDepth 100000
set_option maxHeartbeats 1000000
/-! The law's words, its rows of codes. -/
namespace K58
open PySem PySem.Spec PyProof.Rows L2
def ltr8 : List Nat := [97, 98, 99, 100, 101, 102, 103, 104]
theorem ltr8_eq : ("abcdefgh" : Str) = S ltr8 := by rfl
/-- the words at wd: a letter's label -/
def Wd (H : Hp) (wd : Addr) (f : Nat → Nat) : Prop := H wd = some (.dK (arK (fun c => [f c]) ltr8)) ∧ ∀ c ∈ ltr8, f c ∈ letters
theorem Wd.get {H : Hp} {wd : Addr} {f : Nat → Nat} (h : Wd H wd f) {s : Nat} (hs : s ∈ ltr8) : DGet H wd (tx [s]) (some (tx [f s])) := ArrV.get (a := fun c => [f c]) (.inl h.1) hs
theorem Wd.ext {H H' : Hp} {wd : Addr} {f : Nat → Nat} (e : Ext H H') (h : Wd H wd f) : Wd H' wd f := ⟨e.same _ _ h.1, h.2⟩
theorem Wd.fx {H H' : Hp} {d wd : Addr} {f : Nat → Nat} (x : FX d H H') (hne : wd ≠ d) (h : Wd H wd f) : Wd H' wd f := ⟨x.keep _ _ hne h.1, h.2⟩
theorem cut_take (l : List Nat) (k : Nat) : cutS (S l) none (some (k : Int)) = S (l.take k) := by
  unfold cutS
  refine str_ext ?_
  rw [HT.sIx_none, HT.sIx_nat]
  show ((l.drop 0).take (min k (S l).length - 0)) = l.take k
  rw [S_len, List.drop_zero, Nat.sub_zero]
  rcases Nat.le_total k l.length with h | h
  · rw [Nat.min_eq_left h]
  · rw [Nat.min_eq_right h, List.take_of_length_le (Nat.le_refl _), List.take_of_length_le h]
def pools : List (List Nat) := [[97, 98, 99, 100, 101, 102, 103, 104], [122, 121, 120, 119, 118, 117, 116, 115], [97, 99, 101, 103, 105, 107, 109, 111], [104, 102, 100, 98, 103, 101, 99, 97]]
theorem pools_eq : [V.str "abcdefgh", V.str "zyxwvuts", V.str "acegikmo", V.str "hfdbgeca"] = pools.map tx := by rfl
theorem pools_ok : ∀ p ∈ pools, p.length = 8 ∧ ∀ c ∈ p, c ∈ letters := by decide
/-- a row made of a code by the words f -/
structure RowOk (f : Nat → Nat) (l r : List Nat) : Prop where
  len : r.length = l.length
  mem : ∀ c ∈ r, ∃ s ∈ l, c = f s
  tail : (r.drop 1).Pairwise (· ≤ ·)
theorem sorted_sg {ys : List Str} {cs : List Nat} (hp : ys.Perm (cs.map fun c => S [c])) (hs : sortedS ys = true) : ∃ l : List Nat, ys = (l.map fun c => [c]).map S ∧ l.Perm cs ∧ l.Pairwise (· ≤ ·) := by
  obtain ⟨l, h1, rfl⟩ := perm_back hp rfl
  refine ⟨l, by rw [List.map_map]; rfl, h1, ?_⟩
  have h2 := List.pairwise_map.mp (sortedS_pair _ hs)
  refine h2.imp fun {a b} h => ?_
  have h : ltL [b] [a] = false := h
  simp [ltL] at h
  exact h
section
variable {P : Program} {w : World} {K : PySem.W.Frag} {mg : Str → Option Value} {base : Heap}
theorem sc_L_words : FnScope ["_law_feed_here", "_law_pool", "_law_turn", "_law_n"] ["_law_feed_here"] (defScope sL_words) := ⟨rfl, rfl, rfl, by decide +kernel, rfl, by decide +kernel, by decide +kernel⟩
def sp__law_words : Sp := fun vs H Q _ => ∃ (d kc : Addr), vs = [.ref d] ∧ Fd H d kc ∧ ∀ H' wd f, FX d H H' → Fd H' d kc → wd ≠ d → Wd H' wd f → Q (.ref wd) H'
theorem h__law_words (T : Top K mg) : Has P w K mg base "_law_words" 3 ["_law_feed_here"] sp__law_words := by
  have nd := sc_L_words.nd
  have h__law_any := h__law_any (P := P) (w := w) (base := base) T
  have h__law_draw := h__law_draw (P := P) (w := w) (base := base) T
  refine has_of T dL_words (by simp [fn, fn0, fn1, fn2, fn3]) rfl (by decide +kernel) rfl sc_L_words (fun vs H Q E ⟨d, kc, e, _⟩ => by rw [e]; rfl) (fun _ _ _ _ _ _ us hl => match us, hl with | [_], _ => rfl) (fun cdv A outer s H vs Q E hr h => ?_)
  obtain ⟨d, kc, rfl, f0, q⟩ := h
  -- cells: ['_law_pool']; slots {'_law_feed_here': 0, '_law_pool': 1, '_law_turn': 2, '_law_n': 3}
  refine ⟨_, (pss_cons (ps_asg (pe_tup (pa_cons (pe_has h__law_any (hr.mono (by omega)) (by rfl) (pa_cons (pv 0) (pa_cons (pe_lst (pa_cons pe_str (pa_cons pe_str (pa_cons pe_str (pa_cons pe_str pa_nil))))) pa_nil))) (pa_cons (pe_has h__law_draw (hr.mono (by omega)) (by rfl) (pa_cons (pv 0) (pa_cons pe_int pa_nil))) pa_nil))) (pg_tup (by rfl) (pgs_cons (pg_name (i := 1) nd rfl (Or.inr rfl)) (pgs_cons (pg_name (i := 2) nd rfl (Or.inl rfl)) pgs_nil))))
      (pss_cons (ps_set (i := 1) nd rfl (Or.inr rfl) (pe_op op_add_str (pe_slice sl_str (pv 1) (po_some (pv 2)) po_none) (pe_slice sl_str (pv 1) po_none (po_some (pv 2)))))
      (pss_one (ps_ret (pe_callTy (call_dictP rfl) (by rfl) (T.free _ (by decide +kernel)) (by decide +kernel) (pa_cons (pe_lc (own := [("_law_n", 3)]) (g := (gName 3)) (tt := tYes) rfl nd (pi_range1 (by rfl) (T.free _ (by decide +kernel)) (pa_cons pe_int pa_nil)) (blkOk_by (by kernel_rfl)) (fun _ _ _ _ _ => (pg_name (i := 3) nd rfl (Or.inl rfl))) (fun _ _ _ _ _ => pts_nil) (fun _ _ _ _ _ => (pe_tup (pa_cons (pe_ix ix_str pe_str (pv 3) (fun _ _ => rfl)) (pa_cons (pe_ix ix_str (pv 1) (pv 3) (fun _ _ => rfl)) pa_nil))))) pa_nil)))))), ?_⟩
  refine ⟨.ref d, rfl, by show 4 ≤ sizeLine; decide, fun a0 na => ?_⟩
  rw [pools_eq]
  have e1 := (Ext.refl H).then (o := .lst (pools.map tx)) na rfl
  have ha1 : (upd H a0 (.lst (pools.map tx))) a0 = some (.lst (pools.map tx)) := upd_same
  have f1 := f0.ext e1
  generalize (upd H a0 (.lst (pools.map tx))) = H1 at e1 ha1 f1 ⊢
  refine ⟨d, kc, .ref a0, rfl, f1, .inr ⟨a0, pools, rfl, ha1, by decide, by decide, fun H2 p x2 f2 hp => ?_⟩⟩
  obtain ⟨p8, plow⟩ := pools_ok p hp
  refine ⟨.ref d, rfl, d, kc, 8, rfl, by decide, by decide, f2, fun H3 kz x3 f3 k0 k1 => ⟨by show 2 ≤ sizeLine; decide, fun t nt => ?_⟩⟩
  obtain ⟨k, rfl⟩ := Int.eq_ofNat_of_zero_le k0
  have hk : k < 8 := by omega
  have e4 := (Ext.refl H3).then (o := .tup [tx p, .int ((k : Nat) : Int)]) nt rfl
  have ht4 : (upd H3 t (.tup [tx p, .int ((k : Nat) : Int)])) t = some (.tup [tx p, .int ((k : Nat) : Int)]) := upd_same
  have f4 := f3.ext e4
  generalize (upd H3 t (.tup [tx p, .int ((k : Nat) : Int)])) = H4 at e4 ht4 f4 ⊢
  refine ⟨t, _, rfl, .inl (.inl ht4), rfl, _, _, rfl, _, _, rfl, rfl, ?_⟩
  have x4 : FX d H H4 := (FX.of e1).trans (x2.trans (x3.trans (.of e4)))
  have hsz : (S p).length ≤ sizeLine := line_smallE (by rw [S_len]; omega)
  refine ⟨tx p, rfl, .int ((k : Nat) : Int), rfl, ((k : Nat) : Int), rfl, S p, rfl, hsz, tx p, rfl, .int ((k : Nat) : Int), rfl, ((k : Nat) : Int), rfl, S p, rfl, hsz, _, _, rfl, rfl, ?_, ?_⟩
  · rw [cut_drop, cut_take, S_len, S_len, List.length_drop, List.length_take]
    exact line_smallE (by omega)
  rw [cut_drop, cut_take, S_add]
  have r8 : (p.drop k ++ p.take k).length = 8 := by rw [List.length_append, List.length_drop, List.length_take]; omega
  have rlow : ∀ c ∈ p.drop k ++ p.take k, c ∈ letters := fun c hc => by
    rcases List.mem_append.mp hc with h | h
    · exact plow c (List.mem_of_mem_drop h)
    · exact plow c (List.mem_of_mem_take h)
  generalize p.drop k ++ p.take k = r at r8 rlow
  have hrs : (S r).length ≤ sizeLine := line_smallE (by rw [S_len]; omega)
  have hl8 : ("abcdefgh" : Str).length ≤ sizeLine := by rw [ltr8_eq]; exact line_smallE (by rw [S_len]; decide)
  refine ⟨8, rfl, by decide, by decide, fun D hD => lcFmT (walk_range (lo := 0) (n := 8)) (List.range 8) (fun c x _ => x = .int (c : Nat)) (fun c => some c) (fun c y H => ∃ p, y = .ref p ∧ p ≠ D ∧ H p = some (.tup [tx [97 + c], tx [r.getD c 0]])) (by simp) (fun i H x H' hi y => ⟨y.1 ▸ Ext.refl _, i, by simp [hi], by have := y.2; simpa using this⟩) hD (fun c y H H' k ⟨p, h1, h2, h3⟩ => ⟨p, h1, h2, k _ _ h2 h3⟩) (fun _ _ => trivial) (by decide) (fun c hc x H5 e5 hDl hx R1 R0 k1 k0 => ⟨rfl, tyes' ?_⟩) fun H5 ys e5 hDy f5 => ?_⟩
  · subst hx
    have hc8 : c < 8 := List.mem_range.mp hc
    have a1 : atI ("abcdefgh" : Str).cps.toList ((c : Nat) : Int) = some (97 + c) := by
      rw [ltr8_eq, S_cps]
      refine atI_nat ?_
      have : ∀ c < 8, ltr8[c]? = some (97 + c) := by decide
      exact this c hc8
    have a2 : atI (S r).cps.toList ((c : Nat) : Int) = some (r.getD c 0) := by
      rw [S_cps]
      refine atI_nat ?_
      rw [List.getD_eq_getElem?_getD, List.getElem?_eq_getElem (by omega)]; rfl
    refine ⟨.int ((c : Nat) : Int), rfl, _, ((c : Nat) : Int), 97 + c, rfl, rfl, hl8, a1, tx r, rfl, .int ((c : Nat) : Int), rfl, S r, ((c : Nat) : Int), r.getD c 0, rfl, rfl, hrs, a2, by show 2 ≤ sizeLine; decide, fun p0 np => k1 c _ _ rfl ((Ext.refl H5).then np rfl) ⟨p0, rfl, fun z => ?_, upd_same⟩⟩
    obtain ⟨ys', hys⟩ := hDl
    rw [z, hys] at np; cases np
  have e0 : (List.range 8).filterMap (fun c => some c) = List.range 8 := by simp
  rw [e0] at f5
  have ek : arK (fun c => [r.getD (c - 97) 0]) ltr8 = (List.range 8).map fun n => ((Sum.inr (S [97 + n]) : Key), tx [r.getD n 0]) := by rfl
  have f6 : F2 (KvR H5) (arK (fun c => [r.getD (c - 97) 0]) ltr8) ys := by
    rw [ek]
    exact F2.mapL (f := fun n => ((Sum.inr (S [97 + n]) : Key), tx [r.getD n 0])) (f5.mono fun c y ⟨p, h1, _, h3⟩ => ⟨p, h1, h3⟩)
  obtain ⟨ps, rfl, hps⟩ := paired_of (K := K) f6
  refine ⟨D, ps, _, rfl, .inl (.inl hDy), hps, fun F nF => ?_⟩
  have asc8 : Asc ltr8 := by unfold Asc ltr8; decide
  rw [mergeK_nd _ [] (by rw [List.nil_append]; exact keys_nd asc8 _), List.nil_append]
  have e6 := (Ext.refl H5).then (o := .dK (arK (fun c => [r.getD (c - 97) 0]) ltr8)) nF rfl
  have f5' := f4.ext e5
  have hFd : F ≠ d := fun z => by rw [z] at nF; exact f5'.there nF
  refine q _ F (fun c => r.getD (c - 97) 0) (x4.trans (.of (e5.trans e6))) (f5'.ext e6) hFd ⟨upd_same, fun c hc => ?_⟩
  refine rlow _ ?_
  have hlt : ∀ c ∈ ltr8, c - 97 < 8 := by decide
  have := hlt c hc
  show r.getD (c - 97) 0 ∈ r
  rw [List.getD_eq_getElem?_getD, List.getElem?_eq_getElem (by omega)]
  exact List.getElem_mem _
theorem sc_L_row_of : FnScope ["_law_code", "_law_words_here", "_law_sign"] ["_law_code", "_law_words_here"] (defScope sL_row_of) := ⟨rfl, rfl, rfl, by decide +kernel, rfl, by decide +kernel, by decide +kernel⟩
def sp__law_row_of : Sp := fun vs H Q _ => ∃ (l : List Nat) (wd : Addr) (f : Nat → Nat), vs = [tx l, .ref wd] ∧ Wd H wd f ∧ (∀ c ∈ l, c ∈ ltr8) ∧ l ≠ [] ∧ l.length ≤ 10 ∧ ∀ H' r, Ext H H' → RowOk f l r → Q (tx r) H'
theorem h__law_row_of (T : Top K mg) : Has P w K mg base "_law_row_of" 1 ["_law_code", "_law_words_here"] sp__law_row_of := by
  have nd := sc_L_row_of.nd
  refine has_of T dL_row_of (by simp [fn, fn0, fn1, fn2, fn3]) rfl (by decide +kernel) rfl sc_L_row_of (fun vs H Q E ⟨l, wd, f, e, _⟩ => by rw [e]; rfl) (fun _ _ _ _ _ _ us hl => match us, hl with | [_, _], _ => rfl) (fun cdv A outer s H vs Q E hr h => ?_)
  obtain ⟨l, wd, f, rfl, hw, hl8, hne, hl10, q⟩ := h
  -- cells: ['_law_words_here']; slots {'_law_code': 0, '_law_words_here': 1, '_law_sign': 2}
  refine ⟨_, (pss_one (ps_ret (pe_op op_add_str (pe_dget (hu_of hr) (pv 1) (pe_ix ix_str (pv 0) pe_int (fun _ _ => rfl)) (fun _ _ => rfl)) (pe_join pe_str (pe_callB cr_sortedS (by rfl) (T.free _ (by decide +kernel)) (by decide +kernel) (pa_cons (pe_lc (own := [("_law_sign", 2)]) (g := (gName 2)) (tt := tYes) rfl nd (pi_str (pe_slice sl_str (pv 0) (po_some pe_int) po_none)) (blkOk_by (by kernel_rfl)) (fun _ _ _ _ _ => (pg_name (i := 2) nd rfl (Or.inl rfl))) (fun _ _ _ _ _ => pts_nil) (fun _ _ _ _ _ => (pe_dget (hu_of hr) (pv 1) (pv 2) (fun _ _ => rfl)))) pa_nil)))))), ?_⟩
  cases l with
  | nil => exact absurd rfl hne
  | cons a l =>
    have hsz : (S (a :: l)).length ≤ sizeLine := line_smallE (by rw [S_len]; omega)
    have ha : a ∈ ltr8 := hl8 a List.mem_cons_self
    have h10 : l.length ≤ 9 := by simpa using hl10
    refine ⟨.ref wd, rfl, tx (a :: l), rfl, S (a :: l), 0, a, rfl, rfl, hsz, atI_nat (j := 0) rfl, wd, _, rfl, hw.get ha, ⟨_, rfl⟩, tx (a :: l), rfl, 1, rfl, S (a :: l), rfl, hsz, _, rfl, fun D hD => ?_⟩
    have ecut : cutS (S (a :: l)) (some 1) none = S l := by rw [show (1 : Int) = ((1 : Nat) : Int) from rfl, cut_drop]; rfl
    rw [ecut]
    refine lcSt (l := l) (fun c => some (f c)) (fun c y _ => y = tx [c]) hD (fun _ _ _ _ _ h => h) (line_small (by omega)) (fun c hc H1 e1 R1 R0 k1 k0 => ⟨rfl, tyes' ?_⟩) fun H1 ys e1 hDy f2 => ?_
    · exact ⟨.ref wd, rfl, tx [c], rfl, wd, tx [f c], rfl, (hw.ext e1).get (hl8 c (List.mem_cons_of_mem _ hc)), k1 _ _ _ rfl (Ext.refl _) rfl⟩
    have ey := f2.eq (vv := fun c => tx [c])
    have e0 : l.filterMap (fun c => some (f c)) = l.map f := by rw [← List.filterMap_eq_map]; rfl
    rw [e0] at ey
    have ey2 : ys = ((l.map f).map fun c => S [c]).map V.str := by
      rw [ey]
      generalize l.map f = ls
      rw [List.map_map]; rfl
    rw [ey2] at hDy
    refine ⟨D, (l.map f).map fun c => S [c], rfl, .inl (.inl hDy), by rw [List.length_map, List.length_map]; omega, fun zs p hp hs np => ?_⟩
    obtain ⟨m, rfl, pm, asc⟩ := sorted_sg hp hs
    have e2 := (Ext.refl H1).then (o := .lst (((m.map fun c => [c]).map S).map V.str)) np rfl
    have hml : m.length = l.length := by rw [pm.length_eq, List.length_map]
    have h3 : ("" : Str).length = 0 := rfl
    refine ⟨"", p, _, rfl, rfl, .inl (.inl (.inl upd_same)), by rw [sum_len, flat_sg, h3]; omega, ?_⟩
    rw [join_S, flat_sg]
    refine ⟨S [f a], S m, rfl, rfl, by rw [S_len, S_len]; exact line_smallE (by simp; omega), ?_⟩
    rw [S_add]
    refine q _ (f a :: m) (e1.trans e2) ⟨by simp [hml], fun c hc => ?_, asc⟩
    rcases List.mem_cons.mp hc with h | h
    · exact ⟨a, List.mem_cons_self, h⟩
    · obtain ⟨s, hs, e⟩ := List.mem_map.mp (pm.mem_iff.mp h)
      exact ⟨s, List.mem_cons_of_mem _ hs, e.symm⟩
end
end K58
set_option Elab.async false
set_option linter.all false
set_option maxRecDepth 100000
set_option maxHeartbeats 1000000
/-! The law's tables by hand. -/
namespace K58
open PySem PySem.Spec PyProof.Rows L2
def sc0 : List (List Nat) := [[50, 32, 97, 98, 98, 32, 98, 97, 97], [50, 32, 97, 98, 98, 32, 97, 98, 99, 32, 97, 99, 99, 32, 98, 97, 97, 32, 98, 97, 99, 32, 98, 99, 99, 32, 99, 97, 97, 32, 99, 97, 98, 32, 99, 98, 98], [50, 32, 97, 98, 98, 32, 98, 97, 97, 32, 99, 97, 99, 32, 99, 100, 100, 32, 100, 99, 99], [50, 32, 97, 98, 99, 32, 98, 97, 97, 32, 98, 98, 99], [50, 32, 97, 97, 97]]
theorem sc0_eq : [V.str "2 abb baa", V.str "2 abb abc acc baa bac bcc caa cab cbb", V.str "2 abb baa cac cdd dcc", V.str "2 abc baa bbc", V.str "2 aaa"] = sc0.map tx := by kernel_rfl
def sc1 : List (List Nat) := [[51, 32, 97, 98, 98, 98, 32, 98, 97, 97, 97], [51, 32, 97, 98, 98, 98, 32, 98, 97, 97, 97, 32, 99, 97, 99, 99, 32, 99, 100, 100, 100, 32, 100, 99, 99, 99], [50, 32, 97, 98, 98, 32, 98, 99, 99, 32, 99, 97, 97], [50, 32, 97, 97, 98], [50, 32, 97, 97, 98, 32, 98, 98, 98]]
theorem sc1_eq : [V.str "3 abbb baaa", V.str "3 abbb baaa cacc cddd dccc", V.str "2 abb bcc caa", V.str "2 aab", V.str "2 aab bbb"] = sc1.map tx := by kernel_rfl
def sc2 : List (List Nat) := [[50, 32, 97, 97, 97, 32, 97, 97, 98, 32, 98, 99, 100, 32, 98, 97, 97], [50, 32, 97, 98, 98, 32, 98, 97, 97, 32, 99, 98, 98, 32, 99, 99, 97, 32, 99, 99, 99], [51, 32, 97, 97, 98, 98, 32, 98, 97, 97, 97]]
theorem sc2_eq : [V.str "2 aaa aab bcd baa", V.str "2 abb baa cbb cca ccc", V.str "3 aabb baaa"] = sc2.map tx := by kernel_rfl
def sc3 : List (List Nat) := [[50, 32, 97, 98, 98, 32, 98, 99, 99, 32, 99, 97, 97, 32, 97, 97, 99], [50, 32, 97, 98, 98, 32, 98, 97, 97, 32, 99, 100, 100, 32, 100, 99, 99]]
theorem sc3_eq : [V.str "2 abb bcc caa aac", V.str "2 abb baa cdd dcc"] = sc3.map tx := by kernel_rfl
def sc4 : List (List Nat) := [[50, 32, 97, 97, 98, 32, 98, 97, 97, 32, 99, 97, 99, 32, 99, 99, 98], [50, 32, 97, 98, 98, 32, 98, 97, 97, 32, 97, 99, 99, 32, 99, 97, 97], [51, 32, 97, 98, 98, 99, 32, 98, 97, 97, 97, 32, 99, 97, 97, 98], [50, 32, 97, 99, 99, 32, 99, 97, 100, 32, 100, 99, 99, 32, 97, 98, 98, 32, 98, 97, 97]]
theorem sc4_eq : [V.str "2 aab baa cac ccb", V.str "2 abb baa acc caa", V.str "3 abbc baaa caab", V.str "2 acc cad dcc abb baa"] = sc4.map tx := by kernel_rfl
def sc5 : List (List Nat) := [[50, 32, 97, 98, 100, 32, 98, 97, 97, 32, 100, 99, 99, 32, 99, 100, 100], [50, 32, 97, 98, 99, 32, 98, 97, 99, 32, 99, 100, 100, 32, 100, 99, 99], [50, 32, 97, 98, 98, 32, 98, 99, 99, 32, 99, 100, 100, 32, 100, 97, 98], [50, 32, 97, 98, 98, 32, 98, 99, 99, 32, 99, 100, 100, 32, 100, 97, 97]]
theorem sc5_eq : [V.str "2 abd baa dcc cdd", V.str "2 abc bac cdd dcc", V.str "2 abb bcc cdd dab", V.str "2 abb bcc cdd daa"] = sc5.map tx := by kernel_rfl
def scenes : List (List Nat) := sc0 ++ sc1 ++ sc2 ++ sc3 ++ sc4 ++ sc5
def scOk (z : List Nat) : Bool := match Txt.split (S z) " " with
  | [] => false
  | h :: cs => ((decide (PySem.intText? h = some 2) && cs.all fun c => c.cps.toList.length == 3) || (decide (PySem.intText? h = some 3) && cs.all fun c => c.cps.toList.length == 4)) && !cs.isEmpty && decide (cs.length ≤ 9) && decide (h.length ≤ 640) && cs.all fun c => c.cps.toList.all fun x => decide (x ∈ [97, 98, 99, 100])
theorem scenes_ok : (scenes.all scOk) = true := by decide +kernel
section
variable {P : Program} {w : World} {K : PySem.W.Frag} {mg : Str → Option Value} {base : Heap}
theorem sc_L_scenes : FnScope ["_law_cap", "_law_some", "_law_more"] ["_law_cap"] (defScope sL_scenes) := ⟨rfl, rfl, rfl, by decide +kernel, rfl, by decide +kernel, by decide +kernel⟩
def sp__law_scenes : Sp := fun vs H Q _ => vs = [.int 4] ∧ ∀ H' q, Ext H H' → H' q = some (.lst (scenes.map tx)) → Q (.ref q) H'
theorem h__law_scenes (T : Top K mg) : Has P w K mg base "_law_scenes" 1 ["_law_cap"] sp__law_scenes := by
  have nd := sc_L_scenes.nd
  refine has_of T dL_scenes (by simp [fn, fn0, fn1, fn2, fn3]) rfl (by decide +kernel) rfl sc_L_scenes (fun vs H Q E ⟨e, _⟩ => by rw [e]; rfl) (fun _ _ _ _ _ _ us hl => match us, hl with | [_], _ => rfl) (fun cdv A outer s H vs Q E hr h => ?_)
  obtain ⟨rfl, q⟩ := h
  -- cells: []; slots {'_law_cap': 0, '_law_some': 1, '_law_more': 2}
  refine ⟨_, (pss_cons (ps_set (i := 1) nd rfl (Or.inl rfl) (pe_lst (pa_cons pe_str (pa_cons pe_str (pa_cons pe_str (pa_cons pe_str (pa_cons pe_str pa_nil)))))))
      (pss_cons (ps_set (i := 1) nd rfl (Or.inl rfl) (pe_op op_cat (pv 1) (pe_lst (pa_cons pe_str (pa_cons pe_str (pa_cons pe_str (pa_cons pe_str (pa_cons pe_str pa_nil))))))))
      (pss_cons (ps_set (i := 1) nd rfl (Or.inl rfl) (pe_op op_cat (pv 1) (pe_lst (pa_cons pe_str (pa_cons pe_str (pa_cons pe_str pa_nil))))))
      (pss_cons (ps_set (i := 1) nd rfl (Or.inl rfl) (pe_op op_cat (pv 1) (pe_lst (pa_cons pe_str (pa_cons pe_str pa_nil)))))
      (pss_cons (ps_set (i := 1) nd rfl (Or.inl rfl) (pe_op op_cat (pv 1) (pe_lst (pa_cons pe_str (pa_cons pe_str (pa_cons pe_str (pa_cons pe_str pa_nil)))))))
      (pss_cons (ps_set (i := 1) nd rfl (Or.inl rfl) (pe_op op_cat (pv 1) (pe_lst (pa_cons pe_str (pa_cons pe_str (pa_cons pe_str (pa_cons pe_str pa_nil)))))))
      (pss_cons (ps_if (pt_cmpR op_lt (pv 0) pe_int (nomark _)) (pss_one (ps_ret (pv 1))) pss_nil)
      (pss_cons ps_never
      (pss_cons ps_never
      (pss_cons ps_never
      (pss_cons ps_never
      (pss_cons ps_never
      (pss_one ps_never))))))))))))), ?_⟩
  refine ⟨by show 5 ≤ sizeLine; decide, fun p0 n0 => ?_⟩
  rw [sc0_eq]
  have x0 := (Ext.refl H).then (o := .lst (sc0.map tx)) n0 rfl
  have g0 : (upd H p0 (.lst (sc0.map tx))) p0 = some (.lst (sc0.map tx)) := upd_same
  generalize (upd H p0 (.lst (sc0.map tx))) = H0 at x0 g0 ⊢
  refine ⟨.ref p0, rfl, by show 5 ≤ sizeLine; decide, fun b1 nb1 => ?_⟩
  rw [sc1_eq]
  have y1 := (Ext.refl H0).then (o := .lst (sc1.map tx)) nb1 rfl
  have h1 : (upd H0 b1 (.lst (sc1.map tx))) b1 = some (.lst (sc1.map tx)) := upd_same
  have k1 := y1.same _ _ g0
  generalize (upd H0 b1 (.lst (sc1.map tx))) = G1 at y1 h1 k1 ⊢
  refine ⟨p0, b1, _, _, rfl, rfl, k1, h1, line_smallE (by decide), fun p1 n1 => ?_⟩
  have x1 := x0.trans (y1.then (o := .lst (sc0.map tx ++ sc1.map tx)) n1 rfl)
  have g1 : (upd G1 p1 (.lst (sc0.map tx ++ sc1.map tx))) p1 = some (.lst ((sc0 ++ sc1).map tx)) := by rw [upd_same, ← List.map_append]
  generalize (upd G1 p1 (.lst (sc0.map tx ++ sc1.map tx))) = H1 at x1 g1 ⊢
  refine ⟨.ref p1, rfl, by show 3 ≤ sizeLine; decide, fun b2 nb2 => ?_⟩
  rw [sc2_eq]
  have y2 := (Ext.refl H1).then (o := .lst (sc2.map tx)) nb2 rfl
  have h2 : (upd H1 b2 (.lst (sc2.map tx))) b2 = some (.lst (sc2.map tx)) := upd_same
  have k2 := y2.same _ _ g1
  generalize (upd H1 b2 (.lst (sc2.map tx))) = G2 at y2 h2 k2 ⊢
  refine ⟨p1, b2, _, _, rfl, rfl, k2, h2, line_smallE (by decide), fun p2 n2 => ?_⟩
  have x2 := x1.trans (y2.then (o := .lst ((sc0 ++ sc1).map tx ++ sc2.map tx)) n2 rfl)
  have g2 : (upd G2 p2 (.lst ((sc0 ++ sc1).map tx ++ sc2.map tx))) p2 = some (.lst (((sc0 ++ sc1) ++ sc2).map tx)) := by rw [upd_same, ← List.map_append]
  generalize (upd G2 p2 (.lst ((sc0 ++ sc1).map tx ++ sc2.map tx))) = H2 at x2 g2 ⊢
  refine ⟨.ref p2, rfl, by show 2 ≤ sizeLine; decide, fun b3 nb3 => ?_⟩
  rw [sc3_eq]
  have y3 := (Ext.refl H2).then (o := .lst (sc3.map tx)) nb3 rfl
  have h3 : (upd H2 b3 (.lst (sc3.map tx))) b3 = some (.lst (sc3.map tx)) := upd_same
  have k3 := y3.same _ _ g2
  generalize (upd H2 b3 (.lst (sc3.map tx))) = G3 at y3 h3 k3 ⊢
  refine ⟨p2, b3, _, _, rfl, rfl, k3, h3, line_smallE (by decide), fun p3 n3 => ?_⟩
  have x3 := x2.trans (y3.then (o := .lst (((sc0 ++ sc1) ++ sc2).map tx ++ sc3.map tx)) n3 rfl)
  have g3 : (upd G3 p3 (.lst (((sc0 ++ sc1) ++ sc2).map tx ++ sc3.map tx))) p3 = some (.lst ((((sc0 ++ sc1) ++ sc2) ++ sc3).map tx)) := by rw [upd_same, ← List.map_append]
  generalize (upd G3 p3 (.lst (((sc0 ++ sc1) ++ sc2).map tx ++ sc3.map tx))) = H3 at x3 g3 ⊢
  refine ⟨.ref p3, rfl, by show 4 ≤ sizeLine; decide, fun b4 nb4 => ?_⟩
  rw [sc4_eq]
  have y4 := (Ext.refl H3).then (o := .lst (sc4.map tx)) nb4 rfl
  have h4 : (upd H3 b4 (.lst (sc4.map tx))) b4 = some (.lst (sc4.map tx)) := upd_same
  have k4 := y4.same _ _ g3
  generalize (upd H3 b4 (.lst (sc4.map tx))) = G4 at y4 h4 k4 ⊢
  refine ⟨p3, b4, _, _, rfl, rfl, k4, h4, line_smallE (by decide), fun p4 n4 => ?_⟩
  have x4 := x3.trans (y4.then (o := .lst ((((sc0 ++ sc1) ++ sc2) ++ sc3).map tx ++ sc4.map tx)) n4 rfl)
  have g4 : (upd G4 p4 (.lst ((((sc0 ++ sc1) ++ sc2) ++ sc3).map tx ++ sc4.map tx))) p4 = some (.lst (((((sc0 ++ sc1) ++ sc2) ++ sc3) ++ sc4).map tx)) := by rw [upd_same, ← List.map_append]
  generalize (upd G4 p4 (.lst ((((sc0 ++ sc1) ++ sc2) ++ sc3).map tx ++ sc4.map tx))) = H4 at x4 g4 ⊢
  refine ⟨.ref p4, rfl, by show 4 ≤ sizeLine; decide, fun b5 nb5 => ?_⟩
  rw [sc5_eq]
  have y5 := (Ext.refl H4).then (o := .lst (sc5.map tx)) nb5 rfl
  have h5 : (upd H4 b5 (.lst (sc5.map tx))) b5 = some (.lst (sc5.map tx)) := upd_same
  have k5 := y5.same _ _ g4
  generalize (upd H4 b5 (.lst (sc5.map tx))) = G5 at y5 h5 k5 ⊢
  refine ⟨p4, b5, _, _, rfl, rfl, k5, h5, line_smallE (by decide), fun p5 n5 => ?_⟩
  have x5 := x4.trans (y5.then (o := .lst (((((sc0 ++ sc1) ++ sc2) ++ sc3) ++ sc4).map tx ++ sc5.map tx)) n5 rfl)
  have g5 : (upd G5 p5 (.lst (((((sc0 ++ sc1) ++ sc2) ++ sc3) ++ sc4).map tx ++ sc5.map tx))) p5 = some (.lst ((((((sc0 ++ sc1) ++ sc2) ++ sc3) ++ sc4) ++ sc5).map tx)) := by rw [upd_same, ← List.map_append]
  generalize (upd G5 p5 (.lst (((((sc0 ++ sc1) ++ sc2) ++ sc3) ++ sc4).map tx ++ sc5.map tx))) = H5 at x5 g5 ⊢
  refine ⟨.int 4, rfl, _, _, rfl, rfl, _, rfl, iteT ⟨.ref p5, rfl, q _ p5 x5 g5⟩⟩
end
end K58
set_option Elab.async false
set_option linter.all false
set_option maxRecDepth 100000
set_option maxHeartbeats 1000000
/-! The law's tables of texts. -/
namespace K58
open PySem PySem.Spec PyProof.Rows L2
/-- a table's rows, perhaps too many -/
structure Tb (m : Nat) (rows : List (List Nat)) : Prop where
  mny : m = 2 ∨ m = 3
  ne : rows ≠ []
  len : rows.length ≤ 20
  row : ∀ r ∈ rows, r.length = m + 1 ∧ Low r ∧ (r.drop 1).Pairwise (· ≤ ·)
  asc : AscT rows
  few : (labs rows).length ≤ 4
def abcd : List Nat := [97, 98, 99, 100]
theorem abcd_8 : ∀ c ∈ abcd, c ∈ ltr8 := by decide
theorem tb_of {m : Nat} {f : Nat → Nat} {rs zs : List (List Nat)} (hm : m = 2 ∨ m = 3) (hf : ∀ c ∈ ltr8, f c ∈ letters) (ne : rs ≠ []) (len : rs.length ≤ 20) (hr : ∀ r ∈ rs, ∃ l : List Nat, l.length = m + 1 ∧ (∀ c ∈ l, c ∈ abcd) ∧ RowOk f l r)
    (ha : AscT zs) (hz : ∀ x, x ∈ zs ↔ x ∈ rs) : Tb m zs where
  mny := hm
  ne := fun e => by
    obtain ⟨r, t, rfl⟩ := List.exists_cons_of_ne_nil ne
    have := (hz r).mpr List.mem_cons_self
    rw [e] at this; cases this
  len := Nat.le_trans (nd_len zs rs ha.nodup fun x hx => (hz x).mp hx) len
  row := fun r h => by
    obtain ⟨l, h1, h2, h3⟩ := hr r ((hz r).mp h)
    refine ⟨h3.len.trans h1, fun c hc => ?_, h3.tail⟩
    obtain ⟨s, hs, rfl⟩ := h3.mem c hc
    exact hf s (abcd_8 s (h2 s hs))
  asc := ha
  few := by
    have : (labs zs).length ≤ (abcd.map f).length := nd_len _ _ (Asc.nodup (lotL_asc _)) fun c hc => by
      obtain ⟨r, h1, h2⟩ := List.mem_flatten.mp ((lotL_mem c _).mp hc)
      obtain ⟨l, _, h3, h4⟩ := hr r ((hz r).mp h1)
      obtain ⟨s, hs, rfl⟩ := h4.mem c h2
      exact List.mem_map.mpr ⟨s, h3 s hs, rfl⟩
    exact this
theorem rows_f2 {f : Nat → Nat} {cl : List (List Nat)} {ys : List V} (h : F2 (fun z y => ∃ r, y = tx r ∧ RowOk f z r) cl ys) : ∃ rs : List (List Nat), ys = rs.map tx ∧ rs.length = cl.length ∧ ∀ r ∈ rs, ∃ l ∈ cl, RowOk f l r := by
  induction h with
  | nil => exact ⟨[], rfl, rfl, fun r h => by cases h⟩
  | cons h1 _ ih =>
    obtain ⟨r, rfl, ok⟩ := h1
    obtain ⟨rs, rfl, e, k⟩ := ih
    refine ⟨r :: rs, rfl, by simp [e], fun x hx => ?_⟩
    rcases List.mem_cons.mp hx with e2 | e2
    · rw [e2]; exact ⟨_, List.mem_cons_self, ok⟩
    · obtain ⟨l, h1, h2⟩ := k x e2
      exact ⟨l, List.mem_cons_of_mem _ h1, h2⟩
theorem cut_one (a : V) (l : List V) : cutV (a :: l) (some 1) none = l := by
  unfold cutV
  rw [show (1 : Int) = ((1 : Nat) : Int) from rfl, HT.sIx_nat, HT.sIx_none]
  have : min 1 (a :: l).length = 1 := by simp
  rw [this]
  show (l.take ((a :: l).length - 1)) = l
  exact List.take_of_length_le (by simp)
/-- what a text's table says -/
theorem scene_says {z : List Nat} (hz : z ∈ scenes) : ∃ (h : Str) (cl : List (List Nat)) (m : Nat), Txt.split (S z) " " = h :: cl.map S ∧ PySem.intText? h = some (m : Nat) ∧ (m = 2 ∨ m = 3) ∧ h.length ≤ 640 ∧ cl ≠ [] ∧ cl.length ≤ 9 ∧ ∀ c ∈ cl, c.length = m + 1 ∧ ∀ x ∈ c, x ∈ abcd := by
  have h0 := List.all_eq_true.mp scenes_ok z hz
  unfold scOk at h0
  cases e : Txt.split (S z) " " with
  | nil => rw [e] at h0; cases h0
  | cons h cs =>
    rw [e] at h0
    simp only [Bool.and_eq_true, Bool.or_eq_true, decide_eq_true_eq, Bool.not_eq_true', List.all_eq_true, beq_iff_eq] at h0
    obtain ⟨⟨⟨⟨h1, h2⟩, h3⟩, h4⟩, h5⟩ := h0
    have ecl : cs = (cs.map fun c => c.cps.toList).map S := by
      rw [List.map_map]
      exact ((List.map_congr_left fun x _ => (S_of x).symm).trans (List.map_id cs)).symm
    have hne : (cs.map fun c => c.cps.toList) ≠ [] := fun z => by
      rw [List.map_eq_nil_iff] at z; rw [z] at h2; cases h2
    have hin : ∀ c ∈ cs.map (fun c => c.cps.toList), ∀ x ∈ c, x ∈ abcd := fun c hc x hx => by
      obtain ⟨c0, hc0, rfl⟩ := List.mem_map.mp hc
      exact h5 c0 hc0 x hx
    rcases h1 with ⟨i1, i2⟩ | ⟨i1, i2⟩
    · refine ⟨h, cs.map fun c => c.cps.toList, 2, by rw [← ecl], i1, .inl rfl, h4, hne, by rw [List.length_map]; exact h3, fun c hc => ⟨?_, hin c hc⟩⟩
      obtain ⟨c0, hc0, rfl⟩ := List.mem_map.mp hc
      exact i2 c0 hc0
    · refine ⟨h, cs.map fun c => c.cps.toList, 3, by rw [← ecl], i1, .inr rfl, h4, hne, by rw [List.length_map]; exact h3, fun c hc => ⟨?_, hin c hc⟩⟩
      obtain ⟨c0, hc0, rfl⟩ := List.mem_map.mp hc
      exact i2 c0 hc0
theorem scenes_len : ∀ z ∈ scenes, z.length ≤ 40 := by decide
section
variable {P : Program} {w : World} {K : PySem.W.Frag} {mg : Str → Option Value} {base : Heap}
theorem sc_L_table_of : FnScope ["_law_text", "_law_words_here", "_law_codes", "_law_code"] ["_law_text", "_law_words_here"] (defScope sL_table_of) := ⟨rfl, rfl, rfl, by decide +kernel, rfl, by decide +kernel, by decide +kernel⟩
def sp__law_table_of : Sp := fun vs H Q _ => ∃ (z : List Nat) (wd : Addr) (f : Nat → Nat), vs = [tx z, .ref wd] ∧ z ∈ scenes ∧ Wd H wd f ∧ ∀ H' v m rows, Ext H H' → TabH H' v m rows → Tb m rows → Q v H'
theorem h__law_table_of (T : Top K mg) : Has P w K mg base "_law_table_of" 2 ["_law_text", "_law_words_here"] sp__law_table_of := by
  have nd := sc_L_table_of.nd
  have h__law_row_of := h__law_row_of (P := P) (w := w) (base := base) T
  refine has_of T dL_table_of (by simp [fn, fn0, fn1, fn2, fn3]) rfl (by decide +kernel) rfl sc_L_table_of (fun vs H Q E ⟨z, wd, f, e, _⟩ => by rw [e]; rfl) (fun _ _ _ _ _ _ us hl => match us, hl with | [_, _], _ => rfl) (fun cdv A outer s H vs Q E hr h => ?_)
  obtain ⟨z, wd, f, rfl, hz, hw, q⟩ := h
  -- cells: ['_law_words_here']; slots {'_law_text': 0, '_law_words_here': 1, '_law_codes': 2, '_law_code': 3}
  refine ⟨_, (pss_cons (ps_set (i := 2) nd rfl (Or.inl rfl) (pe_split (pv 0) pe_str))
      (pss_one (ps_ret (pe_tup (pa_cons (pe_callTy call_int_str (by rfl) (T.free _ (by decide +kernel)) (by decide +kernel) (pa_cons (pe_ix ix_list (pv 2) pe_int (fun _ _ => rfl)) pa_nil)) (pa_cons (pe_callTy call_tuple_of (by rfl) (T.free _ (by decide +kernel)) (by decide +kernel) (pa_cons (pe_sortSet rfl (by rfl) (T.free _ (by decide +kernel)) (by rfl) (T.free _ (by decide +kernel)) (pe_lc (own := [("_law_code", 3)]) (g := (gName 3)) (tt := tYes) rfl nd (pi_list (pe_slice sl_list (pv 2) (po_some pe_int) po_none)) (blkOk_by (by kernel_rfl)) (fun _ _ _ _ _ => (pg_name (i := 3) nd rfl (Or.inl rfl))) (fun _ _ _ _ _ => pts_nil) (fun _ _ _ _ _ => (pe_has h__law_row_of (hr.mono (by omega)) (by rfl) (pa_cons (pv 3) (pa_cons (pv 1) pa_nil)))))) pa_nil)) pa_nil)))))), ?_⟩
  obtain ⟨h0, cl, m, hs, hi, hm, h640, hne, h9, hcl⟩ := scene_says hz
  refine ⟨tx z, rfl, ⟨_, rfl⟩, S z, " ", rfl, rfl, by decide, line_smallE (by rw [S_len]; have := scenes_len z hz; omega), fun p np => ?_⟩
  have e1 : Ext H (upd H p (.lst ((Txt.split (S z) " ").map V.str))) := (Ext.refl H).then np rfl
  have hp1 : (upd H p (.lst ((Txt.split (S z) " ").map V.str))) p = some (.lst (.str h0 :: cl.map tx)) := by rw [upd_same, hs, List.map_cons, map_txV]
  generalize (upd H p (.lst ((Txt.split (S z) " ").map V.str))) = H1 at e1 hp1 ⊢
  refine ⟨.ref p, rfl, p, _, 0, .str h0, rfl, rfl, .inl (.inl hp1), atI_nat (j := 0) rfl, h0, _, rfl, hi, h640, .ref p, rfl, 1, rfl, p, _, rfl, .inl (.inl hp1), fun p1 np1 => ?_⟩
  have e2 := (Ext.refl H1).then (o := .lst (cutV (.str h0 :: cl.map tx) (some 1) none)) np1 rfl
  have hq2 : (upd H1 p1 (.lst (cutV (.str h0 :: cl.map tx) (some 1) none))) p1 = some (.lst (cl.map tx)) := by rw [upd_same, cut_one]
  generalize (upd H1 p1 (.lst (cutV (.str h0 :: cl.map tx) (some 1) none))) = H2 at e2 hq2 ⊢
  have e12 := e1.trans e2
  refine ⟨p1, rfl, ⟨_, .inl (.inl hq2)⟩, fun D hD => lcLi cl tx (fun c => some c) (fun z y _ => ∃ r, y = tx r ∧ RowOk f z r) (.inl (.inl hq2)) hD (fun _ _ _ _ _ h => h) (line_small (by omega)) (fun c hc H3 e3 R1 R0 k1 k0 => ⟨rfl, tyes' ?_⟩) fun H3 ys e3 hDy f3 => ?_⟩
  · obtain ⟨c1, c2⟩ := hcl c hc
    refine ⟨tx c, rfl, .ref wd, rfl, c, wd, f, rfl, hw.ext (e12.trans e3), fun x hx => abcd_8 x (c2 x hx), fun z => ?_, by omega, fun H4 r e4 ok => k1 c _ _ rfl e4 ⟨r, rfl, ok⟩⟩
    rw [z] at c1; simp at c1
  have e0 : cl.filterMap (fun c => some c) = cl := by simp
  rw [e0] at f3
  obtain ⟨rs, rfl, hrl, hrs⟩ := rows_f2 f3
  refine ⟨rs.map S, by rw [List.length_map]; omega, .inr (.inl ⟨D, rfl, .inl (.inl (by rw [map_txV]; exact hDy))⟩), fun ys q4 H4 hs4 hm4 e4 nq4 hq4 => ?_⟩
  obtain ⟨zs, rfl, hza, hzm⟩ := ys_sorted hs4 hm4
  rw [map_tx] at hq4
  refine ⟨q4, _, rfl, .inl ⟨.inl (.inl hq4), fun rt nrt => ⟨by show 2 ≤ sizeLine; decide, fun t nt => ?_⟩⟩⟩
  have e5 := (Ext.refl H4).then (o := .tup (zs.map tx)) nrt rfl
  have hrt : (upd H4 rt (.tup (zs.map tx))) rt = some (.tup (zs.map tx)) := upd_same
  generalize (upd H4 rt (.tup (zs.map tx))) = H5 at e5 hrt nt ⊢
  have e6 := (Ext.refl H5).then (o := .tup [.int ((m : Nat) : Int), .ref rt]) nt rfl
  refine q _ _ m zs (e12.trans (e3.trans (e4.trans (e5.trans e6)))) ⟨t, rt, rfl, upd_same, e6.same _ _ hrt⟩ (tb_of hm hw.2 (fun z => ?_) (by omega) (fun r hr => ?_) hza hzm)
  · rw [z] at hrl
    exact hne (List.eq_nil_of_length_eq_zero hrl.symm)
  · obtain ⟨l, hl, ok⟩ := hrs r hr
    exact ⟨l, (hcl l hl).1, (hcl l hl).2, ok⟩
end
end K58
set_option Elab.async false
set_option linter.all false
set_option maxRecDepth 100000
set_option maxHeartbeats 1000000
/-! The law's tables near one. -/
namespace K58
open PySem PySem.Spec PyProof.Rows L2
theorem TabH.fx {H H' : Hp} {d c : Addr} (f : Fd H d c) (x : FX d H H') {v : V} {m : Nat} {rows : List (List Nat)} (h : TabH H v m rows) : TabH H' v m rows := by
  obtain ⟨t, rt, h1, h2, h3⟩ := h
  exact ⟨t, rt, h1, f.tup x h2, f.tup x h3⟩
theorem labs_sub {rows zs : List (List Nat)} (h : ∀ r ∈ zs, ∀ c ∈ r, c ∈ labs rows) : (labs zs).length ≤ (labs rows).length := asc_len (lotL_asc _) fun c hc => by
  obtain ⟨r, h1, h2⟩ := List.mem_flatten.mp ((lotL_mem c _).mp hc)
  exact h r h1 c h2
theorem in_labs {rows : List (List Nat)} {r : List Nat} (h : r ∈ rows) : ∀ c ∈ r, c ∈ labs rows := fun c hc => (lotL_mem c _).mpr (List.mem_flatten.mpr ⟨r, h, hc⟩)
theorem Tb.sub {m : Nat} {rows zs : List (List Nat)} (T : Tb m rows) (s : zs.Sublist rows) (ne : zs ≠ []) : Tb m zs where
  mny := T.mny
  ne := ne
  len := Nat.le_trans s.length_le T.len
  row := fun r h => T.row r (s.mem h)
  asc := List.Pairwise.sublist s T.asc
  few := Nat.le_trans (labs_sub fun r h => in_labs (s.mem h)) T.few
theorem Tb.low {m : Nat} {rows : List (List Nat)} (T : Tb m rows) : ∀ c ∈ labs rows, c ∈ letters := fun c hc => by
  obtain ⟨r, h1, h2⟩ := List.mem_flatten.mp ((lotL_mem c _).mp hc)
  exact (T.row r h1).2.1 c h2
theorem Tb.more {m : Nat} {rows zs : List (List Nat)} {r : List Nat} (T : Tb m rows) (l6 : rows.length ≤ 6) (hr : ∀ c ∈ r, c ∈ labs rows) (hl : r.length = m + 1) (ht : (r.drop 1).Pairwise (· ≤ ·)) (ha : AscT zs) (hz : ∀ x, x ∈ zs ↔ x ∈ rows ++ [r]) : Tb m zs where
  mny := T.mny
  ne := fun e => by
    have := (hz r).mpr (by simp)
    rw [e] at this; cases this
  len := by
    have := nd_len zs (rows ++ [r]) ha.nodup fun x hx => (hz x).mp hx
    simp at this
    omega
  row := fun x h => by
    rcases List.mem_append.mp ((hz x).mp h) with h | h
    · exact T.row x h
    · rw [List.mem_singleton.mp h]; exact ⟨hl, fun c hc => T.low c (hr c hc), ht⟩
  asc := ha
  few := Nat.le_trans (labs_sub fun x h => by
    rcases List.mem_append.mp ((hz x).mp h) with h | h
    · exact in_labs h
    · rw [List.mem_singleton.mp h]; exact hr) T.few
theorem Tb.bag {m : Nat} {rows : List (List Nat)} (T : Tb m rows) : labs rows ≠ [] := fun e => by
  obtain ⟨r, t, rfl⟩ := List.exists_cons_of_ne_nil T.ne
  have h1 := (T.row r List.mem_cons_self).1
  cases r with
  | nil => simp at h1
  | cons a r =>
    have := in_labs (rows := (a :: r) :: t) List.mem_cons_self a List.mem_cons_self
    rw [e] at this; cases this
theorem Tb.flat {m : Nat} {rows : List (List Nat)} (T : Tb m rows) (h : rows.length ≤ 6) : rows.flatten.length ≤ 24 := by
  have := flat_len (n := 4) rows fun r hr => by
    have := (T.row r hr).1
    have := T.mny
    omega
  omega
/-- a comprehension that draws -/
theorem lcRx {n : Nat} {d c : Addr} (Pd : V → Prop) {g : TG} {te : TE} {vs : List Nat} {σ : L2.St} {H1 : Hp} {D : Addr} {Qd : Hp → Prop} (hD : H1 D = none) (f1 : Fd H1 d c) (hlen : n < sizeLine)
    (hs : ∀ i, i < n → ∀ H, FX d H1 H → Fd H d c → ∀ (R1 : V → Hp → Prop) (R0 : Hp → Prop), (∀ y H4, FX d H H4 → Fd H4 d c → Pd y → R1 y H4) → g (.int ((0 : Int) + ((i : Nat) : Int))) (wipe σ vs) H fun σ2 H2 => wipe σ2 vs = wipe σ vs ∧ tYes σ2 H2 fun b H3 => if b = true then te σ2 H3 R1 else R0 H3)
    (hd : ∀ H ys, FX d H1 H → Fd H d c → H D = some (.lst ys) → ys.length = n → (∀ y ∈ ys, Pd y) → Qd H) :
    ∃ W : Nat → Nat → Hp → Prop, (∃ m, W 0 m (upd H1 D (.lst []))) ∧ ∀ i m H, W i m H →
      ((Itr 0 n).stop i H ∧ Qd H) ∨ ((Itr 0 n).go i H ∧ ∃ Nx : Hp → Prop, (∀ H', Nx H' → ∃ m', m' < m ∧ W (i + 1) m' H') ∧ ∀ x H', (Itr 0 n).yld i H x H' → g x (wipe σ vs) H' fun σ2 H2 => wipe σ2 vs = wipe σ vs ∧ tYes σ2 H2 fun b H3 =>
        if b = true then te σ2 H3 fun y H4 => ∃ acc, H4 D = some (.lst acc) ∧ acc.length < sizeLine ∧ Nx (upd H4 D (.lst (acc ++ [y]))) else Nx H3) := by
  obtain ⟨hDd, hDc⟩ := f1.free hD
  refine lc_it (walk_range (lo := 0) (n := n)) (fun i H => FX d H1 H ∧ Fd H d c ∧ ∃ ys, H D = some (.lst ys) ∧ ys.length = i ∧ ∀ y ∈ ys, Pd y) ⟨(FX.refl d H1).new' hD rfl, f1.upd hDd hDc, [], upd_same, rfl, fun y h => by cases h⟩ (fun _ _ _ _ => trivial) (fun i x H H' hi p y => ?_) (fun H ⟨x, f, ys, h1, h2, h3⟩ => hd H ys x f h1 h2 h3)
  obtain ⟨x, f, ys, h1, h2, h3⟩ := p
  obtain ⟨rfl, rfl⟩ := y
  refine hs i hi _ x f _ _ fun y H4 x4 f4 py => ⟨ys, x4.keep _ _ hDd h1, by omega, (x.trans x4).new' hD rfl, f4.upd hDd hDc, ys ++ [y], upd_same, by simp [h2], fun z hz => ?_⟩
  rcases List.mem_append.mp hz with h | h
  · exact h3 z h
  · rw [List.mem_singleton.mp h]; exact py
theorem cutV_take (xs : List V) (k : Nat) : cutV xs none (some (k : Int)) = xs.take k := by
  unfold cutV
  rw [HT.sIx_none, HT.sIx_nat, List.drop_zero, Nat.sub_zero]
  rcases Nat.le_total k xs.length with h | h
  · rw [Nat.min_eq_left h]
  · rw [Nat.min_eq_right h, List.take_of_length_le (Nat.le_refl _), List.take_of_length_le h]
theorem cutV_drop (xs : List V) (k : Nat) : cutV xs (some (k : Int)) none = xs.drop k := by
  unfold cutV
  rw [HT.sIx_none, HT.sIx_nat]
  rcases Nat.le_total k xs.length with h | h
  · rw [Nat.min_eq_left h, List.take_of_length_le (by rw [List.length_drop]; omega)]
  · rw [Nat.min_eq_right h, List.drop_of_length_le (Nat.le_refl _), List.drop_of_length_le h]; simp
theorem cut_rows (rows : List (List Nat)) (k : Nat) : (rows.take k ++ rows.drop (k + 1)).Sublist rows := by
  have e := List.take_append_drop k rows
  have h : (rows.take k ++ rows.drop (k + 1)).Sublist (rows.take k ++ rows.drop k) := by
    refine (List.Sublist.refl _).append ?_
    have : rows.drop (k + 1) = (rows.drop k).drop 1 := by rw [List.drop_drop]
    rw [this]; exact List.drop_sublist _ _
  rw [e] at h; exact h
theorem sg_list {bag : List Nat} : ∀ {ys : List V}, (∀ y ∈ ys, ∃ c, y = tx [c] ∧ c ∈ bag) → ∃ cs : List Nat, ys = (cs.map fun c => S [c]).map V.str ∧ ∀ c ∈ cs, c ∈ bag
  | [], _ => ⟨[], rfl, fun c h => by cases h⟩
  | y :: ys, h => by
    obtain ⟨cs, rfl, h2⟩ := sg_list fun z hz => h z (List.mem_cons_of_mem _ hz)
    obtain ⟨c, rfl, hc⟩ := h y List.mem_cons_self
    refine ⟨c :: cs, rfl, fun x hx => ?_⟩
    rcases List.mem_cons.mp hx with e | e
    · rw [e]; exact hc
    · exact h2 x e
section
variable {P : Program} {w : World} {K : PySem.W.Frag} {mg : Str → Option Value} {base : Heap}
theorem sc_L_near : FnScope ["_law_feed_here", "_law_tab", "_law_many", "_law_rows", "_law_bag", "_law_n", "_law_one", "_law_turn"] ["_law_feed_here", "_law_tab"] (defScope sL_near) := ⟨rfl, rfl, rfl, by decide +kernel, rfl, by decide +kernel, by decide +kernel⟩
def sp__law_near : Sp := fun vs H Q _ => ∃ (d kc : Addr) (v : V) (m : Nat) (rows : List (List Nat)), vs = [.ref d, v] ∧ Fd H d kc ∧ TabH H v m rows ∧ Tb m rows ∧ rows.length ≤ 6 ∧ ∀ H' v' zs, FX d H H' → Fd H' d kc → TabH H' v' m zs → Tb m zs → Q v' H'
theorem h__law_near (T : Top K mg) : Has P w K mg base "_law_near" 3 ["_law_feed_here", "_law_tab"] sp__law_near := by
  have nd := sc_L_near.nd
  have h__law_labels := h__law_labels (P := P) (w := w) (base := base) T
  have h__law_draw := h__law_draw (P := P) (w := w) (base := base) T
  have h__law_any := h__law_any (P := P) (w := w) (base := base) T
  refine has_of T dL_near (by simp [fn, fn0, fn1, fn2, fn3]) rfl (by decide +kernel) rfl sc_L_near (fun vs H Q E ⟨d, kc, v, m, rows, e, _⟩ => by rw [e]; rfl) (fun _ _ _ _ _ _ us hl => match us, hl with | [_, _], _ => rfl) (fun cdv A outer s H vs Q E hr h => ?_)
  obtain ⟨d, kc, v, m, rows, rfl, f0, tb, Tb0, l6, q⟩ := h
  -- cells: ['_law_bag', '_law_feed_here']; slots {'_law_feed_here': 0, '_law_tab': 1, '_law_many': 2, '_law_rows': 3, '_law_bag': 4, '_law_n': 5, '_law_one': 6, '_law_turn': 7}
  refine ⟨_, (pss_cons (ps_asg (pv 1) (pg_tup (by rfl) (pgs_cons (pg_name (i := 2) nd rfl (Or.inl rfl)) (pgs_cons (pg_name (i := 3) nd rfl (Or.inl rfl)) pgs_nil))))
      (pss_cons (ps_set (i := 4) nd rfl (Or.inr rfl) (pe_has h__law_labels (hr.mono (by omega)) (by rfl) (pa_cons (pv 3) pa_nil)))
      (pss_cons (ps_if (PW.pt (pw_and (pt_cmpR op_eq (pe_has h__law_draw (hr.mono (by omega)) (by rfl) (pa_cons (pv 0) (pa_cons pe_int pa_nil))) pe_int (nomark _)) (pw_and1 (pt_cmpR op_gt (pe_callB call_len_seq (by rfl) (T.free _ (by decide +kernel)) (by decide +kernel) (pa_cons (pv 3) pa_nil)) pe_int (nomark _))))) (pss_cons (ps_set (i := 5) nd rfl (Or.inl rfl) (pe_has h__law_draw (hr.mono (by omega)) (by rfl) (pa_cons (pv 0) (pa_cons (pe_callB call_len_seq (by rfl) (T.free _ (by decide +kernel)) (by decide +kernel) (pa_cons (pv 3) pa_nil)) pa_nil))))
        (pss_one (ps_ret (pe_tup (pa_cons (pv 2) (pa_cons (pe_op op_catA (pe_slice sl_tup (pv 3) po_none (po_some (pv 5))) (pe_slice sl_tup (pv 3) (po_some (pe_op op_add (pv 5) pe_int)) po_none)) pa_nil)))))) pss_nil)
      (pss_cons (ps_set (i := 6) nd rfl (Or.inl rfl) (pe_join pe_str (pe_callB cr_sortedS (by rfl) (T.free _ (by decide +kernel)) (by decide +kernel) (pa_cons (pe_lc (own := [("_law_turn", 7)]) (g := (gName 7)) (tt := tYes) rfl nd (pi_range1 (by rfl) (T.free _ (by decide +kernel)) (pa_cons (pv 2) pa_nil)) (blkOk_by (by kernel_rfl)) (fun _ _ _ _ _ => (pg_name (i := 7) nd rfl (Or.inl rfl))) (fun _ _ _ _ _ => pts_nil) (fun _ _ _ _ _ => (pe_has h__law_any (hr.mono (by omega)) (by rfl) (pa_cons (pv 0) (pa_cons (pv 4) pa_nil))))) pa_nil))))
      (pss_one (ps_ret (pe_tup (pa_cons (pv 2) (pa_cons (pe_callTy call_tuple_of (by rfl) (T.free _ (by decide +kernel)) (by decide +kernel) (pa_cons (pe_sortSet rfl (by rfl) (T.free _ (by decide +kernel)) (by rfl) (T.free _ (by decide +kernel)) (pe_op op_catA (pv 3) (pe_tup (pa_cons (pe_op op_add_str (pe_has h__law_any (hr.mono (by omega)) (by rfl) (pa_cons (pv 0) (pa_cons (pv 4) pa_nil))) (pv 6)) pa_nil)))) pa_nil)) pa_nil))))))))), ?_⟩
  obtain ⟨t, rt, rfl, ht, hrt⟩ := tb
  have hbag := Tb0.bag
  have hfew := Tb0.few
  have hm3 := Tb0.mny
  refine ⟨.ref t, rfl, t, _, rfl, .inl (.inl ht), rfl, .int m, _, rfl, .ref rt, _, rfl, rfl, ?_⟩
  refine ⟨.ref rt, rfl, rt, rows, rfl, .inr (.inl (.inl hrt)), by have := Tb0.flat l6; omega, fun H1 e1 => ?_⟩
  have f1 := f0.ext e1
  have hrt1 := e1.same _ _ hrt
  refine ⟨.ref d, rfl, d, kc, 2, rfl, by decide, by decide, f1, fun H2 k x2 f2 k0 k1 => ⟨rfl, _, rfl, ite2 (fun hk => have hrt2 := f1.tup x2 hrt1; ⟨.ref rt, rfl, rt, _, rfl, .inr (.inl (.inl hrt2)), _, _, rfl, rfl, _, rfl, ite2 (fun hlen => ?body) fun hlen => ?rest2⟩) fun hk => iteF ?rest1⟩⟩
  case body =>
    have hlen2 : 1 < rows.length := by
      have : (1 : Int) < (((rows.map tx).length : Nat) : Int) := of_decide_eq_true hlen
      rw [List.length_map] at this; omega
    refine ⟨.ref d, rfl, .ref rt, rfl, rt, _, rfl, .inr (.inl (.inl hrt2)), d, kc, _, rfl, by rw [List.length_map]; omega, by rw [List.length_map]; omega, f2, fun H3 k x3 f3 k0 k1 => ?_⟩
    obtain ⟨j, rfl⟩ := Int.eq_ofNat_of_zero_le k0
    rw [List.length_map] at k1
    have hj : j < rows.length := by omega
    have hrt3 := f2.tup x3 hrt2
    have x03 := (FX.of e1).trans (x2.trans x3)
    refine ⟨.int m, rfl, .ref rt, rfl, .int ((j : Nat) : Int), rfl, ((j : Nat) : Int), rfl, rt, _, rfl, .inl (.inl hrt3), ?_, fun p1 np1 => ?_⟩
    · rw [HT.sIx_nat, HT.sIx_none, List.length_map]
      exact fun z => by have := z.2; omega
    rw [cutV_take]
    have e4 := (Ext.refl H3).then (o := .tup ((rows.map tx).take j)) np1 rfl
    have hp4 : (upd H3 p1 (.tup ((rows.map tx).take j))) p1 = some (.tup ((rows.take j).map tx)) := by rw [upd_same, List.map_take]
    have f4 := f3.ext e4
    have hrt4 := e4.same _ _ hrt3
    generalize (upd H3 p1 (.tup ((rows.map tx).take j))) = H4 at e4 hp4 f4 hrt4 ⊢
    refine ⟨.ref rt, rfl, .int ((j : Nat) : Int), rfl, _, 1, rfl, rfl, ((j + 1 : Nat) : Int), rfl, rt, _, rfl, .inl (.inl hrt4), ?_, fun p2 np2 => ?_⟩
    · rw [HT.sIx_nat, HT.sIx_none, List.length_map]
      exact fun z => by have := z.1; omega
    rw [cutV_drop]
    have e5 := (Ext.refl H4).then (o := .tup ((rows.map tx).drop (j + 1))) np2 rfl
    have hp5 : (upd H4 p2 (.tup ((rows.map tx).drop (j + 1)))) p2 = some (.tup ((rows.drop (j + 1)).map tx)) := by rw [upd_same, List.map_drop]
    have f5 := f4.ext e5
    have hp15 := e5.same _ _ hp4
    generalize (upd H4 p2 (.tup ((rows.map tx).drop (j + 1)))) = H5 at e5 hp5 f5 hp15 ⊢
    have zl : (rows.take j ++ rows.drop (j + 1)).length = rows.length - 1 := by
      rw [List.length_append, List.length_take, List.length_drop]; omega
    have zne : rows.take j ++ rows.drop (j + 1) ≠ [] := fun z => by rw [z] at zl; simp at zl; omega
    have Tz := Tb0.sub (cut_rows rows j) zne
    have fin : ∀ (H' : Hp) (a : Addr), Ext H5 H' → H' a = some (.tup ((rows.take j ++ rows.drop (j + 1)).map tx)) → ∀ t2, H' t2 = none → Q (.ref t2) (upd H' t2 (.tup [.int m, .ref a])) := fun H' a e ha t2 nt => by
      have e' := e.then (o := .tup [.int m, .ref a]) nt rfl
      have e'' := (Ext.refl H').then (o := .tup [.int m, .ref a]) nt rfl
      exact q _ _ _ (x03.trans (.of (e4.trans (e5.trans e')))) (f5.ext e') ⟨t2, a, rfl, upd_same, e''.same _ _ ha⟩ Tz
    refine ⟨p1, p2, _, _, rfl, rfl, .inl (.inl hp15), .inl (.inl hp5), line_smallE (by rw [List.length_map, List.length_map, List.length_take, List.length_drop]; omega), fun z => ⟨by show 2 ≤ sizeLine; decide, fin H5 p2 (Ext.refl _) ?_⟩, fun _ z => ⟨by show 2 ≤ sizeLine; decide, fin H5 p1 (Ext.refl _) ?_⟩, fun _ _ p np => ⟨by show 2 ≤ sizeLine; decide, fin _ p ((Ext.refl _).then np rfl) ?_⟩⟩
    · rw [List.map_append, z]; exact hp5
    · rw [List.map_append, z, List.append_nil]; exact hp15
    · rw [upd_same, List.map_append]
  case rest1 | rest2 =>
    have hrt2 := f1.tup x2 hrt1
    have x02 := (FX.of e1).trans x2
    refine ⟨⟨_, rfl⟩, .int m, rfl, ((m : Nat) : Int), rfl, by omega, by omega, fun D hD => lcRx (n := (((m : Nat) : Int)).toNat) (d := d) (c := kc) (fun y => ∃ c, y = tx [c] ∧ c ∈ labs rows) hD f2 (line_small (by omega)) (fun i hi H3 x3 f3 R1 R0 k1 => ⟨rfl, tyes' ?_⟩) fun H3 ys x3 f3 hDy hyl hyp => ?_⟩
    · exact ⟨.ref d, rfl, tx (labs rows), rfl, d, kc, tx (labs rows), rfl, f3, .inl ⟨labs rows, rfl, hbag, by omega, fun H4 c x4 f4 hc => k1 _ _ x4 f4 ⟨c, rfl, hc⟩⟩⟩
    obtain ⟨cs, rfl, hcs⟩ := sg_list hyp
    have hcl : cs.length = m := by
      rw [List.length_map, List.length_map] at hyl
      rw [hyl]; omega
    refine ⟨D, cs.map fun c => S [c], rfl, .inl (.inl hDy), by rw [List.length_map]; omega, fun zs p hp hs np => ?_⟩
    obtain ⟨l, rfl, pl, asc⟩ := sorted_sg hp hs
    have e4 := (Ext.refl H3).then (o := .lst (((l.map fun c => [c]).map S).map V.str)) np rfl
    have hp4 : (upd H3 p (.lst (((l.map fun c => [c]).map S).map V.str))) p = some (.lst (((l.map fun c => [c]).map S).map V.str)) := upd_same
    have f4 := f3.ext e4
    generalize (upd H3 p (.lst (((l.map fun c => [c]).map S).map V.str))) = H4 at e4 hp4 f4 ⊢
    have hll : l.length = m := by rw [pl.length_eq, hcl]
    have h3 : ("" : Str).length = 0 := rfl
    refine ⟨"", p, _, rfl, rfl, .inl (.inl (.inl hp4)), by rw [sum_len, flat_sg, h3]; omega, ?_⟩
    rw [join_S, flat_sg]
    have x04 := x02.trans (x3.trans (.of e4))
    have hrt4 := e4.same _ _ (f2.tup x3 hrt2)
    refine ⟨.int m, rfl, .ref rt, rfl, .ref d, rfl, tx (labs rows), rfl, d, kc, tx (labs rows), rfl, f4, .inl ⟨labs rows, rfl, hbag, by omega, fun H5 c x5 f5 hc => ?_⟩⟩
    have hrt5 := f4.tup x5 hrt4
    refine ⟨tx l, rfl, S [c], S l, rfl, rfl, by rw [S_len, S_len]; exact line_smallE (by simp; omega), ?_⟩
    rw [S_add]
    refine ⟨by show 1 ≤ sizeLine; decide, fun t1 nt1 => ?_⟩
    have e6 := (Ext.refl H5).then (o := .tup [tx ([c] ++ l)]) nt1 rfl
    have ht6 : (upd H5 t1 (.tup [tx ([c] ++ l)])) t1 = some (.tup [tx ([c] ++ l)]) := upd_same
    have hrt6 := e6.same _ _ hrt5
    have f6 := f5.ext e6
    generalize (upd H5 t1 (.tup [tx ([c] ++ l)])) = H6 at e6 ht6 hrt6 f6 ⊢
    refine ⟨rt, t1, _, _, rfl, rfl, .inl (.inl hrt6), .inl (.inl ht6), by rw [List.length_map]; exact line_smallE (by simp; omega), fun z => absurd (List.map_eq_nil_iff.mp z) Tb0.ne, (fun _ z => nomatch z), fun _ _ p6 np6 => ?_⟩
    have e7 := (Ext.refl H6).then (o := .tup (rows.map tx ++ [tx ([c] ++ l)])) np6 rfl
    have hp7 : (upd H6 p6 (.tup (rows.map tx ++ [tx ([c] ++ l)]))) p6 = some (.tup ((rows ++ [[c] ++ l]).map tx)) := by rw [upd_same, List.map_append]; rfl
    have f7 := f6.ext e7
    generalize (upd H6 p6 (.tup (rows.map tx ++ [tx ([c] ++ l)]))) = H7 at e7 hp7 f7 ⊢
    refine ⟨(rows ++ [[c] ++ l]).map S, by rw [List.length_map]; simp; omega, .inr (.inr ⟨p6, rfl, .inl (.inl (by rw [map_txV]; exact hp7))⟩), fun ys q8 H8 hs8 hm8 e8 nq8 hq8 => ?_⟩
    obtain ⟨zs, rfl, hza, hzm⟩ := ys_sorted hs8 hm8
    rw [map_tx] at hq8
    refine ⟨q8, _, rfl, .inl ⟨.inl (.inl hq8), fun rt9 nrt => ⟨by show 2 ≤ sizeLine; decide, fun t9 nt => ?_⟩⟩⟩
    have e9 := (Ext.refl H8).then (o := .tup (zs.map tx)) nrt rfl
    have hrt9 : (upd H8 rt9 (.tup (zs.map tx))) rt9 = some (.tup (zs.map tx)) := upd_same
    generalize (upd H8 rt9 (.tup (zs.map tx))) = H9 at e9 hrt9 nt ⊢
    have e10 := (Ext.refl H9).then (o := .tup [.int ((m : Nat) : Int), .ref rt9]) nt rfl
    have ee := e6.trans (e7.trans (e8.trans (e9.trans e10)))
    refine q _ _ zs (x04.trans (x5.trans (.of ee))) (f5.ext ee) ⟨t9, rt9, rfl, upd_same, e10.same _ _ hrt9⟩ (Tb0.more l6 (r := [c] ++ l) (fun y hy => ?_) (by simp [hll]) asc hza hzm)
    rcases List.mem_append.mp hy with h | h
    · rw [List.mem_singleton.mp h]; exact hc
    · exact hcs y (pl.mem_iff.mp h)
end
end K58
set_option Elab.async false
set_option linter.all false
set_option maxRecDepth 100000
set_option maxHeartbeats 1000000
/-! The law's drawn tables. -/
namespace K58
open PySem PySem.Spec PyProof.Rows L2
theorem take_abcd {k : Nat} (hk : k < 4) : ∀ c ∈ ltr8.take (1 + k), c ∈ abcd := by
  have : ∀ k < 4, ∀ c ∈ ltr8.take (1 + k), c ∈ abcd := by decide
  exact this k hk
section
variable {P : Program} {w : World} {K : PySem.W.Frag} {mg : Str → Option Value} {base : Heap}
theorem sc_L_drawn : FnScope ["_law_feed_here", "_law_words_here", "_law_labels_here", "_law_cap", "_law_many", "_law_letters", "_law_rows", "_law_lap", "_law_one", "_law_code", "_law_turn"] ["_law_feed_here", "_law_words_here", "_law_labels_here", "_law_cap"] (defScope sL_drawn) := ⟨rfl, rfl, rfl, by decide +kernel, rfl, by decide +kernel, by decide +kernel⟩
def sp__law_drawn : Sp := fun vs H Q _ => ∃ (d kc wd : Addr) (f : Nat → Nat), vs = [.ref d, .ref wd, .int 4, .int 6] ∧ Fd H d kc ∧ Wd H wd f ∧ wd ≠ d ∧ ∀ H' v m rows, FX d H H' → Fd H' d kc → TabH H' v m rows → Tb m rows → Q v H'
theorem h__law_drawn (T : Top K mg) : Has P w K mg base "_law_drawn" 3 ["_law_feed_here", "_law_words_here", "_law_labels_here", "_law_cap"] sp__law_drawn := by
  have nd := sc_L_drawn.nd
  have h__law_any := h__law_any (P := P) (w := w) (base := base) T
  have h__law_draw := h__law_draw (P := P) (w := w) (base := base) T
  have h__law_row_of := h__law_row_of (P := P) (w := w) (base := base) T
  refine has_of T dL_drawn (by simp [fn, fn0, fn1, fn2, fn3]) rfl (by decide +kernel) rfl sc_L_drawn (fun vs H Q E ⟨d, kc, wd, f, e, _⟩ => by rw [e]; rfl) (fun _ _ _ _ _ _ us hl => match us, hl with | [_, _, _, _], _ => rfl) (fun cdv A outer s H vs Q E hr h => ?_)
  obtain ⟨d, kc, wd, f, rfl, f0, hw, hwd, q⟩ := h
  -- cells: []; slots {'_law_feed_here': 0, '_law_words_here': 1, '_law_labels_here': 2, '_law_cap': 3, '_law_many': 4, '_law_letters': 5, '_law_rows': 6, '_law_lap': 7, '_law_one': 8, '_law_code': 9, '_law_turn': 10}
  refine ⟨_, (pss_cons (ps_par (i := 4) (j := 5) (by rfl) nd rfl rfl (by decide) rfl rfl (pa_cons (pe_op op_add pe_int (pe_callTy call_int1 (by rfl) (T.free _ (by decide +kernel)) (by decide +kernel) (pa_cons (pe_cmpR op_eq (pe_has h__law_draw (hr.mono (by omega)) (by rfl) (pa_cons (pv 0) (pa_cons pe_int pa_nil))) pe_int (nomark _)) pa_nil))) (pa_cons (pe_slice sl_str pe_str po_none (po_some (pe_op op_add pe_int (pe_has h__law_draw (hr.mono (by omega)) (by rfl) (pa_cons (pv 0) (pa_cons (pv 2) pa_nil)))))) pa_nil)) (by rfl))
      (pss_cons (ps_set (i := 6) nd rfl (Or.inl rfl) (pe_lst pa_nil))
      (pss_cons (ps_for PassesOwn.never rfl (pi_range1 (by rfl) (T.free _ (by decide +kernel)) (pa_cons (pe_op op_add pe_int (pe_has h__law_draw (hr.mono (by omega)) (by rfl) (pa_cons (pv 0) (pa_cons (pv 3) pa_nil)))) pa_nil)) (pg_name (i := 7) nd rfl (Or.inl rfl))
        (pss_cons (ps_set (i := 8) nd rfl (Or.inl rfl) (pe_has h__law_any (hr.mono (by omega)) (by rfl) (pa_cons (pv 0) (pa_cons (pv 5) pa_nil))))
        (pss_cons (ps_set (i := 9) nd rfl (Or.inl rfl) (pe_op op_add_str (pe_has h__law_any (hr.mono (by omega)) (by rfl) (pa_cons (pv 0) (pa_cons (pv 5) pa_nil))) (pv 8)))
        (pss_cons (ps_for PassesOwn.never rfl (pi_range1 (by rfl) (T.free _ (by decide +kernel)) (pa_cons (pe_op op_sub (pv 4) pe_int) pa_nil)) (pg_name (i := 10) nd rfl (Or.inl rfl))
          (pss_one (ps_set (i := 9) nd rfl (Or.inl rfl) (pe_op op_add_str (pv 9) (pe_mono (pe_ifExp (pt_cmpR op_eq (pe_has h__law_draw (hr.mono (by omega)) (by rfl) (pa_cons (pv 0) (pa_cons pe_int pa_nil))) pe_int (nomark _)) (pv 8) (pe_has h__law_any (hr.mono (by omega)) (by rfl) (pa_cons (pv 0) (pa_cons (pv 5) pa_nil)))))))))
        (pss_one (ps_expr (pe_bm PySem.F.plainAttrs_list PySem.F.slot_list_append PySem.F.type_list_append mt_append (pv 6) (pa_cons (pe_has h__law_row_of (hr.mono (by omega)) (by rfl) (pa_cons (pv 9) (pa_cons (pv 1) pa_nil))) pa_nil))))))))
      (pss_one (ps_ret (pe_tup (pa_cons (pv 4) (pa_cons (pe_callTy call_tuple_of (by rfl) (T.free _ (by decide +kernel)) (by decide +kernel) (pa_cons (pe_sortSet rfl (by rfl) (T.free _ (by decide +kernel)) (by rfl) (T.free _ (by decide +kernel)) (pv 6)) pa_nil)) pa_nil)))))))), ?_⟩
  have hl8 : ("abcdefgh" : Str).length ≤ sizeLine := by rw [ltr8_eq]; exact line_smallE (by rw [S_len]; decide)
  refine ⟨.ref d, rfl, d, kc, 3, rfl, by decide, by decide, f0, fun H1 k1 x1 f1 k10 k11 => ⟨rfl, .inr ⟨_, rfl, _, _, rfl, rfl, ?_⟩⟩⟩
  obtain ⟨m, hm, em⟩ : ∃ m : Nat, (m = 2 ∨ m = 3) ∧ (2 : Int) + (if decide (V.int k1 = V.int 0) = true then 1 else 0) = ((m : Nat) : Int) := by
    cases decide (V.int k1 = V.int 0) with
    | true => exact ⟨3, .inr rfl, rfl⟩
    | false => exact ⟨2, .inl rfl, rfl⟩
  refine ⟨.ref d, rfl, .int 4, rfl, d, kc, 4, rfl, by decide, by decide, f1, fun H2 k2 x2 f2 k20 k21 => ⟨1, k2, rfl, rfl, 1 + k2, rfl, "abcdefgh", rfl, hl8, _, _, rfl, ?_⟩⟩
  obtain ⟨j, rfl⟩ := Int.eq_ofNat_of_zero_le k20
  have hj : j < 4 := by omega
  have ecut : cutS ("abcdefgh" : Str) none (some (1 + ((j : Nat) : Int))) = S (ltr8.take (1 + j)) := by
    rw [ltr8_eq, show (1 : Int) + ((j : Nat) : Int) = ((1 + j : Nat) : Int) by omega, cut_take]
  have hab := take_abcd hj
  have hltne : ltr8.take (1 + j) ≠ [] := by
    rw [show 1 + j = j + 1 by omega]; exact fun z => nomatch z
  have hlt8 : (ltr8.take (1 + j)).length < 1000 := by
    rw [List.length_take]
    have : ltr8.length = 8 := rfl
    omega
  generalize hlt : ltr8.take (1 + j) = lt at ecut hab hltne hlt8
  have x02 := x1.trans x2
  have hw2 := hw.fx x02 hwd
  rw [show (fun i j : Int => V.int (i + j)) 2 (if decide (V.int k1 = V.int 0) = true then 1 else 0) = V.int ((m : Nat) : Int) from congrArg V.int em, ecut]
  refine ⟨Nat.zero_le _, fun L nL => ?_⟩
  obtain ⟨hLd, hLc⟩ := f2.free nL
  have hL3 : (upd H2 L (.lst [])) L = some (.lst (([] : List (List Nat)).map tx)) := upd_same
  have x3 : FX d H2 (upd H2 L (.lst [])) := (FX.refl d H2).new' nL rfl
  have f3 : Fd (upd H2 L (.lst [])) d kc := f2.upd hLd hLc
  generalize (upd H2 L (.lst [])) = H3 at hL3 x3 f3 ⊢
  refine ⟨.ref d, rfl, .int 6, rfl, d, kc, 6, rfl, by decide, by decide, f3, fun H4 k4 x4 f4 k40 k41 => ?_⟩
  obtain ⟨n4, rfl⟩ := Int.eq_ofNat_of_zero_le k40
  have hn4 : n4 < 6 := by omega
  have eN : (1 : Int) + ((n4 : Nat) : Int) = ((1 + n4 : Nat) : Int) := by omega
  refine ⟨1, _, rfl, rfl, ((1 + n4 : Nat) : Int), congrArg (fun z : Int => [V.int z]) eN, by omega, by omega, ?_⟩
  refine for_it (walk_range (lo := 0) (n := (((1 + n4 : Nat) : Int)).toNat)) (fun i σ H' => FX d H2 H' ∧ Fd H' d kc ∧ ∃ (rs : List (List Nat)) (y7 y8 y9 y10 : Option V), σ = [some (.ref d), some (.ref wd), some (.int 4), some (.int 6), some (.int ((m : Nat) : Int)), some (tx lt), some (.ref L), y7, y8, y9, y10] ∧ H' L = some (.lst (rs.map tx)) ∧ rs.length = i ∧ ∀ r ∈ rs, ∃ l : List Nat, l.length = m + 1 ∧ (∀ c ∈ l, c ∈ abcd) ∧ RowOk f l r)
    ⟨x3.trans x4, f4, [], _, _, _, _, rfl, x4.keep _ _ hLd hL3, rfl, fun r h => by cases h⟩ (fun _ _ _ _ _ => trivial) (fun i x σ H6 H5 hi p5 y => ?_) fun σ H5 p5 => ?_
  · obtain ⟨x5, f5, rs, y7, y8, y9, y10, rfl, hL5, hrl, hrs⟩ := p5
    obtain ⟨rfl, rfl⟩ := y
    refine ⟨.ref d, rfl, tx lt, rfl, d, kc, tx lt, rfl, f5, .inl ⟨lt, rfl, hltne, hlt8, fun H6 c x6 f6 hc => ?_⟩⟩
    refine ⟨.ref d, rfl, tx lt, rfl, d, kc, tx lt, rfl, f6, .inl ⟨lt, rfl, hltne, hlt8, fun H7 c2 x7 f7 hc2 => ?_⟩⟩
    refine ⟨tx [c], rfl, S [c2], S [c], rfl, rfl, by rw [S_len, S_len]; exact line_smallE (by simp), ?_⟩
    rw [S_add]
    have eM : ((m : Nat) : Int) - 1 = ((m - 1 : Nat) : Int) := by omega
    have x57 := x6.trans x7
    refine ⟨.int ((m : Nat) : Int), rfl, _, 1, rfl, rfl, ((m - 1 : Nat) : Int), congrArg (fun z : Int => [V.int z]) eM, by omega, by omega, ?_⟩
    refine for_it (walk_range (lo := 0) (n := (((m - 1 : Nat) : Int)).toNat)) (fun j σ H' => FX d H5 H' ∧ Fd H' d kc ∧ ∃ (l : List Nat) (y10 : Option V), σ = [some (.ref d), some (.ref wd), some (.int 4), some (.int 6), some (.int ((m : Nat) : Int)), some (tx lt), some (.ref L), some (.int ((0 : Int) + ((i : Nat) : Int))), some (tx [c]), some (tx l), y10] ∧ l.length = 2 + j ∧ ∀ c ∈ l, c ∈ abcd)
      ⟨x57, f7, _, _, rfl, rfl, fun y hy => ?_⟩ (fun _ _ _ _ _ => trivial) (fun j x σ H9 H8 hj p8 y => ?_) fun σ H8 p8 => ?_
    · rcases List.mem_append.mp hy with h | h
      · rw [List.mem_singleton.mp h]; exact hab _ hc2
      · rw [List.mem_singleton.mp h]; exact hab _ hc
    · obtain ⟨x8, f8, l, z10, rfl, hll, hla⟩ := p8
      obtain ⟨rfl, rfl⟩ := y
      have hj2 : j < m - 1 := by omega
      refine ⟨tx l, rfl, fun v H' => ∃ c, v = tx [c] ∧ c ∈ abcd ∧ FX d H8 H' ∧ Fd H' d kc, ⟨.ref d, rfl, d, kc, 2, rfl, by decide, by decide, f8, fun H9 k9 x9 f9 _ _ => ⟨rfl, _, rfl, ite2 (fun h => ⟨tx [c], rfl, c, rfl, hab c hc, x9, f9⟩) fun h => ⟨.ref d, rfl, tx lt, rfl, d, kc, tx lt, rfl, f9, .inl ⟨lt, rfl, hltne, hlt8, fun H10 c3 x10 f10 hc3 => ⟨c3, rfl, hab c3 hc3, x9.trans x10, f10⟩⟩⟩⟩⟩, fun v H9 hv => ?_⟩
      obtain ⟨c3, rfl, hc3, x9, f9⟩ := hv
      refine ⟨S l, S [c3], rfl, rfl, by rw [S_len, S_len]; exact line_smallE (by simp; omega), ?_⟩
      rw [S_add]
      refine ⟨x8.trans x9, f9, _, _, rfl, by simp; omega, fun y hy => ?_⟩
      rcases List.mem_append.mp hy with h | h
      · exact hla y h
      · rw [List.mem_singleton.mp h]; exact hc3
    · obtain ⟨x8, f8, l, z10, rfl, hll, hla⟩ := p8
      have hlm : l.length = m + 1 := by omega
      have x28 := x5.trans x8
      have hL8 := x8.keep _ _ hLd hL5
      have hi6 : i < 6 := by omega
      refine ⟨.ref L, rfl, .inl ⟨rfl, _, .inl (.inl hL8)⟩, tx l, rfl, .ref wd, rfl, l, wd, f, rfl, hw2.fx x28 hwd, fun c hc => abcd_8 c (hla c hc), fun z => ?_, by omega, fun H9 r e9 ok => ?_⟩
      · rw [z] at hlm; simp at hlm
      have hL9 := e9.same _ _ hL8
      have x29 := x28.trans (.of e9)
      have f9 := f8.ext e9
      refine ⟨L, _, _, rfl, rfl, hL9, line_small (by rw [List.length_map]; omega), x29.new' nL rfl, f9.upd hLd hLc, rs ++ [r], _, _, _, _, rfl, by rw [upd_same, List.map_append]; rfl, by simp [hrl], fun y hy => ?_⟩
      rcases List.mem_append.mp hy with h | h
      · exact hrs y h
      · rw [List.mem_singleton.mp h]; exact ⟨l, hlm, hla, ok⟩
  · obtain ⟨x5, f5, rs, y7, y8, y9, y10, rfl, hL5, hrl, hrs⟩ := p5
    have hrl1 : rs.length = 1 + n4 := by omega
    refine ⟨.int ((m : Nat) : Int), rfl, .ref L, rfl, rs.map S, by rw [List.length_map]; omega, .inr (.inl ⟨L, rfl, .inl (.inl (by rw [map_txV]; exact hL5))⟩), fun ys q8 H8 hs8 hm8 e8 nq8 hq8 => ?_⟩
    obtain ⟨zs, rfl, hza, hzm⟩ := ys_sorted hs8 hm8
    rw [map_tx] at hq8
    refine ⟨q8, _, rfl, .inl ⟨.inl (.inl hq8), fun rt9 nrt => ⟨by show 2 ≤ sizeLine; decide, fun t9 nt => ?_⟩⟩⟩
    have e9 := (Ext.refl H8).then (o := .tup (zs.map tx)) nrt rfl
    have hrt9 : (upd H8 rt9 (.tup (zs.map tx))) rt9 = some (.tup (zs.map tx)) := upd_same
    generalize (upd H8 rt9 (.tup (zs.map tx))) = H9 at e9 hrt9 nt ⊢
    have e10 := (Ext.refl H9).then (o := .tup [.int ((m : Nat) : Int), .ref rt9]) nt rfl
    have ee := e8.trans (e9.trans e10)
    refine q _ _ m zs (x02.trans (x5.trans (.of ee))) (f5.ext ee) ⟨t9, rt9, rfl, upd_same, e10.same _ _ hrt9⟩ (tb_of hm hw.2 (fun z => ?_) (by omega) hrs hza hzm)
    rw [z] at hrl1; simp at hrl1; omega
end
end K58
set_option Elab.async false
set_option linter.all false
set_option maxRecDepth 100000
set_option maxHeartbeats 1000000
/-! The law's table. -/
namespace K58
open PySem PySem.Spec PyProof.Rows L2
theorem Tb.rows {m : Nat} {rows : List (List Nat)} (T : Tb m rows) (h : rows.length ≤ 6) : Rows m rows := ⟨T.mny, T.ne, h, T.row, T.asc, T.few⟩
theorem scenes_few : scenes ≠ [] ∧ scenes.length < 1000 := by decide
section
variable {P : Program} {w : World} {K : PySem.W.Frag} {mg : Str → Option Value} {base : Heap}
theorem sc_L_case : FnScope ["_law_feed_here", "_law_labels_here", "_law_cap", "_law_words_here", "_law_way", "_law_tab"] ["_law_feed_here", "_law_labels_here", "_law_cap"] (defScope sL_case) := ⟨rfl, rfl, rfl, by decide +kernel, rfl, by decide +kernel, by decide +kernel⟩
def sp__law_case : Sp := fun vs H Q _ => ∃ (d kc : Addr), vs = [.ref d, .int 4, .int 6] ∧ Fd H d kc ∧ ∀ H' v m rows, FX d H H' → Fd H' d kc → TabH H' v m rows → Tb m rows → Q v H'
theorem h__law_case (T : Top K mg) : Has P w K mg base "_law_case" 4 ["_law_feed_here", "_law_labels_here", "_law_cap"] sp__law_case := by
  have nd := sc_L_case.nd
  have h__law_drawn := h__law_drawn (P := P) (w := w) (base := base) T
  have h__law_words := h__law_words (P := P) (w := w) (base := base) T
  have h__law_draw := h__law_draw (P := P) (w := w) (base := base) T
  have h__law_table_of := h__law_table_of (P := P) (w := w) (base := base) T
  have h__law_any := h__law_any (P := P) (w := w) (base := base) T
  have h__law_near := h__law_near (P := P) (w := w) (base := base) T
  have h__law_scenes := h__law_scenes (P := P) (w := w) (base := base) T
  refine has_of T dL_case (by simp [fn, fn0, fn1, fn2, fn3]) rfl (by decide +kernel) rfl sc_L_case (fun vs H Q E ⟨d, kc, e, _⟩ => by rw [e]; rfl) (fun _ _ _ _ _ _ us hl => match us, hl with | [_, _, _], _ => rfl) (fun cdv A outer s H vs Q E hr h => ?_)
  obtain ⟨d, kc, rfl, f0, q⟩ := h
  -- cells: []; slots {'_law_feed_here': 0, '_law_labels_here': 1, '_law_cap': 2, '_law_words_here': 3, '_law_way': 4, '_law_tab': 5}
  refine ⟨_, (pss_cons (ps_par (i := 3) (j := 4) (by rfl) nd rfl rfl (by decide) rfl rfl (pa_cons (pe_has h__law_words (hr.mono (by omega)) (by rfl) (pa_cons (pv 0) pa_nil)) (pa_cons (pe_has h__law_draw (hr.mono (by omega)) (by rfl) (pa_cons (pv 0) (pa_cons pe_int pa_nil))) pa_nil)) (by rfl))
      (pss_cons (ps_if (pt_cmpR op_lt (pv 4) pe_int (nomark _)) (pss_cons (ps_set (i := 5) nd rfl (Or.inl rfl) (pe_has h__law_table_of (hr.mono (by omega)) (by rfl) (pa_cons (pe_has h__law_any (hr.mono (by omega)) (by rfl) (pa_cons (pv 0) (pa_cons (pe_has h__law_scenes (hr.mono (by omega)) (by rfl) (pa_cons (pv 1) pa_nil)) pa_nil))) (pa_cons (pv 3) pa_nil))))
        (pss_one (ps_ret (pe_ifExp (PW.pt (pw_or (pt_cmpR op_lt (pv 4) pe_int (nomark _)) (pw_or1 (pt_cmpR op_ge (pe_callB call_len_seq (by rfl) (T.free _ (by decide +kernel)) (by decide +kernel) (pa_cons (pe_ix ix_tup (pv 5) pe_int (fun _ _ => rfl)) pa_nil)) (pv 2) (nomark _))))) (pv 5) (pe_has h__law_near (hr.mono (by omega)) (by rfl) (pa_cons (pv 0) (pa_cons (pv 5) pa_nil))))))) pss_nil)
      (pss_one (ps_ret (pe_has h__law_drawn (hr.mono (by omega)) (by rfl) (pa_cons (pv 0) (pa_cons (pv 3) (pa_cons (pv 1) (pa_cons (pv 2) pa_nil))))))))), ?_⟩
  refine ⟨.ref d, rfl, d, kc, rfl, f0, fun H1 wd f x1 f1 hwd hw => ?_⟩
  refine ⟨.ref d, rfl, d, kc, 5, rfl, by decide, by decide, f1, fun H2 k x2 f2 k0 k1 => ⟨_, _, rfl, ?_⟩⟩
  have x02 := x1.trans x2
  have hw2 := hw.fx x2 hwd
  refine ⟨.int k, rfl, _, _, rfl, rfl, _, rfl, ite2 (fun hk => ?_) fun hk => ?_⟩
  · refine ⟨.ref d, rfl, .int 4, rfl, rfl, fun H3 q3 e3 hq3 => ?_⟩
    have f3 := f2.ext e3
    refine ⟨d, kc, .ref q3, rfl, f3, .inr ⟨q3, scenes, rfl, hq3, scenes_few.1, scenes_few.2, fun H4 z x4 f4 hz => ?_⟩⟩
    have x24 : FX d H2 H4 := (FX.of e3).trans x4
    refine ⟨.ref wd, rfl, z, wd, f, rfl, hz, hw2.fx x24 hwd, fun H5 v m rows e5 tb Tb0 => ?_⟩
    have f5 := f4.ext e5
    have x05 := x02.trans (x24.trans (.of e5))
    obtain ⟨t, rt, rfl, ht, hrt⟩ := id tb
    refine ⟨.int k, rfl, _, _, rfl, rfl, _, rfl, ite2 (fun h2 => iteT ⟨.ref t, rfl, q _ _ m rows x05 f5 tb Tb0⟩) fun h2 => ?_⟩
    refine ⟨.ref t, rfl, t, _, _, .ref rt, rfl, rfl, .inl (.inl ht), rfl, rt, _, rfl, .inr (.inl (.inl hrt)), .int 6, rfl, _, _, rfl, rfl, _, rfl, ite2 (fun h6 => ⟨.ref t, rfl, q _ _ m rows x05 f5 tb Tb0⟩) fun h6 => ?_⟩
    have l6 : rows.length ≤ 6 := by
      have : ¬ (6 : Int) ≤ (((rows.map tx).length : Nat) : Int) := fun z => h6 (decide_eq_true z)
      rw [List.length_map] at this; omega
    exact ⟨.ref d, rfl, .ref t, rfl, d, kc, .ref t, m, rows, rfl, f5, tb, Tb0, l6, fun H6 v' zs x6 f6 tb6 Tz => q _ _ m zs (x05.trans x6) f6 tb6 Tz⟩
  · exact ⟨.ref d, rfl, .ref wd, rfl, .int 4, rfl, .int 6, rfl, d, kc, wd, f, rfl, f2, hw2, hwd, fun H3 v m rows x3 f3 tb Tb0 => q _ _ m rows (x02.trans x3) f3 tb Tb0⟩
theorem sc_L_small : FnScope ["_law_feed_here", "_law_cap", "_law_tab"] ["_law_feed_here", "_law_cap"] (defScope sL_small) := ⟨rfl, rfl, rfl, by decide +kernel, rfl, by decide +kernel, by decide +kernel⟩
def sp__law_small : Sp := fun vs H Q _ => ∃ (d kc : Addr), vs = [.ref d, .int 6] ∧ Fd H d kc ∧ ∀ H' v m rows, FX d H H' → Fd H' d kc → TabH H' v m rows → Rows m rows → Q v H'
theorem h__law_small (T : Top K mg) : Has P w K mg base "_law_small" 5 ["_law_feed_here", "_law_cap"] sp__law_small := by
  have nd := sc_L_small.nd
  have h__law_case := h__law_case (P := P) (w := w) (base := base) T
  refine has_of T dL_small (by simp [fn, fn0, fn1, fn2, fn3]) rfl (by decide +kernel) rfl sc_L_small (fun vs H Q E ⟨d, kc, e, _⟩ => by rw [e]; rfl) (fun _ _ _ _ _ _ us hl => match us, hl with | [_, _], _ => rfl) (fun cdv A outer s H vs Q E hr h => ?_)
  obtain ⟨d, kc, rfl, f0, q⟩ := h
  -- cells: []; slots {'_law_feed_here': 0, '_law_cap': 1, '_law_tab': 2}
  refine ⟨_, (pss_cons (ps_set (i := 2) nd rfl (Or.inl rfl) (pe_has h__law_case (hr.mono (by omega)) (by rfl) (pa_cons (pv 0) (pa_cons pe_int (pa_cons (pv 1) pa_nil)))))
      (pss_one (ps_ret (pe_tup (pa_cons (pe_ix ix_tup (pv 2) pe_int (fun _ _ => rfl)) (pa_cons (pe_slice sl_tupA (pe_ix ix_tup (pv 2) pe_int (fun _ _ => rfl)) po_none (po_some (pv 1))) pa_nil)))))), ?_⟩
  refine ⟨.ref d, rfl, .int 6, rfl, d, kc, rfl, f0, fun H1 v m rows x1 f1 tb Tb0 => ?_⟩
  obtain ⟨t, rt, rfl, ht, hrt⟩ := tb
  refine ⟨.ref t, rfl, t, _, _, .int m, rfl, rfl, .inl (.inl ht), rfl, .ref t, rfl, t, _, _, .ref rt, rfl, rfl, .inl (.inl ht), rfl, .int 6, rfl, 6, rfl, rt, _, rfl, .inl (.inl hrt), fun hwh => ?_, fun hwh p np => ?_⟩
  · have l6 : rows.length ≤ 6 := by
      have h := hwh.2
      rw [show (6 : Int) = ((6 : Nat) : Int) from rfl, HT.sIx_nat, List.length_map] at h
      omega
    refine ⟨by show 2 ≤ sizeLine; decide, fun t2 nt => ?_⟩
    have e2 := (Ext.refl H1).then (o := .tup [.int ((m : Nat) : Int), .ref rt]) nt rfl
    exact q _ _ m rows (x1.trans (.of e2)) (f1.ext e2) ⟨t2, rt, rfl, upd_same, e2.same _ _ hrt⟩ (Tb0.rows l6)
  · rw [show (6 : Int) = ((6 : Nat) : Int) from rfl, cutV_take]
    have e2 := (Ext.refl H1).then (o := .tup ((rows.map tx).take 6)) np rfl
    have hp2 : (upd H1 p (.tup ((rows.map tx).take 6))) p = some (.tup ((rows.take 6).map tx)) := by rw [upd_same, List.map_take]
    generalize (upd H1 p (.tup ((rows.map tx).take 6))) = H2 at e2 hp2 ⊢
    refine ⟨by show 2 ≤ sizeLine; decide, fun t2 nt => ?_⟩
    have e3 := (Ext.refl H2).then (o := .tup [.int ((m : Nat) : Int), .ref p]) nt rfl
    have ne : rows.take 6 ≠ [] := by
      obtain ⟨r, s, e⟩ := List.exists_cons_of_ne_nil Tb0.ne
      rw [e]; exact fun z => nomatch z
    exact q _ _ m (rows.take 6) (x1.trans (.of (e2.trans e3))) (f1.ext (e2.trans e3)) ⟨t2, p, rfl, upd_same, e3.same _ _ hp2⟩ ((Tb0.sub (List.take_sublist _ _) ne).rows (by rw [List.length_take]; omega))
end
end K58
set_option Elab.async false
set_option linter.all false
set_option maxRecDepth 100000
set_option maxHeartbeats 1000000
/-! Promises of defs that are called with no guard about (repr asks for it); repr of nested data. -/
namespace K58
open PySem PySem.Spec PyProof.Rows L2

/-- as FnOk, where no repr is under way -/
structure FnG (P : Program) (w : World) (K : PySem.W.Frag) (mg : Str → Option Value) (base : Heap) (k : Nat) (f : Addr) (fd : FuncData) (ps : List Str) (sp : Sp) : Prop where
  len : ∀ vs H Q E, sp vs H Q E → vs.length = ps.length
  run : ∀ (A : Around) (outer : List Env) (s : Shared) (H : Hp) (args : Args) (us : List Value) (vs : List V) (Q : VK) (E : XK), Room k A → A.guards = some [] → Env0 P w K mg base A outer s H → BindsTo s fd args (ps.zip us) →
    Vals vs us → sp vs H Q E → codeAny (model P w) A (.call (.ref f) args) (CR CX0 outer P w H s Q E) s
theorem fnG_of {P : Program} {w : World} {K : PySem.W.Frag} {mg : Str → Option Value} {base : Heap} {x qual : Str} {params : Arguments} {body : List Stmt} {scope : Scope} {dvs : List V} {kws : List (Str × V)} {f : Addr} {fd : FuncData} {N ps : List Str} {k : Nat} {sp : Sp}
    (F : FunD K x qual params body scope dvs kws f fd) (S : FnScope N ps scope) (len : ∀ vs H Q E, sp vs H Q E → vs.length = ps.length)
    (hbody : ∀ (cdv : Value) (A : Around) (outer : List Env) (s : Shared) (H : Hp) (vs : List V) (Q : VK) (E : XK), Room k (A.deeper (envOfC qual scope s.heap.objs.size f cdv)) → A.guards = some [] → sp vs H Q E →
      ∃ t, PSs (cxOf CX0 P w K mg base N qual scope f cdv A outer s H E) body t ∧ t { nx := fun _ H' => Q .non H', rt := Q } (L2.start N vs) H) : FnG P w K mg base (k + 1) f fd ps sp := by
  obtain ⟨oc, od, dV, kV, doc, pm, an, cdv, ct, osl, efd, lk, hcd, hdf, hkw⟩ := F.ex
  subst efd
  refine ⟨len, ?_⟩
  intro A outer s H args us vs Q E room noG e0 hb rel prom
  have same := fun b o e => (e0.bs b o e).1
  have kin := e0.mod.kin.keeps same
  have inCells : ∀ p ∈ ps.zip us, scope.names.lookup p.1 = some .local ∨ (scope.names.lookup p.1 = some .cell ∧ ((cellsFrom (s.heap.objs.size + 1) scope.names []).lookup p.1).isSome = true) := by
    intro p hp
    have hp1 : p.1 ∈ ps := (List.of_mem_zip (a := p.1) (b := p.2) hp).1
    cases S.par p.1 hp1 with
    | inl q => exact .inl q
    | inr q => exact .inr ⟨q, PySem.W.cellsFrom_some _ _ _ (.inl q)⟩
  refine codeAny_call_function room.depth (kin _ _ lk) rfl S.co S.gen rfl (PySem.W.codeRec_of kin hcd) (hb _ _ _ _ (wpAny_newFunctionEnv_cells S.kind inCells ?_))
  rintro _ rfl s1 made
  refine ⟨(e0.mod.nolimit.keeps same).keeps made.toInCall.keep, codeAny_func ?_⟩
  obtain ⟨t, run, now⟩ := hbody cdv A outer s H vs Q E (room.deeper _) noG prom
  have inv := inv_start (CX := CX0) (P := P) (w := w) (cd := cdv) (E := E) S room.hd e0 (len _ _ _ _ prom) rel made
  refine wpAny_mono (run.run [] s1 (L2.start N vs) H _ inv now) ?_ (fun _ _ z => z)
  intro fl s2 done
  cases fl with
  | brk =>
    obtain ⟨_, _, _, z⟩ := done
    cases z
  | cont =>
    obtain ⟨_, _, _, z⟩ := done
    cases z
  | next =>
    obtain ⟨σ2, H2, J, z⟩ := done
    exact ⟨V.non, H2, J.os, J.bare, J.base, J.hok, rfl, z⟩
  | ret u =>
    obtain ⟨v, σ2, H2, J, rv, z⟩ := done
    exact ⟨v, H2, J.os, J.bare, J.base, J.hok, rv, z⟩
/-- the module's x is such a def -/
structure HasG (P : Program) (w : World) (K : PySem.W.Frag) (mg : Str → Option Value) (base : Heap) (x : Str) (k : Nat) (ps : List Str) (sp : Sp) : Prop where
  ex : ∃ fd, FnG P w K mg base k (He.ga K x) fd ps sp ∧ Binds K fd ps []
  kp : PySem.W.keepIn K (.ref (He.ga K x)) = true
  at_ : mg x = some (.ref (He.ga K x))
theorem hasG_of {P : Program} {w : World} {K : PySem.W.Frag} {mg : Str → Option Value} {base : Heap} {N ps : List Str} {k : Nat} {sp : Sp} (T : Top K mg) (d : He.DefD) {x : Str} (hd : d ∈ fn) (hx : d.at_ = (x, none)) (hn : x ∈ gnames) (hdf : d.dfl = []) (S : FnScope N ps d.scope)
    (len : ∀ vs H Q E, sp vs H Q E → vs.length = ps.length)
    (hb : ∀ (kV doc pm : Value) (an : Option Addr) (cdv ct : Value) (us : List Value), us.length = ps.length → bindArgs (PySem.W.fnOf d.name d.qual d.params d.body d.scope .none kV doc pm an cdv ct) ⟨us, []⟩ = pure (ps.zip us))
    (hbody : ∀ (cdv : Value) (A : Around) (outer : List Env) (s : Shared) (H : Hp) (vs : List V) (Q : VK) (E : XK), Room k (A.deeper (envOfC d.qual d.scope s.heap.objs.size (He.ga K x) cdv)) → A.guards = some [] → sp vs H Q E →
      ∃ t, PSs (cxOf CX0 P w K mg base N d.qual d.scope (He.ga K x) cdv A outer s H E).nox d.body t ∧ t { nx := fun _ H' => Q .non H', rt := Q } (L2.start N vs) H) : HasG P w K mg base x (k + 1) ps sp := by
  obtain ⟨fd, F⟩ := T.fn d hd
  have ea : He.fAd K d.at_ = He.ga K x := by rw [hx] <;> rfl
  have ed : d.dvs K = [] := by unfold He.DefD.dvs; rw [hdf] <;> rfl
  rw [ea, ed] at F
  exact ⟨⟨fd, fnG_of F S len fun cdv A outer s H vs Q E hr hg h => (let ⟨t, h1, h2⟩ := hbody cdv A outer s H vs Q E hr hg h; ⟨t, h1.nox, h2⟩), F.bindsN hb⟩, F.kp, T.glo x hn⟩
theorem pe_hasG {X : Cx} {x : Str} {k : Nat} {ps : List Str} {sp : Sp} {p pos : Pos} {e : Expr} {es : List Expr} {t : TA} (h : HasG X.prog X.w X.K X.mg X.base x k ps sp) (hr : Room k X.A) (hgu : X.A.guards = some []) (hg : Gl X x) (ha : PA X (e :: es) t)
    (hdb : (x == ("__debug__" : Str)) = false := by decide) (he : starEach (e :: es) X.env = (false, eval e X.env) :: starEach es X.env := by rfl) (hpl : (backTo pos (starEach es X.env)).any (·.1) = false := by rfl) :
    PE X (.Call (.Name x p) (e :: es) [] pos) (tCallH sp t) := by
  obtain ⟨fd, F, b⟩ := h.ex
  refine ⟨fun pins s σ H Q I q => ?_⟩
  refine wpAny_Call_Name_kw (ld_glob I hg h.at_ ?_ hdb)
  refine PySem.W.callWith_K (h₀ := X.base) I.ok.mod.kin h.kp (thn (ha.run pos pins s σ H _ I q) fun us s1 ⟨vs, H1, I1, r, q1⟩ => ⟨I1.kIn, ?_⟩) he hpl
  have hl : us.length = ps.length := by rw [← r.length]; exact F.len _ _ _ _ q1
  have hb := b s1 us I1.kIn (by rw [List.append_nil]; exact hl)
  rw [List.append_nil] at hb
  refine wpAny_call (codeAny_mono (F.run X.A X.stack s1 H1 ⟨us, []⟩ us vs Q E0 hr hgu I1.env0 hb r q1) fun r2 s2 done => ?_)
  cases r2 with
  | error e => exact pass0 pins σ H1 s1 e s2 I1 done
  | ok fl => cases fl with
    | ret u => exact I1.after done
    | next => cases done
    | brk => cases done
    | cont => cases done
/-- repr of data without dicts -/
def rRepr (K : PySem.W.Frag) : List V → Hp → VK → Prop := fun vs H Q => ∃ (a : Addr) (d : PyData), vs = [.ref a] ∧ Dp K H (.ref a) d ∧ d.showable = true ∧ d.hasDict = false ∧ d.depth ≤ 100 ∧ d.shown.length ≤ sizeLine ∧ Q (.str d.shown) H
theorem call_repr {X : Cx} {k : Nat} (hr : Room k X.A) (hgu : X.A.guards = some []) : CallR X (.builtin "repr") (rRepr X.K) := by
  rintro pins s σ H xs us Q I rv ⟨a, d, rfl, hd, h1, h2, h3, h4, q⟩
  match us, rv with
  | [_], .cons rx .nil =>
    cases rx
    obtain ⟨as, rd⟩ := Dp.reads I d _ _ hd (show RelV (.ref a) (Value.ref a) from rfl)
    refine PySem.repr_of_reads' rd h1 (PyData.noDict_hsm h2) hgu (by have := hr.un; omega) (fun _ _ z => z) (fun h' u tk keep => ?_) h4
    exact ⟨.str d.shown, H, I.kept keep, ⟨u, rfl⟩, q⟩
end K58
set_option Elab.async false
set_option linter.all false
set_option maxRecDepth 100000
set_option maxHeartbeats 1000000
/-! repr of the law's data; _law_same. -/
namespace K58
open PySem PySem.Spec PyProof.Rows L2
/-- data that repr shows -/
structure Okd (d : PyData) : Prop where
  okl : PyData.layable0 d = true
  oki : d.intsShort 13 = true
  oks : d.showable = true
def rReprO (K : PySem.W.Frag) : List V → Hp → VK → Prop := fun vs H Q => ∃ (a : Addr) (d : PyData), vs = [.ref a] ∧ Dp K H (.ref a) d ∧ Okd d ∧ Q (.str d.shown) H
theorem call_reprO {X : Cx} {k : Nat} (hr : Room k X.A) (hgu : X.A.guards = some []) : CallR X (.builtin "repr") (rReprO X.K) := by
  rintro pins s σ H xs us Q I rv ⟨a, d, e, hd, ok, q⟩
  have hl := ok.okl
  unfold PyData.layable0 at hl
  simp only [Bool.and_eq_true, decide_eq_true_eq] at hl
  exact call_repr hr hgu pins s σ H xs us Q I rv ⟨a, d, e, hd, ok.oks, PyData.hasDict_of_layable ok.okl, by omega, PyData.shown_fits_of_layable0 (by decide) (by decide) ok.okl ok.oki, q⟩
theorem boot_repr : bootBuiltins "repr" = some (.builtin "repr") := by decide +kernel
theorem weight_txs (n : Nat) : ∀ c : List (List Nat), (∀ l ∈ c, l.length ≤ n) → PyData.weightAll (c.map dtx) ≤ (n + 1) * c.length
  | [], _ => Nat.zero_le _
  | a :: r, h => by
    have h1 := weight_txs n r fun l hl => h l (List.mem_cons_of_mem _ hl)
    have h2 := h a List.mem_cons_self
    show (S a).cps.size + 1 + PyData.weightAll (r.map dtx) ≤ (n + 1) * (r.length + 1)
    have e : (S a).cps.size = a.length := by simp [S]
    rw [e, Nat.mul_add]
    omega
theorem show_txs : ∀ c : List (List Nat), PyData.showableAll (c.map dtx) = true
  | [] => rfl
  | a :: r => by
    show (PyData.showable (dtx a) && PyData.showableAll (r.map dtx)) = true
    rw [show_txs r]; rfl
theorem ints_txs : ∀ c : List (List Nat), PyData.intsShortAll 13 (c.map dtx) = true
  | [] => rfl
  | a :: r => by
    show (PyData.intsShort 13 (dtx a) && PyData.intsShortAll 13 (r.map dtx)) = true
    rw [ints_txs r]; rfl
/-- a choice of rows -/
structure Ch (c : List (List Nat)) : Prop where
  cps : ∀ l ∈ c, Cps l
  few : c.length ≤ 6
  short : ∀ l ∈ c, l.length ≤ 4
theorem Ch.weight {c : List (List Nat)} (h : Ch c) : PyData.weightAll (c.map dtx) ≤ 30 := by
  have := weight_txs 4 c h.short
  have := h.few
  omega
/-- the table -/
def tabD (m : Nat) (rows : List (List Nat)) : PyData := .tuple [.int m, dtup rows]
theorem okd_tab {m : Nat} {rows : List (List Nat)} (hm : m = 2 ∨ m = 3) (h : Ch rows) : Okd (tabD m rows) := by
  have hw := h.weight
  have h1 : PyData.canLayAll0 (rows.map dtx) = true := canLay_txs rows h.cps
  refine ⟨?_, ?_, ?_⟩
  · unfold PyData.layable0
    have e1 : PyData.canLay0 (tabD m rows) = true := by
      show (PyData.canLay0 (.int (m : Int)) && (PyData.canLayAll0 (rows.map dtx) && true)) = true
      rw [h1]; rcases hm with rfl | rfl <;> decide
    have e2 : PyData.depth (tabD m rows) = 2 := by
      show max 0 (max (PyData.depthAll (rows.map dtx) + 1) 0) + 1 = 2
      rw [depth_txs]; rfl
    have e3 : PyData.weight (tabD m rows) ≤ 40 := by
      show PyData.weight (.int (m : Int)) + 1 + (PyData.weightAll (rows.map dtx) + 1 + 0) ≤ 40
      have : PyData.weight (.int (m : Int)) = 2 := by rcases hm with rfl | rfl <;> decide
      omega
    rw [e1, e2]
    simp only [Bool.true_and, Bool.and_eq_true, decide_eq_true_eq]
    omega
  · show (PyData.intsShort 13 (.int (m : Int)) && (PyData.intsShortAll 13 (rows.map dtx) && true)) = true
    rw [ints_txs]; rcases hm with rfl | rfl <;> decide +kernel
  · show (PyData.showable (.int (m : Int)) && (PyData.showableAll (rows.map dtx) && true)) = true
    rw [show_txs]; rcases hm with rfl | rfl <;> decide +kernel
/-- what is due, as data -/
def dueD : Option (List (List Nat)) → PyData
  | none => .none
  | some c => dtup c
def DueR (H : Hp) : Option (List (List Nat)) → V → Prop
  | none, v => v = .non
  | some c, v => TupR H c v
theorem DueR.ext {H H' : Hp} (e : Ext H H') {o : Option (List (List Nat))} {v : V} (h : DueR H o v) : DueR H' o v := by
  cases o with
  | none => exact h
  | some c => exact TupR.ext e h
theorem DueR.dp {K : PySem.W.Frag} {H : Hp} {o : Option (List (List Nat))} {v : V} (h : DueR H o v) : Dp K H v (dueD o) := by
  cases o with
  | none => obtain rfl := h; exact .non
  | some c =>
    obtain ⟨r, rfl, h2⟩ := h
    exact .tup (.inl (.inl h2)) (dp_txs _)
def toldD (o : Option (List (List Nat))) : PyData := .list [dueD o, dueD o]
theorem okd_told {o : Option (List (List Nat))} (h : ∀ c, o = some c → Ch c) : Okd (toldD o) := by
  cases o with
  | none => exact ⟨by decide, by decide, by decide⟩
  | some c =>
    have h := h c rfl
    have hw := h.weight
    have h1 : PyData.canLayAll0 (c.map dtx) = true := canLay_txs c h.cps
    refine ⟨?_, ?_, ?_⟩
    · unfold PyData.layable0
      have e1 : PyData.canLay0 (toldD (some c)) = true := by
        show (PyData.canLayAll0 (c.map dtx) && (PyData.canLayAll0 (c.map dtx) && true)) = true
        rw [h1]; rfl
      have e2 : PyData.depth (toldD (some c)) = 2 := by
        show max (PyData.depthAll (c.map dtx) + 1) (max (PyData.depthAll (c.map dtx) + 1) 0) + 1 = 2
        rw [depth_txs]; rfl
      have e3 : PyData.weight (toldD (some c)) ≤ 70 := by
        show PyData.weightAll (c.map dtx) + 1 + (PyData.weightAll (c.map dtx) + 1 + 0) ≤ 70
        omega
      rw [e1, e2]
      simp only [Bool.true_and, Bool.and_eq_true, decide_eq_true_eq]
      omega
    · show (PyData.intsShortAll 13 (c.map dtx) && (PyData.intsShortAll 13 (c.map dtx) && true)) = true
      rw [ints_txs]; rfl
    · show (PyData.showableAll (c.map dtx) && (PyData.showableAll (c.map dtx) && true)) = true
      rw [show_txs]; rfl
section
variable {P : Program} {w : World} {K : PySem.W.Frag} {mg : Str → Option Value} {base : Heap}
theorem sc_L_same : FnScope ["_law_heard", "_law_due"] ["_law_heard", "_law_due"] (defScope sL_same) := ⟨rfl, rfl, rfl, by decide +kernel, rfl, by decide +kernel, by decide +kernel⟩
def sp__law_same (K : PySem.W.Frag) : Sp := fun vs H Q _ => ∃ (a b : Addr) (d : PyData), vs = [.ref a, .ref b] ∧ Dp K H (.ref a) d ∧ Dp K H (.ref b) d ∧ Okd d ∧ ∀ H', Ext H H' → Q (.bl true) H'
theorem h__law_same (T : Top K mg) : HasG P w K mg base "_law_same" 1 ["_law_heard", "_law_due"] (sp__law_same K) := by
  have nd := sc_L_same.nd
  refine hasG_of T dL_same (by simp [fn, fn0, fn1, fn2, fn3]) rfl (by decide +kernel) rfl sc_L_same (fun vs H Q E ⟨a, b, d, e, _⟩ => by rw [e]; rfl) (fun _ _ _ _ _ _ us hl => match us, hl with | [_, _], _ => rfl) (fun cdv A outer s H vs Q E hr hgu h => ?_)
  obtain ⟨a, b, d, rfl, ha, hb, ok, q⟩ := h
  -- cells: []; slots {'_law_heard': 0, '_law_due': 1}
  refine ⟨_, (pss_one (ps_ret (pe_cmpR op_eq (pe_callB (call_reprO hr hgu) (by rfl) (T.free _ (by decide +kernel)) boot_repr (pa_cons (pv 0) pa_nil)) (pe_callB (call_reprO hr hgu) (by rfl) (T.free _ (by decide +kernel)) boot_repr (pa_cons (pv 1) pa_nil)) (nomark _)))), ?_⟩
  refine ⟨.ref a, rfl, a, d, rfl, ha, ok, .ref b, rfl, b, d, rfl, hb, ok, ?_⟩
  have e : decide (V.str d.shown = V.str d.shown) = true := decide_eq_true rfl
  refine ⟨rfl, ?_⟩
  show Q (.bl (decide (V.str d.shown = V.str d.shown))) H
  rw [e]
  exact q H (Ext.refl H)
end
end K58
set_option Elab.async false
set_option linter.all false
set_option maxRecDepth 100000
set_option maxHeartbeats 1000000
/-! The law. -/
namespace K58
open PySem PySem.Spec PyProof.Rows L2
theorem cutV_init (xs : List V) : cutV xs none (some (-1)) = xs.take (xs.length - 1) := by
  unfold cutV
  rw [HT.sIx_none]
  have e : HT.sIx xs.length xs.length (some (-1)) = xs.length - 1 := by
    unfold HT.sIx
    simp
    omega
  rw [e]; simp
theorem F2.init {α : Type} {R : α → V → Prop} : ∀ {as : List α} {b : α} {ys : List V}, F2 R (as ++ [b]) ys → F2 R as (ys.take (ys.length - 1))
  | [], b, _, .cons h .nil => .nil
  | a :: as, b, _, .cons h r => by
    have ih := F2.init r
    have hl : _ = (as ++ [b]).length := r.len
    rw [List.length_append] at hl
    show F2 _ (a :: as) (List.take _ _)
    rename_i y ys
    have e : (y :: ys).length - 1 = (ys.length - 1) + 1 := by
      simp at hl ⊢
      omega
    rw [e]
    exact .cons h ih
theorem sets_few {rows : List (List Nat)} {m : Nat} (R : Rows m rows) : (setsL rows).length ≤ 63 := by
  have h := order_len rows R.asc
  have := pow64 R.len
  rw [List.length_append] at h
  simp at h
  omega
theorem range_bind {α β : Type} (l : List α) (g : α → Option β) : (List.range l.length).filterMap (fun n => (l[n]?).bind g) = l.filterMap g := by
  induction l with
  | nil => rfl
  | cons a r ih =>
    rw [List.length_cons, List.range_succ_eq_map, List.filterMap_cons, List.filterMap_map, List.filterMap_cons]
    have e : ((fun n => ((a :: r)[n]?).bind g) ∘ Nat.succ) = fun n => (r[n]?).bind g := rfl
    rw [e, ih]
    rfl
theorem fewest_call {H : Hp} {Q : VK} {E : XK} {v : V} {m : Nat} {rows : List (List Nat)} {most : Int} (tb : TabH H v m rows) (R : Rows m rows) (pl : PlainHp H) (h0 : 0 ≤ most) (q : ∀ H' u, Ext H H' → DueR H' (fewestL rows most) u → Q u H') : sp_fewest_out [v, .int most] H Q E :=
  ⟨v, m, rows, most, rfl, tb, R, pl, h0, fun H' e h => q H' _ e (by rw [h]; rfl), fun H' r x e h hr => q H' _ e (by rw [h]; exact ⟨r, rfl, hr⟩)⟩
section
variable {P : Program} {w : World} {K : PySem.W.Frag} {mg : Str → Option Value} {base : Heap}
theorem sc_L_law : FnScope ["_law_script", "_law_feed_here", "_law_lap", "_law_tab", "_law_before", "_law_sets_here", "_law_roots", "_law_cap", "_law_some", "_law_due", "_law_told", "_law_late", "_law_out", "_law_row", "_law_n"] ["_law_script"] (defScope sL_law) := ⟨rfl, rfl, rfl, by decide +kernel, rfl, by decide +kernel, by decide +kernel⟩
def sp_law (K : PySem.W.Frag) : Sp := fun vs H Q _ => ∃ (a : Addr) (ns : List Int), vs = [.ref a] ∧ SqL K H a (ns.map V.int) ∧ ns.length ≤ 63 ∧ PlainHp H ∧ ∀ H', Q (.bl true) H'
theorem h_law (T : Top K mg) : HasG P w K mg base "law" 22 ["_law_script"] (sp_law K) := by
  have nd := sc_L_law.nd
  have h__law_feed := h__law_feed (P := P) (w := w) (base := base) T
  have h__law_small := h__law_small (P := P) (w := w) (base := base) T
  have h__law_root := h__law_root (P := P) (w := w) (base := base) T
  have h__law_sets := h__law_sets (P := P) (w := w) (base := base) T
  have h_fewest_out := h_fewest_out (P := P) (w := w) (base := base) T
  have h__law_same := h__law_same (P := P) (w := w) (base := base) T
  have h_root_of := h_root_of (P := P) (w := w) (base := base) T
  refine hasG_of T dL_law (by simp [fn, fn0, fn1, fn2, fn3]) rfl (by decide +kernel) rfl sc_L_law (fun vs H Q E ⟨a, ns, e, _⟩ => by rw [e]; rfl) (fun _ _ _ _ _ _ us hl => match us, hl with | [_], _ => rfl) (fun cdv A outer s H vs Q E hr hgu h => ?_)
  have hw_fewest_out := hw_fewest_out (P := P) (w := w) (base := base) T
  obtain ⟨a, ns, rfl, ha, hl, pl, q⟩ := h
  -- cells: ['_law_cap', '_law_due', '_law_out', '_law_roots', '_law_sets_here', '_law_tab']; slots {'_law_script': 0, '_law_feed_here': 1, '_law_lap': 2, '_law_tab': 3, '_law_before': 4, '_law_sets_here': 5, '_law_roots': 6, '_law_cap': 7, '_law_some': 8, '_law_due': 9, '_law_told': 10, '_law_late': 11, '_law_out': 12, '_law_row': 13, '_law_n': 14}
  refine ⟨_, (pss_cons (ps_set (i := 1) nd rfl (Or.inl rfl) (pe_has h__law_feed (hr.mono (by omega)) (by rfl) (pa_cons (pv 0) pa_nil)))
      (pss_cons (ps_for PassesOwn.never rfl (pi_range1 (by rfl) (T.free _ (by decide +kernel)) (pa_cons pe_int pa_nil)) (pg_name (i := 2) nd rfl (Or.inl rfl))
        (pss_cons (ps_set (i := 3) nd rfl (Or.inr rfl) (pe_has h__law_small (hr.mono (by omega)) (by rfl) (pa_cons (pv 1) (pa_cons pe_int pa_nil))))
        (pss_cons (ps_asg (pe_tup (pa_cons (pe_callB (call_reprO hr hgu) (by rfl) (T.free _ (by decide +kernel)) boot_repr (pa_cons (pv 3) pa_nil)) (pa_cons (pe_slice sl_list (pe_has h__law_sets (hr.mono (by omega)) (by rfl) (pa_cons (pe_callTy call_list_of (by rfl) (T.free _ (by decide +kernel)) (by decide +kernel) (pa_cons (pe_ix ix_tup (pv 3) pe_int (fun _ _ => rfl)) pa_nil)) pa_nil)) po_none (po_some (pe_un un_neg pe_int))) pa_nil))) (pg_tup (by rfl) (pgs_cons (pg_name (i := 4) nd rfl (Or.inl rfl)) (pgs_cons (pg_name (i := 5) nd rfl (Or.inr rfl)) pgs_nil))))
        (pss_cons (ps_set (i := 6) nd rfl (Or.inr rfl) (pe_lc (own := [("_law_out", 12)]) (g := (gName 12)) (tt := tYes) rfl nd (pi_list (pv 5)) (blkOk_by (by kernel_rfl)) (fun _ _ _ _ _ => (pg_name (i := 12) nd rfl (Or.inr rfl))) (fun _ _ _ _ _ => pts_nil) (fun _ _ _ _ _ => (pe_has h__law_root (hr.mono (by omega)) (by rfl) (pa_cons (pe_lc (own := [("_law_row", 13)]) (g := (gName 13)) (tt := _) rfl nd (pi_tupK (K := K) rfl (pe_ix (ix_tupK (K := K) rfl) (pv 3) pe_int (fun _ _ => rfl))) (blkOk_by (by kernel_rfl)) (fun _ _ _ _ _ => (pg_name (i := 13) nd rfl (Or.inl rfl))) (fun _ _ _ _ _ => (pts_one (pt_cmpR (op_notIn_seqK (K := K) rfl) (pv 13) (pv 12) rfl))) (fun _ _ _ _ _ => (pv 13))) pa_nil)))))
        (pss_cons (ps_for PassesOwn.never rfl (pi_list (pe_lst (pa_cons pe_int (pa_cons pe_int (pa_cons pe_int (pa_cons (pe_op op_pow pe_int pe_int) pa_nil)))))) (pg_name (i := 7) nd rfl (Or.inr rfl))
          (pss_cons (ps_setLc (i := 8) (own := [("_law_n", 14)]) (g := (gName 14)) (tt := _) rfl nd rfl rfl (sw_true rfl rfl rfl (by decide +kernel)) (pi_range1 (by rfl) (T.free _ (by decide +kernel)) (pa_cons (pe_callB call_len_seq (by rfl) (T.free _ (by decide +kernel)) (by decide +kernel) (pa_cons (pv 5) pa_nil)) pa_nil)) (blkOk_by (by kernel_rfl)) (fun _ _ _ _ _ => (pg_name (i := 14) nd rfl (Or.inl rfl))) (fun _ _ _ _ _ => (pts_one (PW.pt (pw_and (pt_cmpR op_notN (pe_ix (ix_listK (K := K) rfl) (pv 6) (pv 14) (fun _ _ => rfl)) pe_non (nomark _)) (pw_and1 (pt_cmpR op_le (pe_ix (ix_listK (K := K) rfl) (pv 6) (pv 14) (fun _ _ => rfl)) (pv 7) (nomark _))))))) (fun _ _ _ _ _ => (pe_ix (ix_listK (K := K) rfl) (pv 5) (pv 14) (fun _ _ => rfl))))
          (pss_cons (ps_set (i := 9) nd rfl (Or.inr rfl) (pe_mono (pe_ifExp (pt_cmpR (op_neD hr.units) (pv 8) (pe_lst pa_nil) (nomark _)) (pe_ix ix_list (pv 8) pe_int (fun _ _ => rfl)) pe_non)))
          (pss_cons (ps_set (i := 10) nd rfl (Or.inl rfl) (pe_lst (pa_cons (pe_mono (pe_has h_fewest_out (hr.mono (by omega)) (by rfl) (pa_cons (pv 3) (pa_cons (pv 7) pa_nil)))) (pa_cons (pe_mono (pe_hasW hw_fewest_out (hr.mono (by omega)) (by rfl) (pk_cons (pv 7) (pk_cons (pv 3) pk_nil)) (by rfl) (by rfl) (by decide) (by rfl))) pa_nil))))
          (pss_cons (ps_if (pt_not (pt_val (pe_hasG h__law_same (hr.mono (by omega)) hgu (by rfl) (pa_cons (pv 10) (pa_cons (pe_lst (pa_cons (pv 9) (pa_cons (pv 9) pa_nil))) pa_nil))))) (pss_one (ps_ret pe_bl)) pss_nil)
          (pss_one (ps_if (pt_cmpR op_notN (pv 9) pe_non (nomark _)) (pss_cons (ps_set (i := 11) nd rfl (Or.inl rfl) (pe_has h_root_of (hr.mono (by omega)) (by rfl) (pa_cons (pe_tup (pa_cons (pe_ix ix_tup (pv 3) pe_int (fun _ _ => rfl)) (pa_cons (pe_callTy call_tuple_of (by rfl) (T.free _ (by decide +kernel)) (by decide +kernel) (pa_cons (pe_lc (own := [("_law_row", 13)]) (g := (gName 13)) (tt := _) rfl nd (pi_tup (pe_ix ix_tup (pv 3) pe_int (fun _ _ => rfl))) (blkOk_by (by kernel_rfl)) (fun _ _ _ _ _ => (pg_name (i := 13) nd rfl (Or.inl rfl))) (fun _ _ _ _ _ => (pts_one (pt_cmpR (op_notIn_seqK (K := K) rfl) (pv 13) (pv 9) rfl))) (fun _ _ _ _ _ => (pv 13))) pa_nil)) pa_nil))) pa_nil)))
            (pss_one (ps_if (PW.pt (pw_or (pt_cmpR op_isN (pv 11) pe_non (nomark _)) (pw_or1 (pt_cmpR op_gt (pv 11) (pv 7) (nomark _))))) (pss_one (ps_ret pe_bl)) pss_nil))) pss_nil)))))))
        (pss_one (ps_if (pt_cmpR op_ne (pe_callB (call_reprO hr hgu) (by rfl) (T.free _ (by decide +kernel)) boot_repr (pa_cons (pv 3) pa_nil)) (pv 4) (nomark _)) (pss_one (ps_ret pe_bl)) pss_nil)))))))
      (pss_one (ps_ret pe_bl)))), ?_⟩
  refine ⟨.ref a, rfl, a, ns, rfl, ha, hl, fun H1 d kc e1 hd1 f1 => ?_⟩
  have pl1 := e1.plain pl
  refine ⟨2, rfl, by decide, by decide, ?_⟩
  refine for_it (walk_range (lo := 0) (n := 2)) (fun i σ H' => PlainHp H' ∧ Fd H' d kc ∧ ∃ y2 y3 y4 y5 y6 y7 y8 y9 y10 y11 y12 y13 y14 : Option V, σ = [some (.ref a), some (.ref d), y2, y3, y4, y5, y6, y7, y8, y9, y10, y11, y12, y13, y14])
    ⟨pl1, f1, _, _, _, _, _, _, _, _, _, _, _, _, _, rfl⟩ (fun _ _ _ _ _ => trivial) (fun i x σ H3 H2 hi p2 y => ?_) fun σ H2 p2 => q _
  obtain ⟨pl2, f2, y2, y3, y4, y5, y6, y7, y8, y9, y10, y11, y12, y13, y14, rfl⟩ := p2
  obtain ⟨rfl, rfl⟩ := y
  refine ⟨_, rfl, ?_⟩
  refine ⟨d, kc, rfl, f2, fun H3 v m rows x3 f3 tb R => ?_⟩
  have pl3 := x3.plain pl2
  obtain ⟨t, rt, rfl, ht, hrt⟩ := id tb
  have okT : Okd (tabD m rows) := okd_tab R.mny ⟨fun l hl => low_cps (R.row l hl).2.1, R.len, fun l hl => by have := (R.row l hl).1; have := R.mny; omega⟩
  have dpT : ∀ H', Ext H3 H' → Dp K H' (.ref t) (tabD m rows) := fun H' e => .tup (.inl (.inl (e.same _ _ ht))) (.cons (.int _) (.cons (.tup (.inl (.inl (e.same _ _ hrt))) (dp_txs _)) .nil))
  refine ⟨.ref t, rfl, t, tabD m rows, rfl, dpT _ (Ext.refl _), okT, ?_⟩
  refine ⟨.ref t, rfl, t, _, _, .ref rt, rfl, rfl, .inl (.inl ht), rfl, rt, _, rfl, .inr (.inl (.inl hrt)), fun l nl => ?_⟩
  have e4 : Ext H3 (upd H3 l (.lst (rows.map tx))) := (Ext.refl H3).then nl rfl
  have hl4 : (upd H3 l (.lst (rows.map tx))) l = some (.lst (rows.map tx)) := upd_same
  generalize (upd H3 l (.lst (rows.map tx))) = H4 at e4 hl4 ⊢
  refine ⟨l, rows, rfl, .inl (.inl hl4), R.len, R.asc, fun H5 q5 ys e5 hq5 F5 => ?_⟩
  refine ⟨1, rfl, ?_⟩
  refine ⟨-1, rfl, q5, _, rfl, .inl (.inl hq5), fun p np => ?_⟩
  have F5' := F5.init
  rw [cutV_init]
  have e6 : Ext H5 (upd H5 p (.lst (ys.take (ys.length - 1)))) := (Ext.refl H5).then np rfl
  have hp6 : (upd H5 p (.lst (ys.take (ys.length - 1)))) p = some (.lst (ys.take (ys.length - 1))) := upd_same
  generalize (upd H5 p (.lst (ys.take (ys.length - 1)))) = H6 at e6 hp6 ⊢
  have F6 := tupRs e6 F5'
  generalize ys.take (ys.length - 1) = zs at F6 hp6 ⊢
  refine ⟨by show 2 ≤ sizeLine; decide, fun t7 n7 => ?_⟩
  have e7 : Ext H6 (upd H6 t7 (.tup [.str (tabD m rows).shown, .ref p])) := (Ext.refl H6).then n7 rfl
  have ht7 : (upd H6 t7 (.tup [.str (tabD m rows).shown, .ref p])) t7 = some (.tup [.str (tabD m rows).shown, .ref p]) := upd_same
  generalize (upd H6 t7 (.tup [.str (tabD m rows).shown, .ref p])) = H7 at e7 ht7 ⊢
  have hp7 := e7.same _ _ hp6
  have F7 := tupRs e7 F6
  have e37 : Ext H3 H7 := e4.trans (e5.trans (e6.trans e7))
  have hs63 := sets_few R
  refine ⟨t7, _, rfl, .inl (.inl ht7), rfl, .str _, _, rfl, .ref p, _, rfl, rfl, ?_⟩
  refine ⟨.ref p, rfl, p, rfl, ⟨_, .inl (.inl hp7)⟩, fun D hD => lcLiT (setsL rows) (TupR H7) (fun c => some c) (fun c y _ => y = rootV (rootL (leftOf rows c))) (.inl (.inl hp7)) F7 hD (fun _ _ _ _ _ h => h) (line_small (by omega)) (fun c hc x H8 e8 hys hx R1 R0 k1 k0 => ⟨rfl, tyes' ?_⟩) fun H8 ys8 e8 hD8 f8 => ?_⟩
  · obtain ⟨r, rfl, hr7⟩ := hx
    have hrt8 := (e37.trans e8).same _ _ hrt
    have ht8 := (e37.trans e8).same _ _ ht
    have hr8 := e8.same _ _ hr7
    refine ⟨.ref t, rfl, t, _, _, .ref rt, rfl, rfl, .inl (.inl ht8), rfl, rt, rfl, ⟨_, .inl (.inl hrt8)⟩, fun D2 hD2 => lcTu rows tx (fun r => if decide (r ∉ c) = true then some r else none) (fun r y _ => y = tx r) (.inl (.inl hrt8)) hD2 (fun _ _ _ _ _ h => h) (line_small (by have := R.len; omega)) (fun ro hro H9 e9 S1 S0 j1 j0 => ⟨rfl, ?_⟩) fun H9 ys9 e9 hDy f9 => ?_⟩
    · refine ⟨tx ro, rfl, .ref r, rfl, r, _, rfl, .inr (.inl (.inl (e9.same _ _ hr8))), rfl, flat_tx _, _, rfl, ?_⟩
      rw [inV_tx]
      by_cases hm : ro ∈ c
      · rw [decide_eq_true hm]
        exact iteF (j0 _ (by simp [hm]) (Ext.refl _))
      · rw [decide_eq_false hm]
        exact iteT ⟨tx ro, rfl, j1 ro _ _ (by simp [hm]) (Ext.refl _) rfl⟩
    · have ey := f9.eq (vv := tx)
      rw [fm_id (fun r => decide (r ∉ c))] at ey
      rw [ey] at hDy
      refine ⟨D2, m, leftOf rows c, rfl, .inl (.inl hDy), R.left (sets_sub hc).2, fun H10 e10 => k1 c _ _ rfl (e9.trans e10) rfl⟩
  have ey8 := f8.eq (vv := fun c => rootV (rootL (leftOf rows c)))
  rw [List.filterMap_some] at ey8
  rw [ey8] at hD8
  clear f8 ey8
  have hp8 := e8.same _ _ hp7
  have F8 := tupRs e8 F7
  have e38 := e37.trans e8
  refine ⟨10, 59, rfl, rfl, ⟨by decide, by decide, by decide⟩, ?_⟩
  refine ⟨by show 4 ≤ sizeLine; decide, fun lc nlc => ?_⟩
  have e9 : Ext H8 (upd H8 lc (.lst [.int 0, .int 1, .int 2, .int (10 ^ (59 : Int).toNat)])) := (Ext.refl H8).then nlc rfl
  have hc9 : (upd H8 lc (.lst [.int 0, .int 1, .int 2, .int (10 ^ (59 : Int).toNat)])) lc = some (.lst [.int 0, .int 1, .int 2, .int (10 ^ (59 : Int).toNat)]) := upd_same
  generalize (upd H8 lc (.lst [.int 0, .int 1, .int 2, .int (10 ^ (59 : Int).toNat)])) = H9 at e9 hc9 ⊢
  have e39 := e38.trans e9
  have hp9 := e9.same _ _ hp8
  have hD9 := e9.same _ _ hD8
  have F9 := tupRs e9 F8
  have tb9 := tb.ext e39
  have pl9 := e39.plain pl3
  have cap0 : ∀ x ∈ [V.int 0, V.int 1, V.int 2, V.int (10 ^ (59 : Int).toNat)], ∃ n : Int, x = .int n ∧ 0 ≤ n := fun x hx => by
    rcases List.mem_cons.mp hx with e | hx
    · exact ⟨0, e, by decide⟩
    rcases List.mem_cons.mp hx with e | hx
    · exact ⟨1, e, by decide⟩
    rcases List.mem_cons.mp hx with e | hx
    · exact ⟨2, e, by decide⟩
    exact ⟨_, List.mem_singleton.mp hx, Int.pow_nonneg (by decide)⟩
  generalize [V.int 0, V.int 1, V.int 2, V.int (10 ^ (59 : Int).toNat)] = caps at hc9 cap0 ⊢
  clear nlc hD8 hp8 F8
  refine ⟨lc, rfl, ⟨_, .inl (.inl hc9)⟩, for_it (walk_list (xs := caps)) (fun i2 σ H' => Ext H9 H' ∧ ∃ y7 y8 y9 y10 y11 y12 y13 y14 : Option V, σ = [some (.ref a), some (.ref d), some (.int (0 + (i : Nat))), some (.ref t), some (.str (tabD m rows).shown), some (.ref p), some (.ref D), y7, y8, y9, y10, y11, y12, y13, y14])
    ⟨Ext.refl _, _, _, _, _, _, _, _, _, rfl⟩ (fun i2 σ H' _ p => .inl (.inl (p.1.same _ _ hc9))) (fun i2 x σ H10 H11 hi2 p2 y => ?_) fun σ H10 p2 => ?_⟩
  · obtain ⟨e10, z7, z8, z9, z10, z11, z12, z13, z14, rfl⟩ := p2
    obtain ⟨rfl, hx⟩ := y
    obtain ⟨cap, rfl, hcap⟩ := cap0 x (List.mem_of_getElem? hx)
    have hp10 := e10.same _ _ hp9
    have hD10 := e10.same _ _ hD9
    have F10 := tupRs e10 F9
    have hlz : zs.length = (setsL rows).length := F10.len
    refine ⟨.ref p, rfl, p, _, rfl, .inl (.inl (.inl hp10)), ?_⟩
    refine ⟨(zs.length : Nat), rfl, by omega, by omega, fun D2 hD2 => lcRg (n := ((zs.length : Nat) : Int).toNat) (fun n => ((setsL rows)[n]?).bind fun c => if okRoot (rootL (leftOf rows c)) cap = true then some c else none) (fun c y H => ∃ r, y = .ref r ∧ r ≠ D2 ∧ H r = some (.tup (c.map tx))) hD2
      (fun b y Ha Hb k ⟨r, h1, h2, h3⟩ => ⟨r, h1, h2, k _ _ h2 h3⟩) (line_small (by omega)) (fun n hn H12 e12 R1 R0 k1 k0 => ?s3) fun H12 ys12 e12 hD12 f12 => ?_⟩
    case s3 =>
      refine ⟨rfl, ?_⟩
      have hn1 : n < (setsL rows).length := by have := List.mem_range.mp hn; omega
      obtain ⟨c, hc⟩ : ∃ c, (setsL rows)[n]? = some c := ⟨_, List.getElem?_eq_getElem hn1⟩
      obtain ⟨yc, hyc, rc, rfl, hrc⟩ := F10.to hc
      have hD12 := e12.same _ _ hD10
      have hp12 := e12.same _ _ hp10
      have hat : atI ((setsL rows).map fun c => rootV (rootL (leftOf rows c))) (n : Int) = some (rootV (rootL (leftOf rows c))) := by
        rw [at_map, atI_nat hc]; rfl
      have hn2 : rc ≠ D2 := fun z => by rw [z, hD2] at hrc; cases hrc
      have fe : (((setsL rows)[n]?).bind fun c => if okRoot (rootL (leftOf rows c)) cap = true then some c else none) = if okRoot (rootL (leftOf rows c)) cap = true then some c else none := by rw [hc]; rfl
      refine ⟨.ref D, rfl, .int (n : Int), rfl, D, _, _, _, rfl, rfl, .inl (.inl hD12), hat, rfl, ?_⟩
      cases hroot : rootL (leftOf rows c) with
      | none =>
        refine ⟨false, rfl, ?_⟩
        exact iteF (iteF (k0 _ (by rw [fe, hroot]; rfl) (Ext.refl _)))
      | some k =>
        refine ⟨true, rfl, ?_⟩
        refine iteT ⟨.ref D, rfl, .int (n : Int), rfl, D, _, _, _, rfl, rfl, .inl (.inl hD12), hat, .int cap, rfl, k, cap, by rw [hroot]; rfl, rfl, _, rfl, ite2 (fun hk => ?_) fun hk => ?_⟩
        · have hk := of_decide_eq_true hk
          have hok : okRoot (rootL (leftOf rows c)) cap = true := by
            rw [hroot]
            show (!decide (cap < (k : Nat))) = true
            simp; omega
          exact ⟨.ref p, rfl, .int (n : Int), rfl, p, _, _, _, rfl, rfl, .inl (.inl hp12), atI_nat hyc, k1 c _ _ (by rw [fe, if_pos hok]) (Ext.refl _) ⟨rc, rfl, hn2, e12.same _ _ hrc⟩⟩
        · refine k0 _ ?_ (Ext.refl _)
          have hok : ¬ okRoot (rootL (leftOf rows c)) cap = true := by
            rw [hroot]
            show ¬ (!decide (cap < (k : Nat))) = true
            have : ¬ ((k : Int) ≤ cap) := fun z => hk (decide_eq_true z)
            simp; omega
          rw [fe, if_neg hok]
    have hsl : ((zs.length : Nat) : Int).toNat = (setsL rows).length := by omega
    rw [hsl, range_bind] at f12
    have F12 : F2 (TupR H12) ((setsL rows).filter fun c => okRoot (rootL (leftOf rows c)) cap) ys12 := by
      have e : (setsL rows).filterMap (fun c => if okRoot (rootL (leftOf rows c)) cap = true then some c else none) = (setsL rows).filter fun c => okRoot (rootL (leftOf rows c)) cap := fm_id (fun c => okRoot (rootL (leftOf rows c)) cap) (setsL rows)
      rw [← e]
      exact f12.mono fun c y ⟨r, h1, _, h3⟩ => ⟨r, h1, h3⟩
    have hfew : ((setsL rows).filter fun c => okRoot (rootL (leftOf rows c)) cap).head? = fewestL rows cap := List.head?_filter
    have e9c := e10.trans e12
    have hin : ∀ c ∈ (setsL rows).filter fun c => okRoot (rootL (leftOf rows c)) cap, ∀ l ∈ c, Cps l := fun c hc l hl => low_cps (R.row l ((sets_sub (List.mem_filter.mp hc).1).1.subset hl)).2.1
    refine ⟨fun v H13 => Ext H12 H13 ∧ DueR H13 (fewestL rows cap) v, ?due, fun v H13 hv => ?_⟩
    case due =>
      generalize (setsL rows).filter (fun c => okRoot (rootL (leftOf rows c)) cap) = cs at F12 hfew hin
      refine ⟨.ref D2, rfl, Nat.zero_le _, fun E0 nE => ?_⟩
      have e3 := (Ext.refl H12).then (o := .lst []) nE rfl
      have hE3 : (upd H12 E0 (.lst [])) E0 = some (.lst []) := upd_same
      generalize (upd H12 E0 (.lst [])) = H13 at e3 hE3 ⊢
      have hD13 := e3.same _ _ hD12
      refine ⟨.list (cs.map dtup), .list [], .lst (.inl (.inl hD13)) (dp_tups (tupRs e3 F12)), .lst (.inl (.inl hE3)) .nil, shaped_tups hin, rfl, _, rfl, ?_⟩
      rw [eqv_nil2, ← hfew]
      cases F12 with
      | nil => exact iteF ⟨e3, rfl⟩
      | cons h1 h2 =>
        refine iteT ⟨.ref D2, rfl, D2, _, 0, _, rfl, rfl, .inl (.inl hD13), atI_nat (j := 0) rfl, e3, h1.ext e3⟩
    obtain ⟨e13, hv⟩ := hv
    have e3d := e39.trans (e9c.trans e13)
    refine ⟨fun u H' => Ext H13 H' ∧ DueR H' (fewestL rows cap) u, ⟨.ref t, rfl, .int cap, rfl, by have z := fewest_call (Q := fun u H' => Ext H13 H' ∧ DueR H' (fewestL rows cap) u) (E := E0) (tb.ext e3d) R (e3d.plain pl3) hcap fun H' u e h => ⟨e, h⟩; exact z⟩, fun u14 H14 h14 => ?_⟩
    obtain ⟨e14, h14⟩ := h14
    refine ⟨fun u H' => Ext H14 H' ∧ DueR H' (fewestL rows cap) u, ⟨.int cap, rfl, .ref t, rfl, .ref t, .int cap, rfl, fewest_call (tb.ext (e3d.trans e14)) R ((e3d.trans e14).plain pl3) hcap fun H' u e h => ⟨e, h⟩⟩, fun u15 H15 h15 => ?_⟩
    obtain ⟨e15, h15⟩ := h15
    refine ⟨by show 2 ≤ sizeLine; decide, fun q16 n16 => ?_⟩
    have e16 : Ext H15 (upd H15 q16 (.lst [u14, u15])) := (Ext.refl H15).then n16 rfl
    have hq16 : (upd H15 q16 (.lst [u14, u15])) q16 = some (.lst [u14, u15]) := upd_same
    generalize (upd H15 q16 (.lst [u14, u15])) = H16 at e16 hq16 ⊢
    refine ⟨.ref q16, rfl, v, rfl, v, rfl, by show 2 ≤ sizeLine; decide, fun q17 n17 => ?_⟩
    have e17 : Ext H16 (upd H16 q17 (.lst [v, v])) := (Ext.refl H16).then n17 rfl
    have hq17 : (upd H16 q17 (.lst [v, v])) q17 = some (.lst [v, v]) := upd_same
    generalize (upd H16 q17 (.lst [v, v])) = H17 at e17 hq17 ⊢
    have v17 := hv.ext (e14.trans (e15.trans (e16.trans e17)))
    have okd : Okd (toldD (fewestL rows cap)) := okd_told fun c hc => by
      have hc := List.mem_of_find?_eq_some hc
      obtain ⟨s1, s2⟩ := sets_sub hc
      have := R.len
      exact ⟨fun l hl => low_cps (R.row l (s1.subset hl)).2.1, by omega, fun l hl => by have := (R.row l (s1.subset hl)).1; have := R.mny; omega⟩
    refine ⟨q16, q17, toldD (fewestL rows cap), rfl, .lst (.inl (.inl (e17.same _ _ hq16))) (.cons (h14.ext (e15.trans (e16.trans e17))).dp (.cons (h15.ext (e16.trans e17)).dp .nil)), .lst (.inl (.inl hq17)) (.cons v17.dp (.cons v17.dp .nil)), okd, fun H18 e18 => ?_⟩
    have e3i : Ext H13 H18 := e14.trans (e15.trans (e16.trans (e17.trans e18)))
    have e9i := e9c.trans (e13.trans e3i)
    refine ⟨true, rfl, iteF ?_⟩
    refine ⟨v, rfl, rfl, _, rfl, ?_⟩
    have v18 := hv.ext e3i
    cases hf : fewestL rows cap with
    | none =>
      rw [hf] at v18
      obtain rfl := v18
      exact iteF ⟨e9i, _, _, _, _, _, _, _, _, rfl⟩
    | some c =>
      rw [hf] at v18
      obtain ⟨rc, rfl, hrc⟩ := v18
      have hcm := List.mem_of_find?_eq_some hf
      have hok : okRoot (rootL (leftOf rows c)) cap = true := List.find?_some (p := fun x => okRoot (rootL (leftOf rows x)) cap) hf
      have e3i' := e39.trans e9i
      have ht18 := e3i'.same _ _ ht
      have hrt18 := e3i'.same _ _ hrt
      refine iteT ⟨.ref t, rfl, t, _, _, .int m, rfl, rfl, .inl (.inl ht18), rfl, .ref t, rfl, t, _, _, .ref rt, rfl, rfl, .inl (.inl ht18), rfl, rt, rfl, ⟨_, .inl (.inl hrt18)⟩, fun D3 hD3 => lcTu rows tx (fun r => if decide (r ∉ c) = true then some r else none) (fun r y _ => y = tx r) (.inl (.inl hrt18)) hD3 (fun _ _ _ _ _ h => h) (line_small (by have := R.len; omega)) (fun ro hro H19 e19 S1 S0 j1 j0 => ⟨rfl, ?_⟩) fun H19 ys19 e19 hDy f19 => ?_⟩
      · refine ⟨tx ro, rfl, .ref rc, rfl, rc, _, rfl, .inr (.inl (.inl (e19.same _ _ hrc))), rfl, flat_tx _, _, rfl, ?_⟩
        rw [inV_tx]
        by_cases hm : ro ∈ c
        · rw [decide_eq_true hm]
          exact iteF (j0 _ (by simp [hm]) (Ext.refl _))
        · rw [decide_eq_false hm]
          exact iteT ⟨tx ro, rfl, j1 ro _ _ (by simp [hm]) (Ext.refl _) rfl⟩
      have ey := f19.eq (vv := tx)
      rw [fm_id (fun r => decide (r ∉ c))] at ey
      have hleft : rows.filter (fun r => decide (r ∉ c)) = leftOf rows c := rfl
      rw [hleft] at ey
      rw [ey] at hDy
      refine ⟨D3, _, rfl, .inl ⟨.inl (.inl hDy), fun lt nlt => ?_⟩⟩
      have e20 : Ext H19 (upd H19 lt (.tup ((leftOf rows c).map tx))) := (Ext.refl H19).then nlt rfl
      have hlt20 : (upd H19 lt (.tup ((leftOf rows c).map tx))) lt = some (.tup ((leftOf rows c).map tx)) := upd_same
      generalize (upd H19 lt (.tup ((leftOf rows c).map tx))) = H20 at e20 hlt20 ⊢
      refine ⟨by show 2 ≤ sizeLine; decide, fun tt ntt => ?_⟩
      have e21 : Ext H20 (upd H20 tt (.tup [.int m, .ref lt])) := (Ext.refl H20).then ntt rfl
      refine ⟨.ref tt, m, leftOf rows c, rfl, TabH.tab ⟨tt, lt, rfl, upd_same, e21.same _ _ hlt20⟩, R.left (sets_sub hcm).2, fun H22 e22 => ?_⟩
      have e9j := e9i.trans (e19.trans (e20.trans (e21.trans e22)))
      cases hroot : rootL (leftOf rows c) with
      | none => rw [hroot] at hok; cases hok
      | some k =>
        rw [hroot] at hok
        have hk : ¬ (cap < (k : Nat)) := by
          have h : (!decide (cap < (k : Nat))) = true := hok
          simpa using h
        refine ⟨.int (k : Nat), rfl, rfl, _, rfl, iteF ⟨.int (k : Nat), rfl, .int cap, rfl, (k : Nat), cap, rfl, rfl, _, rfl, ite2 (fun z => absurd (of_decide_eq_true z) hk) fun _ => ?_⟩⟩
        exact ⟨e9j, _, _, _, _, _, _, _, _, rfl⟩
  · obtain ⟨e10, z7, z8, z9, z10, z11, z12, z13, z14, rfl⟩ := p2
    have e3k := e39.trans e10
    refine ⟨.ref t, rfl, t, tabD m rows, rfl, dpT _ e3k, okT, .str (tabD m rows).shown, rfl, rfl, _, rfl, ?_⟩
    have e : (!decide (V.str (tabD m rows).shown = V.str (tabD m rows).shown)) = false := by rw [decide_eq_true rfl]; rfl
    rw [e]
    exact iteF ⟨e3k.plain pl3, f3.ext e3k, _, _, _, _, _, _, _, _, _, _, _, _, _, rfl⟩
end
end K58
set_option Elab.async false
set_option linter.all false
set_option maxRecDepth 100000
set_option maxHeartbeats 0
namespace K58
open PySem PySem.Spec PyProof.Rows L2
theorem run (w : World) : HandSHeadRun.RunEq R qv hk ob 4000 loose w := by
  intro os
  kernel_rfl
end K58
set_option Elab.async false
set_option linter.all false
set_option maxRecDepth 100000
set_option maxHeartbeats 1000000
/-! The top's facts as the proofs take them; the law called behind the top. -/
namespace K58
open PySem PySem.Spec PyProof.Rows L2
theorem fa_str : He.Fa.str "LETTERS" "abcdefghijklmnopqrstuvwxyz" ∈ fa := by simp [fa]
theorem fa_manies : He.Fa.glo "MANIES" ∈ fa := by simp [fa]
theorem fa_glo {x : Str} (h : x ∈ gnames) : He.Fa.glo x ∈ fa := List.mem_append_left _ (List.mem_append_right _ (List.mem_map.mpr ⟨x, h, rfl⟩))
theorem fa_free {x : Str} (h : x ∈ fnames) : He.Fa.free x ∈ fa := List.mem_append_right _ (List.mem_map.mpr ⟨x, h, rfl⟩)
theorem top_of {w : World} {h : Heap} {K : PySem.W.Frag} {mg : Str → Option Value} (X : K.In h) (G : h.Ns mainGlobals mg) (c : He.SaysX fa fn [] [] ex w h K) : Top K mg where
  glo := fun x hx => He.glo_ok X G (c.t.d.facts (fa_glo hx))
  free := fun x hx => He.free_ok X G (c.t.d.facts (fa_free hx))
  letters := He.str_ok X G (c.t.d.facts fa_str)
  manies := He.glo_ok X G (c.t.d.facts fa_manies)
  many2 := fun H => He.tupB_ok (vs := [.int 2, .int 3]) c.more H
  fn := fun d hd => c.t.d.defs hd
/-- what is told of the script ahead of the law -/
structure Laid (P : Program) (w : World) (K : PySem.W.Frag) (h : Heap) (a : Addr) (ns : List Int) (H : Hp) : Prop where
  only : ∀ b u, H b = some u → b = a ∧ K.lookup a = none ∧ ∃ o xs, u = .frz o (.lst xs) ∧ h.get? a = some o
  seen : SqL K H a (ns.map V.int)
  ok : HOk P w H h
theorem laid {P : Program} {w : World} {K : PySem.W.Frag} {h : Heap} {a : Addr} {vs : List Value} {ns : List Int} (KX : K.In h) (ha : h.get? a = some { cls := .type "list", data := .seq vs.toArray }) (hi : IntsAre vs ns) (hl : ns.length ≤ sizeLine) :
    ∃ H, Laid P w K h a ns H := by
  have rv := vals_ints hi
  have len : (ns.map V.int).length ≤ sizeLine := by rw [List.length_map]; exact hl
  cases known : K.lookup a with
  | none =>
    refine ⟨upd (fun _ => none) a (.frz { cls := .type "list", data := .seq vs.toArray } (.lst (ns.map V.int))), ?_, .inl (.inr ⟨_, upd_same⟩), ?_⟩
    · intro b u e
      by_cases z : b = a
      · subst z
        rw [upd_same] at e
        cases e
        exact ⟨rfl, known, _, _, rfl, ha⟩
      · rw [upd_ne z] at e; cases e
    · intro b u e
      by_cases z : b = a
      · subst z
        rw [upd_same] at e
        cases e
        exact ⟨ha, len, vs, _, rv, ha⟩
      · rw [upd_ne z] at e; cases e
  | some o =>
    have e := KX a o known
    rw [ha] at e
    obtain rfl := Option.some.inj e
    exact ⟨fun _ => none, fun _ _ e => (nomatch e), .inr ⟨_, _, _, known, rfl, rfl, rfl, by have := hi.length; rw [List.size_toArray]; omega, by simpa using rv⟩, fun _ _ e => (nomatch e)⟩
theorem law_run {P : Program} {w : World} {K : PySem.W.Frag} {mg mb : Str → Option Value} {fa a : Addr} {s₁ : Shared} {vs : List Value} {ns : List Int} (T : Top K mg) (KX : K.In s₁.heap) (hns : s₁.heap.Ns mainGlobals mg) (hb : s₁.heap.Ns builtinsNs mb)
    (hbb : ∀ x : Str, x ≠ "__name__" → mb x = bootBuiltins x) (hlim : s₁.heap.NoLimit) (hg : s₁.gens = #[]) (ha : s₁.heap.get? a = some { cls := .type "list", data := .seq vs.toArray }) (hi : IntsAre vs ns) (hl : ns.length ≤ 63) (hfa : mg "law" = some (.ref fa)) :
    codeAny (model P w) callerA (.call (.ref fa) ⟨[.ref a], []⟩) (fun r s' => r = .ok (.ret (.bool true)) ∧ OldK s₁.heap s'.heap ∧ s'.os = s₁.os ∧ AllBare s'.gens) s₁ := by
  obtain ⟨H, L⟩ := laid (P := P) (w := w) KX ha hi (Nat.le_trans hl (by decide))
  -- an object that is no list is not told of
  have noDict : ∀ {b : Addr} {o : Obj} {es : Array DictEntry} {ep : Nat}, s₁.heap.get? b = some o → o.data = .dict es ep → H b = none := by
    intro b o es ep e d
    cases q : H b with
    | none => rfl
    | some u =>
      obtain ⟨rfl, _⟩ := L.only b u q
      rw [ha] at e
      obtain rfl := Option.some.inj e
      exact nomatch (show Data.seq vs.toArray _ = Data.dict es ep from d)
  have nsB : ∀ {b : Addr} {m : Str → Option Value}, s₁.heap.Ns b m → (hidT s₁.heap H).Ns b m := by
    rintro b m ⟨o, es, ep, e, d, r⟩
    exact ⟨o, es, ep, hidT_get e (noDict e d), d, r⟩
  have kB : K.In (hidT s₁.heap H) := by
    intro b o e
    refine hidT_get (KX b o e) ?_
    cases q : H b with
    | none => rfl
    | some u =>
      obtain ⟨rfl, kn, _⟩ := L.only b u q
      rw [kn] at e; cases e
  obtain ⟨mc, lim1, lim2⟩ := hlim
  have e0 : Env0 P w K mg (hidT s₁.heap H) callerA [] s₁ H := {
    frames := rfl
    mod := ⟨kB, nsB hns, ⟨mb, nsB hb, hbb⟩, mc, nsB lim1, lim2⟩
    bs := fun b o e => of_hidT e
    bsz := Nat.le_of_eq (hidT_size _ _)
    funs := trivial
    frf := fun b z => nomatch (show b ∈ ([] : List Addr) from z)
    hok := L.ok
    bare := .of_eq hg }
  have pl : PlainHp H := by
    intro b u e
    obtain ⟨_, _, o, xs, rfl, _⟩ := L.only b u e
    rfl
  have G := h_law (P := P) (w := w) (base := hidT s₁.heap H) T
  obtain ⟨fd, F, bind⟩ := G.ex
  have efa : fa = He.ga K "law" := by
    have z := hfa.symm.trans G.at_
    exact Value.ref.inj (Option.some.inj z)
  subst efa
  have room : Room 22 callerA := ⟨rfl, by decide, by decide⟩
  refine codeAny_mono (F.run callerA [] s₁ H ⟨[.ref a], []⟩ [.ref a] [.ref a] (fun v _ => v = .bl true) E0 room rfl e0 (bind s₁ [.ref a] KX rfl) (.cons rfl .nil) ⟨a, ns, rfl, L.seen, hl, pl, fun _ => rfl⟩) ?_
  intro r s' h
  match r, h with
  | .error _, h => exact False.elim h
  | .ok (.ret u), h =>
    obtain ⟨v, H', os, bare, un, hok', rel, rfl⟩ := h
    have eu : u = .bool true := rel
    subst eu
    refine ⟨rfl, OldK.of_keep ?_, os, bare⟩
    intro b o e
    cases q : H b with
    | none => exact un.keep b o e q (fun z => nomatch (show b ∈ ([] : List Addr) from z)) (fun z => nomatch z)
    | some u =>
      obtain ⟨rfl, _, o2, xs, rfl, e2⟩ := L.only b u q
      rw [e] at e2
      obtain rfl := Option.some.inj e2
      exact (hok' _ _ (un.frzs _ _ _ q)).1
end K58
set_option Elab.async false
set_option linter.all false
set_option maxRecDepth 100000
set_option maxHeartbeats 0
open PySem PySem.W PySem.Calls PyProof.Rows
theorem PySem.Challenge.cw_lookdepth_k58_whole_fewest_out_holds : PySem.Challenge.rw_lookdepth_k58_whole_fewest_out.Holds := by
  w_on; o_law
  refine HandSHeadRun.head_any (r := OpenLaw.row PySem.Challenge.rw_lookdepth_k58_whole_fewest_out) (q := view (OpenLaw.row PySem.Challenge.rw_lookdepth_k58_whole_fewest_out).prog [82]) (H := K58.hk) (ob := K58.ob) (M := 4000) (loose := K58.loose) (d := HandSHeadRun.topDef (OpenLaw.row PySem.Challenge.rw_lookdepth_k58_whole_fewest_out).prog 82) (kwd := []) K58.ob_eq
    (by kernel_rfl) (fun s => by kernel_rfl) K58.run (by kernel_rfl) (by kernel_rfl) (by kernel_rfl) (by rfl) (by first | assumption | decide +kernel) (by decide +kernel) ⟨rfl, rfl, rfl, rfl, rfl, by decide +kernel⟩ ?hw ?hc
  case hw => w_witness2
  case hc =>
    refine Att.attach_call (n := 63) rfl (by kernel_rfl) fun w s₀ s₁ mg mb fa o pm cd doc a vs ns G Y ho hd hcd hmg hobj hints hlen hg => ?_
    obtain ⟨K, KX, c⟩ := Y
    have hfa : mg ("law" : PySem.Str) = some (.ref fa) := by
      have e : (HandSHeadRun.topDef (OpenLaw.row PySem.Challenge.rw_lookdepth_k58_whole_fewest_out).prog 82).name = ("law" : PySem.Str) := by kernel_rfl
      rw [← e]
      exact hmg
    exact K58.law_run (K58.top_of KX G.T.g c) KX G.T.g G.T.b G.T.builtins G.T.nolimit hg hobj hints hlen hfa
