import PyProof.Rows.All
import Wide.All
import OpenK.AllK
import Wide.FinOn
import PySem.Challenge.RW_latchroads_k36_whole_undoings
import HandS.ForMost
import HandS.ForExc
import HandS.Style
import HandS.TupAny
import HandS.TupMul
import HandS.IsInst
import HandS.Strs
import HandS.SetFor
import HandS.Zip
import HandS.Conv
import HandS.Lambda
import HandS.ExcField
import HandS.ExcInit
import HandS.ExcSuper
import HandS.EndTab
import HandS.SortInts
import HandS.Flow
import KE.KDictKeyed
import KE.KDictDisplayH
import KE.KDictLaw
import KE.KeyNested
import KE.SortData
import KE.KExcSuper
import KE.GoesMore
import HandS.Head0
import HandS.Head1
import HandS.Head2
import HandS.HeadEnd
import HandS.HeadHook1
import HandS.HeadHook2
import HandS.HeadHook3
import HandS.HeadHook4
import HandS.HeadWalk
set_option Elab.async false
set_option linter.all false
set_option maxRecDepth 100000
set_option maxHeartbeats 4000000
namespace K36
open PySem PySem.Spec PyProof.Rows L2
/-! ### the text -/
def topS (i : Nat) : Stmt := PySem.Challenge.pw_latchroads_k36_whole_undoings.main.body.getD i (.Pass ⟨0, 0, 0, 0⟩)
abbrev s_is_whole : Stmt := topS 9
abbrev n_is_whole : List Str := ["value", "low", "high"]
theorem c_is_whole : FnScope n_is_whole ["value", "low", "high"] (defScope s_is_whole) := ⟨rfl, rfl, rfl, by decide +kernel, rfl, by decide +kernel, by decide +kernel⟩
abbrev s_is_tuple_of : Stmt := topS 10
abbrev n_is_tuple_of : List Str := ["value", "low", "high"]
theorem c_is_tuple_of : FnScope n_is_tuple_of ["value", "low", "high"] (defScope s_is_tuple_of) := ⟨rfl, rfl, rfl, by decide +kernel, rfl, by decide +kernel, by decide +kernel⟩
abbrev s_fits_pair_kinds : Stmt := topS 11
abbrev n_fits_pair_kinds : List Str := ["value", "settings", "sorts"]
theorem c_fits_pair_kinds : FnScope n_fits_pair_kinds ["value", "settings", "sorts"] (defScope s_fits_pair_kinds) := ⟨rfl, rfl, rfl, by decide +kernel, rfl, by decide +kernel, by decide +kernel⟩
abbrev s_fits_kind : Stmt := topS 13
abbrev n_fits_kind : List Str := ["value", "settings", "sorts", "row", "pair"]
theorem c_fits_kind : FnScope n_fits_kind ["value"] (defScope s_fits_kind) := ⟨rfl, rfl, rfl, by decide +kernel, rfl, by decide +kernel, by decide +kernel⟩
abbrev s_settings_in : Stmt := topS 14
abbrev n_settings_in : List Str := ["kind"]
theorem c_settings_in : FnScope n_settings_in ["kind"] (defScope s_settings_in) := ⟨rfl, rfl, rfl, by decide +kernel, rfl, by decide +kernel, by decide +kernel⟩
abbrev s_fits_train : Stmt := topS 15
abbrev n_fits_train : List Str := ["kind", "value", "sort"]
theorem c_fits_train : FnScope n_fits_train ["kind", "value"] (defScope s_fits_train) := ⟨rfl, rfl, rfl, by decide +kernel, rfl, by decide +kernel, by decide +kernel⟩
abbrev s_need_kind : Stmt := topS 16
abbrev n_need_kind : List Str := ["value"]
theorem c_need_kind : FnScope n_need_kind ["value"] (defScope s_need_kind) := ⟨rfl, rfl, rfl, by decide +kernel, rfl, by decide +kernel, by decide +kernel⟩
abbrev s_need_train : Stmt := topS 17
abbrev n_need_train : List Str := ["kind", "value"]
theorem c_need_train : FnScope n_need_train ["kind", "value"] (defScope s_need_train) := ⟨rfl, rfl, rfl, by decide +kernel, rfl, by decide +kernel, by decide +kernel⟩
abbrev s_latch_passed : Stmt := topS 19
abbrev n_latch_passed : List Str := ["kind", "train", "setting", "found", "sort", "there"]
theorem c_latch_passed : FnScope n_latch_passed ["kind", "train", "setting"] (defScope s_latch_passed) := ⟨rfl, rfl, rfl, by decide +kernel, rfl, by decide +kernel, by decide +kernel⟩
abbrev s_roads_from : Stmt := topS 22
abbrev n_roads_from : List Str := ["kind", "train", "found", "line", "here", "setting", "there"]
theorem c_roads_from : FnScope n_roads_from ["kind", "train"] (defScope s_roads_from) := ⟨rfl, rfl, rfl, by decide +kernel, rfl, by decide +kernel, by decide +kernel⟩
abbrev s_need_few : Stmt := topS 23
abbrev n_need_few : List Str := ["roads"]
theorem c_need_few : FnScope n_need_few ["roads"] (defScope s_need_few) := ⟨rfl, rfl, rfl, by decide +kernel, rfl, by decide +kernel, by decide +kernel⟩
abbrev s_is_losing : Stmt := topS 25
abbrev n_is_losing : List Str := ["row", "pair"]
theorem c_is_losing : FnScope n_is_losing ["row"] (defScope s_is_losing) := ⟨rfl, rfl, rfl, by decide +kernel, rfl, by decide +kernel, by decide +kernel⟩
abbrev s_sorts_within : Stmt := topS 26
abbrev n_sorts_within : List Str := ["kind", "train", "sort", "come"]
theorem c_sorts_within : FnScope n_sorts_within ["kind", "train"] (defScope s_sorts_within) := ⟨rfl, rfl, rfl, by decide +kernel, rfl, by decide +kernel, by decide +kernel⟩
abbrev s_keeps_all : Stmt := topS 27
abbrev n_keeps_all : List Str := ["kind", "train", "sort"]
theorem c_keeps_all : FnScope n_keeps_all ["kind", "train"] (defScope s_keeps_all) := ⟨rfl, rfl, rfl, by decide +kernel, rfl, by decide +kernel, by decide +kernel⟩
abbrev s_undone_row : Stmt := topS 30
abbrev n_undone_row : List Str := ["row", "sorts", "lefts", "pair", "left"]
theorem c_undone_row : FnScope n_undone_row ["row", "sorts"] (defScope s_undone_row) := ⟨rfl, rfl, rfl, by decide +kernel, rfl, by decide +kernel, by decide +kernel⟩
abbrev s_undoing_by : Stmt := topS 31
abbrev n_undoing_by : List Str := ["kind", "train", "sorts", "rows", "setting", "sort"]
theorem c_undoing_by : FnScope n_undoing_by ["kind", "train"] (defScope s_undoing_by) := ⟨rfl, rfl, rfl, by decide +kernel, rfl, by decide +kernel, by decide +kernel⟩
abbrev s_behind_both : Stmt := topS 32
abbrev n_behind_both : List Str := ["kind", "beside", "pair", "setting", "left", "there", "last", "where"]
theorem c_behind_both : FnScope n_behind_both ["kind", "beside", "pair", "setting"] (defScope s_behind_both) := ⟨rfl, rfl, rfl, by decide +kernel, rfl, by decide +kernel, by decide +kernel⟩
abbrev s_unlike_road : Stmt := topS 33
abbrev n_unlike_road : List Str := ["kind", "beside", "pair", "roads", "line", "unlike", "here", "setting", "last", "there", "road"]
theorem c_unlike_road : FnScope n_unlike_road ["kind", "beside", "pair"] (defScope s_unlike_road) := ⟨rfl, rfl, rfl, by decide +kernel, rfl, by decide +kernel, by decide +kernel⟩
abbrev s_fits_pair_undoings : Stmt := topS 34
abbrev n_fits_pair_undoings : List Str := ["kind", "value"]
theorem c_fits_pair_undoings : FnScope n_fits_pair_undoings ["kind", "value"] (defScope s_fits_pair_undoings) := ⟨rfl, rfl, rfl, by decide +kernel, rfl, by decide +kernel, by decide +kernel⟩
abbrev s_undoing_of : Stmt := topS 36
abbrev n_undoing_of : List Str := ["kind", "train"]
theorem c_undoing_of : FnScope n_undoing_of ["kind", "train"] (defScope s_undoing_of) := ⟨rfl, rfl, rfl, by decide +kernel, rfl, by decide +kernel, by decide +kernel⟩
abbrev s_is_undoing : Stmt := topS 37
abbrev n_is_undoing : List Str := ["kind", "train", "value"]
theorem c_is_undoing : FnScope n_is_undoing ["kind", "train", "value"] (defScope s_is_undoing) := ⟨rfl, rfl, rfl, by decide +kernel, rfl, by decide +kernel, by decide +kernel⟩
abbrev s_law_cup : Stmt := topS 39
abbrev n_law_cup : List Str := ["_law_script", "_law_cell"]
theorem c_law_cup : FnScope n_law_cup ["_law_script"] (defScope s_law_cup) := ⟨rfl, rfl, rfl, by decide +kernel, rfl, by decide +kernel, by decide +kernel⟩
abbrev s_law_roll : Stmt := topS 40
abbrev n_law_roll : List Str := ["_law_cup_here", "_law_many", "_law_found", "_law_deep"]
theorem c_law_roll : FnScope n_law_roll ["_law_cup_here", "_law_many"] (defScope s_law_roll) := ⟨rfl, rfl, rfl, by decide +kernel, rfl, by decide +kernel, by decide +kernel⟩
abbrev s_law_some : Stmt := topS 41
abbrev n_law_some : List Str := ["_law_cup_here", "_law_things"]
theorem c_law_some : FnScope n_law_some ["_law_cup_here", "_law_things"] (defScope s_law_some) := ⟨rfl, rfl, rfl, by decide +kernel, rfl, by decide +kernel, by decide +kernel⟩
abbrev s_law_are_whole : Stmt := topS 42
abbrev n_law_are_whole : List Str := ["_law_value", "_law_low", "_law_high", "_law_one"]
theorem c_law_are_whole : FnScope n_law_are_whole ["_law_value", "_law_low", "_law_high"] (defScope s_law_are_whole) := ⟨rfl, rfl, rfl, by decide +kernel, rfl, by decide +kernel, by decide +kernel⟩
abbrev s_law_is_kind : Stmt := topS 43
abbrev n_law_is_kind : List Str := ["_law_value", "_law_row", "_law_pair"]
theorem c_law_is_kind : FnScope n_law_is_kind ["_law_value"] (defScope s_law_is_kind) := ⟨rfl, rfl, rfl, by decide +kernel, rfl, by decide +kernel, by decide +kernel⟩
abbrev s_law_walked : Stmt := topS 44
abbrev n_law_walked : List Str := ["_law_kind_here", "_law_sort", "_law_road", "_law_found", "_law_setting", "_law_left"]
theorem c_law_walked : FnScope n_law_walked ["_law_kind_here", "_law_sort", "_law_road"] (defScope s_law_walked) := ⟨rfl, rfl, rfl, by decide +kernel, rfl, by decide +kernel, by decide +kernel⟩
abbrev s_law_passed : Stmt := topS 45
abbrev n_law_passed : List Str := ["_law_kind_here", "_law_train_here", "_law_road", "_law_found", "_law_sort", "_law_there"]
theorem c_law_passed : FnScope n_law_passed ["_law_kind_here", "_law_train_here", "_law_road"] (defScope s_law_passed) := ⟨rfl, rfl, rfl, by decide +kernel, rfl, by decide +kernel, by decide +kernel⟩
abbrev s_law_latch : Stmt := topS 46
abbrev n_law_latch : List Str := ["_law_kind_here", "_law_train_here", "_law_setting", "_law_road", "_law_there"]
theorem c_law_latch : FnScope n_law_latch ["_law_kind_here", "_law_train_here", "_law_setting"] (defScope s_law_latch) := ⟨rfl, rfl, rfl, by decide +kernel, rfl, by decide +kernel, by decide +kernel⟩
abbrev s_law_unlike : Stmt := topS 47
abbrev n_law_unlike : List Str := ["_law_kind_here", "_law_beside", "_law_train_here", "_law_other", "_law_found", "_law_line", "_law_told", "_law_here", "_law_setting", "_law_left", "_law_there", "_law_last", "_law_where"]
theorem c_law_unlike : FnScope n_law_unlike ["_law_kind_here", "_law_beside", "_law_train_here", "_law_other"] (defScope s_law_unlike) := ⟨rfl, rfl, rfl, by decide +kernel, rfl, by decide +kernel, by decide +kernel⟩
abbrev s_law_lot : Stmt := topS 48
abbrev n_law_lot : List Str := ["_law_kind_here", "_law_train_here", "_law_most", "_law_found", "_law_line", "_law_here", "_law_setting", "_law_there"]
theorem c_law_lot : FnScope n_law_lot ["_law_kind_here", "_law_train_here", "_law_most"] (defScope s_law_lot) := ⟨rfl, rfl, rfl, by decide +kernel, rfl, by decide +kernel, by decide +kernel⟩
abbrev s_law_loses_at : Stmt := topS 49
abbrev n_law_loses_at : List Str := ["_law_kind_here", "_law_train_here", "_law_roads", "_law_found", "_law_one", "_law_lefts", "_law_setting"]
theorem c_law_loses_at : FnScope n_law_loses_at ["_law_kind_here", "_law_train_here"] (defScope s_law_loses_at) := ⟨rfl, rfl, rfl, by decide +kernel, rfl, by decide +kernel, by decide +kernel⟩
abbrev s_law_asked : Stmt := topS 50
abbrev n_law_asked : List Str := ["_law_call", "error"]
theorem c_law_asked : FnScope n_law_asked ["_law_call"] (defScope s_law_asked) := ⟨rfl, rfl, rfl, by decide +kernel, rfl, by decide +kernel, by decide +kernel⟩
abbrev s_law_up : Stmt := topS 51
abbrev n_law_up : List Str := []
theorem c_law_up : FnScope n_law_up [] (defScope s_law_up) := ⟨rfl, rfl, rfl, by decide +kernel, rfl, by decide +kernel, by decide +kernel⟩
abbrev s_law_known_kind : Stmt := topS 52
abbrev n_law_known_kind : List Str := ["_law_cup_here", "_law_some_here"]
theorem c_law_known_kind : FnScope n_law_known_kind ["_law_cup_here"] (defScope s_law_known_kind) := ⟨rfl, rfl, rfl, by decide +kernel, rfl, by decide +kernel, by decide +kernel⟩
abbrev s_law_any_kind : Stmt := topS 53
abbrev n_law_any_kind : List Str := ["_law_cup_here", "_law_settings", "_law_sorts", "_law_rows", "_law_sort", "_law_setting"]
theorem c_law_any_kind : FnScope n_law_any_kind ["_law_cup_here", "_law_settings", "_law_sorts"] (defScope s_law_any_kind) := ⟨rfl, rfl, rfl, by decide +kernel, rfl, by decide +kernel, by decide +kernel⟩
abbrev s_law_turning_kind : Stmt := topS 54
abbrev n_law_turning_kind : List Str := ["_law_cup_here", "_law_settings", "_law_sorts", "_law_found", "_law_sort", "_law_turn", "_law_setting"]
theorem c_law_turning_kind : FnScope n_law_turning_kind ["_law_cup_here", "_law_settings", "_law_sorts"] (defScope s_law_turning_kind) := ⟨rfl, rfl, rfl, by decide +kernel, rfl, by decide +kernel, by decide +kernel⟩
abbrev s_law_order : Stmt := topS 55
abbrev n_law_order : List Str := ["_law_cup_here", "_law_many", "_law_left", "_law_found", "_law_turn"]
theorem c_law_order : FnScope n_law_order ["_law_cup_here", "_law_many"] (defScope s_law_order) := ⟨rfl, rfl, rfl, by decide +kernel, rfl, by decide +kernel, by decide +kernel⟩
abbrev s_law_even_kind : Stmt := topS 56
abbrev n_law_even_kind : List Str := ["_law_cup_here", "_law_settings", "_law_sorts", "_law_found", "_law_sort", "_law_order_here", "_law_left"]
theorem c_law_even_kind : FnScope n_law_even_kind ["_law_cup_here", "_law_settings", "_law_sorts"] (defScope s_law_even_kind) := ⟨rfl, rfl, rfl, by decide +kernel, rfl, by decide +kernel, by decide +kernel⟩
abbrev s_law_still_kind : Stmt := topS 57
abbrev n_law_still_kind : List Str := ["_law_cup_here", "_law_settings", "_law_sorts", "_law_found", "_law_sort", "_law_row", "_law_setting", "_law_there"]
theorem c_law_still_kind : FnScope n_law_still_kind ["_law_cup_here", "_law_settings", "_law_sorts"] (defScope s_law_still_kind) := ⟨rfl, rfl, rfl, by decide +kernel, rfl, by decide +kernel, by decide +kernel⟩
abbrev s_law_kind : Stmt := topS 58
abbrev n_law_kind : List Str := ["_law_cup_here", "_law_settings", "_law_sorts", "_law_way"]
theorem c_law_kind : FnScope n_law_kind ["_law_cup_here"] (defScope s_law_kind) := ⟨rfl, rfl, rfl, by decide +kernel, rfl, by decide +kernel, by decide +kernel⟩
abbrev s_law_train : Stmt := topS 59
abbrev n_law_train : List Str := ["_law_cup_here", "_law_kind_here", "_law_most", "_law_walker"]
theorem c_law_train : FnScope n_law_train ["_law_cup_here", "_law_kind_here", "_law_most"] (defScope s_law_train) := ⟨rfl, rfl, rfl, by decide +kernel, rfl, by decide +kernel, by decide +kernel⟩
abbrev s_law_pair_of : Stmt := topS 60
abbrev n_law_pair_of : List Str := ["_law_cup_here", "_law_kind_here"]
theorem c_law_pair_of : FnScope n_law_pair_of ["_law_cup_here"] (defScope s_law_pair_of) := ⟨rfl, rfl, rfl, by decide +kernel, rfl, by decide +kernel, by decide +kernel⟩
abbrev s_law_back : Stmt := topS 61
abbrev n_law_back : List Str := ["_law_kind_here", "_law_train_here", "_law_rows", "_law_sort", "_law_row", "_law_setting", "_law_pair"]
theorem c_law_back : FnScope n_law_back ["_law_kind_here", "_law_train_here"] (defScope s_law_back) := ⟨rfl, rfl, rfl, by decide +kernel, rfl, by decide +kernel, by decide +kernel⟩
abbrev s_law_loses : Stmt := topS 62
abbrev n_law_loses : List Str := []
theorem c_law_loses : FnScope n_law_loses [] (defScope s_law_loses) := ⟨rfl, rfl, rfl, by decide +kernel, rfl, by decide +kernel, by decide +kernel⟩
abbrev s_law_is_undoing : Stmt := topS 63
abbrev n_law_is_undoing : List Str := ["_law_kind_here", "_law_train_here", "_law_value", "_law_told"]
theorem c_law_is_undoing : FnScope n_law_is_undoing ["_law_kind_here", "_law_train_here", "_law_value"] (defScope s_law_is_undoing) := ⟨rfl, rfl, rfl, by decide +kernel, rfl, by decide +kernel, by decide +kernel⟩
abbrev s_law_bent : Stmt := topS 64
abbrev n_law_bent : List Str := ["_law_cup_here", "_law_value", "_law_kind_here", "_law_train_here", "_law_at", "_law_place", "_law_odd", "_law_pair", "_law_row", "_law_bent_here"]
theorem c_law_bent : FnScope n_law_bent ["_law_cup_here", "_law_value"] (defScope s_law_bent) := ⟨rfl, rfl, rfl, by decide +kernel, rfl, by decide +kernel, by decide +kernel⟩
abbrev s_law_right : Stmt := topS 65
abbrev n_law_right : List Str := ["_law_cup_here", "_law_kind_here", "_law_train_here", "_law_told", "_law_own", "_law_value", "_law_known"]
theorem c_law_right : FnScope n_law_right ["_law_cup_here", "_law_kind_here", "_law_train_here"] (defScope s_law_right) := ⟨rfl, rfl, rfl, by decide +kernel, rfl, by decide +kernel, by decide +kernel⟩
abbrev s_law : Stmt := topS 66
abbrev n_law : List Str := ["_law_script", "_law_cup_here", "_law_turn", "_law_kind_here", "_law_train_here", "_law_rest", "_law_even", "_law_other", "_law_up_here", "_law_back_here", "_law_wheel"]
theorem c_law : FnScope n_law ["_law_script"] (defScope s_law) := ⟨rfl, rfl, rfl, by decide +kernel, rfl, by decide +kernel, by decide +kernel⟩
end K36
set_option Elab.async false
set_option linter.all false
set_option maxRecDepth 100000
set_option maxHeartbeats 4000000
namespace K36
open PySem PySem.Spec PyProof.Rows L2
/-! ### data over the abstract heap -/
mutual
def DV (H : Hp) : PyData → V → Prop
  | .none, v => v = .non
  | .bool b, v => v = .bl b
  | .int i, v => v = .int i
  | .str x, v => v = .str x
  | .list ds, v => ∃ a xs, v = .ref a ∧ H a = some (.lst xs) ∧ DVs H ds xs
  | .tuple ds, v => ∃ a xs, v = .ref a ∧ H a = some (.tup xs) ∧ DVs H ds xs
  | .dict _, _ => False
def DVs (H : Hp) : List PyData → List V → Prop
  | [], vs => vs = []
  | d :: ds, vs => ∃ v r, vs = v :: r ∧ DV H d v ∧ DVs H ds r
end
mutual
theorem DV.same {H H' : Hp} (e : Same H H') : ∀ {d : PyData} {v : V}, DV H d v → DV H' d v
  | .none, _, h => h
  | .bool _, _, h => h
  | .int _, _, h => h
  | .str _, _, h => h
  | .list ds, _, h => by
    obtain ⟨a, xs, h1, h2, h3⟩ := h
    exact ⟨a, xs, h1, e _ _ h2, DVs.same e h3⟩
  | .tuple ds, _, h => by
    obtain ⟨a, xs, h1, h2, h3⟩ := h
    exact ⟨a, xs, h1, e _ _ h2, DVs.same e h3⟩
  | .dict _, _, h => h
theorem DVs.same {H H' : Hp} (e : Same H H') : ∀ {ds : List PyData} {vs : List V}, DVs H ds vs → DVs H' ds vs
  | [], _, h => h
  | d :: ds, _, h => by
    obtain ⟨v, r, h1, h2, h3⟩ := h
    exact ⟨v, r, h1, DV.same e h2, DVs.same e h3⟩
end
mutual
theorem DV.dp {K : PySem.W.Frag} {H : Hp} : ∀ {d : PyData} {v : V}, DV H d v → Dp K H v d
  | .none, _, h => by cases (show _ = V.non from h); exact .non
  | .bool b, _, h => by cases (show _ = V.bl b from h); exact .bl b
  | .int i, _, h => by cases (show _ = V.int i from h); exact .int i
  | .str x, _, h => by cases (show _ = V.str x from h); exact .str x
  | .list ds, _, h => by
    obtain ⟨a, xs, rfl, h2, h3⟩ := h
    exact .lst (SqL.of h2) (DVs.dp h3)
  | .tuple ds, _, h => by
    obtain ⟨a, xs, rfl, h2, h3⟩ := h
    exact .tup (SqT.of h2) (DVs.dp h3)
  | .dict _, _, h => h.elim
theorem DVs.dp {K : PySem.W.Frag} {H : Hp} : ∀ {ds : List PyData} {vs : List V}, DVs H ds vs → DpAll K H vs ds
  | [], _, h => by cases (show _ = ([] : List V) from h); exact .nil
  | d :: ds, _, h => by
    obtain ⟨v, r, rfl, h2, h3⟩ := h
    exact .cons (DV.dp h2) (DVs.dp h3)
end
theorem DVs.length {H : Hp} : ∀ {ds : List PyData} {vs : List V}, DVs H ds vs → vs.length = ds.length
  | [], _, h => by cases (show _ = ([] : List V) from h); rfl
  | d :: ds, _, h => by
    obtain ⟨v, r, rfl, _, h3⟩ := h
    rw [List.length_cons, List.length_cons, DVs.length h3]
theorem DVs.get {H : Hp} : ∀ {ds : List PyData} {vs : List V} {i : Nat} {d : PyData}, DVs H ds vs → ds[i]? = some d → ∃ v, vs[i]? = some v ∧ DV H d v
  | [], _, _, _, h, e => by simp at e
  | d :: ds, _, 0, d', h, e => by
    obtain ⟨v, r, rfl, h2, _⟩ := h
    cases Option.some.inj e
    exact ⟨v, rfl, h2⟩
  | d :: ds, _, i + 1, d', h, e => by
    obtain ⟨v, r, rfl, _, h3⟩ := h
    exact DVs.get (i := i) h3 e
theorem DVs.getV {H : Hp} {ds : List PyData} {vs : List V} {i : Nat} {v : V} (h : DVs H ds vs) (e : vs[i]? = some v) : ∃ d, ds[i]? = some d ∧ DV H d v := by
  have hi : i < vs.length := (List.getElem?_eq_some_iff.mp e).1
  rw [h.length] at hi
  obtain ⟨v', e', q⟩ := h.get (List.getElem?_eq_getElem hi)
  rw [e] at e'
  cases e'
  exact ⟨_, List.getElem?_eq_getElem hi, q⟩
theorem DVs.append {H : Hp} : ∀ {ds es : List PyData} {vs us : List V}, DVs H ds vs → DVs H es us → DVs H (ds ++ es) (vs ++ us)
  | [], _, _, _, h, q => by cases (show _ = ([] : List V) from h); exact q
  | d :: ds, _, _, _, h, q => by
    obtain ⟨v, r, rfl, h2, h3⟩ := h
    exact ⟨v, r ++ _, rfl, h2, DVs.append h3 q⟩
theorem DVs.one {H : Hp} {d : PyData} {v : V} (h : DV H d v) : DVs H [d] [v] := ⟨v, [], rfl, h, rfl⟩
theorem DVs.take {H : Hp} : ∀ {ds : List PyData} {vs : List V} (n : Nat), DVs H ds vs → DVs H (ds.take n) (vs.take n)
  | [], _, n, h => by cases (show _ = ([] : List V) from h); rw [List.take_nil, List.take_nil]; rfl
  | d :: ds, _, 0, h => rfl
  | d :: ds, _, n + 1, h => by
    obtain ⟨v, r, rfl, h2, h3⟩ := h
    exact ⟨v, _, rfl, h2, DVs.take n h3⟩
theorem DVs.drop {H : Hp} : ∀ {ds : List PyData} {vs : List V} (n : Nat), DVs H ds vs → DVs H (ds.drop n) (vs.drop n)
  | [], _, n, h => by cases (show _ = ([] : List V) from h); rw [List.drop_nil, List.drop_nil]; rfl
  | d :: ds, _, 0, h => h
  | d :: ds, _, n + 1, h => by
    obtain ⟨v, r, rfl, h2, h3⟩ := h
    exact DVs.drop n h3
theorem DVs.reverse {H : Hp} : ∀ {ds : List PyData} {vs : List V}, DVs H ds vs → DVs H ds.reverse vs.reverse
  | [], _, h => by cases (show _ = ([] : List V) from h); rfl
  | d :: ds, _, h => by
    obtain ⟨v, r, rfl, h2, h3⟩ := h
    rw [List.reverse_cons, List.reverse_cons]
    exact DVs.append (DVs.reverse h3) (DVs.one h2)
/-- ints -/
def nD (n : Nat) : PyData := .int (n : Int)
def nV (n : Nat) : V := .int (n : Int)
theorem DVs.nats {H : Hp} : ∀ {ns : List Nat} {vs : List V}, DVs H (ns.map nD) vs ↔ vs = ns.map nV
  | [], vs => Iff.rfl
  | n :: ns, vs => by
    constructor
    · rintro ⟨v, r, rfl, h2, h3⟩
      cases (show v = V.int (n : Int) from h2)
      rw [DVs.nats.mp h3]
      rfl
    · intro e
      exact ⟨nV n, ns.map nV, e, rfl, DVs.nats.mpr rfl⟩
/-! ### kinds, trains, as data -/
abbrev Row := List (Nat × Nat)
abbrev Kd := List Row
abbrev Tr := List Nat
def dP (p : Nat × Nat) : PyData := .tuple [nD p.1, nD p.2]
def dR (r : Row) : PyData := .tuple (r.map dP)
def dK (k : Kd) : PyData := .tuple (k.map dR)
def dT (t : Tr) : PyData := .tuple (t.map nD)
theorem DV.tr {H : Hp} {t : Tr} {v : V} : DV H (dT t) v ↔ ∃ a, v = .ref a ∧ H a = some (.tup (t.map nV)) := by
  constructor
  · rintro ⟨a, xs, rfl, h2, h3⟩
    rw [DVs.nats.mp h3] at h2
    exact ⟨a, rfl, h2⟩
  · rintro ⟨a, rfl, h⟩
    exact ⟨a, _, rfl, h, DVs.nats.mpr rfl⟩
theorem DV.pr {H : Hp} {p : Nat × Nat} {v : V} : DV H (dP p) v ↔ ∃ a, v = .ref a ∧ H a = some (.tup [nV p.1, nV p.2]) := by
  constructor
  · rintro ⟨a, xs, rfl, h2, h3⟩
    obtain ⟨v1, r1, rfl, e1, v2, r2, rfl, e2, e3⟩ := h3
    cases (show v1 = V.int _ from e1)
    cases (show v2 = V.int _ from e2)
    cases (show r2 = [] from e3)
    exact ⟨a, rfl, h2⟩
  · rintro ⟨a, rfl, h⟩
    exact ⟨a, _, rfl, h, _, _, rfl, rfl, _, _, rfl, rfl, rfl⟩
theorem DV.rw {H : Hp} {r : Row} {v : V} (h : DV H (dR r) v) : ∃ a xs, v = .ref a ∧ H a = some (.tup xs) ∧ DVs H (r.map dP) xs := h
theorem DV.kd {H : Hp} {k : Kd} {v : V} (h : DV H (dK k) v) : ∃ a xs, v = .ref a ∧ H a = some (.tup xs) ∧ DVs H (k.map dR) xs := h
theorem DVs.getR {H : Hp} {k : Kd} {xs : List V} {i : Nat} {r : Row} (h : DVs H (k.map dR) xs) (e : k[i]? = some r) : ∃ a ys, xs[i]? = some (.ref a) ∧ H a = some (.tup ys) ∧ DVs H (r.map dP) ys := by
  obtain ⟨v, e1, q⟩ := h.get (i := i) (d := dR r) (by rw [List.getElem?_map, e]; rfl)
  obtain ⟨a, ys, rfl, h2, h3⟩ := q.rw
  exact ⟨a, ys, e1, h2, h3⟩
theorem DVs.getP {H : Hp} {r : Row} {xs : List V} {i : Nat} {p : Nat × Nat} (h : DVs H (r.map dP) xs) (e : r[i]? = some p) : ∃ a, xs[i]? = some (.ref a) ∧ H a = some (.tup [nV p.1, nV p.2]) := by
  obtain ⟨v, e1, q⟩ := h.get (i := i) (d := dP p) (by rw [List.getElem?_map, e]; rfl)
  obtain ⟨a, rfl, h2⟩ := DV.pr.mp q
  exact ⟨a, e1, h2⟩
/-! ### heaps with some addresses hidden -/
def hid (M : List Addr) (H : Hp) : Hp := fun b => if b ∈ M then none else H b
theorem hid_in {M : List Addr} {H : Hp} {b : Addr} (h : b ∈ M) : hid M H b = none := if_pos h
theorem hid_out {M : List Addr} {H : Hp} {b : Addr} (h : b ∉ M) : hid M H b = H b := if_neg h
theorem hid_le {M : List Addr} {H : Hp} : Same (hid M H) H := fun b o e => by
  by_cases h : b ∈ M
  · rw [hid_in h] at e; cases e
  · rwa [hid_out h] at e
theorem hid_upd {M : List Addr} {H : Hp} {a : Addr} {o : HO} (h : a ∈ M) : hid M (upd H a o) = hid M H := by
  funext b
  by_cases hb : b ∈ M
  · rw [hid_in hb, hid_in hb]
  · rw [hid_out hb, hid_out hb, upd_ne (fun e => hb (by rw [e]; exact h))]
theorem hid_upd_out {M : List Addr} {H : Hp} {a : Addr} {o : HO} (h : a ∉ M) : hid M (upd H a o) = upd (hid M H) a o := by
  funext b
  by_cases hb : b ∈ M
  · rw [hid_in hb, upd_ne (fun e => h (by rw [← e]; exact hb)), hid_in hb]
  · rw [hid_out hb]
    by_cases e : b = a
    · rw [e, upd_same, upd_same]
    · rw [upd_ne e, upd_ne e, hid_out hb]
theorem same_hid {M : List Addr} {H H' : Hp} (e : Same H H') : Same (hid M H) (hid M H') := fun b o q => by
  by_cases h : b ∈ M
  · rw [hid_in h] at q; cases q
  · rw [hid_out h] at q ⊢; exact e b o q
theorem same_upd {H : Hp} {p : Addr} {o : HO} (h : H p = none) : Same H (upd H p o) := fun b x e => by
  rw [upd_ne (ne_of_none e h)]
  exact e
/-- H0 kept, a new object written again -/
theorem same_upd2 {H0 H : Hp} {p : Addr} {o : HO} (s : Same H0 H) (h : H0 p = none) : Same H0 (upd H p o) := fun b x e => by
  rw [upd_ne (ne_of_none e h)]
  exact s b x e
theorem atN {α : Type} {xs : List α} {j : Nat} {v : α} (h : xs[j]? = some v) : atI xs ((j : Nat) : Int) = some v := atI_nat h
theorem fits {n : Nat} (h : n ≤ 100000) : n ≤ sizeLine := Nat.le_trans h (by decide)
theorem fitsLt {n : Nat} (h : n ≤ 100000) : n < sizeLine := Nat.lt_of_le_of_lt h (by decide)
end K36
set_option Elab.async false
set_option linter.all false
set_option maxRecDepth 100000
set_option maxHeartbeats 4000000
namespace K36
open PySem PySem.Spec PyProof.Rows L2
/-! ### isinstance of data -/
def tyN : PyData → String
  | .none => "NoneType"
  | .bool _ => "bool"
  | .int _ => "int"
  | .str _ => "str"
  | .list _ => "list"
  | .tuple _ => "tuple"
  | .dict _ => "dict"
theorem ty_of {K : PySem.W.Frag} {H : Hp} : ∀ {d : PyData} {v : V}, DV H d v → TyX K H v (.type (tyN d))
  | .none, _, h => by cases (show _ = V.non from h); exact .base .non
  | .bool b, _, h => by cases (show _ = V.bl b from h); exact .base (.bl b)
  | .int i, _, h => by cases (show _ = V.int i from h); exact .base (.int i)
  | .str x, _, h => by cases (show _ = V.str x from h); exact .base (.str x)
  | .list ds, _, h => by
    obtain ⟨a, xs, rfl, h2, h3⟩ := h
    exact .base (.lst h2)
  | .tuple ds, _, h => by
    obtain ⟨a, xs, rfl, h2, h3⟩ := h
    exact .base (.tup h2)
  | .dict _, _, h => h.elim
def isTupD : PyData → Bool
  | .tuple _ => true
  | _ => false
def isIntD : PyData → Bool
  | .int _ => true
  | .bool _ => true
  | _ => false
def isBoolD : PyData → Bool
  | .bool _ => true
  | _ => false
theorem kit_tup : ∀ d : PyData, kitB (tyN d) "tuple" = some (isTupD d) := fun d => by
  cases d <;> (simp only [tyN, isTupD]; decide +kernel)
theorem kit_int : ∀ d : PyData, kitB (tyN d) "int" = some (isIntD d) := fun d => by
  cases d <;> (simp only [tyN, isIntD]; decide +kernel)
theorem kit_bool : ∀ d : PyData, kitB (tyN d) "bool" = some (isBoolD d) := fun d => by
  cases d <;> (simp only [tyN, isBoolD]; decide +kernel)
/-! ### what the checks say of data -/
def wholeD (lo hi : Int) : PyData → Bool
  | .int i => decide (lo ≤ i) && decide (i ≤ hi)
  | _ => false
def tupD (lo hi : Int) : PyData → Bool
  | .tuple ds => decide (lo ≤ (ds.length : Int)) && decide ((ds.length : Int) ≤ hi)
  | _ => false
end K36
set_option Elab.async false
set_option linter.all false
set_option maxRecDepth 100000
set_option maxHeartbeats 4000000
namespace K36
open PySem PySem.Spec PyProof.Rows L2
section
variable {prog : Program} {w : World} {A : Around} {E : Value → Shared → Prop} {s : Shared} {κ : Type} [DecidableEq κ] {kn : HeapKind prog w κ}
/-- a fresh key is put behind the others -/
theorem put_fresh {d a : Addr} {zs : List (κ × Addr × Value)} {k : κ} {v : Value} {Q : Unit → Shared → Prop} (room : kn.room A) (isk : kn.is s.heap k a) (D : s.heap.DictOfH kn d zs) (fresh : k ∉ zs.map (·.1)) (size : zs.length ≤ sizeLine)
    (done : ∀ h1, h1.DictOfH kn d (zs ++ [(k, a, v)]) → Heap.SameBut d s.heap h1 → Q () { s with heap := h1 }) : wpAny (model prog w) A (dictPut d (kn.hash k) (.ref a) v) Q E s := by
  obtain ⟨ob, ents, epo, g1, g2, g3, g4, g5, g6⟩ := D
  unfold dictPut
  refine wpAny_bind (wpAny_dictFind_heap room isk g1 g3 g4 g5 g6 (fun _ => ?_) (fun j p q => ?_))
  · have sz : ents.size ≤ sizeLine := by
      rw [size_of_entries g4]
      exact size
    refine wpAny_updateDictKeys (hz := by omega) g1 g3 (done _ ⟨_, _, epo + 1, Heap.get?_update_self _ g1 (Obj.isFreed_of_dict (Obj.data_mapDictKeys g3 _)), g2.mapDictKeys _, Obj.data_mapDictKeys g3 _, ?_, fun z hz => ?_, ?_⟩ (Heap.SameBut.update ..))
    · rw [Array.toList_push, g4, List.map_append]
      rfl
    · rcases List.mem_append.mp hz with q | q
      · exact kn.keeps (g5 z q) g1 g3 (Heap.SameBut.update ..)
      · rw [List.mem_singleton.mp q]
        exact kn.keeps isk g1 g3 (Heap.SameBut.update ..)
    · rw [List.map_append, List.nodup_append]
      refine ⟨g6, by simp, fun z hz y hy e => fresh ?_⟩
      have q : z = k := e.trans (List.mem_singleton.mp hy)
      exact q ▸ hz
  · exact (fresh (List.mem_map.mpr ⟨(k, p), List.mem_of_getElem? q, rfl⟩)).elim

theorem keys_fresh {acc : List (κ × Addr × Value)} {z : κ × Addr × Value} {rest : List (κ × Addr × Value)} (n : ((acc ++ z :: rest).map (·.1)).Nodup) : z.1 ∉ acc.map (·.1) := fun hm => by
  rw [List.map_append, List.map_cons, List.nodup_append] at n
  exact n.2.2 z.1 hm z.1 List.mem_cons_self rfl
theorem DictOfH.far {h h1 : Heap} {d b : Addr} {xs ys : List (κ × Addr × Value)} (x : h.DictOfH kn b ys) (y : h.DictOfH kn d xs) (ne : d ≠ b) (sb : Heap.SameBut d h h1) : h1.DictOfH kn b ys := Heap.DictOfH.notHere x y ne sb
/-- the loop of a merge: the source's entries, all new, one after the other -/
theorem merge_fresh {d b : Addr} {acc more : List (κ × Addr × Value)} {Q : Unit → Shared → Prop} (room : kn.room A) (ne : d ≠ b) (notS : (b == sysModules) = false)
    (D : s.heap.DictOfH kn d acc) (O : s.heap.DictOfH kn b more) (apart : acc ≠ [] ∨ ((∀ x ∈ more, s.TypeIs (.ref x.2.1) "tuple") ∧ (more.map fun x => kn.hash x.1).Nodup)) (nd : ((acc ++ more).map (·.1)).Nodup) (size : acc.length + more.length ≤ sizeLine)
    (done : ∀ h1, h1.DictOfH kn d (acc ++ more) → h1.DictOfH kn b more → Heap.SameBut d s.heap h1 → Q () { s with heap := h1 }) : wpAny (model prog w) A (mergeMapping d (.ref b) false) Q E s := by
  obtain ⟨o1, e1, p1, a1, a2, a3, a4, a5, a6⟩ := id D
  obtain ⟨o2, e2, p2, b1, b2, b3, b4, b5, b6⟩ := id O
  have len2 : e2.size = more.length := size_of_entries b4
  have turn : ∀ (h0 : Heap), h0.DictOfH kn d acc → h0.DictOfH kn b more → h0.get? b = some o2 → Heap.SameBut d s.heap h0 → wpAny (model prog w) A (do
      let ep ← dictEpoch b
      forIn (List.range e2.size) PUnit.unit fun i (_ : PUnit) => (do
        let es ← dictEntries b
        match es[i]? with
        | some e => do
          holding [e.key, e.val] (dictPut d e.hash e.key e.val)
          let ep' ← dictEpoch b
          if (ep' != ep) = true then do
            (unsupported "dict.changed-during-merge" : Sem PUnit)
            pure (ForInStep.yield PUnit.unit)
          else pure (ForInStep.yield PUnit.unit)
        | _ => do
          (unsupported "dict.changed-during-merge" : Sem PUnit)
          pure (ForInStep.yield PUnit.unit) : Sem (ForInStep PUnit))
      pure ()) Q E { s with heap := h0 } := by
    intro h0 D0 O0 g0 sb0
    refine wpAny_bind (wpAny_dictEpoch g0 b3 (wpAny_bind ?_))
    rw [List.range_eq_range']
    refine wpAny_forIn_list _ (fun todo _ s1 => ∃ h1 i, s1 = { s with heap := h1 } ∧ todo = List.range' i (more.length - i) ∧ i ≤ more.length ∧ h1.DictOfH kn d (acc ++ more.take i) ∧ h1.DictOfH kn b more ∧ h1.get? b = some o2 ∧ Heap.SameBut d s.heap h1) _ ?_ ?_ _ _
      ⟨h0, 0, rfl, by rw [len2]; rfl, Nat.zero_le _, by simpa using D0, O0, g0, sb0⟩
    · rintro j todo u s1 ⟨h1, i, rfl, ht, hi, D1, O1, g1, sb1⟩
      have lt : i < more.length := by
        rcases Nat.lt_or_ge i more.length with q | q
        · exact q
        · rw [Nat.sub_eq_zero_of_le q] at ht
          cases ht
      have sp : more.length - i = (more.length - (i + 1)) + 1 := by omega
      rw [sp, List.range'_succ] at ht
      injection ht with ej et
      subst ej
      refine wpAny_bind (wpAny_dictEntries g1 b3 ?_)
      have get : more[j]? = some more[j] := List.getElem?_eq_getElem lt
      rw [entry_at b4 j, get]
      obtain ⟨⟨k, ka, kv⟩, ez⟩ : ∃ z, more[j] = z := ⟨_, rfl⟩
      rw [ez] at get ⊢
      show wpAny _ _ (holding [.ref ka, kv] (dictPut d (kn.hash k) (.ref ka) kv) >>= _) _ _ _
      obtain ⟨_, _, _, _, _, _, _, is1, _⟩ := id O1
      have tk : more.take (j + 1) = more.take j ++ [(k, ka, kv)] := by rw [List.take_add_one, get]; rfl
      have nd1 : ((acc ++ more.take (j + 1)).map (·.1)).Nodup := by
        refine List.Nodup.sublist (List.Sublist.map _ ?_) nd
        exact List.Sublist.append_left (List.take_sublist _ _) _
      rw [tk, ← List.append_assoc] at nd1
      have sz1 : (acc ++ more.take j).length ≤ sizeLine := by
        rw [List.length_append, List.length_take]
        omega
      refine wpAny_bind (wpAny_holding (put_fresh (s := { s with heap := h1 }) room (is1 _ (List.mem_of_getElem? get)) D1 (keys_fresh nd1) sz1 fun h2 D2 sb2 => ?_))
      have g2 : h2.get? b = some o2 := (sb2.2 b ne.symm).trans g1
      refine wpAny_bind (wpAny_dictEpoch g2 b3 ?_)
      rw [if_neg (by simp)]
      exact wpAny_pure ⟨h2, j + 1, rfl, et, lt, by rw [tk, ← List.append_assoc]; exact D2, DictOfH.far O1 D1 ne sb2, g2, sb1.trans sb2⟩
    · rintro u s1 ⟨h1, i, rfl, ht, hi, D1, O1, g1, sb1⟩
      have ei : i = more.length := by
        rcases Nat.lt_or_ge i more.length with q | q
        · have sp : more.length - i = (more.length - (i + 1)) + 1 := by omega
          rw [sp, List.range'_succ] at ht
          cases ht
        · omega
      rw [ei, List.take_length] at D1
      exact wpAny_pure (done h1 D1 O1 sb1)
  unfold mergeMapping
  refine wpAny_bind (wpAny_isInstance O.typeIs isSubtype_dict_dict ?_)
  rw [if_pos rfl]
  refine wpAny_bind (wpAny_specialOf O.typeIs F.slot_dict_iter.lookup (wpAny_bind (wpAny_pure ?_)))
  rw [show (some (Value.builtin "dict.__iter__") == some (Value.builtin "dict.__iter__")) = true from beq_self_eq_true _]
  dsimp only
  rw [notS, if_neg Bool.false_ne_true]
  refine wpAny_bind (wpAny_dictEntries a1 a3 ?_)
  split
  · rename_i emp
    have acc0 : acc = [] := by
      have z := size_of_entries a4
      rw [Array.isEmpty_iff.mp emp] at z
      exact List.length_eq_zero_iff.mp z.symm
    obtain ⟨tup, hnd⟩ := apart.resolve_left fun q => q acc0
    have ok := keysApart (s := s) b4 tup hnd
    refine wpAny_bind (wpAny_dictEntries b1 b3 (wpAny_bind ?_))
    rw [← Array.forIn_toList]
    refine wpAny_forIn_list _ (fun todo _ s1 => s1 = s ∧ ∀ e ∈ todo, KeyApart s e2 e) _ ?_ ?_ _ _ ⟨rfl, ok⟩
    · rintro e todo u s1 ⟨rfl, all⟩
      have later : ∀ x ∈ todo, KeyApart s1 e2 x := fun x hx => all x (List.mem_cons_of_mem _ hx)
      rcases all e List.mem_cons_self with byv | ⟨q, ek, tq, one⟩
      · have nr : ∀ q, e.key ≠ .ref q := fun q z => by
          rw [z] at byv
          cases byv
        split
        · rename_i q ek
          exact absurd ek (nr q)
        · exact wpAny_pure ⟨rfl, later⟩
      · rw [ek]
        refine wpAny_bind (wpAny_specialOf tq F.slot_tuple_eq.lookup ?_)
        refine wpAny_ite_split (fun _ => ?_) (fun _ => wpAny_pure ⟨rfl, later⟩)
        rw [if_neg (by omega)]
        exact wpAny_pure ⟨rfl, later⟩
    · rintro u s1 ⟨rfl, _⟩
      refine wpAny_bind (wpAny_dictEntries b1 b3 ?_)
      exact turn s1.heap D O b1 (Heap.SameBut.refl _ _)
  · refine wpAny_bind (wpAny_dictEntries b1 b3 ?_)
    exact turn s.heap D O b1 (Heap.SameBut.refl _ _)
end
end K36
set_option Elab.async false
set_option linter.all false
set_option maxRecDepth 100000
set_option maxHeartbeats 4000000
namespace K36
open PySem PySem.Spec PyProof.Rows L2
/-! ### data as keys -/
mutual
def nk : PyData → NestedKey
  | .int i => .num i
  | .tuple ds => .tup (nks ds)
  | _ => .none
def nks : List PyData → List NestedKey
  | [] => []
  | d :: ds => nk d :: nks ds
end
mutual
/-- ints, and tuples of such -/
def pure? : PyData → Bool
  | .int _ => true
  | .tuple ds => pures? ds
  | _ => false
def pures? : List PyData → Bool
  | [] => true
  | d :: ds => pure? d && pures? ds
end
section
variable {P : Program} {w : World} {H : Hp} {h : Heap}
mutual
theorem nested_of (ok : HOk P w H h) : ∀ {d : PyData} {v : V} {u : Value}, pure? d = true → DV H d v → RelV v u → NestedIs h (nk d) u
  | .int i, v, u, _, q, r => by
    cases (show v = V.int i from q)
    obtain ⟨t, rfl⟩ := r
    exact .int i t
  | .tuple ds, v, u, p, q, r => by
    obtain ⟨a, xs, rfl, h2, h3⟩ := q
    cases (show u = Value.ref a from r)
    obtain ⟨z, its, rv, ob, e1, e2, n, e3⟩ := ok a _ h2
    exact .tup e1 e2 e3 (nesteds_of ok p h3 rv)
  | .none, _, _, p, _, _ => nomatch p
  | .bool _, _, _, p, _, _ => nomatch p
  | .str _, _, _, p, _, _ => nomatch p
  | .list _, _, _, p, _, _ => nomatch p
  | .dict _, _, _, p, _, _ => nomatch p
theorem nesteds_of (ok : HOk P w H h) : ∀ {ds : List PyData} {vs : List V} {us : List Value}, pures? ds = true → DVs H ds vs → Vals vs us → NestedAll h (nks ds) us
  | [], vs, us, _, q, r => by
    cases (show vs = [] from q)
    cases r
    exact .nil
  | d :: ds, vs, us, p, q, r => by
    obtain ⟨v, vr, rfl, h2, h3⟩ := q
    have p' : (pure? d && pures? ds) = true := p
    rw [Bool.and_eq_true] at p'
    cases r with
    | cons r1 r2 => exact .cons (nested_of ok p'.1 h2 r1) (nesteds_of ok p'.2 h3 r2)
end
end
/-- a sort of keys: how a key is data -/
structure KeyOf (κ : Type) where
  dat : κ → PyData
  pur : ∀ k, pure? (dat k) = true
  tup : ∀ k, ∃ ds, dat k = .tuple ds
  dep : ∀ k, (nk (dat k)).depth ≤ 8
  dd : ∀ k, (dat k).depth ≤ 8
  inj : ∀ a b, nk (dat a) = nk (dat b) → a = b
/-! ### a dict whose keys are such, whose values are tuples of numbers -/
def dN (P : Program) (w : World) (d : Addr) (ep : Nat) (xs : List (NestedKey × Addr × Addr)) : HO := .ext fun h => (d == sysModules) = false ∧ ∃ o es, h.get? d = some o ∧ o.ExactDict ∧ o.data = .dict es ep ∧ es.toList = (xs.map fun x => (x.1, x.2.1, Value.ref x.2.2)).map (entryOfKey (nestedKind P w))
theorem dN_ok {P : Program} {w : World} {H : Hp} {h : Heap} {d : Addr} {xs : List (NestedKey × Addr × Addr)} (n : (d == sysModules) = false) {o : Obj} {es : Array DictEntry} {ep : Nat} (h1 : h.get? d = some o) (h2 : o.ExactDict) (h3 : o.data = .dict es ep)
    (h4 : es.toList = (xs.map fun x => (x.1, x.2.1, Value.ref x.2.2)).map (entryOfKey (nestedKind P w))) : ObjOk P w H h d (dN P w d ep xs) :=
  ⟨⟨n, o, es, h1, h2, h3, h4⟩, ⟨o, h1⟩, fun ha hb ⟨n, o, es, q1, q2, q3, q4⟩ k => ⟨n, o, es, k o q1, q2, q3, q4⟩⟩
theorem dN_inj {P : Program} {w : World} {d : Addr} {ep : Nat} {xs : List (NestedKey × Addr × Addr)} : Mut (some (dN P w d ep xs)) := True.intro
section
variable {κ : Type} (ko : KeyOf κ) (P : Program) (w : World)
/-- at d a dict with these keys, in this order; each value a tuple of numbers, shorter than there are keys -/
def DictAt (H : Hp) (d : Addr) (keys : List κ) : Prop := ∃ (xs : List (κ × Addr × Addr)) (ep : Nat), xs.map (·.1) = keys ∧ keys.Nodup ∧ H d = some (dN P w d ep (xs.map fun x => (nk (ko.dat x.1), x.2))) ∧ (∀ x ∈ xs, DV H (ko.dat x.1) (.ref x.2.1)) ∧
  ∀ x ∈ xs, ∃ r : Tr, H x.2.2 = some (.tup (r.map nV)) ∧ r.length < keys.length
end
section
variable {κ : Type} [DecidableEq κ] {ko : KeyOf κ} {X : Cx} {pins : List (Addr × Obj)} {σ : L2.St} {H : Hp} {s : Shared} {d : Addr} {keys : List κ}
theorem DictAt.same {P : Program} {w : World} {H' : Hp} (D : DictAt ko P w H d keys) (e : Same H H') : DictAt ko P w H' d keys := by
  obtain ⟨xs, ep, h1, h2, h3, h4, h5⟩ := D
  refine ⟨xs, ep, h1, h2, e _ _ h3, fun x hx => (h4 x hx).same e, fun x hx => ?_⟩
  obtain ⟨r, q1, q2⟩ := h5 x hx
  exact ⟨r, e _ _ q1, q2⟩
theorem nodup_nk {xs : List (κ × Addr × Addr)} (h : (xs.map (·.1)).Nodup) : ((xs.map fun x => (nk (ko.dat x.1), x.2.1, Value.ref x.2.2)).map (·.1)).Nodup := by
  induction xs with
  | nil => exact List.nodup_nil
  | cons x r ih =>
    rw [List.map_cons, List.nodup_cons] at h
    rw [List.map_cons, List.map_cons, List.nodup_cons]
    refine ⟨fun hm => h.1 ?_, ih h.2⟩
    obtain ⟨z, hz, e⟩ := List.mem_map.mp hm
    obtain ⟨y, hy, rfl⟩ := List.mem_map.mp hz
    exact List.mem_map.mpr ⟨y, hy, ko.inj _ _ e⟩
/-- the dict as the library has it -/
theorem dictH_of {xs : List (κ × Addr × Addr)} {ep : Nat} (ok : HOk X.prog X.w H s.heap) (hn : (xs.map (·.1)).Nodup) (hd : H d = some (dN X.prog X.w d ep (xs.map fun x => (nk (ko.dat x.1), x.2)))) (hk : ∀ x ∈ xs, DV H (ko.dat x.1) (.ref x.2.1)) :
    (d == sysModules) = false ∧ s.heap.DictOfH (nestedKind X.prog X.w) d (xs.map fun x => (nk (ko.dat x.1), x.2.1, Value.ref x.2.2)) := by
  obtain ⟨⟨n, o, es, q1, q2, q3, q4⟩, _, _⟩ := ok d _ hd
  refine ⟨n, o, es, ep, q1, q2, q3, ?_, fun z hz => ?_, nodup_nk hn⟩
  · rw [q4]
    congr 1
    rw [List.map_map]
    rfl
  · obtain ⟨x, hx, rfl⟩ := List.mem_map.mp hz
    exact ⟨nested_of ok (ko.pur x.1) (hk x hx) rfl, ko.dep x.1⟩
theorem atKey_map (xs : List (κ × Addr × Addr)) (k : κ) : atKey (xs.map fun x => (nk (ko.dat x.1), x.2.1, Value.ref x.2.2)) (nk (ko.dat k)) = (xs.find? fun x => decide (x.1 = k)).map fun x => (x.2.1, Value.ref x.2.2) := by
  unfold atKey
  induction xs with
  | nil => rfl
  | cons x r ih =>
    rw [List.map_cons, List.find?_cons, List.find?_cons]
    by_cases e : x.1 = k
    · rw [e, decide_eq_true rfl, decide_eq_true rfl]
      rfl
    · have ne : ¬ nk (ko.dat x.1) = nk (ko.dat k) := fun q => e (ko.inj _ _ q)
      rw [decide_eq_false e, decide_eq_false ne]
      exact ih
theorem find_some {xs : List (κ × Addr × Addr)} {k : κ} (h : k ∈ xs.map (·.1)) : ∃ x, x ∈ xs ∧ x.1 = k ∧ (xs.find? fun x => decide (x.1 = k)) = some x := by
  cases e : xs.find? fun x => decide (x.1 = k) with
  | some x => exact ⟨x, List.mem_of_find?_eq_some e, by simpa using List.find?_some e, rfl⟩
  | none =>
    obtain ⟨x, hx, rfl⟩ := List.mem_map.mp h
    have := List.find?_eq_none.mp e x hx
    simp at this
theorem find_none {xs : List (κ × Addr × Addr)} {k : κ} (h : k ∉ xs.map (·.1)) : (xs.find? fun x => decide (x.1 = k)) = none := by
  rw [List.find?_eq_none]
  intro x hx
  simp only [decide_eq_true_eq]
  exact fun e => h (List.mem_map.mpr ⟨x, hx, e⟩)
theorem room_of {A : Around} {k : Nat} (hr : Room k A) : (nestedKind X.prog X.w).room A := by
  have := hr.units
  show A.units + 8 < cLine
  omega
theorem room_of1 {A : Around} {k : Nat} (hr : Room k A) : (nestedKind X.prog X.w).room A.in1 := by
  have := hr.units
  show A.units + 1 + 8 < cLine
  omega
/-! ### k in d, d[k] -/
/-- y is the key k -/
def IsKey (ko : KeyOf κ) (H : Hp) (k : κ) (y : V) : Prop := DV H (ko.dat k) y
theorem key_ref {k : κ} {y : V} (h : DV H (ko.dat k) y) : ∃ a, y = .ref a := by
  obtain ⟨ds, e⟩ := ko.tup k
  rw [e] at h
  obtain ⟨a, _, rfl, _⟩ := h
  exact ⟨a, rfl⟩
def rNIn (ko : KeyOf κ) (P : Program) (w : World) (neg : Bool) : R2 := fun y x H Q => ∃ (d : Addr) (keys : List κ) (k : κ), x = .ref d ∧ DictAt ko P w H d keys ∧ DV H (ko.dat k) y ∧ Q (.bl (if neg then !decide (k ∈ keys) else decide (k ∈ keys))) H
theorem in_core {keys : List κ} {k : κ} {y : V} {u : Value} {d : Addr} {n : Nat} {E : Value → Shared → Prop} {Q : Bool → Shared → Prop} (hr : Room n X.A) (I : Inv X pins σ H s) (D : DictAt ko X.prog X.w H d keys) (hk : DV H (ko.dat k) y) (r : RelV y u)
    (q : ∀ t, Q (decide (k ∈ keys)) { s with toks := t }) : wpAny (model X.prog X.w) X.A (contains (.ref d) u) Q E s := by
  obtain ⟨xs, ep, rfl, hn, hd, hks, _⟩ := D
  obtain ⟨a, rfl⟩ := key_ref hk
  cases (show u = Value.ref a from r)
  obtain ⟨ns, DH⟩ := dictH_of I.hok hn hd hks
  refine wpAny_contains_heap (room_of1 hr) ⟨nested_of I.hok (ko.pur k) hk rfl, ko.dep k⟩ ns DH ?_
  have e : (atKey (xs.map fun x => (nk (ko.dat x.1), x.2.1, Value.ref x.2.2)) (nk (ko.dat k))).isSome = decide (k ∈ xs.map (·.1)) := by
    rw [atKey_map]
    by_cases hm : k ∈ xs.map (·.1)
    · obtain ⟨x, _, _, e⟩ := find_some hm
      rw [e, decide_eq_true hm]
      rfl
    · rw [find_none hm, decide_eq_false hm]
      rfl
  rw [e]
  exact q _
theorem op_nIn {n : Nat} (hr : Room n X.A) : OpR X (compareOp .In) (rNIn ko X.prog X.w false) := by
  intro pins s σ H y x u v Q I ry rx h
  obtain ⟨d, keys, k, rfl, D, hk, q⟩ := h
  cases (show v = Value.ref d from rx)
  show wpAny _ _ (do return Value.bool (← contains (.ref d) u)) _ _ s
  exact wpAny_bind (in_core hr I D hk ry fun t => wpAny_pure ⟨.bl _, H, I.tok t, rfl, q⟩)
theorem op_nNotIn {n : Nat} (hr : Room n X.A) : OpR X (compareOp .NotIn) (rNIn ko X.prog X.w true) := by
  intro pins s σ H y x u v Q I ry rx h
  obtain ⟨d, keys, k, rfl, D, hk, q⟩ := h
  cases (show v = Value.ref d from rx)
  show wpAny _ _ (do return Value.bool (!(← contains (.ref d) u))) _ _ s
  exact wpAny_bind (in_core hr I D hk ry fun t => wpAny_pure ⟨.bl _, H, I.tok t, rfl, q⟩)

/-- d[k] -/
def rNGet (ko : KeyOf κ) (P : Program) (w : World) : R2 := fun x y H Q => ∃ (d : Addr) (keys : List κ) (k : κ), x = .ref d ∧ DictAt ko P w H d keys ∧ DV H (ko.dat k) y ∧ k ∈ keys ∧ ∀ (a : Addr) (r : Tr), H a = some (.tup (r.map nV)) → r.length < keys.length → Q (.ref a) H
theorem pe_nGet {n : Nat} (hr : Room n X.A) {o i : Expr} {td ty : TE} {pos : Pos} (ho : PE X o td) (hi : PE X i ty) (hs : NoSl i) : PE X (.Subscript o i pos) (tOp (rNGet ko X.prog X.w) td ty) := by
  refine ⟨fun pins s σ H Q I h => ?_⟩
  refine subD_of PySem.F.slot_dict_getitem.lookup hs (thn (ho.run pins s σ H _ I h) fun v s1 ⟨x, H1, I1, r1, q1⟩ => thn (hi.run pins s1 σ H1 _ I1 q1) fun u s2 ⟨y, H2, I2, r2, d, keys, k, ex, D, hk, hm, q2⟩ => ?_)
  subst ex
  cases (show v = Value.ref d from r1)
  obtain ⟨xs, ep, rfl, hn, hd, hks, hv⟩ := D
  obtain ⟨a, rfl⟩ := key_ref hk
  cases (show u = Value.ref a from r2)
  obtain ⟨ns, DH⟩ := dictH_of I2.hok hn hd hks
  obtain ⟨x, hx, e1, e2⟩ := find_some hm
  obtain ⟨r, g1, g2⟩ := hv x hx
  refine ⟨DH.typeIs, ?_⟩
  refine wpAny_getItem_heap (room_of1 hr) ⟨nested_of I2.hok (ko.pur k) hk rfl, ko.dep k⟩ DH (p := (x.2.1, Value.ref x.2.2)) (by rw [atKey_map, e2]; rfl) ?_
  exact ⟨.ref x.2.2, H2, I2.tok _, rfl, q2 _ r g1 g2⟩
/-- d[k] = v, k new -/
def rNPut (ko : KeyOf κ) (P : Program) (w : World) : V → V → V → Hp → (Hp → Prop) → Prop := fun x y v H Q => ∃ (d : Addr) (keys : List κ) (k : κ) (b : Addr) (r : Tr), x = .ref d ∧ DictAt ko P w H d keys ∧ DV H (ko.dat k) y ∧ k ∉ keys ∧ v = .ref b ∧ H b = some (.tup (r.map nV)) ∧ r.length ≤ keys.length ∧ keys.length ≤ 100000 ∧
  ∀ o, DictAt ko P w (upd H d o) d (keys ++ [k]) → Q (upd H d o)
theorem dN_ne_tup {P : Program} {w : World} {d : Addr} {ep : Nat} {xs : List (NestedKey × Addr × Addr)} {ys : List V} : HO.tup ys ≠ dN P w d ep xs := fun e => by
  unfold dN at e
  cases e
theorem dN_ne_lst {P : Program} {w : World} {d : Addr} {ep : Nat} {xs : List (NestedKey × Addr × Addr)} {ys : List V} : HO.lst ys ≠ dN P w d ep xs := fun e => by
  unfold dN at e
  cases e
mutual
/-- pure data leans on tuples alone -/
theorem DV.tups {H H' : Hp} (e : ∀ b ys, H b = some (.tup ys) → H' b = some (.tup ys)) : ∀ {d : PyData} {v : V}, pure? d = true → DV H d v → DV H' d v
  | .int i, _, _, h => h
  | .tuple ds, _, p, h => by
    obtain ⟨a, xs, h1, h2, h3⟩ := h
    exact ⟨a, xs, h1, e _ _ h2, DVs.tups e p h3⟩
  | .none, _, p, _ => nomatch p
  | .bool _, _, p, _ => nomatch p
  | .str _, _, p, _ => nomatch p
  | .list _, _, p, _ => nomatch p
  | .dict _, _, p, _ => nomatch p
theorem DVs.tups {H H' : Hp} (e : ∀ b ys, H b = some (.tup ys) → H' b = some (.tup ys)) : ∀ {ds : List PyData} {vs : List V}, pures? ds = true → DVs H ds vs → DVs H' ds vs
  | [], _, _, h => h
  | d :: ds, _, p, h => by
    obtain ⟨v, r, h1, h2, h3⟩ := h
    have p' : (pure? d && pures? ds) = true := p
    rw [Bool.and_eq_true] at p'
    exact ⟨v, r, h1, DV.tups e p'.1 h2, DVs.tups e p'.2 h3⟩
end
theorem tups_upd {H : Hp} {d : Addr} {o u : HO} (h : H d = some o) (n : ∀ ys, HO.tup ys ≠ o) : ∀ b ys, H b = some (.tup ys) → upd H d u b = some (.tup ys) := fun b ys e => by
  rw [upd_ne (ne_of e h (n ys))]
  exact e
theorem set_nPut {n : Nat} (hr : Room n X.A) : PSet X (rNPut ko X.prog X.w) := by
  intro pins s σ H x y v xv yv u Q I rx ry rv h
  obtain ⟨d, keys, k, b, r, rfl, D, hk, hnew, rfl, hb, hl, hz, q⟩ := h
  obtain ⟨xs, ep, rfl, hn, hd, hks, hv⟩ := D
  obtain ⟨a, rfl⟩ := key_ref hk
  cases (show xv = Value.ref d from rx)
  cases (show yv = Value.ref a from ry)
  cases (show u = Value.ref b from rv)
  obtain ⟨ns, DH⟩ := dictH_of I.hok hn hd hks
  rw [List.length_map] at hz
  have keep := fun o => tups_upd (u := o) hd fun ys => dN_ne_tup
  refine wpAny_setItem_heap (hsz := by rw [List.length_map]; exact fits hz) (room_of1 hr) ⟨nested_of I.hok (ko.pur k) hk rfl, ko.dep k⟩ DH fun h1 D1 sb => ?_
  have e1 : storedH (xs.map fun x => (nk (ko.dat x.1), x.2.1, Value.ref x.2.2)) (nk (ko.dat k)) a (Value.ref b) = (xs ++ [(k, a, b)]).map fun x => (nk (ko.dat x.1), x.2.1, Value.ref x.2.2) := by
    rw [storedH_new (by rw [atKey_map, find_none hnew]; rfl), List.map_append]
    rfl
  rw [e1] at D1
  obtain ⟨ob, es, e2, g1, g2, g3, g4, _, _⟩ := D1
  have new : ObjOk X.prog X.w (upd H d (dN X.prog X.w d e2 ((xs ++ [(k, a, b)]).map fun x => (nk (ko.dat x.1), x.2)))) h1 d (dN X.prog X.w d e2 ((xs ++ [(k, a, b)]).map fun x => (nk (ko.dat x.1), x.2))) :=
    dN_ok ns g1 g2 g3 (by rw [g4]; congr 1; rw [List.map_map]; rfl)
  refine ⟨_, d_write I (by rw [hd]; exact dN_inj) sb ⟨_, g1⟩ new, q _ ⟨xs ++ [(k, a, b)], e2, by rw [List.map_append]; rfl, ?_, upd_same, fun z hz => ?_, fun z hz => ?_⟩⟩
  · rw [List.nodup_append]
    exact ⟨hn, by simp, fun z hz y hy e => hnew (by rw [List.mem_singleton] at hy; rw [← hy, ← e]; exact hz)⟩
  · rcases List.mem_append.mp hz with m | m
    · exact (hks z m).tups (keep _) (ko.pur z.1)
    · rw [List.mem_singleton.mp m]
      exact hk.tups (keep _) (ko.pur k)
  · rcases List.mem_append.mp hz with m | m
    · obtain ⟨r', q1, q2⟩ := hv z m
      refine ⟨r', keep _ _ _ q1, ?_⟩
      rw [List.length_append]
      exact Nat.lt_of_lt_of_le q2 (Nat.le_add_right _ _)
    · rw [List.mem_singleton.mp m]
      refine ⟨r, keep _ _ _ hb, ?_⟩
      rw [List.length_append]
      exact Nat.lt_succ_of_le hl
/-- len(d) -/
theorem call_nLen : CallR X (.builtin "len") (fun xs H Q => ∃ (d : Addr) (keys : List κ), xs = [.ref d] ∧ DictAt ko X.prog X.w H d keys ∧ keys.length ≤ 100000 ∧ Q (.int keys.length) H) := by
  intro pins s σ H xs us Q I r h
  obtain ⟨d, keys, rfl, D, hz, q⟩ := h
  obtain ⟨ys, ep, rfl, hn, hd, hks, hv⟩ := D
  obtain ⟨u, rfl, ru⟩ := vals1 r
  cases (show u = Value.ref d from ru)
  obtain ⟨ns, DH⟩ := dictH_of I.hok hn hd hks
  rw [List.length_map] at hz q
  have DK : s.heap.DictKeyed (nestedKind X.prog X.w) d (pairsH (ys.map fun x => (nk (ko.dat x.1), x.2.1, Value.ref x.2.2))) := ⟨_, DH, rfl⟩
  have el : (pairsH (ys.map fun x => (nk (ko.dat x.1), x.2.1, Value.ref x.2.2))).length = ys.length := by rw [pairsH_length, List.length_map]
  refine PyProof.Rows.call_len_slot (n := ys.length) DK.typeIs PySem.F.slot_dict_len (fun Q' hq => len_keyed ns DK (by rw [el]; exact hq)) (by omega) (by omega) ?_
  exact ⟨.int ys.length, H, I.tok _, ⟨_, rfl⟩, q⟩
end
end K36
set_option Elab.async false
set_option linter.all false
set_option maxRecDepth 100000
set_option maxHeartbeats 4000000
namespace K36
open PySem PySem.Spec PyProof.Rows L2
section
variable {X : Cx} {pins : List (Addr × Obj)} {σ : L2.St} {H : Hp} {s : Shared}
/-- an untracked object of ours is tracked from now on -/
theorem inv_track {p : Addr} {o : HO} (I : Inv X pins σ H s) (f : FpOk X pins H p) (new : ObjOk X.prog X.w (upd H p o) s.heap p o) : Inv X pins σ (upd H p o) s := by
  obtain ⟨f0, f1, f2, f3, f4, f5⟩ := f
  have off : ∀ b u, H b = some u → b ≠ p := fun b u e => ne_of_none e f0
  have J := I.step (g' := s.gens) (d' := s.drawn) (t' := s.toks) (h' := s.heap) (H' := upd H p o) (ch := [p]) (fun b hb => by
      rw [List.mem_singleton.mp hb]
      exact ⟨f3, f1, f4, f5⟩) (fun b u _ _ _ e _ => e) (fun b u _ _ _ e _ => ⟨u.slots, e⟩) (fun b u hc _ n => by
      rw [upd_ne (fun z => hc (by rw [z]; exact List.mem_singleton.mpr rfl))]
      exact n) (fun b u _ e => ⟨u, e⟩) (fun b xs e => by rw [upd_ne (off b _ e)]; exact e) (fun b u xs e => by rw [upd_ne (off b _ e)]; exact e) (fun b ps e => ⟨#[], by rw [upd_ne (off b _ e), e]; simp⟩) (fun m hm => hm) (fun b u e => ?_) I.bare
  · exact J
  · by_cases hb : b = p
    · rw [hb, upd_same] at e
      cases e
      rw [hb]
      exact new
    · rw [upd_ne hb] at e
      exact (I.hok b u e).stay (fun c v _ q => q) (fun c q => by rw [upd_ne (off c _ q)]; exact q) fun c ys q => by rw [upd_ne (off c _ q)]; exact q
/-- a new object, pinned -/
theorem inv_pin {o : Obj} (I : Inv X pins σ H s) (nf : o.isFreed = false) (nc : ∀ v, o.data ≠ .cell v) : Inv X (pins ++ [(s.heap.objs.size, o)]) σ H { s with heap := s.heap.push o } ∧ FpOk X pins H s.heap.objs.size := by
  have I1 : Inv X pins σ H { s with heap := s.heap.push o } := I.kept (t' := s.toks) fun b u e => Heap.get?_push_of_some _ e
  have f : FpOk X pins H s.heap.objs.size := I.fpOk (Nat.le_refl _) (I.hok.fresh (Nat.le_refl _))
  refine ⟨I1.pins_of fun p hp => ?_, f⟩
  rcases List.mem_append.mp hp with m | m
  · exact I1.pin p (List.mem_append_right _ m)
  · rw [List.mem_singleton.mp m]
    exact ⟨Heap.get?_push_size _ nf, f.1, f.2.1, f.2.2.1, nc⟩
theorem display1 (k v : Sem Value) : dictDisplay [(some k, v)] = (do let d ← subDict [(k, v)]; pure (Value.ref d)) := dictDisplay_pairs [(k, v)] (by simp) (by simp)
/-- {**v1, k: v2}, step by step; the merges raise nothing -/
theorem wp_star {M : Model} {A : Around} {E : Value → Shared → Prop} {v1 k v2 : Sem Value} {Q : Value → Shared → Prop} {s : Shared}
    (h : wpAny M A v1 (fun m s1 => wpAny M A (mergeMapping s.heap.objs.size m false) (fun _ s2 => wpAny M A (subDict [(k, v2)]) (fun q s3 => wpAny M A (mergeMapping s.heap.objs.size (.ref q) false) (fun _ s4 => Q (.ref s.heap.objs.size) s4) (fun _ _ => False) s3) E s2) (fun _ _ => False) s1) E
      { s with heap := s.heap.push { cls := .type "dict", data := .dict #[] } }) : wpAny M A (dictDisplay [(none, v1), (some k, v2)]) Q E s := by
  unfold dictDisplay
  simp only [List.forIn_cons, List.forIn_nil, List.nil_append, List.isEmpty_nil, if_true]
  refine wpAny_bind (wpAny_bind (wpAny_bind (wpAny_pure (wpAny_bind (wpAny_alloc ?_)))))
  refine wpAny_bind (wpAny_holding (wpAny_mono h (fun m s1 h1 => ?_) fun _ _ e => e))
  refine wpAny_bind (wpAny_onRaise (wpAny_tryCatch (wpAny_onRaise (wpAny_holding (wpAny_mono h1 (fun _ s2 h2 => ?_) fun _ _ e => e.elim)))))
  refine wpAny_pure ?_
  refine wpAny_bind ?_
  rw [if_neg (by simp)]
  refine wpAny_pure (wpAny_pure (wpAny_bind ?_))
  rw [if_neg (by simp)]
  refine wpAny_bind (wpAny_holding (wpAny_mono h2 (fun q s3 h3 => ?_) fun _ _ e => e))
  refine wpAny_bind (wpAny_onRaise (wpAny_holding (wpAny_mono h3 (fun _ s4 h4 => ?_) fun _ _ e => e.elim)))
  exact wpAny_pure (wpAny_pure h4)

abbrev dict0 : Obj := { cls := .type "dict", data := .dict #[] }
variable {κ : Type} [DecidableEq κ] {ko : KeyOf κ}
theorem dict0_of {P : Program} {w : World} {h : Heap} {p : Addr} (g : h.get? p = some dict0) : h.DictOfH (nestedKind P w) p [] := ⟨dict0, #[], 0, g, ⟨rfl, rfl, rfl⟩, rfl, rfl, fun _ z => (nomatch z), List.nodup_nil⟩
theorem not_sys (I : Inv X pins σ H s) {p : Addr} (h : s.heap.objs.size ≤ p) : (p == sysModules) = false := by
  have : p ≠ sysModules := Nat.ne_of_gt (Nat.lt_of_lt_of_le I.big h)
  simpa using this
theorem ev1 {env : Env} {ke ve : Expr} {pos : Pos} : (evalEachOpt [some ke] env).zip ((evalEach [ve] env).map fun v => do let x ← v; standAt pos; pure x) = [(some (eval ke env), do let x ← eval ve env; standAt pos; pure x)] := by rfl
theorem ev2 {env : Env} {fe ke ve : Expr} {pos : Pos} : (evalEachOpt [none, some ke] env).zip ((evalEach [fe, ve] env).map fun v => do let x ← v; standAt pos; pure x) = [(none, do let x ← eval fe env; standAt pos; pure x), (some (eval ke env), do let x ← eval ve env; standAt pos; pure x)] := by rfl
theorem track_new {p : Addr} {xs : List (κ × Addr × Addr)} {h1 : Heap} {tk : Nat} (I : Inv X pins σ H s) (f : FpOk X pins H p) (ns : (p == sysModules) = false) (sb : Heap.SameBut p s.heap h1) (D : h1.DictOfH (nestedKind X.prog X.w) p (xs.map fun x => (nk (ko.dat x.1), x.2.1, Value.ref x.2.2))) :
    ∃ ep, Inv X pins σ (upd H p (dN X.prog X.w p ep (xs.map fun x => (nk (ko.dat x.1), x.2)))) { s with heap := h1, toks := tk } := by
  have I1 : Inv X pins σ H { s with heap := h1, toks := tk } := I.turned (fun b o hb e => (sb.2 b hb).trans e) f.1 f.2.1 f.2.2.2.1 f.2.2.2.2.1 f.2.2.2.2.2
  obtain ⟨ob, es, ep, g1, g2, g3, g4, _, _⟩ := D
  exact ⟨ep, inv_track I1 f (dN_ok ns g1 g2 g3 (by rw [g4]; congr 1; rw [List.map_map]; rfl))⟩
def tN1 (ko : KeyOf κ) (P : Program) (w : World) (tk tv : TE) : TE := fun σ H Q => tk σ H fun x H1 => tv σ H1 fun y H2 => ∃ (k : κ) (b : Addr), DV H2 (ko.dat k) x ∧ y = .ref b ∧ H2 b = some (.tup []) ∧ ∀ p o, H2 p = none → DictAt ko P w (upd H2 p o) p [k] → Q (.ref p) (upd H2 p o)
/-- the pair of a key and a value, evaluated beside the pinned new dict -/
theorem pair_run {ke ve : Expr} {pos : Pos} {tk tv : TE} {R : V → V → Hp → Prop} {Q : List (Value × Value) → Shared → Prop} (hk : PE X ke tk) (hv : PE X ve tv) (I : Inv X pins σ H s) (h : tk σ H fun x H1 => tv σ H1 fun y H2 => R x y H2)
    (q : ∀ x y u v H2 s2, Inv X pins σ H2 s2 → RelV x u → RelV y v → R x y H2 → Q [(u, v)] s2) : wpAny (model X.prog X.w) X.A (evalPairs [(eval ke X.env, do let x ← eval ve X.env; standAt pos; pure x)]) Q X.xe s := by
  unfold evalPairs
  refine wpAny_bind (thn (hk.run pins s σ H _ I h) fun u s1 ⟨x, H1, I1, r1, q1⟩ => wpAny_bind (wpAny_holding (wpAny_bind (thn (hv.run pins s1 σ H1 _ I1 q1) fun v s2 ⟨y, H2, I2, r2, q2⟩ => wpAny_bind (wpAny_standAt (wpAny_pure ?_))))))
  exact wpAny_bind (wpAny_holding (wpAny_pure (wpAny_pure (q x y u v H2 s2 I2 r1 r2 q2))))
theorem pe_n1 {n : Nat} (hr : Room n X.A) {ke ve : Expr} {pos : Pos} {tk tv : TE} (hk : PE X ke tk) (hv : PE X ve tv) : PE X (.Dict [some ke] [ve] pos) (tN1 ko X.prog X.w tk tv) := by
  refine ⟨fun pins s σ H Q I h => ?_⟩
  rw [arm_eval_Dict, ev1, display1]
  refine wpAny_bind (wpAny_standAt (wpAny_bind ?_))
  obtain ⟨I1, f⟩ := inv_pin (o := dict0) I rfl (fun v z => nomatch z)
  have ns : (s.heap.objs.size == sysModules) = false := not_sys I (Nat.le_refl _)
  refine wpAny_subDictH (knd := nestedKind X.prog X.w) (room_of hr) (by simp) (pair_run hk hv I1 h fun x y u v H2 s2 I2 r1 r2 q => ?_)
  obtain ⟨k, b, hkx, rfl, hb, q⟩ := q
  obtain ⟨a, rfl⟩ := key_ref hkx
  cases (show u = Value.ref a from r1)
  cases (show v = Value.ref b from r2)
  obtain ⟨g, n0, _⟩ := I2.pin (s.heap.objs.size, dict0) (List.mem_append_right _ (List.mem_append_right _ (List.mem_singleton.mpr rfl)))
  refine ⟨[(nk (ko.dat k), a, Value.ref b)], ⟨rfl, rfl, ⟨nested_of I2.hok (ko.pur k) hkx rfl, ko.dep k⟩, True.intro⟩, dict0_of g, fun h1 tk' D sb => wpAny_pure ?_⟩
  obtain ⟨ep, J⟩ := track_new (ko := ko) (xs := [(k, a, b)]) (tk := tk') I2.unpinned ⟨n0, f.2⟩ ns sb D
  refine ⟨.ref s.heap.objs.size, _, J, rfl, q _ _ n0 ⟨[(k, a, b)], ep, rfl, by simp, upd_same, fun z hz => ?_, fun z hz => ?_⟩⟩
  · rw [List.mem_singleton.mp hz]
    exact hkx.same (same_upd n0)
  · rw [List.mem_singleton.mp hz]
    exact ⟨[], same_upd n0 _ _ hb, Nat.zero_lt_one⟩
def tNStar (ko : KeyOf κ) (P : Program) (w : World) (tf tk tv : TE) : TE := fun σ H Q => tf σ H fun x H1 => ∃ (d : Addr) (keys : List κ), x = .ref d ∧ DictAt ko P w H1 d keys ∧ keys ≠ [] ∧ (keys.map fun k => (nk (ko.dat k)).hash w).Nodup ∧ keys.length ≤ 100000 ∧
  tk σ H1 fun y H2 => tv σ H2 fun z H3 => ∃ (k : κ) (b : Addr) (r : Tr), Same H1 H3 ∧ DV H3 (ko.dat k) y ∧ k ∉ keys ∧ z = .ref b ∧ H3 b = some (.tup (r.map nV)) ∧ r.length ≤ keys.length ∧
    ∀ p o, H3 p = none → DictAt ko P w (upd H3 p o) p (keys ++ [k]) → Q (.ref p) (upd H3 p o)
theorem pe_nStar {n : Nat} (hr : Room n X.A) {fe ke ve : Expr} {pos : Pos} {tf tk tv : TE} (hf : PE X fe tf) (hk : PE X ke tk) (hv : PE X ve tv) : PE X (.Dict [none, some ke] [fe, ve] pos) (tNStar ko X.prog X.w tf tk tv) := by
  refine ⟨fun pins s σ H Q I h => ?_⟩
  rw [arm_eval_Dict, ev2]
  refine wpAny_bind (wpAny_standAt (wp_star ?_))
  obtain ⟨I1, f⟩ := inv_pin (o := dict0) I rfl (fun v z => nomatch z)
  have ns : (s.heap.objs.size == sysModules) = false := not_sys I (Nat.le_refl _)
  refine wpAny_bind (thn (hf.run _ _ σ H _ I1 h) fun u s1 ⟨x, H1, J1, r1, d, keys, ex, D, ne, hn, hz, q1⟩ => wpAny_bind (wpAny_standAt (wpAny_pure ?_)))
  subst ex
  cases (show u = Value.ref d from r1)
  obtain ⟨xs, e0, rfl, nd, hd, hks, hv'⟩ := D
  obtain ⟨nsd, DH⟩ := dictH_of J1.hok nd hd hks
  obtain ⟨g, n0, _⟩ := J1.pin (s.heap.objs.size, dict0) (List.mem_append_right _ (List.mem_append_right _ (List.mem_singleton.mpr rfl)))
  have npd : s.heap.objs.size ≠ d := (ne_of_none hd n0).symm
  rw [List.length_map] at hz
  -- the first merge
  refine merge_fresh (kn := nestedKind X.prog X.w) (room_of hr) npd nsd (dict0_of g) DH (.inr ⟨keyed_apart nestedKind_stays DH, ?_⟩) ?_ ?_ fun h2 D2 O2 sb2 => ?_
  · rw [List.map_map]
    have e := hn
    rw [List.map_map] at e
    exact e
  · rw [List.nil_append]
    exact nodup_nk nd
  · rw [List.length_nil, List.length_map, Nat.zero_add]
    exact fits hz
  rw [List.nil_append] at D2
  have F1 : FpOk X pins H1 s.heap.objs.size := ⟨n0, f.2⟩
  have J2 : Inv X pins σ H1 { s1 with heap := h2 } := J1.unpinned.turned (t' := s1.toks) (fun b o hb e => (sb2.2 b hb).trans e) F1.1 F1.2.1 F1.2.2.2.1 F1.2.2.2.2.1 F1.2.2.2.2.2
  obtain ⟨o2, es, ep, c1, c2, c3, c4, _, _⟩ := id D2
  have J3 : Inv X (pins ++ [(s.heap.objs.size, o2)]) σ H1 { s1 with heap := h2 } := J2.pins_of fun z hz => by
    rcases List.mem_append.mp hz with m | m
    · exact J2.pin z (List.mem_append_right _ m)
    · rw [List.mem_singleton.mp m]
      exact ⟨c1, F1.1, F1.2.1, F1.2.2.1, fun v z => by rw [c3] at z; cases z⟩
  obtain ⟨J4, f4⟩ := inv_pin (o := dict0) J3 rfl (fun v z => nomatch z)
  -- the second dict
  have lt4 : s.heap.objs.size < h2.objs.size := Heap.lt_size c1
  refine wpAny_subDictH (knd := nestedKind X.prog X.w) (room_of hr) (by simp) (pair_run hk hv J4 q1 fun y z u v H3 s4 J5 r2 r3 q => ?_)
  obtain ⟨k, b, r, sm, hky, hnew, rfl, hb, hl, q⟩ := q
  obtain ⟨a, rfl⟩ := key_ref hky
  cases (show u = Value.ref a from r2)
  cases (show v = Value.ref b from r3)
  obtain ⟨g5, n5, _⟩ := J5.pin (h2.objs.size, dict0) (List.mem_append_right _ (List.mem_append_right _ (List.mem_singleton.mpr rfl)))
  obtain ⟨g6, n6, _⟩ := J5.pin (s.heap.objs.size, o2) (List.mem_append_right _ (List.mem_append_left _ (List.mem_append_right _ (List.mem_singleton.mpr rfl))))
  refine ⟨[(nk (ko.dat k), a, Value.ref b)], ⟨rfl, rfl, ⟨nested_of J5.hok (ko.pur k) hky rfl, ko.dep k⟩, True.intro⟩, dict0_of g5, fun h5 tk' D5 sb5 => ?_⟩
  have F5 : FpOk X pins H3 h2.objs.size := by
    obtain ⟨_, a1, a2, a3, a4, a5⟩ := f4
    exact ⟨n5, a1, a2, a3, a4, fun z hz => a5 z (by
      rcases List.mem_append.mp hz with m | m
      · exact List.mem_append_left _ m
      · exact List.mem_append_right _ (List.mem_append_left _ m))⟩
  have J6 : Inv X pins σ H3 { s4 with heap := h5, toks := tk' } := J5.unpinned.unpinned.turned (fun b o hb e => (sb5.2 b hb).trans e) F5.1 F5.2.1 F5.2.2.2.1 F5.2.2.2.2.1 F5.2.2.2.2.2
  have npq : s.heap.objs.size ≠ h2.objs.size := Nat.ne_of_lt lt4
  have g7 : h5.get? s.heap.objs.size = some o2 := (sb5.2 _ npq).trans g6
  have P5 : h5.DictOfH (nestedKind X.prog X.w) s.heap.objs.size (xs.map fun x => (nk (ko.dat x.1), x.2.1, Value.ref x.2.2)) := ⟨o2, es, ep, g7, c2, c3, c4, fun z hz => by
    obtain ⟨x, hx, rfl⟩ := List.mem_map.mp hz
    exact ⟨nested_of J6.hok (ko.pur x.1) ((hks x hx).same sm) rfl, ko.dep x.1⟩, nodup_nk nd⟩
  have nd2 : (((xs ++ [(k, a, b)]) : List (κ × Addr × Addr)).map (·.1)).Nodup := by
    rw [List.map_append, List.nodup_append]
    exact ⟨nd, by simp, fun z hz y hy e => hnew (by
      have e2 : z = k := e.trans (List.mem_singleton.mp hy)
      exact e2 ▸ hz)⟩
  have nsq : (h2.objs.size == sysModules) = false := not_sys J2 (Nat.le_refl _)
  -- the second merge
  refine merge_fresh (kn := nestedKind X.prog X.w) (s := { s4 with heap := h5, toks := tk' }) (room_of hr) npq nsq P5 D5 (.inl fun e => ne ?_) ?_ ?_ fun h7 D7 _ sb7 => ?_
  · rw [List.map_eq_nil_iff] at e
    rw [e]
    rfl
  · have e := nodup_nk (ko := ko) nd2
    rw [List.map_append] at e
    exact e
  · rw [List.length_map]
    have z : xs.length + 1 ≤ 100001 := Nat.succ_le_succ hz
    exact Nat.le_trans z (by decide)
  have F7 : FpOk X pins H3 s.heap.objs.size := ⟨n6, f.2⟩
  obtain ⟨e7, J7⟩ := track_new (ko := ko) (xs := xs ++ [(k, a, b)]) (tk := tk') J6 F7 ns sb7 (by rw [List.map_append]; exact D7)
  refine ⟨.ref s.heap.objs.size, _, J7, rfl, q _ _ n6 ⟨xs ++ [(k, a, b)], e7, by rw [List.map_append]; rfl, by rw [List.map_append] at nd2; exact nd2, upd_same, fun z hz => ?_, fun z hz => ?_⟩⟩
  · rcases List.mem_append.mp hz with m | m
    · exact ((hks z m).same sm).same (same_upd n6)
    · rw [List.mem_singleton.mp m]
      exact hky.same (same_upd n6)
  · rcases List.mem_append.mp hz with m | m
    · obtain ⟨r', c5, c6⟩ := hv' z m
      refine ⟨r', same_upd n6 _ _ (sm _ _ c5), ?_⟩
      rw [List.length_append]
      exact Nat.lt_of_lt_of_le c6 (Nat.le_add_right _ _)
    · rw [List.mem_singleton.mp m]
      refine ⟨r, same_upd n6 _ _ hb, ?_⟩
      rw [List.length_append]
      exact Nat.lt_succ_of_le hl
end
end K36
set_option Elab.async false
set_option linter.all false
set_option maxRecDepth 100000
set_option maxHeartbeats 4000000
namespace K36
open PySem PySem.Spec PyProof.Rows L2
/-! ### loops and comprehensions over what yields its items one by one -/
theorem for_gen {J : It} {g : TG} {tb : TS} {D : Ends} {σ : L2.St} {H : Hp} (n : Nat) (item : Nat → V → Prop) (Pv : Nat → L2.St → Hp → Prop) (h0 : Pv 0 σ H) (go : ∀ i σ H, i < n → Pv i σ H → J.go i H) (stop : ∀ σ H, Pv n σ H → J.stop n H)
    (yld : ∀ i σ H x H', i < n → Pv i σ H → J.yld i H x H' → H' = H ∧ item i x)
    (turn : ∀ i x σ H, i < n → item i x → Pv i σ H → g x σ H fun σ2 H2 => tb { D with nx := Pv (i + 1), ct := Pv (i + 1), bk := D.nx } σ2 H2) (last : ∀ σ H, Pv n σ H → D.nx σ H) :
    ∃ W : Nat → Nat → L2.St → Hp → Prop, (∃ m, W 0 m σ H) ∧ ∀ i m σ H, W i m σ H →
      (J.stop i H ∧ D.nx σ H) ∨ (J.go i H ∧ ∃ N : L2.St → Hp → Prop, (∀ σ' H', N σ' H' → ∃ m', m' < m ∧ W (i + 1) m' σ' H') ∧ ∀ x H', J.yld i H x H' → g x σ H' fun σ2 H2 => tb { D with nx := N, ct := N, bk := D.nx } σ2 H2) := by
  refine ⟨fun i m σ H => i + m = n ∧ Pv i σ H, ⟨n, Nat.zero_add n, h0⟩, ?_⟩
  rintro i m σ H ⟨e, p⟩
  by_cases lt : i < n
  · refine .inr ⟨go i σ H lt p, Pv (i + 1), fun σ' H' q => ⟨m - 1, by omega, by omega, q⟩, fun x H' y => ?_⟩
    obtain ⟨rfl, hx⟩ := yld i σ H x H' lt p y
    exact turn i x σ _ lt hx p
  · have : i = n := by omega
    subst this
    exact .inl ⟨stop σ H p, last σ H p⟩
theorem lc_gen {J : It} {g : TG} {tt : TT} {te : TE} {vs : List Nat} {σ : L2.St} {H1 : Hp} {D : Addr} {Qd : Hp → Prop} (n : Nat) (item : Nat → V → Prop) (Pv : Nat → Hp → Prop) (h0 : Pv 0 (upd H1 D (.lst []))) (go : ∀ i H, i < n → Pv i H → J.go i H) (stop : ∀ H, Pv n H → J.stop n H)
    (yld : ∀ i H x H', i < n → Pv i H → J.yld i H x H' → H' = H ∧ item i x)
    (turn : ∀ i x H, i < n → item i x → Pv i H → g x (wipe σ vs) H fun σ2 H2 => wipe σ2 vs = wipe σ vs ∧ tt σ2 H2 fun b H3 =>
      if b = true then te σ2 H3 fun y H4 => ∃ acc, H4 D = some (.lst acc) ∧ acc.length < sizeLine ∧ Pv (i + 1) (upd H4 D (.lst (acc ++ [y]))) else Pv (i + 1) H3) (last : ∀ H, Pv n H → Qd H) :
    ∃ W : Nat → Nat → Hp → Prop, (∃ m, W 0 m (upd H1 D (.lst []))) ∧ ∀ i m H, W i m H →
      (J.stop i H ∧ Qd H) ∨ (J.go i H ∧ ∃ Nx : Hp → Prop, (∀ H', Nx H' → ∃ m', m' < m ∧ W (i + 1) m' H') ∧ ∀ x H', J.yld i H x H' → g x (wipe σ vs) H' fun σ2 H2 => wipe σ2 vs = wipe σ vs ∧ tt σ2 H2 fun b H3 =>
        if b = true then te σ2 H3 fun y H4 => ∃ acc, H4 D = some (.lst acc) ∧ acc.length < sizeLine ∧ Nx (upd H4 D (.lst (acc ++ [y]))) else Nx H3) := by
  refine ⟨fun i m H => i + m = n ∧ Pv i H, ⟨n, Nat.zero_add n, h0⟩, ?_⟩
  rintro i m H ⟨e, p⟩
  by_cases lt : i < n
  · refine .inr ⟨go i H lt p, Pv (i + 1), fun H' q => ⟨m - 1, by omega, by omega, q⟩, fun x H' y => ?_⟩
    obtain ⟨rfl, hx⟩ := yld i H x H' lt p y
    exact turn i x _ lt hx p
  · have : i = n := by omega
    subst this
    exact .inl ⟨stop H p, last H p⟩
/-- all items kept: the k-th result is right for the k-th item, in what stands beside M; M holds the list itself -/
theorem lc_map {J : It} {te : TE} {v : Nat} {σ : L2.St} {H1 : Hp} {D : Addr} {Qd : Hp → Prop} (n : Nat) (item : Nat → V → Prop) (M : List Addr) (Inv' : Hp → Prop) (R : Nat → Hp → V → Prop) (hD : D ∈ M) (hn : n ≤ 100000)
    (hw : ∀ x, wipe ((wipe σ [v]).set v (some x)) [v] = wipe σ [v])
    (h0 : Inv' (upd H1 D (.lst []))) (hI : ∀ H l, Inv' H → (∃ l', H D = some (.lst l')) → Inv' (upd H D (.lst l)))
    (hR : ∀ j G G' y, Same G G' → R j G y → R j G' y)
    (go : ∀ i H, i < n → Inv' H → J.go i H) (stop : ∀ H, Inv' H → J.stop n H) (yld : ∀ i H x H', i < n → Inv' H → J.yld i H x H' → H' = H ∧ item i x)
    (turn : ∀ i x H (Q : VK), i < n → item i x → Inv' H → (∃ l, H D = some (.lst l)) → (∀ y H4, Inv' H4 → H4 D = H D → Same (hid M H) (hid M H4) → R i (hid M H4) y → Q y H4) → te ((wipe σ [v]).set v (some x)) H Q)
    (last : ∀ H ys, Inv' H → H D = some (.lst ys) → ys.length = n → (∀ (j : Nat) y, ys[j]? = some y → R j (hid M H) y) → Qd H) :
    ∃ W : Nat → Nat → Hp → Prop, (∃ m, W 0 m (upd H1 D (.lst []))) ∧ ∀ i m H, W i m H →
      (J.stop i H ∧ Qd H) ∨ (J.go i H ∧ ∃ Nx : Hp → Prop, (∀ H', Nx H' → ∃ m', m' < m ∧ W (i + 1) m' H') ∧ ∀ x H', J.yld i H x H' → gName v x (wipe σ [v]) H' fun σ2 H2 => wipe σ2 [v] = wipe σ [v] ∧ tYes σ2 H2 fun b H3 =>
        if b = true then te σ2 H3 fun y H4 => ∃ acc, H4 D = some (.lst acc) ∧ acc.length < sizeLine ∧ Nx (upd H4 D (.lst (acc ++ [y]))) else Nx H3) := by
  refine lc_gen n item (fun i H => Inv' H ∧ ∃ ys, H D = some (.lst ys) ∧ ys.length = i ∧ ∀ (j : Nat) y, ys[j]? = some y → R j (hid M H) y) ⟨h0, [], upd_same, rfl, fun j y e => by simp at e⟩ (fun i H lt p => go i H lt p.1) (fun H p => stop H p.1) (fun i H x H' lt p => yld i H x H' lt p.1) ?_ ?_
  · rintro i x H lt hx ⟨p, ys, e, el, er⟩
    refine ⟨hw x, ?_⟩
    refine turn i x H _ lt hx p ⟨ys, e⟩ fun y H4 p4 e4 sm r => ⟨ys, e4.trans e, fitsLt (by omega), hI _ _ p4 ⟨ys, e4.trans e⟩, _, upd_same, by rw [List.length_append, el]; rfl, fun j z hz => ?_⟩
    rw [hid_upd hD]
    by_cases hj : j < ys.length
    · rw [List.getElem?_append_left hj] at hz
      exact hR j _ _ z sm (er j z hz)
    · have ej : j = ys.length := by
        have h1 := (List.getElem?_eq_some_iff.mp hz).1
        rw [List.length_append] at h1
        have h2 : j < ys.length + 1 := h1
        omega
      subst ej
      rw [List.getElem?_append_right (Nat.le_refl _), Nat.sub_self] at hz
      cases Option.some.inj hz
      rw [el]
      exact r
  · rintro H ⟨p, ys, e, el, er⟩
    exact last H ys p e el er
/-! ### the keys of a dict -/
section
variable {κ : Type} [DecidableEq κ] {ko : KeyOf κ}
abbrev ents (ko : KeyOf κ) (xs : List (κ × Addr × Addr)) : List (NestedKey × Addr × Addr) := xs.map fun x => (nk (ko.dat x.1), x.2)
def Itn (ko : KeyOf κ) (P : Program) (w : World) (d : Addr) (ep : Nat) (xs : List (κ × Addr × Addr)) : It :=
  ⟨fun i H => H d = some (dN P w d ep (ents ko xs)) ∧ i < xs.length, fun i H x H' => H' = H ∧ ∃ z, xs[i]? = some z ∧ x = .ref z.2.1, fun i H => H d = some (dN P w d ep (ents ko xs)) ∧ xs.length ≤ i⟩
theorem turn_keysN {P : Program} {w : World} {K : PySem.W.Frag} {tg : Expr} {d : Addr} {ep : Nat} {xs : List (κ × Addr × Addr)} (it : Addr) : Turn P w K tg (Itn ko P w d ep xs) [it] it (fun i h => h.IsKeyIter it d i xs.length ep) where
  mem := List.mem_singleton.mpr rfl
  obj := fun i h st b hb => by
    rw [List.mem_singleton.mp hb]
    obtain ⟨oi, e, c, dd⟩ := st
    exact ⟨oi, e, fun v z => by rw [dd] at z; cases z⟩
  keep := fun i h h' st k => st.at fun oi e => k it (List.mem_singleton.mpr rfl) oi e
  item := by
    intro X hP hw hK hc i pins s σ H E I hf st hg
    subst hP hw hK
    obtain ⟨hd, hi⟩ := hg
    have f := hf it (List.mem_singleton.mpr rfl)
    obtain ⟨⟨n, o, es, q1, q2, q3, q4⟩, _, _⟩ := I.hok d _ hd
    have sz : es.size = xs.length := by
      rw [← Array.length_toList, q4, List.length_map, List.length_map, List.length_map]
    obtain ⟨z, hz⟩ : ∃ z, xs[i]? = some z := ⟨xs[i], List.getElem?_eq_getElem hi⟩
    have en : es[i]? = some ⟨(nestedKind X.prog X.w).hash (nk (ko.dat z.1)), .ref z.2.1, .ref z.2.2⟩ := by
      rw [← Array.getElem?_toList, q4, List.getElem?_map, List.getElem?_map, List.getElem?_map, hz]
      rfl
    refine next_key_item st q1 q3 sz en fun h' st' sb => ?_
    have I1 : Inv X pins σ H { s with heap := h' } := I.turned (t' := s.toks) (fun b ob hb e => (sb.2 b hb).trans e) f.1 f.2.1 f.2.2.2.1 f.2.2.2.2.1 f.2.2.2.2.2
    obtain ⟨oi, e, c, dd⟩ := id st'
    exact ⟨_, rfl, go_of (s := { s with heap := h' }) e c dd (by decide) ⟨.ref z.2.1, H, I1, rfl, ⟨rfl, z, hz, rfl⟩, st', fun b hb => (hf b hb).1⟩⟩
  done := by
    intro X hP hw hK hc i pins s σ H E I hf st hg
    subst hP hw hK
    obtain ⟨hd, hi⟩ := hg
    have f := hf it (List.mem_singleton.mpr rfl)
    obtain ⟨⟨n, o, es, q1, q2, q3, q4⟩, _, _⟩ := I.hok d _ hd
    have sz : es.size = xs.length := by
      rw [← Array.length_toList, q4, List.length_map, List.length_map, List.length_map]
    exact next_key_end (I.ok.hd hc) st q1 q3 sz hi fun h' eb => ⟨rfl, I.turned (t' := s.toks) (fun b ob hb e => eb b ob hb e) f.1 f.2.1 f.2.2.2.1 f.2.2.2.2.1 f.2.2.2.2.2⟩
  self := fun A i s Q E st h => by
    refine wpAny_pyIter_slot st.typeIs PySem.F.slot_dict_keyiterator_iter (wpAny_call_entry PySem.F.slot_dict_keyiterator_iter st.typeIs PySem.F.entry_dict_keyiterator_iter ?_ (PySem.F.args_dict_keyiterator_iter_1 _))
    exact wpAny_pure ⟨_, rfl, "dict_keyiterator", _, st.typeIs, PySem.F.slot_dict_keyiterator_next.lookup, h⟩
def iNk (ko : KeyOf κ) (P : Program) (w : World) (td : TE) : TI := fun σ H R => td σ H fun x H1 => ∃ (d : Addr) (keys : List κ), x = .ref d ∧ DictAt ko P w H1 d keys ∧ ∀ (xs : List (κ × Addr × Addr)) (ep : Nat), xs.map (·.1) = keys → H1 d = some (dN P w d ep (ents ko xs)) → (∀ z ∈ xs, DV H1 (ko.dat z.1) (.ref z.2.1)) →
  R (Itn ko P w d ep xs) H1
theorem pi_nk {X : Cx} {tg e : Expr} {td : TE} (he : PE X e td) : PI X tg e (iNk ko X.prog X.w td) := by
  refine ⟨fun pins s σ H R I h => ?_⟩
  refine thn (he.run pins s σ H _ I h) fun u s1 ⟨x, H1, I1, rx, d, keys, ex, D, q⟩ => ?_
  subst ex
  cases (show u = Value.ref d from rx)
  obtain ⟨xs, ep, e1, nd, hd, hk, hv⟩ := D
  obtain ⟨⟨n, o, es, q1, q2, q3, q4⟩, _, _⟩ := I1.hok d _ hd
  have sz : es.size = xs.length := by
    rw [← Array.length_toList, q4, List.length_map, List.length_map, List.length_map]
  refine iter_keys n q1 q2 q3 (pi_one (tk := s1.toks) I1 _ (turn_keysN _) ⟨_, Heap.get?_push_size _ rfl, rfl, ?_⟩ (q xs ep e1 hd hk))
  rw [sz]
  rfl
end
end K36
set_option Elab.async false
set_option linter.all false
set_option maxRecDepth 100000
set_option maxHeartbeats 4000000
namespace K36
open PySem PySem.W PySem.Calls PyProof.Rows PySem.HandSPX
/-! ### TooMany: its __init__ calls its base's, then stores the limit -/
abbrev sTm : Stmt := L2.inClass (topS 4) 0
theorem tm_body : L2.defBody sTm = [.Expr (.Call (.Attribute (.Call (.Name "super" ⟨11, 8, 11, 13⟩) [] [] ⟨11, 8, 11, 15⟩) "__init__" ⟨11, 8, 11, 24⟩) [.Constant (.str "too many") 0 ⟨11, 25, 11, 35⟩] [] ⟨11, 8, 11, 36⟩) ⟨11, 8, 11, 36⟩,
    .Assign [.Attribute (.Name "self" ⟨12, 8, 12, 12⟩) "limit" ⟨12, 8, 12, 18⟩] (.Name "limit" ⟨12, 21, 12, 26⟩) ⟨12, 8, 12, 26⟩] := rfl
/-- what stands of TooMany at C, its __init__ at fI -/
structure TmTxt (P : Program) (K : Frag) (mg : Str → Option Value) (C fI : Addr) : Prop where
  gC : mg "TooMany" = some (.ref C)
  cls : ∃ nm q N bs bm sn sub ab col dd k0 k1 k2 k3 k5, K.lookup C = some (excClassObj nm q C N bs bm true sn sub ab col dd k0 k1 k2 k3 k5 "ValueError.__new__") ∧ refsVE bm = true
  sa : findIn K (.ref C) "__setattr__" = some (some (.builtin "object.__setattr__"))
  noN : findIn K (.ref C) "limit" = some none
  iC : findIn K (.ref C) "__init__" = some (some (.ref fI))
  tI : typeIn K (.ref fI) = some (.type "function")
  kC : keepIn K (.ref C) = true
  exC : subIn K (.ref C) (.type "BaseException") = some true
  tyC : typeIn K (.ref C) = some (.type "type")
  vE : subIn K (.ref C) (.type "ValueError") = some true
  op : nsIn K cStatics "thirdparty.any" = some none
  su : mg "super" = none
  si : ks_superIn K C C "__init__" = some (some (.builtin "ValueError.__init__"))
  eI : excInitIn K C [.type "ValueError", .type "Exception", .type "BaseException", .type "object"] "ValueError.__new__" = true
  mC : mroIn K C (.ref C) = some true
  top : (P.main.scope.names.lookup ("super" : Str)).isSome = false
  fn : ∃ (oc : Value) (od : Option Addr) (doc pm : Value) (an : Option Addr) (ct : Value) (osl : Array (Option Value)) (cc cda : Addr) (cl ccl : Value) (cld cdd : Option Addr) (csl ccs : Array (Option Value)) (vs : Array Value) (file : Str) (tf : Tok),
    K.lookup fI = some ⟨oc, od, .func (ksFn "__init__" "TooMany.__init__" (L2.defArgs sTm) (L2.defBody sTm) (L2.defScope sTm) .none .none doc pm an (.ref cda) ct cc), osl⟩ ∧ codeIn K (.ref cda) "TooMany.__init__" = true ∧
    K.lookup cc = some ⟨cl, cld, .cell (some (.ref C)), csl⟩ ∧ K.lookup cda = some ⟨ccl, cdd, .fields vs, ccs⟩ ∧ vs[2]? = some (.str file tf) ∧ ((P.main.file : Str) == file) = true
/-- what __init__ leaves of the new object at x -/
structure TmEnd (h h' : Heap) (x C dx t1 : Addr) (v : Value) : Prop where
  keep : ∀ b o, b ≠ x → h.get? b = some o → h'.get? b = some o
  obj : h'.get? x = some { cls := .ref C, dict := some dx, data := .fields #[.ref t1, .none, .none, .none, .bool false, .none] }
  dbig : h.objs.size ≤ dx
  dne : dx ≠ x
  ns : h'.Ns1 dx (fun y => if y = "limit" then some v else none)
section
variable {prog : Program} {w : World} {A : Around} {E : Value → Shared → Prop} {R : Result → Shared → Prop} {s : Shared} {K : Frag} {mg mb : Str → Option Value} {C fI : Addr}
theorem tm_init (T : TmTxt prog K mg C fI) {x t0 : Addr} {v : Value} (X : K.In s.heap) (hlim : s.heap.NoLimit) (G : s.heap.Ns mainGlobals mg) (B : s.heap.Ns builtinsNs mb) (hb : mb "super" = some (.type "super")) (hx : s.heap.get? x = some (excO C t0)) (hnx : K.lookup x = none) (hroom : A.depth < recursionLimit)
    (hq : ∀ h' tk dx t1, TmEnd s.heap h' x C dx t1 v → R (.ok (.ret .none)) { s with heap := h', toks := tk }) :
    codeAny (model prog w) A (.call (.ref fI) ⟨[.ref x, v], []⟩) R s := by
  obtain ⟨oc, od, doc, pm, an, ct, osl, cc, cda, cl, ccl, cld, cdd, csl, ccs, vs, file, tf, ho, hcd, hcell, hcode, hvs, hfile⟩ := T.fn
  obtain ⟨nm, q, N, bs, bm, sn, sub, ab, col, dd, k0, k1, k2, k3, k5, hC, hbm⟩ := T.cls
  have hcl : clsIn K C = some { name := nm, bases := bs, mro := .ref C :: bm, ns := N, qualname := q, hasDict := true, slotNames := sn, subclasses := sub, abstract := ab, collection := col, hasDel := false } := by unfold clsIn; rw [hC] <;> rfl
  have hl : ∀ y ∈ ([("self", Value.ref x), ("limit", v)] : List (Str × Value)), (L2.defScope sTm).names.lookup y.1 = some .local := fun y hy => by
    rcases List.mem_cons.mp hy with e | e
    · rw [e]
      rfl
    · rw [List.mem_singleton.mp e]
      rfl
  have hbd : bindArgs (ksFn "__init__" "TooMany.__init__" (L2.defArgs sTm) (L2.defBody sTm) (L2.defScope sTm) .none .none doc pm an (.ref cda) ct cc) ⟨[.ref x, v], []⟩ = pure ([("self", .ref x), ("limit", v)] : List (Str × Value)) := by rfl
  refine ks_codeAny_call_defAt (fd := ksFn "__init__" "TooMany.__init__" (L2.defArgs sTm) (L2.defBody sTm) (L2.defScope sTm) .none .none doc pm an (.ref cda) ct cc) (body := L2.defBody sTm) (binds := [("self", .ref x), ("limit", v)]) hroom (X _ _ ho) rfl hlim (codeRec_of X hcd) rfl (BindsTo.of_eq hbd) (show ∀ y ∈ (L2.defScope sTm).names, y.2 ≠ .cell from by decide +kernel)
    hl (fun h1 ns1 kp1 => ?_) rfl rfl rfl
  show _root_.PySem.wpAt _ _ _ _ _ _ _
  rw [tm_body]
  have X1 : K.In h1 := X.keeps kp1
  obtain ⟨h0, eh0⟩ : ∃ h0, h0 = hideAll s.heap [x] := ⟨_, rfl⟩
  have h0s : h0.objs.size = s.heap.objs.size := by rw [eh0]; exact hideAll_size _ _
  have of0 : ∀ b o, h0.get? b = some o → s.heap.get? b = some o := fun b o e => by rw [eh0] at e; exact of_hideAll _ e
  have to0 : ∀ b o, b ≠ x → s.heap.get? b = some o → h0.get? b = some o := fun b o hb e => by rw [eh0]; exact hideAll_get _ e (by simpa using hb)
  have n0 : h0.get? x = none := by rw [eh0]; exact hideAll_none _ (by simp)
  have X0 : K.In h0 := fun b o e => to0 b o (fun z => by rw [z, hnx] at e; cases e) (X b o e)
  have xL : x < s.heap.objs.size := Heap.lt_size hx
  have F1 : Fr h0 s.heap.objs.size h1 (fun y => ([("self", Value.ref x), ("limit", v)] : List (Str × Value)).reverse.lookup y) := ⟨ns1, fun b o e => kp1 b o (of0 b o e), Nat.le_of_eq h0s⟩
  have N1 : News h0 s.heap.objs.size h1 [(x, excObj C t0 none .none)] := fun z hz => by
    rw [List.mem_singleton.mp hz]
    exact ⟨kp1 _ _ hx, Nat.ne_of_lt xL, n0⟩
  have I1 : InstAt h1 x (excObj C t0 none .none) C none := ⟨kp1 _ _ hx, rfl, rfl, trivial⟩
  refine ks_wpAt_execs_cons (ks_wpAt_Expr_any (ks_wpAt_MethodCall (ks_wpAt_super_base (s := { s with heap := h1, toks := s.toks + 2 }) rfl rfl rfl rfl (kp1 _ _ (X _ _ ho)) rfl rfl rfl (kp1 _ _ (X _ _ hcode)) rfl hvs hfile T.top ?_)))
  refine ks_loadName_global rfl rfl (loadGlobal_builtin (G.keeps kp1) T.su (B.keeps kp1) hb ⟨rfl, ?_⟩)
  refine wpAny_loadName_free rfl rfl rfl ⟨_, X1 _ _ hcell, rfl⟩ ?_
  refine wpAny_loadName_local rfl rfl ns1 (v := .ref x) (by rfl) ?_
  obtain ⟨oC, c1, c2⟩ : ∃ oC, h1.get? C = some oC ∧ ∃ cd, oC.data = .cls cd := ⟨_, X1 _ _ hC, _, rfl⟩
  obtain ⟨cdC, c2⟩ := c2
  refine ks_wpAny_isType_cls c1 c2 ⟨rfl, ?_⟩
  refine ks_wpAny_call_super c1 c2 I1.at_ I1.cls (fun c e => nomatch e) (looks_mroIn X1 T.mC) (fun h2 e2 k2 => ?_)
  obtain ⟨F2, N2, l2⟩ := ks_newsPush (s := ⟨h1, s.gens, s.drawn, s.toks + 2, s.os⟩) F1 N1 rfl e2 k2
  have I2 : InstAt h2 x (excObj C t0 none .none) C none := ⟨(N2 _ (List.mem_cons_of_mem _ (List.mem_singleton.mpr rfl))).1, rfl, rfl, trivial⟩
  refine kxs_method (s := ⟨h2, s.gens, s.drawn, s.toks + 2, s.os⟩) kxs_ValueError F2 X0 N2 (List.mem_cons_self) I2 T.op T.si T.vE rfl fun q' h3 F3 N3 l3 => ?_
  refine kxs_callWith1 (i := "ValueError.__init__") (x := x) (s := ⟨h3, s.gens, s.drawn, s.toks + 2 + 1, s.os⟩) N3 List.mem_cons_self ?_
  refine Calls.spliced_cons (Calls.Constant_str (x := "too many") (k := 0) (pos := ⟨11, 25, 11, 35⟩) (Calls.spliced_nil ?_))
  have nx1 : h1.objs.size ≠ x := Nat.ne_of_gt (l2 _ (List.mem_singleton.mpr rfl))
  have nx2 : q' ≠ x := Nat.ne_of_gt (l3 _ (List.mem_cons_of_mem _ (List.mem_singleton.mpr rfl)))
  refine ⟨kxs_at N3 List.mem_cons_self, kxs_call (s := ⟨h3, s.gens, s.drawn, s.toks + 2 + 1 + 1, s.os⟩) F3 X0 N3 F.excBase_ValueError T.eI List.mem_cons_self (.tail nx2 (.tail nx1 (.head (by simp)))) (show 1 ≤ sizeLine from by decide) fun t1 h4 F4 N4 l4 => ?_⟩
  -- self.limit = limit
  have x4 : h4.get? x = some (excO C t1) := (N4 (x, excObj C t1 none .none) (by simp)).1
  have X4 : K.In h4 := X0.keeps F4.keep
  refine wpAt_of_wpAny (wpAny_execs_cons (plainObj_wpAny_Assign_Attribute ?_))
  refine wpAny_Name (wpAny_loadName_local rfl rfl F4.ns (v := v) (by rfl) (wpAny_Name (wpAny_loadName_local rfl rfl F4.ns (v := .ref x) (by rfl) ?_) (by decide))) (by decide)
  refine set_plain X4 (ox := excO C t1) (od := none) ⟨x4, rfl, rfl, trivial⟩ T.sa ?_
  refine exc_osa X4 x4 hcl (show refsVE (.ref C :: bm) = true from hbm) rfl T.noN (fun h5 tk5 dx k5 big ne x5 ns5 => ?_)
  have lt4 : s.heap.objs.size < h4.objs.size := F4.ns.lt
  exact wpAny_execs_nil (hq h5 tk5 dx t1 ⟨fun b o hb e => k5 b o hb (F4.keep b o (to0 b o hb e)), x5, Nat.le_of_lt (Nat.lt_of_lt_of_le lt4 big), ne, ns5⟩)
end
end K36
set_option Elab.async false
set_option linter.all false
set_option maxRecDepth 100000
set_option maxHeartbeats 4000000
namespace K36
open PySem PySem.W PySem.Calls PyProof.Rows PySem.HandSPX
/-- a TooMany just made, at e, its dict at d -/
structure TmMade (h h' : Heap) (e C d : Addr) (v : Value) : Prop where
  keep : ∀ b o, h.get? b = some o → h'.get? b = some o
  new : h.objs.size ≤ e
  obj : ∃ oe vs, h'.get? e = some oe ∧ oe.cls = .ref C ∧ oe.dict = some d ∧ oe.data = .fields vs ∧ vs[1]? = some .none
  dbig : h.objs.size ≤ d
  dne : d ≠ e
  ns : h'.Ns1 d (fun y => if y = "limit" then some v else none)
section
variable {prog : Program} {w : World} {A : Around} {E : Value → Shared → Prop} {R : Result → Shared → Prop} {s : Shared} {K : Frag} {mg mb : Str → Option Value} {C fI : Addr}
theorem tm_made (T : TmTxt prog K mg C fI) {v : Value} (X : K.In s.heap) (hlim : s.heap.NoLimit) (G : s.heap.Ns mainGlobals mg) (B : s.heap.Ns builtinsNs mb) (hb : mb "super" = some (.type "super")) (hroom : A.depth + 1 < recursionLimit)
    (hq : ∀ h' tk e d, TmMade s.heap h' e C d v → R (.ok (.ret (.ref e))) { s with heap := h', toks := tk }) :
    codeAny (model prog w) A (.call (.ref C) ⟨[v], []⟩) R s := by
  obtain ⟨nm, q, N, bs, bm, sn, sub, ab, col, dd, k0, k1, k2, k3, k5, hC, hbm⟩ := T.cls
  obtain ⟨hp, g, dr, tk, os⟩ := s
  have up : ∀ b o, hp.get? b = some o → ((hp.push (kdv_tup [v])).push (excO C hp.objs.size)).get? b = some o := fun b o e => Heap.get?_push_of_some _ (Heap.get?_push_of_some _ e)
  have hget : ((hp.push (kdv_tup [v])).push (excO C hp.objs.size)).get? (hp.objs.size + 1) = some (excO C hp.objs.size) := by heap_get
  have hnx : K.lookup (hp.objs.size + 1) = none := by
    cases e : K.lookup (hp.objs.size + 1) with
    | none => rfl
    | some o => exact absurd (Nat.lt_of_succ_lt (Heap.lt_size (X _ _ e))) (Nat.lt_irrefl _)
  refine call_own F.excBase_ValueError (fun Y => refsVE_contains Y bm hbm) (X _ _ hC) (looks_findIn X T.iC) (fun self => bind_fn X self T.tI) (show 1 ≤ sizeLine from by decide) ?_
  refine tm_init (s := ⟨(hp.push (kdv_tup [v])).push (excO C hp.objs.size), g, dr, tk, os⟩) T (X.keeps up) (hlim.keeps up) (G.keeps up) (B.keeps up) hb hget hnx ?_ fun h' tk' dx t1 ⟨k', hx, dn, dne, hns⟩ => ?_
  · exact hroom
  · have z : hp.objs.size + 1 + 1 ≤ dx := by
      first
        | (simpa only [Heap.size_push] using dn)
        | exact dn
    exact ⟨rfl, hq h' tk' (hp.objs.size + 1) dx ⟨fun b o e => k' b o (Nat.ne_of_lt (Nat.lt_succ_of_lt (Heap.lt_size e))) (up b o e), Nat.le_succ _, ⟨_, _, hx, rfl, rfl, rfl, rfl⟩, Nat.le_trans (Nat.le_trans (Nat.le_succ _) (Nat.le_succ _)) z, dne, hns⟩⟩
end
end K36
namespace K36
open PySem PySem.Spec PyProof.Rows L2
theorem relO_tm {v : V} {v' : Value} (r : RelV v v') (f : Str) : RelO (List.lookup f [(("limit" : Str), v)]) (if f = "limit" then some v' else none) := by
  by_cases hw : f = "limit"
  · subst hw
    rw [if_pos rfl]
    have q : List.lookup ("limit" : Str) [(("limit" : Str), v)] = some v := by simp [List.lookup]
    rw [q]
    exact r
  · rw [if_neg hw]
    have qw : (f == ("limit" : Str)) = false := by simpa using hw
    have q2 : List.lookup f [(("limit" : Str), v)] = none := by simp [List.lookup, qw]
    rw [q2]
    trivial
section
variable {X : Cx} {C fI : Addr}
/-- TooMany(e) -/
def tMkTm (C : Addr) (ta : TA) : L2.St → Hp → XK → Prop := fun σ H Q => ta σ H fun vs H1 => ∃ v, vs = [v] ∧ ∀ d, H1 d = none → Q (.ref C) (some d) (upd H1 d (.xd [(("limit" : Str), v)]))
theorem pmk_tm {a : Expr} {ta : TA} {p pos : Pos} {k : Nat} (T : TmTxt X.prog X.K X.mg C fI) (hr : Room k X.A) (hk : 1 ≤ k) (ha : PA X [a] ta) (hg : Gl X "TooMany" := by rfl)
    (he : starEach (a :: []) X.env = (false, eval a X.env) :: starEach [] X.env := by rfl) (hpl : (backTo pos (starEach [] X.env)).any (·.1) = false := by rfl) :
    PMk X (.Call (.Name "TooMany" p) [a] [] pos) (tMkTm C ta) := by
  intro pins s σ H Q I h
  refine wpAny_Call_Name_kw (ld_glob I hg T.gC ?_)
  refine PySem.W.callWith_K (h₀ := X.base) I.ok.mod.kin T.kC (thn (ha.run pos pins s σ H _ I h) fun us s1 hh => ?_) he hpl
  obtain ⟨vs, H1, I1, r1, v, ev, q1⟩ := hh
  subst ev
  refine ⟨I1.kIn, ?_⟩
  cases r1 with
  | cons rv rn =>
    rename_i v' us'
    cases rn
    show wpAny _ _ (call (.ref C) [v']) _ _ _
    have hlim := I1.nolimit
    obtain ⟨mb, b1, b2⟩ := I1.mod.blt
    have G1 := I1.mod.glob.keeps I1.bk
    have B1 := b1.keeps I1.bk
    have hb : mb "super" = some (.type "super") := (b2 _ (by decide)).trans (by decide +kernel)
    have kin := I1.kIn
    obtain ⟨hp, g, dr, tk, os⟩ := s1
    refine wpAny_call (tm_made T kin hlim G1 B1 hb (by have := hr.dp; omega) fun h' tk' e d M => ?_)
    show MkP X pins σ Q (.ref e) ⟨h', g, dr, tk', os⟩
    obtain ⟨oe, fv, hoe, hc, hd, hdat, h1⟩ := M.obj
    have hns := M.ns
    obtain ⟨G', g1, g2⟩ := restrict h' fun b => decide (b ≠ e)
    have gk : ∀ b, b ≠ e → G'.get? b = h'.get? b := fun b hb => g1 b (decide_eq_true hb)
    have ge : G'.get? e = none := g2 e (by simp)
    have old : ∀ b o, hp.get? b = some o → G'.get? b = some o := fun b o q => (gk b (Nat.ne_of_lt (Nat.lt_of_lt_of_le (Heap.lt_size q) M.new))).trans (M.keep b o q)
    have ob : ObjOk X.prog X.w (upd H1 d (.xd [(("limit" : Str), v)])) G' d (.xd [(("limit" : Str), v)]) :=
      ⟨_, hns.at (fun o q => (gk d M.dne).trans q), fun f => relO_tm rv f⟩
    have J : Inv X pins σ (upd H1 d (.xd [(("limit" : Str), v)])) ⟨G', g, dr, tk', os⟩ := I1.laid (t' := tk') old M.dbig ob
    refine ⟨e, oe, fv, ⟨G', g, dr, tk', os⟩, _, .ref C, some d, rfl, J, fun b o q => ?_, ge, hoe, ⟨hc, hd⟩, hdat, h1, ?_, rfl, I1.bare, raises_own T.exC T.tyC, q1 d (I1.hok.fresh M.dbig)⟩
    · by_cases hb : b = e
      · have q' : G'.get? b = some o := q
        rw [hb, ge] at q'
        cases q'
      · exact (gk b hb).symm.trans q
    · rw [upd_ne (Ne.symm M.dne)]
      exact I1.hok.fresh M.new
/-- raise TooMany(e) -/
def tRaiseTm (C : Addr) (W : WX) (ta : TA) : TS := fun _ σ H => tMkTm C ta σ H fun cls d H' => W cls d σ H'
theorem ps_raiseTm {a : Expr} {ta : TA} {W : WX} {p pos pos2 : Pos} {k : Nat} (hc : X.calm = true) (T : TmTxt X.prog X.K X.mg C fI) (hr : Room k X.A) (hk : 1 ≤ k) (tk : Takes X W) (ha : PA X [a] ta) (hg : Gl X "TooMany" := by rfl)
    (he : starEach (a :: []) X.env = (false, eval a X.env) :: starEach [] X.env := by rfl) (hpl : (backTo pos (starEach [] X.env)).any (·.1) = false := by rfl) :
    PS X (.Raise (some (.Call (.Name "TooMany" p) [a] [] pos)) none pos2) (tRaiseTm C W ta) := ps_raise hc tk (pmk_tm T hr hk ha hg he hpl)
end
end K36
set_option Elab.async false
set_option linter.all false
set_option maxRecDepth 100000
set_option maxHeartbeats 8000000
namespace K36
open PySem PySem.Spec PyProof.Rows L2
/-! ### set(a list of ints), its order told -/
/-- an empty set's object -/
abbrev oSet0 (w : World) : Obj := { cls := .type "set", dict := none, data := .set #[] 0 (.fresh 0 0 (!w.params.followText "set-order")) }
section
variable {P : Program} {w : World} {A : Around} {E : Value → Shared → Prop}
/-- what set(xs) leaves: the set, at the next free place -/
def SetMade (P : Program) (w : World) (z : Shared) (ns : List Int) (u : Shared) : Prop := ∃ g1 tk c, u = { z with heap := g1, toks := tk } ∧ SetR w g1 z.heap.objs.size (fun j => decide (j ∈ ns)) c ∧ c ≤ ns.length ∧ ∀ b o, z.heap.get? b = some o → g1.get? b = some o
theorem set_listR {z : Shared} {l : Addr} {its : Array Value} (ns : List Int) {Q : Value → Shared → Prop} (quiet : A.handled = none) (isl : z.heap.IsList l its) (hin : IntsAre its.toList ns) (few : ns.length + 1 < scanBound)
    (done : ∀ u, SetMade P w z ns u → Q (.ref z.heap.objs.size) u) : wpAny (model P w) A (call (.type "set") [.ref l]) Q E z := by
  have eqn : its.size = ns.length := by
    rw [← Array.length_toList]
    exact IntsAre.length hin
  obtain ⟨c0, tl, hmro⟩ := F.called_set.mro
  have a1 := F.called_set.made
  have a2 := F.called_set.sub
  have a3 := F.called_set.notType
  have a4 := F.called_set.canCreate
  have a5 := F.typeCall_set_1 (.ref l)
  refine wpAny_call (codeAny_of_tree ?_)
  show wpAny _ _ (callAny (.type "set") _) _ _ _
  refine wpAny_pure ⟨Code.quiet_builtin _ (by decide +kernel), codeAny_builtin F.entry_type_call ?_⟩
  rw [Around.under_plain (weight_type_call_type "set" [.ref l] []) rfl]
  repeat (any_goals (first | assumption | wp_step))
  -- the new set
  refine codeAny_mono (code_set_led1 (.ref l) (E := E) (Q₁ := fun v u => v = .ref z.heap.objs.size ∧ u = { z with heap := z.heap.push (oSet0 w) }) ⟨rfl, rfl⟩) fun r u hr => ?_
  match r, hr with
  | .error e, hr => exact hr
  | .ok .next, hr => exact hr.elim
  | .ok .brk, hr => exact hr.elim
  | .ok .cont, hr => exact hr.elim
  | .ok (.ret v), hr =>
    obtain ⟨rfl, rfl⟩ := hr
    have gS : (z.heap.push (oSet0 w)).get? z.heap.objs.size = some (oSet0 w) := Heap.get?_push_size _ rfl
    have tS : Shared.TypeIs { z with heap := z.heap.push (oSet0 w) } (.ref z.heap.objs.size) "set" := ⟨_, gS, rfl⟩
    have i1 := F.called_set.init.lookup
    have i2 := F.called_set.init.bind (.ref z.heap.objs.size)
    repeat (any_goals (first | assumption | wp_step))
    -- its filling
    refine codeAny_mono (codeAny_call_builtin (R := wants (fun r u => r = .none ∧ SetMade P w z ns u) E) F.called_set.init.plain F.entry_set_init (check_set_init_1 tS ?_)) fun r2 u2 hr2 => ?_
    · obtain ⟨⟨ocl, odi, oda, osl⟩, gl, cl, nl, dl⟩ := isl
      simp only at cl dl
      subst cl dl
      have gl' : (z.heap.push (oSet0 w)).get? l = some { cls := .type "list", dict := odi, data := .seq its nl, slots := osl } := Heap.get?_push_of_some _ gl
      have s1 := F.sub_list_set
      have s2 := F.sub_list_frozenset
      have s3 : (Value.type "list" == Value.type "dict") = false := by decide
      have isl1 : (z.heap.push (oSet0 w)).IsList l its := ⟨_, gl', rfl, nl, rfl⟩
      unfold Builtin.«set.__init__» noKeywords Builtin.Frozenset.updateFrom
      generalize hold : pyIter = held
      wp_walk
      subst hold
      refine wpAny_pyIter_list isl1 (wpAny_bind (wpAny_runValue ?_))
      have lt : l < z.heap.objs.size := Heap.lt_size gl
      have sz : (z.heap.push (oSet0 w)).objs.size = z.heap.objs.size + 1 := Heap.size_push ..
      have ne1 : l ≠ (z.heap.push (oSet0 w)).objs.size := by
        rw [sz]
        exact Nat.ne_of_lt (Nat.lt_succ_of_lt lt)
      have notIn : z.heap.objs.size ∉ [(z.heap.push (oSet0 w)).objs.size, l] := by
        rw [sz]
        simp only [List.mem_cons, List.not_mem_nil, or_false, not_or]
        exact ⟨Nat.ne_of_lt (Nat.lt_succ_self _), Nat.ne_of_gt lt⟩
      have vals : ∀ (i : Nat) (v : Value), its[i]? = some v → ∃ k t, ns[i]? = some k ∧ v = .int k t := fun i v hv => by
        have hi : i < ns.length := by
          rw [← eqn]
          exact (Array.getElem?_eq_some_iff.mp hv).1
        obtain ⟨t, e⟩ := PyProof.Rows.IntsAre.int_at hin i v (by rw [Array.getElem?_toList]; exact hv)
        refine ⟨ns[i], t, List.getElem?_eq_getElem hi, ?_⟩
        rw [e, List.getD_eq_getElem?_getD, List.getElem?_eq_getElem hi]
        rfl
      refine set_update_ints ((Walks.list (by simp [quiet]) _ l ne1 its).toS) z.heap.objs.size notIn ns eqn few vals (its.size - 0) 0 _ (by omega) (Nat.zero_le _) ⟨⟨_, Heap.get?_push_size _ rfl, rfl, rfl⟩, ?isL⟩ ⟨0, Nat.le_refl 0, setR_new_at ?g0⟩ ?fin
      case g0 => exact Heap.get?_push_of_some _ gS
      case isL => exact ⟨_, Heap.get?_push_of_some _ gl', rfl, nl, rfl⟩
      case fin =>
        intro u c hm hc hS
        obtain ⟨g1, gg, dd, tk, oo⟩ := u
        obtain rfl : gg = z.gens := hm.gens
        obtain rfl : dd = z.drawn := hm.drawn
        obtain rfl : oo = z.os := hm.os
        rw [eqn] at hc
        refine wpAny_pure (wpAny_pure ⟨rfl, g1, tk, c, rfl, hS, hc, fun b o e => ?_⟩)
        have b0 : b < z.heap.objs.size := Heap.lt_size e
        refine hm.heap b o ?_ (Heap.get?_push_of_some _ (Heap.get?_push_of_some _ e))
        simp only [List.mem_cons, List.not_mem_nil, or_false, not_or]
        refine ⟨Nat.ne_of_lt b0, ?_⟩
        rw [sz]
        exact Nat.ne_of_lt (Nat.lt_succ_of_lt b0)
    · match r2, hr2 with
      | .error e, hr2 => exact hr2
      | .ok .next, hr2 => exact hr2.elim
      | .ok .brk, hr2 => exact hr2.elim
      | .ok .cont, hr2 => exact hr2.elim
      | .ok (.ret v2), hr2 =>
        obtain ⟨rfl, hm⟩ := hr2
        repeat (any_goals (first | assumption | wp_step))
        exact done _ hm
end
end K36
set_option Elab.async false
set_option linter.all false
set_option maxRecDepth 100000
set_option maxHeartbeats 4000000
namespace K36
open PySem PySem.Spec PyProof.Rows L2
section
variable {X : Cx}
/-- set(xs), len of a set -/
theorem call_setL (hc : X.calm = true) : CallR X (.type "set") (fun xs H Q => ∃ (a : Addr) (ns : List Int), xs = [.ref a] ∧ SqL X.K H a (ns.map V.int) ∧ ns.length ≤ 4000 ∧
    ∀ (p : Addr) (c : Nat), H p = none → c ≤ ns.length → (∃ ks : List Int, ks.Nodup ∧ ks.length = c ∧ ∀ j, j ∈ ks ↔ j ∈ ns) → Q (.ref p) (upd H p (SetO X.w p (fun j => decide (j ∈ ns)) c))) := by
  intro pins s σ H xs us Q I r h
  obtain ⟨a, ns, rfl, hl, hn, q⟩ := h
  rw [Vals.ref1 r]
  obtain ⟨its, rv, pl, hz⟩ := I.list hl
  refine set_listR ns (I.ok.hd hc) pl.isList (by simpa using Vals.ints rv) (by unfold scanBound; omega) fun u hu => ?_
  obtain ⟨g1, tk, c, rfl, R, hc', k⟩ := hu
  have hp : H s.heap.objs.size = none := I.fresh
  refine ⟨.ref s.heap.objs.size, _, I.laid k (Nat.le_refl _) (setO_new R), rfl, q _ c hp hc' ?_⟩
  obtain ⟨o, es, ep, t, _, _, _, _, nd, hm, _, _, hsz, _⟩ := R
  refine ⟨es.toList.map keyOf, nd, by rw [List.length_map, Array.length_toList]; exact hsz, fun j => ?_⟩
  rw [← hm j]
  exact decide_eq_true_iff
theorem call_setLen : CallR X (.builtin "len") (fun xs H Q => ∃ (a : Addr) (S : Int → Bool) (n : Nat), xs = [.ref a] ∧ H a = some (SetO X.w a S n) ∧ n ≤ 4000 ∧ Q (.int (n : Nat)) H) := by
  intro pins s σ H xs us Q I r h
  obtain ⟨a, S, n, rfl, ha, hn, q⟩ := h
  rw [Vals.ref1 r]
  obtain ⟨o, es, ep, t, ho, hex, hd, _, _, _, _, hf, hsz, _⟩ := setO_get I ha
  exact call_len_set ho hex hd hf (by rw [hsz] <;> omega) ⟨.int (n : Nat), H, I.tok _, ⟨_, by rw [hsz]⟩, q⟩
/-! ### sorted((len, road), ..) -/
def encR (r : Tr) : PyData := .tuple [nD r.length, dT r]
theorem dT_ints (r : Tr) : dT r = .tuple ((r.map Int.ofNat).map PyData.int) := by
  unfold dT nD
  rw [List.map_map]
  rfl
theorem alike_enc (r t : Tr) : PySem.W.alike (encR r) (encR t) = true := by
  unfold encR
  rw [dT_ints, dT_ints]
  have e := PySem.W.alike_ints (r.map Int.ofNat) (t.map Int.ofNat)
  rw [List.map_map] at e
  rw [List.map_map] at e
  simp [PySem.W.alike, PySem.W.alikeAll, nD, e]
theorem depth_enc (r : Tr) : (encR r).depth ≤ 3 := by
  unfold encR
  rw [dT_ints]
  have e := PySem.W.depth_ints (r.map Int.ofNat)
  rw [List.map_map] at e
  simp [PyData.depth, PyData.depthAll, nD, e]
theorem each_of {K : PySem.W.Frag} {pins : List (Addr × Obj)} {σ : L2.St} {H : Hp} {s : Shared} (I : Inv X pins σ H s) : ∀ {rs : List Tr} {vs : List V} {us : List Value}, DVs H (rs.map encR) vs → Vals vs us →
    PySem.W.EachIs (fun v (b : V × Tr) => RelV b.1 v) us (vs.zip rs) ∧ PySem.W.EachIs (fun v (b : V × Tr) => ∃ as, Reads s.heap v (encR b.2) as) us (vs.zip rs)
  | [], vs, us, h, r => by
    cases (show vs = [] from h)
    cases r
    exact ⟨.nil, .nil⟩
  | t :: rs, vs, us, h, r => by
    obtain ⟨v, vr, rfl, h2, h3⟩ := h
    cases r with
    | cons r1 r2 =>
      obtain ⟨a, b⟩ := each_of (K := K) I h3 r2
      exact ⟨.cons r1 a, .cons (Dp.reads I _ _ _ h2.dp r1) b⟩
theorem vals_each : ∀ {out : List Value} {bs : List (V × Tr)}, PySem.W.EachIs (fun v (b : V × Tr) => RelV b.1 v) out bs → Vals (bs.map (·.1)) out
  | _, _, .nil => .nil
  | _, _, .cons r t => .cons r (vals_each t)
theorem call_sortedR {n : Nat} (hr : Room n X.A) : CallR X (.builtin "sorted") (fun xs H Q => ∃ (a : Addr) (vs : List V) (rs : List Tr), xs = [.ref a] ∧ H a = some (.lst vs) ∧ DVs H (rs.map encR) vs ∧ rs.length ≤ 100000 ∧
    ∀ (p : Addr) (ys : List V), H p = none → ys.length = vs.length → (∀ y ∈ ys, y ∈ vs) → Q (.ref p) (upd H p (.lst ys))) := by
  intro pins s σ H xs us Q I r h
  obtain ⟨a, vs, rs, rfl, ha, hd, hz, q⟩ := h
  rw [Vals.ref1 r]
  obtain ⟨its, rv, pl, hl⟩ := I.list (SqL.of ha)
  obtain ⟨e1, e2⟩ := each_of (K := X.K) I hd rv
  have len : vs.length = rs.length := by rw [hd.length, List.length_map]
  have lenz : (vs.zip rs).length = vs.length := by rw [List.length_zip]; omega
  refine PySem.W.sorted_data (enc := fun b : V × Tr => encR b.2) pl.isList e1 e2 (PySem.W.AllAlike.of fun b b' => alike_enc b.2 b'.2) (PySem.W.Sortable.tuples fun b => ⟨_, _, rfl⟩) (by rw [lenz, len]; exact fits hz) (fun b _ => ?_) fun out ho eo => ?_
  · have h1 := depth_enc b.2
    have h2 := hr.units
    omega
  · have vo := vals_each eo
    have pm := List.mergeSort_perm (vs.zip rs) (PySem.W.dataLe false fun b : V × Tr => encR b.2)
    obtain ⟨c, hc⟩ := PyProof.Rows.sortedAll_at s.heap its (List.toArray out)
    have hp : H (s.heap.objs.size + 1) = none := I.hok.fresh (Nat.le_succ _)
    have le : (((vs.zip rs).mergeSort (PySem.W.dataLe false fun b : V × Tr => encR b.2)).map (·.1)).length = vs.length := by
      rw [List.length_map, pm.length_eq, lenz]
    refine ⟨.ref (s.heap.objs.size + 1), _, I.laid (t' := s.toks) (o := .lst (((vs.zip rs).mergeSort (PySem.W.dataLe false fun b : V × Tr => encR b.2)).map (·.1))) (fun b o e => PyProof.Rows.sortedAll_old e) (Nat.le_succ _) ⟨?_, out, c, vo, hc⟩, rfl, q _ _ hp le fun y hy => ?_⟩
    · rw [le, len]
      exact fits hz
    · obtain ⟨b, hb, rfl⟩ := List.mem_map.mp hy
      exact (List.of_mem_zip (pm.mem_iff.mp hb)).1
end
end K36
set_option Elab.async false
set_option linter.all false
set_option maxRecDepth 100000
set_option maxHeartbeats 4000000
namespace K36
open PySem PySem.Spec PyProof.Rows L2
/-! ### defs as they stand, and what they promise -/
/-- the built-ins' names are the built-ins -/
structure Bl (mg : Str → Option Value) : Prop where
  isi : mg "isinstance" = none
  int : mg "int" = none
  bool : mg "bool" = none
  str : mg "str" = none
  tuple : mg "tuple" = none
  list : mg "list" = none
  set : mg "set" = none
  len : mg "len" = none
  all : mg "all" = none
  any : mg "any" = none
  range : mg "range" = none
  sorted : mg "sorted" = none
  abs : mg "abs" = none
  min : mg "min" = none
  enum : mg "enumerate" = none
/-- the module's numbers -/
def Num (mg : Str → Option Value) (x : Str) (n : Int) : Prop := ∃ t, mg x = some (.int n t)
/-- the def at st, named q, stands under the name x -/
structure Df (K : PySem.W.Frag) (mg : Str → Option Value) (x q : Str) (st : Stmt) : Prop where
  ex : ∃ (f : Addr) (fd : FuncData), mg x = some (.ref f) ∧ Fun K q q st f fd
/-- what is called by the name x keeps sp, at most k deep; nothing is raised -/
structure Cl (P : Program) (w : World) (K : PySem.W.Frag) (mg : Str → Option Value) (base : Heap) (k : Nat) (x : Str) (sp : Sp) : Prop where
  ex : ∃ (f : Addr) (fd : FuncData) (ps : List Str), mg x = some (.ref f) ∧ PySem.W.keepIn K (.ref f) = true ∧ Binds K fd ps [] ∧ FnOk P w K mg base CX0 k f fd ps sp
section
variable {P : Program} {w : World} {K : PySem.W.Frag} {mg : Str → Option Value} {base : Heap}
abbrev BindsAs (st : Stmt) (q : Str) (ps : List Str) : Prop := ∀ (kV doc pm : Value) (an : Option Addr) (cdv ct : Value) (us : List Value), us.length = ps.length → bindArgs (PySem.W.fnOf q q (defArgs st) (defBody st) (defScope st) .none kV doc pm an cdv ct) ⟨us, []⟩ = pure (ps.zip us)
theorem Df.cl {x q : Str} {st : Stmt} {N ps : List Str} {k : Nat} {sp : Sp} (D : Df K mg x q st) (S : FnScope N ps (defScope st)) (b : BindsAs st q ps) (len : ∀ vs H Q E, sp vs H Q E → vs.length = ps.length)
    (hbody : ∀ (f : Addr) (cdv : Value) (A : Around) (outer : List Env) (s : Shared) (H : Hp) (vs : List V) (Q : VK) (E : XK), Room k (A.deeper (envOfC q (defScope st) s.heap.objs.size f cdv)) → sp vs H Q E →
      ∃ t, PSs (cxOf CX0 P w K mg base N q (defScope st) f cdv A outer s H E).nox (defBody st) t ∧ t { nx := fun _ H' => Q .non H', rt := Q } (start N vs) H) : Cl P w K mg base (k + 1) x sp := by
  obtain ⟨f, fd, g, F⟩ := D.ex
  exact ⟨f, fd, ps, g, F.kp, F.binds b, F.ok S len fun cdv A outer s H vs Q E hr h => hbody f cdv A outer s H vs Q E hr h⟩
theorem Cl.mono {j k : Nat} {x : Str} {sp : Sp} (c : Cl P w K mg base j x sp) (h : j ≤ k) : Cl P w K mg base k x sp := by
  obtain ⟨f, fd, ps, h1, h2, h3, h4⟩ := c.ex
  exact ⟨f, fd, ps, h1, h2, h3, h4.mono h⟩
end
section
variable {X : Cx} {k j : Nat} {x : Str} {sp : Sp} {p pos : Pos} {e : Expr} {es : List Expr} {t : TA}
theorem pe_cl (c : Cl X.prog X.w X.K X.mg X.base k x sp) (hr : Room j X.A) (hk : k ≤ j) (ha : PA X (e :: es) t) (hg : Gl X x := by rfl) (hdb : (x == ("__debug__" : Str)) = false := by decide)
    (he : starEach (e :: es) X.env = (false, eval e X.env) :: starEach es X.env := by rfl) (hpl : (backTo pos (starEach es X.env)).any (·.1) = false := by rfl) : PE X (.Call (.Name x p) (e :: es) [] pos) (tCall sp [] E0 t) := by
  obtain ⟨f, fd, ps, h1, h2, h3, h4⟩ := c.ex
  exact pe_call h4 (hr.mono hk) hg h1 h2 h3 .nil pass0 ha hdb he hpl
theorem pe_cl0 (c : Cl X.prog X.w X.K X.mg X.base k x sp) (hr : Room j X.A) (hk : k ≤ j) (hg : Gl X x := by rfl) (hdb : (x == ("__debug__" : Str)) = false := by decide) : PE X (.Call (.Name x p) [] [] pos) (tCall sp [] E0 tNil) := by
  obtain ⟨f, fd, ps, h1, h2, h3, h4⟩ := c.ex
  exact pe_call0 h4 (hr.mono hk) hg h1 h2 h3 .nil pass0 hdb
theorem pe_num {n : Int} (h : Num X.mg x n) (hg : Gl X x := by rfl) (hd : (x == ("__debug__" : Str)) = false := by decide) : PE X (.Name x pos) (tC (.int n)) := by
  obtain ⟨u, hu⟩ := h
  exact pe_glob hg hu ⟨_, rfl⟩ hd
end
/-! ### the same rules, the written part by its own name (within a comprehension's block) -/
section
variable {X : Cx} {K : PySem.W.Frag} {tg l : Expr} {tl : TE}
def rLenS (K : PySem.W.Frag) : List V → Hp → VK → Prop := fun xs H Q => ∃ p ys, xs = [.ref p] ∧ (SqL K H p ys ∨ SqT K H p ys) ∧ Q (.int ys.length) H
theorem call_lenK (h : X.K = K) : CallR X (.builtin "len") (rLenS K) := by
  subst h
  exact call_len_seq
theorem ix_tupK (h : X.K = K) : IxR X (rIxT K) := by
  subst h
  exact ix_tup
theorem ix_listK (h : X.K = K) : IxR X (rIxL K) := by
  subst h
  exact ix_list
theorem cr_allK (h : X.K = K) (hc : X.calm = true) : CallR X (.builtin "all") (rAll K) := by
  subst h
  exact cr_all hc
theorem pi_tupK (h : X.K = K) (hl : PE X l tl) : PI X tg l (iTup K tl) := by
  subst h
  exact pi_tup hl
theorem pi_listK (h : X.K = K) (hl : PE X l tl) : PI X tg l (iList K tl) := by
  subst h
  exact pi_list hl
theorem call_isK (h : X.K = K) : CallR X (.builtin "isinstance") (rIsi K) := by
  subst h
  exact call_isi
theorem op_catK (h : X.K = K) : OpR X (binaryOp .Add) (rCatA K) := by
  subst h
  exact op_catA
def rTupOf (K : PySem.W.Frag) : List V → Hp → VK → Prop := fun xs H Q => ∃ p ys, xs = [.ref p] ∧ ((SqL K H p ys ∧ ∀ l, H l = none → Q (.ref l) (upd H l (.tup ys))) ∨ (SqT K H p ys ∧ Q (.ref p) H))
theorem call_tupK (h : X.K = K) : CallR X (.type "tuple") (rTupOf K) := by
  subst h
  exact call_tuple_of
end
/-! ### comprehensions -/
/-- what a comprehension's reading asks behind its source, every item kept -/
abbrev LcGoal (J : It) (v : Nat) (σ : L2.St) (te : TE) (D : Addr) (H1 : Hp) (Qd : Hp → Prop) : Prop :=
  ∃ W : Nat → Nat → Hp → Prop, (∃ m, W 0 m (upd H1 D (.lst []))) ∧ ∀ i m H, W i m H →
    (J.stop i H ∧ Qd H) ∨ (J.go i H ∧ ∃ Nx : Hp → Prop, (∀ H', Nx H' → ∃ m', m' < m ∧ W (i + 1) m' H') ∧ ∀ x H', J.yld i H x H' → gName v x (wipe σ [v]) H' fun σ2 H2 => wipe σ2 [v] = wipe σ [v] ∧ tYes σ2 H2 fun b H3 =>
      if b = true then te σ2 H3 fun y H4 => ∃ acc, H4 D = some (.lst acc) ∧ acc.length < sizeLine ∧ Nx (upd H4 D (.lst (acc ++ [y]))) else Nx H3)
/-- over a tuple, objects only made: the results stand in the new list -/
theorem lc_tupS {K : PySem.W.Frag} {a : Addr} {xs : List V} {te : TE} {v : Nat} {σ : L2.St} {H1 : Hp} {D : Addr} {Qd : Hp → Prop} (R : Nat → Hp → V → Prop) (hD : H1 D = none) (ha : H1 a = some (.tup xs)) (hn : xs.length ≤ 100000)
    (hw : ∀ x, wipe ((wipe σ [v]).set v (some x)) [v] = wipe σ [v]) (hR : ∀ j G G' y, Same G G' → R j G y → R j G' y)
    (turn : ∀ i x H (Q : VK), xs[i]? = some x → Same H1 H → (∀ y H4, Same H H4 → R i (hid [D] H4) y → Q y H4) → te ((wipe σ [v]).set v (some x)) H Q)
    (last : ∀ H ys, Same H1 H → H D = some (.lst ys) → ys.length = xs.length → (∀ (j : Nat) y, ys[j]? = some y → R j (hid [D] H) y) → Qd H) : LcGoal (Itt K a) v σ te D H1 Qd := by
  refine lc_map xs.length (fun i x => xs[i]? = some x) [D] (fun H => Same H1 H) R (List.mem_singleton.mpr rfl) hn hw (same_upd hD) (fun H l s _ => same_upd2 s hD) hR (fun i H lt s => ⟨xs, xs[i], SqT.of (s _ _ ha), List.getElem?_eq_getElem lt⟩)
    (fun H s => ⟨xs, SqT.of (s _ _ ha), Nat.le_refl _⟩) (fun i H x H' lt s y => ⟨y.1, y.2 xs (SqT.of (s _ _ ha))⟩) (fun i x H Q lt hx s hl q => ?_) last
  exact turn i x H Q hx s fun y H4 s4 r => q y H4 (s.trans s4) (by
    obtain ⟨l, e⟩ := hl
    rw [e]
    exact s4 _ _ e) (same_hid s4) r
/-- .. over range(n) -/
theorem lc_rngS {n : Nat} {te : TE} {v : Nat} {σ : L2.St} {H1 : Hp} {D : Addr} {Qd : Hp → Prop} (R : Nat → Hp → V → Prop) (hD : H1 D = none) (hn : n ≤ 100000)
    (hw : ∀ x, wipe ((wipe σ [v]).set v (some x)) [v] = wipe σ [v]) (hR : ∀ j G G' y, Same G G' → R j G y → R j G' y)
    (turn : ∀ i H (Q : VK), i < n → Same H1 H → (∀ y H4, Same H H4 → R i (hid [D] H4) y → Q y H4) → te ((wipe σ [v]).set v (some (nV i))) H Q)
    (last : ∀ H ys, Same H1 H → H D = some (.lst ys) → ys.length = n → (∀ (j : Nat) y, ys[j]? = some y → R j (hid [D] H) y) → Qd H) : LcGoal (Itr 0 n) v σ te D H1 Qd := by
  refine lc_map n (fun i x => x = nV i) [D] (fun H => Same H1 H) R (List.mem_singleton.mpr rfl) hn hw (same_upd hD) (fun H l s _ => same_upd2 s hD) hR (fun i H lt s => lt) (fun H s => Nat.le_refl _) (fun i H x H' lt s y => ⟨y.1, y.2.trans (by rw [Int.zero_add]; rfl)⟩) (fun i x H Q lt hx s hl q => ?_) last
  subst hx
  exact turn i H Q lt s fun y H4 s4 r => q y H4 (s.trans s4) (by
    obtain ⟨l, e⟩ := hl
    rw [e]
    exact s4 _ _ e) (same_hid s4) r
/-- .. over a list -/
theorem lc_lstS {K : PySem.W.Frag} {a : Addr} {xs : List V} {te : TE} {v : Nat} {σ : L2.St} {H1 : Hp} {D : Addr} {Qd : Hp → Prop} (R : Nat → Hp → V → Prop) (hD : H1 D = none) (ha : H1 a = some (.lst xs)) (hn : xs.length ≤ 100000)
    (hw : ∀ x, wipe ((wipe σ [v]).set v (some x)) [v] = wipe σ [v]) (hR : ∀ j G G' y, Same G G' → R j G y → R j G' y)
    (turn : ∀ i x H (Q : VK), xs[i]? = some x → Same H1 H → (∀ y H4, Same H H4 → R i (hid [D] H4) y → Q y H4) → te ((wipe σ [v]).set v (some x)) H Q)
    (last : ∀ H ys, Same H1 H → H D = some (.lst ys) → ys.length = xs.length → (∀ (j : Nat) y, ys[j]? = some y → R j (hid [D] H) y) → Qd H) : LcGoal (Itl K a) v σ te D H1 Qd := by
  refine lc_map xs.length (fun i x => xs[i]? = some x) [D] (fun H => Same H1 H) R (List.mem_singleton.mpr rfl) hn hw (same_upd hD) (fun H l s _ => same_upd2 s hD) hR (fun i H lt s => ⟨xs, xs[i], SqL.of (s _ _ ha), List.getElem?_eq_getElem lt⟩)
    (fun H s => ⟨xs, SqL.of (s _ _ ha), Nat.le_refl _⟩) (fun i H x H' lt s y => ⟨y.1, y.2 xs (SqL.of (s _ _ ha))⟩) (fun i x H Q lt hx s hl q => ?_) last
  exact turn i x H Q hx s fun y H4 s4 r => q y H4 (s.trans s4) (by
    obtain ⟨l, e⟩ := hl
    rw [e]
    exact s4 _ _ e) (same_hid s4) r
/-- the results are these -/
theorem list_of_at {ys : List V} {n : Nat} {f : Nat → V} (el : ys.length = n) (h : ∀ (j : Nat) y, ys[j]? = some y → y = f j) : ys = (List.range n).map f := by
  apply List.ext_getElem?
  intro j
  by_cases hj : j < n
  · have e : ys[j]? = some ys[j] := List.getElem?_eq_getElem (by omega)
    rw [e, List.getElem?_map, List.getElem?_range hj, h j _ e]
    rfl
  · rw [List.getElem?_eq_none (by omega), List.getElem?_eq_none (by simp; omega)]
end K36
set_option Elab.async false
set_option linter.all false
set_option maxRecDepth 100000
set_option maxHeartbeats 4000000
namespace K36
open PySem PySem.Spec PyProof.Rows L2
/-! ### the checks -/
def pairD (m s : Int) : PyData → Bool
  | .tuple [a, b] => wholeD 0 (m - 1) a && wholeD 0 (s - 1) b
  | _ => false
def itemsD : PyData → List PyData
  | .tuple ds => ds
  | _ => []
def kindD : PyData → Bool
  | .tuple rows => decide (1 ≤ rows.length) && decide (rows.length ≤ 6) && rows.all (tupD 1 6) && rows.all (fun r => decide ((itemsD r).length = (itemsD (rows.headD .none)).length)) &&
      rows.all (fun r => (itemsD r).all (pairD (itemsD (rows.headD .none)).length rows.length))
  | _ => false
def trainD (n : Nat) : PyData → Bool
  | .tuple ds => decide (ds.length ≤ 60) && ds.all (wholeD 0 ((n : Int) - 1))
  | _ => false
section
variable {P : Program} {w : World} {K : PySem.W.Frag} {mg : Str → Option Value} {base : Heap}
def spIsWhole : Sp := fun vs H Q _ => ∃ (d : PyData) (v : V) (lo hi : Int), vs = [v, .int lo, .int hi] ∧ DV H d v ∧ Q (.bl (wholeD lo hi d)) H
theorem k_is_whole (D : Df K mg "is_whole" "is_whole" s_is_whole) (B : Bl mg) : Cl P w K mg base 1 "is_whole" spIsWhole := by
  refine D.cl c_is_whole (fun _ _ _ _ _ _ us hl => match us, hl with | [_, _, _], _ => rfl) (fun vs H Q E h => ?_) (fun f cdv A outer s H vs Q E hr h => ?_)
  · obtain ⟨d, v, lo, hi, rfl, _⟩ := h
    rfl
  · obtain ⟨d, v, lo, hi, rfl, hd, q⟩ := h
    refine ⟨_, pss_one (ps_ret (pe_and (pe_callB call_isi (by rfl) B.isi (by decide +kernel) (pa_cons (pv 0) (pa_cons (pe_bltn (by rfl) B.int (by decide +kernel) (v := .ty "int") rfl) pa_nil)))
      (pe_and (pe_not (pe_callB call_isi (by rfl) B.isi (by decide +kernel) (pa_cons (pv 0) (pa_cons (pe_bltn (by rfl) B.bool (by decide +kernel) (v := .ty "bool") rfl) pa_nil))))
      (pe_one (pe_chain op_le op_le (pv 1) (pv 0) (pv 2)))))), ?_⟩
    refine ⟨v, rfl, v, .ty "int", _, _, _, rfl, .ty _, ty_of hd, kit_ty (kit_int d), _, rfl, ite2 (fun e1 => ?_) (fun e1 => ?_)⟩
    · refine ⟨v, rfl, v, .ty "bool", _, _, _, rfl, .ty _, ty_of hd, kit_ty (kit_bool d), _, rfl, _, rfl, ite2 (fun e2 => ?_) (fun e2 => ?_)⟩
      · obtain ⟨i, rfl⟩ : ∃ i, d = .int i := by
          cases d <;> first | exact ⟨_, rfl⟩ | (simp [isIntD, isBoolD] at e1 e2)
        cases (show v = V.int i from hd)
        refine ⟨_, rfl, _, rfl, _, _, rfl, rfl, _, rfl, ite2 (fun e3 => ?_) (fun e3 => ?_)⟩
        · refine ⟨_, rfl, _, _, rfl, rfl, ?_⟩
          have : wholeD lo hi (.int i) = decide (i ≤ hi) := by
            show (decide (lo ≤ i) && decide (i ≤ hi)) = _
            rw [e3, Bool.true_and]
          rw [this] at q
          exact q
        · have : wholeD lo hi (.int i) = false := by
            show (decide (lo ≤ i) && decide (i ≤ hi)) = _
            rw [Bool.eq_false_iff.mpr e3, Bool.false_and]
          rw [this] at q
          exact q
      · have : wholeD lo hi d = false := by
          cases d <;> first | rfl | simp [isIntD, isBoolD] at e1 e2
        rw [this] at q
        exact q
    · have : wholeD lo hi d = false := by
        cases d <;> first | rfl | simp [isIntD] at e1
      rw [this] at q
      exact q
def spIsTup : Sp := fun vs H Q _ => ∃ (d : PyData) (v : V) (lo hi : Int), vs = [v, .int lo, .int hi] ∧ DV H d v ∧ Q (.bl (tupD lo hi d)) H
theorem k_is_tuple_of (D : Df K mg "is_tuple_of" "is_tuple_of" s_is_tuple_of) (B : Bl mg) : Cl P w K mg base 1 "is_tuple_of" spIsTup := by
  refine D.cl c_is_tuple_of (fun _ _ _ _ _ _ us hl => match us, hl with | [_, _, _], _ => rfl) (fun vs H Q E h => ?_) (fun f cdv A outer s H vs Q E hr h => ?_)
  · obtain ⟨d, v, lo, hi, rfl, _⟩ := h
    rfl
  · obtain ⟨d, v, lo, hi, rfl, hd, q⟩ := h
    refine ⟨_, pss_one (ps_ret (pe_and (pe_callB call_isi (by rfl) B.isi (by decide +kernel) (pa_cons (pv 0) (pa_cons (pe_bltn (by rfl) B.tuple (by decide +kernel) (v := .ty "tuple") rfl) pa_nil)))
      (pe_one (pe_chain op_le op_le (pv 1) (pe_callB call_len_seq (by rfl) B.len PySem.boot_len (pa_cons (pv 0) pa_nil)) (pv 2))))), ?_⟩
    refine ⟨v, rfl, v, .ty "tuple", _, _, _, rfl, .ty _, ty_of hd, kit_ty (kit_tup d), _, rfl, ite2 (fun e1 => ?_) (fun e1 => ?_)⟩
    · obtain ⟨ds, rfl⟩ : ∃ ds, d = .tuple ds := by
        cases d <;> first | exact ⟨_, rfl⟩ | (simp [isTupD] at e1)
      obtain ⟨a, xs, rfl, ha, hx⟩ := hd
      have el := hx.length
      refine ⟨_, rfl, _, rfl, a, xs, rfl, .inr (SqT.of ha), _, _, rfl, rfl, _, rfl, ite2 (fun e3 => ?_) (fun e3 => ?_)⟩
      · refine ⟨_, rfl, _, _, rfl, rfl, ?_⟩
        have : tupD lo hi (.tuple ds) = decide ((xs.length : Int) ≤ hi) := by
          show (decide (lo ≤ (ds.length : Int)) && decide ((ds.length : Int) ≤ hi)) = _
          rw [← el, e3, Bool.true_and]
        rw [this] at q
        exact q
      · have : tupD lo hi (.tuple ds) = false := by
          show (decide (lo ≤ (ds.length : Int)) && decide ((ds.length : Int) ≤ hi)) = _
          rw [← el, Bool.eq_false_iff.mpr e3, Bool.false_and]
        rw [this] at q
        exact q
    · have : tupD lo hi d = false := by
        cases d <;> first | rfl | simp [isTupD] at e1
      rw [this] at q
      exact q
def spFitsPairK : Sp := fun vs H Q _ => ∃ (d : PyData) (v : V) (m n : Int), vs = [v, .int m, .int n] ∧ DV H d v ∧ Q (.bl (pairD m n d)) H
theorem k_fits_pair_kinds (D : Df K mg "fits_pair_kinds" "fits_pair" s_fits_pair_kinds) (C1 : Cl P w K mg base 1 "is_tuple_of" spIsTup) (C2 : Cl P w K mg base 1 "is_whole" spIsWhole) : Cl P w K mg base 2 "fits_pair_kinds" spFitsPairK := by
  refine D.cl c_fits_pair_kinds (fun _ _ _ _ _ _ us hl => match us, hl with | [_, _, _], _ => rfl) (fun vs H Q E h => ?_) (fun f cdv A outer s H vs Q E hr h => ?_)
  · obtain ⟨d, v, m, n, rfl, _⟩ := h
    rfl
  · obtain ⟨d, v, m, n, rfl, hd, q⟩ := h
    refine ⟨_, pss_one (ps_ret (pe_and (pe_cl C1 hr (by decide) (pa_cons (pv 0) (pa_cons pe_int (pa_cons pe_int pa_nil))))
      (pe_and (pe_cl C2 hr (by decide) (pa_cons (pe_ix ix_tup (pv 0) pe_int (fun _ _ => rfl)) (pa_cons pe_int (pa_cons (pe_op op_sub (pv 1) pe_int) pa_nil))))
      (pe_one (pe_cl C2 hr (by decide) (pa_cons (pe_ix ix_tup (pv 0) pe_int (fun _ _ => rfl)) (pa_cons pe_int (pa_cons (pe_op op_sub (pv 2) pe_int) pa_nil)))))))), ?_⟩
    refine ⟨v, rfl, d, v, 2, 2, rfl, hd, _, rfl, ite2 (fun e1 => ?_) (fun e1 => ?_)⟩
    · obtain ⟨a, b, rfl⟩ : ∃ a b, d = .tuple [a, b] := by
        match d, e1 with
        | .tuple [a, b], _ => exact ⟨a, b, rfl⟩
        | .tuple [], e => simp [tupD] at e
        | .tuple [_], e => simp [tupD] at e
        | .tuple (_ :: _ :: _ :: r), e =>
          simp [tupD] at e
          omega
        | .none, e => simp [tupD] at e
        | .bool _, e => simp [tupD] at e
        | .int _, e => simp [tupD] at e
        | .str _, e => simp [tupD] at e
        | .list _, e => simp [tupD] at e
        | .dict _, e => simp [tupD] at e
      obtain ⟨l, xs, rfl, hl, va, r1, rfl, ha, vb, r2, rfl, hb, hr2⟩ := hd
      cases (show r2 = [] from hr2)
      refine ⟨_, rfl, l, _, _, va, rfl, rfl, SqT.of hl, atN (j := 0) rfl, _, rfl, _, _, rfl, rfl, a, va, 0, m - 1, rfl, ha, _, rfl, ite2 (fun e2 => ?_) (fun e2 => ?_)⟩
      · refine ⟨_, rfl, l, _, _, vb, rfl, rfl, SqT.of hl, atN (j := 1) rfl, _, rfl, _, _, rfl, rfl, b, vb, 0, n - 1, rfl, hb, ?_⟩
        have : pairD m n (.tuple [a, b]) = wholeD 0 (n - 1) b := by
          show (wholeD 0 (m - 1) a && wholeD 0 (n - 1) b) = _
          rw [e2, Bool.true_and]
        rw [this] at q
        exact q
      · have : pairD m n (.tuple [a, b]) = false := by
          show (wholeD 0 (m - 1) a && wholeD 0 (n - 1) b) = _
          rw [Bool.eq_false_iff.mpr e2, Bool.false_and]
        rw [this] at q
        exact q
    · have : pairD m n d = false := by
        match d, e1 with
        | .tuple [a, b], e => exact absurd rfl e
        | .tuple [], _ => rfl
        | .tuple [_], _ => rfl
        | .tuple (_ :: _ :: _ :: r), _ => rfl
        | .none, _ => rfl
        | .bool _, _ => rfl
        | .int _, _ => rfl
        | .str _, _ => rfl
        | .list _, _ => rfl
        | .dict _, _ => rfl
      rw [this] at q
      exact q
def spSettings : Sp := fun vs H Q _ => ∃ (a b : Addr) (xs ys : List V), vs = [.ref a] ∧ H a = some (.tup (.ref b :: xs)) ∧ H b = some (.tup ys) ∧ Q (nV ys.length) H
theorem k_settings_in (D : Df K mg "settings_in" "settings_in" s_settings_in) (B : Bl mg) : Cl P w K mg base 1 "settings_in" spSettings := by
  refine D.cl c_settings_in (fun _ _ _ _ _ _ us hl => match us, hl with | [_], _ => rfl) (fun vs H Q E h => ?_) (fun f cdv A outer s H vs Q E hr h => ?_)
  · obtain ⟨a, b, xs, ys, rfl, _⟩ := h
    rfl
  · obtain ⟨a, b, xs, ys, rfl, h1, h2, q⟩ := h
    refine ⟨_, pss_one (ps_ret (pe_callB call_len_seq (by rfl) B.len PySem.boot_len (pa_cons (pe_ix ix_tup (pv 0) pe_int (fun _ _ => rfl)) pa_nil))), ?_⟩
    exact ⟨_, rfl, a, _, _, .ref b, rfl, rfl, SqT.of h1, atN (j := 0) rfl, b, ys, rfl, .inr (SqT.of h2), q⟩
end
end K36
set_option Elab.async false
set_option linter.all false
set_option maxRecDepth 100000
set_option maxHeartbeats 4000000
namespace K36
open PySem PySem.Spec PyProof.Rows L2
/-- a list of truth values, all of them -/
theorem all_range {n : Nat} (f : Nat → Bool) {l : List PyData} (g : PyData → Bool) (el : l.length = n) (h : ∀ (i : Nat) d, l[i]? = some d → f i = g d) : ((List.range n).map f).all id = l.all g := by
  subst el
  have : (List.range l.length).map f = l.map g := by
    apply List.ext_getElem?
    intro i
    rw [List.getElem?_map, List.getElem?_map]
    by_cases hi : i < l.length
    · rw [List.getElem?_range hi, List.getElem?_eq_getElem hi]
      exact congrArg some (h i _ (List.getElem?_eq_getElem hi))
    · rw [List.getElem?_eq_none (by simp; omega), List.getElem?_eq_none (by omega)]
      rfl
  rw [this, List.all_map]
  rfl
theorem map_bl (n : Nat) (f : Nat → Bool) : (List.range n).map (fun i => V.bl (f i)) = ((List.range n).map f).map V.bl := by
  rw [List.map_map]
  rfl
section
variable {P : Program} {w : World} {K : PySem.W.Frag} {mg : Str → Option Value} {base : Heap}
/-- a comprehension of truth values over a tuple of data, and all() of it -/
theorem lc_all {a : Addr} {xs : List V} {ds : List PyData} {te : TE} {v : Nat} {σ : L2.St} {H1 : Hp} {D : Addr} {Qd : Hp → Prop} (g : PyData → Bool) (hD : H1 D = none) (ha : H1 a = some (.tup xs)) (hx : DVs H1 ds xs) (hn : ds.length ≤ 100000)
    (hw : ∀ x, wipe ((wipe σ [v]).set v (some x)) [v] = wipe σ [v])
    (turn : ∀ d x H (Q : VK), d ∈ ds → DV H d x → Same H1 H → (∀ H4, Same H H4 → Q (.bl (g d)) H4) → te ((wipe σ [v]).set v (some x)) H Q)
    (last : ∀ H (bs : List Bool), Same H1 H → H D = some (.lst (bs.map V.bl)) → bs.all id = ds.all g → Qd H) : LcGoal (Itt K a) v σ te D H1 Qd := by
  have el := hx.length
  refine lc_tupS (fun j _ y => y = .bl (g (ds.getD j .none))) hD ha (by omega) hw (fun j G G' y _ e => e) (fun i x H Q e s q => ?_) (fun H ys s e l h => ?_)
  · obtain ⟨d, ed, dv⟩ := hx.getV e
    refine turn d x H Q (List.mem_of_getElem? ed) (dv.same s) s fun H4 s4 => q _ H4 s4 ?_
    rw [List.getD_eq_getElem?_getD, ed]
    rfl
  · have ey := list_of_at (f := fun i => V.bl (g (ds.getD i .none))) (l.trans el) h
    rw [map_bl] at ey
    refine last H _ s (by rw [e, ey]) (all_range _ g rfl fun i d hd => ?_)
    rw [List.getD_eq_getElem?_getD, hd]
    rfl
def spFitsKind : Sp := fun vs H Q _ => ∃ (d : PyData) (v : V), vs = [v] ∧ DV H d v ∧ ∀ H', Same H H' → Q (.bl (kindD d)) H'
theorem tup_of {lo hi : Int} {d : PyData} (h : tupD lo hi d = true) : ∃ ds, d = .tuple ds ∧ lo ≤ (ds.length : Int) ∧ (ds.length : Int) ≤ hi := by
  match d, h with
  | .tuple ds, e =>
    have e' : (decide (lo ≤ (ds.length : Int)) && decide ((ds.length : Int) ≤ hi)) = true := e
    simp only [Bool.and_eq_true, decide_eq_true_eq] at e'
    exact ⟨ds, rfl, e'⟩
theorem tupD_tup {lo hi : Int} {ds : List PyData} : tupD lo hi (.tuple ds) = (decide (lo ≤ (ds.length : Int)) && decide ((ds.length : Int) ≤ hi)) := rfl
theorem kindD_no {d : PyData} (h : tupD 1 6 d = false) : kindD d = false := by
  match d, h with
  | .tuple ds, e =>
    rw [tupD_tup] at e
    have : (decide (1 ≤ ds.length) && decide (ds.length ≤ 6)) = false := by
      rw [← e]
      congr 1
      · exact decide_eq_decide.mpr (by omega)
      · exact decide_eq_decide.mpr (by omega)
    simp [kindD, this]
  | .none, _ => rfl
  | .bool _, _ => rfl
  | .int _, _ => rfl
  | .str _, _ => rfl
  | .list _, _ => rfl
  | .dict _, _ => rfl
theorem k_fits_kind (D : Df K mg "fits_kind" "fits_kind" s_fits_kind) (B : Bl mg) (n1 : Num mg "SORTS" 6) (n2 : Num mg "SETTINGS" 6) (C1 : Cl P w K mg base 1 "is_tuple_of" spIsTup) (C2 : Cl P w K mg base 2 "fits_pair_kinds" spFitsPairK) : Cl P w K mg base 3 "fits_kind" spFitsKind := by
  refine D.cl c_fits_kind (fun _ _ _ _ _ _ us hl => match us, hl with | [_], _ => rfl) (fun vs H Q E h => ?_) (fun f cdv A outer s H vs Q E hr h => ?_)
  · obtain ⟨d, v, rfl, _⟩ := h
    rfl
  · obtain ⟨d, v, rfl, hd, q⟩ := h
    have nd := c_fits_kind.nd
    refine ⟨_, pss_cons (ps_if (PW.pt (pw_or (pt_not (pt_val (pe_cl C1 hr (by decide) (pa_cons (pv 0) (pa_cons pe_int (pa_cons (pe_num n1) pa_nil))))))
        (pw_or1 (pt_not (pt_val (pe_callB (cr_all rfl) (by rfl) B.all (by decide +kernel) (pa_cons (pe_lc (own := [("row", 3)]) (g := gName 3) (tt := tYes) rfl nd (pi_tup (pv 0)) (blkOk_by (N := n_fits_kind) (sc := defScope s_fits_kind) (by decide +kernel))
          (fun _ _ _ _ _ => pg_name (i := 3) nd rfl (Or.inl rfl)) (fun _ _ _ _ _ => pts_nil) (fun _ _ _ _ _ => pe_cl C1 hr (by decide) (pa_cons (pv 3) (pa_cons pe_int (pa_cons (pe_num n2) pa_nil))))) pa_nil)))))))
        (pss_one (ps_ret pe_bl)) pss_nil)
      (pss_cons (ps_asg (pe_tup (pa_cons (pe_callB call_len_seq (by rfl) B.len PySem.boot_len (pa_cons (pe_ix ix_tup (pv 0) pe_int (fun _ _ => rfl)) pa_nil)) (pa_cons (pe_callB call_len_seq (by rfl) B.len PySem.boot_len (pa_cons (pv 0) pa_nil)) pa_nil)))
        (pg_tup rfl (pgs_cons (pg_name (i := 1) nd rfl (Or.inr rfl)) (pgs_cons (pg_name (i := 2) nd rfl (Or.inr rfl)) pgs_nil))))
      (pss_cons (ps_if (pt_not (pt_val (pe_callB (cr_all rfl) (by rfl) B.all (by decide +kernel) (pa_cons (pe_lc (own := [("row", 3)]) (g := gName 3) (tt := tYes) rfl nd (pi_tup (pv 0)) (blkOk_by (N := n_fits_kind) (sc := defScope s_fits_kind) (by decide +kernel))
          (fun _ _ _ _ _ => pg_name (i := 3) nd rfl (Or.inl rfl)) (fun _ _ _ _ _ => pts_nil) (fun _ _ _ _ _ => pe_cmpR op_eq (pe_callB (call_lenK (K := K) rfl) (by rfl) B.len PySem.boot_len (pa_cons (pv 3) pa_nil)) (pv 1) (nomark _))) pa_nil)))) (pss_one (ps_ret pe_bl)) pss_nil)
      (pss_one (ps_ret (pe_callB (cr_all rfl) (by rfl) B.all (by decide +kernel) (pa_cons (pe_lc (own := [("row", 3)]) (g := gName 3) (tt := tYes) rfl nd (pi_tup (pv 0)) (blkOk_by (N := n_fits_kind) (sc := defScope s_fits_kind) (by decide +kernel))
          (fun _ _ _ _ _ => pg_name (i := 3) nd rfl (Or.inl rfl)) (fun _ _ _ _ _ => pts_nil) (fun _ _ _ _ _ =>
            pe_callB (cr_allK (K := K) rfl rfl) (by rfl) B.all (by decide +kernel) (pa_cons (pe_lc (own := [("pair", 4)]) (g := gName 4) (tt := tYes) rfl nd (pi_tupK (K := K) rfl (pv 3)) (blkOk_by (by kernel_rfl))
              (fun _ _ _ _ _ => pg_name (i := 4) nd rfl (Or.inl rfl)) (fun _ _ _ _ _ => pts_nil) (fun _ _ _ _ _ => pe_cl C2 hr (by decide) (pa_cons (pv 4) (pa_cons (pv 1) (pa_cons (pv 2) pa_nil))))) pa_nil))) pa_nil)))))), ?_⟩
    refine ⟨v, rfl, d, v, 1, 6, rfl, hd, _, rfl, ite2 (fun e1 => ?_) (fun e1 => ?_)⟩
    · have z := kindD_no (d := d) (by simpa using e1)
      rw [z] at q
      exact q H (Same.refl H)
    have hT : tupD 1 6 d = true := by simpa using e1
    obtain ⟨ds, rfl, l1, l6⟩ := tup_of hT
    obtain ⟨a, xs, rfl, ha, hx⟩ := hd
    have elx := hx.length
    have c1 : decide (1 ≤ ds.length) = true := decide_eq_true (by omega)
    have c2 : decide (ds.length ≤ 6) = true := decide_eq_true (by omega)
    refine ⟨_, rfl, a, rfl, ⟨_, SqT.of ha⟩, fun D1 n1 => lc_all (tupD 1 6) n1 ha hx (by omega) (fun _ => rfl) (fun d x H1 Q hm dv s1 q => ⟨x, rfl, d, x, 1, 6, rfl, dv, q _ (Same.refl _)⟩) (fun H1 bs s1 eD1 eb1 => ⟨D1, bs, rfl, SqL.of eD1, _, rfl, ite2 (fun e2 => ?_) (fun e2 => ?_)⟩)⟩
    · have z : kindD (.tuple ds) = false := by
        have z2 : ds.all (tupD 1 6) = false := by rw [← eb1]; simpa using e2
        show (_ && _ && ds.all (tupD 1 6) && _ && _) = false
        rw [z2, Bool.and_false, Bool.false_and, Bool.false_and]
      rw [z] at q
      exact q H1 s1
    have c3 : ds.all (tupD 1 6) = true := by rw [← eb1]; simpa using e2
    obtain ⟨r0, dr, rfl⟩ : ∃ r0 dr, ds = r0 :: dr := by
      cases ds with
      | nil => simp at l1
      | cons r dr => exact ⟨r, dr, rfl⟩
    have rows : ∀ r ∈ (r0 :: dr), ∃ rs, r = .tuple rs ∧ rs.length ≤ 6 := fun r hr => by
      obtain ⟨rs, e, _, h6⟩ := tup_of (List.all_eq_true.mp c3 r hr)
      exact ⟨rs, e, by omega⟩
    obtain ⟨m0, e0, m6⟩ := rows r0 List.mem_cons_self
    subst e0
    obtain ⟨v0, xr, rfl, d0, dxr⟩ := id hx
    obtain ⟨b0, ys, rfl, hb0, hys⟩ := d0
    have ely := hys.length
    have ha1 := s1 _ _ ha
    -- settings, sorts
    refine ⟨_, rfl, a, _, _, _, rfl, rfl, SqT.of ha1, atN (j := 0) rfl, b0, ys, rfl, .inr (SqT.of (s1 _ _ hb0)), _, rfl, a, _, rfl, .inr (SqT.of ha1), (by show 2 ≤ sizeLine; decide), fun T nT => ?_⟩
    have sT : Same H1 (upd H1 T (.tup [.int ys.length, .int (V.ref b0 :: xr).length])) := same_upd nT
    have s2 := s1.trans sT
    refine ⟨T, _, rfl, SqT.of upd_same, rfl, _, _, rfl, _, _, rfl, rfl, ?_⟩
    have ha2 := s2 _ _ ha
    have hx2 := hx.same s2
    -- the rows are as long
    refine ⟨_, rfl, a, rfl, ⟨_, SqT.of ha2⟩, fun D2 n2 => lc_all (fun r => decide ((itemsD r).length = m0.length)) n2 ha2 hx2 (by omega) (fun _ => rfl) (fun d x H3 Q hm dv s3 q => ?_) (fun H3 bs s3 eD2 eb2 => ⟨D2, bs, rfl, SqL.of eD2, _, rfl, ite2 (fun e3 => ?_) (fun e3 => ?_)⟩)⟩
    · obtain ⟨rs, rfl, _⟩ := rows d hm
      obtain ⟨p, zs, rfl, hp, hz⟩ := dv
      refine ⟨_, rfl, p, zs, rfl, .inr (SqT.of hp), _, rfl, rfl, ?_⟩
      have z : decide (V.int (zs.length : Int) = V.int (ys.length : Int)) = decide (rs.length = m0.length) := by
        rw [hz.length, ely]
        apply decide_eq_decide.mpr
        constructor
        · intro e
          injection e with e
          omega
        · intro e
          rw [e]
      rw [z]
      exact q _ (Same.refl _)
    · have z : kindD (.tuple (.tuple m0 :: dr)) = false := by
        have z2 : (PyData.tuple m0 :: dr).all (fun r => decide ((itemsD r).length = m0.length)) = false := by rw [← eb2]; simpa using e3
        show (_ && _ && _ && (PyData.tuple m0 :: dr).all (fun r => decide ((itemsD r).length = m0.length)) && _) = false
        rw [z2, Bool.and_false, Bool.false_and]
      rw [z] at q
      exact q H3 (s2.trans s3)
    have c4 : (PyData.tuple m0 :: dr).all (fun r => decide ((itemsD r).length = m0.length)) = true := by rw [← eb2]; simpa using e3
    have s4 := s2.trans s3
    have ha4 := s4 _ _ ha
    have hx4 := hx.same s4
    -- the pairs
    refine ⟨_, rfl, a, rfl, ⟨_, SqT.of ha4⟩, fun D3 n3 => lc_all (fun r => (itemsD r).all (pairD m0.length (PyData.tuple m0 :: dr).length)) n3 ha4 hx4 (by omega) (fun _ => rfl) (fun d x H5 Q hm dv s5 q => ?_) (fun H5 bs s5 eD3 eb3 => ⟨D3, bs, rfl, SqL.of eD3, ?_⟩)⟩
    · obtain ⟨rs, rfl, r6⟩ := rows d hm
      obtain ⟨p, zs, rfl, hp, hz⟩ := dv
      refine ⟨_, rfl, p, rfl, ⟨_, SqT.of hp⟩, fun D4 n4 => lc_all (pairD m0.length (PyData.tuple m0 :: dr).length) n4 hp hz (by omega) (fun _ => rfl) (fun d x H6 Q hm dv s6 q => ?_) (fun H6 bs s6 eD4 eb4 => ⟨D4, bs, rfl, SqL.of eD4, ?_⟩)⟩
      · refine ⟨x, rfl, _, rfl, _, rfl, d, x, m0.length, (PyData.tuple m0 :: dr).length, ?_, dv, q _ (Same.refl _)⟩
        rw [ely, elx]
        rfl
      · rw [eb4]
        exact q _ s6
    · rw [eb3]
      have z : kindD (.tuple (.tuple m0 :: dr)) = (PyData.tuple m0 :: dr).all (fun r => (itemsD r).all (pairD m0.length (PyData.tuple m0 :: dr).length)) := by
        show (decide (1 ≤ (PyData.tuple m0 :: dr).length) && decide ((PyData.tuple m0 :: dr).length ≤ 6) && (PyData.tuple m0 :: dr).all (tupD 1 6) && (PyData.tuple m0 :: dr).all (fun r => decide ((itemsD r).length = m0.length)) &&
          (PyData.tuple m0 :: dr).all (fun r => (itemsD r).all (pairD m0.length (PyData.tuple m0 :: dr).length))) = _
        rw [c1, c2, c3, c4]
        rfl
      rw [← z]
      exact q H5 (s4.trans s5)
end
end K36
set_option Elab.async false
set_option linter.all false
set_option maxRecDepth 100000
set_option maxHeartbeats 4000000
namespace K36
open PySem PySem.Spec PyProof.Rows L2
/-! ### plain words: latches -/
def cell (k : Kd) (s t : Nat) : Nat × Nat := (k.getD s []).getD t (0, 0)
def latch (k : Kd) : Tr → Nat → Nat × Tr
  | [], t => (t, [])
  | x :: r, t => ((latch k r (cell k x t).1).1, (cell k x t).2 :: (latch k r (cell k x t).1).2)
structure OkK (k : Kd) (m : Nat) : Prop where
  s1 : 1 ≤ k.length
  s6 : k.length ≤ 6
  m1 : 1 ≤ m
  m6 : m ≤ 6
  rows : ∀ r ∈ k, r.length = m
  ins : ∀ r ∈ k, ∀ p ∈ r, p.1 < m ∧ p.2 < k.length
def OkT (n : Nat) (t : Tr) : Prop := ∀ x ∈ t, x < n
theorem OkK.row {k : Kd} {m s : Nat} (h : OkK k m) (hs : s < k.length) : ∃ r, k[s]? = some r ∧ r.length = m ∧ k.getD s [] = r := by
  have e : k[s]? = some k[s] := List.getElem?_eq_getElem hs
  exact ⟨k[s], e, h.rows _ (List.getElem_mem hs), by rw [List.getD_eq_getElem?_getD, e]; rfl⟩
theorem OkK.cell {k : Kd} {m s t : Nat} (h : OkK k m) (hs : s < k.length) (ht : t < m) : ∃ r, k[s]? = some r ∧ r[t]? = some (cell k s t) ∧ (cell k s t).1 < m ∧ (cell k s t).2 < k.length := by
  obtain ⟨r, e, el, eg⟩ := h.row hs
  have et : r[t]? = some r[t] := List.getElem?_eq_getElem (by omega)
  have ec : K36.cell k s t = r[t] := by
    unfold K36.cell
    rw [eg, List.getD_eq_getElem?_getD, et]
    rfl
  rw [ec]
  exact ⟨r, e, et, h.ins r (List.mem_of_getElem? e) _ (List.getElem_mem _)⟩
theorem latch_ok {k : Kd} {m : Nat} (h : OkK k m) : ∀ {t : Tr} {s : Nat}, OkT k.length t → s < m → (latch k t s).1 < m ∧ OkT k.length (latch k t s).2 ∧ (latch k t s).2.length = t.length
  | [], s, _, hs => ⟨hs, fun _ z => (nomatch z), rfl⟩
  | x :: r, s, ht, hs => by
    obtain ⟨_, _, _, c1, c2⟩ := h.cell (ht x List.mem_cons_self) hs
    obtain ⟨a, b, c⟩ := latch_ok h (t := r) (fun y hy => ht y (List.mem_cons_of_mem _ hy)) c1
    refine ⟨a, fun y hy => ?_, by show (latch k r _).2.length + 1 = r.length + 1; rw [c]⟩
    rcases List.mem_cons.mp hy with e | e
    · rw [e]
      exact c2
    · exact b y e
theorem latch_snoc (k : Kd) : ∀ (t : Tr) (x s : Nat), latch k (t ++ [x]) s = ((cell k x (latch k t s).1).1, (latch k t s).2 ++ [(cell k x (latch k t s).1).2])
  | [], x, s => rfl
  | y :: r, x, s => by
    show ((latch k (r ++ [x]) _).1, _ :: (latch k (r ++ [x]) _).2) = _
    rw [latch_snoc k r x]
    rfl
section
variable {P : Program} {w : World} {K : PySem.W.Frag} {mg : Str → Option Value} {base : Heap}
/-- a kind of so many sorts: its own tuple -/
def KLen (H : Hp) (n : Nat) (v : V) : Prop := ∃ a xs, v = .ref a ∧ H a = some (.tup xs) ∧ xs.length = n
def spFitsTrain : Sp := fun vs H Q _ => ∃ (d : PyData) (kv v : V) (n : Nat), vs = [kv, v] ∧ KLen H n kv ∧ DV H d v ∧ ∀ H', Same H H' → Q (.bl (trainD n d)) H'
theorem trainD_no {n : Nat} {d : PyData} (h : tupD 0 60 d = false) : trainD n d = false := by
  match d, h with
  | .tuple ds, e =>
    rw [tupD_tup] at e
    have z : decide ((0 : Int) ≤ (ds.length : Int)) = true := decide_eq_true (by omega)
    rw [z, Bool.true_and] at e
    have : decide (ds.length ≤ 60) = false := by
      rw [← e]
      exact decide_eq_decide.mpr (by omega)
    simp [trainD, this]
  | .none, _ => rfl
  | .bool _, _ => rfl
  | .int _, _ => rfl
  | .str _, _ => rfl
  | .list _, _ => rfl
  | .dict _, _ => rfl
theorem k_fits_train (D : Df K mg "fits_train" "fits_train" s_fits_train) (B : Bl mg) (n1 : Num mg "LONGEST" 60) (C1 : Cl P w K mg base 1 "is_tuple_of" spIsTup) (C2 : Cl P w K mg base 1 "is_whole" spIsWhole) : Cl P w K mg base 2 "fits_train" spFitsTrain := by
  refine D.cl c_fits_train (fun _ _ _ _ _ _ us hl => match us, hl with | [_, _], _ => rfl) (fun vs H Q E h => ?_) (fun f cdv A outer s H vs Q E hr h => ?_)
  · obtain ⟨d, kv, v, n, rfl, _⟩ := h
    rfl
  · obtain ⟨d, kv, v, n, rfl, hk, hd, q⟩ := h
    have nd := c_fits_train.nd
    refine ⟨_, pss_one (ps_ret (pe_and (pe_cl C1 hr (by decide) (pa_cons (pv 1) (pa_cons pe_int (pa_cons (pe_num n1) pa_nil))))
      (pe_one (pe_callB (cr_all rfl) (by rfl) B.all (by decide +kernel) (pa_cons (pe_lc (own := [("sort", 2)]) (g := gName 2) (tt := tYes) rfl nd (pi_tup (pv 1)) (blkOk_by (N := n_fits_train) (sc := defScope s_fits_train) (by decide +kernel))
          (fun _ _ _ _ _ => pg_name (i := 2) nd rfl (Or.inl rfl)) (fun _ _ _ _ _ => pts_nil) (fun _ _ _ _ _ => pe_cl C2 hr (by decide) (pa_cons (pv 2) (pa_cons pe_int (pa_cons (pe_op op_sub (pe_callB (call_lenK (K := K) rfl) (by rfl) B.len PySem.boot_len (pa_cons (pv 0) pa_nil)) pe_int) pa_nil))))) pa_nil))))), ?_⟩
    refine ⟨v, rfl, d, v, 0, 60, rfl, hd, _, rfl, ite2 (fun e1 => ?_) (fun e1 => ?_)⟩
    · obtain ⟨ds, rfl, _, l6⟩ := tup_of e1
      obtain ⟨a, xs, rfl, ha, hx⟩ := hd
      obtain ⟨b, ks, rfl, hb, hn⟩ := hk
      refine ⟨_, rfl, a, rfl, ⟨_, SqT.of ha⟩, fun D1 n1 => lc_all (wholeD 0 ((n : Int) - 1)) n1 ha hx (by omega) (fun _ => rfl) (fun d x H1 Q hm dv s1 q => ?_) (fun H1 bs s1 eD1 eb1 => ⟨D1, bs, rfl, SqL.of eD1, ?_⟩)⟩
      · refine ⟨x, rfl, _, rfl, b, ks, rfl, .inr (SqT.of (s1 _ _ hb)), _, _, rfl, rfl, d, x, 0, (n : Int) - 1, ?_, dv, q _ (Same.refl _)⟩
        rw [hn]
        rfl
      · rw [eb1]
        have z : trainD n (.tuple ds) = ds.all (wholeD 0 ((n : Int) - 1)) := by
          show (decide (ds.length ≤ 60) && ds.all (wholeD 0 ((n : Int) - 1))) = _
          rw [decide_eq_true (by omega), Bool.true_and]
        rw [← z]
        exact q H1 s1
    · have z := trainD_no (n := n) (d := d) (by simpa using e1)
      rw [z] at q
      exact q H (Same.refl H)
def spNeedKind : Sp := fun vs H Q _ => ∃ (d : PyData) (v : V), vs = [v] ∧ DV H d v ∧ kindD d = true ∧ ∀ H', Same H H' → Q .non H'
theorem k_need_kind (D : Df K mg "need_kind" "need_kind" s_need_kind) (C1 : Cl P w K mg base 3 "fits_kind" spFitsKind) : Cl P w K mg base 4 "need_kind" spNeedKind := by
  refine D.cl c_need_kind (fun _ _ _ _ _ _ us hl => match us, hl with | [_], _ => rfl) (fun vs H Q E h => ?_) (fun f cdv A outer s H vs Q E hr h => ?_)
  · obtain ⟨d, v, rfl, _⟩ := h
    rfl
  · obtain ⟨d, v, rfl, hd, hk, q⟩ := h
    refine ⟨_, pss_one (ps_if (pt_not (pt_val (pe_cl C1 hr (by decide) (pa_cons (pv 0) pa_nil)))) pss_never pss_nil), ?_⟩
    refine ⟨v, rfl, d, v, rfl, hd, fun H' s' => ⟨_, rfl, ?_⟩⟩
    rw [hk]
    exact q H' s'
def spNeedTrain : Sp := fun vs H Q _ => ∃ (d : PyData) (kv v : V) (n : Nat), vs = [kv, v] ∧ KLen H n kv ∧ DV H d v ∧ trainD n d = true ∧ ∀ H', Same H H' → Q .non H'
theorem k_need_train (D : Df K mg "need_train" "need_train" s_need_train) (C1 : Cl P w K mg base 2 "fits_train" spFitsTrain) : Cl P w K mg base 3 "need_train" spNeedTrain := by
  refine D.cl c_need_train (fun _ _ _ _ _ _ us hl => match us, hl with | [_, _], _ => rfl) (fun vs H Q E h => ?_) (fun f cdv A outer s H vs Q E hr h => ?_)
  · obtain ⟨d, kv, v, n, rfl, _⟩ := h
    rfl
  · obtain ⟨d, kv, v, n, rfl, hk, hd, ht, q⟩ := h
    refine ⟨_, pss_one (ps_if (pt_not (pt_val (pe_cl C1 hr (by decide) (pa_cons (pv 0) (pa_cons (pv 1) pa_nil))))) pss_never pss_nil), ?_⟩
    refine ⟨kv, rfl, v, rfl, d, kv, v, n, rfl, hk, hd, fun H' s' => ⟨_, rfl, ?_⟩⟩
    rw [ht]
    exact q H' s'
/-- the setting and the train that come out, as a pair -/
def DPairT (H : Hp) (v : V) (s : Nat) (t : Tr) : Prop := ∃ a b, v = .ref a ∧ H a = some (.tup [nV s, .ref b]) ∧ H b = some (.tup (t.map nV))
def spLatch : Sp := fun vs H Q _ => ∃ (k : Kd) (m : Nat) (t : Tr) (s : Nat) (kv tv : V), vs = [kv, tv, nV s] ∧ DV H (dK k) kv ∧ DV H (dT t) tv ∧ OkK k m ∧ OkT k.length t ∧ s < m ∧ t.length ≤ 1000 ∧
  ∀ H' v, Same H H' → DPairT H' v (latch k t s).1 (latch k t s).2 → Q v H'
theorem k_latch_passed (D : Df K mg "latch_passed" "latch_passed" s_latch_passed) : Cl P w K mg base 1 "latch_passed" spLatch := by
  refine D.cl c_latch_passed (fun _ _ _ _ _ _ us hl => match us, hl with | [_, _, _], _ => rfl) (fun vs H Q E h => ?_) (fun f cdv A outer s H vs Q E hr h => ?_)
  · obtain ⟨k, m, t, s, kv, tv, rfl, _⟩ := h
    rfl
  · obtain ⟨k, m, t, s0, kv, tv, rfl, hk, ht, ok, okt, hs, hlen, q⟩ := h
    have nd := c_latch_passed.nd
    refine ⟨_, pss_cons (ps_set (i := 3) nd rfl (.inl rfl) (pe_tup pa_nil))
      (pss_cons (ps_for PassesOwn.never rfl (pi_tup (pv 1)) (pg_name (i := 4) nd rfl (.inl rfl))
        (pss_cons (ps_asg (pe_ix ix_tup (pe_ix ix_tup (pv 0) (pv 4) (fun _ _ => rfl)) (pv 2) (fun _ _ => rfl)) (pg_tup rfl (pgs_cons (pg_name (i := 2) nd rfl (.inl rfl)) (pgs_cons (pg_name (i := 5) nd rfl (.inl rfl)) pgs_nil))))
        (pss_one (ps_set (i := 3) nd rfl (.inl rfl) (pe_op op_catA (pv 3) (pe_tup (pa_cons (pv 5) pa_nil)))))))
      (pss_one (ps_ret (pe_tup (pa_cons (pv 2) (pa_cons (pv 3) pa_nil)))))), ?_⟩
    obtain ⟨a, rfl, ha⟩ := DV.tr.mp ht
    obtain ⟨ka, kx, rfl, hka, hkx⟩ := hk.kd
    refine ⟨Nat.zero_le _, fun p0 np0 => ?_⟩
    have sm0 : Same H (upd H p0 (.tup [])) := same_upd np0
    have lent : (t.map nV).length = t.length := List.length_map ..
    refine ⟨_, rfl, a, rfl, ⟨_, SqT.of (sm0 _ _ ha)⟩, for_tup (K := K) (a := a) (xs := t.map nV) (fun i σ H3 => ∃ (fa : Addr) (x4 x5 : Option V), σ = [some (.ref ka), some (.ref a), some (nV (latch k (t.take i) s0).1), some (.ref fa), x4, x5] ∧ Same H H3 ∧ H3 fa = some (.tup ((latch k (t.take i) s0).2.map nV)))
      ⟨p0, none, none, rfl, sm0, upd_same⟩ (fun i σ H3 _ ⟨fa, x4, x5, _, s3, _⟩ => SqT.of (s3 _ _ ha)) ?_ ?_⟩
    · rintro i y σ H3 hi ⟨fa, x4, x5, rfl, s3, hfa⟩
      obtain ⟨z, hz, rfl⟩ : ∃ z, t[i]? = some z ∧ y = nV z := by
        rw [List.getElem?_map] at hi
        cases e : t[i]? with
        | none =>
          rw [e] at hi
          cases hi
        | some z =>
          rw [e] at hi
          exact ⟨z, rfl, (Option.some.inj hi).symm⟩
      have tk : t.take (i + 1) = t.take i ++ [z] := by
        rw [List.take_add_one, hz]
        rfl
      have okt' : OkT k.length (t.take i) := fun x hx => okt x (List.mem_of_mem_take hx)
      obtain ⟨l1, l2, l3⟩ := latch_ok ok okt' hs
      obtain ⟨r, er, ec, _, _⟩ := ok.cell (okt z (List.mem_of_getElem? hz)) l1
      obtain ⟨ra, rx, e1, hra, hrx⟩ := hkx.getR er
      obtain ⟨pa, e2, hpa⟩ := hrx.getP ec
      have ls := latch_snoc k (t.take i) z s0
      rw [← tk] at ls
      refine ⟨_, rfl, _, rfl, ka, kx, _, .ref ra, rfl, rfl, SqT.of (s3 _ _ hka), atN e1, _, rfl, ra, rx, _, .ref pa, rfl, rfl, SqT.of (s3 _ _ hra), atN e2, ?_⟩
      refine ⟨pa, _, rfl, SqT.of (s3 _ _ hpa), rfl, _, _, rfl, _, _, rfl, rfl, ?_⟩
      refine ⟨_, rfl, _, rfl, (by show 1 ≤ sizeLine; decide), fun T nT => ?_⟩
      have sT : Same H3 (upd H3 T (.tup [nV (cell k z (latch k (t.take i) s0).1).2])) := same_upd nT
      have hl3 : (latch k (t.take i) s0).2.length ≤ 1000 := by
        rw [l3, List.length_take]
        omega
      refine ⟨fa, T, _, _, rfl, rfl, SqT.of (sT _ _ hfa), SqT.of upd_same, ?_, fun e0 => ?_, fun _ e0 => ?_, fun _ _ p np => ?_⟩
      · rw [List.length_map]
        exact fits (by show _ + 1 ≤ 100000; omega)
      · refine ⟨T, _, _, by rw [ls]; rfl, s3.trans sT, ?_⟩
        rw [upd_same, ls, List.map_append, e0]
        rfl
      · cases e0
      · have sp : Same (upd H3 T (.tup [nV (cell k z (latch k (t.take i) s0).1).2])) (upd (upd H3 T (.tup [nV (cell k z (latch k (t.take i) s0).1).2])) p (.tup ((latch k (t.take i) s0).2.map nV ++ [nV (cell k z (latch k (t.take i) s0).1).2]))) := same_upd np
        refine ⟨p, _, _, by rw [ls]; rfl, s3.trans (sT.trans sp), ?_⟩
        rw [upd_same, ls, List.map_append]
        rfl
    · rintro σ H3 ⟨fa, x4, x5, rfl, s3, hfa⟩
      rw [lent, List.take_length] at hfa ⊢
      refine ⟨_, rfl, _, rfl, (by show 2 ≤ sizeLine; decide), fun p np => ?_⟩
      have sp : Same H3 (upd H3 p (.tup [nV (latch k t s0).1, .ref fa])) := same_upd np
      exact q _ _ (s3.trans sp) ⟨p, fa, rfl, upd_same, sp _ _ hfa⟩
end
end K36
set_option Elab.async false
set_option linter.all false
set_option maxRecDepth 100000
set_option maxHeartbeats 4000000
namespace K36
open PySem PySem.Spec PyProof.Rows L2
/-! ### trains as keys, pairs of trains as keys -/
theorem pures_nats : ∀ t : Tr, pures? (t.map nD) = true
  | [] => rfl
  | x :: r => by
    show (true && pures? (r.map nD)) = true
    rw [pures_nats r]
    rfl
theorem nks_nats : ∀ t : Tr, nks (t.map nD) = t.map fun n : Nat => NestedKey.num (n : Int)
  | [] => rfl
  | x :: r => by
    show NestedKey.num (x : Int) :: nks (r.map nD) = _
    rw [nks_nats r]
    rfl
theorem nk_dT (t : Tr) : nk (dT t) = .tup (t.map fun n : Nat => NestedKey.num (n : Int)) := by
  show NestedKey.tup (nks (t.map nD)) = _
  rw [nks_nats]
theorem depthAll_nums : ∀ t : Tr, NestedKey.depthAll (t.map fun n : Nat => NestedKey.num (n : Int)) = 0
  | [] => by simp [NestedKey.depthAll]
  | x :: r => by
    rw [List.map_cons, NestedKey.depthAll, depthAll_nums r]
    simp [NestedKey.depth]
theorem depth_nkT (t : Tr) : (nk (dT t)).depth = 1 := by
  rw [nk_dT, NestedKey.depth, depthAll_nums]
theorem pdepthAll_nats : ∀ t : Tr, PyData.depthAll (t.map nD) = 0
  | [] => by simp [PyData.depthAll]
  | x :: r => by
    rw [List.map_cons, PyData.depthAll, pdepthAll_nats r]
    simp [PyData.depth, nD]
theorem depth_dT (t : Tr) : (dT t).depth = 1 := by
  unfold dT
  rw [PyData.depth, pdepthAll_nats]
theorem nums_inj : ∀ {a b : Tr}, (a.map fun n : Nat => NestedKey.num (n : Int)) = (b.map fun n : Nat => NestedKey.num (n : Int)) → a = b
  | [], [], _ => rfl
  | [], _ :: _, e => by cases e
  | _ :: _, [], e => by cases e
  | x :: a, y :: b, e => by
    rw [List.map_cons, List.map_cons] at e
    injection e with e1 e2
    injection e1 with e1
    rw [nums_inj e2]
    have : x = y := by omega
    rw [this]
theorem nkT_inj {a b : Tr} (e : nk (dT a) = nk (dT b)) : a = b := by
  rw [nk_dT, nk_dT] at e
  injection e with e
  exact nums_inj e
def koT : KeyOf Tr where
  dat := dT
  pur := pures_nats
  tup := fun t => ⟨_, rfl⟩
  dep := fun t => by rw [depth_nkT]; decide
  dd := fun t => by rw [depth_dT]; decide
  inj := fun a b e => nkT_inj e
abbrev TT2 := Tr × Tr
def dTT (p : TT2) : PyData := .tuple [dT p.1, dT p.2]
theorem nk_dTT (p : TT2) : nk (dTT p) = .tup [nk (dT p.1), nk (dT p.2)] := rfl
def koP : KeyOf TT2 where
  dat := dTT
  pur := fun p => by
    show (pures? (p.1.map nD) && (pures? (p.2.map nD) && true)) = true
    rw [pures_nats, pures_nats]
    rfl
  tup := fun p => ⟨_, rfl⟩
  dep := fun p => by
    rw [nk_dTT]
    simp [NestedKey.depth, NestedKey.depthAll, depth_nkT]
  dd := fun p => by
    unfold dTT
    simp [PyData.depth, PyData.depthAll, depth_dT]
  inj := fun a b e => by
    rw [nk_dTT, nk_dTT] at e
    injection e with e
    injection e with e1 e2
    injection e2 with e2 _
    exact Prod.ext (nkT_inj e1) (nkT_inj e2)
/-! ### xs != [] -/
mutual
theorem lay_pure : ∀ {d : PyData}, pure? d = true → d.canLay0 = true
  | .int _, _ => by simp [PyData.canLay0]
  | .tuple ds, h => by
    rw [PyData.canLay0]
    exact lay_pures h
  | .none, h => nomatch h
  | .bool _, h => nomatch h
  | .str _, h => nomatch h
  | .list _, h => nomatch h
  | .dict _, h => nomatch h
theorem lay_pures : ∀ {ds : List PyData}, pures? ds = true → PyData.canLayAll0 ds = true
  | [], _ => by simp [PyData.canLayAll0]
  | d :: ds, h => by
    have h' : (pure? d && pures? ds) = true := h
    rw [Bool.and_eq_true] at h'
    rw [PyData.canLayAll0, lay_pure h'.1, lay_pures h'.2]
    rfl
end
theorem shaped_list {ds : List PyData} (h : ∀ d ∈ ds, pure? d = true ∧ d.depth ≤ 8) : SeqAt.shaped (.list ds) = true := by
  have a : ∀ l : List PyData, (∀ d ∈ l, pure? d = true ∧ d.depth ≤ 8) → PyData.canLayAll0 l = true ∧ PyData.depthAll l ≤ 8 := fun l => by
    induction l with
    | nil => intro _; simp [PyData.canLayAll0, PyData.depthAll]
    | cons d l ih =>
      intro q
      obtain ⟨i1, i2⟩ := ih fun x hx => q x (List.mem_cons_of_mem _ hx)
      obtain ⟨q1, q2⟩ := q d List.mem_cons_self
      rw [PyData.canLayAll0, PyData.depthAll, lay_pure q1, i1]
      exact ⟨rfl, Nat.max_le.mpr ⟨q2, i2⟩⟩
  obtain ⟨a1, a2⟩ := a ds h
  show (PyData.canLay0 (.list ds) && decide (PyData.depth (.list ds) ≤ 64)) = true
  rw [PyData.canLay0, a1, Bool.true_and]
  apply decide_eq_true
  rw [PyData.depth]
  omega
theorem shaped_keys {κ : Type} (ko : KeyOf κ) (l : List κ) : SeqAt.shaped (.list (l.map ko.dat)) = true := shaped_list fun d hd => by
  obtain ⟨k, _, rfl⟩ := List.mem_map.mp hd
  exact ⟨ko.pur k, ko.dd k⟩
def rNeNil (H : Hp) (x y : V) (k : Bool → Prop) : Prop := ∃ (a b : Addr) (xs : List V) (ds : List PyData), x = .ref a ∧ y = .ref b ∧ H a = some (.lst xs) ∧ H b = some (.lst []) ∧ DVs H ds xs ∧ SeqAt.shaped (.list ds) = true ∧ k (!ds.isEmpty)
section
variable {X : Cx}
theorem eqv_nil (ds : List PyData) : PyData.eqv (.list ds) (.list []) = ds.isEmpty := by
  cases ds with
  | nil => simp [PyData.eqv, PyData.eqvAll]
  | cons d ds => simp [PyData.eqv, PyData.eqvAll]
theorem op_neNil {n : Nat} (hr : Room n X.A) : OpR X (compareOp .NotEq) (fun x y H Q => rNeNil H x y fun b => Q (.bl b) H) := by
  intro pins s σ H x y u v Q I rx ry h
  obtain ⟨a, b, xs, ds, rfl, rfl, ha, hb, hd, hs, q⟩ := h
  refine op_neD hr.units pins s σ H _ _ u v Q I rx ry ⟨.list ds, .list [], .lst (SqL.of ha) hd.dp, .lst (SqL.of hb) .nil, hs, shaped_list (fun d z => nomatch z), ?_⟩
  rw [eqv_nil]
  exact q
end
/-! ### what comes of what -/
inductive Reach {κ : Type} (nx : κ → Nat → κ) (m : Nat) (a : κ) : κ → Prop
  | refl : Reach nx m a a
  | step {k : κ} {s : Nat} : Reach nx m a k → s < m → Reach nx m a (nx k s)
/-- the train that comes out of one latch -/
def nxT (k : Kd) (t : Tr) (s : Nat) : Tr := (latch k t s).2
theorem reach_ok {k : Kd} {m : Nat} (h : OkK k m) {t u : Tr} (ht : OkT k.length t) (r : Reach (nxT k) m t u) : OkT k.length u ∧ u.length = t.length := by
  induction r with
  | refl => exact ⟨ht, rfl⟩
  | step _ hs ih =>
    obtain ⟨_, a, b⟩ := latch_ok h ih.1 hs
    exact ⟨a, b.trans ih.2⟩
section
variable {P : Program} {w : World} {K : PySem.W.Frag} {mg : Str → Option Value} {base : Heap}
/-- kinds of so many settings: the first row's length -/
theorem kd_settings {H : Hp} {k : Kd} {m : Nat} {v : V} (h : DV H (dK k) v) (ok : OkK k m) : ∃ (a b : Addr) (xs ys : List V), v = .ref a ∧ H a = some (.tup (.ref b :: xs)) ∧ H b = some (.tup ys) ∧ ys.length = m := by
  obtain ⟨a, xs, rfl, ha, hx⟩ := h.kd
  obtain ⟨r, er, el, _⟩ := ok.row ok.s1
  obtain ⟨b, ys, e0, hb, hy⟩ := hx.getR er
  obtain ⟨xr, rfl⟩ : ∃ xr, xs = .ref b :: xr := by
    cases xs with
    | nil => simp at e0
    | cons x xr => exact ⟨xr, by simp at e0; rw [e0]⟩
  refine ⟨a, b, xr, ys, rfl, ha, hb, ?_⟩
  rw [hy.length, List.length_map, el]
theorem kd_len {H : Hp} {k : Kd} {v : V} (h : DV H (dK k) v) : KLen H k.length v := by
  obtain ⟨a, xs, rfl, ha, hx⟩ := h.kd
  exact ⟨a, xs, rfl, ha, by rw [hx.length, List.length_map]⟩
/-- all keys come of the first one; the done ones have their own that come of them -/
structure Seen {κ : Type} (nx : κ → Nat → κ) (m : Nat) (a : κ) (keys line : List κ) : Prop where
  nd : keys.Nodup
  ne : keys ≠ []
  first : a ∈ keys
  all : ∀ k ∈ keys, Reach nx m a k
  sub : ∀ k ∈ line, k ∈ keys
  done : ∀ k ∈ keys, k ∈ line ∨ ∀ s, s < m → nx k s ∈ keys
theorem Seen.whole {κ : Type} {nx : κ → Nat → κ} {m : Nat} {a : κ} {keys : List κ} (h : Seen nx m a keys []) : ∀ k, k ∈ keys ↔ Reach nx m a k := fun k => by
  refine ⟨h.all k, fun r => ?_⟩
  induction r with
  | refl => exact h.first
  | step _ hs ih =>
    rcases h.done _ ih with z | z
    · cases z
    · exact z _ hs
/-- in the midst of a key: its first i are met -/
structure Seen1 {κ : Type} (nx : κ → Nat → κ) (m : Nat) (a here : κ) (i : Nat) (keys line : List κ) : Prop where
  nd : keys.Nodup
  ne : keys ≠ []
  first : a ∈ keys
  all : ∀ k ∈ keys, Reach nx m a k
  sub : ∀ k ∈ line, k ∈ keys
  hk : here ∈ keys
  done : ∀ k ∈ keys, k ∈ line ∨ k = here ∨ ∀ s, s < m → nx k s ∈ keys
  met : ∀ s, s < i → nx here s ∈ keys
theorem Seen.start {κ : Type} {nx : κ → Nat → κ} {m : Nat} {a : κ} : Seen nx m a [a] [a] :=
  ⟨by simp, by simp, List.mem_singleton.mpr rfl, fun k hk => by rw [List.mem_singleton.mp hk]; exact .refl, fun k hk => hk, fun k hk => .inl hk⟩
theorem Seen.open' {κ : Type} {nx : κ → Nat → κ} {m : Nat} {a here : κ} {keys line : List κ} (h : Seen nx m a keys (here :: line)) : Seen1 nx m a here 0 keys line :=
  ⟨h.nd, h.ne, h.first, h.all, fun k hk => h.sub k (List.mem_cons_of_mem _ hk), h.sub _ List.mem_cons_self, fun k hk => by
    rcases h.done k hk with z | z
    · rcases List.mem_cons.mp z with e | e
      · exact .inr (.inl e)
      · exact .inl e
    · exact .inr (.inr z), fun s hs => absurd hs (Nat.not_lt_zero _)⟩
theorem Seen1.close {κ : Type} {nx : κ → Nat → κ} {m : Nat} {a here : κ} {keys line : List κ} (h : Seen1 nx m a here m keys line) : Seen nx m a keys line :=
  ⟨h.nd, h.ne, h.first, h.all, h.sub, fun k hk => by
    rcases h.done k hk with z | rfl | z
    · exact .inl z
    · exact .inr h.met
    · exact .inr z⟩
theorem Seen1.old {κ : Type} {nx : κ → Nat → κ} {m : Nat} {a here : κ} {i : Nat} {keys line : List κ} (h : Seen1 nx m a here i keys line) (e : nx here i ∈ keys) : Seen1 nx m a here (i + 1) keys line :=
  ⟨h.nd, h.ne, h.first, h.all, h.sub, h.hk, h.done, fun s hs => by
    rcases Nat.lt_succ_iff_lt_or_eq.mp hs with z | z
    · exact h.met s z
    · rw [z]
      exact e⟩
theorem Seen1.new {κ : Type} {nx : κ → Nat → κ} {m : Nat} {a here : κ} {i : Nat} {keys line : List κ} (h : Seen1 nx m a here i keys line) (hi : i < m) (e : nx here i ∉ keys) : Seen1 nx m a here (i + 1) (keys ++ [nx here i]) (line ++ [nx here i]) where
  nd := by
    rw [List.nodup_append]
    exact ⟨h.nd, by simp, fun x hx y hy q => e (by
      have : x = nx here i := q.trans (List.mem_singleton.mp hy)
      exact this ▸ hx)⟩
  ne := by simp
  first := List.mem_append_left _ h.first
  all := fun k hk => by
    rcases List.mem_append.mp hk with z | z
    · exact h.all k z
    · rw [List.mem_singleton.mp z]
      exact .step (h.all _ h.hk) hi
  sub := fun k hk => by
    rcases List.mem_append.mp hk with z | z
    · exact List.mem_append_left _ (h.sub k z)
    · exact List.mem_append_right _ z
  hk := List.mem_append_left _ h.hk
  done := fun k hk => by
    rcases List.mem_append.mp hk with z | z
    · rcases h.done k z with q | q | q
      · exact .inl (List.mem_append_left _ q)
      · exact .inr (.inl q)
      · exact .inr (.inr fun s hs => List.mem_append_left _ (q s hs))
    · exact .inl (List.mem_append_right _ z)
  met := fun s hs => by
    rcases Nat.lt_succ_iff_lt_or_eq.mp hs with z | z
    · exact List.mem_append_left _ (h.met s z)
    · rw [z]
      exact List.mem_append_right _ (List.mem_singleton.mpr rfl)
def spSettK : Sp := fun vs H Q _ => ∃ (k : Kd) (m : Nat) (v : V), vs = [v] ∧ DV H (dK k) v ∧ OkK k m ∧ Q (nV m) H
theorem cl_settK (C : Cl P w K mg base 1 "settings_in" spSettings) : Cl P w K mg base 1 "settings_in" spSettK := by
  obtain ⟨f, fd, ps, h1, h2, h3, h4⟩ := C.ex
  refine ⟨f, fd, ps, h1, h2, h3, h4.imp fun vs H Q E h => ?_⟩
  obtain ⟨k, m, v, rfl, hk, ok, q⟩ := h
  obtain ⟨a, b, xs, ys, rfl, ha, hb, e⟩ := kd_settings hk ok
  exact ⟨a, b, xs, ys, rfl, ha, hb, by rw [e]; exact q⟩
end
end K36
set_option Elab.async false
set_option linter.all false
set_option maxRecDepth 100000
set_option maxHeartbeats 4000000
namespace K36
open PySem PySem.Spec PyProof.Rows L2
/-- keys of a lot have hashes of their own -/
def HashInj {κ : Type} (ko : KeyOf κ) (w : World) (S : κ → Prop) : Prop := ∀ x y, S x → S y → (nk (ko.dat x)).hash w = (nk (ko.dat y)).hash w → x = y
theorem HashInj.nodup {κ : Type} {ko : KeyOf κ} {w : World} {S : κ → Prop} (h : HashInj ko w S) : ∀ {l : List κ}, l.Nodup → (∀ x ∈ l, S x) → (l.map fun k => (nk (ko.dat k)).hash w).Nodup
  | [], _, _ => List.nodup_nil
  | x :: r, nd, q => by
    rw [List.nodup_cons] at nd
    rw [List.map_cons, List.nodup_cons]
    refine ⟨fun hm => nd.1 ?_, h.nodup nd.2 fun y hy => q y (List.mem_cons_of_mem _ hy)⟩
    obtain ⟨y, hy, e⟩ := List.mem_map.mp hm
    rw [← h y x (q y (List.mem_cons_of_mem _ hy)) (q x List.mem_cons_self) e]
    exact hy
theorem cutV_tail {x : V} {r : List V} : cutV (x :: r) (some 1) none = r := by
  have h1 : HT.sIx (r.length + 1) 0 (some 1) = 1 := by
    simp [HT.sIx]
  have h2 : HT.sIx (r.length + 1) (r.length + 1) none = r.length + 1 := by
    simp [HT.sIx]
  unfold cutV
  rw [List.length_cons, h1, h2]
  simp
/-- tuples joined: the answer stands somewhere, nothing else is changed -/
def rCatU : R2 := fun x y H Q => ∃ a b xs ys, x = .ref a ∧ y = .ref b ∧ H a = some (.tup xs) ∧ H b = some (.tup ys) ∧ xs.length + ys.length ≤ 100000 ∧ ∀ p H', Same H H' → H' p = some (.tup (xs ++ ys)) → Q (.ref p) H'
theorem catU_A {K : PySem.W.Frag} {x y : V} {H : Hp} {Q : VK} (h : rCatU x y H Q) : rCatA K x y H Q := by
  obtain ⟨a, b, xs, ys, rfl, rfl, ha, hb, hz, q⟩ := h
  refine ⟨a, b, xs, ys, rfl, rfl, SqT.of ha, SqT.of hb, fits hz, fun e => ?_, fun _ e => ?_, fun _ _ p np => q p _ (same_upd np) upd_same⟩
  · subst e
    exact q b H (Same.refl H) hb
  · subst e
    exact q a H (Same.refl H) (by rw [List.append_nil]; exact ha)
theorem op_catU {X : Cx} : OpR X (binaryOp .Add) rCatU := fun pins s σ H x y v u Q I rx ry h => op_catA pins s σ H x y v u Q I rx ry (catU_A h)
section
variable {P : Program} {w : World} {K : PySem.W.Frag} {mg : Str → Option Value} {base : Heap}
/-- what comes of a train: no more than so many, with hashes of their own -/
structure FewT (w : World) (k : Kd) (m : Nat) (t : Tr) (B : Nat) : Prop where
  few : ∀ l : List Tr, l.Nodup → (∀ x ∈ l, Reach (nxT k) m t x) → l.length ≤ B
  inj : HashInj koT w (Reach (nxT k) m t)
def spRoads (P : Program) (w : World) : Sp := fun vs H Q _ => ∃ (k : Kd) (m : Nat) (t : Tr) (kv tv : V), vs = [kv, tv] ∧ DV H (dK k) kv ∧ DV H (dT t) tv ∧ OkK k m ∧ OkT k.length t ∧ t.length ≤ 1000 ∧ FewT w k m t 900 ∧
  ∀ H' d keys, Same H H' → DictAt koT P w H' d keys → (∀ x, x ∈ keys ↔ Reach (nxT k) m t x) → Q (.ref d) H'
/-- the words at the head of the walk -/
structure AtLine (P : Program) (w : World) (k : Kd) (m : Nat) (t : Tr) (H H3 : Hp) (d la : Addr) (keys line : List Tr) : Prop where
  sm : Same H H3
  dict : DictAt koT P w H3 d keys
  lst : ∃ xs, H3 la = some (.lst xs) ∧ DVs H3 (line.map koT.dat) xs
theorem k_roads_from (D : Df K mg "roads_from" "roads_from" s_roads_from) (B : Bl mg) (n1 : Num mg "TRAINS" 1000) (C1 : Cl P w K mg base 1 "settings_in" spSettK) (C2 : Cl P w K mg base 1 "latch_passed" spLatch) : Cl P w K mg base 2 "roads_from" (spRoads P w) := by
  refine D.cl c_roads_from (fun _ _ _ _ _ _ us hl => match us, hl with | [_, _], _ => rfl) (fun vs H Q E h => ?_) (fun f cdv A outer s H vs Q E hr h => ?_)
  · obtain ⟨k, m, t, kv, tv, rfl, _⟩ := h
    rfl
  · obtain ⟨k, m, t, kv, tv, rfl, hk, ht, ok, okt, hlen, few, q⟩ := h
    have nd := c_roads_from.nd
    refine ⟨_, pss_cons (ps_par (i := 2) (j := 3) (by rfl) nd rfl rfl (by decide) rfl rfl (pa_cons (pe_n1 (ko := koT) hr (pv 1) (pe_tup pa_nil)) (pa_cons (pe_lst (pa_cons (pv 1) pa_nil)) pa_nil)) (by rfl))
      (pss_cons (ps_while PassesOwn.never (pt_cmpR (op_neNil hr) (pv 3) (pe_lst pa_nil) (nomark _))
        (pss_cons (ps_par (i := 4) (j := 3) (by rfl) nd rfl rfl (by decide) rfl rfl (pa_cons (pe_ix ix_list (pv 3) pe_int (fun _ _ => rfl)) (pa_cons (pe_slice sl_list (pv 3) (po_some pe_int) po_none) pa_nil)) (by rfl))
        (pss_one (ps_for PassesOwn.never rfl (pi_range1 (by rfl) B.range (pa_cons (pe_cl C1 hr (by decide) (pa_cons (pv 0) pa_nil)) pa_nil)) (pg_name (i := 5) nd rfl (.inl rfl))
          (pss_cons (ps_set (i := 6) nd rfl (.inl rfl) (pe_ix ix_tup (pe_cl C2 hr (by decide) (pa_cons (pv 0) (pa_cons (pv 4) (pa_cons (pv 5) pa_nil)))) pe_int (fun _ _ => rfl)))
          (pss_one (ps_if (pt_cmpR (op_nNotIn (ko := koT) hr) (pv 6) (pv 2) (by rfl))
            (pss_cons (ps_par (i := 2) (j := 3) (by rfl) nd rfl rfl (by decide) rfl rfl (pa_cons (pe_nStar (ko := koT) hr (pv 2) (pv 6) (pe_op op_catU (pe_nGet (ko := koT) hr (pv 2) (pv 4) (fun _ _ => rfl)) (pe_tup (pa_cons (pv 5) pa_nil)))) (pa_cons (pe_op op_cat (pv 3) (pe_lst (pa_cons (pv 6) pa_nil))) pa_nil)) (by rfl))
            (pss_one (ps_if (pt_cmpR op_gt (pe_callB (call_nLen (ko := koT)) (by rfl) B.len PySem.boot_len (pa_cons (pv 2) pa_nil)) (pe_num n1) (nomark _)) (pss_one (ps_ret pe_non)) pss_nil))) pss_nil)))))))
      (pss_one (ps_ret (pv 2)))), ?_⟩
    obtain ⟨ta, rfl, hta⟩ := DV.tr.mp ht
    have leaf : ∀ keys : List Tr, keys.Nodup → (∀ x ∈ keys, Reach (nxT k) m t x) → keys.length ≤ 900 ∧ (keys.map fun k => (nk (koT.dat k)).hash w).Nodup := fun keys n a => ⟨few.few keys n a, few.inj.nodup n a⟩
    refine ⟨.ref ta, rfl, Nat.zero_le _, fun p0 np0 => ?_⟩
    have s0 : Same H (upd H p0 (.tup [])) := same_upd np0
    refine ⟨t, p0, DV.same s0 ht, rfl, upd_same, fun d0 o0 nd0 D0 => ?_⟩
    have s1 := s0.trans (same_upd (o := o0) nd0)
    refine ⟨_, rfl, (by show 1 ≤ sizeLine; decide), fun l0 nl0 => ⟨_, _, rfl, ?_⟩⟩
    have s2 := s1.trans (same_upd (o := .lst [.ref ta]) nl0)
    refine ⟨fun n σ H3 => ∃ (d la : Addr) (keys line : List Tr) (x4 x5 x6 : Option V), σ = [some kv, some (.ref ta), some (.ref d), some (.ref la), x4, x5, x6] ∧ AtLine P w k m t H H3 d la keys line ∧ Seen (nxT k) m t keys line ∧ n + 2 * keys.length = 1802 + line.length ∧ n ≤ 1801,
      ⟨1801, d0, l0, [t], [t], none, none, none, rfl, ⟨s2, D0.same (same_upd nl0), _, upd_same, DVs.one (ht.same s2)⟩, .start, rfl, Nat.le_refl _⟩, ?_⟩
    rintro n σ H3 ⟨d, la, keys, line, x4, x5, x6, rfl, AL, sn, en, n18⟩
    obtain ⟨lx, hla, hlx⟩ := AL.lst
    refine ⟨_, rfl, Nat.zero_le _, fun ln nln => ⟨la, ln, lx, _, rfl, rfl, same_upd nln _ _ hla, upd_same, hlx.same (same_upd nln), shaped_keys koT line, _, rfl, ?_⟩⟩
    have sm4 := AL.sm.trans (same_upd (o := .lst []) nln)
    cases line with
    | nil =>
      exact ⟨_, rfl, q _ _ _ sm4 (AL.dict.same (same_upd nln)) sn.whole⟩
    | cons here line =>
      obtain ⟨hv, lr, rfl, hhv, hlr⟩ := hlx
      have dv4 : DV (upd H3 ln (.lst [])) (dT here) hv := DV.same (same_upd nln) hhv
      have D4 := AL.dict.same (same_upd (o := .lst []) nln)
      refine ⟨_, fun σ' H' h => h, ?_⟩
      refine ⟨_, rfl, la, _, 0, hv, rfl, rfl, SqL.of (same_upd nln _ _ hla), atN (j := 0) rfl, _, rfl, 1, rfl, la, _, rfl, SqL.of (same_upd nln _ _ hla), fun p5 np5 => ⟨_, _, rfl, ?_⟩⟩
      rw [cutV_tail]
      have s5 : Same (upd H3 ln (.lst [])) (upd (upd H3 ln (.lst [])) p5 (.lst lr)) := same_upd np5
      have sm5 := sm4.trans s5
      have okh := (reach_ok ok okt (sn.all here (sn.sub here List.mem_cons_self))).1
      have lnh := (reach_ok ok okt (sn.all here (sn.sub here List.mem_cons_self))).2
      refine ⟨_, rfl, k, m, kv, rfl, hk.same sm5, ok, _, rfl, ?_, ?_, for_range (lo := 0) (n := ((m : Int)).toNat) (fun i σ H6 => ∃ (d la : Addr) (keys line : List Tr) (x5 x6 : Option V), σ = [some kv, some (.ref ta), some (.ref d), some (.ref la), some hv, x5, x6] ∧ AtLine P w k m t H H6 d la keys line ∧ DV H6 (dT here) hv ∧
          Seen1 (nxT k) m t here i keys line ∧ 1803 + line.length ≤ n + 2 * keys.length)
        ⟨d, p5, keys, line, x5, x6, rfl, ⟨sm5, D4.same s5, lr, upd_same, (hlr.same (same_upd nln)).same s5⟩, DV.same s5 dv4, sn.open', by simp at en ⊢; omega⟩ ?_ ?_⟩
      · have := ok.m6
        omega
      · have := ok.m6
        omega
      · rintro i σ H6 hi ⟨d, la, keys, line, x5, x6, rfl, AL, dvh, sn, en⟩
        have e0 : V.int (0 + (i : Int)) = nV i := by
          rw [Int.zero_add]
          rfl
        rw [e0]
        have him : i < m := by omega
        obtain ⟨_, okn, lnn⟩ := latch_ok ok okh him
        refine ⟨_, rfl, _, rfl, _, rfl, k, m, here, i, kv, hv, rfl, hk.same AL.sm, dvh, ok, okh, him, by omega, fun H7 v7 s7 dp => ?_⟩
        obtain ⟨pa, pb, rfl, hpa, hpb⟩ := dp
        have dvt : DV H7 (dT (nxT k here i)) (.ref pb) := DV.tr.mpr ⟨pb, rfl, hpb⟩
        have D7 := AL.dict.same s7
        obtain ⟨lx, hla, hlx⟩ := AL.lst
        have few1 := leaf keys sn.nd sn.all
        refine ⟨pa, _, 1, .ref pb, rfl, rfl, SqT.of hpa, atN (j := 1) rfl, ?_⟩
        refine ⟨_, rfl, _, rfl, d, keys, nxT k here i, rfl, D7, dvt, _, rfl, ite2 (fun e => ?_) (fun e => ?_)⟩
        · have hn : nxT k here i ∉ keys := by simpa using e
          refine ⟨_, rfl, d, keys, rfl, D7, sn.ne, few1.2, by omega, _, rfl, _, rfl, _, rfl, d, keys, here, rfl, D7, DV.same s7 dvh, sn.hk, fun ra r hra hrl => ?_⟩
          refine ⟨_, rfl, (by show 1 ≤ sizeLine; decide), fun T nT => ⟨ra, T, _, _, rfl, rfl, same_upd nT _ _ hra, upd_same, ?_, fun p8 H8 s8 e8 => ?_⟩⟩
          · rw [List.length_map]
            show _ + 1 ≤ 100000
            omega
          have s78 := (same_upd (o := .tup [nV i]) nT).trans s8
          refine ⟨nxT k here i, p8, r ++ [i], s78, dvt.same s78, hn, rfl, by rw [e8, List.map_append]; rfl, by rw [List.length_append]; exact hrl, fun p9 o9 np9 D9 => ?_⟩
          have s79 := s78.trans (same_upd (o := o9) np9)
          refine ⟨_, rfl, _, rfl, (by show 1 ≤ sizeLine; decide), fun l nl => ⟨_, _, _, _, rfl, rfl, same_upd nl _ _ (s79 _ _ (s7 _ _ hla)), upd_same, ?_, fun p10 np10 => ⟨_, _, rfl, ?_⟩⟩⟩
          · have ll := leaf _ sn.nd sn.all
            have e1 := hlx.length
            rw [List.length_map] at e1
            exact fits (by show lx.length + 1 ≤ 100000; omega)
          have sn' := sn.new him hn
          have s10 := s79.trans ((same_upd (o := .lst [.ref pb]) nl).trans (same_upd (o := .lst (lx ++ [.ref pb])) np10))
          have D10 := D9.same ((same_upd (o := .lst [.ref pb]) nl).trans (same_upd (o := .lst (lx ++ [.ref pb])) np10))
          have few2 := leaf _ sn'.nd sn'.all
          refine ⟨_, rfl, _, _, rfl, D10, by omega, _, _, rfl, rfl, _, rfl, ?_⟩
          have no : decide (((keys ++ [nxT k here i]).length : Int) > 1000) = false := by
            have := few2.1
            apply decide_eq_false
            omega
          rw [no]
          refine ⟨_, _, _, _, _, _, rfl, ⟨AL.sm.trans (s7.trans s10), D10, _, upd_same, ?_⟩, DV.same (s7.trans s10) dvh, sn', ?_⟩
          · rw [List.map_append]
            exact ((hlx.same s7).same s10).append (DVs.one (dvt.same s10))
          · rw [List.length_append, List.length_append]
            show 1803 + (line.length + 1) ≤ n + 2 * (keys.length + 1)
            omega
        · have hn : nxT k here i ∈ keys := by simpa using e
          exact ⟨_, _, _, _, _, _, rfl, ⟨AL.sm.trans s7, D7, lx, s7 _ _ hla, hlx.same s7⟩, DV.same s7 dvh, sn.old hn, en⟩
      · rintro σ H6 ⟨d, la, keys, line, x5, x6, rfl, AL, dvh, sn, en⟩
        have em : ((m : Int)).toNat = m := by omega
        rw [em] at sn
        have few1 := leaf keys sn.nd sn.all
        exact ⟨1802 + line.length - 2 * keys.length, by omega, d, la, keys, line, _, _, _, rfl, AL, sn.close, by omega, by omega⟩
end
end K36
set_option Elab.async false
set_option linter.all false
set_option maxRecDepth 100000
set_option maxHeartbeats 4000000
namespace K36
open PySem PySem.Spec PyProof.Rows L2
/-! ### plain words -/
/-- few sorts, few settings -/
structure Sm (k : Kd) (m : Nat) : Prop where
  ok : OkK k m
  s4 : k.length ≤ 4
  m4 : m ≤ 4
theorem sub_len {α : Type} [DecidableEq α] : ∀ {ks l : List α}, ks.Nodup → (∀ x ∈ ks, x ∈ l) → ks.length ≤ l.length
  | [], _, _, _ => Nat.zero_le _
  | x :: r, l, nd, h => by
    rw [List.nodup_cons] at nd
    have hx := h x List.mem_cons_self
    have e := List.length_erase_of_mem hx
    have pos : 0 < l.length := List.length_pos_of_mem hx
    have i := sub_len (l := l.erase x) nd.2 fun y hy => (List.mem_erase_of_ne (fun e => nd.1 (by rw [← e]; exact hy))).mpr (h y (List.mem_cons_of_mem _ hy))
    rw [List.length_cons]
    omega
theorem sub_nodup {α : Type} [DecidableEq α] : ∀ {ks l : List α}, ks.Nodup → (∀ x ∈ ks, x ∈ l) → ks.length = l.length → l.Nodup
  | [], l, _, _, e => by
    have : l = [] := List.eq_nil_of_length_eq_zero e.symm
    rw [this]
    exact List.nodup_nil
  | x :: r, l, nd, h, e => by
    have nd' := nd
    rw [List.nodup_cons] at nd
    have hx := h x List.mem_cons_self
    have e1 := List.length_erase_of_mem hx
    have pos : 0 < l.length := List.length_pos_of_mem hx
    have hr : ∀ y ∈ r, y ∈ l.erase x := fun y hy => (List.mem_erase_of_ne (fun e => nd.1 (by rw [← e]; exact hy))).mpr (h y (List.mem_cons_of_mem _ hy))
    rw [List.length_cons] at e
    have i := sub_nodup (l := l.erase x) nd.2 hr (by omega)
    have no : x ∉ l.erase x := fun hm => by
      have := sub_len (l := l.erase x) nd' fun y hy => by
        rcases List.mem_cons.mp hy with z | z
        · rw [z]; exact hm
        · exact hr y z
      rw [List.length_cons] at this
      omega
    exact (List.perm_cons_erase hx).nodup_iff.mpr (List.nodup_cons.mpr ⟨no, i⟩)
theorem nodup_len {n : Nat} {l : List Nat} (h : l.Nodup) (b : ∀ x ∈ l, x < n) : l.length ≤ n := by
  have := sub_len (l := List.range n) h fun x hx => List.mem_range.mpr (b x hx)
  simpa using this
/-- a row in which two settings leave alike -/
def losesR (r : Row) : Bool := !decide ((r.map (·.1)).Nodup)
theorem nodup_sub {α : Type} [DecidableEq α] {l ks : List α} (nd : ks.Nodup) (h : ∀ x, x ∈ ks ↔ x ∈ l) : ks.length ≤ l.length ∧ (ks.length = l.length ↔ l.Nodup) := by
  have h1 := sub_len nd fun x hx => (h x).mp hx
  exact ⟨h1, fun e => sub_nodup nd (fun x hx => (h x).mp hx) e, fun n => Nat.le_antisymm h1 (sub_len n fun x hx => (h x).mpr hx)⟩
theorem nodup_ints (l : List Nat) : (l.map Int.ofNat).Nodup ↔ l.Nodup := by
  induction l with
  | nil => simp
  | cons x r ih =>
    rw [List.map_cons, List.nodup_cons, List.nodup_cons, ih]
    have : Int.ofNat x ∈ r.map Int.ofNat ↔ x ∈ r := by
      constructor
      · intro h
        obtain ⟨y, hy, e⟩ := List.mem_map.mp h
        cases e
        exact hy
      · intro h
        exact List.mem_map.mpr ⟨x, h, rfl⟩
    rw [this]
theorem map_nV (l : List Nat) : l.map nV = (l.map Int.ofNat).map V.int := by
  rw [List.map_map]
  rfl
theorem mem_ints {l : List Nat} {j : Int} : j ∈ l.map Int.ofNat ↔ ∃ n ∈ l, j = (n : Int) := by
  constructor
  · intro h
    obtain ⟨y, hy, e⟩ := List.mem_map.mp h
    exact ⟨y, hy, e.symm⟩
  · rintro ⟨n, hn, rfl⟩
    exact List.mem_map.mpr ⟨n, hn, rfl⟩
section
variable {P : Program} {w : World} {K : PySem.W.Frag} {mg : Str → Option Value} {base : Heap}
def spNeedFew : Sp := fun vs H Q _ => ∃ d, vs = [.ref d] ∧ Q .non H
theorem k_need_few (D : Df K mg "need_few" "need_few" s_need_few) : Cl P w K mg base 1 "need_few" spNeedFew := by
  refine D.cl c_need_few (fun _ _ _ _ _ _ us hl => match us, hl with | [_], _ => rfl) (fun vs H Q E h => ?_) (fun f cdv A outer s H vs Q E hr h => ?_)
  · obtain ⟨d, rfl, _⟩ := h
    rfl
  · obtain ⟨d, rfl, q⟩ := h
    refine ⟨_, pss_one (ps_if (pt_cmpR op_isN (pv 0) pe_non (nomark _)) pss_never pss_nil), ?_⟩
    exact ⟨_, rfl, rfl, _, rfl, q⟩
/-- the first of each pair of a row -/
theorem lc_firsts {a : Addr} {xs : List V} {r : Row} {te : TE} {v : Nat} {σ : L2.St} {H1 : Hp} {D : Addr} {Qd : Hp → Prop} (hD : H1 D = none) (ha : H1 a = some (.tup xs)) (hx : DVs H1 (r.map dP) xs) (hn : r.length ≤ 100000)
    (hw : ∀ x, wipe ((wipe σ [v]).set v (some x)) [v] = wipe σ [v])
    (turn : ∀ p x H (Q : VK), p ∈ r → DV H (dP p) x → Same H1 H → (∀ H4, Same H H4 → Q (nV p.1) H4) → te ((wipe σ [v]).set v (some x)) H Q)
    (last : ∀ H, Same H1 H → H D = some (.lst ((r.map (·.1)).map nV)) → Qd H) : LcGoal (Itt K a) v σ te D H1 Qd := by
  have el := hx.length
  rw [List.length_map] at el
  refine lc_tupS (fun j _ y => y = nV ((r.map (·.1)).getD j 0)) hD ha (by omega) hw (fun j G G' y _ e => e) (fun i x H Q e s q => ?_) (fun H ys s e l h => ?_)
  · obtain ⟨d, ed, dv⟩ := hx.getV e
    rw [List.getElem?_map] at ed
    cases ep : r[i]? with
    | none => rw [ep] at ed; cases ed
    | some p =>
      rw [ep] at ed
      cases Option.some.inj ed
      refine turn p x H Q (List.mem_of_getElem? ep) (dv.same s) s fun H4 s4 => q _ H4 s4 ?_
      rw [List.getD_eq_getElem?_getD, List.getElem?_map, ep]
      rfl
  · refine last H s ?_
    rw [e]
    congr 2
    apply List.ext_getElem?
    intro j
    by_cases hj : j < ys.length
    · have e1 : ys[j]? = some ys[j] := List.getElem?_eq_getElem hj
      have hj2 : j < r.length := by omega
      rw [e1, h j _ e1, List.getElem?_map, List.getElem?_map, List.getD_eq_getElem?_getD, List.getElem?_map, List.getElem?_eq_getElem hj2]
      rfl
    · rw [List.getElem?_eq_none (by omega), List.getElem?_eq_none (by simp; omega)]
def spLosing : Sp := fun vs H Q _ => ∃ (r : Row) (v : V), vs = [v] ∧ DV H (dR r) v ∧ r.length ≤ 1000 ∧ ∀ H', Same H H' → Q (.bl (losesR r)) H'
theorem k_is_losing (D : Df K mg "is_losing" "is_losing" s_is_losing) (B : Bl mg) : Cl P w K mg base 1 "is_losing" spLosing := by
  refine D.cl c_is_losing (fun _ _ _ _ _ _ us hl => match us, hl with | [_], _ => rfl) (fun vs H Q E h => ?_) (fun f cdv A outer s H vs Q E hr h => ?_)
  · obtain ⟨d, v, rfl, _⟩ := h
    rfl
  · obtain ⟨r, v, rfl, hd, hn, q⟩ := h
    have nd := c_is_losing.nd
    refine ⟨_, pss_one (ps_ret (pe_cmpR op_lt (pe_callB call_setLen (by rfl) B.len PySem.boot_len (pa_cons (pe_callTy (call_setL rfl) (by rfl) B.set (by decide +kernel) (pa_cons
        (pe_lc (own := [("pair", 1)]) (g := gName 1) (tt := tYes) rfl nd (pi_tup (pv 0)) (blkOk_by (N := n_is_losing) (sc := defScope s_is_losing) (by decide +kernel))
          (fun _ _ _ _ _ => pg_name (i := 1) nd rfl (Or.inl rfl)) (fun _ _ _ _ _ => pts_nil) (fun _ _ _ _ _ => pe_ix (ix_tupK (K := K) rfl) (pv 1) pe_int (fun _ _ => rfl))) pa_nil)) pa_nil))
      (pe_callB call_len_seq (by rfl) B.len PySem.boot_len (pa_cons (pv 0) pa_nil)) (nomark _))), ?_⟩
    obtain ⟨a, xs, rfl, ha, hx⟩ := hd.rw
    have el := hx.length
    rw [List.length_map] at el
    refine ⟨_, rfl, a, rfl, ⟨_, SqT.of ha⟩, fun D1 nD => lc_firsts nD ha hx (by omega) (fun _ => rfl) (fun p x H1 Q hp dv s1 q => ?_) (fun H1 s1 eD => ?_)⟩
    · obtain ⟨b, rfl, hb⟩ := DV.pr.mp dv
      exact ⟨_, rfl, b, _, 0, nV p.1, rfl, rfl, SqT.of hb, atN (j := 0) rfl, q _ (Same.refl _)⟩
    · refine ⟨D1, (r.map (·.1)).map Int.ofNat, rfl, SqL.of (by rw [eD, map_nV]), by simp; omega, fun p c np hc ⟨ks, kn, kl, km⟩ => ?_⟩
      have z := nodup_sub kn km
      rw [nodup_ints, List.length_map, List.length_map] at z
      rw [List.length_map, List.length_map] at hc
      refine ⟨p, _, c, rfl, upd_same, by omega, _, rfl, a, xs, rfl, .inr (SqT.of (same_upd np _ _ (s1 _ _ ha))), _, _, rfl, rfl, ?_⟩
      have e : decide ((c : Int) < (xs.length : Int)) = losesR r := by
        unfold losesR
        rw [el]
        by_cases n : (r.map (·.1)).Nodup
        · rw [decide_eq_true n]
          apply decide_eq_false
          have := z.2.mpr n
          omega
        · rw [decide_eq_false n]
          apply decide_eq_true
          have : ks.length ≠ r.length := fun e => n (z.2.mp e)
          omega
      show Q (V.bl (decide ((c : Int) < (xs.length : Int)))) _
      rw [e]
      exact q _ (s1.trans (same_upd np))
end
end K36
set_option Elab.async false
set_option linter.all false
set_option maxRecDepth 100000
set_option maxHeartbeats 4000000
namespace K36
open PySem PySem.Spec PyProof.Rows L2
/-! ### all short trains; their hashes -/
def allT (b : Nat) : Nat → List Tr
  | 0 => [[]]
  | n + 1 => (allT b n).flatMap fun t => (List.range b).map fun x => x :: t
theorem mem_allT {b : Nat} : ∀ {n : Nat} {t : Tr}, t ∈ allT b n ↔ t.length = n ∧ OkT b t
  | 0, t => by
    show t ∈ [[]] ↔ _
    rw [List.mem_singleton]
    constructor
    · rintro rfl
      exact ⟨rfl, fun _ z => nomatch z⟩
    · rintro ⟨e, _⟩
      exact List.eq_nil_of_length_eq_zero e
  | n + 1, t => by
    show t ∈ (allT b n).flatMap _ ↔ _
    rw [List.mem_flatMap]
    constructor
    · rintro ⟨r, hr, h⟩
      obtain ⟨x, hx, rfl⟩ := List.mem_map.mp h
      obtain ⟨e, o⟩ := mem_allT.mp hr
      refine ⟨by rw [List.length_cons, e], fun y hy => ?_⟩
      rcases List.mem_cons.mp hy with z | z
      · rw [z]
        exact List.mem_range.mp hx
      · exact o y z
    · rintro ⟨e, o⟩
      cases t with
      | nil => cases e
      | cons x r =>
        rw [List.length_cons] at e
        exact ⟨r, mem_allT.mpr ⟨by omega, fun y hy => o y (List.mem_cons_of_mem _ hy)⟩, List.mem_map.mpr ⟨x, List.mem_range.mpr (o x List.mem_cons_self), rfl⟩⟩
/-- no number twice: by the last bit, then by the rest -/
def ndBy : Nat → List Nat → Bool
  | _, [] => true
  | _, [_] => true
  | 0, _ => false
  | n + 1, l => ndBy n ((l.filter fun x => x % 2 == 0).map (· / 2)) && ndBy n ((l.filter fun x => x % 2 == 1).map (· / 2))
theorem nd_split {l : List Nat} (h0 : ((l.filter fun x => x % 2 == 0).map (· / 2)).Nodup) (h1 : ((l.filter fun x => x % 2 == 1).map (· / 2)).Nodup) : l.Nodup := by
  induction l with
  | nil => exact List.nodup_nil
  | cons x r ih =>
    rw [List.nodup_cons]
    rcases Nat.mod_two_eq_zero_or_one x with e | e
    · rw [List.filter_cons, if_pos (by simp [e]), List.map_cons, List.nodup_cons] at h0
      rw [List.filter_cons, if_neg (by simp [e])] at h1
      refine ⟨fun hx => h0.1 (List.mem_map.mpr ⟨x, List.mem_filter.mpr ⟨hx, by simp [e]⟩, rfl⟩), ih h0.2 h1⟩
    · rw [List.filter_cons, if_neg (by simp [e])] at h0
      rw [List.filter_cons, if_pos (by simp [e]), List.map_cons, List.nodup_cons] at h1
      refine ⟨fun hx => h1.1 (List.mem_map.mpr ⟨x, List.mem_filter.mpr ⟨hx, by simp [e]⟩, rfl⟩), ih h0 h1.2⟩
theorem ndBy_ok : ∀ {n : Nat} {l : List Nat}, ndBy n l = true → l.Nodup
  | _, [], _ => List.nodup_nil
  | _, [x], _ => by simp
  | 0, _ :: _ :: _, h => by simp [ndBy] at h
  | n + 1, x :: y :: r, h => by
    simp only [ndBy, Bool.and_eq_true] at h
    exact nd_split (ndBy_ok h.1) (ndBy_ok h.2)
/-- the hash of a train, of a pair of trains -/
def hT (t : Tr) : Int := reduceHash (Builtin.Tuple.tupleHashOf (t.map fun n : Nat => hashInt (n : Int)))
def hTT (p : TT2) : Int := reduceHash (Builtin.Tuple.tupleHashOf [hT p.1, hT p.2])
theorem hashes_nats (w : World) : ∀ t : Tr, NestedKey.hashes w (t.map fun n : Nat => NestedKey.num (n : Int)) = t.map fun n : Nat => hashInt (n : Int)
  | [] => by simp [NestedKey.hashes]
  | x :: r => by
    rw [List.map_cons, NestedKey.hashes, hashes_nats w r, NestedKey.hash, List.map_cons]
theorem hash_T (w : World) (t : Tr) : (nk (dT t)).hash w = hT t := by
  rw [nk_dT, NestedKey.hash, hashes_nats]
  rfl
theorem hash_TT (w : World) (p : TT2) : (nk (dTT p)).hash w = hTT p := by
  rw [nk_dTT, NestedKey.hash, NestedKey.hashes, NestedKey.hashes, NestedKey.hashes, hash_T, hash_T]
  rfl
/-- as a number that is not negative -/
def up64 (i : Int) : Nat := (i + 2 ^ 63).toNat
theorem inj_of {α : Type} {h : α → Int} {U : List α} (nd : ndBy 64 (U.map fun x => up64 (h x)) = true) : ∀ x ∈ U, ∀ y ∈ U, h x = h y → x = y := by
  have n := ndBy_ok nd
  clear nd
  induction U with
  | nil => intro x hx; cases hx
  | cons a r ih =>
    rw [List.map_cons, List.nodup_cons] at n
    intro x hx y hy e
    rcases List.mem_cons.mp hx with e1 | e1 <;> rcases List.mem_cons.mp hy with e2 | e2
    · rw [e1, e2]
    · exact absurd (List.mem_map.mpr ⟨y, e2, by rw [← e, e1]⟩) n.1
    · exact absurd (List.mem_map.mpr ⟨x, e1, by rw [e, e2]⟩) n.1
    · exact ih n.2 x e1 y e2 e
def uT : List Tr := allT 4 0 ++ allT 4 1 ++ allT 4 2
def uO : List Tr := allT 5 0 ++ allT 5 1 ++ allT 5 2 ++ allT 5 3
def uTT : List TT2 := uT.flatMap fun x => uO.map fun y => (x, y)
def uTT4 : List TT2 := (allT 2 2).flatMap fun x => (allT 2 4).map fun y => (x, y)
theorem nd_T : ndBy 64 (uT.map fun x => up64 (hT x)) = true := by decide +kernel
theorem nd_TT4 : ndBy 64 (uTT4.map fun x => up64 (hTT x)) = true := by decide +kernel
theorem mem_uT {n : Nat} {t : Tr} (hn : n ≤ 4) (h : OkT n t) (l : t.length ≤ 2) : t ∈ uT := by
  have h4 : OkT 4 t := fun x hx => Nat.lt_of_lt_of_le (h x hx) hn
  unfold uT
  rw [List.mem_append, List.mem_append, mem_allT, mem_allT, mem_allT]
  have : t.length = 0 ∨ t.length = 1 ∨ t.length = 2 := by omega
  rcases this with e | e | e
  · exact .inl (.inl ⟨e, h4⟩)
  · exact .inl (.inr ⟨e, h4⟩)
  · exact .inr ⟨e, h4⟩
theorem mem_uO {n : Nat} {t : Tr} (hn : n ≤ 5) (h : OkT n t) (l : t.length ≤ 3) : t ∈ uO := by
  have h4 : OkT 5 t := fun x hx => Nat.lt_of_lt_of_le (h x hx) hn
  unfold uO
  rw [List.mem_append, List.mem_append, List.mem_append, mem_allT, mem_allT, mem_allT, mem_allT]
  have : t.length = 0 ∨ t.length = 1 ∨ t.length = 2 ∨ t.length = 3 := by omega
  rcases this with e | e | e | e
  · exact .inl (.inl (.inl ⟨e, h4⟩))
  · exact .inl (.inl (.inr ⟨e, h4⟩))
  · exact .inl (.inr ⟨e, h4⟩)
  · exact .inr ⟨e, h4⟩
theorem few_small {w : World} {k : Kd} {m : Nat} {t : Tr} (sm : Sm k m) (ht : OkT k.length t) (l : t.length ≤ 2) : FewT w k m t 21 := by
  have mem : ∀ x, Reach (nxT k) m t x → x ∈ uT := fun x r => by
    obtain ⟨a, b⟩ := reach_ok sm.ok ht r
    exact mem_uT sm.s4 a (by omega)
  refine ⟨fun l nd h => ?_, fun x y hx hy e => ?_⟩
  · have := sub_len nd fun x hx => mem x (h x hx)
    have e : uT.length = 21 := by decide +kernel
    omega
  · have e' : (nk (dT x)).hash w = (nk (dT y)).hash w := e
    rw [hash_T, hash_T] at e'
    exact inj_of nd_T x (mem x hx) y (mem y hy) e'
theorem FewT.mono {w : World} {k : Kd} {m : Nat} {t : Tr} {B C : Nat} (h : FewT w k m t B) (l : B ≤ C) : FewT w k m t C := ⟨fun x n r => Nat.le_trans (h.few x n r) l, h.inj⟩
end K36
set_option Elab.async false
set_option linter.all false
set_option maxRecDepth 100000
set_option maxHeartbeats 4000000
namespace K36
open PySem PySem.Spec PyProof.Rows L2
section
variable {κ : Type} [DecidableEq κ] {ko : KeyOf κ}
theorem pi_nkK {X : Cx} {P : Program} {w : World} {tg e : Expr} {td : TE} (hP : X.prog = P) (hw : X.w = w) (he : PE X e td) : PI X tg e (iNk ko P w td) := by
  subst hP hw
  exact pi_nk he
end
/-- sorts that walkers of a train ever are -/
def Within (k : Kd) (m : Nat) (t : Tr) (x : Nat) : Prop := ∃ s ∈ t, Reach (nxT k) m [s] [x]
theorem within_lt {k : Kd} {m : Nat} {t : Tr} {x : Nat} (ok : OkK k m) (ht : OkT k.length t) (h : Within k m t x) : x < k.length := by
  obtain ⟨s, hs, r⟩ := h
  have o : OkT k.length [s] := fun y hy => by
    rw [List.mem_singleton.mp hy]
    exact ht s hs
  exact (reach_ok ok o r).1 x (List.mem_singleton.mpr rfl)
section
variable {P : Program} {w : World} {K : PySem.W.Frag} {mg : Str → Option Value} {base : Heap}
def spWithin : Sp := fun vs H Q _ => ∃ (k : Kd) (m : Nat) (t : Tr) (kv tv : V), vs = [kv, tv] ∧ DV H (dK k) kv ∧ DV H (dT t) tv ∧ Sm k m ∧ OkT k.length t ∧ t.length ≤ 2 ∧
  ∀ H' p (ns : List Nat), Same H H' → H p = none → H' p = some (.lst (ns.map nV)) → ns.Pairwise (· < ·) → (∀ x, x ∈ ns ↔ Within k m t x) → Q (.ref p) H'
theorem tup_hid {H : Hp} {D : Addr} {l : List V} (h : H D = some (.lst l)) : ∀ b ys, H b = some (.tup ys) → hid [D] H b = some (.tup ys) := fun b ys e => by
  rw [hid_out]
  · exact e
  · intro m
    rw [List.mem_singleton.mp m, h] at e
    cases e
theorem k_sorts_within (D : Df K mg "sorts_within" "sorts_within" s_sorts_within) (B : Bl mg) (C1 : Cl P w K mg base 2 "roads_from" (spRoads P w)) : Cl P w K mg base 3 "sorts_within" spWithin := by
  refine D.cl c_sorts_within (fun _ _ _ _ _ _ us hl => match us, hl with | [_, _], _ => rfl) (fun vs H Q E h => ?_) (fun f cdv A outer s H vs Q E hr h => ?_)
  · obtain ⟨k, m, t, kv, tv, rfl, _⟩ := h
    rfl
  · obtain ⟨k, m, t, kv, tv, rfl, hk, ht, sm, okt, hlen, q⟩ := h
    have nd := c_sorts_within.nd
    refine ⟨_, pss_one (ps_ret (pe_callB (cr_sortedSet rfl) (by rfl) B.sorted (by decide +kernel) (pa_cons (pe_callTy (call_setL rfl) (by rfl) B.set (by decide +kernel) (pa_cons
        (pe_lc2 (own := [("sort", 2), ("come", 3)]) (vs1 := [3]) (g := gName 2) (g1 := gName 3) (tt := tYes) (tt1 := tYes) rfl nd (pi_tup (pv 1)) (blkOk_by (N := n_sorts_within) (sc := defScope s_sorts_within) (by decide +kernel)) (by decide)
          (fun _ _ _ _ _ => pg_name (i := 2) nd rfl (Or.inl rfl)) (fun _ _ _ _ _ => pts_nil)
          (fun _ _ _ _ _ => pi_nkK (ko := koT) (P := P) (w := w) rfl rfl (pe_cl C1 hr (by decide) (pa_cons (pv 0) (pa_cons (pe_tup (pa_cons (pv 2) pa_nil)) pa_nil))))
          (fun _ _ _ _ _ => pg_name (i := 3) nd rfl (Or.inl rfl)) (fun _ _ _ _ _ => pts_nil)
          (fun _ _ _ _ _ => pe_ix (ix_tupK (K := K) rfl) (pv 3) pe_int (fun _ _ => rfl))) pa_nil)) pa_nil))), ?_⟩
    obtain ⟨ta, rfl, hta⟩ := DV.tr.mp ht
    refine ⟨_, rfl, ta, rfl, ⟨_, SqT.of hta⟩, fun D1 nD => ⟨fun i mm H3 => i + mm = t.length ∧ Same H H3 ∧ ∃ ns : List Nat, H3 D1 = some (.lst (ns.map nV)) ∧ ns.length ≤ i * 21 ∧ ∀ x, x ∈ ns ↔ ∃ s ∈ t.take i, Reach (nxT k) m [s] [x],
      ⟨t.length, by omega, same_upd nD, [], upd_same, by simp, by simp⟩, ?_⟩⟩
    rintro i mm H3 ⟨ei, s3, ns, eD, len, mem⟩
    have lent : (t.map nV).length = t.length := List.length_map ..
    by_cases hi : i < t.length
    · refine .inr ⟨⟨_, nV t[i], SqT.of (s3 _ _ hta), by rw [List.getElem?_map, List.getElem?_eq_getElem hi]; rfl⟩, _, fun H' h => h, fun x H' y => ?_⟩
      obtain ⟨rfl, y2⟩ := y
      have hx := y2 _ (SqT.of (s3 _ _ hta))
      rw [List.getElem?_map, List.getElem?_eq_getElem hi] at hx
      cases Option.some.inj hx
      have hm : t[i] ∈ t := List.getElem_mem hi
      have oks : OkT k.length [t[i]] := fun y hy => by
        rw [List.mem_singleton.mp hy]
        exact okt _ hm
      have few := few_small (w := w) sm oks (by simp)
      refine ⟨rfl, ?_⟩
      refine ⟨_, rfl, _, rfl, (by show 1 ≤ sizeLine; decide), fun T nT => ⟨k, m, [t[i]], kv, .ref T, rfl, hk.same (s3.trans (same_upd nT)), DV.tr.mpr ⟨T, rfl, upd_same⟩, sm.ok, oks, by simp, few.mono (by decide), fun H5 d keys s5 DA mem5 => ⟨d, keys, rfl, DA, fun xs ep ek hd hdv => ?_⟩⟩⟩
      have s35 := (same_upd (o := .tup [nV t[i]]) nT).trans s5
      have eD5 := s35 _ _ eD
      have hd4 : hid [D1] H5 d = some (dN P w d ep (ents koT xs)) := by
        rw [hid_out]
        · exact hd
        · intro z
          rw [List.mem_singleton.mp z, eD5] at hd
          exact dN_ne_lst (Option.some.inj hd)
      have keyn : keys.Nodup := by
        obtain ⟨_, _, _, n, _⟩ := DA
        exact n
      have klen := few.few keys keyn fun x hx => (mem5 x).mp hx
      have xlen : xs.length = keys.length := by rw [← ek, List.length_map]
      have back : Same (hid [D1] H) (hid [D1] H5) := same_hid (s3.trans s35)
      have hH : hid [D1] H = H := by
        funext b
        by_cases hb : b ∈ [D1]
        · rw [hid_in hb, List.mem_singleton.mp hb, nD]
        · exact hid_out hb
      rw [hH] at back
      refine ⟨fun j kk H4 => j + kk = xs.length ∧ Same (hid [D1] H5) H4 ∧ ∃ ns' : List Nat, H4 D1 = some (.lst (ns'.map nV)) ∧ ns'.length ≤ ns.length + j ∧ ∀ x, x ∈ ns' ↔ x ∈ ns ∨ [x] ∈ keys.take j,
        ⟨xs.length, by omega, hid_le, ns, eD5, by omega, fun x => by simp⟩, ?_⟩
      rintro j kk H4 ⟨ej, s4, ns', eD4, len', mem'⟩
      by_cases hj : j < xs.length
      · refine .inr ⟨⟨s4 _ _ hd4, hj⟩, _, fun H' h => h, fun x H' y => ?_⟩
        obtain ⟨rfl, z, hz, rfl⟩ := y
        have hzm : z ∈ xs := List.mem_of_getElem? hz
        have hkz : keys[j]? = some z.1 := by rw [← ek, List.getElem?_map, hz]; rfl
        obtain ⟨okz, lz⟩ := reach_ok sm.ok oks ((mem5 z.1).mp (List.mem_of_getElem? hkz))
        obtain ⟨c, ec⟩ : ∃ c, z.1 = [c] := by
          match z.1, lz with
          | [c], _ => exact ⟨c, rfl⟩
        have dz := ((hdv z hzm).tups (tup_hid eD5) (koT.pur z.1)).same s4
        rw [ec] at dz
        obtain ⟨b, eb, hb⟩ := DV.tr.mp dz
        cases eb
        refine ⟨rfl, ?_⟩
        refine ⟨_, rfl, z.2.1, _, 0, nV c, rfl, rfl, SqT.of hb, atN (j := 0) rfl, _, eD4, ?_, kk - 1, by omega, by omega, ?_, ns' ++ [c], ?_, ?_, fun x => ?_⟩
        · rw [List.length_map]
          exact fitsLt (by omega)
        · exact same_upd2 s4 (hid_in (List.mem_singleton.mpr rfl))
        · rw [upd_same, List.map_append]
          rfl
        · rw [List.length_append]
          show ns'.length + 1 ≤ _
          omega
        · rw [List.take_add_one, hkz, ec, List.mem_append, List.mem_append, mem']
          simp [or_assoc]
      · refine .inl ⟨⟨s4 _ _ hd4, by omega⟩, mm - 1, by omega, by omega, back.trans s4, ns', eD4, by omega, fun x => ?_⟩
        rw [mem', mem, List.take_add_one, List.getElem?_eq_getElem hi]
        have tk : keys.take j = keys := List.take_of_length_le (by omega)
        rw [tk, mem5]
        constructor
        · rintro (⟨s, hs, r⟩ | r)
          · exact ⟨s, List.mem_append_left _ hs, r⟩
          · exact ⟨t[i], List.mem_append_right _ (List.mem_singleton.mpr rfl), r⟩
        · rintro ⟨s, hs, r⟩
          rcases List.mem_append.mp hs with z | z
          · exact .inl ⟨s, z, r⟩
          · have : s = t[i] := List.mem_singleton.mp z
            rw [this] at r
            exact .inr r
    · have ei' : i = t.length := by omega
      subst ei'
      rw [List.take_length] at mem
      refine .inl ⟨⟨_, SqT.of (s3 _ _ hta), by omega⟩, D1, ns.map Int.ofNat, rfl, SqL.of (by rw [eD, map_nV]), by rw [List.length_map]; omega, fun p c np hc ⟨ks, kn, kl, km⟩ => ?_⟩
      have cb : c ≤ 4 := by
        have := sub_len (l := (List.range 4).map Int.ofNat) kn fun j hj => by
          obtain ⟨n, hn, rfl⟩ := mem_ints.mp ((km j).mp hj)
          have := within_lt sm.ok okt ((mem n).mp hn)
          exact mem_ints.mpr ⟨n, List.mem_range.mpr (Nat.lt_of_lt_of_le this sm.s4), rfl⟩
        rw [kl] at this
        simpa using this
      refine ⟨p, _, c, rfl, upd_same, by omega, fun ms p2 up hms el np2 => ?_⟩
      have z : ∃ os : List Nat, ms = os.map Int.ofNat := by
        have : ∀ j ∈ ms, ∃ n ∈ ns, j = (n : Int) := fun j hj => mem_ints.mp (by simpa using (hms j).mp hj)
        clear up hms el np2
        induction ms with
        | nil => exact ⟨[], rfl⟩
        | cons a r ih =>
          obtain ⟨os, e⟩ := ih fun j hj => this j (List.mem_cons_of_mem _ hj)
          obtain ⟨n, _, e2⟩ := this a List.mem_cons_self
          exact ⟨n :: os, by rw [e, e2]; rfl⟩
      obtain ⟨os, rfl⟩ := z
      have sp : Same H (upd H3 p (SetO w p (fun j => decide (j ∈ ns.map Int.ofNat)) c)) := s3.trans (same_upd np)
      have s6 : Same H (upd (upd H3 p (SetO w p (fun j => decide (j ∈ ns.map Int.ofNat)) c)) p2 (.lst ((os.map Int.ofNat).map V.int))) := sp.trans (same_upd np2)
      refine q _ _ os s6 ?_ (by rw [upd_same, map_nV]) ?_ fun x => ?_
      · cases e : H p2 with
        | none => rfl
        | some o =>
          have h1 := sp _ _ e
          have h2 : upd H3 p (SetO w p (fun j => decide (j ∈ ns.map Int.ofNat)) c) p2 = none := np2
          rw [h2] at h1
          cases h1
      · rw [List.pairwise_map] at up
        exact up.imp fun h => Int.ofNat_lt.mp h
      · show x ∈ os ↔ ∃ s ∈ t, Reach (nxT k) m [s] [x]
        rw [← mem x]
        constructor
        · intro h
          have := (hms (x : Int)).mp (mem_ints.mpr ⟨x, h, rfl⟩)
          obtain ⟨n, hn, e⟩ := mem_ints.mp (by simpa using this)
          have : x = n := by omega
          rw [this]
          exact hn
        · intro h
          have := (hms (x : Int)).mpr (by
            apply decide_eq_true
            exact mem_ints.mpr ⟨x, h, rfl⟩)
          obtain ⟨n, hn, e⟩ := mem_ints.mp this
          have : x = n := by omega
          rw [this]
          exact hn
end
end K36
set_option Elab.async false
set_option linter.all false
set_option maxRecDepth 100000
set_option maxHeartbeats 4000000
namespace K36
open PySem PySem.Spec PyProof.Rows L2
/-! ### xs.index(n), ints -/
def rIdxN : V → List V → Hp → VK → Prop := fun x xs H Q => ∃ (a : Addr) (ns : List Nat) (n : Nat), x = V.ref a ∧ xs = [nV n] ∧ H a = some (.lst (ns.map nV)) ∧ n ∈ ns ∧ Q (nV (ns.idxOf n)) H
theorem idx_props {n : Nat} : ∀ {ns : List Nat}, n ∈ ns → ns[ns.idxOf n]? = some n ∧ ∀ m z, m < ns.idxOf n → ns[m]? = some z → z ≠ n
  | [], h => nomatch h
  | x :: r, h => by
    by_cases e : x = n
    · subst e
      rw [List.idxOf_cons_self]
      exact ⟨rfl, fun m z l => absurd l (Nat.not_lt_zero _)⟩
    · have hr : n ∈ r := by
        rcases List.mem_cons.mp h with z | z
        · exact absurd z.symm e
        · exact z
      obtain ⟨i1, i2⟩ := idx_props hr
      have ei : (x :: r).idxOf n = r.idxOf n + 1 := by
        rw [List.idxOf_cons, show (x == n) = false by simpa using e]
        rfl
      rw [ei]
      refine ⟨i1, fun m z l q => ?_⟩
      cases m with
      | zero =>
        cases Option.some.inj q
        exact e
      | succ m => exact i2 m z (Nat.lt_of_succ_lt_succ l) q
theorem flat_nats (ns : List Nat) : (ns.map nV).all flatV = true := by
  rw [List.all_map]
  exact List.all_eq_true.mpr fun _ _ => rfl
theorem mt_idxN {X : Cx} : MtR X "list.index" rIdxN := by
  intro pins s σ H x xs v us Q I rx rxs h
  obtain ⟨a, ns, n, rfl, rfl, ha, hm, q⟩ := h
  obtain ⟨i1, i2⟩ := idx_props hm
  refine mt_index pins s σ H _ _ v us Q I rx rxs ⟨a, ns.map nV, nV n, ns.idxOf n, nV n, rfl, rfl, SqL.of ha, rfl, flat_nats ns, by rw [List.getElem?_map, i1]; rfl, ?_, fun m z' l e => ?_, q⟩
  · show ((n : Int) == (n : Int)) = true
    simp
  · rw [List.getElem?_map] at e
    cases ez : ns[m]? with
    | none => rw [ez] at e; cases e
    | some z =>
      rw [ez] at e
      cases Option.some.inj e
      have := i2 m z l ez
      show ((z : Int) == (n : Int)) = false
      rw [beq_eq_false_iff_ne]
      omega
section
variable {X : Cx} {K : PySem.W.Frag} {apos cpos : Pos} {T id : String} {o e : Expr} {es : List Expr} {to : TE} {t : TA} {name : Str} {r : V → List V → Hp → VK → Prop}
theorem pe_bmK (hK : X.K = K) (pa : PlainAttrs T) (slot : Slot T name id) (hty : typeOf (.builtin id) = pure (.type "method_descriptor")) (hm : MtR X id r) (ho : PE X o to) (ha : PA X (e :: es) t)
    (hbase : attributeBase o name X.env (eval o X.env) = eval o X.env := by rfl)
    (hfew : ((backTo cpos (starEach (e :: es) X.env)).all (fun x => !x.1) && (backToKw cpos (keywordEach [] X.env)).all (fun x => x.1.isSome)
      && decide ((e :: es).length + ([] : List Keyword).length + (if ([] : List Keyword).isEmpty then 0 else 1) < 30)) = true := by rfl)
    (hline : (apos.endLine == cpos.line) = true := by rfl) (hs : starEach (e :: es) X.env = (false, eval e X.env) :: starEach es X.env := by rfl) (hplain : (backTo cpos (starEach es X.env)).any (·.1) = false := by rfl) :
    PE X (.Call (.Attribute o name apos) (e :: es) [] cpos) (tBM K T r to t) := by
  subst hK
  exact pe_bm pa slot hty hm ho ha hbase hfew hline hs hplain
end
/-- no sort that walkers ever are loses -/
def Keeps (k : Kd) (m : Nat) (t : Tr) : Prop := ∀ x, Within k m t x → ((k.getD x []).map (·.1)).Nodup
section
variable {P : Program} {w : World} {K : PySem.W.Frag} {mg : Str → Option Value} {base : Heap}
def spKeeps : Sp := fun vs H Q _ => ∃ (k : Kd) (m : Nat) (t : Tr) (kv tv : V), vs = [kv, tv] ∧ DV H (dK k) kv ∧ DV H (dT t) tv ∧ Sm k m ∧ OkT k.length t ∧ t.length ≤ 2 ∧
  ∀ H' b, Same H H' → (b = true ↔ Keeps k m t) → Q (.bl b) H'
theorem k_keeps_all (D : Df K mg "keeps_all" "keeps_all" s_keeps_all) (B : Bl mg) (C1 : Cl P w K mg base 3 "sorts_within" spWithin) (C2 : Cl P w K mg base 1 "is_losing" spLosing) : Cl P w K mg base 4 "keeps_all" spKeeps := by
  refine D.cl c_keeps_all (fun _ _ _ _ _ _ us hl => match us, hl with | [_, _], _ => rfl) (fun vs H Q E h => ?_) (fun f cdv A outer s H vs Q E hr h => ?_)
  · obtain ⟨k, m, t, kv, tv, rfl, _⟩ := h
    rfl
  · obtain ⟨k, m, t, kv, tv, rfl, hk, ht, sm, okt, hlen, q⟩ := h
    have nd := c_keeps_all.nd
    refine ⟨_, pss_one (ps_ret (pe_not (pe_callB (cr_any rfl) (by rfl) B.any (by decide +kernel) (pa_cons (pe_lc (own := [("sort", 2)]) (g := gName 2) (tt := tYes) rfl nd (pi_list (pe_cl C1 hr (by decide) (pa_cons (pv 0) (pa_cons (pv 1) pa_nil))))
        (blkOk_by (N := n_keeps_all) (sc := defScope s_keeps_all) (by decide +kernel)) (fun _ _ _ _ _ => pg_name (i := 2) nd rfl (Or.inl rfl)) (fun _ _ _ _ _ => pts_nil)
        (fun _ _ _ _ _ => pe_cl C2 hr (by decide) (pa_cons (pe_ix (ix_tupK (K := K) rfl) (pv 0) (pv 2) (fun _ _ => rfl)) pa_nil))) pa_nil)))), ?_⟩
    refine ⟨_, rfl, _, rfl, k, m, t, kv, tv, rfl, hk, ht, sm, okt, hlen, fun H1 p ns s1 _ hp up mem => ⟨p, rfl, ⟨_, SqL.of hp⟩, fun D1 nD => ?_⟩⟩
    obtain ⟨ka, kx, rfl, hka, hkx⟩ := hk.kd
    have lt : ∀ x ∈ ns, x < k.length := fun x hx => within_lt sm.ok okt ((mem x).mp hx)
    have nsl : ns.length ≤ 4 := Nat.le_trans (nodup_len (up.imp fun h => Nat.ne_of_lt h) lt) sm.s4
    refine lc_lstS (fun j _ y => y = .bl (losesR (k.getD (ns.getD j 0) []))) nD hp (by rw [List.length_map]; omega) (fun _ => rfl) (fun j G G' y _ e => e) (fun i x H3 Q hx s3 q => ?_) (fun H3 ys s3 eD el hy => ?_)
    · rw [List.getElem?_map] at hx
      cases en : ns[i]? with
      | none => rw [en] at hx; cases hx
      | some n =>
        rw [en] at hx
        cases Option.some.inj hx
        obtain ⟨r, er, rl, rg⟩ := sm.ok.row (lt n (List.mem_of_getElem? en))
        obtain ⟨ra, rx, e1, hra, hrx⟩ := hkx.getR er
        have s13 := s1.trans s3
        refine ⟨_, rfl, _, rfl, ka, kx, n, .ref ra, rfl, rfl, SqT.of (s13 _ _ hka), atN e1, r, .ref ra, rfl, DV.same s13 ⟨ra, rx, rfl, hra, hrx⟩, ?_, fun H4 s4 => q _ H4 s4 ?_⟩
        · have := sm.m4
          omega
        · have e2 : ns.getD i 0 = n := by rw [List.getD_eq_getElem?_getD, en]; rfl
          rw [e2, rg]
    · rw [List.length_map] at el
      have ey := list_of_at (f := fun i => V.bl (losesR (k.getD (ns.getD i 0) []))) el hy
      rw [map_bl] at ey
      refine ⟨D1, _, rfl, SqL.of (by rw [eD, ey]), _, rfl, q _ _ (s1.trans s3) ?_⟩
      rw [Bool.not_eq_true', List.any_map, List.any_eq_false]
      constructor
      · intro h x hx
        obtain ⟨i, hi, e⟩ := List.getElem_of_mem ((mem x).mpr hx)
        have := h i (List.mem_range.mpr hi)
        have e2 : ns.getD i 0 = x := by rw [List.getD_eq_getElem?_getD, List.getElem?_eq_getElem hi, e]; rfl
        simp only [Function.comp, id] at this
        rw [e2] at this
        unfold losesR at this
        simpa using this
      · intro h i hi
        have hi' := List.mem_range.mp hi
        have e2 : ns.getD i 0 = ns[i] := by rw [List.getD_eq_getElem?_getD, List.getElem?_eq_getElem hi']; rfl
        have := h ns[i] ((mem _).mp (List.getElem_mem hi'))
        simp only [Function.comp, id]
        rw [e2]
        unfold losesR
        simpa using this
end
end K36
set_option Elab.async false
set_option linter.all false
set_option maxRecDepth 100000
set_option maxHeartbeats 4000000
namespace K36
open PySem PySem.Spec PyProof.Rows L2
/-! ### comprehensions, the new list told in each turn -/
/-- over a tuple -/
theorem lc_tupH {K : PySem.W.Frag} {a : Addr} {xs : List V} {te : TE} {v : Nat} {σ : L2.St} {H1 : Hp} {D : Addr} {Qd : Hp → Prop} (R : Nat → Hp → V → Prop) (hD : H1 D = none) (ha : H1 a = some (.tup xs)) (hn : xs.length ≤ 100000)
    (hw : ∀ x, wipe ((wipe σ [v]).set v (some x)) [v] = wipe σ [v]) (hR : ∀ j G G' y, Same G G' → R j G y → R j G' y)
    (turn : ∀ i x H (Q : VK), xs[i]? = some x → Same H1 H → (∃ l, H D = some (.lst l)) → (∀ y H4, Same H H4 → R i (hid [D] H4) y → Q y H4) → te ((wipe σ [v]).set v (some x)) H Q)
    (last : ∀ H ys, Same H1 H → H D = some (.lst ys) → ys.length = xs.length → (∀ (j : Nat) y, ys[j]? = some y → R j (hid [D] H) y) → Qd H) : LcGoal (Itt K a) v σ te D H1 Qd := by
  refine lc_map xs.length (fun i x => xs[i]? = some x) [D] (fun H => Same H1 H) R (List.mem_singleton.mpr rfl) hn hw (same_upd hD) (fun H l s _ => same_upd2 s hD) hR (fun i H lt s => ⟨xs, xs[i], SqT.of (s _ _ ha), List.getElem?_eq_getElem lt⟩)
    (fun H s => ⟨xs, SqT.of (s _ _ ha), Nat.le_refl _⟩) (fun i H x H' lt s y => ⟨y.1, y.2 xs (SqT.of (s _ _ ha))⟩) (fun i x H Q lt hx s hl q => ?_) last
  exact turn i x H Q hx s hl fun y H4 s4 r => q y H4 (s.trans s4) (by
    obtain ⟨l, e⟩ := hl
    rw [e]
    exact s4 _ _ e) (same_hid s4) r
/-- .. over range(n) -/
theorem lc_rngH {n : Nat} {te : TE} {v : Nat} {σ : L2.St} {H1 : Hp} {D : Addr} {Qd : Hp → Prop} (R : Nat → Hp → V → Prop) (hD : H1 D = none) (hn : n ≤ 100000)
    (hw : ∀ x, wipe ((wipe σ [v]).set v (some x)) [v] = wipe σ [v]) (hR : ∀ j G G' y, Same G G' → R j G y → R j G' y)
    (turn : ∀ i H (Q : VK), i < n → Same H1 H → (∃ l, H D = some (.lst l)) → (∀ y H4, Same H H4 → R i (hid [D] H4) y → Q y H4) → te ((wipe σ [v]).set v (some (nV i))) H Q)
    (last : ∀ H ys, Same H1 H → H D = some (.lst ys) → ys.length = n → (∀ (j : Nat) y, ys[j]? = some y → R j (hid [D] H) y) → Qd H) : LcGoal (Itr 0 n) v σ te D H1 Qd := by
  refine lc_map n (fun i x => x = nV i) [D] (fun H => Same H1 H) R (List.mem_singleton.mpr rfl) hn hw (same_upd hD) (fun H l s _ => same_upd2 s hD) hR (fun i H lt s => lt) (fun H s => Nat.le_refl _) (fun i H x H' lt s y => ⟨y.1, y.2.trans (by rw [Int.zero_add]; rfl)⟩) (fun i x H Q lt hx s hl q => ?_) last
  subst hx
  exact turn i H Q lt s hl fun y H4 s4 r => q y H4 (s.trans s4) (by
    obtain ⟨l, e⟩ := hl
    rw [e]
    exact s4 _ _ e) (same_hid s4) r
/-- .. over a list -/
theorem lc_lstH {K : PySem.W.Frag} {a : Addr} {xs : List V} {te : TE} {v : Nat} {σ : L2.St} {H1 : Hp} {D : Addr} {Qd : Hp → Prop} (R : Nat → Hp → V → Prop) (hD : H1 D = none) (ha : H1 a = some (.lst xs)) (hn : xs.length ≤ 100000)
    (hw : ∀ x, wipe ((wipe σ [v]).set v (some x)) [v] = wipe σ [v]) (hR : ∀ j G G' y, Same G G' → R j G y → R j G' y)
    (turn : ∀ i x H (Q : VK), xs[i]? = some x → Same H1 H → (∃ l, H D = some (.lst l)) → (∀ y H4, Same H H4 → R i (hid [D] H4) y → Q y H4) → te ((wipe σ [v]).set v (some x)) H Q)
    (last : ∀ H ys, Same H1 H → H D = some (.lst ys) → ys.length = xs.length → (∀ (j : Nat) y, ys[j]? = some y → R j (hid [D] H) y) → Qd H) : LcGoal (Itl K a) v σ te D H1 Qd := by
  refine lc_map xs.length (fun i x => xs[i]? = some x) [D] (fun H => Same H1 H) R (List.mem_singleton.mpr rfl) hn hw (same_upd hD) (fun H l s _ => same_upd2 s hD) hR (fun i H lt s => ⟨xs, xs[i], SqL.of (s _ _ ha), List.getElem?_eq_getElem lt⟩)
    (fun H s => ⟨xs, SqL.of (s _ _ ha), Nat.le_refl _⟩) (fun i H x H' lt s y => ⟨y.1, y.2 xs (SqL.of (s _ _ ha))⟩) (fun i x H Q lt hx s hl q => ?_) last
  exact turn i x H Q hx s hl fun y H4 s4 r => q y H4 (s.trans s4) (by
    obtain ⟨l, e⟩ := hl
    rw [e]
    exact s4 _ _ e) (same_hid s4) r
theorem DVs.of_at {H : Hp} : ∀ {ds : List PyData} {ys : List V}, ys.length = ds.length → (∀ (j : Nat) y, ys[j]? = some y → ∃ d, ds[j]? = some d ∧ DV H d y) → DVs H ds ys
  | [], ys, e, _ => by
    cases List.eq_nil_of_length_eq_zero e
    exact rfl
  | d :: ds, ys, e, h => by
    cases ys with
    | nil => cases e
    | cons y r =>
      obtain ⟨d', e1, q⟩ := h 0 y rfl
      cases Option.some.inj e1
      exact ⟨y, r, rfl, q, DVs.of_at (Nat.succ.inj e) fun j z hz => h (j + 1) z hz⟩
/-- .. each by its place in a plain list -/
theorem DVs.of_get {α : Type} {H : Hp} {f : α → PyData} {l : List α} {z : α} {ys : List V} (e : ys.length = l.length) (h : ∀ (j : Nat) y, ys[j]? = some y → DV H (f (l.getD j z)) y) : DVs H (l.map f) ys := by
  refine DVs.of_at (by rw [List.length_map]; exact e) fun j y hy => ?_
  have hj : j < l.length := by
    rw [← e]
    exact (List.getElem?_eq_some_iff.mp hy).1
  have e1 : l[j]? = some l[j] := List.getElem?_eq_getElem hj
  have e2 : l.getD j z = l[j] := by rw [List.getD_eq_getElem?_getD, e1]; rfl
  refine ⟨f l[j], by rw [List.getElem?_map, e1]; rfl, ?_⟩
  rw [← e2]
  exact h j y hy
/-- the place of a left setting, of a sort -/
def undRow (r : Row) (ns : List Nat) : Row := (List.range r.length).map fun l => ((r.map (·.1)).idxOf l, ns.idxOf (r.getD ((r.map (·.1)).idxOf l) (0, 0)).2)
theorem undRow_len (r : Row) (ns : List Nat) : (undRow r ns).length = r.length := by
  unfold undRow
  rw [List.length_map, List.length_range]
theorem undRow_at (r : Row) (ns : List Nat) {l : Nat} (h : l < r.length) : (undRow r ns).getD l (0, 0) = ((r.map (·.1)).idxOf l, ns.idxOf (r.getD ((r.map (·.1)).idxOf l) (0, 0)).2) := by
  unfold undRow
  rw [List.getD_eq_getElem?_getD, List.getElem?_map, List.getElem?_range h]
  rfl
section
variable {P : Program} {w : World} {K : PySem.W.Frag} {mg : Str → Option Value} {base : Heap}
def spUndone : Sp := fun vs H Q _ => ∃ (r : Row) (ns : List Nat) (rv : V) (sp : Addr), vs = [rv, .ref sp] ∧ DV H (dR r) rv ∧ H sp = some (.lst (ns.map nV)) ∧ r.length ≤ 1000 ∧ (∀ l, l < r.length → l ∈ r.map (·.1)) ∧ (∀ p ∈ r, p.2 ∈ ns) ∧
  ∀ H' v, Same H H' → DV H' (dR (undRow r ns)) v → Q v H'
theorem k_undone_row (D : Df K mg "undone_row" "undone_row" s_undone_row) (B : Bl mg) : Cl P w K mg base 1 "undone_row" spUndone := by
  refine D.cl c_undone_row (fun _ _ _ _ _ _ us hl => match us, hl with | [_, _], _ => rfl) (fun vs H Q E h => ?_) (fun f cdv A outer s H vs Q E hr h => ?_)
  · obtain ⟨r, ns, rv, sp, rfl, _⟩ := h
    rfl
  · obtain ⟨r, ns, rv, sp, rfl, hd, hsp, hn, hl, hin, q⟩ := h
    have nd := c_undone_row.nd
    refine ⟨_, pss_cons (ps_set (i := 2) nd rfl (.inr rfl) (pe_lc (own := [("pair", 3)]) (g := gName 3) (tt := tYes) rfl nd (pi_tup (pv 0)) (blkOk_by (N := n_undone_row) (sc := defScope s_undone_row) (by decide +kernel))
          (fun _ _ _ _ _ => pg_name (i := 3) nd rfl (Or.inl rfl)) (fun _ _ _ _ _ => pts_nil) (fun _ _ _ _ _ => pe_ix (ix_tupK (K := K) rfl) (pv 3) pe_int (fun _ _ => rfl))))
      (pss_one (ps_ret (pe_callTy call_tuple_of (by rfl) B.tuple (by decide +kernel) (pa_cons (pe_lc (own := [("left", 4)]) (g := gName 4) (tt := tYes) rfl nd
          (pi_range1 (by rfl) B.range (pa_cons (pe_callB call_len_seq (by rfl) B.len PySem.boot_len (pa_cons (pv 0) pa_nil)) pa_nil)) (blkOk_by (N := n_undone_row) (sc := defScope s_undone_row) (by decide +kernel))
          (fun _ _ _ _ _ => pg_name (i := 4) nd rfl (Or.inl rfl)) (fun _ _ _ _ _ => pts_nil) (fun _ _ _ _ _ =>
            pe_tup (pa_cons (pe_bmK (K := K) rfl PySem.F.plainAttrs_list PySem.F.slot_list_index PySem.F.type_list_index mt_idxN (pv 2) (pa_cons (pv 4) pa_nil))
              (pa_cons (pe_bmK (K := K) rfl PySem.F.plainAttrs_list PySem.F.slot_list_index PySem.F.type_list_index mt_idxN (pv 1)
                (pa_cons (pe_ix (ix_tupK (K := K) rfl) (pe_ix (ix_tupK (K := K) rfl) (pv 0) (pe_bmK (K := K) rfl PySem.F.plainAttrs_list PySem.F.slot_list_index PySem.F.type_list_index mt_idxN (pv 2) (pa_cons (pv 4) pa_nil)) (fun _ _ => rfl)) pe_int (fun _ _ => rfl)) pa_nil)) pa_nil)))) pa_nil)))), ?_⟩
    obtain ⟨a, xs, rfl, ha, hx⟩ := hd.rw
    have el := hx.length
    rw [List.length_map] at el
    refine ⟨_, rfl, a, rfl, ⟨_, SqT.of ha⟩, fun D1 nD => lc_firsts nD ha hx (by omega) (fun _ => rfl) (fun p x H1 Q hp dv s1 q => ?_) (fun H1 s1 eD => ?_)⟩
    · obtain ⟨b, rfl, hb⟩ := DV.pr.mp dv
      exact ⟨_, rfl, b, _, 0, nV p.1, rfl, rfl, SqT.of hb, atN (j := 0) rfl, q _ (Same.refl _)⟩
    · refine ⟨_, rfl, a, xs, rfl, .inr (SqT.of (s1 _ _ ha)), _, rfl, by omega, by omega, fun D2 nD2 => lc_rngH (n := ((xs.length : Int)).toNat) (fun j G y => DV G (dP ((undRow r ns).getD j (0, 0))) y) nD2 (by omega) (fun _ => rfl) (fun j G G' y e h => h.same e) (fun i H3 Q hi s3 hD2 q => ?_) (fun H3 ys s3 eD2 ely hy => ?_)⟩
      · have hi' : i < r.length := by omega
        have hD3 := s3 _ _ eD
        have hm := hl i hi'
        obtain ⟨i1, _⟩ := idx_props hm
        rw [List.getElem?_map] at i1
        cases ep : r[(r.map (·.1)).idxOf i]? with
        | none => rw [ep] at i1; cases i1
        | some p =>
          obtain ⟨pa, e1, hpa⟩ := hx.getP ep
          have s13 := s1.trans s3
          refine ⟨_, rfl, .inl ⟨rfl, _, SqL.of hD3⟩, _, rfl, D1, r.map (·.1), i, rfl, rfl, hD3, hm, ?_⟩
          refine ⟨_, rfl, .inl ⟨rfl, _, SqL.of (s13 _ _ hsp)⟩, _, rfl, _, rfl, .inl ⟨rfl, _, SqL.of hD3⟩, _, rfl, D1, r.map (·.1), i, rfl, rfl, hD3, hm, ?_⟩
          refine ⟨a, xs, _, .ref pa, rfl, rfl, SqT.of (s13 _ _ ha), atN e1, pa, _, 1, nV p.2, rfl, rfl, SqT.of (s13 _ _ hpa), atN (j := 1) rfl, ?_⟩
          refine ⟨sp, ns, p.2, rfl, rfl, s13 _ _ hsp, hin p (List.mem_of_getElem? ep), (by show 2 ≤ sizeLine; decide), fun T nT => q _ _ (same_upd nT) ?_⟩
          have e2 : r.getD ((r.map (·.1)).idxOf i) (0, 0) = p := by rw [List.getD_eq_getElem?_getD, ep]; rfl
          rw [undRow_at r ns hi', e2]
          refine DV.pr.mpr ⟨T, rfl, ?_⟩
          rw [hid_upd_out, upd_same]
          intro z
          obtain ⟨l, e⟩ := hD2
          have nT' : H3 D2 = none := by
            rw [← List.mem_singleton.mp z]
            exact nT
          rw [e] at nT'
          cases nT'
      · have eu : ((xs.length : Int)).toNat = (undRow r ns).length := by
          rw [undRow_len]
          omega
        refine ⟨D2, ys, rfl, .inl ⟨SqL.of eD2, fun l nl => q _ _ (s1.trans (s3.trans (same_upd nl))) ⟨l, ys, rfl, upd_same, ?_⟩⟩⟩
        exact ((DVs.of_get (f := dP) (ely.trans eu) hy).same hid_le).same (same_upd nl)
end
end K36
set_option Elab.async false
set_option linter.all false
set_option maxRecDepth 100000
set_option maxHeartbeats 4000000
namespace K36
open PySem PySem.Spec PyProof.Rows L2
/-! ### t[::-1] of a tuple -/
section
variable {prog : Program} {w : World} {A : Around} {E : Value → Shared → Prop} {s : Shared}
theorem adjust_rev (n : Nat) : Builtin.Slice.sliceAdjust none none (-1) (n : Int) = ((n : Int) - 1, -1) := by
  unfold Builtin.Slice.sliceAdjust
  simp
theorem places_rev (n : Nat) : Builtin.Slice.slicePlaces ((n : Int) - 1) (-1) (-1) = n := by
  unfold Builtin.Slice.slicePlaces
  have h1 : ¬ ((-1 : Int) > 0) := by omega
  simp only [h1, if_false]
  by_cases h : (n : Int) - 1 > -1
  · have e : ((n : Int) - 1 - -1 - -1 - 1) / (- -1) = (n : Int) := by
      rw [show (- -1 : Int) = 1 by decide, Int.ediv_one]
      omega
    simp
    omega
  · have : n = 0 := by omega
    subst this
    simp
theorem fm_congr {α β : Type} {f g : α → Option β} : ∀ {l : List α}, (∀ x ∈ l, f x = g x) → l.filterMap f = l.filterMap g
  | [], _ => rfl
  | x :: r, h => by
    rw [List.filterMap_cons, List.filterMap_cons, h x List.mem_cons_self, fm_congr fun y hy => h y (List.mem_cons_of_mem _ hy)]
theorem pick_rev (xs : Array Value) : ((List.range xs.size).filterMap fun (m : Nat) => xs[(((xs.size : Int) - 1) + (m : Int) * (-1)).toNat]?).toArray = xs.toList.reverse.toArray := by
  have e : ∀ m ∈ List.range xs.size, xs[(((xs.size : Int) - 1) + (m : Int) * (-1)).toNat]? = xs[xs.size - 1 - m]? := fun m hm => by
    have := List.mem_range.mp hm
    have e2 : (((xs.size : Int) - 1) + (m : Int) * (-1)).toNat = xs.size - 1 - m := by omega
    rw [e2]
  have e3 : (List.range xs.size).filterMap (fun (m : Nat) => xs[(((xs.size : Int) - 1) + (m : Int) * (-1)).toNat]?) = (List.range xs.size).filterMap fun m => xs[xs.size - 1 - m]? := by
    exact fm_congr e
  rw [e3]
  have e4 : ((List.range xs.size).filterMap fun m => xs[xs.size - 1 - m]?) = (((List.range xs.size).map fun k => xs.size - 1 - k).filterMap (xs[·]?)) := by
    rw [List.filterMap_map]
    rfl
  rw [e4, PySem.W.krv_range, List.filterMap_reverse, PySem.W.krv_all]
theorem getItem_tuple_rev {t sl : Addr} {items : Array Value} {vs : Value} {Q : Value → Shared → Prop} (ht : IsTup s.heap t items) (hs : s.heap.IsSliceOf sl .none .none vs) (ps : IsPart vs (some (-1)))
    (h : Q (.ref s.heap.objs.size) { s with heap := s.heap.push { cls := .type "tuple", data := .seq items.toList.reverse.toArray } })
    (hsz : items.size ≤ sizeLine) : wpAny (model prog w) A (getItem (.ref t) (.ref sl)) Q E s := by
  have htake : sizeOk (.seq items.toList.reverse.toArray) := by
    show items.toList.reverse.toArray.size ≤ sizeLine
    rw [List.size_toArray, List.length_reverse, Array.length_toList]
    exact hsz
  obtain ⟨os, hos, hcs, hds⟩ := id hs
  have hTs : s.TypeIs (.ref sl) "slice" := ⟨os, hos, hcs⟩
  unfold getItem
  try with_reducible refine wpAny_holding ?_
  first | refine wpAny_bind (wpAny_pure ?_) | skip
  refine wpAny_bind (wpAny_sequenceKey ht.typeIs (by decide) ?_)
  refine wpAny_bind (wpAny_callSpecial?_slot (name := Str.ofString "__getitem__") ht.typeIs PyProof.Rows.slot_tuple_getitem
    (wpAny_call_entry PyProof.Rows.slot_tuple_getitem ht.typeIs entry_tuple_getitem ?_ (args_tuple_getitem _ _)))
  show wpAny _ _ (Builtin.Tuple.tupleItemsOf (.ref t) >>= _) _ _ s
  refine wpAny_bind (tupleItemsOf_ ht ?_)
  refine wpAny_bind (wpAny_typeOf hTs ?_)
  rw [if_pos (by decide)]
  have app : ∀ (A : Around) (Q' : Int × Int × Nat → Shared → Prop), Q' ((items.size : Int) - 1, -1, items.size) s → wpAny (model prog w) A (Builtin.Slice.sliceApplied (.ref sl) (pure (items.size : Int))) Q' E s := fun A Q' q => by
    unfold Builtin.Slice.sliceApplied Builtin.Slice.sliceFields
    refine wpAny_bind (wpAny_bind (wpAny_field hos hds (x := .none) rfl (wpAny_bind (wpAny_field hos hds (x := .none) rfl (wpAny_bind (wpAny_field hos hds (x := vs) rfl (wpAny_pure ?_)))))))
    refine wpAny_bind (HT.slicePart_ ps ?_)
    show wpAny _ _ (if ((-1 : Int) == 0) = true then _ else _) _ _ s
    rw [if_neg (by decide)]
    refine wpAny_bind (HT.slicePart_ .none (wpAny_bind (HT.slicePart_ .none (wpAny_bind (wpAny_pure ?_)))))
    show wpAny _ _ (match Builtin.Slice.sliceAdjust none none (-1) (items.size : Int) with | (lo, hi) => pure (lo, (-1 : Int), Builtin.Slice.slicePlaces lo hi (-1))) _ _ s
    rw [adjust_rev]
    show wpAny _ _ (pure ((items.size : Int) - 1, (-1 : Int), Builtin.Slice.slicePlaces ((items.size : Int) - 1) (-1) (-1))) _ _ s
    rw [places_rev]
    exact wpAny_pure q
  refine wpAny_bind (app _ _ ?_)
  have hno : ¬ ((((items.size : Int) - 1) == 0 && (-1 : Int) == 1 && items.size == items.size) = true) := by
    intro q
    rw [Bool.and_eq_true, Bool.and_eq_true] at q
    exact absurd q.1.2 (by decide)
  show wpAny _ _ (if (((items.size : Int) - 1) == 0 && (-1 : Int) == 1 && items.size == items.size) = true then _ else _) _ _ s
  rw [if_neg hno, pick_rev]
  first
    | exact wpAny_bind (m := Builtin.Tuple.tupleExact _) (wpAny_newObj_type (wpAny_pure ⟨_, rfl, wpAny_pure h⟩) htake)
    | exact wpAny_bind (m := Builtin.Tuple.tupleExact _) (wpAny_newObj_type (wpAny_bind (wpAny_pure (wpAny_pure ⟨_, rfl, wpAny_pure h⟩))) htake)
    | exact wpAny_bind (wpAny_bind (m := Builtin.Tuple.tupleExact _) (wpAny_newObj_type (wpAny_pure (wpAny_pure ⟨_, rfl, wpAny_pure h⟩)) htake))
    | exact wpAny_bind (wpAny_bind (m := Builtin.Tuple.tupleExact _) (wpAny_newObj_type (wpAny_pure ⟨_, rfl, wpAny_pure h⟩) htake))
end
def tRevT (te : TE) : TE := fun σ H Q => te σ H fun x H1 => ∃ a xs, x = .ref a ∧ H1 a = some (.tup xs) ∧ ∀ p, H1 p = none → Q (.ref p) (upd H1 p (.tup xs.reverse))
theorem pe_revT {X : Cx} {e : Expr} {te : TE} {k : Nat} {p1 p2 p3 pos : Pos} (he : PE X e te) : PE X (.Subscript e (.Slice none none (some (.UnaryOp .USub (.Constant (.int 1) k p1) p2)) p3) pos) (tRevT te) := by
  refine ⟨fun pins s σ H Q I h => ?_⟩
  refine Subscript_ (thn (he.run pins s σ H _ I h) fun v s1 ⟨x, H1, I1, r1, q1⟩ => ?_)
  obtain ⟨a, xs, ex, hx, q⟩ := q1
  subst ex
  cases r1
  have hst : PO X (some (.UnaryOp .USub (.Constant (.int 1) k p1) p2)) (tPart (tUn (rU fun i => .int (-i)) (tC (.int 1)))) := po_some (pe_un un_neg pe_int)
  refine wpAny_Slice (thn (po_none.run pins s1 σ H1 (fun o H2 => o = none ∧ H2 = H1) I1 ⟨rfl, rfl⟩) fun vl s2 ⟨l, H2, I2, pl, el, e2⟩ => ?_)
  subst el e2
  refine thn (po_none.run pins s2 σ H2 (fun o H3 => o = none ∧ H3 = H2) I2 ⟨rfl, rfl⟩) fun vu s3 ⟨u, H3, I3, pu, eu, e3⟩ => ?_
  subst eu e3
  refine thn (hst.run pins s3 σ H3 (fun o H4 => o = some (-1) ∧ H4 = H3) I3 ⟨1, rfl, -1, rfl, rfl, rfl⟩) fun vs s4 ⟨o, H4, I4, ps, eo, e4⟩ => ?_
  subst eo e4
  cases pl
  cases pu
  have I5 : Inv X pins σ H4 { s4 with heap := s4.heap.push { cls := .type "slice", data := .fields #[.none, .none, vs] } } := I4.kept (t' := s4.toks) fun b ob q => Heap.get?_push_of_some _ q
  obtain ⟨its, r, ht, hz⟩ := I5.tuple (SqT.of hx)
  have hlen := r.length
  show wpAny (model X.prog X.w) X.A (subscriptTail e (.Slice none none (some (.UnaryOp .USub (.Constant (.int 1) k p1) p2)) p3) (.ref a) (.ref s4.heap.objs.size)) (EP X pins σ Q) X.xe { s4 with heap := s4.heap.push { cls := .type "slice", data := .fields #[.none, .none, vs] } }
  refine tail_any (ops := [.ref a, .ref s4.heap.objs.size]) ht.typeIs (PyProof.Rows.slot_tuple_getitem.lookup) ?_ (by with_unfolding_all rfl)
  refine getItem_tuple_rev ht (Heap.IsSliceOf.new _ .none .none vs) ps ?_ (by rw [List.size_toArray]; omega)
  refine ⟨.ref _, _, I5.laid (t' := s4.toks) (o := .tup xs.reverse) (fun b ob q => Heap.get?_push_of_some _ q) (Nat.le_refl _) ?_, rfl, q _ (I5.hok.fresh (Nat.le_refl _))⟩
  exact ⟨by rw [List.length_reverse]; exact hz, _, r.reverse, IsTup.new _ _⟩
end K36
set_option Elab.async false
set_option linter.all false
set_option maxRecDepth 100000
set_option maxHeartbeats 4000000
namespace K36
open PySem PySem.Spec PyProof.Rows L2
section
variable {X : Cx}
def rEqNil (H : Hp) (x y : V) (k : Bool → Prop) : Prop := ∃ (a b : Addr) (xs : List V) (ds : List PyData), x = .ref a ∧ y = .ref b ∧ H a = some (.lst xs) ∧ H b = some (.lst []) ∧ DVs H ds xs ∧ SeqAt.shaped (.list ds) = true ∧ k ds.isEmpty
theorem op_eqNil {n : Nat} (hr : Room n X.A) : OpR X (compareOp .Eq) (fun x y H Q => rEqNil H x y fun b => Q (.bl b) H) := by
  intro pins s σ H x y u v Q I rx ry h
  obtain ⟨a, b, xs, ds, rfl, rfl, ha, hb, hd, hs, q⟩ := h
  refine op_eqD hr.units pins s σ H _ _ u v Q I rx ry ⟨.list ds, .list [], .lst (SqL.of ha) hd.dp, .lst (SqL.of hb) .nil, hs, shaped_list (fun d z => nomatch z), ?_⟩
  rw [eqv_nil]
  exact q
end
/-- as many as there are, none twice: all of them -/
theorem all_in {n : Nat} {l : List Nat} (nd : l.Nodup) (b : ∀ x ∈ l, x < n) (e : l.length = n) : ∀ y, y < n → y ∈ l := fun y hy => by
  refine Decidable.byContradiction fun no => ?_
  have := nodup_len (n := n) (l := y :: l) (List.nodup_cons.mpr ⟨no, nd⟩) fun x hx => by
    rcases List.mem_cons.mp hx with z | z
    · rw [z]; exact hy
    · exact b x z
  rw [List.length_cons] at this
  omega
/-- the undoing of a train that keeps -/
def undK (k : Kd) (m : Nat) (ns : List Nat) : Kd := if ns = [] then [(List.range m).map fun s => (s, 0)] else ns.map fun x => undRow (k.getD x []) ns
def undT (ns : List Nat) (t : Tr) : Tr := t.reverse.map fun s => ns.idxOf s
def dKT (k : Kd) (t : Tr) : PyData := .tuple [dK k, dT t]
theorem reach_one {k : Kd} {m s x l : Nat} (r : Reach (nxT k) m [s] [x]) (hl : l < m) : Reach (nxT k) m [s] [(cell k x l).2] := .step r hl
theorem pures_pair (r : Row) : pures? (r.map dP) = true := by
  induction r with
  | nil => rfl
  | cons p r ih =>
    show (pures? [nD p.1, nD p.2] && pures? (r.map dP)) = true
    rw [ih]
    rfl
theorem pure_R (r : Row) : pure? (dR r) = true := pures_pair r
theorem pure_K (k : Kd) : pure? (dK k) = true := by
  show pures? (k.map dR) = true
  induction k with
  | nil => rfl
  | cons r k ih =>
    show (pure? (dR r) && pures? (k.map dR)) = true
    rw [pure_R, ih]
    rfl
theorem hid_new {H : Hp} {D T : Addr} {l : List V} {o : HO} (hD : H D = some (.lst l)) (nT : H T = none) : hid [D] (upd H T o) T = some o := by
  rw [hid_out, upd_same]
  intro z
  rw [List.mem_singleton.mp z, hD] at nT
  cases nT
section
variable {P : Program} {w : World} {K : PySem.W.Frag} {mg : Str → Option Value} {base : Heap}
def spUndBy : Sp := fun vs H Q _ => ∃ (k : Kd) (m : Nat) (t : Tr) (kv tv : V), vs = [kv, tv] ∧ DV H (dK k) kv ∧ DV H (dT t) tv ∧ Sm k m ∧ OkT k.length t ∧ t.length ≤ 2 ∧ Keeps k m t ∧
  ∀ H' v (ns : List Nat), Same H H' → ns.Pairwise (· < ·) → (∀ x, x ∈ ns ↔ Within k m t x) → DV H' (dKT (undK k m ns) (undT ns t)) v → Q v H'
theorem k_undoing_by (D : Df K mg "undoing_by" "undoing_by" s_undoing_by) (B : Bl mg) (C1 : Cl P w K mg base 3 "sorts_within" spWithin) (C2 : Cl P w K mg base 1 "settings_in" spSettK) (C3 : Cl P w K mg base 1 "undone_row" spUndone) : Cl P w K mg base 4 "undoing_by" spUndBy := by
  refine D.cl c_undoing_by (fun _ _ _ _ _ _ us hl => match us, hl with | [_, _], _ => rfl) (fun vs H Q E h => ?_) (fun f cdv A outer s H vs Q E hr h => ?_)
  · obtain ⟨k, m, t, kv, tv, rfl, _⟩ := h
    rfl
  · obtain ⟨k, m, t, kv, tv, rfl, hk, ht, sm, okt, hlen, keep, q⟩ := h
    have nd := c_undoing_by.nd
    refine ⟨_, pss_cons (ps_set (i := 2) nd rfl (.inr rfl) (pe_cl C1 hr (by decide) (pa_cons (pv 0) (pa_cons (pv 1) pa_nil))))
      (pss_cons (ps_if (pt_cmpR (op_eqNil hr) (pv 2) (pe_lst pa_nil) (nomark _))
        (pss_one (ps_ret (pe_tup (pa_cons (pe_tup (pa_cons (pe_callTy call_tuple_of (by rfl) B.tuple (by decide +kernel) (pa_cons (pe_lc (own := [("setting", 4)]) (g := gName 4) (tt := tYes) rfl nd
            (pi_range1 (by rfl) B.range (pa_cons (pe_cl C2 hr (by decide) (pa_cons (pv 0) pa_nil)) pa_nil)) (blkOk_by (N := n_undoing_by) (sc := defScope s_undoing_by) (by decide +kernel))
            (fun _ _ _ _ _ => pg_name (i := 4) nd rfl (Or.inl rfl)) (fun _ _ _ _ _ => pts_nil) (fun _ _ _ _ _ => pe_tup (pa_cons (pv 4) (pa_cons pe_int pa_nil)))) pa_nil)) pa_nil)) (pa_cons (pe_tup pa_nil) pa_nil))))) pss_nil)
      (pss_cons (ps_set (i := 3) nd rfl (.inl rfl) (pe_callTy call_tuple_of (by rfl) B.tuple (by decide +kernel) (pa_cons (pe_lc (own := [("sort", 5)]) (g := gName 5) (tt := tYes) rfl nd
            (pi_list (pv 2)) (blkOk_by (N := n_undoing_by) (sc := defScope s_undoing_by) (by decide +kernel))
            (fun _ _ _ _ _ => pg_name (i := 5) nd rfl (Or.inl rfl)) (fun _ _ _ _ _ => pts_nil) (fun _ _ _ _ _ => pe_cl C3 hr (by decide) (pa_cons (pe_ix (ix_tupK (K := K) rfl) (pv 0) (pv 5) (fun _ _ => rfl)) (pa_cons (pv 2) pa_nil)))) pa_nil)))
      (pss_one (ps_ret (pe_tup (pa_cons (pv 3) (pa_cons (pe_callTy call_tuple_of (by rfl) B.tuple (by decide +kernel) (pa_cons (pe_lc (own := [("sort", 5)]) (g := gName 5) (tt := tYes) rfl nd
            (pi_tup (pe_revT (pv 1))) (blkOk_by (N := n_undoing_by) (sc := defScope s_undoing_by) (by decide +kernel))
            (fun _ _ _ _ _ => pg_name (i := 5) nd rfl (Or.inl rfl)) (fun _ _ _ _ _ => pts_nil) (fun _ _ _ _ _ => pe_bmK (K := K) rfl PySem.F.plainAttrs_list PySem.F.slot_list_index PySem.F.type_list_index mt_idxN (pv 2) (pa_cons (pv 5) pa_nil))) pa_nil)) pa_nil))))))), ?_⟩
    refine ⟨_, rfl, _, rfl, k, m, t, kv, tv, rfl, hk, ht, sm, okt, hlen, fun H1 p ns s1 _ hp up mem => ?_⟩
    have lt : ∀ x ∈ ns, x < k.length := fun x hx => within_lt sm.ok okt ((mem x).mp hx)
    have nsl : ns.length ≤ 4 := Nat.le_trans (nodup_len (up.imp fun h => Nat.ne_of_lt h) lt) sm.s4
    have m4 := sm.m4
    refine ⟨_, rfl, Nat.zero_le _, fun ln nln => ⟨p, ln, _, ns.map nD, rfl, rfl, same_upd nln _ _ hp, upd_same, DVs.nats.mpr rfl, shaped_list (fun d hd => ?_), _, rfl, ite2 (fun e => ?_) (fun e => ?_)⟩⟩
    · obtain ⟨n, _, rfl⟩ := List.mem_map.mp hd
      exact ⟨rfl, by simp [PyData.depth, nD]⟩
    · have en : ns = [] := by simpa using e
      subst en
      have s2 := s1.trans (same_upd (o := .lst []) nln)
      refine ⟨_, rfl, k, m, kv, rfl, hk.same s2, sm.ok, _, rfl, by omega, by omega, fun D1 nD => lc_rngH (n := ((m : Int)).toNat) (fun j G y => DV G (dP (j, 0)) y) nD (by omega) (fun _ => rfl) (fun j G G' y e h => h.same e) (fun i H3 Q hi s3 hD q => ?_) (fun H3 ys s3 eD ely hy => ?_)⟩
      · obtain ⟨l, hD⟩ := hD
        exact ⟨_, rfl, (by show 2 ≤ sizeLine; decide), fun T nT => q _ _ (same_upd nT) (DV.pr.mpr ⟨T, rfl, hid_new hD nT⟩)⟩
      · refine ⟨D1, ys, rfl, .inl ⟨SqL.of eD, fun l nl => ⟨(by show 1 ≤ sizeLine; decide), fun T nT => ⟨Nat.zero_le _, fun T2 nT2 => ⟨(by show 2 ≤ sizeLine; decide), fun T3 nT3 => ?_⟩⟩⟩⟩⟩
        have a1 := same_upd (o := .tup [.ref l]) nT
        have a2 := same_upd (o := .tup []) nT2
        have a3 := same_upd (o := .tup [.ref T, .ref T2]) nT3
        have a0 := same_upd (o := .tup ys) nl
        refine q _ _ [] (s2.trans (s3.trans (a0.trans (a1.trans (a2.trans a3))))) up mem ?_
        have et : t = [] := by
          cases t with
          | nil => rfl
          | cons x r => exact absurd ((mem x).mpr ⟨x, List.mem_cons_self, .refl⟩) (by simp)
        subst et
        have hys : DVs (hid [D1] H3) (((List.range m).map fun s => (s, 0)).map dP) ys := by
          refine DVs.of_get (z := (0, 0)) (by rw [List.length_map, List.length_range]; omega) fun j y hj => ?_
          have jl : j < m := by
            have := (List.getElem?_eq_some_iff.mp hj).1
            omega
          have e : ((List.range m).map fun s => (s, 0)).getD j (0, 0) = (j, 0) := by
            rw [List.getD_eq_getElem?_getD, List.getElem?_map, List.getElem?_range jl]
            rfl
          rw [e]
          exact hy j y hj
        exact ⟨T3, _, rfl, upd_same, _, _, rfl, ⟨T, _, rfl, a3 _ _ (a2 _ _ upd_same), DVs.one ⟨l, ys, rfl, a3 _ _ (a2 _ _ (a1 _ _ upd_same)), hys.same (hid_le.trans (a0.trans (a1.trans (a2.trans a3))))⟩⟩, _, _, rfl, ⟨T2, [], rfl, a3 _ _ upd_same, rfl⟩, rfl⟩
    · have en : ns ≠ [] := by simpa using e
      have s2 := s1.trans (same_upd (o := .lst []) nln)
      have hp2 := same_upd (o := .lst []) nln _ _ hp
      obtain ⟨ka, kx, rfl, hka, hkx⟩ := hk.kd
      refine ⟨_, rfl, p, rfl, ⟨_, SqL.of hp2⟩, fun D2 nD2 => lc_lstH (fun j G y => DV G (dR (undRow (k.getD (ns.getD j 0) []) ns)) y) nD2 hp2 (by rw [List.length_map]; omega) (fun _ => rfl) (fun j G G' y e h => h.same e) (fun i x H3 Q hx s3 hD q => ?_) (fun H3 ys s3 eD ely hy => ?_)⟩
      · obtain ⟨l, hD⟩ := hD
        rw [List.getElem?_map] at hx
        cases ei : ns[i]? with
        | none => rw [ei] at hx; cases hx
        | some n =>
          rw [ei] at hx
          cases Option.some.inj hx
          have hn : n ∈ ns := List.mem_of_getElem? ei
          obtain ⟨r, er, rl, rg⟩ := sm.ok.row (lt n hn)
          obtain ⟨ra, rx, e1, hra, hrx⟩ := hkx.getR er
          have s13 := s2.trans s3
          have rmem := List.mem_of_getElem? er
          have kp := keep n ((mem n).mp hn)
          rw [rg] at kp
          have all := all_in kp (fun x hx => by
            obtain ⟨p, hp, rfl⟩ := List.mem_map.mp hx
            exact (sm.ok.ins r rmem p hp).1) (by rw [List.length_map, rl])
          refine ⟨_, rfl, _, rfl, ka, kx, n, .ref ra, rfl, rfl, SqT.of (s13 _ _ hka), atN e1, _, rfl, r, ns, .ref ra, p, rfl, DV.same s13 ⟨ra, rx, rfl, hra, hrx⟩, s3 _ _ hp2, by omega, fun l hl => all l (by omega), fun pr hpr => ?_, fun H4 v s4 dv => q v H4 s4 ?_⟩
          · obtain ⟨l, hl, e⟩ := List.getElem_of_mem hpr
            obtain ⟨s, hs, rr⟩ := (mem n).mp hn
            have := reach_one (l := l) rr (by omega)
            refine (mem _).mpr ⟨s, hs, ?_⟩
            have ec : cell k n l = pr := by
              unfold cell
              rw [rg, List.getD_eq_getElem?_getD, List.getElem?_eq_getElem hl, e]
              rfl
            rw [← ec]
            exact this
          · have e2 : ns.getD i 0 = n := by rw [List.getD_eq_getElem?_getD, ei]; rfl
            rw [e2, rg]
            exact dv.tups (tup_hid (s4 _ _ hD)) (pure_R _)
      · rw [List.length_map] at ely
        refine ⟨D2, ys, rfl, .inl ⟨SqL.of eD, fun l nl => ?_⟩⟩
        have hys : DVs (hid [D2] H3) ((ns.map fun x => undRow (k.getD x []) ns).map dR) ys := by
          rw [List.map_map]
          exact DVs.of_get (z := 0) ely hy
        have a0 := same_upd (o := .tup ys) nl
        have s4 := s2.trans (s3.trans a0)
        obtain ⟨ta, rfl, hta⟩ := DV.tr.mp ht
        refine ⟨_, rfl, _, rfl, ta, _, rfl, s4 _ _ hta, fun rv nrv => ?_⟩
        have a1 := same_upd (o := .tup (t.map nV).reverse) nrv
        refine ⟨rv, rfl, ⟨_, SqT.of upd_same⟩, fun D3 nD3 => lc_tupH (fun j G y => y = nV ((undT ns t).getD j 0)) nD3 upd_same (by rw [List.length_reverse, List.length_map]; omega) (fun _ => rfl) (fun j G G' y _ e => e) (fun i x H5 Q hx s5 hD q => ?_) (fun H5 zs s5 eD5 elz hz => ?_)⟩
        · rw [← List.map_reverse, List.getElem?_map] at hx
          cases ei : t.reverse[i]? with
          | none => rw [ei] at hx; cases hx
          | some z =>
            rw [ei] at hx
            cases Option.some.inj hx
            have hz : z ∈ ns := (mem z).mpr ⟨z, List.mem_reverse.mp (List.mem_of_getElem? ei), .refl⟩
            have hp5 := s5 _ _ (a1 _ _ (a0 _ _ (s3 _ _ hp2)))
            refine ⟨_, rfl, .inl ⟨rfl, _, SqL.of hp5⟩, _, rfl, p, ns, z, rfl, rfl, hp5, hz, q _ _ (Same.refl _) ?_⟩
            unfold undT
            rw [List.getD_eq_getElem?_getD, List.getElem?_map, ei]
            rfl
        · rw [List.length_reverse, List.length_map] at elz
          refine ⟨D3, zs, rfl, .inl ⟨SqL.of eD5, fun l2 nl2 => ⟨(by show 2 ≤ sizeLine; decide), fun T nT => ?_⟩⟩⟩
          have b0 := same_upd (o := .tup zs) nl2
          have b1 := same_upd (o := .tup [.ref l, .ref l2]) nT
          have eu : (undT ns t).length = t.length := by
            unfold undT
            rw [List.length_map, List.length_reverse]
          have ez : zs = (undT ns t).map nV := by
            have e := list_of_at (f := fun j => nV ((undT ns t).getD j 0)) (elz.trans eu.symm) hz
            rw [e]
            apply List.ext_getElem?
            intro j
            by_cases hj : j < (undT ns t).length
            · rw [List.getElem?_map, List.getElem?_map, List.getElem?_range hj, List.getElem?_eq_getElem hj, Option.map_some, Option.map_some, List.getD_eq_getElem?_getD, List.getElem?_eq_getElem hj]
              rfl
            · rw [List.getElem?_eq_none (by simp; omega), List.getElem?_eq_none (by simp; omega)]
          refine q _ _ ns (s4.trans (a1.trans (s5.trans (b0.trans b1)))) up mem ⟨T, _, rfl, upd_same, _, _, rfl, ?_, _, _, rfl, DV.tr.mpr ⟨l2, rfl, ?_⟩, rfl⟩
          · unfold undK
            rw [if_neg en]
            exact ⟨l, ys, rfl, b1 _ _ (b0 _ _ (s5 _ _ (a1 _ _ upd_same))), hys.same (hid_le.trans (a0.trans (a1.trans (s5.trans (b0.trans b1)))))⟩
          · rw [b1 _ _ upd_same, ez]
end
end K36
set_option Elab.async false
set_option linter.all false
set_option maxRecDepth 100000
set_option maxHeartbeats 4000000
namespace K36
open PySem PySem.Spec PyProof.Rows L2
/-! ### two trains, one behind the other -/
def nxP (k b : Kd) (p : TT2) (s : Nat) : TT2 := ((latch k p.1 s).2, (latch b p.2 (latch k p.1 s).1).2)
def lastP (k b : Kd) (p : TT2) (s : Nat) : Nat := (latch b p.2 (latch k p.1 s).1).1
def OkP (k b : Kd) (p : TT2) : Prop := OkT k.length p.1 ∧ OkT b.length p.2
theorem nxP_ok {k b : Kd} {m s : Nat} {p : TT2} (hk : OkK k m) (hb : OkK b m) (h : OkP k b p) (hs : s < m) : OkP k b (nxP k b p s) ∧ (nxP k b p s).1.length = p.1.length ∧ (nxP k b p s).2.length = p.2.length ∧ lastP k b p s < m := by
  obtain ⟨a1, a2, a3⟩ := latch_ok hk h.1 hs
  obtain ⟨b1, b2, b3⟩ := latch_ok hb h.2 a1
  exact ⟨⟨a2, b2⟩, a3, b3, b1⟩
theorem reachP_ok {k b : Kd} {m : Nat} {p x : TT2} (hk : OkK k m) (hb : OkK b m) (h : OkP k b p) (r : Reach (nxP k b) m p x) : OkP k b x ∧ x.1.length = p.1.length ∧ x.2.length = p.2.length := by
  induction r with
  | refl => exact ⟨h, rfl, rfl⟩
  | step _ hs ih =>
    obtain ⟨a, c, d, _⟩ := nxP_ok hk hb ih.1 hs
    exact ⟨a, c.trans ih.2.1, d.trans ih.2.2⟩
/-- more than a thousand pairs come of a pair -/
def Many (k b : Kd) (m : Nat) (p : TT2) : Prop := ∃ l : List TT2, l.Nodup ∧ (∀ x ∈ l, Reach (nxP k b) m p x) ∧ 1000 < l.length
/-- all that comes of a pair leaves settings as they were -/
def Alike (k b : Kd) (m : Nat) (p : TT2) : Prop := ∀ x, Reach (nxP k b) m p x → ∀ s, s < m → lastP k b x s = s
/-- what is called by the name x keeps sp, at most k deep; it may raise -/
structure ClX (P : Program) (w : World) (K : PySem.W.Frag) (mg : Str → Option Value) (base : Heap) (k : Nat) (x : Str) (sp : Sp) : Prop where
  ex : ∃ (f : Addr) (fd : FuncData) (ps : List Str), mg x = some (.ref f) ∧ PySem.W.keepIn K (.ref f) = true ∧ Binds K fd ps [] ∧ FnOk P w K mg base (L2.CX P w) k f fd ps sp
section
variable {P : Program} {w : World} {K : PySem.W.Frag} {mg : Str → Option Value} {base : Heap}
theorem Df.clX {x q : Str} {st : Stmt} {N ps : List Str} {k : Nat} {sp : Sp} (D : Df K mg x q st) (S : FnScope N ps (defScope st)) (b : BindsAs st q ps) (len : ∀ vs H Q E, sp vs H Q E → vs.length = ps.length)
    (hbody : ∀ (f : Addr) (cdv : Value) (A : Around) (outer : List Env) (s : Shared) (H : Hp) (vs : List V) (Q : VK) (E : XK), Room k (A.deeper (envOfC q (defScope st) s.heap.objs.size f cdv)) → sp vs H Q E →
      ∃ t, PSs (cxOf (L2.CX P w) P w K mg base N q (defScope st) f cdv A outer s H E) (defBody st) t ∧ t { nx := fun _ H' => Q .non H', rt := Q } (start N vs) H) : ClX P w K mg base (k + 1) x sp := by
  obtain ⟨f, fd, g, F⟩ := D.ex
  exact ⟨f, fd, ps, g, F.kp, F.binds b, F.okX S len fun cdv A outer s H vs Q E hr h => hbody f cdv A outer s H vs Q E hr h⟩
/-- .. where it raises nothing -/
theorem ClX.cl {k : Nat} {x : Str} {sp sp' : Sp} (c : ClX P w K mg base k x sp) (h : ∀ vs H Q E, sp' vs H Q E → sp vs H Q E0) : Cl P w K mg base k x sp' := by
  obtain ⟨f, fd, ps, h1, h2, h3, h4⟩ := c.ex
  refine ⟨f, fd, ps, h1, h2, h3, ⟨fun vs H Q E q => h4.len vs H Q E0 (h _ _ _ _ q), fun A outer s H args us vs Q E hr he hb hv hs => ?_⟩⟩
  refine codeAny_mono (h4.run A outer s H args us vs Q E0 hr he hb hv (h _ _ _ _ hs)) fun r s' q => ?_
  cases r with
  | error e =>
    obtain ⟨_, _, _, _, _, _, _, _, _, _, _, _, z⟩ := (show L2.CX P w outer H s E0 e s' from q)
    exact z.elim
  | ok fl =>
    cases fl <;> exact q
def spBehind : Sp := fun vs H Q _ => ∃ (k b : Kd) (m : Nat) (p : TT2) (s : Nat) (kv bv pv : V), vs = [kv, bv, pv, nV s] ∧ DV H (dK k) kv ∧ DV H (dK b) bv ∧ DV H (dTT p) pv ∧ OkK k m ∧ OkK b m ∧ OkP k b p ∧ s < m ∧ p.1.length ≤ 1000 ∧ p.2.length ≤ 1000 ∧
  ∀ H' a c, Same H H' → H' a = some (.tup [nV (lastP k b p s), .ref c]) → DV H' (dTT (nxP k b p s)) (.ref c) → Q (.ref a) H'
theorem DV.tt {H : Hp} {p : TT2} {v : V} (h : DV H (dTT p) v) : ∃ a x y, v = .ref a ∧ H a = some (.tup [.ref x, .ref y]) ∧ H x = some (.tup (p.1.map nV)) ∧ H y = some (.tup (p.2.map nV)) := by
  obtain ⟨a, xs, rfl, ha, v1, r1, rfl, h1, v2, r2, rfl, h2, h3⟩ := h
  cases (show r2 = [] from h3)
  obtain ⟨x, rfl, hx⟩ := DV.tr.mp h1
  obtain ⟨y, rfl, hy⟩ := DV.tr.mp h2
  exact ⟨a, x, y, rfl, ha, hx, hy⟩
theorem DV.mk_tt {H : Hp} {p : TT2} {a x y : Addr} (ha : H a = some (.tup [.ref x, .ref y])) (hx : H x = some (.tup (p.1.map nV))) (hy : H y = some (.tup (p.2.map nV))) : DV H (dTT p) (.ref a) :=
  ⟨a, _, rfl, ha, _, _, rfl, DV.tr.mpr ⟨x, rfl, hx⟩, _, _, rfl, DV.tr.mpr ⟨y, rfl, hy⟩, rfl⟩
theorem k_behind_both (D : Df K mg "behind_both" "behind_both" s_behind_both) (C1 : Cl P w K mg base 1 "latch_passed" spLatch) : Cl P w K mg base 2 "behind_both" spBehind := by
  refine D.cl c_behind_both (fun _ _ _ _ _ _ us hl => match us, hl with | [_, _, _, _], _ => rfl) (fun vs H Q E h => ?_) (fun f cdv A outer s H vs Q E hr h => ?_)
  · obtain ⟨k, b, m, p, s, kv, bv, pv', rfl, _⟩ := h
    rfl
  · obtain ⟨k, b, m, p, s, kv, bv, pv', rfl, hk, hb, hp, okk, okb, okp, hs, l1, l2, q⟩ := h
    have nd := c_behind_both.nd
    refine ⟨_, pss_cons (ps_asg (pe_cl C1 hr (by decide) (pa_cons (pv 0) (pa_cons (pe_ix ix_tup (pv 2) pe_int (fun _ _ => rfl)) (pa_cons (pv 3) pa_nil)))) (pg_tup rfl (pgs_cons (pg_name (i := 4) nd rfl (.inl rfl)) (pgs_cons (pg_name (i := 5) nd rfl (.inl rfl)) pgs_nil))))
      (pss_cons (ps_asg (pe_cl C1 hr (by decide) (pa_cons (pv 1) (pa_cons (pe_ix ix_tup (pv 2) pe_int (fun _ _ => rfl)) (pa_cons (pv 4) pa_nil)))) (pg_tup rfl (pgs_cons (pg_name (i := 6) nd rfl (.inl rfl)) (pgs_cons (pg_name (i := 7) nd rfl (.inl rfl)) pgs_nil))))
      (pss_one (ps_ret (pe_tup (pa_cons (pv 6) (pa_cons (pe_tup (pa_cons (pv 5) (pa_cons (pv 7) pa_nil))) pa_nil)))))), ?_⟩
    obtain ⟨a, x, y, rfl, ha, hx, hy⟩ := hp.tt
    obtain ⟨a1, a2, a3⟩ := latch_ok okk okp.1 hs
    obtain ⟨b1, b2, b3⟩ := latch_ok okb okp.2 a1
    refine ⟨_, rfl, _, rfl, a, _, 0, .ref x, rfl, rfl, SqT.of ha, atN (j := 0) rfl, _, rfl, k, m, p.1, s, kv, .ref x, rfl, hk, DV.tr.mpr ⟨x, rfl, hx⟩, okk, okp.1, hs, l1, fun H1 v1 s1 ⟨c1, c2, ev, hc1, hc2⟩ => ?_⟩
    subst ev
    refine ⟨c1, _, rfl, SqT.of hc1, rfl, _, _, rfl, _, _, rfl, rfl, ?_⟩
    refine ⟨_, rfl, _, rfl, a, _, 1, .ref y, rfl, rfl, SqT.of (s1 _ _ ha), atN (j := 1) rfl, _, rfl, b, m, p.2, _, bv, .ref y, rfl, hb.same s1, DV.tr.mpr ⟨y, rfl, s1 _ _ hy⟩, okb, okp.2, a1, l2, fun H2 v2 s2 ⟨d1, d2, ev, hd1, hd2⟩ => ?_⟩
    subst ev
    refine ⟨d1, _, rfl, SqT.of hd1, rfl, _, _, rfl, _, _, rfl, rfl, ?_⟩
    refine ⟨_, rfl, _, rfl, _, rfl, (by show 2 ≤ sizeLine; decide), fun T nT => ⟨(by show 2 ≤ sizeLine; decide), fun T2 nT2 => ?_⟩⟩
    have e1 := same_upd (o := .tup [.ref c2, .ref d2]) nT
    have e2 := same_upd (o := .tup [nV (lastP k b p s), .ref T]) nT2
    exact q _ T2 T (s1.trans (s2.trans (e1.trans e2))) upd_same (DV.mk_tt (e2 _ _ upd_same) (e2 _ _ (e1 _ _ (s2 _ _ hc2))) (e2 _ _ (e1 _ _ hd2)))
end
end K36
set_option Elab.async false
set_option linter.all false
set_option maxRecDepth 100000
set_option maxHeartbeats 4000000
namespace K36
open PySem PySem.Spec PyProof.Rows L2
theorem PE.imp' {X : Cx} {e : Expr} {t t' : TE} (h : PE X e t) (i : ∀ σ H Q, t' σ H Q → t σ H Q) : PE X e t' := ⟨fun pins s σ H Q I q => h.run pins s σ H Q I (i σ H Q q)⟩
/-- the list of roads, one more where a setting is changed -/
def tGrow (P : Program) (w : World) : TE := fun σ H Q => ∃ (d ua : Addr) (hv : V) (keys : List TT2) (here : TT2) (i l : Nat) (rs : List Tr) (us : List V), σ[3]? = some (some (.ref d)) ∧ σ[5]? = some (some (.ref ua)) ∧ σ[6]? = some (some hv) ∧ σ[7]? = some (some (nV i)) ∧ σ[8]? = some (some (nV l)) ∧
  DictAt koP P w H d keys ∧ DV H (dTT here) hv ∧ here ∈ keys ∧ keys.length ≤ 50000 ∧ H ua = some (.lst us) ∧ DVs H (rs.map dT) us ∧ rs.length ≤ 50000 ∧
  ∀ p H' rs' us', Same H H' → H' p = some (.lst us') → DVs H' (rs'.map dT) us' → (l = i → rs' = rs) → (l ≠ i → ∃ r, rs' = rs ++ [r]) → Q (.ref p) H'
structure AtPair (P : Program) (w : World) (H H3 : Hp) (d la ua : Addr) (keys line : List TT2) (rs : List Tr) : Prop where
  sm : Same H H3
  dict : DictAt koP P w H3 d keys
  lst : ∃ xs, H3 la = some (.lst xs) ∧ DVs H3 (line.map koP.dat) xs
  un : ∃ us, H3 ua = some (.lst us) ∧ DVs H3 (rs.map dT) us
/-- nothing is told just if all that is done leaves alike -/
structure Told (G : TT2 → Prop) (keys line : List TT2) (rs : List Tr) : Prop where
  non : rs = [] → ∀ x ∈ keys, x ∈ line ∨ G x
  one : rs ≠ [] → ∃ x ∈ keys, ¬ G x
structure Told1 (G : TT2 → Prop) (g : Nat → Prop) (here : TT2) (i : Nat) (keys line : List TT2) (rs : List Tr) : Prop where
  non : rs = [] → ∀ x ∈ keys, x ∈ line ∨ x = here ∨ G x
  own : rs = [] → ∀ s, s < i → g s
  one : rs ≠ [] → ∃ x ∈ keys, ¬ G x
section
variable {P : Program} {w : World} {K : PySem.W.Frag} {mg : Str → Option Value} {base : Heap}
def spUnlike (w : World) (C : Addr) : Sp := fun vs H Q E => ∃ (k b : Kd) (m : Nat) (p : TT2) (kv bv pv : V), vs = [kv, bv, pv] ∧ DV H (dK k) kv ∧ DV H (dK b) bv ∧ DV H (dTT p) pv ∧ OkK k m ∧ OkK b m ∧ OkP k b p ∧ p.1.length ≤ 1000 ∧ p.2.length ≤ 1000 ∧
  HashInj koP w (Reach (nxP k b) m p) ∧ (∀ H' v, Same H H' → ¬ Many k b m p → ((v = .non ∧ Alike k b m p) ∨ ((∃ a, v = .ref a) ∧ ¬ Alike k b m p)) → Q v H') ∧
  (∀ H' d, Same H H' → H d = none → H' d = some (.xd [(("limit" : Str), .int 1000)]) → Many k b m p → E (.ref C) (some d) H')
theorem k_unlike_road {C fI : Addr} (D : Df K mg "unlike_road" "unlike_road" s_unlike_road) (B : Bl mg) (n1 : Num mg "PAIRS" 1000) (T : TmTxt P K mg C fI) (C1 : Cl P w K mg base 1 "settings_in" spSettK) (C2 : Cl P w K mg base 2 "behind_both" spBehind) : ClX P w K mg base 3 "unlike_road" (spUnlike w C) := by
  refine D.clX c_unlike_road (fun _ _ _ _ _ _ us hl => match us, hl with | [_, _, _], _ => rfl) (fun vs H Q E h => ?_) (fun f cdv A outer s H vs Q E hr h => ?_)
  · obtain ⟨k, b, m, p, kv, bv, pv', rfl, _⟩ := h
    rfl
  · obtain ⟨k, b, m, p, kv, bv, pv', rfl, hk, hb, hp, okk, okb, okp, l1, l2, hin, q, qe⟩ := h
    have nd := c_unlike_road.nd
    refine ⟨_, pss_cons (ps_par3 (i := 3) (j := 4) (l := 5) (by rfl) nd rfl rfl rfl (by decide) (by decide) (by decide) rfl rfl rfl (pa_cons (pe_n1 (ko := koP) hr (pv 2) (pe_tup pa_nil)) (pa_cons (pe_lst (pa_cons (pv 2) pa_nil)) (pa_cons (pe_lst pa_nil) pa_nil))) (by rfl))
      (pss_cons (ps_while (passes_of rfl) (pt_cmpR (op_neNil hr) (pv 4) (pe_lst pa_nil) (nomark _))
        (pss_cons (ps_par (i := 6) (j := 4) (by rfl) nd rfl rfl (by decide) rfl rfl (pa_cons (pe_ix ix_list (pv 4) pe_int (fun _ _ => rfl)) (pa_cons (pe_slice sl_list (pv 4) (po_some pe_int) po_none) pa_nil)) (by rfl))
        (pss_one (ps_for (passes_of rfl) rfl (pi_range1 (by rfl) B.range (pa_cons (pe_cl C1 hr (by decide) (pa_cons (pv 0) pa_nil)) pa_nil)) (pg_name (i := 7) nd rfl (.inl rfl))
          (pss_cons (ps_asg (pe_cl C2 hr (by decide) (pa_cons (pv 0) (pa_cons (pv 1) (pa_cons (pv 6) (pa_cons (pv 7) pa_nil))))) (pg_tup rfl (pgs_cons (pg_name (i := 8) nd rfl (.inl rfl)) (pgs_cons (pg_name (i := 9) nd rfl (.inl rfl)) pgs_nil))))
          (pss_cons (ps_set (i := 5) nd rfl (.inl rfl) (PE.imp' (t' := tGrow P w) (pe_op op_cat (pv 5) (pe_ifExp (pt_cmpR op_ne (pv 8) (pv 7) (nomark _)) (pe_lst (pa_cons (pe_op op_catU (pe_nGet (ko := koP) hr (pv 3) (pv 6) (fun _ _ => rfl)) (pe_tup (pa_cons (pv 7) pa_nil))) pa_nil)) (pe_lst pa_nil))) (fun σ H Q ⟨d, ua, hv, keys, here, i, l, rs, us, e3, e5, e6, e7, e8, DA, dvh, hm, lk, hua, hus, lrs, q⟩ => by
            have lus := hus.length
            rw [List.length_map] at lus
            refine ⟨_, e5, _, e8, _, e7, rfl, _, rfl, ite2 (fun e => ?_) (fun e => ?_)⟩
            · have ne : l ≠ i := fun z => by
                subst z
                simp at e
              refine ⟨_, e3, _, e6, d, keys, here, rfl, DA, dvh, hm, fun ra r hra hrl => ?_⟩
              refine ⟨_, e7, (by show 1 ≤ sizeLine; decide), fun T nT => ⟨ra, T, _, _, rfl, rfl, same_upd nT _ _ hra, upd_same, ?_, fun p8 H8 s8 e8 => ?_⟩⟩
              · rw [List.length_map]
                show _ + 1 ≤ 100000
                omega
              have s78 := (same_upd (o := .tup [nV i]) nT).trans s8
              refine ⟨(by show 1 ≤ sizeLine; decide), fun l nl => ⟨_, _, us, _, rfl, rfl, same_upd nl _ _ (s78 _ _ hua), upd_same, fits (by show us.length + 1 ≤ 100000; omega), fun p10 np10 => ?_⟩⟩
              have s10 := (same_upd (o := .lst [.ref p8]) nl).trans (same_upd (o := .lst (us ++ [.ref p8])) np10)
              refine q _ _ (rs ++ [r ++ [i]]) _ (s78.trans s10) upd_same ?_ (fun z => absurd z ne) fun _ => ⟨_, rfl⟩
              rw [List.map_append]
              exact ((hus.same s78).same s10).append (DVs.one (DV.tr.mpr ⟨p8, rfl, s10 _ _ (by rw [e8, List.map_append]; rfl)⟩))
            · have eq : l = i := Decidable.byContradiction fun z => e (by
                have : ¬ nV l = nV i := fun q => by
                  injection q with q
                  exact z (by omega)
                rw [decide_eq_false this]
                rfl)
              refine ⟨Nat.zero_le _, fun l nl => ⟨_, _, us, _, rfl, rfl, same_upd nl _ _ hua, upd_same, fits (by show us.length + 0 ≤ 100000; omega), fun p10 np10 => ?_⟩⟩
              have s10 := (same_upd (o := .lst []) nl).trans (same_upd (o := .lst (us ++ [])) np10)
              refine q _ _ rs us s10 (by rw [upd_same, List.append_nil]) (hus.same s10) (fun _ => rfl) fun z => absurd eq z)))
          (pss_one (ps_if (pt_cmpR (op_nNotIn (ko := koP) hr) (pv 9) (pv 3) (by rfl))
            (pss_cons (ps_par (i := 3) (j := 4) (by rfl) nd rfl rfl (by decide) rfl rfl (pa_cons (pe_nStar (ko := koP) hr (pv 3) (pv 9) (pe_op op_catU (pe_nGet (ko := koP) hr (pv 3) (pv 6) (fun _ _ => rfl)) (pe_tup (pa_cons (pv 7) pa_nil)))) (pa_cons (pe_op op_cat (pv 4) (pe_lst (pa_cons (pv 9) pa_nil))) pa_nil)) (by rfl))
            (pss_one (ps_if (pt_cmpR op_gt (pe_callB (call_nLen (ko := koP)) (by rfl) B.len PySem.boot_len (pa_cons (pv 3) pa_nil)) (pe_num n1) (nomark _)) (pss_one (ps_raiseTm rfl T hr (by decide) (takes_of rfl rfl rfl rfl) (pa_cons (pe_num n1) pa_nil))) pss_nil))) pss_nil))))))))
      (pss_one (ps_ret (pe_ifExp (pt_cmpR (op_neNil hr) (pv 5) (pe_lst pa_nil) (nomark _))
        (pe_ix ix_tup (pe_ix ix_list (pe_callB (call_sortedR hr) (by rfl) B.sorted (by decide +kernel) (pa_cons (pe_lc (own := [("road", 10)]) (g := gName 10) (tt := tYes) rfl nd (pi_list (pv 5)) (blkOk_by (N := n_unlike_road) (sc := defScope s_unlike_road) (by decide +kernel))
            (fun _ _ _ _ _ => pg_name (i := 10) nd rfl (Or.inl rfl)) (fun _ _ _ _ _ => pts_nil) (fun _ _ _ _ _ => pe_tup (pa_cons (pe_callB (call_lenK (K := K) rfl) (by rfl) B.len PySem.boot_len (pa_cons (pv 10) pa_nil)) (pa_cons (pv 10) pa_nil)))) pa_nil)) pe_int (fun _ _ => rfl)) pe_int (fun _ _ => rfl))
        pe_non)))), ?_⟩
    obtain ⟨pa, px, py, rfl, hpa, hpx, hpy⟩ := hp.tt
    have hashes : ∀ keys : List TT2, keys.Nodup → (∀ x ∈ keys, Reach (nxP k b) m p x) → (keys.map fun k => (nk (koP.dat k)).hash w).Nodup := fun keys n a => hin.nodup n a
    refine ⟨.ref pa, rfl, Nat.zero_le _, fun p0 np0 => ?_⟩
    have s0 : Same H (upd H p0 (.tup [])) := same_upd np0
    refine ⟨p, p0, DV.same s0 hp, rfl, upd_same, fun d0 o0 nd0 D0 => ?_⟩
    have s1 := s0.trans (same_upd (o := o0) nd0)
    refine ⟨_, rfl, (by show 1 ≤ sizeLine; decide), fun l0 nl0 => ⟨Nat.zero_le _, fun u0 nu0 => ⟨_, _, _, rfl, ?_⟩⟩⟩
    have s2 := s1.trans (same_upd (o := .lst [.ref pa]) nl0)
    have s3 := s2.trans (same_upd (o := .lst []) nu0)
    refine ⟨fun n σ H3 => ∃ (d la ua : Addr) (keys line : List TT2) (rs : List Tr) (x6 x7 x8 x9 x10 : Option V), σ = [some kv, some bv, some (.ref pa), some (.ref d), some (.ref la), some (.ref ua), x6, x7, x8, x9, x10] ∧ AtPair P w H H3 d la ua keys line rs ∧ Seen (nxP k b) m p keys line ∧
        Told (fun x => ∀ s, s < m → lastP k b x s = s) keys line rs ∧ n + 2 * keys.length = 2002 + line.length ∧ n ≤ 2001 ∧ keys.length ≤ 1000 ∧ rs.length + 6 * line.length ≤ 6 * keys.length,
      ⟨2001, d0, l0, u0, [p], [p], [], none, none, none, none, none, rfl, ⟨s3, (D0.same (same_upd nl0)).same (same_upd nu0), ⟨_, same_upd nu0 _ _ upd_same, DVs.one (hp.same s3)⟩, _, upd_same, rfl⟩, .start, ⟨fun _ x hx => .inl hx, fun z => absurd rfl z⟩, rfl, Nat.le_refl _, by simp, by simp⟩, ?_⟩
    rintro n σ H3 ⟨d, la, ua, keys, line, rs, x6, x7, x8, x9, x10, rfl, AL, sn, tl, en, n20, klen, rlen⟩
    obtain ⟨lx, hla, hlx⟩ := AL.lst
    obtain ⟨us, hua, hus⟩ := AL.un
    refine ⟨_, rfl, Nat.zero_le _, fun ln nln => ⟨la, ln, lx, _, rfl, rfl, same_upd nln _ _ hla, upd_same, hlx.same (same_upd nln), shaped_keys koP line, _, rfl, ?_⟩⟩
    have sm4 := AL.sm.trans (same_upd (o := .lst []) nln)
    cases line with
    | nil =>
      have whole := sn.whole
      have notMany : ¬ Many k b m p := fun ⟨l, ln, lr, lz⟩ => by
        have := sub_len ln fun x hx => (whole x).mpr (lr x hx)
        omega
      have lus := hus.length
      rw [List.length_map] at lus
      have hua4 := same_upd (o := .lst []) nln _ _ hua
      have hus4 := hus.same (same_upd (o := .lst []) nln)
      refine ⟨_, rfl, Nat.zero_le _, fun ln2 nln2 => ⟨ua, ln2, us, _, rfl, rfl, same_upd nln2 _ _ hua4, upd_same, hus4.same (same_upd nln2), shaped_keys koT rs, _, rfl, ite2 (fun e => ?_) (fun e => ?_)⟩⟩
      · have rne : rs ≠ [] := fun z => by
          subst z
          simp at e
        have sm5 := sm4.trans (same_upd (o := .lst []) nln2)
        have hua5 := same_upd (o := .lst []) nln2 _ _ hua4
        have hus5 := hus4.same (same_upd (o := .lst []) nln2)
        refine ⟨_, rfl, ua, rfl, ⟨_, SqL.of hua5⟩, fun D1 nD1 => lc_lstH (fun j G y => DV G (encR (rs.getD j [])) y) nD1 hua5 (by simp at rlen; omega) (fun _ => rfl) (fun j G G' y e h => h.same e) (fun i x H6 Q hx s6 hD q => ?_) (fun H6 ys s6 eD ely hy => ?_)⟩
        · obtain ⟨l, hD⟩ := hD
          obtain ⟨dd, ed, dv⟩ := hus5.getV hx
          rw [List.getElem?_map] at ed
          cases er : rs[i]? with
          | none => rw [er] at ed; cases ed
          | some r =>
            rw [er] at ed
            cases Option.some.inj ed
            obtain ⟨ra, rfl, hra⟩ := DV.tr.mp (dv.same s6)
            refine ⟨_, rfl, ra, _, rfl, .inr (SqT.of hra), _, rfl, (by show 2 ≤ sizeLine; decide), fun T nT => q _ _ (same_upd nT) ?_⟩
            have e2 : rs.getD i [] = r := by rw [List.getD_eq_getElem?_getD, er]; rfl
            rw [e2]
            refine ⟨T, _, rfl, hid_new hD nT, _, _, rfl, ?_, _, _, rfl, ?_, rfl⟩
            · show V.int _ = V.int _
              rw [List.length_map]
            · exact (DV.tr.mpr ⟨ra, rfl, hra⟩ : DV H6 (dT r) (.ref ra)).tups (fun b ys e => (tup_hid (same_upd nT _ _ hD)) b ys (same_upd nT _ _ e)) (koT.pur r)
        · have hys : DVs H6 (rs.map encR) ys := (DVs.of_get (z := []) (ely.trans lus) hy).same hid_le
          refine ⟨D1, ys, rs, rfl, eD, hys, by simp at rlen; omega, fun p9 zs np9 elz hmem => ?_⟩
          obtain ⟨z, zr, rfl⟩ : ∃ z zr, zs = z :: zr := by
            cases zs with
            | nil =>
              exfalso
              have : rs.length = 0 := by
                rw [← lus, ← ely, ← elz]
                rfl
              exact rne (List.eq_nil_of_length_eq_zero this)
            | cons z zr => exact ⟨z, zr, rfl⟩
          obtain ⟨j, hj, ez⟩ := List.getElem_of_mem (hmem z List.mem_cons_self)
          obtain ⟨dd, ed, dv⟩ := hys.getV (i := j) (v := z) (by rw [List.getElem?_eq_getElem hj, ez])
          rw [List.getElem?_map] at ed
          cases er : rs[j]? with
          | none => rw [er] at ed; cases ed
          | some r =>
            rw [er] at ed
            cases Option.some.inj ed
            obtain ⟨ea, exs, rfl, hea, v1, r1, rfl, h1, v2, r2, rfl, h2, h3⟩ := dv
            cases (show r2 = [] from h3)
            obtain ⟨ra, rfl, hra⟩ := DV.tr.mp h2
            refine ⟨p9, _, 0, .ref ea, rfl, rfl, SqL.of upd_same, atN (j := 0) rfl, ea, _, 1, .ref ra, rfl, rfl, SqT.of (same_upd np9 _ _ hea), atN (j := 1) rfl, ?_⟩
            refine q _ _ (sm5.trans (s6.trans (same_upd np9))) notMany (.inr ⟨⟨ra, rfl⟩, fun al => ?_⟩)
            obtain ⟨x, hx, ng⟩ := tl.one rne
            exact ng (al x ((whole x).mp hx))
      · have rz : rs = [] := by simpa using e
        refine q _ _ (sm4.trans (same_upd nln2)) notMany (.inl ⟨rfl, fun x hx => ?_⟩)
        rcases tl.non rz x ((whole x).mpr hx) with z | z
        · cases z
        · exact z
    | cons here line =>
      obtain ⟨hv, lr, rfl, hhv, hlr⟩ := hlx
      have dv4 : DV (upd H3 ln (.lst [])) (dTT here) hv := DV.same (same_upd nln) hhv
      have D4 := AL.dict.same (same_upd (o := .lst []) nln)
      refine ⟨_, fun σ' H' h => h, ?_⟩
      refine ⟨_, rfl, la, _, 0, hv, rfl, rfl, SqL.of (same_upd nln _ _ hla), atN (j := 0) rfl, _, rfl, 1, rfl, la, _, rfl, SqL.of (same_upd nln _ _ hla), fun p5 np5 => ⟨_, _, rfl, ?_⟩⟩
      rw [cutV_tail]
      have s5 : Same (upd H3 ln (.lst [])) (upd (upd H3 ln (.lst [])) p5 (.lst lr)) := same_upd np5
      have sm5 := sm4.trans s5
      obtain ⟨okh, lh1, lh2⟩ := reachP_ok okk okb okp (sn.all here (sn.sub here List.mem_cons_self))
      have m6 := okk.m6
      have op := sn.open'
      refine ⟨_, rfl, k, m, kv, rfl, hk.same sm5, okk, _, rfl, by omega, by omega, for_range (lo := 0) (n := ((m : Int)).toNat) (fun i σ H6 => ∃ (d la ua : Addr) (keys line : List TT2) (rs : List Tr) (x7 x8 x9 x10 : Option V), σ = [some kv, some bv, some (.ref pa), some (.ref d), some (.ref la), some (.ref ua), some hv, x7, x8, x9, x10] ∧
          AtPair P w H H6 d la ua keys line rs ∧ DV H6 (dTT here) hv ∧ Seen1 (nxP k b) m p here i keys line ∧ Told1 (fun x => ∀ s, s < m → lastP k b x s = s) (fun s => lastP k b here s = s) here i keys line rs ∧ 2003 + line.length ≤ n + 2 * keys.length ∧ keys.length ≤ 1000 ∧ rs.length + 6 * line.length + 6 ≤ 6 * keys.length + i)
        ⟨d, p5, ua, keys, line, rs, x7, x8, x9, x10, rfl, ⟨sm5, D4.same s5, ⟨lr, upd_same, (hlr.same (same_upd nln)).same s5⟩, us, s5 _ _ (same_upd nln _ _ hua), (hus.same (same_upd nln)).same s5⟩, DV.same s5 dv4, op, ⟨fun z x hx => ?_, fun _ s z => absurd z (Nat.not_lt_zero _), tl.one⟩, by simp at en ⊢; omega, klen, by simp at rlen; omega⟩ ?_ ?_⟩
      · rcases tl.non z x hx with y | y
        · rcases List.mem_cons.mp y with e | e
          · exact .inr (.inl e)
          · exact .inl e
        · exact .inr (.inr y)
      · rintro i σ H6 hi ⟨d, la, ua, keys, line, rs, x7, x8, x9, x10, rfl, AL, dvh, sn, tl, en, klen, rlen⟩
        have e0 : V.int (0 + (i : Int)) = nV i := by
          rw [Int.zero_add]
          rfl
        rw [e0]
        have him : i < m := by omega
        obtain ⟨okn, _, _, _⟩ := nxP_ok okk okb okh him
        refine ⟨_, rfl, _, rfl, _, rfl, _, rfl, k, b, m, here, i, kv, bv, hv, rfl, hk.same AL.sm, hb.same AL.sm, dvh, okk, okb, okh, him, by omega, by omega, fun H7 a c s7 ha7 dvt => ?_⟩
        have D7 := AL.dict.same s7
        obtain ⟨lx, hla, hlx⟩ := AL.lst
        obtain ⟨us, hua, hus⟩ := AL.un
        refine ⟨a, _, rfl, SqT.of ha7, rfl, _, _, rfl, _, _, rfl, rfl, ?_⟩
        refine ⟨d, ua, hv, keys, here, i, lastP k b here i, rs, us, rfl, rfl, rfl, rfl, rfl, D7, DV.same s7 dvh, sn.hk, by omega, s7 _ _ hua, hus.same s7, by omega, fun ua' H8 rs' us' s8 hua' hus' eqr ner => ?_⟩
        have D8 := D7.same s8
        have dvt8 : DV H8 (dTT (nxP k b here i)) (.ref c) := DV.same s8 dvt
        have dvh8 : DV H8 (dTT here) hv := DV.same s8 (DV.same s7 dvh)
        have s78 := s7.trans s8
        have rl' : rs'.length ≤ rs.length + 1 := by
          by_cases z : lastP k b here i = i
          · rw [eqr z]
            omega
          · obtain ⟨r, er⟩ := ner z
            rw [er, List.length_append]
            exact Nat.le_refl _
        have tl' : ∀ line', (∀ x ∈ line, x ∈ line') → ∀ keys', (∀ x ∈ keys, x ∈ keys') → (∀ x ∈ keys', x ∈ keys ∨ x ∈ line') → Told1 (fun x => ∀ s, s < m → lastP k b x s = s) (fun s => lastP k b here s = s) here (i + 1) keys' line' rs' := fun line' hl keys' hk' hk2 => by
          by_cases z : lastP k b here i = i
          · rw [eqr z]
            refine ⟨fun e x hx => ?_, fun e s hs => ?_, fun e => ?_⟩
            · rcases hk2 x hx with y | y
              · rcases tl.non e x y with y | y | y
                · exact .inl (hl x y)
                · exact .inr (.inl y)
                · exact .inr (.inr y)
              · exact .inl y
            · rcases Nat.lt_succ_iff_lt_or_eq.mp hs with y | y
              · exact tl.own e s y
              · rw [y]
                exact z
            · obtain ⟨x, hx, g⟩ := tl.one e
              exact ⟨x, hk' x hx, g⟩
          · obtain ⟨r, er⟩ := ner z
            have ne : rs' ≠ [] := by
              rw [er]
              simp
            exact ⟨fun e => absurd e ne, fun e => absurd e ne, fun _ => ⟨here, hk' _ sn.hk, fun g => z (g i him)⟩⟩
        refine ⟨_, rfl, _, rfl, d, keys, nxP k b here i, rfl, D8, dvt8, _, rfl, ite2 (fun e => ?_) (fun e => ?_)⟩
        · have hn : nxP k b here i ∉ keys := by simpa using e
          refine ⟨_, rfl, d, keys, rfl, D8, sn.ne, hashes keys sn.nd sn.all, by omega, _, rfl, _, rfl, _, rfl, d, keys, here, rfl, D8, dvh8, sn.hk, fun ra r hra hrl => ?_⟩
          refine ⟨_, rfl, (by show 1 ≤ sizeLine; decide), fun T nT => ⟨ra, T, _, _, rfl, rfl, same_upd nT _ _ hra, upd_same, ?_, fun p8 H9 s9 e9 => ?_⟩⟩
          · rw [List.length_map]
            show _ + 1 ≤ 100000
            omega
          have s89 := (same_upd (o := .tup [nV i]) nT).trans s9
          refine ⟨nxP k b here i, p8, r ++ [i], s89, dvt8.same s89, hn, rfl, by rw [e9, List.map_append]; rfl, by rw [List.length_append]; exact hrl, fun p9 o9 np9 D9 => ?_⟩
          have s79 := s89.trans (same_upd (o := o9) np9)
          refine ⟨_, rfl, _, rfl, (by show 1 ≤ sizeLine; decide), fun l nl => ⟨_, _, _, _, rfl, rfl, same_upd nl _ _ (s79 _ _ (s78 _ _ hla)), upd_same, ?_, fun p10 np10 => ⟨_, _, rfl, ?_⟩⟩⟩
          · have e1 := hlx.length
            rw [List.length_map] at e1
            exact fits (by show lx.length + 1 ≤ 100000; omega)
          have sn' := sn.new him hn
          have sA := (same_upd (o := .lst [.ref c]) nl).trans (same_upd (o := .lst (lx ++ [.ref c])) np10)
          have s10 := s79.trans sA
          have D10 := D9.same sA
          have lk : (keys ++ [nxP k b here i]).length = keys.length + 1 := by
            rw [List.length_append]
            rfl
          refine ⟨_, rfl, _, _, rfl, D10, by omega, _, _, rfl, rfl, _, rfl, ite2 (fun e => ?_) (fun e => ?_)⟩
          · have big : 1000 < (keys ++ [nxP k b here i]).length := by
              have : ((keys ++ [nxP k b here i]).length : Int) > 1000 := by simpa using e
              omega
            refine ⟨_, rfl, fun dd ndd => qe _ dd (AL.sm.trans (s78.trans (s10.trans (same_upd ndd)))) ?_ upd_same ⟨_, sn'.nd, sn'.all, big⟩⟩
            cases eH : H dd with
            | none => rfl
            | some o =>
              have h1 := (AL.sm.trans (s78.trans s10)) _ _ eH
              rw [ndd] at h1
              cases h1
          · have small : (keys ++ [nxP k b here i]).length ≤ 1000 := by
              have : ¬ ((keys ++ [nxP k b here i]).length : Int) > 1000 := by simpa using e
              omega
            refine ⟨_, _, _, _, _, rs', _, _, _, _, rfl, ⟨AL.sm.trans (s78.trans s10), D10, ⟨_, upd_same, ?_⟩, us', s10 _ _ hua', hus'.same s10⟩, dvh8.same s10, sn', tl' _ (fun x hx => List.mem_append_left _ hx) _ (fun x hx => List.mem_append_left _ hx) (fun x hx => ?_), ?_, small, ?_⟩
            · rw [List.map_append]
              exact ((hlx.same s78).same s10).append (DVs.one (dvt8.same s10))
            · rcases List.mem_append.mp hx with y | y
              · exact .inl y
              · exact .inr (List.mem_append_right _ y)
            · rw [List.length_append, List.length_append]
              show 2003 + (line.length + 1) ≤ n + 2 * (keys.length + 1)
              omega
            · rw [List.length_append, List.length_append]
              show rs'.length + 6 * (line.length + 1) + 6 ≤ 6 * (keys.length + 1) + (i + 1)
              omega
        · have hn : nxP k b here i ∈ keys := by simpa using e
          exact ⟨_, _, _, _, _, rs', _, _, _, _, rfl, ⟨AL.sm.trans s78, D8, ⟨lx, s78 _ _ hla, hlx.same s78⟩, us', hua', hus'⟩, dvh8, sn.old hn, tl' _ (fun x hx => hx) _ (fun x hx => hx) (fun x hx => .inl hx), en, klen, by omega⟩
      · rintro σ H6 ⟨d, la, ua, keys, line, rs, x7, x8, x9, x10, rfl, AL, dvh, sn, tl, en, klen, rlen⟩
        have em : ((m : Int)).toNat = m := by omega
        rw [em] at sn tl rlen
        refine ⟨2002 + line.length - 2 * keys.length, by omega, d, la, ua, keys, line, rs, _, _, _, _, _, rfl, AL, sn.close, ⟨fun z x hx => ?_, tl.one⟩, by omega, by omega, klen, by omega⟩
        rcases tl.non z x hx with y | y | y
        · exact .inl y
        · rw [y]
          exact .inr (tl.own z)
        · exact .inr y
end
end K36
set_option Elab.async false
set_option linter.all false
set_option maxRecDepth 100000
set_option maxHeartbeats 4000000
namespace K36
open PySem PySem.Spec PyProof.Rows L2
/-! ### what the checks tell -/
theorem map_of {α : Type} {f : α → PyData} {p : α → Prop} : ∀ {ds : List PyData}, (∀ d ∈ ds, ∃ x, d = f x ∧ p x) → ∃ xs : List α, ds = xs.map f ∧ ∀ x ∈ xs, p x
  | [], _ => ⟨[], rfl, fun _ z => nomatch z⟩
  | d :: ds, h => by
    obtain ⟨x, e, px⟩ := h d List.mem_cons_self
    obtain ⟨xs, es, ps⟩ := map_of fun d' hd => h d' (List.mem_cons_of_mem _ hd)
    refine ⟨x :: xs, by rw [e, es]; rfl, fun y hy => ?_⟩
    rcases List.mem_cons.mp hy with z | z
    · rw [z]
      exact px
    · exact ps y z
theorem whole_iff {n : Nat} {d : PyData} : wholeD 0 ((n : Int) - 1) d = true ↔ ∃ x : Nat, d = nD x ∧ x < n := by
  constructor
  · intro h
    match d, h with
    | .int i, h =>
      have h' : (decide (0 ≤ i) && decide (i ≤ (n : Int) - 1)) = true := h
      rw [Bool.and_eq_true, decide_eq_true_eq, decide_eq_true_eq] at h'
      refine ⟨i.toNat, ?_, by omega⟩
      unfold nD
      congr 1
      omega
  · rintro ⟨x, rfl, h⟩
    show (decide (0 ≤ (x : Int)) && decide ((x : Int) ≤ (n : Int) - 1)) = true
    rw [Bool.and_eq_true, decide_eq_true_eq, decide_eq_true_eq]
    omega
theorem pair_iff {m n : Nat} {d : PyData} : pairD m n d = true ↔ ∃ p : Nat × Nat, d = dP p ∧ p.1 < m ∧ p.2 < n := by
  constructor
  · intro h
    match d, h with
    | .tuple [a, b], h =>
      have h' : (wholeD 0 ((m : Int) - 1) a && wholeD 0 ((n : Int) - 1) b) = true := h
      rw [Bool.and_eq_true, whole_iff, whole_iff] at h'
      obtain ⟨⟨x, e1, h1⟩, y, e2, h2⟩ := h'
      exact ⟨(x, y), by rw [e1, e2]; rfl, h1, h2⟩
  · rintro ⟨p, rfl, h1, h2⟩
    show (wholeD 0 ((m : Int) - 1) (nD p.1) && wholeD 0 ((n : Int) - 1) (nD p.2)) = true
    rw [Bool.and_eq_true, whole_iff, whole_iff]
    exact ⟨⟨_, rfl, h1⟩, _, rfl, h2⟩
theorem train_iff {n : Nat} {d : PyData} : trainD n d = true ↔ ∃ t : Tr, d = dT t ∧ OkT n t ∧ t.length ≤ 60 := by
  constructor
  · intro h
    match d, h with
    | .tuple ds, h =>
      have h' : (decide (ds.length ≤ 60) && ds.all (wholeD 0 ((n : Int) - 1))) = true := h
      rw [Bool.and_eq_true, decide_eq_true_eq, List.all_eq_true] at h'
      obtain ⟨t, e, ht⟩ := map_of (f := nD) (p := fun x => x < n) fun d hd => whole_iff.mp (h'.2 d hd)
      refine ⟨t, by rw [e]; rfl, ht, ?_⟩
      have := h'.1
      rw [e, List.length_map] at this
      exact this
  · rintro ⟨t, rfl, h1, h2⟩
    show (decide ((t.map nD).length ≤ 60) && (t.map nD).all (wholeD 0 ((n : Int) - 1))) = true
    rw [Bool.and_eq_true, decide_eq_true_eq, List.all_eq_true, List.length_map]
    refine ⟨h2, fun d hd => ?_⟩
    obtain ⟨x, hx, rfl⟩ := List.mem_map.mp hd
    exact whole_iff.mpr ⟨x, rfl, h1 x hx⟩
theorem tup1_iff {r : PyData} : tupD 1 6 r = true ↔ ∃ rs, r = .tuple rs ∧ 1 ≤ rs.length ∧ rs.length ≤ 6 := by
  constructor
  · intro h
    obtain ⟨rs, e, a, b⟩ := tup_of h
    exact ⟨rs, e, by omega, by omega⟩
  · rintro ⟨rs, rfl, a, b⟩
    rw [tupD_tup, Bool.and_eq_true, decide_eq_true_eq, decide_eq_true_eq]
    omega
theorem kind_iff {d : PyData} : kindD d = true ↔ ∃ (k : Kd) (m : Nat), d = dK k ∧ OkK k m := by
  constructor
  · intro h
    match d, h with
    | .tuple rows, h =>
      have h' : (decide (1 ≤ rows.length) && decide (rows.length ≤ 6) && rows.all (tupD 1 6) && rows.all (fun r => decide ((itemsD r).length = (itemsD (rows.headD .none)).length)) &&
        rows.all (fun r => (itemsD r).all (pairD (itemsD (rows.headD .none)).length rows.length))) = true := h
      simp only [Bool.and_eq_true, decide_eq_true_eq, List.all_eq_true] at h'
      obtain ⟨⟨⟨⟨a, b⟩, c⟩, e⟩, g⟩ := h'
      generalize em : (itemsD (rows.headD .none)).length = m at e g
      obtain ⟨k, ek, hk⟩ := map_of (ds := rows) (f := dR) (p := fun r => r.length = m ∧ 1 ≤ m ∧ m ≤ 6 ∧ ∀ p ∈ r, p.1 < m ∧ p.2 < rows.length) fun d hd => by
        obtain ⟨rs, er, r1, r6⟩ := tup1_iff.mp (c d hd)
        subst er
        have e1 : rs.length = m := e _ hd
        have g1 : ∀ x ∈ rs, pairD m rows.length x = true := g _ hd
        obtain ⟨ps, ep, hp⟩ := map_of (f := dP) (p := fun p => p.1 < m ∧ p.2 < rows.length) fun x hx => pair_iff.mp (g1 x hx)
        refine ⟨ps, by rw [ep]; rfl, ?_, by omega, by omega, hp⟩
        rw [ep, List.length_map] at e1
        exact e1
      have el : rows.length = k.length := by rw [ek, List.length_map]
      have ne : ∃ r, r ∈ k := by
        cases k with
        | nil =>
          rw [el] at a
          cases a
        | cons r _ => exact ⟨r, List.mem_cons_self⟩
      obtain ⟨r0, hr0⟩ := ne
      refine ⟨k, m, by rw [ek]; rfl, by omega, by omega, (hk r0 hr0).2.1, (hk r0 hr0).2.2.1, fun r hr => (hk r hr).1, fun r hr p hp => ?_⟩
      rw [← el]
      exact (hk r hr).2.2.2 p hp
  · rintro ⟨k, m, rfl, ok⟩
    have hd : itemsD ((k.map dR).headD .none) = ((k.headD []).map dP) := by
      cases k with
      | nil => exact absurd ok.s1 (by simp)
      | cons r k => rfl
    have hl : (k.headD []).length = m := by
      cases k with
      | nil => exact absurd ok.s1 (by simp)
      | cons r k => exact ok.rows r List.mem_cons_self
    show (decide (1 ≤ (k.map dR).length) && decide ((k.map dR).length ≤ 6) && (k.map dR).all (tupD 1 6) && (k.map dR).all (fun r => decide ((itemsD r).length = (itemsD ((k.map dR).headD .none)).length)) &&
        (k.map dR).all (fun r => (itemsD r).all (pairD (itemsD ((k.map dR).headD .none)).length (k.map dR).length))) = true
    rw [hd, List.length_map, List.length_map, hl]
    simp only [Bool.and_eq_true, decide_eq_true_eq, List.all_eq_true]
    have s1 := ok.s1
    have s6 := ok.s6
    have m1 := ok.m1
    have m6 := ok.m6
    refine ⟨⟨⟨⟨s1, s6⟩, fun d hd => ?_⟩, fun d hd => ?_⟩, fun d hd x hx => ?_⟩
    · obtain ⟨r, hr, rfl⟩ := List.mem_map.mp hd
      have := ok.rows r hr
      exact tup1_iff.mpr ⟨r.map dP, rfl, by rw [List.length_map]; omega, by rw [List.length_map]; omega⟩
    · obtain ⟨r, hr, rfl⟩ := List.mem_map.mp hd
      show (r.map dP).length = m
      rw [List.length_map]
      exact ok.rows r hr
    · obtain ⟨r, hr, rfl⟩ := List.mem_map.mp hd
      obtain ⟨p, hp, rfl⟩ := List.mem_map.mp (show x ∈ r.map dP from hx)
      obtain ⟨a, b⟩ := ok.ins r hr p hp
      exact pair_iff.mpr ⟨p, rfl, a, b⟩
/-- data is a pair of a kind of so many settings and of a train of it -/
def Val (m : Nat) (d : PyData) (k : Kd) (t : Tr) : Prop := d = dKT k t ∧ OkK k m ∧ OkT k.length t ∧ t.length ≤ 60
theorem dR_inj {r q : Row} (e : dR r = dR q) : r = q := by
  injection e with e
  induction r generalizing q with
  | nil =>
    cases q with
    | nil => rfl
    | cons _ _ => cases e
  | cons p r ih =>
    cases q with
    | nil => cases e
    | cons p' q =>
      rw [List.map_cons, List.map_cons] at e
      injection e with e1 e2
      rw [ih e2]
      unfold dP nD at e1
      injection e1 with e1
      injection e1 with e1 e3
      injection e3 with e3 _
      injection e1 with e1
      injection e3 with e3
      have : p = p' := Prod.ext (by omega) (by omega)
      rw [this]
theorem dK_inj {k j : Kd} (e : dK k = dK j) : k = j := by
  injection e with e
  induction k generalizing j with
  | nil =>
    cases j with
    | nil => rfl
    | cons _ _ => cases e
  | cons r k ih =>
    cases j with
    | nil => cases e
    | cons q j =>
      rw [List.map_cons, List.map_cons] at e
      injection e with e1 e2
      rw [ih e2, dR_inj e1]
theorem dT_inj {a b : Tr} (e : dT a = dT b) : a = b := nkT_inj (by rw [e])
theorem dKT_inj {k j : Kd} {s t : Tr} (e : dKT k s = dKT j t) : k = j ∧ s = t := by
  injection e with e
  injection e with e1 e2
  injection e2 with e2 _
  exact ⟨dK_inj e1, dT_inj e2⟩
end K36
set_option Elab.async false
set_option linter.all false
set_option maxRecDepth 100000
set_option maxHeartbeats 4000000
namespace K36
open PySem PySem.Spec PyProof.Rows L2
def fitsD (m : Nat) : PyData → Bool
  | .tuple [a, b] => kindD a && decide ((itemsD ((itemsD a).headD .none)).length = m) && trainD (itemsD a).length b
  | _ => false
theorem head_len {k : Kd} {m : Nat} (ok : OkK k m) : (itemsD ((itemsD (dK k)).headD .none)).length = m := by
  cases k with
  | nil => exact absurd ok.s1 (by simp)
  | cons r k =>
    show (r.map dP).length = m
    rw [List.length_map]
    exact ok.rows r List.mem_cons_self
theorem okK_m {k : Kd} {m n : Nat} (a : OkK k m) (b : OkK k n) : m = n := (head_len a).symm.trans (head_len b)
theorem fits_iff {m : Nat} {d : PyData} : fitsD m d = true ↔ ∃ k t, Val m d k t := by
  constructor
  · intro h
    match d, h with
    | .tuple [a, b], h =>
      have h' : (kindD a && decide ((itemsD ((itemsD a).headD .none)).length = m) && trainD (itemsD a).length b) = true := h
      simp only [Bool.and_eq_true, decide_eq_true_eq] at h'
      obtain ⟨⟨h1, h2⟩, h3⟩ := h'
      obtain ⟨k, m', rfl, ok⟩ := kind_iff.mp h1
      obtain ⟨t, rfl, ot, ol⟩ := train_iff.mp h3
      rw [head_len ok] at h2
      subst h2
      refine ⟨k, t, rfl, ok, ?_, ol⟩
      have : (itemsD (dK k)).length = k.length := List.length_map ..
      rw [← this]
      exact ot
  · rintro ⟨k, t, rfl, ok, ot, ol⟩
    show (kindD (dK k) && decide ((itemsD ((itemsD (dK k)).headD .none)).length = m) && trainD (itemsD (dK k)).length (dT t)) = true
    simp only [Bool.and_eq_true, decide_eq_true_eq]
    refine ⟨⟨kind_iff.mpr ⟨k, m, rfl, ok⟩, head_len ok⟩, train_iff.mpr ⟨t, rfl, ?_, ol⟩⟩
    have : (itemsD (dK k)).length = k.length := List.length_map ..
    rw [this]
    exact ot
theorem two_of {d : PyData} (h : tupD 2 2 d = true) : ∃ a b, d = .tuple [a, b] := by
  obtain ⟨ds, rfl, h1, h2⟩ := tup_of h
  match ds, h1, h2 with
  | [a, b], _, _ => exact ⟨a, b, rfl⟩
  | [], h1, _ => simp at h1
  | [_], h1, _ => simp at h1
  | _ :: _ :: _ :: r, _, h2 =>
    simp at h2
    omega
theorem fits_no {m : Nat} {d : PyData} (h : tupD 2 2 d = false) : fitsD m d = false := by
  rw [Bool.eq_false_iff]
  intro z
  obtain ⟨k, t, rfl, _⟩ := fits_iff.mp z
  exact absurd h (by simp [dKT, tupD])
section
variable {P : Program} {w : World} {K : PySem.W.Frag} {mg : Str → Option Value} {base : Heap}
theorem DV.kt {H : Hp} {a b : PyData} {v : V} (h : DV H (.tuple [a, b]) v) : ∃ p x y, v = .ref p ∧ H p = some (.tup [x, y]) ∧ DV H a x ∧ DV H b y := by
  obtain ⟨p, xs, rfl, hp, x, r1, rfl, h1, y, r2, rfl, h2, h3⟩ := h
  cases (show r2 = [] from h3)
  exact ⟨p, x, y, rfl, hp, h1, h2⟩
def spFitsPairU : Sp := fun vs H Q _ => ∃ (k : Kd) (m : Nat) (d : PyData) (kv v : V), vs = [kv, v] ∧ DV H (dK k) kv ∧ OkK k m ∧ DV H d v ∧ ∀ H', Same H H' → Q (.bl (fitsD m d)) H'
theorem k_fits_pair_undoings (D : Df K mg "fits_pair_undoings" "fits_pair" s_fits_pair_undoings) (C1 : Cl P w K mg base 1 "is_tuple_of" spIsTup) (C2 : Cl P w K mg base 3 "fits_kind" spFitsKind) (C3 : Cl P w K mg base 1 "settings_in" spSettK) (C4 : Cl P w K mg base 2 "fits_train" spFitsTrain) : Cl P w K mg base 4 "fits_pair_undoings" spFitsPairU := by
  refine D.cl c_fits_pair_undoings (fun _ _ _ _ _ _ us hl => match us, hl with | [_, _], _ => rfl) (fun vs H Q E h => ?_) (fun f cdv A outer s H vs Q E hr h => ?_)
  · obtain ⟨k, m, d, kv, v, rfl, _⟩ := h
    rfl
  · obtain ⟨k, m, d, kv, v, rfl, hk, ok, hd, q⟩ := h
    refine ⟨_, pss_cons (ps_if (PW.pt (pw_or (pt_not (pt_val (pe_cl C1 hr (by decide) (pa_cons (pv 1) (pa_cons pe_int (pa_cons pe_int pa_nil))))))
        (pw_or (pt_not (pt_val (pe_cl C2 hr (by decide) (pa_cons (pe_ix ix_tup (pv 1) pe_int (fun _ _ => rfl)) pa_nil))))
        (pw_or1 (pt_cmpR op_ne (pe_cl C3 hr (by decide) (pa_cons (pe_ix ix_tup (pv 1) pe_int (fun _ _ => rfl)) pa_nil)) (pe_cl C3 hr (by decide) (pa_cons (pv 0) pa_nil)) (nomark _)))))) (pss_one (ps_ret pe_bl)) pss_nil)
      (pss_one (ps_ret (pe_cl C4 hr (by decide) (pa_cons (pe_ix ix_tup (pv 1) pe_int (fun _ _ => rfl)) (pa_cons (pe_ix ix_tup (pv 1) pe_int (fun _ _ => rfl)) pa_nil))))), ?_⟩
    refine ⟨v, rfl, d, v, 2, 2, rfl, hd, _, rfl, ite2 (fun e1 => ?_) (fun e1 => ?_)⟩
    · rw [fits_no (by simpa using e1)] at q
      exact q H (Same.refl _)
    obtain ⟨a, b, rfl⟩ := two_of (by simpa using e1)
    obtain ⟨p, x, y, rfl, hp, ha, hb⟩ := hd.kt
    refine ⟨_, rfl, p, _, 0, x, rfl, rfl, SqT.of hp, atN (j := 0) rfl, a, x, rfl, ha, fun H1 s1 => ⟨_, rfl, ite2 (fun e2 => ?_) (fun e2 => ?_)⟩⟩
    · have z : fitsD m (.tuple [a, b]) = false := by
        have : kindD a = false := by simpa using e2
        show (kindD a && _ && _) = false
        rw [this]
        rfl
      rw [z] at q
      exact q H1 s1
    have ka : kindD a = true := by simpa using e2
    obtain ⟨j, n, rfl, oj⟩ := kind_iff.mp ka
    refine ⟨_, rfl, p, _, 0, x, rfl, rfl, SqT.of (s1 _ _ hp), atN (j := 0) rfl, j, n, x, rfl, ha.same s1, oj, _, rfl, k, m, kv, rfl, hk.same s1, ok, rfl, _, rfl, ite2 (fun e3 => ?_) (fun e3 => ?_)⟩
    · have ne : n ≠ m := fun z => by
        subst z
        simp at e3
      have z : fitsD m (.tuple [dK j, b]) = false := by
        show (kindD (dK j) && decide ((itemsD ((itemsD (dK j)).headD .none)).length = m) && _) = false
        rw [head_len oj, decide_eq_false ne, Bool.and_false, Bool.false_and]
      rw [z] at q
      exact q H1 s1
    have eq : n = m := Decidable.byContradiction fun z => e3 (by
      have : ¬ nV n = nV m := fun q => by
        injection q with q
        exact z (by omega)
      rw [decide_eq_false this]
      rfl)
    subst eq
    have kl : KLen H1 j.length x := kd_len (ha.same s1)
    refine ⟨_, rfl, p, _, 0, x, rfl, rfl, SqT.of (s1 _ _ hp), atN (j := 0) rfl, _, rfl, p, _, 1, y, rfl, rfl, SqT.of (s1 _ _ hp), atN (j := 1) rfl, b, x, y, j.length, rfl, kl, hb.same s1, fun H2 s2 => ?_⟩
    have z : fitsD n (.tuple [dK j, b]) = trainD j.length b := by
      show (kindD (dK j) && decide ((itemsD ((itemsD (dK j)).headD .none)).length = n) && trainD (itemsD (dK j)).length b) = _
      have : (itemsD (dK j)).length = j.length := List.length_map ..
      rw [head_len oj, decide_eq_true rfl, ka, this]
      rfl
    rw [← z]
    exact q H2 (s1.trans s2)
def spUndOf : Sp := fun vs H Q _ => ∃ (k : Kd) (m : Nat) (t : Tr) (kv tv : V), vs = [kv, tv] ∧ DV H (dK k) kv ∧ DV H (dT t) tv ∧ Sm k m ∧ OkT k.length t ∧ t.length ≤ 2 ∧
  ∀ H' v, Same H H' → ((v = .non ∧ ¬ Keeps k m t) ∨ (Keeps k m t ∧ ∃ ns : List Nat, ns.Pairwise (· < ·) ∧ (∀ x, x ∈ ns ↔ Within k m t x) ∧ DV H' (dKT (undK k m ns) (undT ns t)) v)) → Q v H'
theorem k_undoing_of (D : Df K mg "undoing_of" "undoing_of" s_undoing_of) (C1 : Cl P w K mg base 4 "need_kind" spNeedKind) (C2 : Cl P w K mg base 3 "need_train" spNeedTrain) (C3 : Cl P w K mg base 2 "roads_from" (spRoads P w)) (C4 : Cl P w K mg base 1 "need_few" spNeedFew)
    (C5 : Cl P w K mg base 4 "undoing_by" spUndBy) (C6 : Cl P w K mg base 4 "keeps_all" spKeeps) : Cl P w K mg base 5 "undoing_of" spUndOf := by
  refine D.cl c_undoing_of (fun _ _ _ _ _ _ us hl => match us, hl with | [_, _], _ => rfl) (fun vs H Q E h => ?_) (fun f cdv A outer s H vs Q E hr h => ?_)
  · obtain ⟨k, m, t, kv, tv, rfl, _⟩ := h
    rfl
  · obtain ⟨k, m, t, kv, tv, rfl, hk, ht, sm, okt, hlen, q⟩ := h
    refine ⟨_, pss_cons (ps_expr (pe_cl C1 hr (by decide) (pa_cons (pv 0) pa_nil))) (pss_cons (ps_expr (pe_cl C2 hr (by decide) (pa_cons (pv 0) (pa_cons (pv 1) pa_nil))))
      (pss_cons (ps_expr (pe_cl C4 hr (by decide) (pa_cons (pe_cl C3 hr (by decide) (pa_cons (pv 0) (pa_cons (pv 1) pa_nil))) pa_nil)))
      (pss_one (ps_ret (pe_ifExp (pt_val (pe_cl C6 hr (by decide) (pa_cons (pv 0) (pa_cons (pv 1) pa_nil)))) (pe_cl C5 hr (by decide) (pa_cons (pv 0) (pa_cons (pv 1) pa_nil))) pe_non))))), ?_⟩
    have few := few_small (w := w) sm okt hlen
    refine ⟨_, rfl, dK k, kv, rfl, hk, kind_iff.mpr ⟨k, m, rfl, sm.ok⟩, fun H1 s1 => ?_⟩
    refine ⟨_, rfl, _, rfl, dT t, kv, tv, k.length, rfl, kd_len (hk.same s1), ht.same s1, train_iff.mpr ⟨t, rfl, okt, by omega⟩, fun H2 s2 => ?_⟩
    have s12 := s1.trans s2
    refine ⟨_, rfl, _, rfl, k, m, t, kv, tv, rfl, hk.same s12, ht.same s12, sm.ok, okt, by omega, few.mono (by decide), fun H3 d keys s3 _ _ => ⟨d, rfl, ?_⟩⟩
    have s13 := s12.trans s3
    refine ⟨_, rfl, _, rfl, k, m, t, kv, tv, rfl, hk.same s13, ht.same s13, sm, okt, hlen, fun H4 b s4 hb => ⟨_, rfl, ite2 (fun e => ?_) (fun e => ?_)⟩⟩
    · have s14 := s13.trans s4
      exact ⟨_, rfl, _, rfl, k, m, t, kv, tv, rfl, hk.same s14, ht.same s14, sm, okt, hlen, hb.mp e, fun H5 v ns s5 up mem dv => q H5 v (s14.trans s5) (.inr ⟨hb.mp e, ns, up, mem, dv⟩)⟩
    · exact q H4 .non (s13.trans s4) (.inl ⟨rfl, fun z => e (hb.mpr z)⟩)
end
end K36
set_option Elab.async false
set_option linter.all false
set_option maxRecDepth 100000
set_option maxHeartbeats 4000000
namespace K36
open PySem PySem.Spec PyProof.Rows L2
section
variable {X : Cx} {k j : Nat} {x : Str} {sp : Sp} {p pos : Pos} {e : Expr} {es : List Expr} {t : TA} {W : WX}
theorem pe_clX (c : ClX X.prog X.w X.K X.mg X.base k x sp) (hr : Room j X.A) (hk : k ≤ j) (tk : Takes X W) (ha : PA X (e :: es) t) (hg : Gl X x := by rfl) (hdb : (x == ("__debug__" : Str)) = false := by decide)
    (he : starEach (e :: es) X.env = (false, eval e X.env) :: starEach es X.env := by rfl) (hpl : (backTo pos (starEach es X.env)).any (·.1) = false := by rfl) : PE X (.Call (.Name x p) (e :: es) [] pos) (tCallS sp (WE W) t) := by
  obtain ⟨f, fd, ps, h1, h2, h3, h4⟩ := c.ex
  exact pe_callS h4 (hr.mono hk) hg h1 h2 h3 (fun σ => passAt tk σ) ha hdb he hpl
end
/-- a value undoes a train; it asks for too many pairs -/
def IsUnd (k : Kd) (m : Nat) (t : Tr) (d : PyData) : Prop := ∃ j u, Val m d j u ∧ Alike k j m (t, u)
def ManyU (k : Kd) (m : Nat) (t : Tr) (d : PyData) : Prop := ∃ j u, Val m d j u ∧ Many k j m (t, u)
section
variable {P : Program} {w : World} {K : PySem.W.Frag} {mg : Str → Option Value} {base : Heap}
def spIsUnd (w : World) (C : Addr) : Sp := fun vs H Q E => ∃ (k : Kd) (m : Nat) (t : Tr) (d : PyData) (kv tv v : V), vs = [kv, tv, v] ∧ DV H (dK k) kv ∧ DV H (dT t) tv ∧ DV H d v ∧ Sm k m ∧ OkT k.length t ∧ t.length ≤ 2 ∧
  (∀ j u, Val m d j u → HashInj koP w (Reach (nxP k j) m (t, u))) ∧ (∀ H' b, Same H H' → ¬ ManyU k m t d → (b = true ↔ IsUnd k m t d) → Q (.bl b) H') ∧
  (∀ H' e, Same H H' → H e = none → H' e = some (.xd [(("limit" : Str), .int 1000)]) → ManyU k m t d → E (.ref C) (some e) H')
theorem Val.uniq {m : Nat} {d : PyData} {j j' : Kd} {u u' : Tr} (a : Val m d j u) (b : Val m d j' u') : j = j' ∧ u = u' := by
  have e := a.1.symm.trans b.1
  exact dKT_inj e
theorem k_is_undoing {C : Addr} (D : Df K mg "is_undoing" "is_undoing" s_is_undoing) (C1 : Cl P w K mg base 4 "need_kind" spNeedKind) (C2 : Cl P w K mg base 3 "need_train" spNeedTrain) (C3 : Cl P w K mg base 2 "roads_from" (spRoads P w)) (C4 : Cl P w K mg base 1 "need_few" spNeedFew)
    (C5 : Cl P w K mg base 4 "fits_pair_undoings" spFitsPairU) (C6 : ClX P w K mg base 3 "unlike_road" (spUnlike w C)) : ClX P w K mg base 5 "is_undoing" (spIsUnd w C) := by
  refine D.clX c_is_undoing (fun _ _ _ _ _ _ us hl => match us, hl with | [_, _, _], _ => rfl) (fun vs H Q E h => ?_) (fun f cdv A outer s H vs Q E hr h => ?_)
  · obtain ⟨k, m, t, d, kv, tv, v, rfl, _⟩ := h
    rfl
  · obtain ⟨k, m, t, d, kv, tv, v, rfl, hk, ht, hd, sm, okt, hlen, hin, q, qe⟩ := h
    refine ⟨_, pss_cons (ps_expr (pe_cl C1 hr (by decide) (pa_cons (pv 0) pa_nil))) (pss_cons (ps_expr (pe_cl C2 hr (by decide) (pa_cons (pv 0) (pa_cons (pv 1) pa_nil))))
      (pss_cons (ps_expr (pe_cl C4 hr (by decide) (pa_cons (pe_cl C3 hr (by decide) (pa_cons (pv 0) (pa_cons (pv 1) pa_nil))) pa_nil)))
      (pss_one (ps_ret (pe_and (pe_cl C5 hr (by decide) (pa_cons (pv 0) (pa_cons (pv 2) pa_nil))) (pe_one (pe_cmpR op_isN (pe_clX C6 hr (by decide) (takes_of rfl rfl rfl rfl) (pa_cons (pv 0) (pa_cons (pe_ix ix_tup (pv 2) pe_int (fun _ _ => rfl))
        (pa_cons (pe_tup (pa_cons (pv 1) (pa_cons (pe_ix ix_tup (pv 2) pe_int (fun _ _ => rfl)) pa_nil))) pa_nil)))) pe_non (nomark _)))))))), ?_⟩
    have few := few_small (w := w) sm okt hlen
    refine ⟨_, rfl, dK k, kv, rfl, hk, kind_iff.mpr ⟨k, m, rfl, sm.ok⟩, fun H1 s1 => ?_⟩
    refine ⟨_, rfl, _, rfl, dT t, kv, tv, k.length, rfl, kd_len (hk.same s1), ht.same s1, train_iff.mpr ⟨t, rfl, okt, by omega⟩, fun H2 s2 => ?_⟩
    have s12 := s1.trans s2
    refine ⟨_, rfl, _, rfl, k, m, t, kv, tv, rfl, hk.same s12, ht.same s12, sm.ok, okt, by omega, few.mono (by decide), fun H3 d' keys s3 _ _ => ⟨d', rfl, ?_⟩⟩
    have s13 := s12.trans s3
    refine ⟨_, rfl, _, rfl, k, m, d, kv, v, rfl, hk.same s13, sm.ok, hd.same s13, fun H4 s4 => ⟨_, rfl, ite2 (fun e => ?_) (fun e => ?_)⟩⟩
    · have s14 := s13.trans s4
      obtain ⟨j, u, vl⟩ := fits_iff.mp e
      have vl' := vl
      obtain ⟨rfl, oj, ou, lu⟩ := vl'
      obtain ⟨pa, x, y, rfl, hp, hx, hy⟩ := (hd.same s14).kt
      obtain ⟨ta, rfl, hta⟩ := DV.tr.mp (ht.same s14)
      obtain ⟨ya, rfl, hya⟩ := DV.tr.mp hy
      refine ⟨_, rfl, _, rfl, pa, _, 0, x, rfl, rfl, SqT.of hp, atN (j := 0) rfl, _, rfl, _, rfl, pa, _, 1, .ref ya, rfl, rfl, SqT.of hp, atN (j := 1) rfl, (by show 2 ≤ sizeLine; decide), fun T nT => ?_⟩
      have s5 := same_upd (o := .tup [.ref ta, .ref ya]) nT
      have s15 := s14.trans s5
      refine ⟨k, j, m, (t, u), kv, x, .ref T, rfl, hk.same s15, hx.same s5, DV.mk_tt upd_same (s5 _ _ hta) (s5 _ _ hya), sm.ok, oj, ⟨okt, ou⟩, by show t.length ≤ 1000; omega, by show u.length ≤ 1000; omega, hin j u vl, fun H6 v6 s6 nm hv => ?_, fun H6 e6 s6 ne hx mn => ?_⟩
      · have nmU : ¬ ManyU k m t (dKT j u) := fun ⟨j', u', vl2, mm⟩ => by
          obtain ⟨rfl, rfl⟩ := vl.uniq vl2
          exact nm mm
        have uq : IsUnd k m t (dKT j u) ↔ Alike k j m (t, u) := by
          constructor
          · rintro ⟨j', u', vl2, al⟩
            obtain ⟨rfl, rfl⟩ := vl.uniq vl2
            exact al
          · intro al
            exact ⟨j, u, vl, al⟩
        rcases hv with ⟨rfl, al⟩ | ⟨⟨a, rfl⟩, na⟩
        · refine ⟨rfl, ?_⟩
          exact q H6 true (s15.trans s6) nmU ⟨fun _ => uq.mpr al, fun _ => rfl⟩
        · refine ⟨rfl, ?_⟩
          exact q H6 false (s15.trans s6) nmU ⟨fun z => Bool.noConfusion z, fun z => absurd (uq.mp z) na⟩
      · refine qe H6 e6 (s15.trans s6) ?_ hx ⟨j, u, vl, mn⟩
        cases eH : H e6 with
        | none => rfl
        | some o =>
          have h1 := s15 _ _ eH
          rw [ne] at h1
          cases h1
    · have nf : ¬ ∃ j u, Val m d j u := fun z => e (fits_iff.mpr z)
      exact q H4 false (s13.trans s4) (fun ⟨j, u, vl, _⟩ => nf ⟨j, u, vl⟩) ⟨fun z => Bool.noConfusion z, fun ⟨j, u, vl, _⟩ => absurd ⟨j, u, vl⟩ nf⟩
end
end K36
set_option Elab.async false
set_option linter.all false
set_option maxRecDepth 100000
set_option maxHeartbeats 4000000
namespace K36
open PySem PySem.Spec PyProof.Rows L2
section
variable {P : Program} {w : World} {K : PySem.W.Frag} {mg : Str → Option Value} {base : Heap}
def spLWalked : Sp := fun vs H Q _ => ∃ (k : Kd) (m x s : Nat) (kv : V) (ra : Addr), vs = [kv, nV x, .ref ra] ∧ DV H (dK k) kv ∧ OkK k m ∧ x < k.length ∧ s < m ∧ H ra = some (.tup [nV s]) ∧
  ∀ H' a b, Same H H' → H' a = some (.tup [.ref b, nV (cell k x s).2]) → H' b = some (.tup [nV (cell k x s).1]) → Q (.ref a) H'
theorem k_law_walked (D : Df K mg "_law_walked" "_law_walked" s_law_walked) (B : Bl mg) : Cl P w K mg base 1 "_law_walked" spLWalked := by
  refine D.cl c_law_walked (fun _ _ _ _ _ _ us hl => match us, hl with | [_, _, _], _ => rfl) (fun vs H Q E h => ?_) (fun f cdv A outer s H vs Q E hr h => ?_)
  · obtain ⟨k, m, x, s, kv, ra, rfl, _⟩ := h
    rfl
  · obtain ⟨k, m, x, s, kv, ra, rfl, hk, ok, hx, hs, hra, q⟩ := h
    have nd := c_law_walked.nd
    refine ⟨_, pss_cons (ps_set (i := 3) nd rfl (.inl rfl) (pe_lst pa_nil))
      (pss_cons (ps_for PassesOwn.never rfl (pi_tup (pv 2)) (pg_name (i := 4) nd rfl (.inl rfl))
        (pss_cons (ps_asg (pe_ix ix_tup (pe_ix ix_tup (pv 0) (pv 1) (fun _ _ => rfl)) (pv 4) (fun _ _ => rfl)) (pg_tup rfl (pgs_cons (pg_name (i := 5) nd rfl (.inl rfl)) (pgs_cons (pg_name (i := 1) nd rfl (.inl rfl)) pgs_nil))))
        (pss_one (ps_expr (pe_bm PySem.F.plainAttrs_list PySem.F.slot_list_append PySem.F.type_list_append mt_append (pv 3) (pa_cons (pv 5) pa_nil))))))
      (pss_one (ps_ret (pe_tup (pa_cons (pe_callTy call_tuple_of (by rfl) B.tuple (by decide +kernel) (pa_cons (pv 3) pa_nil)) (pa_cons (pv 1) pa_nil)))))), ?_⟩
    obtain ⟨ka, kx, rfl, hka, hkx⟩ := hk.kd
    refine ⟨Nat.zero_le _, fun fa nfa => ?_⟩
    have sf := same_upd (o := .lst []) nfa
    refine ⟨_, rfl, ra, rfl, ⟨_, SqT.of (sf _ _ hra)⟩, for_tup (K := K) (a := ra) (xs := [nV s]) (fun i σ H3 => ∃ (x1 : V) (x4 x5 : Option V), σ = [some (.ref ka), some x1, some (.ref ra), some (.ref fa), x4, x5] ∧ Same H H3 ∧ (i = 0 → x1 = nV x ∧ H3 fa = some (.lst [])) ∧ (i = 1 → x1 = nV (cell k x s).2 ∧ H3 fa = some (.lst [nV (cell k x s).1])))
      ⟨nV x, none, none, rfl, sf, fun _ => ⟨rfl, upd_same⟩, fun z => by cases z⟩ (fun i σ H3 _ ⟨x1, x4, x5, _, s3, _⟩ => SqT.of (s3 _ _ hra)) ?_ ?_⟩
    · rintro i y σ H3 hi ⟨x1, x4, x5, rfl, s3, h0, h1⟩
      have ei : i = 0 := by
        have := (List.getElem?_eq_some_iff.mp hi).1
        simp at this
        exact this
      subst ei
      cases Option.some.inj hi
      obtain ⟨rfl, hfa⟩ := h0 rfl
      obtain ⟨r, er, ec, _, _⟩ := ok.cell hx hs
      obtain ⟨ra2, rx, e1, hra2, hrx⟩ := hkx.getR er
      obtain ⟨pa, e2, hpa⟩ := hrx.getP ec
      refine ⟨_, rfl, _, rfl, ka, kx, _, .ref ra2, rfl, rfl, SqT.of (s3 _ _ hka), atN e1, _, rfl, ra2, rx, _, .ref pa, rfl, rfl, SqT.of (s3 _ _ hra2), atN e2, ?_⟩
      refine ⟨pa, _, rfl, SqT.of (s3 _ _ hpa), rfl, _, _, rfl, _, _, rfl, rfl, ?_⟩
      refine ⟨_, rfl, .inl ⟨rfl, _, SqL.of hfa⟩, _, rfl, fa, _, _, rfl, rfl, hfa, (by show 0 < sizeLine; decide), ?_⟩
      exact ⟨_, _, _, rfl, same_upd2 s3 nfa, fun z => (by cases z), fun _ => ⟨rfl, upd_same⟩⟩
    · rintro σ H3 ⟨x1, x4, x5, rfl, s3, h0, h1⟩
      obtain ⟨rfl, hfa⟩ := h1 rfl
      refine ⟨_, rfl, fa, _, rfl, .inl ⟨SqL.of hfa, fun l nl => ⟨_, rfl, (by show 2 ≤ sizeLine; decide), fun T nT => ?_⟩⟩⟩
      have e1 := same_upd (o := .tup [nV (cell k x s).1]) nl
      have e2 := same_upd (o := .tup [.ref l, nV (cell k x s).2]) nT
      exact q _ T l (s3.trans (e1.trans e2)) upd_same (e2 _ _ upd_same)
def spLPassed : Sp := fun vs H Q _ => ∃ (k : Kd) (m : Nat) (t : Tr) (s : Nat) (kv tv : V) (ra : Addr), vs = [kv, tv, .ref ra] ∧ DV H (dK k) kv ∧ DV H (dT t) tv ∧ OkK k m ∧ OkT k.length t ∧ s < m ∧ t.length ≤ 1000 ∧ H ra = some (.tup [nV s]) ∧
  ∀ H' a b c, Same H H' → H' a = some (.tup [.ref b, .ref c]) → H' b = some (.tup [nV (latch k t s).1]) → H' c = some (.tup ((latch k t s).2.map nV)) → Q (.ref a) H'
theorem k_law_passed (D : Df K mg "_law_passed" "_law_passed" s_law_passed) (B : Bl mg) (C1 : Cl P w K mg base 1 "_law_walked" spLWalked) : Cl P w K mg base 2 "_law_passed" spLPassed := by
  refine D.cl c_law_passed (fun _ _ _ _ _ _ us hl => match us, hl with | [_, _, _], _ => rfl) (fun vs H Q E h => ?_) (fun f cdv A outer s H vs Q E hr h => ?_)
  · obtain ⟨k, m, t, s, kv, tv, ra, rfl, _⟩ := h
    rfl
  · obtain ⟨k, m, t, s0, kv, tv, ra, rfl, hk, ht, ok, okt, hs, hlen, hra, q⟩ := h
    have nd := c_law_passed.nd
    refine ⟨_, pss_cons (ps_set (i := 3) nd rfl (.inl rfl) (pe_lst pa_nil))
      (pss_cons (ps_for PassesOwn.never rfl (pi_tup (pv 1)) (pg_name (i := 4) nd rfl (.inl rfl))
        (pss_cons (ps_asg (pe_cl C1 hr (by decide) (pa_cons (pv 0) (pa_cons (pv 4) (pa_cons (pv 2) pa_nil)))) (pg_tup rfl (pgs_cons (pg_name (i := 2) nd rfl (.inl rfl)) (pgs_cons (pg_name (i := 5) nd rfl (.inl rfl)) pgs_nil))))
        (pss_one (ps_expr (pe_bm PySem.F.plainAttrs_list PySem.F.slot_list_append PySem.F.type_list_append mt_append (pv 3) (pa_cons (pv 5) pa_nil))))))
      (pss_one (ps_ret (pe_tup (pa_cons (pv 2) (pa_cons (pe_callTy call_tuple_of (by rfl) B.tuple (by decide +kernel) (pa_cons (pv 3) pa_nil)) pa_nil)))))), ?_⟩
    obtain ⟨a, rfl, ha⟩ := DV.tr.mp ht
    refine ⟨Nat.zero_le _, fun fa nfa => ?_⟩
    have sf := same_upd (o := .lst []) nfa
    have lent : (t.map nV).length = t.length := List.length_map ..
    refine ⟨_, rfl, a, rfl, ⟨_, SqT.of (sf _ _ ha)⟩, for_tup (K := K) (a := a) (xs := t.map nV) (fun i σ H3 => ∃ (rb : Addr) (x4 x5 : Option V), σ = [some kv, some (.ref a), some (.ref rb), some (.ref fa), x4, x5] ∧ Same H H3 ∧ H3 rb = some (.tup [nV (latch k (t.take i) s0).1]) ∧ H3 fa = some (.lst ((latch k (t.take i) s0).2.map nV)))
      ⟨ra, none, none, rfl, sf, sf _ _ hra, upd_same⟩ (fun i σ H3 _ ⟨rb, x4, x5, _, s3, _⟩ => SqT.of (s3 _ _ ha)) ?_ ?_⟩
    · rintro i y σ H3 hi ⟨rb, x4, x5, rfl, s3, hrb, hfa⟩
      obtain ⟨z, hz, rfl⟩ : ∃ z, t[i]? = some z ∧ y = nV z := by
        rw [List.getElem?_map] at hi
        cases e : t[i]? with
        | none =>
          rw [e] at hi
          cases hi
        | some z =>
          rw [e] at hi
          exact ⟨z, rfl, (Option.some.inj hi).symm⟩
      have tk : t.take (i + 1) = t.take i ++ [z] := by
        rw [List.take_add_one, hz]
        rfl
      have okt' : OkT k.length (t.take i) := fun x hx => okt x (List.mem_of_mem_take hx)
      obtain ⟨l1, l2, l3⟩ := latch_ok ok okt' hs
      have ls := latch_snoc k (t.take i) z s0
      rw [← tk] at ls
      refine ⟨_, rfl, _, rfl, _, rfl, k, m, z, _, kv, rb, rfl, hk.same s3, ok, okt z (List.mem_of_getElem? hz), l1, hrb, fun H4 c d s4 hc hd => ?_⟩
      refine ⟨c, _, rfl, SqT.of hc, rfl, _, _, rfl, _, _, rfl, rfl, ?_⟩
      have s34 := s3.trans s4
      have hfa4 := s4 _ _ hfa
      refine ⟨_, rfl, .inl ⟨rfl, _, SqL.of hfa4⟩, _, rfl, fa, _, _, rfl, rfl, hfa4, ?_, ?_⟩
      · rw [List.length_map, l3, List.length_take]
        exact fitsLt (by omega)
      · have ne : d ≠ fa := ne_of hd (by exact hfa4) (by intro z; cases z)
        refine ⟨d, _, _, rfl, same_upd2 s34 nfa, ?_, ?_⟩
        · rw [upd_ne ne, ls]
          exact hd
        · rw [upd_same, ls, List.map_append]
          rfl
    · rintro σ H3 ⟨rb, x4, x5, rfl, s3, hrb, hfa⟩
      rw [lent, List.take_length] at hfa hrb
      refine ⟨_, rfl, _, rfl, fa, _, rfl, .inl ⟨SqL.of hfa, fun l nl => ⟨(by show 2 ≤ sizeLine; decide), fun T nT => ?_⟩⟩⟩
      have e1 := same_upd (o := .tup ((latch k t s0).2.map nV)) nl
      have e2 := same_upd (o := .tup [.ref rb, .ref l]) nT
      exact q _ T rb l (s3.trans (e1.trans e2)) upd_same (e2 _ _ (e1 _ _ hrb)) (e2 _ _ upd_same)
theorem k_law_latch (D : Df K mg "_law_latch" "_law_latch" s_law_latch) (C1 : Cl P w K mg base 2 "_law_passed" spLPassed) : Cl P w K mg base 3 "_law_latch" spLatch := by
  refine D.cl c_law_latch (fun _ _ _ _ _ _ us hl => match us, hl with | [_, _, _], _ => rfl) (fun vs H Q E h => ?_) (fun f cdv A outer s H vs Q E hr h => ?_)
  · obtain ⟨k, m, t, s, kv, tv, rfl, _⟩ := h
    rfl
  · obtain ⟨k, m, t, s0, kv, tv, rfl, hk, ht, ok, okt, hs, hlen, q⟩ := h
    have nd := c_law_latch.nd
    refine ⟨_, pss_cons (ps_asg (pe_cl C1 hr (by decide) (pa_cons (pv 0) (pa_cons (pv 1) (pa_cons (pe_tup (pa_cons (pv 2) pa_nil)) pa_nil)))) (pg_tup rfl (pgs_cons (pg_name (i := 3) nd rfl (.inl rfl)) (pgs_cons (pg_name (i := 4) nd rfl (.inl rfl)) pgs_nil))))
      (pss_one (ps_ret (pe_tup (pa_cons (pe_ix ix_tup (pv 3) pe_int (fun _ _ => rfl)) (pa_cons (pv 4) pa_nil))))), ?_⟩
    refine ⟨_, rfl, _, rfl, _, rfl, (by show 1 ≤ sizeLine; decide), fun T nT => ?_⟩
    have sT := same_upd (o := .tup [nV s0]) nT
    refine ⟨k, m, t, s0, kv, tv, T, rfl, hk.same sT, ht.same sT, ok, okt, hs, hlen, upd_same, fun H1 a b c s1 ha hb hc => ?_⟩
    refine ⟨a, _, rfl, SqT.of ha, rfl, _, _, rfl, _, _, rfl, rfl, ?_⟩
    refine ⟨_, rfl, b, _, 0, _, rfl, rfl, SqT.of hb, atN (j := 0) rfl, _, rfl, (by show 2 ≤ sizeLine; decide), fun T2 nT2 => ?_⟩
    have e2 := same_upd (o := .tup [nV (latch k t s0).1, .ref c]) nT2
    exact q _ _ (sT.trans (s1.trans e2)) ⟨T2, c, rfl, upd_same, e2 _ _ hc⟩
end
end K36
set_option Elab.async false
set_option linter.all false
set_option maxRecDepth 100000
set_option maxHeartbeats 4000000
namespace K36
open PySem PySem.Spec PyProof.Rows L2
def wholesD (lo hi : Int) : PyData → Bool
  | .tuple ds => ds.all (wholeD lo hi)
  | _ => false
theorem all_take_succ {α : Type} {l : List α} {i : Nat} {x : α} (h : l[i]? = some x) (g : α → Bool) : (l.take (i + 1)).all g = ((l.take i).all g && g x) := by
  rw [List.take_add_one, h, List.all_append]
  simp
section
variable {P : Program} {w : World} {K : PySem.W.Frag} {mg : Str → Option Value} {base : Heap}
def spLWhole : Sp := fun vs H Q _ => ∃ (d : PyData) (v : V) (lo hi : Int), vs = [v, .int lo, .int hi] ∧ DV H d v ∧ (∀ ds, d = .tuple ds → ds.length ≤ 1000) ∧ ∀ H', Same H H' → Q (.bl (wholesD lo hi d)) H'
theorem k_law_are_whole (D : Df K mg "_law_are_whole" "_law_are_whole" s_law_are_whole) (B : Bl mg) : Cl P w K mg base 1 "_law_are_whole" spLWhole := by
  refine D.cl c_law_are_whole (fun _ _ _ _ _ _ us hl => match us, hl with | [_, _, _], _ => rfl) (fun vs H Q E h => ?_) (fun f cdv A outer s H vs Q E hr h => ?_)
  · obtain ⟨d, v, lo, hi, rfl, _⟩ := h
    rfl
  · obtain ⟨d, v, lo, hi, rfl, hd, hz, q⟩ := h
    have nd := c_law_are_whole.nd
    refine ⟨_, pss_cons (ps_if (pt_not (pt_val (pe_callB call_isi (by rfl) B.isi (by decide +kernel) (pa_cons (pv 0) (pa_cons (pe_bltn (by rfl) B.tuple (by decide +kernel) (v := .ty "tuple") rfl) pa_nil))))) (pss_one (ps_ret pe_bl)) pss_nil)
      (pss_one (ps_ret (pe_cmpR (op_eqNil hr) (pe_lc (own := [("_law_one", 3)]) (g := gName 3) rfl nd (pi_tup (pv 0)) (blkOk_by (N := n_law_are_whole) (sc := defScope s_law_are_whole) (by decide +kernel))
          (fun _ _ _ _ _ => pg_name (i := 3) nd rfl (Or.inl rfl))
          (fun _ _ _ _ _ => pts_one (PW.pt (pw_or (pt_val (pe_callB (call_isK (K := K) rfl) (by rfl) B.isi (by decide +kernel) (pa_cons (pv 3) (pa_cons (pe_bltn (by rfl) B.bool (by decide +kernel) (v := .ty "bool") rfl) pa_nil))))
            (pw_or (pt_not (pt_val (pe_callB (call_isK (K := K) rfl) (by rfl) B.isi (by decide +kernel) (pa_cons (pv 3) (pa_cons (pe_bltn (by rfl) B.int (by decide +kernel) (v := .ty "int") rfl) pa_nil)))))
            (pw_or1 (pt_not (pt_chain op_le op_le (pv 1) (pv 3) (pv 2))))))))
          (fun _ _ _ _ _ => pe_int)) (pe_lst pa_nil) (nomark _)))), ?_⟩
    refine ⟨v, rfl, v, .ty "tuple", _, _, _, rfl, .ty _, ty_of hd, kit_ty (kit_tup d), _, rfl, ite2 (fun e1 => ?_) (fun e1 => ?_)⟩
    · have : wholesD lo hi d = false := by
        cases d <;> first | rfl | simp [isTupD] at e1
      rw [this] at q
      exact q H (Same.refl _)
    obtain ⟨ds, rfl⟩ : ∃ ds, d = .tuple ds := by
      cases d <;> first | exact ⟨_, rfl⟩ | (simp [isTupD] at e1)
    obtain ⟨a, xs, rfl, ha, hx⟩ := hd
    have el := hx.length
    have lz := hz ds rfl
    refine ⟨_, rfl, a, rfl, ⟨_, SqT.of ha⟩, fun D1 nD => lc_gen xs.length (fun i x => xs[i]? = some x) (fun i H3 => Same H H3 ∧ ∃ ys : List V, H3 D1 = some (.lst ys) ∧ ys.length ≤ i ∧ (∀ y ∈ ys, y = .int 1) ∧ (ys = [] ↔ (ds.take i).all (wholeD lo hi) = true))
      ⟨same_upd nD, [], upd_same, Nat.le_refl _, fun _ z => (nomatch z), by simp⟩ (fun i H3 lt p => ⟨xs, xs[i], SqT.of (p.1 _ _ ha), List.getElem?_eq_getElem lt⟩) (fun H3 p => ⟨xs, SqT.of (p.1 _ _ ha), Nat.le_refl _⟩) (fun i H3 x H' lt p y => ⟨y.1, y.2 xs (SqT.of (p.1 _ _ ha))⟩) ?_ ?_⟩
    · rintro i x H3 lt hxi ⟨s3, ys, eD, yl, yi, yn⟩
      obtain ⟨d, ed, dv⟩ := hx.getV hxi
      have dv3 := dv.same s3
      have step := all_take_succ ed (wholeD lo hi)
      refine ⟨rfl, ?_⟩
      have keep : wholeD lo hi d = false → ∃ acc, H3 D1 = some (.lst acc) ∧ acc.length < sizeLine ∧ (Same H (upd H3 D1 (.lst (acc ++ [.int 1]))) ∧ ∃ ys : List V, (upd H3 D1 (.lst (acc ++ [.int 1]))) D1 = some (.lst ys) ∧ ys.length ≤ i + 1 ∧ (∀ y ∈ ys, y = .int 1) ∧ (ys = [] ↔ (ds.take (i + 1)).all (wholeD lo hi) = true)) := fun no => by
        refine ⟨ys, eD, fitsLt (by omega), same_upd2 s3 nD, _, upd_same, by rw [List.length_append]; exact Nat.succ_le_succ yl, fun y hy => ?_, ?_⟩
        · rcases List.mem_append.mp hy with z | z
          · exact yi y z
          · exact List.mem_singleton.mp z
        · rw [step, no, Bool.and_false]
          simp
      refine ⟨x, rfl, x, .ty "bool", _, _, _, rfl, .ty _, ty_of dv3, kit_ty (kit_bool d), _, rfl, ite2 (fun e2 => ?_) (fun e2 => ?_)⟩
      · exact keep (by cases d <;> first | rfl | simp [isBoolD] at e2)
      · refine ⟨x, rfl, x, .ty "int", _, _, _, rfl, .ty _, ty_of dv3, kit_ty (kit_int d), _, rfl, ite2 (fun e3 => ?_) (fun e3 => ?_)⟩
        · exact keep (by cases d <;> first | rfl | (simp [isIntD] at e3))
        · obtain ⟨j, rfl⟩ : ∃ j, d = .int j := by
            cases d <;> first | exact ⟨_, rfl⟩ | (simp [isIntD, isBoolD] at e2 e3)
          cases (show x = V.int j from dv)
          refine ⟨_, rfl, _, rfl, _, _, rfl, rfl, _, rfl, ite2 (fun e4 => ?_) (fun e4 => ?_)⟩
          · refine ⟨_, rfl, _, _, rfl, rfl, _, rfl, ?_⟩
            have w1 : wholeD lo hi (.int j) = decide (j ≤ hi) := by
              show (decide (lo ≤ j) && decide (j ≤ hi)) = _
              rw [e4, Bool.true_and]
            refine ite2 (fun e5 => ?_) (fun e5 => ?_)
            · exact keep (by rw [w1]; simpa using e5)
            · refine ⟨s3, ys, eD, by omega, yi, ?_⟩
              rw [step, w1, yn]
              have : decide (j ≤ hi) = true := by simpa using e5
              rw [this, Bool.and_true]
          · have w1 : wholeD lo hi (.int j) = false := by
              show (decide (lo ≤ j) && decide (j ≤ hi)) = _
              rw [Bool.eq_false_iff.mpr e4, Bool.false_and]
            exact ⟨_, rfl, keep w1⟩
    · rintro H3 ⟨s3, ys, eD, yl, yi, yn⟩
      refine ⟨Nat.zero_le _, fun ln nln => ⟨D1, ln, ys, ys.map fun _ => .int 1, rfl, rfl, same_upd nln _ _ eD, upd_same, ?_, shaped_list (fun d hd => ?_), ?_⟩⟩
      · refine DVs.of_at (by rw [List.length_map]) fun j y hy => ⟨.int 1, by rw [List.getElem?_map, hy]; rfl, ?_⟩
        exact yi y (List.mem_of_getElem? hy)
      · obtain ⟨n, _, rfl⟩ := List.mem_map.mp hd
        exact ⟨rfl, by simp [PyData.depth]⟩
      · have tk : ds.take xs.length = ds := by
          rw [el]
          exact List.take_length
        rw [tk] at yn
        have : (ys.map fun _ => PyData.int 1).isEmpty = wholesD lo hi (.tuple ds) := by
          show _ = ds.all (wholeD lo hi)
          cases ys with
          | nil =>
            rw [yn.mp rfl]
            rfl
          | cons y r =>
            cases e : ds.all (wholeD lo hi) with
            | true => exact absurd (yn.mpr e) (by simp)
            | false => rfl
        rw [this]
        exact q _ (s3.trans (same_upd nln))
end
end K36
set_option Elab.async false
set_option linter.all false
set_option maxRecDepth 100000
set_option maxHeartbeats 4000000
namespace K36
open PySem PySem.Spec PyProof.Rows L2
/-- a row that fits so many sorts, so many settings -/
def rowOk (n m : Nat) (r : PyData) : Bool := tupD 1 6 r && decide ((itemsD r).length = m) && (itemsD r).all (pairD m n)
theorem all_and3 {α : Type} (l : List α) (a b c : α → Bool) : (l.all a && l.all b && l.all c) = l.all fun x => a x && b x && c x := by
  induction l with
  | nil => rfl
  | cons x r ih =>
    rw [List.all_cons, List.all_cons, List.all_cons, List.all_cons, ← ih]
    cases a x <;> cases b x <;> cases c x <;> simp
theorem kindD_rows (rows : List PyData) : kindD (.tuple rows) = (decide (1 ≤ rows.length) && decide (rows.length ≤ 6) && rows.all (rowOk rows.length (itemsD (rows.headD .none)).length)) := by
  show (decide (1 ≤ rows.length) && decide (rows.length ≤ 6) && rows.all (tupD 1 6) && rows.all (fun r => decide ((itemsD r).length = (itemsD (rows.headD .none)).length)) && rows.all (fun r => (itemsD r).all (pairD (itemsD (rows.headD .none)).length rows.length))) = _
  rw [Bool.and_assoc, Bool.and_assoc, ← Bool.and_assoc (rows.all (tupD 1 6)), all_and3]
  rfl
theorem whole_pair {m n : Nat} {d : PyData} (hm : m ≤ 6) (hn : n ≤ 6) : pairD m n d = true → wholesD 0 5 d = true := fun h => by
  obtain ⟨p, rfl, a, b⟩ := pair_iff.mp h
  show (wholeD 0 5 (nD p.1) && (wholeD 0 5 (nD p.2) && true)) = true
  have w : ∀ x : Nat, x < 6 → wholeD 0 5 (nD x) = true := fun x hx => by
    show (decide (0 ≤ (x : Int)) && decide ((x : Int) ≤ 5)) = true
    rw [Bool.and_eq_true, decide_eq_true_eq, decide_eq_true_eq]
    omega
  rw [w _ (by omega), w _ (by omega)]
  rfl
section
variable {P : Program} {w : World} {K : PySem.W.Frag} {mg : Str → Option Value} {base : Heap}
/-- data whose tuples are short -/
def spLIsKind : Sp := fun vs H Q _ => ∃ (d : PyData) (v : V), vs = [v] ∧ DV H d v ∧ (∀ ds, d = .tuple ds → ds.length ≤ 1000 ∧ ∀ r ∈ ds, ∀ rs, r = .tuple rs → rs.length ≤ 1000 ∧ ∀ p ∈ rs, ∀ ps, p = .tuple ps → ps.length ≤ 1000) ∧ ∀ H', Same H H' → Q (.bl (kindD d)) H'
theorem k_law_is_kind (D : Df K mg "_law_is_kind" "_law_is_kind" s_law_is_kind) (B : Bl mg) (C1 : Cl P w K mg base 1 "_law_are_whole" spLWhole) : Cl P w K mg base 2 "_law_is_kind" spLIsKind := by
  refine D.cl c_law_is_kind (fun _ _ _ _ _ _ us hl => match us, hl with | [_], _ => rfl) (fun vs H Q E h => ?_) (fun f cdv A outer s H vs Q E hr h => ?_)
  · obtain ⟨d, v, rfl, _⟩ := h
    rfl
  · obtain ⟨d, v, rfl, hd, hz, q⟩ := h
    have nd := c_law_is_kind.nd
    refine ⟨_, pss_cons (ps_if (PW.pt (pw_or (pt_not (pt_val (pe_callB call_isi (by rfl) B.isi (by decide +kernel) (pa_cons (pv 0) (pa_cons (pe_bltn (by rfl) B.tuple (by decide +kernel) (v := .ty "tuple") rfl) pa_nil)))))
        (pw_or1 (pt_not (pt_chain op_le op_le pe_int (pe_callB call_len_seq (by rfl) B.len PySem.boot_len (pa_cons (pv 0) pa_nil)) pe_int))))) (pss_one (ps_ret pe_bl)) pss_nil)
      (pss_cons (ps_for PassesOwn.never rfl (pi_tup (pv 0)) (pg_name (i := 1) nd rfl (.inl rfl))
        (pss_cons (ps_if (PW.pt (pw_or (pt_not (pt_val (pe_callB call_isi (by rfl) B.isi (by decide +kernel) (pa_cons (pv 1) (pa_cons (pe_bltn (by rfl) B.tuple (by decide +kernel) (v := .ty "tuple") rfl) pa_nil)))))
            (pw_or (pt_not (pt_chain op_le op_le pe_int (pe_callB call_len_seq (by rfl) B.len PySem.boot_len (pa_cons (pv 1) pa_nil)) pe_int))
            (pw_or1 (pt_cmpR op_ne (pe_callB call_len_seq (by rfl) B.len PySem.boot_len (pa_cons (pv 1) pa_nil)) (pe_callB call_len_seq (by rfl) B.len PySem.boot_len (pa_cons (pe_ix ix_tup (pv 0) pe_int (fun _ _ => rfl)) pa_nil)) (nomark _)))))) (pss_one (ps_ret pe_bl)) pss_nil)
        (pss_one (ps_for PassesOwn.never rfl (pi_tup (pv 1)) (pg_name (i := 2) nd rfl (.inl rfl))
          (pss_one (ps_if (PW.pt (pw_or (pt_not (pt_val (pe_cl C1 hr (by decide) (pa_cons (pv 2) (pa_cons pe_int (pa_cons pe_int pa_nil))))))
            (pw_or (pt_cmpR op_ne (pe_callB call_len_seq (by rfl) B.len PySem.boot_len (pa_cons (pv 2) pa_nil)) pe_int (nomark _))
            (pw_or (pt_cmpR op_ge (pe_ix ix_tup (pv 2) pe_int (fun _ _ => rfl)) (pe_callB call_len_seq (by rfl) B.len PySem.boot_len (pa_cons (pv 1) pa_nil)) (nomark _))
            (pw_or1 (pt_cmpR op_ge (pe_ix ix_tup (pv 2) pe_int (fun _ _ => rfl)) (pe_callB call_len_seq (by rfl) B.len PySem.boot_len (pa_cons (pv 0) pa_nil)) (nomark _))))))) (pss_one (ps_ret pe_bl)) pss_nil))))))
      (pss_one (ps_ret pe_bl))), ?_⟩
    refine ⟨v, rfl, v, .ty "tuple", _, _, _, rfl, .ty _, ty_of hd, kit_ty (kit_tup d), _, rfl, ite2 (fun e1 => ?_) (fun e1 => ?_)⟩
    · have : kindD d = false := by
        cases d <;> first | rfl | simp [isTupD] at e1
      rw [this] at q
      exact q H (Same.refl _)
    obtain ⟨ds, rfl⟩ : ∃ ds, d = .tuple ds := by
      cases d <;> first | exact ⟨_, rfl⟩ | (simp [isTupD] at e1)
    obtain ⟨a, xs, rfl, ha, hx⟩ := hd
    have el := hx.length
    obtain ⟨lz, hz⟩ := hz ds rfl
    rw [kindD_rows] at q
    have no : ∀ {z : Bool}, (decide (1 ≤ ds.length) && decide (ds.length ≤ 6) && ds.all (rowOk ds.length (itemsD (ds.headD .none)).length)) = false → (∀ H', Same H H' → Q (.bl false) H') := fun e H' s' => by
      have := q H' s'
      rw [e] at this
      exact this
    refine ⟨_, rfl, a, xs, rfl, .inr (SqT.of ha), _, _, rfl, rfl, _, rfl, ite2 (fun e2 => ?_) (fun e2 => ?_)⟩
    · refine ⟨_, _, rfl, rfl, _, rfl, ite2 (fun e3 => ?_) (fun e3 => ?_)⟩
      · refine no (z := false) ?_ H (Same.refl _)
        have : ¬ ds.length ≤ 6 := by
          have : ¬ (xs.length : Int) ≤ 6 := by simpa using e3
          omega
        rw [decide_eq_false this, Bool.and_false, Bool.false_and]
      have d1 : 1 ≤ ds.length := by
        have : (1 : Int) ≤ (xs.length : Int) := by simpa using e2
        omega
      have d6 : ds.length ≤ 6 := by
        have : (xs.length : Int) ≤ 6 := by simpa using e3
        omega
      rw [decide_eq_true d1, decide_eq_true d6] at q no
      obtain ⟨r0, dr, eds⟩ : ∃ r0 dr, ds = r0 :: dr := by
        cases ds with
        | nil => cases d1
        | cons r dr => exact ⟨r, dr, rfl⟩
      obtain ⟨v0, hv0, dv0⟩ := hx.get (i := 0) (d := r0) (by rw [eds]; rfl)
      have ehd : ds.headD .none = r0 := by rw [eds]; rfl
      rw [ehd] at q no
      have rows : ∀ (i : Nat) r, ds[i]? = some r → rowOk ds.length (itemsD r0).length r = false → ∀ H', Same H H' → Q (.bl false) H' := fun i r hr e H' s' => by
        refine no (z := false) ?_ H' s'
        rw [Bool.true_and, Bool.true_and, List.all_eq_false]
        exact ⟨r, List.mem_of_getElem? hr, by rw [e]; simp⟩
      refine ⟨_, rfl, a, rfl, ⟨_, SqT.of ha⟩, for_tup (K := K) (a := a) (xs := xs) (fun i σ H3 => ∃ (x1 x2 : Option V), σ = [some (.ref a), x1, x2] ∧ Same H H3 ∧ (ds.take i).all (rowOk ds.length (itemsD r0).length) = true ∧ (1 ≤ i → isTupD r0 = true))
        ⟨none, none, rfl, Same.refl _, by simp, fun z => absurd z (by decide)⟩ (fun i σ H3 _ ⟨x1, x2, _, s3, _⟩ => SqT.of (s3 _ _ ha)) ?_ ?_⟩
      · rintro i y σ H3 hi ⟨x1, x2, rfl, s3, ok, t0⟩
        obtain ⟨r, er, dv⟩ := hx.getV hi
        have dv3 := dv.same s3
        refine ⟨y, rfl, y, .ty "tuple", _, _, _, rfl, .ty _, ty_of dv3, kit_ty (kit_tup r), _, rfl, ite2 (fun f1 => ?_) (fun f1 => ?_)⟩
        · refine rows i r er ?_ H3 s3
          have : tupD 1 6 r = false := by
            cases r <;> first | rfl | simp [isTupD] at f1
          unfold rowOk
          rw [this]
          rfl
        obtain ⟨rs, rfl⟩ : ∃ rs, r = .tuple rs := by
          cases r <;> first | exact ⟨_, rfl⟩ | (simp [isTupD] at f1)
        obtain ⟨b, ys, rfl, hb, hy⟩ := dv3
        have ely := hy.length
        obtain ⟨rz, hz2⟩ := hz _ (List.mem_of_getElem? er) rs rfl
        refine ⟨_, rfl, b, ys, rfl, .inr (SqT.of hb), _, _, rfl, rfl, _, rfl, ite2 (fun f2 => ?_) (fun f2 => ?_)⟩
        · refine ⟨_, _, rfl, rfl, _, rfl, ite2 (fun f3 => ?_) (fun f3 => ?_)⟩
          · refine rows i _ er ?_ H3 s3
            have : tupD 1 6 (.tuple rs) = false := by
              rw [tupD_tup, Bool.and_eq_false_iff]
              right
              have : ¬ (ys.length : Int) ≤ 6 := by simpa using f3
              exact decide_eq_false (by omega)
            unfold rowOk
            rw [this]
            rfl
          have r1 : 1 ≤ rs.length := by
            have : (1 : Int) ≤ (ys.length : Int) := by simpa using f2
            omega
          have r6 : rs.length ≤ 6 := by
            have : (ys.length : Int) ≤ 6 := by simpa using f3
            omega
          have tupr : tupD 1 6 (.tuple rs) = true := tup1_iff.mpr ⟨rs, rfl, r1, r6⟩
          have tup0 : ∃ q0, r0 = .tuple q0 := by
            by_cases z : 1 ≤ i
            · have := t0 z
              cases r0 <;> first | exact ⟨_, rfl⟩ | simp [isTupD] at this
            · have : i = 0 := by omega
              subst this
              rw [eds] at er
              cases Option.some.inj er
              exact ⟨rs, rfl⟩
          obtain ⟨q0, rfl⟩ := tup0
          obtain ⟨c, zs, rfl, hc, hzs⟩ := dv0
          have elz := hzs.length
          refine ⟨_, rfl, b, ys, rfl, .inr (SqT.of hb), _, rfl, a, xs, 0, .ref c, rfl, rfl, SqT.of (s3 _ _ ha), atN hv0, c, zs, rfl, .inr (SqT.of (s3 _ _ hc)), rfl, _, rfl, ite2 (fun f4 => ?_) (fun f4 => ?_)⟩
          · refine rows i _ er ?_ H3 s3
            have ne : ¬ rs.length = q0.length := fun z => by
              have : ys.length = zs.length := by omega
              rw [this] at f4
              simp at f4
            unfold rowOk
            show (tupD 1 6 (.tuple rs) && decide (rs.length = q0.length) && _) = false
            rw [decide_eq_false ne, Bool.and_false, Bool.false_and]
          have eq : rs.length = q0.length := Decidable.byContradiction fun z => f4 (by
            have : ¬ V.int (ys.length : Int) = V.int (zs.length : Int) := fun q => by
              injection q with q
              exact z (by omega)
            rw [decide_eq_false this]
            rfl)
          have rowIs : rowOk ds.length q0.length (.tuple rs) = rs.all (pairD q0.length ds.length) := by
            show (tupD 1 6 (.tuple rs) && decide (rs.length = q0.length) && rs.all (pairD q0.length ds.length)) = _
            rw [tupr, decide_eq_true eq]
            rfl
          have pairs : ∀ (j : Nat) p, rs[j]? = some p → pairD q0.length ds.length p = false → ∀ H', Same H H' → Q (.bl false) H' := fun j p hp e H' s' => by
            refine rows i _ er ?_ H' s'
            have : rs.all (pairD q0.length ds.length) = false := List.all_eq_false.mpr ⟨p, List.mem_of_getElem? hp, by rw [e]; simp⟩
            exact rowIs.trans this
          refine ⟨_, rfl, b, rfl, ⟨_, SqT.of hb⟩, for_tup (K := K) (a := b) (xs := ys) (fun j σ H4 => ∃ (x2 : Option V), σ = [some (.ref a), some (.ref b), x2] ∧ Same H3 H4 ∧ (rs.take j).all (pairD q0.length ds.length) = true)
            ⟨_, rfl, Same.refl _, by simp⟩ (fun j σ H4 _ ⟨x2, _, s4, _⟩ => SqT.of (s4 _ _ hb)) ?_ ?_⟩
          · rintro j u σ H4 hj ⟨x2, rfl, s4, okp⟩
            obtain ⟨p, ep, dp⟩ := hy.getV hj
            have s34 := s3.trans s4
            have dp4 := dp.same s4
            refine ⟨_, rfl, p, u, 0, 5, rfl, dp4, fun ps hps => (hz2 p (List.mem_of_getElem? ep) ps hps), fun H5 s5 => ⟨_, rfl, ite2 (fun g1 => ?_) (fun g1 => ?_)⟩⟩
            · refine pairs j p ep ?_ H5 (s34.trans s5)
              cases z : pairD q0.length ds.length p with
              | false => rfl
              | true =>
                have := whole_pair (by omega) (by omega) z
                rw [this] at g1
                simp at g1
            have wp : wholesD 0 5 p = true := by simpa using g1
            obtain ⟨ps, rfl⟩ : ∃ ps, p = .tuple ps := by
              cases p <;> first | exact ⟨_, rfl⟩ | (simp [wholesD] at wp)
            obtain ⟨g, us, rfl, hg, hu⟩ := dp4
            have elu := hu.length
            have hg5 := s5 _ _ hg
            refine ⟨_, rfl, g, us, rfl, .inr (SqT.of hg5), rfl, _, rfl, ite2 (fun g2 => ?_) (fun g2 => ?_)⟩
            · refine pairs j _ ep ?_ H5 (s34.trans s5)
              cases z : pairD q0.length ds.length (.tuple ps) with
              | false => rfl
              | true =>
                obtain ⟨pp, epp, _⟩ := pair_iff.mp z
                injection epp with epp
                have : us.length = 2 := by rw [elu, epp]; rfl
                rw [this] at g2
                simp at g2
            have l2 : ps.length = 2 := Decidable.byContradiction fun z => g2 (by
              have : ¬ V.int (us.length : Int) = V.int 2 := fun q => by
                injection q with q
                exact z (by omega)
              rw [decide_eq_false this]
              rfl)
            obtain ⟨d1', d2', rfl⟩ : ∃ d1 d2, ps = [d1, d2] := by
              match ps, l2 with
              | [x, y], _ => exact ⟨x, y, rfl⟩
            have wp' : (wholeD 0 5 d1' && (wholeD 0 5 d2' && true)) = true := wp
            rw [Bool.and_true, Bool.and_eq_true] at wp'
            obtain ⟨n1, rfl, _⟩ := whole_iff (n := 6) |>.mp wp'.1
            obtain ⟨n2, rfl, _⟩ := whole_iff (n := 6) |>.mp wp'.2
            obtain ⟨w1, r1', rfl, h1, w2, r2', rfl, h2, h3⟩ := hu
            cases (show r2' = [] from h3)
            cases (show w1 = V.int _ from h1)
            cases (show w2 = V.int _ from h2)
            refine ⟨_, rfl, g, _, 0, nV n1, rfl, rfl, SqT.of hg5, atN (j := 0) rfl, _, rfl, b, ys, rfl, .inr (SqT.of (s5 _ _ (s4 _ _ hb))), _, _, rfl, rfl, _, rfl, ite2 (fun g3 => ?_) (fun g3 => ?_)⟩
            · refine pairs j _ ep ?_ H5 (s34.trans s5)
              have : (n1 : Int) ≥ (ys.length : Int) := by simpa using g3
              show (wholeD 0 ((q0.length : Int) - 1) (nD n1) && _) = false
              have : wholeD 0 ((q0.length : Int) - 1) (nD n1) = false := by
                rw [Bool.eq_false_iff]
                intro z
                obtain ⟨x, ex, hx⟩ := whole_iff.mp z
                injection ex with ex
                omega
              rw [this]
              rfl
            refine ⟨_, rfl, g, _, 1, nV n2, rfl, rfl, SqT.of hg5, atN (j := 1) rfl, _, rfl, a, xs, rfl, .inr (SqT.of (s5 _ _ (s34 _ _ ha))), _, _, rfl, rfl, _, rfl, ite2 (fun g4 => ?_) (fun g4 => ?_)⟩
            · refine pairs j _ ep ?_ H5 (s34.trans s5)
              have : (n2 : Int) ≥ (xs.length : Int) := by simpa using g4
              show (_ && wholeD 0 ((ds.length : Int) - 1) (nD n2)) = false
              have : wholeD 0 ((ds.length : Int) - 1) (nD n2) = false := by
                rw [Bool.eq_false_iff]
                intro z
                obtain ⟨x, ex, hx⟩ := whole_iff.mp z
                injection ex with ex
                omega
              rw [this, Bool.and_false]
            · refine ⟨_, rfl, s4.trans s5, ?_⟩
              rw [all_take_succ ep, okp, Bool.true_and]
              have l1 : ¬ (n1 : Int) ≥ (ys.length : Int) := by simpa using g3
              have l2 : ¬ (n2 : Int) ≥ (xs.length : Int) := by simpa using g4
              exact pair_iff.mpr ⟨(n1, n2), rfl, by show n1 < _; omega, by show n2 < _; omega⟩
          · rintro σ H4 ⟨x2, rfl, s4, okp⟩
            refine ⟨_, _, rfl, s3.trans s4, ?_, fun _ => rfl⟩
            rw [all_take_succ er, ok, Bool.true_and]
            have tk : rs.take ys.length = rs := by
              rw [ely]
              exact List.take_length
            rw [tk] at okp
            exact rowIs.trans okp
        · have : ¬ (1 : Int) ≤ (ys.length : Int) := by simpa using f2
          refine ⟨_, rfl, ?_⟩
          refine rows i _ er ?_ H3 s3
          have z : tupD 1 6 (.tuple rs) = false := by
            rw [tupD_tup, Bool.and_eq_false_iff]
            left
            exact decide_eq_false (by omega)
          unfold rowOk
          rw [z]
          rfl
      · rintro σ H3 ⟨x1, x2, rfl, s3, ok, t0⟩
        have tk : ds.take xs.length = ds := by
          rw [el]
          exact List.take_length
        rw [tk] at ok
        rw [ok] at q
        exact q H3 s3
    · refine ⟨_, rfl, no (z := false) ?_ H (Same.refl _)⟩
      have : ¬ 1 ≤ ds.length := by
        have : ¬ (1 : Int) ≤ (xs.length : Int) := by simpa using e2
        omega
      rw [decide_eq_false this, Bool.false_and, Bool.false_and]
end
end K36
set_option Elab.async false
set_option linter.all false
set_option maxRecDepth 100000
set_option maxHeartbeats 4000000
namespace K36
open PySem PySem.Spec PyProof.Rows L2
/-! ### a dict and a list that change in place -/
section
variable {κ : Type} [DecidableEq κ] {ko : KeyOf κ} {P : Program} {w : World}
theorem DictAt.keep {H H' : Hp} {d : Addr} {keys : List κ} (D : DictAt ko P w H d keys) (e : ∀ b ys, H b = some (.tup ys) → H' b = some (.tup ys)) (hd : H' d = H d) : DictAt ko P w H' d keys := by
  obtain ⟨xs, ep, h1, h2, h3, h4, h5⟩ := D
  refine ⟨xs, ep, h1, h2, by rw [hd]; exact h3, fun x hx => (h4 x hx).tups e (ko.pur x.1), fun x hx => ?_⟩
  obtain ⟨r, q1, q2⟩ := h5 x hx
  exact ⟨r, e _ _ q1, q2⟩
theorem DictAt.ne_lst {H : Hp} {d la : Addr} {keys : List κ} {xs : List V} (D : DictAt ko P w H d keys) (h : H la = some (.lst xs)) : la ≠ d := by
  obtain ⟨_, _, _, _, h3, _, _⟩ := D
  exact ne_of h h3 fun e => dN_ne_lst e
theorem DictAt.ne_tup {H : Hp} {d la : Addr} {keys : List κ} {xs : List V} (D : DictAt ko P w H d keys) (h : H la = some (.tup xs)) : la ≠ d := by
  obtain ⟨_, _, _, _, h3, _, _⟩ := D
  exact ne_of h h3 fun e => dN_ne_tup e
theorem tups_lst {H : Hp} {la : Addr} {xs ys : List V} (h : H la = some (.lst xs)) : ∀ b zs, H b = some (.tup zs) → upd H la (.lst ys) b = some (.tup zs) := tups_upd h fun _ e => by cases e
theorem pures_map (ko : KeyOf κ) (l : List κ) : pures? (l.map ko.dat) = true := by
  induction l with
  | nil => rfl
  | cons x r ih =>
    show (pure? (ko.dat x) && pures? (r.map ko.dat)) = true
    rw [ko.pur, ih]
    rfl
/-- the dict at d, the list at la; all else as it was -/
structure AtLot (ko : KeyOf κ) (P : Program) (w : World) (H H3 : Hp) (d la : Addr) (keys line : List κ) : Prop where
  sm : Same H H3
  nd : H d = none
  nl : H la = none
  dict : DictAt ko P w H3 d keys
  lst : ∃ xs, H3 la = some (.lst xs) ∧ DVs H3 (line.map ko.dat) xs
theorem AtLot.same {H H3 H4 : Hp} {d la : Addr} {keys line : List κ} (A : AtLot ko P w H H3 d la keys line) (e : Same H3 H4) : AtLot ko P w H H4 d la keys line := by
  obtain ⟨xs, h1, h2⟩ := A.lst
  exact ⟨A.sm.trans e, A.nd, A.nl, A.dict.same e, xs, e _ _ h1, h2.same e⟩
theorem AtLot.setl {H H3 : Hp} {d la : Addr} {keys line line' : List κ} {ys : List V} (A : AtLot ko P w H H3 d la keys line) (h : DVs H3 (line'.map ko.dat) ys) : AtLot ko P w H (upd H3 la (.lst ys)) d la keys line' := by
  obtain ⟨xs, h1, h2⟩ := A.lst
  have ne := A.dict.ne_lst h1
  exact ⟨same_upd2 A.sm A.nl, A.nd, A.nl, A.dict.keep (tups_lst h1) (upd_ne ne.symm), ys, upd_same, h.tups (tups_lst h1) (pures_map ko line')⟩
theorem DictAt.tups_dict {H : Hp} {d : Addr} {keys : List κ} (D : DictAt ko P w H d keys) (o : HO) : ∀ b zs, H b = some (.tup zs) → upd H d o b = some (.tup zs) := by
  obtain ⟨_, _, _, _, h3, _, _⟩ := D
  exact tups_upd h3 fun _ => dN_ne_tup
theorem AtLot.setd {H H3 : Hp} {d la : Addr} {keys keys' line : List κ} {o : HO} (A : AtLot ko P w H H3 d la keys line) (D : DictAt ko P w (upd H3 d o) d keys') : AtLot ko P w H (upd H3 d o) d la keys' line := by
  obtain ⟨xs, h1, h2⟩ := A.lst
  have ne := A.dict.ne_lst h1
  exact ⟨same_upd2 A.sm A.nd, A.nd, A.nl, D, xs, by rw [upd_ne ne]; exact h1, h2.tups (A.dict.tups_dict o) (pures_map ko line)⟩
end
theorem seq0 (n : Nat) : seqIndex? 0 (n + 1) = some 0 := by
  unfold seqIndex?
  simp
section
variable {P : Program} {w : World} {K : PySem.W.Frag} {mg : Str → Option Value} {base : Heap}
def spLLot (P : Program) (w : World) : Sp := fun vs H Q _ => ∃ (k : Kd) (m : Nat) (t : Tr) (kv tv : V), vs = [kv, tv, .int 1000] ∧ DV H (dK k) kv ∧ DV H (dT t) tv ∧ OkK k m ∧ OkT k.length t ∧ t.length ≤ 1000 ∧ FewT w k m t 900 ∧
  ∀ H' d keys, Same H H' → DictAt koT P w H' d keys → (∀ x, x ∈ keys ↔ Reach (nxT k) m t x) → Q (.ref d) H'
theorem k_law_lot (D : Df K mg "_law_lot" "_law_lot" s_law_lot) (B : Bl mg) (C1 : Cl P w K mg base 3 "_law_latch" spLatch) : Cl P w K mg base 4 "_law_lot" (spLLot P w) := by
  refine D.cl c_law_lot (fun _ _ _ _ _ _ us hl => match us, hl with | [_, _, _], _ => rfl) (fun vs H Q E h => ?_) (fun f cdv A outer s H vs Q E hr h => ?_)
  · obtain ⟨k, m, t, kv, tv, rfl, _⟩ := h
    rfl
  · obtain ⟨k, m, t, kv, tv, rfl, hk, ht, ok, okt, hlen, few, q⟩ := h
    have nd := c_law_lot.nd
    refine ⟨_, pss_cons (ps_par (i := 3) (j := 4) (by rfl) nd rfl rfl (by decide) rfl rfl (pa_cons (pe_n1 (ko := koT) hr (pv 1) (pe_tup pa_nil)) (pa_cons (pe_lst (pa_cons (pv 1) pa_nil)) pa_nil)) (by rfl))
      (pss_cons (ps_while PassesOwn.never (pt_cmpR (op_neNil hr) (pv 4) (pe_lst pa_nil) (nomark _))
        (pss_cons (ps_set (i := 5) nd rfl (.inl rfl) (pe_bm PySem.F.plainAttrs_list PySem.F.slot_list_pop PySem.F.type_list_pop mt_popAt (pv 4) (pa_cons pe_int pa_nil)))
        (pss_one (ps_for PassesOwn.never rfl (pi_range1 (by rfl) B.range (pa_cons (pe_callB call_len_seq (by rfl) B.len PySem.boot_len (pa_cons (pe_ix ix_tup (pv 0) pe_int (fun _ _ => rfl)) pa_nil)) pa_nil)) (pg_name (i := 6) nd rfl (.inl rfl))
          (pss_cons (ps_set (i := 7) nd rfl (.inl rfl) (pe_ix ix_tup (pe_cl C1 hr (by decide) (pa_cons (pv 0) (pa_cons (pv 5) (pa_cons (pv 6) pa_nil)))) pe_int (fun _ _ => rfl)))
          (pss_one (ps_if (pt_cmpR (op_nNotIn (ko := koT) hr) (pv 7) (pv 3) (by rfl))
            (pss_cons (ps_asg (pe_op op_catU (pe_nGet (ko := koT) hr (pv 3) (pv 5) (fun _ _ => rfl)) (pe_tup (pa_cons (pv 6) pa_nil))) (pg_sub (pv 3) (pv 7) (set_nPut (ko := koT) hr)))
            (pss_cons (ps_expr (pe_bm PySem.F.plainAttrs_list PySem.F.slot_list_append PySem.F.type_list_append mt_append (pv 4) (pa_cons (pv 7) pa_nil)))
            (pss_one (ps_if (pt_cmpR op_gt (pe_callB (call_nLen (ko := koT)) (by rfl) B.len PySem.boot_len (pa_cons (pv 3) pa_nil)) (pv 2) (nomark _)) (pss_one (ps_ret pe_non)) pss_nil)))) pss_nil)))))))
      (pss_one (ps_ret (pv 3)))), ?_⟩
    obtain ⟨ta, rfl, hta⟩ := DV.tr.mp ht
    have leaf : ∀ keys : List Tr, keys.Nodup → (∀ x ∈ keys, Reach (nxT k) m t x) → keys.length ≤ 900 := fun keys n a => few.few keys n a
    refine ⟨.ref ta, rfl, Nat.zero_le _, fun p0 np0 => ?_⟩
    have s0 : Same H (upd H p0 (.tup [])) := same_upd np0
    refine ⟨t, p0, DV.same s0 ht, rfl, upd_same, fun d0 o0 nd0 D0 => ?_⟩
    have s1 := s0.trans (same_upd (o := o0) nd0)
    have nd00 : H d0 = none := by
      cases e : H d0 with
      | none => rfl
      | some o =>
        have := s0 _ _ e
        rw [nd0] at this
        cases this
    refine ⟨_, rfl, (by show 1 ≤ sizeLine; decide), fun l0 nl0 => ⟨_, _, rfl, ?_⟩⟩
    have s2 := s1.trans (same_upd (o := .lst [.ref ta]) nl0)
    have nl00 : H l0 = none := by
      cases e : H l0 with
      | none => rfl
      | some o =>
        have := s1 _ _ e
        rw [nl0] at this
        cases this
    refine ⟨fun n σ H3 => ∃ (keys line : List Tr) (x5 x6 x7 : Option V), σ = [some kv, some (.ref ta), some (.int 1000), some (.ref d0), some (.ref l0), x5, x6, x7] ∧ AtLot koT P w H H3 d0 l0 keys line ∧ Seen (nxT k) m t keys line ∧ n + 2 * keys.length = 1802 + line.length ∧ n ≤ 1801,
      ⟨1801, [t], [t], none, none, none, rfl, ⟨s2, nd00, nl00, D0.same (same_upd nl0), _, upd_same, DVs.one (ht.same s2)⟩, .start, rfl, Nat.le_refl _⟩, ?_⟩
    rintro n σ H3 ⟨keys, line, x5, x6, x7, rfl, AL, sn, en, n18⟩
    obtain ⟨lx, hla, hlx⟩ := AL.lst
    refine ⟨_, rfl, Nat.zero_le _, fun ln nln => ⟨l0, ln, lx, _, rfl, rfl, same_upd nln _ _ hla, upd_same, hlx.same (same_upd nln), shaped_keys koT line, _, rfl, ?_⟩⟩
    have AL4 := AL.same (same_upd (o := .lst []) nln)
    cases line with
    | nil => exact ⟨_, rfl, q _ _ _ AL4.sm AL4.dict sn.whole⟩
    | cons here line =>
      obtain ⟨hv, lr, rfl, hhv, hlr⟩ := hlx
      have hla4 := same_upd (o := .lst []) nln _ _ hla
      have dv4 : DV (upd H3 ln (.lst [])) (dT here) hv := DV.same (same_upd nln) hhv
      refine ⟨_, fun σ' H' h => h, ?_⟩
      refine ⟨_, rfl, .inl ⟨rfl, _, SqL.of hla4⟩, l0, _, 0, 0, hv, rfl, rfl, hla4, by decide, by decide, seq0 _, rfl, ?_⟩
      have AL5 : AtLot koT P w H (upd (upd H3 ln (.lst [])) l0 (.lst lr)) d0 l0 keys line := AL4.setl (hlr.same (same_upd nln))
      have dv5 : DV (upd (upd H3 ln (.lst [])) l0 (.lst lr)) (dT here) hv := dv4.tups (tups_lst hla4) (koT.pur here)
      have okh := (reach_ok ok okt (sn.all here (sn.sub here List.mem_cons_self))).1
      have lnh := (reach_ok ok okt (sn.all here (sn.sub here List.mem_cons_self))).2
      obtain ⟨ka, kb, kxs, kys, rfl, hka, hkb, ekl⟩ := kd_settings hk ok
      refine ⟨_, rfl, ka, _, 0, .ref kb, rfl, rfl, SqT.of (AL5.sm _ _ hka), atN (j := 0) rfl, kb, kys, rfl, .inr (SqT.of (AL5.sm _ _ hkb)), _, rfl, ?_, ?_, for_range (lo := 0) (n := ((kys.length : Int)).toNat) (fun i σ H6 => ∃ (keys line : List Tr) (x6 x7 : Option V), σ = [some (.ref ka), some (.ref ta), some (.int 1000), some (.ref d0), some (.ref l0), some hv, x6, x7] ∧ AtLot koT P w H H6 d0 l0 keys line ∧ DV H6 (dT here) hv ∧
          Seen1 (nxT k) m t here i keys line ∧ 1803 + line.length ≤ n + 2 * keys.length)
        ⟨keys, line, x6, x7, rfl, AL5, dv5, sn.open', by simp at en ⊢; omega⟩ ?_ ?_⟩
      · have := ok.m6
        omega
      · have := ok.m6
        omega
      · rintro i σ H6 hi ⟨keys, line, x6, x7, rfl, AL, dvh, sn, en⟩
        have e0 : V.int (0 + (i : Int)) = nV i := by
          rw [Int.zero_add]
          rfl
        rw [e0]
        have him : i < m := by omega
        obtain ⟨_, okn, lnn⟩ := latch_ok ok okh him
        refine ⟨_, rfl, _, rfl, _, rfl, k, m, here, i, .ref ka, hv, rfl, hk.same AL.sm, dvh, ok, okh, him, by omega, fun H7 v7 s7 dp => ?_⟩
        obtain ⟨pa, pb, rfl, hpa, hpb⟩ := dp
        have dvt : DV H7 (dT (nxT k here i)) (.ref pb) := DV.tr.mpr ⟨pb, rfl, hpb⟩
        have AL7 := AL.same s7
        have few1 := leaf keys sn.nd sn.all
        have dvh7 : DV H7 (dT here) hv := DV.same s7 dvh
        refine ⟨pa, _, 1, .ref pb, rfl, rfl, SqT.of hpa, atN (j := 1) rfl, ?_⟩
        refine ⟨_, rfl, _, rfl, d0, keys, nxT k here i, rfl, AL7.dict, dvt, _, rfl, ite2 (fun e => ?_) (fun e => ?_)⟩
        · have hn : nxT k here i ∉ keys := by simpa using e
          refine ⟨_, rfl, _, rfl, d0, keys, here, rfl, AL7.dict, dvh7, sn.hk, fun ra r hra hrl => ?_⟩
          refine ⟨_, rfl, (by show 1 ≤ sizeLine; decide), fun T nT => ⟨ra, T, _, _, rfl, rfl, same_upd nT _ _ hra, upd_same, ?_, fun p8 H8 s8 e8 => ?_⟩⟩
          · rw [List.length_map]
            show _ + 1 ≤ 100000
            omega
          have s78 := (same_upd (o := .tup [nV i]) nT).trans s8
          have AL8 := AL7.same s78
          have dvt8 : DV H8 (dT (nxT k here i)) (.ref pb) := dvt.same s78
          have dvh8 : DV H8 (dT here) hv := dvh7.same s78
          refine ⟨_, rfl, _, rfl, d0, keys, nxT k here i, p8, r ++ [i], rfl, AL8.dict, dvt8, hn, rfl, by rw [e8, List.map_append]; rfl, by rw [List.length_append]; exact hrl, by omega, fun o9 D9 => ?_⟩
          have AL9 := AL8.setd D9
          have t9 := AL8.dict.tups_dict o9
          obtain ⟨lx9, hla9, hlx9⟩ := AL9.lst
          have dvt9 := dvt8.tups t9 (koT.pur (nxT k here i))
          have elx := hlx9.length
          rw [List.length_map] at elx
          refine ⟨_, rfl, .inl ⟨rfl, _, SqL.of hla9⟩, _, rfl, l0, _, _, rfl, rfl, hla9, fitsLt (by omega), ?_⟩
          have sn' := sn.new him hn
          have few2 := leaf _ sn'.nd sn'.all
          have ALA : AtLot koT P w H (upd (upd H8 d0 o9) l0 (.lst (lx9 ++ [.ref pb]))) d0 l0 (keys ++ [nxT k here i]) (line ++ [nxT k here i]) := AL9.setl (by
            rw [List.map_append]
            exact hlx9.append (DVs.one dvt9))
          refine ⟨_, rfl, _, _, rfl, ALA.dict, by omega, _, rfl, _, _, rfl, rfl, _, rfl, ?_⟩
          have no : decide (((keys ++ [nxT k here i]).length : Int) > 1000) = false := by
            apply decide_eq_false
            omega
          rw [no]
          refine ⟨_, _, _, _, rfl, ALA, (dvh8.tups t9 (koT.pur here)).tups (tups_lst hla9) (koT.pur here), sn', ?_⟩
          rw [List.length_append, List.length_append]
          show 1803 + (line.length + 1) ≤ n + 2 * (keys.length + 1)
          omega
        · have hn : nxT k here i ∈ keys := by simpa using e
          exact ⟨_, _, _, _, rfl, AL7, dvh7, sn.old hn, en⟩
      · rintro σ H6 ⟨keys, line, x6, x7, rfl, AL, dvh, sn, en⟩
        have em : ((kys.length : Int)).toNat = m := by omega
        rw [em] at sn
        have few1 := leaf keys sn.nd sn.all
        exact ⟨1802 + line.length - 2 * keys.length, by omega, keys, line, _, _, _, rfl, AL, sn.close, by omega, by omega⟩
end
end K36
set_option Elab.async false
set_option linter.all false
set_option maxRecDepth 100000
set_option maxHeartbeats 4000000
namespace K36
open PySem PySem.Spec PyProof.Rows L2
theorem PS.imp' {X : Cx} {st : Stmt} {t t' : TS} (h : PS X st t) (i : ∀ D σ H, t' D σ H → t D σ H) : PS X st t' := ⟨fun pins s σ H D I q => h.run pins s σ H D I (i D σ H q)⟩
theorem set_self {σ : L2.St} {i : Nat} {v : V} (h : σ[i]? = some (some v)) : σ.set i (some v) = σ := by
  apply List.ext_getElem?
  intro j
  rw [List.getElem?_set]
  by_cases e : i = j
  · subst e
    rw [if_pos rfl, if_pos (List.getElem?_eq_some_iff.mp h).1]
    exact h.symm
  · rw [if_neg e]
/-- the first road told, if this setting is changed -/
def tTell (P : Program) (w : World) : TS := fun D σ H => ∃ (d : Addr) (hv told : V) (keys : List TT2) (here : TT2) (i l : Nat), σ[4]? = some (some (.ref d)) ∧ σ[6]? = some (some told) ∧ σ[7]? = some (some hv) ∧ σ[8]? = some (some (nV i)) ∧ σ[11]? = some (some (nV l)) ∧
  DictAt koP P w H d keys ∧ DV H (dTT here) hv ∧ here ∈ keys ∧ keys.length ≤ 50000 ∧ (told = .non ∨ ∃ (a : Addr) (r : Tr), told = .ref a ∧ H a = some (.tup (r.map nV))) ∧
  ∀ H' told', Same H H' → (l = i → told' = told) → (l ≠ i → ∃ (a : Addr) (r : Tr), told' = .ref a ∧ H' a = some (.tup (r.map nV))) → D.nx (σ.set 6 (some told')) H'
/-- what is told: too many, nothing, a road -/
def LU (H : Hp) (k b : Kd) (m : Nat) (p : TT2) (v : V) : Prop := (v = .str "many" ∧ Many k b m p) ∨ (v = .non ∧ ¬ Many k b m p ∧ Alike k b m p) ∨ ((∃ (a : Addr) (r : Tr), v = .ref a ∧ H a = some (.tup (r.map nV))) ∧ ¬ Many k b m p ∧ ¬ Alike k b m p)
/-- nothing told, or a road -/
def TV (H : Hp) (rs : List Tr) (told : V) : Prop := (rs = [] ∧ told = .non) ∨ (rs ≠ [] ∧ ∃ (a : Addr) (r : Tr), told = .ref a ∧ H a = some (.tup (r.map nV)))
theorem TV.keep {H H' : Hp} {rs : List Tr} {told : V} (t : TV H rs told) (e : ∀ b ys, H b = some (.tup ys) → H' b = some (.tup ys)) : TV H' rs told := by
  rcases t with h | ⟨h, a, r, h1, h2⟩
  · exact .inl h
  · exact .inr ⟨h, a, r, h1, e _ _ h2⟩
theorem TV.same {H H' : Hp} {rs : List Tr} {told : V} (t : TV H rs told) (s : Same H H') : TV H' rs told := t.keep fun b ys e => s b _ e
section
variable {P : Program} {w : World} {K : PySem.W.Frag} {mg : Str → Option Value} {base : Heap}
def spLUnlike : Sp := fun vs H Q _ => ∃ (k b : Kd) (m : Nat) (p : TT2) (kv bv tv ov : V), vs = [kv, bv, tv, ov] ∧ DV H (dK k) kv ∧ DV H (dK b) bv ∧ DV H (dT p.1) tv ∧ DV H (dT p.2) ov ∧ OkK k m ∧ OkK b m ∧ OkP k b p ∧ p.1.length ≤ 1000 ∧ p.2.length ≤ 1000 ∧
  ∀ H' v, Same H H' → LU H' k b m p v → Q v H'
theorem k_law_unlike (D : Df K mg "_law_unlike" "_law_unlike" s_law_unlike) (B : Bl mg) (C1 : Cl P w K mg base 3 "_law_latch" spLatch) : Cl P w K mg base 4 "_law_unlike" spLUnlike := by
  refine D.cl c_law_unlike (fun _ _ _ _ _ _ us hl => match us, hl with | [_, _, _, _], _ => rfl) (fun vs H Q E h => ?_) (fun f cdv A outer s H vs Q E hr h => ?_)
  · obtain ⟨k, b, m, p, kv, bv, tv, ov, rfl, _⟩ := h
    rfl
  · obtain ⟨k, b, m, p, kv, bv, tv, ov, rfl, hk, hb, ht, ho, okk, okb, okp, l1, l2, q⟩ := h
    have nd := c_law_unlike.nd
    refine ⟨_, pss_cons (ps_par3 (i := 4) (j := 5) (l := 6) (by rfl) nd rfl rfl rfl (by decide) (by decide) (by decide) rfl rfl rfl (pa_cons (pe_n1 (ko := koP) hr (pe_tup (pa_cons (pv 2) (pa_cons (pv 3) pa_nil))) (pe_tup pa_nil)) (pa_cons (pe_lst (pa_cons (pe_tup (pa_cons (pv 2) (pa_cons (pv 3) pa_nil))) pa_nil)) (pa_cons pe_non pa_nil))) (by rfl))
      (pss_cons (ps_while PassesOwn.never (pt_cmpR (op_neNil hr) (pv 5) (pe_lst pa_nil) (nomark _))
        (pss_cons (ps_set (i := 7) nd rfl (.inl rfl) (pe_bm PySem.F.plainAttrs_list PySem.F.slot_list_pop PySem.F.type_list_pop mt_popAt (pv 5) (pa_cons pe_int pa_nil)))
        (pss_one (ps_for PassesOwn.never rfl (pi_range1 (by rfl) B.range (pa_cons (pe_callB call_len_seq (by rfl) B.len PySem.boot_len (pa_cons (pe_ix ix_tup (pv 0) pe_int (fun _ _ => rfl)) pa_nil)) pa_nil)) (pg_name (i := 8) nd rfl (.inl rfl))
          (pss_cons (ps_asg (pe_cl C1 hr (by decide) (pa_cons (pv 0) (pa_cons (pe_ix ix_tup (pv 7) pe_int (fun _ _ => rfl)) (pa_cons (pv 8) pa_nil)))) (pg_tup rfl (pgs_cons (pg_name (i := 9) nd rfl (.inl rfl)) (pgs_cons (pg_name (i := 10) nd rfl (.inl rfl)) pgs_nil))))
          (pss_cons (ps_asg (pe_cl C1 hr (by decide) (pa_cons (pv 1) (pa_cons (pe_ix ix_tup (pv 7) pe_int (fun _ _ => rfl)) (pa_cons (pv 9) pa_nil)))) (pg_tup rfl (pgs_cons (pg_name (i := 11) nd rfl (.inl rfl)) (pgs_cons (pg_name (i := 12) nd rfl (.inl rfl)) pgs_nil))))
          (pss_cons (PS.imp' (t' := tTell P w) (ps_if (PW.pt (pw_and (pt_cmpR op_ne (pv 11) (pv 8) (nomark _)) (pw_and1 (pt_cmpR op_isN (pv 6) pe_non (nomark _)))))
              (pss_one (ps_set (i := 6) nd rfl (.inl rfl) (pe_op op_catU (pe_nGet (ko := koP) hr (pv 4) (pv 7) (fun _ _ => rfl)) (pe_tup (pa_cons (pv 8) pa_nil))))) pss_nil) (fun D σ H ⟨d, hv, told, keys, here, i, l, e4, e6, e7, e8, e11, DA, dvh, hm, lk, tn, q⟩ => by
            refine ⟨_, e11, _, e8, rfl, _, rfl, ite2 (fun e => ?_) (fun e => ?_)⟩
            · have ne : l ≠ i := fun z => by
                subst z
                simp at e
              refine ⟨_, e6, rfl, _, rfl, ite2 (fun e2 => ?_) (fun e2 => ?_)⟩
              · refine ⟨_, e4, _, e7, d, keys, here, rfl, DA, dvh, hm, fun ra r hra hrl => ?_⟩
                refine ⟨_, e8, (by show 1 ≤ sizeLine; decide), fun T nT => ⟨ra, T, _, _, rfl, rfl, same_upd nT _ _ hra, upd_same, ?_, fun p8 H8 s8 e8 => ?_⟩⟩
                · rw [List.length_map]
                  show _ + 1 ≤ 100000
                  omega
                exact q H8 _ ((same_upd nT).trans s8) (fun z => absurd z ne) fun _ => ⟨_, r ++ [i], rfl, by rw [e8, List.map_append]; rfl⟩
              · have := q H told (Same.refl _) (fun _ => rfl) fun _ => by
                  rcases tn with z | z
                  · subst z
                    simp at e2
                  · exact z
                rw [set_self e6] at this
                exact this
            · have eq : l = i := Decidable.byContradiction fun z => e (by
                have : ¬ nV l = nV i := fun q => by
                  injection q with q
                  exact z (by omega)
                rw [decide_eq_false this]
                rfl)
              have := q H told (Same.refl _) (fun _ => rfl) fun z => absurd eq z
              rw [set_self e6] at this
              exact this))
          (pss_one (ps_if (pt_cmpR (op_nNotIn (ko := koP) hr) (pe_tup (pa_cons (pv 10) (pa_cons (pv 12) pa_nil))) (pv 4) (by rfl))
            (pss_cons (ps_asg (pe_op op_catU (pe_nGet (ko := koP) hr (pv 4) (pv 7) (fun _ _ => rfl)) (pe_tup (pa_cons (pv 8) pa_nil))) (pg_sub (pv 4) (pe_tup (pa_cons (pv 10) (pa_cons (pv 12) pa_nil))) (set_nPut (ko := koP) hr)))
            (pss_cons (ps_expr (pe_bm PySem.F.plainAttrs_list PySem.F.slot_list_append PySem.F.type_list_append mt_append (pv 5) (pa_cons (pe_tup (pa_cons (pv 10) (pa_cons (pv 12) pa_nil))) pa_nil)))
            (pss_one (ps_if (pt_cmpR op_gt (pe_callB (call_nLen (ko := koP)) (by rfl) B.len PySem.boot_len (pa_cons (pv 4) pa_nil)) pe_int (nomark _)) (pss_one (ps_ret pe_str)) pss_nil)))) pss_nil)))))))))
      (pss_one (ps_ret (pv 6)))), ?_⟩
    obtain ⟨ta, rfl, hta⟩ := DV.tr.mp ht
    obtain ⟨oa, rfl, hoa⟩ := DV.tr.mp ho
    have many : ∀ keys : List TT2, keys.Nodup → (∀ x ∈ keys, Reach (nxP k b) m p x) → 1000 < keys.length → Many k b m p := fun keys n a z => ⟨keys, n, a, z⟩
    refine ⟨_, rfl, _, rfl, (by show 2 ≤ sizeLine; decide), fun pa npa => ⟨Nat.zero_le _, fun p0 np0 => ?_⟩⟩
    have sa : Same H (upd H pa (.tup [.ref ta, .ref oa])) := same_upd npa
    have s0 := sa.trans (same_upd (o := .tup []) np0)
    have dvp : DV (upd (upd H pa (.tup [.ref ta, .ref oa])) p0 (.tup [])) (dTT p) (.ref pa) := DV.mk_tt (same_upd np0 _ _ upd_same) (s0 _ _ hta) (s0 _ _ hoa)
    have old : ∀ {H1 : Hp} {a : Addr}, Same H H1 → H1 a = none → H a = none := fun {H1 a} s n => by
      cases e : H a with
      | none => rfl
      | some o =>
        have := s _ _ e
        rw [n] at this
        cases this
    refine ⟨p, p0, dvp, rfl, upd_same, fun d0 o0 nd0 D0 => ?_⟩
    have s1 := s0.trans (same_upd (o := o0) nd0)
    refine ⟨_, rfl, _, rfl, (by show 2 ≤ sizeLine; decide), fun pb npb => ⟨(by show 1 ≤ sizeLine; decide), fun l0 nl0 => ⟨_, _, _, rfl, ?_⟩⟩⟩
    have sb := s1.trans (same_upd (o := .tup [.ref ta, .ref oa]) npb)
    have s2 := sb.trans (same_upd (o := .lst [.ref pb]) nl0)
    refine ⟨fun n σ H3 => ∃ (keys line : List TT2) (told : V) (rs : List Tr) (x7 x8 x9 x10 x11 x12 : Option V), σ = [some kv, some bv, some (.ref ta), some (.ref oa), some (.ref d0), some (.ref l0), some told, x7, x8, x9, x10, x11, x12] ∧ AtLot koP P w H H3 d0 l0 keys line ∧ Seen (nxP k b) m p keys line ∧
        Told (fun x => ∀ s, s < m → lastP k b x s = s) keys line rs ∧ TV H3 rs told ∧ n + 2 * keys.length = 2002 + line.length ∧ n ≤ 2001 ∧ keys.length ≤ 1000,
      ⟨2001, [p], [p], .non, [], none, none, none, none, none, none, rfl, ⟨s2, old s0 nd0, old sb nl0, (D0.same (same_upd npb)).same (same_upd nl0), _, upd_same, DVs.one (DV.mk_tt (same_upd nl0 _ _ upd_same) (s2 _ _ hta) (s2 _ _ hoa))⟩, .start, ⟨fun _ x hx => .inl hx, fun z => absurd rfl z⟩, .inl ⟨rfl, rfl⟩, rfl, Nat.le_refl _, by simp⟩, ?_⟩
    rintro n σ H3 ⟨keys, line, told, rs, x7, x8, x9, x10, x11, x12, rfl, AL, sn, tl, tv, en, n20, klen⟩
    obtain ⟨lx, hla, hlx⟩ := AL.lst
    refine ⟨_, rfl, Nat.zero_le _, fun ln nln => ⟨l0, ln, lx, _, rfl, rfl, same_upd nln _ _ hla, upd_same, hlx.same (same_upd nln), shaped_keys koP line, _, rfl, ?_⟩⟩
    have AL4 := AL.same (same_upd (o := .lst []) nln)
    cases line with
    | nil =>
      have whole := sn.whole
      have notMany : ¬ Many k b m p := fun ⟨l, ln, lr, lz⟩ => by
        have := sub_len ln fun x hx => (whole x).mpr (lr x hx)
        omega
      refine ⟨_, rfl, q _ _ AL4.sm ?_⟩
      rcases tv.same (same_upd (o := .lst []) nln) with ⟨rz, rfl⟩ | ⟨rz, a, r, rfl, har⟩
      · refine .inr (.inl ⟨rfl, notMany, fun x hx => ?_⟩)
        rcases tl.non rz x ((whole x).mpr hx) with z | z
        · cases z
        · exact z
      · refine .inr (.inr ⟨⟨a, r, rfl, har⟩, notMany, fun al => ?_⟩)
        obtain ⟨x, hx, ng⟩ := tl.one rz
        exact ng (al x ((whole x).mp hx))
    | cons here line =>
      obtain ⟨hv, lr, rfl, hhv, hlr⟩ := hlx
      have hla4 := same_upd (o := .lst []) nln _ _ hla
      have dv4 : DV (upd H3 ln (.lst [])) (dTT here) hv := DV.same (same_upd nln) hhv
      refine ⟨_, fun σ' H' h => h, ?_⟩
      refine ⟨_, rfl, .inl ⟨rfl, _, SqL.of hla4⟩, l0, _, 0, 0, hv, rfl, rfl, hla4, by decide, by decide, seq0 _, rfl, ?_⟩
      have AL5 : AtLot koP P w H (upd (upd H3 ln (.lst [])) l0 (.lst lr)) d0 l0 keys line := AL4.setl (hlr.same (same_upd nln))
      have dv5 : DV (upd (upd H3 ln (.lst [])) l0 (.lst lr)) (dTT here) hv := dv4.tups (tups_lst hla4) (koP.pur here)
      obtain ⟨okh, lh1, lh2⟩ := reachP_ok okk okb okp (sn.all here (sn.sub here List.mem_cons_self))
      have m6 := okk.m6
      have op := sn.open'
      obtain ⟨ka, kb, kxs, kys, rfl, hka, hkb, ekl⟩ := kd_settings hk okk
      refine ⟨_, rfl, ka, _, 0, .ref kb, rfl, rfl, SqT.of (AL5.sm _ _ hka), atN (j := 0) rfl, kb, kys, rfl, .inr (SqT.of (AL5.sm _ _ hkb)), _, rfl, by omega, by omega, for_range (lo := 0) (n := ((kys.length : Int)).toNat) (fun i σ H6 => ∃ (keys line : List TT2) (told : V) (rs : List Tr) (x8 x9 x10 x11 x12 : Option V),
          σ = [some (.ref ka), some bv, some (.ref ta), some (.ref oa), some (.ref d0), some (.ref l0), some told, some hv, x8, x9, x10, x11, x12] ∧ AtLot koP P w H H6 d0 l0 keys line ∧ DV H6 (dTT here) hv ∧ Seen1 (nxP k b) m p here i keys line ∧
          Told1 (fun x => ∀ s, s < m → lastP k b x s = s) (fun s => lastP k b here s = s) here i keys line rs ∧ TV H6 rs told ∧ 2003 + line.length ≤ n + 2 * keys.length ∧ keys.length ≤ 1000)
        ⟨keys, line, told, rs, x8, x9, x10, x11, x12, rfl, AL5, dv5, op, ⟨fun z x hx => ?_, fun _ s z => absurd z (Nat.not_lt_zero _), tl.one⟩, (tv.same (same_upd (o := .lst []) nln)).keep (tups_lst hla4), by simp at en ⊢; omega, klen⟩ ?_ ?_⟩
      · rcases tl.non z x hx with y | y
        · rcases List.mem_cons.mp y with e | e
          · exact .inr (.inl e)
          · exact .inl e
        · exact .inr (.inr y)
      · rintro i σ H6 hi ⟨keys, line, told, rs, x8, x9, x10, x11, x12, rfl, AL, dvh, sn, tl, tv, en, klen⟩
        have e0 : V.int (0 + (i : Int)) = nV i := by
          rw [Int.zero_add]
          rfl
        rw [e0]
        have him : i < m := by omega
        obtain ⟨okn, _, _, _⟩ := nxP_ok okk okb okh him
        obtain ⟨a1, a2, a3⟩ := latch_ok okk okh.1 him
        obtain ⟨ha, hx, hy, rfl, hha, hhx, hhy⟩ := dvh.tt
        refine ⟨_, rfl, _, rfl, ha, _, 0, .ref hx, rfl, rfl, SqT.of hha, atN (j := 0) rfl, _, rfl, k, m, here.1, i, .ref ka, .ref hx, rfl, hk.same AL.sm, DV.tr.mpr ⟨hx, rfl, hhx⟩, okk, okh.1, him, by omega, fun H7 v7 s7 ⟨c1, c2, ev, hc1, hc2⟩ => ?_⟩
        subst ev
        refine ⟨c1, _, rfl, SqT.of hc1, rfl, _, _, rfl, _, _, rfl, rfl, ?_⟩
        refine ⟨_, rfl, _, rfl, ha, _, 1, .ref hy, rfl, rfl, SqT.of (s7 _ _ hha), atN (j := 1) rfl, _, rfl, b, m, here.2, _, bv, .ref hy, rfl, (hb.same AL.sm).same s7, DV.tr.mpr ⟨hy, rfl, s7 _ _ hhy⟩, okb, okh.2, a1, by omega, fun H8 v8 s8 ⟨g1, g2, ev, hg1, hg2⟩ => ?_⟩
        subst ev
        refine ⟨g1, _, rfl, SqT.of hg1, rfl, _, _, rfl, _, _, rfl, rfl, ?_⟩
        have s78 := s7.trans s8
        have AL8 := AL.same s78
        have dvh8 : DV H8 (dTT here) (.ref ha) := DV.same s78 dvh
        refine ⟨d0, .ref ha, told, keys, here, i, lastP k b here i, rfl, rfl, rfl, rfl, rfl, AL8.dict, dvh8, sn.hk, by omega, ?_, fun H9 told' s9 eqr ner => ?_⟩
        · rcases tv.same s78 with ⟨_, z⟩ | ⟨_, z⟩
          · exact .inl z
          · exact .inr z
        have AL9 := AL8.same s9
        have dvh9 : DV H9 (dTT here) (.ref ha) := DV.same s9 dvh8
        have hc2' := s9 _ _ (s8 _ _ hc2)
        have hg2' := s9 _ _ hg2
        obtain ⟨rs', tv', tl'⟩ : ∃ rs' : List Tr, TV H9 rs' told' ∧ ∀ line', (∀ x ∈ line, x ∈ line') → ∀ keys', (∀ x ∈ keys, x ∈ keys') → (∀ x ∈ keys', x ∈ keys ∨ x ∈ line') → Told1 (fun x => ∀ s, s < m → lastP k b x s = s) (fun s => lastP k b here s = s) here (i + 1) keys' line' rs' := by
          by_cases z : lastP k b here i = i
          · refine ⟨rs, ?_, fun line' hl keys' hk' hk2 => ⟨fun e x hx => ?_, fun e s hs => ?_, fun e => ?_⟩⟩
            · rw [eqr z]
              exact (tv.same s78).same s9
            · rcases hk2 x hx with y | y
              · rcases tl.non e x y with y | y | y
                · exact .inl (hl x y)
                · exact .inr (.inl y)
                · exact .inr (.inr y)
              · exact .inl y
            · rcases Nat.lt_succ_iff_lt_or_eq.mp hs with y | y
              · exact tl.own e s y
              · rw [y]
                exact z
            · obtain ⟨x, hx, g⟩ := tl.one e
              exact ⟨x, hk' x hx, g⟩
          · refine ⟨[[]], .inr ⟨by simp, ner z⟩, fun line' hl keys' hk' hk2 => ⟨fun e => absurd e (by simp), fun e => absurd e (by simp), fun _ => ⟨here, hk' _ sn.hk, fun g => z (g i him)⟩⟩⟩
        refine ⟨_, rfl, _, rfl, (by show 2 ≤ sizeLine; decide), fun K1 nK1 => ?_⟩
        have e1 := same_upd (o := .tup [.ref c2, .ref g2]) nK1
        have ALa := AL9.same e1
        have dva : DV (upd H9 K1 (.tup [.ref c2, .ref g2])) (dTT (nxP k b here i)) (.ref K1) := DV.mk_tt upd_same (e1 _ _ hc2') (e1 _ _ hg2')
        have dvha := dvh9.same e1
        refine ⟨_, rfl, d0, keys, nxP k b here i, rfl, ALa.dict, dva, _, rfl, ite2 (fun e => ?_) (fun e => ?_)⟩
        · have hn : nxP k b here i ∉ keys := by simpa using e
          refine ⟨_, rfl, _, rfl, d0, keys, here, rfl, ALa.dict, dvha, sn.hk, fun ra r hra hrl => ?_⟩
          refine ⟨_, rfl, (by show 1 ≤ sizeLine; decide), fun T nT => ⟨ra, T, _, _, rfl, rfl, same_upd nT _ _ hra, upd_same, ?_, fun p8 Hb sb' eb => ?_⟩⟩
          · rw [List.length_map]
            show _ + 1 ≤ 100000
            omega
          have sab := (same_upd (o := .tup [nV i]) nT).trans sb'
          have ALb := ALa.same sab
          refine ⟨_, rfl, _, rfl, _, rfl, (by show 2 ≤ sizeLine; decide), fun K2 nK2 => ?_⟩
          have e2 := same_upd (o := .tup [.ref c2, .ref g2]) nK2
          have ALc := ALb.same e2
          have h1 := e2 _ _ (sab _ _ (e1 _ _ hc2'))
          have h2 := e2 _ _ (sab _ _ (e1 _ _ hg2'))
          have dvc : DV (upd Hb K2 (.tup [.ref c2, .ref g2])) (dTT (nxP k b here i)) (.ref K2) := DV.mk_tt upd_same h1 h2
          have dvhc := (dvha.same sab).same e2
          refine ⟨d0, keys, nxP k b here i, p8, r ++ [i], rfl, ALc.dict, dvc, hn, rfl, by rw [e2 _ _ eb, List.map_append]; rfl, by rw [List.length_append]; exact hrl, by omega, fun o9 D9 => ?_⟩
          have ALd := ALc.setd D9
          have t9 := ALc.dict.tups_dict o9
          refine ⟨_, rfl, ?_⟩
          obtain ⟨lx9, hla9, hlx9⟩ := ALd.lst
          refine ⟨.inl ⟨rfl, _, SqL.of hla9⟩, _, rfl, _, rfl, (by show 2 ≤ sizeLine; decide), fun K3 nK3 => ?_⟩
          have e3 := same_upd (o := .tup [.ref c2, .ref g2]) nK3
          have ALe := ALd.same e3
          have dve : DV (upd (upd (upd Hb K2 (.tup [.ref c2, .ref g2])) d0 o9) K3 (.tup [.ref c2, .ref g2])) (dTT (nxP k b here i)) (.ref K3) := DV.mk_tt upd_same (e3 _ _ (t9 _ _ h1)) (e3 _ _ (t9 _ _ h2))
          have hlaE := e3 _ _ hla9
          have elx := hlx9.length
          rw [List.length_map] at elx
          refine ⟨l0, _, _, rfl, rfl, hlaE, fitsLt (by omega), ?_⟩
          have sn' := sn.new him hn
          have lk : (keys ++ [nxP k b here i]).length = keys.length + 1 := by
            rw [List.length_append]
            rfl
          have ALf : AtLot koP P w H (upd (upd (upd (upd Hb K2 (.tup [.ref c2, .ref g2])) d0 o9) K3 (.tup [.ref c2, .ref g2])) l0 (.lst (lx9 ++ [.ref K3]))) d0 l0 (keys ++ [nxP k b here i]) (line ++ [nxP k b here i]) := ALe.setl (by
            rw [List.map_append]
            exact (hlx9.same e3).append (DVs.one dve))
          refine ⟨_, rfl, _, _, rfl, ALf.dict, by omega, _, _, rfl, rfl, _, rfl, ite2 (fun e => ?_) (fun e => ?_)⟩
          · have big : 1000 < (keys ++ [nxP k b here i]).length := by
              have : ((keys ++ [nxP k b here i]).length : Int) > 1000 := by simpa using e
              omega
            exact q _ _ ALf.sm (.inl ⟨rfl, many _ sn'.nd sn'.all big⟩)
          · have small : (keys ++ [nxP k b here i]).length ≤ 1000 := by
              have : ¬ ((keys ++ [nxP k b here i]).length : Int) > 1000 := by simpa using e
              omega
            refine ⟨_, _, _, rs', _, _, _, _, _, rfl, ALf, ((dvhc.tups t9 (koP.pur here)).same e3).tups (tups_lst hlaE) (koP.pur here), sn', tl' _ (fun x hx => List.mem_append_left _ hx) _ (fun x hx => List.mem_append_left _ hx) (fun x hx => ?_), ((((tv'.same e1).same sab).same e2).keep t9 |>.same e3).keep (tups_lst hlaE), ?_, small⟩
            · rcases List.mem_append.mp hx with y | y
              · exact .inl y
              · exact .inr (List.mem_append_right _ y)
            · rw [List.length_append, List.length_append]
              show 2003 + (line.length + 1) ≤ n + 2 * (keys.length + 1)
              omega
        · have hn : nxP k b here i ∈ keys := by simpa using e
          exact ⟨_, _, _, rs', _, _, _, _, _, rfl, ALa, dvha, sn.old hn, tl' _ (fun x hx => hx) _ (fun x hx => hx) (fun x hx => .inl hx), tv'.same e1, en, klen⟩
      · rintro σ H6 ⟨keys, line, told, rs, x8, x9, x10, x11, x12, rfl, AL, dvh, sn, tl, tv, en, klen⟩
        have em : ((kys.length : Int)).toNat = m := by omega
        rw [em] at sn tl
        refine ⟨2002 + line.length - 2 * keys.length, by omega, keys, line, told, rs, _, _, _, _, _, _, rfl, AL, sn.close, ⟨fun z x hx => ?_, tl.one⟩, tv, by omega, by omega, klen⟩
        rcases tl.non z x hx with y | y | y
        · exact .inl y
        · rw [y]
          exact .inr (tl.own z)
        · exact .inr y
end
end K36
set_option Elab.async false
set_option linter.all false
set_option maxRecDepth 100000
set_option maxHeartbeats 4000000
namespace K36
open PySem PySem.Spec PyProof.Rows L2
/-- where a latch lets each setting out, by a train -/
def outs (k : Kd) (m : Nat) (x : Tr) : List Nat := (List.range m).map fun s => (latch k x s).1
/-- no train that comes of one loses -/
def LawKeeps (k : Kd) (m : Nat) (t : Tr) : Prop := ∀ x, Reach (nxT k) m t x → (outs k m x).Nodup
section
variable {P : Program} {w : World} {K : PySem.W.Frag} {mg : Str → Option Value} {base : Heap}
def spLLoses (w : World) : Sp := fun vs H Q _ => ∃ (k : Kd) (m : Nat) (t : Tr) (kv tv : V), vs = [kv, tv] ∧ DV H (dK k) kv ∧ DV H (dT t) tv ∧ OkK k m ∧ OkT k.length t ∧ t.length ≤ 1000 ∧ FewT w k m t 900 ∧ ∀ H' v, Same H H' → (v = .non ↔ LawKeeps k m t) → Q v H'
theorem k_law_loses_at (D : Df K mg "_law_loses_at" "_law_loses_at" s_law_loses_at) (B : Bl mg) (C1 : Cl P w K mg base 3 "_law_latch" spLatch) (C2 : Cl P w K mg base 4 "_law_lot" (spLLot P w)) : Cl P w K mg base 5 "_law_loses_at" (spLLoses w) := by
  refine D.cl c_law_loses_at (fun _ _ _ _ _ _ us hl => match us, hl with | [_, _], _ => rfl) (fun vs H Q E h => ?_) (fun f cdv A outer s H vs Q E hr h => ?_)
  · obtain ⟨k, m, t, kv, tv, rfl, _⟩ := h
    rfl
  · obtain ⟨k, m, t, kv, tv, rfl, hk, ht, ok, okt, hlen, few, q⟩ := h
    have nd := c_law_loses_at.nd
    refine ⟨_, pss_cons (ps_set (i := 2) nd rfl (.inl rfl) (pe_cl C2 hr (by decide) (pa_cons (pv 0) (pa_cons (pv 1) (pa_cons pe_int pa_nil)))))
      (pss_cons (ps_set (i := 3) nd rfl (.inl rfl) (pe_lst pa_nil))
      (pss_cons (ps_for PassesOwn.never rfl (pi_nk (ko := koT) (pv 2)) (pg_name (i := 4) nd rfl (.inr rfl))
        (pss_cons (ps_setLc (i := 5) (own := [("_law_setting", 6)]) (g := gName 6) (tt := tYes) (by rfl) nd rfl rfl (sw_true rfl rfl rfl (by decide +kernel))
            (pi_range1 (by rfl) B.range (pa_cons (pe_callB call_len_seq (by rfl) B.len PySem.boot_len (pa_cons (pe_ix ix_tup (pv 0) pe_int (fun _ _ => rfl)) pa_nil)) pa_nil)) (blkOk_by (N := n_law_loses_at) (sc := defScope s_law_loses_at) (by decide +kernel))
            (fun _ _ _ _ _ => pg_name (i := 6) nd rfl (Or.inl rfl)) (fun _ _ _ _ _ => pts_nil) (fun _ _ _ _ _ => pe_ix (ix_tupK (K := K) rfl) (pe_cl C1 hr (by decide) (pa_cons (pv 0) (pa_cons (pv 4) (pa_cons (pv 6) pa_nil)))) pe_int (fun _ _ => rfl)))
        (pss_one (ps_if (pt_cmpR op_lt (pe_callB call_setLen (by rfl) B.len PySem.boot_len (pa_cons (pe_callTy (call_setL rfl) (by rfl) B.set (by decide +kernel) (pa_cons (pv 5) pa_nil)) pa_nil)) (pe_callB call_len_seq (by rfl) B.len PySem.boot_len (pa_cons (pv 5) pa_nil)) (nomark _))
          (pss_one (ps_expr (pe_bm PySem.F.plainAttrs_list PySem.F.slot_list_append PySem.F.type_list_append mt_append (pv 3) (pa_cons (pe_op op_add (pe_callB call_len_seq (by rfl) B.len PySem.boot_len (pa_cons (pe_nGet (ko := koT) hr (pv 2) (pv 4) (fun _ _ => rfl)) pa_nil)) pe_int) pa_nil)))) pss_nil))))
      (pss_one (ps_ret (pe_ifExp (pt_cmpR (op_neNil hr) (pv 3) (pe_lst pa_nil) (nomark _)) (pe_callB (cr_min rfl) (by rfl) B.min (by decide +kernel) (pa_cons (pv 3) pa_nil)) pe_non))))), ?_⟩
    refine ⟨_, rfl, _, rfl, k, m, t, kv, tv, rfl, hk, ht, ok, okt, hlen, few, fun H1 d keys s1 DA mem => ?_⟩
    refine ⟨Nat.zero_le _, fun fa nfa => ?_⟩
    have sf := same_upd (o := .lst []) nfa
    have s2 := s1.trans sf
    have DA2 := DA.same sf
    have keyn : keys.Nodup := by
      obtain ⟨_, _, _, n, _⟩ := DA
      exact n
    have klen := few.few keys keyn fun x hx => (mem x).mp hx
    obtain ⟨ka, kb, kxs, kys, rfl, hka, hkb, ekl⟩ := kd_settings hk ok
    have m6 := ok.m6
    refine ⟨_, rfl, d, keys, rfl, DA2, fun xs ep ek hd hdv => ?_⟩
    have xlen : xs.length = keys.length := by rw [← ek, List.length_map]
    have hd1 : H1 d = some (dN P w d ep (ents koT xs)) := by
      have ne : d ≠ fa := fun e => by
        rw [e, upd_same] at hd
        exact dN_ne_lst (Option.some.inj hd)
      have hd' : upd H1 fa (.lst []) d = some (dN P w d ep (ents koT xs)) := hd
      rwa [upd_ne ne] at hd'
    refine for_gen xs.length (fun i x => ∃ z, xs[i]? = some z ∧ x = .ref z.2.1) (fun i σ H3 => ∃ (x4 x5 x6 : Option V) (ns : List Int), σ = [some (.ref ka), some tv, some (.ref d), some (.ref fa), x4, x5, x6] ∧ Same H1 H3 ∧ H3 fa = some (.lst (ns.map V.int)) ∧ ns.length ≤ i ∧ (ns = [] ↔ ∀ x ∈ keys.take i, (outs k m x).Nodup))
      ⟨none, none, none, [], rfl, sf, upd_same, by simp, by simp⟩ (fun i σ H3 lt ⟨_, _, _, _, _, s3, _⟩ => ⟨s3 _ _ hd1, lt⟩) (fun σ H3 ⟨_, _, _, _, _, s3, _⟩ => ⟨s3 _ _ hd1, Nat.le_refl _⟩) (fun i σ H3 x H' lt _ y => y) ?_ ?_
    · rintro i x σ H3 lt ⟨z, hz, rfl⟩ ⟨x4, x5, x6, ns, rfl, s3, hfa, nl, iff⟩
      have hkz : keys[i]? = some z.1 := by rw [← ek, List.getElem?_map, hz]; rfl
      have hzm := List.mem_of_getElem? hz
      have rz := (mem z.1).mp (List.mem_of_getElem? hkz)
      obtain ⟨okz, lz⟩ := reach_ok ok okt rz
      have nofa : H fa = none := by
        cases e : H fa with
        | none => rfl
        | some o =>
          have := s1 _ _ e
          rw [nfa] at this
          cases this
      have s13 := s1.trans s3
      have dz1 : DV H1 (dT z.1) (.ref z.2.1) := by
        have e := hdv z hzm
        have back : ∀ b ys, upd H1 fa (.lst []) b = some (.tup ys) → H1 b = some (.tup ys) := fun b ys e => by
          by_cases hb : b = fa
          · rw [hb, upd_same] at e
            cases e
          · rwa [upd_ne hb] at e
        exact DV.tups back (koT.pur z.1) e
      have dz := dz1.same s3
      refine ⟨_, rfl, ka, _, 0, .ref kb, rfl, rfl, SqT.of (s13 _ _ hka), atN (j := 0) rfl, kb, kys, rfl, .inr (SqT.of (s13 _ _ hkb)), _, rfl, by omega, by omega, fun D1 nD => lc_rngS (n := ((kys.length : Int)).toNat) (fun j G y => y = nV (latch k z.1 j).1) nD (by omega) (fun _ => rfl) (fun j G G' y _ e => e) (fun j H4 Q hj s4 q => ?_) (fun H4 ys s4 eD ely hy => ?_)⟩
      · have s14 := s13.trans s4
        refine ⟨_, rfl, _, rfl, _, rfl, k, m, z.1, j, .ref ka, .ref z.2.1, rfl, hk.same s14, dz.same s4, ok, okz, by omega, by omega, fun H5 v s5 ⟨pa, pb, ev, hpa, _⟩ => ?_⟩
        subst ev
        exact ⟨pa, _, 0, _, rfl, rfl, SqT.of hpa, atN (j := 0) rfl, q _ _ s5 rfl⟩
      · have em : ((kys.length : Int)).toNat = m := by omega
        rw [em] at ely
        have eys : ys = (outs k m z.1).map nV := by
          rw [list_of_at (f := fun j => nV (latch k z.1 j).1) ely hy]
          unfold outs
          rw [List.map_map]
          rfl
        have lo : (outs k m z.1).length = m := by
          unfold outs
          rw [List.length_map, List.length_range]
        have hfa4 := s4 _ _ hfa
        refine ⟨_, rfl, D1, (outs k m z.1).map Int.ofNat, rfl, SqL.of (by rw [eD, eys, map_nV]), by rw [List.length_map]; omega, fun p c np hc ⟨ks, kn, kl, km⟩ => ?_⟩
        have cnt := nodup_sub kn km
        rw [nodup_ints, List.length_map] at cnt
        rw [List.length_map] at hc
        have e4 := same_upd (o := SetO w p (fun j => decide (j ∈ (outs k m z.1).map Int.ofNat)) c) np
        refine ⟨p, _, c, rfl, upd_same, by omega, _, rfl, D1, ys, rfl, .inl (SqL.of (e4 _ _ eD)), _, _, rfl, rfl, _, rfl, ite2 (fun e => ?_) (fun e => ?_)⟩
        · have lose : ¬ (outs k m z.1).Nodup := fun n => by
            have := cnt.2.mpr n
            have : (c : Int) < (ys.length : Int) := by simpa using e
            omega
          obtain ⟨_, _, _, _, _, _, _⟩ := id DA
          have D6 : DictAt koT P w (upd H4 p (SetO w p (fun j => decide (j ∈ (outs k m z.1).map Int.ofNat)) c)) d keys := DA.same (s3.trans (s4.trans e4))
          refine ⟨_, rfl, .inl ⟨rfl, _, SqL.of (e4 _ _ hfa4)⟩, _, rfl, _, rfl, d, keys, z.1, rfl, D6, (dz.same s4).same e4, List.mem_of_getElem? hkz, fun ra r hra hrl => ?_⟩
          refine ⟨ra, _, rfl, .inr (SqT.of hra), _, _, rfl, rfl, fa, _, _, rfl, rfl, e4 _ _ hfa4, ?_, ?_⟩
          · rw [List.length_map]
            exact fitsLt (by omega)
          · refine ⟨_, _, _, ns ++ [((r.map nV).length : Int) + 1], rfl, same_upd2 (s3.trans (s4.trans e4)) nfa, by rw [upd_same, List.map_append]; rfl, by rw [List.length_append]; exact Nat.succ_le_succ nl, ?_⟩
            constructor
            · intro z
              simp at z
            · intro h
              refine absurd (h z.1 ?_) lose
              rw [List.take_add_one, hkz]
              exact List.mem_append_right _ (List.mem_singleton.mpr rfl)
        · have keep : (outs k m z.1).Nodup := Decidable.byContradiction fun n => e (by
            have h1 : ks.length ≠ (outs k m z.1).length := fun q => n (cnt.2.mp q)
            have h2 : ys.length = m := ely
            apply decide_eq_true
            omega)
          refine ⟨_, _, _, ns, rfl, s3.trans (s4.trans e4), e4 _ _ hfa4, by omega, ?_⟩
          rw [iff]
          constructor
          · intro h x hx
            rw [List.take_add_one, hkz] at hx
            rcases List.mem_append.mp hx with y | y
            · exact h x y
            · rw [List.mem_singleton.mp y]
              exact keep
          · intro h x hx
            refine h x ?_
            rw [List.take_add_one]
            exact List.mem_append_left _ hx
    · rintro σ H3 ⟨x4, x5, x6, ns, rfl, s3, hfa, nl, iff⟩
      have tk : keys.take xs.length = keys := by
        rw [xlen]
        exact List.take_length
      rw [tk] at iff
      have iff2 : ns = [] ↔ LawKeeps k m t := by
        rw [iff]
        exact ⟨fun h x hx => h x ((mem x).mpr hx), fun h x hx => h x ((mem x).mp hx)⟩
      refine ⟨_, rfl, Nat.zero_le _, fun ln nln => ⟨fa, ln, _, ns.map PyData.int, rfl, rfl, same_upd nln _ _ hfa, upd_same, ?_, shaped_list (fun d hd => ?_), _, rfl, ite2 (fun e => ?_) (fun e => ?_)⟩⟩
      · refine DVs.of_at (by rw [List.length_map, List.length_map]) fun j y hy => ?_
        rw [List.getElem?_map] at hy
        cases en : ns[j]? with
        | none => rw [en] at hy; cases hy
        | some n =>
          rw [en] at hy
          exact ⟨.int n, by rw [List.getElem?_map, en]; rfl, (Option.some.inj hy).symm⟩
      · obtain ⟨n, _, rfl⟩ := List.mem_map.mp hd
        exact ⟨rfl, by simp [PyData.depth]⟩
      · have ne : ns ≠ [] := fun z => by
          subst z
          simp at e
        refine ⟨_, rfl, fa, ns, rfl, SqL.of (same_upd nln _ _ hfa), List.length_pos_iff.mpr ne, fun mm _ _ => q _ _ (s1.trans (s3.trans (same_upd nln))) ?_⟩
        exact ⟨fun z => (by cases z), fun z => absurd (iff2.mpr z) ne⟩
      · have ez : ns = [] := by simpa using e
        exact q _ _ (s1.trans (s3.trans (same_upd nln))) ⟨fun _ => iff2.mp ez, fun _ => rfl⟩
end
end K36
set_option Elab.async false
set_option linter.all false
set_option maxRecDepth 100000
set_option maxHeartbeats 4000000
namespace K36
open PySem PySem.Spec PyProof.Rows L2
/-! ### the cup -/
abbrev cupO (x y : Int) : HO := .lst [.int x, .int y]
def Cup (H : Hp) (c : Addr) : Prop := ∃ x y : Int, H c = some (cupO x y)
section
variable {P : Program} {w : World} {K : PySem.W.Frag} {mg : Str → Option Value} {base : Heap}
def spCup (K : PySem.W.Frag) : Sp := fun vs H Q _ => ∃ (a : Addr) (ns : List Int), vs = [.ref a] ∧ SqL K H a (ns.map V.int) ∧ ns.length ≤ 63 ∧ ∀ H' c, Same H H' → H c = none → Cup H' c → Q (.ref c) H'
theorem k_law_cup (D : Df K mg "_law_cup" "_law_cup" s_law_cup) (B : Bl mg) : Cl P w K mg base 1 "_law_cup" (spCup K) := by
  refine D.cl c_law_cup (fun _ _ _ _ _ _ us hl => match us, hl with | [_], _ => rfl) (fun vs H Q E h => ?_) (fun f cdv A outer s H vs Q E hr h => ?_)
  · obtain ⟨a, ns, rfl, _⟩ := h
    rfl
  · obtain ⟨a, ns, rfl, ha, hn, q⟩ := h
    have nd := c_law_cup.nd
    refine ⟨_, pss_cons (ps_set (i := 1) nd rfl (.inl rfl) (pe_callB call_abs (by rfl) B.abs (by decide +kernel) (pa_cons (pe_ix ix_list (pe_op op_cat (pe_callTy call_list_of (by rfl) B.list (by decide +kernel) (pa_cons (pv 0) pa_nil)) (pe_lst (pa_cons pe_int pa_nil))) pe_int (fun _ _ => rfl)) pa_nil)))
      (pss_one (ps_ret (pe_lst (pa_cons (pe_ifExp (pt_cmpR op_ge (pv 1) (pe_op op_pow pe_int pe_int) (nomark _)) (pe_op op_fdivN (pv 1) pe_int) pe_int)
        (pa_cons (pe_op op_add (pe_op op_modN (pe_callTy call_int1 (by rfl) B.int (by decide +kernel) (pa_cons (pe_op op_add (pe_op op_mul (pv 1) pe_int) pe_int) pa_nil)) pe_int) pe_int) pa_nil))))), ?_⟩
    refine ⟨_, rfl, a, _, rfl, .inl ha, fun l nl => ?_⟩
    have s1 := same_upd (o := .lst (ns.map V.int)) nl
    refine ⟨(by show 1 ≤ sizeLine; decide), fun l2 nl2 => ?_⟩
    have s2 := same_upd (o := .lst [.int 0]) nl2
    refine ⟨_, _, _, _, rfl, rfl, s2 _ _ upd_same, upd_same, fits (by rw [List.length_map]; show ns.length + 1 ≤ 100000; omega), fun p np => ?_⟩
    have s3 := same_upd (o := .lst (ns.map V.int ++ [.int 0])) np
    obtain ⟨z, hz⟩ : ∃ z : Int, (ns.map V.int ++ [V.int 0])[0]? = some (.int z) := by
      cases ns with
      | nil => exact ⟨0, rfl⟩
      | cons n r => exact ⟨n, rfl⟩
    refine ⟨p, _, 0, .int z, rfl, rfl, SqL.of upd_same, atN (j := 0) hz, _, rfl, ?_⟩
    have sm := s1.trans (s2.trans s3)
    have fin : ∀ (H0 : Hp) (u v : Int), Same H H0 → ∀ c, H0 c = none → Q (.ref c) (upd H0 c (cupO u v)) := fun H0 u v s0 c nc => q _ c (s0.trans (same_upd nc)) (by
      cases e : H c with
      | none => rfl
      | some o =>
        have := s0 _ _ e
        rw [nc] at this
        cases this) ⟨u, v, upd_same⟩
    refine ⟨_, rfl, _, _, rfl, rfl, ⟨by decide, by decide, by decide⟩, _, _, rfl, rfl, _, rfl, ite2 (fun e => ?_) (fun e => ?_)⟩
    · refine ⟨_, rfl, _, _, rfl, rfl, ⟨by decide, by decide⟩, _, rfl, _, _, rfl, rfl, .inr ⟨by decide, by decide⟩, _, _, rfl, rfl, .inl ⟨_, rfl, ?_⟩⟩
      refine ⟨_, _, rfl, rfl, (by show (2077503613 : Int) ≠ 0; decide), _, _, rfl, rfl, (by show 2 ≤ sizeLine; decide), fun c nc => fin _ _ _ sm c nc⟩
    · refine ⟨_, rfl, _, _, rfl, rfl, .inr ⟨by decide, by decide⟩, _, _, rfl, rfl, .inl ⟨_, rfl, ?_⟩⟩
      refine ⟨_, _, rfl, rfl, (by show (2077503613 : Int) ≠ 0; decide), _, _, rfl, rfl, (by show 2 ≤ sizeLine; decide), fun c nc => fin _ _ _ sm c nc⟩
def spRoll : Sp := fun vs H Q _ => ∃ (c : Addr) (many : Nat), vs = [.ref c, nV many] ∧ 1 ≤ many ∧ many ≤ 1000000 ∧ Cup H c ∧ ∀ (x y : Int) (r : Nat), r < many → Q (nV r) (upd H c (cupO x y))
theorem k_law_roll (D : Df K mg "_law_roll" "_law_roll" s_law_roll) (B : Bl mg) : Cl P w K mg base 1 "_law_roll" spRoll := by
  refine D.cl c_law_roll (fun _ _ _ _ _ _ us hl => match us, hl with | [_, _], _ => rfl) (fun vs H Q E h => ?_) (fun f cdv A outer s H vs Q E hr h => ?_)
  · obtain ⟨c, m, rfl, _⟩ := h
    rfl
  · obtain ⟨c, m, rfl, m1, m6, ⟨x, y, hc⟩, q⟩ := h
    have nd := c_law_roll.nd
    refine ⟨_, pss_cons (ps_if (pt_cmpR op_gt (pe_ix ix_list (pv 0) pe_int (fun _ _ => rfl)) pe_int (nomark _))
        (pss_cons (ps_set (i := 2) nd rfl (.inl rfl) (pe_op op_modN (pe_callTy call_int1 (by rfl) B.int (by decide +kernel) (pa_cons (pe_ix ix_list (pv 0) pe_int (fun _ _ => rfl)) pa_nil)) (pv 1)))
        (pss_cons (ps_asg (pe_op op_fdivN (pe_ix ix_list (pv 0) pe_int (fun _ _ => rfl)) (pv 1)) (pg_sub (pv 0) pe_int set_list))
        (pss_one (ps_ret (pv 2))))) pss_nil)
      (pss_cons (ps_asg (pe_op op_modN (pe_callTy call_int1 (by rfl) B.int (by decide +kernel) (pa_cons (pe_op op_add (pe_op op_mul (pe_ix ix_list (pv 0) pe_int (fun _ _ => rfl)) pe_int) pe_int) pa_nil)) pe_int) (pg_sub (pv 0) pe_int set_list))
      (pss_cons (ps_set (i := 3) nd rfl (.inl rfl) (pe_op op_modN (pe_callTy call_int1 (by rfl) B.int (by decide +kernel) (pa_cons (pe_op op_mul (pe_ix ix_list (pv 0) pe_int (fun _ _ => rfl)) (pe_op op_add (pe_ix ix_list (pv 0) pe_int (fun _ _ => rfl)) pe_int)) pa_nil)) pe_int))
      (pss_one (ps_ret (pe_op op_modN (pe_callTy call_int1 (by rfl) B.int (by decide +kernel) (pa_cons (pe_op op_fdivN (pv 3) pe_int) pa_nil)) (pv 1)))))), ?_⟩
    have fm : ∀ z : Int, ∃ r : Nat, r < m ∧ V.int (z.fmod (m : Int)) = nV r := fun z => by
      have h1 := Int.fmod_nonneg_of_pos z (b := (m : Int)) (by omega)
      have h2 := Int.fmod_lt_of_pos z (b := (m : Int)) (by omega)
      exact ⟨(z.fmod (m : Int)).toNat, by omega, by unfold nV; congr 1; omega⟩
    refine ⟨_, rfl, c, _, 0, .int x, rfl, rfl, SqL.of hc, atN (j := 0) rfl, _, _, rfl, rfl, _, rfl, ite2 (fun e => ?_) (fun e => ?_)⟩
    · refine ⟨_, rfl, c, _, 0, .int x, rfl, rfl, SqL.of hc, atN (j := 0) rfl, .inl ⟨_, rfl, _, rfl, _, _, rfl, rfl, (by omega), ?_⟩⟩
      refine ⟨_, rfl, c, _, 0, .int x, rfl, rfl, SqL.of hc, atN (j := 0) rfl, _, rfl, _, _, rfl, rfl, ⟨by omega, by omega⟩, _, rfl, c, _, _, 0, rfl, rfl, hc, rfl, ?_⟩
      obtain ⟨r, hr1, er⟩ := fm x
      refine ⟨_, rfl, ?_⟩
      show Q (V.int (x.fmod (m : Int))) _
      rw [er]
      exact q _ _ r hr1
    · have b1 := Int.fmod_nonneg_of_pos (y * 30937 + 7907) (b := 2147483477) (by decide)
      have b2 := Int.fmod_lt_of_pos (y * 30937 + 7907) (b := 2147483477) (by decide)
      refine ⟨_, rfl, c, _, 1, .int y, rfl, rfl, SqL.of hc, atN (j := 1) rfl, _, _, rfl, rfl, .inr ⟨by decide, by decide⟩, _, _, rfl, rfl, .inl ⟨_, rfl, _, _, rfl, rfl, (by show (2147483477 : Int) ≠ 0; decide), ?_⟩⟩
      refine ⟨_, rfl, c, _, _, 1, rfl, rfl, hc, rfl, ?_⟩
      refine ⟨_, rfl, c, _, 1, .int ((y * 30937 + 7907).fmod 2147483477), rfl, rfl, SqL.of upd_same, atN (j := 1) rfl, ?_⟩
      refine ⟨_, rfl, c, _, 1, .int ((y * 30937 + 7907).fmod 2147483477), rfl, rfl, SqL.of upd_same, atN (j := 1) rfl, _, _, rfl, rfl, _, _, rfl, rfl, .inl ⟨by omega, by omega⟩, .inl ⟨_, rfl, _, _, rfl, rfl, (by show (2147483587 : Int) ≠ 0; decide), ?_⟩⟩
      refine ⟨_, rfl, _, _, rfl, rfl, ⟨by decide, by decide⟩, .inl ⟨_, rfl, _, rfl, _, _, rfl, rfl, (by omega), ?_⟩⟩
      obtain ⟨r, hr1, er⟩ := fm ((((y * 30937 + 7907).fmod 2147483477) * (((y * 30937 + 7907).fmod 2147483477) + 181)).fmod 2147483587 |>.fdiv 757)
      show Q (V.int ((((((y * 30937 + 7907).fmod 2147483477) * (((y * 30937 + 7907).fmod 2147483477) + 181)).fmod 2147483587).fdiv 757).fmod (m : Int))) _
      rw [er]
      exact q _ _ r hr1
def spSome : Sp := fun vs H Q _ => ∃ (c p : Addr) (xs : List V), vs = [.ref c, .ref p] ∧ H p = some (.lst xs) ∧ p ≠ c ∧ Cup H c ∧ 1 ≤ xs.length ∧ xs.length ≤ 1000 ∧ ∀ (x y : Int) v, v ∈ xs → Q v (upd H c (cupO x y))
theorem k_law_some (D : Df K mg "_law_some" "_law_some" s_law_some) (B : Bl mg) (C1 : Cl P w K mg base 1 "_law_roll" spRoll) : Cl P w K mg base 2 "_law_some" spSome := by
  refine D.cl c_law_some (fun _ _ _ _ _ _ us hl => match us, hl with | [_, _], _ => rfl) (fun vs H Q E h => ?_) (fun f cdv A outer s H vs Q E hr h => ?_)
  · obtain ⟨c, p, xs, rfl, _⟩ := h
    rfl
  · obtain ⟨c, p, xs, rfl, hp, ne, hc, l1, l2, q⟩ := h
    refine ⟨_, pss_one (ps_ret (pe_ix ix_list (pv 1) (pe_cl C1 hr (by decide) (pa_cons (pv 0) (pa_cons (pe_callB call_len_seq (by rfl) B.len PySem.boot_len (pa_cons (pv 1) pa_nil)) pa_nil))) (fun _ _ => rfl))), ?_⟩
    refine ⟨_, rfl, _, rfl, _, rfl, p, xs, rfl, .inl (SqL.of hp), c, xs.length, rfl, l1, by omega, hc, fun x y r hr => ?_⟩
    exact ⟨p, xs, _, xs[r], rfl, rfl, SqL.of (by rw [upd_ne ne]; exact hp), atN (List.getElem?_eq_getElem hr), q x y _ (List.getElem_mem hr)⟩
end
end K36
set_option Elab.async false
set_option linter.all false
set_option maxRecDepth 100000
set_option maxHeartbeats 4000000
namespace K36
open PySem PySem.Spec PyProof.Rows L2
/-! ### written tuples of numbers -/
def litsD (f : Expr → Option PyData) : List Expr → Option (List PyData)
  | [] => some []
  | e :: es => match f e, litsD f es with
    | some d, some ds => some (d :: ds)
    | _, _ => none
def litD : Nat → Expr → Option PyData
  | n + 1, .Tuple es _ _ => if es.length ≤ 1000 then (litsD (litD n) es).map .tuple else none
  | _, .Constant (.int i) _ _ => some (.int i)
  | _, _ => none
def tLit (d : PyData) : TE := fun _ H Q => ∀ H' v, Same H H' → DV H' d v → Q v H'
def tLits (ds : List PyData) : TA := fun _ H Q => ∀ H' vs, Same H H' → DVs H' ds vs → Q vs H'
theorem PA.imp' {X : Cx} {es : List Expr} {t t' : TA} (h : PA X es t) (i : ∀ σ H Q, t' σ H Q → t σ H Q) : PA X es t' := ⟨fun pos pins s σ H Q I q => h.run pos pins s σ H Q I (i σ H Q q)⟩
theorem pa_lits {X : Cx} {f : Expr → Option PyData} (hf : ∀ e d, f e = some d → PE X e (tLit d) ∧ ∀ es, starEach (e :: es) X.env = (false, eval e X.env) :: starEach es X.env) : ∀ {es : List Expr} {ds : List PyData}, litsD f es = some ds → PA X es (tLits ds)
  | [], ds, h => by
    cases Option.some.inj h
    exact PA.imp' pa_nil fun σ H Q q => q H [] (Same.refl _) rfl
  | e :: es, ds, h => by
    unfold litsD at h
    split at h
    · rename_i d ds' hd hds
      cases Option.some.inj h
      obtain ⟨h1, h2⟩ := hf e d hd
      refine PA.imp' (pa_cons h1 (pa_lits hf hds) (h2 es)) fun σ H Q q => ?_
      exact fun H1 v s1 dv H2 vs s2 dvs => q H2 (v :: vs) (s1.trans s2) ⟨v, vs, rfl, dv.same s2, dvs⟩
    · cases h
theorem lits_len {f : Expr → Option PyData} : ∀ {es : List Expr} {ds : List PyData}, litsD f es = some ds → ds.length = es.length
  | [], ds, h => by
    cases Option.some.inj h
    rfl
  | e :: es, ds, h => by
    unfold litsD at h
    split at h
    · rename_i d ds' hd hds
      cases Option.some.inj h
      rw [List.length_cons, List.length_cons, lits_len hds]
    · cases h
theorem pe_lit0 {X : Cx} : ∀ (n : Nat) (e : Expr) (d : PyData), litD n e = some d → PE X e (tLit d) ∧ ∀ es, starEach (e :: es) X.env = (false, eval e X.env) :: starEach es X.env := by
  intro n
  have int : ∀ (n : Nat) (e : Expr) (d : PyData) (i : Int) k p, e = .Constant (.int i) k p → litD n e = some d → PE X e (tLit d) ∧ ∀ es, starEach (e :: es) X.env = (false, eval e X.env) :: starEach es X.env := fun n e d i k p ee h => by
    subst ee
    have ed : d = .int i := by
      cases n <;> (unfold litD at h; exact (Option.some.inj h).symm)
    subst ed
    exact ⟨PE.imp' pe_int fun σ H Q q => q H _ (Same.refl _) rfl, fun es => rfl⟩
  induction n with
  | zero =>
    intro e d h
    unfold litD at h
    split at h
    · rename_i h1
      cases h1
    · exact int 0 _ d _ _ _ rfl (by unfold litD; exact h)
    · cases h
  | succ n ih =>
    intro e d h
    have h' := h
    unfold litD at h
    split at h
    · rename_i n' es c p hn
      cases hn
      split at h
      · rename_i hl
        rw [Option.map_eq_some_iff] at h
        obtain ⟨ds, hds, rfl⟩ := h
        refine ⟨PE.imp' (pe_tup (pa_lits ih hds)) fun σ H Q q => ?_, fun es => rfl⟩
        intro H1 vs s1 dvs
        refine ⟨fits (by rw [dvs.length, lits_len hds]; omega), fun T nT => ?_⟩
        exact q _ _ (s1.trans (same_upd nT)) ⟨T, vs, rfl, upd_same, dvs.same (same_upd nT)⟩
      · cases h
    · exact int (n + 1) _ d _ _ _ rfl h'
    · cases h
/-- a written tuple -/
theorem pe_lit {X : Cx} {e : Expr} {d : PyData} (n : Nat) (h : litD n e = some d) : PE X e (tLit d) := (pe_lit0 n e d h).1
section
variable {P : Program} {w : World} {K : PySem.W.Frag} {mg : Str → Option Value} {base : Heap}
def kUp : Kd := [[(1, 1), (0, 0)], [(0, 1), (1, 1)]]
def spConst (d : PyData) : Sp := fun vs H Q _ => vs = [] ∧ ∀ H' v, Same H H' → DV H' d v → Q v H'
theorem k_law_up (D : Df K mg "_law_up" "_law_up" s_law_up) : Cl P w K mg base 1 "_law_up" (spConst (dK kUp)) := by
  refine D.cl c_law_up (fun _ _ _ _ _ _ us hl => match us, hl with | [], _ => rfl) (fun vs H Q E h => ?_) (fun f cdv A outer s H vs Q E hr h => ?_)
  · obtain ⟨rfl, _⟩ := h
    rfl
  · obtain ⟨rfl, q⟩ := h
    exact ⟨_, pss_one (ps_ret (pe_lit 9 (d := dK kUp) rfl)), fun H' v s' dv => q H' v s' dv⟩
def kLo : Kd := [[(0, 0), (1, 1)], [(0, 0), (0, 0)]]
theorem k_law_loses (D : Df K mg "_law_loses" "_law_loses" s_law_loses) : Cl P w K mg base 1 "_law_loses" (spConst (dK kLo)) := by
  refine D.cl c_law_loses (fun _ _ _ _ _ _ us hl => match us, hl with | [], _ => rfl) (fun vs H Q E h => ?_) (fun f cdv A outer s H vs Q E hr h => ?_)
  · obtain ⟨rfl, _⟩ := h
    rfl
  · obtain ⟨rfl, q⟩ := h
    exact ⟨_, pss_one (ps_ret (pe_lit 9 (d := dK kLo) rfl)), fun H' v s' dv => q H' v s' dv⟩
end
end K36
set_option Elab.async false
set_option linter.all false
set_option maxRecDepth 100000
set_option maxHeartbeats 4000000
namespace K36
open PySem PySem.Spec PyProof.Rows L2
/-! ### all but the cup stays -/
abbrev Kp (c : Addr) (H H' : Hp) : Prop := Same (hid [c] H) (hid [c] H')
theorem Kp.of {c : Addr} {H H' : Hp} (s : Same H H') : Kp c H H' := same_hid s
theorem Kp.cup {c : Addr} {H : Hp} (o : HO) : Kp c H (upd H c o) := by
  show Same (hid [c] H) (hid [c] (upd H c o))
  rw [hid_upd (List.mem_singleton.mpr rfl)]
  exact Same.refl _
theorem Kp.at {c : Addr} {H H' : Hp} (s : Kp c H H') {b : Addr} {o : HO} (n : b ≠ c) (e : H b = some o) : H' b = some o := by
  have h1 : hid [c] H b = some o := by
    rw [hid_out (fun z => n (List.mem_singleton.mp z))]
    exact e
  have h2 := s b o h1
  rwa [hid_out (fun z => n (List.mem_singleton.mp z))] at h2
theorem Kp.at' {c : Addr} {H H' : Hp} (s : Kp c H H') {b : Addr} {o : HO} (e : hid [c] H b = some o) : H' b = some o := hid_le _ _ (s b o e)
theorem Cup.keep {c : Addr} {H H' : Hp} (h : Cup H c) (s : Same H H') : Cup H' c := by
  obtain ⟨x, y, e⟩ := h
  exact ⟨x, y, s _ _ e⟩
theorem Cup.upd {c : Addr} {H : Hp} (x y : Int) : Cup (upd H c (cupO x y)) c := ⟨x, y, upd_same⟩
theorem Cup.ne {c D : Addr} {H : Hp} (h : Cup H c) (n : H D = none) : D ≠ c := fun e => by
  obtain ⟨x, y, q⟩ := h
  rw [← e, n] at q
  cases q
/-- a new object beside the cup -/
theorem Kp.new {c T : Addr} {H : Hp} {o : HO} (n : H T = none) : Kp c H (L2.upd H T o) := same_hid (same_upd n)
theorem hid_at {c T : Addr} {H : Hp} {o : HO} (n : T ≠ c) : hid [c] (upd H T o) T = some o := by
  rw [hid_out (fun z => n (List.mem_singleton.mp z)), upd_same]
theorem tup_cup {c : Addr} {H : Hp} (h : Cup H c) : ∀ b ys, H b = some (.tup ys) → hid [c] H b = some (.tup ys) := by
  obtain ⟨x, y, e⟩ := h
  exact tup_hid e
theorem tup_two {c D : Addr} {H : Hp} {l : List V} (hD : H D = some (.lst l)) : ∀ b ys, hid [c] H b = some (.tup ys) → hid [D, c] H b = some (.tup ys) := fun b ys e => by
  by_cases hb : b ∈ [c]
  · rw [hid_in hb] at e
    cases e
  · rw [hid_out hb] at e
    rw [hid_out]
    · exact e
    · intro m
      rcases List.mem_cons.mp m with z | z
      · rw [z, hD] at e
        cases e
      · exact hb z
theorem two_le {c D : Addr} {H : Hp} : Same (hid [D, c] H) (hid [c] H) := fun b o e => by
  by_cases hb : b ∈ [D, c]
  · rw [hid_in hb] at e
    cases e
  · rw [hid_out hb] at e
    rw [hid_out (fun z => hb (List.mem_cons_of_mem _ z))]
    exact e
theorem two_same {c D : Addr} {H H' : Hp} (s : Kp c H H') : Same (hid [D, c] H) (hid [D, c] H') := fun b o e => by
  by_cases hb : b ∈ [D, c]
  · rw [hid_in hb] at e
    cases e
  · rw [hid_out hb] at e ⊢
    exact s.at (fun z => hb (by rw [z]; simp)) e
/-- what a turn may do: all but the cup stays -/
theorem lc_cup {J : It} {te : TE} {v : Nat} {σ : L2.St} {H1 : Hp} {D c : Addr} {Qd : Hp → Prop} (n : Nat) (item : Nat → V → Prop) (R : Nat → Hp → V → Prop) (hD : H1 D = none) (hc : Cup H1 c) (hn : n ≤ 100000)
    (hw : ∀ x, wipe ((wipe σ [v]).set v (some x)) [v] = wipe σ [v]) (hR : ∀ j G G' y, Same G G' → R j G y → R j G' y)
    (go : ∀ i H, i < n → Kp c H1 H → J.go i H) (stop : ∀ H, Kp c H1 H → J.stop n H) (yld : ∀ i H x H', i < n → Kp c H1 H → J.yld i H x H' → H' = H ∧ item i x)
    (turn : ∀ i x H (Q : VK), i < n → item i x → Kp c H1 H → Cup H c → (∃ l, H D = some (.lst l)) → (∀ y H4, Kp c H H4 → Cup H4 c → R i (hid [D, c] H4) y → Q y H4) → te ((wipe σ [v]).set v (some x)) H Q)
    (last : ∀ H ys, Kp c H1 H → Cup H c → H D = some (.lst ys) → ys.length = n → (∀ (j : Nat) y, ys[j]? = some y → R j (hid [D, c] H) y) → Qd H) : LcGoal J v σ te D H1 Qd := by
  have ne := hc.ne hD
  have hn1 : hid [c] H1 D = none := by rw [hid_out (fun z => ne (List.mem_singleton.mp z))]; exact hD
  refine lc_map n item [D, c] (fun H => Kp c H1 H ∧ Cup H c) R List.mem_cons_self hn hw ⟨Kp.new hD, hc.keep (same_upd hD)⟩ (fun H l s _ => ⟨?_, ?_⟩) hR (fun i H lt s => go i H lt s.1) (fun H s => stop H s.1) (fun i H x H' lt s y => yld i H x H' lt s.1 y)
    (fun i x H Q lt hx s hl q => turn i x H Q lt hx s.1 s.2 hl fun y H4 s4 c4 r => q y H4 ⟨s.1.trans s4, c4⟩ ?_ (two_same s4) r) (fun H ys s e l r => last H ys s.1 s.2 e l r)
  · show Same (hid [c] H1) (hid [c] (upd H D (.lst l)))
    rw [hid_upd_out (fun z => ne (List.mem_singleton.mp z))]
    exact same_upd2 s.1 hn1
  · obtain ⟨x, y, e⟩ := s.2
    exact ⟨x, y, by rw [upd_ne ne.symm]; exact e⟩
  · obtain ⟨l, e⟩ := hl
    rw [e]
    exact s4.at ne e
theorem lc_rngC {n : Nat} {te : TE} {v : Nat} {σ : L2.St} {H1 : Hp} {D c : Addr} {Qd : Hp → Prop} (R : Nat → Hp → V → Prop) (hD : H1 D = none) (hc : Cup H1 c) (hn : n ≤ 100000)
    (hw : ∀ x, wipe ((wipe σ [v]).set v (some x)) [v] = wipe σ [v]) (hR : ∀ j G G' y, Same G G' → R j G y → R j G' y)
    (turn : ∀ i H (Q : VK), i < n → Kp c H1 H → Cup H c → (∃ l, H D = some (.lst l)) → (∀ y H4, Kp c H H4 → Cup H4 c → R i (hid [D, c] H4) y → Q y H4) → te ((wipe σ [v]).set v (some (nV i))) H Q)
    (last : ∀ H ys, Kp c H1 H → Cup H c → H D = some (.lst ys) → ys.length = n → (∀ (j : Nat) y, ys[j]? = some y → R j (hid [D, c] H) y) → Qd H) : LcGoal (Itr 0 n) v σ te D H1 Qd :=
  lc_cup n (fun i x => x = nV i) R hD hc hn hw hR (fun i H lt s => lt) (fun H s => Nat.le_refl _) (fun i H x H' lt s y => ⟨y.1, y.2.trans (by rw [Int.zero_add]; rfl)⟩) (fun i x H Q lt hx s hc hl q => by
    subst hx
    exact turn i H Q lt s hc hl q) last
theorem lc_tupC {K : PySem.W.Frag} {a : Addr} {xs : List V} {te : TE} {v : Nat} {σ : L2.St} {H1 : Hp} {D c : Addr} {Qd : Hp → Prop} (R : Nat → Hp → V → Prop) (hD : H1 D = none) (ha : H1 a = some (.tup xs)) (hc : Cup H1 c) (hn : xs.length ≤ 100000)
    (hw : ∀ x, wipe ((wipe σ [v]).set v (some x)) [v] = wipe σ [v]) (hR : ∀ j G G' y, Same G G' → R j G y → R j G' y)
    (turn : ∀ i x H (Q : VK), xs[i]? = some x → Kp c H1 H → Cup H c → (∃ l, H D = some (.lst l)) → (∀ y H4, Kp c H H4 → Cup H4 c → R i (hid [D, c] H4) y → Q y H4) → te ((wipe σ [v]).set v (some x)) H Q)
    (last : ∀ H ys, Kp c H1 H → Cup H c → H D = some (.lst ys) → ys.length = xs.length → (∀ (j : Nat) y, ys[j]? = some y → R j (hid [D, c] H) y) → Qd H) : LcGoal (Itt K a) v σ te D H1 Qd := by
  have ne : a ≠ c := fun z => by
    obtain ⟨x, y, q⟩ := hc
    rw [← z, ha] at q
    cases q
  exact lc_cup xs.length (fun i x => xs[i]? = some x) R hD hc hn hw hR (fun i H lt s => ⟨xs, xs[i], SqT.of (s.at ne ha), List.getElem?_eq_getElem lt⟩) (fun H s => ⟨xs, SqT.of (s.at ne ha), Nat.le_refl _⟩)
    (fun i H x H' lt s y => ⟨y.1, y.2 xs (SqT.of (s.at ne ha))⟩) (fun i x H Q lt hx s hc hl q => turn i x H Q hx s hc hl q) last
/-- plain things behind a list of values -/
theorem DVs.choose {α : Type} {G : Hp} {f : α → PyData} {p : α → Prop} : ∀ {ys : List V}, (∀ (j : Nat) y, ys[j]? = some y → ∃ x, p x ∧ DV G (f x) y) → ∃ xs : List α, DVs G (xs.map f) ys ∧ xs.length = ys.length ∧ ∀ x ∈ xs, p x
  | [], _ => ⟨[], rfl, rfl, fun _ z => nomatch z⟩
  | y :: ys, h => by
    obtain ⟨x, px, dx⟩ := h 0 y rfl
    obtain ⟨xs, d, l, ps⟩ := DVs.choose (ys := ys) fun j z hz => h (j + 1) z hz
    refine ⟨x :: xs, ⟨y, ys, rfl, dx, d⟩, by rw [List.length_cons, List.length_cons, l], fun z hz => ?_⟩
    rcases List.mem_cons.mp hz with e | e
    · rw [e]
      exact px
    · exact ps z e
/-- a kind is made -/
def GenK (c : Addr) (H : Hp) (Q : VK) : Prop := ∀ H' v (k : Kd) (m : Nat), Kp c H H' → Cup H' c → Sm k m → DV (hid [c] H') (dK k) v → Q v H'
/-- rows that fit -/
def RowIs (m n : Nat) (r : Row) : Prop := r.length = m ∧ ∀ p ∈ r, p.1 < m ∧ p.2 < n
theorem sm_of {k : Kd} {m : Nat} (m1 : 1 ≤ m) (m4 : m ≤ 4) (n1 : 1 ≤ k.length) (n4 : k.length ≤ 4) (h : ∀ r ∈ k, RowIs m k.length r) : Sm k m :=
  ⟨⟨n1, by omega, m1, by omega, fun r hr => (h r hr).1, fun r hr p hp => (h r hr).2 p hp⟩, n4, m4⟩
section
variable {P : Program} {w : World} {K : PySem.W.Frag} {mg : Str → Option Value} {base : Heap}
def spAnyKind : Sp := fun vs H Q _ => ∃ (c : Addr) (m n : Nat), vs = [.ref c, nV m, nV n] ∧ Cup H c ∧ 1 ≤ m ∧ m ≤ 4 ∧ 1 ≤ n ∧ n ≤ 4 ∧ GenK c H Q
theorem k_law_any_kind (D : Df K mg "_law_any_kind" "_law_any_kind" s_law_any_kind) (B : Bl mg) (C1 : Cl P w K mg base 1 "_law_roll" spRoll) : Cl P w K mg base 2 "_law_any_kind" spAnyKind := by
  refine D.cl c_law_any_kind (fun _ _ _ _ _ _ us hl => match us, hl with | [_, _, _], _ => rfl) (fun vs H Q E h => ?_) (fun f cdv A outer s H vs Q E hr h => ?_)
  · obtain ⟨c, m, n, rfl, _⟩ := h
    rfl
  · obtain ⟨c, m, n, rfl, hc, m1, m4, n1, n4, q⟩ := h
    have nd := c_law_any_kind.nd
    refine ⟨_, pss_cons (ps_setLc (i := 3) (own := [("_law_sort", 4)]) (g := gName 4) (tt := tYes) (by rfl) nd rfl rfl (sw_true rfl rfl rfl (by decide +kernel))
          (pi_range1 (by rfl) B.range (pa_cons (pv 2) pa_nil)) (blkOk_by (N := n_law_any_kind) (sc := defScope s_law_any_kind) (by decide +kernel))
          (fun _ _ _ _ _ => pg_name (i := 4) nd rfl (Or.inl rfl)) (fun _ _ _ _ _ => pts_nil) (fun _ _ _ _ _ => pe_callTy (call_tupK (K := K) rfl) (by rfl) B.tuple (by decide +kernel) (pa_cons
            (pe_lc (own := [("_law_setting", 5)]) (g := gName 5) (tt := tYes) rfl nd (pi_range1 (by rfl) B.range (pa_cons (pv 1) pa_nil)) (blkOk_by (by kernel_rfl))
              (fun _ _ _ _ _ => pg_name (i := 5) nd rfl (Or.inl rfl)) (fun _ _ _ _ _ => pts_nil) (fun _ _ _ _ _ => pe_tup (pa_cons (pe_cl C1 hr (by decide) (pa_cons (pv 0) (pa_cons (pv 1) pa_nil))) (pa_cons (pe_cl C1 hr (by decide) (pa_cons (pv 0) (pa_cons (pv 2) pa_nil))) pa_nil)))) pa_nil)))
      (pss_one (ps_ret (pe_callTy call_tuple_of (by rfl) B.tuple (by decide +kernel) (pa_cons (pv 3) pa_nil)))), ?_⟩
    refine ⟨_, rfl, _, rfl, by omega, by omega, fun D1 nD1 => lc_rngC (n := ((n : Int)).toNat) (fun j G y => ∃ r : Row, RowIs m n r ∧ DV G (dR r) y) nD1 hc (by omega) (fun _ => rfl) (fun j G G' y e ⟨r, h1, h2⟩ => ⟨r, h1, h2.same e⟩) (fun i H3 Q hi s3 hc3 hD q => ?_) (fun H3 ys s3 hc3 eD ely hy => ?_)⟩
    · obtain ⟨ld, hD⟩ := hD
      refine ⟨_, rfl, _, rfl, by omega, by omega, fun D2 nD2 => lc_rngC (n := ((m : Int)).toNat) (fun j G y => ∃ p : Nat × Nat, (p.1 < m ∧ p.2 < n) ∧ DV G (dP p) y) nD2 hc3 (by omega) (fun _ => rfl) (fun j G G' y e ⟨r, h1, h2⟩ => ⟨r, h1, h2.same e⟩) (fun i H4 Q hi s4 hc4 hD2 q => ?_) (fun H4 ys s4 hc4 eD2 ely hy => ?_)⟩
      · obtain ⟨l, hD2⟩ := hD2
        refine ⟨_, rfl, _, rfl, c, m, rfl, m1, by omega, hc4, fun x1 y1 r1 hr1 => ?_⟩
        refine ⟨_, rfl, _, rfl, c, n, rfl, n1, by omega, Cup.upd x1 y1, fun x2 y2 r2 hr2 => ⟨(by show 2 ≤ sizeLine; decide), fun T nT => ?_⟩⟩
        have c5 : Cup (upd (upd H4 c (cupO x1 y1)) c (cupO x2 y2)) c := Cup.upd x2 y2
        have s5 : Kp c H4 (upd (upd (upd H4 c (cupO x1 y1)) c (cupO x2 y2)) T (.tup [nV r1, nV r2])) := (Kp.cup (cupO x1 y1)).trans ((Kp.cup (cupO x2 y2)).trans (Kp.new nT))
        have neT := c5.ne nT
        have neD : D2 ≠ c := hc3.ne nD2
        have hD5 := s5.at neD hD2
        refine q _ _ s5 (c5.keep (same_upd nT)) ⟨(r1, r2), ⟨hr1, hr2⟩, DV.pr.mpr ⟨T, rfl, ?_⟩⟩
        exact tup_two hD5 _ _ (hid_at neT)
      · obtain ⟨ps, hps, lps, pps⟩ := DVs.choose hy
        refine ⟨D2, ys, rfl, .inl ⟨SqL.of eD2, fun l nl => ?_⟩⟩
        have neD : D1 ≠ c := hc.ne nD1
        have s5 : Kp c H4 (upd H4 l (.tup ys)) := Kp.new nl
        have hD5 := Kp.at (s4.trans s5) neD hD
        refine q _ _ (s4.trans s5) (hc4.keep (same_upd nl)) ⟨ps, ⟨by omega, pps⟩, ?_⟩
        have d1 : DV (hid [c] (upd H4 l (.tup ys))) (dR ps) (.ref l) := ⟨l, ys, rfl, hid_at (hc4.ne nl), (hps.same two_le).same s5⟩
        exact d1.tups (tup_two hD5) (pure_R ps)
    · obtain ⟨k, hk, lk, pk⟩ := DVs.choose hy
      refine ⟨_, rfl, D1, ys, rfl, .inl ⟨SqL.of eD, fun l nl => ?_⟩⟩
      have s5 : Kp c H3 (upd H3 l (.tup ys)) := Kp.new nl
      have el : k.length = n := by omega
      refine q _ _ k m (s3.trans s5) (hc3.keep (same_upd nl)) (sm_of m1 m4 (by omega) (by omega) (by rw [el]; exact pk)) ?_
      exact ⟨l, ys, rfl, hid_at (hc3.ne nl), (hk.same two_le).same s5⟩
end
end K36
set_option Elab.async false
set_option linter.all false
set_option maxRecDepth 100000
set_option maxHeartbeats 4000000
namespace K36
open PySem PySem.Spec PyProof.Rows L2
theorem DVs.chooseAt {α : Type} {G : Hp} {f : α → PyData} : ∀ {ys : List V} {p : Nat → α → Prop}, (∀ (j : Nat) y, ys[j]? = some y → ∃ x, p j x ∧ DV G (f x) y) → ∃ xs : List α, DVs G (xs.map f) ys ∧ xs.length = ys.length ∧ ∀ j x, xs[j]? = some x → p j x
  | [], p, _ => ⟨[], rfl, rfl, fun _ _ z => by simp at z⟩
  | y :: ys, p, h => by
    obtain ⟨x, px, dx⟩ := h 0 y rfl
    obtain ⟨xs, d, l, ps⟩ := DVs.chooseAt (ys := ys) (p := fun j => p (j + 1)) fun j z hz => h (j + 1) z hz
    refine ⟨x :: xs, ⟨y, ys, rfl, dx, d⟩, by rw [List.length_cons, List.length_cons, l], fun j z hz => ?_⟩
    cases j with
    | zero =>
      cases Option.some.inj hz
      exact px
    | succ j => exact ps j z hz
/-- found + (row,) -/
theorem push_row {c : Addr} {H : Hp} {xs : List V} {k : Kd} {r : Row} {v : V} {H' : Hp} {p : Addr} (hx : DVs (hid [c] H) (k.map dR) xs) (hv : DV (hid [c] H) (dR r) v) (s : Same H H') (hc : Cup H' c) (e : H' p = some (.tup (xs ++ [v]))) :
    hid [c] H' p = some (.tup (xs ++ [v])) ∧ DVs (hid [c] H') ((k ++ [r]).map dR) (xs ++ [v]) := by
  refine ⟨tup_cup hc _ _ e, ?_⟩
  rw [List.map_append]
  exact (hx.same (same_hid s)).append (DVs.one (hv.same (same_hid s)))
theorem map_fst_at {ps : Row} {os : List Nat} (l : ps.length = os.length) (h : ∀ (j : Nat) (p : Nat × Nat), ps[j]? = some p → os[j]? = some p.1) : ps.map (·.1) = os := by
  apply List.ext_getElem?
  intro j
  rw [List.getElem?_map]
  cases e : ps[j]? with
  | none =>
    have := List.getElem?_eq_none_iff.mp e
    rw [List.getElem?_eq_none (by omega)]
    rfl
  | some p =>
    rw [h j p e]
    rfl
def RowE (m n : Nat) (r : Row) : Prop := RowIs m n r ∧ (r.map (·.1)).Nodup
section
variable {P : Program} {w : World} {K : PySem.W.Frag} {mg : Str → Option Value} {base : Heap}
theorem k_law_turning_kind (D : Df K mg "_law_turning_kind" "_law_turning_kind" s_law_turning_kind) (B : Bl mg) (C1 : Cl P w K mg base 1 "_law_roll" spRoll) (C2 : Cl P w K mg base 2 "_law_some" spSome) : Cl P w K mg base 3 "_law_turning_kind" spAnyKind := by
  refine D.cl c_law_turning_kind (fun _ _ _ _ _ _ us hl => match us, hl with | [_, _, _], _ => rfl) (fun vs H Q E h => ?_) (fun f cdv A outer s H vs Q E hr h => ?_)
  · obtain ⟨c, m, n, rfl, _⟩ := h
    rfl
  · obtain ⟨c, m, n, rfl, hc, m1, m4, n1, n4, q⟩ := h
    have nd := c_law_turning_kind.nd
    refine ⟨_, pss_cons (ps_set (i := 3) nd rfl (.inl rfl) (pe_tup pa_nil))
      (pss_cons (ps_for PassesOwn.never rfl (pi_range1 (by rfl) B.range (pa_cons (pv 2) pa_nil)) (pg_name (i := 4) nd rfl (.inl rfl))
        (pss_cons (ps_set (i := 5) nd rfl (.inr rfl) (pe_cl C2 hr (by decide) (pa_cons (pv 0) (pa_cons (pe_lst (pa_cons pe_int (pa_cons pe_int (pa_cons pe_int (pa_cons pe_int (pa_cons pe_int (pa_cons (pe_op op_sub (pv 1) pe_int) pa_nil))))))) pa_nil))))
        (pss_one (ps_set (i := 3) nd rfl (.inl rfl) (pe_op op_catU (pv 3) (pe_tup (pa_cons (pe_callTy call_tuple_of (by rfl) B.tuple (by decide +kernel) (pa_cons
            (pe_lc (own := [("_law_setting", 6)]) (g := gName 6) (tt := tYes) rfl nd (pi_range1 (by rfl) B.range (pa_cons (pv 1) pa_nil)) (blkOk_by (N := n_law_turning_kind) (sc := defScope s_law_turning_kind) (by decide +kernel))
              (fun _ _ _ _ _ => pg_name (i := 6) nd rfl (Or.inl rfl)) (fun _ _ _ _ _ => pts_nil) (fun _ _ _ _ _ => pe_tup (pa_cons (pe_op op_modN (pe_callTy call_int1 (by rfl) B.int (by decide +kernel) (pa_cons (pe_op op_add (pv 6) (pv 5)) pa_nil)) (pv 1))
                (pa_cons (pe_cl C1 hr (by decide) (pa_cons (pv 0) (pa_cons (pv 2) pa_nil))) pa_nil)))) pa_nil)) pa_nil)))))))
      (pss_one (ps_ret (pv 3)))), ?_⟩
    refine ⟨Nat.zero_le _, fun p0 np0 => ?_⟩
    have c0 := hc.keep (same_upd (o := .tup []) np0)
    refine ⟨_, rfl, _, rfl, by omega, by omega, for_range (lo := 0) (n := ((n : Int)).toNat) (fun i σ H3 => ∃ (fa : Addr) (xs : List V) (k : Kd) (x4 x5 x6 : Option V), σ = [some (.ref c), some (nV m), some (nV n), some (.ref fa), x4, x5, x6] ∧ Kp c H H3 ∧ Cup H3 c ∧ H3 fa = some (.tup xs) ∧ DVs (hid [c] H3) (k.map dR) xs ∧ k.length = i ∧ ∀ r ∈ k, RowIs m n r)
      ⟨p0, [], [], none, none, none, rfl, Kp.new np0, c0, upd_same, rfl, rfl, fun _ z => nomatch z⟩ ?_ ?_⟩
    · rintro i σ H3 hi ⟨fa, xs, k, x4, x5, x6, rfl, s3, hc3, hfa, hxs, lk, pk⟩
      have lx := hxs.length
      rw [List.length_map] at lx
      refine ⟨_, rfl, _, rfl, _, _, rfl, rfl, (by show 6 ≤ sizeLine; decide), fun tp ntp => ?_⟩
      have sA := same_upd (o := .lst [.int 0, .int 1, .int 1, .int 1, .int 2, .int ((m : Int) - 1)]) ntp
      refine ⟨c, tp, _, rfl, upd_same, hc3.ne ntp, hc3.keep sA, by simp, by simp, fun x y v hv => ?_⟩
      obtain ⟨z, rfl⟩ : ∃ z : Int, v = .int z := by
        simp only [List.mem_cons, List.not_mem_nil, or_false] at hv
        rcases hv with h | h | h | h | h | h <;> exact ⟨_, h⟩
      have hc4 : Cup (upd (upd H3 tp (.lst [.int 0, .int 1, .int 1, .int 1, .int 2, .int ((m : Int) - 1)])) c (cupO x y)) c := Cup.upd x y
      have s4 : Kp c H3 (upd (upd H3 tp (.lst [.int 0, .int 1, .int 1, .int 1, .int 2, .int ((m : Int) - 1)])) c (cupO x y)) := (Kp.of sA).trans (Kp.cup _)
      refine ⟨_, rfl, _, rfl, _, rfl, by omega, by omega, fun D2 nD2 => lc_rngC (n := ((m : Int)).toNat) (fun j G y => ∃ p : Nat × Nat, (p.1 < m ∧ p.2 < n) ∧ DV G (dP p) y) nD2 hc4 (by omega) (fun _ => rfl) (fun j G G' y e ⟨r, h1, h2⟩ => ⟨r, h1, h2.same e⟩) (fun j H5 Q hj s5 hc5 hD2 q => ?_) (fun H5 ys s5 hc5 eD2 ely hy => ?_)⟩
      · obtain ⟨l, hD2⟩ := hD2
        refine ⟨_, rfl, _, rfl, _, _, rfl, rfl, .inl ⟨_, rfl, _, rfl, _, _, rfl, rfl, (by omega), ?_⟩⟩
        have h1 := Int.fmod_nonneg_of_pos ((j : Int) + z) (b := (m : Int)) (by omega)
        have h2 := Int.fmod_lt_of_pos ((j : Int) + z) (b := (m : Int)) (by omega)
        refine ⟨_, rfl, _, rfl, c, n, rfl, n1, by omega, hc5, fun x2 y2 r2 hr2 => ⟨(by show 2 ≤ sizeLine; decide), fun T nT => ?_⟩⟩
        have c6 : Cup (upd H5 c (cupO x2 y2)) c := Cup.upd x2 y2
        have s6 : Kp c H5 (upd (upd H5 c (cupO x2 y2)) T (.tup [.int (((j : Int) + z).fmod (m : Int)), nV r2])) := (Kp.cup (cupO x2 y2)).trans (Kp.new nT)
        have hD6 := s6.at (hc4.ne nD2) hD2
        refine q _ _ s6 (c6.keep (same_upd nT)) ⟨((((j : Int) + z).fmod (m : Int)).toNat, r2), ⟨by show _ < m; omega, hr2⟩, DV.pr.mpr ⟨T, rfl, ?_⟩⟩
        have e := tup_two hD6 _ _ (hid_at (o := .tup [.int (((j : Int) + z).fmod (m : Int)), nV r2]) (H := upd H5 c (cupO x2 y2)) (c6.ne nT))
        rw [e]
        have : V.int (((j : Int) + z).fmod (m : Int)) = nV ((((j : Int) + z).fmod (m : Int)).toNat) := by
          unfold nV
          congr 1
          omega
        rw [this]
      · obtain ⟨ps, hps, lps, pps⟩ := DVs.choose hy
        refine ⟨D2, ys, rfl, .inl ⟨SqL.of eD2, fun l nl => ⟨(by show 1 ≤ sizeLine; decide), fun T nT => ?_⟩⟩⟩
        have s6 : Same H5 (upd (upd H5 l (.tup ys)) T (.tup [.ref l])) := (same_upd nl).trans (same_upd nT)
        have c6 := hc5.keep s6
        have s36 : Kp c H3 (upd (upd H5 l (.tup ys)) T (.tup [.ref l])) := s4.trans (Same.trans s5 (Kp.of s6))
        have nfa : fa ≠ c := fun e => by
          obtain ⟨u, v, e2⟩ := hc3
          rw [← e, hfa] at e2
          cases e2
        refine ⟨fa, T, xs, _, rfl, rfl, s36.at nfa hfa, upd_same, by show xs.length + 1 ≤ 100000; omega, fun p H7 s7 e7 => ?_⟩
        have c7 := c6.keep s7
        have drow : DV (hid [c] (upd (upd H5 l (.tup ys)) T (.tup [.ref l]))) (dR ps) (.ref l) := by
          refine ⟨l, ys, rfl, ?_, (hps.same two_le).same (same_hid s6)⟩
          exact tup_cup c6 _ _ (same_upd nT _ _ upd_same)
        obtain ⟨e8, d8⟩ := push_row (hxs.same s36) drow s7 c7 e7
        refine ⟨p, _, k ++ [ps], _, _, _, rfl, s3.trans (s36.trans (Kp.of s7)), c7, e7, d8, by rw [List.length_append, lk]; rfl, fun r hr => ?_⟩
        rcases List.mem_append.mp hr with z | z
        · exact pk r z
        · rw [List.mem_singleton.mp z]
          exact ⟨by omega, pps⟩
    · rintro σ H3 ⟨fa, xs, k, x4, x5, x6, rfl, s3, hc3, hfa, hxs, lk, pk⟩
      have el : k.length = n := by omega
      exact ⟨_, rfl, q _ _ k m s3 hc3 (sm_of m1 m4 (by omega) (by omega) (by rw [el]; exact pk)) ⟨fa, xs, rfl, tup_cup hc3 _ _ hfa, hxs⟩⟩
end
end K36
set_option Elab.async false
set_option linter.all false
set_option maxRecDepth 100000
set_option maxHeartbeats 4000000
namespace K36
open PySem PySem.Spec PyProof.Rows L2
theorem seqN {n r : Nat} (h : r < n) : seqIndex? (r : Int) n = some r := by
  unfold seqIndex?
  have h1 : ¬ ((r : Int) < 0) := by omega
  simp only [h1, if_false]
  have h2 : (decide (0 ≤ (r : Int)) && decide ((r : Int) < (n : Int))) = true := by
    rw [Bool.and_eq_true, decide_eq_true_eq, decide_eq_true_eq]
    omega
  simp only [h2, if_true]
  simp
theorem rgV_nats (n : Nat) : rgV 0 (n : Int) = (List.range n).map nV := by
  unfold rgV nV
  have : ((n : Int) - 0).toNat = n := by omega
  rw [this]
  apply List.map_congr_left
  intro i _
  rw [Int.zero_add]
theorem perm_erase : ∀ (ls : List Nat) (r : Nat) (h : r < ls.length), (ls[r] :: ls.eraseIdx r).Perm ls
  | x :: ls, 0, _ => List.Perm.refl _
  | x :: ls, r + 1, h => by
    have h' : r < ls.length := Nat.lt_of_succ_lt_succ h
    show (ls[r] :: x :: ls.eraseIdx r).Perm (x :: ls)
    exact (List.Perm.swap x ls[r] _).trans ((perm_erase ls r h').cons x)
theorem map_erase : ∀ (ls : List Nat) (r : Nat), (ls.eraseIdx r).map nV = (ls.map nV).eraseIdx r
  | [], r => rfl
  | x :: ls, 0 => rfl
  | x :: ls, r + 1 => by
    show nV x :: (ls.eraseIdx r).map nV = nV x :: (ls.map nV).eraseIdx r
    rw [map_erase ls r]
theorem perm_pop {fs ls : List Nat} {r : Nat} (h : r < ls.length) {m : Nat} (p : (fs ++ ls).Perm (List.range m)) : ((fs ++ [ls[r]]) ++ ls.eraseIdx r).Perm (List.range m) := by
  refine List.Perm.trans ?_ p
  rw [List.append_assoc]
  exact List.Perm.append_left fs (perm_erase ls r h)
section
variable {P : Program} {w : World} {K : PySem.W.Frag} {mg : Str → Option Value} {base : Heap}
def spOrder : Sp := fun vs H Q _ => ∃ (c : Addr) (m : Nat), vs = [.ref c, nV m] ∧ Cup H c ∧ 1 ≤ m ∧ m ≤ 4 ∧ ∀ H' p (os : List Nat), Kp c H H' → Cup H' c → H' p = some (.tup (os.map nV)) → os.Perm (List.range m) → Q (.ref p) H'
theorem k_law_order (D : Df K mg "_law_order" "_law_order" s_law_order) (B : Bl mg) (C1 : Cl P w K mg base 1 "_law_roll" spRoll) : Cl P w K mg base 2 "_law_order" spOrder := by
  refine D.cl c_law_order (fun _ _ _ _ _ _ us hl => match us, hl with | [_, _], _ => rfl) (fun vs H Q E h => ?_) (fun f cdv A outer s H vs Q E hr h => ?_)
  · obtain ⟨c, m, rfl, _⟩ := h
    rfl
  · obtain ⟨c, m, rfl, hc, m1, m4, q⟩ := h
    have nd := c_law_order.nd
    refine ⟨_, pss_cons (ps_par (i := 2) (j := 3) (by rfl) nd rfl rfl (by decide) rfl rfl (pa_cons (pe_listRg rfl (by rfl) B.list (prg_1 (by rfl) B.range (pv 1))) (pa_cons (pe_tup pa_nil) pa_nil)) (by rfl))
      (pss_cons (ps_for PassesOwn.never rfl (pi_range1 (by rfl) B.range (pa_cons (pv 1) pa_nil)) (pg_name (i := 4) nd rfl (.inl rfl))
        (pss_one (ps_set (i := 3) nd rfl (.inl rfl) (pe_op op_catU (pv 3) (pe_tup (pa_cons (pe_bm PySem.F.plainAttrs_list PySem.F.slot_list_pop PySem.F.type_list_pop mt_popAt (pv 2) (pa_cons
          (pe_cl C1 hr (by decide) (pa_cons (pv 0) (pa_cons (pe_callB call_len_seq (by rfl) B.len PySem.boot_len (pa_cons (pv 2) pa_nil)) pa_nil))) pa_nil)) pa_nil))))))
      (pss_one (ps_ret (pv 3)))), ?_⟩
    refine ⟨_, rfl, _, rfl, RgOk.of_le (by omega) (by omega) (by omega) (by omega), fun la nla => ⟨Nat.zero_le _, fun fa nfa => ⟨_, _, rfl, ?_⟩⟩⟩
    rw [rgV_nats] at nfa ⊢
    have s1 : Same H (upd (upd H la (.lst ((List.range m).map nV))) fa (.tup [])) := (same_upd nla).trans (same_upd nfa)
    have nela := hc.ne nla
    refine ⟨_, rfl, _, rfl, by omega, by omega, for_range (lo := 0) (n := ((m : Int)).toNat) (fun i σ H3 => ∃ (fa : Addr) (fs ls : List Nat) (x4 : Option V), σ = [some (.ref c), some (nV m), some (.ref la), some (.ref fa), x4] ∧ Kp c H H3 ∧ Cup H3 c ∧ H3 la = some (.lst (ls.map nV)) ∧ H3 fa = some (.tup (fs.map nV)) ∧ fs.length = i ∧ (fs ++ ls).Perm (List.range m))
      ⟨fa, [], List.range m, none, rfl, Kp.of s1, hc.keep s1, same_upd nfa _ _ upd_same, upd_same, rfl, List.Perm.refl _⟩ ?_ ?_⟩
    · rintro i σ H3 hi ⟨fa, fs, ls, x4, rfl, s3, hc3, hla, hfa, lf, pm⟩
      have ll : ls.length = m - i := by
        have := pm.length_eq
        rw [List.length_append, List.length_range] at this
        omega
      have hi' : i < m := by omega
      refine ⟨_, rfl, _, rfl, .inl ⟨rfl, _, SqL.of hla⟩, _, rfl, _, rfl, la, _, rfl, .inl (SqL.of hla), c, ls.length, ?_, by omega, by omega, hc3, fun x y r hr => ?_⟩
      · rw [List.length_map]
        rfl
      · have hla4 : upd H3 c (cupO x y) la = some (.lst (ls.map nV)) := by rw [upd_ne nela]; exact hla
        refine ⟨la, _, _, r, nV ls[r], rfl, rfl, hla4, by omega, by omega, ?_, by rw [List.getElem?_map, List.getElem?_eq_getElem hr]; rfl, ?_⟩
        · rw [List.length_map]
          exact seqN hr
        · have nfc : fa ≠ c := fun e => by
            obtain ⟨u, v, e2⟩ := hc3
            rw [← e, hfa] at e2
            cases e2
          have nfl : fa ≠ la := fun e => by
            rw [e, hla] at hfa
            cases hfa
          refine ⟨(by show 1 ≤ sizeLine; decide), fun T nT => ?_⟩
          have e1 : upd (upd H3 c (cupO x y)) la (.lst ((ls.map nV).eraseIdx r)) fa = some (.tup (fs.map nV)) := by rw [upd_ne nfl, upd_ne nfc]; exact hfa
          have sT := same_upd (o := .tup [nV ls[r]]) nT
          refine ⟨fa, T, _, _, rfl, rfl, sT _ _ e1, upd_same, ?_, fun p H5 s5 e5 => ?_⟩
          · rw [List.length_map]
            show fs.length + 1 ≤ 100000
            omega
          · have c4 : Cup (upd (upd H3 c (cupO x y)) la (.lst ((ls.map nV).eraseIdx r))) c := ⟨x, y, by rw [upd_ne nela.symm]; exact upd_same⟩
            refine ⟨p, fs ++ [ls[r]], ls.eraseIdx r, _, rfl, ?_, (c4.keep sT).keep s5, ?_, ?_, by rw [List.length_append, lf]; rfl, perm_pop hr pm⟩
            · refine Same.trans (H1 := hid [c] (upd (upd H3 c (cupO x y)) la (.lst ((ls.map nV).eraseIdx r)))) ?_ (Kp.of (sT.trans s5))
              rw [hid_upd_out (fun z => nela (List.mem_singleton.mp z)), hid_upd (List.mem_singleton.mpr rfl)]
              refine same_upd2 s3 ?_
              rw [hid_out (fun z => nela (List.mem_singleton.mp z))]
              exact nla
            · rw [map_erase]
              exact s5 _ _ (sT _ _ upd_same)
            · rw [e5, List.map_append]
              rfl
    · rintro σ H3 ⟨fa, fs, ls, x4, rfl, s3, hc3, hla, hfa, lf, pm⟩
      have : ls = [] := by
        have := pm.length_eq
        rw [List.length_append, List.length_range] at this
        exact List.eq_nil_of_length_eq_zero (by omega)
      subst this
      rw [List.append_nil] at pm
      exact ⟨_, rfl, q _ _ fs s3 hc3 hfa pm⟩
/-- a kind of so many settings and sorts, each sort of which leaves each setting once -/
def GenE (c : Addr) (m n : Nat) (H : Hp) (Q : VK) : Prop := ∀ H' v (k : Kd), Kp c H H' → Cup H' c → Sm k m → k.length = n → (∀ r ∈ k, (r.map (·.1)).Nodup) → DV (hid [c] H') (dK k) v → Q v H'
def spEvenKind : Sp := fun vs H Q _ => ∃ (c : Addr) (m n : Nat), vs = [.ref c, nV m, nV n] ∧ Cup H c ∧ 1 ≤ m ∧ m ≤ 4 ∧ 1 ≤ n ∧ n ≤ 4 ∧ GenE c m n H Q
theorem k_law_even_kind (D : Df K mg "_law_even_kind" "_law_even_kind" s_law_even_kind) (B : Bl mg) (C1 : Cl P w K mg base 1 "_law_roll" spRoll) (C2 : Cl P w K mg base 2 "_law_order" spOrder) : Cl P w K mg base 3 "_law_even_kind" spEvenKind := by
  refine D.cl c_law_even_kind (fun _ _ _ _ _ _ us hl => match us, hl with | [_, _, _], _ => rfl) (fun vs H Q E h => ?_) (fun f cdv A outer s H vs Q E hr h => ?_)
  · obtain ⟨c, m, n, rfl, _⟩ := h
    rfl
  · obtain ⟨c, m, n, rfl, hc, m1, m4, n1, n4, q⟩ := h
    have nd := c_law_even_kind.nd
    refine ⟨_, pss_cons (ps_set (i := 3) nd rfl (.inl rfl) (pe_tup pa_nil))
      (pss_cons (ps_for PassesOwn.never rfl (pi_range1 (by rfl) B.range (pa_cons (pv 2) pa_nil)) (pg_name (i := 4) nd rfl (.inl rfl))
        (pss_cons (ps_set (i := 5) nd rfl (.inl rfl) (pe_cl C2 hr (by decide) (pa_cons (pv 0) (pa_cons (pv 1) pa_nil))))
        (pss_one (ps_set (i := 3) nd rfl (.inl rfl) (pe_op op_catU (pv 3) (pe_tup (pa_cons (pe_callTy call_tuple_of (by rfl) B.tuple (by decide +kernel) (pa_cons
            (pe_lc (own := [("_law_left", 6)]) (g := gName 6) (tt := tYes) rfl nd (pi_tup (pv 5)) (blkOk_by (N := n_law_even_kind) (sc := defScope s_law_even_kind) (by decide +kernel))
              (fun _ _ _ _ _ => pg_name (i := 6) nd rfl (Or.inl rfl)) (fun _ _ _ _ _ => pts_nil) (fun _ _ _ _ _ => pe_tup (pa_cons (pv 6)
                (pa_cons (pe_cl C1 hr (by decide) (pa_cons (pv 0) (pa_cons (pv 2) pa_nil))) pa_nil)))) pa_nil)) pa_nil)))))))
      (pss_one (ps_ret (pv 3)))), ?_⟩
    refine ⟨Nat.zero_le _, fun p0 np0 => ?_⟩
    have c0 := hc.keep (same_upd (o := .tup []) np0)
    refine ⟨_, rfl, _, rfl, by omega, by omega, for_range (lo := 0) (n := ((n : Int)).toNat) (fun i σ H3 => ∃ (fa : Addr) (xs : List V) (k : Kd) (x4 x5 x6 : Option V), σ = [some (.ref c), some (nV m), some (nV n), some (.ref fa), x4, x5, x6] ∧ Kp c H H3 ∧ Cup H3 c ∧ H3 fa = some (.tup xs) ∧ DVs (hid [c] H3) (k.map dR) xs ∧ k.length = i ∧ ∀ r ∈ k, RowE m n r)
      ⟨p0, [], [], none, none, none, rfl, Kp.new np0, c0, upd_same, rfl, rfl, fun _ z => nomatch z⟩ ?_ ?_⟩
    · rintro i σ H3 hi ⟨fa, xs, k, x4, x5, x6, rfl, s3, hc3, hfa, hxs, lk, pk⟩
      have lx := hxs.length
      rw [List.length_map] at lx
      refine ⟨_, rfl, _, rfl, c, m, rfl, hc3, m1, m4, fun H4 po os s4 hc4 hpo pos => ?_⟩
      have los : os.length = m := by rw [pos.length_eq, List.length_range]
      have ob : ∀ x ∈ os, x < m := fun x hx => List.mem_range.mp (pos.mem_iff.mp hx)
      have ond : os.Nodup := pos.nodup_iff.mpr List.nodup_range
      have npo : po ≠ c := fun e => by
        obtain ⟨u, v, e2⟩ := hc4
        rw [← e, hpo] at e2
        cases e2
      refine ⟨_, rfl, _, rfl, po, rfl, ⟨_, SqT.of hpo⟩, fun D2 nD2 => lc_tupC (fun j G y => ∃ p : Nat × Nat, (os[j]? = some p.1 ∧ p.2 < n) ∧ DV G (dP p) y) nD2 hpo hc4 (by rw [List.length_map]; omega) (fun _ => rfl) (fun j G G' y e ⟨r, h1, h2⟩ => ⟨r, h1, h2.same e⟩) (fun j x H5 Q hx s5 hc5 hD2 q => ?_) (fun H5 ys s5 hc5 eD2 ely hy => ?_)⟩
      · obtain ⟨l, hD2⟩ := hD2
        rw [List.getElem?_map] at hx
        cases eo : os[j]? with
        | none => rw [eo] at hx; cases hx
        | some z =>
          rw [eo] at hx
          cases Option.some.inj hx
          refine ⟨_, rfl, _, rfl, _, rfl, c, n, rfl, n1, by omega, hc5, fun x2 y2 r2 hr2 => ⟨(by show 2 ≤ sizeLine; decide), fun T nT => ?_⟩⟩
          have c6 : Cup (upd H5 c (cupO x2 y2)) c := Cup.upd x2 y2
          have s6 : Kp c H5 (upd (upd H5 c (cupO x2 y2)) T (.tup [nV z, nV r2])) := (Kp.cup (cupO x2 y2)).trans (Kp.new nT)
          have hD6 := s6.at (hc4.ne nD2) hD2
          exact q _ _ s6 (c6.keep (same_upd nT)) ⟨(z, r2), ⟨eo, hr2⟩, DV.pr.mpr ⟨T, rfl, tup_two hD6 _ _ (hid_at (c6.ne nT))⟩⟩
      · obtain ⟨ps, hps, lps, pps⟩ := DVs.chooseAt hy
        rw [List.length_map] at ely
        have efst : ps.map (·.1) = os := map_fst_at (by omega) fun j p h => (pps j p h).1
        refine ⟨D2, ys, rfl, .inl ⟨SqL.of eD2, fun l nl => ⟨(by show 1 ≤ sizeLine; decide), fun T nT => ?_⟩⟩⟩
        have s6 : Same H5 (upd (upd H5 l (.tup ys)) T (.tup [.ref l])) := (same_upd nl).trans (same_upd nT)
        have c6 := hc5.keep s6
        have s36 : Kp c H3 (upd (upd H5 l (.tup ys)) T (.tup [.ref l])) := Same.trans s4 (Same.trans s5 (Kp.of s6))
        have nfa : fa ≠ c := fun e => by
          obtain ⟨u, v, e2⟩ := hc3
          rw [← e, hfa] at e2
          cases e2
        refine ⟨fa, T, xs, _, rfl, rfl, s36.at nfa hfa, upd_same, by show xs.length + 1 ≤ 100000; omega, fun p H7 s7 e7 => ?_⟩
        have c7 := c6.keep s7
        have drow : DV (hid [c] (upd (upd H5 l (.tup ys)) T (.tup [.ref l]))) (dR ps) (.ref l) := by
          refine ⟨l, ys, rfl, ?_, (hps.same two_le).same (same_hid s6)⟩
          exact tup_cup c6 _ _ (same_upd nT _ _ upd_same)
        obtain ⟨e8, d8⟩ := push_row (hxs.same s36) drow s7 c7 e7
        refine ⟨p, _, k ++ [ps], _, _, _, rfl, s3.trans (s36.trans (Kp.of s7)), c7, e7, d8, by rw [List.length_append, lk]; rfl, fun r hr => ?_⟩
        rcases List.mem_append.mp hr with z | z
        · exact pk r z
        · rw [List.mem_singleton.mp z]
          refine ⟨⟨by omega, fun p hp => ?_⟩, by rw [efst]; exact ond⟩
          obtain ⟨j, hj, e⟩ := List.getElem_of_mem hp
          have := pps j p (by rw [List.getElem?_eq_getElem hj, e])
          exact ⟨ob _ (List.mem_of_getElem? this.1), this.2⟩
    · rintro σ H3 ⟨fa, xs, k, x4, x5, x6, rfl, s3, hc3, hfa, hxs, lk, pk⟩
      have el : k.length = n := by omega
      exact ⟨_, rfl, q _ _ k s3 hc3 (sm_of m1 m4 (by omega) (by omega) (by rw [el]; exact fun r hr => (pk r hr).1)) el (fun r hr => (pk r hr).2) ⟨fa, xs, rfl, tup_cup hc3 _ _ hfa, hxs⟩⟩
end
end K36
set_option Elab.async false
set_option linter.all false
set_option maxRecDepth 100000
set_option maxHeartbeats 4000000
namespace K36
open PySem PySem.Spec PyProof.Rows L2
def okB (k : Kd) (m : Nat) : Bool := decide (1 ≤ k.length) && decide (k.length ≤ 4) && decide (1 ≤ m) && decide (m ≤ 4) && k.all fun r => decide (r.length = m) && r.all fun p => decide (p.1 < m) && decide (p.2 < k.length)
theorem okB_ok {k : Kd} {m : Nat} (h : okB k m = true) : Sm k m := by
  unfold okB at h
  simp only [Bool.and_eq_true, decide_eq_true_eq, List.all_eq_true] at h
  obtain ⟨⟨⟨⟨a, b⟩, c⟩, d⟩, e⟩ := h
  exact sm_of c d a b fun r hr => ⟨(e r hr).1, fun p hp => (e r hr).2 p hp⟩
theorem Cup.tup_ne {c a : Addr} {H : Hp} {xs : List V} (h : Cup H c) (e : H a = some (.tup xs)) : a ≠ c := fun z => by
  obtain ⟨u, v, e2⟩ := h
  rw [← z, e] at e2
  cases e2
section
variable {P : Program} {w : World} {K : PySem.W.Frag} {mg : Str → Option Value} {base : Heap}
theorem k_law_still_kind (D : Df K mg "_law_still_kind" "_law_still_kind" s_law_still_kind) (B : Bl mg) (C1 : Cl P w K mg base 1 "_law_roll" spRoll) : Cl P w K mg base 2 "_law_still_kind" spAnyKind := by
  refine D.cl c_law_still_kind (fun _ _ _ _ _ _ us hl => match us, hl with | [_, _, _], _ => rfl) (fun vs H Q E h => ?_) (fun f cdv A outer s H vs Q E hr h => ?_)
  · obtain ⟨c, m, n, rfl, _⟩ := h
    rfl
  · obtain ⟨c, m, n, rfl, hc, m1, m4, n1, n4, q⟩ := h
    have nd := c_law_still_kind.nd
    refine ⟨_, pss_cons (ps_set (i := 3) nd rfl (.inl rfl) (pe_tup pa_nil))
      (pss_cons (ps_for PassesOwn.never rfl (pi_range1 (by rfl) B.range (pa_cons (pe_op op_sub (pv 2) pe_int) pa_nil)) (pg_name (i := 4) nd rfl (.inl rfl))
        (pss_cons (ps_set (i := 5) nd rfl (.inl rfl) (pe_tup pa_nil))
        (pss_cons (ps_for PassesOwn.never rfl (pi_range1 (by rfl) B.range (pa_cons (pv 1) pa_nil)) (pg_name (i := 6) nd rfl (.inl rfl))
          (pss_cons (ps_set (i := 7) nd rfl (.inl rfl) (pe_ifExp (pt_cmpR op_eq (pe_cl C1 hr (by decide) (pa_cons (pv 0) (pa_cons pe_int pa_nil))) pe_int (nomark _)) (pe_op op_sub (pv 2) pe_int) (pe_cl C1 hr (by decide) (pa_cons (pv 0) (pa_cons (pv 2) pa_nil)))))
          (pss_one (ps_set (i := 5) nd rfl (.inl rfl) (pe_op op_catU (pv 5) (pe_tup (pa_cons (pe_tup (pa_cons (pe_cl C1 hr (by decide) (pa_cons (pv 0) (pa_cons (pv 1) pa_nil))) (pa_cons (pv 7) pa_nil))) pa_nil)))))))
        (pss_one (ps_set (i := 3) nd rfl (.inl rfl) (pe_op op_catU (pv 3) (pe_tup (pa_cons (pv 5) pa_nil))))))))
      (pss_one (ps_ret (pe_op op_catU (pv 3) (pe_tup (pa_cons (pe_callTy call_tuple_of (by rfl) B.tuple (by decide +kernel) (pa_cons (pe_lc (own := [("_law_setting", 6)]) (g := gName 6) (tt := tYes) rfl nd (pi_range1 (by rfl) B.range (pa_cons (pv 1) pa_nil)) (blkOk_by (N := n_law_still_kind) (sc := defScope s_law_still_kind) (by decide +kernel))
              (fun _ _ _ _ _ => pg_name (i := 6) nd rfl (Or.inl rfl)) (fun _ _ _ _ _ => pts_nil) (fun _ _ _ _ _ => pe_tup (pa_cons (pv 6) (pa_cons (pe_op op_sub (pv 2) pe_int) pa_nil)))) pa_nil)) pa_nil)))))), ?_⟩
    have en1 : V.int ((n : Int) - 1) = nV (n - 1) := by
      unfold nV
      congr 1
      omega
    refine ⟨Nat.zero_le _, fun p0 np0 => ?_⟩
    have c0 := hc.keep (same_upd (o := .tup []) np0)
    refine ⟨_, rfl, _, _, rfl, rfl, _, rfl, by omega, by omega, for_range (lo := 0) (n := ((n : Int) - 1).toNat) (fun i σ H3 => ∃ (fa : Addr) (xs : List V) (k : Kd) (x4 x5 x6 x7 : Option V), σ = [some (.ref c), some (nV m), some (nV n), some (.ref fa), x4, x5, x6, x7] ∧ Kp c H H3 ∧ Cup H3 c ∧ H3 fa = some (.tup xs) ∧ DVs (hid [c] H3) (k.map dR) xs ∧ k.length = i ∧ ∀ r ∈ k, RowIs m n r)
      ⟨p0, [], [], none, none, none, none, rfl, Kp.new np0, c0, upd_same, rfl, rfl, fun _ z => nomatch z⟩ ?_ ?_⟩
    · rintro i σ H3 hi ⟨fa, xs, k, x4, x5, x6, x7, rfl, s3, hc3, hfa, hxs, lk, pk⟩
      have lx := hxs.length
      rw [List.length_map] at lx
      refine ⟨Nat.zero_le _, fun p1 np1 => ?_⟩
      have nfa := hc3.tup_ne hfa
      refine ⟨_, rfl, _, rfl, by omega, by omega, for_range (lo := 0) (n := ((m : Int)).toNat) (fun j σ H4 => ∃ (ra : Addr) (ys : List V) (r : Row) (x6 x7 : Option V), σ = [some (.ref c), some (nV m), some (nV n), some (.ref fa), some (.int (0 + (i : Int))), some (.ref ra), x6, x7] ∧ Kp c H3 H4 ∧ Cup H4 c ∧ H4 ra = some (.tup ys) ∧ DVs (hid [c] H4) (r.map dP) ys ∧ r.length = j ∧ ∀ p ∈ r, p.1 < m ∧ p.2 < n)
        ⟨p1, [], [], _, _, rfl, Kp.new np1, hc3.keep (same_upd np1), upd_same, rfl, rfl, fun _ z => nomatch z⟩ ?_ ?_⟩
      · rintro j σ H4 hj ⟨ra, ys, r, x6, x7, rfl, s4, hc4, hra, hys, lr, pr⟩
        have ly := hys.length
        rw [List.length_map] at ly
        have nra := hc4.tup_ne hra
        have tail : ∀ (H5 : Hp) (th : Nat) (v7 : V), v7 = nV th → th < n → Kp c H4 H5 → Cup H5 c → ∀ (x8 y8 : Int) (r8 : Nat), r8 < m → ∀ T, upd H5 c (cupO x8 y8) T = none → ∀ T2, upd (upd H5 c (cupO x8 y8)) T (.tup [nV r8, v7]) T2 = none →
            upd (upd (upd H5 c (cupO x8 y8)) T (.tup [nV r8, v7])) T2 (.tup [.ref T]) ra = some (.tup ys) ∧ ∀ p H6, Same (upd (upd (upd H5 c (cupO x8 y8)) T (.tup [nV r8, v7])) T2 (.tup [.ref T])) H6 → H6 p = some (.tup (ys ++ [.ref T])) →
            Kp c H3 H6 ∧ Cup H6 c ∧ DVs (hid [c] H6) ((r ++ [(r8, th)]).map dP) (ys ++ [.ref T]) ∧ (r ++ [(r8, th)]).length = j + 1 ∧ ∀ p ∈ r ++ [(r8, th)], p.1 < m ∧ p.2 < n := fun H5 th v7 hv hth s5 hc5 x8 y8 r8 hr8 T nT T2 nT2 => by
          subst hv
          have c8 : Cup (upd H5 c (cupO x8 y8)) c := Cup.upd x8 y8
          have c9 := (c8.keep (same_upd (o := .tup [nV r8, nV th]) nT)).keep (same_upd (o := .tup [.ref T]) nT2)
          have s9 : Kp c H5 (upd (upd (upd H5 c (cupO x8 y8)) T (.tup [nV r8, nV th])) T2 (.tup [.ref T])) := (Kp.cup (cupO x8 y8)).trans (Kp.of ((same_upd nT).trans (same_upd nT2)))
          refine ⟨Kp.at (Same.trans s5 s9) nra hra, fun p H6 s6 e6 => ?_⟩
          have c6 := c9.keep s6
          have s58 : Kp c H5 H6 := Same.trans s9 (Kp.of s6)
          refine ⟨Same.trans s4 (Same.trans s5 s58), c6, ?_, by rw [List.length_append, lr]; rfl, fun p hp => ?_⟩
          · rw [List.map_append]
            refine ((hys.same s5).same s58).append (DVs.one (DV.pr.mpr ⟨T, rfl, ?_⟩))
            exact tup_cup c6 _ _ (s6 _ _ (same_upd nT2 _ _ upd_same))
          · rcases List.mem_append.mp hp with z | z
            · exact pr p z
            · rw [List.mem_singleton.mp z]
              exact ⟨hr8, hth⟩
        have ly2 : ys.length + 1 ≤ 100000 := by omega
        refine ⟨_, rfl, c, 2, rfl, by decide, by decide, hc4, fun x y r0 hr0 => ?_⟩
        have c5 : Cup (upd H4 c (cupO x y)) c := Cup.upd x y
        have s5 : Kp c H4 (upd H4 c (cupO x y)) := Kp.cup _
        refine ⟨rfl, _, rfl, ite2 (fun e => ?_) (fun e => ?_)⟩
        · refine ⟨_, rfl, _, _, rfl, rfl, ?_⟩
          refine ⟨_, rfl, _, rfl, _, rfl, c, m, rfl, m1, by omega, c5, fun x8 y8 r8 hr8 => ⟨_, rfl, (by show 2 ≤ sizeLine; decide), fun T nT => ⟨(by show 1 ≤ sizeLine; decide), fun T2 nT2 => ?_⟩⟩⟩
          obtain ⟨b0, b1⟩ := tail _ (n - 1) _ en1 (by omega) s5 c5 x8 y8 r8 hr8 T nT T2 nT2
          refine ⟨ra, T2, ys, _, rfl, rfl, b0, upd_same, ly2, fun p H6 s6 e6 => ?_⟩
          obtain ⟨a1, a2, a3, a4, a5⟩ := b1 p H6 s6 e6
          exact ⟨p, _, _, _, _, rfl, a1, a2, e6, a3, a4, a5⟩
        · refine ⟨_, rfl, _, rfl, c, n, rfl, n1, by omega, c5, fun x2 y2 r2 hr2 => ?_⟩
          have c6 : Cup (upd (upd H4 c (cupO x y)) c (cupO x2 y2)) c := Cup.upd x2 y2
          have s6 : Kp c H4 (upd (upd H4 c (cupO x y)) c (cupO x2 y2)) := Same.trans s5 (Kp.cup _)
          refine ⟨_, rfl, _, rfl, _, rfl, c, m, rfl, m1, by omega, c6, fun x8 y8 r8 hr8 => ⟨_, rfl, (by show 2 ≤ sizeLine; decide), fun T nT => ⟨(by show 1 ≤ sizeLine; decide), fun T2 nT2 => ?_⟩⟩⟩
          obtain ⟨b0, b1⟩ := tail _ r2 _ rfl hr2 s6 c6 x8 y8 r8 hr8 T nT T2 nT2
          refine ⟨ra, T2, ys, _, rfl, rfl, b0, upd_same, ly2, fun p H6 s6 e6 => ?_⟩
          obtain ⟨a1, a2, a3, a4, a5⟩ := b1 p H6 s6 e6
          exact ⟨p, _, _, _, _, rfl, a1, a2, e6, a3, a4, a5⟩
      · rintro σ H4 ⟨ra, ys, r, x6, x7, rfl, s4, hc4, hra, hys, lr, pr⟩
        refine ⟨_, rfl, _, rfl, (by show 1 ≤ sizeLine; decide), fun T nT => ?_⟩
        have sT : Same H4 (upd H4 T (.tup [.ref ra])) := same_upd nT
        have s34 : Kp c H3 (upd H4 T (.tup [.ref ra])) := Same.trans s4 (Kp.of sT)
        have cT := hc4.keep sT
        refine ⟨fa, T, xs, _, rfl, rfl, s34.at nfa hfa, upd_same, by show xs.length + 1 ≤ 100000; omega, fun p H7 s7 e7 => ?_⟩
        have c7 := cT.keep s7
        have drow : DV (hid [c] (upd H4 T (.tup [.ref ra]))) (dR r) (.ref ra) := ⟨ra, ys, rfl, tup_cup cT _ _ (sT _ _ hra), hys.same (Kp.of sT)⟩
        obtain ⟨e8, d8⟩ := push_row (hxs.same s34) drow s7 c7 e7
        refine ⟨p, _, k ++ [r], _, _, _, _, rfl, s3.trans (s34.trans (Kp.of s7)), c7, e7, d8, by rw [List.length_append, lk]; rfl, fun r' hr' => ?_⟩
        rcases List.mem_append.mp hr' with z | z
        · exact pk r' z
        · rw [List.mem_singleton.mp z]
          exact ⟨by omega, pr⟩
    · rintro σ H3 ⟨fa, xs, k, x4, x5, x6, x7, rfl, s3, hc3, hfa, hxs, lk, pk⟩
      have lx := hxs.length
      rw [List.length_map] at lx
      have nfa := hc3.tup_ne hfa
      refine ⟨_, rfl, _, rfl, _, rfl, by omega, by omega, fun D2 nD2 => lc_rngC (n := ((m : Int)).toNat) (fun j G y => ∃ p : Nat × Nat, (p.1 < m ∧ p.2 < n) ∧ DV G (dP p) y) nD2 hc3 (by omega) (fun _ => rfl) (fun j G G' y e ⟨r, h1, h2⟩ => ⟨r, h1, h2.same e⟩) (fun j H5 Q hj s5 hc5 hD2 q => ?_) (fun H5 ys s5 hc5 eD2 ely hy => ?_)⟩
      · obtain ⟨l, hD2⟩ := hD2
        refine ⟨_, rfl, _, rfl, _, _, rfl, rfl, (by show 2 ≤ sizeLine; decide), fun T nT => ?_⟩
        refine q _ _ (Kp.new nT) (hc5.keep (same_upd nT)) ⟨(j, n - 1), ⟨by show j < m; omega, by show n - 1 < n; omega⟩, DV.pr.mpr ⟨T, rfl, ?_⟩⟩
        show _ = some (HO.tup [nV j, nV (n - 1)])
        rw [← en1]
        exact tup_two (same_upd nT _ _ hD2) _ _ (hid_at (hc5.ne nT))
      · obtain ⟨ps, hps, lps, pps⟩ := DVs.choose hy
        refine ⟨D2, ys, rfl, .inl ⟨SqL.of eD2, fun l nl => ⟨(by show 1 ≤ sizeLine; decide), fun T nT => ?_⟩⟩⟩
        have s6 : Same H5 (upd (upd H5 l (.tup ys)) T (.tup [.ref l])) := (same_upd nl).trans (same_upd nT)
        have c6 := hc5.keep s6
        have s36 : Kp c H3 (upd (upd H5 l (.tup ys)) T (.tup [.ref l])) := Same.trans s5 (Kp.of s6)
        refine ⟨fa, T, xs, _, rfl, rfl, s36.at nfa hfa, upd_same, by show xs.length + 1 ≤ 100000; omega, fun p H7 s7 e7 => ?_⟩
        have c7 := c6.keep s7
        have drow : DV (hid [c] (upd (upd H5 l (.tup ys)) T (.tup [.ref l]))) (dR ps) (.ref l) := by
          refine ⟨l, ys, rfl, ?_, (hps.same two_le).same (same_hid s6)⟩
          exact tup_cup c6 _ _ (same_upd nT _ _ upd_same)
        obtain ⟨e8, d8⟩ := push_row (hxs.same s36) drow s7 c7 e7
        have el : (k ++ [ps]).length = n := by
          rw [List.length_append, lk]
          show _ + 1 = n
          omega
        refine q _ _ (k ++ [ps]) m (s3.trans (s36.trans (Kp.of s7))) c7 (sm_of m1 m4 (by omega) (by omega) (by
          rw [el]
          intro r hr
          rcases List.mem_append.mp hr with z | z
          · exact pk r z
          · rw [List.mem_singleton.mp z]
            exact ⟨by omega, pps⟩)) ⟨p, _, rfl, e8, d8⟩
end
end K36
set_option Elab.async false
set_option linter.all false
set_option maxRecDepth 100000
set_option maxHeartbeats 4000000
namespace K36
open PySem PySem.Spec PyProof.Rows L2
def kn1 : Kd := [[(1, 0), (0, 0)]]
def kn2 : Kd := [[(0, 0), (0, 0)], [(1, 1), (0, 0)]]
def kn3 : Kd := [[(0, 0), (0, 1)], [(1, 0), (1, 1)]]
def kWheel : Kd := [[(1, 1), (2, 1), (0, 0)], [(0, 1), (1, 1), (2, 1)]]
def kn5 : Kd := [[(0, 0)]]
def kn6 : Kd := [[(1, 1), (0, 1)], [(0, 0), (1, 0)]]
def known : List Kd := [kUp, kn1, kn2, kn3, kWheel, kn5, kn6]
theorem known_ok : known.all (fun k => okB k (k.headD []).length) = true := by decide
section
variable {P : Program} {w : World} {K : PySem.W.Frag} {mg : Str → Option Value} {base : Heap}
def spKnown : Sp := fun vs H Q _ => ∃ c : Addr, vs = [.ref c] ∧ Cup H c ∧ GenK c H Q
theorem k_law_known_kind (D : Df K mg "_law_known_kind" "_law_known_kind" s_law_known_kind) (B : Bl mg) (C1 : Cl P w K mg base 1 "_law_up" (spConst (dK kUp))) (C2 : Cl P w K mg base 2 "_law_some" spSome) : Cl P w K mg base 3 "_law_known_kind" spKnown := by
  refine D.cl c_law_known_kind (fun _ _ _ _ _ _ us hl => match us, hl with | [_], _ => rfl) (fun vs H Q E h => ?_) (fun f cdv A outer s H vs Q E hr h => ?_)
  · obtain ⟨c, rfl, _⟩ := h
    rfl
  · obtain ⟨c, rfl, hc, q⟩ := h
    have nd := c_law_known_kind.nd
    refine ⟨_, pss_cons (ps_set (i := 1) nd rfl (.inl rfl) (pe_lst (pa_cons (pe_cl0 C1 hr (by decide)) (pa_cons (pe_lit 9 (d := dK kn1) rfl) (pa_cons (pe_lit 9 (d := dK kn2) rfl) (pa_cons (pe_lit 9 (d := dK kn3) rfl) pa_nil))))))
      (pss_cons (ps_set (i := 1) nd rfl (.inl rfl) (pe_op op_cat (pv 1) (pe_lst (pa_cons (pe_lit 9 (d := dK kWheel) rfl) (pa_cons (pe_lit 9 (d := dK kn5) rfl) (pa_cons (pe_lit 9 (d := dK kn6) rfl) pa_nil))))))
      (pss_one (ps_ret (pe_cl C2 hr (by decide) (pa_cons (pv 0) (pa_cons (pv 1) pa_nil)))))), ?_⟩
    refine ⟨rfl, fun H1 v1 s1 d1 => ?_⟩
    intro H2 v2 s2 d2 H3 v3 s3 d3 H4 v4 s4 d4
    refine ⟨(by show 4 ≤ sizeLine; decide), fun l1 nl1 => ?_⟩
    have e1 := same_upd (o := .lst [v1, v2, v3, v4]) nl1
    refine ⟨_, rfl, ?_⟩
    intro H5 v5 s5 d5 H6 v6 s6 d6 H7 v7 s7 d7
    refine ⟨(by show 3 ≤ sizeLine; decide), fun l2 nl2 => ?_⟩
    have e2 := same_upd (o := .lst [v5, v6, v7]) nl2
    have s57 := s5.trans (s6.trans s7)
    refine ⟨_, _, _, _, rfl, rfl, e2 _ _ (s57 _ _ upd_same), upd_same, (by show 7 ≤ sizeLine; decide), fun l3 nl3 => ?_⟩
    have e3 := same_upd (o := .lst ([v1, v2, v3, v4] ++ [v5, v6, v7])) nl3
    have sall : Same H (upd (upd H7 l2 (.lst [v5, v6, v7])) l3 (.lst ([v1, v2, v3, v4] ++ [v5, v6, v7]))) := s1.trans (s2.trans (s3.trans (s4.trans (e1.trans (s57.trans (e2.trans e3))))))
    have c7 := hc.keep (s1.trans (s2.trans (s3.trans (s4.trans (e1.trans (s57.trans e2))))))
    have c8 := hc.keep sall
    have f4 := e1.trans (s57.trans (e2.trans e3))
    have f3 := s4.trans f4
    have f2 := s3.trans f3
    have f1 := s2.trans f2
    have g7 := e2.trans e3
    have g6 := s7.trans g7
    have g5 := s6.trans g6
    have hv : DVs (upd (upd H7 l2 (.lst [v5, v6, v7])) l3 (.lst ([v1, v2, v3, v4] ++ [v5, v6, v7]))) (known.map dK) ([v1, v2, v3, v4] ++ [v5, v6, v7]) :=
      ⟨v1, _, rfl, d1.same f1, v2, _, rfl, d2.same f2, v3, _, rfl, d3.same f3, v4, _, rfl, d4.same f4, v5, _, rfl, d5.same g5, v6, _, rfl, d6.same g6, v7, _, rfl, d7.same g7, rfl⟩
    refine ⟨_, rfl, _, rfl, c, l3, _, rfl, upd_same, c7.ne nl3, c8, by simp, by simp, fun x y v hm => ?_⟩
    obtain ⟨j, hj, ev⟩ := List.getElem_of_mem hm
    obtain ⟨d, ed, dv⟩ := hv.getV (i := j) (v := v) (by rw [List.getElem?_eq_getElem hj, ev])
    rw [List.getElem?_map] at ed
    cases ek : known[j]? with
    | none => rw [ek] at ed; cases ed
    | some k =>
      rw [ek] at ed
      cases Option.some.inj ed
      have ok := okB_ok (List.all_eq_true.mp known_ok k (List.mem_of_getElem? ek))
      refine q _ v k _ (Same.trans (Kp.of sall) (Kp.cup _)) (Cup.upd x y) ok ?_
      rw [hid_upd (List.mem_singleton.mpr rfl)]
      exact dv.tups (tup_cup c8) (pure_K k)
def spGen : Sp := fun vs H Q _ => ∃ c : Addr, vs = [.ref c] ∧ Cup H c ∧ GenK c H Q
theorem GenK.from {c : Addr} {H H' : Hp} {Q : VK} (g : GenK c H Q) (s : Kp c H H') : GenK c H' Q := fun H2 v k m s2 c2 sm dv => g H2 v k m (Same.trans s s2) c2 sm dv
theorem k_law_kind (D : Df K mg "_law_kind" "_law_kind" s_law_kind) (B : Bl mg) (C1 : Cl P w K mg base 1 "_law_roll" spRoll) (C2 : Cl P w K mg base 2 "_law_some" spSome) (C3 : Cl P w K mg base 3 "_law_known_kind" spKnown) (C4 : Cl P w K mg base 2 "_law_any_kind" spAnyKind)
    (C5 : Cl P w K mg base 3 "_law_turning_kind" spAnyKind) (C6 : Cl P w K mg base 3 "_law_even_kind" spEvenKind) (C7 : Cl P w K mg base 2 "_law_still_kind" spAnyKind) : Cl P w K mg base 4 "_law_kind" spGen := by
  refine D.cl c_law_kind (fun _ _ _ _ _ _ us hl => match us, hl with | [_], _ => rfl) (fun vs H Q E h => ?_) (fun f cdv A outer s H vs Q E hr h => ?_)
  · obtain ⟨c, rfl, _⟩ := h
    rfl
  · obtain ⟨c, rfl, hc, q⟩ := h
    have nd := c_law_kind.nd
    refine ⟨_, pss_cons (ps_par (i := 1) (j := 2) (by rfl) nd rfl rfl (by decide) rfl rfl (pa_cons (pe_cl C2 hr (by decide) (pa_cons (pv 0) (pa_cons (pe_lst (pa_cons pe_int (pa_cons pe_int (pa_cons pe_int (pa_cons pe_int (pa_cons pe_int (pa_cons pe_int (pa_cons pe_int pa_nil)))))))) pa_nil)))
        (pa_cons (pe_cl C2 hr (by decide) (pa_cons (pv 0) (pa_cons (pe_lst (pa_cons pe_int (pa_cons pe_int (pa_cons pe_int (pa_cons pe_int (pa_cons pe_int (pa_cons pe_int pa_nil))))))) pa_nil))) pa_nil)) (by rfl))
      (pss_cons (ps_set (i := 3) nd rfl (.inl rfl) (pe_cl C1 hr (by decide) (pa_cons (pv 0) (pa_cons pe_int pa_nil))))
      (pss_cons (ps_if (pt_cmpR op_eq (pv 3) pe_int (nomark _)) (pss_one (ps_ret (pe_cl C3 hr (by decide) (pa_cons (pv 0) pa_nil)))) pss_nil)
      (pss_cons (ps_if (pt_cmpR op_lt (pv 3) pe_int (nomark _)) (pss_one (ps_ret (pe_cl C4 hr (by decide) (pa_cons (pv 0) (pa_cons (pv 1) (pa_cons (pv 2) pa_nil)))))) pss_nil)
      (pss_cons (ps_if (pt_cmpR op_eq (pv 3) pe_int (nomark _)) (pss_one (ps_ret (pe_cl C5 hr (by decide) (pa_cons (pv 0) (pa_cons (pv 1) (pa_cons (pv 2) pa_nil)))))) pss_nil)
      (pss_one (ps_ret (pe_ifExp (pt_cmpR op_eq (pv 3) pe_int (nomark _)) (pe_cl C6 hr (by decide) (pa_cons (pv 0) (pa_cons (pv 1) (pa_cons (pv 2) pa_nil)))) (pe_cl C7 hr (by decide) (pa_cons (pv 0) (pa_cons (pv 1) (pa_cons (pv 2) pa_nil))))))))))), ?_⟩
    refine ⟨_, rfl, (by show 7 ≤ sizeLine; decide), fun l1 nl1 => ?_⟩
    have e1 := same_upd (o := .lst [.int 2, .int 2, .int 2, .int 3, .int 3, .int 1, .int 4]) nl1
    refine ⟨c, l1, _, rfl, upd_same, hc.ne nl1, hc.keep e1, by simp, by simp, fun x1 y1 v1 hv1 => ?_⟩
    obtain ⟨m, rfl, m1, m4⟩ : ∃ m : Nat, v1 = nV m ∧ 1 ≤ m ∧ m ≤ 4 := by
      simp only [List.mem_cons, List.not_mem_nil, or_false] at hv1
      rcases hv1 with h | h | h | h | h | h | h
      · exact ⟨2, h, by decide, by decide⟩
      · exact ⟨2, h, by decide, by decide⟩
      · exact ⟨2, h, by decide, by decide⟩
      · exact ⟨3, h, by decide, by decide⟩
      · exact ⟨3, h, by decide, by decide⟩
      · exact ⟨1, h, by decide, by decide⟩
      · exact ⟨4, h, by decide, by decide⟩
    have c1 : Cup (upd (upd H l1 (.lst [.int 2, .int 2, .int 2, .int 3, .int 3, .int 1, .int 4])) c (cupO x1 y1)) c := Cup.upd x1 y1
    have k1 : Kp c H (upd (upd H l1 (.lst [.int 2, .int 2, .int 2, .int 3, .int 3, .int 1, .int 4])) c (cupO x1 y1)) := Same.trans (Kp.of e1) (Kp.cup _)
    generalize upd (upd H l1 (.lst [.int 2, .int 2, .int 2, .int 3, .int 3, .int 1, .int 4])) c (cupO x1 y1) = H1 at c1 k1
    refine ⟨_, rfl, (by show 6 ≤ sizeLine; decide), fun l2 nl2 => ?_⟩
    have e2 := same_upd (o := .lst [.int 1, .int 2, .int 2, .int 3, .int 3, .int 4]) nl2
    refine ⟨c, l2, _, rfl, upd_same, c1.ne nl2, c1.keep e2, by simp, by simp, fun x2 y2 v2 hv2 => ⟨_, _, rfl, ?_⟩⟩
    obtain ⟨n, rfl, n1, n4⟩ : ∃ m : Nat, v2 = nV m ∧ 1 ≤ m ∧ m ≤ 4 := by
      simp only [List.mem_cons, List.not_mem_nil, or_false] at hv2
      rcases hv2 with h | h | h | h | h | h
      · exact ⟨1, h, by decide, by decide⟩
      · exact ⟨2, h, by decide, by decide⟩
      · exact ⟨2, h, by decide, by decide⟩
      · exact ⟨3, h, by decide, by decide⟩
      · exact ⟨3, h, by decide, by decide⟩
      · exact ⟨4, h, by decide, by decide⟩
    have c2 : Cup (upd (upd H1 l2 (.lst [.int 1, .int 2, .int 2, .int 3, .int 3, .int 4])) c (cupO x2 y2)) c := Cup.upd x2 y2
    have k2 : Kp c H1 (upd (upd H1 l2 (.lst [.int 1, .int 2, .int 2, .int 3, .int 3, .int 4])) c (cupO x2 y2)) := Same.trans (Kp.of e2) (Kp.cup _)
    generalize upd (upd H1 l2 (.lst [.int 1, .int 2, .int 2, .int 3, .int 3, .int 4])) c (cupO x2 y2) = H2 at c2 k2
    refine ⟨_, rfl, c, 6, rfl, by decide, by decide, c2, fun x3 y3 r hr => ?_⟩
    have c3 : Cup (upd H2 c (cupO x3 y3)) c := Cup.upd x3 y3
    have g3 : GenK c (upd H2 c (cupO x3 y3)) Q := q.from (Same.trans k1 (Same.trans k2 (Kp.cup _)))
    refine ⟨_, rfl, rfl, _, rfl, ite2 (fun e => ?_) (fun e => ?_)⟩
    · exact ⟨_, rfl, c, rfl, c3, g3⟩
    refine ⟨_, rfl, _, _, rfl, rfl, _, rfl, ite2 (fun e => ?_) (fun e => ?_)⟩
    · exact ⟨_, rfl, _, rfl, _, rfl, c, m, n, rfl, c3, m1, m4, n1, n4, g3⟩
    refine ⟨_, rfl, rfl, _, rfl, ite2 (fun e => ?_) (fun e => ?_)⟩
    · exact ⟨_, rfl, _, rfl, _, rfl, c, m, n, rfl, c3, m1, m4, n1, n4, g3⟩
    refine ⟨_, rfl, rfl, _, rfl, ite2 (fun e => ?_) (fun e => ?_)⟩
    · exact ⟨_, rfl, _, rfl, _, rfl, c, m, n, rfl, c3, m1, m4, n1, n4, fun H' v k s' c' sm _ _ dv => g3 H' v k m s' c' sm dv⟩
    · exact ⟨_, rfl, _, rfl, _, rfl, c, m, n, rfl, c3, m1, m4, n1, n4, g3⟩
def GenT (c : Addr) (n : Nat) (H : Hp) (Q : VK) : Prop := ∀ H' v (t : Tr), Kp c H H' → Cup H' c → OkT n t → t.length ≤ 2 → DV (hid [c] H') (dT t) v → Q v H'
def spTrain : Sp := fun vs H Q _ => ∃ (c : Addr) (n : Nat) (kv : V), vs = [.ref c, kv, .int 2] ∧ Cup H c ∧ KLen H n kv ∧ 1 ≤ n ∧ n ≤ 6 ∧ GenT c n H Q
theorem k_law_train (D : Df K mg "_law_train" "_law_train" s_law_train) (B : Bl mg) (C1 : Cl P w K mg base 1 "_law_roll" spRoll) : Cl P w K mg base 2 "_law_train" spTrain := by
  refine D.cl c_law_train (fun _ _ _ _ _ _ us hl => match us, hl with | [_, _, _], _ => rfl) (fun vs H Q E h => ?_) (fun f cdv A outer s H vs Q E hr h => ?_)
  · obtain ⟨c, n, kv, rfl, _⟩ := h
    rfl
  · obtain ⟨c, n, kv, rfl, hc, ⟨ka, kx, rfl, hka, lk⟩, n1, n6, q⟩ := h
    have nd := c_law_train.nd
    refine ⟨_, pss_one (ps_ret (pe_callTy call_tuple_of (by rfl) B.tuple (by decide +kernel) (pa_cons (pe_lc (own := [("_law_walker", 3)]) (g := gName 3) (tt := tYes) rfl nd (pi_range1 (by rfl) B.range (pa_cons (pe_cl C1 hr (by decide) (pa_cons (pv 0) (pa_cons (pe_op op_add (pv 2) pe_int) pa_nil))) pa_nil))
        (blkOk_by (N := n_law_train) (sc := defScope s_law_train) (by decide +kernel)) (fun _ _ _ _ _ => pg_name (i := 3) nd rfl (Or.inl rfl)) (fun _ _ _ _ _ => pts_nil)
        (fun _ _ _ _ _ => pe_cl C1 hr (by decide) (pa_cons (pv 0) (pa_cons (pe_callB (call_lenK (K := K) rfl) (by rfl) B.len PySem.boot_len (pa_cons (pv 1) pa_nil)) pa_nil)))) pa_nil))), ?_⟩
    have nka := hc.tup_ne hka
    refine ⟨_, rfl, _, rfl, _, _, rfl, rfl, c, 3, rfl, by decide, by decide, hc, fun x y r hr => ?_⟩
    have c1 : Cup (upd H c (cupO x y)) c := Cup.upd x y
    have k1 : Kp c H (upd H c (cupO x y)) := Kp.cup _
    refine ⟨_, rfl, by omega, by omega, fun D1 nD1 => lc_rngC (n := ((r : Int)).toNat) (fun j G v => ∃ s : Nat, s < n ∧ DV G (nD s) v) nD1 c1 (by omega) (fun _ => rfl) (fun j G G' y e ⟨r, h1, h2⟩ => ⟨r, h1, h2.same e⟩) (fun j H5 Q hj s5 hc5 hD2 q => ?_) (fun H5 ys s5 hc5 eD2 ely hy => ?_)⟩
    · refine ⟨_, rfl, _, rfl, ka, kx, rfl, .inr (SqT.of (Kp.at (Same.trans k1 s5) nka hka)), c, kx.length, rfl, by omega, by omega, hc5, fun x2 y2 s hs => ?_⟩
      exact q _ _ (Kp.cup _) (Cup.upd x2 y2) ⟨s, by omega, rfl⟩
    · obtain ⟨t, ht, lt, pt⟩ := DVs.choose hy
      refine ⟨D1, ys, rfl, .inl ⟨SqL.of eD2, fun l nl => ?_⟩⟩
      have s6 : Kp c H5 (upd H5 l (.tup ys)) := Kp.new nl
      have c6 := hc5.keep (same_upd (o := .tup ys) nl)
      refine q _ _ t (Same.trans k1 (Same.trans s5 s6)) c6 (fun x hx => pt x hx) (by omega) ⟨l, ys, rfl, hid_at (hc5.ne nl), ?_⟩
      exact (ht.same two_le).same s6
def spPairOf : Sp := fun vs H Q _ => ∃ c : Addr, vs = [.ref c] ∧ Cup H c ∧ ∀ H' a kv tv ov (k : Kd) (m : Nat) (t o : Tr), Kp c H H' → Cup H' c → Sm k m → OkT k.length t → t.length ≤ 2 → DV (hid [c] H') (dK k) kv → DV (hid [c] H') (dT t) tv → H' a = some (.tup [kv, tv, ov]) → Q (.ref a) H'
theorem k_law_pair_of (D : Df K mg "_law_pair_of" "_law_pair_of" s_law_pair_of) (B : Bl mg) (C1 : Cl P w K mg base 4 "_law_kind" spGen) (C2 : Cl P w K mg base 2 "_law_train" spTrain) : Cl P w K mg base 5 "_law_pair_of" spPairOf := by
  refine D.cl c_law_pair_of (fun _ _ _ _ _ _ us hl => match us, hl with | [_], _ => rfl) (fun vs H Q E h => ?_) (fun f cdv A outer s H vs Q E hr h => ?_)
  · obtain ⟨c, rfl, _⟩ := h
    rfl
  · obtain ⟨c, rfl, hc, q⟩ := h
    have nd := c_law_pair_of.nd
    refine ⟨_, pss_cons (ps_set (i := 1) nd rfl (.inl rfl) (pe_cl C1 hr (by decide) (pa_cons (pv 0) pa_nil)))
      (pss_one (ps_ret (pe_tup (pa_cons (pv 1) (pa_cons (pe_cl C2 hr (by decide) (pa_cons (pv 0) (pa_cons (pv 1) (pa_cons pe_int pa_nil)))) (pa_cons (pe_cl C2 hr (by decide) (pa_cons (pv 0) (pa_cons (pv 1) (pa_cons pe_int pa_nil)))) pa_nil)))))), ?_⟩
    refine ⟨_, rfl, c, rfl, hc, fun H1 kv k m s1 c1 sm dk => ?_⟩
    have kl : KLen H1 k.length kv := kd_len (dk.same hid_le)
    have n6 := sm.ok.s6
    have n1 := sm.ok.s1
    refine ⟨_, rfl, _, rfl, _, rfl, c, k.length, kv, rfl, c1, kl, n1, n6, fun H2 tv t s2 c2 okt lt dt => ?_⟩
    have kl2 : KLen H2 k.length kv := kd_len ((dk.same s2).same hid_le)
    refine ⟨_, rfl, _, rfl, c, k.length, kv, rfl, c2, kl2, n1, n6, fun H3 ov o s3 c3 _ _ _ => ⟨(by show 3 ≤ sizeLine; decide), fun T nT => ?_⟩⟩
    have s4 : Kp c H3 (upd H3 T (.tup [kv, tv, ov])) := Kp.new nT
    exact q _ T kv tv ov k m t o (Same.trans s1 (Same.trans s2 (Same.trans s3 s4))) (c3.keep (same_upd nT)) sm okt lt (((dk.same s2).same s3).same s4) ((dt.same s3).same s4) upd_same
end
end K36
set_option Elab.async false
set_option linter.all false
set_option maxRecDepth 100000
set_option maxHeartbeats 4000000
namespace K36
open PySem PySem.Spec PyProof.Rows L2
open Sem (wp)
open AutoSeq1 (wpAny_loadPart')
/-! ### enumerate(tuple) -/
theorem meets_enumT (t : Addr) (items : Array Value) :
    Meets (Builtin.«enumerate.__new__» ⟨[.type "enumerate", .ref t], []⟩) (fun _ R s => s.heap.IsTuple t items ∧
      R (.ok (.ret (.ref (s.heap.push { cls := .type "tuple_iterator", data := .fields #[.ref t, .int 0 0] }).objs.size)))
        { s with heap := (s.heap.push { cls := .type "tuple_iterator", data := .fields #[.ref t, .int 0 0] }).push { cls := .type "enumerate", data := .fields #[.none, .bool false, .ref s.heap.objs.size, rawInt 0, .none, .none] } }) :=
  .of_wp fun prog w A R s h => by
    obtain ⟨hp, g, d, tk, os⟩ := s
    obtain ⟨hT, h⟩ := h
    have hsub := sub_enumerate
    wp_walk
    refine wpAny_stack_any fun st => wpAny_pure ?_
    split
    · rename_i c _ _ _ _ _
      cases (c == Value.type "enumerate")
      · wp_walk using wpAny_pyIter_tuple hT
        exact ⟨_, rfl, h⟩
      · wp_walk using wpAny_pyIter_tuple hT
        exact ⟨_, rfl, h⟩
    · wp_walk using wpAny_pyIter_tuple hT
      exact ⟨_, rfl, h⟩
theorem call_enumT {prog : Program} {w : World} {A : Around} {E : Value → Shared → Prop} {s : Shared} {t : Addr} {items : Array Value} {Q : Value → Shared → Prop} (ht : s.heap.IsTuple t items)
    (q : ∀ h', IsEnum h' (s.heap.objs.size + 1) s.heap.objs.size 0 .none → h'.IsTupleIter s.heap.objs.size t 0 → (∀ b o, s.heap.get? b = some o → h'.get? b = some o) → Q (.ref (s.heap.objs.size + 1)) { s with heap := h' }) :
    wpAny (model prog w) A (call (.type "enumerate") [.ref t]) Q E s := by
  refine callType_new F.called_enumerate (by decide) (F.typeCall_enumerate_1 _) (F.newCall_enumerate_1 _) (fun obj => F.args_object_init_2 obj _) F.entry_enumerate_new (meets_enumT t items) ⟨ht, ?_⟩
  have z : (s.heap.push { cls := .type "tuple_iterator", data := .fields #[.ref t, .int 0 0] }).objs.size = s.heap.objs.size + 1 := Heap.size_push ..
  show _ ∧ _
  rw [z]
  have e : IsEnum ((s.heap.push { cls := .type "tuple_iterator", data := .fields #[.ref t, .int 0 0] }).push { cls := .type "enumerate", data := .fields #[.none, .bool false, .ref s.heap.objs.size, rawInt 0, .none, .none] }) (s.heap.objs.size + 1) s.heap.objs.size 0 .none := by
    have y := Heap.get?_push_size (s.heap.push { cls := .type "tuple_iterator", data := .fields #[.ref t, .int 0 0] }) (o := { cls := .type "enumerate", data := .fields #[.none, .bool false, .ref s.heap.objs.size, rawInt 0, .none, .none] }) rfl
    rw [z] at y
    exact y
  exact ⟨⟨_, e, rfl⟩, q _ e ⟨_, Heap.get?_push_of_some _ (Heap.get?_push_size _ rfl), rfl, rfl⟩ fun b o x => Heap.get?_push_of_some _ (Heap.get?_push_of_some _ x)⟩
def IteT (K : PySem.W.Frag) (a : Addr) : It :=
  ⟨fun i H => ∃ (xs : List V) (x : V), SqT K H a xs ∧ xs[i]? = some x, fun i H v H' => ∃ T x, v = .ref T ∧ H T = none ∧ H' = upd H T (.tup [.int (i : Nat), x]) ∧ ∀ xs, SqT K H a xs → xs[i]? = some x, fun i H => ∃ xs : List V, SqT K H a xs ∧ xs.length = i⟩
theorem tup_inj {X : Cx} {pins : List (Addr × Obj)} {σ : L2.St} {H : Hp} {s : Shared} (I : Inv X pins σ H s) {a : Addr} {xs ys : List V} (h1 : H a = some (.tup xs)) (h2 : H a = some (.tup ys)) : xs = ys := by
  rw [h1] at h2
  injection h2 with h2
  injection h2
/-- the tuple stands in H -/
def IteH (a : Addr) (xs : List V) : It :=
  ⟨fun i H => H a = some (.tup xs) ∧ i < xs.length, fun i H v H' => ∃ T x, v = .ref T ∧ H T = none ∧ H' = upd H T (.tup [.int (i : Nat), x]) ∧ xs[i]? = some x, fun i H => H a = some (.tup xs) ∧ xs.length = i⟩
theorem turn_enumT {P : Program} {w : World} {K : PySem.W.Frag} {elts : List Expr} {kk : Nat} {tpos : Pos} (a e it : Addr) (xs : List V) :
    Turn P w K (.Tuple elts kk tpos) (IteH a xs) [e, it] e (fun i h => (∃ old, IsEnum h e it ((i : Nat) : Int) old) ∧ h.IsTupleIter it a i ∧ e ≠ it) where
  mem := by simp
  obj := fun i h st b hb => by
    obtain ⟨⟨old, he⟩, ⟨o, ho, hc, hd⟩, _⟩ := st
    have z : b = e ∨ b = it := by simpa using hb
    rcases z with z | z
    · subst z
      exact ⟨_, he, fun v q => nomatch q⟩
    · subst z
      exact ⟨o, ho, fun v q => by rw [hd] at q; cases q⟩
  keep := fun i h h' st k => by
    obtain ⟨⟨old, he⟩, ⟨o, ho, hc, hd⟩, ne⟩ := st
    exact ⟨⟨old, k e (by simp) _ he⟩, ⟨o, k it (by simp) _ ho, hc, hd⟩, ne⟩
  item := by
    intro X hP hw hK hc i pins s σ H E I hf st hg
    subst hP hw hK
    obtain ⟨⟨old, he⟩, hit, hne⟩ := st
    obtain ⟨hq, hi⟩ := hg
    obtain ⟨its, rv, tp, hz⟩ := I.tuple (SqT.of (K := X.K) hq)
    have hh : X.A.in1.handled = none := I.ok.hd hc
    have hel : e < s.heap.objs.size := Heap.lt_size he
    have hil : it < s.heap.objs.size := by
      obtain ⟨_, q, _⟩ := hit
      exact Heap.lt_size q
    have ai : a ≠ it := fun z => by
      obtain ⟨o1, g1, c1, _⟩ := tp
      obtain ⟨o2, g2, c2, _⟩ := hit
      rw [z, g2] at g1
      cases Option.some.inj g1
      rw [c1] at c2
      revert c2
      decide
    have ae : a ≠ e := fun z => by
      obtain ⟨o1, g1, c1, _⟩ := tp
      rw [z, he] at g1
      cases Option.some.inj g1
      have c3 : (Value.type "enumerate" : Value) = Value.type "tuple" := c1
      revert c3
      decide
    have lv := rv.length
    refine wpAny_pyNext_enum_itemD (Draws.tuple (prog := X.prog) (w := X.w) (A := X.A.in1) hh it a ai its.toArray) he ⟨hit, tp⟩ (by rw [List.size_toArray]; omega) hne (by simp [hne, Ne.symm ae]) fun u h' tk hu ho st2 hT hsz hk => ?_
    obtain ⟨hit', _⟩ := st2
    refine ⟨_, rfl, wpAny_letOwnedTupleGo_enum (s := { s with heap := h', toks := tk + 1 }) ho fun h'' he' sb => ?_⟩
    have hT2 : h''.get? s.heap.objs.size = some { cls := .type "tuple", data := .seq #[.int i tk, u] } := (sb.2 _ (Nat.ne_of_gt hel)).trans hT
    obtain ⟨x, hx⟩ : ∃ x, xs[i]? = some x := ⟨_, List.getElem?_eq_getElem hi⟩
    obtain ⟨u', hu', ru⟩ := rv.get hx
    have eu : u = u' := by
      have h1 : its[i]? = some u := by simpa using hu
      rw [hu'] at h1
      exact (Option.some.inj h1).symm
    subst eu
    have new : ObjOk X.prog X.w (upd H s.heap.objs.size (.tup [.int (i : Nat), x])) h'' s.heap.objs.size (.tup [.int (i : Nat), x]) :=
      ⟨by show 2 ≤ sizeLine; decide, [.int i tk, u], .cons ⟨_, rfl⟩ (.cons ru .nil), ⟨_, hT2, rfl, _, rfl⟩⟩
    have J : Inv X pins σ (upd H s.heap.objs.size (.tup [.int (i : Nat), x])) { s with heap := h'', toks := tk + 1 } :=
      I.turnedNew (t' := tk + 1) (ch := [e, it]) (fun b ob hb q => (sb.2 b (fun z => hb (by simp [z]))).trans (hk b ob (fun z => hb (by simp [z])) (fun z => hb (by simp [z])) q)) hf (Nat.le_refl _) new
    refine ⟨.ref s.heap.objs.size, _, J, rfl, ⟨_, x, rfl, I.hok.fresh (Nat.le_refl _), rfl, hx⟩, ⟨⟨u, ?_⟩, ?_, hne⟩, fun b hb => ?_⟩
    · have z : ((i + 1 : Nat) : Int) = (i : Int) + 1 := by omega
      rw [z]
      exact he'
    · obtain ⟨o, g, r⟩ := hit'
      exact ⟨o, (sb.2 it (Ne.symm hne)).trans g, r⟩
    · have lt : b < s.heap.objs.size := by
        have z : b = e ∨ b = it := by simpa using hb
        rcases z with z | z
        · rw [z]; exact hel
        · rw [z]; exact hil
      rw [upd_ne (Nat.ne_of_lt lt)]
      exact (hf b hb).1
  done := by
    intro X hP hw hK hc i pins s σ H E I hf st hg
    subst hP hw hK
    obtain ⟨⟨old, he⟩, hit, hne⟩ := st
    obtain ⟨hq, hi⟩ := hg
    obtain ⟨its, rv, tp, hz⟩ := I.tuple (SqT.of (K := X.K) hq)
    have hh : X.A.in1.handled = none := I.ok.hd hc
    obtain ⟨f0, f1, f2, f3, f4, f5⟩ := hf it (by simp)
    have ai : a ≠ it := fun z => by
      obtain ⟨o1, g1, c1, _⟩ := tp
      obtain ⟨o2, g2, c2, _⟩ := hit
      rw [z, g2] at g1
      cases Option.some.inj g1
      rw [c1] at c2
      revert c2
      decide
    have lv := rv.length
    have ei : its.toArray.size = i := by
      rw [List.size_toArray]
      omega
    exact wpAny_pyNext_enum_endD (Draws.tuple (prog := X.prog) (w := X.w) (A := X.A.in1) hh it a ai its.toArray) he (by rw [ei]; exact ⟨hit, tp⟩) fun h' eb => ⟨rfl, I.turned (t' := s.toks) (fun b o hb q => eb b o hb q) f0 f1 f3 f4 f5⟩
  self := fun A i s Q E st h => by
    obtain ⟨⟨_, he⟩, _⟩ := st
    exact wpAny_pyIter_enum he h
def iEnumT (ta : TA) : TI := fun σ H R => ta σ H fun vs H1 => ∃ a xs, vs = [.ref a] ∧ H1 a = some (.tup xs) ∧ R (IteH a xs) H1
theorem pi_enumT {X : Cx} {e : Expr} {ta : TA} {p pos tpos : Pos} {elts : List Expr} {kk : Nat} (hg : Gl X "enumerate") (hm : X.mg "enumerate" = none) (ha : PA X [e] ta) (hs : starEach [e] X.env = [(false, eval e X.env)] := by rfl) :
    PI X (.Tuple elts kk tpos) (.Call (.Name "enumerate" p) [e] [] pos) (iEnumT ta) := by
  refine ⟨fun pins s σ H R I h => ?_⟩
  refine Call_ (ld_blt I hg hm boot_enumerate (PyProof.Rows.callWith_type1 (thn (ha.run pos pins s σ H _ I h) fun us s1 ⟨vs, H1, I1, r1, q1⟩ => ?_) hs rfl))
  obtain ⟨a, xs, rfl, hq, q⟩ := q1
  rw [Vals.ref1 r1]
  obtain ⟨its, rv, tp, hz⟩ := I1.tuple (SqT.of (K := X.K) hq)
  refine call_enumT tp fun h' he hit hk => wpAny_pyIter_enum he ?_
  have I2 : Inv X pins σ H1 { s1 with heap := h' } := I1.kept (t' := s1.toks) hk
  refine ⟨s1.heap.objs.size + 1, [s1.heap.objs.size + 1, s1.heap.objs.size], _, _, H1, rfl, I2, turn_enumT a (s1.heap.objs.size + 1) s1.heap.objs.size xs, ⟨⟨.none, he⟩, hit, Nat.succ_ne_self _⟩, fun b hb => ?_, q⟩
  have z : b = s1.heap.objs.size + 1 ∨ b = s1.heap.objs.size := by simpa using hb
  have le : s1.heap.objs.size ≤ b := by
    rcases z with z | z
    · rw [z]; exact Nat.le_add_right _ _
    · rw [z]; exact Nat.le_refl _
  exact I1.fpOk le (I1.hok.fresh le)
end K36
set_option Elab.async false
set_option linter.all false
set_option maxRecDepth 100000
set_option maxHeartbeats 4000000
namespace K36
open PySem PySem.Spec PyProof.Rows L2
theorem ixN_nat {n j : Nat} (h : j < n) : ixN n (j : Int) = some j := by
  unfold ixN
  rw [if_pos (by omega), if_pos (by omega)]
  simp
/-- a row the other way round -/
def backRow (r : Row) : Row := (List.range r.length).map fun j => ((r.map (·.1)).idxOf j, (r.getD ((r.map (·.1)).idxOf j) (0, 0)).2)
theorem backRow_len (r : Row) : (backRow r).length = r.length := by
  unfold backRow
  rw [List.length_map, List.length_range]
theorem backRow_at (r : Row) {j : Nat} (h : j < r.length) : (backRow r).getD j (0, 0) = ((r.map (·.1)).idxOf j, (r.getD ((r.map (·.1)).idxOf j) (0, 0)).2) := by
  unfold backRow
  rw [List.getD_eq_getElem?_getD, List.getElem?_map, List.getElem?_range h]
  rfl
theorem nodup_at {r : Row} (nd : (r.map (·.1)).Nodup) {i j : Nat} {p q : Nat × Nat} (hi : r[i]? = some p) (hj : r[j]? = some q) (e : p.1 = q.1) : i = j := by
  have h1 : (r.map (·.1))[i]? = some p.1 := by rw [List.getElem?_map, hi]; rfl
  have h2 : (r.map (·.1))[j]? = some q.1 := by rw [List.getElem?_map, hj]; rfl
  obtain ⟨l1, g1⟩ := List.getElem?_eq_some_iff.mp h1
  obtain ⟨l2, g2⟩ := List.getElem?_eq_some_iff.mp h2
  exact (List.getElem_inj nd).mp (by rw [g1, g2, e])
section
variable {P : Program} {w : World} {K : PySem.W.Frag} {mg : Str → Option Value} {base : Heap}
def spBack : Sp := fun vs H Q _ => ∃ (k : Kd) (m : Nat) (t : Tr) (kv tv : V), vs = [kv, tv] ∧ DV H (dK k) kv ∧ DV H (dT t) tv ∧ Sm k m ∧ (∀ r ∈ k, (r.map (·.1)).Nodup) ∧ ∀ H' v, Same H H' → DV H' (dKT (k.map backRow) t.reverse) v → Q v H'
theorem k_law_back (D : Df K mg "_law_back" "_law_back" s_law_back) (B : Bl mg) : Cl P w K mg base 1 "_law_back" spBack := by
  refine D.cl c_law_back (fun _ _ _ _ _ _ us hl => match us, hl with | [_, _], _ => rfl) (fun vs H Q E h => ?_) (fun f cdv A outer s H vs Q E hr h => ?_)
  · obtain ⟨k, m, t, kv, tv, rfl, _⟩ := h
    rfl
  · obtain ⟨k, m, t, kv, tv, rfl, hk, ht, sm, ev, q⟩ := h
    have nd := c_law_back.nd
    refine ⟨_, pss_cons (ps_set (i := 2) nd rfl (.inl rfl) (pe_tup pa_nil))
      (pss_cons (ps_for PassesOwn.never rfl (pi_range1 (by rfl) B.range (pa_cons (pe_callB call_len_seq (by rfl) B.len PySem.boot_len (pa_cons (pv 0) pa_nil)) pa_nil)) (pg_name (i := 3) nd rfl (.inl rfl))
        (pss_cons (ps_set (i := 4) nd rfl (.inl rfl) (pe_op op_rep (pe_lst (pa_cons pe_non pa_nil)) (pe_callB call_len_seq (by rfl) B.len PySem.boot_len (pa_cons (pe_ix ix_tup (pv 0) pe_int (fun _ _ => rfl)) pa_nil))))
        (pss_cons (ps_for PassesOwn.never rfl (pi_enumT (by rfl) B.enum (pa_cons (pe_ix ix_tup (pv 0) (pv 3) (fun _ _ => rfl)) pa_nil)) (pg_tup rfl (pgs_cons (pg_name (i := 5) nd rfl (.inl rfl)) (pgs_cons (pg_name (i := 6) nd rfl (.inl rfl)) pgs_nil)))
          (pss_one (ps_asg (pe_tup (pa_cons (pv 5) (pa_cons (pe_ix ix_tup (pv 6) pe_int (fun _ _ => rfl)) pa_nil))) (pg_sub (pv 4) (pe_ix ix_tup (pv 6) pe_int (fun _ _ => rfl)) set_list))))
        (pss_one (ps_set (i := 2) nd rfl (.inl rfl) (pe_op op_catU (pv 2) (pe_tup (pa_cons (pe_callTy call_tuple_of (by rfl) B.tuple (by decide +kernel) (pa_cons (pv 4) pa_nil)) pa_nil))))))))
      (pss_one (ps_ret (pe_tup (pa_cons (pv 2) (pa_cons (pe_revT (pv 1)) pa_nil)))))), ?_⟩
    have m4 := sm.m4
    have k4 := sm.s4
    obtain ⟨ka, kb, kxs, kys, rfl, hka, hkb, ekl⟩ := kd_settings hk sm.ok
    obtain ⟨ka', kx, eka, hka', hkx⟩ := hk.kd
    cases eka
    have ekx : kx = .ref kb :: kxs := by
      rw [hka] at hka'
      injection hka' with z
      injection z with z
      exact z.symm
    subst ekx
    have lkx := hkx.length
    rw [List.length_map] at lkx
    refine ⟨Nat.zero_le _, fun p0 np0 => ?_⟩
    have s0 := same_upd (o := .tup []) np0
    refine ⟨_, rfl, ka, _, rfl, .inr (SqT.of (s0 _ _ hka)), _, rfl, by omega, by omega, for_range (lo := 0) (n := (((V.ref kb :: kxs).length : Int)).toNat) (fun i σ H3 => ∃ (fa : Addr) (xs : List V) (x3 x4 x5 x6 : Option V), σ = [some (.ref ka), some tv, some (.ref fa), x3, x4, x5, x6] ∧ Same H H3 ∧ H3 fa = some (.tup xs) ∧ DVs H3 (((k.take i).map backRow).map dR) xs)
      ⟨p0, [], none, none, none, none, rfl, s0, upd_same, rfl⟩ ?_ ?_⟩
    · rintro i σ H3 hi ⟨fa, xs, x3, x4, x5, x6, rfl, s3, hfa, hxs⟩
      have hi' : i < k.length := by omega
      have e0 : V.int (0 + (i : Int)) = nV i := by
        rw [Int.zero_add]
        rfl
      rw [e0]
      obtain ⟨r, er, rl, rg⟩ := sm.ok.row hi'
      have rev := ev r (List.mem_of_getElem? er)
      obtain ⟨ra, rx, e1, hra, hrx⟩ := hkx.getR er
      have lrx := hrx.length
      rw [List.length_map] at lrx
      refine ⟨(by show 1 ≤ sizeLine; decide), fun l0 nl0 => ?_⟩
      have t0 := same_upd (o := .lst [.non]) nl0
      have s30 := s3.trans t0
      refine ⟨_, rfl, ka, _, 0, .ref kb, rfl, rfl, SqT.of (s30 _ _ hka), atN (j := 0) rfl, kb, kys, rfl, .inr (SqT.of (s30 _ _ hkb)), l0, _, _, rfl, rfl, upd_same, by omega, by omega, (by show 1 * ((kys.length : Int)).toNat ≤ sizeLine; exact fits (by omega)), fun la nla => ?_⟩
      have em : ((kys.length : Int)).toNat = m := by omega
      rw [em]
      have t1 := same_upd (o := .lst (List.replicate m [V.non]).flatten) nla
      have s31 := s30.trans t1
      have nla0 : H la = none := by
        cases e : H la with
        | none => rfl
        | some o =>
          have := s30 _ _ e
          rw [nla] at this
          cases this
      have nla3 : H3 la = none := by
        cases e : H3 la with
        | none => rfl
        | some o =>
          have := t0 _ _ e
          rw [nla] at this
          cases this
      have lrep : (List.replicate m [V.non]).flatten.length = m := by simp
      refine ⟨_, rfl, _, rfl, ka, _, i, .ref ra, rfl, rfl, SqT.of (s31 _ _ hka), atN e1, ra, rx, rfl, s31 _ _ hra, ?_⟩
      refine ⟨fun j mm σ H4 => j + mm = rx.length ∧ ∃ (ys : List V) (x5 x6 : Option V), σ = [some (.ref ka), some tv, some (.ref fa), some (nV i), some (.ref la), x5, x6] ∧ Same H3 H4 ∧ H4 la = some (.lst ys) ∧ ys.length = m ∧ ∀ s, s < j → ∀ p, r[s]? = some p → ∃ v, ys[p.1]? = some v ∧ DV H4 (dP (s, p.2)) v,
        ⟨rx.length, by omega, _, _, _, rfl, t0.trans t1, upd_same, lrep, fun s z => absurd z (Nat.not_lt_zero _)⟩, ?_⟩
      rintro j mm σ H4 ⟨ej, ys, x5, x6, rfl, s4, hla, ly, hy⟩
      have s34 := s3.trans s4
      by_cases hj : j < rx.length
      · refine .inr ⟨⟨s34 _ _ hra, hj⟩, _, fun _ _ h => h, fun x H' y => ?_⟩
        obtain ⟨T, u, rfl, nT, rfl, hu⟩ := y
        have hjr : j < r.length := by omega
        have ep : r[j]? = some r[j] := List.getElem?_eq_getElem hjr
        obtain ⟨pa, e2, hpa⟩ := hrx.getP ep
        rw [hu] at e2
        cases Option.some.inj e2
        have bnd := sm.ok.ins r (List.mem_of_getElem? er) r[j] (List.getElem_mem hjr)
        have t2 := same_upd (o := .tup [.int (j : Nat), .ref pa]) nT
        have hpa5 := t2 _ _ (s34 _ _ hpa)
        refine ⟨T, _, rfl, SqT.of upd_same, rfl, _, _, rfl, _, _, rfl, rfl, ?_⟩
        refine ⟨_, rfl, _, rfl, pa, _, 1, nV r[j].2, rfl, rfl, SqT.of hpa5, atN (j := 1) rfl, (by show 2 ≤ sizeLine; decide), fun T2 nT2 => ?_⟩
        have t3 := same_upd (o := .tup [.int (j : Nat), nV r[j].2]) nT2
        have hla6 := t3 _ _ (t2 _ _ hla)
        refine ⟨_, rfl, _, rfl, pa, _, 0, nV r[j].1, rfl, rfl, SqT.of (t3 _ _ hpa5), atN (j := 0) rfl, la, ys, _, r[j].1, rfl, rfl, hla6, ixN_nat (by omega), mm - 1, by omega, by omega, _, _, _, rfl, same_upd2 (s4.trans (t2.trans t3)) nla3, upd_same, by rw [List.length_set]; exact ly, fun s hs p hp => ?_⟩
        have tl := tups_lst (ys := ys.set r[j].1 (.ref T2)) hla6
        rcases Nat.lt_succ_iff_lt_or_eq.mp hs with z | z
        · obtain ⟨v, hv, dv⟩ := hy s z p hp
          have ne : p.1 ≠ r[j].1 := fun e => by
            have := nodup_at rev hp ep e
            omega
          refine ⟨v, by rw [List.getElem?_set_ne (Ne.symm ne)]; exact hv, DV.tups tl ?_ ((dv.same t2).same t3)⟩
          rfl
        · subst z
          rw [ep] at hp
          cases Option.some.inj hp
          refine ⟨.ref T2, by rw [List.getElem?_set_self (by omega)], DV.pr.mpr ⟨T2, rfl, tl _ _ ?_⟩⟩
          exact upd_same
      · have ejr : j = r.length := by omega
        refine .inl ⟨⟨s34 _ _ hra, by omega⟩, ?_⟩
        refine ⟨_, rfl, _, rfl, la, ys, rfl, .inl ⟨SqL.of hla, fun l nl => ⟨(by show 1 ≤ sizeLine; decide), fun T nT => ?_⟩⟩⟩
        have t2 := same_upd (o := .tup ys) nl
        have t3 := same_upd (o := .tup [.ref l]) nT
        have s35 := s4.trans (t2.trans t3)
        have lxs := hxs.length
        rw [List.length_map, List.length_map, List.length_take] at lxs
        refine ⟨fa, T, xs, _, rfl, rfl, s35 _ _ hfa, upd_same, by show xs.length + 1 ≤ 100000; omega, fun p H6 s6 e6 => ?_⟩
        refine ⟨p, _, _, _, _, _, rfl, s3.trans (s35.trans s6), e6, ?_⟩
        rw [List.take_add_one, er, List.map_append, List.map_append]
        refine ((hxs.same s35).same s6).append (DVs.one ?_)
        have all := all_in rev (fun x hx => by
          obtain ⟨p, hp, rfl⟩ := List.mem_map.mp hx
          exact (sm.ok.ins r (List.mem_of_getElem? er) p hp).1) (by rw [List.length_map, rl])
        refine ⟨l, ys, rfl, s6 _ _ (t3 _ _ upd_same), DVs.of_get (z := (0, 0)) (by rw [backRow_len]; omega) fun j' y hy' => ?_⟩
        have hj' : j' < r.length := by
          have := (List.getElem?_eq_some_iff.mp hy').1
          omega
        obtain ⟨i1, _⟩ := idx_props (all j' (by omega))
        rw [List.getElem?_map] at i1
        cases ep : r[(r.map (·.1)).idxOf j']? with
        | none => rw [ep] at i1; cases i1
        | some p =>
          rw [ep] at i1
          have i1' : p.1 = j' := Option.some.inj i1
          have hlt := (List.getElem?_eq_some_iff.mp ep).1
          obtain ⟨v, hv, dv⟩ := hy _ (by omega) p ep
          rw [i1', hy'] at hv
          cases Option.some.inj hv
          have e2 : r.getD ((r.map (·.1)).idxOf j') (0, 0) = p := by rw [List.getD_eq_getElem?_getD, ep]; rfl
          rw [backRow_at r hj', e2]
          exact ((dv.same t2).same t3).same s6
    · rintro σ H3 ⟨fa, xs, x3, x4, x5, x6, rfl, s3, hfa, hxs⟩
      have en : (((V.ref kb :: kxs).length : Int)).toNat = k.length := by omega
      rw [en, List.take_length] at hxs
      obtain ⟨ta, rfl, hta⟩ := DV.tr.mp ht
      refine ⟨_, rfl, _, rfl, ta, _, rfl, s3 _ _ hta, fun p np => ⟨(by show 2 ≤ sizeLine; decide), fun T nT => ?_⟩⟩
      have e1 := same_upd (o := .tup (t.map nV).reverse) np
      have e2 := same_upd (o := .tup [.ref fa, .ref p]) nT
      refine q _ _ (s3.trans (e1.trans e2)) ⟨T, _, rfl, upd_same, _, _, rfl, ⟨fa, xs, rfl, e2 _ _ (e1 _ _ hfa), (hxs.same e1).same e2⟩, _, _, rfl, DV.tr.mpr ⟨p, rfl, ?_⟩, rfl⟩
      rw [e2 _ _ upd_same, List.map_reverse]
end
end K36
set_option Elab.async false
set_option linter.all false
set_option maxRecDepth 100000
set_option maxHeartbeats 4000000
namespace K36
open PySem PySem.Spec PyProof.Rows L2
/-- tuples of a lot of data are short, three deep -/
def Short : Nat → PyData → Prop
  | 0, _ => True
  | n + 1, d => ∀ ds, d = .tuple ds → ds.length ≤ 1000 ∧ ∀ e ∈ ds, Short n e
/-- what the law tells of a value -/
def LI (k : Kd) (m : Nat) (t : Tr) (d : PyData) (v : V) : Prop := (v = .str "many" ∧ ManyU k m t d) ∨ (¬ ManyU k m t d ∧ ∃ b, v = .bl b ∧ (b = true ↔ IsUnd k m t d))
theorem shaped_T (r : Tr) : SeqAt.shaped (dT r) = true := by
  have h := lay_pure (koT.pur r)
  have d := koT.dd r
  show (PyData.canLay0 (dT r) && decide (PyData.depth (dT r) ≤ 64)) = true
  have h' : PyData.canLay0 (dT r) = true := h
  have d' : (dT r).depth ≤ 8 := d
  rw [h', Bool.true_and]
  apply decide_eq_true
  omega
theorem shaped_many : SeqAt.shaped (.str "many") = true := by
  show (PyData.canLay0 (.str "many") && decide (PyData.depth (.str "many") ≤ 64)) = true
  simp [PyData.canLay0, PyData.depth]
  decide +kernel
section
variable {P : Program} {w : World} {K : PySem.W.Frag} {mg : Str → Option Value} {base : Heap}
def spLIsUnd : Sp := fun vs H Q _ => ∃ (k : Kd) (m : Nat) (t : Tr) (d : PyData) (kv tv v : V), vs = [kv, tv, v] ∧ DV H (dK k) kv ∧ DV H (dT t) tv ∧ DV H d v ∧ OkK k m ∧ OkT k.length t ∧ t.length ≤ 1000 ∧ Short 4 d ∧ ∀ H' v, Same H H' → LI k m t d v → Q v H'
theorem k_law_is_undoing (D : Df K mg "_law_is_undoing" "_law_is_undoing" s_law_is_undoing) (B : Bl mg) (C1 : Cl P w K mg base 2 "_law_is_kind" spLIsKind) (C2 : Cl P w K mg base 1 "_law_are_whole" spLWhole) (C3 : Cl P w K mg base 4 "_law_unlike" spLUnlike) : Cl P w K mg base 5 "_law_is_undoing" spLIsUnd := by
  refine D.cl c_law_is_undoing (fun _ _ _ _ _ _ us hl => match us, hl with | [_, _, _], _ => rfl) (fun vs H Q E h => ?_) (fun f cdv A outer s H vs Q E hr h => ?_)
  · obtain ⟨k, m, t, d, kv, tv, v, rfl, _⟩ := h
    rfl
  · obtain ⟨k, m, t, d, kv, tv, v, rfl, hk, ht, hd, ok, okt, hlen, sh, q⟩ := h
    have nd := c_law_is_undoing.nd
    refine ⟨_, pss_cons (ps_if (PW.pt (pw_or (pt_not (pt_val (pe_callB call_isi (by rfl) B.isi (by decide +kernel) (pa_cons (pv 2) (pa_cons (pe_bltn (by rfl) B.tuple (by decide +kernel) (v := .ty "tuple") rfl) pa_nil)))))
        (pw_or (pt_cmpR op_ne (pe_callB call_len_seq (by rfl) B.len PySem.boot_len (pa_cons (pv 2) pa_nil)) pe_int (nomark _))
        (pw_or (pt_not (pt_val (pe_cl C1 hr (by decide) (pa_cons (pe_ix ix_tup (pv 2) pe_int (fun _ _ => rfl)) pa_nil))))
        (pw_or1 (pt_cmpR op_ne (pe_callB call_len_seq (by rfl) B.len PySem.boot_len (pa_cons (pe_ix ix_tup (pe_ix ix_tup (pv 2) pe_int (fun _ _ => rfl)) pe_int (fun _ _ => rfl)) pa_nil)) (pe_callB call_len_seq (by rfl) B.len PySem.boot_len (pa_cons (pe_ix ix_tup (pv 0) pe_int (fun _ _ => rfl)) pa_nil)) (nomark _))))))) (pss_one (ps_ret pe_bl)) pss_nil)
      (pss_cons (ps_if (PW.pt (pw_or (pt_not (pt_val (pe_cl C2 hr (by decide) (pa_cons (pe_ix ix_tup (pv 2) pe_int (fun _ _ => rfl)) (pa_cons pe_int (pa_cons (pe_op op_sub (pe_callB call_len_seq (by rfl) B.len PySem.boot_len (pa_cons (pe_ix ix_tup (pv 2) pe_int (fun _ _ => rfl)) pa_nil)) pe_int) pa_nil))))))
        (pw_or1 (pt_cmpR op_gt (pe_callB call_len_seq (by rfl) B.len PySem.boot_len (pa_cons (pe_ix ix_tup (pv 2) pe_int (fun _ _ => rfl)) pa_nil)) pe_int (nomark _))))) (pss_one (ps_ret pe_bl)) pss_nil)
      (pss_cons (ps_set (i := 3) nd rfl (.inl rfl) (pe_cl C3 hr (by decide) (pa_cons (pv 0) (pa_cons (pe_ix ix_tup (pv 2) pe_int (fun _ _ => rfl)) (pa_cons (pv 1) (pa_cons (pe_ix ix_tup (pv 2) pe_int (fun _ _ => rfl)) pa_nil))))))
      (pss_one (ps_ret (pe_ifExp (pt_cmpR (op_eqD hr.units) (pv 3) pe_str (nomark _)) pe_str (pe_cmpR op_isN (pv 3) pe_non (nomark _))))))), ?_⟩
    have no : (∀ j u, ¬ Val m d j u) → ∀ H', Same H H' → Q (.bl false) H' := fun n H' s' => q H' _ s' (.inr ⟨fun ⟨j, u, vl, _⟩ => n j u vl, false, rfl, fun z => Bool.noConfusion z, fun ⟨j, u, vl, _⟩ => absurd vl (n j u)⟩)
    refine ⟨v, rfl, v, .ty "tuple", _, _, _, rfl, .ty _, ty_of hd, kit_ty (kit_tup d), _, rfl, ite2 (fun e1 => ?_) (fun e1 => ?_)⟩
    · refine no (fun j u vl => ?_) H (Same.refl _)
      obtain ⟨rfl, _⟩ := vl
      simp [isTupD, dKT] at e1
    obtain ⟨ds, rfl⟩ : ∃ ds, d = .tuple ds := by
      cases d <;> first | exact ⟨_, rfl⟩ | (simp [isTupD] at e1)
    obtain ⟨sz, sh⟩ := sh ds rfl
    obtain ⟨a, xs, rfl, ha, hx⟩ := hd
    have el := hx.length
    refine ⟨_, rfl, a, xs, rfl, .inr (SqT.of ha), rfl, _, rfl, ite2 (fun e2 => ?_) (fun e2 => ?_)⟩
    · refine no (fun j u vl => ?_) H (Same.refl _)
      obtain ⟨e, _⟩ := vl
      injection e with e
      have : xs.length = 2 := by rw [el, e]; rfl
      rw [this] at e2
      simp at e2
    have l2 : ds.length = 2 := Decidable.byContradiction fun z => e2 (by
      have : ¬ V.int (xs.length : Int) = V.int 2 := fun q => by
        injection q with q
        exact z (by omega)
      rw [decide_eq_false this]
      rfl)
    obtain ⟨da, db, rfl⟩ : ∃ d1 d2, ds = [d1, d2] := by
      match ds, l2 with
      | [x, y], _ => exact ⟨x, y, rfl⟩
    obtain ⟨va, r1, rfl, hva, vb, r2, rfl, hvb, h3⟩ := hx
    cases (show r2 = [] from h3)
    have sa := sh da (by simp)
    have sb := sh db (by simp)
    refine ⟨_, rfl, a, _, 0, va, rfl, rfl, SqT.of ha, atN (j := 0) rfl, da, va, rfl, hva, fun ds e => ?_, fun H1 s1 => ⟨_, rfl, ite2 (fun e3 => ?_) (fun e3 => ?_)⟩⟩
    · obtain ⟨z1, z2⟩ := sa ds e
      refine ⟨z1, fun r hr rs ers => ?_⟩
      obtain ⟨y1, y2⟩ := z2 r hr rs ers
      exact ⟨y1, fun p hp ps eps => (y2 p hp ps eps).1⟩
    · refine no (fun j u vl => ?_) H1 s1
      obtain ⟨e, oj, _⟩ := vl
      injection e with e
      injection e with e _
      have : kindD da = true := kind_iff.mpr ⟨j, m, e, oj⟩
      rw [this] at e3
      simp at e3
    have ka : kindD da = true := by simpa using e3
    obtain ⟨j, n, rfl, oj⟩ := kind_iff.mp ka
    have ha1 := s1 _ _ ha
    have hva1 := hva.same s1
    obtain ⟨ja, jb, jxs, jys, rfl, hja, hjb, ejl⟩ := kd_settings hva1 oj
    obtain ⟨ka', kb, kxs, kys, rfl, hka, hkb, ekl⟩ := kd_settings (hk.same s1) ok
    refine ⟨_, rfl, a, _, 0, .ref ja, rfl, rfl, SqT.of ha1, atN (j := 0) rfl, ja, _, 0, .ref jb, rfl, rfl, SqT.of hja, atN (j := 0) rfl, jb, jys, rfl, .inr (SqT.of hjb), _, rfl, ka', _, 0, .ref kb, rfl, rfl, SqT.of hka, atN (j := 0) rfl, kb, kys, rfl, .inr (SqT.of hkb), rfl, _, rfl, ite2 (fun e4 => ?_) (fun e4 => ?_)⟩
    · refine no (fun j' u vl => ?_) H1 s1
      obtain ⟨e, oj', _⟩ := vl
      injection e with e
      injection e with e _
      have e := dK_inj e
      subst e
      have := okK_m oj oj'
      subst this
      rw [ejl, ekl] at e4
      simp at e4
    have enm : n = m := Decidable.byContradiction fun z => e4 (by
      have : ¬ V.int (jys.length : Int) = V.int (kys.length : Int) := fun q => by
        injection q with q
        exact z (by omega)
      rw [decide_eq_false this]
      rfl)
    subst enm
    have lj : (V.ref jb :: jxs).length = j.length := by
      obtain ⟨ja2, jx2, e, h, hjx⟩ := hva1.kd
      cases e
      rw [hja] at h
      injection h with h
      injection h with h
      rw [h, hjx.length, List.length_map]
    refine ⟨_, rfl, a, _, 1, vb, rfl, rfl, SqT.of ha1, atN (j := 1) rfl, _, rfl, a, _, 0, .ref ja, rfl, rfl, SqT.of ha1, atN (j := 0) rfl, ja, _, rfl, .inr (SqT.of hja), _, _, rfl, rfl, db, vb, 0, ((V.ref jb :: jxs).length : Int) - 1, rfl, hvb.same s1, fun ds e => (sb ds e).1, fun H2 s2 => ⟨_, rfl, ite2 (fun e5 => ?_) (fun e5 => ?_)⟩⟩
    · refine no (fun j' u vl => ?_) H2 (s1.trans s2)
      obtain ⟨e, oj', ou, lu⟩ := vl
      injection e with e
      injection e with e eb
      injection eb with eb _
      have e := dK_inj e
      subst e
      have tr : trainD j.length db = true := train_iff.mpr ⟨u, eb, ou, lu⟩
      have : wholesD 0 (((V.ref jb :: jxs).length : Int) - 1) db = true := by
        rw [lj, eb]
        rw [eb] at tr
        have h' : (decide ((u.map nD).length ≤ 60) && (u.map nD).all (wholeD 0 ((j.length : Int) - 1))) = true := tr
        rw [Bool.and_eq_true] at h'
        exact h'.2
      rw [this] at e5
      simp at e5
    have wb : wholesD 0 (((V.ref jb :: jxs).length : Int) - 1) db = true := by simpa using e5
    obtain ⟨bs, rfl⟩ : ∃ bs, db = .tuple bs := by
      cases db <;> first | exact ⟨_, rfl⟩ | (simp [wholesD] at wb)
    have s12 := s1.trans s2
    have ha2 := s12 _ _ ha
    obtain ⟨b, ys, rfl, hb, hys⟩ := hvb.same s12
    have ely := hys.length
    rw [lj] at wb
    obtain ⟨u, eu, ou⟩ := map_of (f := nD) (p := fun x => x < j.length) fun d hd => whole_iff.mp ((List.all_eq_true.mp (show bs.all (wholeD 0 ((j.length : Int) - 1)) = true from wb)) d hd)
    subst eu
    rw [List.length_map] at ely
    refine ⟨_, rfl, a, _, 1, .ref b, rfl, rfl, SqT.of ha2, atN (j := 1) rfl, b, ys, rfl, .inr (SqT.of hb), _, _, rfl, rfl, _, rfl, ite2 (fun e6 => ?_) (fun e6 => ?_)⟩
    · refine no (fun j' u' vl => ?_) H2 s12
      obtain ⟨e, oj', ou', lu⟩ := vl
      have := (dKT_inj (show dKT j u = dKT j' u' from e)).2
      subst this
      have : (ys.length : Int) > 60 := by simpa using e6
      omega
    have lu : u.length ≤ 60 := by
      have : ¬ (ys.length : Int) > 60 := by simpa using e6
      omega
    have vl : Val n (.tuple [dK j, dT u]) j u := ⟨rfl, oj, ou, lu⟩
    refine ⟨_, rfl, _, rfl, a, _, 0, .ref ja, rfl, rfl, SqT.of ha2, atN (j := 0) rfl, _, rfl, _, rfl, a, _, 1, .ref b, rfl, rfl, SqT.of ha2, atN (j := 1) rfl, k, j, n, (t, u), .ref ka', .ref ja, tv, .ref b, rfl, hk.same s12, hva1.same s2, ht.same s12, ⟨b, ys, rfl, hb, hys⟩, ok, oj, ⟨okt, ou⟩, hlen, by show u.length ≤ 1000; omega, fun H3 v s3 lu3 => ?_⟩
    have sall := s12.trans s3
    have mu : ManyU k n t (.tuple [dK j, dT u]) ↔ Many k j n (t, u) := by
      constructor
      · rintro ⟨j', u', vl2, x⟩
        obtain ⟨rfl, rfl⟩ := vl.uniq vl2
        exact x
      · exact fun x => ⟨j, u, vl, x⟩
    have iu : IsUnd k n t (.tuple [dK j, dT u]) ↔ Alike k j n (t, u) := by
      constructor
      · rintro ⟨j', u', vl2, x⟩
        obtain ⟨rfl, rfl⟩ := vl.uniq vl2
        exact x
      · exact fun x => ⟨j, u, vl, x⟩
    rcases lu3 with ⟨rfl, mn⟩ | ⟨rfl, nm, al⟩ | ⟨⟨ra, r, rfl, hra⟩, nm, na⟩
    · refine ⟨_, rfl, .str "many", .str "many", .str _, .str _, shaped_many, shaped_many, _, rfl, ?_⟩
      rw [show PyData.eqv (.str "many") (.str "many") = true by decide]
      exact q H3 _ sall (.inl ⟨rfl, mu.mpr mn⟩)
    · refine ⟨_, rfl, .none, .str "many", .non, .str _, by decide, shaped_many, _, rfl, ?_⟩
      rw [show PyData.eqv .none (.str "many") = false by decide]
      refine ⟨_, rfl, rfl, ?_⟩
      exact q H3 _ sall (.inr ⟨fun z => nm (mu.mp z), true, rfl, fun _ => iu.mpr al, fun _ => rfl⟩)
    · have dr : DV H3 (dT r) (.ref ra) := DV.tr.mpr ⟨ra, rfl, hra⟩
      refine ⟨_, rfl, dT r, .str "many", dr.dp, .str _, shaped_T r, shaped_many, _, rfl, ?_⟩
      rw [show PyData.eqv (dT r) (.str "many") = false by rfl]
      refine ⟨_, rfl, rfl, ?_⟩
      exact q H3 _ sall (.inr ⟨fun z => nm (mu.mp z), false, rfl, fun z => Bool.noConfusion z, fun z => absurd (iu.mp z) na⟩)
end
end K36
set_option Elab.async false
set_option linter.all false
set_option maxRecDepth 100000
set_option maxHeartbeats 4000000
namespace K36
open PySem PySem.Spec PyProof.Rows L2
/-! ### slices of tuples -/
def cutD (ds : List PyData) (lo hi : Option Int) : List PyData := (ds.drop (HT.sIx ds.length 0 lo)).take (HT.sIx ds.length ds.length hi - HT.sIx ds.length 0 lo)
theorem DVs.cut {G : Hp} {ds : List PyData} {xs : List V} (h : DVs G ds xs) (lo hi : Option Int) : DVs G (cutD ds lo hi) (cutV xs lo hi) := by
  unfold cutD cutV
  rw [h.length]
  exact DVs.take _ (DVs.drop _ h)
theorem cutD_sub {ds : List PyData} {lo hi : Option Int} : ∀ d ∈ cutD ds lo hi, d ∈ ds := fun d hd => List.mem_of_mem_drop (List.mem_of_mem_take hd)
theorem cutD_le {ds : List PyData} {lo hi : Option Int} : (cutD ds lo hi).length ≤ ds.length := by
  unfold cutD
  rw [List.length_take, List.length_drop]
  omega
theorem cutD_to {ds : List PyData} {n : Nat} : (cutD ds none (some (n : Int))).length ≤ n := by
  unfold cutD
  rw [List.length_take, List.length_drop]
  have : HT.sIx ds.length ds.length (some (n : Int)) = min n ds.length := by
    simp only [HT.sIx]
    rw [if_neg (by omega)]
    simp
  rw [this]
  omega
theorem cutD_from {ds : List PyData} {n : Nat} : (cutD ds (some ((n : Int) + 1)) none).length ≤ ds.length - (n + 1) := by
  unfold cutD
  rw [List.length_take, List.length_drop]
  have : HT.sIx ds.length 0 (some ((n : Int) + 1)) = min (n + 1) ds.length := by
    simp only [HT.sIx]
    rw [if_neg (by omega)]
    congr 1
  rw [this]
  omega
def rSlU : V → Option Int → Option Int → Hp → VK → Prop := fun x lo hi H Q => ∃ a xs, x = .ref a ∧ H a = some (.tup xs) ∧ ∀ p H', Same H H' → H' p = some (.tup (cutV xs lo hi)) → Q (.ref p) H'
theorem sl_tupU {X : Cx} : SlR X rSlU := by
  intro pins s σ H x v vl vu lo hi sl Q I rx hs pl pu h
  obtain ⟨a, xs, rfl, ha, q⟩ := h
  refine sl_tupA pins s σ H _ v vl vu lo hi sl Q I rx hs pl pu ⟨a, xs, rfl, SqT.of ha, fun e => q a H (Same.refl _) ?_, fun _ p np => q p _ (same_upd np) upd_same⟩
  rw [ha]
  unfold cutV
  rw [e.1, e.2, List.drop_zero, Nat.sub_zero, List.take_length]
/-! ### data beside the cup -/
theorem mk_tup {c T : Addr} {H : Hp} {ds : List PyData} {vs : List V} (hc : Cup H c) (n : H T = none) (h : DVs (hid [c] H) ds vs) : DV (hid [c] (upd H T (.tup vs))) (.tuple ds) (.ref T) :=
  ⟨T, vs, rfl, hid_at (hc.ne n), h.same (Kp.new n)⟩
theorem mk_lst {c T : Addr} {H : Hp} {ds : List PyData} {vs : List V} (hc : Cup H c) (n : H T = none) (h : DVs (hid [c] H) ds vs) : DV (hid [c] (upd H T (.lst vs))) (.list ds) (.ref T) :=
  ⟨T, vs, rfl, hid_at (hc.ne n), h.same (Kp.new n)⟩
theorem at_tup {c p : Addr} {H : Hp} {ds : List PyData} {vs : List V} (hc : Cup H c) (e : H p = some (.tup vs)) (h : DVs (hid [c] H) ds vs) : DV (hid [c] H) (.tuple ds) (.ref p) :=
  ⟨p, vs, rfl, tup_cup hc _ _ e, h⟩
/-- things that are no objects -/
def OddIs (v : V) (d : PyData) : Prop := (∃ i, v = .int i ∧ d = .int i) ∨ (v = .non ∧ d = .none) ∨ (∃ b, v = .bl b ∧ d = .bool b) ∨ (∃ x, v = .str x ∧ d = .str x)
theorem OddIs.dv {v : V} {d : PyData} (h : OddIs v d) (G : Hp) : DV G d v := by
  rcases h with ⟨i, rfl, rfl⟩ | ⟨rfl, rfl⟩ | ⟨b, rfl, rfl⟩ | ⟨x, rfl, rfl⟩ <;> rfl
theorem OddIs.short {v : V} {d : PyData} (h : OddIs v d) (n : Nat) : Short n d := by
  cases n with
  | zero => trivial
  | succ n =>
    intro ds e
    rcases h with ⟨i, rfl, rfl⟩ | ⟨rfl, rfl⟩ | ⟨b, rfl, rfl⟩ | ⟨x, rfl, rfl⟩ <;> cases e
/-- what the law makes of a value: short, and small where it fits -/
def BentOk (d : PyData) : Prop := Short 4 d ∧ ∀ m j u, Val m d j u → j.length ≤ 5 ∧ u.length ≤ 3
theorem short_tup {n : Nat} {ds : List PyData} (l : ds.length ≤ 1000) (h : ∀ d ∈ ds, Short n d) : Short (n + 1) (.tuple ds) := fun es e => by
  injection e with e
  subst e
  exact ⟨l, h⟩
theorem short_lst {n : Nat} {ds : List PyData} : Short n (.list ds) := by
  cases n with
  | zero => trivial
  | succ n => exact fun es e => by cases e
theorem short_int {n : Nat} {i : Int} : Short n (.int i) := by
  cases n with
  | zero => trivial
  | succ n => exact fun es e => by cases e
theorem short_T {n : Nat} {t : Tr} (l : t.length ≤ 1000) : Short n (dT t) := by
  cases n with
  | zero => trivial
  | succ n =>
    refine short_tup (by rw [List.length_map]; exact l) fun d hd => ?_
    obtain ⟨x, _, rfl⟩ := List.mem_map.mp hd
    exact short_int
theorem short_P {n : Nat} (p : Nat × Nat) : Short n (dP p) := by
  cases n with
  | zero => trivial
  | succ n =>
    refine short_tup (by show 2 ≤ 1000; decide) fun d hd => ?_
    rcases List.mem_cons.mp hd with z | z
    · rw [z]; exact short_int
    · rw [List.mem_singleton.mp z]; exact short_int
theorem short_R {n : Nat} {r : Row} (l : r.length ≤ 1000) : Short n (dR r) := by
  cases n with
  | zero => trivial
  | succ n =>
    refine short_tup (by rw [List.length_map]; exact l) fun d hd => ?_
    obtain ⟨x, _, rfl⟩ := List.mem_map.mp hd
    exact short_P x
theorem short_K {n m : Nat} {k : Kd} (h : Sm k m) : Short n (dK k) := by
  have := h.s4
  have := h.m4
  cases n with
  | zero => trivial
  | succ n =>
    refine short_tup (by rw [List.length_map]; omega) fun d hd => ?_
    obtain ⟨x, hx, rfl⟩ := List.mem_map.mp hd
    exact short_R (by have := h.ok.rows x hx; omega)
theorem bent_two {rows : List PyData} {e : PyData} (l : rows.length ≤ 5) (h : ∀ d ∈ rows, Short 2 d) (he : Short 3 e) (hu : ∀ us, e = .tuple us → us.length ≤ 3) : BentOk (.tuple [.tuple rows, e]) := by
  refine ⟨short_tup (by show 2 ≤ 1000; decide) fun d hd => ?_, fun m j u vl => ?_⟩
  · rcases List.mem_cons.mp hd with z | z
    · rw [z]
      exact short_tup (by omega) h
    · rw [List.mem_singleton.mp z]
      exact he
  · obtain ⟨e1, _, _, _⟩ := vl
    injection e1 with e1
    injection e1 with e2 e3
    injection e3 with e3 _
    injection e2 with e2
    refine ⟨?_, ?_⟩
    · rw [e2, List.length_map] at l
      exact l
    · have := hu _ e3
      rw [List.length_map] at this
      exact this
theorem bent_no {d : PyData} (h : Short 4 d) (n : ∀ m j u, ¬ Val m d j u) : BentOk d := ⟨h, fun m j u vl => absurd vl (n m j u)⟩
end K36
set_option Elab.async false
set_option linter.all false
set_option maxRecDepth 100000
set_option maxHeartbeats 4000000
namespace K36
open PySem PySem.Spec PyProof.Rows L2
section
variable {P : Program} {w : World} {K : PySem.W.Frag} {mg : Str → Option Value} {base : Heap}
theorem Cl.imp {k : Nat} {x : Str} {sp sp' : Sp} (c : Cl P w K mg base k x sp) (h : ∀ vs H Q E, sp' vs H Q E → sp vs H Q E) : Cl P w K mg base k x sp' := by
  obtain ⟨f, fd, ps, h1, h2, h3, h4⟩ := c.ex
  exact ⟨f, fd, ps, h1, h2, h3, h4.imp h⟩
/-- the same, the heap behind untold -/
def spRollK : Sp := fun vs H Q _ => ∃ (c : Addr) (many : Nat), vs = [.ref c, nV many] ∧ 1 ≤ many ∧ many ≤ 1000000 ∧ Cup H c ∧ ∀ H' (r : Nat), Kp c H H' → Cup H' c → r < many → Q (nV r) H'
def spSomeK : Sp := fun vs H Q _ => ∃ (c p : Addr) (xs : List V), vs = [.ref c, .ref p] ∧ H p = some (.lst xs) ∧ p ≠ c ∧ Cup H c ∧ 1 ≤ xs.length ∧ xs.length ≤ 1000 ∧ ∀ H' v, Kp c H H' → Cup H' c → v ∈ xs → Q v H'
theorem roll_K (C : Cl P w K mg base 1 "_law_roll" spRoll) : Cl P w K mg base 1 "_law_roll" spRollK := Cl.imp C fun vs H Q E ⟨c, m, e, m1, m6, hc, q⟩ => ⟨c, m, e, m1, m6, hc, fun x y r hr => q _ r (Kp.cup _) (Cup.upd x y) hr⟩
theorem some_K (C : Cl P w K mg base 2 "_law_some" spSome) : Cl P w K mg base 2 "_law_some" spSomeK := Cl.imp C fun vs H Q E ⟨c, p, xs, e, hp, ne, hc, l1, l2, q⟩ => ⟨c, p, xs, e, hp, ne, hc, l1, l2, fun x y v hv => q _ v (Kp.cup _) (Cup.upd x y) hv⟩
theorem Short.down : ∀ {n : Nat} {d : PyData}, Short (n + 1) d → Short n d
  | 0, _, _ => True.intro
  | n + 1, d, h => fun ds e => by
    obtain ⟨l, q⟩ := h ds e
    exact ⟨l, fun x hx => (q x hx).down⟩
theorem dT_not_kind {m : Nat} {t : Tr} {j : Kd} (oj : OkK j m) : dT t ≠ dK j := fun e => by
  injection e with e
  obtain ⟨r, er, _⟩ := oj.row oj.s1
  cases t with
  | nil =>
    cases j with
    | nil => cases er
    | cons r j => cases e
  | cons x t =>
    cases j with
    | nil => cases er
    | cons r j =>
      rw [List.map_cons, List.map_cons] at e
      injection e with e _
      cases e
def spBent : Sp := fun vs H Q _ => ∃ (c : Addr) (k : Kd) (m : Nat) (t : Tr) (v : V), vs = [.ref c, v] ∧ Cup H c ∧ DV (hid [c] H) (dKT k t) v ∧ Sm k m ∧ OkT k.length t ∧ t.length ≤ 2 ∧ ∀ H' v d, Kp c H H' → Cup H' c → DV (hid [c] H') d v → BentOk d → Q v H'
/-- what stands beside the cup, of a kind, a train, a place -/
structure Beside (c : Addr) (H : Hp) (k : Kd) (t : Tr) (at' pl : Nat) (ka ra pa ta : Addr) (kx rx : List V) (p : Nat × Nat) : Prop where
  fk : hid [c] H ka = some (.tup kx)
  fkd : DVs (hid [c] H) (k.map dR) kx
  fka : kx[at']? = some (.ref ra)
  fr : hid [c] H ra = some (.tup rx)
  frd : ∃ row : Row, k[at']? = some row ∧ DVs (hid [c] H) (row.map dP) rx
  fra : rx[pl]? = some (.ref pa)
  fp : hid [c] H pa = some (.tup [nV p.1, nV p.2])
  ft : hid [c] H ta = some (.tup (t.map nV))
theorem Beside.keep {c : Addr} {H H' : Hp} {k : Kd} {t : Tr} {at' pl : Nat} {ka ra pa ta : Addr} {kx rx : List V} {p : Nat × Nat} (b : Beside c H k t at' pl ka ra pa ta kx rx p) (s : Kp c H H') : Beside c H' k t at' pl ka ra pa ta kx rx p := by
  obtain ⟨row, e, d⟩ := b.frd
  exact ⟨s _ _ b.fk, b.fkd.same s, b.fka, s _ _ b.fr, ⟨row, e, d.same s⟩, b.fra, s _ _ b.fp, s _ _ b.ft⟩
theorem k_law_bent (D : Df K mg "_law_bent" "_law_bent" s_law_bent) (B : Bl mg) (C1 : Cl P w K mg base 1 "_law_roll" spRollK) (C2 : Cl P w K mg base 2 "_law_some" spSomeK) : Cl P w K mg base 3 "_law_bent" spBent := by
  refine D.cl c_law_bent (fun _ _ _ _ _ _ us hl => match us, hl with | [_, _], _ => rfl) (fun vs H Q E h => ?_) (fun f cdv A outer s H vs Q E hr h => ?_)
  · obtain ⟨c, k, m, t, v, rfl, _⟩ := h
    rfl
  · obtain ⟨c, k, m, t, v, rfl, hc, hv, sm, okt, lt, q⟩ := h
    have nd := c_law_bent.nd
    refine ⟨_, pss_cons (ps_asg (pv 1) (pg_tup rfl (pgs_cons (pg_name (i := 2) nd rfl (.inl rfl)) (pgs_cons (pg_name (i := 3) nd rfl (.inl rfl)) pgs_nil))))
      (pss_cons (ps_par (i := 4) (j := 5) (by rfl) nd rfl rfl (by decide) rfl rfl (pa_cons (pe_cl C1 hr (by decide) (pa_cons (pv 0) (pa_cons (pe_callB call_len_seq (by rfl) B.len PySem.boot_len (pa_cons (pv 2) pa_nil)) pa_nil)))
          (pa_cons (pe_cl C1 hr (by decide) (pa_cons (pv 0) (pa_cons (pe_callB call_len_seq (by rfl) B.len PySem.boot_len (pa_cons (pe_ix ix_tup (pv 2) pe_int (fun _ _ => rfl)) pa_nil)) pa_nil))) pa_nil)) (by rfl))
      (pss_cons (ps_set (i := 6) nd rfl (.inl rfl) (pe_cl C2 hr (by decide) (pa_cons (pv 0) (pa_cons (pe_lst (pa_cons pe_int (pa_cons pe_int (pa_cons pe_int (pa_cons pe_int (pa_cons pe_int (pa_cons pe_int (pa_cons (pe_un un_neg pe_int) (pa_cons pe_non (pa_cons pe_bl (pa_cons pe_str pa_nil))))))))))) pa_nil))))
      (pss_cons (ps_set (i := 7) nd rfl (.inl rfl) (pe_cl C2 hr (by decide) (pa_cons (pv 0) (pa_cons (pe_lst (pa_cons (pe_tup (pa_cons (pv 6) (pa_cons (pe_ix ix_tup (pe_ix ix_tup (pe_ix ix_tup (pv 2) (pv 4) (fun _ _ => rfl)) (pv 5) (fun _ _ => rfl)) pe_int (fun _ _ => rfl)) pa_nil)))
          (pa_cons (pe_tup (pa_cons (pe_ix ix_tup (pe_ix ix_tup (pe_ix ix_tup (pv 2) (pv 4) (fun _ _ => rfl)) (pv 5) (fun _ _ => rfl)) pe_int (fun _ _ => rfl)) (pa_cons (pv 6) pa_nil)))
          (pa_cons (pe_op op_catU (pe_ix ix_tup (pe_ix ix_tup (pv 2) (pv 4) (fun _ _ => rfl)) (pv 5) (fun _ _ => rfl)) (pe_tup (pa_cons pe_int pa_nil)))
          (pa_cons (pe_callTy call_list_of (by rfl) B.list (by decide +kernel) (pa_cons (pe_ix ix_tup (pe_ix ix_tup (pv 2) (pv 4) (fun _ _ => rfl)) (pv 5) (fun _ _ => rfl)) pa_nil))
          (pa_cons (pv 6) pa_nil)))))) pa_nil))))
      (pss_cons (ps_set (i := 8) nd rfl (.inl rfl) (pe_op op_catU (pe_op op_catU (pe_slice sl_tupU (pe_ix ix_tup (pv 2) (pv 4) (fun _ _ => rfl)) po_none (po_some (pv 5))) (pe_tup (pa_cons (pv 7) pa_nil)))
          (pe_slice sl_tupU (pe_ix ix_tup (pv 2) (pv 4) (fun _ _ => rfl)) (po_some (pe_op op_add (pv 5) pe_int)) po_none)))
      (pss_cons (ps_set (i := 9) nd rfl (.inl rfl) (pe_tup (pa_cons (pe_op op_catU (pe_op op_catU (pe_slice sl_tupU (pv 2) po_none (po_some (pv 4))) (pe_tup (pa_cons (pv 8) pa_nil))) (pe_slice sl_tupU (pv 2) (po_some (pe_op op_add (pv 4) pe_int)) po_none)) (pa_cons (pv 3) pa_nil))))
      (pss_one (ps_ret (pe_cl C2 hr (by decide) (pa_cons (pv 0) (pa_cons (pe_lst (pa_cons (pv 9) (pa_cons (pv 9) (pa_cons (pv 9)
          (pa_cons (pe_tup (pa_cons (pv 2) (pa_cons (pe_revT (pv 3)) pa_nil)))
          (pa_cons (pe_tup (pa_cons (pv 2) (pa_cons (pe_slice sl_tupU (pv 3) po_none (po_some (pe_un un_neg pe_int))) pa_nil)))
          (pa_cons (pe_tup (pa_cons (pv 2) (pa_cons (pe_op op_catU (pv 3) (pe_tup (pa_cons (pv 6) pa_nil))) pa_nil)))
          (pa_cons (pe_tup (pa_cons (pv 2) (pa_cons (pe_callTy call_list_of (by rfl) B.list (by decide +kernel) (pa_cons (pv 3) pa_nil)) pa_nil)))
          (pa_cons (pe_lst (pa_cons (pv 2) (pa_cons (pv 3) pa_nil)))
          (pa_cons (pe_tup (pa_cons (pv 3) (pa_cons (pv 2) pa_nil)))
          (pa_cons (pe_tup (pa_cons (pe_op op_catU (pv 2) (pe_slice sl_tupU (pv 2) po_none (po_some pe_int))) (pa_cons (pv 3) pa_nil)))
          (pa_cons pe_non pa_nil)))))))))))) pa_nil))))))))))
      , ?_⟩
    obtain ⟨va, kv, tv, rfl, hva, hkv, htv⟩ := hv.kt
    obtain ⟨ka, kx, rfl, hka, hkx⟩ := hkv.kd
    obtain ⟨ta, rfl, hta⟩ := DV.tr.mp htv
    have lkx := hkx.length
    rw [List.length_map] at lkx
    have s1 := sm.ok.s1
    have s4 := sm.s4
    have m1 := sm.ok.m1
    have m4 := sm.m4
    refine ⟨_, rfl, va, _, rfl, SqT.of (hid_le _ _ hva), rfl, _, _, rfl, _, _, rfl, rfl, ?_⟩
    refine ⟨_, rfl, _, rfl, ka, kx, rfl, .inr (SqT.of (hid_le _ _ hka)), c, kx.length, rfl, by omega, by omega, hc, fun H1 at' k1 c1 hat => ?_⟩
    obtain ⟨r0, e0, rl0, _⟩ := sm.ok.row s1
    obtain ⟨ra0, rx0, e1, hra0, hrx0⟩ := hkx.getR e0
    have lr0 := hrx0.length
    rw [List.length_map] at lr0
    refine ⟨_, rfl, _, rfl, ka, kx, 0, .ref ra0, rfl, rfl, SqT.of (k1.at' hka), atN e1, ra0, rx0, rfl, .inr (SqT.of (k1.at' hra0)), c, rx0.length, rfl, by omega, by omega, c1, fun H2 pl k12 c2 hpl => ⟨_, _, rfl, ?_⟩⟩
    have k2 : Kp c H H2 := Same.trans k1 k12
    obtain ⟨row, er, rl, rg⟩ := sm.ok.row (show at' < k.length by omega)
    obtain ⟨ra, rx, eka, hra, hrx⟩ := hkx.getR er
    have lrx := hrx.length
    rw [List.length_map] at lrx
    have epr : row[pl]? = some row[pl] := List.getElem?_eq_getElem (by omega)
    obtain ⟨pa, epa, hpa⟩ := hrx.getP epr
    have B0 : Beside c H k t at' pl ka ra pa ta kx rx row[pl] := ⟨hka, hkx, eka, hra, ⟨row, er, hrx⟩, epa, hpa, hta⟩
    generalize row[pl] = pr at B0 epr
    -- odd
    refine ⟨_, rfl, 1, rfl, (by show 10 ≤ sizeLine; decide), fun l2 nl2 => ?_⟩
    refine ⟨c, l2, _, rfl, upd_same, c2.ne nl2, c2.keep (same_upd nl2), by simp, by simp, fun H3 ov k23 c3 hov => ?_⟩
    obtain ⟨od, ho⟩ : ∃ od, OddIs ov od := by
      simp only [List.mem_cons, List.not_mem_nil, or_false] at hov
      rcases hov with h | h | h | h | h | h | h | h | h | h
      all_goals first
        | exact ⟨_, .inl ⟨_, h, rfl⟩⟩
        | exact ⟨_, .inr (.inl ⟨h, rfl⟩)⟩
        | exact ⟨_, .inr (.inr (.inl ⟨_, h, rfl⟩))⟩
        | exact ⟨_, .inr (.inr (.inr ⟨_, h, rfl⟩))⟩
    have k3 : Kp c H H3 := Same.trans k2 (Same.trans (Kp.new nl2) k23)
    have B3 := B0.keep k3
    -- the pair
    have rd : ∀ {X : Hp}, Kp c H3 X → X ka = some (.tup kx) ∧ X ra = some (.tup rx) ∧ X pa = some (.tup [nV pr.1, nV pr.2]) ∧ X ta = some (.tup (t.map nV)) := fun s => ⟨s.at' B3.fk, s.at' B3.fr, s.at' B3.fp, s.at' B3.ft⟩
    obtain ⟨z1, z2, z3, _⟩ := rd (Same.refl _)
    refine ⟨_, rfl, _, rfl, _, rfl, _, rfl, ka, kx, at', .ref ra, rfl, rfl, SqT.of z1, atN eka, _, rfl, ra, rx, pl, .ref pa, rfl, rfl, SqT.of z2, atN epa, pa, _, 1, nV pr.2, rfl, rfl, SqT.of z3, atN (j := 1) rfl, (by show 2 ≤ sizeLine; decide), fun T1 nT1 => ?_⟩
    have d1 : DV (hid [c] (upd H3 T1 (.tup [ov, nV pr.2]))) (.tuple [od, nD pr.2]) (.ref T1) := mk_tup c3 nT1 ⟨ov, _, rfl, ho.dv _, _, _, rfl, rfl, rfl⟩
    have c4 := c3.keep (same_upd (o := .tup [ov, nV pr.2]) nT1)
    have k4 : Kp c H3 (upd H3 T1 (.tup [ov, nV pr.2])) := Kp.new nT1
    generalize upd H3 T1 (.tup [ov, nV pr.2]) = H4 at d1 c4 k4
    obtain ⟨z1, z2, z3, _⟩ := rd k4
    refine ⟨_, rfl, _, rfl, ka, kx, at', .ref ra, rfl, rfl, SqT.of z1, atN eka, _, rfl, ra, rx, pl, .ref pa, rfl, rfl, SqT.of z2, atN epa, pa, _, 0, nV pr.1, rfl, rfl, SqT.of z3, atN (j := 0) rfl, _, rfl, (by show 2 ≤ sizeLine; decide), fun T2 nT2 => ?_⟩
    have d2 : DV (hid [c] (upd H4 T2 (.tup [nV pr.1, ov]))) (.tuple [nD pr.1, od]) (.ref T2) := mk_tup c4 nT2 ⟨_, _, rfl, rfl, ov, _, rfl, ho.dv _, rfl⟩
    have d1 := d1.same (Kp.new (o := .tup [nV pr.1, ov]) nT2)
    have c5 := c4.keep (same_upd (o := .tup [nV pr.1, ov]) nT2)
    have k5 : Kp c H3 (upd H4 T2 (.tup [nV pr.1, ov])) := Same.trans k4 (Kp.new nT2)
    generalize upd H4 T2 (.tup [nV pr.1, ov]) = H5 at d1 d2 c5 k5
    obtain ⟨z1, z2, z3, _⟩ := rd k5
    refine ⟨_, rfl, _, rfl, ka, kx, at', .ref ra, rfl, rfl, SqT.of z1, atN eka, _, rfl, ra, rx, pl, .ref pa, rfl, rfl, SqT.of z2, atN epa, (by show 1 ≤ sizeLine; decide), fun T3 nT3 => ?_⟩
    refine ⟨pa, T3, _, _, rfl, rfl, same_upd nT3 _ _ z3, upd_same, (by show 3 ≤ 100000; decide), fun p6 H6 s6 e6 => ?_⟩
    have s56 := (same_upd (o := .tup [.int 0]) nT3).trans s6
    have c6 := c5.keep s56
    have k6 : Kp c H3 H6 := Same.trans k5 (Kp.of s56)
    have d1 := d1.same (Kp.of s56)
    have d2 := d2.same (Kp.of s56)
    have d3 : DV (hid [c] H6) (.tuple [nD pr.1, nD pr.2, .int 0]) (.ref p6) := at_tup c6 e6 ⟨_, _, rfl, rfl, _, _, rfl, rfl, _, _, rfl, rfl, rfl⟩
    obtain ⟨z1, z2, z3, _⟩ := rd k6
    refine ⟨_, rfl, _, rfl, ka, kx, at', .ref ra, rfl, rfl, SqT.of z1, atN eka, _, rfl, ra, rx, pl, .ref pa, rfl, rfl, SqT.of z2, atN epa, pa, _, rfl, .inr (SqT.of z3), fun l7 nl7 => ?_⟩
    have d4 : DV (hid [c] (upd H6 l7 (.lst [nV pr.1, nV pr.2]))) (.list [nD pr.1, nD pr.2]) (.ref l7) := mk_lst c6 nl7 ⟨_, _, rfl, rfl, _, _, rfl, rfl, rfl⟩
    have c7 := c6.keep (same_upd (o := .lst [nV pr.1, nV pr.2]) nl7)
    have k67 : Kp c H6 (upd H6 l7 (.lst [nV pr.1, nV pr.2])) := Kp.new nl7
    generalize upd H6 l7 (.lst [nV pr.1, nV pr.2]) = H7 at d4 c7 k67
    have k7 : Kp c H3 H7 := Same.trans k6 k67
    refine ⟨_, rfl, (by show 5 ≤ sizeLine; decide), fun l8 nl8 => ?_⟩
    have k8 : Kp c H7 (upd H7 l8 (.lst [.ref T1, .ref T2, .ref p6, .ref l7, ov])) := Kp.new nl8
    refine ⟨c, l8, _, rfl, upd_same, c7.ne nl8, c7.keep (same_upd nl8), by simp, by simp, fun H9 pv9 k89 c9 hpv => ?_⟩
    have k79 : Kp c H7 H9 := Same.trans k8 k89
    have k9 : Kp c H3 H9 := Same.trans k7 k79
    obtain ⟨pd, hpd, shp⟩ : ∃ pd, DV (hid [c] H9) pd pv9 ∧ Short 2 pd := by
      simp only [List.mem_cons, List.not_mem_nil, or_false] at hpv
      have two : ∀ {a b : PyData}, (∀ n, Short n a) → (∀ n, Short n b) → Short 2 (.tuple [a, b]) := fun ha hb => short_tup (by show 2 ≤ 1000; decide) fun d hd => by
        rcases List.mem_cons.mp hd with z | z
        · rw [z]; exact ha 1
        · rw [List.mem_singleton.mp z]; exact hb 1
      rcases hpv with h | h | h | h | h
      · exact ⟨_, by rw [h]; exact (d1.same k67).same k79, two (fun n => ho.short n) (fun n => short_int)⟩
      · exact ⟨_, by rw [h]; exact (d2.same k67).same k79, two (fun n => short_int) (fun n => ho.short n)⟩
      · refine ⟨_, by rw [h]; exact (d3.same k67).same k79, short_tup (by show 3 ≤ 1000; decide) fun d hd => ?_⟩
        simp only [List.mem_cons, List.not_mem_nil, or_false] at hd
        rcases hd with z | z | z <;> (rw [z]; exact short_int)
      · exact ⟨_, by rw [h]; exact d4.same k79, short_lst⟩
      · exact ⟨_, by rw [h]; exact ho.dv _, ho.short 2⟩
    -- the row
    have B9 := B0.keep (Same.trans k3 k9)
    have rd : ∀ {X : Hp}, Kp c H9 X → X ka = some (.tup kx) ∧ X ra = some (.tup rx) ∧ X pa = some (.tup [nV pr.1, nV pr.2]) ∧ X ta = some (.tup (t.map nV)) := fun s => ⟨s.at' B9.fk, s.at' B9.fr, s.at' B9.fp, s.at' B9.ft⟩
    obtain ⟨row', er', hrx9⟩ := B9.frd
    rw [er] at er'
    cases Option.some.inj er'
    obtain ⟨z1, z2, _, _⟩ := rd (Same.refl _)
    refine ⟨_, rfl, _, rfl, ka, kx, at', .ref ra, rfl, rfl, SqT.of z1, atN eka, _, rfl, (pl : Int), rfl, ra, rx, rfl, z2, fun pA HA sA eA => ?_⟩
    refine ⟨_, rfl, (by show 1 ≤ sizeLine; decide), fun TB nTB => ?_⟩
    have sB := same_upd (o := .tup [pv9]) nTB
    have lA := cutV_length rx none (some (pl : Int))
    refine ⟨pA, TB, _, _, rfl, rfl, sB _ _ eA, upd_same, by show _ + 1 ≤ 100000; omega, fun pC HC sC eC => ?_⟩
    have s9C := sA.trans (sB.trans sC)
    obtain ⟨z1, z2, _, _⟩ := rd (Kp.of s9C)
    refine ⟨_, rfl, _, rfl, ka, kx, at', .ref ra, rfl, rfl, SqT.of z1, atN eka, _, rfl, _, _, rfl, rfl, (pl : Int) + 1, rfl, ra, rx, rfl, z2, fun pD HD sD eD => ?_⟩
    have lD := cutV_length rx (some ((pl : Int) + 1)) none
    refine ⟨pC, pD, _, _, rfl, rfl, sD _ _ eC, eD, by rw [List.length_append]; show (_ + 1) + _ ≤ 100000; omega, fun pR HR sR eR => ?_⟩
    have s9R := s9C.trans (sD.trans sR)
    have cR := c9.keep s9R
    have k9R : Kp c H9 HR := Kp.of s9R
    have drow : DV (hid [c] HR) (.tuple (cutD (row.map dP) none (some (pl : Int)) ++ [pd] ++ cutD (row.map dP) (some ((pl : Int) + 1)) none)) (.ref pR) :=
      at_tup cR eR ((((hrx9.cut _ _).append (DVs.one hpd)).append (hrx9.cut _ _)).same k9R)
    have srow : Short 2 (.tuple (cutD (row.map dP) none (some (pl : Int)) ++ [pd] ++ cutD (row.map dP) (some ((pl : Int) + 1)) none)) := by
      have l1 := cutD_le (ds := row.map dP) (lo := none) (hi := some (pl : Int))
      have l2 := cutD_le (ds := row.map dP) (lo := some ((pl : Int) + 1)) (hi := none)
      rw [List.length_map] at l1 l2
      refine short_tup (by rw [List.length_append, List.length_append]; show _ + 1 + _ ≤ 1000; omega) fun d hd => ?_
      have pairs : ∀ d ∈ row.map dP, Short 1 d := fun d hd => by
        obtain ⟨p, _, rfl⟩ := List.mem_map.mp hd
        exact short_P p
      rcases List.mem_append.mp hd with z | z
      · rcases List.mem_append.mp z with z | z
        · exact pairs d (cutD_sub d z)
        · rw [List.mem_singleton.mp z]
          exact shp.down
      · exact pairs d (cutD_sub d z)
    generalize (PyData.tuple (cutD (row.map dP) none (some (pl : Int)) ++ [pd] ++ cutD (row.map dP) (some ((pl : Int) + 1)) none)) = rowD at drow srow
    -- the bent pair
    have BR := B9.keep k9R
    have rd : ∀ {X : Hp}, Kp c HR X → X ka = some (.tup kx) ∧ X ta = some (.tup (t.map nV)) := fun s => ⟨s.at' BR.fk, s.at' BR.ft⟩
    obtain ⟨z1, _⟩ := rd (Same.refl _)
    refine ⟨_, rfl, _, rfl, (at' : Int), rfl, ka, kx, rfl, z1, fun pA HA sA eA => ?_⟩
    refine ⟨_, rfl, (by show 1 ≤ sizeLine; decide), fun TB nTB => ?_⟩
    have sB := same_upd (o := .tup [.ref pR]) nTB
    have lA := cutV_length kx none (some (at' : Int))
    refine ⟨pA, TB, _, _, rfl, rfl, sB _ _ eA, upd_same, by show _ + 1 ≤ 100000; omega, fun pC HC sC eC => ?_⟩
    have sRC := sA.trans (sB.trans sC)
    obtain ⟨z1, _⟩ := rd (Kp.of sRC)
    refine ⟨_, rfl, _, rfl, _, _, rfl, rfl, (at' : Int) + 1, rfl, ka, kx, rfl, z1, fun pD HD sD eD => ?_⟩
    have lD := cutV_length kx (some ((at' : Int) + 1)) none
    refine ⟨pC, pD, _, _, rfl, rfl, sD _ _ eC, eD, by rw [List.length_append]; show (_ + 1) + _ ≤ 100000; omega, fun pK HK sK eK => ?_⟩
    have sRK := sRC.trans (sD.trans sK)
    have cK := cR.keep sRK
    have kRK : Kp c HR HK := Kp.of sRK
    have dks := (((BR.fkd.cut none (some (at' : Int))).append (DVs.one drow)).append (BR.fkd.cut (some ((at' : Int) + 1)) none)).same kRK
    have drows : DV (hid [c] HK) (.tuple (cutD (k.map dR) none (some (at' : Int)) ++ [rowD] ++ cutD (k.map dR) (some ((at' : Int) + 1)) none)) (.ref pK) := at_tup cK eK dks
    have okrows : (cutD (k.map dR) none (some (at' : Int)) ++ [rowD] ++ cutD (k.map dR) (some ((at' : Int) + 1)) none).length ≤ 5 ∧ ∀ d ∈ cutD (k.map dR) none (some (at' : Int)) ++ [rowD] ++ cutD (k.map dR) (some ((at' : Int) + 1)) none, Short 2 d := by
      have l1 := cutD_to (ds := k.map dR) (n := at')
      have l2 := cutD_from (ds := k.map dR) (n := at')
      rw [List.length_map] at l2
      refine ⟨by rw [List.length_append, List.length_append]; show _ + 1 + _ ≤ 5; omega, fun d hd => ?_⟩
      have rows : ∀ d ∈ k.map dR, Short 2 d := fun d hd => by
        obtain ⟨r, hr, rfl⟩ := List.mem_map.mp hd
        exact short_R (by have := sm.ok.rows r hr; omega)
      rcases List.mem_append.mp hd with z | z
      · rcases List.mem_append.mp z with z | z
        · exact rows d (cutD_sub d z)
        · rw [List.mem_singleton.mp z]
          exact srow
      · exact rows d (cutD_sub d z)
    generalize (cutD (k.map dR) none (some (at' : Int)) ++ [rowD] ++ cutD (k.map dR) (some ((at' : Int) + 1)) none) = rowsD at drows okrows
    have dt : ∀ {X : Hp}, Kp c HR X → DV (hid [c] X) (dT t) (.ref ta) := fun s => DV.tr.mpr ⟨ta, rfl, s _ _ BR.ft⟩
    have dk : ∀ {X : Hp}, Kp c HR X → DV (hid [c] X) (dK k) (.ref ka) := fun s => ⟨ka, kx, rfl, s _ _ BR.fk, BR.fkd.same s⟩
    refine ⟨_, rfl, (by show 2 ≤ sizeLine; decide), fun Tb nTb => ?_⟩
    have dbent : DV (hid [c] (upd HK Tb (.tup [.ref pK, .ref ta]))) (.tuple [.tuple rowsD, dT t]) (.ref Tb) := mk_tup cK nTb ⟨_, _, rfl, drows, _, _, rfl, dt kRK, rfl⟩
    have cb := cK.keep (same_upd (o := .tup [.ref pK, .ref ta]) nTb)
    have kb : Kp c HR (upd HK Tb (.tup [.ref pK, .ref ta])) := Same.trans kRK (Kp.new nTb)
    generalize upd HK Tb (.tup [.ref pK, .ref ta]) = Hb at dbent cb kb
    have lt3 : t.length ≤ 3 := by omega
    have okbent : BentOk (.tuple [.tuple rowsD, dT t]) := bent_two okrows.1 okrows.2 (short_T (by omega)) fun us e => by
      injection e with e
      rw [← e, List.length_map]
      exact lt3
    have skd : ∀ d ∈ k.map dR, Short 2 d := fun d hd => by
      obtain ⟨r, hr, rfl⟩ := List.mem_map.mp hd
      exact short_R (by have := sm.ok.rows r hr; omega)
    have lk5 : (k.map dR).length ≤ 5 := by rw [List.length_map]; omega
    -- (kind, train[::-1])
    refine ⟨_, rfl, _, rfl, _, rfl, _, rfl, _, rfl, _, rfl, ta, _, rfl, (rd kb).2, fun q1 nq1 => ?_⟩
    have f1 : Kp c Hb (upd Hb q1 (.tup (t.map nV).reverse)) := Kp.new nq1
    have g1 := cb.keep (same_upd (o := .tup (t.map nV).reverse) nq1)
    have e1 : DV (hid [c] (upd Hb q1 (.tup (t.map nV).reverse))) (dT t.reverse) (.ref q1) := DV.tr.mpr ⟨q1, rfl, by rw [hid_at (cb.ne nq1), List.map_reverse]⟩
    refine ⟨(by show 2 ≤ sizeLine; decide), fun q2 nq2 => ?_⟩
    have v4 : DV (hid [c] (upd (upd Hb q1 (.tup (t.map nV).reverse)) q2 (.tup [.ref ka, .ref q1]))) (.tuple [dK k, dT t.reverse]) (.ref q2) := mk_tup g1 nq2 ⟨_, _, rfl, dk (Same.trans kb f1), _, _, rfl, e1, rfl⟩
    have g2 := g1.keep (same_upd (o := .tup [.ref ka, .ref q1]) nq2)
    have f2 : Kp c Hb (upd (upd Hb q1 (.tup (t.map nV).reverse)) q2 (.tup [.ref ka, .ref q1])) := Same.trans f1 (Kp.new nq2)
    generalize upd (upd Hb q1 (.tup (t.map nV).reverse)) q2 (.tup [.ref ka, .ref q1]) = Hc at v4 g2 f2
    have ok4 : BentOk (.tuple [dK k, dT t.reverse]) := bent_two lk5 skd (short_T (by rw [List.length_reverse]; omega)) fun us e => by
      injection e with e
      rw [← e, List.length_map, List.length_reverse]
      exact lt3
    -- (kind, train[:-1])
    refine ⟨_, rfl, _, rfl, 1, rfl, _, rfl, ta, _, rfl, (rd (Same.trans kb f2)).2, fun q3 Hd sd ed => ?_⟩
    have g3 := g2.keep sd
    have dts : DVs (hid [c] Hc) (t.map nD) (t.map nV) := DVs.nats.mpr rfl
    have e3 : DV (hid [c] Hd) (.tuple (cutD (t.map nD) none (some (-1)))) (.ref q3) := at_tup g3 ed ((dts.cut none (some (-1))).same (Kp.of sd))
    have lcut := cutD_le (ds := t.map nD) (lo := none) (hi := some (-1))
    rw [List.length_map] at lcut
    refine ⟨(by show 2 ≤ sizeLine; decide), fun q4 nq4 => ?_⟩
    have f3 : Kp c Hb Hd := Same.trans f2 (Kp.of sd)
    have v5 : DV (hid [c] (upd Hd q4 (.tup [.ref ka, .ref q3]))) (.tuple [dK k, .tuple (cutD (t.map nD) none (some (-1)))]) (.ref q4) := mk_tup g3 nq4 ⟨_, _, rfl, dk (Same.trans kb f3), _, _, rfl, e3, rfl⟩
    have g4 := g3.keep (same_upd (o := .tup [.ref ka, .ref q3]) nq4)
    have f34 : Kp c Hd (upd Hd q4 (.tup [.ref ka, .ref q3])) := Kp.new nq4
    have f4 : Kp c Hb (upd Hd q4 (.tup [.ref ka, .ref q3])) := Same.trans f3 f34
    have v4 := (v4.same (Kp.of sd)).same f34
    generalize upd Hd q4 (.tup [.ref ka, .ref q3]) = He at v4 v5 g4 f4
    have snat : ∀ {n : Nat}, ∀ d ∈ t.map nD, Short n d := fun {n} d hd => by
      obtain ⟨x, _, rfl⟩ := List.mem_map.mp hd
      exact short_int
    have ok5 : BentOk (.tuple [dK k, .tuple (cutD (t.map nD) none (some (-1)))]) := bent_two lk5 skd (short_tup (by omega) fun d hd => snat d (cutD_sub d hd)) fun us e => by
      injection e with e
      rw [← e]
      omega
    -- (kind, train + (odd,))
    refine ⟨_, rfl, _, rfl, _, rfl, (by show 1 ≤ sizeLine; decide), fun q5 nq5 => ?_⟩
    have s5 := same_upd (o := .tup [ov]) nq5
    refine ⟨ta, q5, _, _, rfl, rfl, s5 _ _ (rd (Same.trans kb f4)).2, upd_same, by rw [List.length_map]; show _ + 1 ≤ 100000; omega, fun q6 Hf sf ef => ?_⟩
    have sef := s5.trans sf
    have g5 := g4.keep sef
    have f5 : Kp c Hb Hf := Same.trans f4 (Kp.of sef)
    have e6 : DV (hid [c] Hf) (.tuple (t.map nD ++ [od])) (.ref q6) := at_tup g5 ef (DVs.append (DVs.nats.mpr rfl) (DVs.one (ho.dv _)))
    refine ⟨(by show 2 ≤ sizeLine; decide), fun q7 nq7 => ?_⟩
    have v6 : DV (hid [c] (upd Hf q7 (.tup [.ref ka, .ref q6]))) (.tuple [dK k, .tuple (t.map nD ++ [od])]) (.ref q7) := mk_tup g5 nq7 ⟨_, _, rfl, dk (Same.trans kb f5), _, _, rfl, e6, rfl⟩
    have g6 := g5.keep (same_upd (o := .tup [.ref ka, .ref q6]) nq7)
    have f56 : Kp c Hf (upd Hf q7 (.tup [.ref ka, .ref q6])) := Kp.new nq7
    have f6 : Kp c Hb (upd Hf q7 (.tup [.ref ka, .ref q6])) := Same.trans f5 f56
    have v4 := (v4.same (Kp.of sef)).same f56
    have v5 := (v5.same (Kp.of sef)).same f56
    generalize upd Hf q7 (.tup [.ref ka, .ref q6]) = Hg at v4 v5 v6 g6 f6
    have ok6 : BentOk (.tuple [dK k, .tuple (t.map nD ++ [od])]) := bent_two lk5 skd (short_tup (by rw [List.length_append, List.length_map]; show _ + 1 ≤ 1000; omega) fun d hd => by
        rcases List.mem_append.mp hd with z | z
        · exact snat d z
        · rw [List.mem_singleton.mp z]
          exact ho.short 2) fun us e => by
      injection e with e
      rw [← e, List.length_append, List.length_map]
      show _ + 1 ≤ 3
      omega
    -- (kind, list(train))
    refine ⟨_, rfl, _, rfl, ta, _, rfl, .inr (SqT.of (rd (Same.trans kb f6)).2), fun q8 nq8 => ?_⟩
    have e8 : DV (hid [c] (upd Hg q8 (.lst (t.map nV)))) (.list (t.map nD)) (.ref q8) := mk_lst g6 nq8 (DVs.nats.mpr rfl)
    have g7 := g6.keep (same_upd (o := .lst (t.map nV)) nq8)
    have f67 : Kp c Hg (upd Hg q8 (.lst (t.map nV))) := Kp.new nq8
    refine ⟨(by show 2 ≤ sizeLine; decide), fun q9 nq9 => ?_⟩
    have v7 : DV (hid [c] (upd (upd Hg q8 (.lst (t.map nV))) q9 (.tup [.ref ka, .ref q8]))) (.tuple [dK k, .list (t.map nD)]) (.ref q9) := mk_tup g7 nq9 ⟨_, _, rfl, dk (Same.trans kb (Same.trans f6 f67)), _, _, rfl, e8, rfl⟩
    have g8 := g7.keep (same_upd (o := .tup [.ref ka, .ref q8]) nq9)
    have f68 : Kp c Hg (upd (upd Hg q8 (.lst (t.map nV))) q9 (.tup [.ref ka, .ref q8])) := Same.trans f67 (Kp.new nq9)
    have f8 : Kp c Hb (upd (upd Hg q8 (.lst (t.map nV))) q9 (.tup [.ref ka, .ref q8])) := Same.trans f6 f68
    have v4 := v4.same f68
    have v5 := v5.same f68
    have v6 := v6.same f68
    generalize upd (upd Hg q8 (.lst (t.map nV))) q9 (.tup [.ref ka, .ref q8]) = Hh at v4 v5 v6 v7 g8 f8
    have ok7 : BentOk (.tuple [dK k, .list (t.map nD)]) := bent_two lk5 skd short_lst fun us e => by cases e
    -- [kind, train]
    refine ⟨_, rfl, _, rfl, (by show 2 ≤ sizeLine; decide), fun qa nqa => ?_⟩
    have v8 : DV (hid [c] (upd Hh qa (.lst [.ref ka, .ref ta]))) (.list [dK k, dT t]) (.ref qa) := mk_lst g8 nqa ⟨_, _, rfl, dk (Same.trans kb f8), _, _, rfl, dt (Same.trans kb f8), rfl⟩
    have g9 := g8.keep (same_upd (o := .lst [.ref ka, .ref ta]) nqa)
    have f89 : Kp c Hh (upd Hh qa (.lst [.ref ka, .ref ta])) := Kp.new nqa
    have f9 : Kp c Hb (upd Hh qa (.lst [.ref ka, .ref ta])) := Same.trans f8 f89
    have v4 := v4.same f89
    have v5 := v5.same f89
    have v6 := v6.same f89
    have v7 := v7.same f89
    generalize upd Hh qa (.lst [.ref ka, .ref ta]) = Hi at v4 v5 v6 v7 v8 g9 f9
    have ok8 : BentOk (.list [dK k, dT t]) := bent_no short_lst fun m j u vl => by
      obtain ⟨e, _⟩ := vl
      cases e
    -- (train, kind)
    refine ⟨_, rfl, _, rfl, (by show 2 ≤ sizeLine; decide), fun qb nqb => ?_⟩
    have v9 : DV (hid [c] (upd Hi qb (.tup [.ref ta, .ref ka]))) (.tuple [dT t, dK k]) (.ref qb) := mk_tup g9 nqb ⟨_, _, rfl, dt (Same.trans kb f9), _, _, rfl, dk (Same.trans kb f9), rfl⟩
    have ga := g9.keep (same_upd (o := .tup [.ref ta, .ref ka]) nqb)
    have f9a : Kp c Hi (upd Hi qb (.tup [.ref ta, .ref ka])) := Kp.new nqb
    have fa : Kp c Hb (upd Hi qb (.tup [.ref ta, .ref ka])) := Same.trans f9 f9a
    have v4 := v4.same f9a
    have v5 := v5.same f9a
    have v6 := v6.same f9a
    have v7 := v7.same f9a
    have v8 := v8.same f9a
    generalize upd Hi qb (.tup [.ref ta, .ref ka]) = Hj at v4 v5 v6 v7 v8 v9 ga fa
    have ok9 : BentOk (.tuple [dT t, dK k]) := bent_no (short_tup (by show 2 ≤ 1000; decide) fun d hd => by
        rcases List.mem_cons.mp hd with z | z
        · rw [z]; exact short_T (by omega)
        · rw [List.mem_singleton.mp z]; exact short_K sm) fun m j u vl => by
      obtain ⟨e, oj, _⟩ := vl
      injection e with e
      injection e with e _
      exact dT_not_kind oj e
    -- (kind + kind[:1], train)
    refine ⟨_, rfl, _, rfl, 1, rfl, ka, kx, rfl, (rd (Same.trans kb fa)).1, fun qc Hk sk ek => ?_⟩
    have lc1 := cutV_length kx none (some 1)
    refine ⟨ka, qc, _, _, rfl, rfl, sk _ _ (rd (Same.trans kb fa)).1, ek, by omega, fun qd Hl sl el => ?_⟩
    have sjl := sk.trans sl
    have gb := ga.keep sjl
    have fb : Kp c Hb Hl := Same.trans fa (Kp.of sjl)
    have ks := BR.fkd.same (Same.trans kb fb)
    have ed : DV (hid [c] Hl) (.tuple (k.map dR ++ cutD (k.map dR) none (some 1))) (.ref qd) := at_tup gb el (ks.append (ks.cut none (some 1)))
    refine ⟨_, rfl, (by show 2 ≤ sizeLine; decide), fun qe nqe => ?_⟩
    have va : DV (hid [c] (upd Hl qe (.tup [.ref qd, .ref ta]))) (.tuple [.tuple (k.map dR ++ cutD (k.map dR) none (some 1)), dT t]) (.ref qe) := mk_tup gb nqe ⟨_, _, rfl, ed, _, _, rfl, dt (Same.trans kb fb), rfl⟩
    have gc := gb.keep (same_upd (o := .tup [.ref qd, .ref ta]) nqe)
    have fbc : Kp c Hl (upd Hl qe (.tup [.ref qd, .ref ta])) := Kp.new nqe
    have fjc : Kp c Hj (upd Hl qe (.tup [.ref qd, .ref ta])) := Same.trans (Kp.of sjl) fbc
    have fc : Kp c Hb (upd Hl qe (.tup [.ref qd, .ref ta])) := Same.trans fb fbc
    have v4 := v4.same fjc
    have v5 := v5.same fjc
    have v6 := v6.same fjc
    have v7 := v7.same fjc
    have v8 := v8.same fjc
    have v9 := v9.same fjc
    generalize upd Hl qe (.tup [.ref qd, .ref ta]) = Hm at v4 v5 v6 v7 v8 v9 va gc fc
    have oka : BentOk (.tuple [.tuple (k.map dR ++ cutD (k.map dR) none (some 1)), dT t]) := bent_two (by
        have := cutD_to (ds := k.map dR) (n := 1)
        rw [List.length_append, List.length_map]
        have h2 : (cutD (k.map dR) none (some 1)).length ≤ 1 := this
        omega) (fun d hd => by
        rcases List.mem_append.mp hd with z | z
        · exact skd d z
        · exact skd d (cutD_sub d z)) (short_T (by omega)) fun us e => by
      injection e with e
      rw [← e, List.length_map]
      exact lt3
    refine ⟨(by show 11 ≤ sizeLine; decide), fun qf nqf => ?_⟩
    have db := dbent.same fc
    refine ⟨c, qf, _, rfl, upd_same, gc.ne nqf, gc.keep (same_upd nqf), by simp, by simp, fun Hz vz kz cz hvz => ?_⟩
    have kmz : Kp c Hm Hz := Same.trans (Kp.new nqf) kz
    have kz : Kp c H Hz := Same.trans k3 (Same.trans k9 (Same.trans k9R (Same.trans kb (Same.trans fc kmz))))
    simp only [List.mem_cons, List.not_mem_nil, or_false] at hvz
    rcases hvz with h | h | h | h | h | h | h | h | h | h | h
    · rw [h]; exact q _ _ _ kz cz (db.same kmz) okbent
    · rw [h]; exact q _ _ _ kz cz (db.same kmz) okbent
    · rw [h]; exact q _ _ _ kz cz (db.same kmz) okbent
    · rw [h]; exact q _ _ _ kz cz (v4.same kmz) ok4
    · rw [h]; exact q _ _ _ kz cz (v5.same kmz) ok5
    · rw [h]; exact q _ _ _ kz cz (v6.same kmz) ok6
    · rw [h]; exact q _ _ _ kz cz (v7.same kmz) ok7
    · rw [h]; exact q _ _ _ kz cz (v8.same kmz) ok8
    · rw [h]; exact q _ _ _ kz cz (v9.same kmz) ok9
    · rw [h]; exact q _ _ _ kz cz (va.same kmz) oka
    · rw [h]
      exact q _ _ .none kz cz rfl (bent_no (fun ds e => by cases e) fun m j u vl => by
        obtain ⟨e, _⟩ := vl
        cases e)
end
end K36
set_option Elab.async false
set_option linter.all false
set_option maxRecDepth 100000
set_option maxHeartbeats 4000000
namespace K36
open PySem PySem.Spec PyProof.Rows L2 LamX
/-- what _law_asked makes of the lambda's reading -/
def TAsked (CS : Addr) : (XK → Hp → VK → Prop) → Hp → VK → Prop := fun tl H Q =>
  tl (fun cls d H' => cls = .ref CS ∧ ∃ dd, d = some dd ∧ H' dd = some (.xd [(("limit" : Str), .int 1000)]) ∧ Q (.str "many") H') H Q
theorem takes_len {X : Cx} {W : WX} (tk : Takes X W) : Takes X (fun cls d σ H => σ.length = X.N.length → W cls d σ H) := fun u s' ⟨a, B, sI, pins, σ, H, cls, d, e, I, nb, up, sky, na, os, ag, z⟩ => tk u s' ⟨a, B, sI, pins, σ, H, cls, d, e, I, nb, up, sky, na, os, ag, z I.len⟩
theorem asked_gives {X : Cx} {q : Str} {g CS : Addr} {cdg : Value} (hme : X.mg "TooMany" = some (.ref CS)) (te : PySem.W.exmOne X.K (.ref CS) (.ref CS) = some true) (XF : XfC X.K CS) (hno : PySem.W.findIn X.K (.ref CS) "limit" = some none) :
    GivesTo X n_law_asked "_law_asked" (defScope s_law_asked) g cdg (defBody s_law_asked) "_law_call" q (TAsked CS) := by
  intro f c' s H Q tl act hc h
  have nd := c_law_asked.nd
  refine ⟨_, pss_one (ps_try_as (X := (cxOf C8.CX0 X.prog X.w X.K X.mg X.base n_law_asked "_law_asked" (defScope s_law_asked) g cdg X.A X.stack s H C8.E0).nox) (i := 1) (c := .ref CS)
      (tb := fun W D σ H => ∃ Ech : XK, (∀ cls d (σ' : L2.St) H', Ech cls d H' → σ'.length = 2 → W cls d σ' H') ∧ σ[0]? = some (some (.ref f)) ∧ H c' = some (CodeO c' q) ∧ tl Ech H D.rt) (Wout := fun _ _ _ _ => False)
      rfl rfl nd rfl rfl ⟨rfl, by decide, .inl hme⟩ LamX.takes0 (fun W pn xe tk _ => ?_) (fun a oe cls d pn hz hf => pss_one (ps_ret (pe_ifExp (pt_cmpR op_eq (pe_xf XF hno hz hf (pv 1)) pe_int (nomark _)) pe_str pe_str)))), ?_⟩
  · refine ⟨fun pins s' σ H' D I h' => ?_⟩
    obtain ⟨Ech, hW, h1, h2, h3⟩ := h'
    exact (pss_one (ps_ret (act _ pn xe Ech _ _ (takes_len tk) hW))).run pins s' σ H' D I ⟨h1, h2, h3⟩
  · refine ⟨fun cls d H' => cls = .ref CS ∧ ∃ dd, d = some dd ∧ H' dd = some (.xd [(("limit" : Str), .int 1000)]) ∧ Q (.str "many") H', fun cls d σ' H' hh hlen => ?_, rfl, hc, h⟩
    obtain ⟨rfl, dd, rfl, hdd, q⟩ := hh
    refine ⟨true, te, fun _ a ha => ?_, fun z => nomatch z⟩
    have h1 : (σ'.set 1 (some (V.ref a)))[1]? = some (some (V.ref a)) := by rw [List.getElem?_set_self (by omega)]
    exact ⟨_, h1, rfl, rfl, dd, _, .int 1000, rfl, hdd, rfl, rfl, _, rfl, q⟩
end K36
set_option Elab.async false
set_option linter.all false
set_option maxRecDepth 100000
set_option maxHeartbeats 4000000
namespace K36
open PySem PySem.Spec PyProof.Rows L2
/-! ## plain laws -/
def InjOn (m : Nat) (f : Nat → Nat) : Prop := ∀ a b, a < m → b < m → f a = f b → a = b
theorem nodup_range {m : Nat} {f : Nat → Nat} : ((List.range m).map f).Nodup ↔ InjOn m f := by
  constructor
  · intro n a b ha hb e
    have h1 : ((List.range m).map f)[a]? = some (f a) := by rw [List.getElem?_map, List.getElem?_range ha]; rfl
    have h2 : ((List.range m).map f)[b]? = some (f b) := by rw [List.getElem?_map, List.getElem?_range hb]; rfl
    obtain ⟨l1, g1⟩ := List.getElem?_eq_some_iff.mp h1
    obtain ⟨l2, g2⟩ := List.getElem?_eq_some_iff.mp h2
    exact (List.getElem_inj n).mp (by rw [g1, g2, e])
  · intro h
    induction m with
    | zero => exact List.nodup_nil
    | succ m ih =>
      rw [List.range_succ, List.map_append, List.nodup_append]
      refine ⟨ih fun a b ha hb => h a b (by omega) (by omega), by simp, fun x hx y hy e => ?_⟩
      obtain ⟨a, ha, rfl⟩ := List.mem_map.mp hx
      have : y = f m := List.mem_singleton.mp hy
      have ha' := List.mem_range.mp ha
      have := h a m (by omega) (by omega) (by rw [e, this])
      omega
theorem row_map {k : Kd} {m x : Nat} (ok : OkK k m) (hx : x < k.length) : k.getD x [] = (List.range m).map fun l => cell k x l := by
  obtain ⟨r, er, rl, rg⟩ := ok.row hx
  rw [rg]
  apply List.ext_getElem?
  intro j
  by_cases hj : j < m
  · rw [List.getElem?_map, List.getElem?_range hj, List.getElem?_eq_getElem (by omega : j < r.length)]
    have ec : cell k x j = r[j] := by
      unfold cell
      rw [rg, List.getD_eq_getElem?_getD, List.getElem?_eq_getElem (by omega : j < r.length)]
      rfl
    show some r[j] = some (cell k x j)
    rw [ec]
  · rw [List.getElem?_eq_none (by omega), List.getElem?_eq_none (by simp; omega)]
theorem row_nodup {k : Kd} {m x : Nat} (ok : OkK k m) (hx : x < k.length) : ((k.getD x []).map (·.1)).Nodup ↔ InjOn m fun l => (cell k x l).1 := by
  rw [row_map ok hx, List.map_map, ← nodup_range]
  rfl
theorem surj {m : Nat} {f : Nat → Nat} (inj : InjOn m f) (b : ∀ a, a < m → f a < m) : ∀ y, y < m → ∃ x, x < m ∧ f x = y := fun y hy => by
  have := all_in (n := m) (nodup_range.mpr inj) (fun x hx => by
    obtain ⟨a, ha, rfl⟩ := List.mem_map.mp hx
    exact b a (List.mem_range.mp ha)) (by simp) y hy
  obtain ⟨x, hx, e⟩ := List.mem_map.mp this
  exact ⟨x, List.mem_range.mp hx, e⟩
theorem latch_app (k : Kd) : ∀ (p q : Tr) (s : Nat), latch k (p ++ q) s = ((latch k q (latch k p s).1).1, (latch k p s).2 ++ (latch k q (latch k p s).1).2)
  | [], q, s => rfl
  | x :: p, q, s => by
    show ((latch k (p ++ q) _).1, _ :: (latch k (p ++ q) _).2) = _
    rw [latch_app k p q]
    rfl
theorem within_step {k : Kd} {m : Nat} {t : Tr} {x l : Nat} (h : Within k m t x) (hl : l < m) : Within k m t (cell k x l).2 := by
  obtain ⟨s, hs, r⟩ := h
  exact ⟨s, hs, reach_one r hl⟩
theorem inj_latch {k : Kd} {m : Nat} (ok : OkK k m) {S : Nat → Prop} (lt : ∀ x, S x → x < k.length) (cl : ∀ x l, S x → l < m → S (cell k x l).2) (ij : ∀ x, S x → InjOn m fun l => (cell k x l).1) :
    ∀ {X : Tr}, (∀ x ∈ X, S x) → (InjOn m fun s => (latch k X s).1) ∧ ∀ s, s < m → ∀ x ∈ (latch k X s).2, S x
  | [], _ => ⟨fun a b _ _ e => e, fun s _ x hx => nomatch hx⟩
  | y :: X, h => by
    obtain ⟨i1, i2⟩ := inj_latch ok lt cl ij (X := X) fun x hx => h x (List.mem_cons_of_mem _ hx)
    have hy := h y List.mem_cons_self
    have b : ∀ l, l < m → (cell k y l).1 < m := fun l hl => by
      obtain ⟨_, _, _, b, _⟩ := ok.cell (lt y hy) hl
      exact b
    refine ⟨fun a c ha hc e => ?_, fun s hs x hx => ?_⟩
    · exact ij y hy a c ha hc (i1 _ _ (b a ha) (b c hc) e)
    · rcases List.mem_cons.mp hx with z | z
      · rw [z]
        exact cl y s hy hs
      · exact i2 _ (b s hs) x z
theorem inj_prefix {k : Kd} {m : Nat} {p q : Tr} (h : InjOn m fun s => (latch k (p ++ q) s).1) : InjOn m fun s => (latch k p s).1 := fun a b ha hb e => h a b ha hb (by
  show (latch k (p ++ q) a).1 = (latch k (p ++ q) b).1
  have e' : (latch k p a).1 = (latch k p b).1 := e
  rw [latch_app, latch_app, e'])
/-- where a latch lets each setting out, by a train -/
theorem keeps_iff {k : Kd} {m : Nat} {t : Tr} (ok : OkK k m) (ht : OkT k.length t) : Keeps k m t ↔ ∀ x, Reach (nxT k) m t x → InjOn m fun s => (latch k x s).1 := by
  have lt : ∀ x, Within k m t x → x < k.length := fun x h => within_lt ok ht h
  constructor
  · intro kp x r
    have ij : ∀ x, Within k m t x → InjOn m fun l => (cell k x l).1 := fun x hx => (row_nodup ok (lt x hx)).mp (kp x hx)
    have all : ∀ X, Reach (nxT k) m t X → ∀ x ∈ X, Within k m t x := fun X r => by
      induction r with
      | refl => exact fun x hx => ⟨x, hx, .refl⟩
      | step _ hs ih => exact (inj_latch ok lt (fun x l h hl => within_step h hl) ij ih).2 _ hs
    exact (inj_latch ok lt (fun x l h hl => within_step h hl) ij (all x r)).1
  · intro h y hy
    rw [row_nodup ok (lt y hy)]
    have find : ∀ s ∈ t, ∀ z, Reach (nxT k) m [s] z → ∃ y X, z = [y] ∧ Reach (nxT k) m t X ∧ y ∈ X := fun s hs z r => by
      induction r with
      | refl => exact ⟨s, t, rfl, .refl, hs⟩
      | step r0 hl ih =>
        obtain ⟨y, X, rfl, rX, hyX⟩ := ih
        obtain ⟨p, q, rfl⟩ := List.append_of_mem hyX
        obtain ⟨okX, _⟩ := reach_ok ok ht rX
        have okp : OkT k.length p := fun x hx => okX x (List.mem_append_left _ hx)
        obtain ⟨a, ha, ea⟩ := surj (inj_prefix (h _ rX)) (fun a ha => (latch_ok ok okp ha).1) _ hl
        refine ⟨_, nxT k (p ++ y :: q) a, rfl, .step rX ha, ?_⟩
        unfold nxT
        rw [latch_app, ea]
        exact List.mem_append_right _ List.mem_cons_self
    obtain ⟨s, hs, r⟩ := hy
    obtain ⟨y', X, ey, rX, hyX⟩ := find s hs _ r
    cases ey
    obtain ⟨p, q, rfl⟩ := List.append_of_mem hyX
    obtain ⟨okX, _⟩ := reach_ok ok ht rX
    have okp : OkT k.length p := fun x hx => okX x (List.mem_append_left _ hx)
    have sj := surj (inj_prefix (h _ rX)) (fun a ha => (latch_ok ok okp ha).1)
    intro a b ha hb e
    obtain ⟨a', ha', ea⟩ := sj a ha
    obtain ⟨b', hb', eb⟩ := sj b hb
    have : a' = b' := h _ rX a' b' ha' hb' (by
      show (latch k (p ++ y :: q) a').1 = (latch k (p ++ y :: q) b').1
      have ea' : (latch k p a').1 = a := ea
      have eb' : (latch k p b').1 = b := eb
      rw [latch_app, latch_app, ea', eb']
      show (latch k q (cell k y a).1).1 = (latch k q (cell k y b).1).1
      have e' : (cell k y a).1 = (cell k y b).1 := e
      rw [e'])
    rw [← ea, ← eb, this]
/-! ### what undoes -/
structure Undoes (k k' : Kd) (m : Nat) (S : Nat → Prop) (g : Nat → Nat) : Prop where
  closed : ∀ y l, S y → l < m → S (cell k y l).2
  bound : ∀ y l, S y → l < m → (cell k y l).1 < m
  inv : ∀ y l, S y → l < m → cell k' (g y) (cell k y l).1 = (l, g (cell k y l).2)
theorem und_latch {k k' : Kd} {m : Nat} {S : Nat → Prop} {g : Nat → Nat} (u : Undoes k k' m S g) : ∀ {T : Tr} {s : Nat}, (∀ x ∈ T, S x) → s < m →
    latch k' (T.reverse.map g) (latch k T s).1 = (s, (latch k T s).2.reverse.map g) ∧ (∀ x ∈ (latch k T s).2, S x) ∧ (latch k T s).1 < m
  | [], s, _, hs => ⟨rfl, (fun x hx => nomatch hx), hs⟩
  | x :: r, s, h, hs => by
    have hx := h x List.mem_cons_self
    have b := u.bound x s hx hs
    obtain ⟨i1, i2, i3⟩ := und_latch u (T := r) (s := (cell k x s).1) (fun y hy => h y (List.mem_cons_of_mem _ hy)) b
    refine ⟨?_, fun y hy => ?_, i3⟩
    · show latch k' ((x :: r).reverse.map g) (latch k r (cell k x s).1).1 = (s, ((cell k x s).2 :: (latch k r (cell k x s).1).2).reverse.map g)
      rw [List.reverse_cons, List.map_append, List.map_singleton, latch_snoc, i1]
      show ((cell k' (g x) (cell k x s).1).1, _ ++ [(cell k' (g x) (cell k x s).1).2]) = _
      rw [u.inv x s hx hs, List.reverse_cons, List.map_append, List.map_singleton]
    · rcases List.mem_cons.mp hy with z | z
      · rw [z]
        exact u.closed x s hx hs
      · exact i2 y z
theorem und_reach {k k' : Kd} {m : Nat} {S : Nat → Prop} {g : Nat → Nat} (u : Undoes k k' m S g) {t : Tr} (ht : ∀ x ∈ t, S x) {p : TT2} (r : Reach (nxP k k') m (t, t.reverse.map g) p) : (∀ x ∈ p.1, S x) ∧ p.2 = p.1.reverse.map g := by
  induction r with
  | refl => exact ⟨ht, rfl⟩
  | step _ hs ih =>
    obtain ⟨i1, i2⟩ := ih
    obtain ⟨a, b, _⟩ := und_latch u i1 hs
    unfold nxP
    rw [i2, a]
    exact ⟨b, rfl⟩
theorem und_alike {k k' : Kd} {m : Nat} {S : Nat → Prop} {g : Nat → Nat} (u : Undoes k k' m S g) {t : Tr} (ht : ∀ x ∈ t, S x) : Alike k k' m (t, t.reverse.map g) := fun p r s hs => by
  obtain ⟨i1, i2⟩ := und_reach u ht r
  obtain ⟨a, _, _⟩ := und_latch u i1 hs
  unfold lastP
  rw [i2, a]
theorem nodup_fst {l : List TT2} {f : Tr → Tr} (nd : l.Nodup) (h : ∀ p ∈ l, p.2 = f p.1) : (l.map (·.1)).Nodup := by
  induction l with
  | nil => exact List.nodup_nil
  | cons p l ih =>
    rw [List.nodup_cons] at nd
    rw [List.map_cons, List.nodup_cons]
    refine ⟨fun hm => nd.1 ?_, ih nd.2 fun q hq => h q (List.mem_cons_of_mem _ hq)⟩
    obtain ⟨q, hq, e⟩ := List.mem_map.mp hm
    have : q = p := Prod.ext e (by rw [h q (List.mem_cons_of_mem _ hq), h p List.mem_cons_self, e])
    exact this ▸ hq
theorem und_few {k k' : Kd} {m : Nat} {S : Nat → Prop} {g : Nat → Nat} (sm : Sm k m) (ok' : OkK k' m) (u : Undoes k k' m S g) {t : Tr} (ht : ∀ x ∈ t, S x) (okt : OkT k.length t) (ok2 : OkT k'.length (t.reverse.map g)) (lt : t.length ≤ 2) : ¬ Many k k' m (t, t.reverse.map g) := fun ⟨l, nd, hr, big⟩ => by
  have nf := nodup_fst (f := fun T => T.reverse.map g) nd fun p hp => (und_reach u ht (hr p hp)).2
  have := sub_len (l := uT) nf fun x hx => by
    obtain ⟨p, hp, rfl⟩ := List.mem_map.mp hx
    obtain ⟨⟨o1, _⟩, l1, _⟩ := reachP_ok (p := (t, t.reverse.map g)) sm.ok ok' ⟨okt, ok2⟩ (hr p hp)
    exact mem_uT sm.s4 o1 (by rw [l1]; exact lt)
  have e : uT.length = 21 := by decide +kernel
  rw [List.length_map] at this
  omega
end K36
set_option Elab.async false
set_option linter.all false
set_option maxRecDepth 100000
set_option maxHeartbeats 4000000
namespace K36
open PySem PySem.Spec PyProof.Rows L2
theorem lawKeeps_iff {k : Kd} {m : Nat} {t : Tr} (ok : OkK k m) (ht : OkT k.length t) : Keeps k m t ↔ LawKeeps k m t := by
  rw [keeps_iff ok ht]
  unfold LawKeeps outs
  exact ⟨fun h x r => nodup_range.mpr (h x r), fun h x r => nodup_range.mp (h x r)⟩
/-! ### the undoing that undoing_of gives -/
theorem idx_lt {ns : List Nat} {x : Nat} (h : x ∈ ns) : ns.idxOf x < ns.length := by
  obtain ⟨i, _⟩ := idx_props h
  exact (List.getElem?_eq_some_iff.mp i).1
theorem idx_of_at {l : List Nat} (nd : l.Nodup) {i x : Nat} (h : l[i]? = some x) : l.idxOf x = i := by
  obtain ⟨g, _⟩ := idx_props (List.mem_of_getElem? h)
  obtain ⟨l1, g1⟩ := List.getElem?_eq_some_iff.mp h
  obtain ⟨l2, g2⟩ := List.getElem?_eq_some_iff.mp g
  exact (List.getElem_inj nd).mp (by rw [g1, g2])
theorem undK_ne {k : Kd} {m : Nat} {ns : List Nat} (h : ns ≠ []) : undK k m ns = ns.map fun x => undRow (k.getD x []) ns := if_neg h
structure Own (k : Kd) (m : Nat) (t : Tr) (ns : List Nat) : Prop where
  sm : Sm (undK k m ns) m
  okt : OkT (undK k m ns).length (undT ns t)
  len : (undT ns t).length ≤ 2
  al : Alike k (undK k m ns) m (t, undT ns t)
  few : ¬ Many k (undK k m ns) m (t, undT ns t)
theorem own_of {k : Kd} {m : Nat} {t : Tr} {ns : List Nat} (sm : Sm k m) (ht : OkT k.length t) (lt : t.length ≤ 2) (kp : Keeps k m t) (up : ns.Pairwise (· < ·)) (mem : ∀ x, x ∈ ns ↔ Within k m t x) : Own k m t ns := by
  have m1 := sm.ok.m1
  have m4 := sm.m4
  have bl : ∀ x ∈ ns, x < k.length := fun x hx => within_lt sm.ok ht ((mem x).mp hx)
  have nsl : ns.length ≤ 4 := Nat.le_trans (nodup_len (up.imp fun h => Nat.ne_of_lt h) bl) sm.s4
  have lu : (undT ns t).length ≤ 2 := by
    unfold undT
    rw [List.length_map, List.length_reverse]
    exact lt
  have tin : ∀ x ∈ t, x ∈ ns := fun x hx => (mem x).mpr ⟨x, hx, .refl⟩
  by_cases e : ns = []
  · subst e
    have et : t = [] := by
      cases t with
      | nil => rfl
      | cons x r => exact absurd (tin x List.mem_cons_self) (by simp)
    subst et
    have ek : undK k m [] = [(List.range m).map fun s => (s, 0)] := if_pos rfl
    have smK : Sm (undK k m []) m := by
      rw [ek]
      refine sm_of m1 m4 (by simp) (by simp) fun r hr => ?_
      rw [List.mem_singleton.mp hr]
      refine ⟨by simp, fun p hp => ?_⟩
      obtain ⟨s, hs, rfl⟩ := List.mem_map.mp hp
      exact ⟨List.mem_range.mp hs, by simp⟩
    have u : Undoes k (undK k m []) m (fun _ => False) id := ⟨fun _ _ h _ => h, fun _ _ h _ => h.elim, fun _ _ h _ => h.elim⟩
    exact ⟨smK, (fun x hx => nomatch hx), lu, und_alike u (t := []) (fun x hx => nomatch hx), und_few sm smK.ok u (t := []) (fun x hx => nomatch hx) ht (fun x hx => nomatch hx) (by simp)⟩
  · have ek := undK_ne (k := k) (m := m) e
    have pos : 1 ≤ ns.length := List.length_pos_iff.mpr e
    have smK : Sm (undK k m ns) m := by
      rw [ek]
      refine sm_of m1 m4 (by rw [List.length_map]; exact pos) (by rw [List.length_map]; exact nsl) fun r hr => ?_
      obtain ⟨x, hx, rfl⟩ := List.mem_map.mp hr
      obtain ⟨row, er, rl, rg⟩ := sm.ok.row (bl x hx)
      rw [rg, List.length_map]
      have rmem := List.mem_of_getElem? er
      have nd := kp x ((mem x).mp hx)
      rw [rg] at nd
      have all := all_in nd (fun y hy => by
        obtain ⟨p, hp, rfl⟩ := List.mem_map.mp hy
        exact (sm.ok.ins row rmem p hp).1) (by rw [List.length_map, rl])
      refine ⟨by rw [undRow_len, rl], fun p hp => ?_⟩
      obtain ⟨l, hl, rfl⟩ := List.mem_map.mp hp
      have hl' := List.mem_range.mp hl
      have hi := idx_lt (all l (by omega))
      rw [List.length_map, rl] at hi
      refine ⟨hi, idx_lt ?_⟩
      obtain ⟨s, hs, rr⟩ := (mem x).mp hx
      have st := reach_one (l := (row.map (·.1)).idxOf l) rr hi
      have ec : cell k x ((row.map (·.1)).idxOf l) = row.getD ((row.map (·.1)).idxOf l) (0, 0) := by
        unfold cell
        rw [rg]
      rw [ec] at st
      exact (mem _).mpr ⟨s, hs, st⟩
    have u : Undoes k (undK k m ns) m (fun x => x ∈ ns) (fun x => ns.idxOf x) := by
      refine ⟨fun y l hy hl => (mem _).mpr (within_step ((mem y).mp hy) hl), fun y l hy hl => ?_, fun y l hy hl => ?_⟩
      · obtain ⟨_, _, _, b, _⟩ := sm.ok.cell (bl y hy) hl
        exact b
      · obtain ⟨row, er, ec, b1, b2⟩ := sm.ok.cell (bl y hy) hl
        obtain ⟨row', er', rl, rg⟩ := sm.ok.row (bl y hy)
        rw [er] at er'
        cases Option.some.inj er'
        have nd := kp y ((mem y).mp hy)
        rw [rg] at nd
        have g : (undK k m ns).getD (ns.idxOf y) [] = undRow row ns := by
          rw [ek, List.getD_eq_getElem?_getD, List.getElem?_map, (idx_props hy).1]
          show undRow (k.getD y []) ns = _
          rw [rg]
        have hf : (row.map (·.1))[l]? = some (cell k y l).1 := by rw [List.getElem?_map, ec]; rfl
        have ei := idx_of_at nd hf
        have c : cell (undK k m ns) (ns.idxOf y) (cell k y l).1 = (undRow row ns).getD (cell k y l).1 (0, 0) := by
          show ((undK k m ns).getD (ns.idxOf y) []).getD (cell k y l).1 (0, 0) = _
          rw [g]
        rw [c, undRow_at row ns (by rw [rl]; exact b1), ei]
        have : row.getD l (0, 0) = cell k y l := by rw [List.getD_eq_getElem?_getD, ec]; rfl
        rw [this]
    have okt : OkT (undK k m ns).length (undT ns t) := fun x hx => by
      obtain ⟨y, hy, rfl⟩ := List.mem_map.mp hx
      rw [ek, List.length_map]
      exact idx_lt (tin y (List.mem_reverse.mp hy))
    exact ⟨smK, okt, lu, und_alike u tin, und_few sm smK.ok u tin ht okt lt⟩
/-! ### the law's own undoing of even kinds -/
theorem back_of {k : Kd} {m : Nat} {t : Tr} (sm : Sm k m) (ev : ∀ r ∈ k, (r.map (·.1)).Nodup) (ht : OkT k.length t) (lt : t.length ≤ 2) :
    Sm (k.map backRow) m ∧ OkT (k.map backRow).length t.reverse ∧ Alike k (k.map backRow) m (t, t.reverse) ∧ ¬ Many k (k.map backRow) m (t, t.reverse) := by
  have smK : Sm (k.map backRow) m := by
    refine sm_of sm.ok.m1 sm.m4 (by rw [List.length_map]; exact sm.ok.s1) (by rw [List.length_map]; exact sm.s4) fun r hr => ?_
    obtain ⟨row, hrow, rfl⟩ := List.mem_map.mp hr
    have rl := sm.ok.rows row hrow
    have all := all_in (ev row hrow) (fun y hy => by
      obtain ⟨p, hp, rfl⟩ := List.mem_map.mp hy
      exact (sm.ok.ins row hrow p hp).1) (by rw [List.length_map, rl])
    refine ⟨by rw [backRow_len, rl], fun p hp => ?_⟩
    rw [List.length_map]
    obtain ⟨j, hj, rfl⟩ := List.mem_map.mp hp
    have hj' := List.mem_range.mp hj
    have hi := idx_lt (all j (by omega))
    rw [List.length_map] at hi
    refine ⟨by rw [← rl]; exact hi, ?_⟩
    show (row.getD ((row.map (·.1)).idxOf j) (0, 0)).2 < k.length
    rw [List.getD_eq_getElem?_getD, List.getElem?_eq_getElem hi]
    exact (sm.ok.ins row hrow _ (List.getElem_mem hi)).2
  have u : Undoes k (k.map backRow) m (fun x => x < k.length) id := by
    refine ⟨fun y l hy hl => ?_, fun y l hy hl => ?_, fun y l hy hl => ?_⟩
    · obtain ⟨_, _, _, _, b⟩ := sm.ok.cell hy hl
      exact b
    · obtain ⟨_, _, _, b, _⟩ := sm.ok.cell hy hl
      exact b
    · obtain ⟨row, er, ec, b1, b2⟩ := sm.ok.cell hy hl
      obtain ⟨row', er', rl, rg⟩ := sm.ok.row hy
      rw [er] at er'
      cases Option.some.inj er'
      have nd := ev row (List.mem_of_getElem? er)
      have hf : (row.map (·.1))[l]? = some (cell k y l).1 := by rw [List.getElem?_map, ec]; rfl
      have ei := idx_of_at nd hf
      have c : cell (k.map backRow) y (cell k y l).1 = (backRow row).getD (cell k y l).1 (0, 0) := by
        show ((k.map backRow).getD y []).getD (cell k y l).1 (0, 0) = _
        have g : (k.map backRow).getD y [] = backRow row := by
          rw [List.getD_eq_getElem?_getD, List.getElem?_map, er]
          rfl
        rw [g]
      show cell (k.map backRow) y (cell k y l).1 = (l, (cell k y l).2)
      rw [c, backRow_at row (by rw [rl]; exact b1), ei]
      have : row.getD l (0, 0) = cell k y l := by rw [List.getD_eq_getElem?_getD, ec]; rfl
      rw [this]
  have er : t.reverse = t.reverse.map id := (List.map_id _).symm
  have okt : OkT (k.map backRow).length t.reverse := fun x hx => by
    rw [List.length_map]
    exact ht x (List.mem_reverse.mp hx)
  refine ⟨smK, okt, ?_, ?_⟩
  · rw [er]
    exact und_alike u ht
  · have := und_few sm smK.ok u ht ht (by rw [← er]; exact okt) lt
    rw [← er] at this
    exact this
/-! ### hashes of pairs -/
theorem nd_TT : ndBy 64 (uTT.map fun x => up64 (hTT x)) = true := by decide +kernel
theorem hash_pairs {w : World} {k j : Kd} {m : Nat} {t u : Tr} (sm : Sm k m) (oj : OkK j m) (ht : OkT k.length t) (hu : OkT j.length u) (lt : t.length ≤ 2) (lj : j.length ≤ 5) (lu : u.length ≤ 3) : HashInj koP w (Reach (nxP k j) m (t, u)) := fun x y hx hy e => by
  have mem : ∀ p, Reach (nxP k j) m (t, u) p → p ∈ uTT := fun p r => by
    obtain ⟨⟨o1, o2⟩, l1, l2⟩ := reachP_ok (p := (t, u)) sm.ok oj ⟨ht, hu⟩ r
    refine List.mem_flatMap.mpr ⟨p.1, mem_uT sm.s4 o1 (by rw [l1]; exact lt), List.mem_map.mpr ⟨p.2, mem_uO lj o2 (by rw [l2]; exact lu), rfl⟩⟩
  have e' : (nk (dTT x)).hash w = (nk (dTT y)).hash w := e
  rw [hash_TT, hash_TT] at e'
  exact inj_of nd_TT x (mem x hx) y (mem y hy) e'
end K36
set_option Elab.async false
set_option linter.all false
set_option maxRecDepth 100000
set_option maxHeartbeats 4000000
namespace K36
open PySem PySem.Spec PyProof.Rows L2 LamX
/-! ### what a turn of the law may change: the cup, tables of code -/
abbrev Ef (c : Addr) (H H' : Hp) : Prop := ExtN (hid [c] H) (hid [c] H')
theorem Ef.of {c : Addr} {H H' : Hp} (s : Kp c H H') : Ef c H H' := ExtN.of s
theorem Ef.trans' {c : Addr} {H H1 H2 : Hp} (a : Ef c H H1) (b : Ef c H1 H2) : Ef c H H2 := ExtN.trans a b
mutual
theorem DV.ext {G G' : Hp} (e : ExtN G G') : ∀ {d : PyData} {v : V}, DV G d v → DV G' d v
  | .none, _, h => h
  | .bool _, _, h => h
  | .int _, _, h => h
  | .str _, _, h => h
  | .list ds, _, h => by
    obtain ⟨a, xs, h1, h2, h3⟩ := h
    exact ⟨a, xs, h1, e _ _ h2 (fun _ z => by cases z), DVs.ext e h3⟩
  | .tuple ds, _, h => by
    obtain ⟨a, xs, h1, h2, h3⟩ := h
    exact ⟨a, xs, h1, e _ _ h2 (fun _ z => by cases z), DVs.ext e h3⟩
  | .dict _, _, h => h
theorem DVs.ext {G G' : Hp} (e : ExtN G G') : ∀ {ds : List PyData} {vs : List V}, DVs G ds vs → DVs G' ds vs
  | [], _, h => h
  | d :: ds, _, h => by
    obtain ⟨v, r, h1, h2, h3⟩ := h
    exact ⟨v, r, h1, DV.ext e h2, DVs.ext e h3⟩
end
theorem Cup.extN {c : Addr} {H H' : Hp} (h : Cup H c) (e : ExtN H H') : Cup H' c := by
  obtain ⟨x, y, q⟩ := h
  exact ⟨x, y, e _ _ q (fun _ z => by cases z)⟩
theorem Ef.ofN {c : Addr} {H H' : Hp} (e : ExtN H H') : Ef c H H' := fun b o q n => by
  by_cases h : b ∈ [c]
  · rw [hid_in h] at q
    cases q
  · rw [hid_out h] at q ⊢
    exact e b o q n
theorem tab_hide {c : Addr} {H : Hp} {P : Addr} {q : Str} (t : TabS H P q) (hc : Cup H c) : TabS (hid [c] H) P q := by
  obtain ⟨x, y, e⟩ := hc
  obtain ⟨ps, h1, h2, h3⟩ := t
  have out : ∀ {b : Addr} {o : HO}, H b = some o → o ≠ cupO x y → hid [c] H b = some o := fun {b o} hb n => by
    rw [hid_out]
    · exact hb
    · intro m
      rw [List.mem_singleton.mp m, e] at hb
      exact n (Option.some.inj hb).symm
  refine ⟨ps, out h1 (fun z => by cases z), h2, fun pos cv hcv => ?_⟩
  obtain ⟨c', ec, hc'⟩ := h3 pos cv hcv
  exact ⟨c', ec, out hc' (fun z => by unfold CodeO at z; cases z)⟩
theorem tabs_hide {c : Addr} {H : Hp} {T : List (Addr × Str)} (t : Tabs T H) (hc : Cup H c) : Tabs T (hid [c] H) := fun p hp => tab_hide (t p hp) hc
theorem tabs_show {c : Addr} {H : Hp} {T : List (Addr × Str)} (t : Tabs T (hid [c] H)) : Tabs T H := t.ext hid_le
theorem tabs_kp {c : Addr} {H H' : Hp} {T : List (Addr × Str)} (t : Tabs T (hid [c] H)) (s : Kp c H H') : Tabs T (hid [c] H') := t.ext s
theorem LI.uniq {k : Kd} {m : Nat} {t : Tr} {d : PyData} {v u : V} (a : LI k m t d v) (b : LI k m t d u) : v = u := by
  rcases a with ⟨rfl, ma⟩ | ⟨na, x, rfl, ia⟩ <;> rcases b with ⟨rfl, mb⟩ | ⟨nb, y, rfl, ib⟩
  · rfl
  · exact absurd ma nb
  · exact absurd mb na
  · have : x = y := by
      cases x <;> cases y
      · rfl
      · exact absurd (ia.mpr (ib.mp rfl)) (by simp)
      · exact absurd (ib.mpr (ia.mp rfl)) (by simp)
      · rfl
    rw [this]
end K36
set_option Elab.async false
set_option linter.all false
set_option maxRecDepth 100000
set_option maxHeartbeats 4000000
namespace K36
open PySem PySem.Spec PyProof.Rows L2 LamX
def qR : Str := "_law_right.<locals>.<lambda>"
abbrev TQ (PR : Addr) : List (Addr × Str) := [(PR, qR)]
section
variable {P : Program} {w : World} {K : PySem.W.Frag} {mg : Str → Option Value} {base : Heap}
def spRight (PR : Addr) : Sp := fun vs H Q _ => ∃ (c : Addr) (k : Kd) (m : Nat) (t : Tr) (kv tv : V), vs = [.ref c, kv, tv] ∧ Cup H c ∧ Tabs (TQ PR) (hid [c] H) ∧ DV (hid [c] H) (dK k) kv ∧ DV (hid [c] H) (dT t) tv ∧ Sm k m ∧ OkT k.length t ∧ t.length ≤ 2 ∧
  ∀ H', Ef c H H' → Cup H' c → Tabs (TQ PR) (hid [c] H') → Q (.bl true) H'
/-- what is known of a value: asked of the program -/
def tKnown (PR : Addr) : TE := fun σ H Q => ∃ (c : Addr) (k : Kd) (m : Nat) (t : Tr) (d : PyData) (kv tv told own x : V) (x6 : Option V), σ = [some (.ref c), some kv, some tv, some told, some own, some x, x6] ∧ Cup H c ∧ Tabs (TQ PR) (hid [c] H) ∧ DV (hid [c] H) (dK k) kv ∧ DV (hid [c] H) (dT t) tv ∧ DV (hid [c] H) d x ∧
  Sm k m ∧ OkT k.length t ∧ t.length ≤ 2 ∧ BentOk d ∧ ∀ kn H2, Ef c H H2 → Cup H2 c → Tabs (TQ PR) (hid [c] H2) → LI k m t d kn → Q kn H2
/-- four values, each judged alike -/
def tFour (PR : Addr) : TS := fun D σ H => ∃ (c : Addr) (k : Kd) (m : Nat) (t : Tr) (k0 : Kd) (m0 : Nat) (t0 : Tr) (kv tv told own : V) (x5 x6 : Option V), σ = [some (.ref c), some kv, some tv, some told, some own, x5, x6] ∧ Cup H c ∧ Tabs (TQ PR) (hid [c] H) ∧ DV (hid [c] H) (dK k) kv ∧ DV (hid [c] H) (dT t) tv ∧
  Sm k m ∧ OkT k.length t ∧ t.length ≤ 2 ∧ DV (hid [c] H) (dKT k0 t0) own ∧ Sm k0 m0 ∧ OkT k0.length t0 ∧ t0.length ≤ 2 ∧ ∀ σ' H', Ef c H H' → Cup H' c → Tabs (TQ PR) (hid [c] H') → D.nx σ' H'
theorem bent_own {k : Kd} {m : Nat} {t : Tr} (sm : Sm k m) (lt : t.length ≤ 2) : BentOk (dKT k t) := by
  have := sm.s4
  have := sm.m4
  refine bent_two (by rw [List.length_map]; omega) (fun d hd => ?_) (short_T (by omega)) fun us e => ?_
  · obtain ⟨r, hr, rfl⟩ := List.mem_map.mp hd
    exact short_R (by have := sm.ok.rows r hr; omega)
  · injection e with e
    rw [← e, List.length_map]
    omega
theorem scal_LI {k : Kd} {m : Nat} {t : Tr} {d : PyData} {v : V} (h : LI k m t d v) : scal v v = true ∧ ∃ tt : Value, (∀ K H, TyX K H v tt) ∧ ∀ K, PySem.W.kitAny K tt [.type "bool", .type "str"] = some true := by
  rcases h with ⟨rfl, _⟩ | ⟨_, b, rfl, _⟩
  · refine ⟨rfl, .type "str", fun K H => ty_of (d := .str "many") rfl, fun K => ?_⟩
    exact kitAny_cons (b := false) (kit_ty (by decide +kernel)) (fun _ => kitAny_cons (b := true) (kit_ty (by decide +kernel)) (fun z => by cases z) (fun _ => rfl)) (fun z => by cases z)
  · refine ⟨rfl, .type "bool", fun K H => ty_of (d := .bool b) rfl, fun K => ?_⟩
    exact kitAny_cons (b := true) (kit_ty (by decide +kernel)) (fun z => by cases z) (fun _ => rfl)
theorem k_law_right {C fI gA cR PR fR : Addr} {fdA : FuncData} {oc kV doc pm ct : Value} {od an : Option Addr} {osl : Array (Option Value)} (B : Bl mg) (T : TmTxt P K mg C fI) (te : PySem.W.exmOne K (.ref C) (.ref C) = some true) (XF : XfC K C)
    (gA' : mg "_law_asked" = some (.ref gA)) (FA : Fun K "_law_asked" "_law_asked" s_law_asked gA fdA) (gR : mg "_law_right" = some (.ref fR)) (kR : PySem.W.keepIn K (.ref fR) = true)
    (lkR : K.lookup fR = some ⟨oc, od, .func (PySem.W.fnOf "_law_right" "_law_right" (defArgs s_law_right) (defBody s_law_right) (defScope s_law_right) .none kV doc pm an (.ref cR) ct), osl⟩) (hcR : PySem.W.codeIn K (.ref cR) "_law_right" = true) (TB : TabB base mg cR PR)
    (C1 : Cl P w K mg base 5 "undoing_of" spUndOf) (C2 : Cl P w K mg base 5 "_law_loses_at" (spLLoses w)) (C3 : Cl P w K mg base 5 "_law_is_undoing" spLIsUnd) (C4 : ClX P w K mg base 5 "is_undoing" (spIsUnd w C)) (C5 : Cl P w K mg base 3 "_law_bent" spBent) : Cl P w K mg base 8 "_law_right" (spRight PR) := by
  obtain ⟨ocA, odA, kVA, docA, pmA, anA, cdvA, ctA, oslA, rfl, lkA, hcA⟩ := FA.ex
  refine ⟨fR, _, _, gR, kR, Binds.all (ps := ["_law_cup_here", "_law_kind_here", "_law_train_here"]) (fun us hl => match us, hl with | [_, _, _], _ => rfl), fn_of (k := 7) lkR hcR c_law_right (fun vs H Q E h => ?_) (fun A outer s H vs Q E hr h => ?_)⟩
  · obtain ⟨c, k, m, t, kv, tv, rfl, _⟩ := h
    rfl
  · obtain ⟨c, k, m, t, kv, tv, rfl, hc, htb, hk, ht, sm, okt, lt, q⟩ := h
    have nd := c_law_right.nd
    refine ⟨_, PSs.nox (pss_cons (ps_set (i := 3) nd rfl (.inl rfl) (pe_cl C1 hr (by decide) (pa_cons (pv 1) (pa_cons (pv 2) pa_nil))))
      (pss_cons (ps_if (pt_cmpR op_ne (pe_cmpR op_notN (pv 3) pe_non (nomark _)) (pe_cmpR op_isN (pe_cl C2 hr (by decide) (pa_cons (pv 1) (pa_cons (pv 2) pa_nil))) pe_non (nomark _)) (nomark _)) (pss_one (ps_ret pe_bl)) pss_nil)
      (pss_cons (ps_set (i := 4) nd rfl (.inl rfl) (pe_ifExp (pt_cmpR op_notN (pv 3) pe_non (nomark _)) (pv 3) (pe_tup (pa_cons (pv 1) (pa_cons (pv 2) pa_nil)))))
      (pss_cons (ps_if (PW.pt (pw_and (pt_cmpR op_notN (pv 3) pe_non (nomark _)) (pw_and1 (pt_cmpR op_notBl (pe_cl C3 hr (by decide) (pa_cons (pv 1) (pa_cons (pv 2) (pa_cons (pv 3) pa_nil)))) pe_bl (nomark _))))) (pss_one (ps_ret pe_bl)) pss_nil)
      (pss_cons (PS.imp' (t' := tFour PR) (ps_for PassesOwn.never rfl (pi_list (pe_lst (pa_cons (pv 4) (pa_cons (pe_cl C5 hr (by decide) (pa_cons (pv 0) (pa_cons (pv 4) pa_nil))) (pa_cons (pe_cl C5 hr (by decide) (pa_cons (pv 0) (pa_cons (pv 4) pa_nil))) (pa_cons (pe_cl C5 hr (by decide) (pa_cons (pv 0) (pa_cons (pv 4) pa_nil))) pa_nil)))))) (pg_name (i := 5) nd rfl (.inr rfl))
        (pss_cons (ps_set (i := 6) nd rfl (.inl rfl) (PE.imp' (t' := tKnown PR) (pe_lamcall (T := TQ PR) (TT := TAsked C) (a := "_law_call") (k := 5) (by rfl) gA' FA.kp lkA hcA (Binds.all (ps := ["_law_call"]) (fun us hl => match us, hl with | [_], _ => rfl)) c_law_asked rfl (.inl rfl) (asked_gives T.gC te XF T.noN) TB rfl
            (by exact List.mem_singleton.mpr rfl) (fun p hp _ => by rw [List.mem_singleton.mp hp]; rfl) hr (lamS_by (by show lamSB (defScope s_law_right) _ = true; decide +kernel)) rfl (fun _ _ _ _ _ => rfl)
            (fun A' outer' s' H' E' f' c' hr' => pe_clX C4 hr' (by decide) (takes_of rfl rfl rfl rfl) (pa_cons (pv 1) (pa_cons (pv 2) (pa_cons (pv 5) pa_nil))))) (fun σ H Q ⟨c, k, m, t, d, kv, tv, told, own, x, x6, es, hc, htb, hk, ht, hx, sm, okt, lt, bo, q⟩ => by
              subst es
              refine ⟨tabs_show htb, fun H1 eN T1 => ?_⟩
              have c1 := hc.extN eN
              have f1 : Ef c H H1 := Ef.ofN eN
              have hash : ∀ j u, Val m d j u → HashInj koP w (Reach (nxP k j) m (t, u)) := fun j u vl => by
                obtain ⟨l1, l2⟩ := bo.2 m j u vl
                exact hash_pairs sm vl.2.1 okt vl.2.2.1 lt l1 l2
              refine ⟨_, rfl, _, rfl, _, rfl, k, m, t, d, kv, tv, x, rfl, (hk.ext f1).same hid_le, (ht.ext f1).same hid_le, (hx.ext f1).same hid_le, sm, okt, lt, hash, fun H2 b s2 nm iff => ?_, fun H2 e s2 ne hxd mn => ?_⟩
              · exact q _ H2 (f1.trans' (Ef.of (Kp.of s2))) (c1.keep s2) (tabs_hide (T1.ext s2) (c1.keep s2)) (.inr ⟨nm, b, rfl, iff⟩)
              · exact ⟨rfl, e, rfl, hxd, q _ H2 (f1.trans' (Ef.of (Kp.of s2))) (c1.keep s2) (tabs_hide (T1.ext s2) (c1.keep s2)) (.inl ⟨rfl, mn⟩)⟩)))
        (pss_one (ps_if (PW.pt (pw_or (pt_not (pt_val (pe_callB call_isiT (by rfl) B.isi (by decide +kernel) (pa_cons (pv 6) (pa_cons (pe_tup (pa_cons (pe_bltn (by rfl) B.bool (by decide +kernel) (v := .ty "bool") rfl) (pa_cons (pe_bltn (by rfl) B.str (by decide +kernel) (v := .ty "str") rfl) pa_nil))) pa_nil)))))
            (pw_or1 (pt_cmpR op_ne (pv 6) (pe_cl C3 hr (by decide) (pa_cons (pv 1) (pa_cons (pv 2) (pa_cons (pv 5) pa_nil)))) (nomark _))))) (pss_one (ps_ret pe_bl)) pss_nil)))) (fun D σ H ⟨c, k, m, t, k0, m0, t0, kv, tv, told, own, x5, x6, es, hc, htb, hk, ht, sm, okt, lt, how, sm0, okt0, lt0, q⟩ => by
        subst es
        refine ⟨_, rfl, _, rfl, _, rfl, c, k0, m0, t0, own, rfl, hc, how, sm0, okt0, lt0, fun H1 v1 d1 s1 c1 dv1 b1 => ?_⟩
        refine ⟨_, rfl, _, rfl, c, k0, m0, t0, own, rfl, c1, how.same s1, sm0, okt0, lt0, fun H2 v2 d2 s2 c2 dv2 b2 => ?_⟩
        refine ⟨_, rfl, _, rfl, c, k0, m0, t0, own, rfl, c2, (how.same s1).same s2, sm0, okt0, lt0, fun H3 v3 d3 s3 c3 dv3 b3 => ?_⟩
        refine ⟨(by show 4 ≤ sizeLine; decide), fun l nl => ⟨l, rfl, ⟨_, SqL.of upd_same⟩, ?_⟩⟩
        have s4 : Kp c H3 (upd H3 l (.lst [own, v1, v2, v3])) := Kp.new nl
        have c4 := c3.keep (same_upd (o := .lst [own, v1, v2, v3]) nl)
        have nlc := c3.ne nl
        have hl4 : hid [c] (upd H3 l (.lst [own, v1, v2, v3])) l = some (.lst [own, v1, v2, v3]) := hid_at nlc
        have k04 : Kp c H (upd H3 l (.lst [own, v1, v2, v3])) := Same.trans s1 (Same.trans s2 (Same.trans s3 s4))
        have items : ∀ x ∈ [own, v1, v2, v3], ∃ d, DV (hid [c] (upd H3 l (.lst [own, v1, v2, v3]))) d x ∧ BentOk d := fun x hx => by
          simp only [List.mem_cons, List.not_mem_nil, or_false] at hx
          rcases hx with h | h | h | h
          · exact ⟨_, by rw [h]; exact how.same k04, bent_own sm0 lt0⟩
          · exact ⟨_, by rw [h]; exact ((dv1.same s2).same s3).same s4, b1⟩
          · exact ⟨_, by rw [h]; exact (dv2.same s3).same s4, b2⟩
          · exact ⟨_, by rw [h]; exact dv3.same s4, b3⟩
        generalize upd H3 l (.lst [own, v1, v2, v3]) = H4 at c4 hl4 k04 items
        refine for_list (K := K) (a := l) (xs := [own, v1, v2, v3]) (fun i σ H5 => ∃ x5 x6 : Option V, σ = [some (.ref c), some kv, some tv, some told, some own, x5, x6] ∧ Ef c H4 H5 ∧ Cup H5 c ∧ Tabs (TQ PR) (hid [c] H5)) ⟨x5, x6, rfl, ExtN.refl _, c4, tabs_kp htb k04⟩
          (fun i σ H5 _ ⟨x5, x6, _, f5, _, _⟩ => SqL.of (hid_le _ _ (f5 _ _ hl4 (fun _ z => by cases z)))) ?_ ?_
        · rintro i x σ H5 hx ⟨x5, x6, rfl, f5, c5, tb5⟩
          obtain ⟨d, dx, bo⟩ := items x (List.mem_of_getElem? hx)
          have hk5 := (hk.same k04).ext f5
          have ht5 := (ht.same k04).ext f5
          have hx5 := dx.ext f5
          refine ⟨c, k, m, t, d, kv, tv, told, own, x, x6, rfl, c5, tb5, hk5, ht5, hx5, sm, okt, lt, bo, fun kn H6 f6 c6 tb6 li => ?_⟩
          obtain ⟨_, tt, ty, kit⟩ := scal_LI li
          refine ⟨_, rfl, (by show 2 ≤ sizeLine; decide), fun tp ntp => ⟨kn, tp, _, tt, _, true, rfl, upd_same, .cons (.ty _) (.cons (.ty _) .nil), ty _ _, kit _, _, rfl, ?_⟩⟩
          have s7 := same_upd (o := .tup [.ty "bool", .ty "str"]) ntp
          have f7 : Ef c H6 (upd H6 tp (.tup [.ty "bool", .ty "str"])) := Ef.of (Kp.of s7)
          refine ⟨_, rfl, _, rfl, _, rfl, _, rfl, k, m, t, d, kv, tv, x, rfl, ((hk5.ext f6).ext f7).same hid_le, ((ht5.ext f6).ext f7).same hid_le, ((hx5.ext f6).ext f7).same hid_le, sm.ok, okt, by omega, bo.1, fun H8 v8 s8 li8 => ?_⟩
          have e := LI.uniq li li8
          subst e
          obtain ⟨sc, _⟩ := scal_LI li
          refine ⟨sc, _, rfl, ?_⟩
          rw [decide_eq_true rfl]
          exact ⟨_, _, rfl, f5.trans' (f6.trans' (f7.trans' (Ef.of (Kp.of s8)))), (c6.keep s7).keep s8, tabs_kp (tabs_kp tb6 (Kp.of s7)) (Kp.of s8)⟩
        · rintro σ H5 ⟨x5, x6, rfl, f5, c5, tb5⟩
          exact q _ _ (Ef.trans' (Ef.of k04) f5) c5 tb5))
      (pss_one (ps_ret pe_bl))))))), ?_⟩
    have hk' := hk.same hid_le
    have ht' := ht.same hid_le
    have few := few_small (w := w) sm okt lt
    refine ⟨_, rfl, _, rfl, k, m, t, kv, tv, rfl, hk', ht', sm, okt, lt, fun H1 told s1 h1 => ?_⟩
    have c1 := hc.keep s1
    refine ⟨_, rfl, rfl, _, rfl, _, rfl, k, m, t, kv, tv, rfl, hk'.same s1, ht'.same s1, sm.ok, okt, by omega, few.mono (by decide), fun H2 lv s2 iff => ⟨rfl, rfl, _, rfl, ?_⟩⟩
    have c2 := c1.keep s2
    have s12 := s1.trans s2
    have lk := lawKeeps_iff sm.ok okt
    have eqb : (!decide (told = V.non)) = decide (lv = V.non) := by
      rcases h1 with ⟨rfl, nk⟩ | ⟨kp, ns, up, mem, dv⟩
      · have : lv ≠ V.non := fun z => nk (lk.mpr (iff.mp z))
        rw [decide_eq_false this]
        simp
      · obtain ⟨a, _, rfl, _⟩ := dv
        rw [decide_eq_true (iff.mpr (lk.mp kp))]
        simp
    refine ite2 (fun e => absurd e ?_) (fun _ => ?_)
    · rw [eqb]
      simp
    have tb2 := tabs_kp htb (Kp.of s12)
    have hk2 := hk.same (Kp.of s12)
    have ht2 := ht.same (Kp.of s12)
    rcases h1 with ⟨rfl, nk⟩ | ⟨kp, ns, up, mem, dv⟩
    · refine ⟨_, rfl, rfl, _, rfl, ite2 (fun e => absurd e (by simp)) (fun _ => ?_)⟩
      refine ⟨_, rfl, _, rfl, (by show 2 ≤ sizeLine; decide), fun T nT => ?_⟩
      have s3 := same_upd (o := .tup [kv, tv]) nT
      have s13 := s12.trans s3
      have c3 := c2.keep s3
      refine ⟨_, rfl, rfl, _, rfl, ite2 (fun e => absurd e (by simp)) (fun _ => ?_)⟩
      refine ⟨c, k, m, t, k, m, t, kv, tv, .non, .ref T, _, _, rfl, c3, tabs_kp tb2 (Kp.of s3), hk.same (Kp.of s13), ht.same (Kp.of s13), sm, okt, lt, mk_tup c2 nT ⟨_, _, rfl, hk2, _, _, rfl, ht2, rfl⟩, sm, okt, lt, fun σ' H' f' c' tb' => ?_⟩
      exact q H' (Ef.trans' (Ef.of (Kp.of s13)) f') c' tb'
    · have own := own_of sm okt lt kp up mem
      obtain ⟨ta, txs, rfl, hta, htx⟩ := id dv
      refine ⟨_, rfl, rfl, _, rfl, ite2 (fun _ => ?_) (fun e => absurd rfl e)⟩
      refine ⟨_, rfl, ?_⟩
      refine ⟨_, rfl, rfl, _, rfl, ite2 (fun _ => ?_) (fun e => absurd rfl e)⟩
      have dv2 := dv.same s2
      refine ⟨_, rfl, _, rfl, _, rfl, k, m, t, _, kv, tv, .ref ta, rfl, hk'.same s12, ht'.same s12, dv2, sm.ok, okt, by omega, (bent_own own.sm own.len).1, fun H3 v3 s3 li => ?_⟩
      have vl : Val m (dKT (undK k m ns) (undT ns t)) (undK k m ns) (undT ns t) := ⟨rfl, own.sm.ok, own.okt, by have := own.len; omega⟩
      have nm : ¬ ManyU k m t (dKT (undK k m ns) (undT ns t)) := fun ⟨j, u, vl2, mn⟩ => by
        obtain ⟨rfl, rfl⟩ := vl.uniq vl2
        exact own.few mn
      have iu : IsUnd k m t (dKT (undK k m ns) (undT ns t)) := ⟨_, _, vl, own.al⟩
      obtain ⟨b, rfl, ib⟩ : ∃ b, v3 = .bl b ∧ (b = true ↔ IsUnd k m t (dKT (undK k m ns) (undT ns t))) := by
        rcases li with ⟨_, mn⟩ | ⟨_, h⟩
        · exact absurd mn nm
        · exact h
      have eb := ib.mpr iu
      subst eb
      refine ⟨true, true, rfl, rfl, _, rfl, ite2 (fun e => absurd e (by simp)) (fun _ => ?_)⟩
      have s13 := s12.trans s3
      have c3 := c2.keep s3
      have dvh : DV (hid [c] H3) (dKT (undK k m ns) (undT ns t)) (.ref ta) := by
        refine DV.tups (tup_cup c3) ?_ (dv2.same s3)
        show (pure? (dK _) && (pure? (dT _) && true)) = true
        rw [pure_K, show pure? (dT (undT ns t)) = true from koT.pur _]
        rfl
      refine ⟨c, k, m, t, undK k m ns, m, undT ns t, kv, tv, .ref ta, .ref ta, _, _, rfl, c3, tabs_kp tb2 (Kp.of s3), hk.same (Kp.of s13), ht.same (Kp.of s13), sm, okt, lt, dvh, own.sm, own.okt, own.len, fun σ' H' f' c' tb' => ?_⟩
      exact q H' (Ef.trans' (Ef.of (Kp.of s13)) f') c' tb'
end
end K36
set_option Elab.async false
set_option linter.all false
set_option maxRecDepth 100000
set_option maxHeartbeats 4000000
namespace K36
open PySem PySem.Spec PyProof.Rows L2
/-! ### pairs counted out -/
def grow (k b : Kd) (m : Nat) (L : List TT2) : List TT2 := L ++ ((L.flatMap fun p => (List.range m).map (nxP k b p)).filter fun p => !L.contains p).eraseDups
def clos (k b : Kd) (m : Nat) : Nat → List TT2 → List TT2
  | 0, L => L
  | n + 1, L => clos k b m n (grow k b m L)
def closedB (k b : Kd) (m : Nat) (p : TT2) (L : List TT2) : Bool := L.contains p && decide (L.length ≤ 1000) && L.all fun q => (List.range m).all fun s => L.contains (nxP k b q s)
theorem closed_reach {k b : Kd} {m : Nat} {p : TT2} {L : List TT2} (h : closedB k b m p L = true) {x : TT2} (r : Reach (nxP k b) m p x) : x ∈ L := by
  unfold closedB at h
  simp only [Bool.and_eq_true, List.all_eq_true, List.contains_iff_mem] at h
  induction r with
  | refl => exact h.1.1
  | step _ hs ih => exact h.2 _ ih _ (List.mem_range.mpr hs)
theorem closed_few {k b : Kd} {m : Nat} {p : TT2} {L : List TT2} (h : closedB k b m p L = true) : ¬ Many k b m p := fun ⟨l, nd, hr, big⟩ => by
  have := sub_len nd fun x hx => closed_reach h (hr x hx)
  unfold closedB at h
  simp only [Bool.and_eq_true, decide_eq_true_eq] at h
  omega
theorem closed_alike {k b : Kd} {m : Nat} {p : TT2} {L : List TT2} (h : closedB k b m p L = true) (g : (L.all fun q => (List.range m).all fun s => decide (lastP k b q s = s)) = true) : Alike k b m p := fun x r s hs => by
  simp only [List.all_eq_true, decide_eq_true_eq] at g
  exact g x (closed_reach h r) s (List.mem_range.mpr hs)
/-- what undoes, what does not, among the law's own -/
structure Yes (k : Kd) (m : Nat) (t : Tr) (j : Kd) (u : Tr) : Prop where
  al : Alike k j m (t, u)
  few : ¬ Many k j m (t, u)
structure No (k : Kd) (m : Nat) (t : Tr) (j : Kd) (u : Tr) : Prop where
  al : ¬ Alike k j m (t, u)
  few : ¬ Many k j m (t, u)
theorem yes_by {k j : Kd} {m : Nat} {t u : Tr} (n : Nat) (h : (closedB k j m (t, u) (clos k j m n [(t, u)]) && (clos k j m n [(t, u)]).all fun q => (List.range m).all fun s => decide (lastP k j q s = s)) = true) : Yes k m t j u := by
  rw [Bool.and_eq_true] at h
  exact ⟨closed_alike h.1 h.2, closed_few h.1⟩
theorem reach_word {k j : Kd} {m : Nat} {p : TT2} : ∀ (w : List Nat) {q : TT2}, Reach (nxP k j) m p q → (w.all fun s => decide (s < m)) = true → Reach (nxP k j) m p (w.foldl (nxP k j) q)
  | [], q, r, _ => r
  | s :: w, q, r, h => by
    rw [List.all_cons, Bool.and_eq_true, decide_eq_true_eq] at h
    exact reach_word w (.step r h.1) h.2
theorem no_by {k j : Kd} {m : Nat} {t u : Tr} (n : Nat) (w : List Nat) (s : Nat) (hs : s < m) (hw : (w.all fun s => decide (s < m)) = true) (h : (closedB k j m (t, u) (clos k j m n [(t, u)]) && !decide (lastP k j (w.foldl (nxP k j) (t, u)) s = s)) = true) : No k m t j u := by
  rw [Bool.and_eq_true] at h
  refine ⟨fun al => ?_, closed_few h.1⟩
  have := al _ (reach_word w .refl hw) s hs
  rw [decide_eq_true this] at h
  exact absurd h.2 (by simp)
def kWh2 : Kd := [[(1, 0), (2, 0), (0, 0)], [(1, 1), (0, 1), (2, 1)]]
def kBack : Kd := [[(1, 0), (0, 1)], [(0, 1), (1, 1)]]
def kOther : Kd := [[(2, 0), (0, 0), (1, 0)], [(1, 1), (0, 1), (2, 1)]]
def kStill : Kd := [[(0, 0), (1, 0)]]
def kLast : Kd := [[(0, 0), (1, 0)], [(0, 0), (0, 1)]]
theorem y1 : Yes kUp 2 [0] kBack [0] := yes_by 12 (by decide +kernel)
theorem n3 : No kUp 2 [0] kUp [0] := by
  first
    | exact no_by 20 [0] 0 (by decide) (by decide) (by decide +kernel)
    | exact no_by 20 [0] 1 (by decide) (by decide) (by decide +kernel)
    | exact no_by 20 [1] 0 (by decide) (by decide) (by decide +kernel)
    | exact no_by 20 [1] 1 (by decide) (by decide) (by decide +kernel)
    | exact no_by 20 [1, 1] 0 (by decide) (by decide) (by decide +kernel)
    | exact no_by 20 [1, 1] 1 (by decide) (by decide) (by decide +kernel)
    | exact no_by 20 [0, 1] 0 (by decide) (by decide) (by decide +kernel)
    | exact no_by 20 [0, 1] 1 (by decide) (by decide) (by decide +kernel)
    | exact no_by 20 [1, 0] 0 (by decide) (by decide) (by decide +kernel)
    | exact no_by 20 [1, 0] 1 (by decide) (by decide) (by decide +kernel)
    | exact no_by 20 [0, 0] 0 (by decide) (by decide) (by decide +kernel)
    | exact no_by 20 [0, 0] 1 (by decide) (by decide) (by decide +kernel)
    | exact no_by 20 [] 0 (by decide) (by decide) (by decide +kernel)
    | exact no_by 20 [] 1 (by decide) (by decide) (by decide +kernel)
theorem y41 : Yes kWh2 3 [0, 1] kOther [1, 0] := yes_by 12 (by decide +kernel)
theorem n42 : No kWh2 3 [0, 1] kOther [0, 1] := by
  first
    | exact no_by 20 [] 0 (by decide) (by decide) (by decide +kernel)
    | exact no_by 20 [] 1 (by decide) (by decide) (by decide +kernel)
    | exact no_by 20 [] 2 (by decide) (by decide) (by decide +kernel)
theorem n43 : No kWh2 3 [0, 1] kOther [1] := by
  first
    | exact no_by 20 [] 0 (by decide) (by decide) (by decide +kernel)
    | exact no_by 20 [] 1 (by decide) (by decide) (by decide +kernel)
    | exact no_by 20 [] 2 (by decide) (by decide) (by decide +kernel)
theorem y44 : Yes kWh2 3 [0, 1] kOther [1, 0, 1, 1] := yes_by 14 (by decide +kernel)
theorem y5 : Yes kUp 2 [] kStill [] := yes_by 12 (by decide +kernel)
theorem y6 : Yes kUp 2 [1] kStill [0] := yes_by 12 (by decide +kernel)
theorem smUp : Sm kUp 2 := okB_ok (by decide)
theorem smBack : Sm kBack 2 := okB_ok (by decide)
theorem smWheel : Sm kWh2 3 := okB_ok (by decide)
theorem smOther : Sm kOther 3 := okB_ok (by decide)
theorem smStill : Sm kStill 2 := okB_ok (by decide)
theorem smLo : Sm kLo 2 := okB_ok (by decide)
theorem smLast : Sm kLast 2 := okB_ok (by decide)
theorem loses2 : ¬ Keeps kLo 2 [0] := fun h => by
  have h1 : Reach (nxT kLo) 2 [0] [1] := .step (s := 1) .refl (by decide)
  exact absurd (h 1 ⟨0, by simp, h1⟩) (by decide)
theorem ok_of {n : Nat} {t : Tr} (h : (t.all fun x => decide (x < n)) = true) : OkT n t := fun x hx => by
  simpa using List.all_eq_true.mp h x hx
theorem hash44 {w : World} : HashInj koP w (Reach (nxP kWh2 kOther) 3 ([0, 1], [1, 0, 1, 1])) := fun x y hx hy e => by
  have mem : ∀ p, Reach (nxP kWh2 kOther) 3 ([0, 1], [1, 0, 1, 1]) p → p ∈ uTT4 := fun p r => by
    obtain ⟨⟨o1, o2⟩, l1, l2⟩ := reachP_ok (p := ([0, 1], [1, 0, 1, 1])) smWheel.ok smOther.ok ⟨ok_of (by decide), ok_of (by decide)⟩ r
    exact List.mem_flatMap.mpr ⟨p.1, mem_allT.mpr ⟨l1, o1⟩, List.mem_map.mpr ⟨p.2, mem_allT.mpr ⟨l2, o2⟩, rfl⟩⟩
  have e' : (nk (dTT x)).hash w = (nk (dTT y)).hash w := e
  rw [hash_TT, hash_TT] at e'
  exact inj_of nd_TT4 x (mem x hx) y (mem y hy) e'
end K36
set_option Elab.async false
set_option linter.all false
set_option maxRecDepth 100000
set_option maxHeartbeats 4000000
namespace K36
open PySem PySem.Spec PyProof.Rows L2 LamX
/-- is_undoing answers so, and asks for few pairs -/
def Ans (k : Kd) (m : Nat) (t : Tr) (d : PyData) (b : Bool) : Prop := ¬ ManyU k m t d ∧ (IsUnd k m t d ↔ b = true)
theorem ans_yes {k j : Kd} {m : Nat} {t u : Tr} (y : Yes k m t j u) (oj : OkK j m) (ou : OkT j.length u) (lu : u.length ≤ 60) : Ans k m t (dKT j u) true := by
  have vl : Val m (dKT j u) j u := ⟨rfl, oj, ou, lu⟩
  refine ⟨fun ⟨j', u', vl2, mn⟩ => ?_, fun _ => rfl, fun _ => ⟨j, u, vl, y.al⟩⟩
  obtain ⟨rfl, rfl⟩ := vl.uniq vl2
  exact y.few mn
theorem ans_no {k j : Kd} {m : Nat} {t u : Tr} (y : No k m t j u) (oj : OkK j m) (ou : OkT j.length u) (lu : u.length ≤ 60) : Ans k m t (dKT j u) false := by
  have vl : Val m (dKT j u) j u := ⟨rfl, oj, ou, lu⟩
  refine ⟨fun ⟨j', u', vl2, mn⟩ => ?_, fun ⟨j', u', vl2, al⟩ => ?_, fun z => Bool.noConfusion z⟩
  · obtain ⟨rfl, rfl⟩ := vl.uniq vl2
    exact y.few mn
  · obtain ⟨rfl, rfl⟩ := vl.uniq vl2
    exact absurd al y.al
theorem ans_nov {k : Kd} {m : Nat} {t : Tr} {d : PyData} (n : ∀ j u, ¬ Val m d j u) : Ans k m t d false :=
  ⟨fun ⟨j, u, vl, _⟩ => n j u vl, fun ⟨j, u, vl, _⟩ => absurd vl (n j u), fun z => Bool.noConfusion z⟩
theorem hash_val {w : World} {k j : Kd} {m : Nat} {t u : Tr} (sm : Sm k m) (ht : OkT k.length t) (lt : t.length ≤ 2) (lj : j.length ≤ 5) (lu : u.length ≤ 3) : ∀ j' u', Val m (dKT j u) j' u' → HashInj koP w (Reach (nxP k j') m (t, u')) := fun j' u' vl => by
  obtain ⟨rfl, rfl⟩ := dKT_inj vl.1
  exact hash_pairs sm vl.2.1 ht vl.2.2.1 lt lj lu
section
variable {P : Program} {w : World} {K : PySem.W.Frag} {mg : Str → Option Value} {base : Heap}
def spAns (w : World) : Sp := fun vs H Q _ => ∃ (k : Kd) (m : Nat) (t : Tr) (d : PyData) (kv tv v : V) (b : Bool), vs = [kv, tv, v] ∧ DV H (dK k) kv ∧ DV H (dT t) tv ∧ DV H d v ∧ Sm k m ∧ OkT k.length t ∧ t.length ≤ 2 ∧
  (∀ j u, Val m d j u → HashInj koP w (Reach (nxP k j) m (t, u))) ∧ Ans k m t d b ∧ ∀ H', Same H H' → Q (.bl b) H'
theorem ans_of {C : Addr} (c : ClX P w K mg base 5 "is_undoing" (spIsUnd w C)) : Cl P w K mg base 5 "is_undoing" (spAns w) := by
  refine c.cl fun vs H Q E h => ?_
  obtain ⟨k, m, t, d, kv, tv, v, b, rfl, hk, ht, hv, sm, okt, lt, hash, an, q⟩ := h
  refine ⟨k, m, t, d, kv, tv, v, rfl, hk, ht, hv, sm, okt, lt, hash, fun H' b' s' nm iff => ?_, fun H' e s' _ _ mn => absurd mn an.1⟩
  have : b' = b := by
    have h := an.2
    cases b' <;> cases b
    · rfl
    · exact absurd (iff.mpr (h.mpr rfl)) (by simp)
    · exact absurd (h.mp (iff.mp rfl)) (by simp)
    · rfl
  rw [this]
  exact q H' s'
def spLaw (K : PySem.W.Frag) (PR : Addr) : Sp := fun vs H Q _ => ∃ (a : Addr) (ns : List Int), vs = [.ref a] ∧ SqL K H a (ns.map V.int) ∧ ns.length ≤ 63 ∧ Tabs (TQ PR) H ∧ ∀ H', Q (.bl true) H'
theorem k_law {PR f : Addr} {fd : FuncData} (F : Fun K "law" "law" s_law f fd) (B : Bl mg) (C1 : Cl P w K mg base 1 "_law_cup" (spCup K)) (C2 : Cl P w K mg base 5 "_law_pair_of" spPairOf) (C3 : Cl P w K mg base 3 "_law_even_kind" spEvenKind) (C4 : Cl P w K mg base 2 "_law_some" spSomeK)
    (C5 : Cl P w K mg base 2 "_law_train" spTrain) (C6 : Cl P w K mg base 8 "_law_right" (spRight PR)) (C7 : Cl P w K mg base 5 "is_undoing" (spAns w)) (C8 : Cl P w K mg base 1 "_law_back" spBack) (C9 : Cl P w K mg base 1 "_law_up" (spConst (dK kUp))) (CA : Cl P w K mg base 5 "undoing_of" spUndOf)
    (CB : Cl P w K mg base 1 "_law_loses" (spConst (dK kLo))) : FnOk P w K mg base CX0 9 f fd ["_law_script"] (spLaw K PR) := by
  refine F.ok c_law (fun vs H Q E h => ?_) (fun cdv A outer s H vs Q E hr h => ?_)
  · obtain ⟨a, ns, rfl, _⟩ := h
    rfl
  · obtain ⟨a, ns, rfl, ha, ln, htb, q⟩ := h
    have nd := c_law.nd
    refine ⟨_, pss_cons (ps_set (i := 1) nd rfl (.inl rfl) (pe_cl C1 hr (by decide) (pa_cons (pv 0) pa_nil)))
      (pss_cons (ps_for PassesOwn.never rfl (pi_range1 (by rfl) B.range (pa_cons pe_int pa_nil)) (pg_name (i := 2) nd rfl (.inl rfl))
        (pss_cons (ps_asg (pe_cl C2 hr (by decide) (pa_cons (pv 1) pa_nil)) (pg_tup rfl (pgs_cons (pg_name (i := 3) nd rfl (.inl rfl)) (pgs_cons (pg_name (i := 4) nd rfl (.inl rfl)) (pgs_cons (pg_name (i := 5) nd rfl (.inl rfl)) pgs_nil)))))
        (pss_cons (ps_set (i := 6) nd rfl (.inl rfl) (pe_cl C3 hr (by decide) (pa_cons (pv 1) (pa_cons (pe_cl C4 hr (by decide) (pa_cons (pv 1) (pa_cons (pe_lst (pa_cons pe_int (pa_cons pe_int pa_nil))) pa_nil))) (pa_cons (pe_cl C4 hr (by decide) (pa_cons (pv 1) (pa_cons (pe_lst (pa_cons pe_int (pa_cons pe_int (pa_cons pe_int pa_nil)))) pa_nil))) pa_nil)))))
        (pss_cons (ps_set (i := 7) nd rfl (.inr rfl) (pe_cl C5 hr (by decide) (pa_cons (pv 1) (pa_cons (pv 6) (pa_cons pe_int pa_nil)))))
        (pss_one (ps_if (PW.pt (pw_or (pt_not (pt_val (pe_cl C6 hr (by decide) (pa_cons (pv 1) (pa_cons (pv 3) (pa_cons (pv 4) pa_nil)))))) (pw_or (pt_not (pt_val (pe_cl C6 hr (by decide) (pa_cons (pv 1) (pa_cons (pv 6) (pa_cons (pv 7) pa_nil))))))
            (pw_or1 (pt_cmpR op_notBl (pe_cl C7 hr (by decide) (pa_cons (pv 6) (pa_cons (pv 7) (pa_cons (pe_cl C8 hr (by decide) (pa_cons (pv 6) (pa_cons (pv 7) pa_nil))) pa_nil)))) pe_bl (nomark _)))))) (pss_one (ps_ret pe_bl)) pss_nil))))))
      (pss_cons (ps_par (i := 8) (j := 9) (by rfl) nd rfl rfl (by decide) rfl rfl (pa_cons (pe_cl0 C9 hr (by decide)) (pa_cons (pe_lit 9 (d := dK kBack) rfl) pa_nil)) (by rfl))
      (pss_cons (ps_if (PW.pt (pw_or (pt_cmpR op_notBl (pe_cl C7 hr (by decide) (pa_cons (pv 8) (pa_cons (pe_lit 9 (d := dT [0]) rfl) (pa_cons (pe_tup (pa_cons (pv 9) (pa_cons (pe_lit 9 (d := dT [0]) rfl) pa_nil))) pa_nil)))) pe_bl (nomark _))
          (pw_or (pt_cmpR op_notN (pe_cl CA hr (by decide) (pa_cons (pe_cl0 CB hr (by decide)) (pa_cons (pe_lit 9 (d := dT [0]) rfl) pa_nil))) pe_non (nomark _))
          (pw_or1 (pt_cmpR op_notBl (pe_cl C7 hr (by decide) (pa_cons (pv 8) (pa_cons (pe_lit 9 (d := dT [0]) rfl) (pa_cons (pe_tup (pa_cons (pv 8) (pa_cons (pe_lit 9 (d := dT [0]) rfl) pa_nil))) pa_nil)))) pe_bl (nomark _)))))) (pss_one (ps_ret pe_bl)) pss_nil)
      (pss_cons (ps_set (i := 10) nd rfl (.inr rfl) (pe_lit 9 (d := dK kWh2) rfl))
      (pss_cons (ps_set (i := 7) nd rfl (.inr rfl) (pe_lit 9 (d := dK kOther) rfl))
      (pss_cons (ps_if (pt_cmpR (op_neD hr.units) (pe_lc (own := [("_law_train_here", 4)]) (g := gName 4) (tt := tYes) rfl nd (pi_tup (pe_lit 9 (d := .tuple [dT [1, 0], dT [0, 1], dT [1], dT [1, 0, 1, 1]]) rfl)) (blkOk_by (N := n_law) (sc := defScope s_law) (by decide +kernel))
            (fun _ _ _ _ _ => pg_name (i := 4) nd rfl (Or.inl rfl)) (fun _ _ _ _ _ => pts_nil) (fun _ _ _ _ _ => pe_cl C7 hr (by decide) (pa_cons (pv 10) (pa_cons (pe_lit 9 (d := dT [0, 1]) rfl) (pa_cons (pe_tup (pa_cons (pv 7) (pa_cons (pv 4) pa_nil))) pa_nil)))))
          (pe_lst (pa_cons pe_bl (pa_cons pe_bl (pa_cons pe_bl (pa_cons pe_bl pa_nil))))) (nomark _)) (pss_one (ps_ret pe_bl)) pss_nil)
      (pss_cons (ps_if (PW.pt (pw_or (pt_cmpR op_notBl (pe_cl C7 hr (by decide) (pa_cons (pv 8) (pa_cons (pe_lit 9 (d := dT []) rfl) (pa_cons (pe_lit 9 (d := dKT kStill []) rfl) pa_nil)))) pe_bl (nomark _))
          (pw_or1 (pt_cmpR op_notBl (pe_cl C7 hr (by decide) (pa_cons (pv 8) (pa_cons (pe_lit 9 (d := dT []) rfl) (pa_cons (pe_tup (pa_cons (pv 10) (pa_cons (pe_lit 9 (d := dT []) rfl) pa_nil))) pa_nil)))) pe_bl (nomark _))))) (pss_one (ps_ret pe_bl)) pss_nil)
      (pss_cons (ps_if (PW.pt (pw_or (pt_cmpR op_notBl (pe_cl C7 hr (by decide) (pa_cons (pv 8) (pa_cons (pe_lit 9 (d := dT [1]) rfl) (pa_cons (pe_lit 9 (d := dKT kStill [0]) rfl) pa_nil)))) pe_bl (nomark _))
          (pw_or1 (pt_cmpR op_notBl (pe_cl C7 hr (by decide) (pa_cons (pv 8) (pa_cons (pe_lit 9 (d := dT [1]) rfl) (pa_cons (pe_tup (pa_cons (pv 8) (pa_cons (pe_op op_repT (pe_lit 9 (d := dT [1]) rfl) pe_int) pa_nil))) pa_nil)))) pe_bl (nomark _))))) (pss_one (ps_ret pe_bl)) pss_nil)
      (pss_one (ps_ret (pe_and (pe_cl C6 hr (by decide) (pa_cons (pv 1) (pa_cons (pv 10) (pa_cons (pe_lit 9 (d := dT [0, 1]) rfl) pa_nil)))) (pe_and (pe_cl C6 hr (by decide) (pa_cons (pv 1) (pa_cons (pe_cl0 CB hr (by decide)) (pa_cons (pe_lit 9 (d := dT []) rfl) pa_nil))))
          (pe_one (pe_cl C6 hr (by decide) (pa_cons (pv 1) (pa_cons (pe_lit 9 (d := dK kLast) rfl) (pa_cons (pe_lit 9 (d := dT [0, 0]) rfl) pa_nil))))))))))))))))), ?_⟩
    refine ⟨_, rfl, a, ns, rfl, ha, ln, fun H1 c s1 nc c1 => ?_⟩
    have tb1 : Tabs (TQ PR) (hid [c] H1) := tabs_hide (htb.ext s1) c1
    refine ⟨_, rfl, by decide, by decide, for_range (lo := 0) (n := 3) (fun i σ H2 => ∃ x2 x3 x4 x5 x6 x7 x8 x9 x10 : Option V, σ = [some (.ref a), some (.ref c), x2, x3, x4, x5, x6, x7, x8, x9, x10] ∧ Cup H2 c ∧ Tabs (TQ PR) (hid [c] H2))
      ⟨none, none, none, none, none, none, none, none, none, rfl, c1, tb1⟩ ?_ ?_⟩
    · rintro i σ H2 hi ⟨x2, x3, x4, x5, x6, x7, x8, x9, x10, rfl, c2, tb2⟩
      refine ⟨_, rfl, c, rfl, c2, fun H3 pa kv tv ov k m t o k23 c3 sm okt lt hk ht hpa => ?_⟩
      refine ⟨pa, _, rfl, SqT.of hpa, rfl, _, _, rfl, _, _, rfl, _, _, rfl, rfl, ?_⟩
      have tb3 := tabs_kp tb2 k23
      -- an even kind
      refine ⟨_, rfl, _, rfl, (by show 2 ≤ sizeLine; decide), fun l1 nl1 => ⟨c, l1, _, rfl, upd_same, c3.ne nl1, c3.keep (same_upd nl1), by simp, by simp, fun H4 v1 k4 c4 hv1 => ?_⟩⟩
      have k34 : Kp c H3 H4 := Same.trans (Kp.new nl1) k4
      obtain ⟨m2, rfl, m21, m24⟩ : ∃ m : Nat, v1 = nV m ∧ 1 ≤ m ∧ m ≤ 4 := by
        simp only [List.mem_cons, List.not_mem_nil, or_false] at hv1
        rcases hv1 with h | h
        · exact ⟨2, h, by decide, by decide⟩
        · exact ⟨3, h, by decide, by decide⟩
      refine ⟨_, rfl, (by show 3 ≤ sizeLine; decide), fun l2 nl2 => ⟨c, l2, _, rfl, upd_same, c4.ne nl2, c4.keep (same_upd nl2), by simp, by simp, fun H5 v2 k5 c5 hv2 => ?_⟩⟩
      have k45 : Kp c H4 H5 := Same.trans (Kp.new nl2) k5
      obtain ⟨n2, rfl, n21, n24⟩ : ∃ m : Nat, v2 = nV m ∧ 1 ≤ m ∧ m ≤ 4 := by
        simp only [List.mem_cons, List.not_mem_nil, or_false] at hv2
        rcases hv2 with h | h | h
        · exact ⟨1, h, by decide, by decide⟩
        · exact ⟨2, h, by decide, by decide⟩
        · exact ⟨3, h, by decide, by decide⟩
      refine ⟨c, m2, n2, rfl, c5, m21, m24, n21, n24, fun H6 ev ke k56 c6 sme lke eve dke => ?_⟩
      have n6 := sme.ok.s6
      have n1 := sme.ok.s1
      have kl : KLen H6 ke.length ev := kd_len (dke.same hid_le)
      refine ⟨_, rfl, _, rfl, c, ke.length, ev, rfl, c6, kl, n1, n6, fun H7 tv2 te k67 c7 oke lte dte => ?_⟩
      have k37 : Kp c H3 H7 := Same.trans k34 (Same.trans k45 (Same.trans k56 k67))
      have dke7 := dke.same k67
      -- judged
      refine ⟨_, rfl, _, rfl, _, rfl, c, k, m, t, kv, tv, rfl, c7, tabs_kp tb3 k37, hk.same k37, ht.same k37, sm, okt, lt, fun H8 f8 c8 tb8 => ⟨_, rfl, ?_⟩⟩
      refine ⟨_, rfl, _, rfl, _, rfl, c, ke, m2, te, ev, tv2, rfl, c8, tb8, dke7.ext f8, dte.ext f8, sme, oke, lte, fun H9 f9 c9 tb9 => ⟨_, rfl, ?_⟩⟩
      have dk9 := ((dke7.ext f8).ext f9).same hid_le
      have dt9 := ((dte.ext f8).ext f9).same hid_le
      obtain ⟨smb, okb, alb, fwb⟩ := back_of sme eve oke lte
      refine ⟨_, rfl, _, rfl, _, rfl, _, rfl, ke, m2, te, ev, tv2, rfl, dk9, dt9, sme, eve, fun HA bv sA dv => ?_⟩
      have lb : (ke.map backRow).length ≤ 5 := by
        have := smb.s4
        omega
      have lr : te.reverse.length ≤ 2 := by
        rw [List.length_reverse]
        exact lte
      refine ⟨ke, m2, te, dKT (ke.map backRow) te.reverse, ev, tv2, bv, true, rfl, dk9.same sA, dt9.same sA, dv, sme, oke, lte, hash_val sme oke lte lb (by omega), ans_yes ⟨alb, fwb⟩ smb.ok okb (by omega), fun HB sB => ?_⟩
      refine ⟨true, true, rfl, rfl, _, rfl, ite2 (fun e => absurd e (by simp)) (fun _ => ?_)⟩
      have sAB := sA.trans sB
      exact ⟨_, _, _, _, _, _, _, _, _, rfl, c9.keep sAB, tabs_kp tb9 (Kp.of sAB)⟩
    · rintro σ H2 ⟨x2, x3, x4, x5, x6, x7, x8, x9, x10, rfl, c2, tb2⟩
      have o0 : OkT kUp.length [0] := ok_of (by decide)
      have o1 : OkT kUp.length [1] := ok_of (by decide)
      have oN : ∀ n, OkT n [] := fun n x hx => nomatch hx
      -- up, its undoing
      refine ⟨rfl, fun H3 up s3 dup => ?_⟩
      intro H4 bk s4 dbk
      refine ⟨_, _, rfl, ?_⟩
      have s24 := s3.trans s4
      have dup4 := dup.same s4
      -- the first three
      refine ⟨_, rfl, ?_⟩
      intro H5 z5 s5 d5
      refine ⟨_, rfl, ?_⟩
      intro H6 z6 s6 d6
      refine ⟨(by show 2 ≤ sizeLine; decide), fun T7 nT7 => ?_⟩
      have s7 := same_upd (o := .tup [bk, z6]) nT7
      have s57 := s6.trans s7
      have s47 := s5.trans s57
      refine ⟨kUp, 2, [0], dKT kBack [0], up, z5, .ref T7, true, rfl, dup4.same s47, d5.same s57, ⟨T7, _, rfl, upd_same, _, _, rfl, dbk.same s47, _, _, rfl, d6.same s7, rfl⟩, smUp, o0, by decide, hash_val smUp o0 (by decide) (by decide) (by decide), ans_yes y1 smBack.ok (ok_of (by decide)) (by decide), fun H8 s8 => ?_⟩
      refine ⟨true, true, rfl, rfl, _, rfl, ite2 (fun e => absurd e (by simp)) (fun _ => ?_)⟩
      have s48 := s47.trans s8
      refine ⟨rfl, fun H9 lo s9 dlo => ?_⟩
      intro HA zA sA dA
      refine ⟨kLo, 2, [0], lo, zA, rfl, dlo.same sA, dA, smLo, ok_of (by decide), by decide, fun HB vB sB hB => ?_⟩
      rcases hB with ⟨rfl, _⟩ | ⟨kp, _⟩
      case inr => exact absurd kp loses2
      refine ⟨rfl, _, rfl, ite2 (fun e => absurd e (by simp)) (fun _ => ?_)⟩
      have s4B := s48.trans (s9.trans (sA.trans sB))
      refine ⟨_, rfl, ?_⟩
      intro HC zC sC dC
      refine ⟨_, rfl, ?_⟩
      intro HD zD sD dD
      refine ⟨(by show 2 ≤ sizeLine; decide), fun TE nTE => ?_⟩
      have sE := same_upd (o := .tup [up, zD]) nTE
      have sDE := sD.trans sE
      have s4E := s4B.trans (sC.trans sDE)
      refine ⟨kUp, 2, [0], dKT kUp [0], up, zC, .ref TE, false, rfl, dup4.same s4E, dC.same sDE, ⟨TE, _, rfl, upd_same, _, _, rfl, dup4.same s4E, _, _, rfl, dD.same sE, rfl⟩, smUp, o0, by decide, hash_val smUp o0 (by decide) (by decide) (by decide), ans_no n3 smUp.ok o0 (by decide), fun HF sF => ?_⟩
      refine ⟨false, false, rfl, rfl, _, rfl, ite2 (fun e => absurd e (by simp)) (fun _ => ?_)⟩
      have s4F := s4E.trans sF
      have dupF := dup4.same s4F
      have s2F := s24.trans s4F
      -- the wheel
      intro HG wh sG dwh
      intro HI oth sI doth
      have dwh := dwh.same sI
      have dupI := (dupF.same sG).same sI
      have s2I := s2F.trans (sG.trans sI)
      intro HJ lt4 sJ dlt
      obtain ⟨pa, pxs, rfl, hpa, hpx⟩ := dlt
      refine ⟨pa, rfl, ⟨_, SqT.of hpa⟩, fun D1 nD => lc_tupS (fun j _ y => y = .bl ([true, false, false, true].getD j false)) nD hpa (by rw [hpx.length]; decide) (fun _ => rfl) (fun j G G' y _ e => e) (fun i x H3 Q hx s3 q => ?_) (fun H3 ys s3 eD ely hy => ?_)⟩
      · obtain ⟨dx, ed, dvx⟩ := hpx.getV hx
        have sJ3 := sJ.trans s3
        refine ⟨_, rfl, ?_⟩
        intro H4 z4 s4' d4
        refine ⟨_, rfl, _, rfl, (by show 2 ≤ sizeLine; decide), fun T5 nT5 => ?_⟩
        have s5' := same_upd (o := .tup [oth, x]) nT5
        have s35 := s4'.trans s5'
        have dx5 := (dvx.same s3).same s35
        have doth5 := (doth.same sJ3).same s35
        have dwh5 := (dwh.same sJ3).same s35
        have pairD' : ∀ u : Tr, dx = dT u → DV (upd H4 T5 (.tup [oth, x])) (dKT kOther u) (.ref T5) := fun u e => ⟨T5, _, rfl, upd_same, _, _, rfl, doth5, _, _, rfl, by rw [← e]; exact dx5, rfl⟩
        have okw : OkT kWh2.length [0, 1] := ok_of (by decide)
        have go : ∀ (u : Tr) (b : Bool), dx = dT u → Ans kWh2 3 [0, 1] (dKT kOther u) b → (∀ j' u', Val 3 (dKT kOther u) j' u' → HashInj koP w (Reach (nxP kWh2 j') 3 ([0, 1], u'))) → b = [true, false, false, true].getD i false → spAns w [wh, z4, .ref T5] (upd H4 T5 (.tup [oth, x])) Q E0 := fun u b e an hs eb =>
          ⟨kWh2, 3, [0, 1], dKT kOther u, wh, z4, .ref T5, b, rfl, dwh5, d4.same s5', pairD' u e, smWheel, okw, by decide, hs, an, fun H6 s6 => q _ H6 (s35.trans s6) (by rw [eb])⟩
        match i, ed with
        | 0, ed => exact go [1, 0] true (Option.some.inj ed).symm (ans_yes y41 smOther.ok (ok_of (by decide)) (by decide)) (hash_val smWheel okw (by decide) (by decide) (by decide)) rfl
        | 1, ed => exact go [0, 1] false (Option.some.inj ed).symm (ans_no n42 smOther.ok (ok_of (by decide)) (by decide)) (hash_val smWheel okw (by decide) (by decide) (by decide)) rfl
        | 2, ed => exact go [1] false (Option.some.inj ed).symm (ans_no n43 smOther.ok (ok_of (by decide)) (by decide)) (hash_val smWheel okw (by decide) (by decide) (by decide)) rfl
        | 3, ed => exact go [1, 0, 1, 1] true (Option.some.inj ed).symm (ans_yes y44 smOther.ok (ok_of (by decide)) (by decide)) (fun j' u' vl => by
            obtain ⟨rfl, rfl⟩ := dKT_inj vl.1
            exact hash44) rfl
        | n + 4, ed => exact absurd ed (by simp)
      have lys : ys.length = 4 := by rw [ely, hpx.length]; rfl
      have eys : ys = [.bl true, .bl false, .bl false, .bl true] := by
        have e := list_of_at (f := fun j => V.bl ([true, false, false, true].getD j false)) lys hy
        rw [e]
        rfl
      subst eys
      refine ⟨(by show 4 ≤ sizeLine; decide), fun l4 nl4 => ?_⟩
      have sl4 := same_upd (o := .lst [.bl true, .bl false, .bl false, .bl true]) nl4
      have dys : ∀ {G : Hp} {p : Addr}, G p = some (.lst [.bl true, .bl false, .bl false, .bl true]) → DV G (.list [.bool true, .bool false, .bool false, .bool true]) (.ref p) := fun e => ⟨_, _, rfl, e, _, _, rfl, rfl, _, _, rfl, rfl, _, _, rfl, rfl, _, _, rfl, rfl, rfl⟩
      refine ⟨_, _, (dys (sl4 _ _ eD)).dp, (dys upd_same).dp, by decide, by decide, _, rfl, ?_⟩
      rw [show PyData.eqv (.list [.bool true, .bool false, .bool false, .bool true]) (.list [.bool true, .bool false, .bool false, .bool true]) = true by decide +kernel]
      have sIK := sJ.trans (s3.trans sl4)
      have dupK := dupI.same sIK
      have dwhK := dwh.same sIK
      have s2K := s2I.trans sIK
      -- trains without walkers
      refine ⟨_, rfl, ?_⟩
      intro HL zL sL dL
      intro HM zM sM dM
      have sLM := sL.trans sM
      refine ⟨kUp, 2, [], dKT kStill [], up, zL, zM, true, rfl, dupK.same sLM, dL.same sM, dM, smUp, oN _, by decide, hash_val smUp (oN _) (by decide) (by decide) (by decide), ans_yes y5 smStill.ok (oN _) (by decide), fun HN sN => ?_⟩
      refine ⟨true, true, rfl, rfl, _, rfl, ite2 (fun e => absurd e (by simp)) (fun _ => ?_)⟩
      have sKN := sLM.trans sN
      refine ⟨_, rfl, ?_⟩
      intro HO zO sO dO
      refine ⟨_, rfl, ?_⟩
      intro HP zP sP dP'
      refine ⟨(by show 2 ≤ sizeLine; decide), fun TR nTR => ?_⟩
      have sR := same_upd (o := .tup [wh, zP]) nTR
      have sPR := sP.trans sR
      have sKR := sKN.trans (sO.trans sPR)
      have nv1 : ∀ j u, ¬ Val 2 (dKT kWh2 []) j u := fun j u vl => by
        obtain ⟨rfl, rfl⟩ := dKT_inj vl.1
        have := okK_m vl.2.1 smWheel.ok
        cases this
      refine ⟨kUp, 2, [], dKT kWh2 [], up, zO, .ref TR, false, rfl, dupK.same sKR, dO.same sPR, ⟨TR, _, rfl, upd_same, _, _, rfl, dwhK.same sKR, _, _, rfl, dP'.same sR, rfl⟩, smUp, oN _, by decide, fun j u vl => absurd vl (nv1 j u), ans_nov nv1, fun HS sS => ?_⟩
      refine ⟨false, false, rfl, rfl, _, rfl, ite2 (fun e => absurd e (by simp)) (fun _ => ?_)⟩
      have sKS := sKR.trans sS
      have dupS := dupK.same sKS
      have dwhS := dwhK.same sKS
      have s2S := s2K.trans sKS
      -- one walker, and too many
      refine ⟨_, rfl, ?_⟩
      intro HT zT sT dT'
      intro HU zU sU dU
      have sTU := sT.trans sU
      refine ⟨kUp, 2, [1], dKT kStill [0], up, zT, zU, true, rfl, dupS.same sTU, dT'.same sU, dU, smUp, o1, by decide, hash_val smUp o1 (by decide) (by decide) (by decide), ans_yes y6 smStill.ok (ok_of (by decide)) (by decide), fun HV sV => ?_⟩
      refine ⟨true, true, rfl, rfl, _, rfl, ite2 (fun e => absurd e (by simp)) (fun _ => ?_)⟩
      have sSV := sTU.trans sV
      refine ⟨_, rfl, ?_⟩
      intro HW zW sW dW
      refine ⟨_, rfl, ?_⟩
      intro HX zX sX dX
      obtain ⟨xa, rfl, hxa⟩ := DV.tr.mp dX
      refine ⟨xa, 61, _, rfl, rfl, SqT.of hxa, by simp, by decide, by decide, by simp, fun p61 np61 => ?_⟩
      have s61 := same_upd (o := .tup (List.replicate ((61 : Int)).toNat ([1].map nV)).flatten) np61
      have d61 : DV (upd HX p61 (.tup (List.replicate ((61 : Int)).toNat ([1].map nV)).flatten)) (dT (List.replicate 61 1)) (.ref p61) := DV.tr.mpr ⟨p61, rfl, by rw [upd_same]; rfl⟩
      refine ⟨(by show 2 ≤ sizeLine; decide), fun TY nTY => ?_⟩
      have sY := same_upd (o := .tup [up, .ref p61]) nTY
      have sXY := sX.trans (s61.trans sY)
      have sSY := sSV.trans (sW.trans sXY)
      have nv2 : ∀ j u, ¬ Val 2 (dKT kUp (List.replicate 61 1)) j u := fun j u vl => by
        obtain ⟨rfl, rfl⟩ := dKT_inj vl.1
        exact absurd vl.2.2.2 (by decide)
      refine ⟨kUp, 2, [1], dKT kUp (List.replicate 61 1), up, zW, .ref TY, false, rfl, dupS.same sSY, dW.same sXY, ⟨TY, _, rfl, upd_same, _, _, rfl, dupS.same sSY, _, _, rfl, d61.same sY, rfl⟩, smUp, o1, by decide, fun j u vl => absurd vl (nv2 j u), ans_nov nv2, fun HZ sZ => ?_⟩
      refine ⟨false, false, rfl, rfl, _, rfl, ite2 (fun e => absurd e (by simp)) (fun _ => ?_)⟩
      have sSZ := sSY.trans sZ
      have dwhZ := dwhS.same sSZ
      have s2Z := s2S.trans sSZ
      have cZ := c2.keep s2Z
      have tbZ := tabs_kp tb2 (Kp.of s2Z)
      -- the last three
      refine ⟨_, rfl, _, rfl, ?_⟩
      intro Ha za sa da
      have ca := cZ.keep sa
      refine ⟨c, kWh2, 3, [0, 1], wh, za, rfl, ca, tabs_kp tbZ (Kp.of sa), (dwhZ.same sa).tups (tup_cup ca) (pure_K _), da.tups (tup_cup ca) (koT.pur [0, 1]), smWheel, ok_of (by decide), by decide, fun Hb fb cb tbb => ?_⟩
      refine ⟨true, rfl, ?_⟩
      refine ⟨_, rfl, rfl, fun Hc lo2 sc dlo2 => ?_⟩
      intro Hd zd sd dd
      have scd := sc.trans sd
      have cd := cb.keep scd
      refine ⟨c, kLo, 2, [], lo2, zd, rfl, cd, tabs_kp tbb (Kp.of scd), (dlo2.same sd).tups (tup_cup cd) (pure_K _), dd.tups (tup_cup cd) (koT.pur []), smLo, oN _, by decide, fun He fe ce tbe => ?_⟩
      refine ⟨true, rfl, ?_⟩
      refine ⟨_, rfl, ?_⟩
      intro Hf zf sf df
      intro Hg zg sg dg
      have sfg := sf.trans sg
      have cg := ce.keep sfg
      exact ⟨c, kLast, 2, [0, 0], zf, zg, rfl, cg, tabs_kp tbe (Kp.of sfg), (df.same sg).tups (tup_cup cg) (pure_K _), dg.tups (tup_cup cg) (koT.pur [0, 0]), smLast, ok_of (by decide), by decide, fun Hh _ _ _ => q Hh⟩
end
end K36
set_option Elab.async false
set_option linter.all false
set_option maxRecDepth 100000
set_option maxHeartbeats 4000000
namespace K36
open PySem PySem.Spec PyProof.Rows L2 He
/-! ### what the head tells of TooMany -/
def clsB (K : PySem.W.Frag) (C : Addr) : Bool := match K.lookup C with
  | some ⟨.type "type", _, .cls cd, sl⟩ => (match cd.mro, sl.toList with
    | .ref C' :: bm, [_, _, _, _, some (.builtin n), _] => C' == C && n == "ValueError.__new__" && !cd.hasDel && cd.hasDict && PySem.HandSPX.refsVE bm
    | _, _ => false)
  | _ => false
theorem clsB_ok {K : PySem.W.Frag} {C : Addr} (z : clsB K C = true) : ∃ nm q N bs bm sn sub ab col dd k0 k1 k2 k3 k5, K.lookup C = some (excClassObj nm q C N bs bm true sn sub ab col dd k0 k1 k2 k3 k5 "ValueError.__new__") ∧ PySem.HandSPX.refsVE bm = true := by
  unfold clsB at z
  split at z
  · rename_i dd cd sl ho
    split at z
    · rename_i C' bm k0 k1 k2 k3 n k5 hm hs
      simp only [Bool.and_eq_true, beq_iff_eq, Bool.not_eq_true'] at z
      obtain ⟨⟨⟨⟨rfl, rfl⟩, hdel⟩, hdd⟩, ht⟩ := z
      obtain ⟨nm, bs, mro, ns, qn, hd, sn, sub, ab, col, del⟩ := cd
      dsimp only at hm hdel hdd
      subst hm hdel hdd
      have hsl : sl = #[k0, k1, k2, k3, some (.builtin "ValueError.__new__"), k5] := by
        obtain ⟨l⟩ := sl
        simp only at hs
        rw [hs]
      subst hsl
      exact ⟨nm, qn, ns, bs, bm, sn, sub, ab, col, dd, k0, k1, k2, k3, k5, ho, ht⟩
    · cases z
  · cases z
abbrev cTm (K : PySem.W.Frag) : Addr := ga K "TooMany"
abbrev iTm (K : PySem.W.Frag) : Addr := ma K (cTm K) "__init__"
/-- its __init__'s function: what is no Bool of it -/
abbrev FnM : Type := Option (Str × Str × Arguments × FuncBody × Scope × Addr × Addr)
def fnM (K : PySem.W.Frag) : FnM := match K.lookup (iTm K) with
  | some ⟨_, _, .func fd, _⟩ => some (fd.name, fd.qualname, fd.params, fd.body, fd.scope, fd.globals, fd.builtins)
  | _ => none
def valM : FnM := some ("__init__", "TooMany.__init__", defArgs sTm, .stmts (defBody sTm), defScope sTm, mainGlobals, builtinsNs)
def isNone : Value → Bool
  | .none => true
  | _ => false
theorem isNone_ok {v : Value} (h : isNone v = true) : v = .none := by
  cases v <;> first | rfl | cases h
def fnMB (file : Str) (K : PySem.W.Frag) : Bool := match K.lookup (iTm K) with
  | some ⟨_, _, .func fd, _⟩ => isNone fd.defaults && (isNone fd.kwdefaults && (match fd.closure, fd.code with
    | [(x, cc)], .ref cda => decide (x = "__class__") && (PySem.W.codeIn K (.ref cda) "TooMany.__init__" && ((match K.lookup cc with
        | some ⟨_, _, .cell (some (.ref c)), _⟩ => decide (c = cTm K)
        | _ => false) && (match K.lookup cda with
        | some ⟨_, _, .fields vs, _⟩ => (match (vs[2]? : Option Value) with
          | some (.str f _) => file == f
          | _ => false)
        | _ => false)))
    | _, _ => false))
  | _ => false
theorem fnM_ok {file : Str} {K : PySem.W.Frag} (e : fnM K = valM) (z : fnMB file K = true) :
    ∃ (oc : Value) (od : Option Addr) (doc pm : Value) (an : Option Addr) (ct : Value) (osl : Array (Option Value)) (cc cda : Addr) (cl ccl : Value) (cld cdd : Option Addr) (csl ccs : Array (Option Value)) (vs : Array Value) (fl : Str) (tf : Tok),
    K.lookup (iTm K) = some ⟨oc, od, .func (PySem.W.ksFn "__init__" "TooMany.__init__" (defArgs sTm) (defBody sTm) (defScope sTm) .none .none doc pm an (.ref cda) ct cc), osl⟩ ∧ PySem.W.codeIn K (.ref cda) "TooMany.__init__" = true ∧
    K.lookup cc = some ⟨cl, cld, .cell (some (.ref (cTm K))), csl⟩ ∧ K.lookup cda = some ⟨ccl, cdd, .fields vs, ccs⟩ ∧ vs[2]? = some (.str fl tf) ∧ (file == fl) = true := by
  unfold fnMB at z
  unfold fnM at e
  split at z
  · rename_i oc od fd osl lk
    rw [lk] at e
    obtain ⟨n1, n2, n3, n4, n5, n6, n7, n8, n9, n10, n11, n12, n13, n14, n15⟩ := fd
    have e2 : (some (n1, n2, n3, n4, n5, n6, n15) : FnM) = valM := e
    unfold valM at e2
    simp only [Option.some.injEq, Prod.mk.injEq] at e2
    obtain ⟨h1, h2, h3, h4, h5, h6, h8⟩ := e2
    obtain ⟨z1, z2⟩ := ba z
    obtain ⟨z3, z4⟩ := ba z2
    have y1 : n8 = .none := isNone_ok z1
    have y2 : n9 = .none := isNone_ok z3
    dsimp only at z4
    split at z4
    · rename_i x cc cda
      obtain ⟨q1, q2⟩ := ba z4
      obtain ⟨q3, q4⟩ := ba q2
      obtain ⟨q5, q6⟩ := ba q4
      split at q5
      · rename_i cl cld c csl hc
        split at q6
        · rename_i ccl cdd vs ccs hv
          split at q6
          · rename_i f tf hf
            have ex := of_decide_eq_true q1
            have ec := of_decide_eq_true q5
            subst h1 h2 h3 h4 h5 h6 h8 y1 y2 ex ec
            exact ⟨oc, od, _, _, _, _, osl, cc, cda, cl, ccl, cld, cdd, csl, ccs, vs, f, tf, lk, q3, hc, hv, hf, q6⟩
          · cases q6
        · cases q6
      · cases q5
    · cases z4
  · cases z
end K36
set_option Elab.async false
set_option linter.all false
set_option maxRecDepth 100000
set_option maxHeartbeats 4000000
namespace K36
open PySem PySem.Spec PyProof.Rows L2 He
def veL : List Value := [.type "ValueError", .type "Exception", .type "BaseException", .type "object"]
def tmB (file : Str) (K : PySem.W.Frag) : Bool := clsB K (cTm K) && (eqO (PySem.W.findIn K (.ref (cTm K)) "__setattr__") (some (some (.builtin "object.__setattr__"))) && (eqO (PySem.W.findIn K (.ref (cTm K)) "limit") (some none) &&
  (eqO (PySem.W.findIn K (.ref (cTm K)) "__init__") (some (some (.ref (iTm K)))) && (decide (PySem.W.typeIn K (.ref (iTm K)) = some (.type "function")) && (PySem.W.keepIn K (.ref (cTm K)) && (decide (PySem.W.subIn K (.ref (cTm K)) (.type "BaseException") = some true) &&
  (decide (PySem.W.typeIn K (.ref (cTm K)) = some (.type "type")) && (decide (PySem.W.subIn K (.ref (cTm K)) (.type "ValueError") = some true) && (eqO (PySem.W.nsIn K cStatics "thirdparty.any") (some none) && (eqO (PySem.W.ks_superIn K (cTm K) (cTm K) "__init__") (some (some (.builtin "ValueError.__init__"))) &&
  (PySem.W.excInitIn K (cTm K) veL "ValueError.__new__" && (decide (PySem.W.mroIn K (cTm K) (.ref (cTm K)) = some true) && (eqO (PySem.W.findIn K (.ref (cTm K)) "__getattribute__") (some (some (.builtin "BaseException.__getattribute__"))) && (eqO (PySem.W.findIn K (.ref (cTm K)) "__getattr__") (some none) &&
  (PySem.W.hasDictIn K (cTm K) && (decide (PySem.W.exmOne K (.ref (cTm K)) (.ref (cTm K)) = some true) && fnMB file K))))))))))))))))
/-- what of TooMany the walks ask -/
theorem tm_facts {P : Program} {K : PySem.W.Frag} {mg : Str → Option Value} (e : fnM K = valM) (z : tmB P.main.file K = true) (gC : mg "TooMany" = some (.ref (cTm K))) (su : mg "super" = none) (top : (P.main.scope.names.lookup ("super" : Str)).isSome = false) :
    TmTxt P K mg (cTm K) (iTm K) ∧ PySem.W.exmOne K (.ref (cTm K)) (.ref (cTm K)) = some true ∧ XfC K (cTm K) := by
  unfold tmB at z
  simp only [Bool.and_eq_true, decide_eq_true_eq] at z
  obtain ⟨z1, z2, z3, z4, z5, z6, z7, z8, z9, z10, z11, z12, z13, z14, z15, z16, z17, z18⟩ := z
  exact ⟨⟨gC, clsB_ok z1, eqO_ok z2, eqO_ok z3, eqO_ok z4, z5, z6, z7, z8, z9, eqO_ok z10, su, eqO_ok z11, z12, z13, top, fnM_ok e z18⟩, z17, ⟨eqO_ok z14, eqO_ok z15, z7, z16⟩⟩
/-! ### the Hook -/
def asM (g : Addr → Option Obj) (n : Nat) : List Addr := cStatics :: asD g n
structure SaysM (file : Str) (fa : List Fa) (fn : List DefD) (tf : List Defn) (h : Heap) (K : PySem.W.Frag) : Prop where
  d : SaysD fa fn K
  m : fnM K = valM
  tm : tmB file K = true
  hd : ∀ p ∈ tf, PySem.W.codeHdIn K (cT K p).1 (cT K p).2 = true
  out : ∀ p ∈ tf, K.lookup (cT K p).2 = none
  empty : ∀ p ∈ tf, h.get? (cT K p).2 = some { cls := .none, data := .fields #[] }
abbrev AlM : Type := (AlD × FnM) × Bool
def obsK (file : Str) (fa : List Fa) (fn : List DefD) (tf : List Defn) (g : Addr → Option Obj) (K : PySem.W.Frag) : AlM := ((obsD fa fn K, fnM K), tmB file K && tabsB g tf K)
def obsM (n : Nat) (file : Str) (fa : List Fa) (fn : List DefD) (tf : List Defn) (g : Addr → Option Obj) : AlM := obsK file fa fn tf g (frT g (asM g n))
def valA (fn : List DefD) : AlM := ((valD fn, valM), true)
theorem saysM_of {n : Nat} {file : Str} {fa : List Fa} {fn : List DefD} {tf : List Defn} {h : Heap} (e : obsM n file fa fn tf h.get? = valA fn) : SaysM file fa fn tf h (frT h.get? (asM h.get? n)) := by
  have a1 : obsD fa fn (frT h.get? (asM h.get? n)) = valD fn := congrArg (fun z : AlM => z.1.1) e
  have a2 : fnM (frT h.get? (asM h.get? n)) = valM := congrArg (fun z : AlM => z.1.2) e
  have a3 : (tmB file (frT h.get? (asM h.get? n)) && tabsB h.get? tf (frT h.get? (asM h.get? n))) = true := congrArg (fun z : AlM => z.2) e
  generalize hK : frT h.get? (asM h.get? n) = K at a1 a2 a3
  obtain ⟨b1, b2⟩ := ba a3
  have key : ∀ p ∈ tf, PySem.W.codeHdIn K (cT K p).1 (cT K p).2 = true ∧ ∃ o, h.get? (cT K p).2 = some o ∧ emptyTab o = true := fun p hp => by
    obtain ⟨q1, q2⟩ := ba (List.all_eq_true.mp b2 p hp)
    refine ⟨q1, ?_⟩
    cases q : h.get? (cT K p).2 with
    | none =>
      rw [q] at q2
      cases q2
    | some o =>
      rw [q] at q2
      exact ⟨o, rfl, q2⟩
  refine ⟨a1, a2, b1, fun p hp => (key p hp).1, fun p hp => ?_, fun p hp => ?_⟩
  · obtain ⟨_, o, q, z⟩ := key p hp
    have := frT_none (as := asM h.get? n) q z
    rw [hK] at this
    exact this
  · obtain ⟨_, o, q, z⟩ := key p hp
    rw [q, emptyTab_eq z]
def hookM (n : Nat) (file : Str) (fa : List Fa) (fn : List DefD) (tf : List Defn) : PySem.W.Hook where
  α := AlM
  obs := fun s => obsM n file fa fn tf s.heap.get?
  val := fun _ => valA fn
  says := fun _ h => ∃ K : PySem.W.Frag, K.In h ∧ SaysM file fa fn tf h K
  of := fun _ _ e => ⟨_, frT_in, saysM_of e⟩
  keeps := fun _ _ _ ⟨K, i, c⟩ k => ⟨K, PySem.W.Frag.In.keeps i k, ⟨c.d, c.m, c.tm, c.hd, c.out, fun p hp => k _ _ (c.empty p hp)⟩⟩
theorem obsM_eq {n : Nat} {file : Str} {fa : List Fa} {fn : List DefD} {tf : List Defn} {g : Addr → Option Obj} {s : Shared} (h : ∀ a, g a = s.heap.get? a) : obsM n file fa fn tf g = (hookM n file fa fn tf).obs s := by
  have e : g = s.heap.get? := funext h
  subst e
  rfl
end K36
set_option Elab.async false
set_option linter.all false
set_option maxRecDepth 100000
set_option maxHeartbeats 0
namespace K36
open PySem PySem.Spec PyProof.Rows L2 He
/-! ### the data of the head -/
abbrev dd (x q : Str) (st : Stmt) : DefD := ⟨(x, none), q, q, defArgs st, defBody st, defScope st, [], []⟩
def fn0 : List DefD := [dd "is_whole" "is_whole" s_is_whole, dd "is_tuple_of" "is_tuple_of" s_is_tuple_of, dd "fits_pair_kinds" "fits_pair" s_fits_pair_kinds, dd "fits_kind" "fits_kind" s_fits_kind, dd "settings_in" "settings_in" s_settings_in, dd "fits_train" "fits_train" s_fits_train, dd "need_kind" "need_kind" s_need_kind, dd "need_train" "need_train" s_need_train, dd "latch_passed" "latch_passed" s_latch_passed, dd "roads_from" "roads_from" s_roads_from, dd "need_few" "need_few" s_need_few, dd "is_losing" "is_losing" s_is_losing, dd "sorts_within" "sorts_within" s_sorts_within, dd "keeps_all" "keeps_all" s_keeps_all, dd "undone_row" "undone_row" s_undone_row, dd "undoing_by" "undoing_by" s_undoing_by]
def fn1 : List DefD := [dd "behind_both" "behind_both" s_behind_both, dd "unlike_road" "unlike_road" s_unlike_road, dd "fits_pair_undoings" "fits_pair" s_fits_pair_undoings, dd "undoing_of" "undoing_of" s_undoing_of, dd "is_undoing" "is_undoing" s_is_undoing, dd "_law_cup" "_law_cup" s_law_cup, dd "_law_roll" "_law_roll" s_law_roll, dd "_law_some" "_law_some" s_law_some, dd "_law_are_whole" "_law_are_whole" s_law_are_whole, dd "_law_is_kind" "_law_is_kind" s_law_is_kind, dd "_law_walked" "_law_walked" s_law_walked, dd "_law_passed" "_law_passed" s_law_passed, dd "_law_latch" "_law_latch" s_law_latch, dd "_law_unlike" "_law_unlike" s_law_unlike, dd "_law_lot" "_law_lot" s_law_lot, dd "_law_loses_at" "_law_loses_at" s_law_loses_at]
def fn2 : List DefD := [dd "_law_asked" "_law_asked" s_law_asked, dd "_law_up" "_law_up" s_law_up, dd "_law_known_kind" "_law_known_kind" s_law_known_kind, dd "_law_any_kind" "_law_any_kind" s_law_any_kind, dd "_law_turning_kind" "_law_turning_kind" s_law_turning_kind, dd "_law_order" "_law_order" s_law_order, dd "_law_even_kind" "_law_even_kind" s_law_even_kind, dd "_law_still_kind" "_law_still_kind" s_law_still_kind, dd "_law_kind" "_law_kind" s_law_kind, dd "_law_train" "_law_train" s_law_train, dd "_law_pair_of" "_law_pair_of" s_law_pair_of, dd "_law_back" "_law_back" s_law_back, dd "_law_loses" "_law_loses" s_law_loses, dd "_law_is_undoing" "_law_is_undoing" s_law_is_undoing, dd "_law_bent" "_law_bent" s_law_bent, dd "_law_right" "_law_right" s_law_right]
def fn3 : List DefD := [dd "law" "law" s_law]
def fnA : List DefD := fn0 ++ (fn1 ++ (fn2 ++ (fn3)))
def fa0 : List Fa := [.glo "is_whole", .glo "is_tuple_of", .glo "fits_pair_kinds", .glo "fits_kind", .glo "settings_in", .glo "fits_train", .glo "need_kind", .glo "need_train", .glo "latch_passed", .glo "roads_from", .glo "need_few", .glo "is_losing", .glo "sorts_within", .glo "keeps_all", .glo "undone_row", .glo "undoing_by", .glo "behind_both", .glo "unlike_road", .glo "fits_pair_undoings", .glo "undoing_of", .glo "is_undoing", .glo "_law_cup", .glo "_law_roll", .glo "_law_some"]
def fa1 : List Fa := [.glo "_law_are_whole", .glo "_law_is_kind", .glo "_law_walked", .glo "_law_passed", .glo "_law_latch", .glo "_law_unlike", .glo "_law_lot", .glo "_law_loses_at", .glo "_law_asked", .glo "_law_up", .glo "_law_known_kind", .glo "_law_any_kind", .glo "_law_turning_kind", .glo "_law_order", .glo "_law_even_kind", .glo "_law_still_kind", .glo "_law_kind", .glo "_law_train", .glo "_law_pair_of", .glo "_law_back", .glo "_law_loses", .glo "_law_is_undoing", .glo "_law_bent", .glo "_law_right"]
def fa2 : List Fa := [.glo "law", .glo "TooMany"]
def fa3 : List Fa := [.int "SORTS" 6, .int "SETTINGS" 6, .int "LONGEST" 60, .int "TRAINS" 1000, .int "PAIRS" 1000]
def fa4 : List Fa := [.free "isinstance", .free "int", .free "bool", .free "str", .free "tuple", .free "list", .free "set", .free "len", .free "all", .free "any", .free "range", .free "sorted", .free "abs", .free "min", .free "enumerate", .free "super"]
def faA : List Fa := fa0 ++ (fa1 ++ (fa2 ++ (fa3 ++ (fa4))))
def tfA : List Defn := [("_law_right", none)]
def nm0 : List PySem.Str := ["LatchError", "InvalidKind", "InvalidTrain", "TooMany", "SORTS", "SETTINGS", "LONGEST", "TRAINS", "PAIRS", "fits_pair", "is_whole", "is_tuple_of", "fits_pair_kinds", "fits_kind", "settings_in", "fits_train", "need_kind", "need_train", "latch_passed", "roads_from", "need_few", "is_losing", "sorts_within", "keeps_all", "undone_row", "undoing_by", "behind_both", "unlike_road", "fits_pair_undoings", "undoing_of"]
def nm1 : List PySem.Str := ["is_undoing", "_law_cup", "_law_roll", "_law_some", "_law_are_whole", "_law_is_kind", "_law_walked", "_law_passed", "_law_latch", "_law_unlike", "_law_lot", "_law_loses_at", "_law_asked", "_law_up", "_law_known_kind", "_law_any_kind", "_law_turning_kind", "_law_order", "_law_even_kind", "_law_still_kind", "_law_kind", "_law_train", "_law_pair_of", "_law_back", "_law_loses", "_law_is_undoing", "_law_bent", "_law_right"]
def nmA : List PySem.Str := nm0 ++ (nm1)
abbrev RR : PySem.W.OpenRow := PySem.W.OpenLaw.row PySem.Challenge.rw_latchroads_k36_whole_undoings
abbrev fileA : Str := PySem.Challenge.pw_latchroads_k36_whole_undoings.main.file
abbrev hkA : PySem.W.Hook := hookM 6 fileA faA fnA tfA
def obA (s : PySem.W.SharedT) : AlM := obsM 6 fileA faA fnA tfA (HandSHeadRun.getT s)
theorem obA_eq (s : PySem.W.SharedT) : obA s = hkA.obs s.abs := obsM_eq (HandSHeadRun.getT_eq s)
theorem runA (w : World) : HandSHeadRun.RunEq RR (PySem.W.view RR.prog [66]) hkA obA 4000 nmA w := by
  intro os
  kernel_rfl
end K36
set_option Elab.async false
set_option linter.all false
set_option maxRecDepth 100000
set_option maxHeartbeats 4000000
namespace K36
open PySem PySem.Spec PyProof.Rows L2 He LamX
section
variable {K : PySem.W.Frag} {h : Heap} {mg : Str → Option Value}
theorem fun_of {x q : Str} {st : Stmt} {f : Addr} {fd : FuncData} (F : FunD K q q (defArgs st) (defBody st) (defScope st) [] [] f fd) : Fun K q q st f fd := by
  obtain ⟨⟨oc, od, dV, kV, doc, pm, an, cdv, ct, osl, rfl, lk, hcd, dfl, _⟩, kp⟩ := F
  rcases dfl with ⟨_, rfl⟩ | ⟨n, _⟩
  · exact ⟨⟨oc, od, kV, doc, pm, an, cdv, ct, osl, rfl, lk, hcd⟩, kp⟩
  · exact absurd rfl n
theorem fun_at (c : SaysD faA fnA K) (i : Nat) {x q : Str} {st : Stmt} (e : fnA[i]? = some (dd x q st) := by rfl) : ∃ fd, Fun K q q st (ga K x) fd := by
  obtain ⟨fd, F⟩ := c.def_ i (d := dd x q st) e
  exact ⟨fd, fun_of (x := x) F⟩
theorem df_at (X : K.In h) (G : h.Ns mainGlobals mg) (c : SaysD faA fnA K) (i : Nat) {x q : Str} {st : Stmt} (e : fnA[i]? = some (dd x q st) := by rfl) (e2 : faA[i]? = some (.glo x) := by rfl) : Df K mg x q st := by
  obtain ⟨fd, F⟩ := fun_at c i e
  exact ⟨_, fd, glo_ok X G (c.fact i (f := .glo x) e2), F⟩
theorem fr_at (X : K.In h) (G : h.Ns mainGlobals mg) (c : SaysD faA fnA K) (i : Nat) {x : Str} (e : faA[i]? = some (.free x) := by rfl) : mg x = none := free_ok X G (c.fact i (f := .free x) e)
theorem nu_at (X : K.In h) (G : h.Ns mainGlobals mg) (c : SaysD faA fnA K) (i : Nat) {x : Str} {n : Int} (e : faA[i]? = some (.int x n) := by rfl) : Num mg x n := int_ok X G (c.fact i (f := .int x n) e)
end
abbrev PP : Program := PySem.Challenge.pw_latchroads_k36_whole_undoings
abbrev pR : Defn := ("_law_right", none)
/-- the law keeps its promise -/
theorem law_at {w : World} {K : PySem.W.Frag} {h base : Heap} {mg : Str → Option Value} (X : K.In h) (G : h.Ns mainGlobals mg) (c : SaysM fileA faA fnA tfA h K) (TB : TabB base mg (cT K pR).1 (cT K pR).2) : ∃ fd, Fun K "law" "law" s_law (ga K "law") fd ∧ FnOk PP w K mg base CX0 9 (ga K "law") fd ["_law_script"] (spLaw K (cT K pR).2) := by
  have B : Bl mg := ⟨fr_at X G c.d 55, fr_at X G c.d 56, fr_at X G c.d 57, fr_at X G c.d 58, fr_at X G c.d 59, fr_at X G c.d 60, fr_at X G c.d 61, fr_at X G c.d 62, fr_at X G c.d 63, fr_at X G c.d 64, fr_at X G c.d 65, fr_at X G c.d 66, fr_at X G c.d 67, fr_at X G c.d 68, fr_at X G c.d 69⟩
  obtain ⟨T, te, XF⟩ := tm_facts (P := PP) (mg := mg) c.m c.tm (glo_ok X G (c.d.fact 49 (f := .glo "TooMany") rfl)) (fr_at X G c.d 70) (by decide +kernel)
  have isW := k_is_whole (P := PP) (w := w) (base := base) (df_at X G c.d 0) B
  have isT := k_is_tuple_of (P := PP) (w := w) (base := base) (df_at X G c.d 1) B
  have fpK := k_fits_pair_kinds (df_at X G c.d 2) isT isW
  have sett := cl_settK (k_settings_in (P := PP) (w := w) (base := base) (df_at X G c.d 4) B)
  have fitK := k_fits_kind (df_at X G c.d 3) B (nu_at X G c.d 50) (nu_at X G c.d 51) isT fpK
  have fitT := k_fits_train (df_at X G c.d 5) B (nu_at X G c.d 52) isT isW
  have ndK := k_need_kind (df_at X G c.d 6) fitK
  have ndT := k_need_train (df_at X G c.d 7) fitT
  have lat := k_latch_passed (P := PP) (w := w) (base := base) (df_at X G c.d 8)
  have rds := k_roads_from (df_at X G c.d 9) B (nu_at X G c.d 53) sett lat
  have fewN := k_need_few (P := PP) (w := w) (base := base) (df_at X G c.d 10)
  have los := k_is_losing (P := PP) (w := w) (base := base) (df_at X G c.d 11) B
  have wth := k_sorts_within (df_at X G c.d 12) B rds
  have kps := k_keeps_all (df_at X G c.d 13) B wth los
  have udr := k_undone_row (P := PP) (w := w) (base := base) (df_at X G c.d 14) B
  have udb := k_undoing_by (df_at X G c.d 15) B wth sett udr
  have bhd := k_behind_both (df_at X G c.d 16) lat
  have unl := k_unlike_road (df_at X G c.d 17) B (nu_at X G c.d 54) T sett bhd
  have fpU := k_fits_pair_undoings (df_at X G c.d 18) isT fitK sett fitT
  have uof := k_undoing_of (df_at X G c.d 19) ndK ndT rds fewN udb kps
  have isU := k_is_undoing (df_at X G c.d 20) ndK ndT rds fewN fpU unl
  have cup := k_law_cup (P := PP) (w := w) (base := base) (df_at X G c.d 21) B
  have rol := k_law_roll (P := PP) (w := w) (base := base) (df_at X G c.d 22) B
  have som := k_law_some (df_at X G c.d 23) B rol
  have arW := k_law_are_whole (P := PP) (w := w) (base := base) (df_at X G c.d 24) B
  have isK := k_law_is_kind (df_at X G c.d 25) B arW
  have wlk := k_law_walked (P := PP) (w := w) (base := base) (df_at X G c.d 26) B
  have pas := k_law_passed (df_at X G c.d 27) B wlk
  have llt := k_law_latch (df_at X G c.d 28) pas
  have lun := k_law_unlike (df_at X G c.d 29) B llt
  have lot := k_law_lot (df_at X G c.d 30) B llt
  have lsa := k_law_loses_at (df_at X G c.d 31) B llt lot
  have up_ := k_law_up (P := PP) (w := w) (base := base) (df_at X G c.d 33)
  have knk := k_law_known_kind (df_at X G c.d 34) B up_ som
  have ank := k_law_any_kind (df_at X G c.d 35) B rol
  have tuk := k_law_turning_kind (df_at X G c.d 36) B rol som
  have ord := k_law_order (df_at X G c.d 37) B rol
  have evk := k_law_even_kind (df_at X G c.d 38) B rol ord
  have stk := k_law_still_kind (df_at X G c.d 39) B rol
  have knd := k_law_kind (df_at X G c.d 40) B rol som knk ank tuk evk stk
  have trn := k_law_train (df_at X G c.d 41) B rol
  have pof := k_law_pair_of (df_at X G c.d 42) B knd trn
  have bck := k_law_back (P := PP) (w := w) (base := base) (df_at X G c.d 43) B
  have lss := k_law_loses (P := PP) (w := w) (base := base) (df_at X G c.d 44)
  have liu := k_law_is_undoing (df_at X G c.d 45) B isK arW lun
  have bnt := k_law_bent (df_at X G c.d 46) B (roll_K rol) (some_K som)
  obtain ⟨fdA, FA⟩ := fun_at c.d 32 (x := "_law_asked") (q := "_law_asked") (st := s_law_asked)
  obtain ⟨fdR, FR⟩ := fun_at c.d 47 (x := "_law_right") (q := "_law_right") (st := s_law_right)
  obtain ⟨fdL, FL⟩ := fun_at c.d 48 (x := "law") (q := "law") (st := s_law)
  obtain ⟨oc, od, kV, doc, pm, an, cdv, ct, osl, rfl, lkR, hcR⟩ := FR.ex
  obtain ⟨cR, rfl⟩ := codeIn_ref hcR
  have ec : (cT K pR).1 = cR := codeOf_eq (p := pR) lkR rfl
  rw [ec] at TB
  have rgt := k_law_right B T te XF (glo_ok X G (c.d.fact 32 (f := .glo "_law_asked") rfl)) FA (glo_ok X G (c.d.fact 47 (f := .glo "_law_right") rfl)) FR.kp lkR hcR TB uof lsa liu isU bnt
  exact ⟨fdL, FL, k_law FL B cup pof evk (some_K som) trn rgt (ans_of isU) bck up_ uof lss⟩
end K36
set_option Elab.async false
set_option linter.all false
set_option maxRecDepth 100000
set_option maxHeartbeats 0
namespace K36
open PySem PySem.W PySem.Calls PyProof.Rows
/-! ### the head, a fact a theorem: in one theorem they take the kernel more room than there is -/
theorem hd_e : opening RR.prog = plainProg RR.prog.main.scope.names := by kernel_rfl
theorem hd_f : ∀ s, fenceModules? RR.prog s = some s := fun s => by kernel_rfl
theorem hd_def : defOf (view RR.prog [66]) RR.name = some (HandSHeadRun.topDef RR.prog 66, []) := by kernel_rfl
theorem hd_the : RR.prog.theDef RR.name = some ((HandSHeadRun.topDef RR.prog 66).params, (HandSHeadRun.topDef RR.prog 66).body, (HandSHeadRun.topDef RR.prog 66).scope) := by kernel_rfl
theorem hd_kwd : kwWritten? (HandSHeadRun.topDef RR.prog 66).params.kwonlyargs (HandSHeadRun.topDef RR.prog 66).params.kw_defaults = some [] := by kernel_rfl
theorem hd_wr : (!RR.writes || RR.records.isEmpty) = true := by rfl
theorem hd_ok : (chainsOk (view RR.prog [66]) && opensWell RR.prog && (frees RR.toRowW && RR.within.isEmpty)) = true := by decide +kernel
theorem hd_bare : RR.prog.bare := ⟨rfl, rfl, rfl, rfl, rfl, by decide +kernel⟩
theorem hd_prom : RR.toRowW.promised := by w_witness2
theorem hd_nodef : (HandSHeadRun.topDef RR.prog 66).params.defaults = [] := by kernel_rfl
theorem hd_name : (HandSHeadRun.topDef RR.prog 66).name = ("law" : PySem.Str) := by kernel_rfl
theorem hd_most : PySem.Challenge.rw_latchroads_k36_whole_undoings.most = some 63 := rfl
theorem hd_call : WalkO (view RR.prog [66]) nmA (XL (view RR.prog [66]) []) hkA.says RR.toRowW (HandSHeadRun.topDef RR.prog 66) [] (fun f vs => PySem.call f vs) := by
  refine LamX.walk_ofTsE (l := PySem.Challenge.rw_latchroads_k36_whole_undoings) (n := 63) (k := 9) (x := "_law_script") (CX := fun _ => L2.CX0) hd_most (by decide) hd_nodef ⟨rfl, by decide, by decide⟩ ?F (fun _ _ _ _ _ z => z)
  intro w mg fa h Y G hmg0
  obtain ⟨K, KX, c⟩ := Y
  have hmg : mg ("law" : PySem.Str) = some (.ref fa) := by
    have e : (HandSHeadRun.topDef RR.prog 66).name = ("law" : PySem.Str) := hd_name
    rw [← e]
    exact hmg0
  have e := hmg.symm.trans (He.glo_ok KX G (c.d.fact 48 (f := .glo "law") rfl))
  cases e
  obtain ⟨fdL, FL⟩ := fun_at c.d 48 (x := "law") (q := "law") (st := s_law)
  refine ⟨K, KX, fdL, [He.cT K pR], spLaw K (He.cT K pR).2, fun p hp => ?_, fun p hp => ?_, fun p hp => ?_, fun s u => ?_, fun H a ns hl _ hT hS => ?_, fun base Kb Gb TB => ?_⟩
  · rw [List.mem_singleton.mp hp]
    exact c.empty _ (List.mem_singleton.mpr rfl)
  · rw [List.mem_singleton.mp hp]
    exact c.out _ (List.mem_singleton.mpr rfl)
  · rw [List.mem_singleton.mp hp]
    exact codeHd_of_K KX (c.hd _ (List.mem_singleton.mpr rfl))
  · obtain ⟨oc, od, kV, doc, pm, an, cdv, ct, osl, rfl, lk, hcd⟩ := FL.ex
    exact .of_eq rfl
  · exact ⟨a, ns, rfl, hS, hl, fun p hp => by
      rw [List.mem_singleton.mp hp]
      exact LamX.TabS.nil (hT _ (List.mem_singleton.mpr rfl)), fun _ => rfl⟩
  · obtain ⟨fd2, F2, ok⟩ := law_at (w := w) (base := base) KX G c (TB _ (List.mem_singleton.mpr rfl))
    obtain ⟨_, _, _, _, _, _, _, _, _, e1, l1, _⟩ := FL.ex
    obtain ⟨_, _, _, _, _, _, _, _, _, e2, l2, _⟩ := F2.ex
    rw [l1] at l2
    have : fdL = fd2 := by
      injection l2 with l2
      injection l2 with _ _ l2
      injection l2
    rw [this]
    exact ok
theorem hd_row (said : RR.wellSaid = true) : RR.Holds := HandSHeadRun.head_any (r := RR) (q := view RR.prog [66]) (H := hkA) (ob := obA) (M := 4000) (loose := nmA) (d := HandSHeadRun.topDef RR.prog 66) (kwd := []) obA_eq
  hd_e hd_f runA hd_def hd_the hd_kwd hd_wr said hd_ok hd_bare hd_prom hd_call
end K36
open PySem PySem.W PySem.Calls PyProof.Rows
theorem PySem.Challenge.cw_latchroads_k36_whole_undoings_holds : PySem.Challenge.rw_latchroads_k36_whole_undoings.Holds := by
  w_on; o_law
  exact K36.hd_row (by assumption)
