import PyProof.Rows.All
import Wide.All
import OpenK.AllK
import Wide.FinOn
import KE.KStateDown
import HandS.ForMost
import HandS.Head0
import HandS.Head1
import HandS.Head2
import HandS.HeadEnd
import HandS.HeadHook1
import HandS.HeadHook2
import HandS.HeadHook3
import HandS.HeadHook4
import HandS.HeadWalk
import HandS.Flow
import HandS.Zip
import HandS.TupAny
import HandS.TupMul
import HandS.TupLe
import HandS.SortInts
import HandS.SortRule
import HandS.SortKw
import HandS.Conv
import HandS.IsInst
import HandS.Wide
import HandS.Style
import HandS.NoneIn
import HandS.Defaults
import HandS.AnyAll
import HandS.Lambda
import KE.GoesMore
import KE.DataMinMax
import KE.SortKeyHeap
import PySem.Challenge.RW_trackworth_k63_whole_cheapest_sorts
set_option Elab.async false
section
namespace TW
open PySem PySem.Spec
def top (i : Nat) : Stmt := PySem.Challenge.pw_trackworth_k63_whole_cheapest_sorts.main.body.getD i (.Pass ⟨0, 0, 0, 0⟩)
end TW
end
section
set_option Elab.async false
set_option linter.all false
set_option maxRecDepth 100000
set_option maxHeartbeats 0
namespace TW
open PySem PySem.Spec PyProof.Rows L2

def dfn : List He.DefD := [
  ⟨("is_whole", none), "is_whole", "is_whole", defArgs (top 15), defBody (top 15), defScope (top 15), [], []⟩,
  ⟨("is_track", none), "is_track", "is_track", defArgs (top 16), defBody (top 16), defScope (top 16), [], []⟩,
  ⟨("first_wrong", none), "first_wrong", "first_wrong", defArgs (top 17), defBody (top 17), defScope (top 17), [], []⟩,
  ⟨("is_yard", none), "is_yard", "is_yard", defArgs (top 18), defBody (top 18), defScope (top 18), [], []⟩,
  ⟨("made_yard", none), "made_yard", "made_yard", defArgs (top 19), defBody (top 19), defScope (top 19), [], []⟩,
  ⟨("is_pick", none), "is_pick", "is_pick", defArgs (top 20), defBody (top 20), defScope (top 20), [], []⟩,
  ⟨("made_pick", none), "made_pick", "made_pick", defArgs (top 21), defBody (top 21), defScope (top 21), [], []⟩,
  ⟨("ends", none), "ends", "ends", defArgs (top 23), defBody (top 23), defScope (top 23), [], []⟩,
  ⟨("labels", none), "labels", "labels", defArgs (top 24), defBody (top 24), defScope (top 24), [], []⟩,
  ⟨("joins", none), "joins", "joins", defArgs (top 25), defBody (top 25), defScope (top 25), [], []⟩,
  ⟨("made_prices", none), "made_prices", "made_prices", defArgs (top 28), defBody (top 28), defScope (top 28), [], []⟩,
  ⟨("check_many", none), "check_many", "check_many", defArgs (top 29), defBody (top 29), defScope (top 29), [], []⟩,
  ⟨("alone", none), "alone", "alone", defArgs (top 30), defBody (top 30), defScope (top 30), [], []⟩,
  ⟨("joined_by", none), "joined_by", "joined_by", defArgs (top 31), defBody (top 31), defScope (top 31), [], []⟩,
  ⟨("cheapest", none), "cheapest", "cheapest", defArgs (top 32), defBody (top 32), defScope (top 32), [], []⟩,
  ⟨("made_row", none), "made_row", "made_row", defArgs (top 35), defBody (top 35), defScope (top 35), [], []⟩,
  ⟨("is_number_kernel", none), "is_number", "is_number", defArgs (top 38), defBody (top 38), defScope (top 38), [], []⟩,
  ⟨("are_numbers", none), "are_numbers", "are_numbers", defArgs (top 40), defBody (top 40), defScope (top 40), [], []⟩,
  ⟨("way", none), "way", "way", defArgs (top 41), defBody (top 41), defScope (top 41), [], []⟩,
  ⟨("is_forest", none), "is_forest", "is_forest", defArgs (top 42), defBody (top 42), defScope (top 42), [], []⟩,
  ⟨("cheapest_right", none), "cheapest_right", "cheapest_right", defArgs (top 43), defBody (top 43), defScope (top 43), [], []⟩,
  ⟨("is_number_dealings", none), "is_number", "is_number", defArgs (top 45), defBody (top 45), defScope (top 45), [], []⟩,
  ⟨("made_dealing", none), "made_dealing", "made_dealing", defArgs (top 47), defBody (top 47), defScope (top 47), [], []⟩,
  ⟨("first_stand", none), "first_stand", "first_stand", defArgs (top 49), defBody (top 49), defScope (top 49), [], []⟩,
  ⟨("is_move", none), "is_move", "is_move", defArgs (top 51), defBody (top 51), defScope (top 51), [], []⟩,
  ⟨("with_lane", none), "with_lane", "with_lane", defArgs (top 52), defBody (top 52), defScope (top 52), [], []⟩,
  ⟨("moved_in", none), "moved_in", "moved_in", defArgs (top 53), defBody (top 53), defScope (top 53), [], []⟩,
  ⟨("moved_over", none), "moved_over", "moved_over", defArgs (top 54), defBody (top 54), defScope (top 54), [], []⟩,
  ⟨("moved_out", none), "moved_out", "moved_out", defArgs (top 55), defBody (top 55), defScope (top 55), [], []⟩,
  ⟨("after_move", none), "after_move", "after_move", defArgs (top 56), defBody (top 56), defScope (top 56), [], []⟩,
  ⟨("tracks_of", none), "tracks_of", "tracks_of", defArgs (top 58), defBody (top 58), defScope (top 58), [], []⟩,
  ⟨("is_over_green", none), "is_over_green", "is_over_green", defArgs (top 59), defBody (top 59), defScope (top 59), [], []⟩,
  ⟨("green_moves", none), "green_moves", "green_moves", defArgs (top 60), defBody (top 60), defScope (top 60), [], []⟩,
  ⟨("check_picks", none), "check_picks", "check_picks", defArgs (top 62), defBody (top 62), defScope (top 62), [], []⟩,
  ⟨("run", none), "run", "run", defArgs (top 63), defBody (top 63), defScope (top 63), [], []⟩,
  ⟨("layers", none), "layers", "layers", defArgs (top 65), defBody (top 65), defScope (top 65), [], []⟩,
  ⟨("forest", none), "forest", "forest", defArgs (top 67), defBody (top 67), defScope (top 67), [], []⟩,
  ⟨("plan", none), "plan", "plan", defArgs (top 69), defBody (top 69), defScope (top 69), [], []⟩,
  ⟨("serves", none), "serves", "serves", defArgs (top 71), defBody (top 71), defScope (top 71), [], []⟩,
  ⟨("_law_pool", none), "_law_pool", "_law_pool", defArgs (top 73), defBody (top 73), defScope (top 73), [], []⟩,
  ⟨("_law_draw", none), "_law_draw", "_law_draw", defArgs (top 74), defBody (top 74), defScope (top 74), [], []⟩,
  ⟨("_law_is_whole", none), "_law_is_whole", "_law_is_whole", defArgs (top 75), defBody (top 75), defScope (top 75), [], []⟩,
  ⟨("_law_turned", none), "_law_turned", "_law_turned", defArgs (top 76), defBody (top 76), defScope (top 76), [], []⟩,
  ⟨("_law_web_yard", none), "_law_web_yard", "_law_web_yard", defArgs (top 77), defBody (top 77), defScope (top 77), [], []⟩,
  ⟨("_law_web_ends", none), "_law_web_ends", "_law_web_ends", defArgs (top 78), defBody (top 78), defScope (top 78), [], []⟩,
  ⟨("_law_web_reached", none), "_law_web_reached", "_law_web_reached", defArgs (top 79), defBody (top 79), defScope (top 79), [], []⟩,
  ⟨("_law_web_pieces", none), "_law_web_pieces", "_law_web_pieces", defArgs (top 80), defBody (top 80), defScope (top 80), [], []⟩,
  ⟨("_law_web_rank", none), "_law_web_rank", "_law_web_rank", defArgs (top 81), defBody (top 81), defScope (top 81), [], []⟩,
  ⟨("_law_web_forest", none), "_law_web_forest", "_law_web_forest", defArgs (top 82), defBody (top 82), defScope (top 82), [], []⟩,
  ⟨("_law_wait_turned", none), "_law_wait_turned", "_law_wait_turned", defArgs (top 83), defBody (top 83), defScope (top 83), [], []⟩,
  ⟨("_law_wait_parted", none), "_law_wait_parted", "_law_wait_parted", defArgs (top 84), defBody (top 84), defScope (top 84), [], []⟩,
  ⟨("_law_wait_joined", none), "_law_wait_joined", "_law_wait_joined", defArgs (top 85), defBody (top 85), defScope (top 85), [], []⟩,
  ⟨("_law_wait_row_of", none), "_law_wait_row_of", "_law_wait_row_of", defArgs (top 86), defBody (top 86), defScope (top 86), [], []⟩,
  ⟨("_law_wait_all", none), "_law_wait_all", "_law_wait_all", defArgs (top 87), defBody (top 87), defScope (top 87), [], []⟩,
  ⟨("_law_wait_left", none), "_law_wait_left", "_law_wait_left", defArgs (top 88), defBody (top 88), defScope (top 88), [], []⟩,
  ⟨("_law_wait_goes", none), "_law_wait_goes", "_law_wait_goes", defArgs (top 89), defBody (top 89), defScope (top 89), [], []⟩,
  ⟨("_law_lane_begun", none), "_law_lane_begun", "_law_lane_begun", defArgs (top 90), defBody (top 90), defScope (top 90), [], []⟩,
  ⟨("_law_lane_put", none), "_law_lane_put", "_law_lane_put", defArgs (top 91), defBody (top 91), defScope (top 91), [], []⟩,
  ⟨("_law_lane_after", none), "_law_lane_after", "_law_lane_after", defArgs (top 92), defBody (top 92), defScope (top 92), [], []⟩,
  ⟨("_law_lane_all", none), "_law_lane_all", "_law_lane_all", defArgs (top 93), defBody (top 93), defScope (top 93), [], []⟩,
  ⟨("_law_lane_is_move", none), "_law_lane_is_move", "_law_lane_is_move", defArgs (top 94), defBody (top 94), defScope (top 94), [], []⟩,
  ⟨("_law_lane_replayed", none), "_law_lane_replayed", "_law_lane_replayed", defArgs (top 95), defBody (top 95), defScope (top 95), [], []⟩,
  ⟨("_law_prices", none), "_law_prices", "_law_prices", defArgs (top 96), defBody (top 96), defScope (top 96), [], []⟩,
  ⟨("_law_cheapest", none), "_law_cheapest", "_law_cheapest", defArgs (top 97), defBody (top 97), defScope (top 97), [], []⟩,
  ⟨("_law_home_right", none), "_law_home_right", "_law_home_right", defArgs (top 98), defBody (top 98), defScope (top 98), [], []⟩,
  ⟨("law", none), "law", "law", defArgs (top 99), defBody (top 99), defScope (top 99), [], []⟩]

def dfa : List He.Fa := [.glo "is_whole", .glo "is_track", .glo "first_wrong", .glo "is_yard", .glo "made_yard", .glo "is_pick", .glo "made_pick", .glo "ends", .glo "labels", .glo "joins", .glo "made_prices", .glo "check_many", .glo "alone", .glo "joined_by", .glo "cheapest", .glo "made_row", .glo "is_number_kernel", .glo "are_numbers", .glo "way", .glo "is_forest", .glo "cheapest_right", .glo "is_number_dealings", .glo "made_dealing", .glo "first_stand", .glo "is_move", .glo "with_lane", .glo "moved_in", .glo "moved_over", .glo "moved_out", .glo "after_move", .glo "tracks_of", .glo "is_over_green", .glo "green_moves", .glo "check_picks", .glo "run", .glo "layers", .glo "forest", .glo "plan", .glo "serves", .glo "_law_pool", .glo "_law_draw", .glo "_law_is_whole", .glo "_law_turned", .glo "_law_web_yard", .glo "_law_web_ends", .glo "_law_web_reached", .glo "_law_web_pieces", .glo "_law_web_rank", .glo "_law_web_forest", .glo "_law_wait_turned", .glo "_law_wait_parted", .glo "_law_wait_joined", .glo "_law_wait_row_of", .glo "_law_wait_all", .glo "_law_wait_left", .glo "_law_wait_goes", .glo "_law_lane_begun", .glo "_law_lane_put", .glo "_law_lane_after", .glo "_law_lane_all", .glo "_law_lane_is_move", .glo "_law_lane_replayed", .glo "_law_prices", .glo "_law_cheapest", .glo "_law_home_right", .glo "law", .free "isinstance", .free "int", .free "bool", .free "tuple", .free "len", .free "range", .free "sorted", .free "min", .free "max", .free "enumerate", .free "list", .free "all", .free "any", .free "zip", .free "str", .free "sum", .int "MOST_LANES" 12, .int "MOST_TRACKS" 60, .int "MOST_PRICE_prices" 999, .int "MOST_PRICE_kernel" 999, .int "MOST_WAGONS" 400]

def nm0 : List PySem.Str := ["Refused", "BadYard", "BadPick", "BadRow", "BadDealing", "BadMove", "NoneThere", "NotDue", "BadPicks", "BadNumber", "BadPrices", "MOST_LANES", "MOST_TRACKS", "is_whole", "is_track", "first_wrong", "is_yard", "made_yard", "is_pick", "made_pick", "ends", "labels", "joins", "MOST_PRICE_prices", "made_prices"]

def nm1 : List PySem.Str := ["check_many", "alone", "joined_by", "cheapest", "MOST_WAGONS", "made_row", "MOST_PRICE_kernel", "is_number", "is_number_kernel", "are_numbers", "way", "is_forest", "cheapest_right", "is_number_dealings", "made_dealing", "first_stand", "is_move", "with_lane", "moved_in", "moved_over", "moved_out", "after_move", "tracks_of", "is_over_green", "green_moves"]

def nm2 : List PySem.Str := ["check_picks", "run", "layers", "forest", "plan", "serves", "_law_pool", "_law_draw", "_law_is_whole", "_law_turned", "_law_web_yard", "_law_web_ends", "_law_web_reached", "_law_web_pieces", "_law_web_rank", "_law_web_forest", "_law_wait_turned", "_law_wait_parted", "_law_wait_joined", "_law_wait_row_of", "_law_wait_all", "_law_wait_left", "_law_wait_goes", "_law_lane_begun", "_law_lane_put"]

def nm3 : List PySem.Str := ["_law_lane_after", "_law_lane_all", "_law_lane_is_move", "_law_lane_replayed", "_law_prices", "_law_cheapest", "_law_home_right"]

def names : List PySem.Str := nm0 ++ nm1 ++ nm2 ++ nm3

def dtf : List He.Defn := [("cheapest", none), ("are_numbers", none), ("cheapest_right", none)]
abbrev R : PySem.W.OpenRow := PySem.W.OpenLaw.row PySem.Challenge.rw_trackworth_k63_whole_cheapest_sorts
/-- the tables are not the same -/
def exT (K : PySem.W.Frag) : Bool := !((He.cT K ("cheapest", none)).2 == (He.cT K ("are_numbers", none)).2) && !((He.cT K ("cheapest", none)).2 == (He.cT K ("cheapest_right", none)).2)
abbrev hk : PySem.W.Hook := He.hookX 2 dfa dfn [] dtf exT
def ob (s : PySem.W.SharedT) : He.AlX := He.obsX 2 dfa dfn [] dtf exT (HandSHeadRun.getT s)
theorem ob_eq (s : PySem.W.SharedT) : ob s = hk.obs s.abs := He.obsX_eq (HandSHeadRun.getT_eq s)
theorem run (w : World) : HandSHeadRun.RunEq R (PySem.W.view R.prog [99]) hk ob 20000 names w := by
  intro os
  kernel_rfl
end TW
end
section
set_option Elab.async false
set_option linter.all false
set_option maxRecDepth 100000
set_option maxHeartbeats 1000000
/-! The layer, 1: what stands in the slots, by pure values. -/
namespace TW
open PySem PySem.Spec PyProof.Rows L2

/-! ### a heap without the addresses that may change -/
def hid (M : List Addr) (H : Hp) : Hp := fun a => if a ∈ M then none else H a
theorem hid_in {M : List Addr} {H : Hp} {a : Addr} (h : a ∈ M) : hid M H a = none := by unfold hid; rw [if_pos h]
theorem hid_out {M : List Addr} {H : Hp} {a : Addr} (h : a ∉ M) : hid M H a = H a := by unfold hid; rw [if_neg h]
theorem hid_some {M : List Addr} {H : Hp} {a : Addr} {o : HO} (h : hid M H a = some o) : a ∉ M ∧ H a = some o := by
  by_cases q : a ∈ M
  · rw [hid_in q] at h; cases h
  · rw [hid_out q] at h; exact ⟨q, h⟩
theorem hid_sub (M : List Addr) (H : Hp) : Same (hid M H) H := fun a o h => (hid_some h).2
theorem hid_none {M : List Addr} {H : Hp} {a : Addr} (h : H a = none) : hid M H a = none := by
  by_cases q : a ∈ M
  · exact hid_in q
  · rw [hid_out q]; exact h

/-! ### data in the heap: tracked objects alone -/
mutual
inductive Dq (H : Hp) : V → PyData → Prop
  | non : Dq H .non .none
  | bl (b : Bool) : Dq H (.bl b) (.bool b)
  | int (i : Int) : Dq H (.int i) (.int i)
  | str (x : Str) : Dq H (.str x) (.str x)
  | lst {a : Addr} {xs : List V} {ds : List PyData} : H a = some (.lst xs) → DqAll H xs ds → Dq H (.ref a) (.list ds)
  | tup {a : Addr} {xs : List V} {ds : List PyData} : H a = some (.tup xs) → DqAll H xs ds → Dq H (.ref a) (.tuple ds)
inductive DqAll (H : Hp) : List V → List PyData → Prop
  | nil : DqAll H [] []
  | cons {v : V} {vs : List V} {d : PyData} {ds : List PyData} : Dq H v d → DqAll H vs ds → DqAll H (v :: vs) (d :: ds)
end
mutual
theorem dp_mono {H H' : Hp} (e : Same H H') : ∀ (d : PyData) (v : V), Dq H v d → Dq H' v d
  | .none, _, h => by cases h; exact .non
  | .bool b, _, h => by cases h; exact .bl b
  | .int i, _, h => by cases h; exact .int i
  | .str x, _, h => by cases h; exact .str x
  | .list ds, _, h => by
    cases h with
    | lst hs ha => exact .lst (e _ _ hs) (dpa_mono e ds _ ha)
  | .tuple ds, _, h => by
    cases h with
    | tup hs ha => exact .tup (e _ _ hs) (dpa_mono e ds _ ha)
  | .dict _, _, h => by cases h
theorem dpa_mono {H H' : Hp} (e : Same H H') : ∀ (ds : List PyData) (vs : List V), DqAll H vs ds → DqAll H' vs ds
  | [], _, h => by cases h; exact .nil
  | d :: ds, _, h => by
    cases h with
    | cons h1 h2 => exact .cons (dp_mono e d _ h1) (dpa_mono e ds _ h2)
end
mutual
theorem dq_dp {K : PySem.W.Frag} {H : Hp} : ∀ (d : PyData) (v : V), Dq H v d → Dp K H v d
  | .none, _, h => by cases h; exact .non
  | .bool b, _, h => by cases h; exact .bl b
  | .int i, _, h => by cases h; exact .int i
  | .str x, _, h => by cases h; exact .str x
  | .list ds, _, h => by
    cases h with
    | lst hs ha => exact .lst (.of hs) (dqa_dpa ds _ ha)
  | .tuple ds, _, h => by
    cases h with
    | tup hs ha => exact .tup (.of hs) (dqa_dpa ds _ ha)
  | .dict _, _, h => by cases h
theorem dqa_dpa {K : PySem.W.Frag} {H : Hp} : ∀ (ds : List PyData) (vs : List V), DqAll H vs ds → DpAll K H vs ds
  | [], _, h => by cases h; exact .nil
  | d :: ds, _, h => by
    cases h with
    | cons h1 h2 => exact .cons (dq_dp d _ h1) (dqa_dpa ds _ h2)
end
section
variable {H H' : Hp}
theorem dpa_len : ∀ {vs : List V} {ds : List PyData}, DqAll H vs ds → vs.length = ds.length
  | _, _, .nil => rfl
  | _, _, .cons _ t => by rw [List.length_cons, List.length_cons, dpa_len t]
theorem dpa_get : ∀ {vs : List V} {ds : List PyData} {i : Nat} {d : PyData}, DqAll H vs ds → ds[i]? = some d → ∃ v, vs[i]? = some v ∧ Dq H v d
  | _, _, _, _, .nil, e => by simp at e
  | _, _, 0, _, .cons h _, e => by simp at e; subst e; exact ⟨_, rfl, h⟩
  | _, _, i + 1, _, .cons _ t, e => by
    obtain ⟨v, h1, h2⟩ := dpa_get (i := i) t (by simpa using e)
    exact ⟨v, by simpa using h1, h2⟩
theorem dpa_getv {vs : List V} {ds : List PyData} {i : Nat} {v : V} (h : DqAll H vs ds) (e : vs[i]? = some v) : ∃ d, ds[i]? = some d ∧ Dq H v d := by
  have hl := dpa_len h
  have hi : i < vs.length := (List.getElem?_eq_some_iff.mp e).1
  obtain ⟨v', e1, h1⟩ := dpa_get (i := i) (d := ds[i]'(by omega)) h (List.getElem?_eq_getElem _)
  rw [e] at e1; cases e1
  exact ⟨_, List.getElem?_eq_getElem _, h1⟩
theorem dpa_app : ∀ {vs ws : List V} {ds es : List PyData}, DqAll H vs ds → DqAll H ws es → DqAll H (vs ++ ws) (ds ++ es)
  | _, _, _, _, .nil, h => h
  | _, _, _, _, .cons a t, h => .cons a (dpa_app t h)
theorem dpa_set : ∀ {vs : List V} {ds : List PyData} (i : Nat) {v : V} {d : PyData}, DqAll H vs ds → Dq H v d → DqAll H (vs.set i v) (ds.set i d)
  | _, _, _, _, _, .nil, _ => .nil
  | _, _, 0, _, _, .cons _ t, h => .cons h t
  | _, _, i + 1, _, _, .cons a t, h => .cons a (dpa_set i t h)
theorem dpa_erase : ∀ {vs : List V} {ds : List PyData} (i : Nat), DqAll H vs ds → DqAll H (vs.eraseIdx i) (ds.eraseIdx i)
  | _, _, _, .nil => .nil
  | _, _, 0, .cons _ t => t
  | _, _, i + 1, .cons a t => .cons a (dpa_erase i t)
theorem dpa_drop : ∀ {vs : List V} {ds : List PyData} (i : Nat), DqAll H vs ds → DqAll H (vs.drop i) (ds.drop i)
  | _, _, 0, h => h
  | _, _, _ + 1, .nil => .nil
  | _, _, i + 1, .cons _ t => dpa_drop i t
theorem dpa_take : ∀ {vs : List V} {ds : List PyData} (i : Nat), DqAll H vs ds → DqAll H (vs.take i) (ds.take i)
  | _, _, 0, _ => .nil
  | _, _, _ + 1, .nil => .nil
  | _, _, i + 1, .cons a t => .cons a (dpa_take i t)
theorem dpa_rep {v : V} {d : PyData} (h : Dq H v d) : ∀ n : Nat, DqAll H (List.replicate n v) (List.replicate n d)
  | 0 => .nil
  | n + 1 => .cons h (dpa_rep h n)
theorem dpa_ints : ∀ ns : List Int, DqAll H (ns.map V.int) (ns.map PyData.int)
  | [] => .nil
  | n :: r => .cons (.int n) (dpa_ints r)
theorem dpa_ints_of : ∀ {ns : List Int} {vs : List V}, DqAll H vs (ns.map PyData.int) → vs = ns.map V.int
  | [], _, h => by cases h; rfl
  | n :: r, _, h => by
    cases h with
    | cons a t => cases a; rw [dpa_ints_of t]; rfl
theorem dpa_map {α : Type} {g : α → PyData} {f : α → V} (h : ∀ x, Dq H (f x) (g x)) : ∀ xs : List α, DqAll H (xs.map f) (xs.map g)
  | [] => .nil
  | x :: r => .cons (h x) (dpa_map h r)
end

/-! ### what a slot, a temporary holds -/
/-- a pool's state -/
structure PoolS where
  a : Int
  b : Int
  cs : List Int
inductive AV where
  /-- data: never changed from now on -/
  | dat (d : PyData)
  /-- a list of the def's own that may change -/
  | flat (ds : List PyData)
  /-- a list of such lists -/
  | nest (dss : List (List PyData))
  /-- the law's pool of draws, at p, its cells at q -/
  | pool (p q : Addr) (st : PoolS)
  /-- a dict with tuple keys -/
  | dic (kvs : List (List Key × PyData))
  /-- the very value that stands in slot i -/
  | als (i : Nat)
  /-- the script -/
  | scr (ns : List Int)
  /-- a built-in class -/
  | ty (n : String)
  /-- a dict with texts as keys -/
  | dik (kvs : List (Key × PyData))
  /-- two pieces of data -/
  | both (d : PyData) (v2 : V) (d2 : PyData)
def AV.isAls : AV → Bool
  | .als _ => true
  | _ => false
abbrev Ev := List (Option AV)
/-- the tables of code objects that may grow: of generator expressions, of lambdas -/
structure Glb where
  T : List Addr
  L : List (Addr × Str)
def Glb.tab (G : Glb) (a : Addr) : Prop := a ∈ G.T ∨ a ∈ G.L.map (·.1)
def TabL (M : List Addr) (H : Hp) (p : Addr × Str) : Prop := ∃ ps : Array Value, H p.1 = some (.tbl ps) ∧ TriplesOk ps.toList ∧ ∀ (pos : Pos) (cv : Value), codeAmong pos ps.toList = some cv → ∃ c, cv = .ref c ∧ hid M H c = some (LamX.CodeO c p.2)
structure TabsOk (G : Glb) (M : List Addr) (H : Hp) : Prop where
  t : ∀ P ∈ G.T, P ∈ M ∧ GxR.TabG H P
  l : ∀ p ∈ G.L, p.1 ∈ M ∧ TabL M H p
/-- the entry of the def at hand: its heap, what may change, what of it the def may change -/
structure Bas where
  H0 : Hp
  M0 : List Addr
  pf : List Addr

def AVat (K : PySem.W.Frag) (M0 M : List Addr) (H : Hp) (σ : L2.St) : AV → V → List Addr → Prop
  | .dat d, v, fp => fp = [] ∧ Dq (hid M H) v d
  | .flat ds, v, fp => ∃ l vs, v = .ref l ∧ fp = [l] ∧ l ∉ M0 ∧ H l = some (.lst vs) ∧ DqAll (hid M H) vs ds
  | .nest dss, v, fp => ∃ l ls, v = .ref l ∧ fp = l :: ls ∧ (∀ a ∈ fp, a ∉ M0) ∧ fp.Nodup ∧ H l = some (.lst (ls.map V.ref)) ∧ Paired (fun (a : Addr) (ds : List PyData) => ∃ vs, H a = some (.lst vs) ∧ DqAll (hid M H) vs ds) ls dss
  | .pool p q st, v, fp => v = .ref p ∧ fp = [p, q] ∧ p ≠ q ∧ H p = some (.lst [.int st.a, .int st.b, .ref q]) ∧ H q = some (.lst (st.cs.map V.int))
  | .dic kvs, v, fp => ∃ l vk, v = .ref l ∧ fp = [l] ∧ l ∉ M0 ∧ H l = some (.dT vk) ∧ Paired (fun (p : List Key × V) (q : List Key × PyData) => p.1 = q.1 ∧ Dq (hid M H) p.2 q.2) vk kvs
  | .als i, v, fp => fp = [] ∧ σ[i]? = some (some v)
  | .ty n, v, fp => fp = [] ∧ v = .ty n
  | .dik kvs, v, fp => ∃ l vk, v = .ref l ∧ fp = [l] ∧ l ∉ M0 ∧ H l = some (.dK vk) ∧ Paired (fun (p : Key × V) (q : Key × PyData) => p.1 = q.1 ∧ Dq (hid M H) p.2 q.2) vk kvs
  | .both d v2 d2, v, fp => fp = [] ∧ Dq (hid M H) v d ∧ Dq (hid M H) v2 d2
  | .scr ns, v, fp => fp = [] ∧ ∃ a, v = .ref a ∧ SqL K (hid M H) a (ns.map V.int)

inductive TempsOk (K : PySem.W.Frag) (M0 M : List Addr) (H : Hp) (σ : L2.St) : List (V × AV) → List Addr → Prop
  | nil : TempsOk K M0 M H σ [] []
  | cons {v : V} {av : AV} {fp fs : List Addr} {τ : List (V × AV)} : AVat K M0 M H σ av v fp → TempsOk K M0 M H σ τ fs → (∀ a ∈ fp, a ∉ fs) → TempsOk K M0 M H σ ((v, av) :: τ) (fp ++ fs)
structure SlotsOk (K : PySem.W.Frag) (M0 M : List Addr) (H : Hp) (σ : L2.St) (ρ : Ev) (f : Nat → List Addr) : Prop where
  at_ : ∀ (i : Nat) (av : AV), ρ[i]? = some (some av) → av.isAls = false ∧ ∃ v, σ[i]? = some (some v) ∧ AVat K M0 M H σ av v (f i)
  dis : ∀ (i j : Nat) (a : Addr), a ∈ f i → a ∈ f j → i = j
  non : ∀ i : Nat, (∀ av, ρ[i]? ≠ some (some av)) → f i = []
structure Sem (G : Glb) (K : PySem.W.Frag) (B : Bas) (M : List Addr) (τ : List (V × AV)) (σ : L2.St) (ρ : Ev) (H : Hp) : Prop where
  own : ∃ (f : Nat → List Addr) (ft : List Addr), SlotsOk K B.M0 M H σ ρ f ∧ TempsOk K B.M0 M H σ τ ft ∧ (∀ i a, a ∈ f i → a ∉ ft) ∧ (∀ i a, a ∈ f i → a ∈ M ∧ (a ∈ B.M0 → a ∈ B.pf)) ∧ (∀ a ∈ ft, a ∈ M ∧ (a ∈ B.M0 → a ∈ B.pf))
  keep : Same (hid B.M0 B.H0) (hid M H)
  sub : ∀ a ∈ B.M0, a ∈ M
  old : ∀ a ∈ B.M0, a ∉ B.pf → ¬ G.tab a → H a = B.H0 a
  al : ∀ a ∈ M, H a ≠ none
  tabs : TabsOk G M H
  tm : ∀ a, G.tab a → a ∈ B.M0 ∧ a ∉ B.pf
  len : σ.length = ρ.length
end TW
end
section
set_option Elab.async false
set_option linter.all false
set_option maxRecDepth 100000
set_option maxHeartbeats 1000000
/-! The layer, 2: how the state goes on. -/
namespace TW
open PySem PySem.Spec PyProof.Rows L2
section
variable {G : Glb} {K : PySem.W.Frag} {B : Bas} {M0 M M' : List Addr} {τ : List (V × AV)} {σ σ' : L2.St} {ρ ρ' : Ev} {H H' : Hp} {v : V} {av : AV} {d : PyData} {ds : List PyData} {fp ft : List Addr}

theorem paired_imp {α β : Type} {F F' : α → β → Prop} : ∀ {l₁ : List α} {l₂ : List β}, Paired F l₁ l₂ → (∀ a b, a ∈ l₁ → F a b → F' a b) → Paired F' l₁ l₂
  | _, _, .nil, _ => .nil
  | _, _, .cons r t, f => .cons (f _ _ List.mem_cons_self r) (paired_imp t fun a b ha => f a b (List.mem_cons_of_mem _ ha))
theorem paired_len {α β : Type} {F : α → β → Prop} : ∀ {l₁ : List α} {l₂ : List β}, Paired F l₁ l₂ → l₁.length = l₂.length
  | _, _, .nil => rfl
  | _, _, .cons _ t => by rw [List.length_cons, List.length_cons, paired_len t]

theorem AVat.frame (h : AVat K M0 M H σ av v fp) (sm : Same (hid M H) (hid M' H')) (k : ∀ a ∈ fp, H' a = H a) : AVat K M0 M' H' σ av v fp := by
  cases av with
  | dat d => exact ⟨h.1, dp_mono sm _ _ h.2⟩
  | flat ds =>
    obtain ⟨l, vs, e1, rfl, n, e2, e3⟩ := h
    exact ⟨l, vs, e1, rfl, n, (k l (by simp)).trans e2, dpa_mono sm _ _ e3⟩
  | nest dss =>
    obtain ⟨l, ls, e1, rfl, n, nd, e2, e3⟩ := h
    exact ⟨l, ls, e1, rfl, n, nd, (k l (by simp)).trans e2, paired_imp e3 fun a b ha ⟨vs, q1, q2⟩ => ⟨vs, (k a (List.mem_cons_of_mem _ ha)).trans q1, dpa_mono sm _ _ q2⟩⟩
  | pool p q st =>
    obtain ⟨e1, rfl, ne, e2, e3⟩ := h
    exact ⟨e1, rfl, ne, (k p (by simp)).trans e2, (k q (by simp)).trans e3⟩
  | dic kvs =>
    obtain ⟨l, vk, e1, rfl, n, e2, e3⟩ := h
    exact ⟨l, vk, e1, rfl, n, (k l (by simp)).trans e2, paired_imp e3 fun a b _ ⟨q1, q2⟩ => ⟨q1, dp_mono sm _ _ q2⟩⟩
  | dik kvs =>
    obtain ⟨l, vk, e1, rfl, n, e2, e3⟩ := h
    exact ⟨l, vk, e1, rfl, n, (k l (by simp)).trans e2, paired_imp e3 fun a b _ ⟨q1, q2⟩ => ⟨q1, dp_mono sm _ _ q2⟩⟩
  | als i => exact h
  | ty n => exact h
  | both d v2 d2 => exact ⟨h.1, dp_mono sm _ _ h.2.1, dp_mono sm _ _ h.2.2⟩
  | scr ns =>
    obtain ⟨e1, a, e2, e3⟩ := h
    exact ⟨e1, a, e2, sm.seq e3⟩
theorem AVat.slots (h : AVat K M0 M H σ av v fp) (na : av.isAls = false) : AVat K M0 M H σ' av v fp := by
  cases av with
  | als i => cases na
  | _ => exact h
theorem TempsOk.frame : ∀ {τ : List (V × AV)} {ft : List Addr}, TempsOk K M0 M H σ τ ft → Same (hid M H) (hid M' H') → (∀ a ∈ ft, H' a = H a) → TempsOk K M0 M' H' σ τ ft
  | _, _, .nil, _, _ => .nil
  | _, _, .cons h t n, sm, k => .cons (h.frame sm fun a ha => k a (List.mem_append_left _ ha)) (TempsOk.frame t sm fun a ha => k a (List.mem_append_right _ ha)) n
theorem SlotsOk.frame {f : Nat → List Addr} (h : SlotsOk K M0 M H σ ρ f) (sm : Same (hid M H) (hid M' H')) (k : ∀ i, ∀ a ∈ f i, H' a = H a) : SlotsOk K M0 M' H' σ ρ f :=
  ⟨fun i av e => let ⟨n, v, e1, q⟩ := h.at_ i av e; ⟨n, v, e1, q.frame sm (k i)⟩, h.dis, h.non⟩

theorem TabsOk.grow (T : TabsOk G M H) (sm : Same (hid M H) (hid M' H')) (sub : ∀ a, G.tab a → a ∈ M') (k : ∀ a, G.tab a → H' a = H a) : TabsOk G M' H' := by
  refine ⟨fun P hP => ⟨sub P (.inl hP), ?_⟩, fun p hp => ?_⟩
  · obtain ⟨_, ps, e, t⟩ := T.t P hP
    exact ⟨ps, (k P (.inl hP)).trans e, t⟩
  · have hm : G.tab p.1 := .inr (List.mem_map_of_mem hp)
    obtain ⟨_, ps, e, t, c⟩ := T.l p hp
    exact ⟨sub _ hm, ps, (k _ hm).trans e, t, fun pos cv h => let ⟨c0, q1, q2⟩ := c pos cv h; ⟨c0, q1, sm _ _ q2⟩⟩

/-- nothing owned is a table -/
theorem Sem.notab (S : Sem G K B M τ σ ρ H) {a : Addr} (h : a ∈ M ∧ (a ∈ B.M0 → a ∈ B.pf)) : ¬ G.tab a := fun t => (S.tm a t).2 (h.2 (S.tm a t).1)
theorem Sem.tabM (S : Sem G K B M τ σ ρ H) {a : Addr} (t : G.tab a) : a ∈ M := S.sub a (S.tm a t).1

/-- the state goes on: what is owned stays -/
theorem Sem.grow (S : Sem G K B M τ σ ρ H) (sm : Same (hid M H) (hid M' H')) (k : ∀ a ∈ M, ¬ G.tab a → H' a = H a) (sub : ∀ a ∈ M, a ∈ M') (al : ∀ a ∈ M', H' a ≠ none) (T : TabsOk G M' H') : Sem G K B M' τ σ ρ H' := by
  obtain ⟨f, ft, s1, t1, n1, o1, o2⟩ := S.own
  exact ⟨⟨f, ft, s1.frame sm fun i a ha => k a (o1 i a ha).1 (S.notab (o1 i a ha)), t1.frame sm fun a ha => k a (o2 a ha).1 (S.notab (o2 a ha)), n1, fun i a ha => ⟨sub a (o1 i a ha).1, (o1 i a ha).2⟩, fun a ha => ⟨sub a (o2 a ha).1, (o2 a ha).2⟩⟩,
    S.keep.trans sm, fun a ha => sub a (S.sub a ha), fun a ha hp ht => (k a (S.sub a ha) ht).trans (S.old a ha hp ht), al, T, S.tm, S.len⟩
theorem Sem.notM (S : Sem G K B M τ σ ρ H) {p : Addr} (hp : H p = none) : p ∉ M := fun h => S.al p h hp
theorem same_new {p : Addr} {o : HO} (hp : H p = none) : Same (hid M H) (hid M (upd H p o)) := fun a u e => by
  obtain ⟨n, e⟩ := hid_some e
  rw [hid_out n, upd_ne (ne_of_none e hp)]
  exact e
/-- a new object that will not change -/
theorem Sem.new (S : Sem G K B M τ σ ρ H) {p : Addr} {o : HO} (hp : H p = none) : Sem G K B M τ σ ρ (upd H p o) := by
  have np := S.notM hp
  have e : ∀ a ∈ M, upd H p o a = H a := fun a ha => upd_ne fun z => np (z ▸ ha)
  exact S.grow (same_new hp) (fun a ha _ => e a ha) (fun _ h => h) (fun a ha => by rw [e a ha]; exact S.al a ha) (S.tabs.grow (same_new hp) (fun a t => S.tabM t) fun a t => e a (S.tabM t))
theorem Sem.push (S : Sem G K B M τ σ ρ H) (h : Dq (hid M H) v d) : Sem G K B M ((v, .dat d) :: τ) σ ρ H := by
  obtain ⟨f, ft, s1, t1, n1, o1, o2⟩ := S.own
  exact ⟨⟨f, [] ++ ft, s1, .cons ⟨rfl, h⟩ t1 (by simp), n1, o1, o2⟩, S.keep, S.sub, S.old, S.al, S.tabs, S.tm, S.len⟩
theorem Sem.pushAls (S : Sem G K B M τ σ ρ H) {i : Nat} (h : σ[i]? = some (some v)) : Sem G K B M ((v, .als i) :: τ) σ ρ H := by
  obtain ⟨f, ft, s1, t1, n1, o1, o2⟩ := S.own
  exact ⟨⟨f, [] ++ ft, s1, .cons ⟨rfl, h⟩ t1 (by simp), n1, o1, o2⟩, S.keep, S.sub, S.old, S.al, S.tabs, S.tm, S.len⟩
theorem Sem.pop {x : V × AV} (S : Sem G K B M (x :: τ) σ ρ H) : Sem G K B M τ σ ρ H := by
  obtain ⟨f, ft, s1, t1, n1, o1, o2⟩ := S.own
  cases t1 with
  | cons h t n =>
    exact ⟨⟨f, _, s1, t, fun i a ha z => n1 i a ha (List.mem_append_right _ z), o1, fun a ha => o2 a (List.mem_append_right _ ha)⟩, S.keep, S.sub, S.old, S.al, S.tabs, S.tm, S.len⟩
theorem Sem.pop2 {x y : V × AV} (S : Sem G K B M (x :: y :: τ) σ ρ H) : Sem G K B M (x :: τ) σ ρ H := by
  obtain ⟨f, ft, s1, t1, n1, o1, o2⟩ := S.own
  cases t1 with
  | cons h t n =>
    cases t with
    | cons h' t n' =>
      refine ⟨⟨f, _, s1, .cons h t fun a ha z => n a ha (List.mem_append_right _ z), fun i a ha z => ?_, o1, fun a ha => ?_⟩, S.keep, S.sub, S.old, S.al, S.tabs, S.tm, S.len⟩
      · refine n1 i a ha ?_
        rcases List.mem_append.mp z with z | z
        · exact List.mem_append_left _ z
        · exact List.mem_append_right _ (List.mem_append_right _ z)
      · refine o2 a ?_
        rcases List.mem_append.mp ha with z | z
        · exact List.mem_append_left _ z
        · exact List.mem_append_right _ (List.mem_append_right _ z)
theorem Sem.popL {x : V × AV} : ∀ {l : List (V × AV)}, Sem G K B M (x :: (l ++ τ)) σ ρ H → Sem G K B M (x :: τ) σ ρ H
  | [], S => S
  | _ :: l, S => Sem.popL (l := l) S.pop2
theorem Sem.popA : ∀ {l : List (V × AV)}, Sem G K B M (l ++ τ) σ ρ H → Sem G K B M τ σ ρ H
  | [], S => S
  | _ :: l, S => Sem.popA (l := l) S.pop
theorem Sem.headD (S : Sem G K B M ((v, .dat d) :: τ) σ ρ H) : Dq (hid M H) v d := by
  obtain ⟨f, ft, s1, t1, _⟩ := S.own
  cases t1 with
  | cons h t n => exact h.2
theorem Sem.headA {i : Nat} (S : Sem G K B M ((v, .als i) :: τ) σ ρ H) : σ[i]? = some (some v) := by
  obtain ⟨f, ft, s1, t1, _⟩ := S.own
  cases t1 with
  | cons h t n => exact h.2
theorem Sem.slotD {i : Nat} (S : Sem G K B M τ σ ρ H) (h : ρ[i]? = some (some (.dat d))) : ∃ v, σ[i]? = some (some v) ∧ Dq (hid M H) v d := by
  obtain ⟨f, ft, s1, _⟩ := S.own
  obtain ⟨_, v, e, q⟩ := s1.at_ i _ h
  exact ⟨v, e, q.2⟩
theorem Sem.slotV {i : Nat} (S : Sem G K B M τ σ ρ H) (h : ρ[i]? = some (some av)) : ∃ v, σ[i]? = some (some v) := by
  obtain ⟨f, ft, s1, _⟩ := S.own
  obtain ⟨_, v, e, q⟩ := s1.at_ i _ h
  exact ⟨v, e⟩
/-- a list in a slot -/
theorem Sem.slotF {i : Nat} (S : Sem G K B M τ σ ρ H) (h : ρ[i]? = some (some (.flat ds))) : ∃ l vs, σ[i]? = some (some (.ref l)) ∧ H l = some (.lst vs) ∧ DqAll (hid M H) vs ds := by
  obtain ⟨f, ft, s1, _⟩ := S.own
  obtain ⟨_, v, e, l, vs, rfl, _, _, e2, e3⟩ := s1.at_ i _ h
  exact ⟨l, vs, e, e2, e3⟩
/-- a new list of one's own -/
theorem Sem.pushNew (S : Sem G K B M τ σ ρ H) {p : Addr} {o : HO} (hp : H p = none) (h : ∀ (H' : Hp) (M' : List Addr), Same (hid M H) (hid M' H') → H' p = some o → p ∉ B.M0 → AVat K B.M0 M' H' σ av (.ref p) [p]) : Sem G K B (p :: M) ((.ref p, av) :: τ) σ ρ (upd H p o) := by
  have np := S.notM hp
  have sm : Same (hid M H) (hid (p :: M) (upd H p o)) := fun a u e => by
    obtain ⟨n, e⟩ := hid_some e
    have ne := ne_of_none e hp
    rw [hid_out (by simp [ne, n]), upd_ne ne]
    exact e
  have e : ∀ a ∈ M, upd H p o a = H a := fun a ha => upd_ne fun z => np (z ▸ ha)
  have al : ∀ a ∈ p :: M, upd H p o a ≠ none := fun a ha => by
    rcases List.mem_cons.mp ha with rfl | ha
    · rw [upd_same]; simp
    · rw [e a ha]; exact S.al a ha
  have S' : Sem G K B (p :: M) τ σ ρ (upd H p o) := S.grow sm (fun a ha _ => e a ha) (fun a ha => List.mem_cons_of_mem _ ha) al (S.tabs.grow sm (fun a t => List.mem_cons_of_mem _ (S.tabM t)) fun a t => e a (S.tabM t))
  obtain ⟨f0, ft0, _, _, _, o10, o20⟩ := S.own
  have np0 : p ∉ B.M0 := fun z => np (S.sub p z)
  obtain ⟨f, ft, s1, t1, n1, o1, o2⟩ := S.own
  have s1' := s1.frame sm fun i a ha => e a (o1 i a ha).1
  have t1' := t1.frame sm fun a ha => e a (o2 a ha).1
  refine ⟨⟨f, [p] ++ ft, s1', .cons (h _ _ sm upd_same np0) t1' fun a ha z => ?_, fun i a ha z => ?_, fun i a ha => ⟨List.mem_cons_of_mem _ (o1 i a ha).1, (o1 i a ha).2⟩, fun a ha => ?_⟩, S'.keep, S'.sub, S'.old, S'.al, S'.tabs, S'.tm, S'.len⟩
  · have : a = p := by simpa using ha
    subst this
    exact np (o2 a z).1
  · rcases List.mem_append.mp z with z | z
    · have : a = p := by simpa using z
      subst this
      exact np (o1 i a ha).1
    · exact n1 i a ha z
  · rcases List.mem_append.mp ha with z | z
    · have : a = p := by simpa using z
      subst this
      exact ⟨List.mem_cons_self, fun z => absurd z np0⟩
    · exact ⟨List.mem_cons_of_mem _ (o2 a z).1, (o2 a z).2⟩
theorem Sem.pushFlat (S : Sem G K B M τ σ ρ H) {p : Addr} {vs : List V} (hp : H p = none) (h : DqAll (hid M H) vs ds) : Sem G K B (p :: M) ((.ref p, .flat ds) :: τ) σ ρ (upd H p (.lst vs)) :=
  S.pushNew hp fun H' M' sm e np => ⟨p, vs, rfl, rfl, np, e, dpa_mono sm _ _ h⟩
/-- dropping an address from what may change: it is frozen -/
theorem same_less {l : Addr} : Same (hid M H) (hid (M.filter fun a => decide (a ≠ l)) H) := fun a u e => by
  obtain ⟨n, e⟩ := hid_some e
  rw [hid_out fun z => n (List.mem_filter.mp z).1]
  exact e
theorem mem_less {l a : Addr} (h : a ∈ M) (n : a ≠ l) : a ∈ M.filter fun a => decide (a ≠ l) := List.mem_filter.mpr ⟨h, decide_eq_true n⟩
theorem Sem.less {l : Addr} (S : Sem G K B M τ σ ρ H) (hl : l ∉ B.M0) (h1 : ∀ (f : Nat → List Addr) (ft : List Addr), SlotsOk K B.M0 M H σ ρ f → TempsOk K B.M0 M H σ τ ft → (∀ i a, a ∈ f i → a ∉ ft) → (∀ i a, a ∈ f i → a ∈ M ∧ (a ∈ B.M0 → a ∈ B.pf)) → (∀ a ∈ ft, a ∈ M ∧ (a ∈ B.M0 → a ∈ B.pf)) → (∀ i, l ∉ f i) ∧ l ∉ ft) :
    Sem G K B (M.filter fun a => decide (a ≠ l)) τ σ ρ H := by
  obtain ⟨f, ft, s1, t1, n1, o1, o2⟩ := S.own
  obtain ⟨z1, z2⟩ := h1 f ft s1 t1 n1 o1 o2
  have tl : ∀ a, G.tab a → a ≠ l := fun a t e => hl (e ▸ (S.tm a t).1)
  exact ⟨⟨f, ft, s1.frame same_less fun _ _ _ => rfl, t1.frame same_less fun _ _ => rfl, n1, fun i a ha => ⟨mem_less (o1 i a ha).1 fun e => z1 i (e ▸ ha), (o1 i a ha).2⟩, fun a ha => ⟨mem_less (o2 a ha).1 fun e => z2 (e ▸ ha), (o2 a ha).2⟩⟩,
    S.keep.trans same_less, fun a ha => mem_less (S.sub a ha) fun e => hl (e ▸ ha), S.old, fun a ha => S.al a (List.mem_filter.mp ha).1, S.tabs.grow same_less (fun a t => mem_less (S.tabM t) (tl a t)) fun _ _ => rfl, S.tm, S.len⟩
/-- a list just made becomes data -/
theorem Sem.freeze (S : Sem G K B M ((v, .flat ds) :: τ) σ ρ H) : ∃ M', Sem G K B M' ((v, .dat (.list ds)) :: τ) σ ρ H := by
  obtain ⟨f, ft, s1, t1, n1, o1, o2⟩ := S.own
  cases t1 with
  | @cons _ _ fp fs _ h t n =>
    obtain ⟨l, vs, rfl, rfl, hl, e, q⟩ := h
    have S1 : Sem G K B M τ σ ρ H := ⟨⟨f, fs, s1, t, fun i a ha z => n1 i a ha (List.mem_append_right _ z), o1, fun a ha => o2 a (List.mem_append_right _ ha)⟩, S.keep, S.sub, S.old, S.al, S.tabs, S.tm, S.len⟩
    have hlf : l ∉ fs := n l (by simp)
    have hls : ∀ i, l ∉ f i := fun i z => n1 i l z (by simp)
    have tl : ∀ a, G.tab a → a ≠ l := fun a t e => hl (e ▸ (S.tm a t).1)
    have S2 : Sem G K B (M.filter fun a => decide (a ≠ l)) τ σ ρ H :=
      ⟨⟨f, fs, s1.frame same_less fun _ _ _ => rfl, t.frame same_less fun _ _ => rfl, fun i a ha z => n1 i a ha (List.mem_append_right _ z), fun i a ha => ⟨mem_less (o1 i a ha).1 fun e => hls i (e ▸ ha), (o1 i a ha).2⟩, fun a ha => ⟨mem_less (o2 a (List.mem_append_right _ ha)).1 fun e => hlf (e ▸ ha), (o2 a (List.mem_append_right _ ha)).2⟩⟩,
        S.keep.trans same_less, fun a ha => mem_less (S.sub a ha) fun e => hl (e ▸ ha), S.old, fun a ha => S.al a (List.mem_filter.mp ha).1, S.tabs.grow same_less (fun a t => mem_less (S.tabM t) (tl a t)) fun _ _ => rfl, S.tm, S.len⟩
    refine ⟨_, S2.push (.lst ?_ (dpa_mono same_less _ _ q))⟩
    rw [hid_out (fun z => by have q := (List.mem_filter.mp z).2; simp at q)]
    exact e

/-! ### slots -/
/-- what is told of the slots may be less -/
def Weak (ρ ρ' : Ev) : Prop := ρ'.length = ρ.length ∧ ∀ (i : Nat) (av : AV), ρ'[i]? = some (some av) → ρ[i]? = some (some av)
theorem Weak.refl (ρ : Ev) : Weak ρ ρ := ⟨rfl, fun _ _ h => h⟩
theorem Weak.trans {ρ1 ρ2 ρ3 : Ev} (a : Weak ρ1 ρ2) (b : Weak ρ2 ρ3) : Weak ρ1 ρ3 := ⟨b.1.trans a.1, fun i av h => a.2 i av (b.2 i av h)⟩
theorem Weak.nil : Weak [] [] := .refl _
theorem Weak.keep {x : Option AV} (h : Weak ρ ρ') : Weak (x :: ρ) (x :: ρ') := ⟨by simp [h.1], fun i av e => by
  cases i with
  | zero => exact e
  | succ i => exact h.2 i av (by simpa using e)⟩
theorem Weak.drop {x : Option AV} (h : Weak ρ ρ') : Weak (x :: ρ) (none :: ρ') := ⟨by simp [h.1], fun i av e => by
  cases i with
  | zero => simp at e
  | succ i => exact h.2 i av (by simpa using e)⟩
theorem Weak.set {i : Nat} : Weak ρ (ρ.set i none) := ⟨by simp, fun j av e => by
  by_cases h : i = j
  · subst h
    by_cases q : i < ρ.length
    · rw [List.getElem?_set_self q] at e; simp at e
    · rw [List.getElem?_eq_none (by simpa using q)] at e; cases e
  · rwa [List.getElem?_set_ne h] at e⟩
theorem Sem.weak (S : Sem G K B M τ σ ρ H) (w : Weak ρ ρ') : Sem G K B M τ σ ρ' H := by
  classical
  obtain ⟨f, ft, s1, t1, n1, o1, o2⟩ := S.own
  refine ⟨⟨fun i => if (∃ av, ρ'[i]? = some (some av)) then f i else [], ft, ⟨fun i av e => ?_, fun i j a hi hj => ?_, fun i h => ?_⟩, t1, fun i a ha => ?_, fun i a ha => ?_, o2⟩, S.keep, S.sub, S.old, S.al, S.tabs, S.tm, S.len.trans w.1.symm⟩
  · rw [if_pos ⟨av, e⟩]
    exact s1.at_ i av (w.2 i av e)
  · try dsimp only at hi hj
    split at hi
    · split at hj
      · exact s1.dis i j a hi hj
      · cases hj
    · cases hi
  · exact if_neg fun ⟨av, e⟩ => h av e
  · try dsimp only at ha
    split at ha
    · exact n1 i a ha
    · cases ha
  · try dsimp only at ha
    split at ha
    · exact o1 i a ha
    · cases ha
def Dats (τ : List (V × AV)) : Prop := ∀ x ∈ τ, x.2.isAls = false
theorem TempsOk.slots : ∀ {τ : List (V × AV)} {ft : List Addr}, Dats τ → TempsOk K M0 M H σ τ ft → TempsOk K M0 M H σ' τ ft
  | _, _, _, .nil => .nil
  | _, _, dd, .cons h t n => .cons (h.slots (dd _ List.mem_cons_self)) (TempsOk.slots (fun x hx => dd x (List.mem_cons_of_mem _ hx)) t) n
/-- the temporary goes into a slot -/
theorem Sem.set {i : Nat} (S : Sem G K B M ((v, av) :: τ) σ ρ H) (na : av.isAls = false) (dd : Dats τ) : Sem G K B M τ (σ.set i (some v)) (ρ.set i (some av)) H := by
  obtain ⟨f, ft, s1, t1, n1, o1, o2⟩ := S.own
  cases t1 with
  | @cons _ _ fp fs _ h t n =>
    by_cases hi : i < ρ.length
    · have hiσ : i < σ.length := by rw [S.len]; exact hi
      refine ⟨⟨fun j => if j = i then fp else f j, fs, ⟨fun j av' e => ?_, fun j k a ha hb => ?_, fun j hj => ?_⟩, t.slots dd, fun j a ha => ?_, fun j a ha => ?_, fun a ha => o2 a (List.mem_append_right _ ha)⟩, S.keep, S.sub, S.old, S.al, S.tabs, S.tm, by simpa using S.len⟩
      · by_cases hj : j = i
        · subst hj
          rw [List.getElem?_set_self hi] at e
          have e' : av = av' := Option.some.inj (Option.some.inj e)
          subst e'
          refine ⟨na, v, List.getElem?_set_self hiσ, ?_⟩
          rw [if_pos rfl]
          exact h.slots na
        · rw [List.getElem?_set_ne (Ne.symm hj)] at e
          obtain ⟨n', v', e1, q⟩ := s1.at_ j av' e
          refine ⟨n', v', by rw [List.getElem?_set_ne (Ne.symm hj)]; exact e1, ?_⟩
          rw [if_neg hj]
          exact q.slots n'
      · try dsimp only at ha hb
        split at ha <;> split at hb
        · rename_i e1 e2; rw [e1, e2]
        · exact absurd (List.mem_append_left _ ha) (n1 k a hb)
        · exact absurd (List.mem_append_left _ hb) (n1 j a ha)
        · exact s1.dis j k a ha hb
      · try dsimp only
        split
        · rename_i e
          subst e
          exact absurd (List.getElem?_set_self hi) (hj av)
        · rename_i e
          refine s1.non j fun av' e' => hj av' ?_
          rw [List.getElem?_set_ne (Ne.symm e)]
          exact e'
      · try dsimp only at ha
        split at ha
        · exact n a ha
        · exact fun z => n1 j a ha (List.mem_append_right _ z)
      · try dsimp only at ha
        split at ha
        · exact o2 a (List.mem_append_left _ ha)
        · exact o1 j a ha
    · have e1 : ρ.set i (some av) = ρ := List.set_eq_of_length_le (by omega)
      have e2 : σ.set i (some v) = σ := List.set_eq_of_length_le (by rw [S.len]; omega)
      rw [e1, e2]
      exact S.pop
/-- an owned thing leaves its slot -/
theorem Sem.takeV {i : Nat} (S : Sem G K B M τ σ ρ H) (h : ρ[i]? = some (some av)) : ∃ v, σ[i]? = some (some v) ∧ Sem G K B M ((v, av) :: τ) σ (ρ.set i none) H := by
  obtain ⟨f, ft, s1, t1, n1, o1, o2⟩ := S.own
  obtain ⟨na, v, e, q⟩ := s1.at_ i av h
  refine ⟨v, e, ⟨fun j => if j = i then [] else f j, f i ++ ft, ⟨fun j av' e' => ?_, fun j k a ha hb => ?_, fun j hj => ?_⟩, .cons q t1 fun a ha => n1 i a ha, fun j a ha z => ?_, fun j a ha => ?_, fun a ha => ?_⟩, S.keep, S.sub, S.old, S.al, S.tabs, S.tm, by simpa using S.len⟩
  · have hj : j ≠ i := fun z => by
      subst z
      have hi : j < ρ.length := (List.getElem?_eq_some_iff.mp h).1
      rw [List.getElem?_set_self hi] at e'
      simp at e'
    rw [List.getElem?_set_ne (Ne.symm hj)] at e'
    rw [if_neg hj]
    exact s1.at_ j av' e'
  · try dsimp only at ha hb
    split at ha
    · cases ha
    · split at hb
      · cases hb
      · exact s1.dis j k a ha hb
  · try dsimp only
    split
    · rfl
    · rename_i e'
      refine s1.non j fun av' q' => hj av' ?_
      rw [List.getElem?_set_ne (Ne.symm e')]
      exact q'
  · try dsimp only at ha
    split at ha
    · cases ha
    · rename_i e'
      rcases List.mem_append.mp z with z | z
      · exact e' (s1.dis j i a ha z)
      · exact n1 j a ha z
  · try dsimp only at ha
    split at ha
    · cases ha
    · exact o1 j a ha
  · rcases List.mem_append.mp ha with z | z
    · exact o1 i a z
    · exact o2 a z
/-- .. and comes back, changed -/
theorem Sem.backV {i : Nat} (S : Sem G K B M ((v, av) :: τ) σ ρ H) (na : av.isAls = false) (hv : σ[i]? = some (some v)) : Sem G K B M τ σ (ρ.set i (some av)) H := by
  obtain ⟨f, ft, s1, t1, n1, o1, o2⟩ := S.own
  cases t1 with
  | @cons _ _ fp fs _ h t n =>
    by_cases hi : i < ρ.length
    · refine ⟨⟨fun j => if j = i then fp else f j, fs, ⟨fun j av' e => ?_, fun j k a ha hb => ?_, fun j hj => ?_⟩, t, fun j a ha => ?_, fun j a ha => ?_, fun a ha => o2 a (List.mem_append_right _ ha)⟩, S.keep, S.sub, S.old, S.al, S.tabs, S.tm, by simpa using S.len⟩
      · by_cases hj : j = i
        · subst hj
          rw [List.getElem?_set_self hi] at e
          have e' : av = av' := Option.some.inj (Option.some.inj e)
          subst e'
          refine ⟨na, v, hv, ?_⟩
          rw [if_pos rfl]
          exact h
        · rw [List.getElem?_set_ne (Ne.symm hj)] at e
          rw [if_neg hj]
          exact s1.at_ j av' e
      · try dsimp only at ha hb
        split at ha <;> split at hb
        · rename_i e1 e2; rw [e1, e2]
        · exact absurd (List.mem_append_left _ ha) (n1 k a hb)
        · exact absurd (List.mem_append_left _ hb) (n1 j a ha)
        · exact s1.dis j k a ha hb
      · try dsimp only
        split
        · rename_i e
          subst e
          exact absurd (List.getElem?_set_self hi) (hj av)
        · rename_i e
          refine s1.non j fun av' e' => hj av' ?_
          rw [List.getElem?_set_ne (Ne.symm e)]
          exact e'
      · try dsimp only at ha
        split at ha
        · exact n a ha
        · exact fun z => n1 j a ha (List.mem_append_right _ z)
      · try dsimp only at ha
        split at ha
        · exact o2 a (List.mem_append_left _ ha)
        · exact o1 j a ha
    · have e1 : ρ.set i (some av) = ρ := List.set_eq_of_length_le (by omega)
      rw [e1]
      exact S.pop
/-- an own list at the head is changed -/
theorem Sem.mutHead {l : Addr} {o : HO} {av' : AV} (S : Sem G K B M ((.ref l, av) :: τ) σ ρ H) (ho : H l ≠ none) (hm : l ∈ M) (h1 : ∀ fp, AVat K B.M0 M H σ av (.ref l) fp → l ∈ fp ∧ AVat K B.M0 M (upd H l o) σ av' (.ref l) fp) : Sem G K B M ((.ref l, av') :: τ) σ ρ (upd H l o) := by
  obtain ⟨f, ft, s1, t1, n1, o1, o2⟩ := S.own
  cases t1 with
  | @cons _ _ fp fs _ h t n =>
    obtain ⟨hl, h'⟩ := h1 fp h
    have own := o2 l (List.mem_append_left _ hl)
    have nt := S.notab own
    have sm : Same (hid M H) (hid M (upd H l o)) := fun a u e => by
      obtain ⟨nm, e⟩ := hid_some e
      have ne : a ≠ l := fun z => nm (z ▸ hm)
      rw [hid_out nm, upd_ne ne]
      exact e
    refine ⟨⟨f, _, s1.frame sm fun i a ha => upd_ne fun z => n1 i a ha (List.mem_append_left _ (z ▸ hl)), .cons h' (t.frame sm fun a ha => upd_ne fun z => n l hl (z ▸ ha)) n, n1, o1, o2⟩, S.keep.trans sm, S.sub, fun a ha hp ht => ?_, fun a ha => ?_, S.tabs.grow sm (fun a t => S.tabM t) fun a t => upd_ne fun z => nt (z ▸ t), S.tm, S.len⟩
    · have ne : a ≠ l := fun z => hp (z ▸ own.2 (z ▸ ha))
      rw [upd_ne ne]
      exact S.old a ha hp ht
    · by_cases z : a = l
      · rw [z, upd_same]; simp
      · rw [upd_ne z]; exact S.al a ha
theorem Sem.headF (S : Sem G K B M ((v, .flat ds) :: τ) σ ρ H) : ∃ l vs, v = .ref l ∧ l ∈ M ∧ H l = some (.lst vs) ∧ DqAll (hid M H) vs ds := by
  obtain ⟨f, ft, s1, t1, n1, o1, o2⟩ := S.own
  cases t1 with
  | cons h t n =>
    obtain ⟨l, vs, rfl, rfl, hl, e, q⟩ := h
    exact ⟨l, vs, rfl, (o2 l (by simp)).1, e, q⟩
theorem Sem.mutF {l : Addr} {vs' : List V} {ds' : List PyData} (S : Sem G K B M ((.ref l, .flat ds) :: τ) σ ρ H) (h : DqAll (hid M H) vs' ds') : Sem G K B M ((.ref l, .flat ds') :: τ) σ ρ (upd H l (.lst vs')) := by
  obtain ⟨l', vs, e, hm, e1, e2⟩ := S.headF
  cases e
  refine S.mutHead (by rw [e1]; simp) hm fun fp hh => ?_
  obtain ⟨l2, vs2, e, rfl, hl, e3, q⟩ := hh
  cases e
  refine ⟨by simp, l, vs', rfl, rfl, hl, upd_same, dpa_mono (fun a u e => ?_) _ _ h⟩
  obtain ⟨nm, e⟩ := hid_some e
  have ne : a ≠ l := fun z => nm (z ▸ hm)
  rw [hid_out nm, upd_ne ne]
  exact e
/-- a list in a slot is changed -/
theorem Sem.mutS {i : Nat} (S : Sem G K B M τ σ ρ H) (h : ρ[i]? = some (some (.flat ds))) : ∃ l vs, σ[i]? = some (some (.ref l)) ∧ H l = some (.lst vs) ∧ DqAll (hid M H) vs ds ∧ ∀ vs' ds', DqAll (hid M H) vs' ds' → Sem G K B M τ σ (ρ.set i (some (.flat ds'))) (upd H l (.lst vs')) := by
  obtain ⟨v, e, S1⟩ := S.takeV h
  obtain ⟨l, vs, rfl, hm, e1, e2⟩ := S1.headF
  refine ⟨l, vs, e, e1, e2, fun vs' ds' q => ?_⟩
  have S2 := (S1.mutF q).backV rfl e
  rwa [List.set_set] at S2
/-- a list in a slot becomes data -/
theorem Sem.frzS {i : Nat} (S : Sem G K B M τ σ ρ H) (h : ρ[i]? = some (some (.flat ds))) : ∃ M', Sem G K B M' τ σ (ρ.set i (some (.dat (.list ds)))) H := by
  obtain ⟨v, e, S1⟩ := S.takeV h
  obtain ⟨M', S2⟩ := S1.freeze
  have S3 := S2.backV rfl e
  rw [List.set_set] at S3
  exact ⟨M', S3⟩
end
end TW
end
section
set_option Elab.async false
set_option linter.all false
set_option maxRecDepth 100000
set_option maxHeartbeats 1000000
/-! The layer, 3: expressions. -/
namespace TW
open PySem PySem.Spec PyProof.Rows L2

/-! ### readings of a piece of syntax by itself -/
def tE (X : Cx) (e : Expr) : TE := fun σ H Q => ∀ pins s, Inv X pins σ H s → wpAny (model X.prog X.w) X.A (eval e X.env) (EP X pins σ Q) X.xe s
def tT (X : Cx) (e : Expr) : TT := fun σ H Q => ∀ pins s, Inv X pins σ H s → wpAny (model X.prog X.w) X.A (isTrue e X.env (eval e X.env)) (TP X pins σ Q) X.xe s
def tA (X : Cx) (es : List Expr) : TA := fun σ H Q => ∀ (pos : Pos) pins s, Inv X pins σ H s → wpAny (model X.prog X.w) X.A (spliced (backTo pos (starEach es X.env))) (AP X pins σ Q) X.xe s
def tW (X : Cx) (e : Expr) : TT := fun σ H Q => ∀ (whole : PySem.Sem Value) pins s, Inv X pins σ H s → wpAny (model X.prog X.w) X.A (isTrue e X.env whole) (TP X pins σ Q) X.xe s
def tO (X : Cx) (e : Option Expr) : TO := fun σ H Q => ∀ pins s, Inv X pins σ H s → wpAny (model X.prog X.w) X.A (evalPart e X.env) (fun u s' => ∃ o H', Inv X pins σ H' s' ∧ IsPart u o ∧ Q o H') X.xe s
section
variable {X : Cx} {e : Expr} {es : List Expr} {oe : Option Expr} {σ : L2.St} {H : Hp}
theorem pE : PE X e (tE X e) := ⟨fun pins s σ H Q I h => h pins s I⟩
theorem pT : PT X e (tT X e) := ⟨fun pins s σ H Q I h => h pins s I⟩
theorem pA : PA X es (tA X es) := ⟨fun pos pins s σ H Q I h => h pos pins s I⟩
theorem pW : PW X e (tW X e) := ⟨fun wh pins s σ H Q I h => h wh pins s I⟩
theorem pO : PO X oe (tO X oe) := ⟨fun pins s σ H Q I h => h pins s I⟩
theorem toE {t : TE} {Q : VK} (p : PE X e t) (h : t σ H Q) : tE X e σ H Q := fun pins s I => p.run pins s σ H Q I h
theorem toT {t : TT} {Q : Bool → Hp → Prop} (p : PT X e t) (h : t σ H Q) : tT X e σ H Q := fun pins s I => p.run pins s σ H Q I h
theorem toA {t : TA} {Q : List V → Hp → Prop} (p : PA X es t) (h : t σ H Q) : tA X es σ H Q := fun pos pins s I => p.run pos pins s σ H Q I h
theorem toW {t : TT} {Q : Bool → Hp → Prop} (p : PW X e t) (h : t σ H Q) : tW X e σ H Q := fun wh pins s I => p.run wh pins s σ H Q I h
theorem toO {t : TO} {Q : Option Int → Hp → Prop} (p : PO X oe t) (h : t σ H Q) : tO X oe σ H Q := fun pins s I => p.run pins s σ H Q I h
end

/-! ### what evaluates to what -/
abbrev Tmp := List (V × AV)
def EV (G : Glb) (K : PySem.W.Frag) (te : TE) (ρ : Ev) (av : AV) (ρ' : Ev) : Prop :=
  ∀ (B : Bas) (M : List Addr) (τ : Tmp) (σ : L2.St) (H : Hp), Sem G K B M τ σ ρ H → ∀ Q : VK, (∀ v M' H', Sem G K B M' ((v, av) :: τ) σ ρ' H' → Q v H') → te σ H Q
def ET (G : Glb) (K : PySem.W.Frag) (tt : TT) (ρ : Ev) (b : Bool) (ρ' : Ev) : Prop :=
  ∀ (B : Bas) (M : List Addr) (τ : Tmp) (σ : L2.St) (H : Hp), Sem G K B M τ σ ρ H → ∀ Q : Bool → Hp → Prop, (∀ M' H', Sem G K B M' τ σ ρ' H' → Q b H') → tt σ H Q
def EA (G : Glb) (K : PySem.W.Frag) (ta : TA) (ρ : Ev) (avs : List AV) (ρ' : Ev) : Prop :=
  ∀ (B : Bas) (M : List Addr) (τ : Tmp) (σ : L2.St) (H : Hp), Sem G K B M τ σ ρ H → ∀ Q : List V → Hp → Prop, (∀ vs M' H', vs.length = avs.length → Sem G K B M' ((vs.zip avs).reverse ++ τ) σ ρ' H' → Q vs H') → ta σ H Q
def EO (G : Glb) (K : PySem.W.Frag) (to : TO) (ρ : Ev) (o : Option Int) (ρ' : Ev) : Prop :=
  ∀ (B : Bas) (M : List Addr) (τ : Tmp) (σ : L2.St) (H : Hp), Sem G K B M τ σ ρ H → ∀ Q : Option Int → Hp → Prop, (∀ M' H', Sem G K B M' τ σ ρ' H' → Q o H') → to σ H Q
abbrev DE (G : Glb) (X : Cx) (e : Expr) (ρ : Ev) (av : AV) (ρ' : Ev) : Prop := EV G X.K (tE X e) ρ av ρ'
abbrev DT (G : Glb) (X : Cx) (e : Expr) (ρ : Ev) (b : Bool) (ρ' : Ev) : Prop := ET G X.K (tT X e) ρ b ρ'
abbrev DW (G : Glb) (X : Cx) (e : Expr) (ρ : Ev) (b : Bool) (ρ' : Ev) : Prop := ET G X.K (tW X e) ρ b ρ'
abbrev DA (G : Glb) (X : Cx) (es : List Expr) (ρ : Ev) (avs : List AV) (ρ' : Ev) : Prop := EA G X.K (tA X es) ρ avs ρ'
abbrev DO (G : Glb) (X : Cx) (oe : Option Expr) (ρ : Ev) (o : Option Int) (ρ' : Ev) : Prop := EO G X.K (tO X oe) ρ o ρ'
/-- operations, calls of built-ins by values -/
def OP (G : Glb) (K : PySem.W.Frag) (r : R2) (ρ : Ev) (a1 a2 av : AV) (ρ' : Ev) : Prop :=
  ∀ (B : Bas) (M : List Addr) (τ : Tmp) (σ : L2.St) (H : Hp) (v1 v2 : V), Sem G K B M ((v2, a2) :: (v1, a1) :: τ) σ ρ H → ∀ Q : VK, (∀ v M' H', Sem G K B M' ((v, av) :: τ) σ ρ' H' → Q v H') → r v1 v2 H Q
def CP (G : Glb) (K : PySem.W.Frag) (r : List V → Hp → VK → Prop) (ρ : Ev) (avs : List AV) (av : AV) (ρ' : Ev) : Prop :=
  ∀ (B : Bas) (M : List Addr) (τ : Tmp) (σ : L2.St) (H : Hp) (vs : List V), vs.length = avs.length → Sem G K B M ((vs.zip avs).reverse ++ τ) σ ρ H → ∀ Q : VK, (∀ v M' H', Sem G K B M' ((v, av) :: τ) σ ρ' H' → Q v H') → r vs H Q

section
variable {G : Glb} {K : PySem.W.Frag} {B : Bas} {M M' : List Addr} {τ : Tmp} {σ σ' : L2.St} {ρ ρ' ρ1 ρ2 ρ3 : Ev} {H H' : Hp} {v : V} {av a1 a2 : AV} {d d1 d2 : PyData} {ds es : List PyData}

/-! ### what a sequence is -/
inductive SQ (ρ : Ev) : AV → List PyData → Prop
  | lst {ds : List PyData} : SQ ρ (.dat (.list ds)) ds
  | tup {ds : List PyData} : SQ ρ (.dat (.tuple ds)) ds
  | als {i : Nat} {ds : List PyData} : ρ[i]? = some (some (.flat ds)) → SQ ρ (.als i) ds
  | flat {ds : List PyData} : SQ ρ (.flat ds) ds
  | scr {ns : List Int} : SQ ρ (.scr ns) (ns.map PyData.int)
def SqAt (K : PySem.W.Frag) (M : List Addr) (H : Hp) (v : V) (ds : List PyData) : Prop := ∃ a xs, v = .ref a ∧ (SqL K H a xs ∨ SqT K H a xs) ∧ DqAll (hid M H) xs ds
theorem temps_mem : ∀ {τ : Tmp} {ft : List Addr} {M0 : List Addr}, TempsOk K M0 M H σ τ ft → (v, av) ∈ τ → ∃ fp, AVat K M0 M H σ av v fp
  | _, _, _, .cons h t _, hm => by
    rcases List.mem_cons.mp hm with e | hm
    · cases e; exact ⟨_, h⟩
    · exact temps_mem t hm
theorem Sem.mem (S : Sem G K B M τ σ ρ H) (h : (v, av) ∈ τ) : ∃ fp, AVat K B.M0 M H σ av v fp := by
  obtain ⟨f, ft, s1, t1, _⟩ := S.own
  exact temps_mem t1 h
theorem Sem.memD (S : Sem G K B M τ σ ρ H) (h : (v, AV.dat d) ∈ τ) : Dq (hid M H) v d := let ⟨_, q⟩ := S.mem h; q.2
theorem SQ.at_ (h : SQ ρ av ds) (S : Sem G K B M τ σ ρ H) (hm : (v, av) ∈ τ) : SqAt K M H v ds := by
  obtain ⟨fp, q⟩ := S.mem hm
  cases h with
  | lst =>
    cases q.2 with
    | lst e t => exact ⟨_, _, rfl, .inl (.of (hid_sub _ _ _ _ e)), t⟩
  | tup =>
    cases q.2 with
    | tup e t => exact ⟨_, _, rfl, .inr (.of (hid_sub _ _ _ _ e)), t⟩
  | als e =>
    obtain ⟨l, vs, e1, e2, e3⟩ := S.slotF e
    have e4 := q.2
    rw [e1] at e4
    cases e4
    exact ⟨_, _, rfl, .inl (.of e2), e3⟩
  | flat =>
    obtain ⟨l, vs, rfl, _, _, e, t⟩ := q
    exact ⟨_, _, rfl, .inl (.of e), t⟩
  | scr =>
    obtain ⟨_, a, rfl, e⟩ := q
    exact ⟨_, _, rfl, .inl ((hid_sub M H).seq e), dpa_ints _⟩

/-! ### names, constants -/
theorem ev_var {i : Nat} (h : ρ[i]? = some (some (.dat d))) : EV G K (tVar i) ρ (.dat d) ρ := fun B M τ σ H S Q q => let ⟨v, e, hd⟩ := S.slotD h; ⟨v, e, q v M H (S.push hd)⟩
theorem ev_als {i : Nat} (h : ρ[i]? = some (some av)) : EV G K (tVar i) ρ (.als i) ρ := fun B M τ σ H S Q q => let ⟨v, e⟩ := S.slotV h; ⟨v, e, q v M H (S.pushAls e)⟩
theorem ev_take {i : Nat} (h : ρ[i]? = some (some (.flat ds))) : EV G K (tVar i) ρ (.dat (.list ds)) (ρ.set i none) := fun B M τ σ H S Q q =>
  let ⟨v, e, S1⟩ := S.takeV h; let ⟨M', S2⟩ := S1.freeze; ⟨v, e, q v M' H S2⟩
theorem ev_mov {i : Nat} (h : ρ[i]? = some (some av)) : EV G K (tVar i) ρ av (ρ.set i none) := fun B M τ σ H S Q q =>
  let ⟨v, e, S1⟩ := S.takeV h; ⟨v, e, q v M H S1⟩
theorem ev_scr {i : Nat} {ns : List Int} (h : ρ[i]? = some (some (.scr ns))) : EV G K (tVar i) ρ (.scr ns) ρ := fun B M τ σ H S Q q => by
  obtain ⟨f, ft, s1, t1, n1, o1, o2⟩ := id S.own
  obtain ⟨_, v, e, e1, e2⟩ := s1.at_ i _ h
  exact ⟨v, e, q v M H ⟨⟨f, [] ++ ft, s1, .cons ⟨rfl, e2⟩ t1 (by simp), n1, o1, o2⟩, S.keep, S.sub, S.old, S.al, S.tabs, S.tm, S.len⟩⟩
theorem ev_c (h : ∀ H, Dq H v d) : EV G K (tC v) ρ (.dat d) ρ := fun B M τ σ H S Q q => q v M H (S.push (h _))
variable {X : Cx} {e e' : Expr} {pos : Pos}
theorem DE.of {t : TE} (p : PE X e t) (h : EV G X.K t ρ av ρ') : DE G X e ρ av ρ' := fun B M τ σ H S Q q => toE p (h B M τ σ H S Q q)
theorem DT.of {t : TT} {b : Bool} (p : PT X e t) (h : ET G X.K t ρ b ρ') : DT G X e ρ b ρ' := fun B M τ σ H S Q q => toT p (h B M τ σ H S Q q)
section
variable {i : Nat} {x : Str}
theorem de_var (h : ρ[i]? = some (some (.dat d))) (hN : X.N[i]? = some x := by rfl) (hv : Vis X.env.scope x := by first | exact Or.inl rfl | exact Or.inr (Or.inl rfl) | exact Or.inr (Or.inr rfl)) (hd : (x == ("__debug__" : Str)) = false := by decide)
    (hcd : (x == ("__classdict__" : Str)) = false := by decide) : DE G X (.Name x pos) ρ (.dat d) ρ := .of (pe_var hN hv hd hcd) (ev_var h)
theorem de_als (h : ρ[i]? = some (some av)) (hN : X.N[i]? = some x := by rfl) (hv : Vis X.env.scope x := by first | exact Or.inl rfl | exact Or.inr (Or.inl rfl) | exact Or.inr (Or.inr rfl)) (hd : (x == ("__debug__" : Str)) = false := by decide)
    (hcd : (x == ("__classdict__" : Str)) = false := by decide) : DE G X (.Name x pos) ρ (.als i) ρ := .of (pe_var hN hv hd hcd) (ev_als h)
theorem de_take (h : ρ[i]? = some (some (.flat ds))) (hN : X.N[i]? = some x := by rfl) (hv : Vis X.env.scope x := by first | exact Or.inl rfl | exact Or.inr (Or.inl rfl) | exact Or.inr (Or.inr rfl)) (hd : (x == ("__debug__" : Str)) = false := by decide)
    (hcd : (x == ("__classdict__" : Str)) = false := by decide) : DE G X (.Name x pos) ρ (.dat (.list ds)) (ρ.set i none) := .of (pe_var hN hv hd hcd) (ev_take h)
theorem de_mov (h : ρ[i]? = some (some av)) (hN : X.N[i]? = some x := by rfl) (hv : Vis X.env.scope x := by first | exact Or.inl rfl | exact Or.inr (Or.inl rfl) | exact Or.inr (Or.inr rfl)) (hd : (x == ("__debug__" : Str)) = false := by decide)
    (hcd : (x == ("__classdict__" : Str)) = false := by decide) : DE G X (.Name x pos) ρ av (ρ.set i none) := .of (pe_var hN hv hd hcd) (ev_mov h)
theorem de_scr {ns : List Int} (h : ρ[i]? = some (some (.scr ns))) (hN : X.N[i]? = some x := by rfl) (hv : Vis X.env.scope x := by first | exact Or.inl rfl | exact Or.inr (Or.inl rfl) | exact Or.inr (Or.inr rfl)) (hd : (x == ("__debug__" : Str)) = false := by decide)
    (hcd : (x == ("__classdict__" : Str)) = false := by decide) : DE G X (.Name x pos) ρ (.scr ns) ρ := .of (pe_var hN hv hd hcd) (ev_scr h)
end
theorem de_int {i : Int} {j : Nat} : DE G X (.Constant (.int i) j pos) ρ (.dat (.int i)) ρ := .of pe_int (ev_c fun _ => .int i)
theorem de_bl {b : Bool} {j : Nat} : DE G X (.Constant (.bool b) j pos) ρ (.dat (.bool b)) ρ := .of pe_bl (ev_c fun _ => .bl b)
theorem de_non {j : Nat} : DE G X (.Constant .none j pos) ρ (.dat .none) ρ := .of pe_non (ev_c fun _ => .non)
theorem de_str {x : Str} {j : Nat} : DE G X (.Constant (.str x) j pos) ρ (.dat (.str x)) ρ := .of pe_str (ev_c fun _ => .str x)
/-- a module's number -/
theorem de_gint {x : Str} {i : Int} (hm : ∃ t, X.mg x = some (.int i t)) (hg : Gl X x := by rfl) (hd : (x == ("__debug__" : Str)) = false := by decide) : DE G X (.Name x pos) ρ (.dat (.int i)) ρ := by
  obtain ⟨t, hm⟩ := hm
  exact .of (pe_glob (v := .int i) hg hm ⟨t, rfl⟩ hd) (ev_c fun _ => .int i)
/-- a new list is data -/
theorem DE.frz (h : DE G X e ρ (.flat ds) ρ') : DE G X e ρ (.dat (.list ds)) ρ' := fun B M τ σ H S Q q => h B M τ σ H S Q fun v M' H' S' => let ⟨M2, S2⟩ := S'.freeze; q v M2 H' S2

/-! ### arguments, displays -/
theorem da_nil : DA G X [] ρ [] ρ := fun B M τ σ H S Q q => toA pa_nil (q [] M H rfl S)
theorem da_cons {el : List Expr} {avs : List AV} (h : DE G X e ρ av ρ1) (hr : DA G X el ρ1 avs ρ2) (hs : starEach (e :: el) X.env = (false, eval e X.env) :: starEach el X.env := by rfl) : DA G X (e :: el) ρ (av :: avs) ρ2 :=
  fun B M τ σ H S Q q => toA (pa_cons pE pA hs) (h B M τ σ H S _ fun v M1 H1 S1 => hr B M1 _ σ H1 S1 _ fun vs M2 H2 hl S2 => q (v :: vs) M2 H2 (by simp [hl]) (by
    have e : (((v :: vs).zip (av :: avs)).reverse ++ τ) = ((vs.zip avs).reverse ++ ((v, av) :: τ)) := by simp
    rw [e]
    exact S2))
theorem da_one (h : DE G X e ρ av ρ1) (hs : starEach [e] X.env = (false, eval e X.env) :: starEach [] X.env := by rfl) : DA G X [e] ρ [av] ρ1 := da_cons h da_nil hs
/-- temporaries that are all data -/
theorem temps_dats : ∀ {vs : List V} {ds : List PyData} {τ : Tmp}, vs.length = ds.length → Sem G K B M ((vs.zip (ds.map AV.dat)).reverse ++ τ) σ ρ H → DqAll (hid M H) vs ds
  | [], [], _, _, _ => .nil
  | v :: vs, d :: ds, τ, hl, S => by
    have e : (((v :: vs).zip ((d :: ds).map AV.dat)).reverse ++ τ) = ((vs.zip (ds.map AV.dat)).reverse ++ ((v, AV.dat d) :: τ)) := by simp
    rw [e] at S
    exact .cons (S.memD (by simp)) (temps_dats (by simpa using hl) S)
theorem sz_le {n : Nat} (h : n ≤ 100000) : n ≤ sizeLine := Nat.le_trans h (by decide)
theorem sz_lt {n : Nat} (h : n ≤ 100000) : n < sizeLine := Nat.lt_of_le_of_lt h (by decide)
theorem de_tup {el : List Expr} {x1 : Nat} (h : DA G X el ρ (ds.map AV.dat) ρ') (hz : ds.length ≤ 100000 := by simp) : DE G X (.Tuple el x1 pos) ρ (.dat (.tuple ds)) ρ' :=
  fun B M τ σ H S Q q => toE (pe_tup pA) (h B M τ σ H S _ fun vs M1 H1 hl S1 => ⟨sz_le (by rw [hl]; simpa using hz), fun p hp => by
    have t := temps_dats (by simpa using hl) S1
    have np := S1.notM hp
    refine q _ M1 _ ((S1.new hp).popA.push (.tup ?_ (dpa_mono (same_new hp) _ _ t)))
    rw [hid_out np, upd_same]⟩)
theorem de_lst {el : List Expr} (h : DA G X el ρ (ds.map AV.dat) ρ') (hz : ds.length ≤ 100000 := by simp) : DE G X (.List el pos) ρ (.flat ds) ρ' :=
  fun B M τ σ H S Q q => toE (pe_lst pA) (h B M τ σ H S _ fun vs M1 H1 hl S1 => ⟨sz_le (by rw [hl]; simpa using hz), fun p hp => by
    have t := temps_dats (by simpa using hl) S1
    exact q _ _ _ ((S1.popA).pushFlat hp t)⟩)

/-! ### operators -/
theorem de_bin {op : Operator} {r : R2} (ho : OpR X (binaryOp op) r) (ha : DE G X e ρ a1 ρ1) (hb : DE G X e' ρ1 a2 ρ2) (h : OP G X.K r ρ2 a1 a2 av ρ3) : DE G X (.BinOp e op e' pos) ρ av ρ3 :=
  fun B M τ σ H S Q q => toE (pe_op ho pE pE) (ha B M τ σ H S _ fun v1 M1 H1 S1 => hb B M1 _ σ H1 S1 _ fun v2 M2 H2 S2 => h B M2 τ σ H2 v1 v2 S2 Q q)
theorem de_cmp {op : CmpOp} {r : R2} (ho : OpR X (compareOp op) r) (ha : DE G X e ρ a1 ρ1) (hb : DE G X e' ρ1 a2 ρ2) (h : OP G X.K r ρ2 a1 a2 av ρ3) (hm : behindInMarks op e' = false := by first | exact nobehind _ (by decide) (by decide) | rfl) : DE G X (.Compare e [op] [e'] pos) ρ av ρ3 :=
  fun B M τ σ H S Q q => toE (pe_cmpR ho pE pE hm) (ha B M τ σ H S _ fun v1 M1 H1 S1 => hb B M1 _ σ H1 S1 _ fun v2 M2 H2 S2 => h B M2 τ σ H2 v1 v2 S2 Q q)
theorem dt_cmp {op : CmpOp} {r : R2} {b : Bool} (ho : OpR X (compareOp op) r) (ha : DE G X e ρ a1 ρ1) (hb : DE G X e' ρ1 a2 ρ2) (h : OP G X.K r ρ2 a1 a2 (.dat (.bool b)) ρ3) (hm : behindInMarks op e' = false := by first | exact nobehind _ (by decide) (by decide) | rfl) : DT G X (.Compare e [op] [e'] pos) ρ b ρ3 :=
  fun B M τ σ H S Q q => toT (pt_cmpR ho pE pE hm) (ha B M τ σ H S _ fun v1 M1 H1 S1 => hb B M1 _ σ H1 S1 _ fun v2 M2 H2 S2 => h B M2 τ σ H2 v1 v2 S2 _ fun v M3 H3 S3 => by
    have t := S3.headD
    cases t
    exact ⟨b, rfl, q M3 H3 S3.pop⟩)
theorem dt_val {b : Bool} (h : DE G X e ρ (.dat (.bool b)) ρ') (he : ∀ whole, isTrue e X.env whole = (do let v ← whole; standAt e.pos; holding [v] (truthy v)) := by intro _; rfl) : DT G X e ρ b ρ' :=
  fun B M τ σ H S Q q => toT (pt_val pE he) (h B M τ σ H S _ fun v M3 H3 S3 => by
    have t := S3.headD
    cases t
    exact ⟨b, rfl, q M3 H3 S3.pop⟩)
/-- two heads that are data -/
theorem Sem.two (S : Sem G K B M ((v, .dat d) :: (v', .dat d') :: τ) σ ρ H) : Dq (hid M H) v d ∧ Dq (hid M H) v' d' := ⟨S.headD, S.pop.headD⟩
theorem op_i0 {g : Int → Int → V} {i j : Int} (h : ∀ H, Dq H (g i j) d) : OP G K (rI0 g) ρ (.dat (.int i)) (.dat (.int j)) (.dat d) ρ := fun B M τ σ H v1 v2 S Q q => by
  obtain ⟨h2, h1⟩ := S.two
  cases h1; cases h2
  exact ⟨i, j, rfl, rfl, q _ M H (S.pop.pop.push (h _))⟩
theorem op_i {C : Int → Int → Prop} {g : Int → Int → V} {i j : Int} (hc : C i j) (h : ∀ H, Dq H (g i j) d) : OP G K (rI C g) ρ (.dat (.int i)) (.dat (.int j)) (.dat d) ρ := fun B M τ σ H v1 v2 S Q q => by
  obtain ⟨h2, h1⟩ := S.two
  cases h1; cases h2
  exact ⟨i, j, rfl, rfl, hc, q _ M H (S.pop.pop.push (h _))⟩
section
variable {i j : Int}
theorem de_add (ha : DE G X e ρ (.dat (.int i)) ρ1) (hb : DE G X e' ρ1 (.dat (.int j)) ρ2) : DE G X (.BinOp e .Add e' pos) ρ (.dat (.int (i + j))) ρ2 := de_bin op_add ha hb (op_i0 fun _ => .int _)
theorem de_sub (ha : DE G X e ρ (.dat (.int i)) ρ1) (hb : DE G X e' ρ1 (.dat (.int j)) ρ2) : DE G X (.BinOp e .Sub e' pos) ρ (.dat (.int (i - j))) ρ2 := de_bin op_sub ha hb (op_i0 fun _ => .int _)
theorem de_mul (hc : CMul i j) (ha : DE G X e ρ (.dat (.int i)) ρ1) (hb : DE G X e' ρ1 (.dat (.int j)) ρ2) : DE G X (.BinOp e .Mult e' pos) ρ (.dat (.int (i * j))) ρ2 := de_bin op_mul ha hb (op_i hc fun _ => .int _)
theorem de_fdiv (hc : CDiv i j) (ha : DE G X e ρ (.dat (.int i)) ρ1) (hb : DE G X e' ρ1 (.dat (.int j)) ρ2) : DE G X (.BinOp e .FloorDiv e' pos) ρ (.dat (.int (i / j))) ρ2 := de_bin op_fdiv ha hb (op_i hc fun _ => .int _)
theorem de_mod (hc : 0 < j) (ha : DE G X e ρ (.dat (.int i)) ρ1) (hb : DE G X e' ρ1 (.dat (.int j)) ρ2) : DE G X (.BinOp e .Mod e' pos) ρ (.dat (.int (i % j))) ρ2 := de_bin op_mod ha hb (op_i hc fun _ => .int _)
theorem de_pow (hc : CPow i j) (ha : DE G X e ρ (.dat (.int i)) ρ1) (hb : DE G X e' ρ1 (.dat (.int j)) ρ2) : DE G X (.BinOp e .Pow e' pos) ρ (.dat (.int (i ^ j.toNat))) ρ2 := de_bin op_pow ha hb (op_i hc fun _ => .int _)
theorem de_lt (ha : DE G X e ρ (.dat (.int i)) ρ1) (hb : DE G X e' ρ1 (.dat (.int j)) ρ2) : DE G X (.Compare e [.Lt] [e'] pos) ρ (.dat (.bool (decide (i < j)))) ρ2 := de_cmp op_lt ha hb (op_i0 fun _ => .bl _)
theorem de_le (ha : DE G X e ρ (.dat (.int i)) ρ1) (hb : DE G X e' ρ1 (.dat (.int j)) ρ2) : DE G X (.Compare e [.LtE] [e'] pos) ρ (.dat (.bool (decide (i ≤ j)))) ρ2 := de_cmp op_le ha hb (op_i0 fun _ => .bl _)
theorem de_gt (ha : DE G X e ρ (.dat (.int i)) ρ1) (hb : DE G X e' ρ1 (.dat (.int j)) ρ2) : DE G X (.Compare e [.Gt] [e'] pos) ρ (.dat (.bool (decide (j < i)))) ρ2 := de_cmp op_gt ha hb (op_i0 fun _ => .bl _)
theorem de_ge (ha : DE G X e ρ (.dat (.int i)) ρ1) (hb : DE G X e' ρ1 (.dat (.int j)) ρ2) : DE G X (.Compare e [.GtE] [e'] pos) ρ (.dat (.bool (decide (j ≤ i)))) ρ2 := de_cmp op_ge ha hb (op_i0 fun _ => .bl _)
theorem op_eqi : OP G K rEq ρ (.dat (.int i)) (.dat (.int j)) (.dat (.bool (decide (i = j)))) ρ := fun B M τ σ H v1 v2 S Q q => by
  obtain ⟨h2, h1⟩ := S.two
  cases h1; cases h2
  have e : decide (V.int i = V.int j) = decide (i = j) := by by_cases h : i = j <;> simp [h]
  exact ⟨rfl, by rw [e]; exact q _ M H (S.pop.pop.push (.bl _))⟩
theorem op_nei : OP G K rNe ρ (.dat (.int i)) (.dat (.int j)) (.dat (.bool (!decide (i = j)))) ρ := fun B M τ σ H v1 v2 S Q q => by
  obtain ⟨h2, h1⟩ := S.two
  cases h1; cases h2
  have e : decide (V.int i = V.int j) = decide (i = j) := by by_cases h : i = j <;> simp [h]
  exact ⟨rfl, by rw [e]; exact q _ M H (S.pop.pop.push (.bl _))⟩
theorem op_neb {a b : Bool} : OP G K rNe ρ (.dat (.bool a)) (.dat (.bool b)) (.dat (.bool (!decide (a = b)))) ρ := fun B M τ σ H v1 v2 S Q q => by
  obtain ⟨h2, h1⟩ := S.two
  cases h1; cases h2
  have e : decide (V.bl a = V.bl b) = decide (a = b) := by by_cases h : a = b <;> simp [h]
  exact ⟨rfl, by rw [e]; exact q _ M H (S.pop.pop.push (.bl _))⟩
theorem op_eqs {a b : Str} : OP G K rEq ρ (.dat (.str a)) (.dat (.str b)) (.dat (.bool (decide (a = b)))) ρ := fun B M τ σ H v1 v2 S Q q => by
  obtain ⟨h2, h1⟩ := S.two
  cases h1; cases h2
  have e : decide (V.str a = V.str b) = decide (a = b) := by by_cases h : a = b <;> simp [h]
  exact ⟨rfl, by rw [e]; exact q _ M H (S.pop.pop.push (.bl _))⟩
theorem de_eqi (ha : DE G X e ρ (.dat (.int i)) ρ1) (hb : DE G X e' ρ1 (.dat (.int j)) ρ2) : DE G X (.Compare e [.Eq] [e'] pos) ρ (.dat (.bool (decide (i = j)))) ρ2 := de_cmp op_eq ha hb op_eqi
theorem de_nei (ha : DE G X e ρ (.dat (.int i)) ρ1) (hb : DE G X e' ρ1 (.dat (.int j)) ρ2) : DE G X (.Compare e [.NotEq] [e'] pos) ρ (.dat (.bool (!decide (i = j)))) ρ2 := de_cmp op_ne ha hb op_nei
theorem de_neb {a b : Bool} (ha : DE G X e ρ (.dat (.bool a)) ρ1) (hb : DE G X e' ρ1 (.dat (.bool b)) ρ2) : DE G X (.Compare e [.NotEq] [e'] pos) ρ (.dat (.bool (!decide (a = b)))) ρ2 := de_cmp op_ne ha hb op_neb
theorem de_eqs {a b : Str} (ha : DE G X e ρ (.dat (.str a)) ρ1) (hb : DE G X e' ρ1 (.dat (.str b)) ρ2) : DE G X (.Compare e [.Eq] [e'] pos) ρ (.dat (.bool (decide (a = b)))) ρ2 := de_cmp op_eq ha hb op_eqs
theorem de_neg (ha : DE G X e ρ (.dat (.int i)) ρ1) : DE G X (.UnaryOp .USub e pos) ρ (.dat (.int (-i))) ρ1 := fun B M τ σ H S Q q => toE (pe_un un_neg pE) (ha B M τ σ H S _ fun v M1 H1 S1 => by
  have t := S1.headD
  cases t
  exact ⟨i, rfl, q _ M1 H1 (S1.pop.push (.int _))⟩)
end
end
end TW
end
section
set_option Elab.async false
set_option linter.all false
set_option maxRecDepth 100000
set_option maxHeartbeats 1000000
/-! The layer, 4: more expressions. -/
namespace TW
open PySem PySem.Spec PyProof.Rows L2
section
variable {G : Glb} {K : PySem.W.Frag} {B : Bas} {M M' : List Addr} {τ : Tmp} {σ σ' : L2.St} {ρ ρ' ρ1 ρ2 ρ3 ρ4 : Ev} {H H' : Hp} {v : V} {av a1 a2 : AV} {d d1 d2 : PyData} {ds es : List PyData}
variable {X : Cx} {e e' e'' : Expr} {pos : Pos} {k : Nat}

/-! ### == of data -/
/-- data without dicts, nested at most n deep -/
def Sh : Nat → PyData → Prop
  | _, .none => True
  | _, .bool _ => True
  | _, .int _ => True
  | _, .str x => PyData.canLay0 (.str x) = true
  | 0, .list _ => False
  | 0, .tuple _ => False
  | n + 1, .list ds => ∀ d ∈ ds, Sh n d
  | n + 1, .tuple ds => ∀ d ∈ ds, Sh n d
  | _, .dict _ => False
theorem shAll {n : Nat} (ih : ∀ d, Sh n d → d.canLay0 = true ∧ d.depth ≤ n) : ∀ ds : List PyData, (∀ d ∈ ds, Sh n d) → PyData.canLayAll0 ds = true ∧ PyData.depthAll ds ≤ n
  | [], _ => ⟨by simp [PyData.canLayAll0], by simp [PyData.depthAll]⟩
  | d :: r, h => by
    obtain ⟨h1, h2⟩ := ih d (h d List.mem_cons_self)
    obtain ⟨h3, h4⟩ := shAll ih r fun x hx => h x (List.mem_cons_of_mem _ hx)
    exact ⟨by simp [PyData.canLayAll0, h1, h3], by simp only [PyData.depthAll]; omega⟩
theorem sh_ok : ∀ (n : Nat) (d : PyData), Sh n d → d.canLay0 = true ∧ d.depth ≤ n
  | n, .none, _ => ⟨by simp [PyData.canLay0], by simp [PyData.depth]⟩
  | n, .bool _, _ => ⟨by simp [PyData.canLay0], by simp [PyData.depth]⟩
  | n, .int _, _ => ⟨by simp [PyData.canLay0], by simp [PyData.depth]⟩
  | n, .str x, h => ⟨by cases n <;> exact h, by simp [PyData.depth]⟩
  | 0, .list _, h => h.elim
  | 0, .tuple _, h => h.elim
  | n + 1, .list ds, h => by
    obtain ⟨h1, h2⟩ := shAll (sh_ok n) ds h
    exact ⟨by simpa [PyData.canLay0] using h1, by simp only [PyData.depth]; omega⟩
  | n + 1, .tuple ds, h => by
    obtain ⟨h1, h2⟩ := shAll (sh_ok n) ds h
    exact ⟨by simpa [PyData.canLay0] using h1, by simp only [PyData.depth]; omega⟩
  | n, .dict _, h => by cases n <;> exact h.elim
theorem sh_shaped {d : PyData} (h : Sh 8 d) : SeqAt.shaped d = true := by
  obtain ⟨h1, h2⟩ := sh_ok 8 d h
  unfold SeqAt.shaped
  rw [h1, decide_eq_true (by omega)]
  rfl
theorem op_eqd (h1 : Sh 8 d1) (h2 : Sh 8 d2) : OP G K (rEqD K) ρ (.dat d1) (.dat d2) (.dat (.bool (PyData.eqv d1 d2))) ρ := fun B M τ σ H v1 v2 S Q q => by
  obtain ⟨t2, t1⟩ := S.two
  exact ⟨d1, d2, dq_dp _ _ (dp_mono (hid_sub _ _) _ _ t1), dq_dp _ _ (dp_mono (hid_sub _ _) _ _ t2), sh_shaped h1, sh_shaped h2, q _ M H (S.pop.pop.push (.bl _))⟩
theorem op_ned (h1 : Sh 8 d1) (h2 : Sh 8 d2) : OP G K (rNeD K) ρ (.dat d1) (.dat d2) (.dat (.bool (!PyData.eqv d1 d2))) ρ := fun B M τ σ H v1 v2 S Q q => by
  obtain ⟨t2, t1⟩ := S.two
  exact ⟨d1, d2, dq_dp _ _ (dp_mono (hid_sub _ _) _ _ t1), dq_dp _ _ (dp_mono (hid_sub _ _) _ _ t2), sh_shaped h1, sh_shaped h2, q _ M H (S.pop.pop.push (.bl _))⟩
theorem de_eqd (hr : Room k X.A) (h1 : Sh 8 d1) (h2 : Sh 8 d2) (ha : DE G X e ρ (.dat d1) ρ1) (hb : DE G X e' ρ1 (.dat d2) ρ2) : DE G X (.Compare e [.Eq] [e'] pos) ρ (.dat (.bool (PyData.eqv d1 d2))) ρ2 := de_cmp (op_eqD hr.units) ha hb (op_eqd h1 h2)
theorem de_ned (hr : Room k X.A) (h1 : Sh 8 d1) (h2 : Sh 8 d2) (ha : DE G X e ρ (.dat d1) ρ1) (hb : DE G X e' ρ1 (.dat d2) ρ2) : DE G X (.Compare e [.NotEq] [e'] pos) ρ (.dat (.bool (!PyData.eqv d1 d2))) ρ2 := de_cmp (op_neD hr.units) ha hb (op_ned h1 h2)
theorem eqv_nil_t : PyData.eqv (.tuple ds) (.tuple []) = ds.isEmpty := by cases ds <;> simp [PyData.eqv, PyData.eqvAll]
theorem eqv_nil_l : PyData.eqv (.list ds) (.list []) = ds.isEmpty := by cases ds <;> simp [PyData.eqv, PyData.eqvAll]
/-- x == (), x != (), x == [], x != [] -/
theorem de_eqT0 (hr : Room k X.A) (h : Sh 8 (.tuple ds)) (ha : DE G X e ρ (.dat (.tuple ds)) ρ1) (hb : DE G X e' ρ1 (.dat (.tuple [])) ρ2) : DE G X (.Compare e [.Eq] [e'] pos) ρ (.dat (.bool ds.isEmpty)) ρ2 := by
  have q := de_eqd (pos := pos) hr h (d2 := .tuple []) (fun d h => by simp at h) ha hb
  rwa [eqv_nil_t] at q
theorem de_neT0 (hr : Room k X.A) (h : Sh 8 (.tuple ds)) (ha : DE G X e ρ (.dat (.tuple ds)) ρ1) (hb : DE G X e' ρ1 (.dat (.tuple [])) ρ2) : DE G X (.Compare e [.NotEq] [e'] pos) ρ (.dat (.bool (!ds.isEmpty))) ρ2 := by
  have q := de_ned (pos := pos) hr h (d2 := .tuple []) (fun d h => by simp at h) ha hb
  rwa [eqv_nil_t] at q
theorem de_eqL0 (hr : Room k X.A) (h : Sh 8 (.list ds)) (ha : DE G X e ρ (.dat (.list ds)) ρ1) (hb : DE G X e' ρ1 (.dat (.list [])) ρ2) : DE G X (.Compare e [.Eq] [e'] pos) ρ (.dat (.bool ds.isEmpty)) ρ2 := by
  have q := de_eqd (pos := pos) hr h (d2 := .list []) (fun d h => by simp at h) ha hb
  rwa [eqv_nil_l] at q
theorem de_neL0 (hr : Room k X.A) (h : Sh 8 (.list ds)) (ha : DE G X e ρ (.dat (.list ds)) ρ1) (hb : DE G X e' ρ1 (.dat (.list [])) ρ2) : DE G X (.Compare e [.NotEq] [e'] pos) ρ (.dat (.bool (!ds.isEmpty))) ρ2 := by
  have q := de_ned (pos := pos) hr h (d2 := .list []) (fun d h => by simp at h) ha hb
  rwa [eqv_nil_l] at q
/-- is None -/
def isNo : PyData → Bool
  | .none => true
  | _ => false
theorem de_isN {pos' : Pos} {j : Nat} (ha : DE G X e ρ (.dat d) ρ1) : DE G X (.Compare e [.Is] [.Constant .none j pos'] pos) ρ (.dat (.bool (isNo d))) ρ1 :=
  fun B M τ σ H S Q q => toE (pe_cmp (pc_isN pE)) (ha B M τ σ H S _ fun v M1 H1 S1 => by
    have t := S1.headD
    have e : decide (v = V.non) = isNo d := by cases t <;> rfl
    rw [e]
    exact q _ M1 H1 (S1.pop.push (.bl _)))
theorem de_notN {pos' : Pos} {j : Nat} (ha : DE G X e ρ (.dat d) ρ1) : DE G X (.Compare e [.IsNot] [.Constant .none j pos'] pos) ρ (.dat (.bool (!isNo d))) ρ1 :=
  fun B M τ σ H S Q q => toE (pe_cmp (pc_notN pE)) (ha B M τ σ H S _ fun v M1 H1 S1 => by
    have t := S1.headD
    have e : (!decide (v = V.non)) = !isNo d := by cases t <;> rfl
    rw [e]
    exact q _ M1 H1 (S1.pop.push (.bl _)))

/-! ### in -/
theorem inV_int (i : Int) (ns : List Int) : inV (V.int i) (ns.map V.int) = decide (i ∈ ns) := by
  unfold inV
  rw [Bool.eq_iff_iff, List.any_eq_true, decide_eq_true_eq]
  constructor
  · rintro ⟨y, hy, h⟩
    obtain ⟨n, hn, rfl⟩ := List.mem_map.mp hy
    have e : n = i := by simpa [eqV] using h
    exact e ▸ hn
  · exact fun h => ⟨.int i, List.mem_map_of_mem h, by simp [eqV]⟩
theorem op_in {i : Int} {ns : List Int} {neg : Bool} (hs : SQ ρ a2 (ns.map PyData.int)) : OP G K (rIn K neg) ρ (.dat (.int i)) a2 (.dat (.bool (if neg then !decide (i ∈ ns) else decide (i ∈ ns)))) ρ := fun B M τ σ H v1 v2 S Q q => by
  have t1 := S.pop.headD
  cases t1
  obtain ⟨a, xs, rfl, h, hd⟩ := hs.at_ S (v := v2) (by simp)
  have e := dpa_ints_of hd
  subst e
  refine ⟨a, _, rfl, h, rfl, by simp [flatV], ?_⟩
  rw [inV_int]
  exact q _ M H (S.pop.pop.push (.bl _))
theorem de_in {i : Int} {ns : List Int} (hs : SQ ρ2 a2 (ns.map PyData.int)) (ha : DE G X e ρ (.dat (.int i)) ρ1) (hb : DE G X e' ρ1 a2 ρ2) (hm : behindInMarks .In e' = false := by rfl) : DE G X (.Compare e [.In] [e'] pos) ρ (.dat (.bool (decide (i ∈ ns)))) ρ2 := de_cmp op_in_seq ha hb (op_in (neg := false) hs) hm
theorem de_notin {i : Int} {ns : List Int} (hs : SQ ρ2 a2 (ns.map PyData.int)) (ha : DE G X e ρ (.dat (.int i)) ρ1) (hb : DE G X e' ρ1 a2 ρ2) (hm : behindInMarks .NotIn e' = false := by rfl) : DE G X (.Compare e [.NotIn] [e'] pos) ρ (.dat (.bool (!decide (i ∈ ns)))) ρ2 := de_cmp op_notIn_seq ha hb (op_in (neg := true) hs) hm

/-! ### subscripts -/
theorem atI_len {α β : Type} {xs : List α} {ys : List β} {i : Int} {y : β} (hl : xs.length = ys.length) (h : atI ys i = some y) : ∃ (j : Nat) (x : α), xs[j]? = some x ∧ ys[j]? = some y ∧ atI xs i = some x := by
  unfold atI at h ⊢
  rw [hl]
  cases e : ixN ys.length i with
  | none => rw [e] at h; cases h
  | some j =>
    rw [e] at h
    have h' : ys[j]? = some y := h
    have hj : j < xs.length := by rw [hl]; exact (List.getElem?_eq_some_iff.mp h').1
    exact ⟨j, xs[j], List.getElem?_eq_getElem hj, h', by show xs[j]? = _; exact List.getElem?_eq_getElem hj⟩
theorem op_ix {i : Int} (hs : SQ ρ a1 ds) (h : atI ds i = some d) : OP G K (rIx K) ρ a1 (.dat (.int i)) (.dat d) ρ := fun B M τ σ H v1 v2 S Q q => by
  have t2 := S.headD
  cases t2
  obtain ⟨a, xs, rfl, hx, hd⟩ := hs.at_ S (v := v1) (by simp)
  obtain ⟨j, x, e1, e2, e3⟩ := atI_len (dpa_len hd) h
  obtain ⟨d', e4, h4⟩ := dpa_getv hd e1
  rw [e2] at e4; cases e4
  have fin := q x M H (S.pop.pop.push h4)
  rcases hx with hx | hx
  · exact .inl ⟨a, xs, i, x, rfl, rfl, hx, e3, fin⟩
  · exact .inr (.inl ⟨a, xs, i, x, rfl, rfl, hx, e3, fin⟩)
theorem de_ix {i : Int} (hs : SQ ρ2 a1 ds) (h : atI ds i = some d) (ha : DE G X e ρ a1 ρ1) (hb : DE G X e' ρ1 (.dat (.int i)) ρ2) (hp : PlainIx e' := by exact fun _ _ => rfl) : DE G X (.Subscript e e' pos) ρ (.dat d) ρ2 :=
  fun B M τ σ H S Q q => toE (pe_ix ix_seq pE pE hp) (ha B M τ σ H S _ fun v1 M1 H1 S1 => hb B M1 _ σ H1 S1 _ fun v2 M2 H2 S2 => op_ix hs h B M2 τ σ H2 v1 v2 S2 Q q)

/-! ### slices -/
def cutD {α : Type} (xs : List α) (lo hi : Option Int) : List α := (xs.drop (HT.sIx xs.length 0 lo)).take (HT.sIx xs.length xs.length hi - HT.sIx xs.length 0 lo)
theorem cutD_from {α : Type} (xs : List α) (k : Nat) : cutD xs (some (k : Int)) none = xs.drop k := by
  unfold cutD
  rw [HT.sIx_nat, HT.sIx_none]
  by_cases h : k ≤ xs.length
  · rw [Nat.min_eq_left h]
    exact List.take_of_length_le (by simp)
  · rw [Nat.min_eq_right (by omega), List.drop_length, List.drop_eq_nil_of_le (by omega)]
    simp
theorem cutD_to {α : Type} (xs : List α) (k : Nat) : cutD xs none (some (k : Int)) = xs.take k := by
  unfold cutD
  rw [HT.sIx_nat, HT.sIx_none, List.drop_zero, Nat.sub_zero]
  by_cases h : k ≤ xs.length
  · rw [Nat.min_eq_left h]
  · rw [Nat.min_eq_right (by omega), List.take_of_length_le (Nat.le_refl _), List.take_of_length_le (by omega)]
theorem dpa_cut {vs : List V} {lo hi : Option Int} (h : DqAll H vs ds) : DqAll H (cutV vs lo hi) (cutD ds lo hi) := by
  unfold cutV cutD
  rw [dpa_len h]
  exact dpa_take _ (dpa_drop _ h)
theorem do_none : DO G X none ρ none ρ := fun B M τ σ H S Q q => toO po_none (q M H S)
theorem do_some {i : Int} (h : DE G X e ρ (.dat (.int i)) ρ1) : DO G X (some e) ρ (some i) ρ1 := fun B M τ σ H S Q q => toO (po_some pE) (h B M τ σ H S _ fun v M1 H1 S1 => by
  have t := S1.headD
  cases t
  exact ⟨i, rfl, q M1 H1 S1.pop⟩)
/-- t[lo:hi] of a tuple -/
theorem de_slT {lo hi : Option Expr} {l h : Option Int} {p2 : Pos} (ha : DE G X e ρ (.dat (.tuple ds)) ρ1) (hl : DO G X lo ρ1 l ρ2) (hh : DO G X hi ρ2 h ρ3) : DE G X (.Subscript e (.Slice lo hi none p2) pos) ρ (.dat (.tuple (cutD ds l h))) ρ3 :=
  fun B M τ σ H S Q q => toE (pe_slice sl_tupA pE pO pO) (ha B M τ σ H S _ fun v M1 H1 S1 => hl B M1 _ σ H1 S1 _ fun M2 H2 S2 => hh B M2 _ σ H2 S2 _ fun M3 H3 S3 => by
    have t := S3.headD
    cases t with
    | @tup a xs _ e1 t1 =>
      have e2 : H3 a = some (.tup xs) := hid_sub _ _ _ _ e1
      refine ⟨a, xs, rfl, .of e2, fun hw => ?_, fun _ p hp => ?_⟩
      · have e3 : cutV xs l h = xs := by
          unfold cutV
          rw [hw.1, hw.2, List.drop_zero, Nat.sub_zero, List.take_of_length_le (Nat.le_refl _)]
        have t2 := dpa_cut (lo := l) (hi := h) t1
        rw [e3] at t2
        exact q _ M3 H3 (S3.pop.push (.tup e1 t2))
      · have np := S3.notM hp
        refine q _ M3 _ ((S3.new hp).pop.push (.tup ?_ (dpa_mono (same_new hp) _ _ (dpa_cut t1))))
        rw [hid_out np, upd_same])
theorem de_slT_from {lo : Expr} {n : Nat} {p2 : Pos} (ha : DE G X e ρ (.dat (.tuple ds)) ρ1) (hl : DE G X lo ρ1 (.dat (.int (n : Int))) ρ2) : DE G X (.Subscript e (.Slice (some lo) none none p2) pos) ρ (.dat (.tuple (ds.drop n))) ρ2 := by
  have q := de_slT (pos := pos) (p2 := p2) ha (do_some hl) do_none
  rwa [cutD_from] at q
theorem de_slT_to {hi : Expr} {n : Nat} {p2 : Pos} (ha : DE G X e ρ (.dat (.tuple ds)) ρ1) (hl : DE G X hi ρ1 (.dat (.int (n : Int))) ρ2) : DE G X (.Subscript e (.Slice none (some hi) none p2) pos) ρ (.dat (.tuple (ds.take n))) ρ2 := by
  have q := de_slT (pos := pos) (p2 := p2) ha do_none (do_some hl)
  rwa [cutD_to] at q
/-- l[lo:hi] of a list: a new one -/
theorem de_slL {lo hi : Option Expr} {l h : Option Int} {p2 : Pos} (hs : SQ ρ3 av ds) (hk : (∃ xs, av = .dat (.list xs)) ∨ (∃ i, av = .als i) ∨ (∃ xs, av = .flat xs) ∨ ∃ ns, av = .scr ns) (ha : DE G X e ρ av ρ1) (hl : DO G X lo ρ1 l ρ2) (hh : DO G X hi ρ2 h ρ3) : DE G X (.Subscript e (.Slice lo hi none p2) pos) ρ (.flat (cutD ds l h)) ρ3 :=
  fun B M τ σ H S Q q => toE (pe_slice sl_list pE pO pO) (ha B M τ σ H S _ fun v M1 H1 S1 => hl B M1 _ σ H1 S1 _ fun M2 H2 S2 => hh B M2 _ σ H2 S2 _ fun M3 H3 S3 => by
    have key : ∃ a xs, v = .ref a ∧ SqL X.K H3 a xs ∧ DqAll (hid M3 H3) xs ds := by
      obtain ⟨fp, g⟩ := S3.mem (v := v) (av := av) (by simp)
      cases hs with
      | lst =>
        cases g.2 with
        | lst e t => exact ⟨_, _, rfl, .of (hid_sub _ _ _ _ e), t⟩
      | tup =>
        rcases hk with ⟨xs, h⟩ | ⟨i, h⟩ | ⟨xs, h⟩ | ⟨xs, h⟩
        · cases h
        · cases h
        · cases h
        · cases h
      | als e =>
        obtain ⟨l, vs, e1, e2, e3⟩ := S3.slotF e
        have e4 := g.2
        rw [e1] at e4
        cases e4
        exact ⟨_, _, rfl, .of e2, e3⟩
      | flat =>
        obtain ⟨l, vs, rfl, _, _, e, t⟩ := g
        exact ⟨_, _, rfl, .of e, t⟩
      | scr =>
        obtain ⟨_, a, rfl, e⟩ := g
        exact ⟨_, _, rfl, (hid_sub _ _).seq e, dpa_ints _⟩
    obtain ⟨a, xs, rfl, hx, t1⟩ := key
    exact ⟨a, xs, rfl, hx, fun p hp => q _ _ _ (S3.pop.pushFlat hp (dpa_cut t1))⟩)

/-! ### sequences put together -/
theorem de_catT (ha : DE G X e ρ (.dat (.tuple ds)) ρ1) (hb : DE G X e' ρ1 (.dat (.tuple es)) ρ2) (hz : ds.length + es.length ≤ 100000) : DE G X (.BinOp e .Add e' pos) ρ (.dat (.tuple (ds ++ es))) ρ2 :=
  de_bin op_catA ha hb fun B M τ σ H v1 v2 S Q q => by
    obtain ⟨t2, t1⟩ := S.two
    cases t1 with
    | @tup a xs _ e1 t1 =>
      cases t2 with
      | @tup b ys _ e2 t2 =>
        have l1 := dpa_len t1
        have l2 := dpa_len t2
        refine ⟨a, b, xs, ys, rfl, rfl, .of (hid_sub _ _ _ _ e1), .of (hid_sub _ _ _ _ e2), sz_le (by omega), fun h => ?_, fun _ h => ?_, fun _ _ p hp => ?_⟩
        · subst h
          cases t1
          exact q _ M H (S.pop.pop.push (.tup e2 t2))
        · subst h
          cases t2
          rw [List.append_nil] at q
          exact q _ M H (S.pop.pop.push (.tup e1 t1))
        · have np := S.notM hp
          refine q _ M _ ((S.new hp).pop.pop.push (.tup ?_ (dpa_mono (same_new hp) _ _ (dpa_app t1 t2))))
          rw [hid_out np, upd_same]
/-- a list's own object -/
theorem SQ.lst_at {ρ : Ev} (hs : SQ ρ av ds) (hk : (∃ xs, av = .dat (.list xs)) ∨ (∃ i, av = .als i) ∨ ∃ xs, av = .flat xs) (S : Sem G K B M τ σ ρ H) (hm : (v, av) ∈ τ) : ∃ a xs, v = .ref a ∧ H a = some (.lst xs) ∧ DqAll (hid M H) xs ds := by
  obtain ⟨fp, q⟩ := S.mem hm
  cases hs with
  | lst =>
    cases q.2 with
    | lst e t => exact ⟨_, _, rfl, hid_sub _ _ _ _ e, t⟩
  | tup =>
    rcases hk with ⟨xs, h⟩ | ⟨i, h⟩ | ⟨xs, h⟩
    · cases h
    · cases h
    · cases h
  | als e =>
    obtain ⟨l, vs, e1, e2, e3⟩ := S.slotF e
    have e4 := q.2
    rw [e1] at e4
    cases e4
    exact ⟨_, _, rfl, e2, e3⟩
  | flat =>
    obtain ⟨l, vs, rfl, _, _, e, t⟩ := q
    exact ⟨_, _, rfl, e, t⟩
  | scr =>
    rcases hk with ⟨xs, h⟩ | ⟨i, h⟩ | ⟨xs, h⟩
    · cases h
    · cases h
    · cases h
abbrev IsL (av : AV) : Prop := (∃ xs, av = .dat (.list xs)) ∨ (∃ i, av = .als i) ∨ ∃ xs, av = .flat xs
theorem isL_d {xs : List PyData} : IsL (.dat (.list xs)) := .inl ⟨_, rfl⟩
theorem isL_a {i : Nat} : IsL (.als i) := .inr (.inl ⟨_, rfl⟩)
theorem isL_f {xs : List PyData} : IsL (.flat xs) := .inr (.inr ⟨_, rfl⟩)
theorem de_catL (h1 : SQ ρ2 a1 ds) (k1 : IsL a1) (h2 : SQ ρ2 a2 es) (k2 : IsL a2) (ha : DE G X e ρ a1 ρ1) (hb : DE G X e' ρ1 a2 ρ2) (hz : ds.length + es.length ≤ 100000) : DE G X (.BinOp e .Add e' pos) ρ (.flat (ds ++ es)) ρ2 :=
  de_bin op_cat ha hb fun B M τ σ H v1 v2 S Q q => by
    obtain ⟨a, xs, rfl, e1, t1⟩ := h1.lst_at k1 S (v := v1) (by simp)
    obtain ⟨b, ys, rfl, e2, t2⟩ := h2.lst_at k2 S (v := v2) (by simp)
    have l1 := dpa_len t1
    have l2 := dpa_len t2
    exact ⟨a, b, xs, ys, rfl, rfl, e1, e2, sz_le (by omega), fun p hp => q _ _ _ (S.pop.pop.pushFlat hp (dpa_app t1 t2))⟩
theorem rep_one {α : Type} (x : α) : ∀ n : Nat, (List.replicate n [x]).flatten = List.replicate n x
  | 0 => rfl
  | n + 1 => by rw [List.replicate_succ, List.flatten_cons, rep_one x n]; rfl
/-- [x] * n -/
theorem de_rep {n : Nat} (ha : DE G X e ρ (.flat [d]) ρ1) (hb : DE G X e' ρ1 (.dat (.int (n : Int))) ρ2) (hz : n ≤ 100000) : DE G X (.BinOp e .Mult e' pos) ρ (.flat (List.replicate n d)) ρ2 :=
  de_bin op_rep ha hb fun B M τ σ H v1 v2 S Q q => by
    have t2 := S.headD
    cases t2
    obtain ⟨a, xs, rfl, e1, t1⟩ := (SQ.flat (ρ := ρ2) (ds := [d])).lst_at isL_f S (v := v1) (by simp)
    cases t1 with
    | cons h t =>
      cases t
      refine ⟨a, (n : Int), _, rfl, rfl, e1, by omega, by omega, ?_, fun p hp => ?_⟩
      · show 1 * (n : Int).toNat ≤ sizeLine
        exact sz_le (by omega)
      · have en : (n : Int).toNat = n := by omega
        rw [en, rep_one]
        exact q _ _ _ (S.pop.pop.pushFlat hp (dpa_rep h n))

/-! ### calls of built-ins by name -/
theorem de_callB {x : Str} {id : String} {r : List V → Hp → VK → Prop} {el : List Expr} {avs : List AV} {p : Pos} (hc : CallR X (.builtin id) r) (hg : Gl X x) (hm : X.mg x = none) (hv : bootBuiltins x = some (.builtin id)) (ha : DA G X (e :: el) ρ avs ρ1) (h : CP G X.K r ρ1 avs av ρ2)
    (hn : x ≠ "__name__" := by decide) (hdb : (x == ("__debug__" : Str)) = false := by decide) (he : starEach (e :: el) X.env = (false, eval e X.env) :: starEach el X.env := by rfl) (hpl : (backTo pos (starEach el X.env)).any (·.1) = false := by rfl) : DE G X (.Call (.Name x p) (e :: el) [] pos) ρ av ρ2 :=
  fun B M τ σ H S Q q => toE (pe_callB hc hg hm hv pA hn hdb he hpl) (ha B M τ σ H S _ fun vs M1 H1 hl S1 => h B M1 τ σ H1 vs hl S1 Q q)
theorem de_callTy {x : Str} {T : String} {r : List V → Hp → VK → Prop} {el : List Expr} {avs : List AV} {p : Pos} (hc : CallR X (.type T) r) (hg : Gl X x) (hm : X.mg x = none) (hv : bootBuiltins x = some (.type T)) (ha : DA G X (e :: el) ρ avs ρ1) (h : CP G X.K r ρ1 avs av ρ2)
    (hn : x ≠ "__name__" := by decide) (hdb : (x == ("__debug__" : Str)) = false := by decide) (he : starEach (e :: el) X.env = (false, eval e X.env) :: starEach el X.env := by rfl) (hpl : (backTo pos (starEach el X.env)).any (·.1) = false := by rfl) : DE G X (.Call (.Name x p) (e :: el) [] pos) ρ av ρ2 :=
  fun B M τ σ H S Q q => toE (pe_callTy hc hg hm hv pA hn hdb he hpl) (ha B M τ σ H S _ fun vs M1 H1 hl S1 => h B M1 τ σ H1 vs hl S1 Q q)
theorem one_of {vs : List V} (h : vs.length = [av].length) : ∃ v, vs = [v] := match vs, h with | [v], _ => ⟨v, rfl⟩
theorem two_of {vs : List V} (h : vs.length = [a1, a2].length) : ∃ v w, vs = [v, w] := match vs, h with | [v, w], _ => ⟨v, w, rfl⟩
variable {p : Pos}
theorem de_len (hs : SQ ρ1 a1 ds) (hm : X.mg "len" = none) (ha : DE G X e ρ a1 ρ1) (hg : Gl X "len" := by rfl) (he : starEach [e] X.env = (false, eval e X.env) :: starEach [] X.env := by rfl) : DE G X (.Call (.Name "len" p) [e] [] pos) ρ (.dat (.int ds.length)) ρ1 :=
  de_callB call_len_seq hg hm PySem.boot_len (da_one ha he) (fun B M τ σ H vs hl S Q q => by
    obtain ⟨v, rfl⟩ := one_of hl
    obtain ⟨a, xs, rfl, hx, t⟩ := hs.at_ S (v := v) (by simp)
    refine ⟨a, xs, rfl, hx, ?_⟩
    rw [dpa_len t]
    exact q _ M H (Sem.push (Sem.pop S) (.int _))) (he := he)
theorem de_list (hs : SQ ρ1 a1 ds) (hm : X.mg "list" = none) (ha : DE G X e ρ a1 ρ1) (hg : Gl X "list" := by rfl) (he : starEach [e] X.env = (false, eval e X.env) :: starEach [] X.env := by rfl) : DE G X (.Call (.Name "list" p) [e] [] pos) ρ (.flat ds) ρ1 :=
  de_callTy call_list_of hg hm (by decide +kernel) (da_one ha he) (fun B M τ σ H vs hl S Q q => by
    obtain ⟨v, rfl⟩ := one_of hl
    obtain ⟨a, xs, rfl, hx, t⟩ := hs.at_ S (v := v) (by simp)
    exact ⟨a, xs, rfl, hx, fun l hl => q _ _ _ (Sem.pushFlat (Sem.pop S) hl t)⟩) (he := he)
theorem de_tuple (hs : SQ ρ1 a1 ds) (hm : X.mg "tuple" = none) (ha : DE G X e ρ a1 ρ1) (hg : Gl X "tuple" := by rfl) (he : starEach [e] X.env = (false, eval e X.env) :: starEach [] X.env := by rfl) : DE G X (.Call (.Name "tuple" p) [e] [] pos) ρ (.dat (.tuple ds)) ρ1 :=
  de_callTy call_tuple_of hg hm (by decide +kernel) (da_one ha he) (fun B M τ σ H vs hl S Q q => by
    obtain ⟨v, rfl⟩ := one_of hl
    have S' : Sem G X.K B M ((v, a1) :: τ) σ ρ1 H := S
    have fin : ∀ (a : Addr) (xs : List V), SqL X.K H a xs → DqAll (hid M H) xs ds → (∀ l, H l = none → Q (.ref l) (upd H l (.tup xs))) := fun a xs _ t l hl => by
      have np := S'.notM hl
      refine q _ M _ ((S'.new hl).pop.push (.tup ?_ (dpa_mono (same_new hl) _ _ t)))
      rw [hid_out np, upd_same]
    cases hs with
    | tup =>
      have t := S'.headD
      cases t with
      | @tup a xs _ e1 t1 => exact ⟨a, xs, rfl, .inr ⟨.of (hid_sub _ _ _ _ e1), q _ M H (S'.pop.push (.tup e1 t1))⟩⟩
    | lst =>
      have t := S'.headD
      cases t with
      | @lst a xs _ e1 t1 => exact ⟨a, xs, rfl, .inl ⟨.of (hid_sub _ _ _ _ e1), fin a xs (.of (hid_sub _ _ _ _ e1)) t1⟩⟩
    | als h =>
      obtain ⟨a, xs, rfl, e1, t1⟩ := (SQ.als h).lst_at isL_a S' (v := v) (by simp)
      exact ⟨a, xs, rfl, .inl ⟨.of e1, fin a xs (.of e1) t1⟩⟩
    | flat =>
      obtain ⟨a, xs, rfl, e1, t1⟩ := (SQ.flat (ρ := ρ1) (ds := ds)).lst_at isL_f S' (v := v) (by simp)
      exact ⟨a, xs, rfl, .inl ⟨.of e1, fin a xs (.of e1) t1⟩⟩
    | @scr ns =>
      obtain ⟨fp, _, a, rfl, e⟩ := S'.mem (v := v) (av := .scr ns) (by simp)
      exact ⟨a, _, rfl, .inl ⟨(hid_sub _ _).seq e, fin a _ ((hid_sub _ _).seq e) (dpa_ints _)⟩⟩) (he := he)
theorem de_int1 {i : Int} (hm : X.mg "int" = none) (ha : DE G X e ρ (.dat (.int i)) ρ1) (hg : Gl X "int" := by rfl) (he : starEach [e] X.env = (false, eval e X.env) :: starEach [] X.env := by rfl) : DE G X (.Call (.Name "int" p) [e] [] pos) ρ (.dat (.int i)) ρ1 :=
  de_callTy call_int1 hg hm (by decide +kernel) (da_one ha he) (fun B M τ σ H vs hl S Q q => by
    obtain ⟨v, rfl⟩ := one_of hl
    have S' : Sem G X.K B M ((v, .dat (.int i)) :: τ) σ ρ1 H := S
    have t := S'.headD
    cases t
    exact .inl ⟨i, rfl, q _ M H S'⟩) (he := he)
theorem de_max2 {i j : Int} (hm : X.mg "max" = none) (ha : DE G X e ρ (.dat (.int i)) ρ1) (hb : DE G X e' ρ1 (.dat (.int j)) ρ2) (hc : X.calm = true := by rfl) (hg : Gl X "max" := by rfl) (he : starEach [e, e'] X.env = (false, eval e X.env) :: starEach [e'] X.env := by rfl) (he' : starEach [e'] X.env = (false, eval e' X.env) :: starEach [] X.env := by rfl)
    (hpl : (backTo pos (starEach [e'] X.env)).any (·.1) = false := by rfl) : DE G X (.Call (.Name "max" p) [e, e'] [] pos) ρ (.dat (.int (if j > i then j else i))) ρ2 :=
  de_callB (call_max2 hc) hg hm (by decide +kernel) (da_cons ha (da_one hb he') he) (fun B M τ σ H vs hl S Q q => by
    obtain ⟨v, w, rfl⟩ := two_of hl
    have S' : Sem G X.K B M ((w, .dat (.int j)) :: (v, .dat (.int i)) :: τ) σ ρ2 H := S
    obtain ⟨t2, t1⟩ := S'.two
    cases t1; cases t2
    exact ⟨i, j, rfl, q _ M H (S'.pop.pop.push (.int _))⟩) (he := he) (hpl := hpl)
theorem de_min2 {i j : Int} (hm : X.mg "min" = none) (ha : DE G X e ρ (.dat (.int i)) ρ1) (hb : DE G X e' ρ1 (.dat (.int j)) ρ2) (hc : X.calm = true := by rfl) (hg : Gl X "min" := by rfl) (he : starEach [e, e'] X.env = (false, eval e X.env) :: starEach [e'] X.env := by rfl) (he' : starEach [e'] X.env = (false, eval e' X.env) :: starEach [] X.env := by rfl)
    (hpl : (backTo pos (starEach [e'] X.env)).any (·.1) = false := by rfl) : DE G X (.Call (.Name "min" p) [e, e'] [] pos) ρ (.dat (.int (if j < i then j else i))) ρ2 :=
  de_callB (call_min2 hc) hg hm (by decide +kernel) (da_cons ha (da_one hb he') he) (fun B M τ σ H vs hl S Q q => by
    obtain ⟨v, w, rfl⟩ := two_of hl
    have S' : Sem G X.K B M ((w, .dat (.int j)) :: (v, .dat (.int i)) :: τ) σ ρ2 H := S
    obtain ⟨t2, t1⟩ := S'.two
    cases t1; cases t2
    exact ⟨i, j, rfl, q _ M H (S'.pop.pop.push (.int _))⟩) (he := he) (hpl := hpl)
theorem de_sum {ns : List Int} (hs : SQ ρ1 a1 (ns.map PyData.int)) (hk : IsL a1) (hm : X.mg "sum" = none) (ha : DE G X e ρ a1 ρ1) (hc : X.calm = true := by rfl) (hg : Gl X "sum" := by rfl) (he : starEach [e] X.env = (false, eval e X.env) :: starEach [] X.env := by rfl) : DE G X (.Call (.Name "sum" p) [e] [] pos) ρ (.dat (.int ns.sum)) ρ1 :=
  de_callB (cr_sum hc) hg hm (by decide +kernel) (da_one ha he) (fun B M τ σ H vs hl S Q q => by
    obtain ⟨v, rfl⟩ := one_of hl
    obtain ⟨a, xs, rfl, e1, t⟩ := hs.lst_at hk S (v := v) (by simp)
    have e2 := dpa_ints_of t
    subst e2
    exact ⟨a, ns, rfl, .of e1, q _ M H (Sem.push (Sem.pop S) (.int _))⟩) (he := he)
/-- sorted of ints -/
theorem de_sortI {ns ms : List Int} (hs : SQ ρ1 a1 (ns.map PyData.int)) (hk : IsL a1) (hms : ms.Perm ns ∧ ms.Pairwise (· ≤ ·)) (hm : X.mg "sorted" = none) (ha : DE G X e ρ a1 ρ1) (hg : Gl X "sorted" := by rfl) (he : starEach [e] X.env = (false, eval e X.env) :: starEach [] X.env := by rfl) :
    DE G X (.Call (.Name "sorted" p) [e] [] pos) ρ (.flat (ms.map PyData.int)) ρ1 :=
  de_callB cr_sortedI hg hm (by decide +kernel) (da_one ha he) (fun B M τ σ H vs hl S Q q => by
    obtain ⟨v, rfl⟩ := one_of hl
    obtain ⟨a, xs, rfl, e1, t⟩ := hs.lst_at hk S (v := v) (by simp)
    have e2 := dpa_ints_of t
    subst e2
    refine ⟨a, ns, rfl, .of e1, fun ns' pp h1 h2 hp => ?_⟩
    have e3 : ns' = ms := (h1.trans hms.1.symm).eq_of_pairwise (fun a b _ _ h1 h2 => Int.le_antisymm h1 h2) h2 hms.2
    subst e3
    exact q _ _ _ (Sem.pushFlat (Sem.pop S) hp (dpa_ints _))) (he := he)

/-! ### isinstance -/
theorem de_ty {x : Str} {T : String} (hm : X.mg x = none) (hv : bootBuiltins x = some (.type T)) (hg : Gl X x := by rfl) (hn : x ≠ "__name__" := by decide) (hd : (x == ("__debug__" : Str)) = false := by decide) : DE G X (.Name x pos) ρ (.ty T) ρ :=
  .of (pe_bltn (v := .ty T) hg hm hv rfl hn hd) fun B M τ σ H S Q q => q _ M H (by
    obtain ⟨f, ft, s1, t1, n1, o1, o2⟩ := S.own
    exact ⟨⟨f, [] ++ ft, s1, .cons ⟨rfl, rfl⟩ t1 (by simp), n1, o1, o2⟩, S.keep, S.sub, S.old, S.al, S.tabs, S.tm, S.len⟩)
/-- the built-in class of data -/
def tyD : PyData → String
  | .none => "NoneType"
  | .bool _ => "bool"
  | .int _ => "int"
  | .str _ => "str"
  | .list _ => "list"
  | .tuple _ => "tuple"
  | .dict _ => "dict"
theorem tyX_of {K : PySem.W.Frag} (h : Dq H v d) : TyX K H v (.type (tyD d)) := by
  cases h with
  | non => exact .base .non
  | bl b => exact .base (.bl b)
  | int i => exact .base (.int i)
  | str x => exact .base (.str x)
  | lst e t => exact .base (.lst e)
  | tup e t => exact .base (.tup e)
theorem de_isi {T : String} {b : Bool} (hb : kitB (tyD d) T = some b) (hm : X.mg "isinstance" = none) (ha : DE G X e ρ (.dat d) ρ1) (ht : DE G X e' ρ1 (.ty T) ρ2) (hg : Gl X "isinstance" := by rfl) (he : starEach [e, e'] X.env = (false, eval e X.env) :: starEach [e'] X.env := by rfl) (he' : starEach [e'] X.env = (false, eval e' X.env) :: starEach [] X.env := by rfl)
    (hpl : (backTo pos (starEach [e'] X.env)).any (·.1) = false := by rfl) : DE G X (.Call (.Name "isinstance" p) [e, e'] [] pos) ρ (.dat (.bool b)) ρ2 :=
  de_callB call_isi hg hm (by decide +kernel) (da_cons ha (da_one ht he') he) (fun B M τ σ H vs hl S Q q => by
    obtain ⟨v, w, rfl⟩ := two_of hl
    have S' : Sem G X.K B M ((w, .ty T) :: (v, .dat d) :: τ) σ ρ2 H := S
    obtain ⟨fp, _, rfl⟩ := S'.mem (v := w) (av := .ty T) (by simp)
    have t := S'.pop.headD
    exact ⟨v, .ty T, _, _, b, rfl, .ty T, tyX_of (dp_mono (hid_sub _ _) _ _ t), kit_ty hb, q _ M H (S'.pop.pop.push (.bl _))⟩) (he := he) (hpl := hpl)

/-! ### and, or, not, if, chains -/
variable {a b c : Bool} {rest : List Expr}
theorem de_one {op : BoolOp} (h : DE G X e ρ av ρ1) : DE G X (.BoolOp op [e] pos) ρ av ρ1 := fun B M τ σ H S Q q => toE (pe_one pE) (h B M τ σ H S Q q)
theorem de_and (ha : DE G X e ρ (.dat (.bool a)) ρ1) (hb : a = true → DE G X (.BoolOp .And (e' :: rest) pos) ρ1 (.dat (.bool b)) ρ2) (h2 : a = false → ρ1 = ρ2) : DE G X (.BoolOp .And (e :: e' :: rest) pos) ρ (.dat (.bool (a && b))) ρ2 :=
  fun B M τ σ H S Q q => toE (pe_and pE pE) (ha B M τ σ H S _ fun v M1 H1 S1 => by
    have t := S1.headD
    cases t
    refine ⟨a, rfl, ?_⟩
    cases a with
    | true => exact hb rfl B M1 τ σ H1 S1.pop Q q
    | false =>
      have e := h2 rfl
      subst e
      exact q _ M1 H1 S1)
theorem de_or (ha : DE G X e ρ (.dat (.bool a)) ρ1) (hb : a = false → DE G X (.BoolOp .Or (e' :: rest) pos) ρ1 (.dat (.bool b)) ρ2) (h2 : a = true → ρ1 = ρ2) : DE G X (.BoolOp .Or (e :: e' :: rest) pos) ρ (.dat (.bool (a || b))) ρ2 :=
  fun B M τ σ H S Q q => toE (pe_or pE pE) (ha B M τ σ H S _ fun v M1 H1 S1 => by
    have t := S1.headD
    cases t
    refine ⟨a, rfl, ?_⟩
    cases a with
    | false => exact hb rfl B M1 τ σ H1 S1.pop Q q
    | true =>
      have e := h2 rfl
      subst e
      exact q _ M1 H1 S1)
theorem de_not (ha : DE G X e ρ (.dat (.bool a)) ρ1) : DE G X (.UnaryOp .Not e pos) ρ (.dat (.bool (!a))) ρ1 := fun B M τ σ H S Q q => toE (pe_not pE) (ha B M τ σ H S _ fun v M1 H1 S1 => by
  have t := S1.headD
  cases t
  exact ⟨a, rfl, q _ M1 H1 (S1.pop.push (.bl _))⟩)
theorem dt_not (ha : DT G X e ρ a ρ1) : DT G X (.UnaryOp .Not e pos) ρ (!a) ρ1 := fun B M τ σ H S Q q => toT (pt_not pT) (ha B M τ σ H S _ fun M1 H1 S1 => q M1 H1 S1)
theorem dw_and1 (ha : DT G X e ρ a ρ1) : DW G X (.BoolOp .And [e] pos) ρ a ρ1 := fun B M τ σ H S Q q => toW (pw_and1 pT) (ha B M τ σ H S Q q)
theorem dw_or1 (ha : DT G X e ρ a ρ1) : DW G X (.BoolOp .Or [e] pos) ρ a ρ1 := fun B M τ σ H S Q q => toW (pw_or1 pT) (ha B M τ σ H S Q q)
theorem dw_and (ha : DT G X e ρ a ρ1) (hb : a = true → DW G X (.BoolOp .And (e' :: rest) pos) ρ1 b ρ2) (h2 : a = false → ρ1 = ρ2) : DW G X (.BoolOp .And (e :: e' :: rest) pos) ρ (a && b) ρ2 := fun B M τ σ H S Q q => toW (pw_and pT pW) (ha B M τ σ H S _ fun M1 H1 S1 => by
  cases a with
  | true => exact hb rfl B M1 τ σ H1 S1 Q q
  | false =>
    have e := h2 rfl
    subst e
    exact q M1 H1 S1)
theorem dw_or (ha : DT G X e ρ a ρ1) (hb : a = false → DW G X (.BoolOp .Or (e' :: rest) pos) ρ1 b ρ2) (h2 : a = true → ρ1 = ρ2) : DW G X (.BoolOp .Or (e :: e' :: rest) pos) ρ (a || b) ρ2 := fun B M τ σ H S Q q => toW (pw_or pT pW) (ha B M τ σ H S _ fun M1 H1 S1 => by
  cases a with
  | false => exact hb rfl B M1 τ σ H1 S1 Q q
  | true =>
    have e := h2 rfl
    subst e
    exact q M1 H1 S1)
theorem dt_w (h : DW G X e ρ a ρ1) : DT G X e ρ a ρ1 := fun B M τ σ H S Q q => toT pW.pt (h B M τ σ H S Q q)
theorem de_if (hc : DT G X e'' ρ c ρ1) (h1 : c = true → DE G X e ρ1 av ρ2) (h2 : c = false → DE G X e' ρ1 av ρ2) : DE G X (.IfExp e'' e e' pos) ρ av ρ2 := fun B M τ σ H S Q q => toE (pe_ifExp pT pE pE) (hc B M τ σ H S _ fun M1 H1 S1 => by
  cases c with
  | true => exact h1 rfl B M1 τ σ H1 S1 Q q
  | false => exact h2 rfl B M1 τ σ H1 S1 Q q)
/-- i <= j <= k of ints -/
theorem de_chain {i j l : Int} (ha : DE G X e ρ (.dat (.int i)) ρ1) (hb : DE G X e' ρ1 (.dat (.int j)) ρ2) (hc : DE G X e'' ρ2 (.dat (.int l)) ρ2) (hm : lastMarks [.LtE, .LtE] [e', e''] = false := by with_unfolding_all rfl) : DE G X (.Compare e [.LtE, .LtE] [e', e''] pos) ρ (.dat (.bool (decide (i ≤ j) && decide (j ≤ l)))) ρ2 :=
  fun B M τ σ H S Q q => toE (pe_chain op_le op_le pE pE pE hm) (ha B M τ σ H S _ fun v1 M1 H1 S1 => hb B M1 _ σ H1 S1 _ fun v2 M2 H2 S2 => by
    obtain ⟨t2, t1⟩ := S2.two
    cases t1; cases t2
    refine ⟨i, j, rfl, rfl, _, rfl, ?_⟩
    by_cases h : i ≤ j
    · rw [decide_eq_true h, if_pos rfl]
      refine hc B M2 _ σ H2 S2 _ fun v3 M3 H3 S3 => ?_
      have t3 := S3.headD
      cases t3
      refine ⟨j, l, rfl, rfl, ?_⟩
      have := q (.bl (decide (j ≤ l))) M3 H3
      rw [decide_eq_true h, Bool.true_and] at this
      exact this (S3.pop.pop.pop.push (.bl _))
    · rw [decide_eq_false h, if_neg (by simp)]
      rw [decide_eq_false h, Bool.false_and] at q
      exact q _ M2 H2 (S2.pop.pop.push (.bl _)))
end
end TW
end
section
set_option Elab.async false
set_option linter.all false
set_option maxRecDepth 100000
set_option maxHeartbeats 1000000
/-! The layer, 5: statements, targets, loops. -/
namespace TW
open PySem PySem.Spec PyProof.Rows L2

def tS (X : Cx) (st : Stmt) : TS := fun D σ H => ∀ pins s, Inv X pins σ H s → wpAny (model X.prog X.w) X.A (exec st X.env) (SP X pins D) X.xe s
def tSs (X : Cx) (sts : List Stmt) : TS := fun D σ H => ∀ pins s, Inv X pins σ H s → wpAny (model X.prog X.w) X.A (execs sts X.env) (SP X pins D) X.xe s
def tG (X : Cx) (tg : Expr) : TG := fun v σ H Q => ∀ pins s u, Inv X pins σ H s → RelV v u → wpAny (model X.prog X.w) X.A (assign tg X.env u) (fun _ s' => ∃ σ' H', Inv X pins σ' H' s' ∧ Q σ' H') X.xe s
def tGs (X : Cx) (tgs : List Expr) : TGs := fun vs σ H Q => ∀ pins s us, Inv X pins σ H s → Vals vs us → wpAny (model X.prog X.w) X.A (assignInOrder ((assignEach tgs X.env).map (·.2)) us) (fun _ s' => ∃ σ' H', Inv X pins σ' H' s' ∧ Q σ' H') X.xe s
def tI (X : Cx) (tg iter : Expr) : TI := fun σ H R => ∀ pins s, Inv X pins σ H s → wpAny (model X.prog X.w) X.A (eval iter X.env) (fun v s1 => wpAny (model X.prog X.w) X.A (pyIter v) (PIE X pins σ tg R) X.xe s1) X.xe s
section
variable {X : Cx} {st : Stmt} {sts : List Stmt} {tg iter : Expr} {tgs : List Expr} {σ : L2.St} {H : Hp} {D : Ends}
theorem pS : PS X st (tS X st) := ⟨fun pins s σ H D I h => h pins s I⟩
theorem pSs : PSs X sts (tSs X sts) := ⟨fun pins s σ H D I h => h pins s I⟩
theorem pG : PG X tg (tG X tg) := ⟨fun pins s σ H v u Q I r h => h pins s u I r⟩
theorem pGs : PGs X tgs (tGs X tgs) := ⟨fun pins s σ H vs us Q I r h => h pins s us I r⟩
theorem pI : PI X tg iter (tI X tg iter) := ⟨fun pins s σ H R I h => h pins s I⟩
theorem toS {t : TS} (p : PS X st t) (h : t D σ H) : tS X st D σ H := fun pins s I => p.run pins s σ H D I h
theorem toSs {t : TS} (p : PSs X sts t) (h : t D σ H) : tSs X sts D σ H := fun pins s I => p.run pins s σ H D I h
theorem toG {t : TG} {v : V} {Q : L2.St → Hp → Prop} (p : PG X tg t) (h : t v σ H Q) : tG X tg v σ H Q := fun pins s u I r => p.run pins s σ H v u Q I r h
theorem toGs {t : TGs} {vs : List V} {Q : L2.St → Hp → Prop} (p : PGs X tgs t) (h : t vs σ H Q) : tGs X tgs vs σ H Q := fun pins s us I r => p.run pins s σ H vs us Q I r h
theorem toI {t : TI} {R : It → Hp → Prop} (p : PI X tg iter t) (h : t σ H R) : tI X tg iter σ H R := fun pins s I => p.run pins s σ H R I h
end

/-- how a statement ends -/
inductive Out where
  | nx (ρ : Ev) | rt (av : AV) (ρ : Ev) | bk (ρ : Ev) | ct (ρ : Ev)
def WT (G : Glb) (K : PySem.W.Frag) (t : TS) (ρ : Ev) (Φ : Out → Prop) : Prop :=
  ∀ (B : Bas) (M : List Addr) (τ : Tmp) (σ : L2.St) (H : Hp), Dats τ → Sem G K B M τ σ ρ H → ∀ D : Ends,
    (∀ ρ' M' σ' H', Φ (.nx ρ') → Sem G K B M' τ σ' ρ' H' → D.nx σ' H') → (∀ av ρ' v M' σ' H', Φ (.rt av ρ') → Sem G K B M' ((v, av) :: τ) σ' ρ' H' → D.rt v H') →
    (∀ ρ' M' σ' H', Φ (.bk ρ') → Sem G K B M' τ σ' ρ' H' → D.bk σ' H') → (∀ ρ' M' σ' H', Φ (.ct ρ') → Sem G K B M' τ σ' ρ' H' → D.ct σ' H') → t D σ H
abbrev WS (G : Glb) (X : Cx) (st : Stmt) (ρ : Ev) (Φ : Out → Prop) : Prop := WT G X.K (tS X st) ρ Φ
abbrev WSs (G : Glb) (X : Cx) (sts : List Stmt) (ρ : Ev) (Φ : Out → Prop) : Prop := WT G X.K (tSs X sts) ρ Φ
def thenO (f : Ev → Prop) (Φ : Out → Prop) : Out → Prop
  | .nx ρ => f ρ
  | .rt av ρ => Φ (.rt av ρ)
  | .bk ρ => Φ (.bk ρ)
  | .ct ρ => Φ (.ct ρ)
/-- within a loop's turn: f wants what the next turn begins with -/
def turnO (f : Ev → Prop) (Φ : Out → Prop) : Out → Prop
  | .nx ρ => f ρ
  | .rt av ρ => Φ (.rt av ρ)
  | .bk ρ => Φ (.nx ρ)
  | .ct ρ => f ρ
/-- a target's store; js: the slots that it may touch -/
def GTt (G : Glb) (K : PySem.W.Frag) (g : TG) (ρ : Ev) (av : AV) (ρ' : Ev) (js : List Nat) : Prop :=
  ∀ (B : Bas) (M : List Addr) (τ : Tmp) (σ : L2.St) (H : Hp) (v : V), Dats τ → Sem G K B M ((v, av) :: τ) σ ρ H → ∀ Q : L2.St → Hp → Prop,
    (∀ M' σ' H', Sem G K B M' τ σ' ρ' H' → (∀ vs : List Nat, (∀ j ∈ js, j ∈ vs) → wipe σ' vs = wipe σ vs) → Q σ' H') → g v σ H Q
def GTts (G : Glb) (K : PySem.W.Frag) (g : TGs) (ρ : Ev) (ds : List PyData) (ρ' : Ev) (js : List Nat) : Prop :=
  ∀ (B : Bas) (M : List Addr) (τ : Tmp) (σ : L2.St) (H : Hp) (vs : List V), Dats τ → vs.length = ds.length → Sem G K B M (vs.zip (ds.map AV.dat) ++ τ) σ ρ H → ∀ Q : L2.St → Hp → Prop,
    (∀ M' σ' H', Sem G K B M' τ σ' ρ' H' → (∀ vs : List Nat, (∀ j ∈ js, j ∈ vs) → wipe σ' vs = wipe σ vs) → Q σ' H') → g vs σ H Q
abbrev GT (G : Glb) (X : Cx) (tg : Expr) (ρ : Ev) (av : AV) (ρ' : Ev) (js : List Nat) : Prop := GTt G X.K (tG X tg) ρ av ρ' js
abbrev GTs (G : Glb) (X : Cx) (tgs : List Expr) (ρ : Ev) (ds : List PyData) (ρ' : Ev) (js : List Nat) : Prop := GTts G X.K (tGs X tgs) ρ ds ρ' js

theorem wipe_get {σ : L2.St} {j i : Nat} {vs : List Nat} : (wipe σ vs)[i]? = if i ∈ vs then (if i < σ.length then some none else none) else σ[i]? := by
  induction vs with
  | nil => simp [wipe]
  | cons v r ih =>
    unfold wipe
    by_cases h : v = i
    · subst h
      rw [if_pos List.mem_cons_self, List.getElem?_set, if_pos rfl, wipe_length]
    · rw [List.getElem?_set_ne h, ih]
      by_cases hr : i ∈ r
      · rw [if_pos hr, if_pos (List.mem_cons_of_mem _ hr)]
      · rw [if_neg hr, if_neg (by simp [Ne.symm h, hr])]
theorem wipe_set {σ : L2.St} {j : Nat} {y : Option V} {vs : List Nat} (h : j ∈ vs) : wipe (σ.set j y) vs = wipe σ vs := by
  apply List.ext_getElem?
  intro i
  rw [wipe_get (j := 0), wipe_get (j := 0)]
  by_cases hi : i ∈ vs
  · rw [if_pos hi, if_pos hi, List.length_set]
  · rw [if_neg hi, if_neg hi, List.getElem?_set_ne (by rintro rfl; exact hi h)]

section
variable {G : Glb} {K : PySem.W.Frag} {B : Bas} {M M' : List Addr} {τ : Tmp} {σ σ' : L2.St} {ρ ρ' ρ1 ρ2 ρ3 ρ4 : Ev} {H H' : Hp} {v : V} {av a1 a2 a3 : AV} {d d1 d2 : PyData} {ds es : List PyData}
variable {X : Cx} {e e' e'' tg iter : Expr} {pos : Pos} {k : Nat} {st : Stmt} {sts : List Stmt} {Φ Φ' : Out → Prop} {js js' : List Nat}

/-! ### blocks -/
theorem wt_imp {t : TS} (h : WT G K t ρ Φ) (f : ∀ o, Φ o → Φ' o) : WT G K t ρ Φ' := fun B M τ σ H dd S D h1 h2 h3 h4 =>
  h B M τ σ H dd S D (fun _ _ _ _ q => h1 _ _ _ _ (f _ q)) (fun _ _ _ _ _ _ q => h2 _ _ _ _ _ _ (f _ q)) (fun _ _ _ _ q => h3 _ _ _ _ (f _ q)) (fun _ _ _ _ q => h4 _ _ _ _ (f _ q))
theorem wt_weak {t : TS} (w : Weak ρ ρ') (h : WT G K t ρ' Φ) : WT G K t ρ Φ := fun B M τ σ H dd S => h B M τ σ H dd (S.weak w)
theorem wt_frz {t : TS} {i : Nat} (e : ρ[i]? = some (some (.flat ds))) (h : WT G K t (ρ.set i (some (.dat (.list ds)))) Φ) : WT G K t ρ Φ := fun B M τ σ H dd S => let ⟨M', S'⟩ := S.frzS e; h B M' τ σ H dd S'
theorem ws_nil (h : Φ (.nx ρ)) : WSs G X [] ρ Φ := fun B M τ σ H dd S D h1 _ _ _ => toSs pss_nil (h1 _ _ _ _ h S)
theorem ws_cons (h : WS G X st ρ (thenO (fun ρ' => WSs G X sts ρ' Φ) Φ)) : WSs G X (st :: sts) ρ Φ := fun B M τ σ H dd S D h1 h2 h3 h4 =>
  toSs (pss_cons pS pSs) (h B M τ σ H dd S { D with nx := tSs X sts D } (fun ρ' M' σ' H' q S' => q B M' τ σ' H' dd S' D h1 h2 h3 h4) h2 h3 h4)
theorem ws_one (h : WS G X st ρ Φ) : WSs G X [st] ρ Φ := fun B M τ σ H dd S D h1 h2 h3 h4 => toSs (pss_one pS) (h B M τ σ H dd S D h1 h2 h3 h4)
theorem ws_ret (h : DE G X e ρ av ρ') (q : Φ (.rt av ρ')) : WS G X (.Return (some e) pos) ρ Φ := fun B M τ σ H dd S D _ h2 _ _ => toS (ps_ret pE) (h B M τ σ H S _ fun v M' H' S' => h2 _ _ _ _ _ _ q S')
theorem ws_expr (h : DE G X e ρ av ρ') (q : Φ (.nx ρ')) (hs : swapsWith e none pos.line X.env = pure false := by rfl) : WS G X (.Expr e pos) ρ Φ := fun B M τ σ H dd S D h1 _ _ _ => toS (ps_expr pE hs) (h B M τ σ H S _ fun v M' H' S' => h1 _ _ _ _ q S'.pop)
theorem ws_break (q : Φ (.bk ρ)) : WS G X (.Break pos) ρ Φ := fun B M τ σ H dd S D _ _ h3 _ => toS ps_break (h3 _ _ _ _ q S)
theorem ws_continue (q : Φ (.ct ρ)) : WS G X (.Continue pos) ρ Φ := fun B M τ σ H dd S D _ _ _ h4 => toS ps_continue (h4 _ _ _ _ q S)
theorem ws_pass (q : Φ (.nx ρ)) : WS G X (.Pass pos) ρ Φ := fun B M τ σ H dd S D h1 _ _ _ => toS ps_pass (h1 _ _ _ _ q S)
theorem ws_if {b : Bool} {p q : List Stmt} (hc : DT G X e ρ b ρ1) (h1 : b = true → WSs G X p ρ1 Φ) (h2 : b = false → WSs G X q ρ1 Φ) : WS G X (.If e p q pos) ρ Φ := fun B M τ σ H dd S D k1 k2 k3 k4 =>
  toS (ps_if pT pSs pSs) (hc B M τ σ H S _ fun M1 H1 S1 => by
    cases b with
    | true => exact h1 rfl B M1 τ σ H1 dd S1 D k1 k2 k3 k4
    | false => exact h2 rfl B M1 τ σ H1 dd S1 D k1 k2 k3 k4)
/-- if without else, the test false -/
theorem ws_skip {p : List Stmt} (hc : DT G X e ρ false ρ1) (q : Φ (.nx ρ1)) : WS G X (.If e p [] pos) ρ Φ := ws_if hc (fun h => by cases h) fun _ => ws_nil q

/-! ### targets -/
theorem gt_name {i : Nat} {x : Str} (na : av.isAls = false) (hN : X.N.Nodup) (hi : X.N[i]? = some x := by rfl) (hx : Loc X.env.scope x := by first | exact .inl rfl | exact .inr rfl) (hf : X.fn x = true ∨ X.env.scope.names.lookup x = some .local := by first | exact .inl rfl | exact .inr rfl | assumption) :
    GT G X (.Name x pos) ρ av (ρ.set i (some av)) [i] := fun B M τ σ H v dd S Q q => toG (pg_name hN hi hx hf) (q _ _ _ (S.set na dd) fun vs hj => wipe_set (hj i (by simp)))
theorem gts_nil : GTs G X [] ρ [] ρ [] := fun B M τ σ H vs dd hl S Q q => by
  cases vs with
  | nil => exact toGs pgs_nil ⟨rfl, q M σ H S fun _ _ => rfl⟩
  | cons v r => cases hl
theorem gts_cons {el : List Expr} (h1 : GT G X e ρ (.dat d) ρ1 js) (h2 : GTs G X el ρ1 ds ρ2 js') (hs : (assignEach (e :: el) X.env).map (·.2) = assign e X.env :: (assignEach el X.env).map (·.2) := by rfl) : GTs G X (e :: el) ρ (d :: ds) ρ2 (js ++ js') :=
  fun B M τ σ H vs dd hl S Q q => by
    cases vs with
    | nil => cases hl
    | cons v r =>
      have dd1 : Dats (r.zip (ds.map AV.dat) ++ τ) := fun x hx => by
        rcases List.mem_append.mp hx with z | z
        · obtain ⟨y, _, e⟩ := List.mem_map.mp (List.of_mem_zip z).2
          rw [← e]; rfl
        · exact dd x z
      refine toGs (pgs_cons pG pGs hs) ⟨v, r, rfl, h1 B M _ σ H v dd1 S _ fun M1 σ1 H1 S1 w1 => ?_⟩
      exact h2 B M1 τ σ1 H1 r dd (by simpa using hl) S1 _ fun M2 σ2 H2 S2 w2 => q M2 σ2 H2 S2 fun vs hj => (w2 vs fun j h => hj j (List.mem_append_right _ h)).trans (w1 vs fun j h => hj j (List.mem_append_left _ h))
theorem Sem.pushAll : ∀ {vs : List V} {ds : List PyData}, Sem G K B M τ σ ρ H → DqAll (hid M H) vs ds → Sem G K B M (vs.zip (ds.map AV.dat) ++ τ) σ ρ H
  | _, _, S, .nil => S
  | _, _, S, .cons h t => (Sem.pushAll S t).push h
theorem gt_tup {el : List Expr} {x1 : Nat} (h : GTs G X el ρ ds ρ' js) (hc : X.calm = true := by rfl) (hn : (assignEach el X.env).length = ds.length := by rfl) (hst : (assignEach el X.env).findIdx? (·.1) = none := by rfl) : GT G X (.Tuple el x1 pos) ρ (.dat (.tuple ds)) ρ' js :=
  fun B M τ σ H v dd S Q q => toG (pg_tup hc pGs hn hst) (by
    have t := S.headD
    cases t with
    | @tup a xs _ e1 t1 => exact ⟨a, xs, rfl, .of (hid_sub _ _ _ _ e1), dpa_len t1, h B M τ σ H xs dd (dpa_len t1) (S.pop.pushAll t1) Q q⟩)
theorem gt_unl {el : List Expr} {x1 : Nat} (h : GTs G X el ρ ds ρ' js) (hc : X.calm = true := by rfl) (hn : (assignEach el X.env).length = ds.length := by rfl) (hst : (assignEach el X.env).findIdx? (·.1) = none := by rfl) : GT G X (.Tuple el x1 pos) ρ (.dat (.list ds)) ρ' js :=
  fun B M τ σ H v dd S Q q => toG (pg_unl hc pGs hn hst) (by
    have t := S.headD
    cases t with
    | @lst a xs _ e1 t1 => exact ⟨a, xs, rfl, .of (hid_sub _ _ _ _ e1), dpa_len t1, h B M τ σ H xs dd (dpa_len t1) (S.pop.pushAll t1) Q q⟩)
/-- found[i] = data, found a list of one's own in slot j -/
theorem gt_sub {j n : Nat} {i : Int} (ho : DE G X e ρ (.als j) ρ1) (hi : DE G X e' ρ1 (.dat (.int i)) ρ2) (hr : ρ2[j]? = some (some (.flat ds))) (hx : ixN ds.length i = some n)
    (ha : ∀ v, assign (.Subscript e e' pos) X.env v = (do
      let ov ← holding [v] (eval e X.env)
      let iv ← holding [v, ov] (eval e' X.env)
      standAt pos
      holding [v, ov, iv] (setItem ov iv v)
      release [v, ov, iv] []) := by intro _; rfl) : GT G X (.Subscript e e' pos) ρ (.dat d) (ρ2.set j (some (.flat (ds.set n d)))) [] :=
  fun B M τ σ H v dd S Q q => toG (pg_sub pE pE set_list ha) (ho B M _ σ H S _ fun ov M1 H1 S1 => hi B M1 _ σ H1 S1 _ fun iv M2 H2 S2 => by
    have t := S2.headD
    cases t
    have e1 := S2.pop.headA
    have hv := S2.pop.pop.headD
    obtain ⟨l, vs, e2, e3, e4, mk⟩ := S2.pop.pop.mutS hr
    rw [e1] at e2
    cases e2
    have hlen := dpa_len e4
    exact ⟨l, vs, i, n, rfl, rfl, e3, by rw [hlen]; exact hx, q _ _ _ (mk _ _ (dpa_set n e4 hv)).pop fun _ _ => rfl⟩)

/-! ### assignments -/
theorem ws_asg (he : DE G X e ρ av ρ1) (hg : GT G X tg ρ1 av ρ2 js) (q : Φ (.nx ρ2)) (hs : swapsWithSole [tg] e pos.line X.env = pure false := by rfl) (hw : swappedStores [tg] e X.env = pure none := by rfl)
    (h1 : (assignEach [tg] X.env).map (·.2) = [assign tg X.env] := by rfl) : WS G X (.Assign [tg] e pos) ρ Φ := fun B M τ σ H dd S D k1 _ _ _ =>
  toS (ps_asg pE pG hs hw h1) (he B M τ σ H S _ fun v M1 H1 S1 => hg B M1 τ σ H1 v dd S1 _ fun M2 σ2 H2 S2 _ => k1 _ _ _ _ q S2)
theorem ws_set {i : Nat} {x : Str} {p : Pos} (na : av.isAls = false) (hN : X.N.Nodup) (he : DE G X e ρ av ρ1) (q : Φ (.nx (ρ1.set i (some av)))) (hi : X.N[i]? = some x := by rfl) (hx : Loc X.env.scope x := by first | exact .inl rfl | exact .inr rfl) (hf : X.fn x = true ∨ X.env.scope.names.lookup x = some .local := by first | exact .inl rfl | exact .inr rfl | assumption)
    (hs : swapsWithSole [.Name x p] e pos.line X.env = pure false := by rfl) (hw : swappedStores [.Name x p] e X.env = pure none := by rfl) (h1 : (assignEach [.Name x p] X.env).map (·.2) = [assign (.Name x p) X.env] := by rfl) : WS G X (.Assign [.Name x p] e pos) ρ Φ :=
  ws_asg he (gt_name na hN hi hx hf) q hs hw h1
theorem dats2 {vs : List V} {τ : Tmp} (h : vs.length = [a1, a2].length) : ∃ v w, vs = [v, w] ∧ (vs.zip [a1, a2]).reverse ++ τ = (w, a2) :: (v, a1) :: τ := match vs, h with | [v, w], _ => ⟨v, w, rfl, rfl⟩
theorem ws_par {i j : Nat} {x y : Str} {a b : Expr} {px py pt pt2 : Pos} {kt k2 : Nat} (n1 : a1.isAls = false) (n2 : a2.isAls = false) (hij : i ≠ j) (hN : X.N.Nodup) (ha : DA G X [a, b] ρ [a1, a2] ρ1) (q : Φ (.nx ((ρ1.set i (some a1)).set j (some a2))))
    (hi : X.N[i]? = some x := by rfl) (hj : X.N[j]? = some y := by rfl) (hx : X.env.scope.names.lookup x = some .local := by rfl) (hy : X.env.scope.names.lookup y = some .local := by rfl) (hc : X.calm = true := by rfl)
    (hw : swappedStores [.Tuple [.Name x px, .Name y py] kt pt] (.Tuple [a, b] k2 pt2) X.env = pure (some [x, y]) := by rfl) (hs : swapsWithSole [.Tuple [.Name x px, .Name y py] kt pt] (.Tuple [a, b] k2 pt2) pos.line X.env = pure false := by rfl) :
    WS G X (.Assign [.Tuple [.Name x px, .Name y py] kt pt] (.Tuple [a, b] k2 pt2) pos) ρ Φ := fun B M τ σ H dd S D k1 _ _ _ =>
  toS (ps_par hc hN hi hj hij hx hy pA hw hs) (ha B M τ σ H S _ fun vs M1 H1 hl S1 => by
    obtain ⟨v, w, rfl, e⟩ := dats2 (τ := τ) hl
    rw [e] at S1
    refine ⟨v, w, rfl, ?_⟩
    have S2 := S1.set (i := j) n2 fun x hx => by
      rcases List.mem_cons.mp hx with rfl | hx
      · exact n1
      · exact dd x hx
    have S3 := S2.set (i := i) n1 dd
    rw [List.set_comm _ _ (Ne.symm hij), List.set_comm _ _ (Ne.symm hij)] at S3
    exact k1 _ _ _ _ q S3)
theorem dats3 {vs : List V} {τ : Tmp} (h : vs.length = [a1, a2, a3].length) : ∃ v w z, vs = [v, w, z] ∧ (vs.zip [a1, a2, a3]).reverse ++ τ = (z, a3) :: (w, a2) :: (v, a1) :: τ := match vs, h with | [v, w, z], _ => ⟨v, w, z, rfl, rfl⟩
theorem ws_par3 {i j l : Nat} {x y z : Str} {a b c : Expr} {px py pz pt pt2 : Pos} {kt k2 : Nat} (n1 : a1.isAls = false) (n2 : a2.isAls = false) (n3 : a3.isAls = false) (hij : i ≠ j) (hil : i ≠ l) (hjl : j ≠ l) (hN : X.N.Nodup) (ha : DA G X [a, b, c] ρ [a1, a2, a3] ρ1) (q : Φ (.nx (((ρ1.set i (some a1)).set j (some a2)).set l (some a3))))
    (hi : X.N[i]? = some x := by rfl) (hj : X.N[j]? = some y := by rfl) (hl : X.N[l]? = some z := by rfl) (hx : X.env.scope.names.lookup x = some .local := by rfl) (hy : X.env.scope.names.lookup y = some .local := by rfl) (hz : X.env.scope.names.lookup z = some .local := by rfl) (hc : X.calm = true := by rfl)
    (hw : swappedStores [.Tuple [.Name x px, .Name y py, .Name z pz] kt pt] (.Tuple [a, b, c] k2 pt2) X.env = pure (some [x, y, z]) := by rfl) (hs : swapsWithSole [.Tuple [.Name x px, .Name y py, .Name z pz] kt pt] (.Tuple [a, b, c] k2 pt2) pos.line X.env = pure false := by rfl) :
    WS G X (.Assign [.Tuple [.Name x px, .Name y py, .Name z pz] kt pt] (.Tuple [a, b, c] k2 pt2) pos) ρ Φ := fun B M τ σ H dd S D k1 _ _ _ =>
  toS (L2.ps_par3 hc hN hi hj hl hij hil hjl hx hy hz pA hw hs) (ha B M τ σ H S _ fun vs M1 H1 hl2 S1 => by
    obtain ⟨v, w, u, rfl, e⟩ := dats3 (τ := τ) hl2
    rw [e] at S1
    refine ⟨v, w, u, rfl, ?_⟩
    have S2 := S1.set (i := l) n3 fun x hx => by
      rcases List.mem_cons.mp hx with rfl | hx
      · exact n2
      · rcases List.mem_cons.mp hx with rfl | hx
        · exact n1
        · exact dd x hx
    have S3 := S2.set (i := j) n2 fun x hx => by
      rcases List.mem_cons.mp hx with rfl | hx
      · exact n1
      · exact dd x hx
    have S4 := S3.set (i := i) n1 dd
    have e1 : ∀ {α : Type} (s : List (Option α)) (a b c : Option α), ((s.set l c).set j b).set i a = ((s.set i a).set j b).set l c := fun s a b c => by
      rw [List.set_comm c b (Ne.symm hjl), List.set_comm c a (Ne.symm hil), List.set_comm b a (Ne.symm hij)]
    rw [e1, e1] at S4
    exact k1 _ _ _ _ q S4)
/-- x += n -/
theorem ws_augI {i : Nat} {x : Str} {p : Pos} {a b : Int} (hN : X.N.Nodup) (ha : ρ[i]? = some (some (.dat (.int a)))) (he : DE G X e ρ (.dat (.int b)) ρ) (q : Φ (.nx (ρ.set i (some (.dat (.int (a + b))))))) (hi : X.N[i]? = some x := by rfl) (hx : Loc X.env.scope x := by first | exact .inl rfl | exact .inr rfl) (hf : X.fn x = true ∨ X.env.scope.names.lookup x = some .local := by first | exact .inl rfl | exact .inr rfl | assumption) :
    WS G X (.AugAssign (.Name x p) .Add e pos) ρ Φ := fun B M τ σ H dd S D k1 _ _ _ => toS (ps_aug hN hi hx pE ip_add) (by
      obtain ⟨v, e1, t⟩ := S.slotD ha
      cases t
      exact ⟨_, e1, he B M τ σ H S _ fun w M1 H1 S1 => by
        have t := S1.headD
        cases t
        exact ⟨a, b, rfl, rfl, k1 _ _ _ _ q ((S1.pop.push (.int _)).set rfl dd)⟩⟩)

/-! ### loops -/
/-- what an iterator gives: the data ds; kp: the temporary that it leans on -/
def Yields (G : Glb) (K : PySem.W.Frag) (J : It) (ds : List PyData) (kp : V × AV) : Prop :=
  ∀ (B : Bas) (M : List Addr) (τ : Tmp) (σ : L2.St) (ρ : Ev) (H : Hp) (i : Nat), Sem G K B M (kp :: τ) σ ρ H →
    (ds.length ≤ i → J.stop i H) ∧ (i < ds.length → J.go i H ∧ ∀ x H', J.yld i H x H' → ∃ d M', ds[i]? = some d ∧ Sem G K B M' ((x, .dat d) :: kp :: τ) σ ρ H')
def ITt (G : Glb) (K : PySem.W.Frag) (wi : TI) (ρ : Ev) (ds : List PyData) (ρ' : Ev) : Prop :=
  ∀ (B : Bas) (M : List Addr) (τ : Tmp) (σ : L2.St) (H : Hp), Sem G K B M τ σ ρ H → ∀ R : It → Hp → Prop, (∀ J kp M' H', kp.2.isAls = false → Sem G K B M' (kp :: τ) σ ρ' H' → Yields G K J ds kp → R J H') → wi σ H R
abbrev IT (G : Glb) (X : Cx) (tg iter : Expr) (ρ : Ev) (ds : List PyData) (ρ' : Ev) : Prop := ITt G X.K (tI X tg iter) ρ ds ρ'
theorem it_tup (h : DE G X iter ρ (.dat (.tuple ds)) ρ') (hp : PI X tg iter (iTup X.K (tE X iter)) := by exact pi_tup pE) : IT G X tg iter ρ ds ρ' := fun B M τ σ H S R r => toI hp (h B M τ σ H S _ fun v M1 H1 S1 => by
  have t := S1.headD
  cases t with
  | @tup a xs _ e1 t1 =>
    refine ⟨a, rfl, ⟨xs, .of (hid_sub _ _ _ _ e1)⟩, r _ (.ref a, .dat (.tuple ds)) M1 H1 rfl S1 fun B M τ σ ρ H i S => ?_⟩
    have t := S.headD
    cases t with
    | tup e2 t2 =>
      have hl := dpa_len t2
      have hT := SqT.of (K := X.K) (hid_sub _ _ _ _ e2)
      refine ⟨fun h => ⟨_, hT, by omega⟩, fun h => ?_⟩
      obtain ⟨x, ex, hx⟩ := dpa_get (i := i) t2 (List.getElem?_eq_getElem h)
      exact ⟨⟨_, x, hT, ex⟩, fun y H' ⟨e, f⟩ => by
        subst e
        have := f _ hT
        rw [ex] at this
        cases this
        exact ⟨_, M, List.getElem?_eq_getElem h, S.push hx⟩⟩)
theorem it_lst (h : DE G X iter ρ (.dat (.list ds)) ρ') (hp : PI X tg iter (iList X.K (tE X iter)) := by exact pi_list pE) : IT G X tg iter ρ ds ρ' := fun B M τ σ H S R r => toI hp (h B M τ σ H S _ fun v M1 H1 S1 => by
  have t := S1.headD
  cases t with
  | @lst a xs _ e1 t1 =>
    refine ⟨a, rfl, ⟨xs, .of (hid_sub _ _ _ _ e1)⟩, r _ (.ref a, .dat (.list ds)) M1 H1 rfl S1 fun B M τ σ ρ H i S => ?_⟩
    have t := S.headD
    cases t with
    | lst e2 t2 =>
      have hl := dpa_len t2
      have hT := SqL.of (K := X.K) (hid_sub _ _ _ _ e2)
      refine ⟨fun h => ⟨_, hT, by omega⟩, fun h => ?_⟩
      obtain ⟨x, ex, hx⟩ := dpa_get (i := i) t2 (List.getElem?_eq_getElem h)
      exact ⟨⟨_, x, hT, ex⟩, fun y H' ⟨e, f⟩ => by
        subst e
        have := f _ hT
        rw [ex] at this
        cases this
        exact ⟨_, M, List.getElem?_eq_getElem h, S.push hx⟩⟩)
/-- range(n) -/
abbrev rng (n : Nat) : List PyData := (List.range n).map fun i => PyData.int (i : Nat)
theorem it_range {n : Nat} {p : Pos} (hm : X.mg "range" = none) (hz : n ≤ 100000) (h : DE G X e ρ (.dat (.int (n : Int))) ρ') (hg : Gl X "range" := by rfl) (he : starEach [e] X.env = (false, eval e X.env) :: starEach [] X.env := by rfl) : IT G X tg (.Call (.Name "range" p) [e] [] pos) ρ (rng n) ρ' := fun B M τ σ H S R r =>
  toI (pi_range1 hg hm pA he) (da_one h he B M τ σ H S _ fun vs M1 H1 hl S1 => by
    obtain ⟨v, rfl⟩ := one_of hl
    have S1 : Sem G X.K B M1 ((v, .dat (.int (n : Int))) :: τ) σ ρ' H1 := S1
    have t := S1.headD
    cases t
    refine ⟨(n : Int), rfl, by omega, by omega, r _ (V.int (n : Int), .dat (.int (n : Int))) M1 H1 rfl S1 fun B M τ σ ρ H i S => ?_⟩
    have en : (n : Int).toNat = n := by omega
    have hl : (rng n).length = n := by simp [rng]
    refine ⟨fun h => ?_, fun h => ?_⟩
    · show (n : Int).toNat ≤ i
      omega
    · have hi : i < n := by omega
      refine ⟨by show i < (n : Int).toNat; omega, fun x H' ⟨e1, e2⟩ => ?_⟩
      subst e1 e2
      have ez : (0 : Int) + (i : Int) = (i : Int) := by omega
      refine ⟨.int (i : Int), M, by simp [rng, hi], S.push ?_⟩
      rw [ez]
      exact .int _)

theorem ws_for {body : List Stmt} (hi : IT G X tg iter ρ ds ρ1) (I : Nat → Ev → Prop) (h0 : I 0 ρ1)
    (hs : ∀ (i : Nat) (d : PyData) (ρ2 : Ev), ds[i]? = some d → I i ρ2 → ∃ ρ3 js, GT G X tg ρ2 (.dat d) ρ3 js ∧ WSs G X body ρ3 (turnO (fun ρ4 => ∃ ρ5, Weak ρ4 ρ5 ∧ I (i + 1) ρ5) Φ)) (hd : ∀ ρ2, I ds.length ρ2 → Φ (.nx ρ2))
    (hp : PassesOwn (model X.prog X.w) X.A X.env X.xe := by exact PassesOwn.never) (hc : X.calm = true := by rfl) (hf : ∀ x, foldedSetIterable iter X.env x = pure x := by intro _; rfl) : WS G X (.For tg iter body [] pos) ρ Φ :=
  fun B M τ σ H dd S D k1 k2 k3 k4 => toS (ps_for hp hc pI pG pSs hf) (hi B M τ σ H S _ fun J kp M1 H1 nk S1 Y => by
    have dk : Dats (kp :: τ) := fun x hx => by
      rcases List.mem_cons.mp hx with rfl | hx
      · exact nk
      · exact dd x hx
    refine ⟨fun i m σ' H' => m = ds.length - i ∧ i ≤ ds.length ∧ ∃ ρ2 M2, I i ρ2 ∧ Sem G X.K B M2 (kp :: τ) σ' ρ2 H', ⟨ds.length, by simp, Nat.zero_le _, ρ1, M1, h0, S1⟩, ?_⟩
    rintro i m σ' H' ⟨rfl, hle, ρ2, M2, hI, S2⟩
    obtain ⟨ystop, ygo⟩ := Y B M2 τ σ' ρ2 H' i S2
    by_cases hlt : i < ds.length
    · obtain ⟨go, yl⟩ := ygo hlt
      refine .inr ⟨go, fun σ'' H'' => ∃ ρ5 M5, I (i + 1) ρ5 ∧ Sem G X.K B M5 (kp :: τ) σ'' ρ5 H'', fun σ'' H'' ⟨ρ5, M5, q1, q2⟩ => ⟨ds.length - (i + 1), by omega, rfl, by omega, ρ5, M5, q1, q2⟩, fun x H3 hy => ?_⟩
      obtain ⟨d, M3, ed, S3⟩ := yl x H3 hy
      obtain ⟨ρ3, js, hg, hb⟩ := hs i d ρ2 ed hI
      refine hg B M3 _ σ' H3 x dk S3 _ fun M4 σ4 H4 S4 _ => ?_
      refine hb B M4 (kp :: τ) σ4 H4 dk S4 _ (fun ρ' M' σ' H' ⟨ρ5, w, q⟩ S' => ⟨ρ5, M', q, S'.weak w⟩) (fun av ρ' v M' σ' H' q S' => k2 _ _ _ _ _ _ q S'.pop2) (fun ρ' M' σ' H' q S' => k1 _ _ _ _ q S'.pop) (fun ρ' M' σ' H' ⟨ρ5, w, q⟩ S' => ⟨ρ5, M', q, S'.weak w⟩)
    · have e : i = ds.length := by omega
      subst e
      exact .inl ⟨ystop (Nat.le_refl _), k1 _ _ _ _ (hd ρ2 hI) S2.pop⟩)
theorem ws_while {body : List Stmt} (I : Nat → Ev → Prop) (m0 : Nat) (h0 : I m0 ρ)
    (hs : ∀ m ρ1, I m ρ1 → ∃ b ρ2, DT G X e ρ1 b ρ2 ∧ (b = true → WSs G X body ρ2 (turnO (fun ρ3 => ∃ ρ4 m', Weak ρ3 ρ4 ∧ m' < m ∧ I m' ρ4) Φ)) ∧ (b = false → Φ (.nx ρ2)))
    (hp : PassesOwn (model X.prog X.w) X.A X.env X.xe := by exact PassesOwn.never) : WS G X (.While e body [] pos) ρ Φ :=
  fun B M τ σ H dd S D k1 k2 k3 k4 => toS (ps_while hp pT pSs) (by
    refine ⟨fun m σ' H' => ∃ ρ1 M1, I m ρ1 ∧ Sem G X.K B M1 τ σ' ρ1 H', ⟨m0, ρ, M, h0, S⟩, ?_⟩
    rintro m σ' H' ⟨ρ1, M1, hI, S1⟩
    obtain ⟨b, ρ2, ht, hb, hd⟩ := hs m ρ1 hI
    refine ht B M1 τ σ' H' S1 _ fun M2 H2 S2 => ?_
    cases b with
    | true =>
      refine iteT ⟨fun σ'' H'' => ∃ m', m' < m ∧ ∃ ρ3 M3, I m' ρ3 ∧ Sem G X.K B M3 τ σ'' ρ3 H'', fun σ'' H'' q => q, ?_⟩
      exact hb rfl B M2 τ σ' H2 dd S2 _ (fun ρ' M' σ' H' ⟨ρ4, m', w, hm, q⟩ S' => ⟨m', hm, ρ4, M', q, S'.weak w⟩) (fun av ρ' v M' σ' H' q S' => k2 _ _ _ _ _ _ q S') (fun ρ' M' σ' H' q S' => k1 _ _ _ _ q S') (fun ρ' M' σ' H' ⟨ρ4, m', w, hm, q⟩ S' => ⟨m', hm, ρ4, M', q, S'.weak w⟩)
    | false => exact iteF (k1 _ _ _ _ (hd rfl) S2))
end
end TW
end
section
set_option Elab.async false
set_option linter.all false
set_option maxRecDepth 100000
set_option maxHeartbeats 1000000
/-! The layer, 6: methods of lists, comprehensions, defs and calls. -/
namespace TW
open PySem PySem.Spec PyProof.Rows L2
section
variable {G : Glb} {K : PySem.W.Frag} {B : Bas} {M M' : List Addr} {τ : Tmp} {σ σ' : L2.St} {ρ ρ' ρ1 ρ2 ρ3 ρ4 : Ev} {H H' : Hp} {v : V} {av a1 a2 a3 : AV} {d d1 d2 : PyData} {ds es : List PyData}
variable {X : Cx} {e e' e'' tg iter : Expr} {pos apos cpos : Pos} {k : Nat} {st : Stmt} {sts : List Stmt} {Φ Φ' : Out → Prop} {js js' : List Nat}

/-! ### methods of a list of one's own -/
theorem de_append {j : Nat} {ds0 : List PyData} (ho : DE G X e ρ (.als j) ρ1) (hr0 : ρ1[j]? = some (some (.flat ds0))) (he : DE G X e' ρ1 (.dat d) ρ2) (hr : ρ2[j]? = some (some (.flat ds))) (hz : ds.length ≤ 100000)
    (hp : ∀ (to : TE) (ta : TA), PE X e to → PA X [e'] ta → PE X (.Call (.Attribute e "append" apos) [e'] [] cpos) (tBM X.K "list" rAppend to ta) := by exact fun _ _ h1 h2 => pe_bm PySem.F.plainAttrs_list PySem.F.slot_list_append PySem.F.type_list_append mt_append h1 h2)
    (hs : starEach [e'] X.env = (false, eval e' X.env) :: starEach [] X.env := by rfl) : DE G X (.Call (.Attribute e "append" apos) [e'] [] cpos) ρ (.dat .none) (ρ2.set j (some (.flat (ds ++ [d])))) :=
  fun B M τ σ H S Q q => toE (hp _ _ pE pA) (ho B M τ σ H S _ fun v M1 H1 S1 => by
    have e1 := S1.headA
    obtain ⟨l, vs0, e2, e3, _⟩ := S1.slotF hr0
    rw [e1] at e2
    cases e2
    refine ⟨.inl ⟨rfl, _, .of e3⟩, da_one he hs B M1 _ σ H1 S1 _ fun us M2 H2 hl S2 => ?_⟩
    obtain ⟨u, rfl⟩ := one_of hl
    have S2 : Sem G X.K B M2 ((u, .dat d) :: (.ref l, .als j) :: τ) σ ρ2 H2 := S2
    obtain ⟨l', vs, e4, e5, e6, mk⟩ := S2.mutS hr
    rw [e1] at e4
    cases e4
    have hlen := dpa_len e6
    exact ⟨l, vs, u, rfl, rfl, e5, sz_lt (by omega), q _ _ _ ((mk _ _ (dpa_app e6 (.cons S2.headD .nil))).pop.pop.push .non)⟩)
theorem de_popAt {j n : Nat} {i : Int} {ds0 : List PyData} (ho : DE G X e ρ (.als j) ρ1) (hr0 : ρ1[j]? = some (some (.flat ds0))) (he : DE G X e' ρ1 (.dat (.int i)) ρ2) (hr : ρ2[j]? = some (some (.flat ds))) (hi : -(2 ^ 63) ≤ i ∧ i < 2 ^ 63) (hx : seqIndex? i ds.length = some n) (hd : ds[n]? = some d)
    (hp : ∀ (to : TE) (ta : TA), PE X e to → PA X [e'] ta → PE X (.Call (.Attribute e "pop" apos) [e'] [] cpos) (tBM X.K "list" rPopAt to ta) := by exact fun _ _ h1 h2 => pe_bm PySem.F.plainAttrs_list PySem.F.slot_list_pop PySem.F.type_list_pop mt_popAt h1 h2)
    (hs : starEach [e'] X.env = (false, eval e' X.env) :: starEach [] X.env := by rfl) : DE G X (.Call (.Attribute e "pop" apos) [e'] [] cpos) ρ (.dat d) (ρ2.set j (some (.flat (ds.eraseIdx n)))) :=
  fun B M τ σ H S Q q => toE (hp _ _ pE pA) (ho B M τ σ H S _ fun v M1 H1 S1 => by
    have e1 := S1.headA
    obtain ⟨l, vs0, e2, e3, _⟩ := S1.slotF hr0
    rw [e1] at e2
    cases e2
    refine ⟨.inl ⟨rfl, _, .of e3⟩, da_one he hs B M1 _ σ H1 S1 _ fun us M2 H2 hl S2 => ?_⟩
    obtain ⟨u, rfl⟩ := one_of hl
    have S2 : Sem G X.K B M2 ((u, .dat (.int i)) :: (.ref l, .als j) :: τ) σ ρ2 H2 := S2
    have t := S2.headD
    cases t
    obtain ⟨l', vs, e4, e5, e6, mk⟩ := S2.mutS hr
    rw [e1] at e4
    cases e4
    have hlen := dpa_len e6
    obtain ⟨y, ey, hy⟩ := dpa_get e6 hd
    have S3 := mk _ _ (dpa_erase n e6)
    have hl : l ∈ M2 := by
      by_cases h : l ∈ M2
      · exact h
      · exfalso
        obtain ⟨w, ew, S4⟩ := S2.takeV hr
        rw [e1] at ew
        cases ew
        obtain ⟨_, _, e7, hm, _⟩ := S4.headF
        cases e7
        exact h hm
    refine ⟨l, vs, i, n, y, rfl, rfl, e5, hi.1, hi.2, by rw [hlen]; exact hx, ey, q _ _ _ (S3.pop.pop.push (dp_mono (fun a o h => ?_) _ _ hy))⟩
    obtain ⟨nm, h⟩ := hid_some h
    have ne : a ≠ l := fun z => nm (z ▸ hl)
    rw [hid_out nm, upd_ne ne]
    exact h)
def rExtendT (K : PySem.W.Frag) : V → List V → Hp → VK → Prop := fun x vs H Q => ∃ l b xs zs, x = .ref l ∧ vs = [.ref b] ∧ H l = some (.lst xs) ∧ H b = some (.tup zs) ∧ xs.length + zs.length ≤ sizeLine ∧ Q .non (upd H l (.lst (xs ++ zs)))
end
end TW
end
section
set_option Elab.async false
set_option linter.all false
set_option maxRecDepth 100000
set_option maxHeartbeats 4000000
/-! The layer, 7: list.extend of a tuple, tuple * 1. -/
namespace TW
open PySem PySem.Spec PyProof.Rows L2
theorem extend_tup (l : Addr) (items : Array Value) (n : Nat) (b : Addr) (items2 : Array Value) (n2 : Nat) (dd : Option Addr) (sl : Array (Option Value)) (hs0 : ¬(!items.isEmpty && Builtin.List.listTooLong (items.size + items2.size)) = true) (hs1 : items.size ≤ sizeLine) (hs2 : items.size + items2.size ≤ sizeLine + 1) :
    Meets (Builtin.«list.extend» ⟨[.ref l, .ref b], []⟩) (fun _ R s => s.heap.get? l = some { cls := .type "list", dict := none, data := .seq items n, slots := #[] } ∧ s.heap.get? b = some { cls := .type "tuple", dict := dd, data := .seq items2 n2, slots := sl } ∧ R (.ok (.ret Value.none)) { s with heap := s.heap.update l (Obj.mapSeq fun x => x ++ items2), toks := s.toks }) :=
  .of_wp fun prog w A R s h => by
    obtain ⟨hp, g, d, tk, os⟩ := s; obtain ⟨hl, hb, h⟩ := h; have f1 := AutoSeq1.idx_int; have f2 := AutoSeq1.sub_tuple_tuple; have f3 := AutoSeq1.sub_list_list; have f4 := AutoSeq1.sub_tuple_list; have f5 := AutoSeq1.sub_list_tuple;
    have hz' : (items ++ items2).size ≤ sizeLine + 1 := by rw [Array.size_append]; exact hs2
    wp_walk using (wpAny_updateSeq hl rfl (hz := hs1) (_hz' := hz')), wpAny_loadPart' hl, wpAny_loadPart' hb; exact ⟨_, rfl, h⟩
section
variable {X : Cx}
theorem mt_extendT : MtM X "list.extend" (rExtendT X.K) := by
  intro pins s σ H x vs v us Q I rx rv h
  obtain ⟨l, b, xs, zs, rfl, rfl, hH, hB, hz, q⟩ := h
  cases rx
  obtain ⟨u, rfl, ru⟩ := rv.one
  cases ru
  obtain ⟨z, its, n, r, hl, e⟩ := I.lstM hH
  obtain ⟨its2, r2, ⟨⟨cls, dd, data, sl⟩, ho, hc, n2, hd⟩, hs⟩ := I.tuple (SqT.of hB)
  simp only at hc hd
  subst hc hd
  have hl2 : zs.length = its2.length := r2.length
  have hsz : its.toArray.size + its2.toArray.size ≤ sizeLine := by rw [List.size_toArray, List.size_toArray]; omega
  have hlong : ¬ (!its.toArray.isEmpty && Builtin.List.listTooLong (its.toArray.size + its2.toArray.size)) = true := by
    rw [notLongL hsz, Bool.and_false]
    exact Bool.false_ne_true
  refine call_meets F.slot_list_extend ⟨_, e, rfl⟩ F.entry_list_extend (F.args_list_extend_2 _ _)
    (extend_tup l its.toArray n b its2.toArray n2 dd sl hlong (by rw [List.size_toArray]; omega) (by omega)) ⟨e, ho, ?_⟩
  refine ⟨.non, _, I.lset (its' := its ++ its2) hH e (by simp) (r.append r2) ?_, rfl, q⟩
  rw [List.length_append]
  omega
end
theorem tuple_mul1 (l : Addr) (items : Array Value) (n : Nat) (dd : Option Addr) (sl : Array (Option Value)) (u : Tok) :
    Meets (Builtin.«tuple.__mul__» ⟨[.ref l, .int 1 u], []⟩) (fun _ R s => s.heap.get? l = some { cls := .type "tuple", dict := dd, data := .seq items n, slots := sl } ∧
      R (.ok (.ret (Value.ref l))) s) :=
  .of_wp fun prog w A R s h => by
    obtain ⟨hp, g, d, tk, os⟩ := s
    obtain ⟨hl, h⟩ := h
    have f1 := AutoSeq1.idx_int
    wp_walk using wpAny_loadPart' hl
    exact ⟨_, rfl, h⟩
def rRepT1 (K : PySem.W.Frag) : R2 := fun x y H Q => ∃ l xs, x = .ref l ∧ y = .int 1 ∧ SqT K H l xs ∧ Q (.ref l) H
section
variable {X : Cx}
theorem op_repT1 : OpR X (binaryOp .Mult) (rRepT1 X.K) := by
  intro pins s σ H x y v u Q I rx ry h
  obtain ⟨l, xs, rfl, rfl, hT, q⟩ := h
  cases rx
  obtain ⟨t, rfl⟩ := ry
  obtain ⟨its, r, ⟨⟨cls, dd, data, sl⟩, ho, hc, n, hd⟩, hs⟩ := I.tuple hT
  simp only at hc hd
  subst hc hd
  refine wpAny_binaryOp_repeat_ref (T := "tuple") (U := "int") (by decide) ⟨_, ho, rfl⟩ (fun s' => typeIs_int s' 1 t) noFill_tuple_mul F.fills_int_mul F.slot_int_rmul repeat_tuple F.slot_int_index.lookup
    (call_meets F.slot_int_rmul (typeIs_int s 1 t) F.entry_int_rmul (F.args_int_rmul_2 _ _) (int_rmul_tuple 1 t l its.toArray n dd sl)
      ⟨ho, rfl, ⟨_, ho, rfl⟩, call_meets F.slot_tuple_mul ⟨_, ho, rfl⟩ F.entry_tuple_mul (F.args_tuple_mul_2 _ _) (tuple_mul1 l its.toArray n dd sl t) ⟨ho, ?_⟩⟩)
  exact ⟨.ref l, H, I, rfl, q⟩
end
section
variable {G : Glb} {ρ ρ1 ρ2 : Ev} {X : Cx} {e e' : Expr} {pos : Pos} {d : PyData} {ds es : List PyData} {apos cpos : Pos}
/-- (x,) * n, n from 1 on -/
theorem de_repT {n : Nat} (ha : DE G X e ρ (.dat (.tuple [d])) ρ1) (hb : DE G X e' ρ1 (.dat (.int (n : Int))) ρ2) (h1 : 1 ≤ n) (hz : n ≤ 1000) : DE G X (.BinOp e .Mult e' pos) ρ (.dat (.tuple (List.replicate n d))) ρ2 :=
  de_bin (op_repT1.or op_repT) ha hb fun B M τ σ H v1 v2 S Q q => by
    obtain ⟨t2, t1⟩ := S.two
    cases t2
    cases t1 with
    | @tup a xs _ e1 t1 =>
      cases t1 with
      | cons h t =>
        cases t
        by_cases hn : n = 1
        · subst hn
          exact .inl ⟨a, _, rfl, rfl, .of (hid_sub _ _ _ _ e1), q _ M H (S.pop.pop.push (.tup e1 (.cons h .nil)))⟩
        · refine .inr ⟨a, (n : Int), _, rfl, rfl, .of (hid_sub _ _ _ _ e1), by simp, by omega, by omega, by simp, fun p hp => ?_⟩
          have en : (n : Int).toNat = n := by omega
          have np := S.notM hp
          rw [en, rep_one]
          refine q _ M _ ((S.new hp).pop.pop.push (.tup ?_ (dpa_mono (same_new hp) _ _ (dpa_rep h n))))
          rw [hid_out np, upd_same]
/-- xs.extend(t), t a tuple -/
theorem de_extendT {j : Nat} {ds0 : List PyData} (ho : DE G X e ρ (.als j) ρ1) (hr0 : ρ1[j]? = some (some (.flat ds0))) (he : DE G X e' ρ1 (.dat (.tuple es)) ρ2) (hr : ρ2[j]? = some (some (.flat ds))) (hz : ds.length + es.length ≤ 100000)
    (hp : ∀ (to : TE) (ta : TA), PE X e to → PA X [e'] ta → PE X (.Call (.Attribute e "extend" apos) [e'] [] cpos) (tBM X.K "list" (rExtendT X.K) to ta) := by exact fun _ _ h1 h2 => pe_bm PySem.F.plainAttrs_list PySem.F.slot_list_extend PySem.F.type_list_extend mt_extendT h1 h2)
    (hs : starEach [e'] X.env = (false, eval e' X.env) :: starEach [] X.env := by rfl) : DE G X (.Call (.Attribute e "extend" apos) [e'] [] cpos) ρ (.dat .none) (ρ2.set j (some (.flat (ds ++ es)))) :=
  fun B M τ σ H S Q q => toE (hp _ _ pE pA) (ho B M τ σ H S _ fun v M1 H1 S1 => by
    have e1 := S1.headA
    obtain ⟨l, vs0, e2, e3, _⟩ := S1.slotF hr0
    rw [e1] at e2
    cases e2
    refine ⟨.inl ⟨rfl, _, .of e3⟩, da_one he hs B M1 _ σ H1 S1 _ fun us M2 H2 hl S2 => ?_⟩
    obtain ⟨u, rfl⟩ := one_of hl
    have S2 : Sem G X.K B M2 ((u, .dat (.tuple es)) :: (.ref l, .als j) :: τ) σ ρ2 H2 := S2
    have t := S2.headD
    cases t with
    | @tup b zs _ eb tb =>
      obtain ⟨l', vs, e4, e5, e6, mk⟩ := S2.mutS hr
      rw [e1] at e4
      cases e4
      have hlen := dpa_len e6
      have hlen2 := dpa_len tb
      exact ⟨l, b, vs, zs, rfl, rfl, e5, hid_sub _ _ _ _ eb, sz_le (by omega), q _ _ _ ((mk _ _ (dpa_app e6 tb)).pop.pop.push .non)⟩)
end
end TW
end
section
set_option Elab.async false
set_option linter.all false
set_option maxRecDepth 100000
set_option maxHeartbeats 2000000
/-! The layer, 8: comprehensions. -/
namespace TW
open PySem PySem.Spec PyProof.Rows L2
section
variable {G : Glb} {K : PySem.W.Frag} {B : Bas} {M M' M0 : List Addr} {τ τ' : Tmp} {σ σ' : L2.St} {ρ ρ' ρ0 ρ1 ρ2 ρ3 ρ4 : Ev} {H H' : Hp} {v y : V} {av a1 a2 a3 acc el acc' : AV} {d d1 d2 : PyData} {ds es : List PyData} {ft : List Addr} {D : Addr}

theorem temps_perm : τ.Perm τ' → ∀ {ft : List Addr}, TempsOk K M0 M H σ τ ft → ∃ ft', TempsOk K M0 M H σ τ' ft' ∧ ∀ a, a ∈ ft' ↔ a ∈ ft := by
  intro p
  induction p with
  | nil => exact fun h => ⟨_, h, fun _ => Iff.rfl⟩
  | cons x p ih =>
    intro ft h
    cases h with
    | cons h t n =>
      obtain ⟨ft', t', m⟩ := ih t
      exact ⟨_, .cons h t' fun a ha z => n a ha ((m a).mp z), fun a => by simp [m a]⟩
  | swap x y l =>
    intro ft h
    cases h with
    | cons h t n =>
      cases t with
      | cons h' t' n' =>
        refine ⟨_, .cons h' (.cons h t' fun a ha z => n a ha (List.mem_append_right _ z)) fun a ha z => ?_, fun a => ?_⟩
        · rcases List.mem_append.mp z with z | z
          · exact n a z (List.mem_append_left _ ha)
          · exact n' a ha z
        · simp only [List.mem_append]
          constructor <;> (rintro (h | h | h) <;> simp [h])
  | trans p q ih1 ih2 =>
    intro ft h
    obtain ⟨f1, h1, m1⟩ := ih1 h
    obtain ⟨f2, h2, m2⟩ := ih2 h1
    exact ⟨f2, h2, fun a => (m2 a).trans (m1 a)⟩
theorem Sem.perm (S : Sem G K B M τ σ ρ H) (p : τ.Perm τ') : Sem G K B M τ' σ ρ H := by
  obtain ⟨f, ft, s1, t1, n1, o1, o2⟩ := S.own
  obtain ⟨ft', t', m⟩ := temps_perm p t1
  exact ⟨⟨f, ft', s1, t', fun i a ha z => n1 i a ha ((m a).mp z), o1, fun a ha => o2 a ((m a).mp ha)⟩, S.keep, S.sub, S.old, S.al, S.tabs, S.tm, S.len⟩

/-! ### aliases put aside -/
def noAls (τ : Tmp) : Tmp := τ.filter fun x => !x.2.isAls
theorem dats_noAls : Dats (noAls τ) := fun x hx => by
  have h := (List.mem_filter.mp hx).2
  simpa using h
theorem temps_strip : ∀ {τ : Tmp} {ft : List Addr}, TempsOk K M0 M H σ τ ft → TempsOk K M0 M H σ (noAls τ) ft ∧ ∀ v i, (v, AV.als i) ∈ τ → σ[i]? = some (some v)
  | _, _, .nil => ⟨.nil, fun _ _ h => by cases h⟩
  | _, _, @TempsOk.cons _ _ _ _ _ v av fp fs τ h t n => by
    obtain ⟨t', g⟩ := temps_strip t
    cases e : av.isAls with
    | false =>
      have e2 : noAls ((v, av) :: τ) = (v, av) :: noAls τ := by simp [noAls, e]
      rw [e2]
      refine ⟨.cons h t' n, fun w i hm => ?_⟩
      rcases List.mem_cons.mp hm with z | z
      · cases z; cases e
      · exact g w i z
    | true =>
      have e2 : noAls ((v, av) :: τ) = noAls τ := by simp [noAls, e]
      rw [e2]
      cases av with
      | als j =>
        obtain ⟨rfl, hj⟩ := h
        refine ⟨t', fun w i hm => ?_⟩
        rcases List.mem_cons.mp hm with z | z
        · cases z; exact hj
        · exact g w i z
      | _ => cases e
theorem temps_unstrip : ∀ {τ : Tmp} {ft : List Addr}, TempsOk K M0 M H σ (noAls τ) ft → (∀ v i, (v, AV.als i) ∈ τ → σ[i]? = some (some v)) → TempsOk K M0 M H σ τ ft
  | [], _, h, _ => h
  | (v, av) :: τ, ft, h, g => by
    cases e : av.isAls with
    | false =>
      have e2 : noAls ((v, av) :: τ) = (v, av) :: noAls τ := by simp [noAls, e]
      rw [e2] at h
      cases h with
      | cons h t n => exact .cons h (temps_unstrip t fun w i hm => g w i (List.mem_cons_of_mem _ hm)) n
    | true =>
      have e2 : noAls ((v, av) :: τ) = noAls τ := by simp [noAls, e]
      rw [e2] at h
      cases av with
      | als j => exact .cons (fp := []) ⟨rfl, g v j List.mem_cons_self⟩ (temps_unstrip h fun w i hm => g w i (List.mem_cons_of_mem _ hm)) (by simp)
      | _ => cases e
theorem Sem.strip (S : Sem G K B M τ σ ρ H) : Sem G K B M (noAls τ) σ ρ H ∧ ∀ v i, (v, AV.als i) ∈ τ → σ[i]? = some (some v) := by
  obtain ⟨f, ft, s1, t1, n1, o1, o2⟩ := S.own
  obtain ⟨t2, g⟩ := temps_strip t1
  exact ⟨⟨⟨f, ft, s1, t2, n1, o1, o2⟩, S.keep, S.sub, S.old, S.al, S.tabs, S.tm, S.len⟩, g⟩
theorem Sem.unstrip {x : V × AV} (S : Sem G K B M (x :: noAls τ) σ ρ H) (g : ∀ v i, (v, AV.als i) ∈ τ → σ[i]? = some (some v)) : Sem G K B M (x :: τ) σ ρ H := by
  obtain ⟨f, ft, s1, t1, n1, o1, o2⟩ := S.own
  cases t1 with
  | cons h t n => exact ⟨⟨f, _, s1, .cons h (temps_unstrip t g) n, n1, o1, o2⟩, S.keep, S.sub, S.old, S.al, S.tabs, S.tm, S.len⟩
/-- other values where nothing is told -/
theorem Sem.slots (S : Sem G K B M τ σ ρ H) (dd : Dats τ) (hl : σ'.length = σ.length) (h : ∀ (i : Nat) (av : AV), ρ[i]? = some (some av) → σ'[i]? = σ[i]?) : Sem G K B M τ σ' ρ H := by
  obtain ⟨f, ft, s1, t1, n1, o1, o2⟩ := S.own
  exact ⟨⟨f, ft, ⟨fun i av e => let ⟨n, v, e1, q⟩ := s1.at_ i av e; ⟨n, v, (h i av e).trans e1, q.slots n⟩, s1.dis, s1.non⟩, t1.slots dd, n1, o1, o2⟩, S.keep, S.sub, S.old, S.al, S.tabs, S.tm, hl.trans S.len⟩

/-! ### a list that grows -/
inductive Add : AV → AV → AV → Prop
  | dat {ds : List PyData} {d : PyData} : Add (.flat ds) (.dat d) (.flat (ds ++ [d]))
  | flat {dss : List (List PyData)} {ds : List PyData} : Add (.nest dss) (.flat ds) (.nest (dss ++ [ds]))
def AV.len : AV → Nat
  | .flat ds => ds.length
  | .nest dss => dss.length
  | _ => 0
theorem Add.len (h : Add acc el acc') : acc'.len = acc.len + 1 := by cases h <;> simp [AV.len]
theorem Add.na (h : Add acc el acc') : acc.isAls = false := by cases h <;> rfl
theorem Add.na' (h : Add acc el acc') : acc'.isAls = false := by cases h <;> rfl
theorem paired_snoc {α β : Type} {F : α → β → Prop} : ∀ {l₁ : List α} {l₂ : List β} {a : α} {b : β}, Paired F l₁ l₂ → F a b → Paired F (l₁ ++ [a]) (l₂ ++ [b])
  | _, _, _, _, .nil, h => .cons h .nil
  | _, _, _, _, .cons r t, h => .cons r (paired_snoc t h)
theorem Sem.addTo (h : Add acc el acc') (S : Sem G K B M ((y, el) :: (.ref D, acc) :: τ) σ ρ H) : ∃ xs, H D = some (.lst xs) ∧ xs.length = acc.len ∧ Sem G K B M ((.ref D, acc') :: τ) σ ρ (upd H D (.lst (xs ++ [y]))) := by
  cases h with
  | @dat ds d =>
    have h1 := S.headD
    obtain ⟨l, xs, e, hm, e1, e2⟩ := S.pop.headF
    cases e
    exact ⟨xs, e1, dpa_len e2, S.pop.mutF (dpa_app e2 (.cons h1 .nil))⟩
  | @flat dss ds =>
    obtain ⟨f, ft, s1, t1, n1, o1, o2⟩ := S.own
    cases t1 with
    | @cons _ _ fp fs _ h t n =>
      cases t with
      | @cons _ _ fp2 fs2 _ h2 t2 n2 =>
        obtain ⟨l, vs, rfl, rfl, nl, el, tl⟩ := h
        obtain ⟨D', ls, e, rfl, nD, nd, eD, pD⟩ := h2
        cases e
        have hDM : D ∈ M := (o2 D (by simp)).1
        have oD := o2 D (by simp)
        have ntD := S.notab oD
        have lD : l ≠ D := fun z => n l (by simp) (by simp [z])
        have lls : l ∉ ls := fun z => n l (by simp) (by simp [z])
        have lfs : l ∉ fs2 := fun z => n l (by simp) (by simp [z])
        have Dls : D ∉ ls := (List.nodup_cons.mp nd).1
        have lsnd : ls.Nodup := (List.nodup_cons.mp nd).2
        have sm : Same (hid M H) (hid M (upd H D (.lst (ls.map V.ref ++ [.ref l])))) := fun a u e => by
          obtain ⟨nm, e⟩ := hid_some e
          have ne : a ≠ D := fun z => nm (z ▸ hDM)
          rw [hid_out nm, upd_ne ne]
          exact e
        refine ⟨ls.map V.ref, eD, by simp [AV.len, paired_len pD], ?_⟩
        refine ⟨⟨f, (D :: (ls ++ [l])) ++ fs2, s1.frame sm fun i a ha => upd_ne fun z => n1 i a ha (by simp [z]), .cons ⟨D, ls ++ [l], rfl, rfl, fun a ha => ?_, ?_, ?_, ?_⟩ (t2.frame sm fun a ha => upd_ne fun z => n2 a (by simp [z]) ha) fun a ha z => ?_, fun i a ha z => ?_, o1, fun a ha => ?_⟩, S.keep.trans sm, S.sub, fun a ha hp ht => ?_, fun a ha => ?_, S.tabs.grow sm (fun a t => S.tabM t) fun a t => upd_ne fun z => ntD (z ▸ t), S.tm, S.len⟩
        · simp only [List.mem_cons, List.mem_append, List.not_mem_nil, or_false] at ha
          rcases ha with rfl | ha | rfl
          · exact nD _ (by simp)
          · exact nD _ (by simp [ha])
          · exact nl
        · refine List.nodup_cons.mpr ⟨by simp [Dls, Ne.symm lD], ?_⟩
          exact List.nodup_append.mpr ⟨lsnd, by simp, fun a ha b hb => by simp at hb; subst hb; exact fun z => lls (z ▸ ha)⟩
        · rw [upd_same]; simp
        · refine paired_snoc (paired_imp pD fun a b ha ⟨vs2, q1, q2⟩ => ⟨vs2, ?_, dpa_mono sm _ _ q2⟩) ⟨vs, ?_, dpa_mono sm _ _ tl⟩
          · rw [upd_ne (by rintro rfl; exact Dls ha)]; exact q1
          · rw [upd_ne lD]; exact el
        · simp only [List.mem_cons, List.mem_append, List.not_mem_nil, or_false] at ha
          rcases ha with rfl | ha | rfl
          · exact n2 _ (by simp) z
          · exact n2 _ (by simp [ha]) z
          · exact lfs z
        · refine n1 i a ha ?_
          simp only [List.mem_cons, List.mem_append, List.not_mem_nil, or_false] at z ⊢
          rcases z with (rfl | z | rfl) | z <;> simp [*]
        · refine o2 a ?_
          simp only [List.mem_cons, List.mem_append, List.not_mem_nil, or_false] at ha ⊢
          rcases ha with (rfl | z | rfl) | z <;> simp [*]
        · have ne : a ≠ D := fun z => hp (z ▸ oD.2 (z ▸ ha))
          rw [upd_ne ne]
          exact S.old a ha hp ht
        · by_cases z : a = D
          · rw [z, upd_same]; simp
          · rw [upd_ne z]; exact S.al a ha

/-! ### the comprehension's reading -/
def wipeE (ρ : Ev) : List Nat → Ev
  | [] => ρ
  | v :: vs => (wipeE ρ vs).set v none
theorem ev_lc {wi : TI} {g : TG} {tt : TT} {te : TE} {vs : List Nat} (hi : ITt G K wi ρ ds ρ0) (hz : ds.length ≤ 100000) (P : Nat → Ev) (A : Nat → AV) (h0 : Weak ρ0 (P 0)) (hA : A 0 = .flat [] ∨ A 0 = .nest [])
    (hP : ∀ i j av, j ∈ vs → (P i)[j]? ≠ some (some av))
    (turn : ∀ (i : Nat) (d : PyData), ds[i]? = some d → ∃ ρ1 js b ρ2, GTt G K g (P i) (.dat d) ρ1 js ∧ (∀ j ∈ js, j ∈ vs) ∧ ET G K tt ρ1 b ρ2 ∧ (b = true → ∃ el ρ3, EV G K te ρ2 el ρ3 ∧ Add (A i) el (A (i + 1)) ∧ Weak ρ3 (P (i + 1))) ∧ (b = false → A (i + 1) = A i ∧ Weak ρ2 (P (i + 1)))) :
    EV G K (tLc wi g tt te vs) ρ (A ds.length) (P ds.length) := by
  intro B M τ σ H S Q q
  refine hi B M τ σ H S _ fun J kp M1 H1 nk S1 Y D hD => ?_
  obtain ⟨S1s, als⟩ := S1.strip
  have e0 : noAls (kp :: τ) = kp :: noAls τ := by simp [noAls, nk]
  rw [e0] at S1s
  have nA : ∀ i, i ≤ ds.length → (A i).isAls = false ∧ (A i).len ≤ i := fun i => by
    induction i with
    | zero => intro _; rcases hA with h | h <;> rw [h] <;> exact ⟨rfl, Nat.le_refl _⟩
    | succ i ih =>
      intro hi
      obtain ⟨i1, i2⟩ := ih (by omega)
      obtain ⟨_, _, b, _, _, _, _, h1, h2⟩ := turn i _ (List.getElem?_eq_getElem (by omega))
      cases b with
      | true =>
        obtain ⟨el, _, _, ad, _⟩ := h1 rfl
        have := ad.len
        exact ⟨ad.na', by omega⟩
      | false =>
        obtain ⟨ea, _⟩ := h2 rfl
        rw [ea]
        exact ⟨i1, by omega⟩
  have ddK : Dats (kp :: noAls τ) := fun x hx => by
    rcases List.mem_cons.mp hx with rfl | hx
    · exact nk
    · exact dats_noAls x hx
  have SD : Sem G K B (D :: M1) ((.ref D, A 0) :: kp :: noAls τ) σ (P 0) (upd H1 D (.lst [])) := by
    refine (S1s.weak h0).pushNew hD fun H' M' sm e np => ?_
    rcases hA with h | h <;> rw [h]
    · exact ⟨D, [], rfl, rfl, np, e, .nil⟩
    · exact ⟨D, [], rfl, rfl, fun a ha => by have : a = D := by simpa using ha
                                             rw [this]; exact np, by simp, e, .nil⟩
  have wl : (wipe σ vs).length = σ.length := wipe_length _ _
  have sl : ∀ {M' : List Addr} {τ' : Tmp} {i : Nat} {H' : Hp}, Dats τ' → Sem G K B M' τ' σ (P i) H' → Sem G K B M' τ' (wipe σ vs) (P i) H' := fun {M' τ' i H'} dd S => S.slots dd wl fun j av e => by
    rw [wipe_get (j := 0), if_neg fun hj => hP i j av hj e]
  have ls : ∀ {M' : List Addr} {τ' : Tmp} {i : Nat} {H' : Hp}, Dats τ' → Sem G K B M' τ' (wipe σ vs) (P i) H' → Sem G K B M' τ' σ (P i) H' := fun {M' τ' i H'} dd S => S.slots dd wl.symm fun j av e => by
    rw [wipe_get (j := 0), if_neg fun hj => hP i j av hj e]
  have ddA : ∀ i, i ≤ ds.length → Dats ((.ref D, A i) :: kp :: noAls τ) := fun i hi x hx => by
    rcases List.mem_cons.mp hx with rfl | hx
    · exact (nA i hi).1
    · exact ddK x hx
  refine ⟨fun i m H' => m = ds.length - i ∧ i ≤ ds.length ∧ ∃ M2, Sem G K B M2 ((.ref D, A i) :: kp :: noAls τ) (wipe σ vs) (P i) H', ⟨ds.length, by simp, Nat.zero_le _, D :: M1, sl (ddA 0 (Nat.zero_le _)) SD⟩, ?_⟩
  rintro i m H2 ⟨rfl, hle, M2, S2⟩
  have S2' : Sem G K B M2 (kp :: (.ref D, A i) :: noAls τ) (wipe σ vs) (P i) H2 := S2.perm (.swap _ _ _)
  obtain ⟨ystop, ygo⟩ := Y B M2 _ (wipe σ vs) (P i) H2 i S2'
  by_cases hlt : i < ds.length
  · obtain ⟨go, yl⟩ := ygo hlt
    refine .inr ⟨go, fun H' => ∃ M', Sem G K B M' ((.ref D, A (i + 1)) :: kp :: noAls τ) (wipe σ vs) (P (i + 1)) H', fun H' ⟨M', q'⟩ => ⟨ds.length - (i + 1), by omega, rfl, by omega, M', q'⟩, fun x H3 hy => ?_⟩
    obtain ⟨d, M3, ed, S3⟩ := yl x H3 hy
    obtain ⟨ρ1, js, b, ρ2, hg, hj, ht, hb1, hb2⟩ := turn i d ed
    have dd3 : Dats (kp :: (.ref D, A i) :: noAls τ) := fun x hx => ddA i hle x ((List.Perm.swap _ _ _).mem_iff.mp hx)
    refine hg B M3 _ (wipe σ vs) H3 x dd3 S3 _ fun M4 σ4 H4 S4 w4 => ⟨?_, ?_⟩
    · have w := w4 vs hj
      rw [w]
      apply List.ext_getElem?
      intro j
      rw [wipe_get (j := 0)]
      by_cases hjv : j ∈ vs
      · rw [if_pos hjv, wl, wipe_get (j := 0), if_pos hjv]
      · rw [if_neg hjv]
    · have w := w4 vs hj
      have ww : wipe (wipe σ vs) vs = wipe σ vs := by
        apply List.ext_getElem?
        intro j
        rw [wipe_get (j := 0)]
        by_cases hjv : j ∈ vs
        · rw [if_pos hjv, wl, wipe_get (j := 0), if_pos hjv]
        · rw [if_neg hjv]
      have back : ∀ {M' : List Addr} {τ' : Tmp} {H' : Hp}, Dats τ' → Sem G K B M' τ' σ4 (P (i + 1)) H' → Sem G K B M' τ' (wipe σ vs) (P (i + 1)) H' := fun {M' τ' H'} dd S => S.slots dd (by have := congrArg List.length w; rw [wipe_length, wipe_length] at this; exact this.symm) fun j av e => by
        have hjv : j ∉ vs := fun hj => hP (i + 1) j av hj e
        have := congrArg (fun l => l[j]?) w
        simp only [wipe_get (j := 0), if_neg hjv] at this
        rw [wipe_get (j := 0), if_neg hjv]
        exact this.symm
      refine ht B M4 _ σ4 H4 S4 _ fun M5 H5 S5 => ?_
      cases b with
      | true =>
        obtain ⟨el, ρ3, he, ad, wk⟩ := hb1 rfl
        refine iteT (he B M5 _ σ4 H5 S5 _ fun y M6 H6 S6 => ?_)
        have S7 : Sem G K B M6 ((y, el) :: (.ref D, A i) :: kp :: noAls τ) σ4 (P (i + 1)) H6 := (S6.weak wk).perm (.cons _ (.swap _ _ _))
        obtain ⟨xs, e1, e2, S8⟩ := S7.addTo ad
        exact ⟨xs, e1, sz_lt (by have := (nA i hle).2; omega), M6, back (ddA (i + 1) hlt) S8⟩
      | false =>
        obtain ⟨ea, wk⟩ := hb2 rfl
        refine iteF ⟨M5, ?_⟩
        rw [ea]
        exact back (ddA i hle) ((S5.weak wk).perm (.swap _ _ _))
  · have e : i = ds.length := by omega
    subst e
    refine .inl ⟨ystop (Nat.le_refl _), q _ M2 H2 (Sem.unstrip (ls ?_ S2.pop2) fun v i hm => als v i (List.mem_cons_of_mem _ hm))⟩
    exact fun x hx => by
      rcases List.mem_cons.mp hx with rfl | hx
      · exact (nA _ (Nat.le_refl _)).1
      · exact dats_noAls x hx
end
end TW
end
section
set_option Elab.async false
set_option linter.all false
set_option maxRecDepth 100000
set_option maxHeartbeats 2000000
/-! The layer, 9: comprehensions as expressions, as statements. -/
namespace TW
open PySem PySem.Spec PyProof.Rows L2
abbrev CB (X : Cx) (scope : Scope) (s : Shared) (H : Hp) (C : Addr) (cl : List (Str × Addr)) (fp : List Addr) : Cx := X.blk s H scope (compEnvC scope cl C X.env) fp
def bE (X : Cx) (sc : Scope) (e : Expr) : TE := fun σ H Q => ∀ s H0 C cl fp, tE (CB X sc s H0 C cl fp) e σ H Q
def bT (X : Cx) (sc : Scope) (e : Expr) : TT := fun σ H Q => ∀ s H0 C cl fp, tT (CB X sc s H0 C cl fp) e σ H Q
def bG (X : Cx) (sc : Scope) (tg : Expr) : TG := fun v σ H Q => ∀ s H0 C cl fp, tG (CB X sc s H0 C cl fp) tg v σ H Q
section
variable {G : Glb} {K : PySem.W.Frag} {B : Bas} {M M' : List Addr} {τ : Tmp} {σ σ' : L2.St} {ρ ρ' ρ0 ρ1 ρ2 ρ3 ρ4 : Ev} {H H' : Hp} {v : V} {av a1 a2 a3 el : AV} {d d1 d2 : PyData} {ds es : List PyData}
variable {X : Cx} {e c elt tg iter : Expr} {sc : Scope} {pos spos py : Pos} {k : Nat} {st : Stmt} {sts : List Stmt} {Φ Φ' : Out → Prop} {js js' : List Nat} {own : List (Str × Nat)}
theorem bE_pe (s : Shared) (H0 : Hp) (C : Addr) (cl : List (Str × Addr)) (fp : List Addr) : PE (CB X sc s H0 C cl fp) e (bE X sc e) := ⟨fun pins s' σ H Q I h => h s H0 C cl fp pins s' I⟩
theorem bT_pt (s : Shared) (H0 : Hp) (C : Addr) (cl : List (Str × Addr)) (fp : List Addr) : PT (CB X sc s H0 C cl fp) e (bT X sc e) := ⟨fun pins s' σ H Q I h => h s H0 C cl fp pins s' I⟩
theorem bG_pg (s : Shared) (H0 : Hp) (C : Addr) (cl : List (Str × Addr)) (fp : List Addr) : PG (CB X sc s H0 C cl fp) e (bG X sc e) := ⟨fun pins s' σ H v u Q I r h => h s H0 C cl fp pins s' u I r⟩
/-- within the block -/
def BE (G : Glb) (X : Cx) (sc : Scope) (e : Expr) (ρ : Ev) (av : AV) (ρ' : Ev) : Prop := ∀ s H0 C cl fp, DE G (CB X sc s H0 C cl fp) e ρ av ρ'
def BT (G : Glb) (X : Cx) (sc : Scope) (e : Expr) (ρ : Ev) (b : Bool) (ρ' : Ev) : Prop := ∀ s H0 C cl fp, DT G (CB X sc s H0 C cl fp) e ρ b ρ'
def BG (G : Glb) (X : Cx) (sc : Scope) (tg : Expr) (ρ : Ev) (av : AV) (ρ' : Ev) (js : List Nat) : Prop := ∀ s H0 C cl fp, GT G (CB X sc s H0 C cl fp) tg ρ av ρ' js
theorem BE.ev (h : BE G X sc e ρ av ρ') : EV G X.K (bE X sc e) ρ av ρ' := fun B M τ σ H S Q q s H0 C cl fp => h s H0 C cl fp B M τ σ H S Q q
theorem BT.et {b : Bool} (h : BT G X sc e ρ b ρ') : ET G X.K (bT X sc e) ρ b ρ' := fun B M τ σ H S Q q s H0 C cl fp => h s H0 C cl fp B M τ σ H S Q q
theorem BG.gt (h : BG G X sc e ρ av ρ' js) : GTt G X.K (bG X sc e) ρ av ρ' js := fun B M τ σ H v dd S Q q s H0 C cl fp => h s H0 C cl fp B M τ σ H v dd S Q q
theorem et_yes : ET G K tYes ρ true ρ := fun B M τ σ H S Q q => q M H S

/-- what a comprehension's turns do (no test) -/
def LC0 (G : Glb) (X : Cx) (sc : Scope) (tg elt : Expr) (vs : List Nat) (ds : List PyData) (ρ0 : Ev) (P : Nat → Ev) (A : Nat → AV) : Prop :=
  Weak ρ0 (P 0) ∧ (A 0 = .flat [] ∨ A 0 = .nest []) ∧ (∀ i j av, j ∈ vs → (P i)[j]? ≠ some (some av)) ∧
  ∀ (i : Nat) (d : PyData), ds[i]? = some d → ∃ ρ1 js el ρ3, BG G X sc tg (P i) (.dat d) ρ1 js ∧ (∀ j ∈ js, j ∈ vs) ∧ BE G X sc elt ρ1 el ρ3 ∧ Add (A i) el (A (i + 1)) ∧ Weak ρ3 (P (i + 1))
theorem ev_lc0 {vs : List Nat} {P : Nat → Ev} {A : Nat → AV} (hi : IT G X tg iter ρ ds ρ0) (h : LC0 G X sc tg elt vs ds ρ0 P A) (hz : ds.length ≤ 100000) :
    EV G X.K (tLc (tI X tg iter) (bG X sc tg) tYes (bE X sc elt) vs) ρ (A ds.length) (P ds.length) := by
  obtain ⟨h0, hA, hP, turn⟩ := h
  refine ev_lc hi hz P A h0 hA hP fun i d ed => ?_
  obtain ⟨ρ1, js, el, ρ3, g, hj, he, ad, w⟩ := turn i d ed
  exact ⟨ρ1, js, true, ρ1, g.gt, hj, et_yes, fun _ => ⟨el, ρ3, he.ev, ad, w⟩, fun h => by cases h⟩
theorem de_lc0 {P : Nat → Ev} {A : Nat → AV} (hN : X.N.Nodup) (ok : BlkOk X.N X.env.scope sc own) (hi : IT G X tg iter ρ ds ρ0) (h : LC0 G X sc tg elt (own.map (·.2)) ds ρ0 P A) (hz : ds.length ≤ 100000) (hc : X.calm = true := by rfl)
    (hs : ∀ x, foldedSetIterable iter X.env x = pure x := by intro _; rfl) : DE G X (.ListComp elt [⟨tg, iter, [], 0⟩] sc pos) ρ (A ds.length) (P ds.length) :=
  .of (pe_lc hc hN pI ok bG_pg (fun _ _ _ _ _ => pts_nil) bE_pe hs) (ev_lc0 hi h hz)
theorem addNa {A : Nat → AV} {ρ0 : Ev} {vs : List Nat} {P : Nat → Ev} (h : LC0 G X sc tg elt vs ds ρ0 P A) : (A ds.length).isAls = false := by
  obtain ⟨h0, hA, hP, turn⟩ := h
  cases e : ds.length with
  | zero => rcases hA with h | h <;> rw [h] <;> rfl
  | succ n =>
    obtain ⟨_, _, _, _, _, _, _, ad, _⟩ := turn n _ (List.getElem?_eq_getElem (by omega))
    exact ad.na'
theorem ws_tset {te : TE} {i : Nat} {e : Expr} {y : Str} (hp : PS X (.Assign [.Name y py] e spos) (tAsg te (gName i))) (na : av.isAls = false) (h : EV G X.K te ρ av ρ1) (q : Φ (.nx (ρ1.set i (some av)))) : WS G X (.Assign [.Name y py] e spos) ρ Φ :=
  fun B M τ σ H dd S D k1 _ _ _ => toS hp (h B M τ σ H S _ fun v M1 H1 S1 => k1 _ _ _ _ q (S1.set na dd))
theorem ws_lc0 {P : Nat → Ev} {A : Nat → AV} {i : Nat} {y : Str} (hN : X.N.Nodup) (ok : BlkOk X.N X.env.scope sc own) (hi : IT G X tg iter ρ ds ρ0) (h : LC0 G X sc tg elt (own.map (·.2)) ds ρ0 P A) (hz : ds.length ≤ 100000) (q : Φ (.nx ((P ds.length).set i (some (A ds.length)))))
    (hy : X.N[i]? = some y := by rfl) (hyl : X.env.scope.names.lookup y = some .local := by rfl) (hsw : swapsWith (.ListComp elt [⟨tg, iter, [], 0⟩] sc pos) (some (.Name y py)) spos.line X.env = pure true := by exact sw_true rfl rfl rfl rfl) (hc : X.calm = true := by rfl)
    (hs : ∀ x, foldedSetIterable iter X.env x = pure x := by intro _; rfl) : WS G X (.Assign [.Name y py] (.ListComp elt [⟨tg, iter, [], 0⟩] sc pos) spos) ρ Φ :=
  ws_tset (ps_setLc hc hN hy hyl hsw pI ok bG_pg (fun _ _ _ _ _ => pts_nil) bE_pe hs) (addNa h) (ev_lc0 hi h hz) q
/-- with a test -/
def LC1 (G : Glb) (X : Cx) (sc : Scope) (tg c elt : Expr) (vs : List Nat) (ds : List PyData) (ρ0 : Ev) (P : Nat → Ev) (A : Nat → AV) : Prop :=
  Weak ρ0 (P 0) ∧ (A 0 = .flat [] ∨ A 0 = .nest []) ∧ (∀ i j av, j ∈ vs → (P i)[j]? ≠ some (some av)) ∧
  ∀ (i : Nat) (d : PyData), ds[i]? = some d → ∃ ρ1 js b ρ2, BG G X sc tg (P i) (.dat d) ρ1 js ∧ (∀ j ∈ js, j ∈ vs) ∧ BT G X sc c ρ1 b ρ2 ∧ (b = true → ∃ el ρ3, BE G X sc elt ρ2 el ρ3 ∧ Add (A i) el (A (i + 1)) ∧ Weak ρ3 (P (i + 1))) ∧ (b = false → A (i + 1) = A i ∧ Weak ρ2 (P (i + 1)))
theorem ev_lc1 {vs : List Nat} {P : Nat → Ev} {A : Nat → AV} (hi : IT G X tg iter ρ ds ρ0) (h : LC1 G X sc tg c elt vs ds ρ0 P A) (hz : ds.length ≤ 100000) :
    EV G X.K (tLc (tI X tg iter) (bG X sc tg) (bT X sc c) (bE X sc elt) vs) ρ (A ds.length) (P ds.length) := by
  obtain ⟨h0, hA, hP, turn⟩ := h
  refine ev_lc hi hz P A h0 hA hP fun i d ed => ?_
  obtain ⟨ρ1, js, b, ρ2, g, hj, ht, h1, h2⟩ := turn i d ed
  exact ⟨ρ1, js, b, ρ2, g.gt, hj, ht.et, fun hb => let ⟨el, ρ3, he, ad, w⟩ := h1 hb; ⟨el, ρ3, he.ev, ad, w⟩, h2⟩
theorem de_lc1 {P : Nat → Ev} {A : Nat → AV} (hN : X.N.Nodup) (ok : BlkOk X.N X.env.scope sc own) (hi : IT G X tg iter ρ ds ρ0) (h : LC1 G X sc tg c elt (own.map (·.2)) ds ρ0 P A) (hz : ds.length ≤ 100000) (hc : X.calm = true := by rfl)
    (hs : ∀ x, foldedSetIterable iter X.env x = pure x := by intro _; rfl) : DE G X (.ListComp elt [⟨tg, iter, [c], 0⟩] sc pos) ρ (A ds.length) (P ds.length) :=
  .of (pe_lc hc hN pI ok bG_pg (fun s H0 C cl fp => pts_one (bT_pt s H0 C cl fp)) bE_pe hs) (ev_lc1 hi h hz)
theorem ws_lc1 {P : Nat → Ev} {A : Nat → AV} {i : Nat} {y : Str} (hN : X.N.Nodup) (ok : BlkOk X.N X.env.scope sc own) (hi : IT G X tg iter ρ ds ρ0) (h : LC1 G X sc tg c elt (own.map (·.2)) ds ρ0 P A) (na : (A ds.length).isAls = false) (hz : ds.length ≤ 100000) (q : Φ (.nx ((P ds.length).set i (some (A ds.length)))))
    (hy : X.N[i]? = some y := by rfl) (hyl : X.env.scope.names.lookup y = some .local := by rfl) (hsw : swapsWith (.ListComp elt [⟨tg, iter, [c], 0⟩] sc pos) (some (.Name y py)) spos.line X.env = pure true := by exact sw_true rfl rfl rfl rfl) (hc : X.calm = true := by rfl)
    (hs : ∀ x, foldedSetIterable iter X.env x = pure x := by intro _; rfl) : WS G X (.Assign [.Name y py] (.ListComp elt [⟨tg, iter, [c], 0⟩] sc pos) spos) ρ Φ :=
  ws_tset (ps_setLc hc hN hy hyl hsw pI ok bG_pg (fun s H0 C cl fp => pts_one (bT_pt s H0 C cl fp)) bE_pe hs) na (ev_lc1 hi h hz) q

/-! ### maps, filters: nothing else changes -/
/-- P with the block's own slots untold -/
def Bare (P : Ev) (vs : List Nat) : Prop := ∀ j ∈ vs, ∀ av, P[j]? ≠ some (some av)
theorem bare_nil {P : Ev} : Bare P [] := fun _ h => by cases h
theorem bare_cons {P : Ev} {j : Nat} {vs : List Nat} (h : Bare P vs) (e : P[j]? = some none := by rfl) : Bare P (j :: vs) := fun i hi av => by
  rcases List.mem_cons.mp hi with rfl | hi
  · rw [e]; simp
  · exact h i hi av
theorem weak_back {P : Ev} {j : Nat} {x : Option AV} (h : ∀ av, P[j]? ≠ some (some av)) : Weak (P.set j x) P := ⟨by simp, fun i av e => by
  by_cases hij : j = i
  · subst hij; exact absurd e (h av)
  · rw [List.getElem?_set_ne hij]; exact e⟩
theorem lc_map {α : Type} {xs : List α} {f : α → PyData} {g : α → PyData} {P : Ev} {vs : List Nat} (h0 : Weak ρ0 P) (hb : Bare P vs)
    (turn : ∀ x ∈ xs, ∃ ρ1 js ρ3, BG G X sc tg P (.dat (f x)) ρ1 js ∧ (∀ j ∈ js, j ∈ vs) ∧ BE G X sc elt ρ1 (.dat (g x)) ρ3 ∧ Weak ρ3 P) : LC0 G X sc tg elt vs (xs.map f) ρ0 (fun _ => P) (fun i => .flat ((xs.take i).map g)) := by
  refine ⟨h0, .inl (by simp), fun _ j av hj => hb j hj av, fun i d ed => ?_⟩
  rw [List.getElem?_map] at ed
  cases e : xs[i]? with
  | none => rw [e] at ed; cases ed
  | some x =>
    rw [e] at ed
    cases ed
    obtain ⟨ρ1, js, ρ3, q1, q2, q3, q4⟩ := turn x (List.mem_of_getElem? e)
    refine ⟨ρ1, js, _, ρ3, q1, q2, q3, ?_, q4⟩
    have e2 : (xs.take (i + 1)).map g = (xs.take i).map g ++ [g x] := by
      rw [List.take_succ, e]; simp
    simp only [e2]
    exact .dat
theorem lc_filt {α : Type} {xs : List α} {f : α → PyData} {g : α → PyData} {p : α → Bool} {P : Ev} {vs : List Nat} (h0 : Weak ρ0 P) (hb : Bare P vs)
    (turn : ∀ x ∈ xs, ∃ ρ1 js ρ2, BG G X sc tg P (.dat (f x)) ρ1 js ∧ (∀ j ∈ js, j ∈ vs) ∧ BT G X sc c ρ1 (p x) ρ2 ∧ Weak ρ2 P ∧ (p x = true → ∃ ρ3, BE G X sc elt ρ2 (.dat (g x)) ρ3 ∧ Weak ρ3 P)) :
    LC1 G X sc tg c elt vs (xs.map f) ρ0 (fun _ => P) (fun i => .flat (((xs.take i).filter p).map g)) := by
  refine ⟨h0, .inl (by simp), fun _ j av hj => hb j hj av, fun i d ed => ?_⟩
  rw [List.getElem?_map] at ed
  cases e : xs[i]? with
  | none => rw [e] at ed; cases ed
  | some x =>
    rw [e] at ed
    cases ed
    obtain ⟨ρ1, js, ρ2, q1, q2, q3, q4, q5⟩ := turn x (List.mem_of_getElem? e)
    have e2 : (xs.take (i + 1)).filter p = (xs.take i).filter p ++ (if p x then [x] else []) := by
      rw [List.take_succ, e]; simp [List.filter_cons]
    refine ⟨ρ1, js, p x, ρ2, q1, q2, q3, fun hp => ?_, fun hp => ?_⟩
    · obtain ⟨ρ3, r1, r2⟩ := q5 hp
      refine ⟨_, ρ3, r1, ?_, r2⟩
      simp only [e2, hp, if_true, List.map_append, List.map_cons, List.map_nil]
      exact .dat
    · refine ⟨?_, q4⟩
      simp only [e2, hp]
      simp
variable {α : Type} {xs : List α} {f g : α → PyData} {p : α → Bool} {P : Ev}
theorem de_map (hN : X.N.Nodup) (ok : BlkOk X.N X.env.scope sc own) (hi : IT G X tg iter ρ (xs.map f) ρ0) (h0 : Weak ρ0 P) (hb : Bare P (own.map (·.2)))
    (turn : ∀ x ∈ xs, ∃ ρ1 js ρ3, BG G X sc tg P (.dat (f x)) ρ1 js ∧ (∀ j ∈ js, j ∈ own.map (·.2)) ∧ BE G X sc elt ρ1 (.dat (g x)) ρ3 ∧ Weak ρ3 P) (hz : xs.length ≤ 100000) (hc : X.calm = true := by rfl)
    (hs : ∀ x, foldedSetIterable iter X.env x = pure x := by intro _; rfl) : DE G X (.ListComp elt [⟨tg, iter, [], 0⟩] sc pos) ρ (.flat (xs.map g)) P := by
  have h := de_lc0 (pos := pos) hN ok hi (lc_map h0 hb turn) (by simpa using hz) hc hs
  simpa using h
theorem de_filt (hN : X.N.Nodup) (ok : BlkOk X.N X.env.scope sc own) (hi : IT G X tg iter ρ (xs.map f) ρ0) (h0 : Weak ρ0 P) (hb : Bare P (own.map (·.2)))
    (turn : ∀ x ∈ xs, ∃ ρ1 js ρ2, BG G X sc tg P (.dat (f x)) ρ1 js ∧ (∀ j ∈ js, j ∈ own.map (·.2)) ∧ BT G X sc c ρ1 (p x) ρ2 ∧ Weak ρ2 P ∧ (p x = true → ∃ ρ3, BE G X sc elt ρ2 (.dat (g x)) ρ3 ∧ Weak ρ3 P)) (hz : xs.length ≤ 100000) (hc : X.calm = true := by rfl)
    (hs : ∀ x, foldedSetIterable iter X.env x = pure x := by intro _; rfl) : DE G X (.ListComp elt [⟨tg, iter, [c], 0⟩] sc pos) ρ (.flat ((xs.filter p).map g)) P := by
  have h := de_lc1 (pos := pos) hN ok hi (lc_filt h0 hb turn) (by simpa using hz) hc hs
  simpa using h
theorem ws_map {i : Nat} {y : Str} (hN : X.N.Nodup) (ok : BlkOk X.N X.env.scope sc own) (hi : IT G X tg iter ρ (xs.map f) ρ0) (h0 : Weak ρ0 P) (hb : Bare P (own.map (·.2)))
    (turn : ∀ x ∈ xs, ∃ ρ1 js ρ3, BG G X sc tg P (.dat (f x)) ρ1 js ∧ (∀ j ∈ js, j ∈ own.map (·.2)) ∧ BE G X sc elt ρ1 (.dat (g x)) ρ3 ∧ Weak ρ3 P) (hz : xs.length ≤ 100000) (q : Φ (.nx (P.set i (some (.flat (xs.map g))))))
    (hy : X.N[i]? = some y := by rfl) (hyl : X.env.scope.names.lookup y = some .local := by rfl) (hsw : swapsWith (.ListComp elt [⟨tg, iter, [], 0⟩] sc pos) (some (.Name y py)) spos.line X.env = pure true := by exact sw_true rfl rfl rfl rfl) (hc : X.calm = true := by rfl)
    (hs : ∀ x, foldedSetIterable iter X.env x = pure x := by intro _; rfl) : WS G X (.Assign [.Name y py] (.ListComp elt [⟨tg, iter, [], 0⟩] sc pos) spos) ρ Φ :=
  ws_lc0 hN ok hi (lc_map h0 hb turn) (by simpa using hz) (by simpa using q) hy hyl hsw hc hs
theorem ws_filt {i : Nat} {y : Str} (hN : X.N.Nodup) (ok : BlkOk X.N X.env.scope sc own) (hi : IT G X tg iter ρ (xs.map f) ρ0) (h0 : Weak ρ0 P) (hb : Bare P (own.map (·.2)))
    (turn : ∀ x ∈ xs, ∃ ρ1 js ρ2, BG G X sc tg P (.dat (f x)) ρ1 js ∧ (∀ j ∈ js, j ∈ own.map (·.2)) ∧ BT G X sc c ρ1 (p x) ρ2 ∧ Weak ρ2 P ∧ (p x = true → ∃ ρ3, BE G X sc elt ρ2 (.dat (g x)) ρ3 ∧ Weak ρ3 P)) (hz : xs.length ≤ 100000) (q : Φ (.nx (P.set i (some (.flat ((xs.filter p).map g))))))
    (hy : X.N[i]? = some y := by rfl) (hyl : X.env.scope.names.lookup y = some .local := by rfl) (hsw : swapsWith (.ListComp elt [⟨tg, iter, [c], 0⟩] sc pos) (some (.Name y py)) spos.line X.env = pure true := by exact sw_true rfl rfl rfl rfl) (hc : X.calm = true := by rfl)
    (hs : ∀ x, foldedSetIterable iter X.env x = pure x := by intro _; rfl) : WS G X (.Assign [.Name y py] (.ListComp elt [⟨tg, iter, [c], 0⟩] sc pos) spos) ρ Φ :=
  ws_lc1 hN ok hi (lc_filt h0 hb turn) rfl (by simpa using hz) (by simpa using q) hy hyl hsw hc hs
/-! ### .. with one name as target, nothing taken -/
section
variable {j : Nat} {x : Str} {px : Pos}
theorem bg_name (hN : X.N.Nodup) (hi : X.N[j]? = some x) (hx : ∀ s H0 C cl fp, Loc (CB X sc s H0 C cl fp).env.scope x ∧ ((CB X sc s H0 C cl fp).fn x = true ∨ (CB X sc s H0 C cl fp).env.scope.names.lookup x = some .local)) (na : av.isAls = false) : BG G X sc (.Name x px) ρ av (ρ.set j (some av)) [j] :=
  fun s H0 C cl fp => gt_name (X := CB X sc s H0 C cl fp) na hN hi (hx s H0 C cl fp).1 (hx s H0 C cl fp).2
abbrev LocB (X : Cx) (sc : Scope) (x : Str) : Prop := ∀ s H0 C cl fp, Loc (CB X sc s H0 C cl fp).env.scope x ∧ ((CB X sc s H0 C cl fp).fn x = true ∨ (CB X sc s H0 C cl fp).env.scope.names.lookup x = some .local)
theorem turnN (hN : X.N.Nodup) (hx : LocB X sc x) (hj : X.N[j]? = some x) (hb : Bare P [j]) (h : ∀ z ∈ xs, BE G X sc elt (P.set j (some (.dat (f z)))) (.dat (g z)) (P.set j (some (.dat (f z))))) :
    ∀ z ∈ xs, ∃ ρ1 js ρ3, BG G X sc (.Name x px) P (.dat (f z)) ρ1 js ∧ (∀ i ∈ js, i ∈ [j]) ∧ BE G X sc elt ρ1 (.dat (g z)) ρ3 ∧ Weak ρ3 P :=
  fun z hz => ⟨_, [j], _, bg_name hN hj hx rfl, fun _ h => h, h z hz, weak_back (hb j (by simp))⟩
theorem turnF (hN : X.N.Nodup) (hx : LocB X sc x) (hj : X.N[j]? = some x) (hb : Bare P [j]) (h1 : ∀ z ∈ xs, BT G X sc c (P.set j (some (.dat (f z)))) (p z) (P.set j (some (.dat (f z))))) (h2 : ∀ z ∈ xs, p z = true → BE G X sc elt (P.set j (some (.dat (f z)))) (.dat (g z)) (P.set j (some (.dat (f z))))) :
    ∀ z ∈ xs, ∃ ρ1 js ρ2, BG G X sc (.Name x px) P (.dat (f z)) ρ1 js ∧ (∀ i ∈ js, i ∈ [j]) ∧ BT G X sc c ρ1 (p z) ρ2 ∧ Weak ρ2 P ∧ (p z = true → ∃ ρ3, BE G X sc elt ρ2 (.dat (g z)) ρ3 ∧ Weak ρ3 P) :=
  fun z hz => ⟨_, [j], _, bg_name hN hj hx rfl, fun _ h => h, h1 z hz, weak_back (hb j (by simp)), fun hp => ⟨_, h2 z hz hp, weak_back (hb j (by simp))⟩⟩
end
end
end TW
end
section
set_option Elab.async false
set_option linter.all false
set_option maxRecDepth 100000
set_option maxHeartbeats 2000000
/-! The layer, 10: defs, calls. -/
namespace TW
open PySem PySem.Spec PyProof.Rows L2
section
variable {G : Glb} {K : PySem.W.Frag} {B : Bas} {M M' : List Addr} {τ : Tmp} {σ σ' : L2.St} {ρ ρ' ρ0 ρ1 ρ2 ρ3 ρ4 : Ev} {H H' : Hp} {v : V} {av a1 a2 a3 el : AV} {d d1 d2 : PyData} {ds es : List PyData} {pf : List Addr} {p q : Addr} {st st' : PoolS}

/-- what a call leaves behind -/
structure Post (G : Glb) (M : List Addr) (H : Hp) (pf M' : List Addr) (H' : Hp) : Prop where
  sm : Same (hid M H) (hid M' H')
  sub : ∀ a ∈ M, a ∈ M'
  old : ∀ a ∈ M, a ∉ pf → ¬ G.tab a → H' a = H a
  al : ∀ a ∈ M', H' a ≠ none
  tabs : TabsOk G M' H'
theorem Sem.post (S : Sem G K B M τ σ ρ H) : Post G B.M0 B.H0 B.pf M H := ⟨S.keep, S.sub, S.old, S.al, S.tabs⟩
theorem Sem.after (S : Sem G K B M τ σ ρ H) (h : Post G M H [] M' H') : Sem G K B M' τ σ ρ H' :=
  S.grow h.sm (fun a ha ht => h.old a ha (by simp) ht) h.sub h.al h.tabs
/-- a pool at p, its cells at q -/
structure PoolAt (H : Hp) (p q : Addr) (st : PoolS) : Prop where
  ne : p ≠ q
  hp : H p = some (.lst [.int st.a, .int st.b, .ref q])
  hq : H q = some (.lst (st.cs.map V.int))
theorem Sem.headP (S : Sem G K B M ((v, .pool p q st) :: τ) σ ρ H) : v = .ref p ∧ PoolAt H p q st ∧ p ∈ M ∧ q ∈ M ∧ ¬ G.tab p ∧ ¬ G.tab q := by
  obtain ⟨f, ft, s1, t1, n1, o1, o2⟩ := id S.own
  cases t1 with
  | cons h t n =>
    obtain ⟨rfl, rfl, ne, hp, hq⟩ := h
    have op := o2 p (by simp)
    have oq := o2 q (by simp)
    exact ⟨rfl, ⟨ne, hp, hq⟩, op.1, oq.1, S.notab op, S.notab oq⟩
/-- behind a call that draws from the pool at the head -/
theorem Sem.postHead (S : Sem G K B M ((v, .pool p q st) :: τ) σ ρ H) (h : Post G M H [p, q] M' H') (hP : PoolAt H' p q st') : Sem G K B M' ((v, .pool p q st') :: τ) σ ρ H' := by
  obtain ⟨f, ft, s1, t1, n1, o1, o2⟩ := id S.own
  cases t1 with
  | @cons _ _ fp fs _ hh t n =>
    obtain ⟨rfl, rfl, ne, hp, hq⟩ := hh
    have op := o2 p (by simp)
    have oq := o2 q (by simp)
    have k : ∀ a ∈ M, ¬ G.tab a → a ∉ [p, q] → H' a = H a := fun a ha ht hn => h.old a ha hn ht
    refine ⟨⟨f, [p, q] ++ fs, s1.frame h.sm fun i a ha => k a (o1 i a ha).1 (S.notab (o1 i a ha)) fun z => n1 i a ha (List.mem_append_left _ z), .cons ⟨rfl, rfl, hP.ne, hP.hp, hP.hq⟩ (t.frame h.sm fun a ha => k a (o2 a (List.mem_append_right _ ha)).1 (S.notab (o2 a (List.mem_append_right _ ha))) fun z => n a z ha) n, n1, fun i a ha => ⟨h.sub a (o1 i a ha).1, (o1 i a ha).2⟩, fun a ha => ⟨h.sub a (o2 a ha).1, (o2 a ha).2⟩⟩,
      S.keep.trans h.sm, fun a ha => h.sub a (S.sub a ha), fun a ha hp ht => ?_, h.al, h.tabs, S.tm, S.len⟩
    refine (k a (S.sub a ha) ht fun z => ?_).trans (S.old a ha hp ht)
    have hz : a ∈ [p, q] ++ fs := List.mem_append_left _ z
    exact hp ((o2 a hz).2 ha)
theorem Sem.slotP {i : Nat} (S : Sem G K B M τ σ ρ H) (h : ρ[i]? = some (some (.pool p q st))) : σ[i]? = some (some (.ref p)) ∧ PoolAt H p q st ∧ p ∈ M ∧ q ∈ M ∧ ¬ G.tab p ∧ ¬ G.tab q := by
  obtain ⟨v, e, S1⟩ := S.takeV h
  obtain ⟨rfl, h2⟩ := S1.headP
  exact ⟨e, h2⟩
theorem Sem.postSlot {i : Nat} (S : Sem G K B M τ σ ρ H) (hr : ρ[i]? = some (some (.pool p q st))) (h : Post G M H [p, q] M' H') (hP : PoolAt H' p q st') : Sem G K B M' τ σ (ρ.set i (some (.pool p q st'))) H' := by
  obtain ⟨v, e, S1⟩ := S.takeV hr
  have S3 := (S1.postHead h hP).backV rfl e
  rwa [List.set_set] at S3
/-- at a def's entry -/
theorem startAt {N : List Str} {vs : List V} {i : Nat} {v : V} (h : vs[i]? = some v) : (L2.start N vs)[i]? = some (some v) := by
  unfold L2.start
  have hi : i < vs.length := (List.getElem?_eq_some_iff.mp h).1
  rw [List.getElem?_append_left (by simpa using hi), List.getElem?_map, h]
  rfl
def startE (n : Nat) (avs : List AV) : Ev := avs.map some ++ List.replicate (n - avs.length) none
theorem startE_at {n i : Nat} {avs : List AV} {av : AV} (h : (startE n avs)[i]? = some (some av)) : avs[i]? = some av := by
  unfold startE at h
  by_cases hi : i < avs.length
  · rw [List.getElem?_append_left (by simpa using hi), List.getElem?_map] at h
    cases e : avs[i]? with
    | none => rw [e] at h; cases h
    | some a => rw [e] at h; cases h; rfl
  · rw [List.getElem?_append_right (by simpa using hi), List.getElem?_replicate] at h
    split at h <;> cases h
theorem Sem.start {N : List Str} {vs : List V} {n : Nat} (h : DqAll (hid M H) vs ds) (al : ∀ a ∈ M, H a ≠ none) (T : TabsOk G M H) (hN : n = N.length) : Sem G K ⟨H, M, []⟩ M [] (L2.start N vs) (startE n (ds.map AV.dat)) H := by
  have hl := dpa_len h
  refine ⟨⟨fun _ => [], [], ⟨fun i av e => ?_, fun i j a ha => by simp at ha, fun _ _ => rfl⟩, .nil, fun i a ha => by simp at ha, fun i a ha => by simp at ha, fun a ha => by simp at ha⟩, fun _ _ h => h, fun _ h => h, fun _ _ _ _ => rfl, al, T, fun a ha => ⟨?_, by simp⟩, ?_⟩
  · have e := startE_at e
    rw [List.getElem?_map] at e
    cases e2 : ds[i]? with
    | none => rw [e2] at e; cases e
    | some d =>
      rw [e2] at e
      cases e
      obtain ⟨v, ev, hv⟩ := dpa_get h e2
      exact ⟨rfl, v, startAt ev, rfl, hv⟩
  · rcases ha with ha | ha
    · exact (T.t a ha).1
    · obtain ⟨p, hp, rfl⟩ := List.mem_map.mp ha
      exact (T.l p hp).1
  · simp [L2.start, startE, hl, hN]
theorem Sem.startP {N : List Str} {vs : List V} {n : Nat} (hP : PoolAt H p q st) (hp : p ∈ M) (hq : q ∈ M) (np : ¬ G.tab p) (nq : ¬ G.tab q) (h : DqAll (hid M H) vs ds) (al : ∀ a ∈ M, H a ≠ none) (T : TabsOk G M H) (hN : n = N.length) :
    Sem G K ⟨H, M, [p, q]⟩ M [] (L2.start N (.ref p :: vs)) (startE n (.pool p q st :: ds.map AV.dat)) H := by
  have hl := dpa_len h
  refine ⟨⟨fun i => if i = 0 then [p, q] else [], [], ⟨fun i av e => ?_, fun i j a ha hb => ?_, fun i hi => ?_⟩, .nil, fun i a ha => by simp, fun i a ha => ?_, fun a ha => by simp at ha⟩, fun _ _ h => h, fun _ h => h, fun _ _ _ _ => rfl, al, T, fun a ha => ⟨?_, ?_⟩, ?_⟩
  · have e := startE_at e
    cases i with
    | zero =>
      cases e
      exact ⟨rfl, .ref p, startAt rfl, rfl, rfl, hP.ne, hP.hp, hP.hq⟩
    | succ i =>
      rw [List.getElem?_cons_succ, List.getElem?_map] at e
      cases e2 : ds[i]? with
      | none => rw [e2] at e; cases e
      | some d =>
        rw [e2] at e
        cases e
        obtain ⟨v, ev, hv⟩ := dpa_get h e2
        exact ⟨rfl, v, startAt (by simpa using ev), rfl, hv⟩
  · try dsimp only at ha hb
    split at ha
    · split at hb
      · omega
      · cases hb
    · cases ha
  · show (if i = 0 then [p, q] else []) = []
    split
    · rename_i h0
      subst h0
      exact absurd rfl (hi (.pool p q st))
    · rfl
  · try dsimp only at ha
    split at ha
    · simp only [List.mem_cons, List.not_mem_nil, or_false] at ha
      rcases ha with rfl | rfl
      · exact ⟨hp, fun _ => by simp⟩
      · exact ⟨hq, fun _ => by simp⟩
    · cases ha
  · rcases ha with ha | ha
    · exact (T.t a ha).1
    · obtain ⟨p, hp, rfl⟩ := List.mem_map.mp ha
      exact (T.l p hp).1
  · intro z
    simp only [List.mem_cons, List.not_mem_nil, or_false] at z
    rcases z with rfl | rfl
    · exact np ha
    · exact nq ha
  · simp [L2.start, startE, hl, hN]

/-! ### what defs promise -/
/-- data in, data out -/
def spD (G : Glb) (n : Nat) (R : List PyData → PyData → Prop) : Sp := fun vs H Q _ => ∃ M ds d, vs.length = n ∧ DqAll (hid M H) vs ds ∧ (∀ a ∈ M, H a ≠ none) ∧ TabsOk G M H ∧ R ds d ∧ ∀ v M' H', Post G M H [] M' H' → Dq (hid M' H') v d → Q v H'
/-- a pool and data in, data out -/
def spP (G : Glb) (n : Nat) (R : PoolS → List PyData → PyData → PoolS → Prop) : Sp := fun vs H Q _ => ∃ M p q st vs' ds d st', vs = .ref p :: vs' ∧ vs.length = n ∧ PoolAt H p q st ∧ p ∈ M ∧ q ∈ M ∧ ¬ G.tab p ∧ ¬ G.tab q ∧ DqAll (hid M H) vs' ds ∧ (∀ a ∈ M, H a ≠ none) ∧ TabsOk G M H ∧ R st ds d st' ∧
  ∀ v M' H', Post G M H [p, q] M' H' → PoolAt H' p q st' → Dq (hid M' H') v d → Q v H'
/-- how a body must end -/
def Ret (d : PyData) : Out → Prop
  | .rt av _ => av = .dat d
  | .nx _ => d = .none
  | _ => False
def RetP (p q : Addr) (d : PyData) (st' : PoolS) : Out → Prop
  | .rt av ρ => av = .dat d ∧ ρ[0]? = some (some (.pool p q st'))
  | .nx ρ => d = .none ∧ ρ[0]? = some (some (.pool p q st'))
  | _ => False
end
section
variable {G : Glb} {P : Program} {w : World} {K : PySem.W.Frag} {mg : Str → Option Value} {base : Heap} {name qual : Str} {args : Arguments} {body : List Stmt} {scope : Scope} {f : Addr} {fd : FuncData} {N ps : List Str} {k : Nat}
abbrev CD (P : Program) (w : World) (K : PySem.W.Frag) (mg : Str → Option Value) (base : Heap) (N : List Str) (qual : Str) (scope : Scope) (f : Addr) (cdv : Value) (A : Around) (outer : List Env) (s : Shared) (H : Hp) (E : XK) : Cx := (cxOf L2.CX0 P w K mg base N qual scope f cdv A outer s H E).nox
/-- a def that may be called by its name -/
structure Call (P : Program) (w : World) (K : PySem.W.Frag) (mg : Str → Option Value) (base : Heap) (k : Nat) (x : Str) (sp : Sp) : Prop where
  ex : ∃ (f : Addr) (fd : FuncData) (ps : List Str), FnOk P w K mg base L2.CX0 k f fd ps sp ∧ mg x = some (.ref f) ∧ PySem.W.keepIn K (.ref f) = true ∧ Binds K fd ps []
abbrev Fn (K : PySem.W.Frag) (mg : Str → Option Value) (x : Str) (name qual : Str) (args : Arguments) (body : List Stmt) (scope : Scope) : Prop := ∃ f fd, FunD K name qual args body scope [] [] f fd ∧ mg x = some (.ref f)
theorem callD {x : Str} {R : List PyData → PyData → Prop} (F : Fn K mg x name qual args body scope) (S : FnScope N ps scope)
    (hb : ∀ (kV doc pm : Value) (an : Option Addr) (cdv ct : Value) (us : List Value), us.length = ps.length → bindArgs (PySem.W.fnOf name qual args body scope .none kV doc pm an cdv ct) ⟨us, []⟩ = pure (ps.zip us))
    (hw : ∀ (f : Addr) (cdv : Value) (A : Around) (outer : List Env) (s : Shared) (H : Hp) (E : XK), Room k (CD P w K mg base N qual scope f cdv A outer s H E).A → ∀ ds d, R ds d → WSs G (CD P w K mg base N qual scope f cdv A outer s H E) body (startE N.length (ds.map AV.dat)) (Ret d)) :
    Call P w K mg base (k + 1) x (spD G ps.length R) := by
  obtain ⟨f, fd, F, hm⟩ := F
  refine ⟨f, fd, ps, F.ok S (fun vs H Q E h => ?_) (fun cdv A outer s H vs Q E hr h => ?_), hm, F.kp, F.bindsN hb⟩
  · obtain ⟨M, ds, d, h1, _⟩ := h
    exact h1
  · obtain ⟨M, ds, d, h1, h2, al, T, hR, q⟩ := h
    refine ⟨_, PSs.nox pSs, ?_⟩
    refine hw f cdv A outer s H E hr ds d hR _ M [] _ H (fun x hx => by cases hx) (Sem.start h2 al T rfl) _ (fun ρ' M' σ' H' e S => ?_) (fun av ρ' v M' σ' H' e S => ?_) (fun _ _ _ _ e _ => e.elim) (fun _ _ _ _ e _ => e.elim)
    · have e : d = .none := e
      subst e
      exact q _ _ _ S.post .non
    · have e : av = .dat d := e
      subst e
      exact q _ _ _ S.post S.headD
theorem callP {x : Str} {R : PoolS → List PyData → PyData → PoolS → Prop} (F : Fn K mg x name qual args body scope) (S : FnScope N ps scope)
    (hb : ∀ (kV doc pm : Value) (an : Option Addr) (cdv ct : Value) (us : List Value), us.length = ps.length → bindArgs (PySem.W.fnOf name qual args body scope .none kV doc pm an cdv ct) ⟨us, []⟩ = pure (ps.zip us))
    (hw : ∀ (f : Addr) (cdv : Value) (A : Around) (outer : List Env) (s : Shared) (H : Hp) (E : XK), Room k (CD P w K mg base N qual scope f cdv A outer s H E).A → ∀ p q st ds d st', R st ds d st' → WSs G (CD P w K mg base N qual scope f cdv A outer s H E) body (startE N.length (.pool p q st :: ds.map AV.dat)) (RetP p q d st')) :
    Call P w K mg base (k + 1) x (spP G ps.length R) := by
  obtain ⟨f, fd, F, hm⟩ := F
  refine ⟨f, fd, ps, F.ok S (fun vs H Q E h => ?_) (fun cdv A outer s H vs Q E hr h => ?_), hm, F.kp, F.bindsN hb⟩
  · obtain ⟨M, p, q, st, vs', ds, d, st', _, h1, _⟩ := h
    exact h1
  · obtain ⟨M, p, q, st, vs', ds, d, st', rfl, h1, hP, hp, hq, np, nq, h2, al, T, hR, q⟩ := h
    refine ⟨_, PSs.nox pSs, ?_⟩
    refine hw f cdv A outer s H E hr _ _ st ds d st' hR _ M [] _ H (fun x hx => by cases hx) (Sem.startP hP hp hq np nq h2 al T rfl) _ (fun ρ' M' σ' H' e S => ?_) (fun av ρ' v M' σ' H' e S => ?_) (fun _ _ _ _ e _ => e.elim) (fun _ _ _ _ e _ => e.elim)
    · obtain ⟨e, e0⟩ := e
      subst e
      exact q _ _ _ S.post (S.slotP e0).2.1 .non
    · obtain ⟨e, e0⟩ := e
      subst e
      exact q _ _ _ S.post (S.slotP e0).2.1 S.headD
end
section
variable {G : Glb} {X : Cx} {k j n : Nat} {x : Str} {p0 pos : Pos} {e : Expr} {es : List Expr} {ρ ρ1 : Ev} {ds : List PyData} {d : PyData} {p q : Addr} {st st' : PoolS}
theorem pe_k {sp : Sp} {t : TA} (c : Call X.prog X.w X.K X.mg X.base k x sp) (hr : Room j X.A) (hk : k ≤ j) (hg : Gl X x) (ha : PA X (e :: es) t)
    (hdb : (x == ("__debug__" : Str)) = false := by decide) (he : starEach (e :: es) X.env = (false, eval e X.env) :: starEach es X.env := by rfl) (hpl : (backTo pos (starEach es X.env)).any (·.1) = false := by rfl) :
    PE X (.Call (.Name x p0) (e :: es) [] pos) (tCall sp [] L2.E0 t) := by
  obtain ⟨f, fd, ps, F, hm, kp, b⟩ := c.ex
  exact pe_call F (hr.mono hk) hg hm kp b .nil L2.pass0 ha hdb he hpl
theorem de_call {R : List PyData → PyData → Prop} (c : Call X.prog X.w X.K X.mg X.base k x (spD G n R)) (hr : Room j X.A) (hR : R ds d) (ha : DA G X (e :: es) ρ (ds.map AV.dat) ρ1) (hn : ds.length = n := by rfl) (hk : k ≤ j := by decide) (hg : Gl X x := by rfl)
    (hdb : (x == ("__debug__" : Str)) = false := by decide) (he : starEach (e :: es) X.env = (false, eval e X.env) :: starEach es X.env := by rfl) (hpl : (backTo pos (starEach es X.env)).any (·.1) = false := by rfl) :
    DE G X (.Call (.Name x p0) (e :: es) [] pos) ρ (.dat d) ρ1 := fun B M τ σ H S Q q => toE (pe_k c hr hk hg pA hdb he hpl) (ha B M τ σ H S _ fun vs M1 H1 hl S1 => by
  refine ⟨M1, ds, d, ?_, ?_, S1.al, S1.tabs, hR, fun v M' H' post hv => q v M' H' ((S1.popA.after post).push hv)⟩
  · rw [List.append_nil, hl, List.length_map, hn]
  · rw [List.append_nil]
    exact temps_dats (by simpa using hl) S1)
theorem de_callP {i : Nat} {R : PoolS → List PyData → PyData → PoolS → Prop} (c : Call X.prog X.w X.K X.mg X.base k x (spP G n R)) (hr : Room j X.A) (hR : R st ds d st') (ha : DA G X (e :: es) ρ (.als i :: ds.map AV.dat) ρ1) (hi : ρ1[i]? = some (some (.pool p q st))) (hn : ds.length + 1 = n := by rfl) (hk : k ≤ j := by decide) (hg : Gl X x := by rfl)
    (hdb : (x == ("__debug__" : Str)) = false := by decide) (he : starEach (e :: es) X.env = (false, eval e X.env) :: starEach es X.env := by rfl) (hpl : (backTo pos (starEach es X.env)).any (·.1) = false := by rfl) :
    DE G X (.Call (.Name x p0) (e :: es) [] pos) ρ (.dat d) (ρ1.set i (some (.pool p q st'))) := fun B M τ σ H S Q qq => toE (pe_k c hr hk hg pA hdb he hpl) (ha B M τ σ H S _ fun vs M1 H1 hl S1 => by
  cases vs with
  | nil => cases hl
  | cons v vs =>
    have e1 : (((v :: vs).zip (.als i :: ds.map AV.dat)).reverse ++ τ) = ((vs.zip (ds.map AV.dat)).reverse ++ ((v, AV.als i) :: τ)) := by simp
    rw [e1] at S1
    have hl2 : vs.length = ds.length := by simpa using hl
    have S2 := S1.popA
    have ev := S2.headA
    obtain ⟨eσ, hP, hp, hq, np, nq⟩ := S1.slotP hi
    rw [ev] at eσ
    cases eσ
    refine ⟨M1, p, q, st, vs, ds, d, st', by rw [List.append_nil], ?_, hP, hp, hq, np, nq, temps_dats hl2 S1, S1.al, S1.tabs, hR, fun v M' H' post hP' hv => qq v M' H' ((S2.pop.postSlot hi post hP').push hv)⟩
    rw [List.append_nil, List.length_cons, hl2, hn])
end
end TW
end
section
set_option Elab.async false
set_option linter.all false
set_option maxRecDepth 100000
set_option maxHeartbeats 2000000
/-! The layer, 11: enumerate of a tuple. -/
namespace TW
open PySem PySem.Spec PyProof.Rows L2
open AutoSeq1 (wpAny_loadPart')
theorem enum_newT (l : Addr) (items : Array Value) (n : Nat) (dct : Option Addr) (sl : Array (Option Value)) :
    Meets (Builtin.«enumerate.__new__» ⟨[.type "enumerate", .ref l], []⟩) (fun _ R s => s.heap.get? l = some { cls := .type "tuple", dict := dct, data := .seq items n, slots := sl } ∧
      R (.ok (.ret (.ref (s.heap.push { cls := .type "tuple_iterator", data := .fields #[.ref l, .int 0 0] }).objs.size)))
        { s with heap := (s.heap.push { cls := .type "tuple_iterator", data := .fields #[.ref l, .int 0 0] }).push { cls := .type "enumerate", data := .fields #[.none, .bool false, .ref s.heap.objs.size, rawInt 0, .none, .none] } }) :=
  .of_wp fun prog w A R s h => by
    obtain ⟨hp, g, d, tk, os⟩ := s; obtain ⟨hl, h⟩ := h
    have hsub := sub_enumerate
    have hL : Heap.IsTuple (Shared.heap ⟨hp, g, d, tk, os⟩) l items := ⟨_, hl, rfl, n, rfl⟩
    wp_walk using wpAny_loadPart' hl
    refine wpAny_stack_any fun st => wpAny_pure ?_
    split
    · rename_i c _ _ _ _ _
      cases (c == Value.type "enumerate")
      · wp_walk using wpAny_loadPart' hl, wpAny_pyIter_tuple hL
        exact ⟨_, rfl, h⟩
      · wp_walk using wpAny_loadPart' hl, wpAny_pyIter_tuple hL
        exact ⟨_, rfl, h⟩
    · wp_walk using wpAny_loadPart' hl, wpAny_pyIter_tuple hL
      exact ⟨_, rfl, h⟩
section
variable {prog : Program} {w : World} {A : Around} {E : Value → Shared → Prop} {s : Shared}
theorem call_enumT {l : Addr} {items : Array Value} {Q : Value → Shared → Prop} (hL : s.heap.IsTuple l items)
    (h : ∀ h', IsEnum h' (s.heap.objs.size + 1) s.heap.objs.size 0 .none → h'.IsTupleIter s.heap.objs.size l 0 → h'.objs.size = s.heap.objs.size + 2 →
      (∀ b o, s.heap.get? b = some o → h'.get? b = some o) → Q (.ref (s.heap.objs.size + 1)) { s with heap := h' }) :
    wpAny (model prog w) A (PySem.call (.type "enumerate") [.ref l]) Q E s := by
  obtain ⟨⟨c, dct, dt, sl⟩, hl, hc, n, hd⟩ := hL
  replace hc : c = .type "tuple" := hc
  replace hd : dt = .seq items n := hd
  subst hc hd
  refine callType_new F.called_enumerate (by decide) (F.typeCall_enumerate_1 _) (F.newCall_enumerate_1 _) (fun obj => F.args_object_init_2 obj _) F.entry_enumerate_new
    (enum_newT l items n dct sl) ⟨hl, ?_⟩
  have hz : (s.heap.push { cls := .type "tuple_iterator", data := .fields #[.ref l, .int 0 0] }).objs.size = s.heap.objs.size + 1 := Heap.size_push ..
  show _ ∧ _
  rw [hz]
  have he : IsEnum ((s.heap.push { cls := .type "tuple_iterator", data := .fields #[.ref l, .int 0 0] }).push
      { cls := .type "enumerate", data := .fields #[.none, .bool false, .ref s.heap.objs.size, rawInt 0, .none, .none] }) (s.heap.objs.size + 1) s.heap.objs.size 0 .none := by
    have := Heap.get?_push_size (s.heap.push { cls := .type "tuple_iterator", data := .fields #[.ref l, .int 0 0] })
      (o := { cls := .type "enumerate", data := .fields #[.none, .bool false, .ref s.heap.objs.size, rawInt 0, .none, .none] }) rfl
    rw [hz] at this; exact this
  refine ⟨⟨_, he, rfl⟩, h _ he ⟨_, Heap.get?_push_of_some _ (Heap.get?_push_size _ rfl), rfl, rfl⟩ (by rw [Heap.size_push, hz]) fun b o x => Heap.get?_push_of_some _ (Heap.get?_push_of_some _ x)⟩
theorem next_enumT_end {e it l : Addr} {i : Nat} {items : Array Value} {old : Value} {Q : Option Value → Shared → Prop} (hh : A.handled = none)
    (he : IsEnum s.heap e it i old) (hit : s.heap.IsTupleIter it l i) (hl : s.heap.IsTuple l items) (hx : items[i]? = none)
    (hQ : ∀ h', Heap.ExtBut it s.heap h' → Q none { s with heap := h' }) : wpAny (model prog w) A (pyNext (.ref e)) Q E s := by
  have hT : s.TypeIs (.ref e) "enumerate" := ⟨_, he, rfl⟩
  unfold pyNext
  refine wpAny_bind (wpAny_attempt (wpAny_callSpecial?_slot (name := Str.ofString "__next__") hT F.slot_enumerate_next
    (wpAny_call_entry F.slot_enumerate_next hT F.entry_enumerate_next ?_ (F.args_enumerate_next_1 _))))
  show wpAny _ _ (field (.ref e) 2 >>= _) _ _ _
  refine wpAny_bind (wpAny_field he rfl (x := .ref it) rfl ?_)
  refine wpAny_bind (RZ.nextOf_tuple_end hh hit hl hx fun h' x he' hx' => ?_)
  obtain ⟨o, ho, hc⟩ := hx'
  refine wpAny_bind (wpAny_isInstance (T := "StopIteration") (b := true) ⟨o, ho, hc⟩ isSubtype_stop ?_)
  exact wpAny_pure (hQ _ he')
end
/-- the tuple at a, each item in a new pair -/
def IteT (K : PySem.W.Frag) (a : Addr) : It :=
  ⟨fun i H => ∃ (xs : List V) (x : V), SqT K H a xs ∧ xs[i]? = some x, fun i H v H' => ∃ T x, v = .ref T ∧ H T = none ∧ H' = upd H T (.tup [.int (i : Nat), x]) ∧ ∀ xs, SqT K H a xs → xs[i]? = some x, fun i H => ∃ xs : List V, SqT K H a xs ∧ xs.length ≤ i⟩
theorem turn_enumT {P : Program} {w : World} {K : PySem.W.Frag} {elts : List Expr} {kk : Nat} {tpos : Pos} (a e it : Addr) (hai : a ≠ it) :
    Turn P w K (.Tuple elts kk tpos) (IteT K a) [e, it] e (fun i h => (∃ old, IsEnum h e it ((i : Nat) : Int) old) ∧ h.IsTupleIter it a i ∧ e ≠ it ∧ e ≠ a) where
  mem := by simp
  obj := fun i h st b hb => by
    obtain ⟨⟨old, he⟩, ⟨o, ho, hc, hd⟩, _⟩ := st
    have e' : b = e ∨ b = it := by simpa using hb
    rcases e' with z | z
    · rw [z]; exact ⟨_, he, fun v q => nomatch q⟩
    · rw [z]; exact ⟨o, ho, fun v q => by rw [hd] at q; cases q⟩
  keep := fun i h h' st k => let ⟨⟨old, he⟩, hi, hne⟩ := st; ⟨⟨old, k e (by simp) _ he⟩, hi.at fun o q => k it (by simp) o q, hne⟩
  item := by
    intro X hP hw hK hc i pins s σ H E I hf st hg
    subst hP hw hK
    obtain ⟨⟨old, he⟩, hit, hne, hea⟩ := st
    obtain ⟨xs, x, hq, hx⟩ := hg
    obtain ⟨its, rv, p, hz⟩ := I.tuple hq
    obtain ⟨u, hu, ru⟩ := rv.get hx
    have hel : e < s.heap.objs.size := Heap.lt_size he
    have hil : it < s.heap.objs.size := by obtain ⟨_, q, _⟩ := hit; exact Heap.lt_size q
    have hp : s.heap.IsTuple a its.toArray := p
    have hlt : i < its.toArray.size := by
      have := (List.getElem?_eq_some_iff.mp hu).1
      simpa using this
    refine wpAny_pyNext_enum_itemD (Draws.tuple (show X.A.in1.handled = none from I.ok.hd hc) it a hai its.toArray) he ⟨hit, hp⟩ hlt hne (by simp [hne, hea]) fun y h' tk hy ho hst hT hsz hk => ?_
    have hyu : y = u := by
      have h1 : its.toArray[i]? = some u := by simpa using hu
      have h2 : its.toArray[i]? = some y := hy
      rw [h1] at h2
      cases h2
      rfl
    subst hyu
    obtain ⟨hit', _⟩ := hst
    refine ⟨_, rfl, wpAny_letOwnedTupleGo_enum (s := { s with heap := h', toks := tk + 1 }) ho fun h'' he' sb => ?_⟩
    have hT2 : h''.get? s.heap.objs.size = some { cls := .type "tuple", data := .seq #[.int i tk, y] } := (sb.2 _ (Nat.ne_of_gt hel)).trans hT
    have new : ObjOk X.prog X.w (upd H s.heap.objs.size (.tup [.int (i : Nat), x])) h'' s.heap.objs.size (.tup [.int (i : Nat), x]) :=
      ⟨by show 2 ≤ sizeLine; decide, [.int i tk, y], .cons ⟨_, rfl⟩ (.cons ru .nil), ⟨_, hT2, rfl, _, rfl⟩⟩
    have I1 : Inv X pins σ (upd H s.heap.objs.size (.tup [.int (i : Nat), x])) { s with heap := h'', toks := tk + 1 } :=
      I.turnedNew (ch := [e, it]) (fun b ob hb q => (sb.2 b (fun z => hb (by simp [z]))).trans (hk b ob (fun z => hb (by simp [z])) (fun z => hb (by simp [z])) q)) hf (Nat.le_refl _) new
    refine ⟨.ref s.heap.objs.size, _, I1, rfl, ⟨_, x, rfl, I.hok.fresh (Nat.le_refl _), rfl, fun ys hy => by rw [I.tuple_inj hy hq]; exact hx⟩, ⟨⟨y, ?_⟩, hit'.at fun o q => (sb.2 it (Ne.symm hne)).trans q, hne, hea⟩, fun b hb => ?_⟩
    · have e1 : ((i + 1 : Nat) : Int) = (i : Int) + 1 := by omega
      rw [e1]; exact he'
    · have hb' : b < s.heap.objs.size := by
        have e' : b = e ∨ b = it := by simpa using hb
        rcases e' with z | z
        · rw [z]; exact hel
        · rw [z]; exact hil
      rw [upd_ne (Nat.ne_of_lt hb')]
      exact (hf b hb).1
  done := by
    intro X hP hw hK hc i pins s σ H E I hf st hg
    subst hP hw hK
    obtain ⟨⟨old, he⟩, hit, hne, hea⟩ := st
    obtain ⟨xs, hq, hx⟩ := hg
    obtain ⟨its, rv, p, hz⟩ := I.tuple hq
    obtain ⟨f0, f1, f2, f3, f4, f5⟩ := hf it (by simp)
    have hl := rv.length
    exact next_enumT_end (I.ok.hd hc) he hit (show s.heap.IsTuple a its.toArray from p) (by simp; omega) fun h' eb => ⟨rfl, I.turned (t' := s.toks) (fun b o hb q => eb b o hb q) f0 f1 f3 f4 f5⟩
  self := fun A i s Q E st h => let ⟨⟨_, he⟩, _⟩ := st; wpAny_pyIter_enum he h
def iEnumT (K : PySem.W.Frag) (ta : TA) : TI := fun σ H R => ta σ H fun vs H1 => ∃ a xs, vs = [.ref a] ∧ SqT K H1 a xs ∧ R (IteT K a) H1
theorem pi_enumT {X : Cx} {e : Expr} {ta : TA} {p pos tpos : Pos} {elts : List Expr} {kk : Nat} (hg : Gl X "enumerate") (hm : X.mg "enumerate" = none) (ha : PA X [e] ta) (hs : starEach [e] X.env = [(false, eval e X.env)] := by rfl) :
    PI X (.Tuple elts kk tpos) (.Call (.Name "enumerate" p) [e] [] pos) (iEnumT X.K ta) := by
  refine ⟨fun pins s σ H R I h => ?_⟩
  refine Call_ (ld_blt I hg hm boot_enumerate (PyProof.Rows.callWith_type1 (thn (ha.run pos pins s σ H _ I h) fun us s1 ⟨vs, H1, I1, r1, q1⟩ => ?_) hs rfl))
  obtain ⟨a, xs, ex, hq, q⟩ := q1
  subst ex
  cases r1 with
  | cons r rr =>
    cases rr
    cases r
    obtain ⟨its, rv, p', hz⟩ := I1.tuple hq
    obtain ⟨o', ho', _⟩ := id p'
    have hal : a < s1.heap.objs.size := Heap.lt_size ho'
    refine call_enumT (show s1.heap.IsTuple a its.toArray from p') fun h' he hit hsz hk => wpAny_pyIter_enum he ?_
    have I2 : Inv X pins σ H1 { s1 with heap := h' } := I1.kept (t' := s1.toks) hk
    refine ⟨s1.heap.objs.size + 1, [s1.heap.objs.size + 1, s1.heap.objs.size], _, _, H1, rfl, I2, turn_enumT a (s1.heap.objs.size + 1) s1.heap.objs.size (Nat.ne_of_lt hal), ⟨⟨.none, he⟩, hit, Nat.succ_ne_self _, Nat.ne_of_gt (Nat.lt_succ_of_lt hal)⟩, fun b hb => ?_, q⟩
    have e' : b = s1.heap.objs.size + 1 ∨ b = s1.heap.objs.size := by simpa using hb
    have hle : s1.heap.objs.size ≤ b := by
      rcases e' with z | z
      · rw [z]; exact Nat.le_add_right _ _
      · rw [z]; exact Nat.le_refl _
    exact I1.fpOk hle (I1.hok.fresh hle)
end TW
end
section
set_option Elab.async false
set_option linter.all false
set_option maxRecDepth 100000
set_option maxHeartbeats 2000000
/-! The layer, 12: naturals, enumerate, zip, ranges, orders. -/
namespace TW
open PySem PySem.Spec PyProof.Rows L2
abbrev nI (n : Nat) : PyData := .int (n : Int)
abbrev tN (ns : List Nat) : PyData := .tuple (ns.map nI)
abbrev lN (ns : List Nat) : PyData := .list (ns.map nI)
section
variable {G : Glb} {K : PySem.W.Frag} {B : Bas} {M M' : List Addr} {τ : Tmp} {σ σ' : L2.St} {ρ ρ' ρ0 ρ1 ρ2 ρ3 ρ4 : Ev} {H H' : Hp} {v : V} {av a1 a2 a3 el : AV} {d d1 d2 : PyData} {ds es : List PyData}
variable {X : Cx} {e e' e'' tg iter : Expr} {pos p : Pos} {k : Nat} {st : Stmt} {sts : List Stmt} {Φ Φ' : Out → Prop} {js js' : List Nat}
theorem DE.to (h : DE G X e ρ (.dat d) ρ1) (q : d = d') : DE G X e ρ (.dat d') ρ1 := q ▸ h
theorem DT.to {b b' : Bool} (h : DT G X e ρ b ρ1) (q : b = b') : DT G X e ρ b' ρ1 := q ▸ h
theorem DE.toF (h : DE G X e ρ (.flat ds) ρ1) (q : ds = es) : DE G X e ρ (.flat es) ρ1 := q ▸ h

/-! ### a name's value, by place -/
theorem dv {x : Str} (i : Nat) (h : ρ[i]? = some (some (.dat d)) := by rfl) (hN : X.N[i]? = some x := by rfl) (hv : Vis X.env.scope x := by first | exact Or.inl rfl | exact Or.inr (Or.inl rfl) | exact Or.inr (Or.inr rfl)) (hd : (x == ("__debug__" : Str)) = false := by decide)
    (hcd : (x == ("__classdict__" : Str)) = false := by decide) : DE G X (.Name x pos) ρ (.dat d) ρ := de_var h hN hv hd hcd
/-- the very list in slot i -/
theorem da {x : Str} (i : Nat) (h : ρ[i]? = some (some av) := by rfl) (hN : X.N[i]? = some x := by rfl) (hv : Vis X.env.scope x := by first | exact Or.inl rfl | exact Or.inr (Or.inl rfl) | exact Or.inr (Or.inr rfl)) (hd : (x == ("__debug__" : Str)) = false := by decide)
    (hcd : (x == ("__classdict__" : Str)) = false := by decide) : DE G X (.Name x pos) ρ (.als i) ρ := de_als h hN hv hd hcd

/-! ### naturals -/
section
variable {i j : Nat}
theorem de_n {kk : Nat} : DE G X (.Constant (.int (i : Int)) kk pos) ρ (.dat (nI i)) ρ := de_int
theorem de_addN (ha : DE G X e ρ (.dat (nI i)) ρ1) (hb : DE G X e' ρ1 (.dat (nI j)) ρ2) : DE G X (.BinOp e .Add e' pos) ρ (.dat (nI (i + j))) ρ2 := de_add ha hb
theorem de_mulN (hz : i < 2 ^ 64) (ha : DE G X e ρ (.dat (nI i)) ρ1) (hb : DE G X e' ρ1 (.dat (nI j)) ρ2) : DE G X (.BinOp e .Mult e' pos) ρ (.dat (nI (i * j))) ρ2 := de_mul (.inl ⟨Int.lt_of_lt_of_le (by decide) (Int.natCast_nonneg i), by exact_mod_cast hz⟩) ha hb
theorem de_subN (h : j ≤ i) (ha : DE G X e ρ (.dat (nI i)) ρ1) (hb : DE G X e' ρ1 (.dat (nI j)) ρ2) : DE G X (.BinOp e .Sub e' pos) ρ (.dat (nI (i - j))) ρ2 := (de_sub ha hb).to (by
  show PyData.int _ = PyData.int _
  congr 1
  omega)
theorem de_divN (h : 0 < j) (hz : j < 1073741824) (ha : DE G X e ρ (.dat (nI i)) ρ1) (hb : DE G X e' ρ1 (.dat (nI j)) ρ2) : DE G X (.BinOp e .FloorDiv e' pos) ρ (.dat (nI (i / j))) ρ2 := (de_fdiv ⟨by omega, by omega⟩ ha hb).to (by simp [nI])
theorem de_modN (h : 0 < j) (ha : DE G X e ρ (.dat (nI i)) ρ1) (hb : DE G X e' ρ1 (.dat (nI j)) ρ2) : DE G X (.BinOp e .Mod e' pos) ρ (.dat (nI (i % j))) ρ2 := (de_mod (by omega) ha hb).to (by simp [nI])
theorem dtv {b : Bool} (h : DE G X e ρ (.dat (.bool b)) ρ') (he : ∀ whole, isTrue e X.env whole = (do let v ← whole; standAt e.pos; holding [v] (truthy v)) := by intro _; rfl) : DT G X e ρ b ρ' := dt_val h he
theorem de_ltN (ha : DE G X e ρ (.dat (nI i)) ρ1) (hb : DE G X e' ρ1 (.dat (nI j)) ρ2) : DE G X (.Compare e [.Lt] [e'] pos) ρ (.dat (.bool (decide (i < j)))) ρ2 := (de_lt ha hb).to (by simp)
theorem de_leN (ha : DE G X e ρ (.dat (nI i)) ρ1) (hb : DE G X e' ρ1 (.dat (nI j)) ρ2) : DE G X (.Compare e [.LtE] [e'] pos) ρ (.dat (.bool (decide (i ≤ j)))) ρ2 := (de_le ha hb).to (by simp)
theorem de_gtN (ha : DE G X e ρ (.dat (nI i)) ρ1) (hb : DE G X e' ρ1 (.dat (nI j)) ρ2) : DE G X (.Compare e [.Gt] [e'] pos) ρ (.dat (.bool (decide (j < i)))) ρ2 := (de_gt ha hb).to (by simp)
theorem de_geN (ha : DE G X e ρ (.dat (nI i)) ρ1) (hb : DE G X e' ρ1 (.dat (nI j)) ρ2) : DE G X (.Compare e [.GtE] [e'] pos) ρ (.dat (.bool (decide (j ≤ i)))) ρ2 := (de_ge ha hb).to (by simp)
theorem de_eqN (ha : DE G X e ρ (.dat (nI i)) ρ1) (hb : DE G X e' ρ1 (.dat (nI j)) ρ2) : DE G X (.Compare e [.Eq] [e'] pos) ρ (.dat (.bool (decide (i = j)))) ρ2 := (de_eqi ha hb).to (by simp [Int.ofNat_inj])
theorem de_neN (ha : DE G X e ρ (.dat (nI i)) ρ1) (hb : DE G X e' ρ1 (.dat (nI j)) ρ2) : DE G X (.Compare e [.NotEq] [e'] pos) ρ (.dat (.bool (!decide (i = j)))) ρ2 := (de_nei ha hb).to (by simp [Int.ofNat_inj])
theorem mapNI {ns : List Nat} : ns.map nI = (ns.map Int.ofNat).map PyData.int := by rw [List.map_map]; rfl
theorem memNI {ns : List Nat} : ((i : Int) ∈ ns.map Int.ofNat) ↔ i ∈ ns := by
  rw [List.mem_map]
  exact ⟨fun ⟨j, h, e⟩ => by cases e; exact h, fun h => ⟨i, h, rfl⟩⟩
theorem de_inN {ns : List Nat} (hs : SQ ρ2 a2 (ns.map nI)) (ha : DE G X e ρ (.dat (nI i)) ρ1) (hb : DE G X e' ρ1 a2 ρ2) (hm : behindInMarks .In e' = false := by rfl) : DE G X (.Compare e [.In] [e'] pos) ρ (.dat (.bool (decide (i ∈ ns)))) ρ2 :=
  (de_in (mapNI ▸ hs) ha hb hm).to (by rw [decide_eq_decide.mpr memNI])
theorem de_notinN {ns : List Nat} (hs : SQ ρ2 a2 (ns.map nI)) (ha : DE G X e ρ (.dat (nI i)) ρ1) (hb : DE G X e' ρ1 a2 ρ2) (hm : behindInMarks .NotIn e' = false := by rfl) : DE G X (.Compare e [.NotIn] [e'] pos) ρ (.dat (.bool (!decide (i ∈ ns)))) ρ2 :=
  (de_notin (mapNI ▸ hs) ha hb hm).to (by rw [decide_eq_decide.mpr memNI])
theorem de_lenN (hs : SQ ρ1 a1 ds) (hm : X.mg "len" = none) (ha : DE G X e ρ a1 ρ1) (hg : Gl X "len" := by rfl) (he : starEach [e] X.env = (false, eval e X.env) :: starEach [] X.env := by rfl) : DE G X (.Call (.Name "len" p) [e] [] pos) ρ (.dat (nI ds.length)) ρ1 := de_len hs hm ha hg he
theorem atI_nat {α : Type} {xs : List α} {n : Nat} {x : α} (h : xs[n]? = some x) : atI xs (n : Int) = some x := by
  have hl : n < xs.length := (List.getElem?_eq_some_iff.mp h).1
  unfold atI ixN
  rw [if_pos (by omega), if_pos (by omega)]
  simpa using h
theorem atI_last {α : Type} {xs : List α} {x : α} : atI (xs ++ [x]) (-1) = some x := by
  unfold atI ixN
  rw [if_neg (by decide), if_pos (by simp; omega)]
  have e : ((-1 : Int) + ((xs ++ [x]).length : Nat)).toNat = xs.length := by simp; omega
  rw [e]
  simp
theorem de_ixN (hs : SQ ρ2 a1 ds) (h : ds[i]? = some d) (ha : DE G X e ρ a1 ρ1) (hb : DE G X e' ρ1 (.dat (nI i)) ρ2) (hp : PlainIx e' := by exact fun _ _ => rfl) : DE G X (.Subscript e e' pos) ρ (.dat d) ρ2 := de_ix hs (atI_nat h) ha hb hp
theorem de_ixT (h : ds[i]? = some d) (ha : DE G X e ρ (.dat (.tuple ds)) ρ1) (hb : DE G X e' ρ1 (.dat (nI i)) ρ2) (hp : PlainIx e' := by exact fun _ _ => rfl) : DE G X (.Subscript e e' pos) ρ (.dat d) ρ2 := de_ixN .tup h ha hb hp
/-- a tuple of naturals at a natural -/
theorem de_ixTN {ns : List Nat} {m : Nat} (h : ns[i]? = some m) (ha : DE G X e ρ (.dat (tN ns)) ρ1) (hb : DE G X e' ρ1 (.dat (nI i)) ρ2) (hp : PlainIx e' := by exact fun _ _ => rfl) : DE G X (.Subscript e e' pos) ρ (.dat (nI m)) ρ2 := de_ixT (by rw [List.getElem?_map, h]; rfl) ha hb hp
/-- a constant place of a tuple -/
theorem de_ixC {c kk : Nat} {cp : Pos} (h : ds[c]? = some d) (ha : DE G X e ρ (.dat (.tuple ds)) ρ1) : DE G X (.Subscript e (.Constant (.int (c : Int)) kk cp) pos) ρ (.dat d) ρ1 := de_ixT h ha de_n
end
theorem de_tupN {ns : List Nat} {el : List Expr} {x1 : Nat} (h : DA G X el ρ (ns.map fun n => AV.dat (nI n)) ρ') (hz : ns.length ≤ 100000 := by simp) : DE G X (.Tuple el x1 pos) ρ (.dat (tN ns)) ρ' := de_tup (by rw [List.map_map]; exact h) (by simpa using hz)

/-! ### isinstance -/
def isIntB : PyData → Bool
  | .int _ => true
  | .bool _ => true
  | _ => false
def isBoolB : PyData → Bool
  | .bool _ => true
  | _ => false
def isTupB : PyData → Bool
  | .tuple _ => true
  | _ => false
def isStrB : PyData → Bool
  | .str _ => true
  | _ => false
theorem de_isInt (h1 : X.mg "isinstance" = none) (h2 : X.mg "int" = none) (ha : DE G X e ρ (.dat d) ρ1) (hg : Gl X "isinstance" := by rfl) (hg2 : Gl X "int" := by rfl) (he : starEach [e, .Name "int" p'] X.env = (false, eval e X.env) :: starEach [.Name "int" p'] X.env := by rfl) (he' : starEach [.Name "int" p'] X.env = (false, eval (.Name "int" p') X.env) :: starEach [] X.env := by rfl)
    (hpl : (backTo pos (starEach [.Name "int" p'] X.env)).any (·.1) = false := by rfl) : DE G X (.Call (.Name "isinstance" p) [e, .Name "int" p'] [] pos) ρ (.dat (.bool (isIntB d))) ρ1 :=
  de_isi (T := "int") (by cases d <;> rfl) h1 ha (de_ty h2 (by decide +kernel) hg2) hg he he' hpl
theorem de_isBool (h1 : X.mg "isinstance" = none) (h2 : X.mg "bool" = none) (ha : DE G X e ρ (.dat d) ρ1) (hg : Gl X "isinstance" := by rfl) (hg2 : Gl X "bool" := by rfl) (he : starEach [e, .Name "bool" p'] X.env = (false, eval e X.env) :: starEach [.Name "bool" p'] X.env := by rfl) (he' : starEach [.Name "bool" p'] X.env = (false, eval (.Name "bool" p') X.env) :: starEach [] X.env := by rfl)
    (hpl : (backTo pos (starEach [.Name "bool" p'] X.env)).any (·.1) = false := by rfl) : DE G X (.Call (.Name "isinstance" p) [e, .Name "bool" p'] [] pos) ρ (.dat (.bool (isBoolB d))) ρ1 :=
  de_isi (T := "bool") (by cases d <;> rfl) h1 ha (de_ty h2 (by decide +kernel) hg2) hg he he' hpl
theorem de_isTup (h1 : X.mg "isinstance" = none) (h2 : X.mg "tuple" = none) (ha : DE G X e ρ (.dat d) ρ1) (hg : Gl X "isinstance" := by rfl) (hg2 : Gl X "tuple" := by rfl) (he : starEach [e, .Name "tuple" p'] X.env = (false, eval e X.env) :: starEach [.Name "tuple" p'] X.env := by rfl) (he' : starEach [.Name "tuple" p'] X.env = (false, eval (.Name "tuple" p') X.env) :: starEach [] X.env := by rfl)
    (hpl : (backTo pos (starEach [.Name "tuple" p'] X.env)).any (·.1) = false := by rfl) : DE G X (.Call (.Name "isinstance" p) [e, .Name "tuple" p'] [] pos) ρ (.dat (.bool (isTupB d))) ρ1 :=
  de_isi (T := "tuple") (by cases d <;> rfl) h1 ha (de_ty h2 (by decide +kernel) hg2) hg he he' hpl
theorem de_isStr (h1 : X.mg "isinstance" = none) (h2 : X.mg "str" = none) (ha : DE G X e ρ (.dat d) ρ1) (hg : Gl X "isinstance" := by rfl) (hg2 : Gl X "str" := by rfl) (he : starEach [e, .Name "str" p'] X.env = (false, eval e X.env) :: starEach [.Name "str" p'] X.env := by rfl) (he' : starEach [.Name "str" p'] X.env = (false, eval (.Name "str" p') X.env) :: starEach [] X.env := by rfl)
    (hpl : (backTo pos (starEach [.Name "str" p'] X.env)).any (·.1) = false := by rfl) : DE G X (.Call (.Name "isinstance" p) [e, .Name "str" p'] [] pos) ρ (.dat (.bool (isStrB d))) ρ1 :=
  de_isi (T := "str") (by cases d <;> rfl) h1 ha (de_ty h2 (by decide +kernel) hg2) hg he he' hpl

/-! ### enumerate, zip -/
def enumD (ds : List PyData) : List PyData := ds.zipIdx.map fun p => .tuple [nI p.2, p.1]
theorem enumD_length : (enumD ds).length = ds.length := by simp [enumD]
theorem enumD_get {i : Nat} : (enumD ds)[i]? = ds[i]?.map fun d => .tuple [nI i, d] := by
  unfold enumD
  rw [List.getElem?_map, List.getElem?_zipIdx]
  cases ds[i]? <;> simp
theorem it_enum {elts : List Expr} {kk : Nat} {tp : Pos} (hm : X.mg "enumerate" = none) (h : DE G X e ρ (.dat (.tuple ds)) ρ') (hg : Gl X "enumerate" := by rfl) (he : starEach [e] X.env = (false, eval e X.env) :: starEach [] X.env := by rfl) (hs : starEach [e] X.env = [(false, eval e X.env)] := by rfl) :
    IT G X (.Tuple elts kk tp) (.Call (.Name "enumerate" p) [e] [] pos) ρ (enumD ds) ρ' := fun B M τ σ H S R r =>
  toI (pi_enumT hg hm pA hs) (da_one h he B M τ σ H S _ fun vs M1 H1 hl S1 => by
    obtain ⟨v, rfl⟩ := one_of hl
    have S1 : Sem G X.K B M1 ((v, .dat (.tuple ds)) :: τ) σ ρ' H1 := S1
    have t := S1.headD
    cases t with
    | @tup a xs _ e1 t1 =>
      refine ⟨a, xs, rfl, .of (hid_sub _ _ _ _ e1), r _ (.ref a, .dat (.tuple ds)) M1 H1 rfl S1 fun B M τ σ ρ H i S => ?_⟩
      have t := S.headD
      cases t with
      | tup e2 t2 =>
        have hl := dpa_len t2
        have hT := SqT.of (K := X.K) (hid_sub _ _ _ _ e2)
        rw [enumD_length]
        refine ⟨fun h => ⟨_, hT, by omega⟩, fun h => ?_⟩
        obtain ⟨x, ex, hx⟩ := dpa_get (i := i) t2 (List.getElem?_eq_getElem h)
        refine ⟨⟨_, x, hT, ex⟩, fun y H' ⟨T, x', e3, e4, e5, f⟩ => ?_⟩
        subst e3 e5
        have := f _ hT
        rw [ex] at this
        cases this
        have np := S.notM e4
        refine ⟨.tuple [nI i, ds[i]], M, ?_, (S.new e4).push (.tup ?_ (.cons (.int _) (.cons (dp_mono (same_new e4) _ _ hx) .nil)))⟩
        · rw [enumD_get, List.getElem?_eq_getElem h]; rfl
        · rw [hid_out np, upd_same])
def zipD (ds es : List PyData) : List PyData := (ds.zip es).map fun p => .tuple [p.1, p.2]
theorem it_zip {elts : List Expr} {kk : Nat} {tp : Pos} (hm : X.mg "zip" = none) (h1 : DE G X e ρ (.dat (.tuple ds)) ρ1) (h2 : DE G X e' ρ1 (.dat (.tuple es)) ρ') (hlen : ds.length = es.length) (hg : Gl X "zip" := by rfl)
    (he : starEach [e, e'] X.env = (false, eval e X.env) :: starEach [e'] X.env := by rfl) (he' : starEach [e'] X.env = (false, eval e' X.env) :: starEach [] X.env := by rfl) (hpl : (backTo pos (starEach [e'] X.env)).any (·.1) = false := by rfl) :
    IT G X (.Tuple elts kk tp) (.Call (.Name "zip" p) [e, e'] [] pos) ρ (zipD ds es) ρ' := fun B M τ σ H S R r =>
  toI (RZ.pi_zipA hg hm pA he hpl) (da_cons h1 (da_one h2 he') he B M τ σ H S _ fun vs M1 H1 hl S1 => by
    obtain ⟨v, w, rfl⟩ := two_of hl
    have S1 : Sem G X.K B M1 ((w, .dat (.tuple es)) :: (v, .dat (.tuple ds)) :: τ) σ ρ' H1 := S1
    obtain ⟨t2, t1⟩ := S1.two
    cases t1 with
    | @tup a xs _ e1 t1 =>
      cases t2 with
      | @tup b ys _ e2 t2 =>
        have S2 : Sem G X.K B M1 ((.ref a, .both (.tuple ds) (.ref b) (.tuple es)) :: τ) σ ρ' H1 := by
          obtain ⟨f, ft, s1, tt, n1, o1, o2⟩ := S1.pop.pop.own
          exact ⟨⟨f, [] ++ ft, s1, .cons ⟨rfl, .tup e1 t1, .tup e2 t2⟩ tt (by simp), n1, o1, o2⟩, S1.keep, S1.sub, S1.old, S1.al, S1.tabs, S1.tm, S1.len⟩
        refine ⟨a, b, xs, ys, rfl, .inr ⟨.of (hid_sub _ _ _ _ e1), .of (hid_sub _ _ _ _ e2), r _ _ M1 H1 rfl S2 fun B M τ σ ρ H i S => ?_⟩⟩
        obtain ⟨fp, _, q1, q2⟩ := S.mem (v := .ref a) (av := .both (.tuple ds) (.ref b) (.tuple es)) (by simp)
        cases q1 with
        | tup e3 t3 =>
          cases q2 with
          | tup e4 t4 =>
            have l3 := dpa_len t3
            have l4 := dpa_len t4
            have T3 := SqT.of (K := X.K) (hid_sub _ _ _ _ e3)
            have T4 := SqT.of (K := X.K) (hid_sub _ _ _ _ e4)
            have hl : (zipD ds es).length = ds.length := by simp [zipD, hlen]
            rw [hl]
            refine ⟨fun h => ⟨_, _, T3, T4, .inl (by omega)⟩, fun h => ?_⟩
            obtain ⟨x, ex, hx⟩ := dpa_get (i := i) t3 (List.getElem?_eq_getElem h)
            obtain ⟨y, ey, hy⟩ := dpa_get (i := i) t4 (List.getElem?_eq_getElem (by omega))
            refine ⟨⟨_, _, x, y, T3, T4, ex, ey⟩, fun z H' ⟨T, x', y', e5, e6, e7, f1, f2⟩ => ?_⟩
            subst e5 e7
            have h1 := f1 _ T3
            have h2 := f2 _ T4
            rw [ex] at h1
            rw [ey] at h2
            cases h1
            cases h2
            have np := S.notM e6
            refine ⟨.tuple [ds[i], es[i]'(by omega)], M, ?_, (S.new e6).push (.tup ?_ (.cons (dp_mono (same_new e6) _ _ hx) (.cons (dp_mono (same_new e6) _ _ hy) .nil)))⟩
            · unfold zipD
              rw [List.getElem?_map, List.getElem?_eq_getElem (by simp; omega)]
              simp
            · rw [hid_out np, upd_same])

/-! ### ranges -/
theorem rgV_nat {n : Nat} : rgV 0 (n : Int) = (List.range n).map fun i => V.int (i : Nat) := by
  unfold rgV
  have e : ((n : Int) - 0).toNat = n := by omega
  rw [e]
  apply List.map_congr_left
  intro i _
  congr 1
  omega
theorem dpa_rng {H : Hp} {n : Nat} : DqAll H (rgV 0 (n : Int)) ((List.range n).map nI) := by
  rw [rgV_nat]
  exact dpa_map (fun i => .int _) _
theorem rgOk_nat {n : Nat} (hz : n ≤ 100000) : RgOk 0 (n : Int) := by
  refine ⟨by decide, by decide, by omega, ?_, ?_⟩
  · have : (100000 : Int) < 2 ^ 62 := by decide
    omega
  · have : (100000 : Nat) ≤ 2 ^ 24 := by decide
    omega
theorem de_listRg {n : Nat} {p1 p2 : Pos} (h1 : X.mg "list" = none) (h2 : X.mg "range" = none) (hz : n ≤ 100000) (h : DE G X e ρ (.dat (nI n)) ρ1) (hg1 : Gl X "list" := by rfl) (hg2 : Gl X "range" := by rfl) (hc : X.calm = true := by rfl) (na : starEach [e] X.env = (false, eval e X.env) :: starEach [] X.env := by rfl)
    (na2 : starEach [.Call (.Name "range" p2) [e] [] p1] X.env = (false, eval (.Call (.Name "range" p2) [e] [] p1) X.env) :: starEach [] X.env := by rfl) : DE G X (.Call (.Name "list" p) [.Call (.Name "range" p2) [e] [] p1] [] pos) ρ (.flat ((List.range n).map nI)) ρ1 := fun B M τ σ H S Q q =>
  toE (pe_listRg hc hg1 h1 (prg_1 hg2 h2 pE na) na2) (h B M τ σ H S _ fun v M1 H1 S1 => by
    have t := S1.headD
    cases t
    exact ⟨(n : Int), rfl, rgOk_nat hz, fun r hr => q _ _ _ (S1.pop.pushFlat hr dpa_rng)⟩)
theorem de_tupRg {n : Nat} {p1 p2 : Pos} (h1 : X.mg "tuple" = none) (h2 : X.mg "range" = none) (hz : n ≤ 100000) (h : DE G X e ρ (.dat (nI n)) ρ1) (hg1 : Gl X "tuple" := by rfl) (hg2 : Gl X "range" := by rfl) (hc : X.calm = true := by rfl) (na : starEach [e] X.env = (false, eval e X.env) :: starEach [] X.env := by rfl)
    (na2 : starEach [.Call (.Name "range" p2) [e] [] p1] X.env = (false, eval (.Call (.Name "range" p2) [e] [] p1) X.env) :: starEach [] X.env := by rfl) : DE G X (.Call (.Name "tuple" p) [.Call (.Name "range" p2) [e] [] p1] [] pos) ρ (.dat (tN (List.range n))) ρ1 := fun B M τ σ H S Q q =>
  toE (pe_tupRg hc hg1 h1 (prg_1 hg2 h2 pE na) na2) (h B M τ σ H S _ fun v M1 H1 S1 => by
    have t := S1.headD
    cases t
    refine ⟨(n : Int), rfl, rgOk_nat hz, fun r hr => ?_⟩
    have np := S1.notM hr
    refine q _ M1 _ ((S1.new hr).pop.push (.tup ?_ (dpa_mono (same_new hr) _ _ dpa_rng)))
    rw [hid_out np, upd_same])

/-! ### orders -/
theorem de_sortN {ns ms : List Nat} (hs : SQ ρ1 a1 (ns.map nI)) (hk : IsL a1) (hms : ms.Perm ns ∧ ms.Pairwise (· ≤ ·)) (hm : X.mg "sorted" = none) (ha : DE G X e ρ a1 ρ1) (hg : Gl X "sorted" := by rfl) (he : starEach [e] X.env = (false, eval e X.env) :: starEach [] X.env := by rfl) :
    DE G X (.Call (.Name "sorted" p) [e] [] pos) ρ (.flat (ms.map nI)) ρ1 := by
  rw [mapNI] at hs ⊢
  exact de_sortI hs hk ⟨hms.1.map _, List.pairwise_map.mpr (hms.2.imp fun h => Int.ofNat_le.mpr h)⟩ hm ha hg he
/-- sorted(xs, reverse=True) -/
theorem de_sortRev {ns ms : List Nat} {kp : Pos} {jj : Nat} (hs : SQ ρ1 a1 (ns.map nI)) (hk : IsL a1) (hms : ms.Perm ns ∧ ms.Pairwise (· ≥ ·)) (hm : X.mg "sorted" = none) (ha : DE G X e ρ a1 ρ1) (hg : Gl X "sorted" := by rfl) (he0 : starEach [e] X.env = (false, eval e X.env) :: starEach [] X.env := by rfl)
    (he : backTo pos (starEach [e] X.env) = (false, eval e X.env) :: backTo pos (starEach [] X.env) := by rfl) (hpl : (backTo pos (starEach [e] X.env)).any (·.1) = false := by rfl) :
    DE G X (.Call (.Name "sorted" p) [e] [⟨some "reverse", .Constant (.bool true) jj cp, kp⟩] pos) ρ (.flat (ms.map nI)) ρ1 := fun B M τ σ H S Q q =>
  toE (pe_callBK (cr_sortedRev (b := true)) hg hm (by decide +kernel) pA (pk_cons pe_bl pk_nil) (by decide) (by decide) he hpl rfl rfl rfl) (da_one ha he0 B M τ σ H S _ fun vs M1 H1 hl S1 => by
    obtain ⟨v, rfl⟩ := one_of hl
    have S1 : Sem G X.K B M1 ((v, a1) :: τ) σ ρ1 H1 := S1
    obtain ⟨a, xs, rfl, e1, t⟩ := hs.lst_at hk S1 (v := v) (by simp)
    have e2 := dpa_ints_of (mapNI ▸ t)
    subst e2
    refine ⟨a, _, rfl, rfl, .of e1, fun ns' pp h1 h2 hp => ?_⟩
    have h2 : ns'.Pairwise (· ≥ ·) := h2
    have e3 : ns' = ms.map Int.ofNat := (h1.trans (hms.1.map _).symm).eq_of_pairwise (fun a b _ _ h1 h2 => Int.le_antisymm h2 h1) h2 (List.pairwise_map.mpr (hms.2.imp fun h => Int.ofNat_le.mpr h))
    subst e3
    rw [mapNI] at q
    exact q _ _ _ (S1.pop.pushFlat hp (dpa_ints _)))
def pII (p : Int × Int) : PyData := .tuple [.int p.1, .int p.2]
abbrev lexLt (p q : Int × Int) : Prop := p.1 < q.1 ∨ (p.1 = q.1 ∧ p.2 < q.2)
/-- the ints of a pair -/
def pairAt (H : Hp) : V → Int × Int
  | .ref t => match H t with
    | some (.tup [.int a, .int b]) => (a, b)
    | _ => (0, 0)
  | _ => (0, 0)
theorem dq_pair {H : Hp} {v : V} {p : Int × Int} (h : Dq H v (pII p)) : ∃ t, v = .ref t ∧ H t = some (.tup [.int p.1, .int p.2]) := by
  cases h with
  | @tup a xs _ e t =>
    cases t with
    | cons h1 t =>
      cases t with
      | cons h2 t =>
        cases t
        cases h1; cases h2
        exact ⟨a, rfl, e⟩
theorem dpa_pairs {H : Hp} : ∀ {vs : List V} {ps : List (Int × Int)}, DqAll H vs (ps.map pII) → ∀ v ∈ vs, ∃ (t : Addr) (p : Int × Int), v = .ref t ∧ H t = some (.tup [.int p.1, .int p.2])
  | _, [], h, v, hv => by cases h; cases hv
  | _, p :: ps, .cons h t, v, hv => by
    rcases List.mem_cons.mp hv with rfl | hv
    · obtain ⟨t, e1, e2⟩ := dq_pair h
      exact ⟨t, p, e1, e2⟩
    · exact dpa_pairs t v hv
theorem pairAt_all {H H' : Hp} (sm : Same H H') : ∀ {vs : List V} {ps : List (Int × Int)}, DqAll H vs (ps.map pII) → vs.map (pairAt H') = ps
  | _, [], h => by cases h; rfl
  | _, p :: ps, .cons h t => by
    obtain ⟨a, rfl, e⟩ := dq_pair h
    rw [List.map_cons, pairAt_all sm t]
    congr 1
    show (match H' a with | some (.tup [.int a, .int b]) => (a, b) | _ => (0, 0)) = p
    rw [sm _ _ e]
theorem pairs_back {H H' : Hp} (sm : Same H H') : ∀ {vs : List V}, (∀ v ∈ vs, ∃ (t : Addr) (p : Int × Int), v = .ref t ∧ H t = some (.tup [.int p.1, .int p.2])) → DqAll H vs ((vs.map (pairAt H')).map pII)
  | [], _ => .nil
  | v :: vs, h => by
    obtain ⟨t, p, rfl, e⟩ := h v List.mem_cons_self
    refine .cons ?_ (pairs_back sm fun v hv => h v (List.mem_cons_of_mem _ hv))
    have e2 : pairAt H' (.ref t) = p := by
      show (match H' t with | some (.tup [.int a, .int b]) => (a, b) | _ => (0, 0)) = p
      rw [sm _ _ e]
    rw [e2]
    exact .tup e (.cons (.int _) (.cons (.int _) .nil))
theorem de_sortP {ps qs : List (Int × Int)} (hs : SQ ρ1 a1 (ps.map pII)) (hk : IsL a1) (hms : qs.Perm ps ∧ qs.Pairwise lexLt) (hm : X.mg "sorted" = none) (ha : DE G X e ρ a1 ρ1) (hg : Gl X "sorted" := by rfl) (he : starEach [e] X.env = (false, eval e X.env) :: starEach [] X.env := by rfl) :
    DE G X (.Call (.Name "sorted" p) [e] [] pos) ρ (.flat (qs.map pII)) ρ1 :=
  de_callB cr_sortedPO hg hm (by decide +kernel) (da_one ha he) (fun B M τ σ H vs hl S Q q => by
    obtain ⟨v, rfl⟩ := one_of hl
    have S : Sem G X.K B M ((v, a1) :: τ) σ ρ1 H := S
    obtain ⟨a, xs, rfl, e1, t⟩ := hs.lst_at hk S (v := v) (by simp)
    have all := dpa_pairs t
    refine ⟨a, xs, pairAt H, rfl, .of e1, fun x hx => ?_, fun ys pp h1 h2 hp => ?_⟩
    · obtain ⟨t, p, rfl, e⟩ := all x hx
      refine ⟨t, rfl, ?_⟩
      have e' := hid_sub M H _ _ e
      have e2 : pairAt H (.ref t) = p := by
        show (match H t with | some (.tup [.int a, .int b]) => (a, b) | _ => (0, 0)) = p
        rw [e']
      rw [e2]
      exact e'
    · have e3 : ys.map (pairAt H) = qs := by
        have p1 : (ys.map (pairAt H)).Perm qs := (h2.perm.map _).trans (by rw [pairAt_all (hid_sub M H) t]; exact hms.1.symm)
        refine p1.eq_of_pairwise (le := fun p q => ¬ lexLt q p) (fun a b _ _ h1 h2 => ?_) ?_ (hms.2.imp fun h => ?_)
        · simp only [lexLt] at h1 h2
          refine Prod.ext ?_ ?_ <;> omega
        · refine List.pairwise_map.mpr (h1.imp fun h => ?_)
          exact fun z => absurd ((SrtO.lexB_iff.mpr z).symm.trans h) (by simp)
        · simp only [lexLt] at h ⊢
          omega
      have t2 := pairs_back (hid_sub M H) fun v hv => all v (h2.perm.mem_iff.mp hv)
      rw [e3] at t2
      exact q _ _ _ (S.pop.pushFlat hp t2)) (he := he)
/-- t <= u of two pairs -/
theorem de_leP {p q : Int × Int} (hr : Room k X.A) (ha : DE G X e ρ (.dat (pII p)) ρ1) (hb : DE G X e' ρ1 (.dat (pII q)) ρ2) : DE G X (.Compare e [.LtE] [e'] pos) ρ (.dat (.bool (!decide (lexLt q p)))) ρ2 :=
  de_cmp (op_leT (Nat.lt_of_le_of_lt (Nat.le_add_right _ _) hr.units)) ha hb fun B M τ σ H v1 v2 S Q qq => by
    obtain ⟨t2, t1⟩ := S.two
    obtain ⟨a, rfl, e1⟩ := dq_pair t1
    obtain ⟨b, rfl, e2⟩ := dq_pair t2
    refine ⟨a, b, [p.1, p.2], [q.1, q.2], rfl, rfl, .of (hid_sub _ _ _ _ e1), .of (hid_sub _ _ _ _ e2), ?_⟩
    have e3 : Ob.lexAt (fun j => decide ([p.1, p.2].getD j 0 = [q.1, q.2].getD j 0)) (fun j => decide ([p.1, p.2].getD j 0 ≤ [q.1, q.2].getD j 0)) (decide ([p.1, p.2].length ≤ [q.1, q.2].length)) 0 (min [p.1, p.2].length [q.1, q.2].length) = !decide (lexLt q p) := by
      show (if decide (p.1 = q.1) = true then (if decide (p.2 = q.2) = true then true else decide (p.2 ≤ q.2)) else decide (p.1 ≤ q.1)) = _
      rw [Bool.eq_iff_iff]
      simp only [lexLt, decide_eq_true_eq, Bool.not_eq_true', decide_eq_false_iff_not]
      split
      · split <;> simp <;> omega
      · simp; omega
    rw [e3]
    exact qq _ M H (S.pop.pop.push (.bl _))
end
end TW
end
section
set_option Elab.async false
set_option linter.all false
set_option maxRecDepth 100000
set_option maxHeartbeats 2000000
/-! The layer, 13: comparisons as values and as tests, and/or by cases. -/
namespace TW
open PySem PySem.Spec PyProof.Rows L2
def tC (X : Cx) (op : CmpOp) (a b : Expr) : TE := fun σ H Q => ∀ pins s, Inv X pins σ H s →
  wpAny (model X.prog X.w) X.A (eval a X.env) (fun v s₁ => wpAny (model X.prog X.w) X.A (eval b X.env) (fun u s₂ => wpAny (model X.prog X.w) X.A (compareOp op v u) (EP X pins σ Q) X.xe s₂) X.xe s₁) X.xe s
section
variable {X : Cx} {op : CmpOp} {a b : Expr} {σ : L2.St} {H : Hp}
theorem pC : PC X op a b (tC X op a b) := ⟨fun pins s σ H Q I h => h pins s I⟩
theorem toC {t : TE} {Q : VK} (p : PC X op a b t) (h : t σ H Q) : tC X op a b σ H Q := fun pins s I => p.run pins s σ H Q I h
theorem pc_op {r : R2} {ta tb : TE} (ho : OpR X (compareOp op) r) (ha : PE X a ta) (hb : PE X b tb) : PC X op a b (tOp r ta tb) :=
  ⟨fun pins s σ H Q I h => binT ha hb I h fun v u s2 x y H2 I2 rx ry q => ho pins s2 σ H2 x y v u Q I2 rx ry q⟩
end
/-- a comparison's outcome -/
def CM (G : Glb) (X : Cx) (op : CmpOp) (a b : Expr) (ρ : Ev) (d : PyData) (ρ' : Ev) : Prop := EV G X.K (tC X op a b) ρ (.dat d) ρ'
section
variable {G : Glb} {K : PySem.W.Frag} {B : Bas} {M M' : List Addr} {τ : Tmp} {σ σ' : L2.St} {ρ ρ' ρ0 ρ1 ρ2 ρ3 ρ4 : Ev} {H H' : Hp} {v : V} {av a1 a2 a3 el : AV} {d d1 d2 : PyData} {ds es : List PyData}
variable {X : Cx} {e e' e'' tg iter : Expr} {pos p : Pos} {k : Nat} {b : Bool} {op : CmpOp}
theorem de_c (h : CM G X op e e' ρ d ρ1) (hm : behindInMarks op e' = false := by first | exact nobehind _ (by decide) (by decide) | rfl) : DE G X (.Compare e [op] [e'] pos) ρ (.dat d) ρ1 := .of (pe_cmp pC hm) h
theorem dt_c (h : CM G X op e e' ρ (.bool b) ρ1) (hm : behindInMarks op e' = false := by first | exact nobehind _ (by decide) (by decide) | rfl) : DT G X (.Compare e [op] [e'] pos) ρ b ρ1 := .of (pt_cmp pC hm) fun B M τ σ H S Q q => h B M τ σ H S _ fun v M1 H1 S1 => by
  have t := S1.headD
  cases t
  exact ⟨b, rfl, q M1 H1 S1.pop⟩
theorem cm_of {r : R2} (ho : OpR X (compareOp op) r) (ha : DE G X e ρ a1 ρ1) (hb : DE G X e' ρ1 a2 ρ2) (h : OP G X.K r ρ2 a1 a2 (.dat d) ρ3) : CM G X op e e' ρ d ρ3 :=
  fun B M τ σ H S Q q => toC (pc_op ho pE pE) (ha B M τ σ H S _ fun v1 M1 H1 S1 => hb B M1 _ σ H1 S1 _ fun v2 M2 H2 S2 => h B M2 τ σ H2 v1 v2 S2 Q q)
theorem CM.to (h : CM G X op e e' ρ d ρ1) (q : d = d') : CM G X op e e' ρ d' ρ1 := q ▸ h
section
variable {i j : Int}
theorem cm_lt (ha : DE G X e ρ (.dat (.int i)) ρ1) (hb : DE G X e' ρ1 (.dat (.int j)) ρ2) (q : decide (i < j) = b := by rfl) : CM G X .Lt e e' ρ (.bool b) ρ2 := (cm_of op_lt ha hb (op_i0 fun _ => .bl _)).to (by rw [q])
theorem cm_le (ha : DE G X e ρ (.dat (.int i)) ρ1) (hb : DE G X e' ρ1 (.dat (.int j)) ρ2) (q : decide (i ≤ j) = b := by rfl) : CM G X .LtE e e' ρ (.bool b) ρ2 := (cm_of op_le ha hb (op_i0 fun _ => .bl _)).to (by rw [q])
theorem cm_gt (ha : DE G X e ρ (.dat (.int i)) ρ1) (hb : DE G X e' ρ1 (.dat (.int j)) ρ2) (q : decide (j < i) = b := by rfl) : CM G X .Gt e e' ρ (.bool b) ρ2 := (cm_of op_gt ha hb (op_i0 fun _ => .bl _)).to (by rw [q])
theorem cm_ge (ha : DE G X e ρ (.dat (.int i)) ρ1) (hb : DE G X e' ρ1 (.dat (.int j)) ρ2) (q : decide (j ≤ i) = b := by rfl) : CM G X .GtE e e' ρ (.bool b) ρ2 := (cm_of op_ge ha hb (op_i0 fun _ => .bl _)).to (by rw [q])
theorem cm_eq (ha : DE G X e ρ (.dat (.int i)) ρ1) (hb : DE G X e' ρ1 (.dat (.int j)) ρ2) (q : decide (i = j) = b := by rfl) : CM G X .Eq e e' ρ (.bool b) ρ2 := (cm_of op_eq ha hb op_eqi).to (by rw [q])
theorem cm_ne (ha : DE G X e ρ (.dat (.int i)) ρ1) (hb : DE G X e' ρ1 (.dat (.int j)) ρ2) (q : (!decide (i = j)) = b := by rfl) : CM G X .NotEq e e' ρ (.bool b) ρ2 := (cm_of op_ne ha hb op_nei).to (by rw [q])
end
section
variable {i j : Nat}
theorem cn_lt (ha : DE G X e ρ (.dat (nI i)) ρ1) (hb : DE G X e' ρ1 (.dat (nI j)) ρ2) (q : decide (i < j) = b := by rfl) : CM G X .Lt e e' ρ (.bool b) ρ2 := cm_lt ha hb (by rw [← q]; simp)
theorem cn_le (ha : DE G X e ρ (.dat (nI i)) ρ1) (hb : DE G X e' ρ1 (.dat (nI j)) ρ2) (q : decide (i ≤ j) = b := by rfl) : CM G X .LtE e e' ρ (.bool b) ρ2 := cm_le ha hb (by rw [← q]; simp)
theorem cn_gt (ha : DE G X e ρ (.dat (nI i)) ρ1) (hb : DE G X e' ρ1 (.dat (nI j)) ρ2) (q : decide (j < i) = b := by rfl) : CM G X .Gt e e' ρ (.bool b) ρ2 := cm_gt ha hb (by rw [← q]; simp)
theorem cn_ge (ha : DE G X e ρ (.dat (nI i)) ρ1) (hb : DE G X e' ρ1 (.dat (nI j)) ρ2) (q : decide (j ≤ i) = b := by rfl) : CM G X .GtE e e' ρ (.bool b) ρ2 := cm_ge ha hb (by rw [← q]; simp)
theorem cn_eq (ha : DE G X e ρ (.dat (nI i)) ρ1) (hb : DE G X e' ρ1 (.dat (nI j)) ρ2) (q : decide (i = j) = b := by rfl) : CM G X .Eq e e' ρ (.bool b) ρ2 := cm_eq ha hb (by rw [← q]; simp [Int.ofNat_inj])
theorem cn_ne (ha : DE G X e ρ (.dat (nI i)) ρ1) (hb : DE G X e' ρ1 (.dat (nI j)) ρ2) (q : (!decide (i = j)) = b := by rfl) : CM G X .NotEq e e' ρ (.bool b) ρ2 := cm_ne ha hb (by rw [← q]; simp [Int.ofNat_inj])
theorem cn_in {ns : List Nat} (hs : SQ ρ2 a2 (ns.map nI)) (ha : DE G X e ρ (.dat (nI i)) ρ1) (hb : DE G X e' ρ1 a2 ρ2) (q : decide (i ∈ ns) = b := by rfl) : CM G X .In e e' ρ (.bool b) ρ2 :=
  (cm_of op_in_seq ha hb (op_in (neg := false) (mapNI ▸ hs))).to (by rw [← q, if_neg (by decide), decide_eq_decide.mpr memNI])
theorem cn_notin {ns : List Nat} (hs : SQ ρ2 a2 (ns.map nI)) (ha : DE G X e ρ (.dat (nI i)) ρ1) (hb : DE G X e' ρ1 a2 ρ2) (q : (!decide (i ∈ ns)) = b := by rfl) : CM G X .NotIn e e' ρ (.bool b) ρ2 :=
  (cm_of op_notIn_seq ha hb (op_in (neg := true) (mapNI ▸ hs))).to (by rw [← q, if_pos rfl, decide_eq_decide.mpr memNI])
end
theorem cm_neb {x y : Bool} (ha : DE G X e ρ (.dat (.bool x)) ρ1) (hb : DE G X e' ρ1 (.dat (.bool y)) ρ2) (q : (!decide (x = y)) = b := by rfl) : CM G X .NotEq e e' ρ (.bool b) ρ2 := (cm_of op_ne ha hb op_neb).to (by rw [q])
theorem cm_eqs {x y : Str} (ha : DE G X e ρ (.dat (.str x)) ρ1) (hb : DE G X e' ρ1 (.dat (.str y)) ρ2) (q : decide (x = y) = b := by rfl) : CM G X .Eq e e' ρ (.bool b) ρ2 := (cm_of op_eq ha hb op_eqs).to (by rw [q])
theorem cm_eqd (hr : Room k X.A) (h1 : Sh 8 d1) (h2 : Sh 8 d2) (ha : DE G X e ρ (.dat d1) ρ1) (hb : DE G X e' ρ1 (.dat d2) ρ2) (q : PyData.eqv d1 d2 = b := by rfl) : CM G X .Eq e e' ρ (.bool b) ρ2 := (cm_of (op_eqD hr.units) ha hb (op_eqd h1 h2)).to (by rw [q])
theorem cm_ned (hr : Room k X.A) (h1 : Sh 8 d1) (h2 : Sh 8 d2) (ha : DE G X e ρ (.dat d1) ρ1) (hb : DE G X e' ρ1 (.dat d2) ρ2) (q : (!PyData.eqv d1 d2) = b := by rfl) : CM G X .NotEq e e' ρ (.bool b) ρ2 := (cm_of (op_neD hr.units) ha hb (op_ned h1 h2)).to (by rw [q])
theorem sh_nil_t : Sh 8 (.tuple []) := fun d h => by simp at h
theorem sh_nil_l : Sh 8 (.list []) := fun d h => by simp at h
theorem cm_eqT0 (hr : Room k X.A) (h : Sh 8 (.tuple ds)) (ha : DE G X e ρ (.dat (.tuple ds)) ρ1) (hb : DE G X e' ρ1 (.dat (.tuple [])) ρ2) (q : ds.isEmpty = b := by rfl) : CM G X .Eq e e' ρ (.bool b) ρ2 := cm_eqd hr h sh_nil_t ha hb (by rw [eqv_nil_t, q])
theorem cm_neT0 (hr : Room k X.A) (h : Sh 8 (.tuple ds)) (ha : DE G X e ρ (.dat (.tuple ds)) ρ1) (hb : DE G X e' ρ1 (.dat (.tuple [])) ρ2) (q : (!ds.isEmpty) = b := by rfl) : CM G X .NotEq e e' ρ (.bool b) ρ2 := cm_ned hr h sh_nil_t ha hb (by rw [eqv_nil_t, q])
theorem cm_eqL0 (hr : Room k X.A) (h : Sh 8 (.list ds)) (ha : DE G X e ρ (.dat (.list ds)) ρ1) (hb : DE G X e' ρ1 (.dat (.list [])) ρ2) (q : ds.isEmpty = b := by rfl) : CM G X .Eq e e' ρ (.bool b) ρ2 := cm_eqd hr h sh_nil_l ha hb (by rw [eqv_nil_l, q])
theorem cm_neL0 (hr : Room k X.A) (h : Sh 8 (.list ds)) (ha : DE G X e ρ (.dat (.list ds)) ρ1) (hb : DE G X e' ρ1 (.dat (.list [])) ρ2) (q : (!ds.isEmpty) = b := by rfl) : CM G X .NotEq e e' ρ (.bool b) ρ2 := cm_ned hr h sh_nil_l ha hb (by rw [eqv_nil_l, q])
theorem cm_isN {j : Nat} (ha : DE G X e ρ (.dat d) ρ1) (q : isNo d = b := by rfl) : CM G X .Is e (.Constant .none j p) ρ (.bool b) ρ1 := fun B M τ σ H S Q qq => toC (pc_isN pE) (ha B M τ σ H S _ fun v M1 H1 S1 => by
  have t := S1.headD
  have e : decide (v = V.non) = isNo d := by cases t <;> rfl
  rw [e, q]
  exact qq _ M1 H1 (S1.pop.push (.bl _)))
theorem cm_notN {j : Nat} (ha : DE G X e ρ (.dat d) ρ1) (q : (!isNo d) = b := by rfl) : CM G X .IsNot e (.Constant .none j p) ρ (.bool b) ρ1 := fun B M τ σ H S Q qq => toC (pc_notN pE) (ha B M τ σ H S _ fun v M1 H1 S1 => by
  have t := S1.headD
  have e : (!decide (v = V.non)) = !isNo d := by cases t <;> rfl
  rw [e, q]
  exact qq _ M1 H1 (S1.pop.push (.bl _)))
theorem cm_leP {p q : Int × Int} (hr : Room k X.A) (ha : DE G X e ρ (.dat (pII p)) ρ1) (hb : DE G X e' ρ1 (.dat (pII q)) ρ2) (qq : (!decide (lexLt q p)) = b := by rfl) : CM G X .LtE e e' ρ (.bool b) ρ2 :=
  (cm_of (op_leT (Nat.lt_of_le_of_lt (Nat.le_add_right _ _) hr.units)) ha hb fun B M τ σ H v1 v2 S Q qq => by
    obtain ⟨t2, t1⟩ := S.two
    obtain ⟨a, rfl, e1⟩ := dq_pair t1
    obtain ⟨b, rfl, e2⟩ := dq_pair t2
    refine ⟨a, b, [p.1, p.2], [q.1, q.2], rfl, rfl, .of (hid_sub _ _ _ _ e1), .of (hid_sub _ _ _ _ e2), ?_⟩
    have e3 : Ob.lexAt (fun j => decide ([p.1, p.2].getD j 0 = [q.1, q.2].getD j 0)) (fun j => decide ([p.1, p.2].getD j 0 ≤ [q.1, q.2].getD j 0)) (decide ([p.1, p.2].length ≤ [q.1, q.2].length)) 0 (min [p.1, p.2].length [q.1, q.2].length) = !decide (lexLt q p) := by
      show (if decide (p.1 = q.1) = true then (if decide (p.2 = q.2) = true then true else decide (p.2 ≤ q.2)) else decide (p.1 ≤ q.1)) = _
      rw [Bool.eq_iff_iff]
      simp only [lexLt, decide_eq_true_eq, Bool.not_eq_true', decide_eq_false_iff_not]
      split
      · split <;> simp <;> omega
      · simp; omega
    rw [e3]
    exact qq _ M H (S.pop.pop.push (.bl _)) : CM G X .LtE e e' ρ (.bool (!decide (lexLt q p))) ρ2).to (by rw [qq])

/-! ### len with what comes out -/
theorem dlen {n : Nat} (hs : SQ ρ1 a1 ds) (hm : X.mg "len" = none) (ha : DE G X e ρ a1 ρ1) (q : ds.length = n := by first | rfl | simp) (hg : Gl X "len" := by rfl) (he : starEach [e] X.env = (false, eval e X.env) :: starEach [] X.env := by rfl) : DE G X (.Call (.Name "len" p) [e] [] pos) ρ (.dat (nI n)) ρ1 := (de_len hs hm ha hg he).to (by rw [q])
theorem lenT {n : Nat} (hm : X.mg "len" = none) (ha : DE G X e ρ (.dat (.tuple ds)) ρ1) (q : ds.length = n := by first | rfl | simp) (hg : Gl X "len" := by rfl) (he : starEach [e] X.env = (false, eval e X.env) :: starEach [] X.env := by rfl) : DE G X (.Call (.Name "len" p) [e] [] pos) ρ (.dat (nI n)) ρ1 := dlen .tup hm ha q hg he
theorem lenL {n : Nat} (hm : X.mg "len" = none) (ha : DE G X e ρ (.dat (.list ds)) ρ1) (q : ds.length = n := by first | rfl | simp) (hg : Gl X "len" := by rfl) (he : starEach [e] X.env = (false, eval e X.env) :: starEach [] X.env := by rfl) : DE G X (.Call (.Name "len" p) [e] [] pos) ρ (.dat (nI n)) ρ1 := dlen .lst hm ha q hg he
theorem lenF {n i : Nat} (hm : X.mg "len" = none) (ha : DE G X e ρ (.als i) ρ1) (hi : ρ1[i]? = some (some (.flat ds)) := by rfl) (q : ds.length = n := by first | rfl | simp) (hg : Gl X "len" := by rfl) (he : starEach [e] X.env = (false, eval e X.env) :: starEach [] X.env := by rfl) : DE G X (.Call (.Name "len" p) [e] [] pos) ρ (.dat (nI n)) ρ1 := dlen (.als hi) hm ha q hg he

/-- a constant place of a tuple -/
theorem dix {c kk : Nat} {cp : Pos} (ha : DE G X e ρ (.dat (.tuple ds)) ρ1) (h : ds[c]? = some d := by rfl) : DE G X (.Subscript e (.Constant (.int (c : Int)) kk cp) pos) ρ (.dat d) ρ1 := de_ixC h ha
/-! ### constants by value -/
theorem dn {kk : Nat} (i : Nat) : DE G X (.Constant (.int (i : Int)) kk pos) ρ (.dat (nI i)) ρ := de_int

/-! ### isinstance, with what comes out -/
theorem di_int {p' : Pos} (h1 : X.mg "isinstance" = none) (h2 : X.mg "int" = none) (ha : DE G X e ρ (.dat d) ρ1) (q : isIntB d = b := by rfl) (hg : Gl X "isinstance" := by rfl) (hg2 : Gl X "int" := by rfl) (he : starEach [e, .Name "int" p'] X.env = (false, eval e X.env) :: starEach [.Name "int" p'] X.env := by rfl) (he' : starEach [.Name "int" p'] X.env = (false, eval (.Name "int" p') X.env) :: starEach [] X.env := by rfl)
    (hpl : (backTo pos (starEach [.Name "int" p'] X.env)).any (·.1) = false := by rfl) : DE G X (.Call (.Name "isinstance" p) [e, .Name "int" p'] [] pos) ρ (.dat (.bool b)) ρ1 := (de_isInt h1 h2 ha hg hg2 he he' hpl).to (by rw [q])
theorem di_bool {p' : Pos} (h1 : X.mg "isinstance" = none) (h2 : X.mg "bool" = none) (ha : DE G X e ρ (.dat d) ρ1) (q : isBoolB d = b := by rfl) (hg : Gl X "isinstance" := by rfl) (hg2 : Gl X "bool" := by rfl) (he : starEach [e, .Name "bool" p'] X.env = (false, eval e X.env) :: starEach [.Name "bool" p'] X.env := by rfl) (he' : starEach [.Name "bool" p'] X.env = (false, eval (.Name "bool" p') X.env) :: starEach [] X.env := by rfl)
    (hpl : (backTo pos (starEach [.Name "bool" p'] X.env)).any (·.1) = false := by rfl) : DE G X (.Call (.Name "isinstance" p) [e, .Name "bool" p'] [] pos) ρ (.dat (.bool b)) ρ1 := (de_isBool h1 h2 ha hg hg2 he he' hpl).to (by rw [q])
theorem di_tup {p' : Pos} (h1 : X.mg "isinstance" = none) (h2 : X.mg "tuple" = none) (ha : DE G X e ρ (.dat d) ρ1) (q : isTupB d = b := by rfl) (hg : Gl X "isinstance" := by rfl) (hg2 : Gl X "tuple" := by rfl) (he : starEach [e, .Name "tuple" p'] X.env = (false, eval e X.env) :: starEach [.Name "tuple" p'] X.env := by rfl) (he' : starEach [.Name "tuple" p'] X.env = (false, eval (.Name "tuple" p') X.env) :: starEach [] X.env := by rfl)
    (hpl : (backTo pos (starEach [.Name "tuple" p'] X.env)).any (·.1) = false := by rfl) : DE G X (.Call (.Name "isinstance" p) [e, .Name "tuple" p'] [] pos) ρ (.dat (.bool b)) ρ1 := (de_isTup h1 h2 ha hg hg2 he he' hpl).to (by rw [q])
theorem di_str {p' : Pos} (h1 : X.mg "isinstance" = none) (h2 : X.mg "str" = none) (ha : DE G X e ρ (.dat d) ρ1) (q : isStrB d = b := by rfl) (hg : Gl X "isinstance" := by rfl) (hg2 : Gl X "str" := by rfl) (he : starEach [e, .Name "str" p'] X.env = (false, eval e X.env) :: starEach [.Name "str" p'] X.env := by rfl) (he' : starEach [.Name "str" p'] X.env = (false, eval (.Name "str" p') X.env) :: starEach [] X.env := by rfl)
    (hpl : (backTo pos (starEach [.Name "str" p'] X.env)).any (·.1) = false := by rfl) : DE G X (.Call (.Name "isinstance" p) [e, .Name "str" p'] [] pos) ρ (.dat (.bool b)) ρ1 := (de_isStr h1 h2 ha hg hg2 he he' hpl).to (by rw [q])

/-! ### and, or, by cases -/
section
variable {rest : List Expr} {c : Bool}
theorem andT (ha : DE G X e ρ (.dat (.bool true)) ρ1) (hb : DE G X (.BoolOp .And (e' :: rest) pos) ρ1 (.dat (.bool b)) ρ2) : DE G X (.BoolOp .And (e :: e' :: rest) pos) ρ (.dat (.bool b)) ρ2 := (de_and ha (fun _ => hb) nofun).to (by simp)
theorem andF (ha : DE G X e ρ (.dat (.bool false)) ρ1) : DE G X (.BoolOp .And (e :: e' :: rest) pos) ρ (.dat (.bool false)) ρ1 := (de_and (b := true) ha nofun (fun _ => rfl)).to rfl
theorem orF (ha : DE G X e ρ (.dat (.bool false)) ρ1) (hb : DE G X (.BoolOp .Or (e' :: rest) pos) ρ1 (.dat (.bool b)) ρ2) : DE G X (.BoolOp .Or (e :: e' :: rest) pos) ρ (.dat (.bool b)) ρ2 := (de_or ha (fun _ => hb) nofun).to (by simp)
theorem orT (ha : DE G X e ρ (.dat (.bool true)) ρ1) : DE G X (.BoolOp .Or (e :: e' :: rest) pos) ρ (.dat (.bool true)) ρ1 := (de_or (b := true) ha nofun (fun _ => rfl)).to rfl
/-- nothing taken -/
theorem and2 {a : Bool} (ha : DE G X e ρ (.dat (.bool a)) ρ) (hb : a = true → DE G X (.BoolOp .And (e' :: rest) pos) ρ (.dat (.bool b)) ρ) (q : (a && b) = c := by rfl) : DE G X (.BoolOp .And (e :: e' :: rest) pos) ρ (.dat (.bool c)) ρ := (de_and ha hb (fun _ => rfl)).to (by rw [q])
theorem or2 {a : Bool} (ha : DE G X e ρ (.dat (.bool a)) ρ) (hb : a = false → DE G X (.BoolOp .Or (e' :: rest) pos) ρ (.dat (.bool b)) ρ) (q : (a || b) = c := by rfl) : DE G X (.BoolOp .Or (e :: e' :: rest) pos) ρ (.dat (.bool c)) ρ := (de_or ha hb (fun _ => rfl)).to (by rw [q])
theorem dnot (ha : DE G X e ρ (.dat (.bool c)) ρ1) (q : (!c) = b := by rfl) : DE G X (.UnaryOp .Not e pos) ρ (.dat (.bool b)) ρ1 := (de_not ha).to (by rw [q])
theorem tnot (ha : DT G X e ρ c ρ1) (q : (!c) = b := by rfl) : DT G X (.UnaryOp .Not e pos) ρ b ρ1 := (dt_not ha).to q
theorem tandT (ha : DT G X e ρ true ρ1) (hb : DW G X (.BoolOp .And (e' :: rest) pos) ρ1 b ρ2) : DW G X (.BoolOp .And (e :: e' :: rest) pos) ρ b ρ2 := by
  have h := dw_and ha (fun _ => hb) nofun
  simpa using h
theorem tandF (ha : DT G X e ρ false ρ1) : DW G X (.BoolOp .And (e :: e' :: rest) pos) ρ false ρ1 := dw_and (b := true) ha nofun (fun _ => rfl)
theorem torF (ha : DT G X e ρ false ρ1) (hb : DW G X (.BoolOp .Or (e' :: rest) pos) ρ1 b ρ2) : DW G X (.BoolOp .Or (e :: e' :: rest) pos) ρ b ρ2 := by
  have h := dw_or ha (fun _ => hb) nofun
  simpa using h
theorem torT (ha : DT G X e ρ true ρ1) : DW G X (.BoolOp .Or (e :: e' :: rest) pos) ρ true ρ1 := dw_or (b := true) ha nofun (fun _ => rfl)
theorem tand2 {a : Bool} (ha : DT G X e ρ a ρ) (hb : a = true → DW G X (.BoolOp .And (e' :: rest) pos) ρ b ρ) (q : (a && b) = c := by rfl) : DW G X (.BoolOp .And (e :: e' :: rest) pos) ρ c ρ := q ▸ dw_and ha hb (fun _ => rfl)
theorem tor2 {a : Bool} (ha : DT G X e ρ a ρ) (hb : a = false → DW G X (.BoolOp .Or (e' :: rest) pos) ρ b ρ) (q : (a || b) = c := by rfl) : DW G X (.BoolOp .Or (e :: e' :: rest) pos) ρ c ρ := q ▸ dw_or ha hb (fun _ => rfl)
end
/-- lo <= x <= hi -/
theorem de_in2 {i j l : Int} (ha : DE G X e ρ (.dat (.int i)) ρ1) (hb : DE G X e' ρ1 (.dat (.int j)) ρ2) (hc : DE G X e'' ρ2 (.dat (.int l)) ρ2) (q : (decide (i ≤ j) && decide (j ≤ l)) = b := by rfl) (hm : lastMarks [.LtE, .LtE] [e', e''] = false := by with_unfolding_all rfl) : DE G X (.Compare e [.LtE, .LtE] [e', e''] pos) ρ (.dat (.bool b)) ρ2 := (de_chain ha hb hc hm).to (by rw [q])
end
end TW
end
section
set_option Elab.async false
set_option linter.all false
set_option maxRecDepth 100000
set_option maxHeartbeats 2000000
/-! The layer, 14: unpacking, loops with a state by the turn. -/
namespace TW
open PySem PySem.Spec PyProof.Rows L2
theorem Weak.keepE {ρ ρ' : Ev} {x y : Option AV} (e : x = y) (h : Weak ρ ρ') : Weak (x :: ρ) (y :: ρ') := e ▸ h.keep
section
variable {G : Glb} {K : PySem.W.Frag} {ρ ρ' ρ0 ρ1 ρ2 ρ3 ρ4 : Ev} {v : V} {av a1 a2 a3 el : AV} {d d1 d2 d3 d4 : PyData} {ds es : List PyData}
variable {X : Cx} {e e' e'' tg iter : Expr} {pos p px py pz pw : Pos} {k kt : Nat} {b : Bool} {Φ : Out → Prop} {x y z u : Str} {body : List Stmt} {js : List Nat}
theorem gtn (i : Nat) (hN : X.N.Nodup) (na : av.isAls = false := by rfl) (hi : X.N[i]? = some x := by rfl) (hx : Loc X.env.scope x := by first | exact .inl rfl | exact .inr rfl) (hf : X.fn x = true ∨ X.env.scope.names.lookup x = some .local := by first | exact .inl rfl | exact .inr rfl | assumption) :
    GT G X (.Name x pos) ρ av (ρ.set i (some av)) [i] := gt_name na hN hi hx hf
theorem gtu2 (i j : Nat) (hN : X.N.Nodup) (hi : X.N[i]? = some x := by rfl) (hj : X.N[j]? = some y := by rfl) (hx : Loc X.env.scope x ∧ Loc X.env.scope y := by exact ⟨by first | exact .inl rfl | exact .inr rfl, by first | exact .inl rfl | exact .inr rfl⟩)
    (hf : (X.fn x = true ∨ X.env.scope.names.lookup x = some .local) ∧ (X.fn y = true ∨ X.env.scope.names.lookup y = some .local) := by exact ⟨by first | exact .inl rfl | exact .inr rfl, by first | exact .inl rfl | exact .inr rfl⟩) (hc : X.calm = true := by rfl)
    (hn : (assignEach [.Name x px, .Name y py] X.env).length = 2 := by rfl) (hst : (assignEach [.Name x px, .Name y py] X.env).findIdx? (·.1) = none := by rfl)
    (h1 : (assignEach [.Name x px, .Name y py] X.env).map (·.2) = assign (.Name x px) X.env :: (assignEach [.Name y py] X.env).map (·.2) := by rfl) (h2 : (assignEach [.Name y py] X.env).map (·.2) = assign (.Name y py) X.env :: (assignEach [] X.env).map (·.2) := by rfl) :
    GT G X (.Tuple [.Name x px, .Name y py] kt pos) ρ (.dat (.tuple [d1, d2])) ((ρ.set i (some (.dat d1))).set j (some (.dat d2))) [i, j] :=
  gt_tup (gts_cons (gt_name rfl hN hi hx.1 hf.1) (gts_cons (gt_name rfl hN hj hx.2 hf.2) gts_nil h2) h1) hc hn hst
theorem gtu3 (i j l : Nat) (hN : X.N.Nodup) (hi : X.N[i]? = some x := by rfl) (hj : X.N[j]? = some y := by rfl) (hl : X.N[l]? = some z := by rfl)
    (hx : Loc X.env.scope x ∧ (X.fn x = true ∨ X.env.scope.names.lookup x = some .local) := by first | exact ⟨.inl rfl, .inr rfl⟩ | exact ⟨.inr rfl, .inl rfl⟩) (hy : Loc X.env.scope y ∧ (X.fn y = true ∨ X.env.scope.names.lookup y = some .local) := by first | exact ⟨.inl rfl, .inr rfl⟩ | exact ⟨.inr rfl, .inl rfl⟩) (hz : Loc X.env.scope z ∧ (X.fn z = true ∨ X.env.scope.names.lookup z = some .local) := by first | exact ⟨.inl rfl, .inr rfl⟩ | exact ⟨.inr rfl, .inl rfl⟩) (hc : X.calm = true := by rfl)
    (hn : (assignEach [.Name x px, .Name y py, .Name z pz] X.env).length = 3 := by rfl) (hst : (assignEach [.Name x px, .Name y py, .Name z pz] X.env).findIdx? (·.1) = none := by rfl)
    (h1 : (assignEach [.Name x px, .Name y py, .Name z pz] X.env).map (·.2) = assign (.Name x px) X.env :: (assignEach [.Name y py, .Name z pz] X.env).map (·.2) := by rfl)
    (h2 : (assignEach [.Name y py, .Name z pz] X.env).map (·.2) = assign (.Name y py) X.env :: (assignEach [.Name z pz] X.env).map (·.2) := by rfl) (h3 : (assignEach [.Name z pz] X.env).map (·.2) = assign (.Name z pz) X.env :: (assignEach [] X.env).map (·.2) := by rfl) :
    GT G X (.Tuple [.Name x px, .Name y py, .Name z pz] kt pos) ρ (.dat (.tuple [d1, d2, d3])) (((ρ.set i (some (.dat d1))).set j (some (.dat d2))).set l (some (.dat d3))) [i, j, l] :=
  gt_tup (gts_cons (gt_name rfl hN hi hx.1 hx.2) (gts_cons (gt_name rfl hN hj hy.1 hy.2) (gts_cons (gt_name rfl hN hl hz.1 hz.2) gts_nil h3) h2) h1) hc hn hst
theorem gtu4 (i j l m : Nat) (hN : X.N.Nodup) (hi : X.N[i]? = some x := by rfl) (hj : X.N[j]? = some y := by rfl) (hl : X.N[l]? = some z := by rfl) (hm : X.N[m]? = some u := by rfl)
    (hx : Loc X.env.scope x ∧ (X.fn x = true ∨ X.env.scope.names.lookup x = some .local) := by first | exact ⟨.inl rfl, .inr rfl⟩ | exact ⟨.inr rfl, .inl rfl⟩) (hy : Loc X.env.scope y ∧ (X.fn y = true ∨ X.env.scope.names.lookup y = some .local) := by first | exact ⟨.inl rfl, .inr rfl⟩ | exact ⟨.inr rfl, .inl rfl⟩) (hz : Loc X.env.scope z ∧ (X.fn z = true ∨ X.env.scope.names.lookup z = some .local) := by first | exact ⟨.inl rfl, .inr rfl⟩ | exact ⟨.inr rfl, .inl rfl⟩) (hu : Loc X.env.scope u ∧ (X.fn u = true ∨ X.env.scope.names.lookup u = some .local) := by first | exact ⟨.inl rfl, .inr rfl⟩ | exact ⟨.inr rfl, .inl rfl⟩) (hc : X.calm = true := by rfl)
    (hn : (assignEach [.Name x px, .Name y py, .Name z pz, .Name u pw] X.env).length = 4 := by rfl) (hst : (assignEach [.Name x px, .Name y py, .Name z pz, .Name u pw] X.env).findIdx? (·.1) = none := by rfl)
    (h1 : (assignEach [.Name x px, .Name y py, .Name z pz, .Name u pw] X.env).map (·.2) = assign (.Name x px) X.env :: (assignEach [.Name y py, .Name z pz, .Name u pw] X.env).map (·.2) := by rfl)
    (h2 : (assignEach [.Name y py, .Name z pz, .Name u pw] X.env).map (·.2) = assign (.Name y py) X.env :: (assignEach [.Name z pz, .Name u pw] X.env).map (·.2) := by rfl) (h3 : (assignEach [.Name z pz, .Name u pw] X.env).map (·.2) = assign (.Name z pz) X.env :: (assignEach [.Name u pw] X.env).map (·.2) := by rfl)
    (h4 : (assignEach [.Name u pw] X.env).map (·.2) = assign (.Name u pw) X.env :: (assignEach [] X.env).map (·.2) := by rfl) :
    GT G X (.Tuple [.Name x px, .Name y py, .Name z pz, .Name u pw] kt pos) ρ (.dat (.tuple [d1, d2, d3, d4])) ((((ρ.set i (some (.dat d1))).set j (some (.dat d2))).set l (some (.dat d3))).set m (some (.dat d4))) [i, j, l, m] :=
  gt_tup (gts_cons (gt_name rfl hN hi hx.1 hx.2) (gts_cons (gt_name rfl hN hj hy.1 hy.2) (gts_cons (gt_name rfl hN hl hz.1 hz.2) (gts_cons (gt_name rfl hN hm hu.1 hu.2) gts_nil h4) h3) h2) h1) hc hn hst
/-- a list of two -/
theorem gtl2 (i j : Nat) (hN : X.N.Nodup) (hi : X.N[i]? = some x := by rfl) (hj : X.N[j]? = some y := by rfl) (hx : X.env.scope.names.lookup x = some .local := by rfl) (hy : X.env.scope.names.lookup y = some .local := by rfl) (hc : X.calm = true := by rfl)
    (hn : (assignEach [.Name x px, .Name y py] X.env).length = 2 := by rfl) (hst : (assignEach [.Name x px, .Name y py] X.env).findIdx? (·.1) = none := by rfl)
    (h1 : (assignEach [.Name x px, .Name y py] X.env).map (·.2) = assign (.Name x px) X.env :: (assignEach [.Name y py] X.env).map (·.2) := by rfl) (h2 : (assignEach [.Name y py] X.env).map (·.2) = assign (.Name y py) X.env :: (assignEach [] X.env).map (·.2) := by rfl) :
    GT G X (.Tuple [.Name x px, .Name y py] kt pos) ρ (.dat (.list [d1, d2])) ((ρ.set i (some (.dat d1))).set j (some (.dat d2))) [i, j] :=
  gt_unl (gts_cons (gt_name rfl hN hi (.inl hx) (.inr hx)) (gts_cons (gt_name rfl hN hj (.inl hy) (.inr hy)) gts_nil h2) h1) hc hn hst
/-- x = e -/
theorem wset (i : Nat) (hN : X.N.Nodup) (he : DE G X e ρ av ρ1) (q : Φ (.nx (ρ1.set i (some av)))) (na : av.isAls = false := by rfl) (hi : X.N[i]? = some x := by rfl) (hx : Loc X.env.scope x := by first | exact .inl rfl | exact .inr rfl) (hf : X.fn x = true ∨ X.env.scope.names.lookup x = some .local := by first | exact .inl rfl | exact .inr rfl | assumption)
    (hs : swapsWithSole [.Name x p] e pos.line X.env = pure false := by rfl) (hw : swappedStores [.Name x p] e X.env = pure none := by rfl) (h1 : (assignEach [.Name x p] X.env).map (·.2) = [assign (.Name x p) X.env] := by rfl) :
    WS G X (.Assign [.Name x p] e pos) ρ Φ := ws_set na hN he q hi hx hf hs hw h1

/-- for: P tells the state by the turn -/
theorem wfor (hi : IT G X tg iter ρ ds ρ1) (P : Nat → Ev) (h0 : Weak ρ1 (P 0)) (hs : ∀ (i : Nat) (d : PyData), ds[i]? = some d → ∃ ρ3 js, GT G X tg (P i) (.dat d) ρ3 js ∧ WSs G X body ρ3 (turnO (fun ρ4 => Weak ρ4 (P (i + 1))) Φ)) (hd : Φ (.nx (P ds.length)))
    (hp : PassesOwn (model X.prog X.w) X.A X.env X.xe := by exact PassesOwn.never) (hc : X.calm = true := by rfl) (hf : ∀ x, foldedSetIterable iter X.env x = pure x := by intro _; rfl) : WS G X (.For tg iter body [] pos) ρ Φ :=
  fun B M τ σ H dd S D k1 k2 k3 k4 => by
    refine toS (ps_for hp hc pI pG pSs hf) (hi B M τ σ H S _ fun J kp M1 H1 nk S1 Y => ?_)
    have dk : Dats (kp :: τ) := fun x hx => by
      rcases List.mem_cons.mp hx with rfl | hx
      · exact nk
      · exact dd x hx
    refine ⟨fun i m σ' H' => m = ds.length - i ∧ i ≤ ds.length ∧ ∃ M2, Sem G X.K B M2 (kp :: τ) σ' (P i) H', ⟨ds.length, by simp, Nat.zero_le _, M1, S1.weak h0⟩, ?_⟩
    rintro i m σ' H' ⟨rfl, hle, M2, S2⟩
    obtain ⟨ystop, ygo⟩ := Y B M2 τ σ' (P i) H' i S2
    by_cases hlt : i < ds.length
    · obtain ⟨go, yl⟩ := ygo hlt
      refine .inr ⟨go, fun σ'' H'' => ∃ M5, Sem G X.K B M5 (kp :: τ) σ'' (P (i + 1)) H'', fun σ'' H'' ⟨M5, q2⟩ => ⟨ds.length - (i + 1), by omega, rfl, by omega, M5, q2⟩, fun x H3 hy => ?_⟩
      obtain ⟨d, M3, ed, S3⟩ := yl x H3 hy
      obtain ⟨ρ3, js, hg, hb⟩ := hs i d ed
      refine hg B M3 _ σ' H3 x dk S3 _ fun M4 σ4 H4 S4 _ => ?_
      refine hb B M4 (kp :: τ) σ4 H4 dk S4 _ (fun ρ' M' σ' H' w S' => ⟨M', S'.weak w⟩) (fun av ρ' v M' σ' H' q S' => k2 _ _ _ _ _ _ q S'.pop2) (fun ρ' M' σ' H' q S' => k1 _ _ _ _ q S'.pop) (fun ρ' M' σ' H' w S' => ⟨M', S'.weak w⟩)
    · have e : i = ds.length := by omega
      subst e
      exact .inl ⟨ystop (Nat.le_refl _), k1 _ _ _ _ hd S2.pop⟩
/-- x if c else y -/
theorem dif {c : Bool} (hc : DT G X e'' ρ c ρ1) (h1 : c = true → DE G X e ρ1 (.dat d1) ρ2) (h2 : c = false → DE G X e' ρ1 (.dat d2) ρ2) : DE G X (.IfExp e'' e e' pos) ρ (.dat (if c then d1 else d2)) ρ2 :=
  de_if hc (fun h => by rw [h]; exact h1 h) (fun h => by rw [h]; exact h2 h)
theorem difT (hc : DT G X e'' ρ true ρ1) (h1 : DE G X e ρ1 av ρ2) : DE G X (.IfExp e'' e e' pos) ρ av ρ2 := de_if hc (fun _ => h1) nofun
theorem difF (hc : DT G X e'' ρ false ρ1) (h1 : DE G X e' ρ1 av ρ2) : DE G X (.IfExp e'' e e' pos) ρ av ρ2 := de_if hc nofun (fun _ => h1)
theorem cm_in {i : Int} {ns : List Int} (hs : SQ ρ2 a2 (ns.map PyData.int)) (ha : DE G X e ρ (.dat (.int i)) ρ1) (hb : DE G X e' ρ1 a2 ρ2) (q : decide (i ∈ ns) = b := by rfl) : CM G X .In e e' ρ (.bool b) ρ2 :=
  (cm_of op_in_seq ha hb (op_in (neg := false) hs)).to (by rw [← q, if_neg (by decide)])
theorem difI {c : Bool} {i j : Int} (hc : DT G X e'' ρ c ρ1) (h1 : c = true → DE G X e ρ1 (.dat (.int i)) ρ2) (h2 : c = false → DE G X e' ρ1 (.dat (.int j)) ρ2) : DE G X (.IfExp e'' e e' pos) ρ (.dat (.int (if c then i else j))) ρ2 :=
  de_if hc (fun h => by rw [h]; exact h1 h) (fun h => by rw [h]; exact h2 h)
theorem difN {c : Bool} {i j : Nat} (hc : DT G X e'' ρ c ρ1) (h1 : c = true → DE G X e ρ1 (.dat (nI i)) ρ2) (h2 : c = false → DE G X e' ρ1 (.dat (nI j)) ρ2) : DE G X (.IfExp e'' e e' pos) ρ (.dat (nI (if c then i else j))) ρ2 :=
  de_if hc (fun h => by rw [h]; exact h1 h) (fun h => by rw [h]; exact h2 h)
theorem ixN_nat {m n : Nat} (h : n < m) : ixN m (n : Int) = some n := by
  unfold ixN
  rw [if_pos (by omega), if_pos (by omega)]
  simp
/-- found[n] = data -/
theorem gsub {j n : Nat} (ho : DE G X e ρ (.als j) ρ1) (hi : DE G X e' ρ1 (.dat (nI n)) ρ2) (hr : ρ2[j]? = some (some (.flat ds)) := by rfl) (hn : n < ds.length := by simp; omega)
    (ha : ∀ v, assign (.Subscript e e' pos) X.env v = (do
      let ov ← holding [v] (eval e X.env)
      let iv ← holding [v, ov] (eval e' X.env)
      standAt pos
      holding [v, ov, iv] (setItem ov iv v)
      release [v, ov, iv] []) := by intro _; rfl) : GT G X (.Subscript e e' pos) ρ (.dat d) (ρ2.set j (some (.flat (ds.set n d)))) [] := gt_sub ho hi hr (ixN_nat hn) ha
end
end TW
end
section
set_option Elab.async false
set_option linter.all false
set_option maxRecDepth 100000
set_option maxHeartbeats 2000000
/-! The layer, 15: dicts. -/
namespace TW
open PySem PySem.Spec PyProof.Rows L2
section
variable {κ : Type} [DecidableEq κ]
def valP (kvs : List (κ × PyData)) (k : κ) : Option PyData := (kvs.find? fun kv => decide (kv.1 = k)).map (·.2)
abbrev PD (H : Hp) : List (κ × V) → List (κ × PyData) → Prop := Paired fun p q => p.1 = q.1 ∧ Dq H p.2 q.2
theorem pd_val {H : Hp} {vk : List (κ × V)} {kvs : List (κ × PyData)} (r : PD H vk kvs) (k : κ) : (valV vk k = none ∧ valP kvs k = none) ∨ ∃ v d, valV vk k = some v ∧ valP kvs k = some d ∧ Dq H v d := by
  induction r with
  | nil => exact .inl ⟨rfl, rfl⟩
  | @cons p q ps qs h t ih =>
    obtain ⟨h1, h2⟩ := h
    by_cases e : p.1 = k
    · have e' : q.1 = k := h1.symm.trans e
      exact .inr ⟨p.2, q.2, by simp [valV, List.find?_cons, e], by simp [valP, List.find?_cons, e'], h2⟩
    · have e' : ¬ q.1 = k := fun z => e (h1.trans z)
      have a : valV (p :: ps) k = valV ps k := by simp [valV, List.find?_cons, e]
      have b : valP (q :: qs) k = valP qs k := by simp [valP, List.find?_cons, e']
      rw [a, b]
      exact ih
theorem pd_put {H : Hp} {vk : List (κ × V)} {kvs : List (κ × PyData)} {k : κ} {v : V} {d : PyData} (r : PD H vk kvs) (hn : valV vk k = none) (h : Dq H v d) : PD H (putK vk k v) (kvs ++ [(k, d)]) := by
  have e : (vk.any fun kv => decide (kv.1 = k)) = false := by
    rw [List.any_eq_false]
    intro x hx
    have h1 : vk.find? (fun kv => decide (kv.1 = k)) = none := by simpa [valV] using hn
    simpa using List.find?_eq_none.mp h1 x hx
  unfold putK
  rw [e, if_neg Bool.false_ne_true]
  exact paired_snoc r ⟨rfl, h⟩
end
section
variable {G : Glb} {K : PySem.W.Frag} {B : Bas} {M M' : List Addr} {τ : Tmp} {σ σ' : L2.St} {ρ ρ' ρ0 ρ1 ρ2 ρ3 ρ4 : Ev} {H H' : Hp} {v : V} {av a1 a2 a3 el : AV} {d d1 d2 d3 : PyData} {ds es : List PyData}
variable {X : Cx} {e e' e'' kx vx : Expr} {pos p pos' apos cpos : Pos} {k kt : Nat} {b : Bool} {Φ : Out → Prop}
/-- the key of a pair of ints -/
abbrev key2 (i j : Int) : List Key := [.inl i, .inl j]
theorem dq_key2 {i j : Int} (h : Dq H v (pII (i, j))) : ∃ t, v = .ref t ∧ H t = some (.tup ((key2 i j).map kV)) := dq_pair h
theorem Sem.slotT {i : Nat} {kvs : List (List Key × PyData)} (S : Sem G K B M τ σ ρ H) (h : ρ[i]? = some (some (.dic kvs))) : ∃ l vk, σ[i]? = some (some (.ref l)) ∧ H l = some (.dT vk) ∧ PD (hid M H) vk kvs ∧ l ∈ M := by
  obtain ⟨f, ft, s1, t1, n1, o1, o2⟩ := S.own
  obtain ⟨_, v, e, l, vk, rfl, ef, _, e1, e2⟩ := s1.at_ i _ h
  exact ⟨l, vk, e, e1, e2, (o1 i l (by rw [ef]; simp)).1⟩
theorem Sem.slotK {i : Nat} {kvs : List (Key × PyData)} (S : Sem G K B M τ σ ρ H) (h : ρ[i]? = some (some (.dik kvs))) : ∃ l vk, σ[i]? = some (some (.ref l)) ∧ H l = some (.dK vk) ∧ PD (hid M H) vk kvs := by
  obtain ⟨f, ft, s1, t1, n1, o1, o2⟩ := S.own
  obtain ⟨_, v, e, l, vk, rfl, ef, _, e1, e2⟩ := s1.at_ i _ h
  exact ⟨l, vk, e, e1, e2⟩
/-- a dict in a slot is changed -/
theorem Sem.mutT {i : Nat} {kvs : List (List Key × PyData)} (S : Sem G K B M τ σ ρ H) (h : ρ[i]? = some (some (.dic kvs))) : ∃ l vk, σ[i]? = some (some (.ref l)) ∧ H l = some (.dT vk) ∧ PD (hid M H) vk kvs ∧ ∀ vk' kvs', PD (hid M H) vk' kvs' → Sem G K B M τ σ (ρ.set i (some (.dic kvs'))) (upd H l (.dT vk')) := by
  obtain ⟨v, e, S1⟩ := S.takeV h
  have S1' := S1
  obtain ⟨f, ft, s1, t1, n1, o1, o2⟩ := S1'.own
  cases t1 with
  | @cons _ _ fp fs _ hh t n =>
    obtain ⟨l, vk, rfl, rfl, hl, e1, e2⟩ := hh
    have hm := (o2 l (by simp)).1
    refine ⟨l, vk, e, e1, e2, fun vk' kvs' q => ?_⟩
    have S2 := S1.mutHead (o := .dT vk') (av' := .dic kvs') (by rw [e1]; simp) hm fun fp hh => by
      obtain ⟨l2, vk2, e, rfl, hl, e3, q2⟩ := hh
      cases e
      refine ⟨by simp, l, vk', rfl, rfl, hl, upd_same, paired_imp q fun a b _ ⟨q1, q2⟩ => ⟨q1, dp_mono (fun a u e => ?_) _ _ q2⟩⟩
      obtain ⟨nm, e⟩ := hid_some e
      have ne : a ≠ l := fun z => nm (z ▸ hm)
      rw [hid_out nm, upd_ne ne]
      exact e
    have S3 := S2.backV rfl e
    rwa [List.set_set] at S3
/-- {(i, j): d} -/
def tDisp1 (tk tv : TE) : TE := fun σ H Q => ∀ p, H p = none → tk σ (upd H p (.dT [])) fun x H1 => tv σ H1 fun y H2 => ∃ b k, x = .ref b ∧ H2 b = some (.tup (k.map kV)) ∧ H2 p = some (.dT []) ∧ Q (.ref p) (upd H2 p (.dT [(k, y)]))
theorem pe_disp1 {tk tv : TE} (hu : X.A.units + 1 < cLine) (hk : PE X kx tk) (hv : PE X vx tv) : PE X (.Dict [some kx] [vx] pos) (tDisp1 tk tv) := by
  refine ⟨fun pins s σ H Q I q => ?_⟩
  have hn := I.hok.fresh (Nat.le_refl s.heap.objs.size)
  have I1 := I.laid (a := s.heap.objs.size) (o := .dT []) (h' := s.heap.push { cls := .type "dict", data := .dict #[] }) (t' := s.toks) (fun _ _ q => Heap.get?_push_of_some _ q) (Nat.le_refl _) (dt_empty s.heap I.big)
  refine wpAny_Dict_any rfl rfl (by simp) (by simp) (pairTrees_cons_walk (thn (hk.run pins _ σ _ _ I1 (q _ hn)) fun u s1 ⟨x, H1, I2, rx, q1⟩ => thn (hv.run pins s1 σ H1 _ I2 q1) fun r s2 ⟨y, H2, I3, ry, b, k, ex, eb, ep, q2⟩ => pairTrees_nil_walk ?_))
  subst ex
  cases (show u = Value.ref b from rx)
  unfold storeAll
  rw [List.forIn_cons]
  obtain ⟨z, hd, xs, rel, dd⟩ := dt_of I3.hok ep
  have hz : xs.length ≤ sizeLine := by rw [← Paired.length rel]; exact z
  refine wpAny_bind (wpAny_bind (wpAny_dictSet_heap (hsz := hz) (knd := tupleKind (mixKind X.prog X.w)) (show X.A.units < cLine from Nat.lt_of_le_of_lt (Nat.le_succ _) hu) (key_of I3.hok eb) dd fun h' dd' hs => wpAny_pure ?_))
  simp only [List.forIn_nil]
  refine wpAny_pure ?_
  obtain ⟨o, es, ep', hq, h2, h3, h4, _, h5⟩ := dd'
  refine ⟨.ref s.heap.objs.size, _, d_write I3 (ob := .dT [(k, y)]) (by rw [ep]; exact True.intro) hs ⟨o, hq⟩ ⟨by show 1 ≤ sizeLine; decide, hd, _, ((rel.put k eb ry)).keeps fun c ys ec => ?_, o, es, ep', hq, h2, h3, h4, h5⟩, rfl, q2⟩
  rw [upd_ne (ne_of ec ep (fun z => nomatch z))]
  exact ec
theorem de_disp1 {i j : Int} (hr : Room k X.A) (hk : DE G X kx ρ (.dat (pII (i, j))) ρ1) (hv : DE G X vx ρ1 (.dat d) ρ2) : DE G X (.Dict [some kx] [vx] pos) ρ (.dic [(key2 i j, d)]) ρ2 :=
  fun B M τ σ H S Q q => toE (pe_disp1 (by have := hr.un; omega) pE pE) fun p hp => by
    have S0 : Sem G X.K B (p :: M) ((.ref p, .dic []) :: τ) σ ρ (upd H p (.dT [])) := S.pushNew hp fun H' M' sm e np => ⟨p, [], rfl, rfl, np, e, .nil⟩
    refine hk B _ _ σ _ S0 _ fun x M1 H1 S1 => hv B M1 _ σ H1 S1 _ fun y M2 H2 S2 => ?_
    have hx := S2.pop.headD
    have hy := S2.headD
    obtain ⟨t, rfl, et⟩ := dq_key2 hx
    have S3 := S2.pop.pop
    have S3' := S3
    obtain ⟨f, ft, s1, t1, n1, o1, o2⟩ := S3'.own
    cases t1 with
    | @cons _ _ fp fs _ hh tt n =>
      obtain ⟨l, vk, e, rfl, hl, e1, e2⟩ := hh
      cases e
      cases e2
      have hm := (o2 p (by simp)).1
      refine ⟨t, key2 i j, rfl, hid_sub _ _ _ _ et, e1, ?_⟩
      refine q _ M2 _ (S3.mutHead (o := .dT [(key2 i j, y)]) (av' := .dic [(key2 i j, d)]) (by rw [e1]; simp) hm fun fp hh => ?_)
      obtain ⟨l2, vk2, e, rfl, hl, e3, q2⟩ := hh
      cases e
      refine ⟨by simp, p, _, rfl, rfl, hl, upd_same, .cons ⟨rfl, dp_mono (fun a u e => ?_) _ _ hy⟩ .nil⟩
      obtain ⟨nm, e⟩ := hid_some e
      have ne : a ≠ p := fun z => nm (z ▸ hm)
      rw [hid_out nm, upd_ne ne]
      exact e
theorem dget_t {i j : Int} {vk : List (List Key × V)} {l t : Addr} (el : H l = some (.dT vk)) (et : H t = some (.tup ((key2 i j).map kV))) : DGet H l (.ref t) (valV vk (key2 i j)) := DGet.t el et
/-- (i, j) not in d -/
theorem cm_dnotin {i j : Int} {n : Nat} {kvs : List (List Key × PyData)} (hr : Room k X.A) (ha : DE G X e ρ (.dat (pII (i, j))) ρ1) (hb : DE G X e' ρ1 (.als n) ρ2) (hs : ρ2[n]? = some (some (.dic kvs)) := by rfl) (q : (!(valP kvs (key2 i j)).isSome) = b := by rfl) : CM G X .NotIn e e' ρ (.bool b) ρ2 :=
  fun B M τ σ H S Q qq => toC (pc_dnotin (by have := hr.un; omega) pE pE) (ha B M τ σ H S _ fun v1 M1 H1 S1 => hb B M1 _ σ H1 S1 _ fun v2 M2 H2 S2 => by
    obtain ⟨l, vk, e1, e2, e3, _⟩ := S2.slotT hs
    have e4 := S2.headA
    rw [e1] at e4
    cases e4
    obtain ⟨t, rfl, et⟩ := dq_key2 S2.pop.headD
    refine ⟨l, _, rfl, dget_t e2 (hid_sub _ _ _ _ et), ?_⟩
    have e5 : (!(valV vk (key2 i j)).isSome) = b := by
      rw [← q]
      rcases pd_val e3 (key2 i j) with ⟨h1, h2⟩ | ⟨v, d, h1, h2, _⟩ <;> rw [h1, h2] <;> rfl
    rw [e5]
    exact qq _ M2 H2 (S2.pop.pop.push (.bl _)))
/-- d[i, j] -/
theorem de_dget {i j : Int} {n : Nat} {kvs : List (List Key × PyData)} (hr : Room k X.A) (hb : DE G X e ρ (.als n) ρ1) (ha : DE G X e' ρ1 (.dat (pII (i, j))) ρ2) (hs : ρ2[n]? = some (some (.dic kvs)) := by rfl) (hd : valP kvs (key2 i j) = some d) (hn : NoSl e' := by exact fun _ _ => rfl) : DE G X (.Subscript e e' pos) ρ (.dat d) ρ2 :=
  fun B M τ σ H S Q qq => toE (pe_dget (by have := hr.un; omega) pE pE hn) (hb B M τ σ H S _ fun v1 M1 H1 S1 => ha B M1 _ σ H1 S1 _ fun v2 M2 H2 S2 => by
    obtain ⟨l, vk, e1, e2, e3, _⟩ := S2.slotT hs
    have e4 := S2.pop.headA
    rw [e1] at e4
    cases e4
    obtain ⟨t, rfl, et⟩ := dq_key2 S2.headD
    rcases pd_val e3 (key2 i j) with ⟨h1, h2⟩ | ⟨v, d', h1, h2, h3⟩
    · rw [h2] at hd; cases hd
    · rw [h2] at hd
      cases hd
      have g := dget_t e2 (hid_sub _ _ _ _ et)
      rw [h1] at g
      exact ⟨l, v, rfl, g, qq _ M2 H2 (S2.pop.pop.push h3)⟩)
/-- d.get((i, j)) -/
theorem de_get1 {i j : Int} {n : Nat} {kvs : List (List Key × PyData)} (hr : Room k X.A) (hb : DE G X e ρ (.als n) ρ1) (ha : DE G X e' ρ1 (.dat (pII (i, j))) ρ2) (hs1 : ρ1[n]? = some (some (.dic kvs)) := by rfl) (hs : ρ2[n]? = some (some (.dic kvs)) := by rfl) (m : M1 X e "get" apos e' cpos := by exact ⟨rfl, rfl, rfl, rfl⟩) :
    DE G X (.Call (.Attribute e "get" apos) [e'] [] cpos) ρ (.dat ((valP kvs (key2 i j)).getD .none)) ρ2 :=
  fun B M τ σ H S Q qq => toE (pe_dget1 (by have := hr.un; omega) pE pE m) (hb B M τ σ H S _ fun v1 M1 H1 S1 => by
    obtain ⟨l, vk, e1, e2, e3, _⟩ := S1.slotT hs1
    have e4 := S1.headA
    rw [e1] at e4
    cases e4
    refine ⟨l, rfl, .inr ⟨vk, .inl e2⟩, ha B M1 _ σ H1 S1 _ fun v2 M2 H2 S2 => ?_⟩
    obtain ⟨l', vk', e5, e6, e7, _⟩ := S2.slotT hs
    rw [e1] at e5
    cases e5
    obtain ⟨t, rfl, et⟩ := dq_key2 S2.headD
    refine ⟨_, dget_t e6 (hid_sub _ _ _ _ et), ?_⟩
    rcases pd_val e7 (key2 i j) with ⟨h1, h2⟩ | ⟨v, d', h1, h2, h3⟩
    · rw [h1]
      rw [h2] at qq
      exact qq _ M2 H2 (S2.pop.pop.push .non)
    · rw [h1]
      rw [h2] at qq
      exact qq _ M2 H2 (S2.pop.pop.push h3))
/-- d[i, j] = v, a new key -/
theorem ws_dput {i j : Int} {n : Nat} {kvs : List (List Key × PyData)} {vx : Expr} (hr : Room k X.A) (hv : DE G X vx ρ (.dat d) ρ1) (hb : DE G X e ρ1 (.als n) ρ2) (ha : DE G X e' ρ2 (.dat (pII (i, j))) ρ3) (hz : kvs.length ≤ 100000) (hd : valP kvs (key2 i j) = none) (hs : ρ3[n]? = some (some (.dic kvs))) (q : Φ (.nx (ρ3.set n (some (.dic (kvs ++ [(key2 i j, d)]))))))
    (hsw : swapsWith vx (some (.Subscript e e' pos')) pos.line X.env = pure false := by rfl) : WS G X (.Assign [.Subscript e e' pos'] vx pos) ρ Φ :=
  fun B M τ σ H dd S D k1 _ _ _ => toS (ps_dput (by have := hr.un; omega) pE pE pE hsw) (hv B M τ σ H S _ fun v0 M0 H0 S0 => hb B M0 _ σ H0 S0 _ fun v1 M1 H1 S1 => ha B M1 _ σ H1 S1 _ fun v2 M2 H2 S2 => by
    obtain ⟨l, vk, e1, e2, e3, mk⟩ := S2.mutT hs
    have e4 := S2.pop.headA
    rw [e1] at e4
    cases e4
    obtain ⟨t, rfl, et⟩ := dq_key2 S2.headD
    have hn : valV vk (key2 i j) = none := by
      rcases pd_val e3 (key2 i j) with ⟨h1, h2⟩ | ⟨v, d', h1, h2, h3⟩
      · exact h1
      · rw [h2] at hd; cases hd
    have hl := Paired.length e3
    refine ⟨l, _, rfl, DPut.t e2 (hid_sub _ _ _ _ et) (sz_lt (by omega)), k1 _ M2 _ _ q ?_⟩
    exact (mk _ _ (pd_put e3 hn S2.pop.pop.headD)).pop.pop.pop)

/-! ### texts as keys -/
theorem de_disp3 {x y z : Str} {kx ky kz vx vy vz : Expr} (hxy : x ≠ y) (hxz : x ≠ z) (hyz : y ≠ z) (h1 : DE G X kx ρ (.dat (.str x)) ρ) (g1 : DE G X vx ρ (.dat d1) ρ) (h2 : DE G X ky ρ (.dat (.str y)) ρ) (g2 : DE G X vy ρ (.dat d2) ρ) (h3 : DE G X kz ρ (.dat (.str z)) ρ) (g3 : DE G X vz ρ (.dat d3) ρ) :
    DE G X (.Dict [some kx, some ky, some kz] [vx, vy, vz] pos) ρ (.dik [(.inr x, d1), (.inr y, d2), (.inr z, d3)]) ρ :=
  fun B M τ σ H S Q q => toE (pe_disp (pps_cons pE pE (pps_cons pE pE (pps_cons pE pE pps_nil))) rfl rfl (by simp) (by simp)) fun p hp => by
    have S0 : Sem G X.K B (p :: M) ((.ref p, .dik []) :: τ) σ ρ (upd H p (.dK [])) := S.pushNew hp fun H' M' sm e np => ⟨p, [], rfl, rfl, np, e, .nil⟩
    refine h1 B _ _ σ _ S0 _ fun x1 M1 H1 S1 => g1 B M1 _ σ H1 S1 _ fun y1 M2 H2 S2 => h2 B M2 _ σ H2 S2 _ fun x2 M3 H3 S3 => g2 B M3 _ σ H3 S3 _ fun y2 M4 H4 S4 => h3 B M4 _ σ H4 S4 _ fun x3 M5 H5 S5 => g3 B M5 _ σ H5 S5 _ fun y3 M6 H6 S6 => ?_
    have k1 := S6.pop.pop.pop.pop.pop.headD
    have k2 := S6.pop.pop.pop.headD
    have k3 := S6.pop.headD
    have w1 := S6.pop.pop.pop.pop.headD
    have w2 := S6.pop.pop.headD
    have w3 := S6.headD
    cases k1; cases k2; cases k3
    have S7 := S6.pop.pop.pop.pop.pop.pop
    have S7' := S7
    obtain ⟨f, ft, s1, t1, n1, o1, o2⟩ := S7'.own
    cases t1 with
    | @cons _ _ fp fs _ hh tt n =>
      obtain ⟨l, vk, e, rfl, hl, e1, e2⟩ := hh
      cases e
      cases e2
      have hm := (o2 p (by simp)).1
      refine ⟨e1, [(.inr x, y1), (.inr y, y2), (.inr z, y3)], rfl, by simp, ?_⟩
      have em : mergeK ([] : List (Key × V)) [(.inr x, y1), (.inr y, y2), (.inr z, y3)] = [(.inr x, y1), (.inr y, y2), (.inr z, y3)] := by
        simp [mergeK, putK, hxy, hxz, hyz]
      rw [em]
      refine q _ M6 _ (S7.mutHead (o := .dK [(.inr x, y1), (.inr y, y2), (.inr z, y3)]) (av' := .dik [(.inr x, d1), (.inr y, d2), (.inr z, d3)]) (by rw [e1]; simp) hm fun fp hh => ?_)
      obtain ⟨l2, vk2, e, rfl, hl, e3, q2⟩ := hh
      cases e
      have sm : Same (hid M6 H6) (hid M6 (upd H6 p (.dK [(.inr x, y1), (.inr y, y2), (.inr z, y3)]))) := fun a u e => by
        obtain ⟨nm, e⟩ := hid_some e
        have ne : a ≠ p := fun z => nm (z ▸ hm)
        rw [hid_out nm, upd_ne ne]
        exact e
      exact ⟨by simp, p, _, rfl, rfl, hl, upd_same, .cons ⟨rfl, dp_mono sm _ _ w1⟩ (.cons ⟨rfl, dp_mono sm _ _ w2⟩ (.cons ⟨rfl, dp_mono sm _ _ w3⟩ .nil))⟩
theorem cm_kin {x : Str} {n : Nat} {kvs : List (Key × PyData)} (hr : Room k X.A) (ha : DE G X e ρ (.dat (.str x)) ρ1) (hb : DE G X e' ρ1 (.als n) ρ2) (hs : ρ2[n]? = some (some (.dik kvs)) := by rfl) (q : (valP kvs (.inr x)).isSome = b := by rfl) : CM G X .In e e' ρ (.bool b) ρ2 :=
  fun B M τ σ H S Q qq => toC (pc_din (by have := hr.un; omega) pE pE) (ha B M τ σ H S _ fun v1 M1 H1 S1 => hb B M1 _ σ H1 S1 _ fun v2 M2 H2 S2 => by
    obtain ⟨l, vk, e1, e2, e3⟩ := S2.slotK hs
    have e4 := S2.headA
    rw [e1] at e4
    cases e4
    have hx := S2.pop.headD
    cases hx
    refine ⟨l, _, rfl, DGet.k (k := .inr x) e2, ?_⟩
    have e5 : (valV vk (Sum.inr x)).isSome = b := by
      rw [← q]
      rcases pd_val e3 (Sum.inr x) with ⟨h1, h2⟩ | ⟨v, d, h1, h2, _⟩ <;> rw [h1, h2] <;> rfl
    rw [e5]
    exact qq _ M2 H2 (S2.pop.pop.push (.bl _)))
theorem de_kget {x : Str} {n : Nat} {kvs : List (Key × PyData)} (hr : Room k X.A) (hb : DE G X e ρ (.als n) ρ1) (ha : DE G X e' ρ1 (.dat (.str x)) ρ2) (hs : ρ2[n]? = some (some (.dik kvs)) := by rfl) (hd : valP kvs (.inr x) = some d) (hn : NoSl e' := by exact fun _ _ => rfl) : DE G X (.Subscript e e' pos) ρ (.dat d) ρ2 :=
  fun B M τ σ H S Q qq => toE (pe_dget (by have := hr.un; omega) pE pE hn) (hb B M τ σ H S _ fun v1 M1 H1 S1 => ha B M1 _ σ H1 S1 _ fun v2 M2 H2 S2 => by
    obtain ⟨l, vk, e1, e2, e3⟩ := S2.slotK hs
    have e4 := S2.pop.headA
    rw [e1] at e4
    cases e4
    have hx := S2.headD
    cases hx
    rcases pd_val e3 (Sum.inr x) with ⟨h1, h2⟩ | ⟨v, d', h1, h2, h3⟩
    · rw [h2] at hd; cases hd
    · rw [h2] at hd
      cases hd
      have g := DGet.k (k := .inr x) e2
      rw [h1] at g
      exact ⟨l, v, rfl, g, qq _ M2 H2 (S2.pop.pop.push h3)⟩)
end
end TW
end
section
set_option Elab.async false
set_option linter.all false
set_option maxRecDepth 100000
set_option maxHeartbeats 2000000
/-! The layer, 16: max(t, default=n). -/
namespace TW
open PySem PySem.Spec PyProof.Rows L2
theorem reads_ints {h : Heap} : ∀ {ns : List Int} {its : List Value}, Vals (ns.map V.int) its → ReadsAll h its (ns.map PyData.int) []
  | [], _, .nil => .nil
  | n :: ns, _, .cons r t => by
    obtain ⟨t', rfl⟩ := r
    have e : ([] : List Addr) = [] ++ [] := rfl
    rw [e]
    exact .cons (.int n t') (reads_ints t)
theorem alike_ints (ns : List Int) : PySem.W.AlikeAll (ns.map PyData.int) := by
  refine ⟨fun x hx y hy => ?_, fun x hx => ?_⟩
  · obtain ⟨i, _, rfl⟩ := List.mem_map.mp hx
    obtain ⟨j, _, rfl⟩ := List.mem_map.mp hy
    rfl
  · obtain ⟨i, _, rfl⟩ := List.mem_map.mp hx
    simp
theorem depth_ints : ∀ ns : List Int, PyData.depthAll (ns.map PyData.int) = 0
  | [] => by simp [PyData.depthAll]
  | n :: ns => by simp [PyData.depthAll, depth_ints ns, PyData.depth]
def rMaxD (K : PySem.W.Frag) : List V → List V → Hp → VK → Prop := fun vs zs H Q => ∃ (a : Addr) (ns : List Int) (k : Int), vs = [.ref a] ∧ zs = [.int k] ∧ SqT K H a (ns.map V.int) ∧ (ns = [] → Q (.int k) H) ∧ ∀ y ys, ns = y :: ys → Q (.int (ys.foldl max y)) H
section
variable {X : Cx}
theorem cr_maxDef (hc : X.calm = true) (hu : X.A.units + 1 < cLine) : CallRK X (.builtin "max") [Str.ofString "default"] (rMaxD X.K) := by
  intro pins s σ H vs zs us ws Q I r rz h
  obtain ⟨a, ns, k, rfl, rfl, hs, q0, q1⟩ := h
  obtain rfl := Vals.ref1 r
  obtain ⟨w1, rfl, e1⟩ := vals1 rz
  obtain ⟨tk0, rfl⟩ : ∃ t, w1 = Value.int k t := e1
  obtain ⟨its, rv, p, _⟩ := I.tuple hs
  refine PySem.W.max_tuple_default (I.ok.hd hc) (show s.heap.IsTuple a its.toArray from p) (xs := ns.map PyData.int) (as := []) (by simpa using reads_ints rv) (alike_ints ns) (by rw [depth_ints]; exact hu) (fun e h' tk hk => ?_) fun y ys i v h' tk bs e hi rd hk => ?_
  · exact ⟨.int k, H, I.kept hk, ⟨_, rfl⟩, q0 (List.map_eq_nil_iff.mp e)⟩
  · cases ns with
    | nil => cases e
    | cons n ns =>
      cases e
      rw [PySem.W.maxD_ints] at rd
      cases rd
      exact ⟨.int _, H, I.kept hk, ⟨_, rfl⟩, q1 n ns rfl⟩
end
section
variable {G : Glb} {K : PySem.W.Frag} {ρ ρ' ρ0 ρ1 ρ2 ρ3 : Ev} {X : Cx} {e e' : Expr} {pos p kp cp up : Pos} {k jj : Nat}
theorem foldl_max {ns : List Nat} : ∀ {n : Nat}, (ns.map Int.ofNat).foldl max (n : Int) = ((ns.foldl max n : Nat) : Int) := by
  induction ns with
  | nil => exact rfl
  | cons m r ih =>
    intro n
    rw [List.map_cons, List.foldl_cons, List.foldl_cons, ← ih]
    congr 1
    show max (n : Int) (m : Int) = _
    omega
/-- the greatest of a tuple of naturals, -1 if there is none -/
def maxZ (ns : List Nat) : Int := match ns with
  | [] => -1
  | n :: r => ((r.foldl max n : Nat) : Int)
theorem de_maxD {ns : List Nat} {dx : Expr} (hr : Room k X.A) (hm : X.mg "max" = none) (ha : DE G X e ρ (.dat (tN ns)) ρ1) (hd : DE G X dx ρ1 (.dat (.int (-1))) ρ1) (hc : X.calm = true := by rfl) (hg : Gl X "max" := by rfl) (he0 : starEach [e] X.env = (false, eval e X.env) :: starEach [] X.env := by rfl)
    (he : backTo pos (starEach [e] X.env) = (false, eval e X.env) :: backTo pos (starEach [] X.env) := by rfl) (hpl : (backTo pos (starEach [e] X.env)).any (·.1) = false := by rfl)
    (hall : (backToKw pos (keywordEach [⟨some "default", dx, kp⟩] X.env)).all (·.1.isSome) = true := by rfl) (hnone : (backToKw pos (keywordEach [⟨some "default", dx, kp⟩] X.env)).any (·.1.isNone) = false := by rfl) (hks : (backToKw pos (keywordEach [⟨some "default", dx, kp⟩] X.env)).filterMap (·.1) = [Str.ofString "default"] := by rfl) :
    DE G X (.Call (.Name "max" p) [e] [⟨some "default", dx, kp⟩] pos) ρ (.dat (.int (maxZ ns))) ρ1 := fun B M τ σ H S Q q =>
  toE (pe_callBK (cr_maxDef hc (by have := hr.un; omega)) hg hm (by decide +kernel) pA (pk_cons pE pk_nil) (by decide) (by decide) he hpl hall hnone hks) (da_one ha he0 B M τ σ H S _ fun vs M1 H1 hl S1 => by
    obtain ⟨v, rfl⟩ := one_of hl
    have S1 : Sem G X.K B M1 ((v, .dat (tN ns)) :: τ) σ ρ1 H1 := S1
    refine hd B M1 _ σ H1 S1 _ fun w M2 H2 S2 => ?_
    have t2 := S2.headD
    have t1 := S2.pop.headD
    cases t2
    have q' := fun i => q (.int i) M2 H2
    cases t1 with
    | @tup a xs _ e1 t1 =>
      have e2 := dpa_ints_of (mapNI ▸ t1)
      subst e2
      refine ⟨a, _, -1, rfl, rfl, .of (hid_sub _ _ _ _ e1), fun h0 => ?_, fun y ys h => ?_⟩
      · cases ns with
        | nil => exact q' _ (S2.pop.pop.push (.int _))
        | cons n r => cases h0
      · cases ns with
        | nil => cases h
        | cons n r =>
          cases h
          have e3 : (r.map Int.ofNat).foldl max (Int.ofNat n) = maxZ (n :: r) := foldl_max
          rw [e3]
          exact q' _ (S2.pop.pop.push (.int _)))
end
end TW
end
section
set_option Elab.async false
set_option linter.all false
set_option maxRecDepth 100000
set_option maxHeartbeats 2000000
/-! The layer, 17: the pool of draws, lists of lists. -/
namespace TW
open PySem PySem.Spec PyProof.Rows L2
section
variable {G : Glb} {K : PySem.W.Frag} {B : Bas} {M M' : List Addr} {τ : Tmp} {σ σ' : L2.St} {ρ ρ' ρ0 ρ1 ρ2 ρ3 ρ4 : Ev} {H H' : Hp} {v : V} {av a1 a2 a3 el : AV} {d d1 d2 d3 : PyData} {ds es : List PyData} {p q : Addr} {st st' : PoolS} {dss : List (List PyData)}
variable {X : Cx} {e e' e'' kx vx : Expr} {pos px cp apos cpos : Pos} {k kk : Nat} {b : Bool} {Φ : Out → Prop} {x : Str} {i : Nat}
/-! ### the pool -/
theorem Sem.poolSet (S : Sem G K B M τ σ ρ H) (hr : ρ[i]? = some (some (.pool p q st))) (ho : ∀ a, a ≠ p → a ≠ q → H' a = H a) (hP : PoolAt H' p q st') : Sem G K B M τ σ (ρ.set i (some (.pool p q st'))) H' := by
  obtain ⟨_, hP0, hp, hq, np, nq⟩ := S.slotP hr
  have sm : Same (hid M H) (hid M H') := fun a u e => by
    obtain ⟨nm, e⟩ := hid_some e
    rw [hid_out nm, ho a (fun z => nm (z ▸ hp)) fun z => nm (z ▸ hq)]
    exact e
  refine S.postSlot hr ⟨sm, fun _ h => h, fun a ha hn ht => ho a (fun z => hn (by simp [z])) fun z => hn (by simp [z]), fun a ha => ?_, S.tabs.grow sm (fun a t => S.tabM t) fun a t => ho a (fun z => np (z ▸ t)) fun z => nq (z ▸ t)⟩ hP
  by_cases h1 : a = p
  · rw [h1, hP.hp]; simp
  · by_cases h2 : a = q
    · rw [h2, hP.hq]; simp
    · rw [ho a h1 h2]; exact S.al a ha
theorem pool_ix (S : Sem G X.K B M τ σ ρ H) (h : ρ[i]? = some (some (.pool p q st))) {n : Nat} {v : V} (hv : [V.int st.a, V.int st.b, V.ref q][n]? = some v) (hN : X.N[i]? = some x) (hs : Vis X.env.scope x) (hd : (x == ("__debug__" : Str)) = false) (hcd : (x == ("__classdict__" : Str)) = false) {Q : VK} (qq : Q v H) :
    tE X (.Subscript (.Name x px) (.Constant (.int (n : Int)) kk cp) pos) σ H Q := by
  obtain ⟨e1, hP, _⟩ := S.slotP h
  exact toE (pe_ix ix_seq (pe_var hN hs hd hcd) pe_int fun _ _ => rfl) ⟨_, e1, .inl ⟨p, _, (n : Int), v, rfl, rfl, .of hP.hp, atI_nat hv, qq⟩⟩
/-- pool[0], pool[1] -/
theorem de_p0 (i : Nat) (h : ρ[i]? = some (some (.pool p q st)) := by rfl) (hN : X.N[i]? = some x := by rfl) (hv : Vis X.env.scope x := by first | exact Or.inl rfl | exact Or.inr (Or.inl rfl) | exact Or.inr (Or.inr rfl)) (hd : (x == ("__debug__" : Str)) = false := by decide)
    (hcd : (x == ("__classdict__" : Str)) = false := by decide) : DE G X (.Subscript (.Name x px) (.Constant (.int ((0 : Nat) : Int)) kk cp) pos) ρ (.dat (.int st.a)) ρ := fun B M τ σ H S Q qq => pool_ix (n := 0) S h rfl hN hv hd hcd (qq _ M H (S.push (.int _)))
theorem de_p1 (i : Nat) (h : ρ[i]? = some (some (.pool p q st)) := by rfl) (hN : X.N[i]? = some x := by rfl) (hv : Vis X.env.scope x := by first | exact Or.inl rfl | exact Or.inr (Or.inl rfl) | exact Or.inr (Or.inr rfl)) (hd : (x == ("__debug__" : Str)) = false := by decide)
    (hcd : (x == ("__classdict__" : Str)) = false := by decide) : DE G X (.Subscript (.Name x px) (.Constant (.int ((1 : Nat) : Int)) kk cp) pos) ρ (.dat (.int st.b)) ρ := fun B M τ σ H S Q qq => pool_ix (n := 1) S h rfl hN hv hd hcd (qq _ M H (S.push (.int _)))
/-- pool[2] != [] -/
theorem cm_p2 (i : Nat) (hr : Room k X.A) (hb : DE G X e' ρ (.dat (.list [])) ρ) (h : ρ[i]? = some (some (.pool p q st)) := by rfl) (qb : (!st.cs.isEmpty) = b := by rfl) (hN : X.N[i]? = some x := by rfl) (hv : Vis X.env.scope x := by first | exact Or.inl rfl | exact Or.inr (Or.inl rfl) | exact Or.inr (Or.inr rfl)) (hd : (x == ("__debug__" : Str)) = false := by decide)
    (hcd : (x == ("__classdict__" : Str)) = false := by decide) : CM G X .NotEq (.Subscript (.Name x px) (.Constant (.int ((2 : Nat) : Int)) kk cp) pos) e' ρ (.bool b) ρ := fun B M τ σ H S Q qq =>
  toC (pc_op (op_neD hr.units) pE pE) (pool_ix (n := 2) S h rfl hN hv hd hcd (hb B M τ σ H S _ fun w M1 H1 S1 => by
    obtain ⟨_, hP, _⟩ := S1.slotP h
    have t := S1.headD
    refine ⟨.list (st.cs.map PyData.int), .list [], dq_dp _ _ (.lst hP.hq (dpa_ints _)), dq_dp _ _ (dp_mono (hid_sub _ _) _ _ t), sh_shaped (fun d hd => ?_), sh_shaped sh_nil_l, ?_⟩
    · obtain ⟨z, _, rfl⟩ := List.mem_map.mp hd
      trivial
    · rw [eqv_nil_l, List.isEmpty_map, qb]
      exact qq _ M1 H1 (S1.pop.push (.bl _))))
/-- pool[2].pop(0) -/
theorem de_p2pop (i : Nat) {c : Int} {r : List Int} (hc : st.cs = c :: r) (h : ρ[i]? = some (some (.pool p q st)) := by rfl) (hN : X.N[i]? = some x := by rfl) (hv : Vis X.env.scope x := by first | exact Or.inl rfl | exact Or.inr (Or.inl rfl) | exact Or.inr (Or.inr rfl)) (hd : (x == ("__debug__" : Str)) = false := by decide)
    (hcd : (x == ("__classdict__" : Str)) = false := by decide)
    (hp : ∀ (to : TE) (ta : TA), PE X (.Subscript (.Name x px) (.Constant (.int ((2 : Nat) : Int)) kk cp) pos) to → PA X [.Constant (.int 0) k cp'] ta → PE X (.Call (.Attribute (.Subscript (.Name x px) (.Constant (.int ((2 : Nat) : Int)) kk cp) pos) "pop" apos) [.Constant (.int 0) k cp'] [] cpos) (tBM X.K "list" rPopAt to ta) := by exact fun _ _ h1 h2 => pe_bm PySem.F.plainAttrs_list PySem.F.slot_list_pop PySem.F.type_list_pop mt_popAt h1 h2)
    (hs : starEach [.Constant (.int 0) k cp'] X.env = (false, eval (.Constant (.int 0) k cp') X.env) :: starEach [] X.env := by rfl) :
    DE G X (.Call (.Attribute (.Subscript (.Name x px) (.Constant (.int ((2 : Nat) : Int)) kk cp) pos) "pop" apos) [.Constant (.int 0) k cp'] [] cpos) ρ (.dat (.int c)) (ρ.set i (some (.pool p q ⟨st.a, st.b, r⟩))) := fun B M τ σ H S Q qq =>
  toE (hp _ _ pE pA) (pool_ix (n := 2) S h rfl hN hv hd hcd (by
    obtain ⟨_, hP, _⟩ := S.slotP h
    refine ⟨.inl ⟨rfl, _, .of hP.hq⟩, da_one de_int hs B M τ σ H S _ fun us M1 H1 hl S1 => ?_⟩
    obtain ⟨u, rfl⟩ := one_of hl
    have S1 : Sem G X.K B M1 ((u, .dat (.int 0)) :: τ) σ ρ H1 := S1
    have t := S1.headD
    cases t
    obtain ⟨_, hP1, _⟩ := S1.slotP h
    have e1 : (st.cs.map V.int) = .int c :: r.map V.int := by rw [hc]; rfl
    refine ⟨q, _, 0, 0, .int c, rfl, rfl, hP1.hq, by decide, by decide, (ixN_seq (ixN_nat (n := 0) (by rw [e1]; simp))).1, by rw [e1]; rfl, qq _ M1 _ ((S1.pop.poolSet h (fun a h1 h2 => upd_ne h2) ⟨hP1.ne, ?_, ?_⟩).push (.int _))⟩
    · rw [upd_ne hP1.ne]; exact hP1.hp
    · rw [upd_same, e1]; rfl))
theorem gp_sub (i : Nat) {n : Nat} {z : Int} (st' : PoolS) (h : ρ[i]? = some (some (.pool p q st)) := by rfl) (hst : [V.int st'.a, V.int st'.b, V.ref q] = [V.int st.a, V.int st.b, V.ref q].set n (.int z) ∧ st'.cs = st.cs ∧ n < 3 := by exact ⟨rfl, rfl, by decide⟩) (hN : X.N[i]? = some x := by rfl) (hv : Vis X.env.scope x := by first | exact Or.inl rfl | exact Or.inr (Or.inl rfl) | exact Or.inr (Or.inr rfl)) (hd : (x == ("__debug__" : Str)) = false := by decide)
    (hcd : (x == ("__classdict__" : Str)) = false := by decide)
    (ha : ∀ v, assign (.Subscript (.Name x px) (.Constant (.int (n : Int)) kk cp) pos) X.env v = (do
      let ov ← holding [v] (eval (.Name x px) X.env)
      let iv ← holding [v, ov] (eval (.Constant (.int (n : Int)) kk cp) X.env)
      standAt pos
      holding [v, ov, iv] (setItem ov iv v)
      release [v, ov, iv] []) := by intro _; rfl) : GT G X (.Subscript (.Name x px) (.Constant (.int (n : Int)) kk cp) pos) ρ (.dat (.int z)) (ρ.set i (some (.pool p q st'))) [] :=
  fun B M τ σ H v dd S Q qq => toG (pg_sub pE pE set_list ha) (by
    obtain ⟨h1, h2, h3⟩ := hst
    obtain ⟨e1, hP, _⟩ := S.slotP h
    refine toE (pe_var hN hv hd hcd) ⟨_, e1, toE pe_int ?_⟩
    have t := S.headD
    cases t
    refine ⟨p, _, (n : Int), n, rfl, rfl, hP.hp, ixN_nat (by simpa using h3), qq M _ _ (S.pop.poolSet h (fun a h1 h2 => upd_ne h1) ⟨hP.ne, ?_, ?_⟩) fun _ _ => rfl⟩
    · rw [upd_same, h1]
    · rw [upd_ne (Ne.symm hP.ne), h2]; exact hP.hq)
/-! ### a list of lists of one's own -/
theorem paired_get {α β : Type} {F : α → β → Prop} : ∀ {l₁ : List α} {l₂ : List β} {n : Nat} {y : β}, Paired F l₁ l₂ → l₂[n]? = some y → ∃ x, l₁[n]? = some x ∧ F x y
  | _, _, _, _, .nil, h => by simp at h
  | _, _, 0, _, .cons r _, h => by simp at h; subst h; exact ⟨_, rfl, r⟩
  | _, _, n + 1, _, .cons _ t, h => by
    obtain ⟨x, h1, h2⟩ := paired_get (n := n) t (by simpa using h)
    exact ⟨x, by simpa using h1, h2⟩
theorem paired_set {F F' : Addr → List PyData → Prop} {a : Addr} {y : List PyData} : ∀ {l₁ : List Addr} {l₂ : List (List PyData)} {n : Nat}, Paired F l₁ l₂ → l₁.Nodup → l₁[n]? = some a → F' a y → (∀ b z, b ∈ l₁ → b ≠ a → F b z → F' b z) → Paired F' l₁ (l₂.set n y)
  | _, _, _, .nil, _, h, _, _ => by simp at h
  | _, _, 0, .cons r t, nd, h, hy, f => by
    simp at h
    subst h
    exact .cons hy (paired_imp t fun b z hb q => f b z (List.mem_cons_of_mem _ hb) (fun e => (List.nodup_cons.mp nd).1 (e ▸ hb)) q)
  | x :: l₁, _, n + 1, .cons r t, nd, h, hy, f => by
    have h : l₁[n]? = some a := by simpa using h
    refine .cons (f _ _ List.mem_cons_self (fun e => (List.nodup_cons.mp nd).1 (e ▸ List.mem_of_getElem? h)) r) ?_
    exact paired_set t (List.nodup_cons.mp nd).2 h hy fun b z hb ne q => f b z (List.mem_cons_of_mem _ hb) ne q
theorem Sem.slotN (S : Sem G K B M τ σ ρ H) (h : ρ[i]? = some (some (.nest dss))) : ∃ (l : Addr) (ls : List Addr), σ[i]? = some (some (.ref l)) ∧ H l = some (.lst (ls.map V.ref)) ∧ Paired (fun (a : Addr) (ds : List PyData) => ∃ vs, H a = some (.lst vs) ∧ DqAll (hid M H) vs ds) ls dss := by
  obtain ⟨f, ft, s1, t1, n1, o1, o2⟩ := S.own
  obtain ⟨_, v, e, l, ls, rfl, _, _, _, e1, e2⟩ := s1.at_ i _ h
  exact ⟨l, ls, e, e1, e2⟩
/-- one of the lists is changed -/
theorem Sem.mutN {n : Nat} (S : Sem G K B M τ σ ρ H) (h : ρ[i]? = some (some (.nest dss))) (hn : dss[n]? = some ds) : ∃ (l : Addr) (ls : List Addr) (a : Addr) (vs : List V), σ[i]? = some (some (.ref l)) ∧ H l = some (.lst (ls.map V.ref)) ∧ ls[n]? = some a ∧ H a = some (.lst vs) ∧ DqAll (hid M H) vs ds ∧
    ∀ vs' ds', DqAll (hid M H) vs' ds' → Sem G K B M τ σ (ρ.set i (some (.nest (dss.set n ds')))) (upd H a (.lst vs')) ∧ Same (hid M H) (hid M (upd H a (.lst vs'))) := by
  obtain ⟨v, e, S1⟩ := S.takeV h
  obtain ⟨f, ft, s1, t1, n1, o1, o2⟩ := id S1.own
  cases t1 with
  | @cons _ _ fp fs _ hh t nn =>
    obtain ⟨l, ls, rfl, rfl, hl, nd, e1, e2⟩ := hh
    obtain ⟨a, ea, vs, ev, hv⟩ := paired_get e2 hn
    have hal : a ∈ ls := List.mem_of_getElem? ea
    have ham : a ∈ M := (o2 a (by simp [hal])).1
    have nl : a ≠ l := fun z => (List.nodup_cons.mp nd).1 (z ▸ hal)
    have oa := o2 a (by simp [hal])
    have nt := S1.notab oa
    refine ⟨l, ls, a, vs, e, e1, ea, ev, hv, fun vs' ds' hq => ?_⟩
    have sm : Same (hid M H) (hid M (upd H a (.lst vs'))) := fun c u ec => by
      obtain ⟨nm, ec⟩ := hid_some ec
      have ne : c ≠ a := fun z => nm (z ▸ ham)
      rw [hid_out nm, upd_ne ne]
      exact ec
    refine ⟨?_, sm⟩
    have S2 : Sem G K B M ((.ref l, .nest (dss.set n ds')) :: τ) σ (ρ.set i none) (upd H a (.lst vs')) := by
      refine ⟨⟨f, (l :: ls) ++ fs, s1.frame sm fun j c hc => upd_ne fun z => n1 j c hc (by simp [z, hal]), .cons ⟨l, ls, rfl, rfl, hl, nd, ?_, ?_⟩ (t.frame sm fun c hc => upd_ne fun z => nn a (by simp [hal]) (z ▸ hc)) nn, n1, o1, o2⟩, S1.keep.trans sm, S1.sub, fun c hc hp ht => ?_, fun c hc => ?_, S1.tabs.grow sm (fun c t => S1.tabM t) fun c t => upd_ne fun z => nt (z ▸ t), S1.tm, S1.len⟩
      · rw [upd_ne (Ne.symm nl)]; exact e1
      · refine paired_set e2 (List.nodup_cons.mp nd).2 ea ⟨vs', upd_same, dpa_mono sm _ _ hq⟩ fun b z hb ne ⟨ws, q1, q2⟩ => ⟨ws, ?_, dpa_mono sm _ _ q2⟩
        rw [upd_ne ne]; exact q1
      · have ne : c ≠ a := fun z => hp (z ▸ oa.2 (z ▸ hc))
        rw [upd_ne ne]
        exact S1.old c hc hp ht
      · by_cases z : c = a
        · rw [z, upd_same]; simp
        · rw [upd_ne z]; exact S1.al c hc
    have S3 := S2.backV rfl e
    rwa [List.set_set] at S3
/-- the whole becomes data -/
theorem Sem.frzN (S : Sem G K B M τ σ ρ H) (h : ρ[i]? = some (some (.nest dss))) : ∃ M', Sem G K B M' τ σ (ρ.set i (some (.dat (.list (dss.map PyData.list))))) H := by
  obtain ⟨v, e, S1⟩ := S.takeV h
  obtain ⟨f, ft, s1, t1, n1, o1, o2⟩ := id S1.own
  cases t1 with
  | @cons _ _ fp fs _ hh t nn =>
    obtain ⟨l, ls, rfl, rfl, hl, nd, e1, e2⟩ := hh
    have sm : Same (hid M H) (hid (M.filter fun a => decide (a ∉ l :: ls)) H) := fun a u e => by
      obtain ⟨n, e⟩ := hid_some e
      rw [hid_out fun z => n (List.mem_filter.mp z).1]
      exact e
    have keepM : ∀ a, a ∈ M → a ∉ l :: ls → a ∈ M.filter fun a => decide (a ∉ l :: ls) := fun a ha hn => List.mem_filter.mpr ⟨ha, decide_eq_true hn⟩
    have tl : ∀ a, G.tab a → a ∉ l :: ls := fun a t z => hl a z (S1.tm a t).1
    have S2 : Sem G K B (M.filter fun a => decide (a ∉ l :: ls)) τ σ (ρ.set i none) H :=
      ⟨⟨f, fs, s1.frame sm fun _ _ _ => rfl, t.frame sm fun _ _ => rfl, fun j a ha z => n1 j a ha (List.mem_append_right _ z), fun j a ha => ⟨keepM a (o1 j a ha).1 fun z => n1 j a ha (List.mem_append_left _ z), (o1 j a ha).2⟩, fun a ha => ⟨keepM a (o2 a (List.mem_append_right _ ha)).1 fun z => nn a z ha, (o2 a (List.mem_append_right _ ha)).2⟩⟩,
        S1.keep.trans sm, fun a ha => keepM a (S1.sub a ha) fun z => hl a z ha, S1.old, fun a ha => S1.al a (List.mem_filter.mp ha).1, S1.tabs.grow sm (fun a t => keepM a (S1.tabM t) (tl a t)) fun _ _ => rfl, S1.tm, S1.len⟩
    have out : ∀ a, a ∈ l :: ls → hid (M.filter fun a => decide (a ∉ l :: ls)) H a = H a := fun a ha => hid_out fun z => by
      have := (List.mem_filter.mp z).2
      simp only [decide_eq_true_eq] at this
      exact this ha
    have inner : ∀ {ls' : List Addr} {dss' : List (List PyData)}, Paired (fun (a : Addr) (ds : List PyData) => ∃ vs, H a = some (.lst vs) ∧ DqAll (hid M H) vs ds) ls' dss' → (∀ a ∈ ls', a ∈ l :: ls) → DqAll (hid (M.filter fun a => decide (a ∉ l :: ls)) H) (ls'.map V.ref) (dss'.map PyData.list) := by
      intro ls' dss' r
      induction r with
      | nil => exact fun _ => .nil
      | cons h t ih =>
        intro hm
        obtain ⟨vs, q1, q2⟩ := h
        refine .cons (.lst ?_ (dpa_mono sm _ _ q2)) (ih fun a ha => hm a (List.mem_cons_of_mem _ ha))
        rw [out _ (hm _ List.mem_cons_self)]
        exact q1
    have S3 := (S2.push (.lst (by rw [out l (by simp)]; exact e1) (inner e2 fun a ha => List.mem_cons_of_mem _ ha))).backV rfl e
    rw [List.set_set] at S3
    exact ⟨_, S3⟩
theorem wt_frzN {t : TS} (i : Nat) (e : ρ[i]? = some (some (.nest dss))) (h : WT G K t (ρ.set i (some (.dat (.list (dss.map PyData.list))))) Φ) : WT G K t ρ Φ := fun B M τ σ H dd S => let ⟨M', S'⟩ := S.frzN e; h B M' τ σ H dd S'
/-- xs[m], xs a list of lists in slot i -/
theorem nest_ix {m : Nat} {y : Str} {py : Pos} {j : Nat} (S : Sem G X.K B M τ σ ρ H) (h : ρ[i]? = some (some (.nest dss))) (hj : ρ[j]? = some (some (.dat (nI m)))) (hm : dss[m]? = some ds) (hN : X.N[i]? = some x) (hs : Vis X.env.scope x) (hd : (x == ("__debug__" : Str)) = false) (hcd : (x == ("__classdict__" : Str)) = false)
    (hN2 : X.N[j]? = some y) (hs2 : Vis X.env.scope y) (hd2 : (y == ("__debug__" : Str)) = false) (hcd2 : (y == ("__classdict__" : Str)) = false) {Q : VK} (qq : ∀ (l : Addr) (ls : List Addr) (a : Addr), σ[i]? = some (some (.ref l)) → H l = some (.lst (ls.map V.ref)) → ls[m]? = some a → Q (.ref a) H) :
    tE X (.Subscript (.Name x px) (.Name y py) pos) σ H Q := by
  obtain ⟨l, ls, a, vs, e1, e2, e3, _⟩ := S.mutN h hm
  obtain ⟨v, ev, hv⟩ := S.slotD hj
  cases hv
  refine toE (pe_ix ix_seq (pe_var hN hs hd hcd) (pe_var hN2 hs2 hd2 hcd2) fun _ _ => rfl) ⟨_, e1, _, ev, .inl ⟨l, _, (m : Int), .ref a, rfl, rfl, .of e2, atI_nat ?_, qq l ls a e1 e2 e3⟩⟩
  rw [List.getElem?_map, e3]
  rfl
/-- xs[m].append(y), y in a slot -/
theorem de_nappend (i j l0 : Nat) {m : Nat} {y z : Str} {py pz : Pos} (h : ρ[i]? = some (some (.nest dss)) := by rfl) (hj : ρ[j]? = some (some (.dat (nI m))) := by rfl) (hl : ρ[l0]? = some (some (.dat d)) := by rfl) (hm : dss[m]? = some ds) (hz : ds.length ≤ 100000) (hN : X.N[i]? = some x := by rfl) (hs : Vis X.env.scope x := by first | exact Or.inl rfl | exact Or.inr (Or.inl rfl) | exact Or.inr (Or.inr rfl)) (hd : (x == ("__debug__" : Str)) = false := by decide) (hcd : (x == ("__classdict__" : Str)) = false := by decide)
    (hN2 : X.N[j]? = some y := by rfl) (hs2 : Vis X.env.scope y := by first | exact Or.inl rfl | exact Or.inr (Or.inl rfl) | exact Or.inr (Or.inr rfl)) (hd2 : (y == ("__debug__" : Str)) = false := by decide) (hcd2 : (y == ("__classdict__" : Str)) = false := by decide)
    (hN3 : X.N[l0]? = some z := by rfl) (hs3 : Vis X.env.scope z := by first | exact Or.inl rfl | exact Or.inr (Or.inl rfl) | exact Or.inr (Or.inr rfl)) (hd3 : (z == ("__debug__" : Str)) = false := by decide) (hcd3 : (z == ("__classdict__" : Str)) = false := by decide)
    (hp : ∀ (to : TE) (ta : TA), PE X (.Subscript (.Name x px) (.Name y py) pos) to → PA X [.Name z pz] ta → PE X (.Call (.Attribute (.Subscript (.Name x px) (.Name y py) pos) "append" apos) [.Name z pz] [] cpos) (tBM X.K "list" rAppend to ta) := by exact fun _ _ h1 h2 => pe_bm PySem.F.plainAttrs_list PySem.F.slot_list_append PySem.F.type_list_append mt_append h1 h2)
    (hst : starEach [.Name z pz] X.env = (false, eval (.Name z pz) X.env) :: starEach [] X.env := by rfl) :
    DE G X (.Call (.Attribute (.Subscript (.Name x px) (.Name y py) pos) "append" apos) [.Name z pz] [] cpos) ρ (.dat .none) (ρ.set i (some (.nest (dss.set m (ds ++ [d]))))) := fun B M τ σ H S Q qq =>
  toE (hp _ _ pE (pa_cons (pe_var hN3 hs3 hd3 hcd3) pa_nil hst)) (nest_ix S h hj hm hN hs hd hcd hN2 hs2 hd2 hcd2 fun l ls a e1 e2 e3 => by
    obtain ⟨l', ls', a', vs, f1, f2, f3, f4, f5, mk⟩ := S.mutN h hm
    rw [e1] at f1; cases f1
    rw [e2] at f2
    have f2' : ls.map V.ref = ls'.map V.ref := by injection (Option.some.inj f2)
    have el : ls = ls' := by
      have inj : ∀ {a b : List Addr}, a.map V.ref = b.map V.ref → a = b := by
        intro a
        induction a with
        | nil => intro b h; cases b with
          | nil => rfl
          | cons y t => cases h
        | cons x r ih => intro b h; cases b with
          | nil => cases h
          | cons y t =>
            injection h with h1 h2
            injection h1 with h1
            rw [h1, ih h2]
      exact inj f2'
    subst el
    rw [e3] at f3; cases f3
    obtain ⟨w, ew, hw⟩ := S.slotD hl
    refine ⟨.inl ⟨rfl, _, .of f4⟩, ⟨w, ew, a, vs, w, rfl, rfl, f4, sz_lt (by rw [dpa_len f5]; exact hz), ?_⟩⟩
    exact qq _ M _ ((mk _ _ (dpa_app f5 (.cons hw .nil))).1.push .non))
end
end TW
end
section
set_option Elab.async false
set_option linter.all false
set_option maxRecDepth 100000
set_option maxHeartbeats 2000000
/-! The layer, 18: a comprehension over a list of one's own that stays so; xs[m].pop(0). -/
namespace TW
open PySem PySem.Spec PyProof.Rows L2
section
variable {G : Glb} {K : PySem.W.Frag} {B : Bas} {M M' M0 M1 : List Addr} {τ τ' : Tmp} {σ σ' : L2.St} {ρ ρ' ρ0 ρ1 ρ2 ρ3 ρ4 : Ev} {H H' H1 : Hp} {v y : V} {av a1 a2 a3 acc el acc' : AV} {d d1 d2 : PyData} {ds es : List PyData} {ft : List Addr} {D : Addr}
theorem lc_run {J : It} {kp : V × AV} {g : TG} {tt : TT} {te : TE} {vs : List Nat} {Q : VK} (nk : kp.2.isAls = false) (hz : ds.length ≤ 100000) (P : Nat → Ev) (A : Nat → AV) (h0 : Weak ρ0 (P 0)) (hA : A 0 = .flat [] ∨ A 0 = .nest [])
    (hP : ∀ i j av, j ∈ vs → (P i)[j]? ≠ some (some av))
    (turn : ∀ (i : Nat) (d : PyData), ds[i]? = some d → ∃ ρ1 js b ρ2, GTt G K g (P i) (.dat d) ρ1 js ∧ (∀ j ∈ js, j ∈ vs) ∧ ET G K tt ρ1 b ρ2 ∧ (b = true → ∃ el ρ3, EV G K te ρ2 el ρ3 ∧ Add (A i) el (A (i + 1)) ∧ Weak ρ3 (P (i + 1))) ∧ (b = false → A (i + 1) = A i ∧ Weak ρ2 (P (i + 1))))
    (S1 : Sem G K B M1 (kp :: τ) σ ρ0 H1) (Y : Yields G K J ds kp) (D : Addr) (hD : H1 D = none) (q : ∀ M' H', Sem G K B M' ((.ref D, A ds.length) :: kp :: τ) σ (P ds.length) H' → Q (.ref D) H') :
    ∃ W : Nat → Nat → Hp → Prop, (∃ m, W 0 m (upd H1 D (.lst []))) ∧ ∀ i m H, W i m H →
      (J.stop i H ∧ Q (.ref D) H) ∨ (J.go i H ∧ ∃ Nx : Hp → Prop, (∀ H', Nx H' → ∃ m', m' < m ∧ W (i + 1) m' H') ∧ ∀ x H', J.yld i H x H' → g x (wipe σ vs) H' fun σ2 H2 => wipe σ2 vs = wipe σ vs ∧ tt σ2 H2 fun b H3 =>
        if b = true then te σ2 H3 fun y H4 => ∃ acc, H4 D = some (.lst acc) ∧ acc.length < sizeLine ∧ Nx (upd H4 D (.lst (acc ++ [y]))) else Nx H3) := by
  obtain ⟨S1s, als⟩ := S1.strip
  have e0 : noAls (kp :: τ) = kp :: noAls τ := by simp [noAls, nk]
  rw [e0] at S1s
  have nA : ∀ i, i ≤ ds.length → (A i).isAls = false ∧ (A i).len ≤ i := fun i => by
    induction i with
    | zero => intro _; rcases hA with h | h <;> rw [h] <;> exact ⟨rfl, Nat.le_refl _⟩
    | succ i ih =>
      intro hi
      obtain ⟨i1, i2⟩ := ih (by omega)
      obtain ⟨_, _, b, _, _, _, _, h1, h2⟩ := turn i _ (List.getElem?_eq_getElem (by omega))
      cases b with
      | true =>
        obtain ⟨el, _, _, ad, _⟩ := h1 rfl
        have := ad.len
        exact ⟨ad.na', by omega⟩
      | false =>
        obtain ⟨ea, _⟩ := h2 rfl
        rw [ea]
        exact ⟨i1, by omega⟩
  have ddK : Dats (kp :: noAls τ) := fun x hx => by
    rcases List.mem_cons.mp hx with rfl | hx
    · exact nk
    · exact dats_noAls x hx
  have SD : Sem G K B (D :: M1) ((.ref D, A 0) :: kp :: noAls τ) σ (P 0) (upd H1 D (.lst [])) := by
    refine (S1s.weak h0).pushNew hD fun H' M' sm e np => ?_
    rcases hA with h | h <;> rw [h]
    · exact ⟨D, [], rfl, rfl, np, e, .nil⟩
    · exact ⟨D, [], rfl, rfl, fun a ha => by have : a = D := by simpa using ha
                                             rw [this]; exact np, by simp, e, .nil⟩
  have wl : (wipe σ vs).length = σ.length := wipe_length _ _
  have sl : ∀ {M' : List Addr} {τ' : Tmp} {i : Nat} {H' : Hp}, Dats τ' → Sem G K B M' τ' σ (P i) H' → Sem G K B M' τ' (wipe σ vs) (P i) H' := fun {M' τ' i H'} dd S => S.slots dd wl fun j av e => by
    rw [wipe_get (j := 0), if_neg fun hj => hP i j av hj e]
  have ls : ∀ {M' : List Addr} {τ' : Tmp} {i : Nat} {H' : Hp}, Dats τ' → Sem G K B M' τ' (wipe σ vs) (P i) H' → Sem G K B M' τ' σ (P i) H' := fun {M' τ' i H'} dd S => S.slots dd wl.symm fun j av e => by
    rw [wipe_get (j := 0), if_neg fun hj => hP i j av hj e]
  have ddA : ∀ i, i ≤ ds.length → Dats ((.ref D, A i) :: kp :: noAls τ) := fun i hi x hx => by
    rcases List.mem_cons.mp hx with rfl | hx
    · exact (nA i hi).1
    · exact ddK x hx
  refine ⟨fun i m H' => m = ds.length - i ∧ i ≤ ds.length ∧ ∃ M2, Sem G K B M2 ((.ref D, A i) :: kp :: noAls τ) (wipe σ vs) (P i) H', ⟨ds.length, by simp, Nat.zero_le _, D :: M1, sl (ddA 0 (Nat.zero_le _)) SD⟩, ?_⟩
  rintro i m H2 ⟨rfl, hle, M2, S2⟩
  have S2' : Sem G K B M2 (kp :: (.ref D, A i) :: noAls τ) (wipe σ vs) (P i) H2 := S2.perm (.swap _ _ _)
  obtain ⟨ystop, ygo⟩ := Y B M2 _ (wipe σ vs) (P i) H2 i S2'
  by_cases hlt : i < ds.length
  · obtain ⟨go, yl⟩ := ygo hlt
    refine .inr ⟨go, fun H' => ∃ M', Sem G K B M' ((.ref D, A (i + 1)) :: kp :: noAls τ) (wipe σ vs) (P (i + 1)) H', fun H' ⟨M', q'⟩ => ⟨ds.length - (i + 1), by omega, rfl, by omega, M', q'⟩, fun x H3 hy => ?_⟩
    obtain ⟨d, M3, ed, S3⟩ := yl x H3 hy
    obtain ⟨ρ1, js, b, ρ2, hg, hj, ht, hb1, hb2⟩ := turn i d ed
    have dd3 : Dats (kp :: (.ref D, A i) :: noAls τ) := fun x hx => ddA i hle x ((List.Perm.swap _ _ _).mem_iff.mp hx)
    refine hg B M3 _ (wipe σ vs) H3 x dd3 S3 _ fun M4 σ4 H4 S4 w4 => ⟨?_, ?_⟩
    · have w := w4 vs hj
      rw [w]
      apply List.ext_getElem?
      intro j
      rw [wipe_get (j := 0)]
      by_cases hjv : j ∈ vs
      · rw [if_pos hjv, wl, wipe_get (j := 0), if_pos hjv]
      · rw [if_neg hjv]
    · have w := w4 vs hj
      have ww : wipe (wipe σ vs) vs = wipe σ vs := by
        apply List.ext_getElem?
        intro j
        rw [wipe_get (j := 0)]
        by_cases hjv : j ∈ vs
        · rw [if_pos hjv, wl, wipe_get (j := 0), if_pos hjv]
        · rw [if_neg hjv]
      have back : ∀ {M' : List Addr} {τ' : Tmp} {H' : Hp}, Dats τ' → Sem G K B M' τ' σ4 (P (i + 1)) H' → Sem G K B M' τ' (wipe σ vs) (P (i + 1)) H' := fun {M' τ' H'} dd S => S.slots dd (by have := congrArg List.length w; rw [wipe_length, wipe_length] at this; exact this.symm) fun j av e => by
        have hjv : j ∉ vs := fun hj => hP (i + 1) j av hj e
        have := congrArg (fun l => l[j]?) w
        simp only [wipe_get (j := 0), if_neg hjv] at this
        rw [wipe_get (j := 0), if_neg hjv]
        exact this.symm
      refine ht B M4 _ σ4 H4 S4 _ fun M5 H5 S5 => ?_
      cases b with
      | true =>
        obtain ⟨el, ρ3, he, ad, wk⟩ := hb1 rfl
        refine iteT (he B M5 _ σ4 H5 S5 _ fun y M6 H6 S6 => ?_)
        have S7 : Sem G K B M6 ((y, el) :: (.ref D, A i) :: kp :: noAls τ) σ4 (P (i + 1)) H6 := (S6.weak wk).perm (.cons _ (.swap _ _ _))
        obtain ⟨xs, e1, e2, S8⟩ := S7.addTo ad
        exact ⟨xs, e1, sz_lt (by have := (nA i hle).2; omega), M6, back (ddA (i + 1) hlt) S8⟩
      | false =>
        obtain ⟨ea, wk⟩ := hb2 rfl
        refine iteF ⟨M5, ?_⟩
        rw [ea]
        exact back (ddA i hle) ((S5.weak wk).perm (.swap _ _ _))
  · have e : i = ds.length := by omega
    subst e
    refine .inl ⟨ystop (Nat.le_refl _), q M2 H2 ?_⟩
    have S3 := ls (ddA _ (Nat.le_refl _)) S2
    rw [← e0] at S3
    exact Sem.unstrip S3 als
theorem yields_flat {a : Addr} : Yields G K (Itl K a) ds (.ref a, .flat ds) := fun B M τ σ ρ H i S => by
  obtain ⟨l, vs, e, _, e1, e2⟩ := S.headF
  cases e
  have hl := dpa_len e2
  have hT := SqL.of (K := K) e1
  refine ⟨fun h => ⟨_, hT, by omega⟩, fun h => ?_⟩
  obtain ⟨x, ex, hx⟩ := dpa_get (i := i) e2 (List.getElem?_eq_getElem h)
  exact ⟨⟨_, x, hT, ex⟩, fun y H' ⟨e, f⟩ => by
    subst e
    have := f _ hT
    rw [ex] at this
    cases this
    exact ⟨_, M, List.getElem?_eq_getElem h, S.push hx⟩⟩
variable {X : Cx} {e c elt tg : Expr} {sc : Scope} {pos px : Pos} {own : List (Str × Nat)} {x : Str} {dss : List (List PyData)}
/-- [elt for tg in xs if c], xs a list of one's own -/
theorem de_lcB {j : Nat} {P : Nat → Ev} {A : Nat → AV} (hN : X.N.Nodup) (ok : BlkOk X.N X.env.scope sc own) (hj : ρ[j]? = some (some (.flat ds))) (h : LC1 G X sc tg c elt (own.map (·.2)) ds (ρ.set j none) P A) (hz : ds.length ≤ 100000) (hx : X.N[j]? = some x := by rfl) (hv : Vis X.env.scope x := by first | exact Or.inl rfl | exact Or.inr (Or.inl rfl) | exact Or.inr (Or.inr rfl)) (hd : (x == ("__debug__" : Str)) = false := by decide)
    (hcd : (x == ("__classdict__" : Str)) = false := by decide) (hc : X.calm = true := by rfl) (hs : ∀ y, foldedSetIterable (.Name x px) X.env y = pure y := by intro _; rfl) : DE G X (.ListComp elt [⟨tg, .Name x px, [c], 0⟩] sc pos) ρ (A ds.length) ((P ds.length).set j (some (.flat ds))) :=
  fun B M τ σ H S Q q => toE (pe_lc hc hN (pi_list (pe_var hx hv hd hcd)) ok bG_pg (fun s H0 C cl fp => pts_one (bT_pt s H0 C cl fp)) bE_pe hs) (by
    obtain ⟨h0, hA, hP, turn⟩ := h
    obtain ⟨v, ev, S1⟩ := S.takeV hj
    obtain ⟨l, vs, rfl, _, e1, _⟩ := S1.headF
    refine ⟨_, ev, l, rfl, ⟨vs, .of e1⟩, fun D hD => ?_⟩
    refine lc_run (A := A) (P := P) rfl hz h0 hA hP (fun i d ed => ?_) S1 yields_flat D hD fun M' H' S' => q _ M' H' ?_
    · obtain ⟨ρ1, js, b, ρ2, g, hj, ht, h1, h2⟩ := turn i d ed
      exact ⟨ρ1, js, b, ρ2, g.gt, hj, ht.et, fun hb => let ⟨el, ρ3, he, ad, w⟩ := h1 hb; ⟨el, ρ3, he.ev, ad, w⟩, h2⟩
    · exact (S'.perm (.swap _ _ _)).backV rfl ev)
theorem de_filtB {α : Type} {xs : List α} {f g : α → PyData} {p : α → Bool} {P : Ev} {j : Nat} (hN : X.N.Nodup) (ok : BlkOk X.N X.env.scope sc own) (hj : ρ[j]? = some (some (.flat (xs.map f)))) (h0 : Weak (ρ.set j none) P) (hb : Bare P (own.map (·.2)))
    (turn : ∀ x ∈ xs, ∃ ρ1 js ρ2, BG G X sc tg P (.dat (f x)) ρ1 js ∧ (∀ j ∈ js, j ∈ own.map (·.2)) ∧ BT G X sc c ρ1 (p x) ρ2 ∧ Weak ρ2 P ∧ (p x = true → ∃ ρ3, BE G X sc elt ρ2 (.dat (g x)) ρ3 ∧ Weak ρ3 P)) (hz : xs.length ≤ 100000) (hx : X.N[j]? = some x := by rfl) (hv : Vis X.env.scope x := by first | exact Or.inl rfl | exact Or.inr (Or.inl rfl) | exact Or.inr (Or.inr rfl)) (hd : (x == ("__debug__" : Str)) = false := by decide)
    (hcd : (x == ("__classdict__" : Str)) = false := by decide) (hc : X.calm = true := by rfl) (hs : ∀ y, foldedSetIterable (.Name x px) X.env y = pure y := by intro _; rfl) : DE G X (.ListComp elt [⟨tg, .Name x px, [c], 0⟩] sc pos) ρ (.flat ((xs.filter p).map g)) (P.set j (some (.flat (xs.map f)))) := by
  have h := de_lcB (pos := pos) hN ok hj (lc_filt h0 hb turn) (by simpa using hz) hx hv hd hcd hc hs
  simpa using h
/-- xs[m].pop(0) -/
theorem de_npop (i j : Nat) {m kk : Nat} {y : Str} {py pz cpos apos : Pos} {d : PyData} {r : List PyData} (h : ρ[i]? = some (some (.nest dss)) := by rfl) (hj : ρ[j]? = some (some (.dat (nI m))) := by rfl) (hm : dss[m]? = some (d :: r)) (hN : X.N[i]? = some x := by rfl) (hs : Vis X.env.scope x := by first | exact Or.inl rfl | exact Or.inr (Or.inl rfl) | exact Or.inr (Or.inr rfl)) (hd : (x == ("__debug__" : Str)) = false := by decide) (hcd : (x == ("__classdict__" : Str)) = false := by decide)
    (hN2 : X.N[j]? = some y := by rfl) (hs2 : Vis X.env.scope y := by first | exact Or.inl rfl | exact Or.inr (Or.inl rfl) | exact Or.inr (Or.inr rfl)) (hd2 : (y == ("__debug__" : Str)) = false := by decide) (hcd2 : (y == ("__classdict__" : Str)) = false := by decide)
    (hp : ∀ (to : TE) (ta : TA), PE X (.Subscript (.Name x px) (.Name y py) pos) to → PA X [.Constant (.int 0) kk pz] ta → PE X (.Call (.Attribute (.Subscript (.Name x px) (.Name y py) pos) "pop" apos) [.Constant (.int 0) kk pz] [] cpos) (tBM X.K "list" rPopAt to ta) := by exact fun _ _ h1 h2 => pe_bm PySem.F.plainAttrs_list PySem.F.slot_list_pop PySem.F.type_list_pop mt_popAt h1 h2)
    (hst : starEach [.Constant (.int 0) kk pz] X.env = (false, eval (.Constant (.int 0) kk pz) X.env) :: starEach [] X.env := by rfl) :
    DE G X (.Call (.Attribute (.Subscript (.Name x px) (.Name y py) pos) "pop" apos) [.Constant (.int 0) kk pz] [] cpos) ρ (.dat d) (ρ.set i (some (.nest (dss.set m r)))) := fun B M τ σ H S Q qq =>
  toE (hp _ _ pE (pa_cons pe_int pa_nil hst)) (nest_ix S h hj hm hN hs hd hcd hN2 hs2 hd2 hcd2 fun l ls a e1 e2 e3 => by
    obtain ⟨l', ls', a', vs, f1, f2, f3, f4, f5, mk⟩ := S.mutN h hm
    rw [e1] at f1; cases f1
    rw [e2] at f2
    have f2' : ls.map V.ref = ls'.map V.ref := by injection (Option.some.inj f2)
    have el : ls = ls' := by
      have inj : ∀ {a b : List Addr}, a.map V.ref = b.map V.ref → a = b := by
        intro a
        induction a with
        | nil => intro b h; cases b with
          | nil => rfl
          | cons y t => cases h
        | cons x r ih => intro b h; cases b with
          | nil => cases h
          | cons y t =>
            injection h with h1 h2
            injection h1 with h1
            rw [h1, ih h2]
      exact inj f2'
    subst el
    rw [e3] at f3; cases f3
    cases f5 with
    | @cons w ws _ _ hw t =>
      obtain ⟨S', sm⟩ := mk ws r t
      refine ⟨.inl ⟨rfl, _, .of f4⟩, a, w :: ws, 0, 0, w, rfl, rfl, f4, by decide, by decide, (ixN_seq (ixN_nat (n := 0) (by simp))).1, rfl, ?_⟩
      exact qq _ M _ (S'.push (dp_mono sm _ _ hw)))
end
end TW
end
section
set_option Elab.async false
set_option linter.all false
set_option maxRecDepth 100000
set_option maxHeartbeats 4000000
/-! The layer, 19: sorted(range(n), key=lambda number: (right[number], number)). -/
namespace TW
open PySem PySem.Spec PyProof.Rows L2
open PySem.W (KeyPure)
abbrev sR : Str := "right"
abbrev sN : Str := "number"
/-- the lambda's body -/
abbrev lamBody (k : Nat) (p1 p2 p3 p4 p5 : Pos) : Expr := .Tuple [.Subscript (.Name sR p1) (.Name sN p2) p3, .Name sN p4] k p5
section
variable {prog : Program} {w : World} {A : Around} {s : Shared}
theorem lam_body {env : Env} {c T : Addr} {its : List Value} {ns : List Int} {i : Nat} {t : Tok} {m : Str → Option Value} {kk : Nat} {p1 p2 p3 p4 p5 : Pos} {E : Value → Shared → Prop} (hk : env.scope.kind = .function) (h1 : env.kindOf sN = some .local) (h2 : env.kindOf sR = some .free) (hn : s.heap.Ns env.locals m) (hm : m sN = some (.int (i : Int) t))
    (hc : env.cells.lookup sR = some c) (hv : s.heap.IsCell c (some (.ref T))) (ht : IsTup s.heap T its.toArray) (hi : Vals (ns.map V.int) its) {x : Int} (hx : ns[i]? = some x) (hz : i < 100000) {Q : Value → Shared → Prop}
    (h : ∀ t2, Q (.ref s.heap.objs.size) { s with heap := s.heap.push { cls := .type "tuple", data := .seq #[.int x t2, .int (i : Int) t] } }) : wpAny (model prog w) A (eval (lamBody kk p1 p2 p3 p4 p5) env) Q E s := by
  obtain ⟨u, hu, ru⟩ := hi.get (by rw [List.getElem?_map, hx]; rfl)
  obtain ⟨t2, rfl⟩ := ru
  have hil : i < its.length := (List.getElem?_eq_some_iff.mp hu).1
  refine wpAny_Tuple_spliced ?_
  refine Calls.spliced_cons (Subscript_ (wpAny_Name (wpAny_loadName_free hk h2 hc hv ?_) (by decide)))
  refine wpAny_Name (wpAny_loadName_local hk h1 hn hm ?_) (by decide)
  have l63 : (100000 : Int) < 2 ^ 63 := by decide
  refine item_tupleL ht (by omega) (by omega) (ixN_seq (ixN_nat hil)).1 hu ?_
  refine Calls.spliced_cons (wpAny_Name (wpAny_loadName_local hk h1 hn hm ?_) (by decide))
  exact Calls.spliced_nil ⟨by show 2 ≤ sizeLine; decide, h t2⟩
/-- one call of the key -/
theorem lam_turn {f c' cR T : Addr} {q : Str} {scope : Scope} {clo : List (Str × Addr)} {pm ctv : Value} {params : Arguments} {its : List Value} {ns : List Int} {i : Nat} {t : Tok} {kk : Nat} {p1 p2 p3 p4 p5 : Pos} {x : Int} (hroom : A.depth < recursionLimit) (lim : s.heap.NoLimit)
    (hf : s.heap.get? f = some (PySem.W.kla_obj "<lambda>" q params (lamBody kk p1 p2 p3 p4 p5) scope clo pm c' ctv)) (hco : ∃ (oc : Obj) (vs : Array Value) (tq : Tok), s.heap.get? c' = some oc ∧ oc.data = .fields vs ∧ vs[1]? = some (.str q tq))
    (kind : scope.kind = .function) (co : scope.isCoroutine = false) (gen : scope.isGenerator = false) (nocell : ∀ y ∈ scope.names, y.2 ≠ .cell) (l1 : scope.names.lookup sN = some .local) (l2 : scope.names.lookup sR = some .free)
    (hbind : ∀ v, bindArgs (PySem.W.kla_fn "<lambda>" q params (lamBody kk p1 p2 p3 p4 p5) scope clo pm (.ref c') ctv) ⟨[v], []⟩ = pure [(sN, v)]) (hclo : clo.lookup sR = some cR) (hcell : s.heap.IsCell cR (some (.ref T))) (ht : IsTup s.heap T its.toArray) (hi : Vals (ns.map V.int) its) (hx : ns[i]? = some x) (hz : i < 100000) :
    wpAny (model prog w) A (PySem.call (.ref f) [.int (i : Int) t]) (KeyPure (.tuple [.int x, .int (i : Int)]) s) (fun _ _ => False) s := by
  obtain ⟨oc, vs, tq, hoc, hdc, hvc⟩ := hco
  have rc : codeAny (model prog w) A (.call (.ref f) ⟨[.int (i : Int) t], []⟩) (fun r s' => match r with
      | .ok (.ret v) => KeyPure (.tuple [.int x, .int (i : Int)]) s v s'
      | _ => False) s := by
    refine PySem.W.kla_callFunE hroom hf rfl co gen rfl ⟨c', oc, vs, tq, rfl, hoc, hdc, hvc⟩ ?_
    rw [hbind]
    refine wpAny_pure (wpAny_newFunctionEnv nocell (fun y hy => ?_) (fun h₁ hns hsb => ⟨lim.fresh _ hsb, ?_⟩) kind)
    · have : y = (sN, .int (i : Int) t) := by simpa using hy
      rw [this]
      exact l1
    · have kp : ∀ b o, s.heap.get? b = some o → h₁.get? b = some o := fun b o e => hsb.extBut b o (Nat.ne_of_lt (Heap.lt_size e)) (Heap.get?_push_of_some _ e)
      refine PySem.W.kla_codeExpr ?_
      refine lam_body (c := cR) (T := T) (its := its) (ns := ns) (m := fun y => [(sN, Value.int (i : Int) t)].reverse.lookup y) (t := t) (by exact kind) (by exact l1) (by exact l2) (by exact hns) rfl (by exact hclo) ?_ ?_ hi hx hz fun t2 => ?_
      · obtain ⟨o, ho, hd⟩ := hcell
        exact ⟨o, kp _ _ ho, hd⟩
      · obtain ⟨o, ho, hd⟩ := ht
        exact ⟨o, kp _ _ ho, hd⟩
      · refine ⟨_, _, rfl, fun b o e => Heap.get?_push_of_some _ (kp b o e), ?_⟩
        have r : ReadsAll (h₁.push { cls := .type "tuple", data := .seq #[.int x t2, .int (i : Int) t] }) [.int x t2, .int (i : Int) t] [.int x, .int (i : Int)] ([] ++ ([] ++ [])) := .cons (.int _ _) (.cons (.int _ _) .nil)
        exact .tuple (Heap.get?_push_size _ rfl) rfl rfl r
  refine wpAny_call (codeAny_mono rc fun r s' hq => ?_)
  cases r with
  | error e => exact hq
  | ok fl =>
    cases fl with
    | ret u => exact hq
    | next => exact hq.elim
    | brk => exact hq.elim
    | cont => exact hq.elim
open PySem.W in
theorem sorted_rangeKey {E : Value → Shared → Prop} {r f : Addr} {n : Nat} {tu tv tw : Tok} {Q : Value → Shared → Prop} (k : Nat → PyData) (hh : A.handled = none) (hr : IsRange s.heap r 0 (n : Int) 1 tu tv tw) (hz : n ≤ 100000) (hal : AllAlike ((List.range n).map k)) (hk : Sortable ((List.range n).map k)) (hu : ∀ x, x ∈ List.range n → A.units + 2 + (k x).depth < cLine)
    (turn : ∀ (i : Nat) (t : Tok), i < n → ∀ (h : Heap) (tk : Nat), (∀ b o, s.heap.get? b = some o → h.get? b = some o) → wpAny (model prog w) A.in1.in1 (PySem.call (.ref f) [.int (i : Int) t]) (KeyPure (k i) { s with heap := h, toks := tk }) (fun _ _ => False) { s with heap := h, toks := tk })
    (h : ∀ (h1 : Heap) (tk1 : Nat) (out : List Value) (c : Nat) (h' : Heap) (tk : Nat), (∀ b o, s.heap.get? b = some o → h1.get? b = some o) → (∀ b o, h1.get? b = some o → h'.get? b = some o) → h'.get? h1.objs.size = some (seqObj "list" (List.toArray out) c) → EachIs (fun v (i : Nat) => ∃ t, v = Value.int (i : Int) t) out ((List.range n).mergeSort (dataLe false k)) → Q (.ref h1.objs.size) { s with heap := h', toks := tk }) :
    wpAny (model prog w) A (PySem.call (.builtin "sorted") [.ref r] [(Str.ofString "key", .ref f)]) Q E s := by
  refine call_function_entry_kw kind_sorted plain_sorted entry_sorted (PyProof.Rows.ksk_s1 _ _) ?_
  unfold Builtin.«sorted»
  refine wpAny_bind (m := checkCount "sorted" 1 1 _) (wpAny_pure ?_)
  have sm : Builtin.Range.small 0 (n : Int) 1 = true := small_one (by decide) (by decide) (by omega) (by have : (100000 : Int) < 2 ^ 62 := (by decide); omega)
  have rs : Builtin.Range.rangeSize 0 (n : Int) 1 = (n : Int) := by
    rw [rangeSize_nat]
    omega
  refine wpAny_bind (collect_range (n := n) (A := A.in1) hh hr sm rs (by have : (100000 : Nat) ≤ 2 ^ 24 := (by decide); omega) fun h1 tk1 acc hk1 hi => ?_)
  obtain ⟨sz, at_⟩ := hi
  have al : acc.toList.length = n := by simpa using sz
  have e : EachIs (fun v (i : Nat) => ∃ t, v = Value.int (i : Int) t) acc.toList (List.range n) := by
    refine EachIs.of_zip (by simp [al]) fun p hp => ?_
    obtain ⟨v, y⟩ := p
    obtain ⟨j, hj⟩ := List.mem_iff_getElem?.mp hp
    have h3 := List.getElem?_zip_eq_some.mp hj
    have hjn : j < n := by
      have := (List.getElem?_eq_some_iff.mp h3.2).1
      simpa using this
    have h4 : (List.range n)[j]? = some j := List.getElem?_range hjn
    have h5 : y = j := by
      have := h3.2.symm.trans h4
      simpa using this
    obtain ⟨t, ht⟩ := at_ j v (by rw [← Array.getElem?_toList]; exact h3.1)
    subst h5
    exact ⟨t, ht.trans (congrArg (fun z => Value.int z t) (by omega))⟩
  have hL : acc.toList.length ≤ sizeLine := by rw [al]; exact sz_le hz
  refine wpAny_bind (wpAny_newList ?_ hL)
  have ho : (h1.push (seqObj "list" acc.toList.toArray 0)).get? h1.objs.size = some (seqObj "list" acc.toList.toArray 0) := Heap.get?_push_size _ rfl
  refine wpAny_bind (wpAny_holding (wpAny_call_entry_kw slot_list_sort ⟨_, ho, rfl⟩ entry_list_sort ?body (PyProof.Rows.ksk_l1 _ _)))
  case body =>
    show wpAny (model prog w) A.in1.in1 (Builtin.«list.sort» ⟨[.ref h1.objs.size], [(Str.ofString "key", .ref f)]⟩) _ _ _
    rw [PyProof.Rows.ksk_t1]
    have up : ∀ {g : Heap}, KeepsBut h1.objs.size (h1.push (seqObj "list" acc.toList.toArray 0)) g → ∀ b o, s.heap.get? b = some o → g.get? b = some o := fun {g} kp b o q =>
      kp b o (Nat.ne_of_lt (Heap.lt_size (hk1 b o q))) (Heap.get?_push_of_some _ (hk1 b o q))
    refine keyH_tree (kz := (List.range n).map k) (s := { s with heap := h1.push (seqObj "list" acc.toList.toArray 0), toks := tk1 }) ho (by rw [List.length_map, List.length_range, al]) hL hal hk (bound_map (A := A.in1.in1) hu)
      (keyH_turns (s := { s with heap := h1.push (seqObj "list" acc.toList.toArray 0), toks := tk1 }) e fun v x hR hx h tk kp => ?_) fun h' tk out c kp hD ko => ⟨.none, rfl, wpAny_pure ⟨_, rfl, ?_⟩⟩
    · obtain ⟨t, rfl⟩ := hR
      exact turn x t (List.mem_range.mp hx) h tk (up kp)
    · exact h h1 tk1 out c h' tk hk1 (fun b o q => kp b o (Nat.ne_of_lt (Heap.lt_size q)) (Heap.get?_push_of_some _ q)) hD (keyedOut_each k ko e)
end
end TW
end
section
set_option Elab.async false
set_option linter.all false
set_option maxRecDepth 100000
set_option maxHeartbeats 4000000
/-! The layer, 20: the lambda made; the sorted list as an expression. -/
namespace TW
open PySem PySem.Spec PyProof.Rows L2
open LamX (CodeO TabS TabB inv_table among_app codeO_ne)
section
variable {X : Cx} {pins : List (Addr × Obj)} {σ : L2.St} {H : Hp} {s : Shared}
/-- the table at P: each code object that it tells bears the name q, and is such as Z says -/
def TabZ (Z : Addr → Prop) (H : Hp) (P : Addr) (q : Str) : Prop := ∃ ps : Array Value, H P = some (.tbl ps) ∧ TriplesOk ps.toList ∧ ∀ (pos : Pos) (cv : Value), codeAmong pos ps.toList = some cv → ∃ c, cv = .ref c ∧ Z c ∧ H c = some (CodeO c q)
/-- how the heap lies behind the making -/
inductive Made (H : Hp) (P : Addr) (q : Str) (H1 : Hp) : Prop
  | same : H1 = H → Made H P q H1
  | new (c' : Addr) (ps : Array Value) : H c' = none → H1 = upd (upd H P (.tbl ps)) c' (CodeO c' q) → Made H P q H1
theorem lam_mk {Z : Addr → Prop} {q : Str} {c P : Addr} {params : Arguments} {body : Expr} {scope : Scope} {pos : Pos} {E : Value → Shared → Prop} {Q : Value → Shared → Prop} (I : Inv X pins σ H s) (TB : TabB X.base X.mg c P) (hcode : X.env.code = .ref c) (hq : X.env.qual ++ "<lambda>" = q)
    (hT : TabZ Z H P q) (hdef : defaultsOf params X.env = ([], [])) (hfree : ∀ y ∈ scope.names, y.2 = .free → ∃ c, X.env.cells.lookup y.1 = some c)
    (h : ∀ (f c' : Addr) (pm ctv : Value) (H1 : Hp) (s' : Shared), Inv X pins σ H1 s' → Made H P q H1 → TabZ (fun c => Z c ∨ H c = none) H1 P q →
      s'.heap.get? f = some (PySem.W.kla_obj "<lambda>" q params body scope (cloFrom X.env.cells scope.names []) pm c' ctv) → H1 c' = some (CodeO c' q) → Q (.ref f) s') :
    wpAny (model X.prog X.w) X.A (eval (.Lambda params body scope pos) X.env) Q E s := by
  subst hq
  obtain ⟨ps, hP, ht, ha⟩ := hT
  refine PySem.W.kla_eval hdef ?_
  have bP : s.heap.BuiltinsAt X.mg P := TB.bm.keeps I.bk
  have hP' : s.heap.get? P = some { cls := .none, data := .fields ps } := I.hok P _ hP
  cases hc : codeAmong pos ps.toList with
  | some cv =>
    obtain ⟨c', e, hz, hco⟩ := ha pos cv hc
    subst e
    exact PySem.W.kla_makeFunctionHit (mg := X.mg) (c := c) (P := P) (ps := ps) (closure_ok hfree) I.ok.glob (I.mod.glob.keeps I.bk) hcode (TB.code.keeps I.bk) hP' ht hc bP fun ctv h' tk hx hsz =>
      h h'.objs.size c' _ ctv H _ (I.kept fun b o e => Heap.get?_push_of_some _ (hx b o e)) (.same rfl) ⟨ps, hP, ht, fun pos cv h => let ⟨c0, e1, e2, e3⟩ := ha pos cv h; ⟨c0, e1, .inl e2, e3⟩⟩ (Heap.get?_push_size _ rfl) hco
  | none =>
    refine PySem.W.kla_makeFunction (mg := X.mg) (c := c) (P := P) (ps := ps) (closure_ok hfree) I.ok.glob (I.mod.glob.keeps I.bk) hcode (TB.code.keeps I.bk) hP' ht hc TB.gP bP fun c' ctv h' tk hx hge hlt hrec htb => ?_
    obtain ⟨c2, oc, vs, t, e2, hoc, hd, hv⟩ := hrec
    cases e2
    have nC : H c' = none := I.hok.fresh hge
    have nPc : P ≠ c' := ne_of_none hP nC
    have eL : (ps ++ #[rawInt pos.line, rawInt pos.col, .ref c']).toList = ps.toList ++ [rawInt pos.line, rawInt pos.col, .ref c'] := by simp
    refine h h'.objs.size c' _ ctv _ _ (inv_table (t' := tk) (more := #[rawInt pos.line, rawInt pos.col, .ref c']) (q := X.env.qual ++ "<lambda>") I hP (fun b o hb e => Heap.get?_push_of_some _ (hx b o hb e)) (Heap.get?_push_of_some _ htb) hge ⟨oc, vs, t, Heap.get?_push_of_some _ hoc, hd, hv⟩)
      (.new c' _ nC rfl) ⟨_, by rw [upd_ne nPc, upd_same], by rw [eL]; exact PySem.TriplesOk_snoc _ _ _ _ ht, fun p' cv hcv => ?_⟩ (Heap.get?_push_size _ rfl) upd_same
    rw [eL] at hcv
    rcases among_app _ ht hcv with z | z
    · obtain ⟨c0, e1, ez, e2⟩ := ha p' cv z
      have n1 : c0 ≠ c' := ne_of_none e2 nC
      have n2 : c0 ≠ P := fun w => by
        rw [w, hP] at e2
        exact codeO_ne ps (Option.some.inj e2).symm
      exact ⟨c0, e1, .inl ez, by rw [upd_ne n1, upd_ne n2]; exact e2⟩
    · exact ⟨c', z, .inr nC, upd_same⟩
end
section
variable {G : Glb} {K : PySem.W.Frag} {B : Bas} {M M' : List Addr} {τ : Tmp} {σ : L2.St} {ρ : Ev} {H H' H1 : Hp} {q : Str} {P : Addr}
/-- behind the making of a lambda -/
theorem Sem.lam (S : Sem G K B M τ σ ρ H) (hG : (P, q) ∈ G.L) (hu : ∀ p ∈ G.L, p.1 = P → p.2 = q) (hnT : P ∉ G.T) (hm : Made H P q H1) (hT : TabZ (fun c => c ∉ M ∨ H c = none) H1 P q) : Sem G K B M τ σ ρ H1 := by
  obtain ⟨hPM, ps0, hP0, _⟩ := S.tabs.l _ hG
  have hPt : G.tab P := .inr (List.mem_map.mpr ⟨_, hG, rfl⟩)
  cases hm with
  | same e => rw [e]; exact S
  | new c' ps nC e =>
    have nM : c' ∉ M := S.notM nC
    have nPc : P ≠ c' := fun z => nM (z ▸ hPM)
    have at_ : ∀ a, a ≠ P → a ≠ c' → H1 a = H a := fun a h1 h2 => by rw [e, upd_ne h2, upd_ne h1]
    have sm : Same (hid M H) (hid M H1) := fun a o ea => by
      obtain ⟨nm, ea⟩ := hid_some ea
      rw [hid_out nm, at_ a (fun z => nm (z ▸ hPM)) (ne_of_none ea nC)]
      exact ea
    have inM : ∀ a ∈ M, a ≠ P → H1 a = H a := fun a ha hp => at_ a hp fun z => nM (z ▸ ha)
    refine S.grow sm (fun a ha ht => inM a ha fun z => ht (z ▸ hPt)) (fun _ h => h) (fun a ha => ?_) ⟨fun P' hP' => ?_, fun p hp => ?_⟩
    · by_cases z : a = P
      · rw [z, e, upd_ne nPc, upd_same]; simp
      · rw [inM a ha z]; exact S.al a ha
    · obtain ⟨h1, ps', h2, h3⟩ := S.tabs.t P' hP'
      have n : P' ≠ P := fun z => hnT (z ▸ hP')
      exact ⟨h1, ps', by rw [inM P' h1 n]; exact h2, h3⟩
    · obtain ⟨h1, ps', h2, h3, h4⟩ := S.tabs.l p hp
      refine ⟨h1, ?_⟩
      by_cases z : p.1 = P
      · obtain ⟨ps1, e1, e2, e3⟩ := hT
        refine ⟨ps1, by rw [z]; exact e1, e2, fun pos cv hc => ?_⟩
        obtain ⟨c, e4, ez, e5⟩ := e3 pos cv hc
        refine ⟨c, e4, ?_⟩
        have hcM : c ∉ M := ez.elim id S.notM
        rw [hu p hp z, hid_out hcM]
        exact e5
      · refine ⟨ps', by rw [inM _ h1 z]; exact h2, h3, fun pos cv hc => ?_⟩
        obtain ⟨c, e4, e5⟩ := h4 pos cv hc
        exact ⟨c, e4, sm _ _ e5⟩
end
end TW
end
section
set_option Elab.async false
set_option linter.all false
set_option maxRecDepth 100000
set_option maxHeartbeats 4000000
/-! The layer, 21: sorted(range(n), key=lambda number: (right[number], number)) as an expression. -/
namespace TW
open PySem PySem.Spec PyProof.Rows L2
open LamX (CodeO TabS TabB inv_table among_app codeO_ne)
/-- by price, then by number -/
def lexI (ps : List Int) (i j : Nat) : Bool := decide (ps.getD i 0 < ps.getD j 0 ∨ (ps.getD i 0 = ps.getD j 0 ∧ i ≤ j))
def orderF (ps : List Int) : List Nat := (List.range ps.length).mergeSort (lexI ps)
def lexK (ps : List Int) (i : Nat) : PyData := .tuple [.int (ps.getD i 0), .int (i : Int)]
theorem lexK_le (ps : List Int) : PySem.W.dataLe false (lexK ps) = lexI ps := by
  have h := PySem.W.dataLe_ii (fun i : Nat => ps.getD i 0) (fun i : Nat => (i : Int))
  refine h.trans ?_
  funext p q
  simp [lexI]
theorem vals_nats : ∀ {vs : List Value} {ns : List Nat}, PySem.W.EachIs (fun v (i : Nat) => ∃ t, v = Value.int (i : Int) t) vs ns → Vals (ns.map fun i : Nat => V.int (i : Int)) vs := fun {vs ns} h => by
  induction h with
  | nil => exact .nil
  | cons r t ih => exact .cons r ih
theorem Vals.len2 : ∀ {xs : List V} {us : List Value}, Vals xs us → xs.length = us.length := fun h => h.length
section
variable {G : Glb} {X : Cx} {ρ ρ1 : Ev} {e : Expr}
theorem sortLam_tail {B : Bas} {M : List Addr} {τ : Tmp} {σ : L2.St} {pins : List (Addr × Obj)} {H : Hp} {s : Shared} {Q : VK} {ps : List Int} {iR kk : Nat} {r c P : Addr} {q : Str} {lp q1 q2 q3 q4 q5 : Pos} {params : Arguments} {scope : Scope}
    (hR : X.N[iR]? = some sR) (hcl : X.env.scope.names.lookup sR = some .cell) (hG : (P, q) ∈ G.L) (hu : ∀ p ∈ G.L, p.1 = P → p.2 = q) (hnT : P ∉ G.T) (TB : TabB X.base X.mg c P) (hcode : X.env.code = .ref c) (hq : X.env.qual ++ "<lambda>" = q)
    (hr : Room 1 X.A) (hz : ps.length ≤ 1000) (hv : ρ1[iR]? = some (some (.dat (.tuple (ps.map PyData.int)))))
    (hdef : defaultsOf params X.env = ([], [])) (hfree : ∀ y ∈ scope.names, y.2 = .free → y.1 = sR)
    (kind : scope.kind = .function) (co : scope.isCoroutine = false) (gen : scope.isGenerator = false) (nocell : ∀ y ∈ scope.names, y.2 ≠ .cell) (l1 : scope.names.lookup sN = some .local) (l2 : scope.names.lookup sR = some .free)
    (hbind : ∀ (clo : List (Str × Addr)) (pm cv ctv v : Value), bindArgs (PySem.W.kla_fn "<lambda>" q params (lamBody kk q1 q2 q3 q4 q5) scope clo pm cv ctv) ⟨[v], []⟩ = pure [(sN, v)])
    (I : Inv X pins σ H s) (S : Sem G X.K B M τ σ ρ1 H) (hrg : H r = some (.rng 0 (ps.length : Int)))
    (qq : ∀ (v : V) (M' : List Addr) (H' : Hp), Sem G X.K B M' ((v, .flat ((orderF ps).map nI)) :: τ) σ ρ1 H' → Q v H') :
    wpAny (model X.prog X.w) X.A (eval (.Lambda params (lamBody kk q1 q2 q3 q4 q5) scope lp) X.env) (fun f s1 => wpAny (model X.prog X.w) X.A (PySem.call (.builtin "sorted") [.ref r] [(Str.ofString "key", f)]) (EP X pins σ Q) X.xe s1) X.xe s := by
  obtain ⟨c0, hc0⟩ := I.ok.has sR (.inl hcl)
  have hPt := S.tabs.l _ hG
  have hTZ : TabZ (fun a => a ∉ M) H P q := by
    obtain ⟨_, ps0, e1, e2, e3⟩ := hPt
    exact ⟨ps0, e1, e2, fun pos cv h => let ⟨c1, q1, q2⟩ := e3 pos cv h; ⟨c1, q1, (hid_some q2).1, (hid_some q2).2⟩⟩
  refine lam_mk I TB hcode hq hTZ hdef (fun y hy hf => ⟨c0, by rw [hfree y hy hf]; exact hc0⟩) fun f c' pm ctv H1 s1 I1 hm hT hf hco => ?_
  have S1 := S.lam hG hu hnT hm hT
  have hrg1 : H1 r = some (.rng 0 (ps.length : Int)) := by
    cases hm with
    | same e => rw [e]; exact hrg
    | new c2 ps2 n2 e =>
      obtain ⟨_, ps0, e1, _⟩ := hPt
      have n1 : r ≠ P := fun z => by
        rw [z] at hrg
        rw [hrg] at e1
        cases e1
      rw [e, upd_ne (ne_of_none hrg n2), upd_ne n1]
      exact hrg
  obtain ⟨u0, v0, w0, hr0⟩ := I1.hok _ _ hrg1
  obtain ⟨vT, eT, hT0⟩ := S1.slotD hv
  obtain ⟨m, hn, hl⟩ := id I1.loc
  obtain ⟨u, ru, lk⟩ := hl iR sR vT hR eT (.inr (.inl hcl))
  rcases lk with ⟨k', _⟩ | ⟨_, c3, hc3, hcell⟩
  · have k' : X.env.scope.names.lookup sR = some .local := k'
    rw [hcl] at k'
    cases k'
  cases hT0 with
  | @tup T xs ds hTt hxs =>
  obtain rfl : u = .ref T := ru
  have exs := dpa_ints_of hxs
  subst exs
  obtain ⟨its, rits, hits, _⟩ := I1.tuple (SqT.of (hid_some hTt).2)
  have hclo : (cloFrom X.env.cells scope.names []).lookup sR = some c3 := by
    have hy : (sR, NameKind.free) ∈ scope.names := PySem.mem_of_lookup l2
    obtain ⟨c4, h4⟩ := mem_lookup (cloFrom_has (cells := X.env.cells) (acc := []) hy)
    rw [h4]
    rcases cloFrom_mem (PySem.mem_of_lookup h4) with hm | ⟨_, h2⟩
    · cases hm
    · rw [h2, hc3] <;> rfl
  refine sorted_rangeKey (lexK ps) hr.hd hr0 (by omega) (fun d hd d' hd' => ?_) (.inl fun d hd => ?_) (fun x _ => ?_) (fun i t hi h tk kp => ?_) (fun h1 tk1 out cc h' tk k1 k2 hD hO => ?_)
  · obtain ⟨i, _, rfl⟩ := List.mem_map.mp hd
    obtain ⟨j, _, rfl⟩ := List.mem_map.mp hd'
    simp [lexK, PySem.W.alike, PySem.W.alikeAll]
  · obtain ⟨i, _, rfl⟩ := List.mem_map.mp hd
    exact ⟨_, _, rfl⟩
  · have := hr.units
    have e1 : (lexK ps x).depth = 1 := by simp [lexK, PyData.depth, PyData.depthAll]
    rw [e1]
    omega
  · have I2 := I1.kept (t' := tk) kp
    have hx : ps[i]? = some (ps.getD i 0) := by rw [List.getD_eq_getElem?_getD, List.getElem?_eq_getElem hi]; rfl
    obtain ⟨o2, h2a, h2b⟩ := hcell
    obtain ⟨o3, h3a, h3b⟩ := hits
    exact lam_turn (c' := c') (cR := c3) (T := T) (ns := ps) (its := its) (x := ps.getD i 0) (by have := hr.depth; exact this) I2.nolimit (kp _ _ hf) (I2.hok _ _ hco).1 kind co gen nocell l1 l2 (fun v => hbind _ _ _ _ v) hclo ⟨o2, kp _ _ h2a, h2b⟩ ⟨o3, kp _ _ h3a, h3b⟩ rits hx (by omega)
  · rw [lexK_le] at hO
    have hV := vals_nats hO
    have nL : H1 h1.objs.size = none := (I1.kept (t' := tk1) k1).hok.fresh (Nat.le_refl _)
    have hlen : ((orderF ps).map fun i : Nat => V.int (i : Int)).length ≤ sizeLine := by
      rw [List.length_map]
      unfold orderF
      rw [List.length_mergeSort, List.length_range]
      exact sz_le (by omega)
    have I3 := (I1.kept (t' := tk1) k1).laid (h' := h') (t' := tk) (a := h1.objs.size) (o := .lst ((orderF ps).map fun i : Nat => V.int (i : Int))) k2 (Nat.le_refl _) (show ObjOk X.prog X.w _ _ _ (.lst _) from ⟨hlen, _, cc, hV, hD⟩)
    refine ⟨.ref h1.objs.size, _, I3, rfl, qq _ _ _ (S1.pushNew nL fun H' M' sm e n => ⟨_, _, rfl, rfl, n, e, ?_⟩)⟩
    exact dpa_map (fun i => .int _) _
theorem de_sortLam {ps : List Int} {iR kk : Nat} {c P : Addr} {q : Str} {p p2 p3 kp lp pos q1 q2 q3 q4 q5 : Pos} {params : Arguments} {scope : Scope}
    (hR : X.N[iR]? = some sR) (hcl : X.env.scope.names.lookup sR = some .cell) (hG : (P, q) ∈ G.L) (hu : ∀ p ∈ G.L, p.1 = P → p.2 = q) (hnT : P ∉ G.T) (TB : TabB X.base X.mg c P) (hcode : X.env.code = .ref c) (hq : X.env.qual ++ "<lambda>" = q)
    (hr : Room 1 X.A) (hz : ps.length ≤ 1000) (hm : X.mg "sorted" = none) (hm2 : X.mg "range" = none)
    (hn : DE G X e ρ (.dat (.int (ps.length : Int))) ρ1) (hv : ρ1[iR]? = some (some (.dat (.tuple (ps.map PyData.int)))))
    (hdef : defaultsOf params X.env = ([], [])) (hfree : ∀ y ∈ scope.names, y.2 = .free → y.1 = sR)
    (kind : scope.kind = .function) (co : scope.isCoroutine = false) (gen : scope.isGenerator = false) (nocell : ∀ y ∈ scope.names, y.2 ≠ .cell) (l1 : scope.names.lookup sN = some .local) (l2 : scope.names.lookup sR = some .free)
    (hbind : ∀ (clo : List (Str × Addr)) (pm cv ctv v : Value), bindArgs (PySem.W.kla_fn "<lambda>" q params (lamBody kk q1 q2 q3 q4 q5) scope clo pm cv ctv) ⟨[v], []⟩ = pure [(sN, v)])
    (hg : Gl X "sorted" := by rfl) (hg2 : Gl X "range" := by rfl) 
    (na : starEach [e] X.env = (false, eval e X.env) :: starEach [] X.env := by rfl)
    (he : backTo pos (starEach [Expr.Call (.Name "range" p2) [e] [] p3] X.env) = (false, eval (Expr.Call (.Name "range" p2) [e] [] p3) X.env) :: backTo pos (starEach [] X.env) := by rfl) :
    DE G X (.Call (.Name "sorted" p) [.Call (.Name "range" p2) [e] [] p3] [⟨some "key", .Lambda params (lamBody kk q1 q2 q3 q4 q5) scope lp, kp⟩] pos) ρ (.flat ((orderF ps).map nI)) ρ1 := fun B M τ σ H S Q qq pins s I => by
  refine wpAny_Call_Name_kw (ld_blt (u := .builtin "sorted") I hg hm (by decide +kernel) ?_ (by decide))
  refine PyProof.Rows.callWith_kw ?_ he rfl rfl rfl
  refine Calls.spliced_cons (Call_ (ld_blt I hg2 hm2 boot_range (PyProof.Rows.callWith_type1 (one_arg pE I (hn B M τ σ H S (fun x H2 => ∃ M1, x = V.int (ps.length : Int) ∧ Sem G X.K B M1 τ σ ρ1 H2) fun v M1 H1 S1 => ⟨M1, by have t := S1.headD; cases t; rfl, S1.pop⟩) (fun v s2 x H2 I2 r z => ?_) na) na)))
  obtain ⟨M1, rfl, S2⟩ := z
  obtain ⟨tk0, rfl⟩ := r
  refine call_range_1 ?_
  have nR : H2 s2.heap.objs.size = none := I2.hok.fresh (Nat.le_refl _)
  refine args_nil ?_
  refine kws_cons ?_
  refine wpAny_mono (sortLam_tail (r := s2.heap.objs.size) hR hcl hG hu hnT TB hcode hq hr hz hv hdef hfree kind co gen nocell l1 l2 hbind (I2.laid (o := .rng 0 (ps.length : Int)) (fun b o e => Heap.get?_push_of_some _ e) (Nat.le_refl _) (show ObjOk X.prog X.w _ _ _ (.rng 0 (ps.length : Int)) from ⟨_, _, _, IsRange.new s2.heap 0 (ps.length : Int) 1 _ _ _⟩)) (S2.new nR) upd_same qq) (fun v s3 h => kws_nil h) fun _ _ x => x
end
end TW
end
section
set_option Elab.async false
set_option linter.all false
set_option maxRecDepth 100000
set_option maxHeartbeats 4000000
/-! The layer, 22: defs whose code object is known. -/
namespace TW
open PySem PySem.Spec PyProof.Rows L2
def CodeAt (K : PySem.W.Frag) (f c : Addr) : Prop := ∀ (oc : Value) (od : Option Addr) (fd : FuncData) (osl : Array (Option Value)), K.lookup f = some ⟨oc, od, .func fd, osl⟩ → fd.code = .ref c
section
variable {G : Glb} {P : Program} {w : World} {K : PySem.W.Frag} {mg : Str → Option Value} {base : Heap} {name qual : Str} {args : Arguments} {body : List Stmt} {scope : Scope} {f c : Addr} {fd : FuncData} {N ps : List Str} {k : Nat}
theorem okC {CX : CXT} {dvs : List V} {kws : List (Str × V)} {sp : Sp} (F : FunD K name qual args body scope dvs kws f fd) (hC : CodeAt K f c) (S : FnScope N ps scope) (len : ∀ vs H Q E, sp vs H Q E → vs.length = ps.length)
    (hbody : ∀ (A : Around) (outer : List Env) (s : Shared) (H : Hp) (vs : List V) (Q : VK) (E : XK), Room k (A.deeper (envOfC qual scope s.heap.objs.size f (.ref c))) → sp vs H Q E →
      ∃ t, PSs (cxOf CX P w K mg base N qual scope f (.ref c) A outer s H E) body t ∧ t { nx := fun _ H' => Q .non H', rt := Q } (L2.start N vs) H) : FnOk P w K mg base CX (k + 1) f fd ps sp := by
  obtain ⟨oc, od, dV, kV, doc, pm, an, cdv, ct, osl, rfl, lk, hcd, _, _⟩ := F.ex
  have e : cdv = .ref c := hC _ _ _ _ lk
  subst e
  exact fn_of lk hcd S len fun A outer s H vs Q E hr hsp => hbody A outer s H vs Q E hr hsp
abbrev FnC (K : PySem.W.Frag) (mg : Str → Option Value) (x name qual : Str) (args : Arguments) (body : List Stmt) (scope : Scope) (c : Addr) : Prop := ∃ f fd, FunD K name qual args body scope [] [] f fd ∧ mg x = some (.ref f) ∧ CodeAt K f c
theorem callDC {x : Str} {R : List PyData → PyData → Prop} (F : FnC K mg x name qual args body scope c) (S : FnScope N ps scope)
    (hb : ∀ (kV doc pm : Value) (an : Option Addr) (cdv ct : Value) (us : List Value), us.length = ps.length → bindArgs (PySem.W.fnOf name qual args body scope .none kV doc pm an cdv ct) ⟨us, []⟩ = pure (ps.zip us))
    (hw : ∀ (f : Addr) (A : Around) (outer : List Env) (s : Shared) (H : Hp) (E : XK), Room k (CD P w K mg base N qual scope f (.ref c) A outer s H E).A → ∀ ds d, R ds d → WSs G (CD P w K mg base N qual scope f (.ref c) A outer s H E) body (startE N.length (ds.map AV.dat)) (Ret d)) :
    Call P w K mg base (k + 1) x (spD G ps.length R) := by
  obtain ⟨f, fd, F, hm, hC⟩ := F
  refine ⟨f, fd, ps, okC F hC S (fun vs H Q E h => ?_) (fun A outer s H vs Q E hr h => ?_), hm, F.kp, F.bindsN hb⟩
  · obtain ⟨M, ds, d, h1, _⟩ := h
    exact h1
  · obtain ⟨M, ds, d, h1, h2, al, T, hR, q⟩ := h
    refine ⟨_, PSs.nox pSs, ?_⟩
    refine hw f A outer s H E hr ds d hR _ M [] _ H (fun x hx => by cases hx) (Sem.start h2 al T rfl) _ (fun ρ' M' σ' H' e S => ?_) (fun av ρ' v M' σ' H' e S => ?_) (fun _ _ _ _ e _ => e.elim) (fun _ _ _ _ e _ => e.elim)
    · have e : d = .none := e
      subst e
      exact q _ _ _ S.post .non
    · have e : av = .dat d := e
      subst e
      exact q _ _ _ S.post S.headD
end
end TW
end
section
set_option Elab.async false
set_option linter.all false
set_option maxRecDepth 100000
set_option maxHeartbeats 4000000
/-! The layer, 23: any, all of a generator expression over a tuple; the element may call. -/
namespace TW
open PySem PySem.Spec PyProof.Rows L2
open GxR (TabB TabG Tabbed inv_tab sh_eta GenS keeps_tok keeps_refl)
section
variable {X : Cx} {pins : List (Addr × Obj)} {σ : L2.St} {H : Hp} {s : Shared}
/-- the element's value at each place, in every later state -/
def EltAt (X : Cx) (scope : Scope) (x : Str) (elt : Expr) (P : Addr) (vs : Array Value) (pb : Nat → Bool) (s1 : Shared) : Prop :=
  ∀ (L : Addr) (code : Value) (bi : Addr) (A' : Around) (E' : Value → Shared → Prop) (i : Nat) (v : Value) (s₂ : Shared) (m₂ : Str → Option Value), A'.handled = none → A'.depth ≤ X.A.depth + 1 → A'.units ≤ X.A.units + 8 → vs[i]? = some v →
    s₂.heap.Ns L m₂ → m₂ x = some v → (∀ b o, b ≠ P → s1.heap.get? b = some o → s₂.heap.get? b = some o) →
    wpAny (model X.prog X.w) A' (eval elt (genEnv scope (cloFrom X.env.cells scope.names []) L code bi X.env)) (fun y s₃ => y = .bool (pb i) ∧ Keeps s₂ s₃) E' s₂
def ReadyT (X : Cx) (pins : List (Addr × Obj)) (σ : L2.St) (H1 : Hp) (P : Addr) (n : Nat) (pb : Nat → Bool) (g : Addr) (s5 : Shared) : Prop :=
  ∃ (fp wr : List Addr) (G : Array GenState → Array GenState → Prop) (F : Nat → Value → Prop) (St : Nat → Shared → Prop),
    WalksS X.prog X.w X.A.in1 g fp wr G n F St ∧ St 0 s5 ∧ TruthOf X.prog X.w X.A.in1 F pb ∧ ∀ s', Moved wr G s5 s' → ∃ H2, Tabbed P H1 H2 ∧ Inv X pins σ H2 s'
theorem gen_tup {c P : Addr} {elt iter : Expr} {x : Str} {px gpos : Pos} {scope : Scope} {k : Nat} {Q' : Value → Shared → Prop} {R : Array Value → (Nat → Bool) → Hp → Prop}
    (hr : Room k X.A) (TB : TabB X.base X.mg c P) (hcode : X.env.code = .ref c) (S : GenS X.env scope x)
    (hs : ∀ v, genFold iter X.env v = pure v)
    (h : wpAny (model X.prog X.w) X.A (eval iter X.env) (fun v s1 => ∃ (T : Addr) (H1 : Hp) (vs : Array Value) (pb : Nat → Bool), v = .ref T ∧ Inv X pins σ H1 s1 ∧ s1.heap.IsTuple T vs ∧ TabG H1 P ∧ EltAt X scope x elt P vs pb s1 ∧ R vs pb H1) X.xe s)
    (hQ : ∀ vs pb H1 g s5, R vs pb H1 → ReadyT X pins σ H1 P vs.size pb g s5 → Q' (.ref g) s5) :
    wpAny (model X.prog X.w) X.A (eval (.GeneratorExp elt [⟨.Name x px, iter, [], 0⟩] scope gpos) X.env) Q' X.xe s := by
  refine wpAny_GeneratorExp_walksQD hr.hd S.co (closure_ok S.free) S.cell S.dot S.loc S.kind (by have := hr.dp; omega) ?_ hs
  refine wpAny_mono h (fun xv s1 h1 => ?_) fun _ _ e => e
  obtain ⟨T, H1, vs, pb, rfl, I1, hT, ⟨ps, hP, ht⟩, hel, q1⟩ := h1
  refine wpAny_pyIter_tuple hT ?_
  have hPs : s1.heap.get? P = some { cls := .none, data := .fields ps } := I1.hok P _ hP
  have hPlt : P < s1.heap.objs.size := Heap.lt_size hPs
  have hof : ({ cls := .type "tuple_iterator", data := .fields #[.ref T, .int 0 0] } : Obj).isFreed = false := rfl
  generalize ho : ({ cls := .type "tuple_iterator", data := .fields #[.ref T, .int 0 0] } : Obj) = o at hof
  have hP2 : (s1.heap.push o).get? P = some { cls := .none, data := .fields ps } := Heap.get?_push_of_some _ hPs
  have cd : PySem.W.CodeHd (s1.heap.push o) c P := TB.code.keeps fun b u e => Heap.get?_push_of_some _ (I1.bk b u e)
  have lim2 : (s1.heap.push o).NoLimit := I1.nolimit.push o
  have hTlt : T < s1.heap.objs.size := let ⟨_, e, _⟩ := hT; Heap.lt_size e
  have hTP : T ≠ P := fun z => by
    obtain ⟨oT, e, e2, _⟩ := hT
    rw [z, hPs] at e
    cases e
    cases e2
  have hne : T ≠ s1.heap.objs.size := Nat.ne_of_lt hTlt
  have cont : ∀ (code : Value) (h3 : Heap) (tk : Nat) (ps' : Array Value), Heap.ExtBut P (s1.heap.push o) h3 → (s1.heap.push o).objs.size ≤ h3.objs.size → h3.get? P = some { cls := .none, data := .fields ps' } → (∃ more, ps' = ps ++ more) → TriplesOk ps'.toList →
      wpAny (model X.prog X.w) X.A (builtinsFor X.env.globals X.env.builtins) (fun bi s₄ =>
        ∃ Ia fp wr n₀ Pf St₀ pz F, Value.ref s1.heap.objs.size = .ref Ia ∧ (∀ A' : Around, A'.handled = none → Walks X.prog X.w A' Ia fp wr n₀ Pf St₀) ∧ St₀ 0 s₄.heap ∧ (∀ b ∈ fp, b < s₄.heap.objs.size) ∧ s₄.heap.NoLimit ∧ cStatics ∉ wr ∧
          (∀ href : Heap, (∀ b o, s₄.heap.get? b = some o → href.get? b = some o) →
            QuietGenD X.prog X.w (genEnv scope (cloFrom X.env.cells scope.names []) s₄.heap.objs.size code bi X.env) x [] elt (List.range s₄.heap.objs.size) wr Pf pz F href (X.A.depth + 1) (X.A.units + 8)) ∧
          (∀ a h₅ tk gs, gs.bare = true → s₄.heap.objs.size < a → h₅.objs.size = a + 1 → (∀ b o, s₄.heap.get? b = some o → h₅.get? b = some o) →
            WalksS X.prog X.w X.A.in4 a (a :: s₄.heap.objs.size :: List.range s₄.heap.objs.size) (s₄.heap.objs.size :: wr) (GenOnlyQ s₄.gens.size) (passing pz n₀ 0).length
              (fun j y => ∃ i, (passing pz n₀ 0)[j]? = some i ∧ F i y) (GenAt X.prog X.w X.A.in4 a s₄.gens.size s₄.heap.objs.size (List.range s₄.heap.objs.size) wr pz n₀ F) →
            GenAt X.prog X.w X.A.in4 a s₄.gens.size s₄.heap.objs.size (List.range s₄.heap.objs.size) wr pz n₀ F 0 { s₄ with gens := s₄.gens.push gs, toks := tk, heap := h₅ } →
            Q' (.ref a) { s₄ with gens := s₄.gens.push gs, toks := tk, heap := h₅ })) X.xe { s1 with heap := h3, toks := tk } := by
    intro code h3 tk ps' hx hsz hP3 hmore ht3
    obtain ⟨bm, ob, e1, e2, e3, e4, e5, e6, e7, e8⟩ := TB.bm
    have hcP : cStatics ≠ P := fun e => by
      obtain ⟨_, hns, _⟩ := I1.nolimit
      obtain ⟨o', es, ep, ho, hd, _⟩ := hns
      rw [e, hPs] at ho
      cases ho
      cases hd
    have hcl : cStatics < s1.heap.objs.size := let ⟨_, hns, _⟩ := I1.nolimit; hns.lt
    have sz2 : (s1.heap.push o).objs.size = s1.heap.objs.size + 1 := Heap.size_push ..
    have keep3 : ∀ b u, b ≠ P → s1.heap.get? b = some u → h3.get? b = some u := fun b u hb e => hx b u hb (Heap.get?_push_of_some _ e)
    refine wpAny_builtinsFor (m := X.mg) (by rw [I1.ok.glob]; exact ((I1.mod.glob.keeps I1.bk).push o).extBut hx TB.gP) e1 e2 (keep3 _ _ e4 (I1.bk _ _ e5)) e6 e7 e8 ?_
    have hPI : s1.heap.objs.size ≠ P := fun z => Nat.lt_irrefl _ (z ▸ hPlt)
    refine ⟨s1.heap.objs.size, [s1.heap.objs.size, T], [s1.heap.objs.size], vs.size, (fun i v => vs[i]? = some v), _, (fun _ => true), (fun i y => y = .bool (pb i)), rfl, fun A' hA => Walks.tuple hA s1.heap.objs.size T hne vs, ?_, ?_, lim2.extBut hx hcP, ?_, ?_, ?_⟩
    · refine ⟨?_, ?_⟩
      · have e := hx s1.heap.objs.size o hPI (Heap.get?_push_size _ hof)
        exact ⟨o, e, by rw [← ho], by rw [← ho]; rfl⟩
      · obtain ⟨oT, e, r⟩ := hT
        exact ⟨oT, keep3 _ _ hTP e, r⟩
    · intro b hb
      rcases List.mem_cons.mp hb with z | z
      · rw [z]
        exact Nat.lt_of_lt_of_le (Nat.lt_succ_self _) (by rw [sz2] at hsz; exact hsz)
      · rcases List.mem_cons.mp z with z | z
        · rw [z]
          exact Nat.lt_of_lt_of_le hTlt (by rw [sz2] at hsz; exact Nat.le_trans (Nat.le_succ _) hsz)
        · cases z
    · intro z
      rcases List.mem_cons.mp z with z | z
      · exact Nat.ne_of_lt hcl z
      · cases z
    · intro href hhref
      refine ⟨fun A' E' i v s₂ m₂ hA _ _ hPv hn hm hk => ?_, fun A' E' i v s₂ m₂ hA hD hU hPv hp hn hm hk => ?_⟩
      · simp only [List.forIn_nil]
        exact wpAny_pure ⟨rfl, keeps_refl _⟩
      · refine hel _ code _ A' E' i v s₂ m₂ hA hD hU hPv hn hm fun b u hb e => ?_
        refine hk b (List.mem_range.mpr (Heap.lt_size (keep3 b u hb e))) (fun z => ?_) u (hhref b u (keep3 b u hb e))
        rcases List.mem_cons.mp z with z | z
        · exact Nat.lt_irrefl _ (z ▸ Heap.lt_size e)
        · cases z
    · intro g h5 tk5 gs hgb hag hsz5 hk5 W5 hat
      simp only [GxR.passing_true, List.length_range] at W5
      refine hQ vs pb H1 g _ q1 ⟨_, _, _, _, _, W5.in4_1, hat, ?_, fun s' hm => ?_⟩
      · intro j y sj Qj Ej hy hQj
        obtain ⟨i, hij, rfl⟩ := hy
        obtain ⟨hj, ej⟩ := List.getElem?_eq_some_iff.mp hij
        rw [List.getElem_range] at ej
        subst ej
        exact wpAny_truthy_bool hQj
      · obtain ⟨more, em⟩ := hmore
        have nwr : ∀ b u, s1.heap.get? b = some u → b ∉ h3.objs.size :: [s1.heap.objs.size] := fun b u e hb => by
          have hl := Heap.lt_size e
          rcases List.mem_cons.mp hb with z | z
          · rw [z] at hl
            have h9 : (h3.objs.size : Nat) < s1.heap.objs.size := hl
            omega
          · rcases List.mem_cons.mp z with z | z
            · rw [z] at hl
              exact Nat.lt_irrefl _ hl
            · cases z
        have J := inv_tab (more := more) (h' := s'.heap) (g' := s'.gens) (d' := s'.drawn) (t' := s'.toks) I1 hP (fun b u hb e => hm.heap b u (nwr b u e) (hk5 b u (keep3 b u hb e)))
          (by rw [← em]; exact hm.heap P _ (nwr P _ hPs) (hk5 P _ hP3)) (AllBare.movedS (I1.bare.push hgb) hm)
        rw [sh_eta s1 s' hm.os] at J
        refine ⟨upd H1 P (.tbl (ps ++ more)), ⟨⟨ps ++ more, upd_same, by rw [← em]; exact ht3⟩, fun b hb => upd_ne hb⟩, J⟩
  refine ⟨lim2, ?_⟩
  cases hf : codeAmong gpos ps.toList with
  | none =>
    refine wpAny_genexprCodeX hcode (cd.code hP2 ht) (cd.tab hP2) hf fun c' h' tk hx hge hlt hco' _ htab' _ => ?_
    obtain ⟨o1, vs, f1, tf, fl, tg, inF, tx, tt, op, _, _, _, _, _, _, _, _, _, htr, _⟩ := hco'
    exact cont _ h' tk _ hx (Nat.le_trans hge (Nat.le_of_lt hlt)) htab'.2 ⟨_, rfl⟩ htr
  | some cv =>
    refine wpAny_genexprCode_hit hcode (cd.code hP2 ht) hf ?_
    exact cont cv (s1.heap.push o) s1.toks ps (Heap.ExtBut.refl _ _) (Nat.le_refl _) hP2 ⟨#[], by simp⟩ ht
end
end TW
end
section
set_option Elab.async false
set_option linter.all false
set_option maxRecDepth 100000
set_option maxHeartbeats 4000000
/-! The layer, 24: any, all of a generator expression over a tuple, as expressions. -/
namespace TW
open PySem PySem.Spec PyProof.Rows L2
open GxR (TabB TabG Tabbed GenS)
section
variable {G : Glb} {K : PySem.W.Frag} {B : Bas} {M : List Addr} {τ : Tmp} {σ : L2.St} {ρ ρ1 : Ev} {H H' : Hp} {P : Addr}
theorem Sem.tabbed (S : Sem G K B M τ σ ρ H) (hP : P ∈ G.T) (hnL : ∀ p ∈ G.L, p.1 ≠ P) (hT : Tabbed P H H') : Sem G K B M τ σ ρ H' := by
  obtain ⟨t1, t2⟩ := hT
  have hPM : P ∈ M := (S.tabs.t P hP).1
  have sm : Same (hid M H) (hid M H') := fun a o e => by
    obtain ⟨n, e⟩ := hid_some e
    rw [hid_out n, t2 a (fun z => n (z ▸ hPM))]
    exact e
  refine S.grow sm (fun a ha ht => t2 a fun z => ht (z ▸ .inl hP)) (fun _ h => h) (fun a ha => ?_) ⟨fun P' hP' => ⟨(S.tabs.t P' hP').1, ?_⟩, fun p hp => ?_⟩
  · by_cases z : a = P
    · obtain ⟨ps, e, _⟩ := t1
      rw [z, e]
      simp
    · rw [t2 a z]
      exact S.al a ha
  · by_cases z : P' = P
    · rw [z]
      exact t1
    · obtain ⟨_, ps, e, q⟩ := S.tabs.t P' hP'
      exact ⟨ps, by rw [t2 _ z]; exact e, q⟩
  · obtain ⟨h1, ps, e, q1, q2⟩ := S.tabs.l p hp
    refine ⟨h1, ps, by rw [t2 _ (hnL p hp)]; exact e, q1, fun pos cv hc => ?_⟩
    obtain ⟨c, e1, e2⟩ := q2 pos cv hc
    exact ⟨c, e1, sm _ _ e2⟩
end
section
variable {G : Glb} {X : Cx} {ρ ρ1 : Ev} {P c : Addr} {elt iter : Expr} {x : Str} {px p pos gpos : Pos} {scope : Scope} {k : Nat} {ds : List PyData} {pb : Nat → Bool}
/-- the element's values, from the state behind the iterable -/
def EltS (G : Glb) (X : Cx) (scope : Scope) (x : Str) (elt : Expr) (P : Addr) (ds : List PyData) (pb : Nat → Bool) (ρ1 : Ev) : Prop :=
  ∀ (B : Bas) (M : List Addr) (τ : Tmp) (σ : L2.St) (H : Hp) (pins : List (Addr × Obj)) (s1 : Shared) (xs : List V) (us : List Value), Sem G X.K B M τ σ ρ1 H → Inv X pins σ H s1 → TabG H P → DqAll (hid M H) xs ds → Vals xs us → EltAt X scope x elt P us.toArray pb s1
theorem gen_de {B : Bas} {M : List Addr} {τ : Tmp} {σ : L2.St} {H : Hp} {pins : List (Addr × Obj)} {s : Shared} {Q' : Value → Shared → Prop} (hr : Room k X.A) (TB : TabB X.base X.mg c P) (hcode : X.env.code = .ref c) (hP : P ∈ G.T) (GS : GenS X.env scope x)
    (hi : DE G X iter ρ (.dat (.tuple ds)) ρ1) (hel : EltS G X scope x elt P ds pb ρ1) (hs : ∀ v, genFold iter X.env v = pure v) (S : Sem G X.K B M τ σ ρ H) (I : Inv X pins σ H s)
    (hQ : ∀ M1 H1 g s5, Sem G X.K B M1 τ σ ρ1 H1 → ReadyT X pins σ H1 P ds.length pb g s5 → Q' (.ref g) s5) :
    wpAny (model X.prog X.w) X.A (eval (.GeneratorExp elt [⟨.Name x px, iter, [], 0⟩] scope gpos) X.env) Q' X.xe s := by
  refine gen_tup (pins := pins) (σ := σ) (R := fun vs pb' H1 => pb' = pb ∧ vs.size = ds.length ∧ ∃ M1, Sem G X.K B M1 τ σ ρ1 H1) hr TB hcode GS hs ?_ fun vs pb' H1 g s5 ⟨e1, e2, M1, S1⟩ h => ?_
  · refine wpAny_mono (hi B M τ σ H S (fun v H1 => ∃ M1, Sem G X.K B M1 ((v, .dat (.tuple ds)) :: τ) σ ρ1 H1) (fun v M' H' S' => ⟨M', S'⟩) pins s I) (fun u s1 h1 => ?_) fun _ _ e => e
    obtain ⟨v, H1, I1, r1, M1, S1⟩ := h1
    have t := S1.headD
    cases t with
    | @tup T xs _ hT hxs =>
      obtain rfl : u = .ref T := r1
      obtain ⟨its, rv, hits, _⟩ := I1.tuple (SqT.of (hid_some hT).2)
      have tg := (S1.tabs.t P hP).2
      exact ⟨T, H1, its.toArray, pb, rfl, I1, hits, tg, hel B M1 τ σ H1 pins s1 xs its S1.pop I1 tg hxs rv, rfl, by rw [List.size_toArray, ← rv.length, dpa_len hxs], M1, S1.pop⟩
  · subst e1
    rw [e2] at h
    exact hQ M1 H1 g s5 S1 h
theorem de_anyG (hr : Room k X.A) (hm : X.mg "any" = none) (TB : TabB X.base X.mg c P) (hcode : X.env.code = .ref c) (hP : P ∈ G.T) (hnL : ∀ p ∈ G.L, p.1 ≠ P) (GS : GenS X.env scope x) (hi : DE G X iter ρ (.dat (.tuple ds)) ρ1) (hel : EltS G X scope x elt P ds pb ρ1) (hg : Gl X "any" := by rfl)
    (hs : ∀ v, genFold iter X.env v = pure v := by intro _; rfl)
    (he : starEach [.GeneratorExp elt [⟨.Name x px, iter, [], 0⟩] scope gpos] X.env = (false, eval (.GeneratorExp elt [⟨.Name x px, iter, [], 0⟩] scope gpos) X.env) :: starEach [] X.env := by rfl) :
    DE G X (.Call (.Name "any" p) [.GeneratorExp elt [⟨.Name x px, iter, [], 0⟩] scope gpos] [] pos) ρ (.dat (.bool ((List.range ds.length).any pb))) ρ1 := fun B M τ σ H S Q q pins s I => by
  refine wpAny_Call_Name_kw (ld_blt I hg hm boot_any ?_)
  refine PyProof.Rows.callWith_builtin1 ?_ he (by rfl)
  rw [he]
  show wpAny _ _ (spliced ((false, eval (.GeneratorExp elt [⟨.Name x px, iter, [], 0⟩] scope gpos) X.env) :: backTo pos (starEach [] X.env))) _ _ s
  refine Calls.spliced_cons (gen_de hr TB hcode hP GS hi hel hs S I fun M1 H1 g s5 S1 hG => ?_)
  obtain ⟨fp, wr, G', F, St, W, hst, htr, hI⟩ := hG
  refine Calls.spliced_nil ?_
  refine call_any_walkS (W.self 0 _ _ _ hst ⟨g, fp, wr, G', _, F, St, _, rfl, W, hst, htr, fun s' hmv => ?_⟩)
  obtain ⟨H2, hT, J⟩ := hI s' hmv
  exact ⟨.bl _, H2, J, rfl, q _ M1 H2 ((S1.tabbed hP hnL hT).push (.bl _))⟩
theorem de_allG (hr : Room k X.A) (hm : X.mg "all" = none) (TB : TabB X.base X.mg c P) (hcode : X.env.code = .ref c) (hP : P ∈ G.T) (hnL : ∀ p ∈ G.L, p.1 ≠ P) (GS : GenS X.env scope x) (hi : DE G X iter ρ (.dat (.tuple ds)) ρ1) (hel : EltS G X scope x elt P ds pb ρ1) (hg : Gl X "all" := by rfl)
    (hs : ∀ v, genFold iter X.env v = pure v := by intro _; rfl)
    (he : starEach [.GeneratorExp elt [⟨.Name x px, iter, [], 0⟩] scope gpos] X.env = (false, eval (.GeneratorExp elt [⟨.Name x px, iter, [], 0⟩] scope gpos) X.env) :: starEach [] X.env := by rfl) :
    DE G X (.Call (.Name "all" p) [.GeneratorExp elt [⟨.Name x px, iter, [], 0⟩] scope gpos] [] pos) ρ (.dat (.bool ((List.range ds.length).all pb))) ρ1 := fun B M τ σ H S Q q pins s I => by
  refine wpAny_Call_Name_kw (ld_blt (u := .builtin "all") I hg hm (by decide +kernel) ?_)
  refine PyProof.Rows.callWith_builtin1 ?_ he (by rfl)
  rw [he]
  show wpAny _ _ (spliced ((false, eval (.GeneratorExp elt [⟨.Name x px, iter, [], 0⟩] scope gpos) X.env) :: backTo pos (starEach [] X.env))) _ _ s
  refine Calls.spliced_cons (gen_de hr TB hcode hP GS hi hel hs S I fun M1 H1 g s5 S1 hG => ?_)
  obtain ⟨fp, wr, G', F, St, W, hst, htr, hI⟩ := hG
  refine Calls.spliced_nil ?_
  refine call_all_walkS (W.self 0 _ _ _ hst ⟨g, fp, wr, G', _, F, St, _, rfl, W, hst, htr, fun s' hmv => ?_⟩)
  obtain ⟨H2, hT, J⟩ := hI s' hmv
  exact ⟨.bl _, H2, J, rfl, q _ M1 H2 ((S1.tabbed hP hnL hT).push (.bl _))⟩
/-- a captured name in the generator's own environment -/
theorem cell_at {B : Bas} {M : List Addr} {τ : Tmp} {σ : L2.St} {H : Hp} {pins : List (Addr × Obj)} {s1 : Shared} {y : Str} {i : Nat} {d : PyData} (S : Sem G X.K B M τ σ ρ H) (I : Inv X pins σ H s1) (hi : X.N[i]? = some y) (hcl : X.env.scope.names.lookup y = some .cell) (hl : scope.names.lookup y = some .free) (hv : ρ[i]? = some (some (.dat d))) :
    ∃ (c0 : Addr) (v : V) (u : Value), (cloFrom X.env.cells scope.names []).lookup y = some c0 ∧ s1.heap.IsCell c0 (some u) ∧ RelV v u ∧ Dq (hid M H) v d ∧ H c0 = none := by
  obtain ⟨v, ev, hd⟩ := S.slotD hv
  obtain ⟨m, hn, hlk⟩ := id I.loc
  obtain ⟨u, ru, lk⟩ := hlk i y v hi ev (.inr (.inl hcl))
  rcases lk with ⟨k', _⟩ | ⟨_, c3, hc3, hcell⟩
  · have k' : X.env.scope.names.lookup y = some .local := k'
    rw [hcl] at k'
    cases k'
  refine ⟨c3, v, u, ?_, hcell, ru, hd, I.freeC _ _ hc3⟩
  have hy : (y, NameKind.free) ∈ scope.names := PySem.mem_of_lookup hl
  obtain ⟨c4, h4⟩ := mem_lookup (cloFrom_has (cells := X.env.cells) (acc := []) hy)
  rw [h4]
  rcases cloFrom_mem (PySem.mem_of_lookup h4) with hm | ⟨_, h2⟩
  · cases hm
  · rw [h2, hc3] <;> rfl
end
end TW
end
section
set_option Elab.async false
set_option linter.all false
set_option maxRecDepth 100000
set_option maxHeartbeats 4000000
/-! The layer, 25: elements of generator expressions. -/
namespace TW
open PySem PySem.Spec PyProof.Rows L2
open GxR (TabB TabG Tabbed GenS keeps_tok keeps_refl)
section
variable {G : Glb} {X : Cx} {ρ ρ1 : Ev} {P c : Addr} {scope : Scope}
theorem dpa_nats {H : Hp} {ns : List Nat} {vs : List V} (h : DqAll H vs (ns.map nI)) : vs = ns.map fun n : Nat => V.int (n : Int) := by
  have e : ns.map nI = (ns.map fun n : Nat => (n : Int)).map PyData.int := by rw [List.map_map]; rfl
  rw [e] at h
  rw [dpa_ints_of h, List.map_map]
  rfl
theorem vals_at {ns : List Nat} {us : List Value} (h : Vals (ns.map fun n : Nat => V.int (n : Int)) us) {i n : Nat} (hi : ns[i]? = some n) : ∃ t, us[i]? = some (.int (n : Int) t) := by
  obtain ⟨u, hu, r⟩ := h.get (i := i) (x := V.int (n : Int)) (by rw [List.getElem?_map, hi]; rfl)
  obtain ⟨t, rfl⟩ := r
  exact ⟨t, hu⟩
theorem getDX {f : List Nat} {i : Nat} (h : i < f.length) : f[i]? = some (f.getD i 0) := by
  rw [List.getD_eq_getElem?_getD, List.getElem?_eq_getElem h]
  simp
/-- y[z], y captured: a tuple of naturals, z at hand -/
theorem item_at {prog : Program} {w : World} {A : Around} {E : Value → Shared → Prop} {s : Shared} {env : Env} {y : Str} {c0 T : Addr} {its : List Value} {ns : List Nat} {i n : Nat} {t : Tok} {z : Str} {p1 pz p3 : Pos} {Q : Value → Shared → Prop}
    (hk : env.scope.kind = .function) (h2 : env.kindOf y = some .free) (hc : env.cells.lookup y = some c0) (hv : s.heap.IsCell c0 (some (.ref T))) (ht : IsTup s.heap T its.toArray) (hi : Vals (ns.map fun n : Nat => V.int (n : Int)) its) (hx : ns[i]? = some n) (hz : i < 100000)
    (hz2 : its.length ≤ 100000) (he2 : ∀ (Q' : Value → Shared → Prop), Q' (.int (i : Int) t) s → wpAny (model prog w) A (eval (.Name z pz) env) Q' E s) (hd : (y == ("__debug__" : Str)) = false) (hcd : (y == ("__classdict__" : Str)) = false) (h : ∀ t2, Q (.int (n : Int) t2) s) :
    wpAny (model prog w) A (eval (.Subscript (.Name y p1) (.Name z pz) p3) env) Q E s := by
  obtain ⟨t2, hu⟩ := vals_at hi hx
  have hil : i < its.length := (List.getElem?_eq_some_iff.mp hu).1
  refine Subscript_ (wpAny_Name (wpAny_loadName_free hk h2 hc hv ?_ hcd) hd)
  refine he2 _ ?_
  have l63 : (100000 : Int) < 2 ^ 63 := by decide
  exact item_tupleL ht (by omega) (by omega) (ixN_seq (ixN_nat hil)).1 hu (h t2)
theorem elt_gt {ps os : List Nat} {t iP iT : Nat} {yP yT x : Str} {p1 p2 p3 p4 p5 p6 p7 : Pos} (GS : GenS X.env scope x) (hiP : X.N[iP]? = some yP) (hiT : X.N[iT]? = some yT) (cP : X.env.scope.names.lookup yP = some .cell) (cT : X.env.scope.names.lookup yT = some .cell) (lP : scope.names.lookup yP = some .free) (lT : scope.names.lookup yT = some .free)
    (hvP : ρ1[iP]? = some (some (.dat (tN ps)))) (hvT : ρ1[iT]? = some (some (.dat (nI t)))) (ht : t < ps.length) (ho : ∀ o ∈ os, o < ps.length) (hz : ps.length ≤ 100000)
    (hd : (yP == ("__debug__" : Str)) = false := by decide) (hcd : (yP == ("__classdict__" : Str)) = false := by decide) (hd2 : (yT == ("__debug__" : Str)) = false := by decide) (hcd2 : (yT == ("__classdict__" : Str)) = false := by decide) (hd3 : (x == ("__debug__" : Str)) = false := by decide) :
    EltS G X scope x (.Compare (.Subscript (.Name yP p1) (.Name x p2) p3) [.Gt] [.Subscript (.Name yP p4) (.Name yT p5) p6] p7) P (os.map nI) (fun i => decide (ps.getD t 0 < ps.getD (os.getD i 0) 0)) ρ1 := by
  intro B M τ σ H pins s1 xs us S I hPn hxs hus L code bi A' E' i v s₂ m₂ hA hD hU hvi hn hm hk
  obtain ⟨cP0, vP, uP, l1, l2, rP, dP, nP⟩ := cell_at S I hiP cP lP hvP
  obtain ⟨cT0, vT, uT, l3, l4, rT, dT, nT⟩ := cell_at S I hiT cT lT hvT
  cases dT
  obtain ⟨tT, rfl⟩ := rT
  cases dP with
  | @tup T zs _ hT hzs =>
  obtain rfl : uP = .ref T := rP
  have ez := dpa_nats hzs
  subst ez
  have ex := dpa_nats hxs
  subst ex
  obtain ⟨its, rits, hits, _⟩ := I.tuple (SqT.of (hid_some hT).2)
  have hil : i < os.length := by
    have h1 := (Array.getElem?_eq_some_iff.mp hvi).1
    rw [List.size_toArray, ← hus.length, List.length_map] at h1
    exact h1
  obtain ⟨t9, e9⟩ := vals_at hus (List.getElem?_eq_getElem hil)
  have ev : v = .int ((os[i] : Nat) : Int) t9 := by
    rw [List.getElem?_toArray] at hvi
    rw [hvi] at e9
    exact Option.some.inj e9
  subst ev
  have eo : os.getD i 0 = os[i] := by simp [List.getD_eq_getElem?_getD, hil]
  have hob := ho _ (List.getElem_mem hil)
  have nc : ∀ {a : Addr}, H a = none → a ≠ P := fun {a} h z => by
    obtain ⟨ps', e, _⟩ := hPn
    rw [z, e] at h
    cases h
  have cellK : ∀ {a : Addr} {u : Option Value}, H a = none → s1.heap.IsCell a u → s₂.heap.IsCell a u := fun h ⟨o, q1, q2⟩ => ⟨o, hk _ _ (nc h) q1, q2⟩
  have tupK : IsTup s₂.heap T its.toArray := by
    obtain ⟨o, q1, q2, q3⟩ := hits
    refine ⟨o, hk _ _ (fun z => ?_) q1, q2, q3⟩
    obtain ⟨ps', e, _⟩ := hPn
    have tg := (hid_some hT).2
    rw [z, e] at tg
    cases tg
  have hlen : its.length ≤ 100000 := by rw [← rits.length, List.length_map]; exact hz
  have k1 : (genEnv scope (cloFrom X.env.cells scope.names []) L code bi X.env).scope.kind = .function := GS.kind
  refine wpAny_Compare1 (item_at k1 lP l1 (cellK nP l2) tupK rits (getDX hob) (by omega) hlen (fun Q' h => wpAny_Name (wpAny_loadName_local k1 GS.loc hn hm h) hd3) hd hcd fun t1 => ?_)
  refine item_at k1 lP l1 (cellK nP l2) tupK rits (getDX ht) (by omega) hlen (fun Q' h => wpAny_Name (wpAny_loadName_free k1 lT l3 (cellK nT l4) h hcd2) hd2) hd hcd fun t2 => ?_
  refine gt_int ⟨?_, keeps_refl _⟩
  show _ = Value.bool (decide (ps.getD t 0 < ps.getD (os.getD i 0) 0))
  rw [eo]
  simp
end
end TW
end
section
set_option Elab.async false
set_option linter.all false
set_option maxRecDepth 100000
set_option maxHeartbeats 4000000
/-! The layer, 26: a def's call within a generator expression. -/
namespace TW
open PySem PySem.Spec PyProof.Rows L2
open GxR (TabB TabG Tabbed GenS keeps_tok keeps_refl)
abbrev numBody (p1 p2 p3 p4 p5 p6 p7 p8 p9 p10 p11 p12 p13 p14 p15 : Pos) : List Stmt :=
  [.Return (some (.BoolOp .And [.Call (.Name "isinstance" p1) [.Name "thing" p2, .Name "int" p3] [] p4, .UnaryOp .Not (.Call (.Name "isinstance" p5) [.Name "thing" p6, .Name "bool" p7] [] p8) p9, .Compare (.Name "low" p10) [.LtE, .LtE] [.Name "thing" p11, .Name "high" p12] p13] p14)) p15]
section
variable {prog : Program} {w : World} {A : Around} {E : Value → Shared → Prop} {s : Shared} {K : PySem.W.Frag} {mg mb : Str → Option Value}
/-- the body, in its frame -/
theorem num_body {env : Env} {m : Str → Option Value} {i lo hi : Int} {t1 t2 t3 : Tok} {p1 p2 p3 p4 p5 p6 p7 p8 p9 p10 p11 p12 p13 p14 p15 : Pos} {Q : Flow → Shared → Prop} (hk : env.scope.kind = .function)
    (lt : env.kindOf "thing" = some .local) (ll : env.kindOf "low" = some .local) (lh : env.kindOf "high" = some .local) (gi : env.kindOf "isinstance" = some .globalImplicit) (gn : env.kindOf "int" = some .globalImplicit) (gb : env.kindOf "bool" = some .globalImplicit)
    (hg : s.heap.Ns env.globals mg) (hb : s.heap.Ns env.builtins mb) (mi : mg "isinstance" = none) (mn : mg "int" = none) (mbo : mg "bool" = none) (bi : mb "isinstance" = some (.builtin "isinstance")) (bn : mb "int" = some (.type "int")) (bb : mb "bool" = some (.type "bool"))
    (hn : s.heap.Ns env.locals m) (m1 : m "thing" = some (.int i t1)) (m2 : m "low" = some (.int lo t2)) (m3 : m "high" = some (.int hi t3)) (h1 : lo ≤ i) (h2 : i ≤ hi)
    (q : ∀ k, Q (.ret (.bool true)) { s with toks := k }) : wpAny (model prog w) A (execs (numBody p1 p2 p3 p4 p5 p6 p7 p8 p9 p10 p11 p12 p13 p14 p15) env) Q E s := by
  refine wpAny_execs_cons (wpAny_Return_some ?_)
  show wpAny _ _ _ (fun v s1 => Q (.ret v) s1) _ _
  have nm : ∀ {x : Str} {v : Value} {p : Pos} {k : Nat} {Q' : Value → Shared → Prop}, env.kindOf x = some .local → m x = some v → (x == ("__debug__" : Str)) = false → Q' v { s with toks := k } → wpAny (model prog w) A (eval (.Name x p) env) Q' E { s with toks := k } := fun l e d h => wpAny_Name (wpAny_loadName_local hk l hn e h) d
  have gm : ∀ {x : Str} {v : Value} {p : Pos} {k : Nat} {Q' : Value → Shared → Prop}, env.kindOf x = some .globalImplicit → mg x = none → mb x = some v → (x == ("__debug__" : Str)) = false → Q' v { s with toks := k } → wpAny (model prog w) A (eval (.Name x p) env) Q' E { s with toks := k } := fun l e1 e2 d h => Calls.Name_function_global hk l (Calls.loadGlobal_builtin hg e1 hb e2 h) d
  have s0 : s = { s with toks := s.toks } := rfl
  refine BoolOp_and (wpAny_Call_Name_kw (gm (k := s.toks) gi mi bi (by decide) (callWith_builtin1 (args_cons (nm lt m1 (by decide) (args_cons (gm gn mn bn (by decide) (args_nil (IsiPair.int_int (wpAny_truthy_bool ?_)))) rfl)) rfl) rfl rfl)))
  refine ite_tt (BoolOp_and (wpAny_UnaryOp (wpAny_Call_Name_kw (gm (k := s.toks) gi mi bi (by decide) (callWith_builtin1 (args_cons (nm lt m1 (by decide) (args_cons (gm gb mbo bb (by decide) (args_nil (IsiPair.int_bool (not_of (wpAny_truthy_bool (wpAny_truthy_bool ?_)))))) rfl)) rfl) rfl rfl)))))
  refine ite_tt (BoolOp_one (Compare_chain (nm ll m2 (by decide) (chain_link (nm lt m1 (by decide) (le_int (wpAny_truthy_bool ?_)))))))
  rw [decide_eq_true h1]
  refine ite_tt (chain_last (nm lh m3 (by decide) (le_int ?_)))
  rw [decide_eq_true h2]
  exact q _
theorem num_call {name : Str} {args : Arguments} {scope : Scope} {f : Addr} {fd : FuncData} {i lo hi : Int} {t1 t2 t3 : Tok} {p1 p2 p3 p4 p5 p6 p7 p8 p9 p10 p11 p12 p13 p14 p15 : Pos}
    (F : FunD K name name args (numBody p1 p2 p3 p4 p5 p6 p7 p8 p9 p10 p11 p12 p13 p14 p15) scope [] [] f fd) (KX : K.In s.heap) (lim : s.heap.NoLimit) (hroom : A.depth < recursionLimit)
    (hg : s.heap.Ns mainGlobals mg) (hb : s.heap.Ns builtinsNs mb) (mi : mg "isinstance" = none) (mn : mg "int" = none) (mbo : mg "bool" = none) (bi : mb "isinstance" = some (.builtin "isinstance")) (bn : mb "int" = some (.type "int")) (bb : mb "bool" = some (.type "bool"))
    (hbind : ∀ (kV doc pm : Value) (an : Option Addr) (cdv ct : Value) (us : List Value), us.length = 3 → bindArgs (PySem.W.fnOf name name args (numBody p1 p2 p3 p4 p5 p6 p7 p8 p9 p10 p11 p12 p13 p14 p15) scope .none kV doc pm an cdv ct) ⟨us, []⟩ = pure ((["thing", "low", "high"] : List Str).zip us))
    (hcell : ∀ x ∈ scope.names, x.2 ≠ .cell) (lt : scope.names.lookup ("thing" : Str) = some .local) (ll : scope.names.lookup ("low" : Str) = some .local) (lh : scope.names.lookup ("high" : Str) = some .local)
    (gi : scope.names.lookup ("isinstance" : Str) = some .globalImplicit) (gn : scope.names.lookup ("int" : Str) = some .globalImplicit) (gb : scope.names.lookup ("bool" : Str) = some .globalImplicit) (hco : scope.isCoroutine = false) (hgen : scope.isGenerator = false) (hkd : scope.kind = .function)
    (h1 : lo ≤ i) (h2 : i ≤ hi) : wpAny (model prog w) A (PySem.call (.ref f) [.int i t1, .int lo t2, .int hi t3]) (fun y s' => y = .bool true ∧ Keeps s s') E s := by
  obtain ⟨oc, od, dV, kV, doc, pm, an, cdv, ct, osl, rfl, lk, hcd, hD, _⟩ := F.ex
  have ed : dV = .none := by
    rcases hD with ⟨_, e⟩ | ⟨e, _⟩
    · exact e
    · exact absurd rfl e
  subst ed
  refine wpAny_call (codeAny_mono (R := fun r s' => match r with | .ok (.ret v) => v = .bool true ∧ Keeps s s' | _ => False) (codeAny_call_def hroom (KX _ _ lk) rfl lim (PySem.W.codeRec_of KX hcd) rfl (BindsTo.of_eq (hbind kV doc pm an cdv ct [.int i t1, .int lo t2, .int hi t3] rfl)) hcell (fun x hx => ?_) (fun h₀ hns hkeep => ?_) hco hgen hkd) fun r s' hq => ?_)
  · simp only [List.zip_cons_cons, List.mem_cons, List.zip_nil_left, List.not_mem_nil, or_false] at hx
    rcases hx with rfl | rfl | rfl
    · exact lt
    · exact ll
    · exact lh
  · refine num_body (mg := mg) (mb := mb) (i := i) (lo := lo) (hi := hi) (t1 := t1) (t2 := t2) (t3 := t3) hkd lt ll lh gi gn gb (hg.keeps hkeep) (hb.keeps hkeep) mi mn mbo bi bn bb hns rfl rfl rfl h1 h2 fun k => ⟨rfl, h₀, k, rfl, hkeep⟩
  · cases r with
    | error e => exact hq.elim
    | ok fl =>
      cases fl with
      | ret u => exact hq
      | next => exact hq.elim
      | brk => exact hq.elim
      | cont => exact hq.elim
end
section
variable {G : Glb} {X : Cx} {ρ1 : Ev} {P : Addr} {scope : Scope}
theorem elt_num {name y x yh : Str} {args : Arguments} {sc : Scope} {f : Addr} {fd : FuncData} {ps : List Nat} {h iH kk : Nat} {a1 a2 a3 a4 a5 p1 p2 p3 p4 p5 p6 p7 p8 p9 p10 p11 p12 p13 p14 p15 : Pos} (GS : GenS X.env scope x) (hr : Room 3 X.A)
    (F : FunD X.K name name args (numBody p1 p2 p3 p4 p5 p6 p7 p8 p9 p10 p11 p12 p13 p14 p15) sc [] [] f fd) (hf : X.mg y = some (.ref f)) (gy : scope.names.lookup y = some .globalImplicit)
    (hiH : X.N[iH]? = some yh) (cH : X.env.scope.names.lookup yh = some .cell) (lH : scope.names.lookup yh = some .free) (hvH : ρ1[iH]? = some (some (.dat (nI h)))) (hp : ∀ p ∈ ps, p ≤ h)
    (mi : X.mg "isinstance" = none) (mn : X.mg "int" = none) (mbo : X.mg "bool" = none)
    (hbind : ∀ (kV doc pm : Value) (an : Option Addr) (cdv ct : Value) (us : List Value), us.length = 3 → bindArgs (PySem.W.fnOf name name args (numBody p1 p2 p3 p4 p5 p6 p7 p8 p9 p10 p11 p12 p13 p14 p15) sc .none kV doc pm an cdv ct) ⟨us, []⟩ = pure ((["thing", "low", "high"] : List Str).zip us))
    (hcell : ∀ x ∈ sc.names, x.2 ≠ .cell) (lt : sc.names.lookup ("thing" : Str) = some .local) (ll : sc.names.lookup ("low" : Str) = some .local) (lh : sc.names.lookup ("high" : Str) = some .local)
    (gi : sc.names.lookup ("isinstance" : Str) = some .globalImplicit) (gn : sc.names.lookup ("int" : Str) = some .globalImplicit) (gb : sc.names.lookup ("bool" : Str) = some .globalImplicit) (hco : sc.isCoroutine = false) (hgen : sc.isGenerator = false) (hkd : sc.kind = .function)
    (hdx : (x == ("__debug__" : Str)) = false := by decide) (hdy : (y == ("__debug__" : Str)) = false := by decide) (hdh : (yh == ("__debug__" : Str)) = false := by decide) (hch : (yh == ("__classdict__" : Str)) = false := by decide) :
    EltS G X scope x (.Call (.Name y a1) [.Name x a2, .Constant (.int 0) kk a3, .Name yh a4] [] a5) P (ps.map nI) (fun _ => true) ρ1 := by
  intro B M τ σ H pins s1 xs us S I hPn hxs hus L code bi A' E' i v s₂ m₂ hA hD hU hvi hn hm hk
  obtain ⟨cH0, vH, uH, l1, l2, rH, dH, nH⟩ := cell_at S I hiH cH lH hvH
  cases dH
  obtain ⟨tH, rfl⟩ := rH
  have ex := dpa_nats hxs
  subst ex
  have hil : i < ps.length := by
    have h1 := (Array.getElem?_eq_some_iff.mp hvi).1
    rw [List.size_toArray, ← hus.length, List.length_map] at h1
    exact h1
  obtain ⟨t9, e9⟩ := vals_at hus (List.getElem?_eq_getElem hil)
  have ev : v = .int ((ps[i] : Nat) : Int) t9 := by
    rw [List.getElem?_toArray] at hvi
    rw [hvi] at e9
    exact Option.some.inj e9
  subst ev
  have hb1 := hp _ (List.getElem_mem hil)
  have nc : ∀ {a : Addr}, H a = none → a ≠ P := fun {a} h z => by
    obtain ⟨ps', e, _⟩ := hPn
    rw [z, e] at h
    cases h
  have cellK : s₂.heap.IsCell cH0 (some (.int (h : Int) tH)) := let ⟨o, q1, q2⟩ := l2; ⟨o, hk _ _ (nc nH) q1, q2⟩
  have kb : ∀ b o, X.base.get? b = some o → s₂.heap.get? b = some o := fun b o e => hk b o (nc (I.bs b o e).2) (I.bk b o e)
  have KX : X.K.In s₂.heap := I.mod.kin.keeps kb
  have hg : s₂.heap.Ns mainGlobals X.mg := I.mod.glob.keeps kb
  obtain ⟨mb, hb0, hb2⟩ := I.mod.blt
  have hb := hb0.keeps kb
  have lim : s₂.heap.NoLimit := I.mod.nolimit.keeps kb
  obtain ⟨oc, od, dV, kV, doc, pm, an, cdv, ct, osl, efd, lk, _⟩ := F.ex
  have k1 : (genEnv scope (cloFrom X.env.cells scope.names []) L code bi X.env).scope.kind = .function := GS.kind
  have hroom : A'.depth < recursionLimit := by have := hr.dp; omega
  refine wpAny_Call_Name_kw (Calls.Name_function_global k1 gy (Calls.loadGlobal_global (by show s₂.heap.Ns X.env.globals X.mg; rw [I.ok.glob]; exact hg) hf ?_) hdy)
  refine callWith_def (fd := fd) (o := ⟨oc, od, .func fd, osl⟩) rfl (args_cons (wpAny_Name (wpAny_loadName_local k1 GS.loc hn hm (args_cons (wpAny_Constant_int (args_cons (wpAny_Name (wpAny_loadName_free k1 lH l1 cellK (args_nil ⟨KX _ _ lk, ?_⟩) hch) hdh) rfl)) rfl)) hdx) rfl) rfl
  refine wpAny_mono (num_call (mg := X.mg) (mb := mb) (i := ((ps[i] : Nat) : Int)) (lo := 0) (hi := (h : Int)) F KX lim hroom hg hb mi mn mbo (by rw [hb2 _ (by decide)]; decide +kernel) (by rw [hb2 _ (by decide)]; decide +kernel) (by rw [hb2 _ (by decide)]; decide +kernel) hbind hcell lt ll lh gi gn gb hco hgen hkd (by omega) (by omega)) (fun y s' hy => ?_) fun _ _ e => e
  obtain ⟨e1, h', k', e2, e3⟩ := hy
  exact ⟨e1, h', k', e2, e3⟩
end
end TW
end
section
set_option Elab.async false
set_option linter.all false
set_option maxRecDepth 100000
set_option maxHeartbeats 2000000
/-! The defs' names, scopes, arguments (printed by gensc.py). -/
namespace TW
open PySem PySem.Spec PyProof.Rows L2
abbrev FnT (K : PySem.W.Frag) (mg : Str → Option Value) (x name : Str) (i : Nat) : Prop := Fn K mg x name name (defArgs (top i)) (defBody (top i)) (defScope (top i))
abbrev BindT (name : Str) (i : Nat) (ps : List Str) : Prop := ∀ (kV doc pm : Value) (an : Option Addr) (cdv ct : Value) (us : List Value), us.length = ps.length → bindArgs (PySem.W.fnOf name name (defArgs (top i)) (defBody (top i)) (defScope (top i)) .none kV doc pm an cdv ct) ⟨us, []⟩ = pure (ps.zip us)

abbrev N_is_whole : List Str := ["thing", "low", "high"]
theorem sc_is_whole : FnScope N_is_whole ["thing", "low", "high"] (defScope (top 15)) := ⟨rfl, rfl, rfl, by decide +kernel, rfl, by decide +kernel, by decide +kernel⟩
theorem b_is_whole : BindT "is_whole" 15 ["thing", "low", "high"] := fun _ _ _ _ _ _ us hl => match us, hl with | [_, _, _], _ => rfl
abbrev N_is_track : List Str := ["thing", "firsts", "seconds"]
theorem sc_is_track : FnScope N_is_track ["thing", "firsts", "seconds"] (defScope (top 16)) := ⟨rfl, rfl, rfl, by decide +kernel, rfl, by decide +kernel, by decide +kernel⟩
theorem b_is_track : BindT "is_track" 16 ["thing", "firsts", "seconds"] := fun _ _ _ _ _ _ us hl => match us, hl with | [_, _, _], _ => rfl
abbrev N_first_wrong : List Str := ["thing", "firsts", "seconds", "tracks", "at"]
theorem sc_first_wrong : FnScope N_first_wrong ["thing"] (defScope (top 17)) := ⟨rfl, rfl, rfl, by decide +kernel, rfl, by decide +kernel, by decide +kernel⟩
theorem b_first_wrong : BindT "first_wrong" 17 ["thing"] := fun _ _ _ _ _ _ us hl => match us, hl with | [_], _ => rfl
abbrev N_is_yard : List Str := ["thing"]
theorem sc_is_yard : FnScope N_is_yard ["thing"] (defScope (top 18)) := ⟨rfl, rfl, rfl, by decide +kernel, rfl, by decide +kernel, by decide +kernel⟩
theorem b_is_yard : BindT "is_yard" 18 ["thing"] := fun _ _ _ _ _ _ us hl => match us, hl with | [_], _ => rfl
abbrev N_made_yard : List Str := ["thing", "wrong"]
theorem sc_made_yard : FnScope N_made_yard ["thing"] (defScope (top 19)) := ⟨rfl, rfl, rfl, by decide +kernel, rfl, by decide +kernel, by decide +kernel⟩
theorem b_made_yard : BindT "made_yard" 19 ["thing"] := fun _ _ _ _ _ _ us hl => match us, hl with | [_], _ => rfl
abbrev N_is_pick : List Str := ["yard", "thing", "at"]
theorem sc_is_pick : FnScope N_is_pick ["yard", "thing"] (defScope (top 20)) := ⟨rfl, rfl, rfl, by decide +kernel, rfl, by decide +kernel, by decide +kernel⟩
theorem b_is_pick : BindT "is_pick" 20 ["yard", "thing"] := fun _ _ _ _ _ _ us hl => match us, hl with | [_, _], _ => rfl
abbrev N_made_pick : List Str := ["yard", "thing"]
theorem sc_made_pick : FnScope N_made_pick ["yard", "thing"] (defScope (top 21)) := ⟨rfl, rfl, rfl, by decide +kernel, rfl, by decide +kernel, by decide +kernel⟩
theorem b_made_pick : BindT "made_pick" 21 ["yard", "thing"] := fun _ _ _ _ _ _ us hl => match us, hl with | [_, _], _ => rfl
abbrev N_ends : List Str := ["yard", "t", "first", "second"]
theorem sc_ends : FnScope N_ends ["yard", "t"] (defScope (top 23)) := ⟨rfl, rfl, rfl, by decide +kernel, rfl, by decide +kernel, by decide +kernel⟩
theorem b_ends : BindT "ends" 23 ["yard", "t"] := fun _ _ _ _ _ _ us hl => match us, hl with | [_, _], _ => rfl
abbrev N_labels : List Str := ["yard", "pick", "found", "t", "one", "other", "low", "old", "label"]
theorem sc_labels : FnScope N_labels ["yard", "pick"] (defScope (top 24)) := ⟨rfl, rfl, rfl, by decide +kernel, rfl, by decide +kernel, by decide +kernel⟩
theorem b_labels : BindT "labels" 24 ["yard", "pick"] := fun _ _ _ _ _ _ us hl => match us, hl with | [_, _], _ => rfl
abbrev N_joins : List Str := ["yard", "pick", "found", "lane"]
theorem sc_joins : FnScope N_joins ["yard", "pick"] (defScope (top 25)) := ⟨rfl, rfl, rfl, by decide +kernel, rfl, by decide +kernel, by decide +kernel⟩
theorem b_joins : BindT "joins" 25 ["yard", "pick"] := fun _ _ _ _ _ _ us hl => match us, hl with | [_, _], _ => rfl
abbrev N_made_prices : List Str := ["yard", "thing", "tracks", "index"]
theorem sc_made_prices : FnScope N_made_prices ["yard", "thing"] (defScope (top 28)) := ⟨rfl, rfl, rfl, by decide +kernel, rfl, by decide +kernel, by decide +kernel⟩
theorem b_made_prices : BindT "made_prices" 28 ["yard", "thing"] := fun _ _ _ _ _ _ us hl => match us, hl with | [_, _], _ => rfl
abbrev N_check_many : List Str := ["m"]
theorem sc_check_many : FnScope N_check_many ["m"] (defScope (top 29)) := ⟨rfl, rfl, rfl, by decide +kernel, rfl, by decide +kernel, by decide +kernel⟩
theorem b_check_many : BindT "check_many" 29 ["m"] := fun _ _ _ _ _ _ us hl => match us, hl with | [_], _ => rfl
abbrev N_alone : List Str := ["yard"]
theorem sc_alone : FnScope N_alone ["yard"] (defScope (top 30)) := ⟨rfl, rfl, rfl, by decide +kernel, rfl, by decide +kernel, by decide +kernel⟩
theorem b_alone : BindT "alone" 30 ["yard"] := fun _ _ _ _ _ _ us hl => match us, hl with | [_], _ => rfl
abbrev N_joined_by : List Str := ["marks", "one", "other", "low", "high", "mark"]
theorem sc_joined_by : FnScope N_joined_by ["marks", "one", "other"] (defScope (top 31)) := ⟨rfl, rfl, rfl, by decide +kernel, rfl, by decide +kernel, by decide +kernel⟩
theorem b_joined_by : BindT "joined_by" 31 ["marks", "one", "other"] := fun _ _ _ _ _ _ us hl => match us, hl with | [_, _, _], _ => rfl
abbrev N_cheapest : List Str := ["yard", "prices", "m", "right", "marks", "found", "track", "one", "other"]
theorem sc_cheapest : FnScope N_cheapest ["yard", "prices", "m"] (defScope (top 32)) := ⟨rfl, rfl, rfl, by decide +kernel, rfl, by decide +kernel, by decide +kernel⟩
theorem b_cheapest : BindT "cheapest" 32 ["yard", "prices", "m"] := fun _ _ _ _ _ _ us hl => match us, hl with | [_, _, _], _ => rfl
abbrev N_made_row : List Str := ["thing", "met", "index", "wagon"]
theorem sc_made_row : FnScope N_made_row ["thing"] (defScope (top 35)) := ⟨rfl, rfl, rfl, by decide +kernel, rfl, by decide +kernel, by decide +kernel⟩
theorem b_made_row : BindT "made_row" 35 ["thing"] := fun _ _ _ _ _ _ us hl => match us, hl with | [_], _ => rfl
abbrev N_is_number_kernel : List Str := ["thing", "low", "high"]
theorem sc_is_number_kernel : FnScope N_is_number_kernel ["thing", "low", "high"] (defScope (top 38)) := ⟨rfl, rfl, rfl, by decide +kernel, rfl, by decide +kernel, by decide +kernel⟩
theorem b_is_number_kernel : BindT "is_number" 38 ["thing", "low", "high"] := fun _ _ _ _ _ _ us hl => match us, hl with | [_, _, _], _ => rfl
abbrev N_are_numbers : List Str := ["thing", "high", "part"]
theorem sc_are_numbers : FnScope N_are_numbers ["thing", "high"] (defScope (top 40)) := ⟨rfl, rfl, rfl, by decide +kernel, rfl, by decide +kernel, by decide +kernel⟩
theorem b_are_numbers : BindT "are_numbers" 40 ["thing", "high"] := fun _ _ _ _ _ _ us hl => match us, hl with | [_, _], _ => rfl
abbrev N_way : List Str := ["yard", "pick", "start", "goal", "reached", "ways", "done", "side", "lane", "track", "other"]
theorem sc_way : FnScope N_way ["yard", "pick", "start", "goal"] (defScope (top 41)) := ⟨rfl, rfl, rfl, by decide +kernel, rfl, by decide +kernel, by decide +kernel⟩
theorem b_way : BindT "way" 41 ["yard", "pick", "start", "goal"] := fun _ _ _ _ _ _ us hl => match us, hl with | [_, _, _, _], _ => rfl
abbrev N_is_forest : List Str := ["yard", "pick", "at", "track", "first", "second"]
theorem sc_is_forest : FnScope N_is_forest ["yard", "pick"] (defScope (top 42)) := ⟨rfl, rfl, rfl, by decide +kernel, rfl, by decide +kernel, by decide +kernel⟩
theorem b_is_forest : BindT "is_forest" 42 ["yard", "pick"] := fun _ _ _ _ _ _ us hl => match us, hl with | [_, _], _ => rfl
abbrev N_cheapest_right : List Str := ["yard", "prices", "m", "pick", "track", "ring", "other"]
theorem sc_cheapest_right : FnScope N_cheapest_right ["yard", "prices", "m", "pick"] (defScope (top 43)) := ⟨rfl, rfl, rfl, by decide +kernel, rfl, by decide +kernel, by decide +kernel⟩
theorem b_cheapest_right : BindT "cheapest_right" 43 ["yard", "prices", "m", "pick"] := fun _ _ _ _ _ _ us hl => match us, hl with | [_, _, _, _], _ => rfl
abbrev N_is_number_dealings : List Str := ["thing", "low", "high"]
theorem sc_is_number_dealings : FnScope N_is_number_dealings ["thing", "low", "high"] (defScope (top 45)) := ⟨rfl, rfl, rfl, by decide +kernel, rfl, by decide +kernel, by decide +kernel⟩
theorem b_is_number_dealings : BindT "is_number" 45 ["thing", "low", "high"] := fun _ _ _ _ _ _ us hl => match us, hl with | [_, _, _], _ => rfl
abbrev N_made_dealing : List Str := ["yard", "row", "thing", "place", "track"]
theorem sc_made_dealing : FnScope N_made_dealing ["yard", "row", "thing"] (defScope (top 47)) := ⟨rfl, rfl, rfl, by decide +kernel, rfl, by decide +kernel, by decide +kernel⟩
theorem b_made_dealing : BindT "made_dealing" 47 ["yard", "row", "thing"] := fun _ _ _ _ _ _ us hl => match us, hl with | [_, _, _], _ => rfl
abbrev N_first_stand : List Str := ["yard", "row"]
theorem sc_first_stand : FnScope N_first_stand ["yard", "row"] (defScope (top 49)) := ⟨rfl, rfl, rfl, by decide +kernel, rfl, by decide +kernel, by decide +kernel⟩
theorem b_first_stand : BindT "first_stand" 49 ["yard", "row"] := fun _ _ _ _ _ _ us hl => match us, hl with | [_, _], _ => rfl
abbrev N_is_move : List Str := ["yard", "thing", "many"]
theorem sc_is_move : FnScope N_is_move ["yard", "thing"] (defScope (top 51)) := ⟨rfl, rfl, rfl, by decide +kernel, rfl, by decide +kernel, by decide +kernel⟩
theorem b_is_move : BindT "is_move" 51 ["yard", "thing"] := fun _ _ _ _ _ _ us hl => match us, hl with | [_, _], _ => rfl
abbrev N_with_lane : List Str := ["lanes", "at", "lane"]
theorem sc_with_lane : FnScope N_with_lane ["lanes", "at", "lane"] (defScope (top 52)) := ⟨rfl, rfl, rfl, by decide +kernel, rfl, by decide +kernel, by decide +kernel⟩
theorem b_with_lane : BindT "with_lane" 52 ["lanes", "at", "lane"] := fun _ _ _ _ _ _ us hl => match us, hl with | [_, _, _], _ => rfl
abbrev N_moved_in : List Str := ["stand", "move", "waiting", "firsts", "seconds", "gone", "a"]
theorem sc_moved_in : FnScope N_moved_in ["stand", "move"] (defScope (top 53)) := ⟨rfl, rfl, rfl, by decide +kernel, rfl, by decide +kernel, by decide +kernel⟩
theorem b_moved_in : BindT "moved_in" 53 ["stand", "move"] := fun _ _ _ _ _ _ us hl => match us, hl with | [_, _], _ => rfl
abbrev N_moved_over : List Str := ["yard", "stand", "move", "waiting", "firsts", "seconds", "gone", "a", "b"]
theorem sc_moved_over : FnScope N_moved_over ["yard", "stand", "move"] (defScope (top 54)) := ⟨rfl, rfl, rfl, by decide +kernel, rfl, by decide +kernel, by decide +kernel⟩
theorem b_moved_over : BindT "moved_over" 54 ["yard", "stand", "move"] := fun _ _ _ _ _ _ us hl => match us, hl with | [_, _, _], _ => rfl
abbrev N_moved_out : List Str := ["stand", "move", "waiting", "firsts", "seconds", "gone", "b"]
theorem sc_moved_out : FnScope N_moved_out ["stand", "move"] (defScope (top 55)) := ⟨rfl, rfl, rfl, by decide +kernel, rfl, by decide +kernel, by decide +kernel⟩
theorem b_moved_out : BindT "moved_out" 55 ["stand", "move"] := fun _ _ _ _ _ _ us hl => match us, hl with | [_, _], _ => rfl
abbrev N_after_move : List Str := ["yard", "stand", "move"]
theorem sc_after_move : FnScope N_after_move ["yard", "stand", "move"] (defScope (top 56)) := ⟨rfl, rfl, rfl, by decide +kernel, rfl, by decide +kernel, by decide +kernel⟩
theorem b_after_move : BindT "after_move" 56 ["yard", "stand", "move"] := fun _ _ _ _ _ _ us hl => match us, hl with | [_, _, _], _ => rfl
abbrev N_tracks_of : List Str := ["row", "dealing", "found", "wagon", "track"]
theorem sc_tracks_of : FnScope N_tracks_of ["row", "dealing"] (defScope (top 58)) := ⟨rfl, rfl, rfl, by decide +kernel, rfl, by decide +kernel, by decide +kernel⟩
theorem b_tracks_of : BindT "tracks_of" 58 ["row", "dealing"] := fun _ _ _ _ _ _ us hl => match us, hl with | [_, _], _ => rfl
abbrev N_is_over_green : List Str := ["yard", "tracks", "stand", "t", "waiting", "firsts", "seconds", "gone", "a", "b", "behind", "lane", "wagon"]
theorem sc_is_over_green : FnScope N_is_over_green ["yard", "tracks", "stand", "t"] (defScope (top 59)) := ⟨rfl, rfl, rfl, by decide +kernel, rfl, by decide +kernel, by decide +kernel⟩
theorem b_is_over_green : BindT "is_over_green" 59 ["yard", "tracks", "stand", "t"] := fun _ _ _ _ _ _ us hl => match us, hl with | [_, _, _, _], _ => rfl
abbrev N_green_moves : List Str := ["yard", "tracks", "stand", "waiting", "firsts", "seconds", "gone", "found", "t", "b", "lane"]
theorem sc_green_moves : FnScope N_green_moves ["yard", "tracks", "stand"] (defScope (top 60)) := ⟨rfl, rfl, rfl, by decide +kernel, rfl, by decide +kernel, by decide +kernel⟩
theorem b_green_moves : BindT "green_moves" 60 ["yard", "tracks", "stand"] := fun _ _ _ _ _ _ us hl => match us, hl with | [_, _, _], _ => rfl
abbrev N_check_picks : List Str := ["thing", "index", "number"]
theorem sc_check_picks : FnScope N_check_picks ["thing"] (defScope (top 62)) := ⟨rfl, rfl, rfl, by decide +kernel, rfl, by decide +kernel, by decide +kernel⟩
theorem b_check_picks : BindT "check_picks" 62 ["thing"] := fun _ _ _ _ _ _ us hl => match us, hl with | [_], _ => rfl
abbrev N_run : List Str := ["yard", "row", "dealing", "picks", "tracks", "stand", "found", "moves", "pick"]
theorem sc_run : FnScope N_run ["yard", "row", "dealing", "picks"] (defScope (top 63)) := ⟨rfl, rfl, rfl, by decide +kernel, rfl, by decide +kernel, by decide +kernel⟩
theorem b_run : BindT "run" 63 ["yard", "row", "dealing", "picks"] := fun _ _ _ _ _ _ us hl => match us, hl with | [_, _, _, _], _ => rfl
abbrev N_layers : List Str := ["row", "tops", "found", "wagon", "low", "high", "middle"]
theorem sc_layers : FnScope N_layers ["row"] (defScope (top 65)) := ⟨rfl, rfl, rfl, by decide +kernel, rfl, by decide +kernel, by decide +kernel⟩
theorem b_layers : BindT "layers" 65 ["row"] := fun _ _ _ _ _ _ us hl => match us, hl with | [_], _ => rfl
abbrev N_forest : List Str := ["yard", "pick", "found", "label", "t", "one", "other", "old", "new", "number"]
theorem sc_forest : FnScope N_forest ["yard", "pick"] (defScope (top 67)) := ⟨rfl, rfl, rfl, by decide +kernel, rfl, by decide +kernel, by decide +kernel⟩
theorem b_forest : BindT "forest" 67 ["yard", "pick"] := fun _ _ _ _ _ _ us hl => match us, hl with | [_, _], _ => rfl
abbrev N_plan : List Str := ["yard", "pick", "row", "chosen", "depths", "depth"]
theorem sc_plan : FnScope N_plan ["yard", "pick", "row"] (defScope (top 69)) := ⟨rfl, rfl, rfl, by decide +kernel, rfl, by decide +kernel, by decide +kernel⟩
theorem b_plan : BindT "plan" 69 ["yard", "pick", "row"] := fun _ _ _ _ _ _ us hl => match us, hl with | [_, _, _], _ => rfl
abbrev N_serves : List Str := ["yard", "pick"]
theorem sc_serves : FnScope N_serves ["yard", "pick"] (defScope (top 71)) := ⟨rfl, rfl, rfl, by decide +kernel, rfl, by decide +kernel, by decide +kernel⟩
theorem b_serves : BindT "serves" 71 ["yard", "pick"] := fun _ _ _ _ _ _ us hl => match us, hl with | [_, _], _ => rfl
abbrev N__law_pool : List Str := ["_law_script", "_law_first", "_law_size"]
theorem sc__law_pool : FnScope N__law_pool ["_law_script"] (defScope (top 73)) := ⟨rfl, rfl, rfl, by decide +kernel, rfl, by decide +kernel, by decide +kernel⟩
theorem b__law_pool : BindT "_law_pool" 73 ["_law_script"] := fun _ _ _ _ _ _ us hl => match us, hl with | [_], _ => rfl
abbrev N__law_draw : List Str := ["_law_pool_here", "_law_many", "_law_cell", "_law_size", "_law_found"]
theorem sc__law_draw : FnScope N__law_draw ["_law_pool_here", "_law_many"] (defScope (top 74)) := ⟨rfl, rfl, rfl, by decide +kernel, rfl, by decide +kernel, by decide +kernel⟩
theorem b__law_draw : BindT "_law_draw" 74 ["_law_pool_here", "_law_many"] := fun _ _ _ _ _ _ us hl => match us, hl with | [_, _], _ => rfl
abbrev N__law_is_whole : List Str := ["_law_thing"]
theorem sc__law_is_whole : FnScope N__law_is_whole ["_law_thing"] (defScope (top 75)) := ⟨rfl, rfl, rfl, by decide +kernel, rfl, by decide +kernel, by decide +kernel⟩
theorem b__law_is_whole : BindT "_law_is_whole" 75 ["_law_thing"] := fun _ _ _ _ _ _ us hl => match us, hl with | [_], _ => rfl
abbrev N__law_turned : List Str := ["_law_pool_here", "_law_many", "_law_left", "_law_found", "_law_turn"]
theorem sc__law_turned : FnScope N__law_turned ["_law_pool_here", "_law_many"] (defScope (top 76)) := ⟨rfl, rfl, rfl, by decide +kernel, rfl, by decide +kernel, by decide +kernel⟩
theorem b__law_turned : BindT "_law_turned" 76 ["_law_pool_here", "_law_many"] := fun _ _ _ _ _ _ us hl => match us, hl with | [_, _], _ => rfl
abbrev N__law_web_yard : List Str := ["_law_pool_here", "_law_lanes", "_law_most", "_law_k", "_law_l", "_law_pairs", "_law_at", "_law_many", "_law_chosen"]
theorem sc__law_web_yard : FnScope N__law_web_yard ["_law_pool_here", "_law_lanes", "_law_most"] (defScope (top 77)) := ⟨rfl, rfl, rfl, by decide +kernel, rfl, by decide +kernel, by decide +kernel⟩
theorem b__law_web_yard : BindT "_law_web_yard" 77 ["_law_pool_here", "_law_lanes", "_law_most"] := fun _ _ _ _ _ _ us hl => match us, hl with | [_, _, _], _ => rfl
abbrev N__law_web_ends : List Str := ["_law_yard", "_law_t"]
theorem sc__law_web_ends : FnScope N__law_web_ends ["_law_yard", "_law_t"] (defScope (top 78)) := ⟨rfl, rfl, rfl, by decide +kernel, rfl, by decide +kernel, by decide +kernel⟩
theorem b__law_web_ends : BindT "_law_web_ends" 78 ["_law_yard", "_law_t"] := fun _ _ _ _ _ _ us hl => match us, hl with | [_, _], _ => rfl
abbrev N__law_web_reached : List Str := ["_law_yard", "_law_pick", "_law_lane", "_law_found", "_law_left", "_law_turn", "_law_ahead", "_law_t", "_law_one", "_law_other"]
theorem sc__law_web_reached : FnScope N__law_web_reached ["_law_yard", "_law_pick", "_law_lane"] (defScope (top 79)) := ⟨rfl, rfl, rfl, by decide +kernel, rfl, by decide +kernel, by decide +kernel⟩
theorem b__law_web_reached : BindT "_law_web_reached" 79 ["_law_yard", "_law_pick", "_law_lane"] := fun _ _ _ _ _ _ us hl => match us, hl with | [_, _, _], _ => rfl
abbrev N__law_web_pieces : List Str := ["_law_yard", "_law_pick", "_law_found", "_law_lane", "_law_t", "_law_lot"]
theorem sc__law_web_pieces : FnScope N__law_web_pieces ["_law_yard", "_law_pick"] (defScope (top 80)) := ⟨rfl, rfl, rfl, by decide +kernel, rfl, by decide +kernel, by decide +kernel⟩
theorem b__law_web_pieces : BindT "_law_web_pieces" 80 ["_law_yard", "_law_pick"] := fun _ _ _ _ _ _ us hl => match us, hl with | [_, _], _ => rfl
abbrev N__law_web_rank : List Str := ["_law_yard", "_law_pick", "_law_lots", "_law_lot"]
theorem sc__law_web_rank : FnScope N__law_web_rank ["_law_yard", "_law_pick"] (defScope (top 81)) := ⟨rfl, rfl, rfl, by decide +kernel, rfl, by decide +kernel, by decide +kernel⟩
theorem b__law_web_rank : BindT "_law_web_rank" 81 ["_law_yard", "_law_pick"] := fun _ _ _ _ _ _ us hl => match us, hl with | [_, _], _ => rfl
abbrev N__law_web_forest : List Str := ["_law_yard", "_law_tracks", "_law_label", "_law_found", "_law_t", "_law_one", "_law_other", "_law_old", "_law_new", "_law_number"]
theorem sc__law_web_forest : FnScope N__law_web_forest ["_law_yard", "_law_tracks"] (defScope (top 82)) := ⟨rfl, rfl, rfl, by decide +kernel, rfl, by decide +kernel, by decide +kernel⟩
theorem b__law_web_forest : BindT "_law_web_forest" 82 ["_law_yard", "_law_tracks"] := fun _ _ _ _ _ _ us hl => match us, hl with | [_, _], _ => rfl
abbrev N__law_wait_turned : List Str := ["_law_pool_here", "_law_things", "_law_left", "_law_found", "_law_turn"]
theorem sc__law_wait_turned : FnScope N__law_wait_turned ["_law_pool_here", "_law_things"] (defScope (top 83)) := ⟨rfl, rfl, rfl, by decide +kernel, rfl, by decide +kernel, by decide +kernel⟩
theorem b__law_wait_turned : BindT "_law_wait_turned" 83 ["_law_pool_here", "_law_things"] := fun _ _ _ _ _ _ us hl => match us, hl with | [_, _], _ => rfl
abbrev N__law_wait_parted : List Str := ["_law_pool_here", "_law_lots", "_law_many", "_law_by_place", "_law_turn", "_law_by_wagon", "_law_waiting", "_law_wagon", "_law_lot"]
theorem sc__law_wait_parted : FnScope N__law_wait_parted ["_law_pool_here", "_law_lots", "_law_many"] (defScope (top 84)) := ⟨rfl, rfl, rfl, by decide +kernel, rfl, by decide +kernel, by decide +kernel⟩
theorem b__law_wait_parted : BindT "_law_wait_parted" 84 ["_law_pool_here", "_law_lots", "_law_many"] := fun _ _ _ _ _ _ us hl => match us, hl with | [_, _, _], _ => rfl
abbrev N__law_wait_joined : List Str := ["_law_rows", "_law_found", "_law_row", "_law_wagon"]
theorem sc__law_wait_joined : FnScope N__law_wait_joined ["_law_rows"] (defScope (top 85)) := ⟨rfl, rfl, rfl, by decide +kernel, rfl, by decide +kernel, by decide +kernel⟩
theorem b__law_wait_joined : BindT "_law_wait_joined" 85 ["_law_rows"] := fun _ _ _ _ _ _ us hl => match us, hl with | [_], _ => rfl
abbrev N__law_wait_row_of : List Str := ["_law_pool_here", "_law_falls", "_law_many", "_law_deep", "_law_at", "_law_some", "_law_turn"]
theorem sc__law_wait_row_of : FnScope N__law_wait_row_of ["_law_pool_here", "_law_falls", "_law_many"] (defScope (top 86)) := ⟨rfl, rfl, rfl, by decide +kernel, rfl, by decide +kernel, by decide +kernel⟩
theorem b__law_wait_row_of : BindT "_law_wait_row_of" 86 ["_law_pool_here", "_law_falls", "_law_many"] := fun _ _ _ _ _ _ us hl => match us, hl with | [_, _, _], _ => rfl
abbrev N__law_wait_all : List Str := ["_law_yard", "_law_row", "_law_dealing", "_law_found", "_law_wagon", "_law_place", "_law_first", "_law_second", "_law_other", "_law_ahead", "_law_lanes", "_law_waits"]
theorem sc__law_wait_all : FnScope N__law_wait_all ["_law_yard", "_law_row", "_law_dealing"] (defScope (top 87)) := ⟨rfl, rfl, rfl, by decide +kernel, rfl, by decide +kernel, by decide +kernel⟩
theorem b__law_wait_all : BindT "_law_wait_all" 87 ["_law_yard", "_law_row", "_law_dealing"] := fun _ _ _ _ _ _ us hl => match us, hl with | [_, _, _], _ => rfl
abbrev N__law_wait_left : List Str := ["_law_waits", "_law_left", "_law_turn", "_law_free", "_law_wagon", "_law_other"]
theorem sc__law_wait_left : FnScope N__law_wait_left ["_law_waits"] (defScope (top 88)) := ⟨rfl, rfl, rfl, by decide +kernel, rfl, by decide +kernel, by decide +kernel⟩
theorem b__law_wait_left : BindT "_law_wait_left" 88 ["_law_waits"] := fun _ _ _ _ _ _ us hl => match us, hl with | [_], _ => rfl
abbrev N__law_wait_goes : List Str := ["_law_yard", "_law_row", "_law_dealing"]
theorem sc__law_wait_goes : FnScope N__law_wait_goes ["_law_yard", "_law_row", "_law_dealing"] (defScope (top 89)) := ⟨rfl, rfl, rfl, by decide +kernel, rfl, by decide +kernel, by decide +kernel⟩
theorem b__law_wait_goes : BindT "_law_wait_goes" 89 ["_law_yard", "_law_row", "_law_dealing"] := fun _ _ _ _ _ _ us hl => match us, hl with | [_, _, _], _ => rfl
abbrev N__law_lane_begun : List Str := ["_law_yard", "_law_row"]
theorem sc__law_lane_begun : FnScope N__law_lane_begun ["_law_yard", "_law_row"] (defScope (top 90)) := ⟨rfl, rfl, rfl, by decide +kernel, rfl, by decide +kernel, by decide +kernel⟩
theorem b__law_lane_begun : BindT "_law_lane_begun" 90 ["_law_yard", "_law_row"] := fun _ _ _ _ _ _ us hl => match us, hl with | [_, _], _ => rfl
abbrev N__law_lane_put : List Str := ["_law_lanes", "_law_at", "_law_lane", "_law_place", "_law_other"]
theorem sc__law_lane_put : FnScope N__law_lane_put ["_law_lanes", "_law_at", "_law_lane"] (defScope (top 91)) := ⟨rfl, rfl, rfl, by decide +kernel, rfl, by decide +kernel, by decide +kernel⟩
theorem b__law_lane_put : BindT "_law_lane_put" 91 ["_law_lanes", "_law_at", "_law_lane"] := fun _ _ _ _ _ _ us hl => match us, hl with | [_, _, _], _ => rfl
abbrev N__law_lane_after : List Str := ["_law_yard", "_law_stand", "_law_move", "_law_waiting", "_law_firsts", "_law_seconds", "_law_gone", "_law_word", "_law_at", "_law_first", "_law_second", "_law_wagon", "_law_over"]
theorem sc__law_lane_after : FnScope N__law_lane_after ["_law_yard", "_law_stand", "_law_move"] (defScope (top 92)) := ⟨rfl, rfl, rfl, by decide +kernel, rfl, by decide +kernel, by decide +kernel⟩
theorem b__law_lane_after : BindT "_law_lane_after" 92 ["_law_yard", "_law_stand", "_law_move"] := fun _ _ _ _ _ _ us hl => match us, hl with | [_, _, _], _ => rfl
abbrev N__law_lane_all : List Str := ["_law_yard", "_law_found", "_law_a", "_law_t", "_law_b"]
theorem sc__law_lane_all : FnScope N__law_lane_all ["_law_yard"] (defScope (top 93)) := ⟨rfl, rfl, rfl, by decide +kernel, rfl, by decide +kernel, by decide +kernel⟩
theorem b__law_lane_all : BindT "_law_lane_all" 93 ["_law_yard"] := fun _ _ _ _ _ _ us hl => match us, hl with | [_], _ => rfl
abbrev N__law_lane_is_move : List Str := ["_law_yard", "_law_thing", "_law_move"]
theorem sc__law_lane_is_move : FnScope N__law_lane_is_move ["_law_yard", "_law_thing"] (defScope (top 94)) := ⟨rfl, rfl, rfl, by decide +kernel, rfl, by decide +kernel, by decide +kernel⟩
theorem b__law_lane_is_move : BindT "_law_lane_is_move" 94 ["_law_yard", "_law_thing"] := fun _ _ _ _ _ _ us hl => match us, hl with | [_, _], _ => rfl
abbrev N__law_lane_replayed : List Str := ["_law_yard", "_law_row", "_law_journal", "_law_stand", "_law_index", "_law_move", "_law_after"]
theorem sc__law_lane_replayed : FnScope N__law_lane_replayed ["_law_yard", "_law_row", "_law_journal"] (defScope (top 95)) := ⟨rfl, rfl, rfl, by decide +kernel, rfl, by decide +kernel, by decide +kernel⟩
theorem b__law_lane_replayed : BindT "_law_lane_replayed" 95 ["_law_yard", "_law_row", "_law_journal"] := fun _ _ _ _ _ _ us hl => match us, hl with | [_, _, _], _ => rfl
abbrev N__law_prices : List Str := ["_law_pool_here", "_law_yard", "_law_most", "_law_track"]
theorem sc__law_prices : FnScope N__law_prices ["_law_pool_here", "_law_yard"] (defScope (top 96)) := ⟨rfl, rfl, rfl, by decide +kernel, rfl, by decide +kernel, by decide +kernel⟩
theorem b__law_prices : BindT "_law_prices" 96 ["_law_pool_here", "_law_yard"] := fun _ _ _ _ _ _ us hl => match us, hl with | [_, _], _ => rfl
abbrev N__law_cheapest : List Str := ["_law_yard", "_law_prices_here", "_law_m", "_law_order", "_law_price", "_law_track", "_law_t", "_law_found"]
theorem sc__law_cheapest : FnScope N__law_cheapest ["_law_yard", "_law_prices_here", "_law_m"] (defScope (top 97)) := ⟨rfl, rfl, rfl, by decide +kernel, rfl, by decide +kernel, by decide +kernel⟩
theorem b__law_cheapest : BindT "_law_cheapest" 97 ["_law_yard", "_law_prices_here", "_law_m"] := fun _ _ _ _ _ _ us hl => match us, hl with | [_, _, _], _ => rfl
abbrev N__law_home_right : List Str := ["_law_pool_here", "_law_yard", "_law_pick", "_law_row", "_law_dealing", "_law_t", "_law_picks", "_law_turn", "_law_moves", "_law_stand", "_law_here", "_law_index"]
theorem sc__law_home_right : FnScope N__law_home_right ["_law_pool_here", "_law_yard", "_law_pick", "_law_row"] (defScope (top 98)) := ⟨rfl, rfl, rfl, by decide +kernel, rfl, by decide +kernel, by decide +kernel⟩
theorem b__law_home_right : BindT "_law_home_right" 98 ["_law_pool_here", "_law_yard", "_law_pick", "_law_row"] := fun _ _ _ _ _ _ us hl => match us, hl with | [_, _, _, _], _ => rfl
abbrev N_law : List Str := ["_law_script", "_law_pool_here", "_law_yard", "_law_prices_here", "_law_top", "_law_m", "_law_pick", "_law_due", "_law_t", "_law_turn", "_law_row"]
theorem sc_law : FnScope N_law ["_law_script"] (defScope (top 99)) := ⟨rfl, rfl, rfl, by decide +kernel, rfl, by decide +kernel, by decide +kernel⟩
theorem b_law : BindT "law" 99 ["_law_script"] := fun _ _ _ _ _ _ us hl => match us, hl with | [_], _ => rfl
end TW
end
section
set_option Elab.async false
set_option linter.all false
set_option maxRecDepth 100000
set_option maxHeartbeats 2000000
/-! What the defs are called with: yards, picks, rows. -/
namespace TW
open PySem PySem.Spec PyProof.Rows L2
/-- the built-in names are free; the module's numbers -/
structure Fr (mg : Str → Option Value) : Prop where
  isinstance : mg "isinstance" = none
  int : mg "int" = none
  bool : mg "bool" = none
  tuple : mg "tuple" = none
  len : mg "len" = none
  range : mg "range" = none
  sorted : mg "sorted" = none
  min : mg "min" = none
  max : mg "max" = none
  enumerate : mg "enumerate" = none
  list : mg "list" = none
  all : mg "all" = none
  any : mg "any" = none
  zip : mg "zip" = none
  str : mg "str" = none
  sum : mg "sum" = none
  lanes : ∃ t, mg "MOST_LANES" = some (.int 12 t)
  tracks : ∃ t, mg "MOST_TRACKS" = some (.int 60 t)
  priceP : ∃ t, mg "MOST_PRICE_prices" = some (.int 999 t)
  priceK : ∃ t, mg "MOST_PRICE_kernel" = some (.int 999 t)
  wagons : ∃ t, mg "MOST_WAGONS" = some (.int 400 t)
abbrev encT (t : Nat × Nat) : PyData := .tuple [nI t.1, nI t.2]
structure Yd where
  k : Nat
  l : Nat
  ts : List (Nat × Nat)
abbrev encY (y : Yd) : PyData := .tuple [nI y.k, nI y.l, .tuple (y.ts.map encT)]
def ltT (s t : Nat × Nat) : Prop := s.1 < t.1 ∨ (s.1 = t.1 ∧ s.2 < t.2)
structure YdOk (y : Yd) : Prop where
  k1 : 1 ≤ y.k
  k12 : y.k ≤ 12
  l1 : 1 ≤ y.l
  l12 : y.l ≤ 12
  len : y.ts.length ≤ 60
  bnd : ∀ t ∈ y.ts, t.1 < y.k ∧ t.2 < y.l
  inc : y.ts.Pairwise ltT
structure PkOk (y : Yd) (ns : List Nat) : Prop where
  inc : ns.Pairwise (· < ·)
  bnd : ∀ n ∈ ns, n < y.ts.length
structure PrOk (y : Yd) (ps : List Nat) : Prop where
  len : ps.length = y.ts.length
  bnd : ∀ p ∈ ps, p ≤ 999
/-- a row: a permutation -/
structure RwOk (r : List Nat) : Prop where
  len : r.length ≤ 400
  bnd : ∀ n ∈ r, n < r.length
  nd : r.Nodup
theorem getMap {α β : Type} {xs : List α} {f : α → β} {i : Nat} {x : α} (h : xs[i]? = some x) : (xs.map f)[i]? = some (f x) := by rw [List.getElem?_map, h]; rfl
theorem ofMap {α β : Type} {xs : List α} {f : α → β} {i : Nat} {y : β} (h : (xs.map f)[i]? = some y) : ∃ x, xs[i]? = some x ∧ y = f x := by
  rw [List.getElem?_map] at h
  cases e : xs[i]? with
  | none => rw [e] at h; cases h
  | some x => rw [e] at h; cases h; exact ⟨x, rfl, rfl⟩
theorem rngGet {n i : Nat} {d : PyData} (h : (rng n)[i]? = some d) : i < n ∧ d = nI i := by
  obtain ⟨x, h1, rfl⟩ := ofMap h
  obtain ⟨hi, e⟩ := List.getElem?_eq_some_iff.mp h1
  rw [List.getElem_range] at e
  subst e
  exact ⟨by simpa using hi, rfl⟩
theorem enumGet {ds : List PyData} {i : Nat} {d : PyData} (h : (enumD ds)[i]? = some d) : ∃ x, ds[i]? = some x ∧ d = .tuple [nI i, x] := by
  rw [enumD_get] at h
  cases e : ds[i]? with
  | none => rw [e] at h; cases h
  | some x => rw [e] at h; cases h; exact ⟨x, rfl, rfl⟩
theorem nodup_len : ∀ (n : Nat) (l : List Nat), l.Nodup → (∀ x ∈ l, x < n) → l.length ≤ n
  | 0, l, _, h => by
    cases l with
    | nil => simp
    | cons x r => exact absurd (h x (by simp)) (by omega)
  | n + 1, l, nd, h => by
    have h1 := nodup_len n (l.erase n) (nd.erase n) fun x hx => by
      have h2 := (nd.mem_erase_iff).mp hx
      have h3 := h x h2.2
      omega
    have h2 := List.length_erase (a := n) (l := l)
    split at h2 <;> omega
theorem foldTake {α β : Type} {step : β → α → β} {xs : List α} {i : Nat} {x : α} {b : β} (h : xs[i]? = some x) : (xs.take (i + 1)).foldl step b = step ((xs.take i).foldl step b) x := by
  rw [List.take_succ, h]
  simp
theorem tsAt {y : Yd} {i : Nat} (h : i < y.ts.length) : (y.ts.map encT)[i]? = some (encT y.ts[i]) := getMap (List.getElem?_eq_getElem h)
theorem PkOk.len {y : Yd} {ns : List Nat} (hy : YdOk y) (hn : PkOk y ns) : ns.length ≤ 60 := by
  have h1 : ns.Nodup := hn.inc.imp fun h => Nat.ne_of_lt h
  have h2 := nodup_len _ _ h1 hn.bnd
  have h4 := hy.len
  omega
section
variable {G : Glb} {ρ ρ1 ρ2 : Ev} {X : Cx} {e e' : Expr} {k : Nat} {b : Bool}
instance {s t : Nat × Nat} : Decidable (ltT s t) := by unfold ltT; infer_instance
theorem cn_leP {s t : Nat × Nat} (hr : Room k X.A) (ha : DE G X e ρ (.dat (encT s)) ρ1) (hb : DE G X e' ρ1 (.dat (encT t)) ρ2) (q : (!decide (ltT t s)) = b := by rfl) : CM G X .LtE e e' ρ (.bool b) ρ2 :=
  cm_leP (p := (↑s.1, ↑s.2)) (q := (↑t.1, ↑t.2)) hr ha hb (by
    rw [← q]
    congr 1
    rw [decide_eq_decide]
    unfold lexLt ltT
    simp only
    omega)
end
theorem wk_keep {ρ ρ' : Ev} {x : Option AV} (h : Weak ρ ρ') : Weak (x :: ρ) (x :: ρ') := h.keep
end TW
end
section
set_option Elab.async false
set_option linter.all false
set_option maxRecDepth 100000
set_option maxHeartbeats 2000000
/-! The walk, 1: yards, picks. -/
namespace TW
open PySem PySem.Spec PyProof.Rows L2
section
variable {G : Glb} {P : Program} {w : World} {K : PySem.W.Frag} {mg : Str → Option Value} {base : Heap}
abbrev R_is_whole (ds : List PyData) (d : PyData) : Prop := ∃ i lo hi : Int, (lo ≤ i ∧ i ≤ hi) ∧ ds = [.int i, .int lo, .int hi] ∧ d = .bool true
theorem c_is_whole (F : FnT K mg "is_whole" "is_whole" 15) (g : Fr mg) : Call P w K mg base 1 "is_whole" (spD G 3 R_is_whole) := by
  refine callD F sc_is_whole b_is_whole fun f cdv A outer s H E hr ds d hR => ?_
  obtain ⟨i, lo, hi, hh, rfl, rfl⟩ := hR
  exact ws_one (ws_ret (andT (di_int g.isinstance g.int (dv 0)) (andT (dnot (di_bool g.isinstance g.bool (dv 0))) (de_one (de_in2 (dv 1) (dv 0) (dv 2) (by simp [hh.1, hh.2]))))) rfl)
abbrev R_is_track (ds : List PyData) (d : PyData) : Prop := ∃ (t : Nat × Nat) (k l : Nat), (t.1 < k ∧ t.2 < l) ∧ ds = [encT t, nI k, nI l] ∧ d = .bool true
theorem c_is_track (F : FnT K mg "is_track" "is_track" 16) (g : Fr mg) (c1 : Call P w K mg base 1 "is_whole" (spD G 3 R_is_whole)) : Call P w K mg base 2 "is_track" (spD G 3 R_is_track) := by
  refine callD F sc_is_track b_is_track fun f cdv A outer s H E hr ds d hR => ?_
  obtain ⟨t, k, l, hh, rfl, rfl⟩ := hR
  refine ws_cons (ws_skip (dt_w (torF (tnot (dtv (di_tup g.isinstance g.tuple (dv 0)))) (dw_or1 (dt_c (cn_ne (lenT g.len (dv 0)) (dn 2)))))) ?_)
  exact ws_one (ws_ret (andT (de_call c1 hr ⟨t.1, 0, k - 1, by omega, rfl, rfl⟩ (da_cons (dix (dv 0)) (da_cons de_int (da_one (de_sub (dv 1) de_int))))) (de_one (de_call c1 hr ⟨t.2, 0, l - 1, by omega, rfl, rfl⟩ (da_cons (dix (dv 0)) (da_cons de_int (da_one (de_sub (dv 2) de_int))))))) rfl)
abbrev R_first_wrong (ds : List PyData) (d : PyData) : Prop := ∃ y : Yd, YdOk y ∧ ds = [encY y] ∧ d = .none
theorem c_first_wrong (F : FnT K mg "first_wrong" "first_wrong" 17) (g : Fr mg) (c1 : Call P w K mg base 1 "is_whole" (spD G 3 R_is_whole)) (c2 : Call P w K mg base 2 "is_track" (spD G 3 R_is_track)) :
    Call P w K mg base 3 "first_wrong" (spD G 1 R_first_wrong) := by
  refine callD F sc_first_wrong b_first_wrong fun f cdv A outer s H E hr ds d hR => ?_
  obtain ⟨y, hy, rfl, rfl⟩ := hR
  have nd := sc_first_wrong.nd
  have k1 := hy.k1; have k2 := hy.k12; have l1 := hy.l1; have l2 := hy.l12; have tl := hy.len
  refine ws_cons (ws_skip (dt_w (torF (tnot (dtv (di_tup g.isinstance g.tuple (dv 0)))) (dw_or1 (dt_c (cn_ne (lenT g.len (dv 0)) (dn 3)))))) ?_)
  refine ws_cons (ws_asg (dv 0) (gtu3 1 2 3 nd) ?_)
  refine ws_cons (ws_skip (tnot (dtv (de_call c1 hr ⟨y.k, 1, 12, by omega, rfl, rfl⟩ (da_cons (dv 1) (da_cons de_int (da_one (de_gint (by exact g.lanes)))))))) ?_)
  refine ws_cons (ws_skip (tnot (dtv (de_call c1 hr ⟨y.l, 1, 12, by omega, rfl, rfl⟩ (da_cons (dv 2) (da_cons de_int (da_one (de_gint (by exact g.lanes)))))))) ?_)
  refine ws_cons (ws_skip (dt_w (torF (tnot (dtv (di_tup g.isinstance g.tuple (dv 3)))) (dw_or1 (dt_c (cm_gt (lenT g.len (dv 3)) (de_gint (by exact g.tracks)) (by simp; omega)))))) ?_)
  refine ws_cons (wfor (it_range (n := y.ts.length) g.range (by omega) (lenT g.len (dv 3))) (fun _ => [some (.dat (encY y)), some (.dat (nI y.k)), some (.dat (nI y.l)), some (.dat (.tuple (y.ts.map encT))), none]) (.refl _) (fun i d hd => ?_) ?_)
  · obtain ⟨hi, rfl⟩ := rngGet hd
    have e1 : y.ts[i]? = some y.ts[i] := List.getElem?_eq_getElem hi
    refine ⟨_, _, gtn 4 nd, ws_one ?_⟩
    refine ws_skip (dt_w (torF (tnot (dtv (de_call c2 hr ⟨y.ts[i], y.k, y.l, hy.bnd _ (List.getElem_mem _), rfl, rfl⟩ (da_cons (de_ixT (getMap e1) (dv 3) (dv 4)) (da_cons (dv 1) (da_one (dv 2))))))) (dw_or1 (dt_w (tand2 (b := false) (dt_c (cn_gt (dv 4) (dn 0))) (fun h => ?_) (by simp)))))) ((((Weak.nil.drop).keep).keep).keep).keep
    have h0 : 0 < i := by simpa using h
    have h1 : i - 1 < y.ts.length := by omega
    refine dw_and1 (dt_c (cn_leP hr (de_ixT (tsAt hi) (dv 3) (dv 4)) (de_ixT (tsAt h1) (dv 3) (de_subN (by omega) (dv 4) (dn 1))) ?_))
    simpa using List.pairwise_iff_getElem.mp hy.inc (i - 1) i h1 hi (by omega)
  · exact ws_one (ws_ret de_non rfl)
abbrev R_is_yard (ds : List PyData) (d : PyData) : Prop := ∃ y : Yd, YdOk y ∧ ds = [encY y] ∧ d = .bool true
theorem c_is_yard (F : FnT K mg "is_yard" "is_yard" 18) (g : Fr mg) (c3 : Call P w K mg base 3 "first_wrong" (spD G 1 R_first_wrong)) : Call P w K mg base 4 "is_yard" (spD G 1 R_is_yard) := by
  refine callD F sc_is_yard b_is_yard fun f cdv A outer s H E hr ds d hR => ?_
  obtain ⟨y, hy, rfl, rfl⟩ := hR
  exact ws_one (ws_ret (de_c (cm_isN (de_call c3 hr ⟨y, hy, rfl, rfl⟩ (da_one (dv 0))))) rfl)
abbrev R_made_yard (ds : List PyData) (d : PyData) : Prop := ∃ y : Yd, YdOk y ∧ ds = [encY y] ∧ d = encY y
theorem c_made_yard (F : FnT K mg "made_yard" "made_yard" 19) (g : Fr mg) (c3 : Call P w K mg base 3 "first_wrong" (spD G 1 R_first_wrong)) : Call P w K mg base 4 "made_yard" (spD G 1 R_made_yard) := by
  refine callD F sc_made_yard b_made_yard fun f cdv A outer s H E hr ds d hR => ?_
  obtain ⟨y, hy, rfl, rfl⟩ := hR
  have nd := sc_made_yard.nd
  refine ws_cons (wset 1 nd (de_call c3 hr ⟨y, hy, rfl, rfl⟩ (da_one (dv 0))) ?_)
  refine ws_cons (ws_skip (dt_c (cm_notN (dv 1))) ?_)
  exact ws_one (ws_ret (dv 0) rfl)
abbrev R_is_pick (ds : List PyData) (d : PyData) : Prop := ∃ (y : Yd) (ns : List Nat), (YdOk y ∧ PkOk y ns) ∧ ds = [encY y, tN ns] ∧ d = .bool true
theorem c_is_pick (F : FnT K mg "is_pick" "is_pick" 20) (g : Fr mg) (c1 : Call P w K mg base 1 "is_whole" (spD G 3 R_is_whole)) : Call P w K mg base 2 "is_pick" (spD G 2 R_is_pick) := by
  refine callD F sc_is_pick b_is_pick fun f cdv A outer s H E hr ds d hR => ?_
  obtain ⟨y, ns, ⟨hy, hn⟩, rfl, rfl⟩ := hR
  have nd := sc_is_pick.nd
  have hl := hn.len hy
  refine ws_cons (ws_skip (tnot (dtv (di_tup g.isinstance g.tuple (dv 1)))) ?_)
  refine ws_cons (wfor (it_range (n := ns.length) g.range (by omega) (lenT g.len (dv 1))) (fun _ => [some (.dat (encY y)), some (.dat (tN ns)), none]) (.refl _) (fun i d hd => ?_) ?_)
  · obtain ⟨hi, rfl⟩ := rngGet hd
    have e1 : ns[i]? = some ns[i] := List.getElem?_eq_getElem hi
    have hb := hn.bnd _ (List.getElem_mem hi)
    refine ⟨_, _, gtn 2 nd, ws_one ?_⟩
    refine ws_skip (dt_w (torF (tnot (dtv (de_call c1 hr ⟨ns[i], 0, y.ts.length - 1, by omega, rfl, rfl⟩ (da_cons (de_ixTN e1 (dv 1) (dv 2)) (da_cons de_int (da_one (de_sub (lenT g.len (dix (dv 0))) de_int))))))) (dw_or1 (dt_w (tand2 (b := false) (dt_c (cn_gt (dv 2) (dn 0))) (fun h => ?_) (by simp)))))) ((Weak.nil.drop).keep).keep
    have h0 : 0 < i := by simpa using h
    have h1 : i - 1 < ns.length := by omega
    refine dw_and1 (dt_c (cn_le (de_ixTN e1 (dv 1) (dv 2)) (de_ixTN (List.getElem?_eq_getElem h1) (dv 1) (de_subN (by omega) (dv 2) (dn 1))) ?_))
    have h2 := List.pairwise_iff_getElem.mp hn.inc (i - 1) i h1 hi (by omega)
    simp; omega
  · exact ws_one (ws_ret de_bl rfl)
abbrev R_made_pick (ds : List PyData) (d : PyData) : Prop := ∃ (y : Yd) (ns : List Nat), (YdOk y ∧ PkOk y ns) ∧ ds = [encY y, tN ns] ∧ d = tN ns
theorem c_made_pick (F : FnT K mg "made_pick" "made_pick" 21) (g : Fr mg) (c2 : Call P w K mg base 2 "is_pick" (spD G 2 R_is_pick)) : Call P w K mg base 3 "made_pick" (spD G 2 R_made_pick) := by
  refine callD F sc_made_pick b_made_pick fun f cdv A outer s H E hr ds d hR => ?_
  obtain ⟨y, ns, ⟨hy, hn⟩, rfl, rfl⟩ := hR
  refine ws_cons (ws_skip (tnot (dtv (de_call c2 hr ⟨y, ns, ⟨hy, hn⟩, rfl, rfl⟩ (da_cons (dv 0) (da_one (dv 1)))))) ?_)
  exact ws_one (ws_ret (dv 1) rfl)
end
end TW
end
section
set_option Elab.async false
set_option linter.all false
set_option maxRecDepth 100000
set_option maxHeartbeats 2000000
/-! The walk, 2: webs. -/
namespace TW
open PySem PySem.Spec PyProof.Rows L2
section
variable {G : Glb} {P : Program} {w : World} {K : PySem.W.Frag} {mg : Str → Option Value} {base : Heap}
abbrev R_ends (ds : List PyData) (d : PyData) : Prop := ∃ (y : Yd) (t a b : Nat), y.ts[t]? = some (a, b) ∧ ds = [encY y, nI t] ∧ d = .tuple [nI a, nI (y.k + b)]
theorem c_ends (F : FnT K mg "ends" "ends" 23) (g : Fr mg) : Call P w K mg base 1 "ends" (spD G 2 R_ends) := by
  refine callD F sc_ends b_ends fun f cdv A outer s H E hr ds d hR => ?_
  obtain ⟨y, t, a, b, h, rfl, rfl⟩ := hR
  refine ws_cons (ws_asg (de_ixT (d := encT (a, b)) (getMap h) (dix (dv 0)) (dv 1)) (gtu2 2 3 sc_ends.nd) ?_)
  exact ws_one (ws_ret (de_tup (ds := [nI a, nI (y.k + b)]) (da_cons (dv 2) (da_one (de_addN (dix (dv 0)) (dv 3))))) rfl)
/-- the label of a place, before that a number -/
def labLow (k : Nat) (f : List Int) (t : Nat × Nat) : Int :=
  let fo := f.getD t.1 0
  let ft := f.getD (k + t.2) 0
  let x := if decide (0 ≤ fo) then fo else (t.1 : Int)
  let z := if decide (0 ≤ ft) then ft else ((k + t.2 : Nat) : Int)
  if z < x then z else x
/-- one track more -/
def labStep (k : Nat) (f : List Int) (t : Nat × Nat) : List Int :=
  ((f.map fun l => if decide (0 ≤ l) && decide (l ∈ [f.getD t.1 0, f.getD (k + t.2) 0]) then labLow k f t else l).set t.1 (labLow k f t)).set (k + t.2) (labLow k f t)
def labF (y : Yd) (ns : List Nat) : List Int := ns.foldl (fun f n => labStep y.k f (y.ts.getD n (0, 0))) (List.replicate (y.k + y.l) (-1))
abbrev R_labels (ds : List PyData) (d : PyData) : Prop := ∃ (y : Yd) (ns : List Nat), (YdOk y ∧ PkOk y ns) ∧ ds = [encY y, tN ns] ∧ d = .list ((labF y ns).map PyData.int)
theorem labStep_len {k : Nat} {f : List Int} {t : Nat × Nat} : (labStep k f t).length = f.length := by simp [labStep]
theorem foldl_len {α : Type} {step : List Int → α → List Int} (h : ∀ f x, (step f x).length = f.length) : ∀ (xs : List α) (f : List Int), (xs.foldl step f).length = f.length
  | [], _ => rfl
  | x :: xs, f => by rw [List.foldl_cons, foldl_len h xs, h]
theorem getDI {f : List Int} {i : Nat} (h : i < f.length) : f[i]? = some (f.getD i 0) := by
  rw [List.getD_eq_getElem?_getD, List.getElem?_eq_getElem h]
  simp
theorem c_labels (F : FnT K mg "labels" "labels" 24) (g : Fr mg) (c1 : Call P w K mg base 1 "ends" (spD G 2 R_ends)) : Call P w K mg base 2 "labels" (spD G 2 R_labels) := by
  refine callD F sc_labels b_labels fun f cdv A outer s H E hr ds d hR => ?_
  obtain ⟨y, ns, ⟨hy, hn⟩, rfl, rfl⟩ := hR
  have nd := sc_labels.nd
  have k12 := hy.k12; have l12 := hy.l12
  refine ws_cons (wset 2 nd (de_rep (n := y.k + y.l) (de_lst (da_one (de_neg de_int))) (de_addN (dix (dv 0)) (dix (dv 0))) (by omega)) ?_)
  refine ws_cons (wfor (ds := ns.map nI) (it_tup (dv 1)) (fun i => [some (.dat (encY y)), some (.dat (tN ns)), some (.flat (((ns.take i).foldl (fun f n => labStep y.k f (y.ts.getD n (0, 0))) (List.replicate (y.k + y.l) (-1))).map PyData.int)), none, none, none, none, none, none]) ?_ (fun i d hd => ?_) ?_)
  · simp
    exact .refl _
  · obtain ⟨t, et, rfl⟩ := ofMap hd
    have ht := hn.bnd t (List.mem_of_getElem? et)
    have hb := hy.bnd _ (List.getElem_mem ht)
    generalize hF : (ns.take i).foldl (fun f n => labStep y.k f (y.ts.getD n (0, 0))) (List.replicate (y.k + y.l) (-1)) = fl
    have hfl : fl.length = y.k + y.l := by
      rw [← hF, foldl_len (fun _ _ => labStep_len)]
      simp
    refine ⟨_, _, gtn 3 nd, ?_⟩
    refine ws_cons (ws_asg (de_call c1 hr ⟨y, t, y.ts[t].1, y.ts[t].2, List.getElem?_eq_getElem ht, rfl, rfl⟩ (da_cons (dv 0) (da_one (dv 3)))) (gtu2 4 5 nd) ?_)
    have a1 : y.ts[t].1 < fl.length := by omega
    have a2 : y.k + y.ts[t].2 < fl.length := by omega
    refine wt_frz (i := 2) rfl ?_
    have ea := getMap (f := PyData.int) (getDI a1)
    have eb := getMap (f := PyData.int) (getDI a2)
    refine ws_cons (wset 6 nd (de_min2 g.min (difI (dt_c (cm_ge (de_ixN .lst ea (dv 2) (dv 4)) de_int)) (fun _ => de_ixN .lst ea (dv 2) (dv 4)) (fun _ => dv 4)) (difI (dt_c (cm_ge (de_ixN .lst eb (dv 2) (dv 5)) de_int)) (fun _ => de_ixN .lst eb (dv 2) (dv 5)) (fun _ => dv 5)) |>.to (d' := .int (labLow y.k fl y.ts[t])) rfl) ?_)
    refine ws_cons (wset 7 nd (de_tup (ds := [.int (fl.getD y.ts[t].1 0), .int (fl.getD (y.k + y.ts[t].2) 0)]) (da_cons (de_ixN .lst ea (dv 2) (dv 4)) (da_one (de_ixN .lst eb (dv 2) (dv 5))))) ?_)
    refine ws_cons (ws_map (i := 2) (xs := fl) (f := PyData.int) (g := fun l => .int (if decide (0 ≤ l) && decide (l ∈ [fl.getD y.ts[t].1 0, fl.getD (y.k + y.ts[t].2) 0]) then labLow y.k fl y.ts[t] else l)) (own := [("label", 8)]) nd (blkOk_by (N := N_labels) (sc := defScope (top 24)) (by decide +kernel)) (it_lst (dv 2)) (.refl _) (bare_cons bare_nil) (turnN nd (fun _ _ _ _ _ => ⟨.inl rfl, .inr rfl⟩) rfl (bare_cons bare_nil) fun z hz s H0 C cl fp => ?_) (by omega) ?_)
    · refine difI (dt_w (tand2 (dt_c (cm_ge (dv 8) de_int)) (fun _ => dw_and1 (dt_c (cm_in (ns := [fl.getD y.ts[t].1 0, fl.getD (y.k + y.ts[t].2) 0]) .tup (dv 8) (dv 7)))))) (fun _ => dv 6) (fun _ => dv 8)
    refine ws_one (ws_asg (de_tup (ds := [.int (labLow y.k fl y.ts[t]), .int (labLow y.k fl y.ts[t])]) (da_cons (dv 6) (da_one (dv 6)))) (gt_tup (gts_cons (gsub (da 2) (dv 4) (hn := by simpa using a1)) (gts_cons (gsub (da 2) (dv 5) (hn := by simpa using a2)) gts_nil))) ?_)
    refine (Weak.keep (.keep (.keepE ?_ (.drop (.drop (.drop (.drop (.drop (.drop .nil)))))))))
    rw [foldTake et, hF]
    have ey : y.ts.getD t (0, 0) = y.ts[t] := by simp [List.getD_eq_getElem?_getD, ht]
    rw [ey]
    simp only [labStep, List.map_set, List.map_map]
    rfl
  · refine ws_one (ws_ret (de_take (i := 2) rfl) ?_)
    simp [Ret, labF]
def jnF (f : List Int) : Nat := ((List.range f.length).filter fun i => decide (0 ≤ f.getD i 0) && !decide (f.getD i 0 = (i : Int))).length
abbrev R_joins (ds : List PyData) (d : PyData) : Prop := ∃ (y : Yd) (ns : List Nat), (YdOk y ∧ PkOk y ns) ∧ ds = [encY y, tN ns] ∧ d = nI (jnF (labF y ns))
theorem labF_len {y : Yd} {ns : List Nat} : (labF y ns).length = y.k + y.l := by
  unfold labF
  rw [foldl_len (fun _ _ => labStep_len)]
  simp
theorem c_joins (F : FnT K mg "joins" "joins" 25) (g : Fr mg) (c2 : Call P w K mg base 2 "labels" (spD G 2 R_labels)) : Call P w K mg base 3 "joins" (spD G 2 R_joins) := by
  refine callD F sc_joins b_joins fun f cdv A outer s H E hr ds d hR => ?_
  obtain ⟨y, ns, ⟨hy, hn⟩, rfl, rfl⟩ := hR
  have nd := sc_joins.nd
  have k12 := hy.k12; have l12 := hy.l12
  have hl := labF_len (y := y) (ns := ns)
  refine ws_cons (wset 2 nd (de_call c2 hr ⟨y, ns, ⟨hy, hn⟩, rfl, rfl⟩ (da_cons (dv 0) (da_one (dv 1)))) ?_)
  refine ws_one (ws_ret (dlen .flat g.len (de_filt (xs := List.range (labF y ns).length) (f := nI) (g := nI) (p := fun i => decide (0 ≤ (labF y ns).getD i 0) && !decide ((labF y ns).getD i 0 = (i : Int))) (own := [("lane", 3)]) nd (blkOk_by (N := N_joins) (sc := defScope (top 25)) (by decide +kernel))
    (it_range g.range (by omega) (lenL g.len (dv 2))) (.refl _) (bare_cons bare_nil) (turnF nd (fun _ _ _ _ _ => ⟨.inl rfl, .inr rfl⟩) rfl (bare_cons bare_nil) (fun z hz s H0 C cl fp => ?_) (fun z hz _ s H0 C cl fp => dv 3)) (by simp; omega)) rfl) ?_)
  · have hz : z < (labF y ns).length := List.mem_range.mp hz
    have ez := getMap (f := PyData.int) (getDI hz)
    exact dt_w (tand2 (dt_c (cm_ge (de_ixN .lst ez (dv 2) (dv 3)) de_int)) (fun _ => dw_and1 (dt_c (cm_ne (de_ixN .lst ez (dv 2) (dv 3)) (dv 3)))))
  · simp [Ret, jnF]
end
end TW
end
section
set_option Elab.async false
set_option linter.all false
set_option maxRecDepth 100000
set_option maxHeartbeats 2000000
/-! The walk, 3: prices, rows, dealings, stands. -/
namespace TW
open PySem PySem.Spec PyProof.Rows L2
section
variable {G : Glb} {P : Program} {w : World} {K : PySem.W.Frag} {mg : Str → Option Value} {base : Heap}
abbrev R_made_prices (ds : List PyData) (d : PyData) : Prop := ∃ (y : Yd) (ps : List Nat), (YdOk y ∧ PrOk y ps) ∧ ds = [encY y, tN ps] ∧ d = tN ps
theorem c_made_prices (F : FnT K mg "made_prices" "made_prices" 28) (g : Fr mg) (c1 : Call P w K mg base 1 "is_whole" (spD G 3 R_is_whole)) (c4 : Call P w K mg base 4 "made_yard" (spD G 1 R_made_yard)) :
    Call P w K mg base 5 "made_prices" (spD G 2 R_made_prices) := by
  refine callD F sc_made_prices b_made_prices fun f cdv A outer s H E hr ds d hR => ?_
  obtain ⟨y, ps, ⟨hy, hp⟩, rfl, rfl⟩ := hR
  have nd := sc_made_prices.nd
  have tl := hy.len; have pl := hp.len
  refine ws_cons (wset 2 nd (dix (de_call c4 hr ⟨y, hy, rfl, rfl⟩ (da_one (dv 0)))) ?_)
  refine ws_cons (ws_skip (dt_w (torF (tnot (dtv (di_tup g.isinstance g.tuple (dv 1)))) (dw_or1 (dt_c (cn_ne (lenT g.len (dv 1)) (lenT g.len (dv 2)) (by simp [pl])))))) ?_)
  refine ws_cons (wfor (it_range (n := ps.length) g.range (by omega) (lenT g.len (dv 1))) (fun _ => [some (.dat (encY y)), some (.dat (tN ps)), none, none]) (.keep (.keep (.drop (.keep .nil)))) (fun i d hd => ?_) ?_)
  · obtain ⟨hi, rfl⟩ := rngGet hd
    have e1 : ps[i]? = some ps[i] := List.getElem?_eq_getElem hi
    have hb := hp.bnd _ (List.getElem_mem hi)
    refine ⟨_, _, gtn 3 nd, ws_one ?_⟩
    exact ws_skip (tnot (dtv (de_call c1 hr ⟨ps[i], 0, 999, by omega, rfl, rfl⟩ (da_cons (de_ixTN e1 (dv 1) (dv 3)) (da_cons de_int (da_one (de_gint (by exact g.priceP)))))))) (.keep (.keep (.drop (.drop .nil))))
  · exact ws_one (ws_ret (dv 1) rfl)
abbrev R_check_many (ds : List PyData) (d : PyData) : Prop := ∃ m : Nat, m ≤ 60 ∧ ds = [nI m] ∧ d = .none
theorem c_check_many (F : FnT K mg "check_many" "check_many" 29) (g : Fr mg) (c1 : Call P w K mg base 1 "is_whole" (spD G 3 R_is_whole)) : Call P w K mg base 2 "check_many" (spD G 1 R_check_many) := by
  refine callD F sc_check_many b_check_many fun f cdv A outer s H E hr ds d hR => ?_
  obtain ⟨m, hm, rfl, rfl⟩ := hR
  exact ws_one (ws_skip (tnot (dtv (de_call c1 hr ⟨m, 0, 60, by omega, rfl, rfl⟩ (da_cons (dv 0) (da_cons de_int (da_one (de_gint (by exact g.tracks)))))))) rfl)
abbrev R_alone (ds : List PyData) (d : PyData) : Prop := ∃ y : Yd, YdOk y ∧ ds = [encY y] ∧ d = tN (List.range (y.k + y.l))
theorem c_alone (F : FnT K mg "alone" "alone" 30) (g : Fr mg) : Call P w K mg base 1 "alone" (spD G 1 R_alone) := by
  refine callD F sc_alone b_alone fun f cdv A outer s H E hr ds d hR => ?_
  obtain ⟨y, hy, rfl, rfl⟩ := hR
  have := hy.k12; have := hy.l12
  exact ws_one (ws_ret (de_tupRg g.tuple g.range (by omega) (de_addN (dix (dv 0)) (dix (dv 0)))) rfl)
/-- the labels after a join: the higher one becomes the lower one -/
def joinF (ms : List Nat) (one other : Nat) : List Nat :=
  let a := ms.getD one 0
  let b := ms.getD other 0
  ms.map fun m => if m = max a b then min a b else m
abbrev R_joined_by (ds : List PyData) (d : PyData) : Prop := ∃ (ms : List Nat) (one other : Nat), (ms.length ≤ 1000 ∧ one < ms.length ∧ other < ms.length) ∧ ds = [tN ms, nI one, nI other] ∧ d = tN (joinF ms one other)
theorem getDN {f : List Nat} {i : Nat} (h : i < f.length) : f[i]? = some (f.getD i 0) := by
  rw [List.getD_eq_getElem?_getD, List.getElem?_eq_getElem h]
  simp
theorem pyMin {a b : Nat} : (if (b : Int) < (a : Int) then (b : Int) else (a : Int)) = ((min a b : Nat) : Int) := by split <;> omega
theorem pyMax {a b : Nat} : (if (b : Int) > (a : Int) then (b : Int) else (a : Int)) = ((max a b : Nat) : Int) := by split <;> omega
theorem c_joined_by (F : FnT K mg "joined_by" "joined_by" 31) (g : Fr mg) : Call P w K mg base 1 "joined_by" (spD G 3 R_joined_by) := by
  refine callD F sc_joined_by b_joined_by fun f cdv A outer s H E hr ds d hR => ?_
  obtain ⟨ms, one, other, ⟨h0, h1, h2⟩, rfl, rfl⟩ := hR
  have nd := sc_joined_by.nd
  have ea := getDN h1
  have eb := getDN h2
  refine ws_cons (ws_asg (de_tup (ds := [nI (min (ms.getD one 0) (ms.getD other 0)), nI (max (ms.getD one 0) (ms.getD other 0))]) (da_cons ((de_min2 g.min (de_ixTN ea (dv 0) (dv 1)) (de_ixTN eb (dv 0) (dv 2))).to (by rw [pyMin])) (da_one ((de_max2 g.max (de_ixTN ea (dv 0) (dv 1)) (de_ixTN eb (dv 0) (dv 2))).to (by rw [pyMax]))))) (gtu2 3 4 nd) ?_)
  refine ws_one (ws_ret (de_tuple .flat g.tuple (de_map (xs := ms) (f := nI) (g := fun m => nI (if decide (m = max (ms.getD one 0) (ms.getD other 0)) then min (ms.getD one 0) (ms.getD other 0) else m)) (own := [("mark", 5)]) nd (blkOk_by (N := N_joined_by) (sc := defScope (top 31)) (by decide +kernel))
    (it_tup (dv 0)) (.refl _) (bare_cons bare_nil) (turnN nd (fun _ _ _ _ _ => ⟨.inl rfl, .inr rfl⟩) rfl (bare_cons bare_nil) fun z hz s H0 C cl fp => ?_) (by omega))) ?_)
  · exact difN (dt_c (cn_eq (dv 5) (dv 4))) (fun _ => dv 3) (fun _ => dv 5)
  · simp [Ret, joinF]
abbrev R_made_row (ds : List PyData) (d : PyData) : Prop := ∃ r : List Nat, RwOk r ∧ ds = [tN r] ∧ d = tN r
abbrev metD (r : List Nat) (i : Nat) : List PyData := (List.range r.length).map fun v => .bool (decide (v ∈ r.take i))
theorem metD_get {r : List Nat} {i v : Nat} (h : v < r.length) : (metD r i)[v]? = some (.bool (decide (v ∈ r.take i))) := by
  rw [List.getElem?_map, List.getElem?_range h]
  rfl
theorem metD_0 {r : List Nat} : metD r 0 = List.replicate r.length (.bool false) := by
  apply List.ext_getElem?
  intro v
  rw [List.getElem?_map, List.getElem?_replicate]
  by_cases h : v < r.length
  · rw [List.getElem?_range h, if_pos h]; simp
  · rw [List.getElem?_eq_none (by simpa using h), if_neg h]; rfl
theorem take_snoc {α : Type} {xs : List α} {i : Nat} {x : α} (h : xs[i]? = some x) : xs.take (i + 1) = xs.take i ++ [x] := by rw [List.take_succ, h]; rfl
theorem metD_S {r : List Nat} {i v : Nat} (h : r[i]? = some v) (hv : v < r.length) : (metD r i).set v (.bool true) = metD r (i + 1) := by
  apply List.ext_getElem?
  intro u
  by_cases hu : u < r.length
  · rw [metD_get hu, List.getElem?_set]
    by_cases e : v = u
    · subst e
      rw [if_pos rfl, if_pos (by simpa using hv), take_snoc h]
      simp
    · rw [if_neg e, metD_get hu, take_snoc h]
      have : ¬ u = v := fun z => e z.symm
      simp [this]
  · rw [List.getElem?_eq_none (by simpa using hu), List.getElem?_eq_none (by simpa using hu)]
theorem notBefore {r : List Nat} {i v : Nat} (nd : r.Nodup) (h : r[i]? = some v) : v ∉ r.take i := fun hm => by
  obtain ⟨j, hj, e⟩ := List.mem_take_iff_getElem.mp hm
  obtain ⟨hi, e2⟩ := List.getElem?_eq_some_iff.mp h
  have h1 : j < i := by omega
  have := (List.pairwise_iff_getElem.mp nd) j i (by omega) hi h1
  exact this (e.trans e2.symm)
theorem c_made_row (F : FnT K mg "made_row" "made_row" 35) (g : Fr mg) (c1 : Call P w K mg base 1 "is_whole" (spD G 3 R_is_whole)) : Call P w K mg base 2 "made_row" (spD G 1 R_made_row) := by
  refine callD F sc_made_row b_made_row fun f cdv A outer s H E hr ds d hR => ?_
  obtain ⟨r, hr', rfl, rfl⟩ := hR
  have nd := sc_made_row.nd
  have rl := hr'.len
  refine ws_cons (ws_skip (dt_w (torF (tnot (dtv (di_tup g.isinstance g.tuple (dv 0)))) (dw_or1 (dt_c (cm_gt (lenT g.len (dv 0)) (de_gint (by exact g.wagons)) (by simp; omega)))))) ?_)
  refine ws_cons (wset 1 nd (de_rep (de_lst (da_one de_bl)) (lenT (n := r.length) g.len (dv 0)) (by omega)) ?_)
  refine ws_cons (wfor (it_enum g.enumerate (dv 0)) (fun i => [some (.dat (tN r)), some (.flat (metD r i)), none, none]) (.keep (.keepE (by rw [metD_0]) (.keep (.keep .nil)))) (fun i d hd => ?_) ?_)
  · obtain ⟨x, ex, rfl⟩ := enumGet hd
    obtain ⟨v, ev, rfl⟩ := ofMap ex
    have hv := hr'.bnd v (List.mem_of_getElem? ev)
    have hn := notBefore hr'.nd ev
    refine ⟨_, _, gtu2 2 3 nd, ?_⟩
    refine ws_cons (ws_skip (dt_w (torF (tnot (dtv (de_call c1 hr ⟨v, 0, r.length - 1, by omega, rfl, rfl⟩ (da_cons (dv 3) (da_cons de_int (da_one (de_sub (lenT (n := r.length) g.len (dv 0)) de_int))))))) (dw_or1 (dtv ((de_ixN (.als (i := 1) rfl) (metD_get hv) (da 1) (dv 3)).to (by simp [hn])))))) ?_)
    refine ws_one (ws_asg de_bl (gsub (da 1) (dv 3) (hn := by simpa using hv)) ?_)
    exact .keep (.keepE (congrArg (fun z => some (AV.flat z)) (metD_S ev hv)) (.drop (.drop .nil)))
  · exact ws_one (ws_ret (dv 0) rfl)
abbrev R_is_number (ds : List PyData) (d : PyData) : Prop := ∃ i lo hi : Int, (lo ≤ i ∧ i ≤ hi) ∧ ds = [.int i, .int lo, .int hi] ∧ d = .bool true
theorem c_is_number_kernel (F : FnT K mg "is_number_kernel" "is_number" 38) (g : Fr mg) : Call P w K mg base 1 "is_number_kernel" (spD G 3 R_is_number) := by
  refine callD F sc_is_number_kernel b_is_number_kernel fun f cdv A outer s H E hr ds d hR => ?_
  obtain ⟨i, lo, hi, hh, rfl, rfl⟩ := hR
  exact ws_one (ws_ret (andT (di_int g.isinstance g.int (dv 0)) (andT (dnot (di_bool g.isinstance g.bool (dv 0))) (de_one (de_in2 (dv 1) (dv 0) (dv 2) (by simp [hh.1, hh.2]))))) rfl)
theorem c_is_number_dealings (F : FnT K mg "is_number_dealings" "is_number" 45) (g : Fr mg) : Call P w K mg base 1 "is_number_dealings" (spD G 3 R_is_number) := by
  refine callD F sc_is_number_dealings b_is_number_dealings fun f cdv A outer s H E hr ds d hR => ?_
  obtain ⟨i, lo, hi, hh, rfl, rfl⟩ := hR
  exact ws_one (ws_ret (andT (di_int g.isinstance g.int (dv 0)) (andT (dnot (di_bool g.isinstance g.bool (dv 0))) (de_one (de_in2 (dv 1) (dv 0) (dv 2) (by simp [hh.1, hh.2]))))) rfl)
/-- a dealing of a row over a yard -/
structure DlOk (y : Yd) (r dl : List Nat) : Prop where
  len : dl.length = r.length
  bnd : ∀ t ∈ dl, t < y.ts.length
abbrev R_made_dealing (ds : List PyData) (d : PyData) : Prop := ∃ (y : Yd) (r dl : List Nat), (YdOk y ∧ RwOk r ∧ DlOk y r dl) ∧ ds = [encY y, tN r, tN dl] ∧ d = tN dl
theorem c_made_dealing (F : FnT K mg "made_dealing" "made_dealing" 47) (g : Fr mg) (c4 : Call P w K mg base 4 "made_yard" (spD G 1 R_made_yard)) (c2 : Call P w K mg base 2 "made_row" (spD G 1 R_made_row)) (c1 : Call P w K mg base 1 "is_number_dealings" (spD G 3 R_is_number)) :
    Call P w K mg base 5 "made_dealing" (spD G 3 R_made_dealing) := by
  refine callD F sc_made_dealing b_made_dealing fun f cdv A outer s H E hr ds d hR => ?_
  obtain ⟨y, r, dl, ⟨hy, hr', hd⟩, rfl, rfl⟩ := hR
  have nd := sc_made_dealing.nd
  have dn := hd.len
  refine ws_cons (ws_expr (de_call c4 hr ⟨y, hy, rfl, rfl⟩ (da_one (dv 0))) ?_)
  refine ws_cons (ws_expr (de_call c2 hr ⟨r, hr', rfl, rfl⟩ (da_one (dv 1))) ?_)
  refine ws_cons (ws_skip (dt_w (torF (tnot (dtv (di_tup g.isinstance g.tuple (dv 2)))) (dw_or1 (dt_c (cn_ne (lenT g.len (dv 2)) (lenT g.len (dv 1)) (by simp [dn])))))) ?_)
  refine ws_cons (wfor (it_enum g.enumerate (dv 2)) (fun i => [some (.dat (encY y)), some (.dat (tN r)), some (.dat (tN dl)), none, none]) (.refl _) (fun i d hd' => ?_) ?_)
  · obtain ⟨x, ex, rfl⟩ := enumGet hd'
    obtain ⟨t, et, rfl⟩ := ofMap ex
    have ht := hd.bnd t (List.mem_of_getElem? et)
    refine ⟨_, _, gtu2 3 4 nd, ws_one ?_⟩
    exact ws_skip (tnot (dtv (de_call c1 hr ⟨t, 0, y.ts.length - 1, by omega, rfl, rfl⟩ (da_cons (dv 4) (da_cons de_int (da_one (de_sub (lenT g.len (dix (dv 0))) de_int))))))) (.keep (.keep (.keep (.drop (.drop .nil)))))
  · exact ws_one (ws_ret (dv 2) rfl)
/-- a stand -/
structure Sd where
  w : List Nat
  f : List (List Nat)
  s : List (List Nat)
  g : Nat
abbrev encS (s : Sd) : PyData := .tuple [tN s.w, .tuple (s.f.map tN), .tuple (s.s.map tN), nI s.g]
def stand0 (y : Yd) (r : List Nat) : Sd := ⟨r, List.replicate y.k [], List.replicate y.l [], 0⟩
abbrev R_first_stand (ds : List PyData) (d : PyData) : Prop := ∃ (y : Yd) (r : List Nat), YdOk y ∧ ds = [encY y, tN r] ∧ d = encS (stand0 y r)
theorem c_first_stand (F : FnT K mg "first_stand" "first_stand" 49) (g : Fr mg) : Call P w K mg base 1 "first_stand" (spD G 2 R_first_stand) := by
  refine callD F sc_first_stand b_first_stand fun f cdv A outer s H E hr ds d hR => ?_
  obtain ⟨y, r, hy, rfl, rfl⟩ := hR
  have := hy.k12; have := hy.l12
  refine ws_one (ws_ret (de_tup (ds := [tN r, .tuple (List.replicate y.k (.tuple [])), .tuple (List.replicate y.l (.tuple [])), nI 0]) (da_cons (dv 1) (da_cons (de_repT (n := y.k) (de_tup (ds := [.tuple []]) (da_one (de_tup (ds := []) da_nil))) (dix (dv 0)) hy.k1 (by omega)) (da_cons (de_repT (n := y.l) (de_tup (ds := [.tuple []]) (da_one (de_tup (ds := []) da_nil))) (dix (dv 0)) hy.l1 (by omega)) (da_one (dn 0)))))) ?_)
  simp [Ret, stand0]
abbrev R_with_lane (ds : List PyData) (d : PyData) : Prop := ∃ (ls : List PyData) (at_ : Nat) (x : PyData), (at_ < ls.length ∧ ls.length ≤ 1000) ∧ ds = [.tuple ls, nI at_, x] ∧ d = .tuple (ls.set at_ x)
theorem set_cut {α : Type} {ls : List α} {i : Nat} {x : α} (h : i < ls.length) : ls.take i ++ [x] ++ ls.drop (i + 1) = ls.set i x := by
  rw [List.set_eq_take_append_cons_drop, if_pos h]
  simp
theorem c_with_lane (F : FnT K mg "with_lane" "with_lane" 52) (g : Fr mg) : Call P w K mg base 1 "with_lane" (spD G 3 R_with_lane) := by
  refine callD F sc_with_lane b_with_lane fun f cdv A outer s H E hr ds d hR => ?_
  obtain ⟨ls, i, x, ⟨h1, h2⟩, rfl, rfl⟩ := hR
  refine ws_one (ws_ret (de_catT (de_catT (de_slT_to (dv 0) (dv 1)) (de_tup (ds := [x]) (da_one (dv 2))) (by simp; omega)) (de_slT_from (dv 0) (de_addN (dv 1) (dn 1))) (by simp; omega)) ?_)
  rw [set_cut h1]
  rfl
end
end TW
end
section
set_option Elab.async false
set_option linter.all false
set_option maxRecDepth 100000
set_option maxHeartbeats 2000000
/-! The walk, 4: the engine. -/
namespace TW
open PySem PySem.Spec PyProof.Rows L2
/-- the three kinds of moves -/
inductive Mk where
  | in_ | over | out
  deriving DecidableEq
def Mk.str : Mk → Str
  | .in_ => "in"
  | .over => "over"
  | .out => "out"
structure Mv where
  k : Mk
  at_ : Nat
  deriving DecidableEq
abbrev encM (m : Mv) : PyData := .tuple [.str m.k.str, nI m.at_]
def many (y : Yd) : Mk → Nat
  | .in_ => y.k
  | .over => y.ts.length
  | .out => y.l
theorem strM : Mk.in_.str ≠ Mk.over.str ∧ Mk.in_.str ≠ Mk.out.str ∧ Mk.over.str ≠ Mk.out.str := by decide +kernel
section
variable {G : Glb} {P : Program} {w : World} {K : PySem.W.Frag} {mg : Str → Option Value} {base : Heap}
abbrev R_is_move (ds : List PyData) (d : PyData) : Prop := ∃ (y : Yd) (m : Mv), (YdOk y ∧ m.at_ < many y m.k) ∧ ds = [encY y, encM m] ∧ d = .bool true
theorem manyAt (y : Yd) (k : Mk) : valP [((.inr Mk.in_.str : Key), nI y.k), (.inr Mk.over.str, nI y.ts.length), (.inr Mk.out.str, nI y.l)] (.inr k.str) = some (nI (many y k)) := by
  obtain ⟨h1, h2, h3⟩ := strM
  cases k <;> simp [valP, many, h1, h2, h3]
theorem c_is_move (F : FnT K mg "is_move" "is_move" 51) (g : Fr mg) (c1 : Call P w K mg base 1 "is_whole" (spD G 3 R_is_whole)) : Call P w K mg base 2 "is_move" (spD G 2 R_is_move) := by
  refine callD F sc_is_move b_is_move fun f cdv A outer s H E hr ds d hR => ?_
  obtain ⟨y, m, ⟨hy, hm⟩, rfl, rfl⟩ := hR
  have nd := sc_is_move.nd
  obtain ⟨s1, s2, s3⟩ := strM
  refine ws_cons (ws_skip (dt_w (torF (tnot (dtv (di_tup g.isinstance g.tuple (dv 1)))) (torF (dt_c (cn_ne (lenT g.len (dv 1)) (dn 2))) (dw_or1 (tnot (dtv (di_str g.isinstance g.str (dix (dv 1))))))))) ?_)
  refine ws_cons (wset 2 nd (de_disp3 s1 s2 s3 de_str (dix (dv 0)) de_str (lenT (n := y.ts.length) g.len (dix (dv 0))) de_str (dix (dv 0))) ?_)
  refine ws_one (ws_ret (andT (de_c (cm_kin hr (dix (dv 1)) (da 2) (q := by rw [manyAt]; rfl))) (de_one (de_call c1 hr ⟨m.at_, 0, many y m.k - 1, by omega, rfl, rfl⟩ (da_cons (dix (dv 1)) (da_cons de_int (da_one (de_sub (de_kget hr (da 2) (dix (dv 1)) (hd := manyAt y m.k)) de_int))))))) rfl)
/-- lanes of a stand are not too long -/
structure SdOk (y : Yd) (s : Sd) : Prop where
  w : s.w.length ≤ 400
  fl : s.f.length = y.k
  sl : s.s.length = y.l
  f : ∀ l ∈ s.f, l.length ≤ 400
  s : ∀ l ∈ s.s, l.length ≤ 400
def goIn (s : Sd) (a : Nat) : Sd := ⟨s.w.drop 1, s.f.set a (s.f.getD a [] ++ s.w.take 1), s.s, s.g⟩
def goOver (s : Sd) (t : Nat × Nat) : Sd := ⟨s.w, s.f.set t.1 ((s.f.getD t.1 []).drop 1), s.s.set t.2 (s.s.getD t.2 [] ++ (s.f.getD t.1 []).take 1), s.g⟩
def goOut (s : Sd) (b : Nat) : Sd := ⟨s.w, s.f, s.s.set b ((s.s.getD b []).drop 1), s.g + 1⟩
def afterM (y : Yd) (s : Sd) (m : Mv) : Sd :=
  match m.k with
  | .in_ => goIn s m.at_
  | .over => goOver s (y.ts.getD m.at_ (0, 0))
  | .out => goOut s m.at_
/-- what a move asks for -/
def canM (y : Yd) (s : Sd) (m : Mv) : Prop :=
  match m.k with
  | .in_ => s.w ≠ []
  | .over => s.f.getD (y.ts.getD m.at_ (0, 0)).1 [] ≠ []
  | .out => (s.s.getD m.at_ []).head? = some s.g
theorem getDL {f : List (List Nat)} {i : Nat} (h : i < f.length) : f[i]? = some (f.getD i []) := by
  rw [List.getD_eq_getElem?_getD, List.getElem?_eq_getElem h]
  simp
theorem shN {n : Nat} {k : Nat} : Sh k (nI n) := by cases k <;> trivial
theorem shTN {ns : List Nat} {k : Nat} : Sh (k + 1) (tN ns) := fun d hd => by
  obtain ⟨n, _, rfl⟩ := List.mem_map.mp hd
  exact shN
theorem mapSet {ls : List (List Nat)} {i : Nat} {x : List Nat} : (ls.map tN).set i (tN x) = (ls.set i x).map tN := by rw [List.map_set]
abbrev R_moved_in (ds : List PyData) (d : PyData) : Prop := ∃ (y : Yd) (s : Sd) (a : Nat) (k : PyData), (YdOk y ∧ SdOk y s ∧ a < y.k ∧ s.w ≠ []) ∧ ds = [encS s, .tuple [k, nI a]] ∧ d = encS (goIn s a)
theorem notEmpty {ns : List Nat} (h : ns ≠ []) : (ns.map nI).isEmpty = false := by cases ns <;> simp at h ⊢
theorem c_moved_in (F : FnT K mg "moved_in" "moved_in" 53) (g : Fr mg) (c1 : Call P w K mg base 1 "with_lane" (spD G 3 R_with_lane)) : Call P w K mg base 2 "moved_in" (spD G 2 R_moved_in) := by
  refine callD F sc_moved_in b_moved_in fun f cdv A outer s0 H E hr ds d hR => ?_
  obtain ⟨y, s, a, k, ⟨hy, hs, ha, hw⟩, rfl, rfl⟩ := hR
  have nd := sc_moved_in.nd
  have h1 := hs.fl; have h2 := hs.w; have h3 := hy.k12
  have ea := getDL (f := s.f) (i := a) (by omega)
  have fa : (s.f.map tN)[a]? = some (tN (s.f.getD a [])) := getMap ea
  have hl := hs.f _ (List.mem_of_getElem? ea)
  refine ws_cons (ws_asg (dv 0) (gtu4 2 3 4 5 nd) ?_)
  refine ws_cons (ws_skip (dt_c (cm_eqT0 hr shTN (dv 2) (de_tup (ds := []) da_nil) (notEmpty hw))) ?_)
  refine ws_cons (wset 6 nd (dix (dv 1)) ?_)
  refine ws_one (ws_ret (de_tup (ds := [.tuple ((s.w.map nI).drop 1), .tuple ((s.f.map tN).set a (.tuple (((s.f.getD a []).map nI) ++ (s.w.map nI).take 1))), .tuple (s.s.map tN), nI s.g]) (da_cons (de_slT_from (dv 2) (dn 1)) (da_cons (de_call c1 hr ⟨s.f.map tN, a, _, by simp; omega, rfl, rfl⟩ (da_cons (dv 3) (da_cons (dv 6) (da_one (de_catT (de_ixT fa (dv 3) (dv 6)) (de_slT_to (dv 2) (dn 1)) (by simp only [List.length_map, List.length_take]; omega)))))) (da_cons (dv 4) (da_one (dv 5)))))) ?_)
  simp only [Ret, goIn, encS, tN, ← List.map_drop, ← List.map_take, ← List.map_append, List.map_set]
abbrev R_moved_over (ds : List PyData) (d : PyData) : Prop := ∃ (y : Yd) (s : Sd) (t : Nat) (k : PyData), (YdOk y ∧ SdOk y s ∧ t < y.ts.length ∧ s.f.getD (y.ts.getD t (0, 0)).1 [] ≠ []) ∧ ds = [encY y, encS s, .tuple [k, nI t]] ∧ d = encS (goOver s (y.ts.getD t (0, 0)))
theorem tsGetD {y : Yd} {t : Nat} (h : t < y.ts.length) : y.ts.getD t (0, 0) = y.ts[t] := by simp [List.getD_eq_getElem?_getD, h]
theorem c_moved_over (F : FnT K mg "moved_over" "moved_over" 54) (g : Fr mg) (c1 : Call P w K mg base 1 "with_lane" (spD G 3 R_with_lane)) : Call P w K mg base 2 "moved_over" (spD G 3 R_moved_over) := by
  refine callD F sc_moved_over b_moved_over fun f cdv A outer s0 H E hr ds d hR => ?_
  obtain ⟨y, s, t, k, ⟨hy, hs, ht, hw⟩, rfl, rfl⟩ := hR
  have nd := sc_moved_over.nd
  rw [tsGetD ht] at hw ⊢
  have hb := hy.bnd _ (List.getElem_mem ht)
  have h1 := hs.fl; have h2 := hs.sl; have h3 := hy.k12; have h4 := hy.l12
  have ea := getDL (f := s.f) (i := y.ts[t].1) (by omega)
  have eb := getDL (f := s.s) (i := y.ts[t].2) (by omega)
  have fa : (s.f.map tN)[y.ts[t].1]? = some (tN (s.f.getD y.ts[t].1 [])) := getMap ea
  have fb : (s.s.map tN)[y.ts[t].2]? = some (tN (s.s.getD y.ts[t].2 [])) := getMap eb
  have hl := hs.f _ (List.mem_of_getElem? ea)
  have hl2 := hs.s _ (List.mem_of_getElem? eb)
  refine ws_cons (ws_asg (dv 1) (gtu4 3 4 5 6 nd) ?_)
  refine ws_cons (ws_asg (de_ixT (tsAt ht) (dix (dv 0)) (dix (dv 2))) (gtu2 7 8 nd) ?_)
  refine ws_cons (ws_skip (dt_c (cm_eqT0 hr shTN (de_ixT fa (dv 4) (dv 7)) (de_tup (ds := []) da_nil) (notEmpty hw))) ?_)
  refine ws_one (ws_ret (de_tup (ds := [tN s.w, .tuple ((s.f.map tN).set y.ts[t].1 (.tuple (((s.f.getD y.ts[t].1 []).map nI).drop 1))), .tuple ((s.s.map tN).set y.ts[t].2 (.tuple (((s.s.getD y.ts[t].2 []).map nI) ++ ((s.f.getD y.ts[t].1 []).map nI).take 1))), nI s.g])
    (da_cons (dv 3) (da_cons (de_call c1 hr ⟨s.f.map tN, y.ts[t].1, _, by simp; omega, rfl, rfl⟩ (da_cons (dv 4) (da_cons (dv 7) (da_one (de_slT_from (de_ixT fa (dv 4) (dv 7)) (dn 1))))))
      (da_cons (de_call c1 hr ⟨s.s.map tN, y.ts[t].2, _, by simp; omega, rfl, rfl⟩ (da_cons (dv 5) (da_cons (dv 8) (da_one (de_catT (de_ixT fb (dv 5) (dv 8)) (de_slT_to (de_ixT fa (dv 4) (dv 7)) (dn 1)) (by simp only [List.length_map, List.length_take]; omega)))))) (da_one (dv 6)))))) ?_)
  simp only [Ret, goOver, encS, tN, ← List.map_drop, ← List.map_take, ← List.map_append, List.map_set]
abbrev R_moved_out (ds : List PyData) (d : PyData) : Prop := ∃ (y : Yd) (s : Sd) (b : Nat) (k : PyData), (YdOk y ∧ SdOk y s ∧ b < y.l ∧ (s.s.getD b []).head? = some s.g) ∧ ds = [encS s, .tuple [k, nI b]] ∧ d = encS (goOut s b)
theorem c_moved_out (F : FnT K mg "moved_out" "moved_out" 55) (g : Fr mg) (c1 : Call P w K mg base 1 "with_lane" (spD G 3 R_with_lane)) : Call P w K mg base 2 "moved_out" (spD G 2 R_moved_out) := by
  refine callD F sc_moved_out b_moved_out fun f cdv A outer s0 H E hr ds d hR => ?_
  obtain ⟨y, s, b, k, ⟨hy, hs, hb, hw⟩, rfl, rfl⟩ := hR
  have nd := sc_moved_out.nd
  have h2 := hs.sl; have h4 := hy.l12
  have eb := getDL (f := s.s) (i := b) (by omega)
  have fb : (s.s.map tN)[b]? = some (tN (s.s.getD b [])) := getMap eb
  have hw0 : s.s.getD b [] ≠ [] := fun z => by rw [z] at hw; cases hw
  have e0 : (s.s.getD b [])[0]? = some s.g := by rw [← List.head?_eq_getElem?]; exact hw
  refine ws_cons (ws_asg (dv 0) (gtu4 2 3 4 5 nd) ?_)
  refine ws_cons (wset 6 nd (dix (dv 1)) ?_)
  refine ws_cons (ws_skip (dt_c (cm_eqT0 hr shTN (de_ixT fb (dv 4) (dv 6)) (de_tup (ds := []) da_nil) (notEmpty hw0))) ?_)
  refine ws_cons (ws_skip (dt_c (cn_ne (i := s.g) (dix (de_ixT fb (dv 4) (dv 6)) (getMap e0)) (dv 5) (by simp))) ?_)
  refine ws_one (ws_ret (de_tup (ds := [tN s.w, .tuple (s.f.map tN), .tuple ((s.s.map tN).set b (.tuple (((s.s.getD b []).map nI).drop 1))), nI (s.g + 1)])
    (da_cons (dv 2) (da_cons (dv 3) (da_cons (de_call c1 hr ⟨s.s.map tN, b, _, by simp; omega, rfl, rfl⟩ (da_cons (dv 4) (da_cons (dv 6) (da_one (de_slT_from (de_ixT fb (dv 4) (dv 6)) (dn 1)))))) (da_one (de_addN (dv 5) (dn 1))))))) ?_)
  simp only [Ret, goOut, encS, tN, ← List.map_drop, ← List.map_take, ← List.map_append, List.map_set]
abbrev R_after_move (ds : List PyData) (d : PyData) : Prop := ∃ (y : Yd) (s : Sd) (m : Mv), (YdOk y ∧ SdOk y s ∧ m.at_ < many y m.k ∧ canM y s m) ∧ ds = [encY y, encS s, encM m] ∧ d = encS (afterM y s m)
theorem c_after_move (F : FnT K mg "after_move" "after_move" 56) (g : Fr mg) (c2 : Call P w K mg base 2 "is_move" (spD G 2 R_is_move)) (c3 : Call P w K mg base 2 "moved_in" (spD G 2 R_moved_in)) (c4 : Call P w K mg base 2 "moved_over" (spD G 3 R_moved_over)) (c5 : Call P w K mg base 2 "moved_out" (spD G 2 R_moved_out)) :
    Call P w K mg base 3 "after_move" (spD G 3 R_after_move) := by
  refine callD F sc_after_move b_after_move fun f cdv A outer s0 H E hr ds d hR => ?_
  obtain ⟨y, s, ⟨mk, at_⟩, ⟨hy, hs, hm, hc⟩, rfl, rfl⟩ := hR
  refine ws_cons (ws_skip (tnot (dtv (de_call c2 hr ⟨y, ⟨mk, at_⟩, ⟨hy, hm⟩, rfl, rfl⟩ (da_cons (dv 0) (da_one (dv 2)))))) ?_)
  obtain ⟨s1, s2, s3⟩ := strM
  cases mk with
  | in_ =>
    exact ws_cons (ws_if (dt_c (cm_eqs (b := true) (dix (dv 2)) de_str (decide_eq_true rfl))) (fun _ => ws_one (ws_ret (de_call c3 hr ⟨y, s, at_, _, ⟨hy, hs, hm, hc⟩, rfl, rfl⟩ (da_cons (dv 1) (da_one (dv 2)))) rfl)) nofun)
  | over =>
    refine ws_cons (ws_skip (dt_c (cm_eqs (dix (dv 2)) de_str (decide_eq_false s1.symm))) ?_)
    exact ws_one (ws_ret (difT (dt_c (cm_eqs (dix (dv 2)) de_str (decide_eq_true rfl))) (de_call c4 hr ⟨y, s, at_, _, ⟨hy, hs, hm, hc⟩, rfl, rfl⟩ (da_cons (dv 0) (da_cons (dv 1) (da_one (dv 2)))))) rfl)
  | out =>
    refine ws_cons (ws_skip (dt_c (cm_eqs (dix (dv 2)) de_str (decide_eq_false s2.symm))) ?_)
    exact ws_one (ws_ret (difF (dt_c (cm_eqs (dix (dv 2)) de_str (decide_eq_false s3.symm))) (de_call c5 hr ⟨y, s, at_, _, ⟨hy, hs, hm, hc⟩, rfl, rfl⟩ (da_cons (dv 1) (da_one (dv 2))))) rfl)
end
end TW
end
section
set_option Elab.async false
set_option linter.all false
set_option maxRecDepth 100000
set_option maxHeartbeats 2000000
/-! The walk, 5: signals. -/
namespace TW
open PySem PySem.Spec PyProof.Rows L2
/-- each wagon's track -/
def trkF (r dl : List Nat) : List Nat := (r.zip dl).foldl (fun f p => f.set p.1 p.2) (List.replicate r.length 0)
structure TkOk (y : Yd) (n : Nat) (tk : List Nat) : Prop where
  len : tk.length = n
  bnd : ∀ t ∈ tk, t < y.ts.length
/-- a stand of n wagons -/
structure SdI (y : Yd) (n : Nat) (s : Sd) : Prop where
  fl : s.f.length = y.k
  sl : s.s.length = y.l
  bw : ∀ v ∈ s.w, v < n
  bf : ∀ v ∈ s.f.flatten, v < n
  bs : ∀ v ∈ s.s.flatten, v < n
  cnt : s.w.length + s.f.flatten.length + s.s.flatten.length ≤ n
  n : n ≤ 400
theorem mem_len {ls : List (List Nat)} {l : List Nat} (h : l ∈ ls) : l.length ≤ ls.flatten.length := by
  induction ls with
  | nil => cases h
  | cons x r ih =>
    rw [List.flatten_cons, List.length_append]
    rcases List.mem_cons.mp h with rfl | h
    · omega
    · have := ih h; omega
theorem SdI.ok {y : Yd} {n : Nat} {s : Sd} (h : SdI y n s) : SdOk y s := by
  have h1 := h.cnt; have h2 := h.n
  exact ⟨by omega, h.fl, h.sl, fun l hl => by have := mem_len hl; omega, fun l hl => by have := mem_len hl; omega⟩
section
variable {G : Glb} {P : Program} {w : World} {K : PySem.W.Frag} {mg : Str → Option Value} {base : Heap}
abbrev R_tracks_of (ds : List PyData) (d : PyData) : Prop := ∃ r dl : List Nat, (RwOk r ∧ dl.length = r.length) ∧ ds = [tN r, tN dl] ∧ d = lN (trkF r dl)
theorem foldl_set_len {α : Type} : ∀ (ps : List (Nat × α)) (f : List α), (ps.foldl (fun f p => f.set p.1 p.2) f).length = f.length
  | [], _ => rfl
  | p :: ps, f => by rw [List.foldl_cons, foldl_set_len ps]; simp
theorem zipD_N {r dl : List Nat} : zipD (r.map nI) (dl.map nI) = (r.zip dl).map fun p => .tuple [nI p.1, nI p.2] := by
  unfold zipD
  rw [List.zip_map, List.map_map]
  rfl
theorem c_tracks_of (F : FnT K mg "tracks_of" "tracks_of" 58) (g : Fr mg) : Call P w K mg base 1 "tracks_of" (spD G 2 R_tracks_of) := by
  refine callD F sc_tracks_of b_tracks_of fun f cdv A outer s H E hr ds d hR => ?_
  obtain ⟨r, dl, ⟨hr', hl⟩, rfl, rfl⟩ := hR
  have nd := sc_tracks_of.nd
  have rl := hr'.len
  refine ws_cons (wset 2 nd (de_rep (n := r.length) (de_lst (da_one (dn 0))) (lenT (n := r.length) g.len (dv 0)) (by omega)) ?_)
  refine ws_cons (wfor (it_zip g.zip (dv 0) (dv 1) (by simp [hl])) (fun i => [some (.dat (tN r)), some (.dat (tN dl)), some (.flat ((((r.zip dl).take i).foldl (fun f p => f.set p.1 p.2) (List.replicate r.length 0)).map nI)), none, none]) (.keep (.keep (.keepE (by simp) (.keep (.keep .nil))))) (fun i d hd => ?_) ?_)
  · rw [zipD_N] at hd
    obtain ⟨p, ep, rfl⟩ := ofMap hd
    have hv : p.1 < r.length := hr'.bnd _ (List.of_mem_zip (List.mem_of_getElem? ep)).1
    refine ⟨_, _, gtu2 3 4 nd, ?_⟩
    refine ws_one (ws_asg (dv 4) (gsub (da 2) (dv 3) (hn := by rw [List.length_map, foldl_set_len]; simpa using hv)) ?_)
    refine .keep (.keep (.keepE ?_ (.drop (.drop .nil))))
    rw [foldTake ep, List.map_set]
  · refine ws_one (ws_ret (de_take (i := 2) rfl) ?_)
    have e : (zipD (r.map nI) (dl.map nI)).length = (r.zip dl).length := by rw [zipD_N]; simp
    simp only [Ret, e, List.take_length, trkF]
/-- whether a track's head may go over -/
def ovG (y : Yd) (tk : List Nat) (s : Sd) (t : Nat) : Bool :=
  match s.f.getD (y.ts.getD t (0, 0)).1 [] with
  | [] => false
  | h :: _ => decide (tk.getD h 0 = t) && ((s.w ++ s.f.flatten).filter fun v => decide (v < h) && decide ((y.ts.getD (tk.getD v 0) (0, 0)).2 = (y.ts.getD t (0, 0)).2)).isEmpty
theorem ovG_nil {y : Yd} {tk : List Nat} {s : Sd} {t : Nat} (ht : t < y.ts.length) (e : s.f.getD y.ts[t].1 [] = []) : ovG y tk s t = false := by
  unfold ovG
  rw [tsGetD ht, e]
theorem ovG_cons {y : Yd} {tk : List Nat} {s : Sd} {t h : Nat} {r : List Nat} (ht : t < y.ts.length) (e : s.f.getD y.ts[t].1 [] = h :: r) : ovG y tk s t = (decide (tk.getD h 0 = t) && ((s.w ++ s.f.flatten).filter fun v => decide (v < h) && decide ((y.ts.getD (tk.getD v 0) (0, 0)).2 = y.ts[t].2)).isEmpty) := by
  unfold ovG
  rw [tsGetD ht, e]
abbrev R_is_over_green (ds : List PyData) (d : PyData) : Prop := ∃ (y : Yd) (n : Nat) (tk : List Nat) (s : Sd) (t : Nat), (YdOk y ∧ TkOk y n tk ∧ SdI y n s ∧ t < y.ts.length) ∧ ds = [encY y, lN tk, encS s, nI t] ∧ d = .bool (ovG y tk s t)
theorem getDT {f : List Nat} {i : Nat} (h : i < f.length) : (f.map nI)[i]? = some (nI (f.getD i 0)) := getMap (getDN h)
theorem flat_take {ls : List (List Nat)} {i : Nat} {l : List Nat} (h : ls[i]? = some l) : (ls.take (i + 1)).flatten = (ls.take i).flatten ++ l := by
  rw [take_snoc h]; simp
theorem flat_take_len {ls : List (List Nat)} {i : Nat} : (ls.take i).flatten.length ≤ ls.flatten.length := by
  have h : ls.flatten = (ls.take i).flatten ++ (ls.drop i).flatten := by rw [← List.flatten_append, List.take_append_drop]
  rw [h, List.length_append]
  omega
theorem c_is_over_green (F : FnT K mg "is_over_green" "is_over_green" 59) (g : Fr mg) : Call P w K mg base 1 "is_over_green" (spD G 4 R_is_over_green) := by
  refine callD F sc_is_over_green b_is_over_green fun f cdv A outer s0 H E hr ds d hR => ?_
  obtain ⟨y, n, tk, s, t, ⟨hy, hk, hs, ht⟩, rfl, rfl⟩ := hR
  have nd := sc_is_over_green.nd
  have hb := hy.bnd _ (List.getElem_mem ht)
  have h1 := hs.fl; have h3 := hs.cnt; have h4 := hs.n; have h5 := hk.len
  have eD := tsGetD ht
  have ea := getDL (f := s.f) (i := y.ts[t].1) (by omega)
  have fa : (s.f.map tN)[y.ts[t].1]? = some (tN (s.f.getD y.ts[t].1 [])) := getMap ea
  refine ws_cons (ws_asg (dv 2) (gtu4 4 5 6 7 nd) ?_)
  refine ws_cons (ws_asg (de_ixT (tsAt ht) (dix (dv 0)) (dv 3)) (gtu2 8 9 nd) ?_)
  cases e : s.f.getD y.ts[t].1 [] with
  | nil =>
    rw [e] at fa
    refine ws_cons (ws_if (b := true) (dt_w (torT (dt_c (cm_eqT0 hr shTN (de_ixT fa (dv 5) (dv 8)) (de_tup (ds := []) da_nil))))) (fun _ => ws_one (ws_ret de_bl ?_)) nofun)
    rw [ovG_nil ht e]
    rfl
  | cons h r =>
    rw [e] at fa
    have hm : h ∈ s.f.flatten := List.mem_flatten.mpr ⟨_, List.mem_of_getElem? ea, by rw [e]; simp⟩
    have hn := hs.bf h hm
    have th := getDT (f := tk) (i := h) (by omega)
    by_cases q : tk.getD h 0 = t
    · refine ws_cons (ws_skip (dt_w (torF (dt_c (cm_eqT0 hr shTN (de_ixT fa (dv 5) (dv 8)) (de_tup (ds := []) da_nil))) (dw_or1 (dt_c (cn_ne (de_ixN .lst th (dv 1) (dix (de_ixT fa (dv 5) (dv 8)))) (dv 3) (by rw [decide_eq_true q]; rfl)))))) ?_)
      refine ws_cons (wset 10 nd (de_list .tup g.list (dv 4)) ?_)
      refine ws_cons (wfor (it_tup (dv 5)) (fun i => [some (.dat (encY y)), some (.dat (lN tk)), some (.dat (encS s)), some (.dat (nI t)), some (.dat (tN s.w)), some (.dat (.tuple (s.f.map tN))), some (.dat (.tuple (s.s.map tN))), some (.dat (nI s.g)), some (.dat (nI y.ts[t].1)), some (.dat (nI y.ts[t].2)), some (.flat ((s.w ++ (s.f.take i).flatten).map nI)), none, none]) (.keep (.keep (.keep (.keep (.keep (.keep (.keep (.keep (.keep (.keep (.keepE (by simp) (.keep (.keep .nil))))))))))))) (fun i d hd => ?_) ?_)
      · obtain ⟨l, el, rfl⟩ := ofMap hd
        have hl := mem_len (List.mem_of_getElem? el)
        have h6 := flat_take_len (ls := s.f) (i := i)
        refine ⟨_, _, gtn 11 nd, ?_⟩
        refine ws_one (ws_expr (de_extendT (da 10) rfl (dv 11) rfl (by simp only [List.length_map, List.length_append]; omega)) ?_)
        refine .keep (.keep (.keep (.keep (.keep (.keep (.keep (.keep (.keep (.keep (.keepE ?_ (.drop (.drop .nil))))))))))))
        rw [flat_take el]
        simp
      · have e6 : (s.f.take (s.f.map tN).length).flatten = s.f.flatten := by simp
        rw [e6]
        refine wt_frz (i := 10) rfl ?_
        have all : ∀ v ∈ s.w ++ s.f.flatten, v < tk.length := fun v hv => by
          rcases List.mem_append.mp hv with z | z
          · have := hs.bw v z; omega
          · have := hs.bf v z; omega
        refine ws_one (ws_ret (de_c (cm_eqL0 hr (fun d hd => ?_) (de_filt (xs := s.w ++ s.f.flatten) (f := nI) (g := nI) (p := fun v => decide (v < h) && decide ((y.ts.getD (tk.getD v 0) (0, 0)).2 = y.ts[t].2)) (own := [("wagon", 12)]) nd (blkOk_by (N := N_is_over_green) (sc := defScope (top 59)) (by decide +kernel))
          (it_lst (dv 10)) (.refl _) (bare_cons bare_nil) (turnF nd (fun _ _ _ _ _ => ⟨.inl rfl, .inr rfl⟩) rfl (bare_cons bare_nil) (fun z hz s H0 C cl fp => ?_) (fun z hz _ s H0 C cl fp => dv 12)) (by simp only [List.length_append]; omega)).frz (de_lst (ds := []) da_nil).frz)) ?_)
        · obtain ⟨v, _, rfl⟩ := List.mem_map.mp hd
          exact shN
        · have tz := getDT (all z hz)
          have hb2 := hk.bnd _ (List.mem_of_getElem? (getDN (all z hz)))
          have e7 := tsGetD hb2
          rw [e7]
          exact dt_w (tand2 (dt_c (cn_lt (dv 12) (dix (de_ixT fa (dv 5) (dv 8))))) (fun _ => dw_and1 (dt_c (cn_eq (dix (de_ixT (tsAt hb2) (dix (dv 0)) (de_ixN .lst tz (dv 1) (dv 12)))) (dv 9)))))
        · rw [ovG_cons ht e, decide_eq_true q, Bool.true_and]
          simp only [Ret, List.isEmpty_map]
    · refine ws_cons (ws_if (b := true) (dt_w (torF (dt_c (cm_eqT0 hr shTN (de_ixT fa (dv 5) (dv 8)) (de_tup (ds := []) da_nil))) (dw_or1 (dt_c (cn_ne (de_ixN .lst th (dv 1) (dix (de_ixT fa (dv 5) (dv 8)))) (dv 3) (by rw [decide_eq_false q]; rfl)))))) (fun _ => ws_one (ws_ret de_bl ?_)) nofun)
      rw [ovG_cons ht e, decide_eq_false q]
      rfl
end
end TW
end
section
set_option Elab.async false
set_option linter.all false
set_option maxRecDepth 100000
set_option maxHeartbeats 2000000
/-! The walk, 6: the moves that are green, the run. -/
namespace TW
open PySem PySem.Spec PyProof.Rows L2
section
variable {G : Glb} {P : Program} {w : World} {K : PySem.W.Frag} {mg : Str → Option Value} {base : Heap}
def grIn (y : Yd) (tk : List Nat) (s : Sd) : List Mv :=
  match s.w with
  | [] => []
  | v :: _ => [⟨.in_, (y.ts.getD (tk.getD v 0) (0, 0)).1⟩]
def grOver (y : Yd) (tk : List Nat) (s : Sd) (n : Nat) : List Mv := ((List.range n).filter (ovG y tk s)).map fun t => ⟨.over, t⟩
def grOut (s : Sd) (n : Nat) : List Mv := ((List.range n).filter fun b => decide ((s.s.getD b []).head? = some s.g)).map fun b => ⟨.out, b⟩
def greenF (y : Yd) (tk : List Nat) (s : Sd) : List Mv := grIn y tk s ++ grOver y tk s y.ts.length ++ grOut s s.s.length
abbrev R_green_moves (ds : List PyData) (d : PyData) : Prop := ∃ (y : Yd) (n : Nat) (tk : List Nat) (s : Sd), (YdOk y ∧ TkOk y n tk ∧ SdI y n s) ∧ ds = [encY y, lN tk, encS s] ∧ d = .tuple ((greenF y tk s).map encM)
theorem filtS {p : Nat → Bool} {f : Nat → Mv} {n : Nat} : ((List.range (n + 1)).filter p).map f = ((List.range n).filter p).map f ++ (if p n then [f n] else []) := by
  rw [List.range_succ, List.filter_append, List.map_append]
  cases h : p n <;> simp [List.filter_cons, h]
theorem c_green_moves (F : FnT K mg "green_moves" "green_moves" 60) (g : Fr mg) (c1 : Call P w K mg base 1 "is_over_green" (spD G 4 R_is_over_green)) : Call P w K mg base 2 "green_moves" (spD G 3 R_green_moves) := by
  refine callD F sc_green_moves b_green_moves fun f cdv A outer s0 H E hr ds d hR => ?_
  obtain ⟨y, n, tk, s, ⟨hy, hk, hs⟩, rfl, rfl⟩ := hR
  have nd := sc_green_moves.nd
  have h1 := hs.fl; have h2 := hs.sl; have h3 := hs.cnt; have h4 := hs.n; have h5 := hk.len; have h6 := hy.len; have h7 := hy.l12
  refine ws_cons (ws_asg (dv 2) (gtu4 3 4 5 6 nd) ?_)
  refine ws_cons (wset 7 nd (de_lst (ds := []) da_nil) ?_)
  have go : WSs G (CD P w K mg base N_green_moves "green_moves" (defScope (top 60)) f cdv A outer s0 H E) (defBody (top 60) |>.drop 3) [some (.dat (encY y)), some (.dat (lN tk)), some (.dat (encS s)), some (.dat (tN s.w)), some (.dat (.tuple (s.f.map tN))), some (.dat (.tuple (s.s.map tN))), some (.dat (nI s.g)), some (.flat ((grIn y tk s).map encM)), none, none, none] (Ret (.tuple ((greenF y tk s).map encM))) := by
    have gl : (grIn y tk s).length ≤ 1 := by unfold grIn; split <;> simp
    refine ws_cons (wfor (it_range (n := y.ts.length) g.range (by omega) (lenT g.len (dix (dv 0)))) (fun i => [some (.dat (encY y)), some (.dat (lN tk)), some (.dat (encS s)), some (.dat (tN s.w)), some (.dat (.tuple (s.f.map tN))), some (.dat (.tuple (s.s.map tN))), some (.dat (nI s.g)), some (.flat ((grIn y tk s ++ grOver y tk s i).map encM)), none, none, none]) (.keep (.keep (.keep (.keep (.keep (.keep (.keep (.keepE (by simp [grOver]) (.keep (.keep (.keep .nil))))))))))) (fun i d hd => ?_) ?_)
    · obtain ⟨hi, rfl⟩ := rngGet hd
      have ol : (grOver y tk s i).length ≤ i := by
        unfold grOver
        rw [List.length_map]
        exact Nat.le_trans (List.length_filter_le _ _) (by simp)
      refine ⟨_, _, gtn 8 nd, ws_one ?_⟩
      refine ws_if (dtv (de_call c1 hr ⟨y, n, tk, s, i, ⟨hy, hk, hs, hi⟩, rfl, rfl⟩ (da_cons (dv 0) (da_cons (dv 1) (da_cons (dv 2) (da_one (dv 8))))))) (fun hb => ws_one ?_) (fun hb => ws_nil ?_)
      · refine ws_expr (de_append (da 7) rfl (de_tup (ds := [.str Mk.over.str, nI i]) (da_cons de_str (da_one (dv 8)))) rfl (by simp only [List.length_map, List.length_append]; omega)) ?_
        refine .keep (.keep (.keep (.keep (.keep (.keep (.keep (.keepE ?_ (.drop (.drop (.drop .nil))))))))))
        simp only [grOver, filtS, hb, if_true]
        simp
      · refine .keep (.keep (.keep (.keep (.keep (.keep (.keep (.keepE ?_ (.drop (.drop (.drop .nil))))))))))
        simp only [grOver, filtS, hb]
        simp
    have el : (rng y.ts.length).length = y.ts.length := by simp [rng]
    rw [el]
    have ol : (grOver y tk s y.ts.length).length ≤ y.ts.length := by
      unfold grOver
      rw [List.length_map]
      exact Nat.le_trans (List.length_filter_le _ _) (by simp)
    refine ws_cons (wfor (it_enum g.enumerate (dv 5)) (fun i => [some (.dat (encY y)), some (.dat (lN tk)), some (.dat (encS s)), some (.dat (tN s.w)), some (.dat (.tuple (s.f.map tN))), some (.dat (.tuple (s.s.map tN))), some (.dat (nI s.g)), some (.flat ((grIn y tk s ++ grOver y tk s y.ts.length ++ grOut s i).map encM)), none, none, none]) (.keep (.keep (.keep (.keep (.keep (.keep (.keep (.keepE (by simp [grOut]) (.keep (.keep (.keep .nil))))))))))) (fun i d hd => ?_) ?_)
    · obtain ⟨x, ex, rfl⟩ := enumGet hd
      obtain ⟨l, el, rfl⟩ := ofMap ex
      have hi : i < s.s.length := (List.getElem?_eq_some_iff.mp el).1
      have eD : s.s.getD i [] = l := by rw [List.getD_eq_getElem?_getD, el]; rfl
      have ol2 : (grOut s i).length ≤ i := by
        unfold grOut
        rw [List.length_map]
        exact Nat.le_trans (List.length_filter_le _ _) (by simp)
      refine ⟨_, _, gtu2 9 10 nd, ws_one ?_⟩
      refine ws_if (b := decide ((s.s.getD i []).head? = some s.g)) (ρ1 := ?_) ?_ (fun hb => ws_one ?_) (fun hb => ws_nil ?_)
      · exact [some (.dat (encY y)), some (.dat (lN tk)), some (.dat (encS s)), some (.dat (tN s.w)), some (.dat (.tuple (s.f.map tN))), some (.dat (.tuple (s.s.map tN))), some (.dat (nI s.g)), some (.flat ((grIn y tk s ++ grOver y tk s y.ts.length ++ grOut s i).map encM)), none, some (.dat (nI i)), some (.dat (tN l))]
      · rw [eD]
        cases l with
        | nil => exact dt_w (tandF (dt_c (cm_neT0 hr shTN (dv 10) (de_tup (ds := []) da_nil))))
        | cons h r => exact dt_w (tandT (dt_c (cm_neT0 hr shTN (dv 10) (de_tup (ds := []) da_nil))) (dw_and1 (dt_c (cn_eq (dix (dv 10)) (dv 6) (by simp)))))
      · refine ws_expr (de_append (da 7) rfl (de_tup (ds := [.str Mk.out.str, nI i]) (da_cons de_str (da_one (dv 9)))) rfl (by simp only [List.length_map, List.length_append]; omega)) ?_
        refine .keep (.keep (.keep (.keep (.keep (.keep (.keep (.keepE ?_ (.drop (.drop (.drop .nil))))))))))
        simp only [grOut, filtS, hb, if_true]
        simp
      · refine .keep (.keep (.keep (.keep (.keep (.keep (.keep (.keepE ?_ (.drop (.drop (.drop .nil))))))))))
        simp only [grOut, filtS, hb]
        simp
    have el2 : (enumD (s.s.map tN)).length = s.s.length := by simp [enumD_length]
    rw [el2]
    exact ws_one (ws_ret (de_tuple (.als (i := 7) rfl) g.tuple (da 7)) rfl)
  by_cases hw : s.w = []
  · refine ws_cons (ws_skip (dt_c (cm_neT0 hr shTN (dv 3) (de_tup (ds := []) da_nil) (by rw [hw]; rfl))) ?_)
    have e : grIn y tk s = [] := by unfold grIn; rw [hw]
    rw [e] at go
    exact go
  · obtain ⟨v, r, hv⟩ := List.exists_cons_of_ne_nil hw
    have hn := hs.bw v (by rw [hv]; simp)
    have tz := getDT (f := tk) (i := v) (by omega)
    have hb := hk.bnd _ (List.mem_of_getElem? (getDN (f := tk) (i := v) (by omega)))
    have e : grIn y tk s = [⟨.in_, y.ts[tk.getD v 0].1⟩] := by unfold grIn; rw [hv]; show [(⟨.in_, (y.ts.getD (tk.getD v 0) (0, 0)).1⟩ : Mv)] = _; rw [tsGetD hb]
    have e0 : (s.w.map nI)[0]? = some (nI v) := by rw [hv]; rfl
    rw [e] at go
    refine ws_cons (ws_if (b := true) (dt_c (cm_neT0 hr shTN (dv 3) (de_tup (ds := []) da_nil) (by rw [hv]; rfl))) (fun _ => ws_one (ws_expr (de_append (da 7) rfl (de_tup (ds := [.str Mk.in_.str, nI y.ts[tk.getD v 0].1]) (da_cons de_str (da_one (dix (de_ixT (tsAt hb) (dix (dv 0)) (de_ixN .lst tz (dv 1) (dix (dv 3) e0))))))) rfl (by simp)) ?_)) nofun)
    exact go
abbrev R_check_picks (ds : List PyData) (d : PyData) : Prop := ∃ ps : List Nat, ds = [tN ps] ∧ d = .none
theorem c_check_picks (F : FnT K mg "check_picks" "check_picks" 62) (g : Fr mg) : Call P w K mg base 1 "check_picks" (spD G 1 R_check_picks) := by
  refine callD F sc_check_picks b_check_picks fun f cdv A outer s0 H E hr ds d hR => ?_
  obtain ⟨ps, rfl, rfl⟩ := hR
  have nd := sc_check_picks.nd
  refine ws_cons (ws_skip (tnot (dtv (di_tup g.isinstance g.tuple (dv 0)))) ?_)
  refine ws_one (wfor (it_enum g.enumerate (dv 0)) (fun i => [some (.dat (tN ps)), none, none]) (.refl _) (fun i d hd => ?_) rfl)
  obtain ⟨x, ex, rfl⟩ := enumGet hd
  obtain ⟨v, ev, rfl⟩ := ofMap ex
  refine ⟨_, _, gtu2 1 2 nd, ws_one ?_⟩
  exact ws_skip (dt_w (torF (tnot (dtv (di_int g.isinstance g.int (dv 2)))) (torF (dtv (di_bool g.isinstance g.bool (dv 2))) (dw_or1 (dt_c (cm_lt (dv 2) de_int (decide_eq_false (by omega)))))))) (.keep (.drop (.drop .nil)))
/-! ### the run -/
def mDef : Mv := ⟨.in_, 0⟩
def pickAt (ps : List Nat) (j : Nat) : Nat := if j < ps.length then ps.getD j 0 else 0
/-- one move more -/
def stepR (y : Yd) (tk ps : List Nat) (q : List Mv × Sd) : List Mv × Sd :=
  match greenF y tk q.2 with
  | [] => q
  | m :: ms => (q.1 ++ [(m :: ms).getD (pickAt ps q.1.length % (m :: ms).length) mDef], afterM y q.2 ((m :: ms).getD (pickAt ps q.1.length % (m :: ms).length) mDef))
def iterR (y : Yd) (tk ps : List Nat) : Nat → List Mv × Sd → List Mv × Sd
  | 0, q => q
  | n + 1, q => iterR y tk ps n (stepR y tk ps q)
/-- moves that are still to come -/
def leftM (s : Sd) : Nat := 3 * s.w.length + 2 * s.f.flatten.length + s.s.flatten.length
def runF (y : Yd) (r dl ps : List Nat) : List Mv × Sd := iterR y (trkF r dl) ps (3 * r.length) ([], stand0 y r)
theorem flat_set {ls : List (List Nat)} {i : Nat} {x : List Nat} (h : i < ls.length) : (ls.set i x).flatten.length + (ls.getD i []).length = ls.flatten.length + x.length := by
  induction ls generalizing i with
  | nil => simp at h
  | cons l r ih =>
    cases i with
    | zero => simp; omega
    | succ i =>
      have := ih (i := i) (by simpa using h)
      simp only [List.set_cons_succ, List.flatten_cons, List.length_append, List.getD_cons_succ]
      omega
theorem mem_flat_set {ls : List (List Nat)} {i : Nat} {x : List Nat} {v : Nat} (h : v ∈ (ls.set i x).flatten) : v ∈ ls.flatten ∨ v ∈ x := by
  obtain ⟨l, hl, hv⟩ := List.mem_flatten.mp h
  rcases List.mem_or_eq_of_mem_set hl with h | h
  · exact .inl (List.mem_flatten.mpr ⟨l, h, hv⟩)
  · exact .inr (h ▸ hv)
theorem mem_getD {ls : List (List Nat)} {i v : Nat} (h : v ∈ ls.getD i []) : v ∈ ls.flatten := by
  by_cases hi : i < ls.length
  · exact List.mem_flatten.mpr ⟨_, List.mem_of_getElem? (getDL hi), h⟩
  · rw [List.getD_eq_getElem?_getD, List.getElem?_eq_none (by omega)] at h
    cases h
/-- a move that may be made keeps the stand in order, and is one less to come -/
theorem moved {y : Yd} {n : Nat} {s : Sd} {m : Mv} (hy : YdOk y) (hs : SdI y n s) (hm : m.at_ < many y m.k) (hc : canM y s m) : SdI y n (afterM y s m) ∧ leftM (afterM y s m) + 1 = leftM s := by
  obtain ⟨mk, a⟩ := m
  have h1 := hs.fl; have h2 := hs.sl; have h3 := hs.cnt
  cases mk with
  | in_ =>
    have ha : a < s.f.length := by rw [h1]; exact hm
    obtain ⟨v, r, hv⟩ := List.exists_cons_of_ne_nil (show s.w ≠ [] from hc)
    have q := flat_set (x := s.f.getD a [] ++ s.w.take 1) ha
    have e1 : (s.w.drop 1).length + 1 = s.w.length := by rw [hv]; simp
    have e2 : (s.w.take 1).length = 1 := by rw [hv]; simp
    rw [List.length_append, e2] at q
    refine ⟨⟨by simpa [afterM, goIn] using h1, h2, fun v hv => hs.bw v (List.mem_of_mem_drop hv), fun v hv => ?_, hs.bs, ?_, hs.n⟩, ?_⟩
    · rcases mem_flat_set hv with h | h
      · exact hs.bf v h
      · rcases List.mem_append.mp h with h | h
        · exact hs.bf v (mem_getD h)
        · exact hs.bw v (List.mem_of_mem_take h)
    · show (s.w.drop 1).length + (s.f.set a (s.f.getD a [] ++ s.w.take 1)).flatten.length + s.s.flatten.length ≤ n
      omega
    · show 3 * (s.w.drop 1).length + 2 * (s.f.set a (s.f.getD a [] ++ s.w.take 1)).flatten.length + s.s.flatten.length + 1 = 3 * s.w.length + 2 * s.f.flatten.length + s.s.flatten.length
      omega
  | over =>
    have ht : a < y.ts.length := hm
    have hb := hy.bnd _ (List.getElem_mem ht)
    have hc : s.f.getD (y.ts.getD a (0, 0)).1 [] ≠ [] := hc
    have eA : afterM y s ⟨.over, a⟩ = goOver s y.ts[a] := by
      show goOver s (y.ts.getD a (0, 0)) = _
      rw [tsGetD ht]
    rw [eA]
    rw [tsGetD ht] at hc
    have ha : y.ts[a].1 < s.f.length := by omega
    have hb2 : y.ts[a].2 < s.s.length := by omega
    obtain ⟨v, r, hv⟩ := List.exists_cons_of_ne_nil hc
    have q1 := flat_set (x := (s.f.getD y.ts[a].1 []).drop 1) ha
    have q2 := flat_set (x := s.s.getD y.ts[a].2 [] ++ (s.f.getD y.ts[a].1 []).take 1) hb2
    have e1 : ((s.f.getD y.ts[a].1 []).drop 1).length + 1 = (s.f.getD y.ts[a].1 []).length := by rw [hv]; simp
    have e2 : ((s.f.getD y.ts[a].1 []).take 1).length = 1 := by rw [hv]; simp
    rw [List.length_append, e2] at q2
    refine ⟨⟨by simpa [goOver] using h1, by simpa [goOver] using h2, hs.bw, fun v hv => ?_, fun v hv => ?_, ?_, hs.n⟩, ?_⟩
    · rcases mem_flat_set hv with h | h
      · exact hs.bf v h
      · exact hs.bf v (mem_getD (List.mem_of_mem_drop h))
    · rcases mem_flat_set hv with h | h
      · exact hs.bs v h
      · rcases List.mem_append.mp h with h | h
        · exact hs.bs v (mem_getD h)
        · exact hs.bf v (mem_getD (List.mem_of_mem_take h))
    · show s.w.length + (s.f.set y.ts[a].1 ((s.f.getD y.ts[a].1 []).drop 1)).flatten.length + (s.s.set y.ts[a].2 (s.s.getD y.ts[a].2 [] ++ (s.f.getD y.ts[a].1 []).take 1)).flatten.length ≤ n
      omega
    · show 3 * s.w.length + 2 * (s.f.set y.ts[a].1 ((s.f.getD y.ts[a].1 []).drop 1)).flatten.length + (s.s.set y.ts[a].2 (s.s.getD y.ts[a].2 [] ++ (s.f.getD y.ts[a].1 []).take 1)).flatten.length + 1 = 3 * s.w.length + 2 * s.f.flatten.length + s.s.flatten.length
      omega
  | out =>
    have ha : a < s.s.length := by rw [h2]; exact hm
    have hc : (s.s.getD a []).head? = some s.g := hc
    have hne : s.s.getD a [] ≠ [] := fun z => by rw [z] at hc; cases hc
    obtain ⟨v, r, hv⟩ := List.exists_cons_of_ne_nil hne
    have q := flat_set (x := (s.s.getD a []).drop 1) ha
    have e1 : ((s.s.getD a []).drop 1).length + 1 = (s.s.getD a []).length := by rw [hv]; simp
    refine ⟨⟨h1, by simpa [afterM, goOut] using h2, hs.bw, hs.bf, fun v hv => ?_, ?_, hs.n⟩, ?_⟩
    · rcases mem_flat_set hv with h | h
      · exact hs.bs v h
      · exact hs.bs v (mem_getD (List.mem_of_mem_drop h))
    · show s.w.length + s.f.flatten.length + (s.s.set a ((s.s.getD a []).drop 1)).flatten.length ≤ n
      omega
    · show 3 * s.w.length + 2 * s.f.flatten.length + (s.s.set a ((s.s.getD a []).drop 1)).flatten.length + 1 = 3 * s.w.length + 2 * s.f.flatten.length + s.s.flatten.length
      omega
/-- what is green may be made -/
theorem green_can {y : Yd} {n : Nat} {tk : List Nat} {s : Sd} {m : Mv} (hy : YdOk y) (hk : TkOk y n tk) (hs : SdI y n s) (h : m ∈ greenF y tk s) : m.at_ < many y m.k ∧ canM y s m := by
  unfold greenF at h
  rcases List.mem_append.mp h with h | h
  · rcases List.mem_append.mp h with h | h
    · unfold grIn at h
      split at h
      · cases h
      · rename_i v r hw
        simp only [List.mem_cons, List.not_mem_nil, or_false] at h
        subst h
        have hn := hs.bw v (by rw [hw]; simp)
        have hb := hk.bnd _ (List.mem_of_getElem? (getDN (f := tk) (i := v) (by rw [hk.len]; exact hn)))
        refine ⟨?_, fun z => by rw [hw] at z; cases z⟩
        show (y.ts.getD (tk.getD v 0) (0, 0)).1 < y.k
        rw [tsGetD hb]
        exact (hy.bnd _ (List.getElem_mem hb)).1
    · obtain ⟨t, ht, rfl⟩ := List.mem_map.mp h
      obtain ⟨h1, h2⟩ := List.mem_filter.mp ht
      have h3 : t < y.ts.length := List.mem_range.mp h1
      refine ⟨h3, fun z => ?_⟩
      have z : s.f.getD (y.ts.getD t (0, 0)).1 [] = [] := z
      unfold ovG at h2
      rw [z] at h2
      cases h2
  · obtain ⟨b, hb, rfl⟩ := List.mem_map.mp h
    obtain ⟨h1, h2⟩ := List.mem_filter.mp hb
    have h3 : b < s.s.length := List.mem_range.mp h1
    have h4 : (s.s.getD b []).head? = some s.g := of_decide_eq_true h2
    exact ⟨by rw [hs.sl] at h3; exact h3, h4⟩
end
end TW
end
section
set_option Elab.async false
set_option linter.all false
set_option maxRecDepth 100000
set_option maxHeartbeats 2000000
/-! The walk, 7: the run. -/
namespace TW
open PySem PySem.Spec PyProof.Rows L2
section
variable {G : Glb} {P : Program} {w : World} {K : PySem.W.Frag} {mg : Str → Option Value} {base : Heap}
theorem foldl_set_mem : ∀ (ps : List (Nat × Nat)) (f : List Nat) (t : Nat), t ∈ ps.foldl (fun f p => f.set p.1 p.2) f → t ∈ f ∨ ∃ p ∈ ps, p.2 = t
  | [], f, t, h => .inl h
  | p :: ps, f, t, h => by
    rw [List.foldl_cons] at h
    rcases foldl_set_mem ps _ t h with h | ⟨q, hq, e⟩
    · rcases List.mem_or_eq_of_mem_set h with h | h
      · exact .inl h
      · exact .inr ⟨p, by simp, h.symm⟩
    · exact .inr ⟨q, by simp [hq], e⟩
theorem trk_ok {y : Yd} {r dl : List Nat} (hd : DlOk y r dl) : TkOk y r.length (trkF r dl) := by
  refine ⟨by unfold trkF; rw [foldl_set_len]; simp, fun t ht => ?_⟩
  unfold trkF at ht
  rcases foldl_set_mem _ _ _ ht with h | ⟨p, hp, e⟩
  · obtain ⟨h1, rfl⟩ := List.mem_replicate.mp h
    cases e : dl with
    | nil => have := hd.len; rw [e] at this; exact absurd this.symm h1
    | cons x l => have := hd.bnd x (by rw [e]; simp); omega
  · rw [← e]
    exact hd.bnd _ (List.of_mem_zip hp).2
theorem stand0_ok {y : Yd} {r : List Nat} (hr : RwOk r) : SdI y r.length (stand0 y r) := by
  refine ⟨by simp [stand0], by simp [stand0], hr.bnd, fun v hv => ?_, fun v hv => ?_, ?_, hr.len⟩
  · obtain ⟨l, hl, hv⟩ := List.mem_flatten.mp hv
    rw [(List.mem_replicate.mp hl).2] at hv
    cases hv
  · obtain ⟨l, hl, hv⟩ := List.mem_flatten.mp hv
    rw [(List.mem_replicate.mp hl).2] at hv
    cases hv
  · simp [stand0]
theorem left0 {y : Yd} {r : List Nat} : leftM (stand0 y r) = 3 * r.length := by simp [leftM, stand0]
theorem stepR_nil {y : Yd} {tk ps : List Nat} {q : List Mv × Sd} (h : greenF y tk q.2 = []) : stepR y tk ps q = q := by
  unfold stepR
  rw [h]
theorem stepR_cons {y : Yd} {tk ps : List Nat} {q : List Mv × Sd} (h : greenF y tk q.2 ≠ []) : stepR y tk ps q = (q.1 ++ [(greenF y tk q.2).getD (pickAt ps q.1.length % (greenF y tk q.2).length) mDef], afterM y q.2 ((greenF y tk q.2).getD (pickAt ps q.1.length % (greenF y tk q.2).length) mDef)) := by
  obtain ⟨m, ms, e⟩ := List.exists_cons_of_ne_nil h
  unfold stepR
  rw [e]
theorem iterR_fix {y : Yd} {tk ps : List Nat} {q : List Mv × Sd} (h : greenF y tk q.2 = []) : ∀ n, iterR y tk ps n q = q
  | 0 => rfl
  | n + 1 => by
    unfold iterR
    rw [stepR_nil h]
    exact iterR_fix h n
theorem shM {m : Mv} {k : Nat} : Sh (k + 1) (encM m) := fun d hd => by
  rcases List.mem_cons.mp hd with rfl | hd
  · have h : PyData.canLay0 (.str m.k.str) = true := by
      cases m.k <;> decide +kernel
    cases k <;> exact h
  · rcases List.mem_cons.mp hd with rfl | hd
    · exact shN
    · cases hd
theorem shMs {ms : List Mv} {k : Nat} : Sh (k + 2) (.tuple (ms.map encM)) := fun d hd => by
  obtain ⟨m, _, rfl⟩ := List.mem_map.mp hd
  exact shM
abbrev encRun (q : List Mv × Sd) : PyData := .tuple [.tuple (q.1.map encM), encS q.2]
abbrev R_run (ds : List PyData) (d : PyData) : Prop := ∃ (y : Yd) (r dl ps : List Nat), (YdOk y ∧ RwOk r ∧ DlOk y r dl) ∧ ds = [encY y, tN r, tN dl, tN ps] ∧ d = encRun (runF y r dl ps)
theorem c_run (F : FnT K mg "run" "run" 63) (g : Fr mg) (c4 : Call P w K mg base 4 "made_yard" (spD G 1 R_made_yard)) (c2 : Call P w K mg base 2 "made_row" (spD G 1 R_made_row)) (c5 : Call P w K mg base 5 "made_dealing" (spD G 3 R_made_dealing)) (c1 : Call P w K mg base 1 "check_picks" (spD G 1 R_check_picks))
    (d1 : Call P w K mg base 1 "tracks_of" (spD G 2 R_tracks_of)) (d2 : Call P w K mg base 1 "first_stand" (spD G 2 R_first_stand)) (d3 : Call P w K mg base 2 "green_moves" (spD G 3 R_green_moves)) (d4 : Call P w K mg base 3 "after_move" (spD G 3 R_after_move)) :
    Call P w K mg base 6 "run" (spD G 4 R_run) := by
  refine callD F sc_run b_run fun f cdv A outer s0 H E hr ds d hR => ?_
  obtain ⟨y, r, dl, ps, ⟨hy, hr', hd⟩, rfl, rfl⟩ := hR
  have nd := sc_run.nd
  have hk := trk_ok hd
  have hs0 := stand0_ok (y := y) hr'
  have rl := hr'.len
  refine ws_cons (ws_expr (de_call c4 hr ⟨y, hy, rfl, rfl⟩ (da_one (dv 0))) ?_)
  refine ws_cons (ws_expr (de_call c2 hr ⟨r, hr', rfl, rfl⟩ (da_one (dv 1))) ?_)
  refine ws_cons (ws_expr (de_call c5 hr ⟨y, r, dl, ⟨hy, hr', hd⟩, rfl, rfl⟩ (da_cons (dv 0) (da_cons (dv 1) (da_one (dv 2))))) ?_)
  refine ws_cons (ws_expr (de_call c1 hr ⟨ps, rfl, rfl⟩ (da_one (dv 3))) ?_)
  refine ws_cons (ws_par3 (i := 4) (j := 5) (l := 6) rfl rfl rfl (by decide) (by decide) (by decide) nd (da_cons (de_call d1 hr ⟨r, dl, ⟨hr', hd.len⟩, rfl, rfl⟩ (da_cons (dv 1) (da_one (dv 2)))) (da_cons (de_call d2 hr ⟨y, r, hy, rfl, rfl⟩ (da_cons (dv 0) (da_one (dv 1)))) (da_one (de_lst (ds := []) da_nil)))) ?_)
  refine ws_cons (wset 7 nd (de_call d3 hr ⟨y, r.length, trkF r dl, stand0 y r, ⟨hy, hk, hs0⟩, rfl, rfl⟩ (da_cons (dv 0) (da_cons (dv 4) (da_one (dv 5))))) ?_)
  refine ws_cons (ws_while (fun m ρ => ∃ q : List Mv × Sd, SdI y r.length q.2 ∧ leftM q.2 = m ∧ q.1.length + m = 3 * r.length ∧ iterR y (trkF r dl) ps m q = runF y r dl ps ∧ ρ = [some (.dat (encY y)), some (.dat (tN r)), some (.dat (tN dl)), some (.dat (tN ps)), some (.dat (lN (trkF r dl))), some (.dat (encS q.2)), some (.flat (q.1.map encM)), some (.dat (.tuple ((greenF y (trkF r dl) q.2).map encM))), none]) (3 * r.length)
    ⟨([], stand0 y r), hs0, left0, by simp, rfl, rfl⟩ ?_)
  rintro m ρ ⟨q, hs, hm, hl, hi, rfl⟩
  refine ⟨!((greenF y (trkF r dl) q.2).map encM).isEmpty, _, dt_c (cm_neT0 hr shMs (dv 7) (de_tup (ds := []) da_nil)), fun hb => ?_, fun hb => ?_⟩
  · have hne : greenF y (trkF r dl) q.2 ≠ [] := fun z => by rw [z] at hb; cases hb
    have gl : 0 < (greenF y (trkF r dl) q.2).length := List.length_pos_iff.mpr hne
    have eS := stepR_cons (ps := ps) hne
    generalize hMv : (greenF y (trkF r dl) q.2).getD (pickAt ps q.1.length % (greenF y (trkF r dl) q.2).length) mDef = mv at eS
    have hlt : pickAt ps q.1.length % (greenF y (trkF r dl) q.2).length < (greenF y (trkF r dl) q.2).length := Nat.mod_lt _ gl
    have eg : (greenF y (trkF r dl) q.2)[pickAt ps q.1.length % (greenF y (trkF r dl) q.2).length]? = some mv := by
      rw [← hMv, List.getD_eq_getElem?_getD, List.getElem?_eq_getElem hlt]
      rfl
    obtain ⟨hm1, hm2⟩ := green_can hy hk hs (List.mem_of_getElem? eg)
    obtain ⟨hs', hl'⟩ := moved hy hs hm1 hm2
    refine ws_cons (wset 8 nd (difN (i := ps.getD q.1.length 0) (j := 0) (dt_c (cn_lt (lenF (n := q.1.length) g.len (da 6)) (lenT (n := ps.length) g.len (dv 3)))) (fun h => de_ixT (getDT (of_decide_eq_true h)) (dv 3) (lenF (n := q.1.length) g.len (da 6))) (fun _ => dn 0)) ?_)
    refine ws_cons (ws_expr (de_append (da 6) rfl (de_ixT (d := encM mv) (getMap eg) (dv 7) ((de_modN gl (dv 8) (lenT (n := (greenF y (trkF r dl) q.2).length) g.len (dv 7))).to (by simp [pickAt]))) rfl (by simp only [List.length_map]; omega)) ?_)
    refine ws_cons (wset 5 nd (de_call d4 hr ⟨y, q.2, mv, ⟨hy, hs.ok, hm1, hm2⟩, rfl, rfl⟩ (da_cons (dv 0) (da_cons (dv 5) (da_one (de_ix (.als (i := 6) rfl) atI_last (da 6) (de_neg de_int)))))) ?_)
    refine ws_one (wset 7 nd (de_call d3 hr ⟨y, r.length, trkF r dl, afterM y q.2 mv, ⟨hy, hk, hs'⟩, rfl, rfl⟩ (da_cons (dv 0) (da_cons (dv 4) (da_one (dv 5))))) ?_)
    refine ⟨_, m - 1, .keep (.keep (.keep (.keep (.keep (.keep (.keep (.keep (.drop .nil)))))))), by omega, (q.1 ++ [mv], afterM y q.2 mv), hs', by show leftM (afterM y q.2 mv) = m - 1; omega, by simp; omega, ?_, by simp⟩
    have e : m = (m - 1) + 1 := by omega
    rw [e] at hi
    unfold iterR at hi
    rw [eS] at hi
    exact hi
  · have hn : greenF y (trkF r dl) q.2 = [] := by simpa using hb
    rw [iterR_fix hn] at hi
    refine ws_one (ws_ret (de_tup (ds := [.tuple (q.1.map encM), encS q.2]) (da_cons (de_tuple (.als (i := 6) rfl) g.tuple (da 6)) (da_one (dv 5)))) ?_)
    rw [← hi]
    rfl
end
end TW
end
section
set_option Elab.async false
set_option linter.all false
set_option maxRecDepth 100000
set_option maxHeartbeats 2000000
/-! The walk, 8: falls, forests, plans, rings. -/
namespace TW
open PySem PySem.Spec PyProof.Rows L2
section
variable {G : Glb} {P : Program} {w : World} {K : PySem.W.Frag} {mg : Str → Option Value} {base : Heap}
/-- how many tops are greater -/
def posF (tops : List Nat) (v : Nat) : Nat := (tops.filter fun t => decide (v < t)).length
def layStep (q : List Nat × List Nat) (v : Nat) : List Nat × List Nat :=
  (if posF q.1 v = q.1.length then q.1 ++ [v] else q.1.set (posF q.1 v) v, q.2 ++ [posF q.1 v])
def layF (r : List Nat) : List Nat × List Nat := r.foldl layStep ([], [])
theorem posF_le {tops : List Nat} {v : Nat} : posF tops v ≤ tops.length := List.length_filter_le _ _
theorem posF_at {tops : List Nat} {v : Nat} (h : tops.Pairwise (· > ·)) : ∀ (i : Nat) (hi : i < tops.length), v < tops[i] ↔ i < posF tops v := by
  induction tops with
  | nil => intro i hi; simp at hi
  | cons t r ih =>
    obtain ⟨h1, h2⟩ := List.pairwise_cons.mp h
    intro i hi
    by_cases hv : v < t
    · have e : posF (t :: r) v = posF r v + 1 := by unfold posF; rw [List.filter_cons_of_pos (by simpa using hv)]; rfl
      rw [e]
      cases i with
      | zero => simp [hv]
      | succ i => simpa using ih h2 i (by simpa using hi)
    · have e : posF (t :: r) v = 0 := by
        unfold posF
        rw [List.filter_cons_of_neg (by simpa using hv), List.length_eq_zero_iff, List.filter_eq_nil_iff]
        intro a ha
        have := h1 a ha
        simp; omega
      rw [e]
      refine ⟨fun h3 => ?_, fun h3 => absurd h3 (by omega)⟩
      cases i with
      | zero => exact absurd h3 hv
      | succ i =>
        have := h1 (r[i]'(by simpa using hi)) (List.getElem_mem _)
        have h3 : v < r[i]'(by simpa using hi) := h3
        omega
theorem lay_pw {q : List Nat × List Nat} {v : Nat} (h : q.1.Pairwise (· > ·)) : (layStep q v).1.Pairwise (· > ·) := by
  have hp := posF_at (v := v) h
  have hle := posF_le (tops := q.1) (v := v)
  unfold layStep
  simp only
  split
  · rename_i e
    refine List.pairwise_append.mpr ⟨h, by simp, fun a ha b hb => ?_⟩
    obtain ⟨i, hi, rfl⟩ := List.mem_iff_getElem.mp ha
    simp only [List.mem_cons, List.not_mem_nil, or_false] at hb
    subst hb
    exact (hp i hi).mpr (by omega)
  · rename_i e
    rw [List.pairwise_iff_getElem] at h ⊢
    intro i j hi hj hij
    rw [List.length_set] at hi hj
    rw [List.getElem_set, List.getElem_set]
    have h1 := h i j hi hj hij
    have a1 := hp i hi
    have a2 := hp j hj
    split
    · split
      · omega
      · rename_i e1 e2
        have := h i j hi hj hij
        have := (not_congr a1).mpr (by omega)
        omega
    · split
      · exact a1.mpr (by omega)
      · exact h1
theorem layF_pw {r : List Nat} : ∀ (q : List Nat × List Nat), q.1.Pairwise (· > ·) → (r.foldl layStep q).1.Pairwise (· > ·) := by
  induction r with
  | nil => exact fun q h => h
  | cons v r ih => exact fun q h => ih _ (lay_pw h)
theorem layF_len {r : List Nat} : ∀ (q : List Nat × List Nat), (r.foldl layStep q).1.length ≤ q.1.length + r.length ∧ (r.foldl layStep q).2.length = q.2.length + r.length := by
  induction r with
  | nil => exact fun q => ⟨by simp, by simp⟩
  | cons v r ih =>
    intro q
    rw [List.foldl_cons]
    obtain ⟨h1, h2⟩ := ih (layStep q v)
    have a : (layStep q v).1.length ≤ q.1.length + 1 := by unfold layStep; simp only; split <;> simp
    have b : (layStep q v).2.length = q.2.length + 1 := by simp [layStep]
    rw [List.length_cons]
    omega
abbrev R_layers (ds : List PyData) (d : PyData) : Prop := ∃ r : List Nat, RwOk r ∧ ds = [tN r] ∧ d = tN (layF r).2
theorem c_layers (F : FnT K mg "layers" "layers" 65) (g : Fr mg) (c2 : Call P w K mg base 2 "made_row" (spD G 1 R_made_row)) : Call P w K mg base 3 "layers" (spD G 1 R_layers) := by
  refine callD F sc_layers b_layers fun f cdv A outer s0 H E hr ds d hR => ?_
  obtain ⟨r, hr', rfl, rfl⟩ := hR
  have nd := sc_layers.nd
  have rl := hr'.len
  refine ws_cons (ws_par (i := 1) (j := 2) rfl rfl (by decide) nd (da_cons (de_lst (ds := []) da_nil) (da_one (de_lst (ds := []) da_nil))) ?_)
  refine ws_cons (wfor (ds := r.map nI) (it_tup (de_call c2 hr ⟨r, hr', rfl, rfl⟩ (da_one (dv 0)))) (fun i => [some (.dat (tN r)), some (.flat (((r.take i).foldl layStep ([], [])).1.map nI)), some (.flat (((r.take i).foldl layStep ([], [])).2.map nI)), none, none, none, none]) (.keep (.keepE (by simp) (.keepE (by simp) (.keep (.keep (.keep (.keep .nil))))))) (fun i d hd => ?_) ?_)
  · obtain ⟨v, ev, rfl⟩ := ofMap hd
    have hi : i < r.length := (List.getElem?_eq_some_iff.mp ev).1
    have eS := foldTake (step := layStep) (b := (([], []) : List Nat × List Nat)) ev
    have hw := layF_pw (r := r.take i) ([], []) List.Pairwise.nil
    obtain ⟨l1, l2⟩ := layF_len (r := r.take i) ([], [])
    have l3 : (r.take i).length ≤ i := by simp; omega
    generalize (r.take i).foldl layStep ([], []) = q at eS hw l1 l2
    simp only [List.length_nil, Nat.zero_add] at l1 l2
    have hp := posF_at (v := v) hw
    have hle := posF_le (tops := q.1) (v := v)
    refine ⟨_, _, gtn 3 nd, ?_⟩
    refine ws_cons (ws_par (a1 := .dat (nI 0)) (a2 := .dat (nI q.1.length)) (i := 4) (j := 5) rfl rfl (by decide) nd (da_cons (dn 0) (da_one (lenF (n := q.1.length) g.len (da 1)))) ?_)
    refine ws_cons (ws_while (fun m ρ => ∃ lo hi : Nat, (lo ≤ posF q.1 v ∧ posF q.1 v ≤ hi ∧ hi ≤ q.1.length) ∧ m = hi - lo ∧ ρ = [some (.dat (tN r)), some (.flat (q.1.map nI)), some (.flat (q.2.map nI)), some (.dat (nI v)), some (.dat (nI lo)), some (.dat (nI hi)), none]) (q.1.length - 0) ⟨0, q.1.length, ⟨by omega, by omega, Nat.le_refl _⟩, rfl, rfl⟩ ?_)
    rintro m ρ ⟨lo, hi, ⟨b1, b2, b3⟩, rfl, rfl⟩
    refine ⟨decide (lo < hi), _, dt_c (cn_lt (dv 4) (dv 5)), fun hb => ?_, fun hb => ?_⟩
    · have hb := of_decide_eq_true hb
      have hmid : (lo + hi) / 2 < q.1.length := by omega
      refine ws_cons (wset 6 nd (de_divN (by decide) (by decide) (de_addN (dv 4) (dv 5)) (dn 2)) ?_)
      refine ws_one (ws_if (dt_c (cn_gt (de_ixN (.als (i := 1) rfl) (getMap (List.getElem?_eq_getElem hmid)) (da 1) (dv 6)) (dv 3))) (fun h => ws_one ?_) (fun h => ws_one ?_))
      · have h := (hp _ hmid).mp (of_decide_eq_true h)
        exact wset 4 nd (de_addN (dv 6) (dn 1)) ⟨_, hi - ((lo + hi) / 2 + 1), .keep (.keep (.keep (.keep (.keep (.keep (.drop .nil)))))), by omega, (lo + hi) / 2 + 1, hi, ⟨by omega, by omega, by omega⟩, rfl, rfl⟩
      · have h := (not_congr (hp _ hmid)).mp (of_decide_eq_false h)
        exact wset 5 nd (dv 6) ⟨_, (lo + hi) / 2 - lo, .keep (.keep (.keep (.keep (.keep (.keep (.drop .nil)))))), by omega, lo, (lo + hi) / 2, ⟨by omega, by omega, by omega⟩, rfl, rfl⟩
    · have hb := of_decide_eq_false hb
      have e1 : lo = posF q.1 v := by omega
      subst e1
      refine ws_cons (ws_expr (de_append (da 2) rfl (dv 4) rfl (by rw [List.length_map]; omega)) ?_)
      refine ws_one (ws_if (dt_c (cn_eq (dv 4) (lenF (n := q.1.length) g.len (da 1)))) (fun h => ws_one ?_) (fun h => ws_one ?_))
      · have h := of_decide_eq_true h
        refine ws_expr (de_append (da 1) rfl (dv 3) rfl (by rw [List.length_map]; omega)) ?_
        rw [eS]
        refine .keep (.keepE ?_ (.keepE ?_ (.drop (.drop (.drop (.drop .nil))))))
        · unfold layStep; rw [if_pos h]; simp
        · unfold layStep; simp
      · have h := of_decide_eq_false h
        refine ws_asg (dv 3) (gsub (da 1) (dv 4) (hn := by rw [List.length_map]; omega)) ?_
        rw [eS]
        refine .keep (.keepE ?_ (.keepE ?_ (.drop (.drop (.drop (.drop .nil))))))
        · unfold layStep; rw [if_neg h]; simp
        · unfold layStep; simp
  · have e : r.take (r.map nI).length = r := by simp
    rw [e]
    exact ws_one (ws_ret (de_tuple (.als (i := 2) rfl) g.tuple (da 2)) rfl)
/-- the greedy forest: what is chosen, the labels -/
def forStep (y : Yd) (q : List Nat × List Nat) (t : Nat) : List Nat × List Nat :=
  if q.2.getD (y.ts.getD t (0, 0)).1 0 = q.2.getD (y.k + (y.ts.getD t (0, 0)).2) 0 then q
  else (q.1 ++ [t], q.2.map fun n => if n = q.2.getD (y.ts.getD t (0, 0)).1 0 then q.2.getD (y.k + (y.ts.getD t (0, 0)).2) 0 else n)
def forF (y : Yd) (ns : List Nat) : List Nat × List Nat := ns.foldl (forStep y) ([], List.range (y.k + y.l))
theorem for_at {y : Yd} {q : List Nat × List Nat} {t : Nat} (ht : t < y.ts.length) : forStep y q t = if q.2.getD y.ts[t].1 0 = q.2.getD (y.k + y.ts[t].2) 0 then q
    else (q.1 ++ [t], q.2.map fun n => if n = q.2.getD y.ts[t].1 0 then q.2.getD (y.k + y.ts[t].2) 0 else n) := by
  unfold forStep
  rw [tsGetD ht]
theorem for_len {y : Yd} {ns : List Nat} : ∀ q : List Nat × List Nat, (ns.foldl (forStep y) q).2.length = q.2.length ∧ (ns.foldl (forStep y) q).1.length ≤ q.1.length + ns.length := by
  induction ns with
  | nil => exact fun q => ⟨rfl, by simp⟩
  | cons t r ih =>
    intro q
    rw [List.foldl_cons]
    obtain ⟨h1, h2⟩ := ih (forStep y q t)
    have a : (forStep y q t).2.length = q.2.length := by unfold forStep; split <;> simp
    have b : (forStep y q t).1.length ≤ q.1.length + 1 := by unfold forStep; split <;> simp
    rw [List.length_cons]
    omega
abbrev R_forest (ds : List PyData) (d : PyData) : Prop := ∃ (y : Yd) (ns : List Nat), (YdOk y ∧ PkOk y ns) ∧ ds = [encY y, tN ns] ∧ d = tN (forF y ns).1
theorem c_forest (F : FnT K mg "forest" "forest" 67) (g : Fr mg) (c4 : Call P w K mg base 4 "made_yard" (spD G 1 R_made_yard)) (c3 : Call P w K mg base 3 "made_pick" (spD G 2 R_made_pick)) (c1 : Call P w K mg base 1 "ends" (spD G 2 R_ends)) :
    Call P w K mg base 5 "forest" (spD G 2 R_forest) := by
  refine callD F sc_forest b_forest fun f cdv A outer s0 H E hr ds d hR => ?_
  obtain ⟨y, ns, ⟨hy, hn⟩, rfl, rfl⟩ := hR
  have nd := sc_forest.nd
  have k12 := hy.k12; have l12 := hy.l12; have hnl := hn.len hy
  refine ws_cons (ws_expr (de_call c4 hr ⟨y, hy, rfl, rfl⟩ (da_one (dv 0))) ?_)
  refine ws_cons (ws_par (i := 2) (j := 3) rfl rfl (by decide) nd (da_cons (de_lst (ds := []) da_nil) (da_one (de_listRg (n := y.k + y.l) g.list g.range (by omega) (de_addN (dix (dv 0)) (dix (dv 0)))))) ?_)
  refine ws_cons (wfor (ds := ns.map nI) (it_tup (de_call c3 hr ⟨y, ns, ⟨hy, hn⟩, rfl, rfl⟩ (da_cons (dv 0) (da_one (dv 1))))) (fun i => [some (.dat (encY y)), some (.dat (tN ns)), some (.flat (((ns.take i).foldl (forStep y) ([], List.range (y.k + y.l))).1.map nI)), some (.flat (((ns.take i).foldl (forStep y) ([], List.range (y.k + y.l))).2.map nI)), none, none, none, none, none, none]) (.keep (.keep (.keepE (by simp) (.keepE (by simp) (.keep (.keep (.keep (.keep (.keep (.keep .nil)))))))))) (fun i d hd => ?_) ?_)
  · obtain ⟨t, et, rfl⟩ := ofMap hd
    have hi : i < ns.length := (List.getElem?_eq_some_iff.mp et).1
    have ht := hn.bnd t (List.mem_of_getElem? et)
    have hb := hy.bnd _ (List.getElem_mem ht)
    have eS := foldTake (step := forStep y) (b := (([], List.range (y.k + y.l)) : List Nat × List Nat)) et
    obtain ⟨l1, l2⟩ := for_len (y := y) (ns := ns.take i) ([], List.range (y.k + y.l))
    have l3 : (ns.take i).length ≤ i := by simp; omega
    generalize (ns.take i).foldl (forStep y) ([], List.range (y.k + y.l)) = q at eS l1 l2
    simp only [List.length_nil, Nat.zero_add, List.length_range] at l1 l2
    rw [for_at ht] at eS
    have a1 : y.ts[t].1 < q.2.length := by omega
    have a2 : y.k + y.ts[t].2 < q.2.length := by omega
    have ea := getDT a1
    have eb := getDT a2
    refine ⟨_, _, gtn 4 nd, ?_⟩
    refine ws_cons (ws_asg (de_call c1 hr ⟨y, t, y.ts[t].1, y.ts[t].2, List.getElem?_eq_getElem ht, rfl, rfl⟩ (da_cons (dv 0) (da_one (dv 4)))) (gtu2 5 6 nd) ?_)
    refine ws_one (ws_if (dt_c (cn_ne (de_ixN (.als (i := 3) rfl) ea (da 3) (dv 5)) (de_ixN (.als (i := 3) rfl) eb (da 3) (dv 6)))) (fun h => ?_) (fun h => ws_nil ?_))
    · have h : ¬ q.2.getD y.ts[t].1 0 = q.2.getD (y.k + y.ts[t].2) 0 := by simpa using h
      rw [if_neg h] at eS
      refine ws_cons (ws_expr (de_append (da 2) rfl (dv 4) rfl (by rw [List.length_map]; omega)) ?_)
      refine ws_cons (ws_asg (de_tup (ds := [nI (q.2.getD y.ts[t].1 0), nI (q.2.getD (y.k + y.ts[t].2) 0)]) (da_cons (de_ixN (.als (i := 3) rfl) ea (da 3) (dv 5)) (da_one (de_ixN (.als (i := 3) rfl) eb (da 3) (dv 6))))) (gtu2 7 8 nd) ?_)
      refine wt_frz (i := 3) rfl ?_
      refine ws_one (ws_map (i := 3) (xs := q.2) (f := nI) (g := fun n => nI (if decide (n = q.2.getD y.ts[t].1 0) then q.2.getD (y.k + y.ts[t].2) 0 else n)) (own := [("number", 9)]) nd (blkOk_by (N := N_forest) (sc := defScope (top 67)) (by decide +kernel)) (it_lst (dv 3)) (.refl _) (bare_cons bare_nil) (turnN nd (fun _ _ _ _ _ => ⟨.inl rfl, .inr rfl⟩) rfl (bare_cons bare_nil) fun z hz s H0 C cl fp => ?_) (by omega) ?_)
      · exact difN (dt_c (cn_eq (dv 9) (dv 7))) (fun _ => dv 8) (fun _ => dv 9)
      · rw [eS]
        refine .keep (.keep (.keepE (by simp) (.keepE ?_ (.drop (.drop (.drop (.drop (.drop (.drop .nil)))))))))
        simp only [decide_eq_true_eq, List.map_map]
        rfl
    · have h : q.2.getD y.ts[t].1 0 = q.2.getD (y.k + y.ts[t].2) 0 := by simpa using h
      rw [if_pos h] at eS
      rw [eS]
      exact .keep (.keep (.keep (.keep (.drop (.drop (.drop (.drop (.drop (.drop .nil)))))))))
  · have e : ns.take (ns.map nI).length = ns := by simp
    rw [e]
    exact ws_one (ws_ret (de_tuple (.als (i := 2) rfl) g.tuple (da 2)) rfl)
/-- the plan -/
def planF (y : Yd) (ns r : List Nat) : Option (List Nat) := if ((forF y ns).1.length : Int) ≤ maxZ (layF r).2 then none else some ((layF r).2.map fun d => (forF y ns).1.getD d 0)
def encO : Option (List Nat) → PyData
  | none => .none
  | some l => tN l
theorem foldl_max_ge : ∀ (r : List Nat) (n : Nat), n ≤ r.foldl max n ∧ ∀ x ∈ r, x ≤ r.foldl max n
  | [], n => ⟨Nat.le_refl _, by simp⟩
  | m :: r, n => by
    obtain ⟨h1, h2⟩ := foldl_max_ge r (max n m)
    rw [List.foldl_cons]
    refine ⟨by omega, fun x hx => ?_⟩
    rcases List.mem_cons.mp hx with rfl | hx
    · omega
    · exact h2 x hx
theorem maxZ_ge {ns : List Nat} {x : Nat} (h : x ∈ ns) : (x : Int) ≤ maxZ ns := by
  cases ns with
  | nil => cases h
  | cons n r =>
    obtain ⟨h1, h2⟩ := foldl_max_ge r n
    show (x : Int) ≤ ((r.foldl max n : Nat) : Int)
    rcases List.mem_cons.mp h with rfl | h
    · omega
    · have := h2 x h; omega
abbrev R_plan (ds : List PyData) (d : PyData) : Prop := ∃ (y : Yd) (ns r : List Nat), (YdOk y ∧ PkOk y ns ∧ RwOk r) ∧ ds = [encY y, tN ns, tN r] ∧ d = encO (planF y ns r)
theorem c_plan (F : FnT K mg "plan" "plan" 69) (g : Fr mg) (c5 : Call P w K mg base 5 "forest" (spD G 2 R_forest)) (c3 : Call P w K mg base 3 "layers" (spD G 1 R_layers)) : Call P w K mg base 6 "plan" (spD G 3 R_plan) := by
  refine callD F sc_plan b_plan fun f cdv A outer s0 H E hr ds d hR => ?_
  obtain ⟨y, ns, r, ⟨hy, hn, hr'⟩, rfl, rfl⟩ := hR
  have nd := sc_plan.nd
  have rl := hr'.len
  obtain ⟨_, l2⟩ := layF_len (r := r) ([], [])
  have l2 : (layF r).2.length = r.length := by simpa [layF] using l2
  refine ws_cons (wset 3 nd (de_call c5 hr ⟨y, ns, ⟨hy, hn⟩, rfl, rfl⟩ (da_cons (dv 0) (da_one (dv 1)))) ?_)
  refine ws_cons (wset 4 nd (de_call c3 hr ⟨r, hr', rfl, rfl⟩ (da_one (dv 2))) ?_)
  by_cases h : ((forF y ns).1.length : Int) ≤ maxZ (layF r).2
  · refine ws_cons (ws_if (b := true) (dt_c (cm_ge (de_maxD hr g.max (dv 4) (de_neg de_int)) (lenT (n := (forF y ns).1.length) g.len (dv 3)) (decide_eq_true h))) (fun _ => ws_one (ws_ret de_non ?_)) nofun)
    show AV.dat .none = AV.dat (encO (planF y ns r))
    unfold planF
    rw [if_pos h]
    rfl
  · refine ws_cons (ws_skip (dt_c (cm_ge (de_maxD hr g.max (dv 4) (de_neg de_int)) (lenT (n := (forF y ns).1.length) g.len (dv 3)) (decide_eq_false h))) ?_)
    refine ws_one (ws_ret (de_tuple .flat g.tuple (de_map (xs := (layF r).2) (f := nI) (g := fun d => nI ((forF y ns).1.getD d 0)) (own := [("depth", 5)]) nd (blkOk_by (N := N_plan) (sc := defScope (top 69)) (by decide +kernel)) (it_tup (dv 4)) (.refl _) (bare_cons bare_nil) (turnN nd (fun _ _ _ _ _ => ⟨.inl rfl, .inr rfl⟩) rfl (bare_cons bare_nil) fun z hz s H0 C cl fp => ?_) (by omega))) ?_)
    · have := maxZ_ge hz
      exact de_ixT (getDT (by omega)) (dv 3) (dv 5)
    · show AV.dat _ = AV.dat (encO (planF y ns r))
      unfold planF
      rw [if_neg h]
      simp [encO]
abbrev R_serves (ds : List PyData) (d : PyData) : Prop := ∃ (y : Yd) (ns : List Nat), (YdOk y ∧ PkOk y ns) ∧ ds = [encY y, tN ns] ∧ d = .bool (decide (jnF (labF y ns) = ns.length))
theorem c_serves (F : FnT K mg "serves" "serves" 71) (g : Fr mg) (c4 : Call P w K mg base 4 "made_yard" (spD G 1 R_made_yard)) (c3 : Call P w K mg base 3 "made_pick" (spD G 2 R_made_pick)) (c1 : Call P w K mg base 3 "joins" (spD G 2 R_joins)) :
    Call P w K mg base 5 "serves" (spD G 2 R_serves) := by
  refine callD F sc_serves b_serves fun f cdv A outer s0 H E hr ds d hR => ?_
  obtain ⟨y, ns, ⟨hy, hn⟩, rfl, rfl⟩ := hR
  refine ws_cons (ws_expr (de_call c4 hr ⟨y, hy, rfl, rfl⟩ (da_one (dv 0))) ?_)
  exact ws_one (ws_ret (de_c (cn_eq (de_call c1 hr ⟨y, ns, ⟨hy, hn⟩, rfl, rfl⟩ (da_cons (dv 0) (da_one (de_call c3 hr ⟨y, ns, ⟨hy, hn⟩, rfl, rfl⟩ (da_cons (dv 0) (da_one (dv 1))))))) (lenT (n := ns.length) g.len (dv 1)))) rfl)
end
end TW
end
section
set_option Elab.async false
set_option linter.all false
set_option maxRecDepth 100000
set_option maxHeartbeats 2000000
/-! The walk, 9: the law's webs. -/
namespace TW
open PySem PySem.Spec PyProof.Rows L2
section
variable {G : Glb} {P : Program} {w : World} {K : PySem.W.Frag} {mg : Str → Option Value} {base : Heap}
abbrev R_law_is_whole (ds : List PyData) (d : PyData) : Prop := ∃ i : Int, ds = [.int i] ∧ d = .bool true
theorem c_law_is_whole (F : FnT K mg "_law_is_whole" "_law_is_whole" 75) (g : Fr mg) : Call P w K mg base 1 "_law_is_whole" (spD G 1 R_law_is_whole) := by
  refine callD F sc__law_is_whole b__law_is_whole fun f cdv A outer s H E hr ds d hR => ?_
  obtain ⟨i, rfl, rfl⟩ := hR
  exact ws_one (ws_ret (andT (di_int g.isinstance g.int (dv 0)) (de_one (dnot (di_bool g.isinstance g.bool (dv 0))))) rfl)
abbrev R_web_ends (ds : List PyData) (d : PyData) : Prop := ∃ (y : Yd) (t a b : Nat), y.ts[t]? = some (a, b) ∧ ds = [encY y, nI t] ∧ d = .list [nI a, nI (y.k + b)]
theorem c_web_ends (F : FnT K mg "_law_web_ends" "_law_web_ends" 78) (g : Fr mg) : Call P w K mg base 1 "_law_web_ends" (spD G 2 R_web_ends) := by
  refine callD F sc__law_web_ends b__law_web_ends fun f cdv A outer s H E hr ds d hR => ?_
  obtain ⟨y, t, a, b, h, rfl, rfl⟩ := hR
  have fa : (y.ts.map encT)[t]? = some (encT (a, b)) := getMap h
  exact ws_one (ws_ret (de_lst (ds := [nI a, nI (y.k + b)]) (da_cons (dix (de_ixT fa (dix (dv 0)) (dv 1))) (da_one (de_addN (dix (dv 0)) (dix (de_ixT fa (dix (dv 0)) (dv 1))))))).frz rfl)
/-- one track's share in a turn of the search -/
def rchT (y : Yd) (found left ahead : List Nat) (t : Nat) : List Nat :=
  let a := (y.ts.getD t (0, 0)).1
  let b := y.k + (y.ts.getD t (0, 0)).2
  let ah := if a ∈ left ∧ b ∉ found ++ ahead then ahead ++ [b] else ahead
  if b ∈ left ∧ a ∉ found ++ ah then ah ++ [a] else ah
def rchStep (y : Yd) (ns : List Nat) (q : List Nat × List Nat) : List Nat × List Nat :=
  (q.1 ++ ns.foldl (rchT y q.1 q.2) [], ns.foldl (rchT y q.1 q.2) [])
def rchIter (y : Yd) (ns : List Nat) : Nat → List Nat × List Nat → List Nat × List Nat
  | 0, q => q
  | n + 1, q => rchStep y ns (rchIter y ns n q)
def sortN (l : List Nat) : List Nat := l.mergeSort (fun a b => decide (a ≤ b))
theorem sortN_ok (l : List Nat) : (sortN l).Perm l ∧ (sortN l).Pairwise (· ≤ ·) := by
  refine ⟨List.mergeSort_perm _ _, ?_⟩
  have h := List.pairwise_mergeSort (le := fun a b : Nat => decide (a ≤ b)) (fun a b c h1 h2 => by simp at *; omega) (fun a b => by simp; omega) l
  exact h.imp fun h => by simpa using h
def rchF (y : Yd) (ns : List Nat) (lane : Nat) : List Nat := sortN (rchIter y ns (y.k + y.l) ([lane], [lane])).1
theorem rchT_at {y : Yd} {f l ah : List Nat} {t : Nat} (ht : t < y.ts.length) : rchT y f l ah t = if y.k + y.ts[t].2 ∈ l ∧ y.ts[t].1 ∉ f ++ (if y.ts[t].1 ∈ l ∧ y.k + y.ts[t].2 ∉ f ++ ah then ah ++ [y.k + y.ts[t].2] else ah) then (if y.ts[t].1 ∈ l ∧ y.k + y.ts[t].2 ∉ f ++ ah then ah ++ [y.k + y.ts[t].2] else ah) ++ [y.ts[t].1] else (if y.ts[t].1 ∈ l ∧ y.k + y.ts[t].2 ∉ f ++ ah then ah ++ [y.k + y.ts[t].2] else ah) := by
  unfold rchT
  rw [tsGetD ht]
theorem rchT_len {y : Yd} {f l : List Nat} {a : List Nat} {t : Nat} : (rchT y f l a t).length ≤ a.length + 2 := by
  unfold rchT
  simp only
  split <;> split <;> simp
theorem rchT_fold_len {y : Yd} {f l : List Nat} : ∀ (ns a : List Nat), (ns.foldl (rchT y f l) a).length ≤ a.length + 2 * ns.length
  | [], a => by simp
  | t :: ns, a => by
    rw [List.foldl_cons]
    have h1 := rchT_fold_len (y := y) (f := f) (l := l) ns (rchT y f l a t)
    have h2 := rchT_len (y := y) (f := f) (l := l) (a := a) (t := t)
    rw [List.length_cons]
    omega
theorem rchIter_len {y : Yd} {ns : List Nat} : ∀ (n : Nat) (q : List Nat × List Nat), (rchIter y ns n q).1.length ≤ q.1.length + n * (2 * ns.length)
  | 0, q => by simp [rchIter]
  | n + 1, q => by
    have h1 := rchIter_len (y := y) (ns := ns) n q
    have h2 := rchT_fold_len (y := y) (f := (rchIter y ns n q).1) (l := (rchIter y ns n q).2) ns []
    show ((rchIter y ns n q).1 ++ _).length ≤ _
    rw [List.length_append, Nat.succ_mul]
    simp only [List.length_nil] at h2
    omega
abbrev R_web_reached (ds : List PyData) (d : PyData) : Prop := ∃ (y : Yd) (ns : List Nat) (lane : Nat), (YdOk y ∧ PkOk y ns) ∧ ds = [encY y, tN ns, nI lane] ∧ d = lN (rchF y ns lane)
theorem c_web_reached (F : FnT K mg "_law_web_reached" "_law_web_reached" 79) (g : Fr mg) (c1 : Call P w K mg base 1 "_law_web_ends" (spD G 2 R_web_ends)) : Call P w K mg base 2 "_law_web_reached" (spD G 3 R_web_reached) := by
  refine callD F sc__law_web_reached b__law_web_reached fun f cdv A outer s H E hr ds d hR => ?_
  obtain ⟨y, ns, lane, ⟨hy, hn⟩, rfl, rfl⟩ := hR
  have nd := sc__law_web_reached.nd
  have k12 := hy.k12; have l12 := hy.l12; have hnl := hn.len hy
  refine ws_cons (ws_par (i := 3) (j := 4) rfl rfl (by decide) nd (da_cons (de_lst (ds := [nI lane]) (da_one (dv 2))) (da_one (de_lst (ds := [nI lane]) (da_one (dv 2))))) ?_)
  refine ws_cons (wfor (it_range (n := y.k + y.l) g.range (by omega) (de_addN (dix (dv 0)) (dix (dv 0)))) (fun i => [some (.dat (encY y)), some (.dat (tN ns)), some (.dat (nI lane)), some (.flat ((rchIter y ns i ([lane], [lane])).1.map nI)), some (.flat ((rchIter y ns i ([lane], [lane])).2.map nI)), none, none, none, none, none]) (.refl _) (fun i d hd => ?_) ?_)
  · obtain ⟨hi, rfl⟩ := rngGet hd
    have hl := rchIter_len (y := y) (ns := ns) i ([lane], [lane])
    have eS : rchIter y ns (i + 1) ([lane], [lane]) = rchStep y ns (rchIter y ns i ([lane], [lane])) := rfl
    generalize rchIter y ns i ([lane], [lane]) = q at hl eS
    have hl2 : q.1.length ≤ 1 + 24 * 120 := by
      have : i * (2 * ns.length) ≤ 24 * 120 := Nat.mul_le_mul (by omega) (by omega)
      simp only [List.length_cons, List.length_nil] at hl
      omega
    refine ⟨_, _, gtn 5 nd, ?_⟩
    refine ws_cons (wset 6 nd (de_lst (ds := []) da_nil) ?_)
    refine ws_cons (wfor (ds := ns.map nI) (it_tup (dv 1)) (fun j => [some (.dat (encY y)), some (.dat (tN ns)), some (.dat (nI lane)), some (.flat (q.1.map nI)), some (.flat (q.2.map nI)), none, some (.flat (((ns.take j).foldl (rchT y q.1 q.2) []).map nI)), none, none, none]) (.keep (.keep (.keep (.keep (.keep (.drop (.keep (.keep (.keep (.keep .nil)))))))))) (fun j d hd => ?_) ?_)
    · obtain ⟨t, et, rfl⟩ := ofMap hd
      have ht := hn.bnd t (List.mem_of_getElem? et)
      have eT := foldTake (step := rchT y q.1 q.2) (b := []) et
      have hl3 := rchT_fold_len (y := y) (f := q.1) (l := q.2) (ns.take j) []
      have hl4 : (ns.take j).length ≤ 60 := by simp; omega
      generalize (ns.take j).foldl (rchT y q.1 q.2) [] = ah at eT hl3
      rw [rchT_at ht] at eT
      simp only [List.length_nil, Nat.zero_add] at hl3
      refine ⟨_, _, gtn 7 nd, ?_⟩
      refine ws_cons (ws_asg (de_call c1 hr ⟨y, t, y.ts[t].1, y.ts[t].2, List.getElem?_eq_getElem ht, rfl, rfl⟩ (da_cons (dv 0) (da_one (dv 7)))) (gtl2 8 9 nd) ?_)
      generalize y.ts[t].1 = a at eT ⊢
      generalize y.k + y.ts[t].2 = b at eT ⊢
      have mk2 : ∀ (x z : List Nat) (c : Nat), x.map nI ++ (z.map nI ++ [nI c]) = (x ++ (z ++ [c])).map nI := fun x z c => by rw [List.map_append, List.map_append]; rfl
      have mk1 : ∀ x z : List Nat, x.map nI ++ z.map nI = (x ++ z).map nI := fun x z => by rw [List.map_append]
      refine ws_cons (ws_if (b := decide (a ∈ q.2) && !decide (b ∈ q.1 ++ ah)) (dt_w (tand2 (dt_c (cn_in (.als (i := 4) rfl) (dv 8) (da 4))) (fun _ => dw_and1 (dt_c (cn_notin .flat (dv 9) ((de_catL (.als (i := 3) rfl) isL_a (.als (i := 6) rfl) isL_a (da 3) (da 6) (by simp only [List.length_map]; omega)).toF (mk1 _ _))))))) (fun h => ws_one (ws_expr (de_append (da 6) rfl (dv 9) rfl (by rw [List.length_map]; omega)) ?_)) (fun h => ws_nil ?_))
      · have h : a ∈ q.2 ∧ b ∉ q.1 ++ ah := by simpa only [Bool.and_eq_true, decide_eq_true_eq, Bool.not_eq_true', decide_eq_false_iff_not] using h
        rw [if_pos h] at eT
        refine ws_one (ws_if (b := decide (b ∈ q.2) && !decide (a ∈ q.1 ++ (ah ++ [b]))) (dt_w (tand2 (dt_c (cn_in (.als (i := 4) rfl) (dv 9) (da 4))) (fun _ => dw_and1 (dt_c (cn_notin .flat (dv 8) ((de_catL (.als (i := 3) rfl) isL_a (.als (i := 6) rfl) isL_a (da 3) (da 6) (by simp only [List.length_map, List.length_append, List.length_cons, List.length_nil]; omega)).toF (mk2 _ _ _))))))) (fun h => ws_one (ws_expr (de_append (da 6) rfl (dv 8) rfl (by simp only [List.length_map, List.length_append, List.length_cons, List.length_nil]; omega)) ?_)) (fun h => ws_nil ?_))
        · have h : b ∈ q.2 ∧ a ∉ q.1 ++ (ah ++ [b]) := by simpa only [Bool.and_eq_true, decide_eq_true_eq, Bool.not_eq_true', decide_eq_false_iff_not] using h
          rw [if_pos h] at eT
          rw [eT]
          exact .keep (.keep (.keep (.keep (.keep (.keep (.keepE (by simp) (.drop (.drop (.drop .nil)))))))))
        · have h : ¬ (b ∈ q.2 ∧ a ∉ q.1 ++ (ah ++ [b])) := by
            intro z
            have : (decide (b ∈ q.2) && !decide (a ∈ q.1 ++ (ah ++ [b]))) = true := by simpa only [Bool.and_eq_true, decide_eq_true_eq, Bool.not_eq_true', decide_eq_false_iff_not] using z
            rw [this] at h; cases h
          rw [if_neg h] at eT
          rw [eT]
          exact .keep (.keep (.keep (.keep (.keep (.keep (.keepE (by simp) (.drop (.drop (.drop .nil)))))))))
      · have h : ¬ (a ∈ q.2 ∧ b ∉ q.1 ++ ah) := by
          intro z
          have : (decide (a ∈ q.2) && !decide (b ∈ q.1 ++ ah)) = true := by simpa only [Bool.and_eq_true, decide_eq_true_eq, Bool.not_eq_true', decide_eq_false_iff_not] using z
          rw [this] at h; cases h
        rw [if_neg h] at eT
        refine ws_one (ws_if (b := decide (b ∈ q.2) && !decide (a ∈ q.1 ++ ah)) (dt_w (tand2 (dt_c (cn_in (.als (i := 4) rfl) (dv 9) (da 4))) (fun _ => dw_and1 (dt_c (cn_notin .flat (dv 8) ((de_catL (.als (i := 3) rfl) isL_a (.als (i := 6) rfl) isL_a (da 3) (da 6) (by simp only [List.length_map]; omega)).toF (mk1 _ _))))))) (fun h => ws_one (ws_expr (de_append (da 6) rfl (dv 8) rfl (by rw [List.length_map]; omega)) ?_)) (fun h => ws_nil ?_))
        · have h : b ∈ q.2 ∧ a ∉ q.1 ++ ah := by simpa only [Bool.and_eq_true, decide_eq_true_eq, Bool.not_eq_true', decide_eq_false_iff_not] using h
          rw [if_pos h] at eT
          rw [eT]
          exact .keep (.keep (.keep (.keep (.keep (.keep (.keepE (by simp) (.drop (.drop (.drop .nil)))))))))
        · have h : ¬ (b ∈ q.2 ∧ a ∉ q.1 ++ ah) := by
            intro z
            have : (decide (b ∈ q.2) && !decide (a ∈ q.1 ++ ah)) = true := by simpa only [Bool.and_eq_true, decide_eq_true_eq, Bool.not_eq_true', decide_eq_false_iff_not] using z
            rw [this] at h; cases h
          rw [if_neg h] at eT
          rw [eT]
          exact .keep (.keep (.keep (.keep (.keep (.keep (.keep (.drop (.drop (.drop .nil)))))))))
    · have e : ns.take (ns.map nI).length = ns := by simp
      rw [e]
      have hl3 := rchT_fold_len (y := y) (f := q.1) (l := q.2) ns []
      have eT : rchStep y ns q = (q.1 ++ ns.foldl (rchT y q.1 q.2) [], ns.foldl (rchT y q.1 q.2) []) := rfl
      rw [eS, eT]
      generalize ns.foldl (rchT y q.1 q.2) [] = ah at hl3
      simp only [List.length_nil, Nat.zero_add] at hl3
      refine ws_one (ws_par (a2 := .flat (ah.map nI)) (i := 3) (j := 4) rfl rfl (by decide) nd (da_cons ((de_catL (.als (i := 3) rfl) isL_a (.als (i := 6) rfl) isL_a (da 3) (da 6) (by simp only [List.length_map]; omega)).toF (List.map_append).symm) (da_one (de_mov (i := 6) rfl))) ?_)
      exact .keep (.keep (.keep (.keep (.keep (.keep (.keep (.keep (.keep (.keep .nil)))))))))
  · have e : (rng (y.k + y.l)).length = y.k + y.l := by simp [rng]
    rw [e]
    refine ws_one (ws_ret (de_sortN (.als (i := 3) rfl) isL_a (sortN_ok _) g.sorted (da 3)).frz rfl)
/-- whether a track of the pick touches the lane -/
def tchd (y : Yd) (ns : List Nat) (lane : Nat) : List Nat := ns.filter fun t => decide (lane ∈ [(y.ts.getD t (0, 0)).1, y.k + (y.ts.getD t (0, 0)).2])
def pieStep (y : Yd) (ns : List Nat) (found : List (List Nat)) (lane : Nat) : List (List Nat) :=
  if tchd y ns lane ≠ [] ∧ (found.filter fun lot => decide (lane ∈ lot)) = [] then found ++ [rchF y ns lane] else found
def pieF (y : Yd) (ns : List Nat) : List (List Nat) := (List.range (y.k + y.l)).foldl (pieStep y ns) []
theorem pie_pos {y : Yd} {ns : List Nat} {f : List (List Nat)} {i : Nat} (h : tchd y ns i ≠ [] ∧ (f.filter fun lot => decide (i ∈ lot)) = []) : pieStep y ns f i = f ++ [rchF y ns i] := if_pos h
theorem pie_neg {y : Yd} {ns : List Nat} {f : List (List Nat)} {i : Nat} (h : ¬ (tchd y ns i ≠ [] ∧ (f.filter fun lot => decide (i ∈ lot)) = [])) : pieStep y ns f i = f := if_neg h
theorem pie_len {y : Yd} {ns : List Nat} : ∀ (ls : List Nat) (f : List (List Nat)), (ls.foldl (pieStep y ns) f).length ≤ f.length + ls.length
  | [], f => by simp
  | l :: ls, f => by
    rw [List.foldl_cons]
    have h1 := pie_len (y := y) (ns := ns) ls (pieStep y ns f l)
    have h2 : (pieStep y ns f l).length ≤ f.length + 1 := by unfold pieStep; split <;> simp
    rw [List.length_cons]
    omega
abbrev R_web_pieces (ds : List PyData) (d : PyData) : Prop := ∃ (y : Yd) (ns : List Nat), (YdOk y ∧ PkOk y ns) ∧ ds = [encY y, tN ns] ∧ d = .tuple ((pieF y ns).map tN)
theorem isEmpty_iff' {α : Type} {l : List α} : (!l.isEmpty) = decide (l ≠ []) := by cases l <;> simp
theorem c_web_pieces (F : FnT K mg "_law_web_pieces" "_law_web_pieces" 80) (g : Fr mg) (c1 : Call P w K mg base 1 "_law_web_ends" (spD G 2 R_web_ends)) (c2 : Call P w K mg base 2 "_law_web_reached" (spD G 3 R_web_reached)) : Call P w K mg base 3 "_law_web_pieces" (spD G 2 R_web_pieces) := by
  refine callD F sc__law_web_pieces b__law_web_pieces fun f cdv A outer s H E hr ds d hR => ?_
  obtain ⟨y, ns, ⟨hy, hn⟩, rfl, rfl⟩ := hR
  have nd := sc__law_web_pieces.nd
  have k12 := hy.k12; have l12 := hy.l12; have hnl := hn.len hy
  refine ws_cons (wset 2 nd (de_lst (ds := []) da_nil) ?_)
  refine ws_cons (wfor (it_range (n := y.k + y.l) g.range (by omega) (de_addN (dix (dv 0)) (dix (dv 0)))) (fun i => [some (.dat (encY y)), some (.dat (tN ns)), some (.flat ((((List.range (y.k + y.l)).take i).foldl (pieStep y ns) []).map tN)), none, none, none]) (.refl _) (fun i d hd => ?_) ?_)
  · obtain ⟨hi, rfl⟩ := rngGet hd
    have er : (List.range (y.k + y.l))[i]? = some i := by rw [List.getElem?_range hi]
    have eS := foldTake (step := pieStep y ns) (b := []) er
    have hl := pie_len (y := y) (ns := ns) ((List.range (y.k + y.l)).take i) []
    have hl2 : ((List.range (y.k + y.l)).take i).length ≤ 24 := by simp; omega
    generalize ((List.range (y.k + y.l)).take i).foldl (pieStep y ns) [] = fd at eS hl
    simp only [List.length_nil, Nat.zero_add] at hl
    refine ⟨_, _, gtn 3 nd, ?_⟩
    refine ws_one (ws_if (b := (!((tchd y ns i).map nI).isEmpty) && ((fd.filter fun lot => decide (i ∈ lot)).map tN).isEmpty)
      (dt_w (tand2 (dt_c (cm_neL0 hr (fun d hd => ?_) (de_filt (xs := ns) (f := nI) (g := nI) (p := fun t => decide (i ∈ [(y.ts.getD t (0, 0)).1, y.k + (y.ts.getD t (0, 0)).2])) (own := [("_law_t", 4)]) nd (blkOk_by (N := N__law_web_pieces) (sc := defScope (top 80)) (by decide +kernel)) (it_tup (dv 1)) (.refl _) (bare_cons bare_nil)
          (turnF nd (fun _ _ _ _ _ => ⟨.inl rfl, .inr rfl⟩) rfl (bare_cons bare_nil) (fun z hz s H0 C cl fp => ?_) (fun z hz _ s H0 C cl fp => dv 4)) (by omega)).frz (de_lst (ds := []) da_nil).frz))
        (fun _ => dw_and1 (dt_c (cm_eqL0 hr (fun d hd => ?_) (de_filtB (xs := fd) (f := tN) (g := tN) (p := fun lot => decide (i ∈ lot)) (own := [("_law_lot", 5)]) (j := 2) nd (blkOk_by (N := N__law_web_pieces) (sc := defScope (top 80)) (by decide +kernel)) rfl (.refl _) (bare_cons bare_nil)
          (turnF nd (fun _ _ _ _ _ => ⟨.inl rfl, .inr rfl⟩) rfl (bare_cons bare_nil) (fun z hz s H0 C cl fp => ?_) (fun z hz _ s H0 C cl fp => dv 5)) (by omega)).frz (de_lst (ds := []) da_nil).frz))))) (fun h => ?_) (fun h => ws_nil ?_))
    · obtain ⟨t, _, rfl⟩ := List.mem_map.mp hd
      exact shN
    · have ht := hn.bnd z hz
      rw [tsGetD ht]
      exact dt_c (cn_in (ns := [y.ts[z].1, y.k + y.ts[z].2]) .lst (dv 3) (de_call c1 hr ⟨y, z, y.ts[z].1, y.ts[z].2, List.getElem?_eq_getElem ht, rfl, rfl⟩ (da_cons (dv 0) (da_one (dv 4)))))
    · obtain ⟨t, _, rfl⟩ := List.mem_map.mp hd
      exact shTN
    · exact dt_c (cn_in .tup (dv 3) (dv 5))
    · have h : tchd y ns i ≠ [] ∧ (fd.filter fun lot => decide (i ∈ lot)) = [] := by
        simpa [List.isEmpty_iff] using h
      rw [pie_pos h] at eS
      refine ws_one (ws_expr (de_append (da 2) rfl (de_tuple .lst g.tuple (de_call c2 hr ⟨y, ns, i, ⟨hy, hn⟩, rfl, rfl⟩ (da_cons (dv 0) (da_cons (dv 1) (da_one (dv 3)))))) rfl (by rw [List.length_map]; omega)) ?_)
      rw [eS]
      exact .keep (.keep (.keepE (by simp) (.drop (.drop (.drop .nil)))))
    · have h : ¬ (tchd y ns i ≠ [] ∧ (fd.filter fun lot => decide (i ∈ lot)) = []) := by
        intro z
        have : ((!((tchd y ns i).map nI).isEmpty) && ((fd.filter fun lot => decide (i ∈ lot)).map tN).isEmpty) = true := by
          simpa [List.isEmpty_iff] using z
        rw [this] at h; cases h
      rw [pie_neg h] at eS
      rw [eS]
      exact .keep (.keep (.keep (.drop (.drop (.drop .nil)))))
  · have e : (List.range (y.k + y.l)).take (rng (y.k + y.l)).length = List.range (y.k + y.l) := by simp [rng]
    rw [e]
    exact ws_one (ws_ret (de_tuple (.als (i := 2) rfl) g.tuple (da 2)) rfl)
/-- the rank -/
def rankZ (y : Yd) (ns : List Nat) : Int := (((pieF y ns).map List.length).map Int.ofNat).sum - ((pieF y ns).length : Int)
abbrev R_web_rank (ds : List PyData) (d : PyData) : Prop := ∃ (y : Yd) (ns : List Nat), (YdOk y ∧ PkOk y ns) ∧ ds = [encY y, tN ns] ∧ d = .int (rankZ y ns)
theorem c_web_rank (F : FnT K mg "_law_web_rank" "_law_web_rank" 81) (g : Fr mg) (c1 : Call P w K mg base 3 "_law_web_pieces" (spD G 2 R_web_pieces)) : Call P w K mg base 4 "_law_web_rank" (spD G 2 R_web_rank) := by
  refine callD F sc__law_web_rank b__law_web_rank fun f cdv A outer s H E hr ds d hR => ?_
  obtain ⟨y, ns, ⟨hy, hn⟩, rfl, rfl⟩ := hR
  have nd := sc__law_web_rank.nd
  have k12 := hy.k12; have l12 := hy.l12
  have hl := pie_len (y := y) (ns := ns) (List.range (y.k + y.l)) []
  have hl : (pieF y ns).length ≤ 24 := by unfold pieF; simp at hl ⊢; omega
  refine ws_cons (wset 2 nd (de_call c1 hr ⟨y, ns, ⟨hy, hn⟩, rfl, rfl⟩ (da_cons (dv 0) (da_one (dv 1)))) ?_)
  refine ws_one (ws_ret (de_sub (de_sum .flat isL_f g.sum ((de_map (xs := pieF y ns) (f := tN) (g := fun l => nI l.length) (own := [("_law_lot", 3)]) nd (blkOk_by (N := N__law_web_rank) (sc := defScope (top 81)) (by decide +kernel)) (it_tup (dv 2)) (.refl _) (bare_cons bare_nil) (turnN nd (fun _ _ _ _ _ => ⟨.inl rfl, .inr rfl⟩) rfl (bare_cons bare_nil) fun z hz s H0 C cl fp => ?_) (by omega)).toF (es := ((((pieF y ns).map List.length).map Int.ofNat)).map PyData.int) ?_)) (lenT (n := (pieF y ns).length) g.len (dv 2))) rfl)
  · exact lenT g.len (dv 3)
  · simp only [List.map_map]
    rfl
/-- a list of tracks -/
structure TsOk (y : Yd) (ns : List Nat) : Prop where
  len : ns.length ≤ 1000
  bnd : ∀ n ∈ ns, n < y.ts.length
abbrev R_web_forest (ds : List PyData) (d : PyData) : Prop := ∃ (y : Yd) (ns : List Nat), (YdOk y ∧ TsOk y ns) ∧ ds = [encY y, lN ns] ∧ d = lN (forF y ns).1
theorem c_web_forest (F : FnT K mg "_law_web_forest" "_law_web_forest" 82) (g : Fr mg) (c1 : Call P w K mg base 1 "_law_web_ends" (spD G 2 R_web_ends)) : Call P w K mg base 2 "_law_web_forest" (spD G 2 R_web_forest) := by
  refine callD F sc__law_web_forest b__law_web_forest fun f cdv A outer s0 H E hr ds d hR => ?_
  obtain ⟨y, ns, ⟨hy, hn⟩, rfl, rfl⟩ := hR
  have nd := sc__law_web_forest.nd
  have k12 := hy.k12; have l12 := hy.l12; have hnl := hn.len
  refine ws_cons (ws_par (i := 2) (j := 3) rfl rfl (by decide) nd (da_cons (de_listRg (n := y.k + y.l) g.list g.range (by omega) (de_addN (dix (dv 0)) (dix (dv 0)))) (da_one (de_lst (ds := []) da_nil))) ?_)
  refine ws_cons (wfor (ds := ns.map nI) (it_lst (dv 1)) (fun i => [some (.dat (encY y)), some (.dat (lN ns)), some (.flat (((ns.take i).foldl (forStep y) ([], List.range (y.k + y.l))).2.map nI)), some (.flat (((ns.take i).foldl (forStep y) ([], List.range (y.k + y.l))).1.map nI)), none, none, none, none, none, none]) (.keep (.keep (.keepE (by simp) (.keepE (by simp) (.keep (.keep (.keep (.keep (.keep (.keep .nil)))))))))) (fun i d hd => ?_) ?_)
  · obtain ⟨t, et, rfl⟩ := ofMap hd
    have hi : i < ns.length := (List.getElem?_eq_some_iff.mp et).1
    have ht := hn.bnd t (List.mem_of_getElem? et)
    have hb := hy.bnd _ (List.getElem_mem ht)
    have eS := foldTake (step := forStep y) (b := (([], List.range (y.k + y.l)) : List Nat × List Nat)) et
    obtain ⟨l1, l2⟩ := for_len (y := y) (ns := ns.take i) ([], List.range (y.k + y.l))
    have l3 : (ns.take i).length ≤ i := by simp; omega
    generalize (ns.take i).foldl (forStep y) ([], List.range (y.k + y.l)) = q at eS l1 l2
    simp only [List.length_nil, Nat.zero_add, List.length_range] at l1 l2
    rw [for_at ht] at eS
    have a1 : y.ts[t].1 < q.2.length := by omega
    have a2 : y.k + y.ts[t].2 < q.2.length := by omega
    have ea := getDT a1
    have eb := getDT a2
    refine ⟨_, _, gtn 4 nd, ?_⟩
    refine ws_cons (ws_asg (de_call c1 hr ⟨y, t, y.ts[t].1, y.ts[t].2, List.getElem?_eq_getElem ht, rfl, rfl⟩ (da_cons (dv 0) (da_one (dv 4)))) (gtl2 5 6 nd) ?_)
    refine ws_cons (ws_asg (de_tup (ds := [nI (q.2.getD y.ts[t].1 0), nI (q.2.getD (y.k + y.ts[t].2) 0)]) (da_cons (de_ixN (.als (i := 2) rfl) ea (da 2) (dv 5)) (da_one (de_ixN (.als (i := 2) rfl) eb (da 2) (dv 6))))) (gtu2 7 8 nd) ?_)
    refine ws_one (ws_if (dt_c (cn_ne (dv 7) (dv 8))) (fun h => ?_) (fun h => ws_nil ?_))
    · have h : ¬ q.2.getD y.ts[t].1 0 = q.2.getD (y.k + y.ts[t].2) 0 := by simpa using h
      rw [if_neg h] at eS
      refine ws_cons (ws_expr (de_append (da 3) rfl (dv 4) rfl (by rw [List.length_map]; omega)) ?_)
      refine wt_frz (i := 2) rfl ?_
      refine ws_one (ws_map (i := 2) (xs := q.2) (f := nI) (g := fun n => nI (if decide (n = q.2.getD y.ts[t].1 0) then q.2.getD (y.k + y.ts[t].2) 0 else n)) (own := [("_law_number", 9)]) nd (blkOk_by (N := N__law_web_forest) (sc := defScope (top 82)) (by decide +kernel)) (it_lst (dv 2)) (.refl _) (bare_cons bare_nil) (turnN nd (fun _ _ _ _ _ => ⟨.inl rfl, .inr rfl⟩) rfl (bare_cons bare_nil) fun z hz s H0 C cl fp => ?_) (by omega) ?_)
      · exact difN (dt_c (cn_eq (dv 9) (dv 7))) (fun _ => dv 8) (fun _ => dv 9)
      · rw [eS]
        refine .keep (.keep (.keepE ?_ (.keepE (by simp) (.drop (.drop (.drop (.drop (.drop (.drop .nil)))))))))
        simp only [decide_eq_true_eq, List.map_map]
        rfl
    · have h : q.2.getD y.ts[t].1 0 = q.2.getD (y.k + y.ts[t].2) 0 := by simpa using h
      rw [if_pos h] at eS
      rw [eS]
      exact .keep (.keep (.keep (.keep (.drop (.drop (.drop (.drop (.drop (.drop .nil)))))))))
  · have e : ns.take (ns.map nI).length = ns := by simp
    rw [e]
    exact ws_one (ws_ret (de_take (i := 3) rfl) rfl)
end
end TW
end
section
set_option Elab.async false
set_option linter.all false
set_option maxRecDepth 100000
set_option maxHeartbeats 2000000
/-! The walk, 10: the law's lanes. -/
namespace TW
open PySem PySem.Spec PyProof.Rows L2
section
variable {G : Glb} {P : Program} {w : World} {K : PySem.W.Frag} {mg : Str → Option Value} {base : Heap}
theorem c_lane_begun (F : FnT K mg "_law_lane_begun" "_law_lane_begun" 90) (g : Fr mg) : Call P w K mg base 1 "_law_lane_begun" (spD G 2 R_first_stand) := by
  refine callD F sc__law_lane_begun b__law_lane_begun fun f cdv A outer s H E hr ds d hR => ?_
  obtain ⟨y, r, hy, rfl, rfl⟩ := hR
  have := hy.k12; have := hy.l12
  refine ws_one (ws_ret (de_tup (ds := [tN r, .tuple (List.replicate y.k (.tuple [])), .tuple (List.replicate y.l (.tuple [])), nI 0]) (da_cons (dv 1) (da_cons (de_repT (n := y.k) (de_tup (ds := [.tuple []]) (da_one (de_tup (ds := []) da_nil))) (dix (dv 0)) hy.k1 (by omega)) (da_cons (de_repT (n := y.l) (de_tup (ds := [.tuple []]) (da_one (de_tup (ds := []) da_nil))) (dix (dv 0)) hy.l1 (by omega)) (da_one (dn 0)))))) ?_)
  simp [Ret, stand0]
theorem put_set {ls : List PyData} {at_ : Nat} {x : PyData} : (ls.zipIdx.map fun p => if decide (p.2 = at_) then x else p.1) = ls.set at_ x := by
  apply List.ext_getElem?
  intro i
  rw [List.getElem?_map, List.getElem?_zipIdx, List.getElem?_set]
  by_cases h : at_ = i
  · subst h
    rw [if_pos rfl]
    cases e : ls[at_]? with
    | none =>
      have := List.getElem?_eq_none_iff.mp e
      rw [if_neg (by omega)]
      rfl
    | some z =>
      have := (List.getElem?_eq_some_iff.mp e).1
      rw [if_pos this]
      simp
  · rw [if_neg h]
    have h' : ¬ i = at_ := fun z => h z.symm
    cases ls[i]? <;> simp [h']
theorem c_lane_put (F : FnT K mg "_law_lane_put" "_law_lane_put" 91) (g : Fr mg) : Call P w K mg base 1 "_law_lane_put" (spD G 3 R_with_lane) := by
  refine callD F sc__law_lane_put b__law_lane_put fun f cdv A outer s H E hr ds d hR => ?_
  obtain ⟨ls, i, x, ⟨h1, h2⟩, rfl, rfl⟩ := hR
  have nd := sc__law_lane_put.nd
  refine ws_one (ws_ret (de_tuple .flat g.tuple (de_map (xs := ls.zipIdx) (f := fun p => .tuple [nI p.2, p.1]) (g := fun p => if decide (p.2 = i) then x else p.1) (own := [("_law_place", 3), ("_law_other", 4)]) nd (blkOk_by (N := N__law_lane_put) (sc := defScope (top 91)) (by decide +kernel))
    (it_enum g.enumerate (dv 0)) (.refl _) (bare_cons (bare_cons bare_nil)) (fun z hz => ⟨_, _, _, fun s H0 C cl fp => gtu2 3 4 nd, fun j hj => hj, fun s H0 C cl fp => dif (dt_c (cn_eq (dv 3) (dv 1))) (fun _ => dv 2) (fun _ => dv 4), .keep (.keep (.keep (.drop (.drop .nil))))⟩) (by simp; omega))) ?_)
  rw [put_set]
  rfl
theorem c_lane_after (F : FnT K mg "_law_lane_after" "_law_lane_after" 92) (g : Fr mg) (c1 : Call P w K mg base 1 "_law_lane_put" (spD G 3 R_with_lane)) : Call P w K mg base 2 "_law_lane_after" (spD G 3 R_after_move) := by
  refine callD F sc__law_lane_after b__law_lane_after fun f cdv A outer s0 H E hr ds d hR => ?_
  obtain ⟨y, s, ⟨mk, a⟩, ⟨hy, hs, hm, hc⟩, rfl, rfl⟩ := hR
  have nd := sc__law_lane_after.nd
  obtain ⟨s1, s2, s3⟩ := strM
  have h1 := hs.fl; have h2 := hs.sl; have h3 := hy.k12; have h4 := hy.l12; have h5 := hs.w
  refine ws_cons (ws_asg (dv 1) (gtu4 3 4 5 6 nd) ?_)
  refine ws_cons (ws_asg (dv 2) (gtu2 7 8 nd) ?_)
  cases mk with
  | in_ =>
    have ha : a < s.f.length := by rw [h1]; exact hm
    obtain ⟨v, r, hv⟩ := List.exists_cons_of_ne_nil (show s.w ≠ [] from hc)
    have fa : (s.f.map tN)[a]? = some (tN (s.f.getD a [])) := getMap (getDL ha)
    have hl := hs.f _ (List.mem_of_getElem? (getDL ha))
    have e0 : (s.w.map nI)[0]? = some (nI v) := by rw [hv]; rfl
    refine ws_cons (ws_if (b := true) (dt_c (cm_eqs (dv 7) de_str (decide_eq_true rfl))) (fun _ => ?_) nofun)
    refine ws_cons (ws_skip (dt_c (cn_eq (lenT (n := s.w.length) g.len (dv 3)) (dn 0) (decide_eq_false (by rw [hv]; simp)))) ?_)
    refine ws_one (ws_ret (de_tup (ds := [.tuple ((s.w.map nI).drop 1), .tuple ((s.f.map tN).set a (.tuple (((s.f.getD a []).map nI) ++ [nI v]))), .tuple (s.s.map tN), nI s.g]) (da_cons (de_slT_from (dv 3) (dn 1)) (da_cons (de_call c1 hr ⟨s.f.map tN, a, _, by simp; omega, rfl, rfl⟩ (da_cons (dv 4) (da_cons (dv 8) (da_one (de_catT (de_ixT fa (dv 4) (dv 8)) (de_tup (ds := [nI v]) (da_one (dix (dv 3) e0))) (by simp only [List.length_map, List.length_cons, List.length_nil]; omega)))))) (da_cons (dv 5) (da_one (dv 6)))))) ?_)
    have e1 : ((s.f.getD a []).map nI ++ [nI v]) = (s.f.getD a [] ++ s.w.take 1).map nI := by rw [hv]; simp
    rw [e1]
    simp only [thenO, Ret, afterM, goIn, encS, tN, ← List.map_drop, List.map_set]
  | over =>
    have ht : a < y.ts.length := hm
    have hb := hy.bnd _ (List.getElem_mem ht)
    have hw : s.f.getD (y.ts.getD a (0, 0)).1 [] ≠ [] := hc
    rw [tsGetD ht] at hw
    have eA : afterM y s ⟨.over, a⟩ = goOver s y.ts[a] := by
      show goOver s (y.ts.getD a (0, 0)) = _
      rw [tsGetD ht]
    rw [eA]
    have ha : y.ts[a].1 < s.f.length := by omega
    have hb2 : y.ts[a].2 < s.s.length := by omega
    obtain ⟨v, r, hv⟩ := List.exists_cons_of_ne_nil hw
    have fa : (s.f.map tN)[y.ts[a].1]? = some (tN (s.f.getD y.ts[a].1 [])) := getMap (getDL ha)
    have fb : (s.s.map tN)[y.ts[a].2]? = some (tN (s.s.getD y.ts[a].2 [])) := getMap (getDL hb2)
    have hl := hs.f _ (List.mem_of_getElem? (getDL ha))
    have hl2 := hs.s _ (List.mem_of_getElem? (getDL hb2))
    have e0 : ((s.f.getD y.ts[a].1 []).map nI)[0]? = some (nI v) := by rw [hv]; rfl
    refine ws_cons (ws_skip (dt_c (cm_eqs (dv 7) de_str (decide_eq_false s1.symm))) ?_)
    refine ws_cons (ws_if (b := true) (dt_c (cm_eqs (dv 7) de_str (decide_eq_true rfl))) (fun _ => ?_) nofun)
    refine ws_cons (ws_asg (de_ixT (tsAt ht) (dix (dv 0)) (dv 8)) (gtu2 9 10 nd) ?_)
    refine ws_cons (ws_skip (dt_c (cn_eq (lenT (n := (s.f.getD y.ts[a].1 []).length) g.len (de_ixT fa (dv 4) (dv 9))) (dn 0) (decide_eq_false (by rw [hv]; simp)))) ?_)
    refine ws_cons (wset 11 nd (dix (de_ixT fa (dv 4) (dv 9)) e0) ?_)
    refine ws_cons (wset 12 nd (de_call c1 hr ⟨s.s.map tN, y.ts[a].2, .tuple ((s.s.getD y.ts[a].2 []).map nI ++ [nI v]), by simp; omega, rfl, rfl⟩ (da_cons (dv 5) (da_cons (dv 10) (da_one (de_catT (de_ixT fb (dv 5) (dv 10)) (de_tup (ds := [nI v]) (da_one (dv 11))) (by simp only [List.length_map, List.length_cons, List.length_nil]; omega)))))) ?_)
    refine ws_one (ws_ret (de_tup (ds := [tN s.w, .tuple ((s.f.map tN).set y.ts[a].1 (.tuple (((s.f.getD y.ts[a].1 []).map nI).drop 1))), .tuple ((s.s.map tN).set y.ts[a].2 (.tuple ((s.s.getD y.ts[a].2 []).map nI ++ [nI v]))), nI s.g])
      (da_cons (dv 3) (da_cons (de_call c1 hr ⟨s.f.map tN, y.ts[a].1, _, by simp; omega, rfl, rfl⟩ (da_cons (dv 4) (da_cons (dv 9) (da_one (de_slT_from (de_ixT fa (dv 4) (dv 9)) (dn 1)))))) (da_cons (dv 12) (da_one (dv 6)))))) ?_)
    have e1 : ((s.s.getD y.ts[a].2 []).map nI ++ [nI v]) = (s.s.getD y.ts[a].2 [] ++ (s.f.getD y.ts[a].1 []).take 1).map nI := by rw [hv]; simp
    rw [e1]
    simp only [thenO, Ret, goOver, encS, tN, ← List.map_drop, List.map_set]
  | out =>
    have ha : a < s.s.length := by rw [h2]; exact hm
    have hw : (s.s.getD a []).head? = some s.g := hc
    have hw0 : s.s.getD a [] ≠ [] := fun z => by rw [z] at hw; cases hw
    obtain ⟨v, r, hv⟩ := List.exists_cons_of_ne_nil hw0
    have fb : (s.s.map tN)[a]? = some (tN (s.s.getD a [])) := getMap (getDL ha)
    have e0 : (s.s.getD a [])[0]? = some s.g := by rw [← List.head?_eq_getElem?]; exact hw
    refine ws_cons (ws_skip (dt_c (cm_eqs (dv 7) de_str (decide_eq_false s2.symm))) ?_)
    refine ws_cons (ws_skip (dt_c (cm_eqs (dv 7) de_str (decide_eq_false s3.symm))) ?_)
    refine ws_cons (ws_skip (dt_w (torF (dt_c (cn_eq (lenT (n := (s.s.getD a []).length) g.len (de_ixT fb (dv 5) (dv 8))) (dn 0) (decide_eq_false (by rw [hv]; simp)))) (dw_or1 (dt_c (cn_ne (i := s.g) (dix (de_ixT fb (dv 5) (dv 8)) (getMap e0)) (dv 6) (by simp)))))) ?_)
    refine ws_one (ws_ret (de_tup (ds := [tN s.w, .tuple (s.f.map tN), .tuple ((s.s.map tN).set a (.tuple (((s.s.getD a []).map nI).drop 1))), nI (s.g + 1)])
      (da_cons (dv 3) (da_cons (dv 4) (da_cons (de_call c1 hr ⟨s.s.map tN, a, _, by simp; omega, rfl, rfl⟩ (da_cons (dv 5) (da_cons (dv 8) (da_one (de_slT_from (de_ixT fb (dv 5) (dv 8)) (dn 1)))))) (da_one (de_addN (dv 6) (dn 1))))))) ?_)
    simp only [thenO, Ret, afterM, goOut, encS, tN, ← List.map_drop, List.map_set]
/-- all the moves -/
def allM (y : Yd) : List Mv := (List.range y.k).map (fun a => ⟨.in_, a⟩) ++ (List.range y.ts.length).map (fun t => ⟨.over, t⟩) ++ (List.range y.l).map fun b => ⟨.out, b⟩
theorem allM_mem {y : Yd} {m : Mv} (h : m.at_ < many y m.k) : m ∈ allM y := by
  obtain ⟨k, a⟩ := m
  unfold allM
  cases k with
  | in_ => exact List.mem_append_left _ (List.mem_append_left _ (List.mem_map.mpr ⟨a, List.mem_range.mpr h, rfl⟩))
  | over => exact List.mem_append_left _ (List.mem_append_right _ (List.mem_map.mpr ⟨a, List.mem_range.mpr h, rfl⟩))
  | out => exact List.mem_append_right _ (List.mem_map.mpr ⟨a, List.mem_range.mpr h, rfl⟩)
abbrev R_lane_all (ds : List PyData) (d : PyData) : Prop := ∃ y : Yd, YdOk y ∧ ds = [encY y] ∧ d = .list ((allM y).map encM)
theorem c_lane_all (F : FnT K mg "_law_lane_all" "_law_lane_all" 93) (g : Fr mg) : Call P w K mg base 1 "_law_lane_all" (spD G 1 R_lane_all) := by
  refine callD F sc__law_lane_all b__law_lane_all fun f cdv A outer s0 H E hr ds d hR => ?_
  obtain ⟨y, hy, rfl, rfl⟩ := hR
  have nd := sc__law_lane_all.nd
  have h3 := hy.k12; have h4 := hy.l12; have h5 := hy.len
  refine ws_cons (wset 1 nd (de_catL .flat isL_f .flat isL_f
    (de_map (xs := List.range y.k) (f := nI) (g := fun a => encM ⟨.in_, a⟩) (own := [("_law_a", 2)]) nd (blkOk_by (N := N__law_lane_all) (sc := defScope (top 93)) (by decide +kernel)) (it_range g.range (by omega) (dix (dv 0))) (.refl _) (bare_cons bare_nil) (turnN nd (fun _ _ _ _ _ => ⟨.inl rfl, .inr rfl⟩) rfl (bare_cons bare_nil) fun z hz s H C cl fp => de_tup (ds := [.str Mk.in_.str, nI z]) (da_cons de_str (da_one (dv 2)))) (by simp; omega))
    (de_map (xs := List.range y.ts.length) (f := nI) (g := fun a => encM ⟨.over, a⟩) (own := [("_law_t", 3)]) nd (blkOk_by (N := N__law_lane_all) (sc := defScope (top 93)) (by decide +kernel)) (it_range g.range (by omega) (lenT g.len (dix (dv 0)))) (.refl _) (bare_cons bare_nil) (turnN nd (fun _ _ _ _ _ => ⟨.inl rfl, .inr rfl⟩) rfl (bare_cons bare_nil) fun z hz s H C cl fp => de_tup (ds := [.str Mk.over.str, nI z]) (da_cons de_str (da_one (dv 3)))) (by simp; omega)) (by simp; omega)) ?_)
  refine ws_one (ws_ret (de_catL (.als (i := 1) rfl) isL_a .flat isL_f (da 1)
    (de_map (xs := List.range y.l) (f := nI) (g := fun a => encM ⟨.out, a⟩) (own := [("_law_b", 4)]) nd (blkOk_by (N := N__law_lane_all) (sc := defScope (top 93)) (by decide +kernel)) (it_range g.range (by omega) (dix (dv 0))) (.refl _) (bare_cons bare_nil) (turnN nd (fun _ _ _ _ _ => ⟨.inl rfl, .inr rfl⟩) rfl (bare_cons bare_nil) fun z hz s H C cl fp => de_tup (ds := [.str Mk.out.str, nI z]) (da_cons de_str (da_one (dv 4)))) (by simp; omega)) (by simp; omega)).frz ?_)
  simp only [Ret, allM, List.map_append, List.map_map]
  rfl
theorem eqv_move (m : Mv) : PyData.eqv (encM m) (encM m) = true := by simp [PyData.eqv, PyData.eqvAll]
theorem c_lane_is_move (F : FnT K mg "_law_lane_is_move" "_law_lane_is_move" 94) (g : Fr mg) (c1 : Call P w K mg base 1 "_law_is_whole" (spD G 1 fun ds d => ∃ i : Int, ds = [.int i] ∧ d = .bool true)) (c2 : Call P w K mg base 1 "_law_lane_all" (spD G 1 R_lane_all)) :
    Call P w K mg base 2 "_law_lane_is_move" (spD G 2 R_is_move) := by
  refine callD F sc__law_lane_is_move b__law_lane_is_move fun f cdv A outer s0 H E hr ds d hR => ?_
  obtain ⟨y, m, ⟨hy, hm⟩, rfl, rfl⟩ := hR
  have nd := sc__law_lane_is_move.nd
  have h3 := hy.k12; have h4 := hy.l12; have h5 := hy.len
  refine ws_cons (ws_skip (dt_w (torF (tnot (dtv (di_tup g.isinstance g.tuple (dv 1)))) (torF (dt_c (cn_ne (lenT g.len (dv 1)) (dn 2))) (dw_or1 (tnot (dtv (de_call c1 hr ⟨(m.at_ : Int), rfl, rfl⟩ (da_one (dix (dv 1)))))))))) ?_)
  have hmem : m ∈ (allM y).filter fun a => PyData.eqv (encM a) (encM m) := List.mem_filter.mpr ⟨allM_mem hm, eqv_move m⟩
  refine ws_one (ws_ret (de_c (cm_neL0 hr (fun d hd => ?_) (de_filt (xs := allM y) (f := encM) (g := encM) (p := fun a => PyData.eqv (encM a) (encM m)) (own := [("_law_move", 2)]) nd (blkOk_by (N := N__law_lane_is_move) (sc := defScope (top 94)) (by decide +kernel)) (it_lst (de_call c2 hr ⟨y, hy, rfl, rfl⟩ (da_one (dv 0)))) (.refl _) (bare_cons bare_nil)
    (turnF nd (fun _ _ _ _ _ => ⟨.inl rfl, .inr rfl⟩) rfl (bare_cons bare_nil) (fun z hz s H0 C cl fp => dt_c (cm_eqd hr shM shM (dv 2) (dv 1))) (fun z hz _ s H0 C cl fp => dv 2)) (by simp [allM]; omega)).frz (de_lst (ds := []) da_nil).frz)) ?_)
  · obtain ⟨t, _, rfl⟩ := List.mem_map.mp hd
    exact shM
  · cases e : (allM y).filter fun a => PyData.eqv (encM a) (encM m) with
    | nil => rw [e] at hmem; cases hmem
    | cons x r => rfl
/-- moves that may be made, one behind another -/
def Legal (y : Yd) : Sd → List Mv → Prop
  | _, [] => True
  | s, m :: ms => (m.at_ < many y m.k ∧ canM y s m) ∧ Legal y (afterM y s m) ms
abbrev R_lane_replayed (ds : List PyData) (d : PyData) : Prop := ∃ (y : Yd) (r : List Nat) (ms : List Mv), (YdOk y ∧ RwOk r ∧ Legal y (stand0 y r) ms) ∧ ds = [encY y, tN r, .tuple (ms.map encM)] ∧ d = .tuple [encS (ms.foldl (afterM y) (stand0 y r)), .none]
theorem legal_at {y : Yd} {n : Nat} (hy : YdOk y) : ∀ {ms : List Mv} {s : Sd} {i : Nat} {m : Mv}, SdI y n s → Legal y s ms → ms[i]? = some m → SdI y n ((ms.take i).foldl (afterM y) s) ∧ m.at_ < many y m.k ∧ canM y ((ms.take i).foldl (afterM y) s) m
  | [], _, _, _, _, _, h => by simp at h
  | x :: ms, s, 0, m, hs, hl, h => by
    simp at h
    subst h
    exact ⟨hs, hl.1.1, hl.1.2⟩
  | x :: ms, s, i + 1, m, hs, hl, h => by
    have := legal_at hy (ms := ms) (s := afterM y s x) (i := i) (m := m) (moved hy hs hl.1.1 hl.1.2).1 hl.2 (by simpa using h)
    simpa using this
theorem c_lane_replayed (F : FnT K mg "_law_lane_replayed" "_law_lane_replayed" 95) (g : Fr mg) (c1 : Call P w K mg base 1 "_law_lane_begun" (spD G 2 R_first_stand)) (c2 : Call P w K mg base 2 "_law_lane_after" (spD G 3 R_after_move)) (c3 : Call P w K mg base 2 "_law_lane_is_move" (spD G 2 R_is_move)) :
    Call P w K mg base 3 "_law_lane_replayed" (spD G 3 R_lane_replayed) := by
  refine callD F sc__law_lane_replayed b__law_lane_replayed fun f cdv A outer s0 H E hr ds d hR => ?_
  obtain ⟨y, r, ms, ⟨hy, hr', hl⟩, rfl, rfl⟩ := hR
  have nd := sc__law_lane_replayed.nd
  have hs0 := stand0_ok (y := y) hr'
  refine ws_cons (wset 3 nd (de_call c1 hr ⟨y, r, hy, rfl, rfl⟩ (da_cons (dv 0) (da_one (dv 1)))) ?_)
  refine ws_cons (wfor (it_enum g.enumerate (dv 2)) (fun i => [some (.dat (encY y)), some (.dat (tN r)), some (.dat (.tuple (ms.map encM))), some (.dat (encS ((ms.take i).foldl (afterM y) (stand0 y r)))), none, none, none]) (.keep (.keep (.keep (.keepE (by simp) (.keep (.keep (.keep .nil))))))) (fun i d hd => ?_) ?_)
  · obtain ⟨x, ex, rfl⟩ := enumGet hd
    obtain ⟨m, em, rfl⟩ := ofMap ex
    obtain ⟨hs, hm, hc⟩ := legal_at hy hs0 hl em
    have eS := foldTake (step := afterM y) (b := stand0 y r) em
    rw [eS]
    generalize (ms.take i).foldl (afterM y) (stand0 y r) = s at hs hm hc eS
    refine ⟨_, _, gtu2 4 5 nd, ?_⟩
    refine ws_cons (wset 6 nd (difT (dtv (de_call c3 hr ⟨y, m, ⟨hy, hm⟩, rfl, rfl⟩ (da_cons (dv 0) (da_one (dv 5))))) (de_call c2 hr ⟨y, s, m, ⟨hy, hs.ok, hm, hc⟩, rfl, rfl⟩ (da_cons (dv 0) (da_cons (dv 3) (da_one (dv 5)))))) ?_)
    refine ws_cons (ws_skip (dt_c (cm_isN (dv 6))) ?_)
    exact ws_one (wset 3 nd (dv 6) (.keep (.keep (.keep (.keep (.drop (.drop (.drop .nil))))))))
  · have e : (enumD (ms.map encM)).length = ms.length := by simp [enumD_length]
    rw [e, List.take_length]
    exact ws_one (ws_ret (de_tup (ds := [encS (ms.foldl (afterM y) (stand0 y r)), .none]) (da_cons (dv 3) (da_one de_non))) rfl)
end
end TW
end
section
set_option Elab.async false
set_option linter.all false
set_option maxRecDepth 100000
set_option maxHeartbeats 2000000
/-! The walk, 11: the law's waits. -/
namespace TW
open PySem PySem.Spec PyProof.Rows L2
section
variable {G : Glb} {P : Program} {w : World} {K : PySem.W.Frag} {mg : Str → Option Value} {base : Heap}
def joinStep (f r : List Nat) : List Nat := f ++ r.map (· + f.length)
def joinRows (rows : List (List Nat)) : List Nat := rows.foldl joinStep []
abbrev R_wait_joined (ds : List PyData) (d : PyData) : Prop := ∃ rows : List (List Nat), (rows.length ≤ 10 ∧ ∀ r ∈ rows, r.length ≤ 400) ∧ ds = [.list (rows.map tN)] ∧ d = tN (joinRows rows)
theorem join_len : ∀ (rows : List (List Nat)) (f : List Nat), (∀ r ∈ rows, r.length ≤ 400) → (rows.foldl joinStep f).length ≤ f.length + 400 * rows.length
  | [], f, _ => by simp
  | r :: rows, f, h => by
    rw [List.foldl_cons]
    have h1 := join_len rows (joinStep f r) fun x hx => h x (List.mem_cons_of_mem _ hx)
    have h2 : (joinStep f r).length = f.length + r.length := by simp [joinStep]
    have h3 := h r List.mem_cons_self
    rw [List.length_cons]
    omega
theorem c_wait_joined (F : FnT K mg "_law_wait_joined" "_law_wait_joined" 85) (g : Fr mg) : Call P w K mg base 1 "_law_wait_joined" (spD G 1 R_wait_joined) := by
  refine callD F sc__law_wait_joined b__law_wait_joined fun f cdv A outer s0 H E hr ds d hR => ?_
  obtain ⟨rows, ⟨h1, h2⟩, rfl, rfl⟩ := hR
  have nd := sc__law_wait_joined.nd
  refine ws_cons (wset 1 nd (de_lst (ds := []) da_nil) ?_)
  refine ws_cons (wfor (ds := rows.map tN) (it_lst (dv 0)) (fun i => [some (.dat (.list (rows.map tN))), some (.flat (((rows.take i).foldl joinStep []).map nI)), none, none]) (.refl _) (fun i d hd => ?_) ?_)
  · obtain ⟨r, er, rfl⟩ := ofMap hd
    have eS := foldTake (step := joinStep) (b := []) er
    have hl := join_len (rows.take i) [] fun x hx => h2 x (List.mem_of_mem_take hx)
    have hl2 : (rows.take i).length ≤ 10 := by simp; omega
    have hr' := h2 r (List.mem_of_getElem? er)
    generalize (rows.take i).foldl joinStep [] = q at eS hl
    simp only [List.length_nil, Nat.zero_add] at hl
    refine ⟨_, _, gtn 2 nd, ?_⟩
    refine ws_one (wset 1 nd (de_catL (.als (i := 1) rfl) isL_a .flat isL_f (da 1) (de_map (xs := r) (f := nI) (g := fun n => nI (n + q.length)) (own := [("_law_wagon", 3)]) nd (blkOk_by (N := N__law_wait_joined) (sc := defScope (top 85)) (by decide +kernel)) (it_tup (dv 2)) (.refl _) (bare_cons bare_nil)
      (turnN nd (fun _ _ _ _ _ => ⟨.inl rfl, .inr rfl⟩) rfl (bare_cons bare_nil) fun z hz s H C cl fp => de_addN (dv 3) (lenF g.len (da 1))) (by omega)) (by simp only [List.length_map]; omega)) ?_)
    rw [eS]
    refine .keep (.keepE ?_ (.drop (.drop .nil)))
    simp only [joinStep, List.map_append, List.map_map]
    rfl
  · have e : rows.take (rows.map tN).length = rows := by simp
    rw [e]
    exact ws_one (ws_ret (de_tuple (.als (i := 1) rfl) g.tuple (da 1)) rfl)
/-- whether the wagon at place p waits for the one at place o -/
def wtB (y : Yd) (r dl : List Nat) (p v : Nat) (q : Nat × Nat) : Bool :=
  (decide ((y.ts.getD (dl.getD q.2 0) (0, 0)).1 = (y.ts.getD (dl.getD p 0) (0, 0)).1) && decide (q.2 < p)) || (decide ((y.ts.getD (dl.getD q.2 0) (0, 0)).2 = (y.ts.getD (dl.getD p 0) (0, 0)).2) && decide (q.1 < v))
def wtL (y : Yd) (r dl : List Nat) (p v : Nat) : List Nat := (r.zipIdx.filter (wtB y r dl p v)).map (·.1)
def waStep (y : Yd) (r dl : List Nat) (f : List (List Nat)) (q : Nat × Nat) : List (List Nat) := f.set q.1 (f.getD q.1 [] ++ wtL y r dl q.2 q.1)
def waF (y : Yd) (r dl : List Nat) : List (List Nat) := r.zipIdx.foldl (waStep y r dl) (List.replicate r.length [])
abbrev R_wait_all (ds : List PyData) (d : PyData) : Prop := ∃ (y : Yd) (r dl : List Nat), (YdOk y ∧ RwOk r ∧ DlOk y r dl) ∧ ds = [encY y, tN r, tN dl] ∧ d = .list ((waF y r dl).map fun l => lN (sortN l))
theorem waStep_len {y : Yd} {r dl : List Nat} : ∀ (qs : List (Nat × Nat)) (f : List (List Nat)), (qs.foldl (waStep y r dl) f).length = f.length
  | [], f => rfl
  | q :: qs, f => by rw [List.foldl_cons, waStep_len qs]; simp [waStep]
theorem wa_getD {y : Yd} {r dl : List Nat} {v : Nat} : ∀ (qs : List (Nat × Nat)) (f : List (List Nat)), (∀ q ∈ qs, q.1 ≠ v) → (qs.foldl (waStep y r dl) f).getD v [] = f.getD v []
  | [], f, _ => rfl
  | q :: qs, f, h => by
    rw [List.foldl_cons, wa_getD qs _ fun x hx => h x (List.mem_cons_of_mem _ hx)]
    unfold waStep
    rw [List.getD_eq_getElem?_getD, List.getElem?_set_ne (h q List.mem_cons_self), ← List.getD_eq_getElem?_getD]
theorem getD_rep {n v : Nat} : (List.replicate n ([] : List Nat)).getD v [] = [] := by
  rw [List.getD_eq_getElem?_getD, List.getElem?_replicate]
  split <;> rfl
theorem zip_take {r : List Nat} {i : Nat} {q : Nat × Nat} (h : q ∈ r.zipIdx.take i) : q.1 ∈ r.take i := by
  obtain ⟨j, hj, e⟩ := List.mem_take_iff_getElem.mp h
  rw [List.getElem_zipIdx] at e
  rw [← e]
  rw [List.length_zipIdx] at hj
  exact List.mem_take_iff_getElem.mpr ⟨j, hj, rfl⟩
theorem enumD_N {r : List Nat} : enumD (r.map nI) = r.zipIdx.map fun p => .tuple [nI p.2, nI p.1] := by
  unfold enumD
  rw [List.zipIdx_map, List.map_map]
  rfl
theorem lc_nest {X : Cx} {sc : Scope} {tg elt : Expr} {ρ0 : Ev} {xs : List Nat} {P : Ev} {vs : List Nat} (h0 : Weak ρ0 P) (hb : Bare P vs) (turn : ∀ x ∈ xs, ∃ ρ1 js ρ3, BG G X sc tg P (.dat (nI x)) ρ1 js ∧ (∀ j ∈ js, j ∈ vs) ∧ BE G X sc elt ρ1 (.flat []) ρ3 ∧ Weak ρ3 P) :
    LC0 G X sc tg elt vs (xs.map nI) ρ0 (fun _ => P) (fun i => .nest (List.replicate (min i xs.length) [])) := by
  refine ⟨h0, .inr (by simp), fun _ j av hj => hb j hj av, fun i d ed => ?_⟩
  obtain ⟨x, e, rfl⟩ := ofMap ed
  have hi : i < xs.length := (List.getElem?_eq_some_iff.mp e).1
  obtain ⟨ρ1, js, ρ3, q1, q2, q3, q4⟩ := turn x (List.mem_of_getElem? e)
  refine ⟨ρ1, js, _, ρ3, q1, q2, q3, ?_, q4⟩
  have e2 : List.replicate (min (i + 1) xs.length) ([] : List PyData) = List.replicate (min i xs.length) [] ++ [[]] := by
    rw [Nat.min_eq_left (by omega), Nat.min_eq_left (by omega), List.replicate_succ']
  simp only [e2]
  exact .flat
theorem c_wait_all (F : FnT K mg "_law_wait_all" "_law_wait_all" 87) (g : Fr mg) : Call P w K mg base 1 "_law_wait_all" (spD G 3 R_wait_all) := by
  refine callD F sc__law_wait_all b__law_wait_all fun f cdv A outer s0 H E hr ds d hR => ?_
  obtain ⟨y, r, dl, ⟨hy, hr', hd'⟩, rfl, rfl⟩ := hR
  have nd := sc__law_wait_all.nd
  have rl := hr'.len; have dn := hd'.len
  refine ws_cons (ws_lc0 (P := fun _ => [some (.dat (encY y)), some (.dat (tN r)), some (.dat (tN dl)), none, none, none, none, none, none, none, none, none]) (i := 3) (own := [("_law_wagon", 4)]) nd (blkOk_by (N := N__law_wait_all) (sc := defScope (top 87)) (by decide +kernel)) (it_tup (dv 1)) (lc_nest (.refl _) (bare_cons bare_nil) fun z hz => ⟨_, [4], _, bg_name nd rfl (fun _ _ _ _ _ => ⟨.inl rfl, .inr rfl⟩) rfl, fun _ h => h, fun s H C cl fp => de_lst (ds := []) da_nil, .keep (.keep (.keep (.keep (.drop (.keep (.keep (.keep (.keep (.keep (.keep (.keep .nil)))))))))))⟩) (by simp; omega) ?_)
  have e0 : List.replicate (min (r.map nI).length r.length) ([] : List PyData) = (List.replicate r.length ([] : List Nat)).map fun l => l.map nI := by simp
  rw [e0]
  refine ws_cons (wfor (it_enum g.enumerate (dv 1)) (fun i => [some (.dat (encY y)), some (.dat (tN r)), some (.dat (tN dl)), some (.nest (((r.zipIdx.take i).foldl (waStep y r dl) (List.replicate r.length [])).map fun l => l.map nI)), none, none, none, none, none, none, none, none]) (.keep (.keep (.keep (.keepE (by simp) (.keep (.keep (.keep (.keep (.keep (.keep (.keep (.keep .nil)))))))))))) (fun i d hd => ?_) ?_)
  · rw [enumD_N] at hd
    obtain ⟨q, eq, rfl⟩ := ofMap hd
    have eS := foldTake (step := waStep y r dl) (b := List.replicate r.length []) eq
    have hl := waStep_len (y := y) (r := r) (dl := dl) (r.zipIdx.take i) (List.replicate r.length [])
    rw [List.length_replicate] at hl
    have hnew : ∀ v, r[i]? = some v → ((r.zipIdx.take i).foldl (waStep y r dl) (List.replicate r.length [])).getD v [] = [] := fun v ev => by
      exact (wa_getD (v := v) _ _ fun q hq e => notBefore hr'.nd ev (by rw [← e]; exact zip_take hq)).trans getD_rep
    generalize (r.zipIdx.take i).foldl (waStep y r dl) (List.replicate r.length []) = fd at eS hl hnew
    rw [List.getElem?_zipIdx] at eq
    obtain ⟨v, ev, rfl⟩ : ∃ v, r[i]? = some v ∧ q = (v, i) := by
      cases e : r[i]? with
      | none => rw [e] at eq; cases eq
      | some v => rw [e] at eq; simp at eq; exact ⟨v, rfl, eq.symm⟩
    have hv := hr'.bnd v (List.mem_of_getElem? ev)
    have hi : i < r.length := (List.getElem?_eq_some_iff.mp ev).1
    have di : i < dl.length := by omega
    have hb1 := hd'.bnd _ (List.mem_of_getElem? (getDN di))
    refine ⟨_, _, gtu2 5 4 nd, ?_⟩
    refine ws_cons (ws_asg (de_ixT (tsAt hb1) (dix (dv 0)) (de_ixT (getDT di) (dv 2) (dv 5))) (gtu2 6 7 nd) ?_)
    refine ws_one (wfor (it_enum g.enumerate (dv 1)) (fun j => [some (.dat (encY y)), some (.dat (tN r)), some (.dat (tN dl)), some (.nest ((fd.set v (fd.getD v [] ++ ((r.zipIdx.take j).filter (wtB y r dl i v)).map (·.1))).map fun l => l.map nI)), some (.dat (nI v)), some (.dat (nI i)), some (.dat (nI y.ts[dl.getD i 0].1)), some (.dat (nI y.ts[dl.getD i 0].2)), none, none, none, none]) ?_ (fun j d hd => ?_) ?_)
    · refine .keep (.keep (.keep (.keepE ?_ (.keep (.keep (.keep (.keep (.keep (.keep (.keep (.keep .nil)))))))))))
      have : fd.set v (fd.getD v []) = fd := by
        apply List.ext_getElem?
        intro u
        rw [List.getElem?_set]
        by_cases h : v = u
        · subst h; rw [if_pos rfl, if_pos (by omega)]; exact (getDL (by omega)).symm
        · rw [if_neg h]
      simp only [List.take_zero, List.filter_nil, List.map_nil, List.append_nil, this]
    · rw [enumD_N] at hd
      obtain ⟨q, eq, rfl⟩ := ofMap hd
      have eT : (r.zipIdx.take (j + 1)).filter (wtB y r dl i v) = (r.zipIdx.take j).filter (wtB y r dl i v) ++ (if wtB y r dl i v q then [q] else []) := by
        rw [take_snoc eq, List.filter_append]
        cases h : wtB y r dl i v q <;> simp [List.filter_cons, h]
      have hll : ((r.zipIdx.take j).filter (wtB y r dl i v)).length ≤ 400 := Nat.le_trans (List.length_filter_le _ _) (by simp; omega)
      rw [List.getElem?_zipIdx] at eq
      obtain ⟨u, eu, rfl⟩ : ∃ u, r[j]? = some u ∧ q = (u, j) := by
        cases e : r[j]? with
        | none => rw [e] at eq; cases eq
        | some v => rw [e] at eq; simp at eq; exact ⟨v, rfl, eq.symm⟩
      have hj : j < r.length := (List.getElem?_eq_some_iff.mp eu).1
      have dj : j < dl.length := by omega
      have hb2 := hd'.bnd _ (List.mem_of_getElem? (getDN dj))
      have eW : wtB y r dl i v (u, j) = ((decide (y.ts[dl.getD j 0].1 = y.ts[dl.getD i 0].1) && decide (j < i)) || (decide (y.ts[dl.getD j 0].2 = y.ts[dl.getD i 0].2) && decide (u < v))) := by
        unfold wtB
        rw [tsGetD hb1, tsGetD hb2]
      refine ⟨_, _, gtu2 8 9 nd, ?_⟩
      refine ws_cons (wset 10 nd (de_ixT (tsAt hb2) (dix (dv 0)) (de_ixT (getDT dj) (dv 2) (dv 8))) ?_)
      refine ws_one (ws_if (b := wtB y r dl i v (u, j)) (by
        rw [eW]
        exact dt_w (tor2 (dt_w (tand2 (dt_c (cn_eq (dix (dv 10)) (dv 6))) (fun _ => dw_and1 (dt_c (cn_lt (dv 8) (dv 5)))))) (fun _ => dw_or1 (dt_w (tand2 (dt_c (cn_eq (dix (dv 10)) (dv 7))) (fun _ => dw_and1 (dt_c (cn_lt (dv 9) (dv 4))))))))) (fun h => ?_) (fun h => ws_nil ?_))
      · rw [h, if_pos rfl] at eT
        have hd0 := hnew v ev
        refine ws_one (ws_expr (de_nappend 3 4 9 (ds := (fd.getD v [] ++ ((r.zipIdx.take j).filter (wtB y r dl i v)).map (·.1)).map nI) (hm := ?_) (hz := ?_)) ?_)
        · exact getMap (by rw [List.getElem?_set_self (by omega)])
        · rw [hd0]; simp; omega
        · rw [eT]
          refine .keep (.keep (.keep (.keepE ?_ (.keep (.keep (.keep (.keep (.drop (.drop (.drop (.drop .nil)))))))))))
          simp only [List.map_append, List.map_cons, List.map_nil, ← List.append_assoc]
          simp only [List.map_set, List.set_set, List.map_append, List.map_cons, List.map_nil]
      · rw [h, if_neg (by simp)] at eT
        rw [eT, List.append_nil]
        exact .keep (.keep (.keep (.keep (.keep (.keep (.keep (.keep (.drop (.drop (.drop (.drop .nil)))))))))))
    · have e : r.zipIdx.take (enumD (r.map nI)).length = r.zipIdx := by rw [enumD_length, List.length_map]; exact List.take_of_length_le (by simp)
      rw [e, eS]
      exact .keep (.keep (.keep (.keep (.drop (.drop (.drop (.drop (.drop (.drop (.drop (.drop .nil)))))))))))
  · have e : r.zipIdx.take (enumD (r.map nI)).length = r.zipIdx := by rw [enumD_length, List.length_map]; exact List.take_of_length_le (by simp)
    rw [e]
    refine wt_frzN 3 rfl ?_
    have e2 : ((r.zipIdx.foldl (waStep y r dl) (List.replicate r.length [])).map fun l => l.map nI).map PyData.list = (waF y r dl).map lN := by rw [List.map_map]; rfl
    rw [e2]
    have hl := waStep_len (y := y) (r := r) (dl := dl) r.zipIdx (List.replicate r.length [])
    rw [List.length_replicate] at hl
    have hl2 : (waF y r dl).length = r.length := hl
    exact ws_one (ws_ret (de_map (xs := waF y r dl) (f := lN) (g := fun l => lN (sortN l)) (own := [("_law_waits", 11)]) nd (blkOk_by (N := N__law_wait_all) (sc := defScope (top 87)) (by decide +kernel)) (it_lst (dv 3)) (.refl _) (bare_cons bare_nil)
      (turnN nd (fun _ _ _ _ _ => ⟨.inl rfl, .inr rfl⟩) rfl (bare_cons bare_nil) fun z hz s H C cl fp => (de_sortN .lst isL_d (sortN_ok z) g.sorted (dv 11)).frz) (by omega)).frz rfl)
/-! ### what is left -/
def freeF (ws : List (List Nat)) (left : List Nat) : List Nat := left.filter fun v => ((ws.getD v []).filter fun o => decide (o ∈ left)).isEmpty
def leftStep (ws : List (List Nat)) (left : List Nat) : List Nat := if freeF ws left = [] then left else left.filter fun v => !decide (v ∈ freeF ws left)
def leftIter (ws : List (List Nat)) : Nat → List Nat
  | 0 => List.range ws.length
  | n + 1 => leftStep ws (leftIter ws n)
def leftF (ws : List (List Nat)) : List Nat := leftIter ws ws.length
theorem leftIter_bnd {ws : List (List Nat)} : ∀ n, (∀ v ∈ leftIter ws n, v < ws.length) ∧ (leftIter ws n).length ≤ ws.length
  | 0 => ⟨fun v hv => List.mem_range.mp hv, by simp [leftIter]⟩
  | n + 1 => by
    obtain ⟨h1, h2⟩ := leftIter_bnd (ws := ws) n
    unfold leftIter leftStep
    split
    · exact ⟨h1, h2⟩
    · exact ⟨fun v hv => h1 v (List.mem_filter.mp hv).1, Nat.le_trans (List.length_filter_le _ _) h2⟩
theorem leftIter_fix {ws : List (List Nat)} {n : Nat} (h : freeF ws (leftIter ws n) = []) : ∀ k, leftIter ws (n + k) = leftIter ws n
  | 0 => rfl
  | k + 1 => by
    show leftStep ws (leftIter ws (n + k)) = _
    rw [leftIter_fix h k]
    exact if_pos h
abbrev R_wait_left (ds : List PyData) (d : PyData) : Prop := ∃ ws : List (List Nat), (ws.length ≤ 400 ∧ ∀ l ∈ ws, l.length ≤ 1000) ∧ ds = [.list (ws.map lN)] ∧ d = lN (leftF ws)
theorem c_wait_left (F : FnT K mg "_law_wait_left" "_law_wait_left" 88) (g : Fr mg) : Call P w K mg base 1 "_law_wait_left" (spD G 1 R_wait_left) := by
  refine callD F sc__law_wait_left b__law_wait_left fun f cdv A outer s0 H E hr ds d hR => ?_
  obtain ⟨ws, ⟨h1, h2⟩, rfl, rfl⟩ := hR
  have nd := sc__law_wait_left.nd
  refine ws_cons (wset 1 nd (de_listRg (n := ws.length) g.list g.range (by omega) (lenL g.len (dv 0))) ?_)
  refine ws_cons (wfor (it_range (n := ws.length) g.range (by omega) (lenL g.len (dv 0))) (fun i => [some (.dat (.list (ws.map lN))), some (.flat ((leftIter ws i).map nI)), none, none, none, none]) (.refl _) (fun i d hd => ?_) ?_)
  · obtain ⟨hi, rfl⟩ := rngGet hd
    obtain ⟨b1, b2⟩ := leftIter_bnd (ws := ws) i
    have hfix := leftIter_fix (ws := ws) (n := i)
    have eS : leftIter ws (i + 1) = leftStep ws (leftIter ws i) := rfl
    generalize leftIter ws i = left at b1 b2 hfix eS
    refine ⟨_, _, gtn 2 nd, ?_⟩
    refine wt_frz (i := 1) rfl ?_
    refine ws_cons (wset 3 nd (de_filt (xs := left) (f := nI) (g := nI) (p := fun v => ((ws.getD v []).filter fun o => decide (o ∈ left)).isEmpty) (own := [("_law_wagon", 4)]) nd (blkOk_by (N := N__law_wait_left) (sc := defScope (top 88)) (by decide +kernel)) (it_lst (dv 1)) (.refl _) (bare_cons bare_nil)
      (turnF nd (fun _ _ _ _ _ => ⟨.inl rfl, .inr rfl⟩) rfl (bare_cons bare_nil) (fun z hz s H0 C cl fp => ?_) (fun z hz _ s H0 C cl fp => dv 4)) (by omega)) ?_)
    · have hz2 := b1 z hz
      have ez := getDL (f := ws) (i := z) hz2
      have hl := h2 _ (List.mem_of_getElem? ez)
      have fz : (ws.map lN)[z]? = some (lN (ws.getD z [])) := getMap ez
      refine dt_c (cm_eqL0 hr (fun d hd => ?_) (de_filt (xs := ws.getD z []) (f := nI) (g := nI) (p := fun o => decide (o ∈ left)) (own := [("_law_other", 5)]) nd (blkOk_by rfl) (it_lst (de_ixN .lst fz (dv 0) (dv 4))) (.refl _) (bare_cons bare_nil)
        (turnF nd (fun _ _ _ _ _ => ⟨.inl rfl, .inr rfl⟩) rfl (bare_cons bare_nil) (fun z hz s H0 C cl fp => dt_c (cn_in .lst (dv 5) (dv 1))) (fun z hz _ s H0 C cl fp => dv 5)) (by omega)).frz (de_lst (ds := []) da_nil).frz (by rw [List.isEmpty_map]))
      obtain ⟨t, _, rfl⟩ := List.mem_map.mp hd
      exact shN
    · have ef : (left.filter fun v => ((ws.getD v []).filter fun o => decide (o ∈ left)).isEmpty) = freeF ws left := rfl
      rw [ef]
      have fl : (freeF ws left).length ≤ 400 := Nat.le_trans (List.length_filter_le _ _) (by omega)
      refine wt_frz (i := 3) rfl ?_
      refine ws_cons (ws_if (dt_c (cm_eqL0 hr (fun d hd => ?_) (dv 3) (de_lst (ds := []) da_nil).frz)) (fun h => ws_one (ws_break ?_)) (fun h => ws_nil ?_))
      · obtain ⟨t, _, rfl⟩ := List.mem_map.mp hd
        exact shN
      · have h : freeF ws left = [] := by
          rw [List.isEmpty_map, List.isEmpty_iff] at h
          exact h
        have e2 : leftF ws = left := by
          have e3 : ws.length = i + (ws.length - i) := by omega
          show leftIter ws ws.length = left
          rw [e3]
          exact hfix h _
        refine ws_one (ws_ret (dv 1) ?_)
        show AV.dat _ = AV.dat _
        rw [e2]
      · have h : ¬ freeF ws left = [] := fun z => by
          rw [z] at h
          cases h
        have e4 : leftStep ws left = left.filter fun v => !decide (v ∈ freeF ws left) := if_neg h
        rw [eS, e4]
        refine ws_one (wset 1 nd (de_filt (xs := left) (f := nI) (g := nI) (p := fun v => !decide (v ∈ freeF ws left)) (own := [("_law_wagon", 4)]) nd (blkOk_by (N := N__law_wait_left) (sc := defScope (top 88)) (by decide +kernel)) (it_lst (dv 1)) (.refl _) (bare_cons bare_nil)
          (turnF nd (fun _ _ _ _ _ => ⟨.inl rfl, .inr rfl⟩) rfl (bare_cons bare_nil) (fun z hz s H0 C cl fp => dt_c (cn_notin .lst (dv 4) (dv 3))) (fun z hz _ s H0 C cl fp => dv 4)) (by omega)) ?_)
        exact .keep (.keep (.drop (.drop (.drop (.drop .nil)))))
  · have e : (rng ws.length).length = ws.length := by simp [rng]
    rw [e]
    exact ws_one (ws_ret (de_take (i := 1) rfl) rfl)
abbrev R_wait_goes (ds : List PyData) (d : PyData) : Prop := ∃ (y : Yd) (r dl : List Nat), (YdOk y ∧ RwOk r ∧ DlOk y r dl) ∧ ds = [encY y, tN r, tN dl] ∧ d = .bool (leftF ((waF y r dl).map sortN)).isEmpty
theorem wtL_len {y : Yd} {r dl : List Nat} {p v : Nat} : (wtL y r dl p v).length ≤ r.length := by
  unfold wtL
  rw [List.length_map]
  exact Nat.le_trans (List.length_filter_le _ _) (by simp)
theorem waF_len {y : Yd} {r dl : List Nat} (hr : RwOk r) : (waF y r dl).length = r.length ∧ ∀ l ∈ waF y r dl, l.length ≤ r.length := by
  have hl := waStep_len (y := y) (r := r) (dl := dl) r.zipIdx (List.replicate r.length [])
  rw [List.length_replicate] at hl
  refine ⟨hl, fun l h => ?_⟩
  have key : ∀ i, ∀ l ∈ (r.zipIdx.take i).foldl (waStep y r dl) (List.replicate r.length []), l.length ≤ r.length := by
    intro i
    induction i with
    | zero =>
      intro l h
      have h : l ∈ List.replicate r.length ([] : List Nat) := h
      rw [(List.mem_replicate.mp h).2]
      simp
    | succ i ih =>
      intro l h
      cases eq : r.zipIdx[i]? with
      | none =>
        have h1 := List.getElem?_eq_none_iff.mp eq
        rw [List.take_of_length_le (by omega)] at h
        rw [List.take_of_length_le (by omega)] at ih
        exact ih l h
      | some q =>
        rw [foldTake (step := waStep y r dl) eq] at h
        rw [List.getElem?_zipIdx] at eq
        obtain ⟨v, ev, rfl⟩ : ∃ v, r[i]? = some v ∧ q = (v, i) := by
          cases e : r[i]? with
          | none => rw [e] at eq; cases eq
          | some v => rw [e] at eq; simp at eq; exact ⟨v, rfl, eq.symm⟩
        have hnew : ((r.zipIdx.take i).foldl (waStep y r dl) (List.replicate r.length [])).getD v [] = [] := (wa_getD (v := v) _ _ fun q hq e => notBefore hr.nd ev (by rw [← e]; exact zip_take hq)).trans getD_rep
        unfold waStep at h
        rcases List.mem_or_eq_of_mem_set h with h | h
        · exact ih l h
        · rw [h]
          have e5 : ((r.zipIdx.take i).foldl (fun f q => f.set q.1 (f.getD q.1 [] ++ wtL y r dl q.2 q.1)) (List.replicate r.length [])).getD v [] = [] := hnew
          rw [e5, List.nil_append]
          exact wtL_len
  have := key r.zipIdx.length l (by rw [List.take_length]; exact h)
  exact this
theorem c_wait_goes (F : FnT K mg "_law_wait_goes" "_law_wait_goes" 89) (g : Fr mg) (c1 : Call P w K mg base 1 "_law_wait_all" (spD G 3 R_wait_all)) (c2 : Call P w K mg base 1 "_law_wait_left" (spD G 1 R_wait_left)) : Call P w K mg base 2 "_law_wait_goes" (spD G 3 R_wait_goes) := by
  refine callD F sc__law_wait_goes b__law_wait_goes fun f cdv A outer s0 H E hr ds d hR => ?_
  obtain ⟨y, r, dl, ⟨hy, hr', hd'⟩, rfl, rfl⟩ := hR
  obtain ⟨l1, l2⟩ := waF_len (y := y) (dl := dl) hr'
  have rl := hr'.len
  have e : (waF y r dl).map (fun l => lN (sortN l)) = ((waF y r dl).map sortN).map lN := by rw [List.map_map]; rfl
  refine ws_one (ws_ret (de_c (cm_eqL0 hr (fun d hd => ?_) (de_call c2 hr ⟨(waF y r dl).map sortN, ⟨by simp; omega, fun l hl => ?_⟩, rfl, rfl⟩ (da_one ((de_call c1 hr ⟨y, r, dl, ⟨hy, hr', hd'⟩, rfl, rfl⟩ (da_cons (dv 0) (da_cons (dv 1) (da_one (dv 2))))).to (by rw [e])))) (de_lst (ds := []) da_nil).frz)) ?_)
  · obtain ⟨t, _, rfl⟩ := List.mem_map.mp hd
    exact shN
  · obtain ⟨z, hz, rfl⟩ := List.mem_map.mp hl
    rw [(sortN_ok z).1.length_eq]
    have := l2 z hz
    omega
  · simp only [Ret, List.isEmpty_map]
end
end TW
end
section
set_option Elab.async false
set_option linter.all false
set_option maxRecDepth 100000
set_option maxHeartbeats 2000000
/-! The walk, 12: draws. -/
namespace TW
open PySem PySem.Spec PyProof.Rows L2
section
variable {G : Glb} {P : Program} {w : World} {K : PySem.W.Frag} {mg : Str → Option Value} {base : Heap}
/-- a cell's size -/
def szZ (c : Int) : Int := if decide (0 ≤ c) then 2 * c else -1 - 2 * c
abbrev lineZ : Int := 10 ^ (18 : Int).toNat
/-- the next cell is taken, if it is time for it -/
def feedF (st : PoolS) : PoolS :=
  match st.cs with
  | [] => st
  | c :: r => if st.a = 0 then ⟨if decide (lineZ ≤ szZ c) then szZ c else 0, (st.b + szZ c * 69621) % 2147483629 + 3, r⟩ else st
def dealF (st : PoolS) (n : Int) : Int × PoolS :=
  if 0 < st.a then (st.a % n, ⟨st.a / n, st.b, st.cs⟩)
  else (((st.b * 48271 + 11) % 2147483647 * ((st.b * 48271 + 11) % 2147483647)) % 2147483629 / 32 % n, ⟨st.a, (st.b * 48271 + 11) % 2147483647, st.cs⟩)
def drawN (st : PoolS) (n : Nat) : Nat × PoolS := ((dealF (feedF st) n).1.toNat, (dealF (feedF st) n).2)
theorem deal_rng {st : PoolS} {n : Int} (h : 0 < n) : 0 ≤ (dealF st n).1 ∧ (dealF st n).1 < n := by
  unfold dealF
  split
  · exact ⟨Int.emod_nonneg _ (by omega), Int.emod_lt_of_pos _ h⟩
  · exact ⟨Int.emod_nonneg _ (by omega), Int.emod_lt_of_pos _ h⟩
theorem draw_lt {st : PoolS} {n : Nat} (h : 1 ≤ n) : (drawN st n).1 < n := by
  have := deal_rng (st := feedF st) (n := (n : Int)) (by omega)
  unfold drawN
  omega
theorem draw_int {st : PoolS} {n : Nat} (h : 1 ≤ n) : ((drawN st n).1 : Int) = (dealF (feedF st) n).1 := by
  have := deal_rng (st := feedF st) (n := (n : Int)) (by omega)
  unfold drawN
  omega
abbrev R_draw (st : PoolS) (ds : List PyData) (d : PyData) (st' : PoolS) : Prop := ∃ n : Nat, (1 ≤ n ∧ n ≤ 1000000) ∧ ds = [nI n] ∧ d = nI (drawN st n).1 ∧ st' = (drawN st n).2
theorem c_draw (F : FnT K mg "_law_draw" "_law_draw" 74) (g : Fr mg) : Call P w K mg base 1 "_law_draw" (spP G 2 R_draw) := by
  refine callP F sc__law_draw b__law_draw fun f cdv A outer s0 H E hr p q st ds d st' hR => ?_
  obtain ⟨n, ⟨h1, h2⟩, rfl, rfl, rfl⟩ := hR
  have nd := sc__law_draw.nd
  have rest : ∀ st1 : PoolS, WSs G (CD P w K mg base N__law_draw "_law_draw" (defScope (top 74)) f cdv A outer s0 H E) ((defBody (top 74)).drop 1) [some (.pool p q st1), some (.dat (nI n)), none, none, none] (RetP p q (.int (dealF st1 n).1) (dealF st1 n).2) := by
    intro st1
    by_cases h : 0 < st1.a
    · have e : dealF st1 n = (st1.a % n, ⟨st1.a / n, st1.b, st1.cs⟩) := if_pos h
      rw [e]
      refine ws_cons (ws_if (b := true) (dt_c (cm_gt (de_p0 0) de_int (decide_eq_true h))) (fun _ => ?_) nofun)
      refine ws_cons (wset 4 nd (de_mod (j := (n : Int)) (by omega) (de_int1 g.int (de_p0 0)) (dv 1)) ?_)
      refine ws_cons (ws_asg (de_fdiv (j := (n : Int)) ⟨by omega, by omega⟩ (de_p0 0) (dv 1)) (gp_sub (n := 0) 0 ⟨st1.a / n, st1.b, st1.cs⟩) ?_)
      exact ws_one (ws_ret (dv 4) ⟨rfl, rfl⟩)
    · have e : dealF st1 n = (((st1.b * 48271 + 11) % 2147483647 * ((st1.b * 48271 + 11) % 2147483647)) % 2147483629 / 32 % n, ⟨st1.a, (st1.b * 48271 + 11) % 2147483647, st1.cs⟩) := if_neg h
      rw [e]
      have b1 : 0 ≤ (st1.b * 48271 + 11) % 2147483647 := Int.emod_nonneg _ (by decide)
      have b2 : (st1.b * 48271 + 11) % 2147483647 < 2147483647 := Int.emod_lt_of_pos _ (by decide)
      generalize hb : (st1.b * 48271 + 11) % 2147483647 = b' at b1 b2
      have l64 : (2147483647 : Int) < 2 ^ 64 := by decide
      refine ws_cons (ws_skip (dt_c (cm_gt (de_p0 0) de_int (decide_eq_false h))) ?_)
      refine ws_cons (ws_asg (de_mod (by decide) (de_int1 g.int (de_add (de_mul (.inr ⟨by decide, by decide⟩) (de_p1 0) de_int) de_int)) de_int) (gp_sub (n := 1) 0 ⟨st1.a, b', st1.cs⟩ (hst := by exact ⟨by rw [← hb]; rfl, rfl, by decide⟩)) ?_)
      exact ws_one (ws_ret (de_mod (j := (n : Int)) (by omega) (de_fdiv ⟨by decide, by decide⟩ (de_mod (by decide) (de_int1 g.int (de_mul (i := b') (j := b') (.inl ⟨by omega, by omega⟩) (de_p1 (st := ⟨st1.a, b', st1.cs⟩) 0) (de_p1 (st := ⟨st1.a, b', st1.cs⟩) 0))) de_int) de_int) (dv 1)) ⟨rfl, rfl⟩)
  rw [show nI (drawN st n).1 = .int (dealF (feedF st) n).1 from congrArg PyData.int (draw_int h1)]
  cases hc : st.cs with
  | nil =>
    have ef : feedF st = st := by unfold feedF; rw [hc]
    have r1 := rest st
    rw [show (drawN st n).2 = (dealF st n).2 by unfold drawN; rw [ef], ef]
    refine ws_cons (ws_skip (dt_w (tand2 (b := false) (dt_c (cm_eq (de_p0 0) de_int)) (fun _ => dw_and1 (dt_c (cm_p2 0 hr (de_lst (ds := []) da_nil).frz (qb := by rw [hc]; rfl)))) (by simp))) ?_)
    exact r1
  | cons c r =>
    by_cases ha : st.a = 0
    · have ef : feedF st = ⟨if decide (lineZ ≤ szZ c) then szZ c else 0, (st.b + szZ c * 69621) % 2147483629 + 3, r⟩ := by unfold feedF; rw [hc]; exact if_pos ha
      have r1 := rest (feedF st)
      rw [show (drawN st n).2 = (dealF (feedF st) n).2 from rfl]
      rw [ef] at r1 ⊢
      refine ws_cons (ws_if (b := true) (dt_w (tandT (dt_c (cm_eq (de_p0 0) de_int (decide_eq_true ha))) (dw_and1 (dt_c (cm_p2 0 hr (de_lst (ds := []) da_nil).frz (qb := by rw [hc]; rfl)))))) (fun _ => ?_) nofun)
      refine ws_cons (wset 2 nd (de_int1 g.int (de_p2pop 0 hc)) ?_)
      refine ws_cons (wset 3 nd (difI (dt_c (cm_ge (dv 2) de_int)) (fun _ => de_mul (.inl ⟨by decide, by decide⟩) de_int (dv 2)) (fun _ => de_sub (de_neg de_int) (de_mul (.inl ⟨by decide, by decide⟩) de_int (dv 2)))) ?_)
      refine ws_cons (ws_asg (difI (i := szZ c) (j := 0) (dt_c (cm_ge (dv 3) (de_pow ⟨by decide, by decide, by decide⟩ de_int de_int))) (fun _ => dv 3) (fun _ => de_int)) (gp_sub (n := 0) 0 ⟨if decide (lineZ ≤ szZ c) then szZ c else 0, st.b, r⟩) ?_)
      refine ws_one (ws_asg (de_add (de_mod (by decide) (de_int1 g.int (de_add (de_p1 0) (de_mul (.inr ⟨by decide, by decide⟩) (dv 3) de_int))) de_int) de_int) (gp_sub (n := 1) 0 ⟨if decide (lineZ ≤ szZ c) then szZ c else 0, (st.b + szZ c * 69621) % 2147483629 + 3, r⟩) ?_)
      exact wt_weak (.keep (.keep (.drop (.drop (.keep .nil))))) r1
    · have ef : feedF st = st := by unfold feedF; rw [hc]; exact if_neg ha
      have r1 := rest st
      rw [show (drawN st n).2 = (dealF st n).2 by unfold drawN; rw [ef], ef]
      refine ws_cons (ws_skip (dt_w (tandF (dt_c (cm_eq (de_p0 0) de_int (decide_eq_false ha))))) ?_)
      exact r1
end
end TW
end
section
set_option Elab.async false
set_option linter.all false
set_option maxRecDepth 100000
set_option maxHeartbeats 2000000
/-! The walk, 13: what is drawn. -/
namespace TW
open PySem PySem.Spec PyProof.Rows L2
section
variable {G : Glb} {X : Cx} {k j n : Nat} {x : Str} {p0 pos : Pos} {e : Expr} {es : List Expr} {ρ ρ1 : Ev} {ds : List PyData} {d : PyData} {p q : Addr} {st st' : PoolS}
theorem dcP (i : Nat) {R : PoolS → List PyData → PyData → PoolS → Prop} (c : Call X.prog X.w X.K X.mg X.base k x (spP G n R)) (hr : Room j X.A) (hR : R st ds d st') (ha : DA G X (e :: es) ρ (.als i :: ds.map AV.dat) ρ1) (hi : ρ1[i]? = some (some (.pool p q st)) := by rfl) (hn : ds.length + 1 = n := by rfl) (hk : k ≤ j := by decide) (hg : Gl X x := by rfl)
    (hdb : (x == ("__debug__" : Str)) = false := by decide) (he : starEach (e :: es) X.env = (false, eval e X.env) :: starEach es X.env := by rfl) (hpl : (backTo pos (starEach es X.env)).any (·.1) = false := by rfl) :
    DE G X (.Call (.Name x p0) (e :: es) [] pos) ρ (.dat d) (ρ1.set i (some (.pool p q st'))) := de_callP c hr hR ha hi hn hk hg hdb he hpl
end
section
variable {G : Glb} {P : Program} {w : World} {K : PySem.W.Frag} {mg : Str → Option Value} {base : Heap}
theorem erase_map {α β : Type} {f : α → β} : ∀ (l : List α) (i : Nat), (l.map f).eraseIdx i = (l.eraseIdx i).map f
  | [], _ => rfl
  | _ :: _, 0 => rfl
  | x :: l, i + 1 => by simp [erase_map l i]
theorem erase_perm {α : Type} : ∀ (l : List α) (i : Nat) (h : i < l.length), (l[i] :: l.eraseIdx i).Perm l
  | [], _, h => by simp at h
  | x :: l, 0, _ => .refl _
  | x :: l, i + 1, h => (List.Perm.swap _ _ _).trans ((erase_perm l i (by simpa using h)).cons x)
/-! ### a list turned -/
def trnStep (q : (List Nat × List Nat) × PoolS) : (List Nat × List Nat) × PoolS :=
  ((q.1.1.eraseIdx (drawN q.2 q.1.1.length).1, q.1.2 ++ [q.1.1.getD (drawN q.2 q.1.1.length).1 0]), (drawN q.2 q.1.1.length).2)
def trnIter (left : List Nat) (st : PoolS) : Nat → (List Nat × List Nat) × PoolS
  | 0 => ((left, []), st)
  | n + 1 => trnStep (trnIter left st n)
def trnF (left : List Nat) (st : PoolS) : List Nat × PoolS := ((trnIter left st left.length).1.2, (trnIter left st left.length).2)
theorem trn_inv {left : List Nat} {st : PoolS} : ∀ n, n ≤ left.length → (trnIter left st n).1.1.length = left.length - n ∧ (trnIter left st n).1.2.length = n ∧ ((trnIter left st n).1.2 ++ (trnIter left st n).1.1).Perm left
  | 0, _ => ⟨rfl, rfl, .refl _⟩
  | n + 1, h => by
    obtain ⟨h1, h2, h3⟩ := trn_inv (left := left) (st := st) n (by omega)
    show (trnStep (trnIter left st n)).1.1.length = _ ∧ (trnStep (trnIter left st n)).1.2.length = _ ∧ ((trnStep (trnIter left st n)).1.2 ++ (trnStep (trnIter left st n)).1.1).Perm left
    generalize trnIter left st n = q at h1 h2 h3
    have hd : (drawN q.2 q.1.1.length).1 < q.1.1.length := draw_lt (by omega)
    have ed := getDN hd
    unfold trnStep
    simp only
    generalize (drawN q.2 q.1.1.length).1 = k at hd ed
    refine ⟨by rw [List.length_eraseIdx, if_pos hd]; omega, by simp [h2], ?_⟩
    refine List.Perm.trans ?_ h3
    rw [List.append_assoc]
    refine List.Perm.append_left _ ?_
    rw [← (List.getElem?_eq_some_iff.mp ed).2]
    exact erase_perm _ _ hd
theorem trnF_perm {left : List Nat} {st : PoolS} : (trnF left st).1.Perm left := by
  obtain ⟨h1, h2, h3⟩ := trn_inv (left := left) (st := st) left.length (Nat.le_refl _)
  have h4 : (trnIter left st left.length).1.1 = [] := List.eq_nil_of_length_eq_zero (by omega)
  rw [h4, List.append_nil] at h3
  exact h3
theorem seqIx {k n : Nat} (h : k < n) : seqIndex? (k : Int) n = some k := (ixN_seq (ixN_nat h)).1
/-- the loop of both -/
abbrev R_turned (st : PoolS) (ds : List PyData) (d : PyData) (st' : PoolS) : Prop := ∃ n : Nat, n ≤ 1000 ∧ ds = [nI n] ∧ d = lN (trnF (List.range n) st).1 ∧ st' = (trnF (List.range n) st).2
theorem c_turned (F : FnT K mg "_law_turned" "_law_turned" 76) (g : Fr mg) (c1 : Call P w K mg base 1 "_law_draw" (spP G 2 R_draw)) : Call P w K mg base 2 "_law_turned" (spP G 2 R_turned) := by
  refine callP F sc__law_turned b__law_turned fun f cdv A outer s0 H E hr p q st ds d st' hR => ?_
  obtain ⟨n, hn, rfl, rfl, rfl⟩ := hR
  have nd := sc__law_turned.nd
  refine ws_cons (ws_par (i := 2) (j := 3) rfl rfl (by decide) nd (da_cons (de_listRg (n := n) g.list g.range (by omega) (dv 1)) (da_one (de_lst (ds := []) da_nil))) ?_)
  refine ws_cons (wfor (it_range (n := n) g.range (by omega) (dv 1)) (fun i => [some (.pool p q (trnIter (List.range n) st i).2), some (.dat (nI n)), some (.flat ((trnIter (List.range n) st i).1.1.map nI)), some (.flat ((trnIter (List.range n) st i).1.2.map nI)), none]) (.keep (.keep (.keep (.keep (.keep .nil))))) (fun i d hd => ?_) ?_)
  · obtain ⟨hi, rfl⟩ := rngGet hd
    obtain ⟨h1, h2, _⟩ := trn_inv (left := List.range n) (st := st) i (by simp; omega)
    have eS : trnIter (List.range n) st (i + 1) = trnStep (trnIter (List.range n) st i) := rfl
    rw [eS]
    generalize trnIter (List.range n) st i = u at h1 h2 eS
    rw [List.length_range] at h1
    have hd : (drawN u.2 u.1.1.length).1 < u.1.1.length := draw_lt (by omega)
    have e63 : ((drawN u.2 u.1.1.length).1 : Int) < 2 ^ 63 := by
      have : (1000 : Int) < 2 ^ 63 := by decide
      omega
    refine ⟨_, _, gtn 4 nd, ?_⟩
    refine ws_one (ws_expr (de_append (da 3) rfl (de_popAt (da 2) rfl (dcP 0 (st := u.2) c1 hr ⟨u.1.1.length, ⟨by omega, by omega⟩, rfl, rfl, rfl⟩ (da_cons (da 0) (da_one (lenF (n := u.1.1.length) g.len (da 2))))) rfl ⟨by omega, e63⟩ (seqIx (by rw [List.length_map]; exact hd)) (getDT hd)) rfl (by rw [List.length_map]; omega)) ?_)
    refine .keep (.keep (.keepE ?_ (.keepE ?_ (.drop .nil))))
    · simp only [trnStep, erase_map]
    · simp only [trnStep, List.map_append, List.map_cons, List.map_nil]
  · have e : (rng n).length = n := by simp [rng]
    rw [e]
    refine ws_one (ws_ret (de_take (i := 3) rfl) ⟨?_, ?_⟩)
    · simp [trnF]
    · simp [trnF]
abbrev R_wait_turned (st : PoolS) (ds : List PyData) (d : PyData) (st' : PoolS) : Prop := ∃ l : List Nat, l.length ≤ 1000 ∧ ds = [lN l] ∧ d = lN (trnF l st).1 ∧ st' = (trnF l st).2
theorem c_wait_turned (F : FnT K mg "_law_wait_turned" "_law_wait_turned" 83) (g : Fr mg) (c1 : Call P w K mg base 1 "_law_draw" (spP G 2 R_draw)) : Call P w K mg base 2 "_law_wait_turned" (spP G 2 R_wait_turned) := by
  refine callP F sc__law_wait_turned b__law_wait_turned fun f cdv A outer s0 H E hr p q st ds d st' hR => ?_
  obtain ⟨l, hn, rfl, rfl, rfl⟩ := hR
  have nd := sc__law_wait_turned.nd
  refine ws_cons (ws_par (i := 2) (j := 3) rfl rfl (by decide) nd (da_cons (de_list (ds := l.map nI) .lst g.list (dv 1)) (da_one (de_lst (ds := []) da_nil))) ?_)
  refine ws_cons (wfor (it_range (n := l.length) g.range (by omega) (lenF (n := l.length) g.len (da 2))) (fun i => [some (.pool p q (trnIter l st i).2), some (.dat (lN l)), some (.flat ((trnIter l st i).1.1.map nI)), some (.flat ((trnIter l st i).1.2.map nI)), none]) (.keep (.keep (.keep (.keep (.keep .nil))))) (fun i d hd => ?_) ?_)
  · obtain ⟨hi, rfl⟩ := rngGet hd
    obtain ⟨h1, h2, _⟩ := trn_inv (left := l) (st := st) i (by omega)
    have eS : trnIter l st (i + 1) = trnStep (trnIter l st i) := rfl
    rw [eS]
    generalize trnIter l st i = u at h1 h2 eS
    have hd : (drawN u.2 u.1.1.length).1 < u.1.1.length := draw_lt (by omega)
    have e63 : ((drawN u.2 u.1.1.length).1 : Int) < 2 ^ 63 := by
      have : (1000 : Int) < 2 ^ 63 := by decide
      omega
    refine ⟨_, _, gtn 4 nd, ?_⟩
    refine ws_one (ws_expr (de_append (da 3) rfl (de_popAt (da 2) rfl (dcP 0 (st := u.2) c1 hr ⟨u.1.1.length, ⟨by omega, by omega⟩, rfl, rfl, rfl⟩ (da_cons (da 0) (da_one (lenF (n := u.1.1.length) g.len (da 2))))) rfl ⟨by omega, e63⟩ (seqIx (by rw [List.length_map]; exact hd)) (getDT hd)) rfl (by rw [List.length_map]; omega)) ?_)
    refine .keep (.keep (.keepE ?_ (.keepE ?_ (.drop .nil))))
    · simp only [trnStep, erase_map]
    · simp only [trnStep, List.map_append, List.map_cons, List.map_nil]
  · have e : (rng l.length).length = l.length := by simp [rng]
    rw [e]
    exact ws_one (ws_ret (de_take (i := 3) rfl) ⟨rfl, rfl⟩)
/-! ### the yard -/
def pairsF (k l : Nat) : List (Nat × Nat) := (List.range (k * l)).map fun a => (a / l, a % l)
def manyF (st : PoolS) (most n : Nat) : Nat × PoolS := if (drawN st 3).1 = 0 then (min most n, (drawN st 3).2) else drawN (drawN st 3).2 (min most n + 1)
def yardK (k l : Nat) (m : Nat × PoolS) : Yd × PoolS := (⟨k, l, (sortN ((trnF (List.range (k * l)) m.2).1.take m.1)).map fun a => (a / l, a % l)⟩, (trnF (List.range (k * l)) m.2).2)
def yardF (st : PoolS) (lanes most : Nat) : Yd × PoolS := yardK (1 + (drawN st lanes).1) (1 + (drawN (drawN st lanes).2 lanes).1) (manyF (drawN (drawN st lanes).2 lanes).2 most ((1 + (drawN st lanes).1) * (1 + (drawN (drawN st lanes).2 lanes).1)))
abbrev R_web_yard (st : PoolS) (ds : List PyData) (d : PyData) (st' : PoolS) : Prop := ∃ lanes most : Nat, (1 ≤ lanes ∧ lanes ≤ 12 ∧ most ≤ 60) ∧ ds = [nI lanes, nI most] ∧ d = encY (yardF st lanes most).1 ∧ st' = (yardF st lanes most).2
theorem pairs_at {k l a : Nat} (h : a < k * l) : ((pairsF k l).map encT)[a]? = some (encT (a / l, a % l)) := by
  refine getMap (getMap ?_)
  rw [List.getElem?_range h]
theorem c_web_yard (F : FnT K mg "_law_web_yard" "_law_web_yard" 77) (g : Fr mg) (c1 : Call P w K mg base 1 "_law_draw" (spP G 2 R_draw)) (c2 : Call P w K mg base 2 "_law_turned" (spP G 2 R_turned)) : Call P w K mg base 3 "_law_web_yard" (spP G 3 R_web_yard) := by
  refine callP F sc__law_web_yard b__law_web_yard fun f cdv A outer s0 H E hr p q st ds d st' hR => ?_
  obtain ⟨lanes, most, ⟨h1, h2, h3⟩, rfl, rfl, rfl⟩ := hR
  have nd := sc__law_web_yard.nd
  have a1 := draw_lt (st := st) h1
  unfold yardF
  generalize ha : drawN st lanes = a at a1
  have b1 := draw_lt (st := a.2) h1
  generalize hb : drawN a.2 lanes = b at b1
  have kl : (1 + a.1) * (1 + b.1) ≤ 12 * 12 := Nat.mul_le_mul (by omega) (by omega)
  refine ws_cons (ws_asg (de_tup (ds := [nI (1 + a.1), nI (1 + b.1)]) (da_cons (de_addN (dn 1) (dcP 0 (st := st) c1 hr ⟨lanes, ⟨h1, by omega⟩, rfl, by rw [ha], rfl⟩ (da_cons (da 0) (da_one (dv 1))))) (da_one (de_addN (dn 1) (dcP 0 (st := a.2) (st' := b.2) c1 hr ⟨lanes, ⟨h1, by omega⟩, rfl, by rw [hb], by rw [hb]⟩ (da_cons (da 0 (h := by rw [ha]; rfl)) (da_one (dv 1))) (hi := by rw [ha]; rfl)))))) (gtu2 3 4 nd) ?_)
  refine ws_cons (wset 5 nd ((de_map (xs := List.range ((1 + a.1) * (1 + b.1))) (f := nI) (g := fun z => encT (z / (1 + b.1), z % (1 + b.1))) (own := [("_law_at", 6)]) nd (blkOk_by (N := N__law_web_yard) (sc := defScope (top 77)) (by decide +kernel)) (it_range g.range (by omega) (de_mulN (by omega) (dv 3) (dv 4))) (.refl _) (bare_cons bare_nil)
    (turnN nd (fun _ _ _ _ _ => ⟨.inl rfl, .inr rfl⟩) rfl (bare_cons bare_nil) fun z hz s H C cl fp => de_tup (ds := [nI (z / (1 + b.1)), nI (z % (1 + b.1))]) (da_cons (de_divN (by omega) (by omega) (dv 6) (dv 4)) (da_one (de_modN (by omega) (de_int1 g.int (dv 6)) (dv 4))))) (by simp; omega)).toF (es := (pairsF (1 + a.1) (1 + b.1)).map encT) (by unfold pairsF; rw [List.map_map]; rfl)).frz ?_)
  have pl : ((pairsF (1 + a.1) (1 + b.1)).map encT).length = (1 + a.1) * (1 + b.1) := by simp [pairsF]
  generalize hm : manyF b.2 most ((1 + a.1) * (1 + b.1)) = m
  have go : WSs G (CD P w K mg base N__law_web_yard "_law_web_yard" (defScope (top 77)) f cdv A outer s0 H E) ((defBody (top 77)).drop 3) [some (.pool p q m.2), some (.dat (nI lanes)), some (.dat (nI most)), some (.dat (nI (1 + a.1))), some (.dat (nI (1 + b.1))), some (.dat (.list ((pairsF (1 + a.1) (1 + b.1)).map encT))), none, some (.dat (nI m.1)), none]
      (RetP p q (encY (yardK (1 + a.1) (1 + b.1) m).1) (yardK (1 + a.1) (1 + b.1) m).2) := by
    unfold yardK
    have hp := trnF_perm (left := List.range ((1 + a.1) * (1 + b.1))) (st := m.2)
    have tb : ∀ z ∈ (trnF (List.range ((1 + a.1) * (1 + b.1))) m.2).1, z < (1 + a.1) * (1 + b.1) := fun z hz => List.mem_range.mp (hp.mem_iff.mp hz)
    have tl : (trnF (List.range ((1 + a.1) * (1 + b.1))) m.2).1.length = (1 + a.1) * (1 + b.1) := by rw [hp.length_eq, List.length_range]
    generalize ht : trnF (List.range ((1 + a.1) * (1 + b.1))) m.2 = t at tb tl
    refine ws_cons (wset 8 nd ((de_slL .lst (.inl ⟨_, rfl⟩) (dcP 0 (st := m.2) c2 hr ⟨(1 + a.1) * (1 + b.1), by omega, rfl, by rw [ht], by rw [ht]⟩ (da_cons (da 0) (da_one (lenL g.len (dv 5) (by rw [pl])))) ) do_none (do_some (dv 7))).toF (es := (t.1.take m.1).map nI) (by rw [cutD_to, List.map_take])) ?_)
    have so := sortN_ok (t.1.take m.1)
    have sl : (sortN (t.1.take m.1)).length ≤ 144 := by rw [so.1.length_eq]; simp; omega
    refine ws_one (ws_ret (de_tup (ds := [nI (1 + a.1), nI (1 + b.1), .tuple ((sortN (t.1.take m.1)).map fun z => encT (z / (1 + b.1), z % (1 + b.1)))]) (da_cons (dv 3) (da_cons (dv 4) (da_one (de_tuple .flat g.tuple (de_map (xs := sortN (t.1.take m.1)) (f := nI) (g := fun z => encT (z / (1 + b.1), z % (1 + b.1))) (own := [("_law_at", 6)]) nd (blkOk_by (N := N__law_web_yard) (sc := defScope (top 77)) (by decide +kernel)) (it_lst (de_sortN (.als (i := 8) rfl) isL_a so g.sorted (da 8)).frz) (.refl _) (bare_cons bare_nil)
      (turnN nd (fun _ _ _ _ _ => ⟨.inl rfl, .inr rfl⟩) rfl (bare_cons bare_nil) fun z hz s H C cl fp => de_ixN .lst (pairs_at (tb z (List.mem_of_mem_take (so.1.mem_iff.mp hz)))) (dv 5) (dv 6)) (by omega))))))) ⟨?_, rfl⟩)
    simp only [encY, List.map_map]
    rfl
  by_cases hc : (drawN b.2 3).1 = 0
  · unfold manyF at hm
    rw [if_pos hc] at hm
    subst hm
    refine ws_cons (wset 7 nd (difT (dt_c (cn_eq (dcP 0 (st := b.2) c1 hr ⟨3, ⟨by omega, by omega⟩, rfl, rfl, rfl⟩ (da_cons (da 0) (da_one (dn 3)))) (dn 0) (decide_eq_true hc))) ((de_min2 g.min (dv 2) (lenL (n := (1 + a.1) * (1 + b.1)) g.len (dv 5) pl)).to (d' := nI (min most ((1 + a.1) * (1 + b.1)))) (by rw [pyMin]))) ?_)
    exact go
  · unfold manyF at hm
    rw [if_neg hc] at hm
    refine ws_cons (wset 7 nd (difF (dt_c (cn_eq (dcP 0 (st := b.2) c1 hr ⟨3, ⟨by omega, by omega⟩, rfl, rfl, rfl⟩ (da_cons (da 0) (da_one (dn 3)))) (dn 0) (decide_eq_false hc))) (dcP 0 (st := (drawN b.2 3).2) c1 hr ⟨min most ((1 + a.1) * (1 + b.1)) + 1, ⟨by omega, by omega⟩, rfl, by rw [hm], by rw [hm]⟩ (da_cons (da 0) (da_one (de_addN ((de_min2 g.min (dv 2) (lenL (n := (1 + a.1) * (1 + b.1)) g.len (dv 5) pl)).to (d' := nI (min most ((1 + a.1) * (1 + b.1)))) (by rw [pyMin])) (dn 1)))))) ?_)
    exact go
end
end TW
end
section
set_option Elab.async false
set_option linter.all false
set_option maxRecDepth 100000
set_option maxHeartbeats 2000000
/-! The walk, 14: prices, rows. -/
namespace TW
open PySem PySem.Spec PyProof.Rows L2
section
variable {G : Glb} {P : Program} {w : World} {K : PySem.W.Frag} {mg : Str → Option Value} {base : Heap}
/-- k draws below n -/
def drsF (n : Nat) (st : PoolS) : Nat → List Nat × PoolS
  | 0 => ([], st)
  | i + 1 => ((drsF n st i).1 ++ [(drawN (drsF n st i).2 n).1], (drawN (drsF n st i).2 n).2)
theorem drs_ok {n : Nat} {st : PoolS} (h : 1 ≤ n) : ∀ i, (drsF n st i).1.length = i ∧ ∀ x ∈ (drsF n st i).1, x < n
  | 0 => ⟨rfl, by simp [drsF]⟩
  | i + 1 => by
    obtain ⟨h1, h2⟩ := drs_ok (st := st) h i
    refine ⟨by simp [drsF, h1], fun x hx => ?_⟩
    rcases List.mem_append.mp (show x ∈ (drsF n st i).1 ++ [(drawN (drsF n st i).2 n).1] from hx) with hx | hx
    · exact h2 x hx
    · simp only [List.mem_cons, List.not_mem_nil, or_false] at hx
      rw [hx]
      exact draw_lt h
theorem lc_draw {X : Cx} {sc : Scope} {tg elt : Expr} {ρ0 : Ev} {ds : List PyData} {vs : List Nat} {n : Nat} {st : PoolS} (Pf : PoolS → Ev) (h0 : Weak ρ0 (Pf st)) (hb : ∀ st1, Bare (Pf st1) vs)
    (turn : ∀ st1, ∀ d ∈ ds, ∃ ρ1 js ρ3, BG G X sc tg (Pf st1) (.dat d) ρ1 js ∧ (∀ j ∈ js, j ∈ vs) ∧ BE G X sc elt ρ1 (.dat (nI (drawN st1 n).1)) ρ3 ∧ Weak ρ3 (Pf (drawN st1 n).2)) :
    LC0 G X sc tg elt vs ds ρ0 (fun i => Pf (drsF n st i).2) (fun i => .flat ((drsF n st i).1.map nI)) := by
  refine ⟨h0, .inl rfl, fun i j av hj => hb _ j hj av, fun i d ed => ?_⟩
  obtain ⟨ρ1, js, ρ3, q1, q2, q3, q4⟩ := turn (drsF n st i).2 d (List.mem_of_getElem? ed)
  refine ⟨ρ1, js, _, ρ3, q1, q2, q3, ?_, q4⟩
  have e2 : (drsF n st (i + 1)).1.map nI = (drsF n st i).1.map nI ++ [nI (drawN (drsF n st i).2 n).1] := by
    show ((drsF n st i).1 ++ [(drawN (drsF n st i).2 n).1]).map nI = _
    rw [List.map_append]
    rfl
  simp only [e2]
  exact .dat
theorem de_draws {X : Cx} {sc : Scope} {tg iter elt : Expr} {ρ ρ0 : Ev} {ds : List PyData} {own : List (Str × Nat)} {n : Nat} {st : PoolS} {pos : Pos} (Pf : PoolS → Ev) (hN : X.N.Nodup) (ok : BlkOk X.N X.env.scope sc own) (hi : IT G X tg iter ρ ds ρ0) (h0 : Weak ρ0 (Pf st)) (hb : ∀ st1, Bare (Pf st1) (own.map (·.2)))
    (turn : ∀ st1, ∀ d ∈ ds, ∃ ρ1 js ρ3, BG G X sc tg (Pf st1) (.dat d) ρ1 js ∧ (∀ j ∈ js, j ∈ own.map (·.2)) ∧ BE G X sc elt ρ1 (.dat (nI (drawN st1 n).1)) ρ3 ∧ Weak ρ3 (Pf (drawN st1 n).2)) (hz : ds.length ≤ 100000) (hc : X.calm = true := by rfl) (hs : ∀ x, foldedSetIterable iter X.env x = pure x := by intro _; rfl) :
    DE G X (.ListComp elt [⟨tg, iter, [], 0⟩] sc pos) ρ (.flat ((drsF n st ds.length).1.map nI)) (Pf (drsF n st ds.length).2) := de_lc0 hN ok hi (lc_draw Pf h0 hb turn) hz hc hs
def pricesF (st : PoolS) (n : Nat) : List Nat × PoolS := drsF (if (drawN st 2).1 = 0 then 3 else 1000) (drawN st 2).2 n
abbrev R_prices (st : PoolS) (ds : List PyData) (d : PyData) (st' : PoolS) : Prop := ∃ y : Yd, YdOk y ∧ ds = [encY y] ∧ d = tN (pricesF st y.ts.length).1 ∧ st' = (pricesF st y.ts.length).2
theorem c_prices (F : FnT K mg "_law_prices" "_law_prices" 96) (g : Fr mg) (c1 : Call P w K mg base 1 "_law_draw" (spP G 2 R_draw)) : Call P w K mg base 2 "_law_prices" (spP G 2 R_prices) := by
  refine callP F sc__law_prices b__law_prices fun f cdv A outer s0 H E hr p q st ds d st' hR => ?_
  obtain ⟨y, hy, rfl, rfl, rfl⟩ := hR
  have nd := sc__law_prices.nd
  have tl := hy.len
  have h2 := draw_lt (st := st) (n := 2) (by omega)
  unfold pricesF
  generalize hc : drawN st 2 = c at h2
  have ei : [nI 3, nI 1000][c.1]? = some (nI (if c.1 = 0 then 3 else 1000)) := by
    match hh : c.1, h2 with
    | 0, _ => rfl
    | 1, _ => rfl
  generalize hn : (if c.1 = 0 then 3 else 1000) = n at ei
  have n1 : 1 ≤ n := by split at hn <;> omega
  have n2 : n ≤ 1000 := by split at hn <;> omega
  refine ws_cons (wset 2 nd (de_ixN .flat ei (de_lst (ds := [nI 3, nI 1000]) (da_cons (dn 3) (da_one (dn 1000)))) (dcP 0 (st := st) (st' := c.2) c1 hr ⟨2, ⟨by omega, by omega⟩, rfl, by rw [hc], by rw [hc]⟩ (da_cons (da 0) (da_one (dn 2))))) ?_)
  have hl : (y.ts.map encT).length = y.ts.length := by simp
  refine ws_one (ws_ret (de_tuple .flat g.tuple (de_draws (ds := y.ts.map encT) (n := n) (st := c.2) (own := [("_law_track", 3)]) (fun st1 => [some (.pool p q st1), some (.dat (encY y)), some (.dat (nI n)), none]) nd (blkOk_by (N := N__law_prices) (sc := defScope (top 96)) (by decide +kernel)) (it_tup (dix (dv 1))) (.refl _) (fun st1 => bare_cons bare_nil)
    (fun st1 d hd => ⟨_, [3], _, bg_name nd rfl (fun _ _ _ _ _ => ⟨.inl rfl, .inr rfl⟩) rfl, fun _ h => h, fun s H C cl fp => dcP 0 (st := st1) c1 hr ⟨n, ⟨n1, by omega⟩, rfl, rfl, rfl⟩ (da_cons (da 0) (da_one (dv 2))), by exact .keep (.keep (.keep (.drop .nil)))⟩) (by omega))) ⟨?_, ?_⟩)
  · rw [hl]
  · rw [hl]; rfl
/-! ### rows -/
def waitL (bw : List Nat) (lots many : Nat) : List (List Nat) := (List.range lots).map fun lot => (List.range many).filter fun v => decide (bw.getD v 0 = lot)
def popStep (q : List (List Nat) × List Nat) (lot : Nat) : List (List Nat) × List Nat := (q.1.set lot ((q.1.getD lot []).drop 1), q.2 ++ [(q.1.getD lot []).headD 0])
/-- the wagons' lots -/
def bwF (st : PoolS) (bp : List Nat) : List Nat × PoolS :=
  (if (drawN (trnF bp st).2 3).1 = 0 then (sortN bp).reverse else (trnF bp st).1, (drawN (trnF bp st).2 3).2)
def partF (bp bw : List Nat) (lots : Nat) : List Nat := (bp.foldl popStep (waitL bw lots bp.length, [])).2
def partedF (st : PoolS) (lots many : Nat) : (List Nat × List Nat) × PoolS :=
  ((partF (drsF lots st many).1 (bwF (drsF lots st many).2 (drsF lots st many).1).1 lots, (drsF lots st many).1), (bwF (drsF lots st many).2 (drsF lots st many).1).2)
theorem bwF_perm {st : PoolS} {bp : List Nat} : (bwF st bp).1.Perm bp := by
  unfold bwF
  simp only
  split
  · exact (List.reverse_perm _).trans (sortN_ok bp).1
  · exact trnF_perm
theorem count_filter (bw : List Nat) (lot : Nat) : ((List.range bw.length).filter fun v => decide (bw.getD v 0 = lot)).length = bw.count lot := by
  rw [← List.countP_eq_length_filter, List.count]
  induction bw with
  | nil => rfl
  | cons x r ih =>
    rw [List.length_cons, List.range_succ_eq_map, List.countP_cons, List.countP_map, List.countP_cons, ← ih]
    congr 1
theorem wait_get {bw : List Nat} {lots many lot : Nat} (h : lot < lots) : (waitL bw lots many)[lot]? = some ((List.range many).filter fun v => decide (bw.getD v 0 = lot)) := by
  unfold waitL
  rw [List.getElem?_map, List.getElem?_range h]
  rfl
/-- what still waits -/
theorem pop_inv {bp bw : List Nat} {lots : Nat} (hp : bw.Perm bp) (hb : ∀ x ∈ bp, x < lots) : ∀ i, i ≤ bp.length → (((bp.take i).foldl popStep (waitL bw lots bp.length, [])).1.length = lots ∧ ((bp.take i).foldl popStep (waitL bw lots bp.length, [])).2.length = i ∧
    ∀ lot, lot < lots → (((bp.take i).foldl popStep (waitL bw lots bp.length, [])).1.getD lot []).length + (bp.take i).count lot = bp.count lot)
  | 0, _ => by
    refine ⟨by simp [waitL], rfl, fun lot h => ?_⟩
    show ((waitL bw lots bp.length).getD lot []).length + 0 = _
    rw [List.getD_eq_getElem?_getD, wait_get h, ← hp.length_eq]
    show (((List.range bw.length).filter fun v => decide (bw.getD v 0 = lot))).length + 0 = _
    rw [count_filter, hp.count_eq]
    rfl
  | i + 1, hi => by
    obtain ⟨h1, h2, h3⟩ := pop_inv hp hb i (by omega)
    have ex : bp[i]? = some bp[i] := List.getElem?_eq_getElem (by omega)
    rw [foldTake ex]
    have eT := take_snoc ex
    generalize (bp.take i).foldl popStep (waitL bw lots bp.length, []) = q at h1 h2 h3
    have hx := hb _ (List.getElem_mem (l := bp) (n := i) (by omega))
    have hc : (bp.take (i + 1)).count bp[i] ≤ bp.count bp[i] := (List.take_sublist _ _).count_le _
    refine ⟨by simp [popStep, h1], by simp [popStep, h2], fun lot hl => ?_⟩
    have := h3 lot hl
    rw [eT, List.count_append] at *
    unfold popStep
    simp only
    rw [List.getD_eq_getElem?_getD, List.getElem?_set]
    by_cases e : bp[i] = lot
    · rw [if_pos e, if_pos (by rw [h1, e]; exact hl)]
      rw [e] at hc ⊢
      simp only [Option.getD_some, List.length_drop, List.count_cons, List.count_nil] at hc ⊢
      simp only [beq_self_eq_true, if_true] at hc ⊢
      omega
    · rw [if_neg e, ← List.getD_eq_getElem?_getD]
      simp only [List.count_cons, List.count_nil]
      rw [if_neg (by simpa using e)]
      omega
abbrev R_wait_parted (st : PoolS) (ds : List PyData) (d : PyData) (st' : PoolS) : Prop := ∃ lots many : Nat, (1 ≤ lots ∧ lots ≤ 100 ∧ many ≤ 100) ∧ ds = [nI lots, nI many] ∧ d = .tuple [tN (partedF st lots many).1.1, tN (partedF st lots many).1.2] ∧ st' = (partedF st lots many).2
theorem revSort (l : List Nat) : ((sortN l).reverse).Perm l ∧ ((sortN l).reverse).Pairwise (· ≥ ·) := by
  obtain ⟨h1, h2⟩ := sortN_ok l
  exact ⟨(List.reverse_perm _).trans h1, List.pairwise_reverse.mpr h2⟩
theorem lc_waits {X : Cx} {sc : Scope} {tg elt : Expr} {ρ0 P : Ev} {vs : List Nat} {bw : List Nat} {lots many : Nat} (h0 : Weak ρ0 P) (hb : Bare P vs) (turn : ∀ lot, lot < lots → ∃ ρ1 js ρ3, BG G X sc tg P (.dat (nI lot)) ρ1 js ∧ (∀ j ∈ js, j ∈ vs) ∧ BE G X sc elt ρ1 (.flat (((List.range many).filter fun v => decide (bw.getD v 0 = lot)).map nI)) ρ3 ∧ Weak ρ3 P) :
    LC0 G X sc tg elt vs (rng lots) ρ0 (fun _ => P) (fun i => .nest (((waitL bw lots many).take i).map fun l => l.map nI)) := by
  refine ⟨h0, .inr (by simp), fun _ j av hj => hb j hj av, fun i d ed => ?_⟩
  obtain ⟨hi, rfl⟩ := rngGet ed
  obtain ⟨ρ1, js, ρ3, q1, q2, q3, q4⟩ := turn i hi
  refine ⟨ρ1, js, _, ρ3, q1, q2, q3, ?_, q4⟩
  have e2 : (((waitL bw lots many).take (i + 1)).map fun l => l.map nI) = (((waitL bw lots many).take i).map fun l => l.map nI) ++ [((List.range many).filter fun v => decide (bw.getD v 0 = i)).map nI] := by
    rw [take_snoc (wait_get hi), List.map_append]
    rfl
  simp only [e2]
  exact .flat
theorem lc_pops {X : Cx} {sc : Scope} {tg elt : Expr} {ρ0 : Ev} {vs : List Nat} {bp bw : List Nat} {lots : Nat} (Pf : List (List Nat) → Ev) (h0 : Weak ρ0 (Pf (waitL bw lots bp.length))) (hb : ∀ z, Bare (Pf z) vs)
    (turn : ∀ i lot, bp[i]? = some lot → ∃ ρ1 js ρ3, BG G X sc tg (Pf ((bp.take i).foldl popStep (waitL bw lots bp.length, [])).1) (.dat (nI lot)) ρ1 js ∧ (∀ j ∈ js, j ∈ vs) ∧ BE G X sc elt ρ1 (.dat (nI ((((bp.take i).foldl popStep (waitL bw lots bp.length, [])).1.getD lot []).headD 0))) ρ3 ∧ Weak ρ3 (Pf (popStep ((bp.take i).foldl popStep (waitL bw lots bp.length, [])) lot).1)) :
    LC0 G X sc tg elt vs (bp.map nI) ρ0 (fun i => Pf ((bp.take i).foldl popStep (waitL bw lots bp.length, [])).1) (fun i => .flat (((bp.take i).foldl popStep (waitL bw lots bp.length, [])).2.map nI)) := by
  refine ⟨h0, .inl rfl, fun i j av hj => hb _ j hj av, fun i d ed => ?_⟩
  obtain ⟨lot, el, rfl⟩ := ofMap ed
  obtain ⟨ρ1, js, ρ3, q1, q2, q3, q4⟩ := turn i lot el
  have eS := foldTake (step := popStep) (b := (waitL bw lots bp.length, ([] : List Nat))) el
  refine ⟨ρ1, js, _, ρ3, q1, q2, q3, ?_, by simp only [eS]; exact q4⟩
  have e2 : (((bp.take (i + 1)).foldl popStep (waitL bw lots bp.length, [])).2.map nI) = (((bp.take i).foldl popStep (waitL bw lots bp.length, [])).2.map nI) ++ [nI ((((bp.take i).foldl popStep (waitL bw lots bp.length, [])).1.getD lot []).headD 0)] := by
    rw [eS]
    simp [popStep]
  simp only [e2]
  exact .dat
theorem c_wait_parted (F : FnT K mg "_law_wait_parted" "_law_wait_parted" 84) (g : Fr mg) (c1 : Call P w K mg base 1 "_law_draw" (spP G 2 R_draw)) (c2 : Call P w K mg base 2 "_law_wait_turned" (spP G 2 R_wait_turned)) : Call P w K mg base 3 "_law_wait_parted" (spP G 3 R_wait_parted) := by
  refine callP F sc__law_wait_parted b__law_wait_parted fun f cdv A outer s0 H E hr p q st ds d st' hR => ?_
  obtain ⟨lots, many, ⟨h1, h2, h3⟩, rfl, rfl, rfl⟩ := hR
  have nd := sc__law_wait_parted.nd
  refine ws_cons (ws_lc0 (i := 3) (own := [("_law_turn", 4)]) (ds := rng many) nd (blkOk_by (N := N__law_wait_parted) (sc := defScope (top 84)) (by decide +kernel)) (it_range (n := many) g.range (by omega) (dv 2)) (lc_draw (n := lots) (st := st) (fun st1 => [some (.pool p q st1), some (.dat (nI lots)), some (.dat (nI many)), none, none, none, none, none, none]) (.refl _) (fun st1 => bare_cons bare_nil)
    (fun st1 d hd => ⟨_, [4], _, bg_name nd rfl (fun _ _ _ _ _ => ⟨.inl rfl, .inr rfl⟩) rfl, fun _ h => h, fun s H C cl fp => dcP 0 (st := st1) c1 hr ⟨lots, ⟨h1, by omega⟩, rfl, rfl, rfl⟩ (da_cons (da 0) (da_one (dv 1))), by exact .keep (.keep (.keep (.keep (.drop (.keep (.keep (.keep (.keep .nil))))))))⟩)) (by simp [rng]; omega) ?_)
  have el : (rng many).length = many := by simp [rng]
  rw [el]
  unfold partedF
  obtain ⟨b1, b2⟩ := drs_ok (st := st) h1 many
  generalize drsF lots st many = bp at b1 b2
  obtain ⟨bp, st1⟩ := bp
  simp only at b1 b2 ⊢
  refine wt_frz (i := 3) rfl ?_
  refine ws_cons (wset 5 nd (dcP 0 (st := st1) c2 hr ⟨bp, by omega, rfl, rfl, rfl⟩ (da_cons (da 0) (da_one (dv 3)))) ?_)
  have hbw := bwF_perm (st := st1) (bp := bp)
  have go : WSs G (CD P w K mg base N__law_wait_parted "_law_wait_parted" (defScope (top 84)) f cdv A outer s0 H E) ((defBody (top 84)).drop 3) [some (.pool p q (bwF st1 bp).2), some (.dat (nI lots)), some (.dat (nI many)), some (.dat (lN bp)), none, some (.dat (lN (bwF st1 bp).1)), none, none, none]
      (RetP p q (.tuple [tN (partF bp (bwF st1 bp).1 lots), tN bp]) (bwF st1 bp).2) := by
    generalize bwF st1 bp = bw at hbw
    obtain ⟨bw, st2⟩ := bw
    simp only at hbw ⊢
    have wl := hbw.length_eq
    refine ws_cons (wset 6 nd (de_lc0 (A := fun i => .nest (((waitL bw lots bp.length).take i).map fun l => l.map nI)) (P := fun _ => [some (.pool p q st2), some (.dat (nI lots)), some (.dat (nI many)), some (.dat (lN bp)), none, some (.dat (lN bw)), none, none, none]) (own := [("_law_lot", 8)]) (ds := rng lots) nd (blkOk_by (N := N__law_wait_parted) (sc := defScope (top 84)) (by decide +kernel)) (it_range (n := lots) g.range (by omega) (dv 1)) (lc_waits (.refl _) (bare_cons bare_nil) fun lot hl => ⟨_, [8], _, bg_name nd rfl (fun _ _ _ _ _ => ⟨.inr rfl, .inl rfl⟩) rfl, fun _ h => h, fun s H C cl fp =>
      de_filt (xs := List.range bp.length) (f := nI) (g := nI) (p := fun v => decide (bw.getD v 0 = lot)) (own := [("_law_wagon", 7)]) nd (blkOk_by rfl) (it_range (n := bp.length) g.range (by omega) (by rw [b1]; exact dv 2)) (.refl _) (bare_cons bare_nil) (turnF nd (fun _ _ _ _ _ => ⟨.inl rfl, .inr rfl⟩) rfl (bare_cons bare_nil) (fun z hz s H0 C cl fp => dt_c (cn_eq (de_ixN .lst (getDT (by rw [wl]; exact List.mem_range.mp hz)) (dv 5) (dv 7)) (dv 8))) (fun z hz _ s H0 C cl fp => dv 7)) (by simp; omega), by exact .keep (.keep (.keep (.keep (.keep (.keep (.keep (.keep (.drop .nil))))))))⟩) (by simp [rng]; omega)) ?_)
    have tk : (waitL bw lots bp.length).take (rng lots).length = waitL bw lots bp.length := by
      rw [List.take_of_length_le (by simp [waitL, rng])]
    simp only [tk]
    refine ws_one (ws_ret (de_tup (ds := [tN (partF bp bw lots), tN bp]) (da_cons (de_tuple .flat g.tuple ((de_lc0 (A := fun i => .flat (((bp.take i).foldl popStep (waitL bw lots bp.length, [])).2.map nI)) (P := fun i => [some (.pool p q st2), some (.dat (nI lots)), some (.dat (nI many)), some (.dat (lN bp)), none, some (.dat (lN bw)), some (.nest (((bp.take i).foldl popStep (waitL bw lots bp.length, [])).1.map fun l => l.map nI)), none, none]) (own := [("_law_lot", 8)]) (ds := bp.map nI) nd (blkOk_by (N := N__law_wait_parted) (sc := defScope (top 84)) (by decide +kernel)) (it_lst (dv 3))
      (lc_pops (fun z => [some (.pool p q st2), some (.dat (nI lots)), some (.dat (nI many)), some (.dat (lN bp)), none, some (.dat (lN bw)), some (.nest (z.map fun l => l.map nI)), none, none]) (.refl _) (fun _ => bare_cons bare_nil) fun i lot el => ?_) (by simp; omega)).toF (es := (partF bp bw lots).map nI) (by rw [List.length_map, List.take_length]; rfl))) (da_one (de_tuple .lst g.tuple (dv 3))))) ⟨rfl, rfl⟩)
    obtain ⟨i1, i2, i3⟩ := pop_inv hbw b2 i (by have := (List.getElem?_eq_some_iff.mp el).1; omega)
    have eT := take_snoc el
    have hb := b2 _ (List.mem_of_getElem? el)
    have hc : (bp.take (i + 1)).count lot ≤ bp.count lot := (List.take_sublist _ _).count_le _
    rw [eT, List.count_append] at hc
    generalize (bp.take i).foldl popStep (waitL bw lots bp.length, []) = u at i1 i2 i3
    have h5 := i3 lot hb
    have h6 : 0 < (u.1.getD lot []).length := by simp at hc; omega
    obtain ⟨v, r, hv⟩ := List.exists_cons_of_ne_nil (List.length_pos_iff.mp h6)
    have fz : (u.1.map fun l => l.map nI)[lot]? = some (nI v :: r.map nI) := by
      rw [getMap (getDL (by omega)), hv]
      rfl
    refine ⟨_, [8], _, bg_name nd rfl (fun _ _ _ _ _ => ⟨.inl rfl, .inr rfl⟩) rfl, fun _ h => h, fun s H C cl fp => (de_npop 6 8 (hm := fz)).to (by rw [hv]; rfl), ?_⟩
    refine .keep (.keep (.keep (.keep (.keep (.keep (.keepE ?_ (.keep (.drop .nil))))))))
    rw [show (popStep u lot).1 = u.1.set lot r by simp only [popStep, hv]; rfl, List.map_set]
  by_cases hc : (drawN (trnF bp st1).2 3).1 = 0
  · have e1 : (bwF st1 bp).1 = (sortN bp).reverse := if_pos hc
    rw [e1] at go ⊢
    refine ws_cons (ws_if (b := true) (dt_c (cn_eq (dcP 0 (st := (trnF bp st1).2) c1 hr ⟨3, ⟨by omega, by omega⟩, rfl, rfl, rfl⟩ (da_cons (da 0) (da_one (dn 3)))) (dn 0) (decide_eq_true hc))) (fun _ => ws_one (wset 5 nd (de_sortRev .lst isL_d (revSort bp) g.sorted (dv 3)).frz ?_)) nofun)
    exact go
  · have e1 : (bwF st1 bp).1 = (trnF bp st1).1 := if_neg hc
    rw [e1] at go ⊢
    refine ws_cons (ws_skip (dt_c (cn_eq (dcP 0 (st := (trnF bp st1).2) c1 hr ⟨3, ⟨by omega, by omega⟩, rfl, rfl, rfl⟩ (da_cons (da 0) (da_one (dn 3)))) (dn 0) (decide_eq_false hc))) ?_)
    exact go
end
end TW
end
section
set_option Elab.async false
set_option linter.all false
set_option maxRecDepth 100000
set_option maxHeartbeats 2000000
/-! The walk, 15: the law's rows, its cheapest. -/
namespace TW
open PySem PySem.Spec PyProof.Rows L2
section
variable {G : Glb} {P : Program} {w : World} {K : PySem.W.Frag} {mg : Str → Option Value} {base : Heap}
/-- one row more -/
def someF (falls n : Nat) (st : PoolS) : Nat → List (List Nat) × PoolS
  | 0 => ([], st)
  | i + 1 => ((someF falls n st i).1 ++ [(partedF (drawN (someF falls n st i).2 n).2 falls (drawN (someF falls n st i).2 n).1).1.1], (partedF (drawN (someF falls n st i).2 n).2 falls (drawN (someF falls n st i).2 n).1).2)
def deepF (falls : Nat) : List Nat := (List.range falls).map fun a => falls - 1 - a
def rowsF (st : PoolS) (falls many : Nat) : List (List Nat) := [((someF falls (many - falls + 1) st 2).1.getD 0 []), deepF falls, ((someF falls (many - falls + 1) st 2).1.getD 1 [])].drop (drawN (someF falls (many - falls + 1) st 2).2 2).1
def rowOfF (st : PoolS) (falls many : Nat) : List Nat × PoolS := (joinRows (rowsF st falls many), (drawN (someF falls (many - falls + 1) st 2).2 2).2)
theorem partF_len {bp bw : List Nat} {lots : Nat} (hp : bw.Perm bp) (hb : ∀ x ∈ bp, x < lots) : (partF bp bw lots).length = bp.length := by
  have := (pop_inv hp hb bp.length (Nat.le_refl _)).2.1
  rw [List.take_length] at this
  exact this
theorem parted_len {st : PoolS} {lots many : Nat} (h : 1 ≤ lots) : (partedF st lots many).1.1.length = many := by
  obtain ⟨b1, b2⟩ := drs_ok (st := st) h many
  show (partF (drsF lots st many).1 (bwF (drsF lots st many).2 (drsF lots st many).1).1 lots).length = many
  rw [partF_len bwF_perm b2, b1]
theorem some_ok {falls n : Nat} {st : PoolS} (h : 1 ≤ falls) (hn : 1 ≤ n) : ∀ i, (someF falls n st i).1.length = i ∧ ∀ r ∈ (someF falls n st i).1, r.length < n
  | 0 => ⟨rfl, by simp [someF]⟩
  | i + 1 => by
    obtain ⟨h1, h2⟩ := some_ok (st := st) h hn i
    refine ⟨by simp [someF, h1], fun r hr => ?_⟩
    rcases List.mem_append.mp (show r ∈ (someF falls n st i).1 ++ [(partedF (drawN (someF falls n st i).2 n).2 falls (drawN (someF falls n st i).2 n).1).1.1] from hr) with hr | hr
    · exact h2 r hr
    · simp only [List.mem_cons, List.not_mem_nil, or_false] at hr
      rw [hr, parted_len h]
      exact draw_lt hn
abbrev R_row_of (st : PoolS) (ds : List PyData) (d : PyData) (st' : PoolS) : Prop := ∃ falls many : Nat, (1 ≤ falls ∧ falls ≤ many ∧ many ≤ 90) ∧ ds = [nI falls, nI many] ∧ d = tN (rowOfF st falls many).1 ∧ st' = (rowOfF st falls many).2
theorem cutD_from' {α : Type} (xs : List α) (k : Nat) : cutD xs (some (k : Int)) none = xs.drop k := cutD_from xs k
theorem lc_some {X : Cx} {sc : Scope} {tg elt : Expr} {ρ0 : Ev} {ds : List PyData} {vs : List Nat} {falls n : Nat} {st : PoolS} (Pf : PoolS → Ev) (h0 : Weak ρ0 (Pf st)) (hb : ∀ st1, Bare (Pf st1) vs)
    (turn : ∀ st1, ∀ d ∈ ds, ∃ ρ1 js ρ3, BG G X sc tg (Pf st1) (.dat d) ρ1 js ∧ (∀ j ∈ js, j ∈ vs) ∧ BE G X sc elt ρ1 (.dat (tN (partedF (drawN st1 n).2 falls (drawN st1 n).1).1.1)) ρ3 ∧ Weak ρ3 (Pf (partedF (drawN st1 n).2 falls (drawN st1 n).1).2)) :
    LC0 G X sc tg elt vs ds ρ0 (fun i => Pf (someF falls n st i).2) (fun i => .flat ((someF falls n st i).1.map tN)) := by
  refine ⟨h0, .inl rfl, fun i j av hj => hb _ j hj av, fun i d ed => ?_⟩
  obtain ⟨ρ1, js, ρ3, q1, q2, q3, q4⟩ := turn (someF falls n st i).2 d (List.mem_of_getElem? ed)
  refine ⟨ρ1, js, _, ρ3, q1, q2, q3, ?_, q4⟩
  have e2 : (someF falls n st (i + 1)).1.map tN = (someF falls n st i).1.map tN ++ [tN (partedF (drawN (someF falls n st i).2 n).2 falls (drawN (someF falls n st i).2 n).1).1.1] := by
    show ((someF falls n st i).1 ++ [_]).map tN = _
    rw [List.map_append]
    rfl
  simp only [e2]
  exact .dat
theorem c_row_of (F : FnT K mg "_law_wait_row_of" "_law_wait_row_of" 86) (g : Fr mg) (c1 : Call P w K mg base 1 "_law_draw" (spP G 2 R_draw)) (c2 : Call P w K mg base 3 "_law_wait_parted" (spP G 3 R_wait_parted)) (c3 : Call P w K mg base 1 "_law_wait_joined" (spD G 1 R_wait_joined)) :
    Call P w K mg base 4 "_law_wait_row_of" (spP G 3 R_row_of) := by
  refine callP F sc__law_wait_row_of b__law_wait_row_of fun f cdv A outer s0 H E hr p q st ds d st' hR => ?_
  obtain ⟨falls, many, ⟨h1, h2, h3⟩, rfl, rfl, rfl⟩ := hR
  have nd := sc__law_wait_row_of.nd
  refine ws_cons (ws_skip (dt_c (cn_eq (dv 1) (dn 0) (decide_eq_false (by omega)))) ?_)
  refine ws_cons (wset 3 nd (de_tuple .flat g.tuple ((de_map (xs := List.range falls) (f := nI) (g := fun z => nI (falls - 1 - z)) (own := [("_law_at", 4)]) nd (blkOk_by (N := N__law_wait_row_of) (sc := defScope (top 86)) (by decide +kernel)) (it_range g.range (by omega) (dv 1)) (.refl _) (bare_cons bare_nil)
    (turnN nd (fun _ _ _ _ _ => ⟨.inl rfl, .inr rfl⟩) rfl (bare_cons bare_nil) fun z hz s H C cl fp => de_subN (by have := List.mem_range.mp hz; omega) (de_subN h1 (dv 1) (dn 1)) (dv 4)) (by simp; omega)).toF (es := (deepF falls).map nI) (by unfold deepF; rw [List.map_map]; rfl))) ?_)
  have mx : ∀ {X : Cx} {e1 e2 : Expr} {pp pos : Pos} {ρ : Ev}, X.mg "max" = none → DE G X e1 ρ (.dat (nI 1)) ρ → DE G X e2 ρ (.dat (nI (many - falls + 1))) ρ → (hc : X.calm = true) → (hg : Gl X "max") → (he : starEach [e1, e2] X.env = (false, eval e1 X.env) :: starEach [e2] X.env) → (he' : starEach [e2] X.env = (false, eval e2 X.env) :: starEach [] X.env) → (hpl : (backTo pos (starEach [e2] X.env)).any (·.1) = false) →
      DE G X (.Call (.Name "max" pp) [e1, e2] [] pos) ρ (.dat (nI (many - falls + 1))) ρ := fun hm ha hb hc hg he he' hpl => (de_max2 hm ha hb hc hg he he' hpl).to (by rw [pyMax, show max 1 (many - falls + 1) = many - falls + 1 by omega])
  refine ws_cons (ws_lc0 (i := 5) (own := [("_law_turn", 6)]) (ds := rng 2) nd (blkOk_by (N := N__law_wait_row_of) (sc := defScope (top 86)) (by decide +kernel)) (it_range (n := 2) g.range (by omega) (dn 2))
    (lc_some (falls := falls) (n := many - falls + 1) (st := st) (fun st1 => [some (.pool p q st1), some (.dat (nI falls)), some (.dat (nI many)), some (.dat (tN (deepF falls))), none, none, none]) (.refl _) (fun _ => bare_cons bare_nil) fun st1 d hd => ⟨_, [6], _, bg_name nd rfl (fun _ _ _ _ _ => ⟨.inl rfl, .inr rfl⟩) rfl, fun _ h => h, fun s H C cl fp => dix (dcP 0 (st := (drawN st1 (many - falls + 1)).2) c2 hr ⟨falls, (drawN st1 (many - falls + 1)).1, ⟨h1, by omega, by have := draw_lt (st := st1) (n := many - falls + 1) (by omega); omega⟩, rfl, rfl, rfl⟩
      (da_cons (da 0) (da_cons (dv 1) (da_one (dcP 0 (st := st1) c1 hr ⟨many - falls + 1, ⟨by omega, by omega⟩, rfl, rfl, rfl⟩ (da_cons (da 0) (da_one (mx g.max (dn 1) (de_addN (de_subN h2 (dv 2) (dv 1)) (dn 1)) rfl rfl rfl rfl rfl)))))))), by exact .keep (.keep (.keep (.keep (.keep (.keep (.drop .nil))))))⟩) (by simp [rng]) ?_)
  have el : (rng 2).length = 2 := rfl
  simp only [el]
  obtain ⟨o1, o2⟩ := some_ok (st := st) h1 (show 1 ≤ many - falls + 1 by omega) 2
  unfold rowOfF rowsF
  generalize someF falls (many - falls + 1) st 2 = u at o1 o2
  obtain ⟨rs, st1⟩ := u
  simp only at o1 o2 ⊢
  match rs, o1 with
  | [r0, r1], _ =>
    have g0 := o2 r0 (by simp)
    have g1 := o2 r1 (by simp)
    have hd := draw_lt (st := st1) (n := 2) (by omega)
    refine ws_one (ws_ret (de_call c3 hr ⟨[r0, deepF falls, r1].drop (drawN st1 2).1, ⟨by simp; omega, fun r hr => ?_⟩, rfl, rfl⟩ (da_one ((de_slL .flat (.inr (.inr (.inl ⟨_, rfl⟩))) (de_lst (ds := [tN r0, tN (deepF falls), tN r1]) (da_cons (de_ixN (i := 0) (.als (i := 5) rfl) rfl (da 5) (dn 0)) (da_cons (dv 3) (da_one (de_ixN (i := 1) (.als (i := 5) rfl) rfl (da 5) (dn 1)))))) (do_some (i := ((drawN st1 2).1 : Int)) (dcP 0 (st := st1) c1 hr ⟨2, ⟨by omega, by omega⟩, rfl, rfl, rfl⟩ (da_cons (da 0) (da_one (dn 2))))) do_none).toF (es := ([r0, deepF falls, r1].drop (drawN st1 2).1).map tN) (by rw [cutD_from, List.map_drop]; rfl)).frz)) ⟨rfl, rfl⟩)
    have hr' := List.mem_of_mem_drop hr
    simp only [List.mem_cons, List.not_mem_nil, or_false] at hr'
    rcases hr' with rfl | rfl | rfl
    · omega
    · simp [deepF]; omega
    · omega
end
end TW
end
section
set_option Elab.async false
set_option linter.all false
set_option maxRecDepth 100000
set_option maxHeartbeats 1000000
/-! The walk, 16: the cheapest, the law's cheapest. -/
namespace TW
open PySem PySem.Spec PyProof.Rows L2
section
variable {G : Glb} {P : Program} {w : World} {K : PySem.W.Frag} {mg : Str → Option Value} {base : Heap}
def zs (ps : List Nat) : List Int := ps.map fun p : Nat => (p : Int)
def ordN (ps : List Nat) : List Nat := orderF (zs ps)
/-- one track more -/
def cheStep (y : Yd) (m : Nat) (q : List Nat × List Nat) (t : Nat) : List Nat × List Nat :=
  if q.1.length < m ∧ ¬ q.2.getD (y.ts.getD t (0, 0)).1 0 = q.2.getD (y.k + (y.ts.getD t (0, 0)).2) 0 then (q.1 ++ [t], joinF q.2 (y.ts.getD t (0, 0)).1 (y.k + (y.ts.getD t (0, 0)).2)) else q
def cheL (y : Yd) (ps : List Nat) (m : Nat) : List Nat × List Nat := (ordN ps).foldl (cheStep y m) ([], List.range (y.k + y.l))
def cheF (y : Yd) (ps : List Nat) (m : Nat) : Option (List Nat) := if (cheL y ps m).1.length = m then some (sortN (cheL y ps m).1) else none
theorem zs_len {ps : List Nat} : (zs ps).length = ps.length := by simp [zs]
theorem ord_perm {ps : List Nat} : (ordN ps).Perm (List.range ps.length) := by
  unfold ordN orderF
  rw [zs_len]
  exact List.mergeSort_perm _ _
theorem ord_len {ps : List Nat} : (ordN ps).length = ps.length := by rw [ord_perm.length_eq]; simp
theorem ord_lt {ps : List Nat} {t : Nat} (h : t ∈ ordN ps) : t < ps.length := List.mem_range.mp (ord_perm.mem_iff.mp h)
theorem che_at {y : Yd} {m : Nat} {q : List Nat × List Nat} {t : Nat} (ht : t < y.ts.length) : cheStep y m q t = if q.1.length < m ∧ ¬ q.2.getD y.ts[t].1 0 = q.2.getD (y.k + y.ts[t].2) 0 then (q.1 ++ [t], joinF q.2 y.ts[t].1 (y.k + y.ts[t].2)) else q := by
  unfold cheStep
  rw [tsGetD ht]
theorem che_len {y : Yd} {m : Nat} {ns : List Nat} : ∀ q : List Nat × List Nat, (ns.foldl (cheStep y m) q).2.length = q.2.length ∧ (ns.foldl (cheStep y m) q).1.length ≤ q.1.length + ns.length := by
  induction ns with
  | nil => exact fun q => ⟨rfl, by simp⟩
  | cons t r ih =>
    intro q
    rw [List.foldl_cons]
    obtain ⟨h1, h2⟩ := ih (cheStep y m q t)
    have a : (cheStep y m q t).2.length = q.2.length := by unfold cheStep; split <;> simp [joinF]
    have b : (cheStep y m q t).1.length ≤ q.1.length + 1 := by unfold cheStep; split <;> simp
    exact ⟨h1.trans a, by rw [List.length_cons]; omega⟩
abbrev R_cheapest (ds : List PyData) (d : PyData) : Prop := ∃ (y : Yd) (ps : List Nat) (m : Nat), (YdOk y ∧ PrOk y ps ∧ m ≤ 60) ∧ ds = [encY y, tN ps, nI m] ∧ d = encO (cheF y ps m)
abbrev qLam : Str := ("cheapest" : Str) ++ ".<locals>." ++ "<lambda>"
theorem c_cheapest {c tb : Addr} (F : FnC K mg "cheapest" "cheapest" "cheapest" (defArgs (top 32)) (defBody (top 32)) (defScope (top 32)) c) (hG : (tb, qLam) ∈ G.L) (hu : ∀ p ∈ G.L, p.1 = tb → p.2 = qLam) (hnT : tb ∉ G.T) (TB : LamX.TabB base mg c tb)
    (g : Fr mg) (c1 : Call P w K mg base 5 "made_prices" (spD G 2 R_made_prices)) (c2 : Call P w K mg base 2 "check_many" (spD G 1 R_check_many)) (c3 : Call P w K mg base 1 "alone" (spD G 1 R_alone)) (c4 : Call P w K mg base 1 "ends" (spD G 2 R_ends)) (c5 : Call P w K mg base 1 "joined_by" (spD G 3 R_joined_by)) :
    Call P w K mg base 6 "cheapest" (spD G 3 R_cheapest) := by
  refine callDC F sc_cheapest b_cheapest fun f A outer s0 H E hr ds d hR => ?_
  obtain ⟨y, ps, m, ⟨hy, hp, hm⟩, rfl, rfl⟩ := hR
  have nd := sc_cheapest.nd
  have k12 := hy.k12; have l12 := hy.l12; have tl := hy.len; have pl := hp.len
  refine ws_cons (wset 3 nd (de_call c1 hr ⟨y, ps, ⟨hy, hp⟩, rfl, rfl⟩ (da_cons (dv 0) (da_one (dv 1)))) ?_)
  refine ws_cons (ws_expr (de_call c2 hr ⟨m, hm, rfl, rfl⟩ (da_one (dv 2))) ?_)
  refine ws_cons (ws_par (i := 4) (j := 5) rfl rfl (by decide) nd (da_cons (de_call c3 hr ⟨y, hy, rfl, rfl⟩ (da_one (dv 0))) (da_one (de_lst (ds := []) da_nil))) ?_)
  refine ws_cons (wfor (ds := (ordN ps).map nI) (it_lst (DE.frz (de_sortLam (ρ1 := [some (.dat (encY y)), some (.dat (tN ps)), some (.dat (nI m)), some (.dat (tN ps)), some (.dat (tN (List.range (y.k + y.l)))), some (.flat []), none, none, none]) (ps := zs ps) (iR := 3) ?g1 ?g2 hG hu hnT TB ?g3 ?g4 (hr.mono (by decide)) (by rw [zs_len]; omega) g.sorted g.range ?g5 ?g6 ?g7 ?g8 ?g9 ?g10 ?g11 ?g12 ?g13 ?g14 ?g15 (hg := ?g16) (hg2 := ?g17) (na := ?g18) (he := ?g19))))
    (fun i => [some (.dat (encY y)), some (.dat (tN ps)), some (.dat (nI m)), some (.dat (tN ps)), some (.dat (tN (((ordN ps).take i).foldl (cheStep y m) ([], List.range (y.k + y.l))).2)), some (.flat ((((ordN ps).take i).foldl (cheStep y m) ([], List.range (y.k + y.l))).1.map nI)), none, none, none]) ?gw (fun i d hd => ?gt) ?ge)

  case g1 => rfl
  case g2 => rfl
  case g3 => rfl
  case g4 => rfl
  case g5 => exact (lenT (n := ps.length) g.len (dv 3)).to (by rw [zs_len])
  case g6 => simp [zs]
  case g7 => rfl
  case g8 => decide
  case g9 => rfl
  case g10 => rfl
  case g11 => rfl
  case g12 => decide
  case g13 => rfl
  case g14 => rfl
  case g15 => exact (fun _ _ _ _ _ => rfl)
  case g16 => rfl
  case g17 => rfl
  case g18 => rfl
  case g19 => rfl
  case gw => exact .keep (.keep (.keep (.keep (.keepE (by simp) (.keepE (by simp) (.keep (.keep (.keep .nil))))))))
  case gt =>
    obtain ⟨t, et, rfl⟩ := ofMap hd
    have hi : i < (ordN ps).length := (List.getElem?_eq_some_iff.mp et).1
    have ht : t < y.ts.length := by
      have := ord_lt (List.mem_of_getElem? et)
      omega
    have hb := hy.bnd _ (List.getElem_mem ht)
    have eS := foldTake (step := cheStep y m) (b := (([], List.range (y.k + y.l)) : List Nat × List Nat)) et
    obtain ⟨l1, l2⟩ := che_len (y := y) (m := m) (ns := (ordN ps).take i) ([], List.range (y.k + y.l))
    have l3 : ((ordN ps).take i).length ≤ i := by simp; omega
    have ol := ord_len (ps := ps)
    generalize ((ordN ps).take i).foldl (cheStep y m) ([], List.range (y.k + y.l)) = q at eS l1 l2
    simp only [List.length_nil, Nat.zero_add, List.length_range] at l1 l2
    rw [che_at ht] at eS
    have a1 : y.ts[t].1 < q.2.length := by omega
    have a2 : y.k + y.ts[t].2 < q.2.length := by omega
    have ea := getDN a1
    have eb := getDN a2
    refine ⟨_, _, gtn 6 nd, ?_⟩
    refine ws_cons (ws_asg (de_call c4 hr ⟨y, t, y.ts[t].1, y.ts[t].2, List.getElem?_eq_getElem ht, rfl, rfl⟩ (da_cons (dv 0) (da_one (dv 6)))) (gtu2 7 8 nd) ?_)
    refine ws_one (ws_if (b := decide (q.1.length < m) && !decide (q.2.getD y.ts[t].1 0 = q.2.getD (y.k + y.ts[t].2) 0)) (dt_w (tand2 (dt_c (cn_lt (lenF (n := q.1.length) g.len (da 5)) (dv 2))) (fun _ => dw_and1 (dt_c (cn_ne (de_ixTN ea (dv 4) (dv 7)) (de_ixTN eb (dv 4) (dv 8))))))) (fun h => ?_) (fun h => ws_nil ?_))
    · have h : q.1.length < m ∧ ¬ q.2.getD y.ts[t].1 0 = q.2.getD (y.k + y.ts[t].2) 0 := by simpa using h
      rw [if_pos h] at eS
      refine ws_cons (wset 4 nd (de_call c5 hr ⟨q.2, y.ts[t].1, y.k + y.ts[t].2, ⟨by omega, a1, a2⟩, rfl, rfl⟩ (da_cons (dv 4) (da_cons (dv 7) (da_one (dv 8))))) ?_)
      refine ws_one (ws_expr (de_append (da 5) rfl (dv 6) rfl (by rw [List.length_map]; omega)) ?_)
      rw [eS]
      exact .keep (.keep (.keep (.keep (.keep (.keepE (by simp) (.drop (.drop (.drop .nil))))))))
    · have h : ¬ (q.1.length < m ∧ ¬ q.2.getD y.ts[t].1 0 = q.2.getD (y.k + y.ts[t].2) 0) := fun z => by rw [decide_eq_true z.1, decide_eq_false z.2] at h; cases h
      rw [if_neg h] at eS
      rw [eS]
      exact .keep (.keep (.keep (.keep (.keep (.keep (.drop (.drop (.drop .nil))))))))
  case ge =>
    have e : (ordN ps).take ((ordN ps).map nI).length = ordN ps := by simp
    rw [e]
    obtain ⟨l1, l2⟩ := che_len (y := y) (m := m) (ns := ordN ps) ([], List.range (y.k + y.l))
    have ol := ord_len (ps := ps)
    by_cases h : (cheL y ps m).1.length = m
    · have e2 : encO (cheF y ps m) = tN (sortN (cheL y ps m).1) := by unfold cheF; rw [if_pos h]; rfl
      rw [e2]
      refine ws_one (ws_ret (difT (dt_c (cn_eq (lenF (n := (cheL y ps m).1.length) (q := by rw [List.length_map]; rfl) g.len (da 5)) (dv 2) (decide_eq_true h))) (de_tuple .flat g.tuple (de_sortN (.als (i := 5) rfl) isL_a (sortN_ok (cheL y ps m).1) g.sorted (da 5)))) rfl)
    · have e2 : encO (cheF y ps m) = .none := by unfold cheF; rw [if_neg h]; rfl
      rw [e2]
      exact ws_one (ws_ret (difF (dt_c (cn_eq (lenF (n := (cheL y ps m).1.length) (q := by rw [List.length_map]; rfl) g.len (da 5)) (dv 2) (decide_eq_false h))) de_non) rfl)
end
end TW
end
section
set_option Elab.async false
set_option linter.all false
set_option maxRecDepth 100000
set_option maxHeartbeats 2000000
/-! The walk, 17: the law's cheapest. -/
namespace TW
open PySem PySem.Spec PyProof.Rows L2
section
variable {G : Glb} {P : Program} {w : World} {K : PySem.W.Frag} {mg : Str → Option Value} {base : Heap}
def pq (ps : List Nat) (t : Nat) : Int × Int := ((zs ps).getD t 0, (t : Int))
theorem lexI_trans (ps : List Int) (a b c : Nat) : lexI ps a b = true → lexI ps b c = true → lexI ps a c = true := by
  simp only [lexI, decide_eq_true_eq]; omega
theorem lexI_total (ps : List Int) (a b : Nat) : (lexI ps a b || lexI ps b a) = true := by
  simp only [lexI, Bool.or_eq_true, decide_eq_true_eq]; omega
theorem ord_nd {ps : List Nat} : (ordN ps).Nodup := (ord_perm.nodup_iff).mpr List.nodup_range
theorem ord_sorted {ps : List Nat} : (ordN ps).Pairwise fun i j => lexLt (pq ps i) (pq ps j) := by
  have h1 : (ordN ps).Pairwise fun i j => lexI (zs ps) i j = true := List.pairwise_mergeSort (le := lexI (zs ps)) (lexI_trans _) (lexI_total _) _
  have h2 : (ordN ps).Pairwise (· ≠ ·) := ord_nd
  refine (h1.and h2).imp fun {a b} h => ?_
  obtain ⟨h, n⟩ := h
  simp only [lexI, decide_eq_true_eq] at h
  simp only [lexLt, pq]
  omega
def lcheF (y : Yd) (ps : List Nat) (m : Nat) : Option (List Nat) := if m ≤ (forF y (ordN ps)).1.length then some (sortN ((forF y (ordN ps)).1.take m)) else none
abbrev R_law_cheapest (ds : List PyData) (d : PyData) : Prop := ∃ (y : Yd) (ps : List Nat) (m : Nat), (YdOk y ∧ PrOk y ps) ∧ ds = [encY y, tN ps, nI m] ∧ d = encO (lcheF y ps m)
theorem c_law_cheapest (F : FnT K mg "_law_cheapest" "_law_cheapest" 97) (g : Fr mg) (c1 : Call P w K mg base 2 "_law_web_forest" (spD G 2 R_web_forest)) : Call P w K mg base 3 "_law_cheapest" (spD G 3 R_law_cheapest) := by
  refine callD F sc__law_cheapest b__law_cheapest fun f cdv A outer s0 H E hr ds d hR => ?_
  obtain ⟨y, ps, m, ⟨hy, hp⟩, rfl, rfl⟩ := hR
  have nd := sc__law_cheapest.nd
  have tl := hy.len; have pl := hp.len; have ol := ord_len (ps := ps)
  refine ws_cons (ws_map (i := 3) (xs := ordN ps) (f := fun t => pII (pq ps t)) (g := nI) (own := [("_law_price", 4), ("_law_track", 5)]) nd (blkOk_by (N := N__law_cheapest) (sc := defScope (top 97)) (by decide +kernel))
    (it_lst (DE.frz (DE.toF (de_sortP (ps := (List.range ps.length).map (pq ps)) (qs := (ordN ps).map (pq ps)) .flat isL_f ⟨ord_perm.map _, List.pairwise_map.mpr ord_sorted⟩ g.sorted
      (DE.toF (de_map (xs := List.range ps.length) (f := nI) (g := fun t => pII (pq ps t)) (own := [("_law_t", 6)]) nd (blkOk_by (N := N__law_cheapest) (sc := defScope (top 97)) (by decide +kernel)) (it_range g.range (by omega) (lenT (n := ps.length) g.len (dv 1))) (.refl _) (bare_cons bare_nil)
        (turnN nd (fun _ _ _ _ _ => ⟨.inl rfl, .inr rfl⟩) rfl (bare_cons bare_nil) fun z hz s H C cl fp => ?_) (by simp; omega)) (by rw [List.map_map]; rfl))) (by rw [List.map_map]; rfl))))
    (.refl _) (bare_cons (bare_cons bare_nil)) (fun z hz => ⟨_, [4, 5], _, fun s H C cl fp => gtu2 4 5 nd, fun _ h => h, fun s H C cl fp => dv 5, ?_⟩) (by omega) ?_)
  · have hz : z < ps.length := List.mem_range.mp hz
    exact (de_tup (ds := [nI (ps.getD z 0), nI z]) (da_cons (de_ixTN (getDN hz) (dv 1) (dv 6)) (da_one (dv 6)))).to (by
      have e : (zs ps).getD z 0 = ((ps.getD z 0 : Nat) : Int) := by
        unfold zs
        rw [List.getD_eq_getElem?_getD, List.getElem?_map, getDN hz]
        rfl
      show PyData.tuple _ = pII (pq ps z)
      unfold pII pq
      rw [e])
  · exact .keep (.keep (.keep (.keep (.drop (.drop (.keep (.keep .nil)))))))
  · refine wt_frz (i := 3) rfl ?_
    refine ws_cons (wset 7 nd (de_call c1 hr ⟨y, ordN ps, ⟨hy, ⟨by omega, fun n hn => ?_⟩⟩, rfl, rfl⟩ (da_cons (dv 0) (da_one (dv 3)))) ?_)
    · have := ord_lt hn
      omega
    by_cases h : m ≤ (forF y (ordN ps)).1.length
    · have e2 : encO (lcheF y ps m) = tN (sortN ((forF y (ordN ps)).1.take m)) := by unfold lcheF; rw [if_pos h]; rfl
      rw [e2]
      refine ws_one (ws_ret (difT (dt_c (cn_ge (lenL (n := (forF y (ordN ps)).1.length) g.len (dv 7)) (dv 2) (decide_eq_true h))) (de_tuple .flat g.tuple (de_sortN .flat isL_f (sortN_ok ((forF y (ordN ps)).1.take m)) g.sorted ((de_slL .lst (.inl ⟨_, rfl⟩) (dv 7) do_none (do_some (dv 2))).toF (es := ((forF y (ordN ps)).1.take m).map nI) (by rw [cutD_to, List.map_take]))))) rfl)
    · have e2 : encO (lcheF y ps m) = .none := by unfold lcheF; rw [if_neg h]; rfl
      rw [e2]
      exact ws_one (ws_ret (difF (dt_c (cn_ge (lenL (n := (forF y (ordN ps)).1.length) g.len (dv 7)) (dv 2) (decide_eq_false h))) de_non) rfl)
end
end TW
end
section
set_option Elab.async false
set_option linter.all false
set_option maxRecDepth 100000
set_option maxHeartbeats 2000000
/-! The walk, 18: are_numbers. -/
namespace TW
open PySem PySem.Spec PyProof.Rows L2
open GxR (TabB TabG Tabbed GenS)
section
variable {G : Glb} {P : Program} {w : World} {K : PySem.W.Frag} {mg : Str → Option Value} {base : Heap}
theorem gens_of {N : List Str} {qual : Str} {scope sc : Scope} {f : Addr} {cdv : Value} {A : Around} {outer : List Env} {s : Shared} {H : Hp} {E : XK} {x : Str} (h1 : sc.kind = .function) (h2 : sc.isCoroutine = false) (h3 : ∀ y ∈ sc.names, y.2 ≠ .cell) (h4 : sc.names.lookup (".0" : Str) = some NameKind.local) (h5 : sc.names.lookup x = some .local)
    (h6 : ∀ y ∈ sc.names, y.2 = .free → scope.names.lookup y.1 = some .cell) : GenS (CD P w K mg base N qual scope f cdv A outer s H E).env sc x :=
  ⟨h1, h2, h3, h4, h5, fun y hy e => by
    have q := PySem.W.cellsFrom_some scope.names (s.heap.objs.size + 1) [] (.inl (h6 y hy e))
    exact Option.isSome_iff_exists.mp q⟩
abbrev R_are_numbers (ds : List PyData) (d : PyData) : Prop := ∃ (ps : List Nat) (h : Nat), (∀ p ∈ ps, p ≤ h) ∧ ds = [tN ps, nI h] ∧ d = .bool true
theorem c_are_numbers {c tb : Addr} (F : FnC K mg "are_numbers" "are_numbers" "are_numbers" (defArgs (top 40)) (defBody (top 40)) (defScope (top 40)) c) (hP : tb ∈ G.T) (hnL : ∀ p ∈ G.L, p.1 ≠ tb) (TB : TabB base mg c tb)
    (g : Fr mg) (FN : FnT K mg "is_number_kernel" "is_number" 38) :
    Call P w K mg base 4 "are_numbers" (spD G 2 R_are_numbers) := by
  refine callDC F sc_are_numbers b_are_numbers fun f A outer s0 H E hr ds d hR => ?_
  obtain ⟨ps, h, hp, rfl, rfl⟩ := hR
  have nd := sc_are_numbers.nd
  obtain ⟨fN, fdN, FN, mN⟩ := FN
  refine ws_one (ws_ret (andT (di_tup g.isinstance g.tuple (dv 0)) (de_one ((de_allG (pb := fun _ => true) hr g.all TB rfl hP hnL ?g1 (dv 0) (elt_num (h := h) (iH := 1) (ps := ps) ?g2 hr FN mN ?g3 ?g4 ?g5 ?g6 ?g7 hp g.isinstance g.int g.bool ?g8 ?g9 ?g10 ?g11 ?g12 ?g13 ?g14 ?g15 ?g16 ?g17 ?g18)).to ?g19))) rfl)
  case g1 => exact gens_of rfl rfl (by decide) rfl rfl (by decide +kernel)
  case g2 => exact gens_of rfl rfl (by decide) rfl rfl (by decide +kernel)
  case g3 => rfl
  case g4 => rfl
  case g5 => rfl
  case g6 => rfl
  case g7 => rfl
  case g8 => exact b_is_number_kernel
  case g9 => decide +kernel
  case g10 => rfl
  case g11 => rfl
  case g12 => rfl
  case g13 => rfl
  case g14 => rfl
  case g15 => rfl
  case g16 => rfl
  case g17 => rfl
  case g18 => rfl
  case g19 => simp
end
end TW
end
section
set_option Elab.async false
set_option linter.all false
set_option maxRecDepth 100000
set_option maxHeartbeats 2000000
/-! The walk, 19: way. -/
namespace TW
open PySem PySem.Spec PyProof.Rows L2
abbrev Nd := Nat × Nat
abbrev Wy := List (Nd × List Nat)
def endOf (tt : Nat × Nat) (s : Nat) : Nat := if s = 0 then tt.1 else tt.2
def lookW (W : Wy) (n : Nd) : Option (List Nat) := (W.find? fun e => decide (e.1 = n)).map (·.2)
def othN (y : Yd) (n : Nd) (t : Nat) : Nd := (1 - n.1, endOf (y.ts.getD t (0, 0)) (1 - n.1))
def wayTrack (y : Yd) (n : Nd) (path : List Nat) (W : Wy) (t : Nat) : Wy :=
  if ¬ endOf (y.ts.getD t (0, 0)) n.1 = n.2 then W else if (lookW W (othN y n t)).isSome then W else W ++ [(othN y n t, path ++ [t])]
def wayNode (y : Yd) (pick : List Nat) (W : Wy) (i : Nat) : Wy := match W[i]? with
  | some e => pick.foldl (wayTrack y e.1 e.2) W
  | none => W
def wayIter (y : Yd) (pick : List Nat) (start : Nat) : Nat → Wy
  | 0 => [((0, start), [])]
  | n + 1 => wayNode y pick (wayIter y pick start n) n
def wayF (y : Yd) (pick : List Nat) (start goal : Nat) : Option (List Nat) := lookW (wayIter y pick start (y.k + y.l)) (1, goal)
def NdOk (y : Yd) (n : Nd) : Prop := (n.1 = 0 ∧ n.2 < y.k) ∨ (n.1 = 1 ∧ n.2 < y.l)
structure WOk (y : Yd) (pick : List Nat) (W : Wy) : Prop where
  nd : (W.map (·.1)).Nodup
  ok : ∀ e ∈ W, NdOk y e.1
  len : ∀ (i : Nat) (e : Nd × List Nat), W[i]? = some e → e.2.length ≤ i
  sub : ∀ e ∈ W, ∀ t ∈ e.2, t ∈ pick
theorem look_none {W : Wy} {n : Nd} (h : lookW W n = none) : ∀ e ∈ W, e.1 ≠ n := fun e he z => by
  have h1 : W.find? (fun e => decide (e.1 = n)) = none := by simpa [lookW] using h
  simpa [z] using List.find?_eq_none.mp h1 e he
theorem look_mem {W : Wy} {n : Nd} {p : List Nat} (h : lookW W n = some p) : (n, p) ∈ W := by
  unfold lookW at h
  cases e : W.find? (fun e => decide (e.1 = n)) with
  | none => rw [e] at h; cases h
  | some u =>
    rw [e] at h
    cases h
    have h1 := List.mem_of_find?_eq_some e
    have h2 : u.1 = n := by simpa using List.find?_some e
    rw [← h2]
    exact h1
theorem endOf_ok {y : Yd} (hy : YdOk y) {t s : Nat} (ht : t < y.ts.length) (hs : s = 0 ∨ s = 1) : NdOk y (s, endOf (y.ts.getD t (0, 0)) s) := by
  have e : y.ts.getD t (0, 0) = y.ts[t] := by simp [List.getD_eq_getElem?_getD, ht]
  have hb := hy.bnd _ (List.getElem_mem ht)
  rw [e]
  rcases hs with rfl | rfl
  · exact .inl ⟨rfl, hb.1⟩
  · exact .inr ⟨rfl, hb.2⟩
theorem track_ok {y : Yd} {pick : List Nat} {W : Wy} {n : Nd} {path : List Nat} {t : Nat} (hy : YdOk y) (h : WOk y pick W) (ht : t < y.ts.length) (htp : t ∈ pick) (hp : path.length < W.length) (hps : ∀ u ∈ path, u ∈ pick) (hn : NdOk y n) : WOk y pick (wayTrack y n path W t) := by
  unfold wayTrack
  split
  · exact h
  · split
    · exact h
    · rename_i h2
      have h3 : lookW W (othN y n t) = none := by simpa using h2
      have h4 := look_none h3
      refine ⟨?_, fun e he => ?_, fun i e he => ?_, fun e he u hu => ?_⟩
      · rw [List.map_append, List.map_cons, List.map_nil, List.nodup_append]
        refine ⟨h.nd, by simp, fun a ha b hb => ?_⟩
        obtain ⟨e, he, rfl⟩ := List.mem_map.mp ha
        simp only [List.mem_cons, List.not_mem_nil, or_false] at hb
        rw [hb]
        exact h4 e he
      · rcases List.mem_append.mp he with he | he
        · exact h.ok e he
        · simp only [List.mem_cons, List.not_mem_nil, or_false] at he
          rw [he]
          exact endOf_ok hy ht (by rcases hn with ⟨h, _⟩ | ⟨h, _⟩ <;> rw [h] <;> simp)
      · rw [List.getElem?_append] at he
        split at he
        · exact h.len i e he
        · rename_i hi
          have : i - W.length = 0 := by
            have := (List.getElem?_eq_some_iff.mp he).1
            simpa using this
          rw [this] at he
          cases he
          rw [List.length_append]
          simp
          omega
      · rcases List.mem_append.mp he with he | he
        · exact h.sub e he u hu
        · simp only [List.mem_cons, List.not_mem_nil, or_false] at he
          rw [he] at hu
          rcases List.mem_append.mp hu with hu | hu
          · exact hps u hu
          · simp only [List.mem_cons, List.not_mem_nil, or_false] at hu
            rw [hu]
            exact htp
theorem track_ge {y : Yd} {n : Nd} {path : List Nat} {W : Wy} {t : Nat} : ∃ W', wayTrack y n path W t = W ++ W' := by
  unfold wayTrack
  split
  · exact ⟨[], by simp⟩
  · split
    · exact ⟨[], by simp⟩
    · exact ⟨_, rfl⟩
theorem tracks_ge {y : Yd} {n : Nd} {path : List Nat} : ∀ (ts : List Nat) (W : Wy), ∃ W', ts.foldl (wayTrack y n path) W = W ++ W'
  | [], W => ⟨[], by simp⟩
  | t :: r, W => by
    obtain ⟨W1, e1⟩ := track_ge (y := y) (n := n) (path := path) (W := W) (t := t)
    obtain ⟨W2, e2⟩ := tracks_ge (y := y) (n := n) (path := path) r (wayTrack y n path W t)
    exact ⟨W1 ++ W2, by rw [List.foldl_cons, e2, e1, List.append_assoc]⟩
theorem tracks_ok {y : Yd} {pick : List Nat} {n : Nd} {path : List Nat} (hy : YdOk y) (hps : ∀ u ∈ path, u ∈ pick) (hn : NdOk y n) : ∀ (ts : List Nat) (W : Wy), (∀ t ∈ ts, t < y.ts.length ∧ t ∈ pick) → WOk y pick W → path.length < W.length → WOk y pick (ts.foldl (wayTrack y n path) W)
  | [], W, _, h, _ => h
  | t :: r, W, ht, h, hp => by
    obtain ⟨W1, e1⟩ := track_ge (y := y) (n := n) (path := path) (W := W) (t := t)
    have h1 := ht t List.mem_cons_self
    refine tracks_ok hy hps hn r _ (fun u hu => ht u (List.mem_cons_of_mem _ hu)) (track_ok hy h h1.1 h1.2 hp hps hn) ?_
    rw [e1, List.length_append]
    omega
theorem node_ok {y : Yd} {pick : List Nat} {W : Wy} {i : Nat} (hy : YdOk y) (hp : ∀ t ∈ pick, t < y.ts.length) (h : WOk y pick W) : WOk y pick (wayNode y pick W i) := by
  unfold wayNode
  cases e : W[i]? with
  | none => exact h
  | some u =>
    have hi := (List.getElem?_eq_some_iff.mp e).1
    have hm := List.mem_of_getElem? e
    exact tracks_ok hy (h.sub u hm) (h.ok u hm) pick W (fun t ht => ⟨hp t ht, ht⟩) h (by have := h.len i u e; omega)
theorem iter_ok {y : Yd} {pick : List Nat} {start : Nat} (hy : YdOk y) (hp : ∀ t ∈ pick, t < y.ts.length) (hs : start < y.k) : ∀ n, WOk y pick (wayIter y pick start n)
  | 0 => by
    refine ⟨by simp [wayIter], fun e he => ?_, fun i e he => ?_, fun e he t ht => ?_⟩
    · simp only [wayIter, List.mem_cons, List.not_mem_nil, or_false] at he
      rw [he]
      exact .inl ⟨rfl, hs⟩
    · have := List.mem_of_getElem? he
      simp only [wayIter, List.mem_cons, List.not_mem_nil, or_false] at this
      rw [this]
      simp
    · simp only [wayIter, List.mem_cons, List.not_mem_nil, or_false] at he
      rw [he] at ht
      simp at ht
  | n + 1 => node_ok hy hp (iter_ok hy hp hs n)
theorem wok_len {y : Yd} {pick : List Nat} {W : Wy} (h : WOk y pick W) : W.length ≤ y.k + y.l := by
  have h1 := nodup_len (y.k + y.l) (W.map fun e => if e.1.1 = 0 then e.1.2 else y.k + e.1.2) ?_ ?_
  · simpa using h1
  · have h2 := h.nd
    unfold List.Nodup at h2 ⊢
    rw [List.pairwise_map] at h2 ⊢
    refine h2.imp_of_mem fun {a b} ha hb hne z => ?_
    have oa := h.ok a ha
    have ob := h.ok b hb
    unfold NdOk at oa ob
    apply hne
    apply Prod.ext
    · rcases oa with ⟨a1, a2⟩ | ⟨a1, a2⟩ <;> rcases ob with ⟨b1, b2⟩ | ⟨b1, b2⟩ <;> simp [a1, b1] at z ⊢ <;> omega
    · rcases oa with ⟨a1, a2⟩ | ⟨a1, a2⟩ <;> rcases ob with ⟨b1, b2⟩ | ⟨b1, b2⟩ <;> simp [a1, b1] at z ⊢ <;> omega
  · intro x hx
    obtain ⟨e, he, rfl⟩ := List.mem_map.mp hx
    rcases h.ok e he with ⟨a1, a2⟩ | ⟨a1, a2⟩ <;> simp [a1] <;> omega
theorem iter_stop {y : Yd} {pick : List Nat} {start n : Nat} (h : (wayIter y pick start n).length ≤ n) : ∀ j, wayIter y pick start (n + j) = wayIter y pick start n
  | 0 => rfl
  | j + 1 => by
    have e := iter_stop h j
    show wayNode y pick (wayIter y pick start (n + j)) (n + j) = _
    rw [e]
    unfold wayNode
    rw [List.getElem?_eq_none (by omega)]
abbrev encN (n : Nd) : PyData := .tuple [nI n.1, nI n.2]
abbrev encW (W : Wy) : List (List Key × PyData) := W.map fun e => (key2 (e.1.1 : Int) (e.1.2 : Int), tN e.2)
theorem valW : ∀ (W : Wy) (n : Nd), valP (encW W) (key2 (n.1 : Int) (n.2 : Int)) = (lookW W n).map tN
  | [], n => rfl
  | e :: W, n => by
    have ih := valW W n
    unfold valP lookW at ih ⊢
    show Option.map _ (List.find? _ ((key2 (e.1.1 : Int) (e.1.2 : Int), tN e.2) :: encW W)) = _
    rw [List.find?_cons, List.find?_cons]
    by_cases h : e.1 = n
    · have h2 : key2 (e.1.1 : Int) (e.1.2 : Int) = key2 (n.1 : Int) (n.2 : Int) := by rw [h]
      simp only [h, decide_true]
      rfl
    · have h2 : ¬ key2 (e.1.1 : Int) (e.1.2 : Int) = key2 (n.1 : Int) (n.2 : Int) := fun z => h (by
        simp only [key2, List.cons.injEq, Sum.inl.injEq, and_true] at z
        exact Prod.ext (by omega) (by omega))
      simp only [h, h2, decide_false]
      exact ih
section
variable {G : Glb} {P : Program} {w : World} {K : PySem.W.Frag} {mg : Str → Option Value} {base : Heap}
abbrev R_way (ds : List PyData) (d : PyData) : Prop := ∃ (y : Yd) (pick : List Nat) (start goal : Nat), (YdOk y ∧ (∀ t ∈ pick, t < y.ts.length) ∧ start < y.k) ∧ ds = [encY y, tN pick, nI start, nI goal] ∧ d = encO (wayF y pick start goal)
theorem endAt (tt : Nat × Nat) {s : Nat} (h : s = 0 ∨ s = 1) : [nI tt.1, nI tt.2][s]? = some (nI (endOf tt s)) := by
  rcases h with rfl | rfl <;> rfl
theorem c_way (F : FnT K mg "way" "way" 41) (g : Fr mg) : Call P w K mg base 1 "way" (spD G 4 R_way) := by
  refine callD F sc_way b_way fun f cdv A outer s0 H E hr ds d hR => ?_
  obtain ⟨y, pick, start, goal, ⟨hy, hp, hs⟩, rfl, rfl⟩ := hR
  have nd := sc_way.nd
  have k12 := hy.k12; have l12 := hy.l12
  have iok := iter_ok hy hp hs
  refine ws_cons (ws_par3 (i := 4) (j := 5) (l := 6) rfl rfl rfl (by decide) (by decide) (by decide) nd (da_cons (de_lst (ds := [encN (0, start)]) (da_one (de_tup (ds := [nI 0, nI start]) (da_cons (dn 0) (da_one (dv 2)))))) (da_cons (de_disp1 (i := ((0 : Nat) : Int)) (j := (start : Int)) (d := tN []) hr (de_tup (ds := [nI 0, nI start]) (da_cons (dn 0) (da_one (dv 2)))) (de_tup (ds := []) da_nil)) (da_one (dn 0)))) ?_)
  refine ws_cons (ws_while (fun m ρ => ∃ n : Nat, (n ≤ (wayIter y pick start n).length ∧ m = y.k + y.l - n) ∧ ρ = [some (.dat (encY y)), some (.dat (tN pick)), some (.dat (nI start)), some (.dat (nI goal)), some (.flat ((wayIter y pick start n).map fun e => encN e.1)), some (.dic (encW (wayIter y pick start n))), some (.dat (nI n)), none, none, none, none]) (y.k + y.l - 0) ⟨0, ⟨by simp [wayIter], rfl⟩, rfl⟩ ?_)
  rintro m ρ ⟨n, ⟨hn, hm⟩, rfl⟩
  have wl := wok_len (iok n)
  refine ⟨decide (n < (wayIter y pick start n).length), _, dt_c (cn_lt (dv 6) (lenF (n := (wayIter y pick start n).length) g.len (da 4))), fun hb => ?_, fun hb => ?_⟩
  · have hb : n < (wayIter y pick start n).length := of_decide_eq_true hb
    have ho := iok n
    have eS : wayIter y pick start (n + 1) = wayNode y pick (wayIter y pick start n) n := rfl
    generalize wayIter y pick start n = W at hn hm wl hb ho eS
    rcases hu : W[n] with ⟨⟨sd, ln⟩, path⟩
    have eu : W[n]? = some ((sd, ln), path) := by rw [List.getElem?_eq_getElem hb, hu]
    have em := List.mem_of_getElem? eu
    have hnd := ho.ok _ em
    have hsd : sd = 0 ∨ sd = 1 := by rcases hnd with ⟨h, _⟩ | ⟨h, _⟩ <;> simp at h <;> omega
    have hpl : path.length ≤ n := ho.len n _ eu
    have hps := ho.sub _ em
    have eN : wayNode y pick W n = pick.foldl (wayTrack y (sd, ln) path) W := by unfold wayNode; rw [eu]
    have elk : lookW W (sd, ln) = some path := by
      cases e : lookW W (sd, ln) with
      | none => exact absurd rfl (look_none e _ em)
      | some p =>
        have e2 := look_mem e
        obtain ⟨i, hi⟩ := List.mem_iff_getElem?.mp e2
        have h1 := ho.nd
        have hi2 := (List.getElem?_eq_some_iff.mp hi).1
        have a1 : (W.map (·.1))[i]? = some (sd, ln) := by rw [List.getElem?_map, hi]; rfl
        have a2 : (W.map (·.1))[n]? = some (sd, ln) := by rw [List.getElem?_map, eu]; rfl
        have : i = n := by
          have := (List.getElem?_inj (by simpa using hi2) h1).mp (a1.trans a2.symm)
          exact this
        subst this
        rw [eu] at hi
        cases hi
        rfl
    refine ws_cons (ws_asg (de_ixN (.als (i := 4) rfl) (d := encN (sd, ln)) (getMap (f := fun e : Nd × List Nat => encN e.1) eu) (da 4) (dv 6)) (gtu2 7 8 nd) ?_)
    refine ws_cons (wset 6 nd (de_addN (dv 6) (dn 1)) ?_)
    refine ws_one (wfor (ds := pick.map nI) (it_tup (dv 1)) (fun i => [some (.dat (encY y)), some (.dat (tN pick)), some (.dat (nI start)), some (.dat (nI goal)), some (.flat (((pick.take i).foldl (wayTrack y (sd, ln) path) W).map fun e => encN e.1)), some (.dic (encW ((pick.take i).foldl (wayTrack y (sd, ln) path) W))), some (.dat (nI (n + 1))), some (.dat (nI sd)), some (.dat (nI ln)), none, none]) (.keep (.keep (.keep (.keep (.keep (.keep (.keep (.keep (.keep (.keep (.keep .nil))))))))))) (fun i d hd => ?_) ?_)
    · obtain ⟨t, et, rfl⟩ := ofMap hd
      have htm := List.mem_of_getElem? et
      have ht := hp t htm
      have eS2 := foldTake (step := wayTrack y (sd, ln) path) (b := W) et
      have ho2 : WOk y pick ((pick.take i).foldl (wayTrack y (sd, ln) path) W) := tracks_ok hy hps hnd _ W (fun u hu => ⟨hp u (List.mem_of_mem_take hu), List.mem_of_mem_take hu⟩) ho (show path.length < W.length by omega)
      obtain ⟨W2, e2⟩ := tracks_ge (y := y) (n := (sd, ln)) (path := path) (pick.take i) W
      have elk2 : lookW ((pick.take i).foldl (wayTrack y (sd, ln) path) W) (sd, ln) = some path := by
        rw [e2]
        unfold lookW at elk ⊢
        rw [List.find?_append]
        cases e : W.find? (fun e => decide (e.1 = (sd, ln))) with
        | none => rw [e] at elk; cases elk
        | some u => rw [e] at elk; simpa using elk
      generalize (pick.take i).foldl (wayTrack y (sd, ln) path) W = V at eS2 ho2 e2 elk2
      have vl := wok_len ho2
      have ety : y.ts.getD t (0, 0) = y.ts[t] := by simp [List.getD_eq_getElem?_getD, ht]
      have hb := hy.bnd _ (List.getElem_mem ht)
      have e3 : 1 - sd = 0 ∨ 1 - sd = 1 := by omega
      have pl2 : path.length + 1 ≤ 100000 := by omega
      have ewt : ∀ V, wayTrack y (sd, ln) path V t = if ¬ endOf y.ts[t] sd = ln then V else if (lookW V (1 - sd, endOf y.ts[t] (1 - sd))).isSome then V else V ++ [((1 - sd, endOf y.ts[t] (1 - sd)), path ++ [t])] := fun V => by
        unfold wayTrack othN
        rw [ety]
      rw [ewt] at eS2
      refine ⟨_, _, gtn 9 nd, ?_⟩
      refine ws_cons (ws_if (b := !decide (endOf y.ts[t] sd = ln)) (dt_c (cn_ne (de_ixT (endAt y.ts[t] hsd) (de_ixT (tsAt ht) (dix (dv 0)) (dv 9)) (dv 7)) (dv 8))) (fun h => ?_) (fun h => ws_nil ?_))
      · have h : ¬ endOf y.ts[t] sd = ln := by simpa using h
        rw [if_pos h] at eS2
        refine ws_one (ws_continue ?_)
        rw [eS2]
        exact .keep (.keep (.keep (.keep (.keep (.keep (.keep (.keep (.keep (.drop (.keep .nil))))))))))
      · have h : endOf y.ts[t] sd = ln := by simpa using h
        rw [if_neg (fun z => z h)] at eS2
        refine ws_cons (wset 10 nd (de_tup (ds := [nI (1 - sd), nI (endOf y.ts[t] (1 - sd))]) (da_cons (de_subN (by omega) (dn 1) (dv 7)) (da_one (de_ixT (endAt y.ts[t] e3) (de_ixT (tsAt ht) (dix (dv 0)) (dv 9)) (de_subN (by omega) (dn 1) (dv 7)))))) ?_)
        have ev := valW V (1 - sd, endOf y.ts[t] (1 - sd))
        refine ws_one (ws_if (b := !(valP (encW V) (key2 ((1 - sd : Nat) : Int) ((endOf y.ts[t] (1 - sd) : Nat) : Int))).isSome) (dt_c (cm_dnotin hr (dv 10) (da 5))) (fun h2 => ?_) (fun h2 => ws_nil ?_))
        · have h3 : lookW V (1 - sd, endOf y.ts[t] (1 - sd)) = none := by
            have ev : valP (encW V) (key2 ((1 - sd : Nat) : Int) ((endOf y.ts[t] (1 - sd) : Nat) : Int)) = _ := ev
            rw [ev] at h2
            simpa using h2
          rw [h3, if_neg (by simp)] at eS2
          have ev1 : valP (encW V) (key2 ((1 - sd : Nat) : Int) ((endOf y.ts[t] (1 - sd) : Nat) : Int)) = none := by
            have ev : valP (encW V) (key2 ((1 - sd : Nat) : Int) ((endOf y.ts[t] (1 - sd) : Nat) : Int)) = _ := ev
            rw [ev, h3]
            rfl
          have ev2 : valP (encW V) (key2 ((sd : Nat) : Int) ((ln : Nat) : Int)) = some (tN path) := by
            have ev : valP (encW V) (key2 ((sd : Nat) : Int) ((ln : Nat) : Int)) = _ := valW V (sd, ln)
            rw [ev, elk2]
            rfl
          refine ws_cons (ws_dput (i := ((1 - sd : Nat) : Int)) (j := ((endOf y.ts[t] (1 - sd) : Nat) : Int)) (n := 5) (kvs := encW V) (d := .tuple (path.map nI ++ [nI t])) hr
            (de_catT (de_dget (i := ((sd : Nat) : Int)) (j := ((ln : Nat) : Int)) (n := 5) (kvs := encW V) hr (da 5) (de_tup (ds := [nI sd, nI ln]) (da_cons (dv 7) (da_one (dv 8)))) (hd := ev2)) (de_tup (ds := [nI t]) (da_one (dv 9))) (by rw [List.length_map]; simp; omega))
            (da 5) (dv 10) (by simp [encW]; omega) ev1 rfl ?_)
          refine ws_one (ws_expr (de_append (da 4) rfl (dv 10) rfl (by rw [List.length_map]; omega)) ?_)
          rw [eS2]
          refine .keep (.keep (.keep (.keep (.keepE ?_ (.keepE ?_ (.keep (.keep (.keep (.drop (.drop .nil))))))))))
          · simp only [List.map_append, List.map_cons, List.map_nil]
          · simp only [encW, tN, List.map_append, List.map_cons, List.map_nil]
        · have h3 : (lookW V (1 - sd, endOf y.ts[t] (1 - sd))).isSome = true := by
            have ev : valP (encW V) (key2 ((1 - sd : Nat) : Int) ((endOf y.ts[t] (1 - sd) : Nat) : Int)) = _ := ev
            rw [ev] at h2
            simpa using h2
          rw [if_pos h3] at eS2
          rw [eS2]
          exact .keep (.keep (.keep (.keep (.keep (.keep (.keep (.keep (.keep (.drop (.drop .nil))))))))))
    · have e : pick.take (pick.map nI).length = pick := by simp
      rw [e]
      refine ⟨_, m - 1, .keep (.keep (.keep (.keep (.keep (.keep (.keep (.drop (.drop (.drop (.drop .nil)))))))))), by omega, n + 1, ⟨?_, by omega⟩, by rw [eS, eN]⟩
      rw [eS, eN]
      obtain ⟨W2, e2⟩ := tracks_ge (y := y) (n := (sd, ln)) (path := path) pick W
      rw [e2, List.length_append]
      omega
  · have hb : ¬ n < (wayIter y pick start n).length := of_decide_eq_false hb
    have el : wayIter y pick start (y.k + y.l) = wayIter y pick start n := by
      have := iter_stop (y := y) (pick := pick) (start := start) (n := n) (by omega) (y.k + y.l - n)
      rwa [show n + (y.k + y.l - n) = y.k + y.l by omega] at this
    refine ws_one (ws_ret (de_get1 (i := ((1 : Nat) : Int)) (j := (goal : Int)) (n := 5) hr (da 5) (de_tup (ds := [nI 1, nI goal]) (da_cons (dn 1) (da_one (dv 3))))) ?_)
    show AV.dat _ = AV.dat (encO (wayF y pick start goal))
    unfold wayF
    rw [el]
    have ev : valP (encW (wayIter y pick start n)) (key2 ((1 : Nat) : Int) (goal : Int)) = _ := valW (wayIter y pick start n) (1, goal)
    rw [ev]
    cases lookW (wayIter y pick start n) (1, goal) <;> rfl
end
end TW
end
section
set_option Elab.async false
set_option linter.all false
set_option maxRecDepth 100000
set_option maxHeartbeats 2000000
/-! The walk, 20: is_forest, cheapest_right. -/
namespace TW
open PySem PySem.Spec PyProof.Rows L2
open GxR (TabB TabG Tabbed GenS)
section
variable {G : Glb} {P : Program} {w : World} {K : PySem.W.Frag} {mg : Str → Option Value} {base : Heap}
def ForW (y : Yd) (pick : List Nat) : Prop := ∀ i t, pick[i]? = some t → wayF y (pick.take i) (y.ts.getD t (0, 0)).1 (y.ts.getD t (0, 0)).2 = none
abbrev R_is_forest (ds : List PyData) (d : PyData) : Prop := ∃ (y : Yd) (pick : List Nat), (YdOk y ∧ (∀ t ∈ pick, t < y.ts.length) ∧ ForW y pick) ∧ ds = [encY y, tN pick] ∧ d = .bool true
theorem c_is_forest (F : FnT K mg "is_forest" "is_forest" 42) (g : Fr mg) (c1 : Call P w K mg base 1 "way" (spD G 4 R_way)) : Call P w K mg base 2 "is_forest" (spD G 2 R_is_forest) := by
  refine callD F sc_is_forest b_is_forest fun f cdv A outer s0 H E hr ds d hR => ?_
  obtain ⟨y, pick, ⟨hy, hp, hf⟩, rfl, rfl⟩ := hR
  have nd := sc_is_forest.nd
  refine ws_cons (wfor (it_enum g.enumerate (dv 1)) (fun i => [some (.dat (encY y)), some (.dat (tN pick)), none, none, none, none]) (.refl _) (fun i d hd => ?_) ?_)
  · obtain ⟨x, ex, rfl⟩ := enumGet hd
    obtain ⟨t, et, rfl⟩ := ofMap ex
    have ht := hp t (List.mem_of_getElem? et)
    have hb := hy.bnd _ (List.getElem_mem ht)
    have hw := hf i t et
    rw [tsGetD ht] at hw
    refine ⟨_, _, gtu2 2 3 nd, ?_⟩
    refine ws_cons (ws_asg (de_ixT (tsAt ht) (dix (dv 0)) (dv 3)) (gtu2 4 5 nd) ?_)
    refine ws_one (ws_skip (dt_c (cm_notN (de_call c1 hr ⟨y, pick.take i, y.ts[t].1, y.ts[t].2, ⟨hy, fun u hu => hp u (List.mem_of_mem_take hu), hb.1⟩, rfl, rfl⟩ (da_cons (dv 0) (da_cons ((de_slT_to (dv 1) (dv 2)).to (by rw [← List.map_take])) (da_cons (dv 4) (da_one (dv 5)))))) (by rw [hw]; rfl))) ?_)
    exact .keep (.keep (.drop (.drop (.drop (.drop .nil)))))
  · exact ws_one (ws_ret de_bl rfl)
def CheW (y : Yd) (ps pick : List Nat) : Prop := ∀ t, t < y.ts.length → t ∉ pick → match wayF y pick (y.ts.getD t (0, 0)).1 (y.ts.getD t (0, 0)).2 with
    | none => ∀ o ∈ pick, ps.getD o 0 ≤ ps.getD t 0
    | some p => ∀ o ∈ p, ps.getD o 0 ≤ ps.getD t 0
abbrev R_cheapest_right (ds : List PyData) (d : PyData) : Prop := ∃ (y : Yd) (ps pick : List Nat), (YdOk y ∧ PrOk y ps ∧ PkOk y pick ∧ ForW y pick ∧ CheW y ps pick) ∧ ds = [encY y, tN ps, nI pick.length, tN pick] ∧ d = .bool true
theorem any_no {n : Nat} {pb : Nat → Bool} (h : ∀ i, i < n → pb i = false) : (List.range n).any pb = false := by
  rw [List.any_eq_false]
  intro i hi
  rw [h i (List.mem_range.mp hi)]
  simp
theorem c_cheapest_right {c tb : Addr} (F : FnC K mg "cheapest_right" "cheapest_right" "cheapest_right" (defArgs (top 43)) (defBody (top 43)) (defScope (top 43)) c) (hP : tb ∈ G.T) (hnL : ∀ p ∈ G.L, p.1 ≠ tb) (TB : TabB base mg c tb)
    (g : Fr mg) (c1 : Call P w K mg base 4 "is_yard" (spD G 1 R_is_yard)) (c2 : Call P w K mg base 4 "are_numbers" (spD G 2 R_are_numbers)) (c3 : Call P w K mg base 2 "is_pick" (spD G 2 R_is_pick)) (c4 : Call P w K mg base 1 "is_number_kernel" (spD G 3 R_is_number)) (c5 : Call P w K mg base 2 "is_forest" (spD G 2 R_is_forest)) (c6 : Call P w K mg base 1 "way" (spD G 4 R_way)) :
    Call P w K mg base 5 "cheapest_right" (spD G 4 R_cheapest_right) := by
  refine callDC F sc_cheapest_right b_cheapest_right fun f A outer s0 H E hr ds d hR => ?_
  obtain ⟨y, ps, pick, ⟨hy, hp, hk, hf, hc⟩, rfl, rfl⟩ := hR
  have nd := sc_cheapest_right.nd
  have tl := hy.len; have pl := hp.len; have kl := hk.len hy
  have kt : pick.length ≤ y.ts.length := nodup_len _ _ (hk.inc.imp fun h => Nat.ne_of_lt h) hk.bnd
  refine ws_cons (ws_skip (dt_w (torF (tnot (dtv (de_call c1 hr ⟨y, hy, rfl, rfl⟩ (da_one (dv 0))))) (torF (tnot (dtv (de_call c2 hr ⟨ps, 999, hp.bnd, rfl, rfl⟩ (da_cons (dv 1) (da_one (de_gint (by exact g.priceK))))))) (dw_or1 (dt_c (cn_ne (lenT (n := ps.length) g.len (dv 1)) (lenT (n := y.ts.length) g.len (dix (dv 0))) (by simp [pl]))))))) ?_)
  refine ws_cons (ws_skip (dt_w (torF (tnot (dtv (de_call c3 hr ⟨y, pick, ⟨hy, hk⟩, rfl, rfl⟩ (da_cons (dv 0) (da_one (dv 3)))))) (torF (tnot (dtv (de_call c4 hr ⟨pick.length, 0, y.ts.length, by omega, rfl, rfl⟩ (da_cons (dv 2) (da_cons de_int (da_one (lenT (n := y.ts.length) g.len (dix (dv 0))))))))) (torF (dt_c (cn_ne (lenT (n := pick.length) g.len (dv 3)) (dv 2) (by simp))) (dw_or1 (tnot (dtv (de_call c5 hr ⟨y, pick, ⟨hy, hk.bnd, hf⟩, rfl, rfl⟩ (da_cons (dv 0) (da_one (dv 3))))))))))) ?_)
  refine ws_cons (wfor (it_range (n := y.ts.length) g.range (by omega) (lenT (n := y.ts.length) g.len (dix (dv 0)))) (fun _ => [some (.dat (encY y)), some (.dat (tN ps)), some (.dat (nI pick.length)), some (.dat (tN pick)), none, none, none]) (.refl _) (fun i d hd => ?_) ?_)
  · obtain ⟨hi, rfl⟩ := rngGet hd
    have hb := hy.bnd _ (List.getElem_mem hi)
    refine ⟨_, _, gtn 4 nd, ?_⟩
    refine ws_one (ws_if (b := !decide (i ∈ pick)) (dt_c (cn_notin .tup (dv 4) (dv 3))) (fun h => ?_) (fun h => ws_nil ?_))
    · have h : i ∉ pick := by simpa using h
      have hcw := hc i hi h
      rw [tsGetD hi] at hcw
      refine ws_cons (wset 5 nd (de_call c6 hr ⟨y, pick, y.ts[i].1, y.ts[i].2, ⟨hy, hk.bnd, hb.1⟩, rfl, rfl⟩ (da_cons (dv 0) (da_cons (dv 3) (da_cons (dix (de_ixT (tsAt hi) (dix (dv 0)) (dv 4))) (da_one (dix (de_ixT (tsAt hi) (dix (dv 0)) (dv 4)))))))) ?_)
      have hi2 : i < ps.length := by omega
      cases e : wayF y pick y.ts[i].1 y.ts[i].2 with
      | none =>
        rw [e] at hcw
        refine ws_one (ws_skip (dtv ((de_anyG (pb := fun j => decide (ps.getD i 0 < ps.getD (pick.getD j 0) 0)) hr g.any TB rfl hP hnL ?g1 (difT (dt_c (cm_isN (dv 5))) (dv 3)) (elt_gt (ps := ps) (os := pick) (t := i) (iP := 1) (iT := 4) ?g2 ?g3 ?g4 ?g5 ?g6 ?g7 ?g8 ?g9 ?g10 hi2 ?g11 ?g12)).to ?g13)) ?g14)
        case g1 => exact gens_of rfl rfl (by decide) rfl rfl (by decide +kernel)
        case g2 => exact gens_of rfl rfl (by decide) rfl rfl (by decide +kernel)
        case g3 => rfl
        case g4 => rfl
        case g5 => rfl
        case g6 => rfl
        case g7 => rfl
        case g8 => rfl
        case g9 => rfl
        case g10 => rfl
        case g11 => exact fun o ho => by have := hk.bnd o ho; omega
        case g12 => omega
        case g13 =>
          rw [any_no fun j hj => decide_eq_false (by
            rw [List.length_map] at hj
            have := hcw _ (List.mem_of_getElem? (getDN hj))
            omega)]
        case g14 => exact .keep (.keep (.keep (.keep (.drop (.drop (.keep .nil))))))
      | some p =>
        rw [e] at hcw
        have hsub : ∀ o ∈ p, o < ps.length := fun o ho => by
          have ho2 : o ∈ pick := by
            have hm := look_mem (show lookW (wayIter y pick y.ts[i].1 (y.k + y.l)) (1, y.ts[i].2) = some p from e)
            exact (iter_ok hy hk.bnd hb.1 (y.k + y.l)).sub _ hm o ho
          have := hk.bnd o ho2
          omega
        refine ws_one (ws_skip (dtv ((de_anyG (pb := fun j => decide (ps.getD i 0 < ps.getD (p.getD j 0) 0)) hr g.any TB rfl hP hnL ?h1 (difF (dt_c (cm_isN (dv 5))) (dv 5)) (elt_gt (ps := ps) (os := p) (t := i) (iP := 1) (iT := 4) ?h2 ?h3 ?h4 ?h5 ?h6 ?h7 ?h8 ?h9 ?h10 hi2 hsub ?h12)).to ?h13)) ?h14)
        case h1 => exact gens_of rfl rfl (by decide) rfl rfl (by decide +kernel)
        case h2 => exact gens_of rfl rfl (by decide) rfl rfl (by decide +kernel)
        case h3 => rfl
        case h4 => rfl
        case h5 => rfl
        case h6 => rfl
        case h7 => rfl
        case h8 => rfl
        case h9 => rfl
        case h10 => rfl
        case h12 => omega
        case h13 =>
          rw [any_no fun j hj => decide_eq_false (by
            rw [List.length_map] at hj
            have := hcw _ (List.mem_of_getElem? (getDN hj))
            omega)]
        case h14 => exact .keep (.keep (.keep (.keep (.drop (.drop (.keep .nil))))))
    · exact .keep (.keep (.keep (.keep (.drop (.keep (.keep .nil))))))
  · exact ws_one (ws_ret de_bl rfl)
end
end TW
end
section
set_option Elab.async false
set_option linter.all false
/-! The plain law, 1: what hangs together by a list of edges; edges without a ring. -/
namespace TW
abbrev Eg := List (Nat × Nat)
inductive Cn (E : Eg) : Nat → Nat → Prop
  | refl (a : Nat) : Cn E a a
  | step {a b c : Nat} : Cn E a b → ((b, c) ∈ E ∨ (c, b) ∈ E) → Cn E a c
theorem Cn.trans {E : Eg} {a b c : Nat} (h : Cn E a b) (g : Cn E b c) : Cn E a c := by
  induction g with
  | refl => exact h
  | step _ e ih => exact .step ih e
theorem Cn.one {E : Eg} {b c : Nat} (e : (b, c) ∈ E ∨ (c, b) ∈ E) : Cn E b c := .step (.refl b) e
theorem Cn.symm {E : Eg} {a b : Nat} (h : Cn E a b) : Cn E b a := by
  induction h with
  | refl => exact .refl _
  | step _ e ih => exact (Cn.one e.symm).trans ih
theorem Cn.mono {E E' : Eg} (s : ∀ e ∈ E, e ∈ E') {a b : Nat} (h : Cn E a b) : Cn E' a b := by
  induction h with
  | refl => exact .refl _
  | step _ e ih => exact .step ih (e.imp (s _) (s _))
theorem Cn.red {E E' : Eg} (s : ∀ e ∈ E, Cn E' e.1 e.2) {a b : Nat} (h : Cn E a b) : Cn E' a b := by
  induction h with
  | refl => exact .refl _
  | step _ e ih =>
    rcases e with e | e
    · exact ih.trans (s _ e)
    · exact ih.trans (s _ e).symm
theorem cn_nil {a b : Nat} (h : Cn [] a b) : a = b := by
  cases h with
  | refl => rfl
  | step _ e => rcases e with e | e <;> cases e
theorem cn_cons {E : Eg} {u v a b : Nat} : Cn ((u, v) :: E) a b ↔ Cn E a b ∨ (Cn E a u ∧ Cn E v b) ∨ (Cn E a v ∧ Cn E u b) := by
  constructor
  · intro h
    induction h with
    | refl => exact .inl (.refl _)
    | @step x y _ e ih =>
      have e' : ((x, y) = (u, v) ∨ (y, x) = (u, v)) ∨ ((x, y) ∈ E ∨ (y, x) ∈ E) := by
        rcases e with e | e <;> rcases List.mem_cons.mp e with e | e
        · exact .inl (.inl e)
        · exact .inr (.inl e)
        · exact .inl (.inr e)
        · exact .inr (.inr e)
      rcases e' with (e | e) | e
      · cases e
        rcases ih with h | ⟨h, g⟩ | ⟨h, g⟩
        · exact .inr (.inl ⟨h, .refl _⟩)
        · exact .inr (.inl ⟨h, .refl _⟩)
        · exact .inl h
      · cases e
        rcases ih with h | ⟨h, g⟩ | ⟨h, g⟩
        · exact .inr (.inr ⟨h, .refl _⟩)
        · exact .inl h
        · exact .inr (.inr ⟨h, .refl _⟩)
      · rcases ih with h | ⟨h, g⟩ | ⟨h, g⟩
        · exact .inl (.step h e)
        · exact .inr (.inl ⟨h, .step g e⟩)
        · exact .inr (.inr ⟨h, .step g e⟩)
  · have m : ∀ {x y}, Cn E x y → Cn ((u, v) :: E) x y := fun h => h.mono fun e he => List.mem_cons_of_mem _ he
    have e0 : Cn ((u, v) :: E) u v := Cn.one (.inl List.mem_cons_self)
    rintro (h | ⟨h, g⟩ | ⟨h, g⟩)
    · exact m h
    · exact ((m h).trans e0).trans (m g)
    · exact ((m h).trans e0.symm).trans (m g)
/-- no edge closes a ring -/
def Ac : Eg → Prop
  | [] => True
  | e :: E => Ac E ∧ ¬ Cn E e.1 e.2
theorem Ac.sub {E E' : Eg} (s : E'.Sublist E) (h : Ac E) : Ac E' := by
  induction s with
  | slnil => exact h
  | cons e _ ih => exact ih h.1
  | cons_cons e s ih => exact ⟨ih h.1, fun c => h.2 (c.mono fun x hx => s.subset hx)⟩
/-! ### how many classes -/
theorem least {p : Nat → Prop} : (∃ i, p i) → ∃ i, p i ∧ ∀ j, j < i → ¬ p j := by
  rintro ⟨i, h⟩
  induction i using Nat.strongRecOn with
  | _ i ih =>
    by_cases q : ∃ j, j < i ∧ p j
    · obtain ⟨j, hj, hp⟩ := q
      exact ih j hj hp
    · exact ⟨i, h, fun j hj hp => q ⟨j, hj, hp⟩⟩
open Classical in
noncomputable def cnt (n : Nat) (p : Nat → Prop) : Nat := ((List.range n).filter fun i => decide (p i)).length
theorem cnt_succ {n : Nat} {p : Nat → Prop} : (p n → cnt (n + 1) p = cnt n p + 1) ∧ (¬ p n → cnt (n + 1) p = cnt n p) := by
  classical
  unfold cnt
  rw [List.range_succ, List.filter_append, List.length_append]
  constructor
  · intro h
    rw [List.filter_cons_of_pos (by simpa using h)]
    simp
  · intro h
    rw [List.filter_cons_of_neg (by simpa using h)]
    simp
theorem cnt_le {n : Nat} {p q : Nat → Prop} (h : ∀ i, i < n → p i → q i) : cnt n p ≤ cnt n q := by
  induction n with
  | zero => simp [cnt]
  | succ n ih =>
    have ih := ih fun i hi => h i (by omega)
    have a := cnt_succ (n := n) (p := p)
    have b := cnt_succ (n := n) (p := q)
    by_cases hp : p n
    · have hq := h n (by omega) hp
      rw [a.1 hp, b.1 hq]; omega
    · rw [a.2 hp]
      by_cases hq : q n
      · rw [b.1 hq]; omega
      · rw [b.2 hq]; exact ih
theorem cnt_congr {n : Nat} {p q : Nat → Prop} (h : ∀ i, i < n → (p i ↔ q i)) : cnt n p = cnt n q :=
  Nat.le_antisymm (cnt_le fun i hi => (h i hi).mp) (cnt_le fun i hi => (h i hi).mpr)
theorem cnt_all {n : Nat} {p : Nat → Prop} (h : ∀ i, i < n → p i) : cnt n p = n := by
  induction n with
  | zero => simp [cnt]
  | succ n ih => rw [cnt_succ.1 (h n (by omega)), ih fun i hi => h i (by omega)]
theorem cnt_ne {n r : Nat} {p : Nat → Prop} (hr : r < n) (h : p r) : cnt n (fun i => p i ∧ i ≠ r) + 1 = cnt n p := by
  induction n with
  | zero => omega
  | succ n ih =>
    have a := cnt_succ (n := n) (p := fun i => p i ∧ i ≠ r)
    have b := cnt_succ (n := n) (p := p)
    by_cases e : r = n
    · subst e
      rw [a.2 (fun z => z.2 rfl), b.1 h, cnt_congr (q := p) fun i hi => ⟨fun z => z.1, fun z => ⟨z, by omega⟩⟩]
    · have ih := ih (by omega)
      by_cases hp : p n
      · rw [a.1 ⟨hp, fun z => e z.symm⟩, b.1 hp]; omega
      · rw [a.2 (fun z => hp z.1), b.2 hp]; omega
theorem cnt_not {n : Nat} {p : Nat → Prop} : cnt n p + cnt n (fun i => ¬ p i) = n := by
  induction n with
  | zero => simp [cnt]
  | succ n ih =>
    have a := cnt_succ (n := n) (p := p)
    have b := cnt_succ (n := n) (p := fun i => ¬ p i)
    by_cases hp : p n
    · rw [a.1 hp, b.2 (fun z => z hp)]; omega
    · rw [a.2 hp, b.1 hp]; omega
/-- the least lane of a class -/
def Rep (E : Eg) (i : Nat) : Prop := ∀ j, j < i → ¬ Cn E j i
noncomputable def cls (n : Nat) (E : Eg) : Nat := cnt n (Rep E)
theorem cls_nil {n : Nat} : cls n [] = n := cnt_all fun i _ j hj h => by have := cn_nil h; omega
theorem cls_eqv {n : Nat} {E E' : Eg} (h : ∀ a b, Cn E a b ↔ Cn E' a b) : cls n E = cls n E' :=
  cnt_congr fun i _ => ⟨fun z j hj c => z j hj ((h _ _).mpr c), fun z j hj c => z j hj ((h _ _).mp c)⟩
theorem cn_dup {E : Eg} {u v : Nat} (c : Cn E u v) (a b : Nat) : Cn ((u, v) :: E) a b ↔ Cn E a b := by
  rw [cn_cons]
  constructor
  · rintro (h | ⟨h, g⟩ | ⟨h, g⟩)
    · exact h
    · exact (h.trans c).trans g
    · exact (h.trans c.symm).trans g
  · exact .inl
/-- the least lane that hangs together with one -/
def Lst (E : Eg) (i r : Nat) : Prop := Cn E r i ∧ ∀ j, Cn E j i → r ≤ j
theorem lst_ex (E : Eg) (i : Nat) : ∃ r, Lst E i r := by
  obtain ⟨r, h1, h2⟩ := least (p := fun j => Cn E j i) ⟨i, .refl _⟩
  exact ⟨r, h1, fun j hj => by
    by_cases q : r ≤ j
    · exact q
    · exact absurd hj (h2 j (by omega))⟩
theorem lst_rep {E : Eg} {i r : Nat} (h : Lst E i r) : Rep E r := fun j hj c => by have := h.2 j (c.trans h.1); omega
theorem rep_iff {E : Eg} {i r : Nat} (h : Lst E i r) : Rep E i ↔ r = i := by
  constructor
  · intro q
    have h1 := h.2 i (.refl _)
    by_cases e : r < i
    · exact absurd h.1 (q r e)
    · omega
  · rintro rfl
    exact lst_rep h
theorem lst_le {E : Eg} {i r : Nat} (h : Lst E i r) : r ≤ i := h.2 i (.refl _)
theorem lst_eq {E : Eg} {i j r s : Nat} (h : Lst E i r) (g : Lst E j s) (c : Cn E i j) : r = s :=
  Nat.le_antisymm (h.2 s (g.1.trans c.symm)) (g.2 r (h.1.trans c))
theorem lst_cn {E : Eg} {i j r : Nat} (h : Lst E i r) (g : Lst E j r) : Cn E i j := h.1.symm.trans g.1
theorem cls_add {n : Nat} {E : Eg} {u v : Nat} (hu : u < n) (hv : v < n) (c : ¬ Cn E u v) : cls n ((u, v) :: E) + 1 = cls n E := by
  obtain ⟨a, ha⟩ := lst_ex E u
  obtain ⟨b, hb⟩ := lst_ex E v
  have hab : a ≠ b := fun e => c (lst_cn ha (e ▸ hb))
  have la := lst_le ha
  have lb := lst_le hb
  have hm : Rep E (max a b) := by
    rcases Nat.le_total a b with h | h
    · rw [Nat.max_eq_right h]; exact lst_rep hb
    · rw [Nat.max_eq_left h]; exact lst_rep ha
  unfold cls
  rw [← cnt_ne (n := n) (r := max a b) (p := Rep E) (by omega) hm]
  congr 1
  refine cnt_congr fun i hi => ⟨fun h => ⟨fun j hj q => h j hj (cn_cons.mpr (.inl q)), fun e => ?_⟩, fun ⟨h, e⟩ j hj q => ?_⟩
  · have ab : Cn ((u, v) :: E) a b := cn_cons.mpr (.inr (.inl ⟨ha.1, hb.1.symm⟩))
    subst e
    rcases Nat.lt_or_ge a b with q | q
    · exact h a (by omega) (by rw [Nat.max_eq_right (by omega)]; exact ab)
    · exact h b (by omega) (by rw [Nat.max_eq_left q]; exact ab.symm)
  · rcases cn_cons.mp q with q | ⟨q1, q2⟩ | ⟨q1, q2⟩
    · exact h j hj q
    · have h1 := (rep_iff ⟨hb.1.trans q2, fun z hz => hb.2 z (hz.trans q2.symm)⟩).mp h
      have h2 := ha.2 j q1
      omega
    · have h1 := (rep_iff ⟨ha.1.trans q2, fun z hz => ha.2 z (hz.trans q2.symm)⟩).mp h
      have h2 := hb.2 j q1
      omega
def Bd (n : Nat) (E : Eg) : Prop := ∀ e ∈ E, e.1 < n ∧ e.2 < n
theorem cls_len {n : Nat} : ∀ {E : Eg}, Bd n E → n ≤ cls n E + E.length ∧ (cls n E + E.length = n ↔ Ac E)
  | [], _ => by
    rw [cls_nil]
    exact ⟨by simp, ⟨fun _ => trivial, fun _ => by simp⟩⟩
  | (u, v) :: E, h => by
    have hb := h (u, v) List.mem_cons_self
    obtain ⟨h1, h2⟩ := cls_len (E := E) fun e he => h e (List.mem_cons_of_mem _ he)
    by_cases c : Cn E u v
    · have e : cls n ((u, v) :: E) = cls n E := cls_eqv fun a b => cn_dup c a b
      rw [e, List.length_cons]
      exact ⟨by omega, ⟨fun z => by omega, fun z => absurd c z.2⟩⟩
    · have e : cls n ((u, v) :: E) + 1 = cls n E := cls_add hb.1 hb.2 c
      rw [List.length_cons]
      refine ⟨by omega, ⟨fun z => ⟨h2.mp (by omega), c⟩, fun z => ?_⟩⟩
      have := h2.mpr z.1
      omega
theorem cn_mem {E E' : Eg} (h : ∀ e, e ∈ E ↔ e ∈ E') (a b : Nat) : Cn E a b ↔ Cn E' a b := ⟨Cn.mono fun e he => (h e).mp he, Cn.mono fun e he => (h e).mpr he⟩
theorem bd_ex (E : Eg) : ∃ n, Bd n E := by
  induction E with
  | nil => exact ⟨0, fun e he => by cases he⟩
  | cons e E ih =>
    obtain ⟨n, h⟩ := ih
    refine ⟨n + e.1 + e.2 + 1, fun x hx => ?_⟩
    rcases List.mem_cons.mp hx with rfl | hx
    · omega
    · have := h x hx; omega
theorem Ac.perm {E E' : Eg} (p : E.Perm E') (h : Ac E) : Ac E' := by
  obtain ⟨n, hb⟩ := bd_ex E
  have hb' : Bd n E' := fun e he => hb e (p.mem_iff.mpr he)
  have e1 := (cls_len hb).2.mpr h
  have e2 : cls n E = cls n E' := cls_eqv (cn_mem fun e => p.mem_iff)
  have e3 := p.length_eq
  exact (cls_len hb').2.mp (by omega)
/-- lanes that a track touches -/
def Cov (E : Eg) (i : Nat) : Prop := ∃ e ∈ E, i = e.1 ∨ i = e.2
theorem cov_cn {E : Eg} {a b : Nat} (h : Cn E a b) (ne : a ≠ b) : Cov E b := by
  cases h with
  | refl => exact absurd rfl ne
  | step _ e =>
    rcases e with e | e
    · exact ⟨_, e, .inr rfl⟩
    · exact ⟨_, e, .inl rfl⟩
/-- without a ring there are more lanes than tracks -/
theorem cov_more {n : Nat} {E : Eg} (hb : Bd n E) (ha : Ac E) (ne : E ≠ []) : E.length < cnt n (Cov E) := by
  have h1 := (cls_len hb).2.mpr ha
  obtain ⟨⟨u, v⟩, E', rfl⟩ := List.exists_cons_of_ne_nil ne
  have bu := hb (u, v) List.mem_cons_self
  generalize hE : (u, v) :: E' = E at *
  obtain ⟨r, hr⟩ := lst_ex E u
  have cu : Cov E u := ⟨(u, v), by rw [← hE]; exact List.mem_cons_self, .inl rfl⟩
  have cr : Cov E r := by
    by_cases e : r = u
    · rw [e]; exact cu
    · exact cov_cn hr.1.symm fun z => e z.symm
  have hrn : r < n := by have := lst_le hr; omega
  have h2 := cnt_not (n := n) (p := Cov E)
  have h3 := cnt_ne (n := n) (r := r) (p := fun i => ¬ Cov E i ∨ i = r) hrn (.inr rfl)
  have h4 : cnt n (fun i => (¬ Cov E i ∨ i = r) ∧ i ≠ r) = cnt n (fun i => ¬ Cov E i) := cnt_congr fun i _ => ⟨fun ⟨z, q⟩ => z.resolve_right q, fun z => ⟨.inl z, fun e => z (e ▸ cr)⟩⟩
  have h5 : cnt n (fun i => ¬ Cov E i ∨ i = r) ≤ cls n E := cnt_le fun i _ z => by
    rcases z with z | rfl
    · intro j hj c
      exact z (cov_cn c (by omega))
    · exact lst_rep hr
  omega
end TW
end
section
set_option Elab.async false
set_option linter.all false
/-! The plain law, 2: of wagons that rise on the tracks of a forest one waits for none. -/
namespace TW
theorem sub_len : ∀ (l m : List Nat), l.Nodup → (∀ x ∈ l, x ∈ m) → l.length ≤ m.length
  | [], m, _, _ => by simp
  | x :: l, m, nd, h => by
    obtain ⟨n1, n2⟩ := List.nodup_cons.mp nd
    have hx := h x List.mem_cons_self
    have h1 := sub_len l (m.erase x) n2 fun y hy => by
      have ne : y ≠ x := fun e => n1 (e ▸ hy)
      exact (List.mem_erase_of_ne ne).mpr (h y (List.mem_cons_of_mem _ hy))
    have h2 := List.length_erase_of_mem hx
    have h3 := List.length_pos_of_mem hx
    rw [List.length_cons]
    omega
theorem nodup_filter {p : Nat → Bool} {l : List Nat} (h : l.Nodup) : (l.filter p).Nodup := List.Pairwise.filter p h
theorem pigeon {C U : List Nat} {f : Nat → Nat} (nd : C.Nodup) (h : ∀ v ∈ C, f v ∈ U) (lt : U.length < C.length) : ∃ v ∈ C, ∃ v' ∈ C, v ≠ v' ∧ f v = f v' := by
  classical
  by_cases q : ∃ v ∈ C, ∃ v' ∈ C, v ≠ v' ∧ f v = f v'
  · exact q
  · have h1 : (C.map f).Nodup := by
      unfold List.Nodup at nd ⊢
      rw [List.pairwise_map]
      exact nd.imp_of_mem fun {a b} ha hb hne e => q ⟨a, ha, b, hb, hne, e⟩
    have h2 := sub_len _ U h1 fun x hx => by
      obtain ⟨v, hv, rfl⟩ := List.mem_map.mp hx
      exact h v hv
    rw [List.length_map] at h2
    omega
theorem front {k n : Nat} {e1 e2 : Nat → Nat} {ns R : List Nat} {tk pl : Nat → Nat}
    (b1 : ∀ t ∈ ns, e1 t < k) (b2 : ∀ t ∈ ns, k ≤ e2 t ∧ e2 t < n) (ac : Ac (ns.map fun t => (e1 t, e2 t)))
    (hR : R ≠ []) (ht : ∀ w ∈ R, tk w ∈ ns) (rise : ∀ x ∈ R, ∀ z ∈ R, tk x = tk z → pl x < pl z → x < z) (inj : ∀ x ∈ R, ∀ z ∈ R, pl x = pl z → x = z) :
    ∃ x ∈ R, ∀ z ∈ R, (e1 (tk z) = e1 (tk x) → pl x ≤ pl z) ∧ (e2 (tk z) = e2 (tk x) → x ≤ z) := by
  classical
  let U := ns.filter fun t => decide (∃ w ∈ R, tk w = t)
  have hU : ∀ t, t ∈ U ↔ t ∈ ns ∧ ∃ w ∈ R, tk w = t := fun t => by
    show t ∈ List.filter _ _ ↔ _
    rw [List.mem_filter, decide_eq_true_eq]
  let E : Eg := U.map fun t => (e1 t, e2 t)
  have aE : Ac E := ac.sub (List.Sublist.map _ List.filter_sublist)
  obtain ⟨w0, R', eR⟩ := List.exists_cons_of_ne_nil hR
  have hw0 : w0 ∈ R := by rw [eR]; exact List.mem_cons_self
  have u0 : tk w0 ∈ U := (hU _).mpr ⟨ht _ hw0, w0, hw0, rfl⟩
  have neE : E ≠ [] := fun z => by
    have : (e1 (tk w0), e2 (tk w0)) ∈ E := List.mem_map.mpr ⟨_, u0, rfl⟩
    rw [z] at this
    cases this
  have bE : Bd n E := fun e he => by
    obtain ⟨t, htU, rfl⟩ := List.mem_map.mp he
    have h1 := b1 t ((hU t).mp htU).1
    have h2 := b2 t ((hU t).mp htU).1
    exact ⟨by show e1 t < n; omega, h2.2⟩
  have lt := cov_more bE aE neE
  have eE : E.length = U.length := List.length_map _
  rw [eE] at lt
  unfold cnt at lt
  let P : Nat → Nat → Prop := fun v w => w ∈ R ∧ (v = e1 (tk w) ∨ v = e2 (tk w))
  have best : ∀ v, ∃ x, Cov E v → P v x ∧ ∀ z, P v z → if v < k then pl x ≤ pl z else x ≤ z := fun v => by
    by_cases c : Cov E v
    · obtain ⟨e, he, hv⟩ := c
      obtain ⟨t, htU, rfl⟩ := List.mem_map.mp he
      obtain ⟨_, w, hw, rfl⟩ := (hU t).mp htU
      have hPw : P v w := ⟨hw, hv⟩
      by_cases q : v < k
      · obtain ⟨m, ⟨x, hx, rfl⟩, hm⟩ := least (p := fun m => ∃ x, P v x ∧ pl x = m) ⟨_, w, hPw, rfl⟩
        refine ⟨x, fun _ => ⟨hx, fun z hz => ?_⟩⟩
        rw [if_pos q]
        rcases Nat.lt_or_ge (pl z) (pl x) with l | l
        · exact absurd ⟨z, hz, rfl⟩ (hm _ l)
        · exact l
      · obtain ⟨x, hx, hm⟩ := least (p := P v) ⟨w, hPw⟩
        refine ⟨x, fun _ => ⟨hx, fun z hz => ?_⟩⟩
        rw [if_neg q]
        rcases Nat.lt_or_ge z x with l | l
        · exact absurd hz (hm _ l)
        · exact l
    · exact ⟨0, fun z => absurd z c⟩
  let f : Nat → Nat := fun v => Classical.choose (best v)
  have hf : ∀ v, Cov E v → P v (f v) ∧ ∀ z, P v z → if v < k then pl (f v) ≤ pl z else f v ≤ z := fun v => Classical.choose_spec (best v)
  obtain ⟨v, hv, v', hv', ne, eq⟩ := pigeon (f := fun v => tk (f v)) (U := U) (nodup_filter List.nodup_range) (fun v hv => by
    have c : Cov E v := of_decide_eq_true (List.mem_filter.mp hv).2
    have h := (hf v c).1
    exact (hU _).mpr ⟨ht _ h.1, f v, h.1, rfl⟩) lt
  have c : Cov E v := of_decide_eq_true (List.mem_filter.mp hv).2
  have c' : Cov E v' := of_decide_eq_true (List.mem_filter.mp hv').2
  have main : ∀ v v', Cov E v → Cov E v' → tk (f v) = tk (f v') → v = e1 (tk (f v)) → v' = e2 (tk (f v')) → ∃ x ∈ R, ∀ z ∈ R, (e1 (tk z) = e1 (tk x) → pl x ≤ pl z) ∧ (e2 (tk z) = e2 (tk x) → x ≤ z) := by
    intro v v' c c' eq i1 i2
    obtain ⟨p1, q1⟩ := hf v c
    obtain ⟨p2, q2⟩ := hf v' c'
    have l1 : v < k := by rw [i1]; exact b1 _ (ht _ p1.1)
    have l2 : ¬ v' < k := by rw [i2]; have := (b2 _ (ht _ p2.1)).1; omega
    have r1 := q1 (f v') ⟨p2.1, .inl (by rw [← eq]; exact i1)⟩
    have r2 := q2 (f v) ⟨p1.1, .inr (by rw [eq]; exact i2)⟩
    rw [if_pos l1] at r1
    rw [if_neg l2] at r2
    have r3 : pl (f v) = pl (f v') := by
      rcases Nat.lt_or_ge (pl (f v)) (pl (f v')) with l | l
      · have := rise _ p1.1 _ p2.1 eq l
        omega
      · omega
    have r4 := inj _ p1.1 _ p2.1 r3
    refine ⟨f v, p1.1, fun z hz => ⟨fun e => ?_, fun e => ?_⟩⟩
    · have := q1 z ⟨hz, .inl (by rw [e]; exact i1)⟩
      rwa [if_pos l1] at this
    · have := q2 z ⟨hz, .inr (by rw [e, r4]; exact i2)⟩
      rw [if_neg l2] at this
      omega
  have p1 := (hf v c).1
  have p2 := (hf v' c').1
  rcases p1.2 with i1 | i1 <;> rcases p2.2 with i2 | i2
  · exact absurd (by rw [i1, i2]; exact congrArg e1 eq) ne
  · exact main v v' c c' eq i1 i2
  · exact main v' v c' c eq.symm i2 i1
  · exact absurd (by rw [i1, i2]; exact congrArg e2 eq) ne
end TW
end
section
set_option Elab.async false
set_option linter.all false
set_option maxRecDepth 100000
/-! The plain law, 3: the choice by order; labels. -/
namespace TW
def edg (y : Yd) (ns : List Nat) : Eg := ns.map fun t => ((y.ts.getD t (0, 0)).1, y.k + (y.ts.getD t (0, 0)).2)
theorem ends_lt {y : Yd} (hy : YdOk y) {t : Nat} (h : t < y.ts.length) : (y.ts.getD t (0, 0)).1 < y.k ∧ (y.ts.getD t (0, 0)).2 < y.l := by
  rw [tsGetD h]
  exact hy.bnd _ (List.getElem_mem h)
theorem edg_bd {y : Yd} (hy : YdOk y) {ns : List Nat} (h : ∀ t ∈ ns, t < y.ts.length) : Bd (y.k + y.l) (edg y ns) := fun e he => by
  obtain ⟨t, ht, rfl⟩ := List.mem_map.mp he
  have := ends_lt hy (h t ht)
  constructor <;> simp only <;> omega
theorem edg_snoc {y : Yd} {ns : List Nat} {t : Nat} : (edg y (ns ++ [t])).Perm (((y.ts.getD t (0, 0)).1, y.k + (y.ts.getD t (0, 0)).2) :: edg y ns) := by
  unfold edg
  rw [List.map_append]
  exact List.perm_append_comm
theorem cn_snoc {y : Yd} {ns : List Nat} {t : Nat} (a b : Nat) : Cn (edg y (ns ++ [t])) a b ↔ Cn (((y.ts.getD t (0, 0)).1, y.k + (y.ts.getD t (0, 0)).2) :: edg y ns) a b := cn_mem (fun e => edg_snoc.mem_iff) a b
theorem edg_mem {y : Yd} {ns ms : List Nat} (h : ∀ t ∈ ns, t ∈ ms) : ∀ e ∈ edg y ns, e ∈ edg y ms := fun e he => by
  obtain ⟨t, ht, rfl⟩ := List.mem_map.mp he
  exact List.mem_map.mpr ⟨t, h t ht, rfl⟩
/-- labels that tell what hangs together -/
structure Rp (n : Nat) (E : Eg) (L : List Nat) : Prop where
  len : L.length = n
  iff : ∀ a b, a < n → b < n → (L.getD a 0 = L.getD b 0 ↔ Cn E a b)
theorem rp_range {n : Nat} : Rp n [] (List.range n) := ⟨by simp, fun a b ha hb => by
  have e : ∀ i, i < n → (List.range n).getD i 0 = i := fun i hi => by rw [List.getD_eq_getElem?_getD, List.getElem?_range hi]; rfl
  rw [e a ha, e b hb]
  exact ⟨fun h => h ▸ .refl _, cn_nil⟩⟩
theorem getD_map {L : List Nat} {f : Nat → Nat} {i : Nat} (h : i < L.length) : (L.map f).getD i 0 = f (L.getD i 0) := by
  rw [List.getD_eq_getElem?_getD, List.getElem?_map, getDN h]
  rfl
theorem rp_merge {n : Nat} {E : Eg} {L : List Nat} {u v x z : Nat} (h : Rp n E L) (hu : u < n) (hv : v < n) (q : (x = L.getD u 0 ∧ z = L.getD v 0) ∨ (x = L.getD v 0 ∧ z = L.getD u 0)) : Rp n ((u, v) :: E) (L.map fun m => if m = x then z else m) := by
  refine ⟨by rw [List.length_map]; exact h.len, fun a b ha hb => ?_⟩
  have hl := h.len
  rw [getD_map (by omega), getD_map (by omega), cn_cons]
  rw [← h.iff a b ha hb, ← h.iff a u ha hu, ← h.iff v b hv hb, ← h.iff a v ha hv, ← h.iff u b hu hb]
  generalize L.getD a 0 = la at *
  generalize L.getD b 0 = lb at *
  generalize L.getD u 0 = lu at *
  generalize L.getD v 0 = lv at *
  rcases q with ⟨rfl, rfl⟩ | ⟨rfl, rfl⟩ <;> split <;> split <;> omega
theorem rp_eqv {n : Nat} {E E' : Eg} {L : List Nat} (e : ∀ a b, Cn E a b ↔ Cn E' a b) (h : Rp n E L) : Rp n E' L := ⟨h.len, fun a b ha hb => (h.iff a b ha hb).trans (e a b)⟩
open Classical in
/-- the choice by order -/
noncomputable def greS (y : Yd) (acc : List Nat) (t : Nat) : List Nat := if Cn (edg y acc) (y.ts.getD t (0, 0)).1 (y.k + (y.ts.getD t (0, 0)).2) then acc else acc ++ [t]
noncomputable def greG (y : Yd) (acc ns : List Nat) : List Nat := ns.foldl (greS y) acc
noncomputable def gre (y : Yd) (ns : List Nat) : List Nat := greG y [] ns
theorem gre_pos {y : Yd} {acc : List Nat} {t : Nat} (c : Cn (edg y acc) (y.ts.getD t (0, 0)).1 (y.k + (y.ts.getD t (0, 0)).2)) : greS y acc t = acc := if_pos c
theorem gre_neg {y : Yd} {acc : List Nat} {t : Nat} (c : ¬ Cn (edg y acc) (y.ts.getD t (0, 0)).1 (y.k + (y.ts.getD t (0, 0)).2)) : greS y acc t = acc ++ [t] := if_neg c
theorem for_gre {y : Yd} (hy : YdOk y) : ∀ (ns : List Nat) (acc : List Nat) (q : List Nat × List Nat), (∀ t ∈ ns, t < y.ts.length) → q.1 = acc → Rp (y.k + y.l) (edg y acc) q.2 →
    (ns.foldl (forStep y) q).1 = greG y acc ns ∧ Rp (y.k + y.l) (edg y (greG y acc ns)) (ns.foldl (forStep y) q).2
  | [], acc, q, _, e, h => ⟨e, h⟩
  | t :: ns, acc, q, ht, e, h => by
    have hb := ends_lt hy (ht t List.mem_cons_self)
    have hi := h.iff (y.ts.getD t (0, 0)).1 (y.k + (y.ts.getD t (0, 0)).2) (by omega) (by omega)
    have ht' : ∀ u ∈ ns, u < y.ts.length := fun u hu => ht u (List.mem_cons_of_mem _ hu)
    unfold greG
    rw [List.foldl_cons, List.foldl_cons]
    by_cases c : Cn (edg y acc) (y.ts.getD t (0, 0)).1 (y.k + (y.ts.getD t (0, 0)).2)
    · have e1 : forStep y q t = q := if_pos (hi.mpr c)
      rw [gre_pos c, e1]
      exact for_gre hy ns acc q ht' e h
    · have e1 : forStep y q t = (q.1 ++ [t], q.2.map fun n => if n = q.2.getD (y.ts.getD t (0, 0)).1 0 then q.2.getD (y.k + (y.ts.getD t (0, 0)).2) 0 else n) := if_neg (fun z => c (hi.mp z))
      rw [gre_neg c, e1]
      refine for_gre hy ns (acc ++ [t]) _ ht' (by simp only [e]) (rp_eqv (fun a b => (cn_snoc a b).symm) ?_)
      exact rp_merge h (by omega) (by omega) (.inl ⟨rfl, rfl⟩)
theorem forF_gre {y : Yd} (hy : YdOk y) {ns : List Nat} (h : ∀ t ∈ ns, t < y.ts.length) : (forF y ns).1 = gre y ns := (for_gre hy ns [] ([], List.range (y.k + y.l)) h rfl rp_range).1
theorem che_gre {y : Yd} (hy : YdOk y) {m : Nat} : ∀ (ns : List Nat) (acc : List Nat) (q : List Nat × List Nat), (∀ t ∈ ns, t < y.ts.length) → q.1 = acc.take m → (acc.length ≤ m → Rp (y.k + y.l) (edg y acc) q.2) →
    (ns.foldl (cheStep y m) q).1 = (greG y acc ns).take m
  | [], acc, q, _, e, h => e
  | t :: ns, acc, q, ht, e, h => by
    have hb := ends_lt hy (ht t List.mem_cons_self)
    have ht' : ∀ u ∈ ns, u < y.ts.length := fun u hu => ht u (List.mem_cons_of_mem _ hu)
    have hl : q.1.length = min m acc.length := by rw [e, List.length_take]
    unfold greG
    rw [List.foldl_cons, List.foldl_cons]
    by_cases lm : acc.length < m
    · have hr := h (by omega)
      have hi := hr.iff (y.ts.getD t (0, 0)).1 (y.k + (y.ts.getD t (0, 0)).2) (by omega) (by omega)
      have eq : q.1 = acc := by rw [e]; exact List.take_of_length_le (by omega)
      by_cases c : Cn (edg y acc) (y.ts.getD t (0, 0)).1 (y.k + (y.ts.getD t (0, 0)).2)
      · have e1 : cheStep y m q t = q := if_neg (fun z => z.2 (hi.mpr c))
        rw [gre_pos c, e1]
        exact che_gre hy ns acc q ht' e h
      · have e1 : cheStep y m q t = (q.1 ++ [t], joinF q.2 (y.ts.getD t (0, 0)).1 (y.k + (y.ts.getD t (0, 0)).2)) := if_pos ⟨by omega, fun z => c (hi.mp z)⟩
        rw [gre_neg c, e1]
        refine che_gre hy ns (acc ++ [t]) _ ht' ?_ (fun _ => rp_eqv (fun a b => (cn_snoc a b).symm) ?_)
        · rw [List.take_of_length_le (by simp; omega), eq]
        · unfold joinF
          refine rp_merge hr (by omega) (by omega) ?_
          generalize q.2.getD (y.ts.getD t (0, 0)).1 0 = la
          generalize q.2.getD (y.k + (y.ts.getD t (0, 0)).2) 0 = lb
          omega
    · have e1 : cheStep y m q t = q := if_neg (fun z => by omega)
      rw [e1]
      by_cases c : Cn (edg y acc) (y.ts.getD t (0, 0)).1 (y.k + (y.ts.getD t (0, 0)).2)
      · rw [gre_pos c]
        exact che_gre hy ns acc q ht' e h
      · rw [gre_neg c]
        refine che_gre hy ns (acc ++ [t]) q ht' ?_ (fun z => ?_)
        · rw [e, List.take_append_of_le_length (by omega)]
        · rw [List.length_append] at z
          simp at z
          omega
theorem cheL_gre {y : Yd} (hy : YdOk y) {ps : List Nat} {m : Nat} (hp : ps.length = y.ts.length) : (cheL y ps m).1 = (gre y (ordN ps)).take m :=
  che_gre hy (ordN ps) [] ([], List.range (y.k + y.l)) (fun t ht => by have := ord_lt ht; omega) (by simp) fun _ => rp_range
/-! ### what the choice is like -/
theorem greG_sub {y : Yd} : ∀ (ns acc : List Nat), ∃ ms, greG y acc ns = acc ++ ms ∧ ms.Sublist ns
  | [], acc => ⟨[], by simp [greG], .slnil⟩
  | t :: ns, acc => by
    unfold greG
    rw [List.foldl_cons]
    by_cases c : Cn (edg y acc) (y.ts.getD t (0, 0)).1 (y.k + (y.ts.getD t (0, 0)).2)
    · rw [gre_pos c]
      obtain ⟨ms, e, s⟩ := greG_sub (y := y) ns acc
      exact ⟨ms, e, s.cons _⟩
    · rw [gre_neg c]
      obtain ⟨ms, e, s⟩ := greG_sub (y := y) ns (acc ++ [t])
      exact ⟨t :: ms, by rw [show ns.foldl (greS y) (acc ++ [t]) = greG y (acc ++ [t]) ns from rfl, e]; simp, s.cons_cons _⟩
theorem gre_sub {y : Yd} {ns : List Nat} : (gre y ns).Sublist ns := by
  obtain ⟨ms, e, s⟩ := greG_sub (y := y) ns []
  unfold gre
  rw [e]
  simpa using s
theorem greG_ac {y : Yd} : ∀ (ns acc : List Nat), Ac (edg y acc) → Ac (edg y (greG y acc ns))
  | [], acc, h => h
  | t :: ns, acc, h => by
    unfold greG
    rw [List.foldl_cons]
    by_cases c : Cn (edg y acc) (y.ts.getD t (0, 0)).1 (y.k + (y.ts.getD t (0, 0)).2)
    · rw [gre_pos c]
      exact greG_ac ns acc h
    · rw [gre_neg c]
      exact greG_ac ns (acc ++ [t]) (Ac.perm edg_snoc.symm ⟨h, c⟩)
theorem gre_ac {y : Yd} {ns : List Nat} : Ac (edg y (gre y ns)) := greG_ac ns [] trivial
theorem greG_cn {y : Yd} : ∀ (ns acc : List Nat), (∀ t ∈ ns, Cn (edg y (greG y acc ns)) (y.ts.getD t (0, 0)).1 (y.k + (y.ts.getD t (0, 0)).2))
  | [], acc, t, h => by cases h
  | t :: ns, acc, u, h => by
    unfold greG
    rw [List.foldl_cons]
    show Cn (edg y (greG y (greS y acc t) ns)) _ _
    rcases List.mem_cons.mp h with rfl | h
    · obtain ⟨ms, e, _⟩ := greG_sub (y := y) ns (greS y acc u)
      rw [e]
      by_cases c : Cn (edg y acc) (y.ts.getD u (0, 0)).1 (y.k + (y.ts.getD u (0, 0)).2)
      · rw [gre_pos c]
        exact c.mono (edg_mem fun t ht => List.mem_append_left _ ht)
      · rw [gre_neg c]
        exact Cn.one (.inl (List.mem_map.mpr ⟨u, by simp, rfl⟩))
    · exact greG_cn ns _ u h
theorem gre_cn {y : Yd} {ns : List Nat} (a b : Nat) : Cn (edg y (gre y ns)) a b ↔ Cn (edg y ns) a b := by
  refine ⟨Cn.mono (edg_mem fun t ht => gre_sub.subset ht), Cn.red fun e he => ?_⟩
  obtain ⟨t, ht, rfl⟩ := List.mem_map.mp he
  exact greG_cn ns [] t ht
theorem greG_ge {y : Yd} {ns ms acc : List Nat} : greG y acc (ns ++ ms) = greG y (greG y acc ns) ms := by unfold greG; rw [List.foldl_append]
theorem greG_all {y : Yd} : ∀ (ns acc : List Nat), Ac (edg y (acc ++ ns)) → greG y acc ns = acc ++ ns
  | [], acc, _ => by simp [greG]
  | t :: ns, acc, h => by
    have e : acc ++ t :: ns = (acc ++ [t]) ++ ns := by simp
    rw [e] at h ⊢
    have c : ¬ Cn (edg y acc) (y.ts.getD t (0, 0)).1 (y.k + (y.ts.getD t (0, 0)).2) := by
      have h1 : Ac (edg y (acc ++ [t])) := h.sub (List.Sublist.map _ (List.sublist_append_left _ _))
      exact (h1.perm edg_snoc).2
    unfold greG
    rw [List.foldl_cons, gre_neg c]
    exact greG_all ns (acc ++ [t]) h
theorem gre_all {y : Yd} {ns : List Nat} (h : Ac (edg y ns)) : gre y ns = ns := by
  have := greG_all (y := y) ns [] (by simpa using h)
  simpa [gre] using this
theorem edg_perm {y : Yd} {ns ms : List Nat} (p : ns.Perm ms) : (edg y ns).Perm (edg y ms) := p.map _
/-! ### the labels of a pick -/
structure Lb (n : Nat) (E : Eg) (f : List Int) : Prop where
  len : f.length = n
  unc : ∀ i, i < n → ¬ Cov E i → f.getD i 0 = -1
  cov : ∀ i, i < n → Cov E i → ∃ r, Lst E i r ∧ f.getD i 0 = (r : Int)
theorem lst_unc {E : Eg} {i : Nat} (h : ¬ Cov E i) : Lst E i i := ⟨.refl _, fun j c => by
  by_cases e : j = i
  · omega
  · exact absurd (cov_cn c e) h⟩
theorem lst_eqv {E E' : Eg} (h : ∀ a b, Cn E a b ↔ Cn E' a b) {i r : Nat} (l : Lst E i r) : Lst E' i r := ⟨(h _ _).mp l.1, fun j c => l.2 j ((h _ _).mpr c)⟩
theorem lst_uniq {E : Eg} {i r s : Nat} (h : Lst E i r) (g : Lst E i s) : r = s := lst_eq h g (.refl _)
/-- the lower one of two, and who hangs together with them -/
theorem lst_join {E : Eg} {u v ru rv i : Nat} (hu : Lst E u ru) (hv : Lst E v rv) (c : Cn E i u ∨ Cn E i v) : Lst ((u, v) :: E) i (min ru rv) := by
  have m : ∀ {x y}, Cn E x y → Cn ((u, v) :: E) x y := fun h => h.mono fun e he => List.mem_cons_of_mem _ he
  have e0 : Cn ((u, v) :: E) u v := Cn.one (.inl List.mem_cons_self)
  have hiu : Cn ((u, v) :: E) i u := by
    rcases c with c | c
    · exact m c
    · exact (m c).trans e0.symm
  constructor
  · rcases Nat.le_total ru rv with q | q
    · rw [Nat.min_eq_left q]
      exact (m hu.1).trans hiu.symm
    · rw [Nat.min_eq_right q]
      exact (m hv.1).trans (e0.symm.trans hiu.symm)
  · intro j cj
    rcases cn_cons.mp (cj.trans hiu) with q | ⟨q, _⟩ | ⟨q, _⟩
    · have := hu.2 j q; omega
    · have := hu.2 j q; omega
    · have := hv.2 j q; omega
theorem lst_other {E : Eg} {u v i r : Nat} (h : Lst E i r) (nu : ¬ Cn E i u) (nv : ¬ Cn E i v) : Lst ((u, v) :: E) i r := by
  refine ⟨h.1.mono fun e he => List.mem_cons_of_mem _ he, fun j cj => ?_⟩
  rcases cn_cons.mp cj with q | ⟨_, q⟩ | ⟨_, q⟩
  · exact h.2 j q
  · exact absurd q.symm nv
  · exact absurd q.symm nu
theorem lab_step {n k : Nat} {E : Eg} {f : List Int} {t : Nat × Nat} (h : Lb n E f) (ha : t.1 < n) (hb : k + t.2 < n) : Lb n ((t.1, k + t.2) :: E) (labStep k f t) := by
  obtain ⟨ru, hu⟩ := lst_ex E t.1
  obtain ⟨rv, hv⟩ := lst_ex E (k + t.2)
  have val : ∀ i r, i < n → Lst E i r → (Cov E i ∧ f.getD i 0 = (r : Int)) ∨ (¬ Cov E i ∧ f.getD i 0 = -1 ∧ r = i) := fun i r hi hr => by
    classical
    by_cases c : Cov E i
    · obtain ⟨s, hs, e⟩ := h.cov i hi c
      rw [lst_uniq hr hs]
      exact .inl ⟨c, e⟩
    · exact .inr ⟨c, h.unc i hi c, lst_uniq hr (lst_unc c)⟩
  have v1 := val _ _ ha hu
  have v2 := val _ _ hb hv
  have low : labLow k f t = ((min ru rv : Nat) : Int) := by
    unfold labLow
    simp only [decide_eq_true_eq]
    generalize f.getD t.1 0 = fa at *
    generalize f.getD (k + t.2) 0 = fb at *
    have q1 : (if 0 ≤ fa then fa else (t.1 : Int)) = (ru : Int) := by
      rcases v1 with ⟨_, e⟩ | ⟨_, e, e'⟩
      · rw [if_pos (by omega)]; exact e
      · rw [if_neg (by omega)]; omega
    have q2 : (if 0 ≤ fb then fb else ((k + t.2 : Nat) : Int)) = (rv : Int) := by
      rcases v2 with ⟨_, e⟩ | ⟨_, e, e'⟩
      · rw [if_pos (by omega)]; exact e
      · rw [if_neg (by omega)]; omega
    rw [q1, q2]
    split <;> omega
  have get : ∀ i, i < n → (labStep k f t).getD i 0 = if i = k + t.2 ∨ i = t.1 then labLow k f t else if decide (0 ≤ f.getD i 0) && decide (f.getD i 0 ∈ [f.getD t.1 0, f.getD (k + t.2) 0]) then labLow k f t else f.getD i 0 := fun i hi => by
    have hl := h.len
    unfold labStep
    rw [List.getD_eq_getElem?_getD, List.getElem?_set]
    by_cases q : k + t.2 = i
    · rw [if_pos q, if_pos (by simp only [List.length_set, List.length_map]; omega), if_pos (.inl q.symm)]
      rfl
    · rw [if_neg q, List.getElem?_set]
      by_cases q2 : t.1 = i
      · rw [if_pos q2, if_pos (by simp only [List.length_map]; omega), if_pos (.inr q2.symm)]
        rfl
      · rw [if_neg q2, if_neg (by omega), List.getElem?_map, getDI (by omega)]
        rfl
  have cov' : ∀ i, Cov ((t.1, k + t.2) :: E) i ↔ i = t.1 ∨ i = k + t.2 ∨ Cov E i := fun i => by
    constructor
    · rintro ⟨e, he, q⟩
      rcases List.mem_cons.mp he with rfl | he
      · rcases q with q | q
        · exact .inl q
        · exact .inr (.inl q)
      · exact .inr (.inr ⟨e, he, q⟩)
    · rintro (q | q | ⟨e, he, q⟩)
      · exact ⟨_, List.mem_cons_self, .inl q⟩
      · exact ⟨_, List.mem_cons_self, .inr q⟩
      · exact ⟨e, List.mem_cons_of_mem _ he, q⟩
  refine ⟨by rw [labStep_len]; exact h.len, fun i hi nc => ?_, fun i hi c => ?_⟩
  · have n1 : ¬ i = t.1 := fun z => nc ((cov' i).mpr (.inl z))
    have n2 : ¬ i = k + t.2 := fun z => nc ((cov' i).mpr (.inr (.inl z)))
    have n3 : ¬ Cov E i := fun z => nc ((cov' i).mpr (.inr (.inr z)))
    rw [get i hi, if_neg (by omega), h.unc i hi n3]
    rfl
  · by_cases q : i = k + t.2 ∨ i = t.1
    · refine ⟨min ru rv, lst_join hu hv ?_, by rw [get i hi, if_pos q, low]⟩
      rcases q with rfl | rfl
      · exact .inr (.refl _)
      · exact .inl (.refl _)
    · have ci : Cov E i := by
        rcases (cov' i).mp c with z | z | z
        · exact absurd (.inr z) q
        · exact absurd (.inl z) q
        · exact z
      obtain ⟨r, hr, e⟩ := h.cov i hi ci
      rw [get i hi, if_neg q]
      by_cases q2 : f.getD i 0 = f.getD t.1 0 ∨ f.getD i 0 = f.getD (k + t.2) 0
      · refine ⟨min ru rv, lst_join hu hv ?_, ?_⟩
        · rcases q2 with q2 | q2
          · rcases v1 with ⟨_, e1⟩ | ⟨_, e1, _⟩
            · have : r = ru := by omega
              exact .inl (lst_cn hr (this ▸ hu))
            · omega
          · rcases v2 with ⟨_, e1⟩ | ⟨_, e1, _⟩
            · have : r = rv := by omega
              exact .inr (lst_cn hr (this ▸ hv))
            · omega
        · have t1 : decide (0 ≤ f.getD i 0) = true := decide_eq_true (by omega)
          have t2 : decide (f.getD i 0 ∈ [f.getD t.1 0, f.getD (k + t.2) 0]) = true := decide_eq_true (by rw [List.mem_cons, List.mem_cons]; rcases q2 with q2 | q2; exact .inl q2; exact .inr (.inl q2))
          rw [t1, t2]
          simpa using low
      · have t2 : decide (f.getD i 0 ∈ [f.getD t.1 0, f.getD (k + t.2) 0]) = false := decide_eq_false (by simpa using q2)
        rw [t2]
        refine ⟨r, lst_other hr (fun z => q2 (.inl ?_)) (fun z => q2 (.inr ?_)), by simpa using e⟩
        · have er := lst_eq hr hu z
          rcases v1 with ⟨_, e1⟩ | ⟨nc, e1, _⟩
          · omega
          · exfalso
            by_cases w : i = t.1
            · exact q (.inr w)
            · exact nc (cov_cn z w)
        · have er := lst_eq hr hv z
          rcases v2 with ⟨_, e1⟩ | ⟨nc, e1, _⟩
          · omega
          · exfalso
            by_cases w : i = k + t.2
            · exact q (.inl w)
            · exact nc (cov_cn z w)
theorem lb_mem {n : Nat} {E E' : Eg} {f : List Int} (m : ∀ e, e ∈ E ↔ e ∈ E') (h : Lb n E f) : Lb n E' f := by
  have cv : ∀ i, Cov E i ↔ Cov E' i := fun i => ⟨fun ⟨e, he, q⟩ => ⟨e, (m e).mp he, q⟩, fun ⟨e, he, q⟩ => ⟨e, (m e).mpr he, q⟩⟩
  exact ⟨h.len, fun i hi c => h.unc i hi fun z => c ((cv i).mp z), fun i hi c => let ⟨r, hr, e⟩ := h.cov i hi ((cv i).mpr c); ⟨r, lst_eqv (cn_mem m) hr, e⟩⟩
theorem lab_go {y : Yd} (hy : YdOk y) : ∀ (ns acc : List Nat) (f : List Int), (∀ t ∈ ns, t < y.ts.length) → Lb (y.k + y.l) (edg y acc) f → Lb (y.k + y.l) (edg y (acc ++ ns)) (ns.foldl (fun f n => labStep y.k f (y.ts.getD n (0, 0))) f)
  | [], acc, f, _, h => by simpa using h
  | t :: ns, acc, f, ht, h => by
    have hb := ends_lt hy (ht t List.mem_cons_self)
    rw [List.foldl_cons, show acc ++ t :: ns = (acc ++ [t]) ++ ns by simp]
    refine lab_go hy ns (acc ++ [t]) _ (fun u hu => ht u (List.mem_cons_of_mem _ hu)) ?_
    exact lb_mem (fun e => edg_snoc.mem_iff.symm) (lab_step (t := y.ts.getD t (0, 0)) h (by omega) (by omega))
theorem labF_lb {y : Yd} (hy : YdOk y) {ns : List Nat} (h : ∀ t ∈ ns, t < y.ts.length) : Lb (y.k + y.l) (edg y ns) (labF y ns) := by
  have h0 : Lb (y.k + y.l) (edg y []) (List.replicate (y.k + y.l) (-1)) := ⟨by simp, fun i hi _ => by rw [List.getD_eq_getElem?_getD, List.getElem?_replicate, if_pos hi]; rfl, fun i hi ⟨e, he, _⟩ => by cases he⟩
  exact lab_go hy ns [] _ h h0
theorem jn_ac {y : Yd} (hy : YdOk y) {ns : List Nat} (h : ∀ t ∈ ns, t < y.ts.length) (ac : Ac (edg y ns)) : jnF (labF y ns) = ns.length := by
  have lb := labF_lb hy h
  have h1 := (cls_len (edg_bd hy h)).2.mpr ac
  have h2 := cnt_not (n := y.k + y.l) (p := Rep (edg y ns))
  have h3 : (edg y ns).length = ns.length := List.length_map _
  have h4 : jnF (labF y ns) = cnt (y.k + y.l) (fun i => ¬ Rep (edg y ns) i) := by
    unfold jnF cnt
    rw [lb.len]
    congr 1
    refine List.filter_congr fun i hi => ?_
    have hi := List.mem_range.mp hi
    classical
    refine Bool.eq_iff_iff.mpr (Iff.trans ?_ ⟨fun z => @decide_eq_true _ (_) z, fun z => @of_decide_eq_true _ (_) z⟩)
    show _ ↔ ¬ Rep (edg y ns) i
    rw [Bool.and_eq_true, Bool.not_eq_true', decide_eq_true_eq, decide_eq_false_iff_not]
    by_cases c : Cov (edg y ns) i
    · obtain ⟨r, hr, e⟩ := lb.cov i hi c
      rw [e, rep_iff hr]
      omega
    · have := (rep_iff (lst_unc c)).mpr rfl
      rw [lb.unc i hi c]
      exact ⟨fun z => by omega, fun z => absurd this z⟩
  unfold cls at h1
  omega
end TW
end
section
set_option Elab.async false
set_option linter.all false
set_option maxRecDepth 100000
/-! The plain law, 4: the law's pieces and rank. -/
namespace TW
structure Ah (E : Eg) (n : Nat) (found left ahead : List Nat) : Prop where
  nd : (found ++ ahead).Nodup
  cn : ∀ x ∈ ahead, x < n ∧ ∃ z ∈ left, Cn E z x
theorem nodup_snoc {l : List Nat} {x : Nat} (h : l.Nodup) (n : x ∉ l) : (l ++ [x]).Nodup := by
  rw [List.nodup_append]
  exact ⟨h, by simp, fun a ha b hb e => n (by simp at hb; rw [← hb, ← e]; exact ha)⟩
theorem ah_one {E : Eg} {n : Nat} {f l ah : List Nat} {u v : Nat} (h : Ah E n f l ah) (hv : v < n) (e : Cn E u v) : Ah E n f l (if u ∈ l ∧ v ∉ f ++ ah then ah ++ [v] else ah) := by
  split
  · rename_i q
    refine ⟨by rw [← List.append_assoc]; exact nodup_snoc h.nd q.2, fun x hx => ?_⟩
    rcases List.mem_append.mp hx with hx | hx
    · exact h.cn x hx
    · simp only [List.mem_cons, List.not_mem_nil, or_false] at hx
      rw [hx]
      exact ⟨hv, u, q.1, e⟩
  · exact h
theorem ah_in {f l ah : List Nat} {u v : Nat} : (∀ x ∈ f ++ ah, x ∈ f ++ (if u ∈ l ∧ v ∉ f ++ ah then ah ++ [v] else ah)) ∧ (u ∈ l → v ∈ f ++ (if u ∈ l ∧ v ∉ f ++ ah then ah ++ [v] else ah)) := by
  split
  · rename_i q
    exact ⟨fun x hx => by rw [← List.append_assoc]; exact List.mem_append_left _ hx, fun _ => by simp⟩
  · rename_i q
    refine ⟨fun x hx => hx, fun hu => ?_⟩
    rcases Decidable.em (v ∈ f ++ ah) with z | z
    · exact z
    · exact absurd ⟨hu, z⟩ q
theorem rch_one {y : Yd} (hy : YdOk y) {E : Eg} {f l ah : List Nat} {t : Nat} (ht : t < y.ts.length) (he : ((y.ts.getD t (0, 0)).1, y.k + (y.ts.getD t (0, 0)).2) ∈ E) (h : Ah E (y.k + y.l) f l ah) :
    Ah E (y.k + y.l) f l (rchT y f l ah t) ∧ (∀ x ∈ f ++ ah, x ∈ f ++ rchT y f l ah t) ∧ ((y.ts.getD t (0, 0)).1 ∈ l → y.k + (y.ts.getD t (0, 0)).2 ∈ f ++ rchT y f l ah t) ∧ (y.k + (y.ts.getD t (0, 0)).2 ∈ l → (y.ts.getD t (0, 0)).1 ∈ f ++ rchT y f l ah t) := by
  have hb := ends_lt hy ht
  have c := Cn.one (.inl he)
  unfold rchT
  simp only
  generalize (y.ts.getD t (0, 0)).1 = a at *
  generalize hbb : y.k + (y.ts.getD t (0, 0)).2 = b at *
  have h1 := ah_one (u := a) (v := b) h (by omega) c
  have i1 := ah_in (f := f) (l := l) (ah := ah) (u := a) (v := b)
  generalize (if a ∈ l ∧ b ∉ f ++ ah then ah ++ [b] else ah) = ah1 at *
  have h2 := ah_one (u := b) (v := a) h1 (by omega) c.symm
  have i2 := ah_in (f := f) (l := l) (ah := ah1) (u := b) (v := a)
  exact ⟨h2, fun x hx => i2.1 x (i1.1 x hx), fun q => i2.1 _ (i1.2 q), i2.2⟩
theorem rch_all {y : Yd} (hy : YdOk y) {E : Eg} {f l : List Nat} : ∀ (ns ah : List Nat), (∀ t ∈ ns, t < y.ts.length ∧ ((y.ts.getD t (0, 0)).1, y.k + (y.ts.getD t (0, 0)).2) ∈ E) → Ah E (y.k + y.l) f l ah →
    Ah E (y.k + y.l) f l (ns.foldl (rchT y f l) ah) ∧ (∀ x ∈ f ++ ah, x ∈ f ++ ns.foldl (rchT y f l) ah) ∧ ∀ t ∈ ns, ((y.ts.getD t (0, 0)).1 ∈ l → y.k + (y.ts.getD t (0, 0)).2 ∈ f ++ ns.foldl (rchT y f l) ah) ∧ (y.k + (y.ts.getD t (0, 0)).2 ∈ l → (y.ts.getD t (0, 0)).1 ∈ f ++ ns.foldl (rchT y f l) ah)
  | [], ah, _, h => ⟨h, fun x hx => hx, fun t ht => by cases ht⟩
  | t :: ns, ah, ht, h => by
    have h0 := ht t List.mem_cons_self
    obtain ⟨h1, h2, h3, h4⟩ := rch_one hy h0.1 h0.2 h
    obtain ⟨g1, g2, g3⟩ := rch_all hy ns (rchT y f l ah t) (fun u hu => ht u (List.mem_cons_of_mem _ hu)) h1
    rw [List.foldl_cons]
    refine ⟨g1, fun x hx => g2 x (h2 x hx), fun u hu => ?_⟩
    rcases List.mem_cons.mp hu with rfl | hu
    · exact ⟨fun q => g2 _ (h3 q), fun q => g2 _ (h4 q)⟩
    · exact g3 u hu
structure Rc (y : Yd) (ns : List Nat) (lane i : Nat) (q : List Nat × List Nat) : Prop where
  nd : q.1.Nodup
  cn : ∀ x ∈ q.1, x < y.k + y.l ∧ Cn (edg y ns) lane x
  sub : ∀ x ∈ q.2, x ∈ q.1
  cl : ∀ t ∈ ns, ((y.ts.getD t (0, 0)).1 ∈ q.1 → (y.ts.getD t (0, 0)).1 ∈ q.2 ∨ y.k + (y.ts.getD t (0, 0)).2 ∈ q.1) ∧ (y.k + (y.ts.getD t (0, 0)).2 ∈ q.1 → y.k + (y.ts.getD t (0, 0)).2 ∈ q.2 ∨ (y.ts.getD t (0, 0)).1 ∈ q.1)
  big : q.2 = [] ∨ i + 1 ≤ q.1.length
  ln : lane ∈ q.1
theorem rc_iter {y : Yd} (hy : YdOk y) {ns : List Nat} (hn : ∀ t ∈ ns, t < y.ts.length) {lane : Nat} (hl : lane < y.k + y.l) : ∀ i, Rc y ns lane i (rchIter y ns i ([lane], [lane]))
  | 0 => ⟨by simp [rchIter], fun x hx => by simp [rchIter] at hx; subst hx; exact ⟨hl, .refl _⟩, fun x hx => hx, fun t _ => ⟨.inl, .inl⟩, .inr (by simp [rchIter]), by simp [rchIter]⟩
  | i + 1 => by
    have h := rc_iter hy hn hl i
    show Rc y ns lane (i + 1) (rchStep y ns (rchIter y ns i ([lane], [lane])))
    generalize rchIter y ns i ([lane], [lane]) = q at h
    obtain ⟨g1, g2, g3⟩ := rch_all hy (E := edg y ns) (f := q.1) (l := q.2) ns [] (fun t ht => ⟨hn t ht, List.mem_map.mpr ⟨t, ht, rfl⟩⟩) ⟨by simpa using h.nd, fun x hx => by cases hx⟩
    unfold rchStep
    generalize ns.foldl (rchT y q.1 q.2) [] = ah at g1 g2 g3
    refine ⟨g1.nd, fun x hx => ?_, fun x hx => List.mem_append_right _ hx, fun t ht => ⟨fun hx => ?_, fun hx => ?_⟩, ?_, List.mem_append_left _ h.ln⟩
    · rcases List.mem_append.mp hx with hx | hx
      · exact h.cn x hx
      · obtain ⟨h1, z, hz, c⟩ := g1.cn x hx
        exact ⟨h1, (h.cn z (h.sub z hz)).2.trans c⟩
    · rcases List.mem_append.mp hx with hx | hx
      · rcases (h.cl t ht).1 hx with z | z
        · exact .inr ((g3 t ht).1 z)
        · exact .inr (List.mem_append_left _ z)
      · exact .inl hx
    · rcases List.mem_append.mp hx with hx | hx
      · rcases (h.cl t ht).2 hx with z | z
        · exact .inr ((g3 t ht).2 z)
        · exact .inr (List.mem_append_left _ z)
      · exact .inl hx
    · cases e : ah with
      | nil => exact .inl rfl
      | cons x r =>
        refine .inr ?_
        rcases h.big with z | z
        · obtain ⟨_, u, hu, _⟩ := g1.cn x (by rw [e]; exact List.mem_cons_self)
          rw [z] at hu
          cases hu
        · show i + 1 + 1 ≤ (q.1 ++ (x :: r)).length
          rw [List.length_append, List.length_cons]
          omega
theorem rchF_ok {y : Yd} (hy : YdOk y) {ns : List Nat} (hn : ∀ t ∈ ns, t < y.ts.length) {lane : Nat} (hl : lane < y.k + y.l) : (rchF y ns lane).Nodup ∧ ∀ x, x ∈ rchF y ns lane ↔ (x < y.k + y.l ∧ Cn (edg y ns) lane x) := by
  have h := rc_iter hy hn hl (y.k + y.l)
  have p := (sortN_ok (rchIter y ns (y.k + y.l) ([lane], [lane])).1).1
  unfold rchF
  generalize rchIter y ns (y.k + y.l) ([lane], [lane]) = q at h p
  refine ⟨p.nodup_iff.mpr h.nd, fun x => ?_⟩
  rw [p.mem_iff]
  refine ⟨h.cn x, ?_⟩
  rintro ⟨c1, c⟩
  clear c1
  have h1 := nodup_len _ _ h.nd fun x hx => (h.cn x hx).1
  have e : q.2 = [] := by
    rcases h.big with z | z
    · exact z
    · omega
  clear p
  induction c with
  | refl => exact h.ln
  | @step u v _ m ih =>
    rcases m with m | m
    · obtain ⟨t, ht, e1⟩ := List.mem_map.mp m
      injection e1 with e1 e2
      have := (h.cl t ht).1 (by rw [e1]; exact ih)
      rw [e, e2] at this
      rcases this with z | z
      · cases z
      · exact z
    · obtain ⟨t, ht, e1⟩ := List.mem_map.mp m
      injection e1 with e1 e2
      have := (h.cl t ht).2 (by rw [e2]; exact ih)
      rw [e, e1] at this
      rcases this with z | z
      · cases z
      · exact z
/-! ### the pieces -/
structure Pc (y : Yd) (ns : List Nat) (ls : List (List Nat)) : Prop where
  lot : ∀ l ∈ ls, ∃ lane, lane < y.k + y.l ∧ l = rchF y ns lane
  nd : ls.flatten.Nodup
theorem pc_go {y : Yd} (hy : YdOk y) {ns : List Nat} (hn : ∀ t ∈ ns, t < y.ts.length) : ∀ (lanes : List Nat) (ls : List (List Nat)), (∀ x ∈ lanes, x < y.k + y.l) → Pc y ns ls → Pc y ns (lanes.foldl (pieStep y ns) ls)
  | [], ls, _, h => h
  | x :: lanes, ls, hx, h => by
    have hx0 := hx x List.mem_cons_self
    rw [List.foldl_cons]
    refine pc_go hy hn lanes _ (fun z hz => hx z (List.mem_cons_of_mem _ hz)) ?_
    by_cases q : tchd y ns x ≠ [] ∧ (ls.filter fun lot => decide (x ∈ lot)) = []
    · rw [pie_pos q]
      obtain ⟨r1, r2⟩ := rchF_ok hy hn hx0
      refine ⟨fun l hl => ?_, ?_⟩
      · rcases List.mem_append.mp hl with hl | hl
        · exact h.lot l hl
        · simp only [List.mem_cons, List.not_mem_nil, or_false] at hl
          exact ⟨x, hx0, hl⟩
      · rw [List.flatten_append, List.nodup_append]
        refine ⟨h.nd, by simpa using r1, fun a ha b hb e => ?_⟩
        subst e
        have hb : a ∈ rchF y ns x := by simpa using hb
        obtain ⟨l, hl, hal⟩ := List.mem_flatten.mp ha
        obtain ⟨lane, hlane, rfl⟩ := h.lot l hl
        have c1 := ((rchF_ok hy hn hlane).2 a).mp hal
        have c2 := (r2 a).mp hb
        have : x ∈ rchF y ns lane := ((rchF_ok hy hn hlane).2 x).mpr ⟨hx0, c1.2.trans c2.2.symm⟩
        have := List.filter_eq_nil_iff.mp q.2 _ hl
        simp at this
        contradiction
    · rw [pie_neg q]
      exact h
theorem pie_ok {y : Yd} (hy : YdOk y) {ns : List Nat} (hn : ∀ t ∈ ns, t < y.ts.length) : Pc y ns (pieF y ns) :=
  pc_go hy hn _ [] (fun x hx => List.mem_range.mp hx) ⟨fun l hl => (by cases hl), by simp⟩
theorem len_split (p : Nat → Bool) : ∀ l : List Nat, l.length = (l.filter p).length + (l.filter fun i => !p i).length
  | [] => rfl
  | x :: l => by
    have := len_split p l
    cases h : p x
    · rw [List.filter_cons_of_neg (by simp [h]), List.filter_cons_of_pos (by simp [h]), List.length_cons, List.length_cons]; omega
    · rw [List.filter_cons_of_pos (by simp [h]), List.filter_cons_of_neg (by simp [h]), List.length_cons, List.length_cons]; omega
theorem sum_lots {E : Eg} {n : Nat} : ∀ (ls : List (List Nat)), (∀ l ∈ ls, l ≠ [] ∧ l.Nodup ∧ ∃ r, ∀ x ∈ l, Rep E x → x = r) → ∃ s : Nat, ((ls.map List.length).map Int.ofNat).sum = (s : Int) ∧ ls.length ≤ s ∧ ∀ (d : ∀ i, Decidable (¬ Rep E i)), s ≤ ls.length + (ls.flatten.filter fun i => @decide _ (d i)).length
  | [], _ => ⟨0, rfl, by simp, fun _ => by simp⟩
  | l :: ls, h => by
    obtain ⟨s, e, h1, h2⟩ := sum_lots (E := E) (n := n) ls fun x hx => h x (List.mem_cons_of_mem _ hx)
    obtain ⟨ne, nd, r, hr⟩ := h l List.mem_cons_self
    have hp := List.length_pos_iff.mpr ne
    refine ⟨l.length + s, ?_, ?_, fun d => ?_⟩
    · rw [List.map_cons, List.map_cons, List.sum_cons, e]
      show (l.length : Int) + s = _
      omega
    · rw [List.length_cons]; omega
    · have h3 := h2 d
      rw [List.flatten_cons, List.filter_append, List.length_append, List.length_cons]
      have h4 : l.length ≤ (l.filter fun i => @decide _ (d i)).length + 1 := by
        have a := len_split (fun i => @decide _ (d i)) l
        have b : (l.filter fun i => !(@decide _ (d i))).length ≤ [r].length := sub_len _ _ (nodup_filter nd) fun x hx => by
          obtain ⟨hx, q⟩ := List.mem_filter.mp hx
          have q2 : ¬ ¬ Rep E x := by
            rw [Bool.not_eq_true'] at q
            exact @of_decide_eq_false _ (d x) q
          rw [hr x hx (Classical.byContradiction q2)]
          exact List.mem_cons_self
        simp only [List.length_cons, List.length_nil] at b
        omega
      omega
theorem rank_ok {y : Yd} (hy : YdOk y) {ns ms : List Nat} (hn : ∀ t ∈ ns, t < y.ts.length) (p : ms.Perm ns) : 0 ≤ rankZ y ns ∧ rankZ y ns ≤ ((gre y ms).length : Int) := by
  classical
  have hp := pie_ok hy hn
  obtain ⟨s, e, h1, h2⟩ := sum_lots (E := edg y ns) (n := y.k + y.l) (pieF y ns) fun l hl => by
    obtain ⟨lane, hlane, rfl⟩ := hp.lot l hl
    obtain ⟨r1, r2⟩ := rchF_ok hy hn hlane
    have hm : lane ∈ rchF y ns lane := (r2 _).mpr ⟨hlane, .refl _⟩
    obtain ⟨r, hr⟩ := lst_ex (edg y ns) lane
    refine ⟨fun z => (by rw [z] at hm; cases hm), r1, r, fun x hx q => ?_⟩
    have c := ((r2 x).mp hx).2
    exact ((rep_iff ⟨hr.1.trans c, fun j hj => hr.2 j (hj.trans c.symm)⟩).mp q).symm
  have hms : ∀ t ∈ ms, t < y.ts.length := fun t ht => hn t (p.mem_iff.mp ht)
  have hg : ∀ t ∈ gre y ms, t < y.ts.length := fun t ht => hms t (gre_sub.subset ht)
  have c1 := (cls_len (edg_bd hy hg)).2.mpr gre_ac
  have c2 : cls (y.k + y.l) (edg y (gre y ms)) = cls (y.k + y.l) (edg y ns) := cls_eqv fun a b => (gre_cn a b).trans (cn_mem (fun e => (edg_perm p).mem_iff) a b)
  have c3 := cnt_not (n := y.k + y.l) (p := Rep (edg y ns))
  have c4 : (edg y (gre y ms)).length = (gre y ms).length := List.length_map _
  have c5 : ((pieF y ns).flatten.filter fun i => decide (¬ Rep (edg y ns) i)).length ≤ cnt (y.k + y.l) fun i => ¬ Rep (edg y ns) i := by
    unfold cnt
    refine sub_len _ _ (nodup_filter hp.nd) fun x hx => ?_
    obtain ⟨hx, q⟩ := List.mem_filter.mp hx
    obtain ⟨l, hl, hxl⟩ := List.mem_flatten.mp hx
    obtain ⟨lane, hlane, rfl⟩ := hp.lot l hl
    exact List.mem_filter.mpr ⟨List.mem_range.mpr (((rchF_ok hy hn hlane).2 x).mp hxl).1, @decide_eq_true _ (_) (of_decide_eq_true q)⟩
  have h3 : s ≤ (pieF y ns).length + ((pieF y ns).flatten.filter fun i => decide (¬ Rep (edg y ns) i)).length := h2 (fun i => inferInstance)
  unfold cls at c1 c2
  unfold rankZ
  rw [e]
  omega
end TW
end
section
set_option Elab.async false
set_option linter.all false
set_option maxRecDepth 100000
/-! The plain law, 5: ways; the cheapest pick. -/
namespace TW
def nix (y : Yd) (n : Nd) : Nat := if n.1 = 0 then n.2 else y.k + n.2
def without (pick : List Nat) (t : Nat) : List Nat := pick.filter fun u => decide (u ≠ t)
theorem without_mem {pick : List Nat} {t u : Nat} : u ∈ without pick t ↔ u ∈ pick ∧ u ≠ t := by
  unfold without
  rw [List.mem_filter, decide_eq_true_eq]
theorem without_perm : ∀ {pick : List Nat} {t : Nat}, pick.Nodup → t ∈ pick → (t :: without pick t).Perm pick
  | [], t, _, h => by cases h
  | x :: pick, t, nd, h => by
    obtain ⟨n1, n2⟩ := List.nodup_cons.mp nd
    unfold without
    by_cases e : x = t
    · subst e
      rw [List.filter_cons_of_neg (by simp)]
      have : (pick.filter fun u => decide (u ≠ x)) = pick := List.filter_eq_self.mpr fun u hu => decide_eq_true fun z => n1 (z ▸ hu)
      rw [this]
    · rw [List.filter_cons_of_pos (by simpa using e)]
      have h1 : t ∈ pick := by
        rcases List.mem_cons.mp h with h | h
        · exact absurd h.symm e
        · exact h
      exact (List.Perm.swap _ _ _).trans ((without_perm n2 h1).cons x)
theorem ac_without {y : Yd} {pick : List Nat} {t : Nat} (ac : Ac (edg y pick)) (nd : pick.Nodup) (h : t ∈ pick) : ¬ Cn (edg y (without pick t)) (y.ts.getD t (0, 0)).1 (y.k + (y.ts.getD t (0, 0)).2) :=
  (ac.perm (edg_perm (without_perm nd h)).symm).2
def Key (W : Wy) (n : Nd) : Prop := ∃ e ∈ W, e.1 = n
theorem look_some {W : Wy} {n : Nd} (h : (lookW W n).isSome) : Key W n := by
  obtain ⟨p, e⟩ := Option.isSome_iff_exists.mp h
  exact ⟨_, look_mem e, rfl⟩
structure Wv (y : Yd) (pick : List Nat) (start : Nat) (W : Wy) : Prop where
  cn : ∀ e ∈ W, Cn (edg y e.2) start (nix y e.1)
  ends : ∀ e ∈ W, ∀ t ∈ e.2, Key W (0, (y.ts.getD t (0, 0)).1) ∧ Key W (1, (y.ts.getD t (0, 0)).2)
  sub : ∀ e ∈ W, ∀ t ∈ e.2, t ∈ pick
  sep : Ac (edg y pick) → pick.Nodup → ∀ e ∈ W, ∀ t ∈ e.2, ¬ Cn (edg y (without pick t)) start (nix y e.1)
theorem key_app {W V : Wy} {n : Nd} (h : Key W n) : Key (W ++ V) n := let ⟨e, he, q⟩ := h; ⟨e, List.mem_append_left _ he, q⟩
theorem edg_in {y : Yd} {ns : List Nat} {t : Nat} (h : t ∈ ns) : Cn (edg y ns) (y.ts.getD t (0, 0)).1 (y.k + (y.ts.getD t (0, 0)).2) := Cn.one (.inl (List.mem_map.mpr ⟨t, h, rfl⟩))
/-- a track and the two nodes that it joins -/
theorem two_ends {y : Yd} {n : Nd} {t : Nat} (hn : n.1 = 0 ∨ n.1 = 1) (h : endOf (y.ts.getD t (0, 0)) n.1 = n.2) :
    (nix y n = (y.ts.getD t (0, 0)).1 ∧ nix y (othN y n t) = y.k + (y.ts.getD t (0, 0)).2 ∧ n = (0, (y.ts.getD t (0, 0)).1) ∧ othN y n t = (1, (y.ts.getD t (0, 0)).2)) ∨
    (nix y n = y.k + (y.ts.getD t (0, 0)).2 ∧ nix y (othN y n t) = (y.ts.getD t (0, 0)).1 ∧ n = (1, (y.ts.getD t (0, 0)).2) ∧ othN y n t = (0, (y.ts.getD t (0, 0)).1)) := by
  obtain ⟨s, l⟩ := n
  simp only at hn h
  rcases hn with rfl | rfl
  · left
    simp only [endOf, if_true] at h
    subst h
    exact ⟨rfl, rfl, rfl, rfl⟩
  · right
    have h : (y.ts.getD t (0, 0)).2 = l := h
    subst h
    exact ⟨rfl, rfl, rfl, rfl⟩
theorem wv_track {y : Yd} {pick : List Nat} {start : Nat} {W : Wy} {n : Nd} {path : List Nat} {t : Nat} (h : Wv y pick start W) (hm : (n, path) ∈ W) (hn : n.1 = 0 ∨ n.1 = 1) (ht : t ∈ pick) :
    Wv y pick start (wayTrack y n path W t) ∧ (endOf (y.ts.getD t (0, 0)) n.1 = n.2 → Key (wayTrack y n path W t) (othN y n t)) := by
  unfold wayTrack
  split
  · rename_i q
    exact ⟨h, fun z => absurd z q⟩
  · rename_i q
    have q := Classical.byContradiction q
    split
    · rename_i q2
      exact ⟨h, fun _ => look_some q2⟩
    · rename_i q2
      have q2 : lookW W (othN y n t) = none := by simpa using q2
      have q3 := look_none q2
      have te := two_ends hn q
      have tp : t ∉ path := fun z => by
        obtain ⟨⟨e1, m1, r1⟩, ⟨e2, m2, r2⟩⟩ := h.ends _ hm t z
        rcases te with ⟨_, _, _, e⟩ | ⟨_, _, _, e⟩
        · exact q3 e2 m2 (r2.trans e.symm)
        · exact q3 e1 m1 (r1.trans e.symm)
      have step : ∀ ns : List Nat, t ∈ ns → Cn (edg y ns) (nix y n) (nix y (othN y n t)) := fun ns hns => by
        rcases te with ⟨a, b, _, _⟩ | ⟨a, b, _, _⟩
        · rw [a, b]; exact edg_in hns
        · rw [a, b]; exact (edg_in hns).symm
      have new : (othN y n t, path ++ [t]) ∈ W ++ [(othN y n t, path ++ [t])] := by simp
      refine ⟨⟨fun e he => ?_, fun e he u hu => ?_, fun e he u hu => ?_, fun ac nd e he u hu => ?_⟩, fun _ => ⟨_, new, rfl⟩⟩
      · rcases List.mem_append.mp he with he | he
        · exact h.cn e he
        · simp only [List.mem_cons, List.not_mem_nil, or_false] at he
          subst he
          exact ((h.cn _ hm).mono (edg_mem fun u hu => List.mem_append_left _ hu)).trans (step _ (by simp))
      · rcases List.mem_append.mp he with he | he
        · exact (h.ends e he u hu).imp key_app key_app
        · simp only [List.mem_cons, List.not_mem_nil, or_false] at he
          subst he
          rcases List.mem_append.mp hu with hu | hu
          · exact (h.ends _ hm u hu).imp key_app key_app
          · simp only [List.mem_cons, List.not_mem_nil, or_false] at hu
            subst hu
            rcases te with ⟨_, _, a, b⟩ | ⟨_, _, a, b⟩
            · exact ⟨key_app ⟨_, hm, a⟩, ⟨_, new, b⟩⟩
            · exact ⟨⟨_, new, b⟩, key_app ⟨_, hm, a⟩⟩
      · rcases List.mem_append.mp he with he | he
        · exact h.sub e he u hu
        · simp only [List.mem_cons, List.not_mem_nil, or_false] at he
          subst he
          rcases List.mem_append.mp hu with hu | hu
          · exact h.sub _ hm u hu
          · simp only [List.mem_cons, List.not_mem_nil, or_false] at hu
            rw [hu]
            exact ht
      · rcases List.mem_append.mp he with he | he
        · exact h.sep ac nd e he u hu
        · simp only [List.mem_cons, List.not_mem_nil, or_false] at he
          subst he
          intro c
          by_cases e : u = t
          · subst e
            have c1 : Cn (edg y (without pick u)) start (nix y n) := (h.cn _ hm).mono (edg_mem fun v hv => without_mem.mpr ⟨h.sub _ hm v hv, fun z => tp (by rw [← z]; exact hv)⟩)
            have c2 := c1.symm.trans c
            have c3 := ac_without ac nd ht
            rcases te with ⟨a, b, _, _⟩ | ⟨a, b, _, _⟩
            · rw [a, b] at c2; exact c3 c2
            · rw [a, b] at c2; exact c3 c2.symm
          · have hu' : u ∈ path := by
              rcases List.mem_append.mp hu with hu | hu
              · exact hu
              · simp only [List.mem_cons, List.not_mem_nil, or_false] at hu
                exact absurd hu e
            exact h.sep ac nd _ hm u hu' (c.trans (step _ (without_mem.mpr ⟨ht, fun z => e z.symm⟩)).symm)
theorem wv_tracks {y : Yd} {pick : List Nat} {start : Nat} {n : Nd} {path : List Nat} (hn : n.1 = 0 ∨ n.1 = 1) : ∀ (ts : List Nat) (W : Wy), (∀ t ∈ ts, t ∈ pick) → Wv y pick start W → (n, path) ∈ W →
    Wv y pick start (ts.foldl (wayTrack y n path) W) ∧ ∀ t ∈ ts, endOf (y.ts.getD t (0, 0)) n.1 = n.2 → Key (ts.foldl (wayTrack y n path) W) (othN y n t)
  | [], W, _, h, _ => ⟨h, fun t ht => by cases ht⟩
  | t :: ts, W, ht, h, hm => by
    obtain ⟨h1, h2⟩ := wv_track h hm hn (ht t List.mem_cons_self)
    obtain ⟨V, eV⟩ := track_ge (y := y) (n := n) (path := path) (W := W) (t := t)
    obtain ⟨g1, g2⟩ := wv_tracks hn ts (wayTrack y n path W t) (fun u hu => ht u (List.mem_cons_of_mem _ hu)) h1 (by rw [eV]; exact List.mem_append_left _ hm)
    rw [List.foldl_cons]
    refine ⟨g1, fun u hu q => ?_⟩
    rcases List.mem_cons.mp hu with rfl | hu
    · obtain ⟨V2, eV2⟩ := tracks_ge (y := y) (n := n) (path := path) ts (wayTrack y n path W u)
      rw [eV2]
      exact key_app (h2 q)
    · exact g2 u hu q
/-- all done nodes have told their neighbours -/
def Clo (y : Yd) (pick : List Nat) (i : Nat) (W : Wy) : Prop := ∀ (j : Nat) (e : Nd × List Nat), j < i → W[j]? = some e → ∀ t ∈ pick, endOf (y.ts.getD t (0, 0)) e.1.1 = e.1.2 → Key W (othN y e.1 t)
theorem way_inv {y : Yd} (hy : YdOk y) {pick : List Nat} {start : Nat} (hp : ∀ t ∈ pick, t < y.ts.length) (hs : start < y.k) : ∀ i, Wv y pick start (wayIter y pick start i) ∧ Clo y pick i (wayIter y pick start i) ∧ Key (wayIter y pick start i) (0, start)
  | 0 => by
    have one : ∀ e ∈ ([((0, start), [])] : Wy), e = ((0, start), []) := fun e he => by simpa using he
    refine ⟨⟨fun e he => ?_, fun e he t ht => ?_, fun e he t ht => ?_, fun _ _ e he t ht => ?_⟩, fun j e hj => by omega, ⟨_, List.mem_cons_self, rfl⟩⟩
    · rw [one e he]; exact .refl _
    all_goals
      rw [one e he] at ht
      cases ht
  | i + 1 => by
    obtain ⟨h, hc, hk⟩ := way_inv hy hp hs i
    have ho := iter_ok hy hp hs i
    show Wv y pick start (wayNode y pick (wayIter y pick start i) i) ∧ Clo y pick (i + 1) (wayNode y pick (wayIter y pick start i) i) ∧ Key (wayNode y pick (wayIter y pick start i) i) (0, start)
    generalize wayIter y pick start i = W at h hc hk ho
    unfold wayNode
    cases e : W[i]? with
    | none =>
      simp only
      refine ⟨h, fun j u hj hu t ht q => ?_, hk⟩
      have := List.getElem?_eq_none_iff.mp e
      have := (List.getElem?_eq_some_iff.mp hu).1
      exact hc j u (by omega) hu t ht q
    | some u =>
      have hm := List.mem_of_getElem? e
      have hn : u.1.1 = 0 ∨ u.1.1 = 1 := (ho.ok u hm).imp (fun z => z.1) fun z => z.1
      obtain ⟨g1, g2⟩ := wv_tracks (n := u.1) (path := u.2) hn pick W (fun t ht => ht) h hm
      obtain ⟨V, eV⟩ := tracks_ge (y := y) (n := u.1) (path := u.2) pick W
      simp only
      refine ⟨g1, fun j v hj hv t ht q => ?_, by rw [eV]; exact key_app hk⟩
      by_cases ej : j = i
      · subst ej
        rw [eV, List.getElem?_append_left (List.getElem?_eq_some_iff.mp e).1, e] at hv
        cases hv
        exact g2 t ht q
      · have hi := (List.getElem?_eq_some_iff.mp e).1
        rw [eV, List.getElem?_append_left (by omega)] at hv
        rw [eV]
        exact key_app (hc j v (by omega) hv t ht q)
theorem way_none {y : Yd} (hy : YdOk y) {pick : List Nat} {start goal : Nat} (hp : ∀ t ∈ pick, t < y.ts.length) (hs : start < y.k) (h : wayF y pick start goal = none) : ¬ Cn (edg y pick) start (y.k + goal) := by
  obtain ⟨_, hc, hk⟩ := way_inv hy hp hs (y.k + y.l)
  have ho := iter_ok hy hp hs (y.k + y.l)
  have hl := wok_len ho
  unfold wayF at h
  generalize wayIter y pick start (y.k + y.l) = W at h hc hk ho hl
  have all : ∀ x, Cn (edg y pick) start x → ∃ e ∈ W, nix y e.1 = x := fun x c => by
    induction c with
    | refl =>
      obtain ⟨e, he, q⟩ := hk
      exact ⟨e, he, by rw [q]; rfl⟩
    | @step u v _ m ih =>
      obtain ⟨e, he, rfl⟩ := ih
      obtain ⟨j, ej⟩ := List.mem_iff_getElem?.mp he
      have hj := (List.getElem?_eq_some_iff.mp ej).1
      have go : ∀ t ∈ pick, endOf (y.ts.getD t (0, 0)) e.1.1 = e.1.2 → Key W (othN y e.1 t) := fun t ht q => hc j e (by omega) ej t ht q
      obtain ⟨⟨s, l⟩, path⟩ := e
      have hok := ho.ok _ he
      unfold NdOk at hok
      simp only at hok go
      rcases m with m | m <;> obtain ⟨t, ht, q⟩ := List.mem_map.mp m <;> injection q with q1 q2
      · have b := ends_lt hy (hp t ht)
        rcases hok with ⟨rfl, hl⟩ | ⟨rfl, hl⟩
        · have q1 : (y.ts.getD t (0, 0)).1 = l := q1
          obtain ⟨e', he', r⟩ := go t ht q1
          exact ⟨e', he', by rw [r, ← q2]; rfl⟩
        · have q1 : (y.ts.getD t (0, 0)).1 = y.k + l := q1
          omega
      · have b := ends_lt hy (hp t ht)
        rcases hok with ⟨rfl, hl⟩ | ⟨rfl, hl⟩
        · have q2 : y.k + (y.ts.getD t (0, 0)).2 = l := q2
          omega
        · have q2 : y.k + (y.ts.getD t (0, 0)).2 = y.k + l := q2
          obtain ⟨e', he', r⟩ := go t ht (show (y.ts.getD t (0, 0)).2 = l by omega)
          exact ⟨e', he', by rw [r, ← q1]; rfl⟩
  intro c
  obtain ⟨⟨⟨s, l⟩, path⟩, he, q⟩ := all _ c
  have hok := ho.ok _ he
  unfold NdOk at hok
  simp only at hok
  rcases hok with ⟨rfl, hl⟩ | ⟨rfl, hl⟩
  · have q : l = y.k + goal := q
    omega
  · have q : y.k + l = y.k + goal := q
    exact look_none h _ he (show ((1, l) : Nd) = (1, goal) by rw [show l = goal by omega])
theorem way_some {y : Yd} (hy : YdOk y) {pick p : List Nat} {start goal : Nat} (hp : ∀ t ∈ pick, t < y.ts.length) (hs : start < y.k) (h : wayF y pick start goal = some p) :
    (∀ t ∈ p, t ∈ pick) ∧ Cn (edg y pick) start (y.k + goal) ∧ (Ac (edg y pick) → pick.Nodup → ∀ t ∈ p, ¬ Cn (edg y (without pick t)) start (y.k + goal)) := by
  obtain ⟨hv, _, _⟩ := way_inv hy hp hs (y.k + y.l)
  unfold wayF at h
  have hm := look_mem h
  have e : nix y (1, goal) = y.k + goal := rfl
  exact ⟨hv.sub _ hm, e ▸ (hv.cn _ hm).mono (edg_mem (hv.sub _ hm)), fun ac nd => e ▸ hv.sep ac nd _ hm⟩
/-- each track of a forest closes no ring with those ahead of it -/
theorem forest_ways {y : Yd} (hy : YdOk y) {pick : List Nat} (hp : ∀ t ∈ pick, t < y.ts.length) (ac : Ac (edg y pick)) {i t : Nat} (h : pick[i]? = some t) : wayF y (pick.take i) (y.ts.getD t (0, 0)).1 (y.ts.getD t (0, 0)).2 = none := by
  cases e : wayF y (pick.take i) (y.ts.getD t (0, 0)).1 (y.ts.getD t (0, 0)).2 with
  | none => rfl
  | some p =>
    exfalso
    have hb := ends_lt hy (hp t (List.mem_of_getElem? h))
    obtain ⟨_, c, _⟩ := way_some hy (fun u hu => hp u (List.mem_of_mem_take hu)) hb.1 e
    have h1 : Ac (edg y (pick.take (i + 1))) := ac.sub (List.Sublist.map _ (List.take_sublist _ _))
    rw [take_snoc h] at h1
    exact (h1.perm edg_snoc).2 c
/-! ### the cheapest pick -/
theorem ord_le {ps : List Nat} : (ordN ps).Pairwise fun i j => ps.getD i 0 ≤ ps.getD j 0 := by
  have h1 : (ordN ps).Pairwise fun i j => lexI (zs ps) i j = true := List.pairwise_mergeSort (le := lexI (zs ps)) (lexI_trans _) (lexI_total _) _
  refine h1.imp_of_mem fun {a b} ha hb h => ?_
  have e : ∀ i, i ∈ ordN ps → (zs ps).getD i 0 = ((ps.getD i 0 : Nat) : Int) := fun i hi => by
    unfold zs
    rw [List.getD_eq_getElem?_getD, List.getElem?_map, getDN (ord_lt hi)]
    rfl
  simp only [lexI, decide_eq_true_eq] at h
  rw [e a ha, e b hb] at h
  omega
structure Che (y : Yd) (ps : List Nat) (m : Nat) (pick : List Nat) : Prop where
  ok : PkOk y pick
  len : pick.length = m
  ac : Ac (edg y pick)
  pr : ∀ t, t < y.ts.length → t ∉ pick → match wayF y pick (y.ts.getD t (0, 0)).1 (y.ts.getD t (0, 0)).2 with
    | none => ∀ o ∈ pick, ps.getD o 0 ≤ ps.getD t 0
    | some p => ∀ o ∈ p, ps.getD o 0 ≤ ps.getD t 0
theorem che_ok {y : Yd} (hy : YdOk y) {ps : List Nat} {m : Nat} (hl : ps.length = y.ts.length) (hm : m ≤ (gre y (ordN ps)).length) : ∃ pick, cheF y ps m = some pick ∧ lcheF y ps m = some pick ∧ Che y ps m pick := by
  have e1 := cheL_gre (m := m) hy hl
  have ob : ∀ t ∈ ordN ps, t < y.ts.length := fun t ht => by have := ord_lt ht; omega
  have e2 := forF_gre hy ob
  have l1 : ((gre y (ordN ps)).take m).length = m := by rw [List.length_take]; omega
  refine ⟨sortN ((gre y (ordN ps)).take m), ?_, ?_, ?_⟩
  · unfold cheF
    rw [e1, if_pos l1]
  · unfold lcheF
    rw [e2, if_pos hm]
  · obtain ⟨p, sd⟩ := sortN_ok ((gre y (ordN ps)).take m)
    have sb : ((gre y (ordN ps)).take m).Sublist (ordN ps) := (List.take_sublist _ _).trans gre_sub
    have nd : (sortN ((gre y (ordN ps)).take m)).Nodup := p.nodup_iff.mpr (List.Pairwise.sublist sb ord_nd)
    have bd : ∀ t ∈ sortN ((gre y (ordN ps)).take m), t < y.ts.length := fun t ht => ob t (sb.subset (p.mem_iff.mp ht))
    have ac : Ac (edg y (sortN ((gre y (ordN ps)).take m))) := (gre_ac.sub (List.Sublist.map _ (List.take_sublist _ _))).perm (edg_perm p.symm)
    refine ⟨⟨?_, bd⟩, by rw [p.length_eq, l1], ac, fun t ht hn => ?_⟩
    · exact (sd.and nd).imp fun {a b} h => by obtain ⟨h1, h2⟩ := h; omega
    · have tm : t ∈ ordN ps := ord_perm.mem_iff.mpr (List.mem_range.mpr (by omega))
      obtain ⟨pre, post, eo⟩ := List.append_of_mem tm
      have pw := ord_le (ps := ps)
      rw [eo] at pw
      have le : ∀ o ∈ pre, ps.getD o 0 ≤ ps.getD t 0 := fun o ho => (List.pairwise_append.mp pw).2.2 o ho t List.mem_cons_self
      have eg : gre y (ordN ps) = greG y (greS y (gre y pre) t) post := by
        unfold gre
        rw [eo, greG_ge]
        rfl
      obtain ⟨rest, er, _⟩ := greG_sub (y := y) post (greS y (gre y pre) t)
      have sp : ∀ o ∈ gre y pre, o ∈ pre := fun o ho => gre_sub.subset ho
      by_cases q : m ≤ (gre y pre).length
      · have all : ∀ o ∈ sortN ((gre y (ordN ps)).take m), ps.getD o 0 ≤ ps.getD t 0 := fun o ho => by
          have ho := p.mem_iff.mp ho
          refine le o (sp o ?_)
          rw [eg, er] at ho
          have : ∃ r, greS y (gre y pre) t = gre y pre ++ r := by
            by_cases c : Cn (edg y (gre y pre)) (y.ts.getD t (0, 0)).1 (y.k + (y.ts.getD t (0, 0)).2)
            · exact ⟨[], by rw [gre_pos c]; simp⟩
            · exact ⟨[t], gre_neg c⟩
          obtain ⟨r, er2⟩ := this
          rw [er2, List.append_assoc, List.take_append_of_le_length q] at ho
          exact List.mem_of_mem_take ho
        have hb := ends_lt hy ht
        cases e : wayF y (sortN ((gre y (ordN ps)).take m)) (y.ts.getD t (0, 0)).1 (y.ts.getD t (0, 0)).2 with
        | none => exact all
        | some w => exact fun o ho => all o ((way_some hy bd hb.1 e).1 o ho)
      · have hb := ends_lt hy ht
        have c : Cn (edg y (gre y pre)) (y.ts.getD t (0, 0)).1 (y.k + (y.ts.getD t (0, 0)).2) := by
          classical
          refine Classical.byContradiction fun c => hn (p.mem_iff.mpr ?_)
          rw [eg, er, gre_neg c, List.take_append, List.take_of_length_le (by simp; omega)]
          simp
        have inp : ∀ o ∈ gre y pre, o ∈ sortN ((gre y (ordN ps)).take m) := fun o ho => by
          refine p.mem_iff.mpr ?_
          rw [eg, er, gre_pos c, List.take_append, List.take_of_length_le (by omega)]
          exact List.mem_append_left _ ho
        cases e : wayF y (sortN ((gre y (ordN ps)).take m)) (y.ts.getD t (0, 0)).1 (y.ts.getD t (0, 0)).2 with
        | none => exact absurd (c.mono (edg_mem inp)) (way_none hy bd hb.1 e)
        | some w =>
          intro o ho
          refine le o (sp o ?_)
          classical
          refine Classical.byContradiction fun no => ?_
          exact (way_some hy bd hb.1 e).2.2 ac nd o ho (c.mono (edg_mem fun u hu => without_mem.mpr ⟨inp u hu, fun z => no (by rw [← z]; exact hu)⟩))
end TW
end
section
set_option Elab.async false
set_option linter.all false
set_option maxRecDepth 100000
/-! The plain law, 6: rows, layers. -/
namespace TW
theorem getD_snoc_lt {l : List Nat} {x j : Nat} (h : j < l.length) : (l ++ [x]).getD j 0 = l.getD j 0 := by
  rw [List.getD_eq_getElem?_getD, List.getD_eq_getElem?_getD, List.getElem?_append_left h]
theorem getD_snoc_eq {l : List Nat} {x : Nat} : (l ++ [x]).getD l.length 0 = x := by
  rw [List.getD_eq_getElem?_getD, List.getElem?_append_right (Nat.le_refl _)]
  simp
theorem getD_set {l : List Nat} {i j x : Nat} (h : i < l.length) : (l.set i x).getD j 0 = if i = j then x else l.getD j 0 := by
  rw [List.getD_eq_getElem?_getD, List.getElem?_set]
  split
  · rename_i e
    rfl
  · rw [List.getD_eq_getElem?_getD]
theorem getD_at {l : List Nat} {i : Nat} (h : i < l.length) : l.getD i 0 = l[i] := by
  rw [List.getD_eq_getElem?_getD, List.getElem?_eq_getElem h]
  rfl
/-- layers: what is known after i wagons -/
structure Ly (r : List Nat) (i : Nat) (q : List Nat × List Nat) : Prop where
  pw : q.1.Pairwise (· > ·)
  len : q.2.length = i
  top : ∀ j, j < i → q.2.getD j 0 < q.1.length ∧ r.getD j 0 ≤ q.1.getD (q.2.getD j 0) 0
  has : ∀ c, c < q.1.length → ∃ j, j < i ∧ q.2.getD j 0 = c ∧ r.getD j 0 = q.1.getD c 0
  deep : ∀ j1 j2, j1 < j2 → j2 < i → r.getD j2 0 < r.getD j1 0 → q.2.getD j1 0 < q.2.getD j2 0
  prev : ∀ j c, j < i → q.2.getD j 0 = c + 1 → ∃ j', j' < j ∧ q.2.getD j' 0 = c ∧ r.getD j 0 < r.getD j' 0
theorem ly_step {r : List Nat} {i v : Nat} {q : List Nat × List Nat} (h : Ly r i q) (hv : r.getD i 0 = v) : Ly r (i + 1) (layStep q v) := by
  have hp := posF_at (v := v) h.pw
  have hle := posF_le (tops := q.1) (v := v)
  have hpw := lay_pw (v := v) h.pw
  have hp' : ∀ c, c < q.1.length → (v < q.1.getD c 0 ↔ c < posF q.1 v) := fun c hc => by rw [getD_at hc]; exact hp c hc
  have e2 : (layStep q v).2 = q.2 ++ [posF q.1 v] := rfl
  have hl := h.len
  have old : ∀ j, j < i → (q.2 ++ [posF q.1 v]).getD j 0 = q.2.getD j 0 := fun j hj => getD_snoc_lt (by omega)
  have new : (q.2 ++ [posF q.1 v]).getD i 0 = posF q.1 v := by rw [← hl]; exact getD_snoc_eq
  have t1 : posF q.1 v < (layStep q v).1.length ∧ q.1.length ≤ (layStep q v).1.length := by
    unfold layStep
    simp only
    split
    · rw [List.length_append]; simp; omega
    · rw [List.length_set]; omega
  have t2 : ∀ c, c < (layStep q v).1.length → (layStep q v).1.getD c 0 = if c = posF q.1 v then v else q.1.getD c 0 := by
    intro c hc
    unfold layStep at hc ⊢
    simp only at hc ⊢
    split
    · rename_i e
      rw [if_pos e] at hc
      rw [e]
      by_cases z : c = q.1.length
      · rw [if_pos z, z]; exact getD_snoc_eq
      · rw [if_neg z]
        rw [List.length_append] at hc
        simp at hc
        exact getD_snoc_lt (by omega)
    · rename_i e
      rw [getD_set (by omega)]
      by_cases z : c = posF q.1 v
      · rw [if_pos z, if_pos z.symm]
      · rw [if_neg z, if_neg fun y => z y.symm]
  refine ⟨hpw, by rw [e2, List.length_append]; simp; omega, fun j hj => ?_, fun c hc => ?_, fun j1 j2 h12 h2 hr => ?_, fun j c hj hc => ?_⟩
  · rw [e2]
    by_cases e : j = i
    · subst e
      rw [new, t2 _ t1.1, if_pos rfl, hv]
      exact ⟨t1.1, Nat.le_refl _⟩
    · have hj : j < i := by omega
      obtain ⟨a, b⟩ := h.top j hj
      rw [old j hj, t2 _ (by omega)]
      refine ⟨by omega, ?_⟩
      split
      · rename_i z
        have := (not_congr (hp' _ a)).mpr (by omega)
        omega
      · exact b
  · rw [t2 c hc, e2]
    by_cases z : c = posF q.1 v
    · rw [if_pos z]
      exact ⟨i, by omega, by rw [new, z], hv⟩
    · rw [if_neg z]
      have hc' : c < q.1.length := by
        unfold layStep at hc
        simp only at hc
        split at hc
        · rw [List.length_append] at hc
          simp at hc
          omega
        · rwa [List.length_set] at hc
      obtain ⟨j, a, b, d⟩ := h.has c hc'
      exact ⟨j, by omega, by rw [old j a]; exact b, d⟩
  · rw [e2]
    by_cases e : j2 = i
    · subst e
      rw [new, old j1 h12]
      obtain ⟨a, b⟩ := h.top j1 h12
      exact (hp' _ a).mp (by omega)
    · rw [old j1 (by omega), old j2 (by omega)]
      exact h.deep j1 j2 h12 (by omega) hr
  · rw [e2] at hc ⊢
    by_cases e : j = i
    · subst e
      rw [new] at hc
      obtain ⟨j', a, b, d⟩ := h.has c (by omega)
      refine ⟨j', a, by rw [old j' a]; exact b, ?_⟩
      have := (hp' c (by omega)).mpr (by omega)
      omega
    · rw [old j (by omega)] at hc
      obtain ⟨j', a, b, d⟩ := h.prev j c (by omega) hc
      exact ⟨j', a, by rw [old j' (by omega)]; exact b, d⟩
theorem ly_all {r : List Nat} : ∀ i, i ≤ r.length → Ly r i ((r.take i).foldl layStep ([], []))
  | 0, _ => ⟨by simp, rfl, fun j hj => by omega, fun c hc => by simp at hc, fun j1 j2 _ h => by omega, fun j c h => by omega⟩
  | i + 1, h => by
    have e := getDN (f := r) (i := i) (by omega)
    rw [foldTake e]
    exact ly_step (ly_all i (by omega)) rfl
theorem lay_ok (r : List Nat) : Ly r r.length (layF r) := by
  have := ly_all (r := r) r.length (Nat.le_refl _)
  rwa [List.take_length] at this
/-- a row whose wagons are parted into m rising lots -/
structure Lots (r : List Nat) (m : Nat) : Prop where
  nd : r.Nodup
  bnd : ∀ v ∈ r, v < r.length
  lot : ∃ f : Nat → Nat, (∀ i, i < r.length → f i < m) ∧ ∀ i j, i < j → j < r.length → f i = f j → r.getD i 0 < r.getD j 0
theorem lay_chain {r : List Nat} {f : Nat → Nat} (hf : ∀ i j, i < j → j < r.length → f i = f j → r.getD i 0 < r.getD j 0) : ∀ (c j : Nat), j < r.length → (layF r).2.getD j 0 = c → ∃ l : List Nat, l.length = c + 1 ∧ (l.map f).Nodup ∧ ∀ x ∈ l, x ≤ j ∧ r.getD j 0 ≤ r.getD x 0
  | 0, j, _, _ => ⟨[j], rfl, by simp, fun x hx => by simp at hx; subst hx; exact ⟨Nat.le_refl _, Nat.le_refl _⟩⟩
  | c + 1, j, hj, h => by
    obtain ⟨j', a, b, d⟩ := (lay_ok r).prev j c hj h
    obtain ⟨l, l1, l2, l3⟩ := lay_chain hf c j' (by omega) b
    refine ⟨l ++ [j], by simp [l1], ?_, fun x hx => ?_⟩
    · rw [List.map_append, List.map_cons, List.map_nil]
      refine nodup_snoc l2 fun z => ?_
      obtain ⟨x, hx, e⟩ := List.mem_map.mp z
      obtain ⟨x1, x2⟩ := l3 x hx
      have := hf x j (by omega) hj e
      omega
    · rcases List.mem_append.mp hx with hx | hx
      · obtain ⟨x1, x2⟩ := l3 x hx
        omega
      · simp only [List.mem_cons, List.not_mem_nil, or_false] at hx
        subst hx
        exact ⟨Nat.le_refl _, Nat.le_refl _⟩
theorem lay_lt {r : List Nat} {m : Nat} (h : Lots r m) : ∀ d ∈ (layF r).2, d < m := fun d hd => by
  obtain ⟨f, f1, f2⟩ := h.lot
  obtain ⟨j, ej⟩ := List.mem_iff_getElem?.mp hd
  have hl := (lay_ok r).len
  have hj := (List.getElem?_eq_some_iff.mp ej).1
  have e : (layF r).2.getD j 0 = d := by rw [List.getD_eq_getElem?_getD, ej]; rfl
  obtain ⟨l, l1, l2, l3⟩ := lay_chain f2 d j (by omega) e
  have := nodup_len m (l.map f) l2 fun x hx => by
    obtain ⟨z, hz, rfl⟩ := List.mem_map.mp hx
    have := l3 z hz
    exact f1 z (by omega)
  rw [List.length_map] at this
  omega
theorem maxZ_lt {ns : List Nat} {m : Nat} (h : ∀ x ∈ ns, x < m) : maxZ ns < (m : Int) := by
  cases ns with
  | nil => show (-1 : Int) < m; omega
  | cons n r =>
    have go : ∀ (r : List Nat) (n : Nat), n < m → (∀ x ∈ r, x < m) → r.foldl max n < m := fun r => by
      induction r with
      | nil => exact fun n hn _ => hn
      | cons x r ih => exact fun n hn hx => ih _ (by have := hx x List.mem_cons_self; omega) fun z hz => hx z (List.mem_cons_of_mem _ hz)
    have := go r n (h n List.mem_cons_self) fun x hx => h x (List.mem_cons_of_mem _ hx)
    show ((r.foldl max n : Nat) : Int) < m
    omega
/-- wagons that fall, one behind another, from place o on -/
theorem lay_fall {r : List Nat} {o f : Nat} (h : o + f ≤ r.length) (hf : ∀ i j, i < j → j < f → r.getD (o + j) 0 < r.getD (o + i) 0) : ∀ i, i < f → i ≤ (layF r).2.getD (o + i) 0
  | 0, _ => by omega
  | i + 1, hi => by
    have h1 := lay_fall h hf i (by omega)
    have h2 := (lay_ok r).deep (o + i) (o + (i + 1)) (by omega) (by omega) (hf i (i + 1) (by omega) hi)
    omega
/-! ### rows joined -/
theorem getD_app {l k : List Nat} {j : Nat} : (l ++ k).getD j 0 = if j < l.length then l.getD j 0 else k.getD (j - l.length) 0 := by
  rw [List.getD_eq_getElem?_getD, List.getElem?_append]
  split <;> rw [List.getD_eq_getElem?_getD]
theorem getD_bnd {r : List Nat} {n j : Nat} (h : ∀ v ∈ r, v < n) (hj : j < r.length) : r.getD j 0 < n := h _ (List.mem_of_getElem? (getDN hj))
theorem lots_join {f r : List Nat} {m : Nat} (h : Lots f m) (g : Lots r m) : Lots (joinStep f r) m := by
  obtain ⟨a, a1, a2⟩ := h.lot
  obtain ⟨b, b1, b2⟩ := g.lot
  have hl : (joinStep f r).length = f.length + r.length := by simp [joinStep]
  have ge : ∀ j, (joinStep f r).getD j 0 = if j < f.length then f.getD j 0 else if j - f.length < r.length then r.getD (j - f.length) 0 + f.length else 0 := fun j => by
    unfold joinStep
    rw [getD_app]
    split
    · rfl
    · split
      · rename_i q
        rw [getD_map q]
      · rename_i q
        rw [List.getD_eq_getElem?_getD, List.getElem?_eq_none (by simp; omega)]
        rfl
  refine ⟨?_, fun v hv => ?_, fun j => if j < f.length then a j else b (j - f.length), fun i hi => ?_, fun i j hij hj e => ?_⟩
  · unfold joinStep
    rw [List.nodup_append]
    refine ⟨h.nd, ?_, fun x hx z hz e => ?_⟩
    · have := g.nd
      unfold List.Nodup at this ⊢
      rw [List.pairwise_map]
      exact this.imp fun ne e => ne (by omega)
    · obtain ⟨u, hu, rfl⟩ := List.mem_map.mp hz
      have := h.bnd x hx
      omega
  · rw [hl]
    rcases List.mem_append.mp (show v ∈ f ++ r.map (· + f.length) from hv) with hv | hv
    · have := h.bnd v hv; omega
    · obtain ⟨u, hu, rfl⟩ := List.mem_map.mp hv
      have := g.bnd u hu; omega
  · simp only
    split
    · exact a1 i (by omega)
    · exact b1 _ (by omega)
  · simp only at e
    rw [ge, ge]
    by_cases q1 : j < f.length
    · rw [if_pos (by omega), if_pos q1] at e
      rw [if_pos (by omega), if_pos q1]
      exact a2 i j hij q1 e
    · by_cases q2 : i < f.length
      · rw [if_pos q2, if_neg q1, if_pos (by omega)]
        have := getD_bnd h.bnd q2
        omega
      · rw [if_neg q2, if_neg q1] at e
        rw [if_neg q2, if_neg q1, if_pos (by omega), if_pos (by omega)]
        have := b2 (i - f.length) (j - f.length) (by omega) (by omega) e
        omega
theorem lots_nil {m : Nat} : Lots [] m := ⟨by simp, fun v hv => (by cases hv), fun _ => 0, fun i hi => (by simp at hi), fun i j _ hj => (by simp at hj)⟩
theorem lots_rows {m : Nat} : ∀ (rows : List (List Nat)) (f : List Nat), Lots f m → (∀ r ∈ rows, Lots r m) → Lots (rows.foldl joinStep f) m
  | [], f, h, _ => h
  | r :: rows, f, h, g => lots_rows rows _ (lots_join h (g r List.mem_cons_self)) fun x hx => g x (List.mem_cons_of_mem _ hx)
theorem deep_at {n i : Nat} (h : i < n) : (deepF n).getD i 0 = n - 1 - i := by
  unfold deepF
  rw [getD_map (by simpa using h)]
  rw [List.getD_eq_getElem?_getD, List.getElem?_range h]
  rfl
theorem deep_len {n : Nat} : (deepF n).length = n := by simp [deepF]
theorem lots_deep {n : Nat} : Lots (deepF n) n := by
  refine ⟨?_, fun v hv => ?_, fun i => i, fun i hi => by rw [deep_len] at hi; exact hi, fun i j hij _ e => absurd (show i = j from e) (by omega)⟩
  · unfold deepF List.Nodup
    rw [List.pairwise_map]
    have := List.nodup_range (n := n)
    unfold List.Nodup at this
    exact this.imp_of_mem fun {a b} ha hb ne e => ne (by have := List.mem_range.mp ha; have := List.mem_range.mp hb; omega)
  · obtain ⟨u, hu, rfl⟩ := List.mem_map.mp hv
    have := List.mem_range.mp hu
    rw [deep_len]
    omega
/-! ### rows parted -/
theorem drop_headD : ∀ (l : List Nat) (c : Nat), (l.drop c).headD 0 = l.getD c 0
  | [], c => by simp
  | x :: l, 0 => rfl
  | x :: l, c + 1 => by
    have := drop_headD l c
    rw [List.drop_succ_cons, this]
    rfl
theorem pop_at {bp bw : List Nat} {lots : Nat} (hp : bw.Perm bp) (hb : ∀ x ∈ bp, x < lots) : ∀ i, i ≤ bp.length → (((bp.take i).foldl popStep (waitL bw lots bp.length, [])).1.length = lots ∧ ((bp.take i).foldl popStep (waitL bw lots bp.length, [])).2.length = i ∧
    (∀ lot, lot < lots → ((bp.take i).foldl popStep (waitL bw lots bp.length, [])).1.getD lot [] = ((waitL bw lots bp.length).getD lot []).drop ((bp.take i).count lot)) ∧
    ∀ j, j < i → ((bp.take i).foldl popStep (waitL bw lots bp.length, [])).2.getD j 0 = ((waitL bw lots bp.length).getD (bp.getD j 0) []).getD ((bp.take j).count (bp.getD j 0)) 0)
  | 0, _ => ⟨by simp [waitL], rfl, fun lot h => by simp, fun j hj => by omega⟩
  | i + 1, h => by
    obtain ⟨h1, h2, h3, h4⟩ := pop_at hp hb i (by omega)
    have e := getDN (f := bp) (i := i) (by omega)
    have hbi := hb _ (List.mem_of_getElem? e)
    rw [foldTake e]
    generalize (bp.take i).foldl popStep (waitL bw lots bp.length, []) = q at h1 h2 h3 h4
    have h5 := h3 _ hbi
    refine ⟨by simp [popStep, h1], by simp [popStep, h2], fun lot hl => ?_, fun j hj => ?_⟩
    · rw [take_snoc e, List.count_append]
      unfold popStep
      simp only
      rw [List.getD_eq_getElem?_getD, List.getElem?_set]
      by_cases z : bp.getD i 0 = lot
      · rw [if_pos z, if_pos (by omega)]
        subst z
        rw [h5, List.drop_drop]
        simp
      · rw [if_neg z, ← List.getD_eq_getElem?_getD, h3 lot hl]
        have : List.count lot [bp.getD i 0] = 0 := List.count_eq_zero.mpr (by simpa using fun y => z y.symm)
        rw [this, Nat.add_zero]
    · unfold popStep
      simp only
      by_cases z : j = i
      · subst z
        rw [← h2, getD_snoc_eq, h2, h5]
        exact drop_headD _ _
      · rw [getD_snoc_lt (by omega)]
        exact h4 j (by omega)
theorem count_take {bp : List Nat} {j : Nat} (h : j < bp.length) : (bp.take j).count (bp.getD j 0) < bp.count (bp.getD j 0) := by
  have e := getDN h
  have h1 : (bp.take (j + 1)).count (bp.getD j 0) ≤ bp.count (bp.getD j 0) := (List.take_sublist _ _).count_le _
  rw [take_snoc e, List.count_append, List.count_singleton_self] at h1
  omega
theorem count_less {bp : List Nat} {i j : Nat} (hi : i < j) (hj : j < bp.length) (e : bp.getD i 0 = bp.getD j 0) : (bp.take i).count (bp.getD i 0) < (bp.take j).count (bp.getD j 0) := by
  have e1 := getDN (f := bp) (i := i) (by omega)
  have h1 : (bp.take (i + 1)).count (bp.getD i 0) ≤ (bp.take j).count (bp.getD i 0) := List.Sublist.count_le _ (by
    have : bp.take (i + 1) = (bp.take j).take (i + 1) := by rw [List.take_take, Nat.min_eq_left (by omega)]
    rw [this]
    exact List.take_sublist _ _)
  rw [take_snoc e1, List.count_append, List.count_singleton_self] at h1
  rw [← e]
  omega
theorem lots_part {bp bw : List Nat} {lots : Nat} (hp : bw.Perm bp) (hb : ∀ x ∈ bp, x < lots) : Lots (partF bp bw lots) lots := by
  obtain ⟨h1, h2, h3, h4⟩ := pop_at hp hb bp.length (Nat.le_refl _)
  rw [List.take_length] at h2 h4
  have hl := hp.length_eq
  have at_ : ∀ j, j < bp.length → ∃ hj : (bp.take j).count (bp.getD j 0) < ((List.range bp.length).filter fun v => decide (bw.getD v 0 = bp.getD j 0)).length, (partF bp bw lots).getD j 0 = ((List.range bp.length).filter fun v => decide (bw.getD v 0 = bp.getD j 0))[(bp.take j).count (bp.getD j 0)] := fun j hj => by
    have hbj := hb _ (List.mem_of_getElem? (getDN hj))
    have ew : (waitL bw lots bp.length).getD (bp.getD j 0) [] = (List.range bp.length).filter fun v => decide (bw.getD v 0 = bp.getD j 0) := by
      rw [List.getD_eq_getElem?_getD, wait_get hbj]
      rfl
    have c1 := count_filter bw (bp.getD j 0)
    rw [hl] at c1
    have c2 := count_take hj
    rw [hp.count_eq] at c1
    refine ⟨by omega, ?_⟩
    have := h4 j hj
    rw [ew] at this
    exact this.trans (getD_at (by omega))
  have srt : ∀ lot, ((List.range bp.length).filter fun v => decide (bw.getD v 0 = lot)).Pairwise (· < ·) := fun lot => List.Pairwise.filter _ List.pairwise_lt_range
  have inlot : ∀ j, j < bp.length → (partF bp bw lots).getD j 0 < bp.length ∧ bw.getD ((partF bp bw lots).getD j 0) 0 = bp.getD j 0 := fun j hj => by
    obtain ⟨hq, e⟩ := at_ j hj
    have := List.mem_filter.mp (List.getElem_mem hq)
    rw [← e] at this
    exact ⟨List.mem_range.mp this.1, of_decide_eq_true this.2⟩
  have rise : ∀ i j, i < j → j < bp.length → bp.getD i 0 = bp.getD j 0 → (partF bp bw lots).getD i 0 < (partF bp bw lots).getD j 0 := fun i j hij hj e => by
    obtain ⟨q1, e1⟩ := at_ i (by omega)
    obtain ⟨q2, e2⟩ := at_ j hj
    have hc := count_less hij hj e
    rw [e1, e2]
    have : ∀ (a b : Nat), a = b → ∀ (x z : Nat) (hx : x < ((List.range bp.length).filter fun v => decide (bw.getD v 0 = a)).length) (hz : z < ((List.range bp.length).filter fun v => decide (bw.getD v 0 = b)).length), x < z → ((List.range bp.length).filter fun v => decide (bw.getD v 0 = a))[x] < ((List.range bp.length).filter fun v => decide (bw.getD v 0 = b))[z] := by
      intro a b ab x z hx hz hxz
      subst ab
      exact (List.pairwise_iff_getElem.mp (srt a)) x z hx hz hxz
    exact this _ _ e _ _ q1 q2 hc
  have hlen : (partF bp bw lots).length = bp.length := h2
  refine ⟨?_, fun v hv => ?_, fun j => bp.getD j 0, fun j hj => hb _ (List.mem_of_getElem? (getDN (by omega))), fun i j hij hj e => rise i j hij (by omega) e⟩
  · unfold List.Nodup
    rw [List.pairwise_iff_getElem]
    intro i j hi hj hij e
    rw [← getD_at hi, ← getD_at hj] at e
    have b1 := inlot i (by omega)
    have b2 := inlot j (by omega)
    have : bp.getD i 0 = bp.getD j 0 := by rw [← b1.2, ← b2.2, e]
    have := rise i j hij (by omega) this
    omega
  · obtain ⟨j, hj⟩ := List.mem_iff_getElem?.mp hv
    have hj1 := (List.getElem?_eq_some_iff.mp hj).1
    have e : (partF bp bw lots).getD j 0 = v := by rw [List.getD_eq_getElem?_getD, hj]; rfl
    rw [← e, hlen]
    exact (inlot j (by omega)).1
theorem lots_parted {st : PoolS} {lots many : Nat} (h : 1 ≤ lots) : Lots (partedF st lots many).1.1 lots := by
  obtain ⟨b1, b2⟩ := drs_ok (st := st) h many
  exact lots_part bwF_perm b2
theorem lots_some {falls n : Nat} {st : PoolS} (h : 1 ≤ falls) : ∀ i, ∀ r ∈ (someF falls n st i).1, Lots r falls
  | 0, r, hr => by simp [someF] at hr
  | i + 1, r, hr => by
    rcases List.mem_append.mp (show r ∈ (someF falls n st i).1 ++ [(partedF (drawN (someF falls n st i).2 n).2 falls (drawN (someF falls n st i).2 n).1).1.1] from hr) with hr | hr
    · exact lots_some h i r hr
    · simp only [List.mem_cons, List.not_mem_nil, or_false] at hr
      rw [hr]
      exact lots_parted h
theorem getD_mem_or {ls : List (List Nat)} {i : Nat} : ls.getD i [] ∈ ls ∨ ls.getD i [] = [] := by
  by_cases h : i < ls.length
  · exact .inl (List.mem_of_getElem? (getDL h))
  · right
    rw [List.getD_eq_getElem?_getD, List.getElem?_eq_none (by omega)]
    rfl
theorem rows_ok {st : PoolS} {falls many : Nat} (h : 1 ≤ falls) (h2 : falls ≤ many) (h3 : many ≤ 90) : Lots (rowOfF st falls many).1 falls ∧ RwOk (rowOfF st falls many).1 := by
  have o := (some_ok (st := st) (falls := falls) (n := many - falls + 1) h (by omega) 2).2
  have l := lots_some (st := st) (n := many - falls + 1) h 2
  have each : ∀ r ∈ rowsF st falls many, Lots r falls ∧ r.length ≤ 90 := fun r hr => by
    have hr := List.mem_of_mem_drop hr
    simp only [List.mem_cons, List.not_mem_nil, or_false] at hr
    have go : ∀ i, Lots ((someF falls (many - falls + 1) st 2).1.getD i []) falls ∧ ((someF falls (many - falls + 1) st 2).1.getD i []).length ≤ 90 := fun i => by
      rcases getD_mem_or (ls := (someF falls (many - falls + 1) st 2).1) (i := i) with q | q
      · have := o _ q
        exact ⟨l _ q, by omega⟩
      · rw [q]
        exact ⟨lots_nil, by simp⟩
    rcases hr with rfl | rfl | rfl
    · exact go 0
    · exact ⟨lots_deep, by rw [deep_len]; omega⟩
    · exact go 1
  have L : Lots (rowOfF st falls many).1 falls := lots_rows _ _ lots_nil fun r hr => (each r hr).1
  refine ⟨L, ⟨?_, L.bnd, L.nd⟩⟩
  have cnt : (rowsF st falls many).length ≤ 3 := by unfold rowsF; rw [List.length_drop]; simp
  have go : ∀ (rows : List (List Nat)) (f : List Nat), (∀ r ∈ rows, r.length ≤ 90) → (rows.foldl joinStep f).length ≤ f.length + 90 * rows.length := fun rows => by
    induction rows with
    | nil => intro f _; simp
    | cons r rows ih =>
      intro f hr
      have h1 := ih (joinStep f r) fun x hx => hr x (List.mem_cons_of_mem _ hx)
      have h2 : (joinStep f r).length = f.length + r.length := by simp [joinStep]
      have h3 := hr r List.mem_cons_self
      rw [List.foldl_cons, List.length_cons]
      omega
  have := go (rowsF st falls many) [] fun r hr => (each r hr).2
  show (joinRows (rowsF st falls many)).length ≤ 400
  unfold joinRows
  simp at this
  omega
/-- a row of so many falls has a wagon that deep -/
theorem rows_deep {st : PoolS} {falls many : Nat} (h : 1 ≤ falls) : ∃ d ∈ (layF (rowOfF st falls many).1).2, falls - 1 ≤ d := by
  have key : ∃ o, o + falls ≤ (rowOfF st falls many).1.length ∧ ∀ i, i < falls → (rowOfF st falls many).1.getD (o + i) 0 = o + (falls - 1 - i) := by
    show ∃ o, o + falls ≤ (joinRows (rowsF st falls many)).length ∧ ∀ i, i < falls → (joinRows (rowsF st falls many)).getD (o + i) 0 = o + (falls - 1 - i)
    have one : ∀ a b : List Nat, ∃ o, o + falls ≤ (joinRows [a, deepF falls, b]).length ∧ ∀ i, i < falls → (joinRows [a, deepF falls, b]).getD (o + i) 0 = o + (falls - 1 - i) := fun a b => by
      refine ⟨a.length, ?_, fun i hi => ?_⟩
      · simp [joinRows, joinStep, deep_len]
      · have dl := deep_len (n := falls)
        show ((([] ++ a.map (· + 0)) ++ (deepF falls).map (· + ([] ++ a.map (· + 0)).length)) ++ _).getD (a.length + i) 0 = _
        rw [getD_app, if_pos (by simp [dl]; omega), getD_app, if_neg (by simp)]
        have e : a.length + i - ([] ++ a.map (· + 0)).length = i := by simp
        rw [e, getD_map (by omega), deep_at hi]
        simp
        omega
    have two : ∀ b : List Nat, ∃ o, o + falls ≤ (joinRows [deepF falls, b]).length ∧ ∀ i, i < falls → (joinRows [deepF falls, b]).getD (o + i) 0 = o + (falls - 1 - i) := fun b => by
      refine ⟨0, ?_, fun i hi => ?_⟩
      · simp [joinRows, joinStep, deep_len]
      · have dl := deep_len (n := falls)
        show (([] ++ (deepF falls).map (· + 0)) ++ _).getD (0 + i) 0 = _
        rw [getD_app, if_pos (by simp [dl]; omega), List.nil_append, getD_map (by omega), Nat.zero_add, deep_at hi]
        omega
    unfold rowsF
    have hd := draw_lt (st := (someF falls (many - falls + 1) st 2).2) (n := 2) (by omega)
    match (drawN (someF falls (many - falls + 1) st 2).2 2).1, hd with
    | 0, _ => exact one _ _
    | 1, _ => exact two _
  obtain ⟨o, o1, o2⟩ := key
  have h1 := lay_fall o1 (fun i j hij hj => by rw [o2 i (by omega), o2 j hj]; omega) (falls - 1) (by omega)
  have hl := (lay_ok (rowOfF st falls many).1).len
  exact ⟨_, List.mem_of_getElem? (getDN (by omega)), h1⟩
end TW
end
section
set_option Elab.async false
set_option linter.all false
set_option maxRecDepth 100000
/-! The plain law, 7: plans, waits. -/
namespace TW
theorem plan_some {y : Yd} (hy : YdOk y) {pick r : List Nat} {m : Nat} (hp : PkOk y pick) (ac : Ac (edg y pick)) (hl : pick.length = m) (L : Lots r m) : planF y pick r = some ((layF r).2.map fun d => pick.getD d 0) := by
  have e := (forF_gre hy hp.bnd).trans (gre_all ac)
  have h := maxZ_lt (lay_lt L)
  unfold planF
  rw [e, if_neg (by omega)]
theorem plan_none {y : Yd} (hy : YdOk y) {pick r : List Nat} {m : Nat} (hp : PkOk y pick) (ac : Ac (edg y pick)) (hl : pick.length = m) (h : ∃ d ∈ (layF r).2, m ≤ d) : planF y pick r = none := by
  have e := (forF_gre hy hp.bnd).trans (gre_all ac)
  obtain ⟨d, hd, hm⟩ := h
  have h := maxZ_ge hd
  unfold planF
  rw [e, if_pos (by omega)]
theorem inc_nd {l : List Nat} (h : l.Pairwise (· < ·)) : l.Nodup := h.imp fun h => Nat.ne_of_lt h
theorem nd_inj {l : List Nat} (h : l.Nodup) {i j : Nat} (hi : i < l.length) (hj : j < l.length) (e : l.getD i 0 = l.getD j 0) : i = j := by
  have a := getDN hi
  have b := getDN hj
  rw [e] at a
  exact (List.getElem?_inj hi h).mp (a.trans b.symm)
/-- a dealing over the tracks of a forest whose wagons rise -/
structure Deal (y : Yd) (pick r dl : List Nat) : Prop where
  yd : YdOk y
  pk : PkOk y pick
  ac : Ac (edg y pick)
  rw : RwOk r
  len : dl.length = r.length
  sub : ∀ t ∈ dl, t ∈ pick
  rise : ∀ i j, i < j → j < r.length → dl.getD i 0 = dl.getD j 0 → r.getD i 0 < r.getD j 0
theorem deal_of {y : Yd} (hy : YdOk y) {pick r : List Nat} {m : Nat} (hp : PkOk y pick) (ac : Ac (edg y pick)) (hl : pick.length = m) (L : Lots r m) (hr : RwOk r) : Deal y pick r ((layF r).2.map fun d => pick.getD d 0) := by
  have ly := lay_ok r
  have hlen := ly.len
  have lt := lay_lt L
  have dm : ∀ i, i < r.length → (layF r).2.getD i 0 < m := fun i hi => lt _ (List.mem_of_getElem? (getDN (by omega)))
  refine ⟨hy, hp, ac, hr, by rw [List.length_map]; exact hlen, fun t ht => ?_, fun i j hij hj e => ?_⟩
  · obtain ⟨d, hd, rfl⟩ := List.mem_map.mp ht
    exact List.mem_of_getElem? (getDN (by have := lt d hd; omega))
  · rw [getD_map (by omega), getD_map (by omega)] at e
    have e := nd_inj (inc_nd hp.inc) (by have := dm i (by omega); omega) (by have := dm j hj; omega) e
    have ne : r.getD i 0 ≠ r.getD j 0 := fun z => by have := nd_inj hr.nd (by omega) hj z; omega
    have := ly.deep i j hij hj
    omega
theorem Deal.ok {y : Yd} {pick r dl : List Nat} (h : Deal y pick r dl) : DlOk y r dl := ⟨h.len, fun t ht => h.pk.bnd t (h.sub t ht)⟩
/-! ### places -/
theorem idx_at {r : List Nat} {v : Nat} (h : v ∈ r) : r.idxOf v < r.length ∧ r.getD (r.idxOf v) 0 = v := by
  have h1 := List.idxOf_lt_length_iff.mpr h
  exact ⟨h1, by rw [getD_at h1]; exact List.getElem_idxOf h1⟩
theorem idx_of {r : List Nat} (nd : r.Nodup) {i : Nat} (h : i < r.length) : r.idxOf (r.getD i 0) = i := by
  have hm := List.mem_of_getElem? (getDN h)
  obtain ⟨a, b⟩ := idx_at hm
  exact nd_inj nd a h b
theorem row_all {r : List Nat} (h : RwOk r) {v : Nat} (hv : v < r.length) : v ∈ r := by
  classical
  refine Classical.byContradiction fun q => ?_
  have := sub_len r ((List.range r.length).erase v) h.nd fun x hx => (List.mem_erase_of_ne fun e => q (by rw [← e]; exact hx)).mpr (List.mem_range.mpr (h.bnd x hx))
  rw [List.length_erase_of_mem (List.mem_range.mpr hv), List.length_range] at this
  omega
def tkO (r dl : List Nat) (v : Nat) : Nat := dl.getD (r.idxOf v) 0
/-- of some wagons one waits for none of them -/
theorem free_ex {y : Yd} {pick r dl R : List Nat} (h : Deal y pick r dl) (hR : R ≠ []) (sub : ∀ v ∈ R, v < r.length) :
    ∃ x ∈ R, ∀ z ∈ R, ((y.ts.getD (tkO r dl z) (0, 0)).1 = (y.ts.getD (tkO r dl x) (0, 0)).1 → r.idxOf x ≤ r.idxOf z) ∧ ((y.ts.getD (tkO r dl z) (0, 0)).2 = (y.ts.getD (tkO r dl x) (0, 0)).2 → x ≤ z) := by
  have mem : ∀ v ∈ R, v ∈ r := fun v hv => row_all h.rw (sub v hv)
  obtain ⟨x, hx, q⟩ := front (k := y.k) (n := y.k + y.l) (e1 := fun t => (y.ts.getD t (0, 0)).1) (e2 := fun t => y.k + (y.ts.getD t (0, 0)).2) (ns := pick) (R := R) (tk := tkO r dl) (pl := fun v => r.idxOf v)
    (fun t ht => (ends_lt h.yd (h.pk.bnd t ht)).1) (fun t ht => by have := (ends_lt h.yd (h.pk.bnd t ht)).2; omega) h.ac hR
    (fun v hv => h.sub _ (List.mem_of_getElem? (getDN (by have := (idx_at (mem v hv)).1; have := h.len; omega))))
    (fun x hx z hz e hlt => by
      have := h.rise (r.idxOf x) (r.idxOf z) hlt (idx_at (mem z hz)).1 e
      rw [(idx_at (mem x hx)).2, (idx_at (mem z hz)).2] at this
      exact this)
    (fun x hx z hz e => by
      have e : r.idxOf x = r.idxOf z := e
      rw [← (idx_at (mem x hx)).2, ← (idx_at (mem z hz)).2, e])
  exact ⟨x, hx, fun z hz => ⟨(q z hz).1, fun e => (q z hz).2 (by show y.k + _ = y.k + _; rw [e])⟩⟩
/-! ### the waits -/
theorem wa_at {y : Yd} {r dl : List Nat} {v p : Nat} : ∀ (qs : List (Nat × Nat)) (f : List (List Nat)), (qs.map (·.1)).Nodup → (v, p) ∈ qs → v < f.length → f.getD v [] = [] → (qs.foldl (waStep y r dl) f).getD v [] = wtL y r dl p v
  | [], f, _, h, _, _ => by cases h
  | q :: qs, f, nd, h, hv, h0 => by
    rw [List.map_cons] at nd
    obtain ⟨n1, n2⟩ := List.nodup_cons.mp nd
    rw [List.foldl_cons]
    by_cases e : q.1 = v
    · have e2 : q = (v, p) := by
        rcases List.mem_cons.mp h with h | h
        · exact h.symm
        · exact absurd (List.mem_map.mpr ⟨_, h, e.symm⟩) n1
      subst e2
      rw [wa_getD qs _ fun x hx z => n1 (List.mem_map.mpr ⟨x, hx, z⟩)]
      unfold waStep
      rw [List.getD_eq_getElem?_getD, List.getElem?_set_self hv, h0]
      rfl
    · have h : (v, p) ∈ qs := by
        rcases List.mem_cons.mp h with h | h
        · rw [← h] at e; exact absurd rfl e
        · exact h
      refine wa_at qs _ n2 h (by unfold waStep; rw [List.length_set]; exact hv) ?_
      unfold waStep
      rw [List.getD_eq_getElem?_getD, List.getElem?_set_ne e, ← List.getD_eq_getElem?_getD]
      exact h0
theorem zipIdx_fst {r : List Nat} : r.zipIdx.map (·.1) = r := by
  have := List.zipIdx_map_fst 0 r
  exact this
theorem waF_at {y : Yd} {r dl : List Nat} (h : RwOk r) {v : Nat} (hv : v ∈ r) : (waF y r dl).getD v [] = wtL y r dl (r.idxOf v) v := by
  unfold waF
  refine wa_at _ _ (by rw [zipIdx_fst]; exact h.nd) ?_ (by rw [List.length_replicate]; exact h.bnd v hv) getD_rep
  obtain ⟨a, b⟩ := idx_at hv
  refine List.mem_of_getElem? (i := r.idxOf v) ?_
  rw [List.getElem?_zipIdx, getDN a, b]
  simp
theorem waF_in {y : Yd} {r dl : List Nat} (h : RwOk r) {v o : Nat} (hv : v ∈ r) (ho : o ∈ (waF y r dl).getD v []) :
    o ∈ r ∧ (((y.ts.getD (tkO r dl o) (0, 0)).1 = (y.ts.getD (tkO r dl v) (0, 0)).1 ∧ r.idxOf o < r.idxOf v) ∨ ((y.ts.getD (tkO r dl o) (0, 0)).2 = (y.ts.getD (tkO r dl v) (0, 0)).2 ∧ o < v)) := by
  rw [waF_at h hv] at ho
  unfold wtL at ho
  obtain ⟨q, hq, rfl⟩ := List.mem_map.mp ho
  obtain ⟨hq, w⟩ := List.mem_filter.mp hq
  obtain ⟨j, ej⟩ := List.mem_iff_getElem?.mp hq
  rw [List.getElem?_zipIdx] at ej
  cases e : r[j]? with
  | none => rw [e] at ej; cases ej
  | some u =>
    rw [e] at ej
    simp at ej
    subst ej
    have hj := (List.getElem?_eq_some_iff.mp e).1
    have eu : r.getD j 0 = u := by rw [List.getD_eq_getElem?_getD, e]; rfl
    have ei : r.idxOf u = j := by rw [← eu]; exact idx_of h.nd hj
    refine ⟨List.mem_of_getElem? e, ?_⟩
    unfold wtB at w
    simp only [Bool.or_eq_true, Bool.and_eq_true, decide_eq_true_eq] at w
    unfold tkO
    rw [ei]
    exact w
theorem goes {y : Yd} {pick r dl : List Nat} (h : Deal y pick r dl) : leftF ((waF y r dl).map sortN) = [] := by
  have wl : (waF y r dl).length = r.length := by
    have := waStep_len (y := y) (r := r) (dl := dl) r.zipIdx (List.replicate r.length [])
    rw [List.length_replicate] at this
    exact this
  have ml : ((waF y r dl).map sortN).length = r.length := by rw [List.length_map, wl]
  have free : ∀ left : List Nat, left ≠ [] → (∀ v ∈ left, v < r.length) → ∃ x ∈ left, x ∈ freeF ((waF y r dl).map sortN) left := fun left ne hl => by
    obtain ⟨x, hx, q⟩ := free_ex h ne hl
    have hxr := row_all h.rw (hl x hx)
    refine ⟨x, hx, List.mem_filter.mpr ⟨hx, ?_⟩⟩
    have e : ((waF y r dl).map sortN).getD x [] = sortN ((waF y r dl).getD x []) := by
      rw [List.getD_eq_getElem?_getD, List.getElem?_map, getDL (by rw [wl]; exact hl x hx)]
      rfl
    rw [e, List.isEmpty_iff, List.filter_eq_nil_iff]
    intro o ho hol
    have hol : o ∈ left := of_decide_eq_true hol
    obtain ⟨_, w⟩ := waF_in h.rw hxr ((sortN_ok _).1.mem_iff.mp ho)
    have := q o hol
    rcases w with ⟨w1, w2⟩ | ⟨w1, w2⟩
    · have := this.1 w1; omega
    · have := this.2 w1; omega
  have shr : ∀ i, (leftIter ((waF y r dl).map sortN) i).length ≤ r.length - i := fun i => by
    induction i with
    | zero => rw [← ml]; exact (leftIter_bnd 0).2
    | succ i ih =>
      have hb := (leftIter_bnd (ws := (waF y r dl).map sortN) i).1
      show (leftStep _ (leftIter ((waF y r dl).map sortN) i)).length ≤ _
      generalize leftIter ((waF y r dl).map sortN) i = left at ih hb
      by_cases ne : left = []
      · subst ne
        unfold leftStep
        split <;> simp
      · obtain ⟨x, hx, fx⟩ := free left ne fun v hv => by rw [← ml]; exact hb v hv
        unfold leftStep
        split
        · rename_i z
          rw [z] at fx
          cases fx
        · have := len_split (fun v => !decide (v ∈ freeF ((waF y r dl).map sortN) left)) left
          have pos : 0 < (left.filter fun v => !(!decide (v ∈ freeF ((waF y r dl).map sortN) left))).length := List.length_pos_of_mem (List.mem_filter.mpr ⟨hx, by simp [fx]⟩)
          have : 0 < left.length := List.length_pos_iff.mpr ne
          omega
  have := shr ((waF y r dl).map sortN).length
  rw [ml, Nat.sub_self] at this
  refine List.eq_nil_of_length_eq_zero (Nat.le_zero.mp ?_)
  unfold leftF
  rw [ml]
  exact this
theorem trk_go {v t : Nat} : ∀ (ps : List (Nat × Nat)) (f : List Nat), (ps.map (·.1)).Nodup → v < f.length → ((v, t) ∈ ps ∨ ((∀ p ∈ ps, p.1 ≠ v) ∧ f.getD v 0 = t)) → (ps.foldl (fun f p => f.set p.1 p.2) f).getD v 0 = t
  | [], f, _, _, h => by
    rcases h with h | h
    · cases h
    · exact h.2
  | p :: ps, f, nd, hv, h => by
    rw [List.map_cons] at nd
    obtain ⟨n1, n2⟩ := List.nodup_cons.mp nd
    rw [List.foldl_cons]
    refine trk_go ps _ n2 (by rw [List.length_set]; exact hv) ?_
    rcases h with h | ⟨h1, h2⟩
    · rcases List.mem_cons.mp h with h | h
      · right
        rw [← h] at n1 ⊢
        refine ⟨fun q hq e => n1 (List.mem_map.mpr ⟨q, hq, e⟩), ?_⟩
        rw [getD_set hv, if_pos rfl]
      · exact .inl h
    · refine .inr ⟨fun q hq => h1 q (List.mem_cons_of_mem _ hq), ?_⟩
      have ne := h1 p List.mem_cons_self
      rw [List.getD_eq_getElem?_getD, List.getElem?_set_ne ne, ← List.getD_eq_getElem?_getD]
      exact h2
theorem trk_at {r dl : List Nat} (h : RwOk r) (hl : dl.length = r.length) {v : Nat} (hv : v < r.length) : (trkF r dl).getD v 0 = tkO r dl v := by
  have hr := row_all h hv
  obtain ⟨a, b⟩ := idx_at hr
  refine trk_go _ _ ?_ (by rw [List.length_replicate]; exact hv) (.inl ?_)
  · have : (r.zip dl).map (·.1) = r := List.map_fst_zip (by omega)
    rw [this]
    exact h.nd
  · refine List.mem_of_getElem? (i := r.idxOf v) ?_
    rw [List.getElem?_zip_eq_some]
    exact ⟨by rw [getDN a, b], getDN (by omega)⟩
end TW
end
section
set_option Elab.async false
set_option linter.all false
set_option maxRecDepth 100000
/-! The plain law, 8: the run brings all home. -/
namespace TW
/-- all wagons that are not gone -/
def allS (s : Sd) : List Nat := s.w ++ s.f.flatten ++ s.s.flatten
theorem flat_take_out {ls : List (List Nat)} {i : Nat} (h : i < ls.length) : ls.flatten.Perm (ls.getD i [] ++ (ls.eraseIdx i).flatten) := by
  induction ls generalizing i with
  | nil => simp at h
  | cons l r ih =>
    cases i with
    | zero => exact .refl _
    | succ i =>
      have := ih (i := i) (by simpa using h)
      rw [List.flatten_cons, List.eraseIdx_cons_succ, List.flatten_cons, List.getD_cons_succ]
      refine (List.Perm.append_left l this).trans ?_
      rw [← List.append_assoc, ← List.append_assoc]
      exact List.Perm.append_right _ List.perm_append_comm
theorem flat_put {ls : List (List Nat)} {i : Nat} {x : List Nat} (h : i < ls.length) : (ls.set i x).flatten.Perm (x ++ (ls.eraseIdx i).flatten) := by
  have := flat_take_out (ls := ls.set i x) (i := i) (by simpa using h)
  rw [List.getD_eq_getElem?_getD, List.getElem?_set_self h, List.eraseIdx_set_eq] at this
  exact this
theorem getD_setL {ls : List (List Nat)} {i j : Nat} {x : List Nat} (h : i < ls.length) : (ls.set i x).getD j [] = if i = j then x else ls.getD j [] := by
  rw [List.getD_eq_getElem?_getD, List.getElem?_set]
  by_cases e : i = j
  · rw [if_pos e, if_pos e, if_pos (e ▸ h)]; rfl
  · rw [if_neg e, if_neg e, List.getD_eq_getElem?_getD]
structure Run (y : Yd) (r dl : List Nat) (s : Sd) : Prop where
  i : SdI y r.length s
  per : (List.range s.g ++ allS s).Perm (List.range r.length)
  wt : ∃ j, s.w = r.drop j ∧ ∀ v ∈ s.f.flatten, r.idxOf v < j
  fst : ∀ a, ∀ v ∈ s.f.getD a [], (y.ts.getD (tkO r dl v) (0, 0)).1 = a
  fpw : ∀ a, (s.f.getD a []).Pairwise fun u v => r.idxOf u < r.idxOf v
  snd : ∀ b, ∀ v ∈ s.s.getD b [], (∀ u ∈ s.w ++ s.f.flatten, (y.ts.getD (tkO r dl u) (0, 0)).2 = b → v < u)
  spw : ∀ b, (s.s.getD b []).Pairwise (· < ·)
theorem Run.nd {y : Yd} {r dl : List Nat} {s : Sd} (h : Run y r dl s) : (List.range s.g ++ allS s).Nodup := h.per.nodup_iff.mpr List.nodup_range
theorem run0 {y : Yd} {r dl : List Nat} (hr : RwOk r) : Run y r dl (stand0 y r) := by
  have fl : ∀ n : Nat, (List.replicate n ([] : List Nat)).flatten = [] := fun n => by simp
  refine ⟨stand0_ok hr, ?_, ⟨0, rfl, fun v hv => ?_⟩, fun a v hv => ?_, fun a => ?_, fun b v hv => ?_, fun b => ?_⟩
  · unfold allS stand0
    simp only [fl, List.append_nil]
    show ([] ++ r).Perm _
    rw [List.nil_append]
    refine (List.perm_ext_iff_of_nodup hr.nd List.nodup_range).mpr fun v => ⟨fun h => List.mem_range.mpr (hr.bnd v h), fun h => row_all hr (List.mem_range.mp h)⟩
  · unfold stand0 at hv
    simp only [fl] at hv
    cases hv
  · unfold stand0 at hv
    simp only [getD_rep] at hv
    cases hv
  · unfold stand0
    simp only [getD_rep]
    exact .nil
  · unfold stand0 at hv
    simp only [getD_rep] at hv
    cases hv
  · unfold stand0
    simp only [getD_rep]
    exact .nil
theorem Run.ge {y : Yd} {r dl : List Nat} {s : Sd} (h : Run y r dl s) {v : Nat} (hv : v ∈ allS s) : s.g ≤ v := by
  rcases Nat.lt_or_ge v s.g with q | q
  · have := (List.nodup_append.mp h.nd).2.2 v (List.mem_range.mpr q) v hv
    exact absurd rfl this
  · exact q
/-- as long as not all is home a move is green -/
theorem green_ex {y : Yd} {pick r dl : List Nat} {s : Sd} (D : Deal y pick r dl) (h : Run y r dl s) (hl : leftM s ≠ 0) : greenF y (trkF r dl) s ≠ [] := by
  intro z
  have z1 : grIn y (trkF r dl) s = [] ∧ grOver y (trkF r dl) s y.ts.length = [] ∧ grOut s s.s.length = [] := by
    unfold greenF at z
    have h1 := List.append_eq_nil_iff.mp z
    have h2 := List.append_eq_nil_iff.mp h1.1
    exact ⟨h2.1, h2.2, h1.2⟩
  obtain ⟨z1, z2, z3⟩ := z1
  have w0 : s.w = [] := by
    unfold grIn at z1
    split at z1
    · assumption
    · cases z1
  by_cases f0 : s.f.flatten = []
  · have s0 : s.s.flatten ≠ [] := fun e => hl (by unfold leftM; rw [w0, f0, e]; rfl)
    have ha : allS s = s.s.flatten := by unfold allS; rw [w0, f0]; rfl
    have hp := h.per.length_eq
    rw [List.length_append, List.length_range, List.length_range, ha] at hp
    have := List.length_pos_iff.mpr s0
    have hg : s.g ∈ List.range s.g ++ allS s := h.per.mem_iff.mpr (List.mem_range.mpr (by omega))
    have hg : s.g ∈ allS s := by
      rcases List.mem_append.mp hg with q | q
      · have := List.mem_range.mp q; omega
      · exact q
    rw [ha] at hg
    obtain ⟨l, hl1, hl2⟩ := List.mem_flatten.mp hg
    obtain ⟨b, eb⟩ := List.mem_iff_getElem?.mp hl1
    have hb := (List.getElem?_eq_some_iff.mp eb).1
    have el : s.s.getD b [] = l := by rw [List.getD_eq_getElem?_getD, eb]; rfl
    have hd : l.head? = some s.g := by
      cases e : l with
      | nil => rw [e] at hl2; cases hl2
      | cons x rest =>
        have pw := h.spw b
        rw [el, e] at pw
        have hx : x ∈ allS s := by rw [ha]; exact List.mem_flatten.mpr ⟨l, hl1, by rw [e]; exact List.mem_cons_self⟩
        have h1 := h.ge hx
        rw [e] at hl2
        rcases List.mem_cons.mp hl2 with q | q
        · rw [q]; rfl
        · have := (List.pairwise_cons.mp pw).1 _ q
          omega
    have : (⟨.out, b⟩ : Mv) ∈ grOut s s.s.length := List.mem_map.mpr ⟨b, List.mem_filter.mpr ⟨List.mem_range.mpr hb, by rw [el]; exact decide_eq_true hd⟩, rfl⟩
    rw [z3] at this
    cases this
  · obtain ⟨x, hx, q⟩ := free_ex D f0 h.i.bf
    have hxn := h.i.bf x hx
    obtain ⟨l, hl1, hl2⟩ := List.mem_flatten.mp hx
    obtain ⟨a, ea⟩ := List.mem_iff_getElem?.mp hl1
    have el : s.f.getD a [] = l := by rw [List.getD_eq_getElem?_getD, ea]; rfl
    have hxa := h.fst a x (by rw [el]; exact hl2)
    have htk := trk_at D.rw D.len hxn
    have htp : tkO r dl x ∈ pick := D.sub _ (List.mem_of_getElem? (getDN (by have := (idx_at (row_all D.rw hxn)).1; have := D.len; omega)))
    have hty := D.pk.bnd _ htp
    have ehd : ∃ rest, s.f.getD a [] = x :: rest := by
      rw [el]
      cases e : l with
      | nil => rw [e] at hl2; cases hl2
      | cons u rest =>
        have pw := h.fpw a
        rw [el, e] at pw
        have hu : u ∈ s.f.getD a [] := by rw [el, e]; exact List.mem_cons_self
        rw [e] at hl2
        rcases List.mem_cons.mp hl2 with w | w
        · exact ⟨rest, by rw [w]⟩
        · have h1 := (List.pairwise_cons.mp pw).1 _ w
          have h2 := (q u (mem_getD hu)).1 ((h.fst a u hu).trans hxa.symm)
          omega
    obtain ⟨rest, ehd⟩ := ehd
    have gr : ovG y (trkF r dl) s (tkO r dl x) = true := by
      have ey := tsGetD hty
      rw [ovG_cons hty (h := x) (r := rest) (by rw [← ey, hxa]; exact ehd), htk, decide_eq_true rfl, Bool.true_and, List.isEmpty_iff, List.filter_eq_nil_iff]
      intro v hv c
      rw [w0, List.nil_append] at hv
      have hvn := h.i.bf v hv
      rw [trk_at D.rw D.len hvn, Bool.and_eq_true, decide_eq_true_eq, decide_eq_true_eq, ← ey] at c
      have := (q v hv).2 c.2
      omega
    have : (⟨.over, tkO r dl x⟩ : Mv) ∈ grOver y (trkF r dl) s y.ts.length := List.mem_map.mpr ⟨_, List.mem_filter.mpr ⟨List.mem_range.mpr hty, gr⟩, rfl⟩
    rw [z2] at this
    cases this
/-- a green move keeps order -/
theorem run_step {y : Yd} {pick r dl : List Nat} {s : Sd} {m : Mv} (D : Deal y pick r dl) (h : Run y r dl s) (hm : m ∈ greenF y (trkF r dl) s) : Run y r dl (afterM y s m) := by
  have hk := trk_ok D.ok
  obtain ⟨c1, c2⟩ := green_can D.yd hk h.i hm
  have hi := (moved D.yd h.i c1 c2).1
  have fl := h.i.fl
  have sl := h.i.sl
  unfold greenF at hm
  rcases List.mem_append.mp hm with hm | hm
  · rcases List.mem_append.mp hm with hm | hm
    · unfold grIn at hm
      split at hm
      · cases hm
      · rename_i v rest hw
        simp only [List.mem_cons, List.not_mem_nil, or_false] at hm
        subst hm
        have hvn := h.i.bw v (by rw [hw]; exact List.mem_cons_self)
        rw [trk_at D.rw D.len hvn] at hi c1 ⊢
        have ha : (y.ts.getD (tkO r dl v) (0, 0)).1 < s.f.length := by rw [fl]; exact c1
        show Run y r dl (goIn s (y.ts.getD (tkO r dl v) (0, 0)).1)
        have hi : SdI y r.length (goIn s (y.ts.getD (tkO r dl v) (0, 0)).1) := hi
        generalize ea : (y.ts.getD (tkO r dl v) (0, 0)).1 = a at hi ha
        have e1 : goIn s a = ⟨rest, s.f.set a (s.f.getD a [] ++ [v]), s.s, s.g⟩ := by unfold goIn; rw [hw]; rfl
        rw [e1] at hi ⊢
        obtain ⟨j, hj, hjf⟩ := h.wt
        have hjl : j < r.length := by
          rcases Nat.lt_or_ge j r.length with q | q
          · exact q
          · rw [List.drop_eq_nil_of_le q] at hj
            rw [hw] at hj; cases hj
        have hj2 : r.getD j 0 = v ∧ rest = r.drop (j + 1) := by
          rw [List.drop_eq_getElem_cons hjl, hw] at hj
          injection hj with q1 q2
          exact ⟨by rw [getD_at hjl]; exact q1.symm, q2⟩
        have iv : r.idxOf v = j := by rw [← hj2.1]; exact idx_of D.rw.nd hjl
        have fp : (s.f.set a (s.f.getD a [] ++ [v])).flatten.Perm (v :: s.f.flatten) := by
          refine (flat_put ha).trans ?_
          rw [List.append_assoc]
          exact List.perm_middle.trans (List.Perm.cons v (flat_take_out ha).symm)
        have same : ∀ u, u ∈ rest ++ (s.f.set a (s.f.getD a [] ++ [v])).flatten ↔ u ∈ s.w ++ s.f.flatten := fun u => by
          rw [List.mem_append, List.mem_append, fp.mem_iff, hw, List.mem_cons, List.mem_cons]
          constructor
          · rintro (q | q | q)
            · exact .inl (.inr q)
            · exact .inl (.inl q)
            · exact .inr q
          · rintro ((q | q) | q)
            · exact .inr (.inl q)
            · exact .inl q
            · exact .inr (.inr q)
        refine ⟨hi, ?_, ⟨j + 1, hj2.2, fun u hu => ?_⟩, fun b u hu => ?_, fun b => ?_, fun b u hu x hx => h.snd b u hu x ((same x).mp hx), h.spw⟩
        · refine List.Perm.trans (List.Perm.append_left _ ?_) h.per
          unfold allS
          rw [hw]
          show (rest ++ _ ++ _).Perm (v :: rest ++ _ ++ _)
          refine List.Perm.append_right _ ?_
          exact (List.Perm.append_left rest fp).trans List.perm_middle
        · rcases List.mem_cons.mp (fp.mem_iff.mp hu) with q | q
          · rw [q, iv]; omega
          · have := hjf u q; omega
        · simp only [getD_setL ha] at hu
          split at hu
          · rename_i e
            rcases List.mem_append.mp hu with q | q
            · rw [← e]; exact h.fst a u q
            · simp only [List.mem_cons, List.not_mem_nil, or_false] at q
              rw [q, ea, e]
          · exact h.fst b u hu
        · simp only [getD_setL ha]
          split
          · rw [List.pairwise_append]
            refine ⟨h.fpw a, by simp, fun u hu x hx => ?_⟩
            simp only [List.mem_cons, List.not_mem_nil, or_false] at hx
            rw [hx, iv]
            exact hjf u (mem_getD hu)
          · exact h.fpw b
    · obtain ⟨t, ht, rfl⟩ := List.mem_map.mp hm
      obtain ⟨ht1, ht2⟩ := List.mem_filter.mp ht
      have ht1 := List.mem_range.mp ht1
      have ey := tsGetD ht1
      have hb := D.yd.bnd _ (List.getElem_mem ht1)
      cases e : s.f.getD y.ts[t].1 [] with
      | nil => rw [ovG_nil ht1 e] at ht2; cases ht2
      | cons v rest =>
        rw [ovG_cons ht1 e, Bool.and_eq_true, decide_eq_true_eq, List.isEmpty_iff, List.filter_eq_nil_iff] at ht2
        obtain ⟨g1, g2⟩ := ht2
        have hvf : v ∈ s.f.getD y.ts[t].1 [] := by rw [e]; exact List.mem_cons_self
        have hvn := h.i.bf v (mem_getD hvf)
        rw [trk_at D.rw D.len hvn] at g1
        have g2 : ∀ u ∈ s.w ++ s.f.flatten, (y.ts.getD (tkO r dl u) (0, 0)).2 = y.ts[t].2 → v ≤ u := fun u hu q => by
          have hun : u < r.length := by
            rcases List.mem_append.mp hu with w | w
            · exact h.i.bw u w
            · exact h.i.bf u w
          have := g2 u hu
          rw [trk_at D.rw D.len hun, Bool.and_eq_true, decide_eq_true_eq, decide_eq_true_eq] at this
          rcases Nat.lt_or_ge u v with w | w
          · exact absurd ⟨w, q⟩ this
          · exact w
        have e1 : afterM y s ⟨.over, t⟩ = ⟨s.w, s.f.set y.ts[t].1 rest, s.s.set y.ts[t].2 (s.s.getD y.ts[t].2 [] ++ [v]), s.g⟩ := by
          show goOver s (y.ts.getD t (0, 0)) = _
          rw [ey]
          unfold goOver
          rw [e]
          rfl
        rw [e1] at hi ⊢
        have tv : (y.ts.getD (tkO r dl v) (0, 0)).2 = y.ts[t].2 := by rw [g1, ey]
        have ha : y.ts[t].1 < s.f.length := by omega
        have hb2 : y.ts[t].2 < s.s.length := by omega
        generalize y.ts[t].1 = a at e hvf ha hi e1
        generalize y.ts[t].2 = b at hb2 hi g2 tv
        have fp : s.f.flatten.Perm (v :: (s.f.set a rest).flatten) := by
          refine (flat_take_out ha).trans ?_
          rw [e]
          exact List.Perm.cons v (flat_put ha).symm
        have sp : (s.s.set b (s.s.getD b [] ++ [v])).flatten.Perm (v :: s.s.flatten) := by
          refine (flat_put hb2).trans ?_
          rw [List.append_assoc]
          exact List.perm_middle.trans (List.Perm.cons v (flat_take_out hb2).symm)
        have nd := h.nd
        have less : ∀ u, u ∈ s.w ++ (s.f.set a rest).flatten → u ∈ s.w ++ s.f.flatten ∧ u ≠ v := fun u hu => by
          have hn : (v :: (s.w ++ (s.f.set a rest).flatten)).Nodup := by
            have h1 : (s.w ++ s.f.flatten).Nodup := (List.nodup_append.mp (List.nodup_append.mp nd).2.1).1
            exact (((List.Perm.append_left s.w fp).trans List.perm_middle).nodup_iff).mp h1
          refine ⟨?_, fun z => (List.nodup_cons.mp hn).1 (z ▸ hu)⟩
          rcases List.mem_append.mp hu with q | q
          · exact List.mem_append_left _ q
          · exact List.mem_append_right _ (fp.mem_iff.mpr (List.mem_cons_of_mem _ q))
        obtain ⟨j, hj, hjf⟩ := h.wt
        refine ⟨hi, ?_, ⟨j, hj, fun u hu => hjf u (fp.mem_iff.mpr (List.mem_cons_of_mem _ hu))⟩, fun c u hu => ?_, fun c => ?_, fun c u hu x hx q => ?_, fun c => ?_⟩
        · refine List.Perm.trans (List.Perm.append_left _ ?_) h.per
          unfold allS
          simp only
          rw [List.append_assoc, List.append_assoc]
          refine List.Perm.append_left _ ?_
          refine (List.Perm.append_left _ sp).trans (List.perm_middle.trans ?_)
          exact List.Perm.append_right s.s.flatten fp.symm
        · simp only [getD_setL ha] at hu
          split at hu
          · rename_i z
            rw [← z]
            exact h.fst a u (by rw [e]; exact List.mem_cons_of_mem _ hu)
          · exact h.fst c u hu
        · simp only [getD_setL ha]
          split
          · have := h.fpw a
            rw [e] at this
            exact (List.pairwise_cons.mp this).2
          · exact h.fpw c
        · obtain ⟨x1, x2⟩ := less x hx
          simp only [getD_setL hb2] at hu
          split at hu
          · rename_i z
            rcases List.mem_append.mp hu with w | w
            · exact h.snd b u w x x1 (by rw [q, z])
            · simp only [List.mem_cons, List.not_mem_nil, or_false] at w
              have := g2 x x1 (by rw [q, z])
              omega
          · exact h.snd c u hu x x1 q
        · simp only [getD_setL hb2]
          split
          · rw [List.pairwise_append]
            refine ⟨h.spw b, by simp, fun u hu x hx => ?_⟩
            simp only [List.mem_cons, List.not_mem_nil, or_false] at hx
            rw [hx]
            exact h.snd b u hu v (List.mem_append_right _ (mem_getD hvf)) tv
          · exact h.spw c
  · obtain ⟨b, hb, rfl⟩ := List.mem_map.mp hm
    obtain ⟨h1, h2⟩ := List.mem_filter.mp hb
    have h1 : b < s.s.length := List.mem_range.mp h1
    have h2 : (s.s.getD b []).head? = some s.g := of_decide_eq_true h2
    cases e : s.s.getD b [] with
    | nil => rw [e] at h2; cases h2
    | cons x rest =>
      rw [e] at h2
      cases h2
      have e1 : afterM y s ⟨.out, b⟩ = ⟨s.w, s.f, s.s.set b rest, s.g + 1⟩ := by
        show goOut s b = _
        unfold goOut
        rw [e]
        rfl
      rw [e1] at hi ⊢
      have sp : s.s.flatten.Perm (s.g :: (s.s.set b rest).flatten) := by
        refine (flat_take_out h1).trans ?_
        rw [e]
        exact List.Perm.cons _ (flat_put h1).symm
      refine ⟨hi, ?_, h.wt, h.fst, h.fpw, fun c u hu => ?_, fun c => ?_⟩
      · refine List.Perm.trans ?_ h.per
        show (List.range (s.g + 1) ++ (s.w ++ s.f.flatten ++ (s.s.set b rest).flatten)).Perm (List.range s.g ++ (s.w ++ s.f.flatten ++ s.s.flatten))
        rw [List.range_succ, List.append_assoc]
        refine List.Perm.append_left _ ?_
        show (s.g :: (s.w ++ s.f.flatten ++ (s.s.set b rest).flatten)).Perm _
        exact (List.Perm.append_left _ sp |>.trans List.perm_middle).symm
      · simp only [getD_setL h1] at hu
        split at hu
        · rename_i z
          rw [← z]
          exact h.snd b u (by rw [e]; exact List.mem_cons_of_mem _ hu)
        · exact h.snd c u hu
      · simp only [getD_setL h1]
        split
        · have := h.spw b
          rw [e] at this
          exact (List.pairwise_cons.mp this).2
        · exact h.spw c
theorem run_go {y : Yd} {pick r dl ps : List Nat} (D : Deal y pick r dl) : ∀ (m : Nat) (q : List Mv × Sd), Run y r dl q.2 → leftM q.2 = m → ∃ ms, (iterR y (trkF r dl) ps m q).1 = q.1 ++ ms ∧ ms.length = m ∧ Legal y q.2 ms ∧ (iterR y (trkF r dl) ps m q).2 = ms.foldl (afterM y) q.2 ∧ Run y r dl (iterR y (trkF r dl) ps m q).2 ∧ leftM (iterR y (trkF r dl) ps m q).2 = 0
  | 0, q, h, hl => ⟨[], by simp [iterR], rfl, trivial, rfl, h, hl⟩
  | m + 1, q, h, hl => by
    have ne := green_ex D h (by omega)
    have hk := trk_ok D.ok
    have gl : 0 < (greenF y (trkF r dl) q.2).length := List.length_pos_iff.mpr ne
    have hm : (greenF y (trkF r dl) q.2).getD (pickAt ps q.1.length % (greenF y (trkF r dl) q.2).length) mDef ∈ greenF y (trkF r dl) q.2 := by
      have hlt := Nat.mod_lt (pickAt ps q.1.length) gl
      rw [List.getD_eq_getElem?_getD, List.getElem?_eq_getElem hlt]
      exact List.getElem_mem hlt
    unfold iterR
    rw [stepR_cons ne]
    generalize (greenF y (trkF r dl) q.2).getD (pickAt ps q.1.length % (greenF y (trkF r dl) q.2).length) mDef = mv at hm
    have hc := green_can D.yd hk h.i hm
    have hmv := moved D.yd h.i hc.1 hc.2
    obtain ⟨ms, a, b, c, d, e, f⟩ := run_go D m (q.1 ++ [mv], afterM y q.2 mv) (run_step D h hm) (by show leftM (afterM y q.2 mv) = m; omega)
    refine ⟨mv :: ms, by rw [a]; simp, by simp [b], ⟨hc, c⟩, by rw [d]; rfl, e, f⟩
theorem run_home {y : Yd} {pick r dl : List Nat} (ps : List Nat) (D : Deal y pick r dl) : (runF y r dl ps).1.length = 3 * r.length ∧ Legal y (stand0 y r) (runF y r dl ps).1 ∧ (runF y r dl ps).1.foldl (afterM y) (stand0 y r) = (runF y r dl ps).2 ∧ (runF y r dl ps).2.g = r.length := by
  obtain ⟨ms, a, b, c, d, e, f⟩ := run_go (ps := ps) D (3 * r.length) ([], stand0 y r) (run0 D.rw) left0
  unfold runF
  rw [List.nil_append] at a
  refine ⟨by rw [a, b], by rw [a]; exact c, by rw [a, d], ?_⟩
  have hp := e.per.length_eq
  generalize (iterR y (trkF r dl) ps (3 * r.length) ([], stand0 y r)).2 = s at f hp
  unfold leftM at f
  unfold allS at hp
  simp only [List.length_append, List.length_range] at hp
  omega
end TW
end
section
set_option Elab.async false
set_option linter.all false
set_option maxRecDepth 100000
/-! The plain law, 9: the yard and the prices drawn are such. -/
namespace TW
theorem many_le {st : PoolS} {most n : Nat} : (manyF st most n).1 ≤ most := by
  unfold manyF
  split
  · exact Nat.min_le_left _ _
  · have := draw_lt (st := (drawN st 3).2) (n := min most n + 1) (by omega)
    omega
theorem yardK_ok {k l : Nat} {m : Nat × PoolS} (k1 : 1 ≤ k) (k2 : k ≤ 12) (l1 : 1 ≤ l) (l2 : l ≤ 12) (hm : m.1 ≤ 60) : YdOk (yardK k l m).1 := by
  have hp := trnF_perm (left := List.range (k * l)) (st := m.2)
  have so := sortN_ok ((trnF (List.range (k * l)) m.2).1.take m.1)
  have nd : (trnF (List.range (k * l)) m.2).1.Nodup := hp.nodup_iff.mpr List.nodup_range
  have bd : ∀ z ∈ sortN ((trnF (List.range (k * l)) m.2).1.take m.1), z < k * l := fun z hz => List.mem_range.mp (hp.mem_iff.mp (List.mem_of_mem_take (so.1.mem_iff.mp hz)))
  have nd2 : (sortN ((trnF (List.range (k * l)) m.2).1.take m.1)).Nodup := so.1.nodup_iff.mpr (List.Pairwise.sublist (List.take_sublist _ _) nd)
  refine ⟨k1, k2, l1, l2, ?_, fun t ht => ?_, ?_⟩
  · show ((sortN ((trnF (List.range (k * l)) m.2).1.take m.1)).map _).length ≤ 60
    rw [List.length_map, so.1.length_eq, List.length_take]
    omega
  · obtain ⟨a, ha, rfl⟩ := List.mem_map.mp ht
    have h := bd a ha
    exact ⟨Nat.div_lt_of_lt_mul (by rw [Nat.mul_comm]; exact h), Nat.mod_lt _ (by omega)⟩
  · show ((sortN ((trnF (List.range (k * l)) m.2).1.take m.1)).map fun a => (a / l, a % l)).Pairwise ltT
    rw [List.pairwise_map]
    refine (so.2.and nd2).imp fun {a b} h => ?_
    obtain ⟨h1, h2⟩ := h
    have e1 := Nat.div_add_mod a l
    have e2 := Nat.div_add_mod b l
    have le := Nat.div_le_div_right (c := l) h1
    unfold ltT
    simp only
    rcases Nat.lt_or_ge (a / l) (b / l) with q | q
    · exact .inl q
    · have e : a / l = b / l := by omega
      rw [e] at e1
      exact .inr ⟨e, by omega⟩
theorem yard_ok {st : PoolS} : YdOk (yardF st 4 7).1 ∧ (yardF st 4 7).1.k ≤ 4 ∧ (yardF st 4 7).1.l ≤ 4 ∧ (yardF st 4 7).1.ts.length ≤ 7 := by
  have a := draw_lt (st := st) (n := 4) (by omega)
  have b := draw_lt (st := (drawN st 4).2) (n := 4) (by omega)
  have m : (manyF (drawN (drawN st 4).2 4).2 7 ((1 + (drawN st 4).1) * (1 + (drawN (drawN st 4).2 4).1))).1 ≤ 7 := many_le
  unfold yardF
  refine ⟨yardK_ok (by omega) (by omega) (by omega) (by omega) (by omega), ?_, ?_, ?_⟩
  · show 1 + _ ≤ 4; omega
  · show 1 + _ ≤ 4; omega
  · show ((sortN _).map _).length ≤ 7
    rw [List.length_map, (sortN_ok _).1.length_eq, List.length_take]
    omega
theorem prices_ok {st : PoolS} {y : Yd} : PrOk y (pricesF st y.ts.length).1 := by
  unfold pricesF
  have h : 1 ≤ (if (drawN st 2).1 = 0 then 3 else 1000) ∧ (if (drawN st 2).1 = 0 then 3 else 1000) ≤ 1000 := by split <;> omega
  generalize (if (drawN st 2).1 = 0 then 3 else 1000) = n at h
  obtain ⟨h1, h2⟩ := drs_ok (st := (drawN st 2).2) h.1 y.ts.length
  exact ⟨h1, fun p hp => by have := h2 p hp; omega⟩
theorem range_pk {y : Yd} : PkOk y (List.range y.ts.length) := ⟨List.pairwise_lt_range, fun n hn => List.mem_range.mp hn⟩
/-- a yard without a worth -/
theorem che_zero {y : Yd} {ps : List Nat} : cheF y ps 0 = some [] := by
  have go : ∀ ns : List Nat, ∀ q : List Nat × List Nat, q.1 = [] → (ns.foldl (cheStep y 0) q).1 = [] := fun ns => by
    induction ns with
    | nil => exact fun q h => h
    | cons t ns ih =>
      intro q h
      rw [List.foldl_cons]
      refine ih _ ?_
      unfold cheStep
      rw [if_neg (by omega)]
      exact h
  have e : (cheL y ps 0).1 = [] := go _ _ rfl
  unfold cheF
  rw [e, if_pos (show ([] : List Nat).length = 0 from rfl)]
  have h := (sortN_ok []).1.length_eq
  have h2 : sortN [] = [] := List.eq_nil_of_length_eq_zero h
  rw [h2]
theorem plan_zero {y : Yd} : planF y [] [] = some [] := rfl
theorem plan_zero1 {y : Yd} : planF y [] [0] = none := by
  unfold planF
  exact if_pos (show ((0 : Nat) : Int) ≤ maxZ (layF [0]).2 from by decide)
end TW
end
section
set_option Elab.async false
set_option linter.all false
set_option maxRecDepth 100000
set_option maxHeartbeats 2000000
/-! The layer, 27: the pool made; the law's own call. -/
namespace TW
open PySem PySem.Spec PyProof.Rows L2
section
variable {G : Glb} {K : PySem.W.Frag} {B : Bas} {M M' : List Addr} {τ : Tmp} {σ σ' : L2.St} {ρ ρ' ρ1 ρ2 ρ3 : Ev} {H H' : Hp} {v : V} {av : AV} {ds : List PyData} {p q : Addr} {st : PoolS} {ns : List Int}
/-- a list of two numbers and a list just made: a pool -/
theorem Sem.mkPool {l : Addr} {cs : List Int} {a b : Int} (S : Sem G K B M ((.ref l, .flat (cs.map PyData.int)) :: τ) σ ρ H) (hp : H p = none) :
    Sem G K B (p :: M) ((.ref p, .pool p l ⟨a, b, cs⟩) :: τ) σ ρ (upd H p (.lst [.int a, .int b, .ref l])) := by
  have np := S.notM hp
  have sm : Same (hid M H) (hid (p :: M) (upd H p (.lst [.int a, .int b, .ref l]))) := fun a u e => by
    obtain ⟨n, e⟩ := hid_some e
    have ne := ne_of_none e hp
    rw [hid_out (by simp [ne, n]), upd_ne ne]
    exact e
  have e : ∀ x ∈ M, upd H p (.lst [.int a, .int b, .ref l]) x = H x := fun a ha => upd_ne fun z => np (z ▸ ha)
  have al : ∀ x ∈ p :: M, upd H p (.lst [.int a, .int b, .ref l]) x ≠ none := fun x ha => by
    rcases List.mem_cons.mp ha with rfl | ha
    · rw [upd_same]; simp
    · rw [e x ha]; exact S.al x ha
  have S' : Sem G K B (p :: M) ((.ref l, .flat (cs.map PyData.int)) :: τ) σ ρ (upd H p (.lst [.int a, .int b, .ref l])) := S.grow sm (fun a ha _ => e a ha) (fun a ha => List.mem_cons_of_mem _ ha) al (S.tabs.grow sm (fun a t => List.mem_cons_of_mem _ (S.tabM t)) fun a t => e a (S.tabM t))
  have np0 : p ∉ B.M0 := fun z => np (S.sub p z)
  have key : ∀ z : V, z = .ref l → Sem G K B M ((z, .flat (cs.map PyData.int)) :: τ) σ ρ H → Sem G K B (p :: M) ((.ref p, .pool p l ⟨a, b, cs⟩) :: τ) σ ρ (upd H p (.lst [.int a, .int b, .ref l])) := fun z hz S => by
    obtain ⟨f, ft, s1, t1, n1, o1, o2⟩ := S.own
    cases t1 with
    | @cons _ _ fp fs _ h t n =>
      obtain ⟨l', vs, rfl, rfl, hl0, hl, hvs⟩ := h
      cases hz
      have ol := o2 l (by simp)
      have nl : p ≠ l := fun z => np (z ▸ ol.1)
      have ev := dpa_ints_of hvs
      have s1' := s1.frame sm fun i a ha => e a (o1 i a ha).1
      have t1' := t.frame sm fun a ha => e a (o2 a (List.mem_append_right _ ha)).1
      refine ⟨⟨f, [p, l] ++ fs, s1', .cons ⟨rfl, rfl, nl, upd_same, ?_⟩ t1' fun x hx z => ?_, fun i x hx z => ?_, fun i x hx => ⟨List.mem_cons_of_mem _ (o1 i x hx).1, (o1 i x hx).2⟩, fun x hx => ?_⟩, S'.keep, S'.sub, S'.old, S'.al, S'.tabs, S'.tm, S'.len⟩
      · rw [e l ol.1, hl, ev]
      · simp only [List.mem_cons, List.not_mem_nil, or_false] at hx
        rcases hx with rfl | rfl
        · exact np (o2 x (List.mem_append_right _ z)).1
        · exact n x (by simp) z
      · have z : x ∈ [p, l] ++ fs := z
        rw [List.mem_append] at z
        rcases z with z | z
        · simp only [List.mem_cons, List.not_mem_nil, or_false] at z
          rcases z with rfl | rfl
          · exact np (o1 i x hx).1
          · exact n1 i x hx (by simp)
        · exact n1 i x hx (List.mem_append_right _ z)
      · have hx : x ∈ [p, l] ++ fs := hx
        rw [List.mem_append] at hx
        rcases hx with hx | hx
        · simp only [List.mem_cons, List.not_mem_nil, or_false] at hx
          rcases hx with rfl | rfl
          · exact ⟨List.mem_cons_self, fun z => absurd z np0⟩
          · exact ⟨List.mem_cons_of_mem _ ol.1, ol.2⟩
        · have := o2 x (List.mem_append_right _ hx)
          exact ⟨List.mem_cons_of_mem _ this.1, this.2⟩
  exact key _ rfl S
/-- a pool that a call has made -/
theorem Sem.newPool (S : Sem G K B M τ σ ρ H) (h : Post G M H [] M' H') (hP : PoolAt H' p q st) (hp : p ∈ M') (hq : q ∈ M') (np : p ∉ M) (nq : q ∉ M) : Sem G K B M' ((.ref p, .pool p q st) :: τ) σ ρ H' := by
  have S' := S.after h
  have e : ∀ a ∈ M, ¬ G.tab a → H' a = H a := fun a ha ht => h.old a ha (by simp) ht
  obtain ⟨f, ft, s1, t1, n1, o1, o2⟩ := S.own
  have s1' := s1.frame h.sm fun i a ha => e a (o1 i a ha).1 (S.notab (o1 i a ha))
  have t1' := t1.frame h.sm fun a ha => e a (o2 a ha).1 (S.notab (o2 a ha))
  have two : ∀ x, x ∈ [p, q] → x ∈ M' ∧ x ∉ M := fun x hx => by
    simp only [List.mem_cons, List.not_mem_nil, or_false] at hx
    rcases hx with rfl | rfl
    · exact ⟨hp, np⟩
    · exact ⟨hq, nq⟩
  refine ⟨⟨f, [p, q] ++ ft, s1', .cons ⟨rfl, rfl, hP.ne, hP.hp, hP.hq⟩ t1' fun x hx z => (two x hx).2 (o2 x z).1, fun i x hx z => ?_, fun i x hx => ⟨h.sub x (o1 i x hx).1, (o1 i x hx).2⟩, fun x hx => ?_⟩, S'.keep, S'.sub, S'.old, S'.al, S'.tabs, S'.tm, S'.len⟩
  · rcases List.mem_append.mp (show x ∈ [p, q] ++ ft from z) with z | z
    · exact (two x z).2 (o1 i x hx).1
    · exact n1 i x hx z
  · rcases List.mem_append.mp (show x ∈ [p, q] ++ ft from hx) with hx | hx
    · exact ⟨(two x hx).1, fun z => absurd (S.sub x z) (two x hx).2⟩
    · exact ⟨h.sub x (o2 x hx).1, (o2 x hx).2⟩
theorem Sem.startS {N : List Str} {n : Nat} {a : Addr} (h : SqL K (hid M H) a (ns.map V.int)) (al : ∀ a ∈ M, H a ≠ none) (T : TabsOk G M H) (hN : n = N.length) (hn : 1 ≤ n) : Sem G K ⟨H, M, []⟩ M [] (L2.start N [.ref a]) (startE n [.scr ns]) H := by
  refine ⟨⟨fun _ => [], [], ⟨fun i av e => ?_, fun i j a ha => by simp at ha, fun _ _ => rfl⟩, .nil, fun i a ha => by simp at ha, fun i a ha => by simp at ha, fun a ha => by simp at ha⟩, fun _ _ h => h, fun _ h => h, fun _ _ _ _ => rfl, al, T, fun a ha => ⟨?_, by simp⟩, ?_⟩
  · have e := startE_at e
    cases i with
    | zero =>
      cases e
      exact ⟨rfl, .ref a, startAt rfl, rfl, a, rfl, h⟩
    | succ i => simp at e
  · rcases ha with ha | ha
    · exact (T.t a ha).1
    · obtain ⟨p, hp, rfl⟩ := List.mem_map.mp ha
      exact (T.l p hp).1
  · simp [L2.start, startE, hN]
/-- the script in, a pool out -/
def spS (G : Glb) (K : PySem.W.Frag) (R : List Int → PoolS) : Sp := fun vs H Q _ => ∃ M a ns, vs = [.ref a] ∧ SqL K (hid M H) a (ns.map V.int) ∧ (∀ a ∈ M, H a ≠ none) ∧ TabsOk G M H ∧ (∀ z ∈ ns, Builtin.Int.intBits z ≤ 1048576) ∧ ns.length ≤ 63 ∧
  ∀ p q M' H', Post G M H [] M' H' → PoolAt H' p q (R ns) → p ∈ M' → q ∈ M' → p ∉ M → q ∉ M → Q (.ref p) H'
def RetS (st : PoolS) : Out → Prop
  | .rt av _ => ∃ p q, av = .pool p q st
  | _ => False
end
section
variable {G : Glb} {P : Program} {w : World} {K : PySem.W.Frag} {mg : Str → Option Value} {base : Heap} {name qual : Str} {args : Arguments} {body : List Stmt} {scope : Scope} {f : Addr} {fd : FuncData} {N : List Str} {y : Str} {k : Nat}
theorem callS {x : Str} {R : List Int → PoolS} (F : Fn K mg x name qual args body scope) (S : FnScope N [y] scope)
    (hb : ∀ (kV doc pm : Value) (an : Option Addr) (cdv ct : Value) (us : List Value), us.length = ([y] : List Str).length → bindArgs (PySem.W.fnOf name qual args body scope .none kV doc pm an cdv ct) ⟨us, []⟩ = pure (([y] : List Str).zip us))
    (hN : 1 ≤ N.length) (hw : ∀ (f : Addr) (cdv : Value) (A : Around) (outer : List Env) (s : Shared) (H : Hp) (E : XK), Room k (CD P w K mg base N qual scope f cdv A outer s H E).A → ∀ ns, (∀ z ∈ ns, Builtin.Int.intBits z ≤ 1048576) → ns.length ≤ 63 → WSs G (CD P w K mg base N qual scope f cdv A outer s H E) body (startE N.length [.scr ns]) (RetS (R ns))) :
    Call P w K mg base (k + 1) x (spS G K R) := by
  obtain ⟨f, fd, F, hm⟩ := F
  refine ⟨f, fd, [y], F.ok S (fun vs H Q E h => ?_) (fun cdv A outer s H vs Q E hr h => ?_), hm, F.kp, F.bindsN hb⟩
  · obtain ⟨M, a, ns, rfl, _⟩ := h
    rfl
  · obtain ⟨M, a, ns, rfl, h1, al, T, hbits, hlen, q⟩ := h
    refine ⟨_, PSs.nox pSs, ?_⟩
    refine hw f cdv A outer s H E hr ns hbits hlen _ M [] _ H (fun x hx => by cases hx) (Sem.startS h1 al T rfl hN) _ (fun ρ' M' σ' H' e S => e.elim) (fun av ρ' v M' σ' H' e S => ?_) (fun _ _ _ _ e _ => e.elim) (fun _ _ _ _ e _ => e.elim)
    obtain ⟨p, q', rfl⟩ := e
    obtain ⟨f', ft, _, t1, _, _, o2⟩ := id S.own
    obtain ⟨rfl, hP, hp, hq, _, _⟩ := S.headP
    have own : ∀ x ∈ [p, q'], x ∉ M := fun x hx z => by
      cases t1 with
      | cons h t n =>
        obtain ⟨_, rfl, _⟩ := h
        have := (o2 x (List.mem_append_left _ hx)).2 z
        cases this
    exact q p q' M' H' S.post hP hp hq (own p (by simp)) (own q' (by simp))
end
section
variable {G : Glb} {X : Cx} {k j n : Nat} {x : Str} {p0 pos lp : Pos} {e e1 e2 e3 : Expr} {es : List Expr} {ρ ρ1 : Ev} {Φ : Out → Prop} {ns : List Int}
theorem three_of {vs : List V} {τ : Tmp} {a1 a2 a3 : AV} (h : vs.length = [a1, a2, a3].length) : ∃ v w u, vs = [v, w, u] ∧ (vs.zip [a1, a2, a3]).reverse ++ τ = (u, a3) :: (w, a2) :: (v, a1) :: τ := match vs, h with | [v, w, u], _ => ⟨v, w, u, rfl, rfl⟩
theorem ws_retPool {a b : Int} {cs : List Int} (h : DA G X [e1, e2, e3] ρ [.dat (.int a), .dat (.int b), .flat (cs.map PyData.int)] ρ1) (q : ∀ p q, Φ (.rt (.pool p q ⟨a, b, cs⟩) ρ1)) : WS G X (.Return (some (.List [e1, e2, e3] lp)) pos) ρ Φ :=
  fun B M τ σ H dd S D _ h2 _ _ => toS (ps_ret pE) (toE (pe_lst pA) (h B M τ σ H S _ fun vs M1 H1 hl S1 => ⟨sz_le (by rw [hl]; simp), fun p hp => by
    obtain ⟨v1, v2, v3, rfl, e⟩ := three_of (τ := τ) hl
    rw [e] at S1
    have d2 := (S1.pop).headD
    have d1 := (S1.pop.pop).headD
    cases d2
    cases d1
    obtain ⟨l, vs, rfl, _⟩ := S1.headF
    exact h2 _ _ _ _ _ _ (q p l) ((S1.pop2.pop2).mkPool hp)⟩))
theorem ws_pool {i : Nat} {y : Str} {py : Pos} {R : List Int → PoolS} (c : Call X.prog X.w X.K X.mg X.base k x (spS G X.K R)) (hr : Room j X.A) (hN : X.N.Nodup) (ha : DA G X [e] ρ [.scr ns] ρ1) (hbits : ∀ z ∈ ns, Builtin.Int.intBits z ≤ 1048576) (hlen : ns.length ≤ 63) (qq : ∀ p q, Φ (.nx (ρ1.set i (some (.pool p q (R ns))))))
    (hi : X.N[i]? = some y := by rfl) (hx : Loc X.env.scope y := by first | exact .inl rfl | exact .inr rfl) (hf : X.fn y = true ∨ X.env.scope.names.lookup y = some .local := by first | exact .inl rfl | exact .inr rfl | assumption)
    (hk : k ≤ j := by decide) (hg : Gl X x := by rfl) (hdb : (x == ("__debug__" : Str)) = false := by decide) (he : starEach [e] X.env = (false, eval e X.env) :: starEach [] X.env := by rfl) (hpl : (backTo pos (starEach [] X.env)).any (·.1) = false := by rfl)
    (hs : swapsWithSole [.Name y py] (.Call (.Name x p0) [e] [] pos) lp.line X.env = pure false := by rfl) (hw : swappedStores [.Name y py] (.Call (.Name x p0) [e] [] pos) X.env = pure none := by rfl) (h1 : (assignEach [.Name y py] X.env).map (·.2) = [assign (.Name y py) X.env] := by rfl) :
    WS G X (.Assign [.Name y py] (.Call (.Name x p0) [e] [] pos) lp) ρ Φ := fun B M τ σ H dd S D k1 _ _ _ =>
  toS (ps_asg pE pG hs hw h1) (toE (pe_k c hr hk hg pA hdb he hpl) (ha B M τ σ H S _ fun vs M1 H1 hl S1 => by
    obtain ⟨v, rfl⟩ := one_of hl
    have S1 : Sem G X.K B M1 ((v, .scr ns) :: τ) σ ρ1 H1 := S1
    obtain ⟨f, ft, _, t1, _⟩ := id S1.own
    cases t1 with
    | cons h t n =>
    obtain ⟨_, a, rfl, hsq⟩ := h
    refine ⟨M1, a, ns, rfl, hsq, S1.al, S1.tabs, hbits, hlen, fun p q M' H' post hP hp hq np nq => ?_⟩
    exact gt_name rfl hN hi hx hf B M' τ σ H' (.ref p) dd (S1.pop.newPool post hP hp hq np nq) _ fun M2 σ2 H2 S2 _ => k1 _ _ _ _ (qq p q) S2))
end
/-! ### the law's own call -/
/-- the script in, True out; the tables are empty -/
def spL (K : PySem.W.Frag) (ts : List Addr) : Sp := fun vs H Q _ => ∃ (a : Addr) (ns : List Int), vs = [.ref a] ∧ SqL K H a (ns.map V.int) ∧ (∀ p ∈ ts, H p = some (.tbl #[])) ∧ (∀ z ∈ ns, Builtin.Int.intBits z ≤ 1048576) ∧ ns.length ≤ 63 ∧ ∀ H', Q (.bl true) H'
section
variable {G : Glb} {P : Program} {w : World} {K : PySem.W.Frag} {mg : Str → Option Value} {base : Heap} {name qual : Str} {args : Arguments} {body : List Stmt} {scope : Scope} {f : Addr} {fd : FuncData} {N : List Str} {y : Str} {k : Nat}
theorem sq_hid {M : List Addr} {H : Hp} {a : Addr} {xs : List V} (h : SqL K H a xs) (hM : ∀ p ∈ M, H p = some (.tbl #[])) : SqL K (hid M H) a xs := by
  rcases h with h | h
  · left
    rcases h with h | ⟨o, h⟩
    · exact .inl (by rw [hid_out fun z => by rw [hM a z] at h; cases h]; exact h)
    · exact .inr ⟨o, by rw [hid_out fun z => by rw [hM a z] at h; cases h]; exact h⟩
  · exact .inr h
theorem tabs_start {ts : List Addr} {H : Hp} (hM : ∀ p ∈ ts, H p = some (.tbl #[])) (hT : ∀ p ∈ G.T, p ∈ ts) (hL : ∀ p ∈ G.L, p.1 ∈ ts) : TabsOk G ts H := by
  refine ⟨fun p hp => ⟨hT p hp, #[], hM p (hT p hp), ?_⟩, fun p hp => ⟨hL p hp, #[], hM _ (hL p hp), ?_, fun pos cv h => ?_⟩⟩
  · trivial
  · trivial
  · cases h
theorem okL (F : FunD K name qual args body scope [] [] f fd) (S : FnScope N [y] scope) (ts : List Addr) (hT : ∀ p ∈ G.T, p ∈ ts) (hL : ∀ p ∈ G.L, p.1 ∈ ts) (hN : 1 ≤ N.length)
    (hw : ∀ (f : Addr) (cdv : Value) (A : Around) (outer : List Env) (s : Shared) (H : Hp) (E : XK), Room k (CD P w K mg base N qual scope f cdv A outer s H E).A → ∀ ns, (∀ z ∈ ns, Builtin.Int.intBits z ≤ 1048576) → ns.length ≤ 63 → WSs G (CD P w K mg base N qual scope f cdv A outer s H E) body (startE N.length [.scr ns]) (Ret (.bool true))) :
    FnOk P w K mg base L2.CX0 (k + 1) f fd [y] (spL K ts) := by
  refine F.ok S (fun vs H Q E h => ?_) (fun cdv A outer s H vs Q E hr h => ?_)
  · obtain ⟨a, ns, rfl, _⟩ := h
    rfl
  · obtain ⟨a, ns, rfl, h1, hM, hbits, hlen, q⟩ := h
    refine ⟨_, PSs.nox pSs, ?_⟩
    refine hw f cdv A outer s H E hr ns hbits hlen _ ts [] _ H (fun x hx => by cases hx) (Sem.startS (sq_hid h1 hM) (fun a ha => by rw [hM a ha]; simp) (tabs_start hM hT hL) rfl hN) _ (fun ρ' M' σ' H' e S => ?_) (fun av ρ' v M' σ' H' e S => ?_) (fun _ _ _ _ e _ => e.elim) (fun _ _ _ _ e _ => e.elim)
    · have e : PyData.bool true = .none := e
      cases e
    · have e : av = .dat (.bool true) := e
      subst e
      have t := S.headD
      cases t
      exact q H'
end
end TW
end
section
set_option Elab.async false
set_option linter.all false
set_option maxRecDepth 100000
set_option maxHeartbeats 2000000
/-! The walk, 21: the pool. -/
namespace TW
open PySem PySem.Spec PyProof.Rows L2
section
variable {G : Glb} {P : Program} {w : World} {K : PySem.W.Frag} {mg : Str → Option Value} {base : Heap}
def poolF (ns : List Int) : PoolS := ⟨if decide (lineZ ≤ szZ (ns.headD 0)) then szZ (ns.headD 0) else 0, (szZ (ns.headD 0) * 48271 + 1009) % 2147483629 + 3, ns.drop 1⟩
theorem c_pool (F : FnT K mg "_law_pool" "_law_pool" 73) (g : Fr mg) : Call P w K mg base 1 "_law_pool" (spS G K poolF) := by
  refine callS F sc__law_pool b__law_pool (by decide) fun f cdv A outer s0 H E hr ns hbits hlen => ?_
  have nd := sc__law_pool.nd
  have e0 : startE N__law_pool.length [AV.scr ns] = [some (.scr ns), none, none] := rfl
  rw [e0]
  have ifst : (if decide (0 < ns.length) then (ns.headD 0) else 0) = ns.headD 0 := by cases ns <;> simp
  refine ws_cons (wset 1 nd ((difI (i := ns.headD 0) (j := 0) (dt_c (cn_gt (i := ns.length) (dlen .scr g.len (de_scr (i := 0) rfl)) (dn 0))) (fun h => de_int1 g.int (de_ixN (i := 0) .scr (d := .int (ns.headD 0)) ?_ (de_scr (i := 0) rfl) (dn 0))) (fun _ => de_int)).to (d' := .int (ns.headD 0)) (by rw [ifst])) ?_)
  · have h : 0 < ns.length := of_decide_eq_true h
    cases ns with
    | nil => simp at h
    | cons x r => rfl
  refine ws_cons (wset 2 nd (difI (dt_c (cm_ge (dv 1) de_int)) (fun _ => de_mul (.inl ⟨by decide, by decide⟩) de_int (dv 1)) (fun _ => de_sub (de_neg de_int) (de_mul (.inl ⟨by decide, by decide⟩) de_int (dv 1)))) ?_)
  refine ws_one (ws_retPool (a := if decide (lineZ ≤ szZ (ns.headD 0)) then szZ (ns.headD 0) else 0) (b := (szZ (ns.headD 0) * 48271 + 1009) % 2147483629 + 3) (cs := ns.drop 1) (da_cons (difI (i := szZ (ns.headD 0)) (j := 0) (dt_c (cm_ge (dv 2) (de_pow ⟨by decide, by decide, by decide⟩ de_int de_int))) (fun _ => dv 2) (fun _ => de_int))
    (da_cons (de_add (de_mod (by decide) (de_int1 g.int (de_add (de_mul (.inr ⟨by decide, by decide⟩) (dv 2) de_int) de_int)) de_int) de_int)
      (da_one ((de_list .flat g.list (de_slL .scr (.inr (.inr (.inr ⟨_, rfl⟩))) (de_scr (i := 0) rfl) (do_some (i := ((1 : Nat) : Int)) (dn 1)) do_none)).toF (es := (ns.drop 1).map PyData.int) (by rw [cutD_from, List.map_drop]))))) fun p q => ⟨p, q, rfl⟩)
end
end TW
end
section
set_option Elab.async false
set_option linter.all false
set_option maxRecDepth 100000
set_option maxHeartbeats 2000000
/-! The walk, 22: home. -/
namespace TW
open PySem PySem.Spec PyProof.Rows L2
theorem eqvAll_map {α : Type} {f : α → PyData} (h : ∀ x, PyData.eqv (f x) (f x) = true) : ∀ l : List α, PyData.eqvAll (l.map f) (l.map f) = true
  | [] => by rw [List.map_nil, PyData.eqvAll]
  | x :: l => by rw [List.map_cons, PyData.eqvAll, h, eqvAll_map h l]; rfl
theorem eqv_nI (n : Nat) : PyData.eqv (nI n) (nI n) = true := by simp [PyData.eqv]
theorem eqv_tN (l : List Nat) : PyData.eqv (tN l) (tN l) = true := by
  show PyData.eqv (.tuple (l.map nI)) (.tuple (l.map nI)) = true
  rw [PyData.eqv]
  exact eqvAll_map eqv_nI l
theorem eqv_tT (l : List (List Nat)) : PyData.eqv (.tuple (l.map tN)) (.tuple (l.map tN)) = true := by
  rw [PyData.eqv]
  exact eqvAll_map eqv_tN l
theorem eqv_S (s : Sd) : PyData.eqv (encS s) (encS s) = true := by
  show PyData.eqv (.tuple [tN s.w, .tuple (s.f.map tN), .tuple (s.s.map tN), nI s.g]) (.tuple [tN s.w, .tuple (s.f.map tN), .tuple (s.s.map tN), nI s.g]) = true
  rw [PyData.eqv, PyData.eqvAll, PyData.eqvAll, PyData.eqvAll, PyData.eqvAll, PyData.eqvAll, eqv_tN, eqv_tT, eqv_tT, eqv_nI]
  rfl
theorem shS {s : Sd} {k : Nat} : Sh (k + 3) (encS s) := fun d hd => by
  rcases List.mem_cons.mp hd with rfl | hd
  · exact shTN
  · rcases List.mem_cons.mp hd with rfl | hd
    · intro d hd
      obtain ⟨l, _, rfl⟩ := List.mem_map.mp hd
      exact shTN
    · rcases List.mem_cons.mp hd with rfl | hd
      · intro d hd
        obtain ⟨l, _, rfl⟩ := List.mem_map.mp hd
        exact shTN
      · rcases List.mem_cons.mp hd with rfl | hd
        · exact shN
        · cases hd
section
variable {G : Glb} {P : Program} {w : World} {K : PySem.W.Frag} {mg : Str → Option Value} {base : Heap}
def homeF (st : PoolS) (n : Nat) : PoolS := (drsF 60 (drawN st (3 * n + 1)).2 (drawN st (3 * n + 1)).1).2
abbrev R_home_right (st : PoolS) (ds : List PyData) (d : PyData) (st' : PoolS) : Prop := ∃ (y : Yd) (pick r dl : List Nat), (planF y pick r = some dl ∧ Deal y pick r dl) ∧ ds = [encY y, tN pick, tN r] ∧ d = .bool true ∧ st' = homeF st r.length
theorem c_home_right (F : FnT K mg "_law_home_right" "_law_home_right" 98) (g : Fr mg) (c1 : Call P w K mg base 1 "_law_draw" (spP G 2 R_draw)) (c2 : Call P w K mg base 6 "plan" (spD G 3 R_plan)) (c3 : Call P w K mg base 2 "_law_wait_goes" (spD G 3 R_wait_goes)) (c4 : Call P w K mg base 6 "run" (spD G 4 R_run)) (c5 : Call P w K mg base 3 "_law_lane_replayed" (spD G 3 R_lane_replayed)) :
    Call P w K mg base 7 "_law_home_right" (spP G 4 R_home_right) := by
  refine callP F sc__law_home_right b__law_home_right fun f cdv A outer s0 H E hr p q st ds d st' hR => ?_
  obtain ⟨y, pick, r, dl, ⟨hpl, D⟩, rfl, rfl, rfl⟩ := hR
  have nd := sc__law_home_right.nd
  have rl := D.rw.len
  have dln := D.len
  refine ws_cons (wset 4 nd ((de_call c2 hr ⟨y, pick, r, ⟨D.yd, D.pk, D.rw⟩, rfl, rfl⟩ (da_cons (dv 1) (da_cons (dv 2) (da_one (dv 3))))).to (d' := tN dl) (by rw [hpl]; rfl)) ?_)
  have fe : (dl.filter fun t => !decide (t ∈ pick)) = [] := List.filter_eq_nil_iff.mpr fun t ht => by simp [D.sub t ht]
  refine ws_cons (ws_skip (dt_w (torF (tnot (dtv (di_tup g.isinstance g.tuple (dv 4)))) (torF (dt_c (cn_ne (lenT (n := dl.length) g.len (dv 4)) (lenT (n := r.length) g.len (dv 3)) (by simp [dln]))) (dw_or1 (dt_c (cm_neL0 hr (ds := (dl.filter fun t => !decide (t ∈ pick)).map nI) (fun d hd => ?_) (de_filt (xs := dl) (f := nI) (g := nI) (p := fun t => !decide (t ∈ pick)) (own := [("_law_t", 5)]) nd (blkOk_by (N := N__law_home_right) (sc := defScope (top 98)) (by decide +kernel)) (it_tup (dv 4)) (.refl _) (bare_cons bare_nil)
    (turnF nd (fun _ _ _ _ _ => ⟨.inl rfl, .inr rfl⟩) rfl (bare_cons bare_nil) (fun z hz s H0 C cl fp => dt_c (cn_notin .tup (dv 5) (dv 2))) (fun z hz _ s H0 C cl fp => dv 5)) (by omega)).frz (de_lst (ds := []) da_nil).frz (by rw [fe]; rfl))))))) ?_)
  · obtain ⟨t, _, rfl⟩ := List.mem_map.mp hd
    exact shN
  refine ws_cons (ws_skip (tnot (dtv ((de_call c3 hr ⟨y, r, dl, ⟨D.yd, D.rw, D.ok⟩, rfl, rfl⟩ (da_cons (dv 1) (da_cons (dv 3) (da_one (dv 4))))).to (d' := .bool true) (by rw [goes D]; rfl)))) ?_)
  have hc := draw_lt (st := st) (n := 3 * r.length + 1) (by omega)
  unfold homeF
  generalize hcc : drawN st (3 * r.length + 1) = c at hc
  have el : (rng c.1).length = c.1 := by simp [rng]
  refine ws_cons (wset 6 nd (de_tuple .flat g.tuple (de_draws (ds := rng c.1) (n := 60) (st := c.2) (own := [("_law_turn", 7)]) (fun st1 => [some (.pool p q st1), some (.dat (encY y)), some (.dat (tN pick)), some (.dat (tN r)), some (.dat (tN dl)), none, none, none, none, none, none, none]) nd (blkOk_by (N := N__law_home_right) (sc := defScope (top 98)) (by decide +kernel))
    (it_range (n := c.1) g.range (by omega) (dcP 0 (st := st) (st' := c.2) c1 hr ⟨3 * r.length + 1, ⟨by omega, by omega⟩, rfl, by rw [hcc], by rw [hcc]⟩ (da_cons (da 0) (da_one (de_addN (de_mulN (by omega) (dn 3) (lenT (n := r.length) g.len (dv 3))) (dn 1)))))) (.refl _) (fun st1 => bare_cons bare_nil)
    (fun st1 d hd => ⟨_, [7], _, bg_name nd rfl (fun _ _ _ _ _ => ⟨.inl rfl, .inr rfl⟩) rfl, fun _ h => h, fun s H C cl fp => dcP 0 (st := st1) c1 hr ⟨60, ⟨by omega, by omega⟩, rfl, rfl, rfl⟩ (da_cons (da 0) (da_one (dn 60))), by exact .keep (.keep (.keep (.keep (.keep (.keep (.keep (.drop (.keep (.keep (.keep (.keep .nil)))))))))))⟩) (by omega))) ?_)
  rw [el]
  generalize drsF 60 c.2 c.1 = ps
  obtain ⟨ps, st2⟩ := ps
  simp only
  obtain ⟨h1, h2, h3, h4⟩ := run_home ps D
  refine ws_cons (ws_asg (de_call c4 hr ⟨y, r, dl, ps, ⟨D.yd, D.rw, D.ok⟩, rfl, rfl⟩ (da_cons (dv 1) (da_cons (dv 3) (da_cons (dv 4) (da_one (dv 6)))))) (gtu2 8 9 nd) ?_)
  refine ws_cons (ws_asg ((de_call c5 hr ⟨y, r, (runF y r dl ps).1, ⟨D.yd, D.rw, h2⟩, rfl, rfl⟩ (da_cons (dv 1) (da_cons (dv 3) (da_one (dv 8))))).to (d' := .tuple [encS (runF y r dl ps).2, .none]) (by rw [h3])) (gtu2 10 11 nd) ?_)
  refine ws_one (ws_ret (andT (de_c (cm_isN (dv 11))) (andT (de_c (cm_eqd hr shS shS (dv 10) (dv 9) (eqv_S _))) (andT (de_c (cn_eq (lenT (n := (runF y r dl ps).1.length) g.len (dv 8)) (de_mulN (by omega) (dn 3) (lenT (n := r.length) g.len (dv 3))) (decide_eq_true h1))) (de_one (de_c (cn_eq (i := (runF y r dl ps).2.g) (dix (dv 10)) (lenT (n := r.length) g.len (dv 3)) (decide_eq_true h4))))))) ⟨rfl, rfl⟩)
end
end TW
end
section
set_option Elab.async false
set_option linter.all false
set_option maxRecDepth 100000
set_option maxHeartbeats 2000000
/-! The walk, 23: the law. -/
namespace TW
open PySem PySem.Spec PyProof.Rows L2
section
variable {G : Glb} {P : Program} {w : World} {K : PySem.W.Frag} {mg : Str → Option Value} {base : Heap}
def mrF (st : PoolS) (m : Nat) : Nat := m + (if decide (0 < st.a) then 13 else 6)
def turnS (st : PoolS) (m : Nat) : Nat → PoolS
  | 0 => st
  | i + 1 => homeF (rowOfF (turnS st m i) m (mrF (turnS st m i) m)).2 (rowOfF (turnS st m i) m (mrF (turnS st m i) m)).1.length
theorem row_nil : RwOk [] := ⟨by simp, fun _ h => (by cases h), by simp⟩
theorem row_one : RwOk [0] := ⟨by simp, fun n h => (by simp at h; subst h; simp), by simp⟩
theorem pk_nil {y : Yd} : PkOk y [] := ⟨.nil, fun _ h => (by cases h)⟩
theorem w_law (g : Fr mg) {f : Addr} {cdv : Value} {A : Around} {outer : List Env} {s0 : Shared} {H : Hp} {E : XK} (hr : Room 7 (CD P w K mg base N_law "law" (defScope (top 99)) f cdv A outer s0 H E).A)
    (c1 : Call P w K mg base 1 "_law_pool" (spS G K poolF)) (c2 : Call P w K mg base 3 "_law_web_yard" (spP G 3 R_web_yard)) (c3 : Call P w K mg base 2 "_law_prices" (spP G 2 R_prices)) (c4 : Call P w K mg base 4 "_law_web_rank" (spD G 2 R_web_rank)) (c5 : Call P w K mg base 6 "cheapest" (spD G 3 R_cheapest)) (c6 : Call P w K mg base 6 "plan" (spD G 3 R_plan)) (c7 : Call P w K mg base 1 "_law_draw" (spP G 2 R_draw)) (c8 : Call P w K mg base 3 "_law_cheapest" (spD G 3 R_law_cheapest)) (c9 : Call P w K mg base 5 "serves" (spD G 2 R_serves)) (c10 : Call P w K mg base 5 "cheapest_right" (spD G 4 R_cheapest_right)) (c11 : Call P w K mg base 4 "_law_wait_row_of" (spP G 3 R_row_of)) (c12 : Call P w K mg base 7 "_law_home_right" (spP G 4 R_home_right))
    {ns : List Int} (hbits : ∀ z ∈ ns, Builtin.Int.intBits z ≤ 1048576) (hlen : ns.length ≤ 63) :
    WSs G (CD P w K mg base N_law "law" (defScope (top 99)) f cdv A outer s0 H E) (defBody (top 99)) (startE N_law.length [.scr ns]) (Ret (.bool true)) := by
  have nd := sc_law.nd
  have e0 : startE N_law.length [AV.scr ns] = [some (.scr ns), none, none, none, none, none, none, none, none, none, none] := rfl
  rw [e0]
  refine ws_cons (ws_pool (i := 1) c1 hr nd (da_one (de_scr (i := 0) rfl)) hbits hlen fun p q => ?_)
  refine ws_cons (wset 2 nd (dcP 1 (st := poolF ns) c2 hr ⟨4, 7, by omega, rfl, rfl, rfl⟩ (da_cons (da 1) (da_cons (dn 4) (da_one (dn 7))))) ?_)
  obtain ⟨hy, k4, l4, t7⟩ := yard_ok (st := poolF ns)
  generalize yardF (poolF ns) 4 7 = yy at hy k4 l4 t7
  obtain ⟨y, st1⟩ := yy
  simp only at hy k4 l4 t7 ⊢
  refine ws_cons (wset 3 nd (dcP 1 (st := st1) c3 hr ⟨y, hy, rfl, rfl, rfl⟩ (da_cons (da 1) (da_one (dv 2)))) ?_)
  have hp := prices_ok (st := st1) (y := y)
  generalize pricesF st1 y.ts.length = pp at hp
  obtain ⟨ps, st2⟩ := pp
  simp only at hp ⊢
  have hpl := hp.len
  have rk := rank_ok hy (ns := List.range y.ts.length) (ms := ordN ps) (fun t ht => List.mem_range.mp ht) (by rw [← hpl]; exact ord_perm)
  have gl : (gre y (ordN ps)).length ≤ 7 := by
    have h1 := (gre_sub (y := y) (ns := ordN ps)).length_le
    have h2 := ord_len (ps := ps)
    omega
  obtain ⟨top_, htop⟩ : ∃ t : Nat, rankZ y (List.range y.ts.length) = (t : Int) := ⟨(rankZ y (List.range y.ts.length)).toNat, by omega⟩
  refine ws_cons (wset 4 nd ((de_call c4 hr ⟨y, List.range y.ts.length, ⟨hy, range_pk⟩, rfl, rfl⟩ (da_cons (dv 2) (da_one (de_tupRg g.tuple g.range (by omega) (lenT (n := y.ts.length) g.len (dix (dv 2))))))).to (d' := nI top_) (by rw [htop])) ?_)
  rw [htop] at rk
  clear htop
  refine ws_cons (ws_if (b := decide (top_ = 0)) (dt_c (cn_eq (dv 4) (dn 0))) (fun h => ?_) (fun h => ws_nil ?_))
  · refine ws_one (ws_ret (andT (de_c (cm_eqT0 (ds := []) hr (fun _ h => by cases h) ((de_call c5 hr ⟨y, ps, 0, ⟨hy, hp, by omega⟩, rfl, rfl⟩ (da_cons (dv 2) (da_cons (dv 3) (da_one (dn 0))))).to (d' := .tuple []) (by rw [che_zero]; rfl)) (de_tup (ds := []) da_nil)))
      (andT (de_c (cm_eqT0 (ds := []) hr (fun _ h => by cases h) ((de_call c6 hr ⟨y, [], [], ⟨hy, pk_nil, row_nil⟩, rfl, rfl⟩ (da_cons (dv 2) (da_cons (de_tup (ds := []) da_nil) (da_one (de_tup (ds := []) da_nil))))).to (d' := .tuple []) (by rw [plan_zero]; rfl)) (de_tup (ds := []) da_nil)))
      (de_one (de_c (cm_isN ((de_call c6 hr ⟨y, [], [0], ⟨hy, pk_nil, row_one⟩, rfl, rfl⟩ (da_cons (dv 2) (da_cons (de_tup (ds := []) da_nil) (da_one (de_tup (ds := [nI 0]) (da_one (dn 0))))))).to (d' := .none) (by rw [plan_zero1]; rfl))))))) rfl)
  · have h : ¬ top_ = 0 := of_decide_eq_false h
    have dl := draw_lt (st := st2) (n := top_) (by omega)
    refine ws_cons (wset 5 nd (de_addN (dn 1) (dcP 1 (st := st2) c7 hr ⟨top_, ⟨by omega, by omega⟩, rfl, rfl, rfl⟩ (da_cons (da 1) (da_one (dv 4))))) ?_)
    generalize drawN st2 top_ = dd at dl
    obtain ⟨d0, st3⟩ := dd
    simp only at dl ⊢
    generalize hm : 1 + d0 = m
    obtain ⟨pick, e1, e2, C⟩ := che_ok hy (ps := ps) (m := m) hpl (by omega)
    have cl := C.len
    have serv := jn_ac hy C.ok.bnd C.ac
    have forw : ForW y pick := fun i t ht => forest_ways hy C.ok.bnd C.ac ht
    have ob : ∀ t ∈ pick, t < ps.length := fun t ht => by have := C.ok.bnd t ht; omega
    refine ws_cons (wset 6 nd ((de_call c5 hr ⟨y, ps, m, ⟨hy, hp, by omega⟩, rfl, rfl⟩ (da_cons (dv 2) (da_cons (dv 3) (da_one (dv 5))))).to (d' := tN pick) (by rw [e1]; rfl)) ?_)
    refine ws_cons (wset 7 nd ((de_call c8 hr ⟨y, ps, m, ⟨hy, hp⟩, rfl, rfl⟩ (da_cons (dv 2) (da_cons (dv 3) (da_one (dv 5))))).to (d' := tN pick) (by rw [e2]; rfl)) ?_)
    refine ws_cons (ws_skip (dt_w (torF (tnot (dtv (di_tup g.isinstance g.tuple (dv 6)))) (torF (dt_c (cn_ne (lenT (n := pick.length) g.len (dv 6)) (dv 5) (by simp [cl]))) (dw_or1 (dt_c (cm_ne
      (de_sum (ns := pick.map fun t => ((ps.getD t 0 : Nat) : Int)) .flat isL_f g.sum ((de_map (xs := pick) (f := nI) (g := fun t => nI (ps.getD t 0)) (own := [("_law_t", 8)]) nd (blkOk_by (N := N_law) (sc := defScope (top 99)) (by decide +kernel)) (it_tup (dv 6)) (.refl _) (bare_cons bare_nil) (turnN nd (fun _ _ _ _ _ => ⟨.inl rfl, .inr rfl⟩) rfl (bare_cons bare_nil) fun z hz s H C cl fp => de_ixTN (getDN (ob z hz)) (dv 3) (dv 8)) (by omega)).toF (by rw [List.map_map]; rfl)))
      (de_sum (ns := pick.map fun t => ((ps.getD t 0 : Nat) : Int)) .flat isL_f g.sum ((de_map (xs := pick) (f := nI) (g := fun t => nI (ps.getD t 0)) (own := [("_law_t", 8)]) nd (blkOk_by (N := N_law) (sc := defScope (top 99)) (by decide +kernel)) (it_tup (dv 7)) (.refl _) (bare_cons bare_nil) (turnN nd (fun _ _ _ _ _ => ⟨.inl rfl, .inr rfl⟩) rfl (bare_cons bare_nil) fun z hz s H C cl fp => de_ixTN (getDN (ob z hz)) (dv 3) (dv 8)) (by omega)).toF (by rw [List.map_map]; rfl))) (by simp))))))) ?_)
    refine ws_cons (ws_skip (dt_w (torF (dt_c (cm_neb ((de_call c9 hr ⟨y, pick, ⟨hy, C.ok⟩, rfl, rfl⟩ (da_cons (dv 2) (da_one (dv 6)))).to (d' := .bool true) (by rw [decide_eq_true serv])) de_bl)) (dw_or1 (dt_c (cm_neb (de_call c10 hr ⟨y, ps, pick, ⟨hy, hp, C.ok, forw, C.pr⟩, rfl, rfl⟩ (da_cons (dv 2) (da_cons (dv 3) (da_cons ((dv 5).to (by rw [cl])) (da_one (dv 6)))))) de_bl))))) ?_)
    have m1 : 1 ≤ m := by omega
    have m7 : m ≤ 7 := by omega
    refine ws_cons (wfor (it_range (n := 3) g.range (by omega) (dn 3)) (fun i => [none, some (.pool p q (turnS st3 m i)), some (.dat (encY y)), none, none, some (.dat (nI m)), some (.dat (tN pick)), none, none, none, none]) (.drop (.keep (.keep (.drop (.drop (.keep (.keep (.drop (.keep (.keep (.keep .nil))))))))))) (fun i d hd => ?_) ?_)
    · obtain ⟨hi, rfl⟩ := rngGet hd
      have eS : turnS st3 m (i + 1) = homeF (rowOfF (turnS st3 m i) m (mrF (turnS st3 m i) m)).2 (rowOfF (turnS st3 m i) m (mrF (turnS st3 m i) m)).1.length := rfl
      rw [eS]
      clear eS
      generalize turnS st3 m i = st
      have mm : m ≤ mrF st m ∧ mrF st m ≤ 90 := by unfold mrF; split <;> omega
      refine ⟨_, _, gtn 9 nd, ?_⟩
      refine ws_cons (wset 10 nd (dcP 1 (st := st) c11 hr ⟨m, mrF st m, ⟨m1, mm.1, mm.2⟩, rfl, rfl, rfl⟩ (da_cons (da 1) (da_cons (dv 5) (da_one (de_addN (dv 5) (difN (i := 13) (j := 6) (dt_c (cm_gt (de_p0 1) de_int)) (fun _ => dn 13) (fun _ => dn 6))))))) ?_)
      obtain ⟨L, rw_⟩ := rows_ok (st := st) m1 mm.1 mm.2
      generalize rowOfF st m (mrF st m) = rr at L rw_
      obtain ⟨r, st4⟩ := rr
      simp only at L rw_ ⊢
      refine ws_one (ws_skip (tnot (dtv (dcP 1 (st := st4) c12 hr ⟨y, pick, r, _, ⟨plan_some hy C.ok C.ac cl L, deal_of hy C.ok C.ac cl L rw_⟩, rfl, rfl, rfl⟩ (da_cons (da 1) (da_cons (dv 2) (da_cons (dv 6) (da_one (dv 10)))))))) ?_)
      exact .keep (.keep (.keep (.keep (.keep (.keep (.keep (.keep (.keep (.drop (.drop .nil))))))))))
    · generalize turnS st3 m (rng 3).length = st
      obtain ⟨L, rw_⟩ := rows_ok (st := st) (falls := m + 1) (many := m + 4) (by omega) (by omega) (by omega)
      obtain ⟨dp, dp1, dp2⟩ := rows_deep (st := st) (falls := m + 1) (many := m + 4) (by omega)
      refine ws_one (ws_ret (de_c (cm_isN ((de_call c6 hr ⟨y, pick, (rowOfF st (m + 1) (m + 4)).1, ⟨hy, C.ok, rw_⟩, rfl, rfl⟩ (da_cons (dv 2) (da_cons (dv 6) (da_one (dcP 1 (st := st) c11 hr ⟨m + 1, m + 4, ⟨by omega, by omega, by omega⟩, rfl, rfl, rfl⟩ (da_cons (da 1) (da_cons (de_addN (dv 5) (dn 1)) (da_one (de_addN (dv 5) (dn 4)))))))))).to (d' := .none) (by rw [plan_none hy C.ok C.ac cl ⟨dp, dp1, by omega⟩]; rfl)))) rfl)
end
end TW
end
section
set_option Elab.async false
set_option linter.all false
set_option maxRecDepth 100000
set_option maxHeartbeats 4000000
/-! The end. -/
namespace TW
open PySem PySem.Spec PyProof.Rows L2
abbrev dC : He.Defn := ("cheapest", none)
abbrev dA : He.Defn := ("are_numbers", none)
abbrev dR : He.Defn := ("cheapest_right", none)
section
variable {w : World} {h : Heap} {K : PySem.W.Frag} {mg : Str → Option Value}
abbrev Says (w : World) (h : Heap) (K : PySem.W.Frag) : Prop := He.SaysX dfa dfn [] dtf exT w h K
theorem fnOf (c : Says w h K) (KX : K.In h) (N : h.Ns mainGlobals mg) {d : He.DefD} {x : Str} (i : Nat) (hd : dfn[i]? = some d) (hf : dfa[i]? = some (.glo x)) (ha : d.at_ = (x, none) := by rfl) (hv : d.dfl = [] := by rfl) (hk : d.kwd = [] := by rfl) :
    Fn K mg x d.name d.qual d.params d.body d.scope := by
  obtain ⟨fd, F⟩ := c.t.d.def_ i hd
  have e1 : d.dvs K = [] := by unfold He.DefD.dvs; rw [hv]; rfl
  have e2 : d.kws K = [] := by unfold He.DefD.kws; rw [hk]; rfl
  rw [e1, e2] at F
  refine ⟨_, fd, F, ?_⟩
  rw [ha]
  exact He.glo_ok KX N (c.t.d.fact i hf)
theorem fnOfC (c : Says w h K) (KX : K.In h) (N : h.Ns mainGlobals mg) {d : He.DefD} {x : Str} (i : Nat) (hd : dfn[i]? = some d) (hf : dfa[i]? = some (.glo x)) (ha : d.at_ = (x, none) := by rfl) (hv : d.dfl = [] := by rfl) (hk : d.kwd = [] := by rfl) :
    FnC K mg x d.name d.qual d.params d.body d.scope (He.cT K (x, none)).1 := by
  obtain ⟨f, fd, F, hm⟩ := fnOf c KX N i hd hf ha hv hk
  have e : f = He.fAd K (x, none) := by
    have := He.glo_ok KX N (c.t.d.fact i hf)
    rw [hm] at this
    have := Option.some.inj this
    injection this
  subst e
  refine ⟨_, fd, F, hm, fun oc od fd2 osl lk => ?_⟩
  obtain ⟨oc', od', dV, kV, doc, pm, an, cdv, ct, osl', rfl, lk', hcd, _, _⟩ := F.ex
  obtain ⟨c0, rfl⟩ := He.codeIn_ref hcd
  rw [lk'] at lk
  cases lk
  show _ = Value.ref (He.codeOf K (x, none))
  rw [He.codeOf_eq lk' rfl]
theorem fr_of (c : Says w h K) (KX : K.In h) (N : h.Ns mainGlobals mg) : Fr mg :=
  ⟨He.free_ok KX N (c.t.d.fact 66 rfl), He.free_ok KX N (c.t.d.fact 67 rfl), He.free_ok KX N (c.t.d.fact 68 rfl), He.free_ok KX N (c.t.d.fact 69 rfl), He.free_ok KX N (c.t.d.fact 70 rfl), He.free_ok KX N (c.t.d.fact 71 rfl), He.free_ok KX N (c.t.d.fact 72 rfl), He.free_ok KX N (c.t.d.fact 73 rfl), He.free_ok KX N (c.t.d.fact 74 rfl), He.free_ok KX N (c.t.d.fact 75 rfl), He.free_ok KX N (c.t.d.fact 76 rfl), He.free_ok KX N (c.t.d.fact 77 rfl), He.free_ok KX N (c.t.d.fact 78 rfl), He.free_ok KX N (c.t.d.fact 79 rfl), He.free_ok KX N (c.t.d.fact 80 rfl), He.free_ok KX N (c.t.d.fact 81 rfl),
    He.int_ok KX N (c.t.d.fact 82 rfl), He.int_ok KX N (c.t.d.fact 83 rfl), He.int_ok KX N (c.t.d.fact 84 rfl), He.int_ok KX N (c.t.d.fact 85 rfl), He.int_ok KX N (c.t.d.fact 86 rfl)⟩
end
theorem law_ok {P : Program} {w : World} {base h : Heap} {K : PySem.W.Frag} {mg : Str → Option Value} {fl : Addr} {fd : FuncData} {z1 z2 z3 t1 t2 t3 : Addr} (c : Says w h K) (KX : K.In h) (N : h.Ns mainGlobals mg) (g : Fr mg) (FL : FunD K "law" "law" (defArgs (top 99)) (defBody (top 99)) (defScope (top 99)) [] [] fl fd)
    (tb1 : LamX.TabB base mg z1 t1) (tb2 : GxR.TabB base mg z2 t2) (tb3 : GxR.TabB base mg z3 t3) (fc_cheapest : FnC K mg "cheapest" "cheapest" "cheapest" (defArgs (top 32)) (defBody (top 32)) (defScope (top 32)) z1) (fc_are_numbers : FnC K mg "are_numbers" "are_numbers" "are_numbers" (defArgs (top 40)) (defBody (top 40)) (defScope (top 40)) z2) (fc_cheapest_right : FnC K mg "cheapest_right" "cheapest_right" "cheapest_right" (defArgs (top 43)) (defBody (top 43)) (defScope (top 43)) z3) (ne1 : t1 ≠ t2) (ne2 : t1 ≠ t3) :
    FnOk P w K mg base L2.CX0 8 fl fd ["_law_script"] (spL K [t1, t2, t3]) := by
  let G : Glb := ⟨[t2, t3], [(t1, qLam)]⟩
  have hc1 : (t1, qLam) ∈ G.L := List.mem_cons_self
  have hc2 : ∀ p ∈ G.L, p.1 = t1 → p.2 = qLam := fun p hp _ => by
    have hp : p ∈ [(t1, qLam)] := hp
    simp only [List.mem_cons, List.not_mem_nil, or_false] at hp
    rw [hp]
  have hc3 : t1 ∉ G.T := fun z => by
    have z : t1 ∈ [t2, t3] := z
    simp only [List.mem_cons, List.not_mem_nil, or_false] at z
    exact z.elim ne1 ne2
  have hL : ∀ p ∈ G.L, p.1 = t1 := fun p hp => by
    have hp : p ∈ [(t1, qLam)] := hp
    simp only [List.mem_cons, List.not_mem_nil, or_false] at hp
    rw [hp]
  have ha1 : t2 ∈ G.T := List.mem_cons_self
  have ha2 : ∀ p ∈ G.L, p.1 ≠ t2 := fun p hp e => ne1 ((hL p hp).symm.trans e)
  have hr1 : t3 ∈ G.T := List.mem_cons_of_mem _ List.mem_cons_self
  have hr2 : ∀ p ∈ G.L, p.1 ≠ t3 := fun p hp e => ne2 ((hL p hp).symm.trans e)
  have fn_is_whole : FnT K mg "is_whole" "is_whole" 15 := fnOf c KX N (d := ⟨("is_whole", none), "is_whole", "is_whole", defArgs (top 15), defBody (top 15), defScope (top 15), [], []⟩) (x := "is_whole") 0 rfl rfl
  have fn_is_track : FnT K mg "is_track" "is_track" 16 := fnOf c KX N (d := ⟨("is_track", none), "is_track", "is_track", defArgs (top 16), defBody (top 16), defScope (top 16), [], []⟩) (x := "is_track") 1 rfl rfl
  have fn_first_wrong : FnT K mg "first_wrong" "first_wrong" 17 := fnOf c KX N (d := ⟨("first_wrong", none), "first_wrong", "first_wrong", defArgs (top 17), defBody (top 17), defScope (top 17), [], []⟩) (x := "first_wrong") 2 rfl rfl
  have fn_is_yard : FnT K mg "is_yard" "is_yard" 18 := fnOf c KX N (d := ⟨("is_yard", none), "is_yard", "is_yard", defArgs (top 18), defBody (top 18), defScope (top 18), [], []⟩) (x := "is_yard") 3 rfl rfl
  have fn_made_yard : FnT K mg "made_yard" "made_yard" 19 := fnOf c KX N (d := ⟨("made_yard", none), "made_yard", "made_yard", defArgs (top 19), defBody (top 19), defScope (top 19), [], []⟩) (x := "made_yard") 4 rfl rfl
  have fn_is_pick : FnT K mg "is_pick" "is_pick" 20 := fnOf c KX N (d := ⟨("is_pick", none), "is_pick", "is_pick", defArgs (top 20), defBody (top 20), defScope (top 20), [], []⟩) (x := "is_pick") 5 rfl rfl
  have fn_made_pick : FnT K mg "made_pick" "made_pick" 21 := fnOf c KX N (d := ⟨("made_pick", none), "made_pick", "made_pick", defArgs (top 21), defBody (top 21), defScope (top 21), [], []⟩) (x := "made_pick") 6 rfl rfl
  have fn_ends : FnT K mg "ends" "ends" 23 := fnOf c KX N (d := ⟨("ends", none), "ends", "ends", defArgs (top 23), defBody (top 23), defScope (top 23), [], []⟩) (x := "ends") 7 rfl rfl
  have fn_labels : FnT K mg "labels" "labels" 24 := fnOf c KX N (d := ⟨("labels", none), "labels", "labels", defArgs (top 24), defBody (top 24), defScope (top 24), [], []⟩) (x := "labels") 8 rfl rfl
  have fn_joins : FnT K mg "joins" "joins" 25 := fnOf c KX N (d := ⟨("joins", none), "joins", "joins", defArgs (top 25), defBody (top 25), defScope (top 25), [], []⟩) (x := "joins") 9 rfl rfl
  have fn_made_prices : FnT K mg "made_prices" "made_prices" 28 := fnOf c KX N (d := ⟨("made_prices", none), "made_prices", "made_prices", defArgs (top 28), defBody (top 28), defScope (top 28), [], []⟩) (x := "made_prices") 10 rfl rfl
  have fn_check_many : FnT K mg "check_many" "check_many" 29 := fnOf c KX N (d := ⟨("check_many", none), "check_many", "check_many", defArgs (top 29), defBody (top 29), defScope (top 29), [], []⟩) (x := "check_many") 11 rfl rfl
  have fn_alone : FnT K mg "alone" "alone" 30 := fnOf c KX N (d := ⟨("alone", none), "alone", "alone", defArgs (top 30), defBody (top 30), defScope (top 30), [], []⟩) (x := "alone") 12 rfl rfl
  have fn_joined_by : FnT K mg "joined_by" "joined_by" 31 := fnOf c KX N (d := ⟨("joined_by", none), "joined_by", "joined_by", defArgs (top 31), defBody (top 31), defScope (top 31), [], []⟩) (x := "joined_by") 13 rfl rfl
  have fn_made_row : FnT K mg "made_row" "made_row" 35 := fnOf c KX N (d := ⟨("made_row", none), "made_row", "made_row", defArgs (top 35), defBody (top 35), defScope (top 35), [], []⟩) (x := "made_row") 15 rfl rfl
  have fn_is_number_kernel : FnT K mg "is_number_kernel" "is_number" 38 := fnOf c KX N (d := ⟨("is_number_kernel", none), "is_number", "is_number", defArgs (top 38), defBody (top 38), defScope (top 38), [], []⟩) (x := "is_number_kernel") 16 rfl rfl
  have fn_way : FnT K mg "way" "way" 41 := fnOf c KX N (d := ⟨("way", none), "way", "way", defArgs (top 41), defBody (top 41), defScope (top 41), [], []⟩) (x := "way") 18 rfl rfl
  have fn_is_forest : FnT K mg "is_forest" "is_forest" 42 := fnOf c KX N (d := ⟨("is_forest", none), "is_forest", "is_forest", defArgs (top 42), defBody (top 42), defScope (top 42), [], []⟩) (x := "is_forest") 19 rfl rfl
  have fn_is_number_dealings : FnT K mg "is_number_dealings" "is_number" 45 := fnOf c KX N (d := ⟨("is_number_dealings", none), "is_number", "is_number", defArgs (top 45), defBody (top 45), defScope (top 45), [], []⟩) (x := "is_number_dealings") 21 rfl rfl
  have fn_made_dealing : FnT K mg "made_dealing" "made_dealing" 47 := fnOf c KX N (d := ⟨("made_dealing", none), "made_dealing", "made_dealing", defArgs (top 47), defBody (top 47), defScope (top 47), [], []⟩) (x := "made_dealing") 22 rfl rfl
  have fn_first_stand : FnT K mg "first_stand" "first_stand" 49 := fnOf c KX N (d := ⟨("first_stand", none), "first_stand", "first_stand", defArgs (top 49), defBody (top 49), defScope (top 49), [], []⟩) (x := "first_stand") 23 rfl rfl
  have fn_is_move : FnT K mg "is_move" "is_move" 51 := fnOf c KX N (d := ⟨("is_move", none), "is_move", "is_move", defArgs (top 51), defBody (top 51), defScope (top 51), [], []⟩) (x := "is_move") 24 rfl rfl
  have fn_with_lane : FnT K mg "with_lane" "with_lane" 52 := fnOf c KX N (d := ⟨("with_lane", none), "with_lane", "with_lane", defArgs (top 52), defBody (top 52), defScope (top 52), [], []⟩) (x := "with_lane") 25 rfl rfl
  have fn_moved_in : FnT K mg "moved_in" "moved_in" 53 := fnOf c KX N (d := ⟨("moved_in", none), "moved_in", "moved_in", defArgs (top 53), defBody (top 53), defScope (top 53), [], []⟩) (x := "moved_in") 26 rfl rfl
  have fn_moved_over : FnT K mg "moved_over" "moved_over" 54 := fnOf c KX N (d := ⟨("moved_over", none), "moved_over", "moved_over", defArgs (top 54), defBody (top 54), defScope (top 54), [], []⟩) (x := "moved_over") 27 rfl rfl
  have fn_moved_out : FnT K mg "moved_out" "moved_out" 55 := fnOf c KX N (d := ⟨("moved_out", none), "moved_out", "moved_out", defArgs (top 55), defBody (top 55), defScope (top 55), [], []⟩) (x := "moved_out") 28 rfl rfl
  have fn_after_move : FnT K mg "after_move" "after_move" 56 := fnOf c KX N (d := ⟨("after_move", none), "after_move", "after_move", defArgs (top 56), defBody (top 56), defScope (top 56), [], []⟩) (x := "after_move") 29 rfl rfl
  have fn_tracks_of : FnT K mg "tracks_of" "tracks_of" 58 := fnOf c KX N (d := ⟨("tracks_of", none), "tracks_of", "tracks_of", defArgs (top 58), defBody (top 58), defScope (top 58), [], []⟩) (x := "tracks_of") 30 rfl rfl
  have fn_is_over_green : FnT K mg "is_over_green" "is_over_green" 59 := fnOf c KX N (d := ⟨("is_over_green", none), "is_over_green", "is_over_green", defArgs (top 59), defBody (top 59), defScope (top 59), [], []⟩) (x := "is_over_green") 31 rfl rfl
  have fn_green_moves : FnT K mg "green_moves" "green_moves" 60 := fnOf c KX N (d := ⟨("green_moves", none), "green_moves", "green_moves", defArgs (top 60), defBody (top 60), defScope (top 60), [], []⟩) (x := "green_moves") 32 rfl rfl
  have fn_check_picks : FnT K mg "check_picks" "check_picks" 62 := fnOf c KX N (d := ⟨("check_picks", none), "check_picks", "check_picks", defArgs (top 62), defBody (top 62), defScope (top 62), [], []⟩) (x := "check_picks") 33 rfl rfl
  have fn_run : FnT K mg "run" "run" 63 := fnOf c KX N (d := ⟨("run", none), "run", "run", defArgs (top 63), defBody (top 63), defScope (top 63), [], []⟩) (x := "run") 34 rfl rfl
  have fn_layers : FnT K mg "layers" "layers" 65 := fnOf c KX N (d := ⟨("layers", none), "layers", "layers", defArgs (top 65), defBody (top 65), defScope (top 65), [], []⟩) (x := "layers") 35 rfl rfl
  have fn_forest : FnT K mg "forest" "forest" 67 := fnOf c KX N (d := ⟨("forest", none), "forest", "forest", defArgs (top 67), defBody (top 67), defScope (top 67), [], []⟩) (x := "forest") 36 rfl rfl
  have fn_plan : FnT K mg "plan" "plan" 69 := fnOf c KX N (d := ⟨("plan", none), "plan", "plan", defArgs (top 69), defBody (top 69), defScope (top 69), [], []⟩) (x := "plan") 37 rfl rfl
  have fn_serves : FnT K mg "serves" "serves" 71 := fnOf c KX N (d := ⟨("serves", none), "serves", "serves", defArgs (top 71), defBody (top 71), defScope (top 71), [], []⟩) (x := "serves") 38 rfl rfl
  have fn__law_pool : FnT K mg "_law_pool" "_law_pool" 73 := fnOf c KX N (d := ⟨("_law_pool", none), "_law_pool", "_law_pool", defArgs (top 73), defBody (top 73), defScope (top 73), [], []⟩) (x := "_law_pool") 39 rfl rfl
  have fn__law_draw : FnT K mg "_law_draw" "_law_draw" 74 := fnOf c KX N (d := ⟨("_law_draw", none), "_law_draw", "_law_draw", defArgs (top 74), defBody (top 74), defScope (top 74), [], []⟩) (x := "_law_draw") 40 rfl rfl
  have fn__law_is_whole : FnT K mg "_law_is_whole" "_law_is_whole" 75 := fnOf c KX N (d := ⟨("_law_is_whole", none), "_law_is_whole", "_law_is_whole", defArgs (top 75), defBody (top 75), defScope (top 75), [], []⟩) (x := "_law_is_whole") 41 rfl rfl
  have fn__law_turned : FnT K mg "_law_turned" "_law_turned" 76 := fnOf c KX N (d := ⟨("_law_turned", none), "_law_turned", "_law_turned", defArgs (top 76), defBody (top 76), defScope (top 76), [], []⟩) (x := "_law_turned") 42 rfl rfl
  have fn__law_web_yard : FnT K mg "_law_web_yard" "_law_web_yard" 77 := fnOf c KX N (d := ⟨("_law_web_yard", none), "_law_web_yard", "_law_web_yard", defArgs (top 77), defBody (top 77), defScope (top 77), [], []⟩) (x := "_law_web_yard") 43 rfl rfl
  have fn__law_web_ends : FnT K mg "_law_web_ends" "_law_web_ends" 78 := fnOf c KX N (d := ⟨("_law_web_ends", none), "_law_web_ends", "_law_web_ends", defArgs (top 78), defBody (top 78), defScope (top 78), [], []⟩) (x := "_law_web_ends") 44 rfl rfl
  have fn__law_web_reached : FnT K mg "_law_web_reached" "_law_web_reached" 79 := fnOf c KX N (d := ⟨("_law_web_reached", none), "_law_web_reached", "_law_web_reached", defArgs (top 79), defBody (top 79), defScope (top 79), [], []⟩) (x := "_law_web_reached") 45 rfl rfl
  have fn__law_web_pieces : FnT K mg "_law_web_pieces" "_law_web_pieces" 80 := fnOf c KX N (d := ⟨("_law_web_pieces", none), "_law_web_pieces", "_law_web_pieces", defArgs (top 80), defBody (top 80), defScope (top 80), [], []⟩) (x := "_law_web_pieces") 46 rfl rfl
  have fn__law_web_rank : FnT K mg "_law_web_rank" "_law_web_rank" 81 := fnOf c KX N (d := ⟨("_law_web_rank", none), "_law_web_rank", "_law_web_rank", defArgs (top 81), defBody (top 81), defScope (top 81), [], []⟩) (x := "_law_web_rank") 47 rfl rfl
  have fn__law_web_forest : FnT K mg "_law_web_forest" "_law_web_forest" 82 := fnOf c KX N (d := ⟨("_law_web_forest", none), "_law_web_forest", "_law_web_forest", defArgs (top 82), defBody (top 82), defScope (top 82), [], []⟩) (x := "_law_web_forest") 48 rfl rfl
  have fn__law_wait_turned : FnT K mg "_law_wait_turned" "_law_wait_turned" 83 := fnOf c KX N (d := ⟨("_law_wait_turned", none), "_law_wait_turned", "_law_wait_turned", defArgs (top 83), defBody (top 83), defScope (top 83), [], []⟩) (x := "_law_wait_turned") 49 rfl rfl
  have fn__law_wait_parted : FnT K mg "_law_wait_parted" "_law_wait_parted" 84 := fnOf c KX N (d := ⟨("_law_wait_parted", none), "_law_wait_parted", "_law_wait_parted", defArgs (top 84), defBody (top 84), defScope (top 84), [], []⟩) (x := "_law_wait_parted") 50 rfl rfl
  have fn__law_wait_joined : FnT K mg "_law_wait_joined" "_law_wait_joined" 85 := fnOf c KX N (d := ⟨("_law_wait_joined", none), "_law_wait_joined", "_law_wait_joined", defArgs (top 85), defBody (top 85), defScope (top 85), [], []⟩) (x := "_law_wait_joined") 51 rfl rfl
  have fn__law_wait_row_of : FnT K mg "_law_wait_row_of" "_law_wait_row_of" 86 := fnOf c KX N (d := ⟨("_law_wait_row_of", none), "_law_wait_row_of", "_law_wait_row_of", defArgs (top 86), defBody (top 86), defScope (top 86), [], []⟩) (x := "_law_wait_row_of") 52 rfl rfl
  have fn__law_wait_all : FnT K mg "_law_wait_all" "_law_wait_all" 87 := fnOf c KX N (d := ⟨("_law_wait_all", none), "_law_wait_all", "_law_wait_all", defArgs (top 87), defBody (top 87), defScope (top 87), [], []⟩) (x := "_law_wait_all") 53 rfl rfl
  have fn__law_wait_left : FnT K mg "_law_wait_left" "_law_wait_left" 88 := fnOf c KX N (d := ⟨("_law_wait_left", none), "_law_wait_left", "_law_wait_left", defArgs (top 88), defBody (top 88), defScope (top 88), [], []⟩) (x := "_law_wait_left") 54 rfl rfl
  have fn__law_wait_goes : FnT K mg "_law_wait_goes" "_law_wait_goes" 89 := fnOf c KX N (d := ⟨("_law_wait_goes", none), "_law_wait_goes", "_law_wait_goes", defArgs (top 89), defBody (top 89), defScope (top 89), [], []⟩) (x := "_law_wait_goes") 55 rfl rfl
  have fn__law_lane_begun : FnT K mg "_law_lane_begun" "_law_lane_begun" 90 := fnOf c KX N (d := ⟨("_law_lane_begun", none), "_law_lane_begun", "_law_lane_begun", defArgs (top 90), defBody (top 90), defScope (top 90), [], []⟩) (x := "_law_lane_begun") 56 rfl rfl
  have fn__law_lane_put : FnT K mg "_law_lane_put" "_law_lane_put" 91 := fnOf c KX N (d := ⟨("_law_lane_put", none), "_law_lane_put", "_law_lane_put", defArgs (top 91), defBody (top 91), defScope (top 91), [], []⟩) (x := "_law_lane_put") 57 rfl rfl
  have fn__law_lane_after : FnT K mg "_law_lane_after" "_law_lane_after" 92 := fnOf c KX N (d := ⟨("_law_lane_after", none), "_law_lane_after", "_law_lane_after", defArgs (top 92), defBody (top 92), defScope (top 92), [], []⟩) (x := "_law_lane_after") 58 rfl rfl
  have fn__law_lane_all : FnT K mg "_law_lane_all" "_law_lane_all" 93 := fnOf c KX N (d := ⟨("_law_lane_all", none), "_law_lane_all", "_law_lane_all", defArgs (top 93), defBody (top 93), defScope (top 93), [], []⟩) (x := "_law_lane_all") 59 rfl rfl
  have fn__law_lane_is_move : FnT K mg "_law_lane_is_move" "_law_lane_is_move" 94 := fnOf c KX N (d := ⟨("_law_lane_is_move", none), "_law_lane_is_move", "_law_lane_is_move", defArgs (top 94), defBody (top 94), defScope (top 94), [], []⟩) (x := "_law_lane_is_move") 60 rfl rfl
  have fn__law_lane_replayed : FnT K mg "_law_lane_replayed" "_law_lane_replayed" 95 := fnOf c KX N (d := ⟨("_law_lane_replayed", none), "_law_lane_replayed", "_law_lane_replayed", defArgs (top 95), defBody (top 95), defScope (top 95), [], []⟩) (x := "_law_lane_replayed") 61 rfl rfl
  have fn__law_prices : FnT K mg "_law_prices" "_law_prices" 96 := fnOf c KX N (d := ⟨("_law_prices", none), "_law_prices", "_law_prices", defArgs (top 96), defBody (top 96), defScope (top 96), [], []⟩) (x := "_law_prices") 62 rfl rfl
  have fn__law_cheapest : FnT K mg "_law_cheapest" "_law_cheapest" 97 := fnOf c KX N (d := ⟨("_law_cheapest", none), "_law_cheapest", "_law_cheapest", defArgs (top 97), defBody (top 97), defScope (top 97), [], []⟩) (x := "_law_cheapest") 63 rfl rfl
  have fn__law_home_right : FnT K mg "_law_home_right" "_law_home_right" 98 := fnOf c KX N (d := ⟨("_law_home_right", none), "_law_home_right", "_law_home_right", defArgs (top 98), defBody (top 98), defScope (top 98), [], []⟩) (x := "_law_home_right") 64 rfl rfl
  have k_is_whole := c_is_whole (P := P) (w := w) (base := base) (G := G) (fn_is_whole) g
  have k_is_track := c_is_track (P := P) (w := w) (base := base) (G := G) (fn_is_track) g k_is_whole
  have k_first_wrong := c_first_wrong (P := P) (w := w) (base := base) (G := G) (fn_first_wrong) g k_is_whole k_is_track
  have k_is_yard := c_is_yard (P := P) (w := w) (base := base) (G := G) (fn_is_yard) g k_first_wrong
  have k_made_yard := c_made_yard (P := P) (w := w) (base := base) (G := G) (fn_made_yard) g k_first_wrong
  have k_is_pick := c_is_pick (P := P) (w := w) (base := base) (G := G) (fn_is_pick) g k_is_whole
  have k_made_pick := c_made_pick (P := P) (w := w) (base := base) (G := G) (fn_made_pick) g k_is_pick
  have k_ends := c_ends (P := P) (w := w) (base := base) (G := G) (fn_ends) g
  have k_labels := c_labels (P := P) (w := w) (base := base) (G := G) (fn_labels) g k_ends
  have k_joins := c_joins (P := P) (w := w) (base := base) (G := G) (fn_joins) g k_labels
  have k_made_prices := c_made_prices (P := P) (w := w) (base := base) (G := G) (fn_made_prices) g k_is_whole k_made_yard
  have k_check_many := c_check_many (P := P) (w := w) (base := base) (G := G) (fn_check_many) g k_is_whole
  have k_alone := c_alone (P := P) (w := w) (base := base) (G := G) (fn_alone) g
  have k_joined_by := c_joined_by (P := P) (w := w) (base := base) (G := G) (fn_joined_by) g
  have k_made_row := c_made_row (P := P) (w := w) (base := base) (G := G) (fn_made_row) g k_is_whole
  have k_is_number_kernel := c_is_number_kernel (P := P) (w := w) (base := base) (G := G) (fn_is_number_kernel) g
  have k_is_number_dealings := c_is_number_dealings (P := P) (w := w) (base := base) (G := G) (fn_is_number_dealings) g
  have k_made_dealing := c_made_dealing (P := P) (w := w) (base := base) (G := G) (fn_made_dealing) g k_made_yard k_made_row k_is_number_dealings
  have k_first_stand := c_first_stand (P := P) (w := w) (base := base) (G := G) (fn_first_stand) g
  have k_with_lane := c_with_lane (P := P) (w := w) (base := base) (G := G) (fn_with_lane) g
  have k_is_move := c_is_move (P := P) (w := w) (base := base) (G := G) (fn_is_move) g k_is_whole
  have k_moved_in := c_moved_in (P := P) (w := w) (base := base) (G := G) (fn_moved_in) g k_with_lane
  have k_moved_over := c_moved_over (P := P) (w := w) (base := base) (G := G) (fn_moved_over) g k_with_lane
  have k_moved_out := c_moved_out (P := P) (w := w) (base := base) (G := G) (fn_moved_out) g k_with_lane
  have k_after_move := c_after_move (P := P) (w := w) (base := base) (G := G) (fn_after_move) g k_is_move k_moved_in k_moved_over k_moved_out
  have k_tracks_of := c_tracks_of (P := P) (w := w) (base := base) (G := G) (fn_tracks_of) g
  have k_is_over_green := c_is_over_green (P := P) (w := w) (base := base) (G := G) (fn_is_over_green) g
  have k_green_moves := c_green_moves (P := P) (w := w) (base := base) (G := G) (fn_green_moves) g k_is_over_green
  have k_check_picks := c_check_picks (P := P) (w := w) (base := base) (G := G) (fn_check_picks) g
  have k_run := c_run (P := P) (w := w) (base := base) (G := G) (fn_run) g k_made_yard k_made_row k_made_dealing k_check_picks k_tracks_of k_first_stand k_green_moves k_after_move
  have k_layers := c_layers (P := P) (w := w) (base := base) (G := G) (fn_layers) g k_made_row
  have k_forest := c_forest (P := P) (w := w) (base := base) (G := G) (fn_forest) g k_made_yard k_made_pick k_ends
  have k_plan := c_plan (P := P) (w := w) (base := base) (G := G) (fn_plan) g k_forest k_layers
  have k_serves := c_serves (P := P) (w := w) (base := base) (G := G) (fn_serves) g k_made_yard k_made_pick k_joins
  have k__law_is_whole := c_law_is_whole (P := P) (w := w) (base := base) (G := G) (fn__law_is_whole) g
  have k__law_web_ends := c_web_ends (P := P) (w := w) (base := base) (G := G) (fn__law_web_ends) g
  have k__law_web_reached := c_web_reached (P := P) (w := w) (base := base) (G := G) (fn__law_web_reached) g k__law_web_ends
  have k__law_web_pieces := c_web_pieces (P := P) (w := w) (base := base) (G := G) (fn__law_web_pieces) g k__law_web_ends k__law_web_reached
  have k__law_web_rank := c_web_rank (P := P) (w := w) (base := base) (G := G) (fn__law_web_rank) g k__law_web_pieces
  have k__law_web_forest := c_web_forest (P := P) (w := w) (base := base) (G := G) (fn__law_web_forest) g k__law_web_ends
  have k__law_lane_begun := c_lane_begun (P := P) (w := w) (base := base) (G := G) (fn__law_lane_begun) g
  have k__law_lane_put := c_lane_put (P := P) (w := w) (base := base) (G := G) (fn__law_lane_put) g
  have k__law_lane_after := c_lane_after (P := P) (w := w) (base := base) (G := G) (fn__law_lane_after) g k__law_lane_put
  have k__law_lane_all := c_lane_all (P := P) (w := w) (base := base) (G := G) (fn__law_lane_all) g
  have k__law_lane_is_move := c_lane_is_move (P := P) (w := w) (base := base) (G := G) (fn__law_lane_is_move) g k__law_is_whole k__law_lane_all
  have k__law_lane_replayed := c_lane_replayed (P := P) (w := w) (base := base) (G := G) (fn__law_lane_replayed) g k__law_lane_begun k__law_lane_after k__law_lane_is_move
  have k__law_wait_joined := c_wait_joined (P := P) (w := w) (base := base) (G := G) (fn__law_wait_joined) g
  have k__law_wait_all := c_wait_all (P := P) (w := w) (base := base) (G := G) (fn__law_wait_all) g
  have k__law_wait_left := c_wait_left (P := P) (w := w) (base := base) (G := G) (fn__law_wait_left) g
  have k__law_wait_goes := c_wait_goes (P := P) (w := w) (base := base) (G := G) (fn__law_wait_goes) g k__law_wait_all k__law_wait_left
  have k__law_draw := c_draw (P := P) (w := w) (base := base) (G := G) (fn__law_draw) g
  have k__law_turned := c_turned (P := P) (w := w) (base := base) (G := G) (fn__law_turned) g k__law_draw
  have k__law_wait_turned := c_wait_turned (P := P) (w := w) (base := base) (G := G) (fn__law_wait_turned) g k__law_draw
  have k__law_web_yard := c_web_yard (P := P) (w := w) (base := base) (G := G) (fn__law_web_yard) g k__law_draw k__law_turned
  have k__law_prices := c_prices (P := P) (w := w) (base := base) (G := G) (fn__law_prices) g k__law_draw
  have k__law_wait_parted := c_wait_parted (P := P) (w := w) (base := base) (G := G) (fn__law_wait_parted) g k__law_draw k__law_wait_turned
  have k__law_wait_row_of := c_row_of (P := P) (w := w) (base := base) (G := G) (fn__law_wait_row_of) g k__law_draw k__law_wait_parted k__law_wait_joined
  have k_cheapest := c_cheapest (P := P) (w := w) (base := base) (G := G) fc_cheapest hc1 hc2 hc3 tb1 g k_made_prices k_check_many k_alone k_ends k_joined_by
  have k__law_cheapest := c_law_cheapest (P := P) (w := w) (base := base) (G := G) (fn__law_cheapest) g k__law_web_forest
  have k_are_numbers := c_are_numbers (P := P) (w := w) (base := base) (G := G) fc_are_numbers ha1 ha2 tb2 g (fn_is_number_kernel)
  have k_way := c_way (P := P) (w := w) (base := base) (G := G) (fn_way) g
  have k_is_forest := c_is_forest (P := P) (w := w) (base := base) (G := G) (fn_is_forest) g k_way
  have k_cheapest_right := c_cheapest_right (P := P) (w := w) (base := base) (G := G) fc_cheapest_right hr1 hr2 tb3 g k_is_yard k_are_numbers k_is_pick k_is_number_kernel k_is_forest k_way
  have k__law_pool := c_pool (P := P) (w := w) (base := base) (G := G) (fn__law_pool) g
  have k__law_home_right := c_home_right (P := P) (w := w) (base := base) (G := G) (fn__law_home_right) g k__law_draw k_plan k__law_wait_goes k_run k__law_lane_replayed
  exact okL (G := G) FL sc_law [t1, t2, t3] (fun p hp => List.mem_cons_of_mem _ hp) (fun p hp => by rw [hL p hp]; exact List.mem_cons_self) (by decide) fun f cdv A outer s H E hr ns hbits hlen =>
    w_law g hr k__law_pool k__law_web_yard k__law_prices k__law_web_rank k_cheapest k_plan k__law_draw k__law_cheapest k_serves k_cheapest_right k__law_wait_row_of k__law_home_right hbits hlen
def cs (K : PySem.W.Frag) : List (Addr × Addr) := [He.cT K dC, He.cT K dA, He.cT K dR]
theorem exT_ok {K : PySem.W.Frag} (h : exT K = true) : (He.cT K dC).2 ≠ (He.cT K dA).2 ∧ (He.cT K dC).2 ≠ (He.cT K dR).2 := by
  obtain ⟨h1, h2⟩ := He.ba h
  refine ⟨fun e => ?_, fun e => ?_⟩
  · rw [show ((He.cT K ("cheapest", none)).2 == (He.cT K ("are_numbers", none)).2) = true from beq_iff_eq.mpr e] at h1
    cases h1
  · rw [show ((He.cT K ("cheapest", none)).2 == (He.cT K ("cheapest_right", none)).2) = true from beq_iff_eq.mpr e] at h2
    cases h2
theorem law_at (w : World) (mg : Str → Option Value) (fa : Addr) (h : Heap) (Y : hk.says w h) (N : h.Ns mainGlobals mg) (hmg : mg "law" = some (.ref fa)) : ∃ K : PySem.W.Frag, K.In h ∧ LamX.LawAtS PySem.Challenge.rw_trackworth_k63_whole_cheapest_sorts w K L2.CX0 8 63 "_law_script" mg fa h := by
  obtain ⟨K, KX, c⟩ := Y
  have c : Says w h K := c
  refine ⟨K, KX, ?_⟩
  obtain ⟨ne1, ne2⟩ := exT_ok c.more
  have g := fr_of c KX N
  obtain ⟨fl, fd, FL, hml⟩ : FnT K mg "law" "law" 99 := fnOf c KX N (d := ⟨("law", none), "law", "law", defArgs (top 99), defBody (top 99), defScope (top 99), [], []⟩) (x := "law") 65 rfl rfl
  rw [hmg] at hml
  cases hml
  have pm : ∀ p ∈ cs K, ∃ d ∈ dtf, p = He.cT K d := fun p hp => by
    simp only [cs, List.mem_cons, List.not_mem_nil, or_false] at hp
    rcases hp with rfl | rfl | rfl
    · exact ⟨dC, by simp [dtf], rfl⟩
    · exact ⟨dA, by simp [dtf], rfl⟩
    · exact ⟨dR, by simp [dtf], rfl⟩
  refine ⟨fd, cs K, spL K ((cs K).map (·.2)), fun p hp => ?_, fun p hp => ?_, fun p hp => ?_, fun s u => ?_, fun H a ns hlen hbits hH hS => ?_, fun base KB NB TB => ?_⟩
  · obtain ⟨d, hd, rfl⟩ := pm p hp
    exact c.empty d hd
  · obtain ⟨d, hd, rfl⟩ := pm p hp
    exact c.out d hd
  · obtain ⟨d, hd, rfl⟩ := pm p hp
    exact PySem.W.codeHd_of_K KX (c.hd d hd)
  · obtain ⟨oc', od', dV, kV, doc, pm, an, cdv, ct, osl', rfl, lk', hcd, hD, _⟩ := FL.ex
    rcases hD with ⟨_, rfl⟩ | ⟨e, _⟩
    · exact BindsTo.of_eq (b_law kV doc pm an cdv ct [u] rfl)
    · exact absurd rfl e
  · exact ⟨a, ns, rfl, hS, fun p hp => by
      obtain ⟨q, hq, rfl⟩ := List.mem_map.mp hp
      exact hH q hq, hbits, hlen, fun _ => rfl⟩
  · have tb1 := TB (He.cT K dC) (by simp [cs])
    have tb2' := TB (He.cT K dA) (by simp [cs])
    have tb3' := TB (He.cT K dR) (by simp [cs])
    have tb2 : GxR.TabB base mg (He.cT K dA).1 (He.cT K dA).2 := ⟨tb2'.code, tb2'.bm, tb2'.gP⟩
    have tb3 : GxR.TabB base mg (He.cT K dR).1 (He.cT K dR).2 := ⟨tb3'.code, tb3'.bm, tb3'.gP⟩
    have fc_cheapest : FnC K mg "cheapest" "cheapest" "cheapest" (defArgs (top 32)) (defBody (top 32)) (defScope (top 32)) (He.cT K dC).1 := fnOfC c KX N (d := ⟨("cheapest", none), "cheapest", "cheapest", defArgs (top 32), defBody (top 32), defScope (top 32), [], []⟩) (x := "cheapest") 14 rfl rfl
    have fc_are_numbers : FnC K mg "are_numbers" "are_numbers" "are_numbers" (defArgs (top 40)) (defBody (top 40)) (defScope (top 40)) (He.cT K dA).1 := fnOfC c KX N (d := ⟨("are_numbers", none), "are_numbers", "are_numbers", defArgs (top 40), defBody (top 40), defScope (top 40), [], []⟩) (x := "are_numbers") 17 rfl rfl
    have fc_cheapest_right : FnC K mg "cheapest_right" "cheapest_right" "cheapest_right" (defArgs (top 43)) (defBody (top 43)) (defScope (top 43)) (He.cT K dR).1 := fnOfC c KX N (d := ⟨("cheapest_right", none), "cheapest_right", "cheapest_right", defArgs (top 43), defBody (top 43), defScope (top 43), [], []⟩) (x := "cheapest_right") 20 rfl rfl
    exact law_ok c KX N g FL tb1 tb2 tb3 fc_cheapest fc_are_numbers fc_cheapest_right ne1 ne2
end TW
end
set_option Elab.async false
set_option linter.all false
open PySem PySem.W PySem.Calls PyProof.Rows
set_option maxRecDepth 100000 in
set_option maxHeartbeats 0 in
theorem PySem.Challenge.cw_trackworth_k63_whole_cheapest_sorts_holds : PySem.Challenge.rw_trackworth_k63_whole_cheapest_sorts.Holds := by
  w_on; o_law
  refine HandSHeadRun.head_any (r := TW.R) (q := view TW.R.prog [99]) (H := TW.hk) (ob := TW.ob) (M := 20000) (loose := TW.names) (d := HandSHeadRun.topDef TW.R.prog 99) (kwd := []) TW.ob_eq
    (by kernel_rfl) (fun s => by kernel_rfl) TW.run (by kernel_rfl) (by kernel_rfl) (by kernel_rfl) (by rfl) (by first | assumption | decide +kernel) (by decide +kernel) ⟨rfl, rfl, rfl, rfl, rfl, by decide +kernel⟩ ?hw ?hc
  case hw => w_witness2
  case hc =>
    refine LamX.walk_ofTsE (l := PySem.Challenge.rw_trackworth_k63_whole_cheapest_sorts) (n := 63) (k := 8) (x := "_law_script") (CX := fun _ => L2.CX0) rfl (by decide) (by kernel_rfl) ⟨rfl, by decide, by decide⟩ ?F (fun _ _ _ _ _ z => z)
    intro w mg fa h Y G hmg0
    have hmg : mg ("law" : PySem.Str) = some (.ref fa) := by
      have e : (HandSHeadRun.topDef TW.R.prog 99).name = ("law" : PySem.Str) := by kernel_rfl
      rw [← e]
      exact hmg0
    exact TW.law_at w mg fa h Y G hmg
