import PyProof.Rows.All
import PySem.Challenge.RW_shopwhole_k47_whole_no_program
import HandS.ForMost
import Wide.All
import OpenK.AllK
import Wide.FinOn
import KE.KStateDown
import Lean
import HandS.Head0
import HandS.Head1
import HandS.Head2
import HandS.HeadEnd
import HandS.HeadHook1
import HandS.HeadHook2
import HandS.HeadHook3
import HandS.HeadHook4
import HandS.Defaults
import HandS.Zip
import HandS.DictTup
import HandS.Style
import HandS.CallLocal
import HandS.Wide
import HandS.Deep
import HandS.SortInts
import HandS.Star
import HandS.Strs
import KE.SortData
import KE.GoesMore
import HandS.More
import HandS.Conv
set_option maxHeartbeats 200000
set_option autoImplicit true
set_option Elab.async false
set_option linter.all false
set_option maxRecDepth 100000
namespace Sw
open PySem PySem.Spec PyProof.Rows L2
def topS (i : Nat) : Stmt := PySem.Challenge.pw_shopwhole_k47_whole_no_program.main.body.getD i (.Pass ⟨0, 0, 0, 0⟩)
abbrev s_is_kept : Stmt := topS 2
abbrev s_ends_of : Stmt := topS 3
abbrev s_rows_made : Stmt := topS 4
abbrev s_stretches_made : Stmt := topS 5
abbrev s_layers_made : Stmt := topS 6
abbrev s_union : Stmt := topS 7
abbrev s_meet : Stmt := topS 8
abbrev s_less : Stmt := topS 9
abbrev s_union_of : Stmt := topS 10
abbrev s_box : Stmt := topS 11
abbrev s_is_within : Stmt := topS 12
abbrev s_boxes_of : Stmt := topS 13
abbrev s_of_boxes : Stmt := topS 14
abbrev s_bounds : Stmt := topS 15
abbrev s_moved : Stmt := topS 16
abbrev s_has : Stmt := topS 17
abbrev s_do_touch : Stmt := topS 18
abbrev s_pieces : Stmt := topS 19
abbrev s_piece_with : Stmt := topS 20
abbrev s_swept : Stmt := topS 21
abbrev s_barred : Stmt := topS 22
abbrev s_travel_lot : Stmt := topS 24
abbrev s_is_turning : Stmt := topS 30
abbrev s_turnings : Stmt := topS 31
abbrev s_turned : Stmt := topS 32
abbrev s_number_of : Stmt := topS 33
abbrev s_after : Stmt := topS 34
abbrev s_back : Stmt := topS 35
abbrev s_placed : Stmt := topS 37
abbrev s_taken_back : Stmt := topS 38
abbrev s_free_lot : Stmt := topS 40
abbrev s_cut_by : Stmt := topS 41
abbrev s_closure : Stmt := topS 42
abbrev s_law_cell_at : Stmt := topS 44
abbrev s_law_draw : Stmt := topS 45
abbrev s_law_number : Stmt := topS 46
abbrev s_law_next : Stmt := topS 47
abbrev s_law_pick : Stmt := topS 48
abbrev s_law_box : Stmt := topS 49
abbrev s_law_tool : Stmt := topS 50
abbrev s_law_job : Stmt := topS 51
abbrev s_law_cubes : Stmt := topS 52
abbrev s_law_at : Stmt := topS 53
abbrev s_law_hits : Stmt := topS 54
abbrev s_law_next_to : Stmt := topS 55
abbrev s_law_is_in : Stmt := topS 56
abbrev s_law_solid : Stmt := topS 57
abbrev s_law : Stmt := topS 58
end Sw
set_option autoImplicit true
set_option Elab.async false
set_option linter.all false
set_option maxRecDepth 100000
set_option maxHeartbeats 0
namespace Sw
open PySem PySem.Spec PyProof.Rows L2
def d_is_kept : He.DefD := ⟨("is_kept", none), "is_kept", "is_kept", defArgs s_is_kept, defBody s_is_kept, defScope s_is_kept, [], []⟩
def d_ends_of : He.DefD := ⟨("ends_of", none), "ends_of", "ends_of", defArgs s_ends_of, defBody s_ends_of, defScope s_ends_of, [], []⟩
def d_rows_made : He.DefD := ⟨("rows_made", none), "rows_made", "rows_made", defArgs s_rows_made, defBody s_rows_made, defScope s_rows_made, [], []⟩
def d_stretches_made : He.DefD := ⟨("stretches_made", none), "stretches_made", "stretches_made", defArgs s_stretches_made, defBody s_stretches_made, defScope s_stretches_made, [], []⟩
def d_layers_made : He.DefD := ⟨("layers_made", none), "layers_made", "layers_made", defArgs s_layers_made, defBody s_layers_made, defScope s_layers_made, [], []⟩
def d_union : He.DefD := ⟨("union", none), "union", "union", defArgs s_union, defBody s_union, defScope s_union, [], []⟩
def d_meet : He.DefD := ⟨("meet", none), "meet", "meet", defArgs s_meet, defBody s_meet, defScope s_meet, [], []⟩
def d_less : He.DefD := ⟨("less", none), "less", "less", defArgs s_less, defBody s_less, defScope s_less, [], []⟩
def d_union_of : He.DefD := ⟨("union_of", none), "union_of", "union_of", defArgs s_union_of, defBody s_union_of, defScope s_union_of, [], []⟩
def d_box : He.DefD := ⟨("box", none), "box", "box", defArgs s_box, defBody s_box, defScope s_box, [], []⟩
def d_is_within : He.DefD := ⟨("is_within", none), "is_within", "is_within", defArgs s_is_within, defBody s_is_within, defScope s_is_within, [], []⟩
def d_boxes_of : He.DefD := ⟨("boxes_of", none), "boxes_of", "boxes_of", defArgs s_boxes_of, defBody s_boxes_of, defScope s_boxes_of, [], []⟩
def d_of_boxes : He.DefD := ⟨("of_boxes", none), "of_boxes", "of_boxes", defArgs s_of_boxes, defBody s_of_boxes, defScope s_of_boxes, [], []⟩
def d_bounds : He.DefD := ⟨("bounds", none), "bounds", "bounds", defArgs s_bounds, defBody s_bounds, defScope s_bounds, [], []⟩
def d_moved : He.DefD := ⟨("moved", none), "moved", "moved", defArgs s_moved, defBody s_moved, defScope s_moved, [], []⟩
def d_has : He.DefD := ⟨("has", none), "has", "has", defArgs s_has, defBody s_has, defScope s_has, [], []⟩
def d_do_touch : He.DefD := ⟨("do_touch", none), "do_touch", "do_touch", defArgs s_do_touch, defBody s_do_touch, defScope s_do_touch, [], []⟩
def d_pieces : He.DefD := ⟨("pieces", none), "pieces", "pieces", defArgs s_pieces, defBody s_pieces, defScope s_pieces, [], []⟩
def d_piece_with : He.DefD := ⟨("piece_with", none), "piece_with", "piece_with", defArgs s_piece_with, defBody s_piece_with, defScope s_piece_with, [], []⟩
def d_swept : He.DefD := ⟨("swept", none), "swept", "swept", defArgs s_swept, defBody s_swept, defScope s_swept, [], []⟩
def d_barred : He.DefD := ⟨("barred", none), "barred", "barred", defArgs s_barred, defBody s_barred, defScope s_barred, [], []⟩
def d_travel_lot : He.DefD := ⟨("travel_lot", none), "travel_lot", "travel_lot", defArgs s_travel_lot, defBody s_travel_lot, defScope s_travel_lot, [], []⟩
def d_is_turning : He.DefD := ⟨("is_turning", none), "is_turning", "is_turning", defArgs s_is_turning, defBody s_is_turning, defScope s_is_turning, [], []⟩
def d_turnings : He.DefD := ⟨("turnings", none), "turnings", "turnings", defArgs s_turnings, defBody s_turnings, defScope s_turnings, [], []⟩
def d_turned : He.DefD := ⟨("turned", none), "turned", "turned", defArgs s_turned, defBody s_turned, defScope s_turned, [], []⟩
def d_number_of : He.DefD := ⟨("number_of", none), "number_of", "number_of", defArgs s_number_of, defBody s_number_of, defScope s_number_of, [], []⟩
def d_after : He.DefD := ⟨("after", none), "after", "after", defArgs s_after, defBody s_after, defScope s_after, [], []⟩
def d_back : He.DefD := ⟨("back", none), "back", "back", defArgs s_back, defBody s_back, defScope s_back, [], []⟩
def d_placed : He.DefD := ⟨("placed", none), "placed", "placed", defArgs s_placed, defBody s_placed, defScope s_placed, [], []⟩
def d_taken_back : He.DefD := ⟨("taken_back", none), "taken_back", "taken_back", defArgs s_taken_back, defBody s_taken_back, defScope s_taken_back, [], []⟩
def d_free_lot : He.DefD := ⟨("free_lot", none), "free_lot", "free_lot", defArgs s_free_lot, defBody s_free_lot, defScope s_free_lot, [], []⟩
def d_cut_by : He.DefD := ⟨("cut_by", none), "cut_by", "cut_by", defArgs s_cut_by, defBody s_cut_by, defScope s_cut_by, [], []⟩
def d_closure : He.DefD := ⟨("closure", none), "closure", "closure", defArgs s_closure, defBody s_closure, defScope s_closure, [], []⟩
def d_law_cell_at : He.DefD := ⟨("_law_cell_at", none), "_law_cell_at", "_law_cell_at", defArgs s_law_cell_at, defBody s_law_cell_at, defScope s_law_cell_at, [], []⟩
def d_law_draw : He.DefD := ⟨("_law_draw", none), "_law_draw", "_law_draw", defArgs s_law_draw, defBody s_law_draw, defScope s_law_draw, [], []⟩
def d_law_number : He.DefD := ⟨("_law_number", none), "_law_number", "_law_number", defArgs s_law_number, defBody s_law_number, defScope s_law_number, [], []⟩
def d_law_next : He.DefD := ⟨("_law_next", none), "_law_next", "_law_next", defArgs s_law_next, defBody s_law_next, defScope s_law_next, [], []⟩
def d_law_pick : He.DefD := ⟨("_law_pick", none), "_law_pick", "_law_pick", defArgs s_law_pick, defBody s_law_pick, defScope s_law_pick, [], []⟩
def d_law_box : He.DefD := ⟨("_law_box", none), "_law_box", "_law_box", defArgs s_law_box, defBody s_law_box, defScope s_law_box, [], []⟩
def d_law_tool : He.DefD := ⟨("_law_tool", none), "_law_tool", "_law_tool", defArgs s_law_tool, defBody s_law_tool, defScope s_law_tool, [], []⟩
def d_law_job : He.DefD := ⟨("_law_job", none), "_law_job", "_law_job", defArgs s_law_job, defBody s_law_job, defScope s_law_job, [], []⟩
def d_law_cubes : He.DefD := ⟨("_law_cubes", none), "_law_cubes", "_law_cubes", defArgs s_law_cubes, defBody s_law_cubes, defScope s_law_cubes, [], []⟩
def d_law_at : He.DefD := ⟨("_law_at", none), "_law_at", "_law_at", defArgs s_law_at, defBody s_law_at, defScope s_law_at, [], []⟩
def d_law_hits : He.DefD := ⟨("_law_hits", none), "_law_hits", "_law_hits", defArgs s_law_hits, defBody s_law_hits, defScope s_law_hits, [], []⟩
def d_law_next_to : He.DefD := ⟨("_law_next_to", none), "_law_next_to", "_law_next_to", defArgs s_law_next_to, defBody s_law_next_to, defScope s_law_next_to, [], []⟩
def d_law_is_in : He.DefD := ⟨("_law_is_in", none), "_law_is_in", "_law_is_in", defArgs s_law_is_in, defBody s_law_is_in, defScope s_law_is_in, [], []⟩
def d_law_solid : He.DefD := ⟨("_law_solid", none), "_law_solid", "_law_solid", defArgs s_law_solid, defBody s_law_solid, defScope s_law_solid, [], []⟩
def d_law : He.DefD := ⟨("law", none), "law", "law", defArgs s_law, defBody s_law, defScope s_law, [], []⟩
def fn1 : List He.DefD := [d_is_kept, d_ends_of, d_rows_made, d_stretches_made, d_layers_made, d_union, d_meet, d_less, d_union_of, d_box, d_is_within, d_boxes_of, d_of_boxes, d_bounds, d_moved, d_has, d_do_touch, d_pieces, d_piece_with, d_swept, d_barred, d_travel_lot, d_is_turning, d_turnings, d_turned]
def fn2 : List He.DefD := [d_number_of, d_after, d_back, d_placed, d_taken_back, d_free_lot, d_cut_by, d_closure, d_law_cell_at, d_law_draw, d_law_number, d_law_next, d_law_pick, d_law_box, d_law_tool, d_law_job, d_law_cubes, d_law_at, d_law_hits, d_law_next_to, d_law_is_in, d_law_solid, d_law]
def fn : List He.DefD := fn1 ++ fn2
def fa0 : List He.Fa := [.glo "is_kept", .glo "ends_of", .glo "rows_made", .glo "stretches_made", .glo "layers_made", .glo "union", .glo "meet", .glo "less", .glo "union_of", .glo "box", .glo "is_within", .glo "boxes_of", .glo "of_boxes", .glo "bounds", .glo "moved", .glo "has", .glo "do_touch", .glo "pieces", .glo "piece_with", .glo "swept", .glo "barred", .glo "travel_lot", .glo "is_turning", .glo "turnings", .glo "turned", .glo "number_of", .glo "after", .glo "back", .glo "placed", .glo "taken_back"]
def fa1 : List He.Fa := [.glo "free_lot", .glo "cut_by", .glo "closure", .glo "_law_cell_at", .glo "_law_draw", .glo "_law_number", .glo "_law_next", .glo "_law_pick", .glo "_law_box", .glo "_law_tool", .glo "_law_job", .glo "_law_cubes", .glo "_law_at", .glo "_law_hits", .glo "_law_next_to", .glo "_law_is_in", .glo "_law_solid", .glo "law", .glo "AXES", .glo "ORDERS", .glo "EVEN", .glo "SIGNS", .free "sorted", .free "zip", .free "len", .free "tuple", .free "list", .free "all", .free "any", .free "enumerate"]
def fa2 : List He.Fa := [.free "range", .free "min", .free "max", .free "int", .free "str", .int "MANY" 24]
def fa : List He.Fa := fa0 ++ fa1 ++ fa2
def loose1 : List PySem.Str := ["AXES", "is_kept", "ends_of", "rows_made", "stretches_made", "layers_made", "union", "meet", "less", "union_of", "box", "is_within", "boxes_of", "of_boxes", "bounds", "moved", "has", "do_touch", "pieces", "piece_with", "swept", "barred", "travel_lot", "ORDERS", "EVEN", "SIGNS", "MANY", "is_turning", "turnings", "turned"]
def loose2 : List PySem.Str := ["number_of", "after", "back", "placed", "taken_back", "free_lot", "cut_by", "closure", "_law_cell_at", "_law_draw", "_law_number", "_law_next", "_law_pick", "_law_box", "_law_tool", "_law_job", "_law_cubes", "_law_at", "_law_hits", "_law_next_to", "_law_is_in", "_law_solid"]
def loose : List PySem.Str := loose1 ++ loose2
/-- what stands at an address of the written part, as data -/
def datB (K : PySem.W.Frag) : PyData → Value → Bool
  | .int i, .int j _ => decide (i = j)
  | .tuple ds, .ref a => (match K.lookup a with
    | some ⟨.type c, _, .seq its _, _⟩ => decide (c = "tuple") && (decide (its.size ≤ sizeLine) && datAll K ds its.toList)
    | _ => false)
  | _, _ => false
where datAll (K : PySem.W.Frag) : List PyData → List Value → Bool
  | [], [] => true
  | d :: ds, u :: us => datB K d u && datAll K ds us
  | _, _ => false
def i3 (a b c : Int) : PyData := .tuple [.int a, .int b, .int c]
def dAXES : PyData := i3 0 1 2
def dORDERS : PyData := .tuple [i3 0 1 2, i3 0 2 1, i3 1 0 2, i3 1 2 0, i3 2 0 1, i3 2 1 0]
def dEVEN : PyData := .tuple [i3 0 1 2, i3 1 2 0, i3 2 0 1]
def dSIGNS : PyData := .tuple [i3 1 1 1, i3 1 1 (-1), i3 1 (-1) 1, i3 1 (-1) (-1), i3 (-1) 1 1, i3 (-1) 1 (-1), i3 (-1) (-1) 1, i3 (-1) (-1) (-1)]
def exB (K : PySem.W.Frag) : Bool := datB K dAXES (.ref (He.ga K "AXES")) && (datB K dORDERS (.ref (He.ga K "ORDERS")) && (datB K dEVEN (.ref (He.ga K "EVEN")) && datB K dSIGNS (.ref (He.ga K "SIGNS"))))

abbrev R : PySem.W.OpenRow := PySem.W.OpenLaw.row PySem.Challenge.rw_shopwhole_k47_whole_no_program
abbrev hk : PySem.W.Hook := He.hookX 5 fa fn [] [] exB
def ob (s : PySem.W.SharedT) : He.AlX := He.obsX 5 fa fn [] [] exB (HandSHeadRun.getT s)
theorem ob_eq (s : PySem.W.SharedT) : ob s = hk.obs s.abs := He.obsX_eq (HandSHeadRun.getT_eq s)
theorem run (w : World) : HandSHeadRun.RunEq R (PySem.W.view R.prog [58]) hk ob 4000 loose w := by
  intro os
  kernel_rfl
end Sw
set_option Elab.async false
set_option linter.all false
set_option maxRecDepth 100000
set_option maxHeartbeats 1000000
set_option autoImplicit false
/-! The data layer: slots hold data or raw values, cells are owned lists and dicts; what a reading does to such a state. -/
namespace Sw
open PySem PySem.Spec PyProof.Rows L2

end Sw
namespace L2
open PySem PySem.Spec PyProof.Rows
/-! ### data in a heap, kept -/
theorem sqT_same {K : PySem.W.Frag} {H H' : Hp} {a : Addr} {xs : List V} (e : Same H H') (h : SqT K H a xs) : SqT K H' a xs := by
  rcases h with (h | ⟨o, h⟩) | h
  · exact .inl (.inl (e _ _ h))
  · exact .inl (.inr ⟨o, e _ _ h⟩)
  · exact .inr h
theorem dp_mono {K : PySem.W.Frag} {H H' : Hp} (e : Same H H') {v : V} {d : PyData} (h : Dp K H v d) : Dp K H' v d :=
  Dp.rec (motive_1 := fun v d _ => Dp K H' v d) (motive_2 := fun vs ds _ => DpAll K H' vs ds) .non .bl .int .str (fun s _ ih => .lst (e.seq s) ih) (fun s _ ih => .tup (sqT_same e s) ih) .nil (fun _ _ i1 i2 => .cons i1 i2) h
theorem dpAll_mono {K : PySem.W.Frag} {H H' : Hp} (e : Same H H') : ∀ {vs : List V} {ds : List PyData}, DpAll K H vs ds → DpAll K H' vs ds
  | _, _, .nil => .nil
  | _, _, .cons h t => .cons (dp_mono e h) (dpAll_mono e t)
theorem DpAll.len {K : PySem.W.Frag} {H : Hp} : ∀ {vs : List V} {ds : List PyData}, DpAll K H vs ds → vs.length = ds.length
  | _, _, .nil => rfl
  | _, _, .cons _ t => by rw [List.length_cons, List.length_cons, DpAll.len t]
theorem DpAll.get {K : PySem.W.Frag} {H : Hp} : ∀ {vs : List V} {ds : List PyData} {i : Nat} {d : PyData}, DpAll K H vs ds → ds[i]? = some d → ∃ v, vs[i]? = some v ∧ Dp K H v d
  | _, _, _, _, .nil, h => by simp at h
  | _, _, 0, _, .cons h _, e => by
    simp at e
    subst e
    exact ⟨_, rfl, h⟩
  | _, _, i + 1, _, .cons _ t, e => by
    obtain ⟨v, h1, h2⟩ := DpAll.get (i := i) t (by simpa using e)
    exact ⟨v, by simpa using h1, h2⟩
theorem DpAll.getV {K : PySem.W.Frag} {H : Hp} : ∀ {vs : List V} {ds : List PyData} {i : Nat} {v : V}, DpAll K H vs ds → vs[i]? = some v → ∃ d, ds[i]? = some d ∧ Dp K H v d
  | _, _, _, _, .nil, h => by simp at h
  | _, _, 0, _, .cons h _, e => by
    simp at e
    subst e
    exact ⟨_, rfl, h⟩
  | _, _, i + 1, _, .cons _ t, e => by
    obtain ⟨v, h1, h2⟩ := DpAll.getV (i := i) t (by simpa using e)
    exact ⟨v, by simpa using h1, h2⟩
theorem DpAll.app {K : PySem.W.Frag} {H : Hp} : ∀ {vs ws : List V} {ds es : List PyData}, DpAll K H vs ds → DpAll K H ws es → DpAll K H (vs ++ ws) (ds ++ es)
  | _, _, _, _, .nil, t => t
  | _, _, _, _, .cons h r, t => .cons h (DpAll.app r t)
theorem DpAll.take {K : PySem.W.Frag} {H : Hp} : ∀ {vs : List V} {ds : List PyData} (n : Nat), DpAll K H vs ds → DpAll K H (vs.take n) (ds.take n)
  | _, _, 0, _ => .nil
  | _, _, _ + 1, .nil => .nil
  | _, _, n + 1, .cons h t => .cons h (DpAll.take n t)
theorem DpAll.drop {K : PySem.W.Frag} {H : Hp} : ∀ {vs : List V} {ds : List PyData} (n : Nat), DpAll K H vs ds → DpAll K H (vs.drop n) (ds.drop n)
  | _, _, 0, h => h
  | _, _, _ + 1, .nil => .nil
  | _, _, n + 1, .cons _ t => DpAll.drop n t
theorem DpAll.set {K : PySem.W.Frag} {H : Hp} {v : V} {d : PyData} (h : Dp K H v d) : ∀ {vs : List V} {ds : List PyData} (n : Nat), DpAll K H vs ds → DpAll K H (vs.set n v) (ds.set n d)
  | _, _, _, .nil => .nil
  | _, _, 0, .cons _ t => .cons h t
  | _, _, n + 1, .cons h' t => .cons h' (DpAll.set h n t)
theorem DpAll.dropLast {K : PySem.W.Frag} {H : Hp} {vs : List V} {ds : List PyData} (h : DpAll K H vs ds) : DpAll K H vs.dropLast ds.dropLast := by
  rw [List.dropLast_eq_take, List.dropLast_eq_take, h.len]
  exact h.take _
theorem DpAll.ints {K : PySem.W.Frag} {H : Hp} : ∀ (ns : List Int), DpAll K H (ns.map V.int) (ns.map PyData.int)
  | [] => .nil
  | n :: ns => .cons (.int n) (DpAll.ints ns)
theorem DpAll.ints_inv {K : PySem.W.Frag} {H : Hp} : ∀ {vs : List V} {ns : List Int}, DpAll K H vs (ns.map PyData.int) → vs = ns.map V.int
  | _, [], h => by
    cases h
    rfl
  | _, n :: ns, h => by
    cases h with
    | cons h t =>
      cases h
      rw [DpAll.ints_inv t]
      rfl
theorem DpAll.bools_inv {K : PySem.W.Frag} {H : Hp} : ∀ {vs : List V} {ns : List Bool}, DpAll K H vs (ns.map PyData.bool) → vs = ns.map V.bl
  | _, [], h => by
    cases h
    rfl
  | _, n :: ns, h => by
    cases h with
    | cons h t =>
      cases h
      rw [DpAll.bools_inv t]
      rfl
end L2
namespace Sw
open PySem PySem.Spec PyProof.Rows L2
theorem same_upd {H : Hp} {p : Addr} {o : HO} (h : H p = none) : Same H (upd H p o) := fun b x e => by
  rw [upd_ne (ne_of_none e h)]
  exact e
theorem same_upd2 {H H' : Hp} {p : Addr} {o : HO} (e : Same H H') (h : H p = none) : Same (upd H p o) (upd H' p o) := fun b x q => by
  by_cases hb : b = p
  · subst hb
    rw [upd_same] at q ⊢
    exact q
  · rw [upd_ne hb] at q ⊢
    exact e _ _ q
/-- what is not known may change -/
theorem same_mut {H H' : Hp} {p : Addr} {o : HO} (e : Same H H') (h : H p = none) : Same H (upd H' p o) := fun a u ha => by
  rw [upd_ne (ne_of_none ha h)]
  exact e a u ha

/-! ### states -/
inductive SV where
  | im (d : PyData)
  | raw (v : V)
  | fz (d : PyData)
abbrev iN (n : Int) : SV := .im (.int n)
abbrev bB (b : Bool) : SV := .im (.bool b)
def RepS (K : PySem.W.Frag) (Hb : Hp) (v : V) : SV → Prop
  | .im d => Dp K Hb v d
  | .raw w => v = w
  | .fz d => Dp K Hb v d ∧ ∃ p o ys, v = .ref p ∧ Hb p = some (.frz o (.tup ys)) ∧ o.dict = none
inductive Cell where
  | lst (xs : List PyData)
  | dk (kvs : List (Key × PyData))
  | dt (kvs : List (List Key × PyData))
abbrev KvOk (K : PySem.W.Frag) (Hb : Hp) {κ : Type} : List (κ × V) → List (κ × PyData) → Prop := Paired fun (p : κ × V) (q : κ × PyData) => p.1 = q.1 ∧ Dp K Hb p.2 q.2
def CellOk (K : PySem.W.Frag) (Hb : Hp) : HO → Cell → Prop
  | .lst vs, .lst xs => DpAll K Hb vs xs
  | .dK ws, .dk kvs => KvOk K Hb ws kvs
  | .dT ws, .dt kvs => KvOk K Hb ws kvs
  | _, _ => False
abbrev DS := List (Option SV)
abbrev CS := List (Addr × Cell)
theorem RepS.mono {K : PySem.W.Frag} {H H' : Hp} (e : Same H H') {v : V} {sv : SV} (h : RepS K H v sv) : RepS K H' v sv := by
  cases sv with
  | im d => exact dp_mono e h
  | raw w => exact h
  | fz d =>
    obtain ⟨h1, p, o, ys, h2, h3, h4⟩ := h
    exact ⟨dp_mono e h1, p, o, ys, h2, e _ _ h3, h4⟩
theorem paired_mono {α β : Type} {F G : α → β → Prop} (f : ∀ a b, F a b → G a b) : ∀ {l : List α} {m : List β}, Paired F l m → Paired G l m
  | _, _, .nil => .nil
  | _, _, .cons h t => .cons (f _ _ h) (paired_mono f t)
theorem CellOk.mono {K : PySem.W.Frag} {H H' : Hp} (e : Same H H') {o : HO} {c : Cell} (h : CellOk K H o c) : CellOk K H' o c := by
  cases o <;> cases c <;> first
    | exact dpAll_mono e h
    | exact paired_mono (fun _ _ z => ⟨z.1, dp_mono e z.2⟩) h
    | exact h
theorem CellOk.lst {K : PySem.W.Frag} {H : Hp} {o : HO} {xs : List PyData} (h : CellOk K H o (.lst xs)) : ∃ vs, o = .lst vs ∧ DpAll K H vs xs := by
  cases o with
  | lst vs => exact ⟨vs, rfl, h⟩
  | _ => exact False.elim h
theorem CellOk.dk {K : PySem.W.Frag} {H : Hp} {o : HO} {xs : List (Key × PyData)} (h : CellOk K H o (.dk xs)) : ∃ vs, o = .dK vs ∧ KvOk K H vs xs := by
  cases o with
  | dK vs => exact ⟨vs, rfl, h⟩
  | _ => exact False.elim h
theorem CellOk.dt {K : PySem.W.Frag} {H : Hp} {o : HO} {xs : List (List Key × PyData)} (h : CellOk K H o (.dt xs)) : ∃ vs, o = .dT vs ∧ KvOk K H vs xs := by
  cases o with
  | dT vs => exact ⟨vs, rfl, h⟩
  | _ => exact False.elim h

/-- what cannot change -/
def Imm (o : HO) : Prop := ∃ xs, o = .tup xs
theorem CellOk.mut {K : PySem.W.Frag} {H : Hp} {o : HO} {c : Cell} (h : CellOk K H o c) : ¬ Imm o := by
  rintro ⟨xs, rfl⟩
  cases c <;> exact h
structure Ok (K : PySem.W.Frag) (Hb : Hp) (Fz : Addr → HO → Prop) (ds : DS) (cs : CS) (σ : L2.St) (H : Hp) : Prop where
  ex : Same Hb H
  len : σ.length = ds.length
  slot : ∀ (i : Nat) (sv : SV), ds[i]? = some (some sv) → ∃ v, σ[i]? = some (some v) ∧ RepS K Hb v sv
  cell : ∀ p ∈ cs, Hb p.1 = none ∧ ∃ o, H p.1 = some o ∧ CellOk K Hb o p.2
  nd : (cs.map (·.1)).Nodup
  fz : ∀ l o, Fz l o → (Hb l = none ∨ Imm o) ∧ H l = some o
  ap : ∀ p ∈ cs, ∀ o, ¬ Fz p.1 o
section
variable {K : PySem.W.Frag} {Hb H : Hp} {Fz : Addr → HO → Prop} {ds : DS} {cs : CS} {σ : L2.St} {p l : Addr} {o : HO} {c c' : Cell} {sv : SV} {v : V}
theorem Ok.hbn (k : Ok K Hb Fz ds cs σ H) (h : H p = none) : Hb p = none := Same.free k.ex h
/-- a new thing that will not change -/
theorem Ok.new (k : Ok K Hb Fz ds cs σ H) (h : H p = none) : Ok K (upd Hb p o) Fz ds cs σ (upd H p o) where
  ex := same_upd2 k.ex (k.hbn h)
  len := k.len
  slot := fun i sv e => let ⟨v, h1, h2⟩ := k.slot i sv e; ⟨v, h1, h2.mono (same_upd (k.hbn h))⟩
  cell := fun q hq => by
    obtain ⟨h1, o', h2, h3⟩ := k.cell q hq
    have ne : q.1 ≠ p := ne_of_none h2 h
    exact ⟨by rw [upd_ne ne]; exact h1, o', by rw [upd_ne ne]; exact h2, h3.mono (same_upd (k.hbn h))⟩
  nd := k.nd
  fz := fun a o' z => by
    obtain ⟨h1, h2⟩ := k.fz a o' z
    have ne : a ≠ p := ne_of_none h2 h
    exact ⟨h1.imp_left fun h => by rw [upd_ne ne]; exact h, by rw [upd_ne ne]; exact h2⟩
  ap := k.ap
/-- a new cell -/
theorem Ok.newC (k : Ok K Hb Fz ds cs σ H) (h : H p = none) (hc : CellOk K Hb o c) : Ok K Hb Fz ds (cs ++ [(p, c)]) σ (upd H p o) where
  ex := same_mut k.ex (k.hbn h)
  len := k.len
  slot := k.slot
  cell := fun q hq => by
    rcases List.mem_append.mp hq with hq | hq
    · obtain ⟨h1, o', h2, h3⟩ := k.cell q hq
      exact ⟨h1, o', by rw [upd_ne (ne_of_none h2 h)]; exact h2, h3⟩
    · have e : q = (p, c) := by simpa using hq
      subst e
      exact ⟨k.hbn h, o, upd_same, hc⟩
  nd := by
    rw [List.map_append, List.nodup_append]
    refine ⟨k.nd, by simp, fun a ha b hb e => ?_⟩
    have hb' : b = p := by simpa using hb
    subst e hb'
    obtain ⟨q, hq, e⟩ := List.mem_map.mp ha
    obtain ⟨_, o', h2, _⟩ := k.cell q hq
    rw [e, h] at h2
    cases h2
  fz := fun a o' z => by
    obtain ⟨h1, h2⟩ := k.fz a o' z
    exact ⟨h1, by rw [upd_ne (ne_of_none h2 h)]; exact h2⟩
  ap := fun q hq => by
    rcases List.mem_append.mp hq with hq | hq
    · exact k.ap q hq
    · have e : q = (p, c) := by simpa using hq
      subst e
      intro o' z
      obtain ⟨_, h2⟩ := k.fz p o' z
      rw [h] at h2
      cases h2
theorem nodup_fst {cs : CS} (h : (cs.map (·.1)).Nodup) {i j : Nat} {a : Addr} {c c' : Cell} (e1 : cs[i]? = some (a, c)) (e2 : cs[j]? = some (a, c')) : i = j := by
  have f1 : (cs.map (·.1))[i]? = some a := by rw [List.getElem?_map, e1] <;> rfl
  have f2 : (cs.map (·.1))[j]? = some a := by rw [List.getElem?_map, e2] <;> rfl
  obtain ⟨h1, g1⟩ := List.getElem?_eq_some_iff.mp f1
  obtain ⟨h2, g2⟩ := List.getElem?_eq_some_iff.mp f2
  exact (List.getElem_inj h).mp (g1.trans g2.symm)
theorem map_set_fst {cs : CS} {j : Nat} {l : Addr} {c c' : Cell} (hj : cs[j]? = some (l, c)) : (cs.set j (l, c')).map (·.1) = cs.map (·.1) := by
  rw [List.map_set]
  refine List.ext_getElem? fun i => ?_
  rw [List.getElem?_set]
  split
  · rename_i e
    subst e
    split
    · rw [List.getElem?_map, hj]
      rfl
    · rename_i h
      rw [List.length_map] at h
      have := (List.getElem?_eq_some_iff.mp hj).1
      exact absurd this h
  · rfl
/-- a cell is written -/
theorem Ok.setC {j : Nat} (k : Ok K Hb Fz ds cs σ H) (hj : cs[j]? = some (l, c)) (hc : CellOk K Hb o c') : Ok K Hb Fz ds (cs.set j (l, c')) σ (upd H l o) where
  ex := same_mut k.ex (k.cell _ (List.mem_of_getElem? hj)).1
  len := k.len
  slot := k.slot
  cell := fun q hq => by
    obtain ⟨i, hi⟩ := List.mem_iff_getElem?.mp hq
    rw [List.getElem?_set] at hi
    split at hi
    · split at hi
      · cases hi
        exact ⟨(k.cell _ (List.mem_of_getElem? hj)).1, o, upd_same, hc⟩
      · cases hi
    · rename_i ne
      obtain ⟨h1, o', h2, h3⟩ := k.cell q (List.mem_of_getElem? hi)
      have nq : q.1 ≠ l := fun e => ne (nodup_fst k.nd hj (show cs[i]? = some (l, q.2) by rw [hi, ← e]))
      exact ⟨h1, o', by rw [upd_ne nq]; exact h2, h3⟩
  nd := by
    rw [map_set_fst hj]
    exact k.nd
  fz := fun a o' z => by
    obtain ⟨h1, h2⟩ := k.fz a o' z
    have ne : a ≠ l := fun e => by
      subst e
      exact k.ap _ (List.mem_of_getElem? hj) o' z
    exact ⟨h1, by rw [upd_ne ne]; exact h2⟩
  ap := fun q hq o' z => by
    obtain ⟨i, hi⟩ := List.mem_iff_getElem?.mp hq
    rw [List.getElem?_set] at hi
    split at hi
    · split at hi
      · cases hi
        exact k.ap _ (List.mem_of_getElem? hj) o' z
      · cases hi
    · exact k.ap q (List.mem_of_getElem? hi) o' z
/-- a slot is stored -/
theorem Ok.setS {i : Nat} (k : Ok K Hb Fz ds cs σ H) (r : RepS K Hb v sv) : Ok K Hb Fz (ds.set i (some sv)) cs (σ.set i (some v)) H where
  ex := k.ex
  len := by rw [List.length_set, List.length_set, k.len]
  slot := fun j sv' e => by
    rw [List.getElem?_set] at e
    split at e
    · rename_i eij
      subst eij
      split at e
      · rename_i hi
        cases e
        exact ⟨v, by rw [List.getElem?_set_self (by rw [k.len]; exact hi)], r⟩
      · cases e
    · rename_i ne
      obtain ⟨w, h1, h2⟩ := k.slot j sv' e
      exact ⟨w, by rw [List.getElem?_set_ne ne]; exact h1, h2⟩
  cell := k.cell
  nd := k.nd
  fz := k.fz
  ap := k.ap
/-- slots are forgotten -/
theorem Ok.weak {ds' : DS} (k : Ok K Hb Fz ds cs σ H) (hl : ds'.length = ds.length) (h : ∀ (i : Nat) (sv : SV), ds'[i]? = some (some sv) → ds[i]? = some (some sv)) : Ok K Hb Fz ds' cs σ H :=
  ⟨k.ex, k.len.trans hl.symm, fun i sv e => k.slot i sv (h i sv e), k.cell, k.nd, k.fz, k.ap⟩
/-- cells are dropped -/
theorem Ok.sub {cs' : CS} (k : Ok K Hb Fz ds cs σ H) (h : cs'.Sublist cs) : Ok K Hb Fz ds cs' σ H :=
  ⟨k.ex, k.len, k.slot, fun p hp => k.cell p (h.subset hp), (h.map _).nodup k.nd, k.fz, fun p hp => k.ap p (h.subset hp)⟩
/-- a cell that will not change any more becomes data -/
theorem Ok.freeze {j : Nat} {xs : List PyData} (k : Ok K Hb Fz ds cs σ H) (hj : cs[j]? = some (l, .lst xs)) :
    ∃ Hb', Same Hb Hb' ∧ Ok K Hb' Fz ds (cs.eraseIdx j) σ H ∧ Dp K Hb' (.ref l) (.list xs) := by
  obtain ⟨h1, o', h2, h3⟩ := k.cell _ (List.mem_of_getElem? hj)
  obtain ⟨vs, rfl, h3⟩ := h3.lst
  have sm : Same Hb (upd Hb l (.lst vs)) := same_upd h1
  have hsub : (cs.eraseIdx j).Sublist cs := List.eraseIdx_sublist _ _
  have hnd : ∀ q ∈ cs.eraseIdx j, q.1 ≠ l := fun q hq e => by
    have h4 : (cs.eraseIdx j).map (·.1) = (cs.map (·.1)).eraseIdx j := by
      apply List.ext_getElem?
      intro i
      rw [List.getElem?_map, List.getElem?_eraseIdx, List.getElem?_eraseIdx]
      split <;> rw [List.getElem?_map]
    obtain ⟨i, hi⟩ := List.mem_iff_getElem?.mp hq
    rw [List.getElem?_eraseIdx] at hi
    split at hi
    · rename_i lt
      have := nodup_fst k.nd hj (show cs[i]? = some (l, q.2) by rw [hi, ← e])
      omega
    · rename_i ge
      have := nodup_fst k.nd hj (show cs[i + 1]? = some (l, q.2) by rw [hi, ← e])
      omega
  refine ⟨upd Hb l (.lst vs), sm, ⟨?_, k.len, fun i sv e => ?_, fun q hq => ?_, (hsub.map _).nodup k.nd, fun a o' z => ?_, fun q hq => k.ap q (hsub.subset hq)⟩, .lst (.inl (.inl upd_same)) (dpAll_mono sm h3)⟩
  · intro a x e
    by_cases ha : a = l
    · subst ha
      rw [upd_same] at e
      cases e
      exact h2
    · rw [upd_ne ha] at e
      exact k.ex _ _ e
  · obtain ⟨v, e1, e2⟩ := k.slot i sv e
    exact ⟨v, e1, e2.mono sm⟩
  · obtain ⟨e1, o', e2, e3⟩ := k.cell q (hsub.subset hq)
    exact ⟨by rw [upd_ne (hnd q hq)]; exact e1, o', e2, e3.mono sm⟩
  · obtain ⟨e1, e2⟩ := k.fz a o' z
    have ne : a ≠ l := fun e => by
      subst e
      exact k.ap _ (List.mem_of_getElem? hj) o' z
    exact ⟨e1.imp_left fun h => by rw [upd_ne ne]; exact h, e2⟩
/-- tuples that stand in the heap become known -/
theorem Ok.adopt (k : Ok K Hb Fz ds cs σ H) (L : List Addr) (h : ∀ a ∈ L, ∃ xs, H a = some (.tup xs)) :
    ∃ Hb', Same Hb Hb' ∧ Ok K Hb' Fz ds cs σ H ∧ ∀ a ∈ L, Hb' a = H a := by
  have e1 : ∀ a, a ∈ L → (fun a => if a ∈ L then H a else Hb a) a = H a := fun a ha => if_pos ha
  have e2 : ∀ a, a ∉ L → (fun a => if a ∈ L then H a else Hb a) a = Hb a := fun a ha => if_neg ha
  have sm : Same Hb (fun a => if a ∈ L then H a else Hb a) := fun a u e => by
    by_cases ha : a ∈ L
    · show (fun a => if a ∈ L then H a else Hb a) a = some u
      rw [e1 a ha]
      exact k.ex _ _ e
    · show (fun a => if a ∈ L then H a else Hb a) a = some u
      rw [e2 a ha]
      exact e
  refine ⟨_, sm, ⟨fun a u e => ?_, k.len, fun i sv e => let ⟨v, h1, h2⟩ := k.slot i sv e; ⟨v, h1, h2.mono sm⟩, fun p hp => ?_, k.nd, fun l o z => ?_, k.ap⟩, e1⟩
  · by_cases ha : a ∈ L
    · rw [← e1 a ha]
      exact e
    · have e' : (fun a => if a ∈ L then H a else Hb a) a = some u := e
      rw [e2 a ha] at e'
      exact k.ex _ _ e'
  · obtain ⟨h1, o, h2, h3⟩ := k.cell p hp
    have hn : p.1 ∉ L := fun ha => by
      obtain ⟨xs, hx⟩ := h _ ha
      rw [h2] at hx
      cases hx
      exact h3.mut ⟨xs, rfl⟩
    exact ⟨(e2 _ hn).trans h1, o, h2, h3.mono sm⟩
  · obtain ⟨h1, h2⟩ := k.fz l o z
    refine ⟨?_, h2⟩
    by_cases ha : l ∈ L
    · obtain ⟨xs, hx⟩ := h _ ha
      rw [h2] at hx
      cases hx
      exact .inr ⟨xs, rfl⟩
    · exact h1.imp_left fun z => (e2 _ ha).trans z
/-- one more thing is known to stand still -/
theorem Ok.fzMore (k : Ok K Hb Fz ds cs σ H) {D : Addr} {u : HO} (h1 : Hb D = none) (h2 : H D = some u) (h3 : ∀ p ∈ cs, p.1 ≠ D) : Ok K Hb (fun l o => Fz l o ∨ (l = D ∧ o = u)) ds cs σ H :=
  ⟨k.ex, k.len, k.slot, k.cell, k.nd, fun l o z => by
    rcases z with z | ⟨rfl, rfl⟩
    · exact k.fz l o z
    · exact ⟨.inl h1, h2⟩, fun p hp o z => by
    rcases z with z | ⟨e, _⟩
    · exact k.ap p hp o z
    · exact h3 p hp e⟩
theorem Ok.fzLess (k : Ok K Hb Fz ds cs σ H) {Fz' : Addr → HO → Prop} (h : ∀ l o, Fz' l o → Fz l o) : Ok K Hb Fz' ds cs σ H :=
  ⟨k.ex, k.len, k.slot, k.cell, k.nd, fun l o z => k.fz l o (h l o z), fun p hp o z => k.ap p hp o (h _ o z)⟩
end

/-! ### judgements -/
def WE (K : PySem.W.Frag) (te : TE) (ds : DS) (cs : CS) (Φ : SV → CS → Prop) : Prop :=
  ∀ Hb Fz σ H, Ok K Hb Fz ds cs σ H → ∀ Q : VK, (∀ v sv cs' Hb' H', Φ sv cs' → Same Hb Hb' → Ok K Hb' Fz ds cs' σ H' → RepS K Hb' v sv → Q v H') → te σ H Q
def WT (K : PySem.W.Frag) (tt : TT) (ds : DS) (cs : CS) (Φ : Bool → CS → Prop) : Prop :=
  ∀ Hb Fz σ H, Ok K Hb Fz ds cs σ H → ∀ Q : Bool → Hp → Prop, (∀ b cs' Hb' H', Φ b cs' → Same Hb Hb' → Ok K Hb' Fz ds cs' σ H' → Q b H') → tt σ H Q
/-- values that stand for a row of states' values -/
inductive RepAll (K : PySem.W.Frag) (Hb : Hp) : List V → List SV → Prop
  | nil : RepAll K Hb [] []
  | cons {v : V} {sv : SV} {vs : List V} {svs : List SV} : RepS K Hb v sv → RepAll K Hb vs svs → RepAll K Hb (v :: vs) (sv :: svs)
theorem RepAll.mono {K : PySem.W.Frag} {H H' : Hp} (e : Same H H') : ∀ {vs : List V} {svs : List SV}, RepAll K H vs svs → RepAll K H' vs svs
  | _, _, .nil => .nil
  | _, _, .cons h t => .cons (h.mono e) (RepAll.mono e t)
theorem RepAll.len {K : PySem.W.Frag} {H : Hp} : ∀ {vs : List V} {svs : List SV}, RepAll K H vs svs → vs.length = svs.length
  | _, _, .nil => rfl
  | _, _, .cons _ t => by rw [List.length_cons, List.length_cons, RepAll.len t]
theorem RepAll.dp {K : PySem.W.Frag} {H : Hp} : ∀ {vs : List V} {ds : List PyData}, RepAll K H vs (ds.map .im) → DpAll K H vs ds
  | _, [], h => by
    cases h
    exact .nil
  | _, d :: ds, h => by
    cases h with
    | cons h t => exact .cons h (RepAll.dp t)
def WA (K : PySem.W.Frag) (ta : TA) (ds : DS) (cs : CS) (Φ : List SV → CS → Prop) : Prop :=
  ∀ Hb Fz σ H, Ok K Hb Fz ds cs σ H → ∀ Q : List V → Hp → Prop, (∀ vs svs cs' Hb' H', Φ svs cs' → Same Hb Hb' → Ok K Hb' Fz ds cs' σ H' → RepAll K Hb' vs svs → Q vs H') → ta σ H Q
def WG (K : PySem.W.Frag) (g : TG) (sv : SV) (ds : DS) (cs : CS) (Ξ : DS → CS → Prop) : Prop :=
  ∀ Hb Fz σ H, Ok K Hb Fz ds cs σ H → ∀ v, RepS K Hb v sv → ∀ Q : L2.St → Hp → Prop, (∀ ds' cs' σ' H' Hb', Ξ ds' cs' → Same Hb Hb' → Ok K Hb' Fz ds' cs' σ' H' → Q σ' H') → g v σ H Q
/-- the yields of an iterator, as data -/
def Ylds (K : PySem.W.Frag) (J : It) (Hb : Hp) (xs : List PyData) : Prop :=
  ∀ i H, Same Hb H → (∀ x, xs[i]? = some x → J.go i H ∧ ∀ v H', J.yld i H v H' → (H' = H ∧ Dp K Hb v x) ∨ (∃ T o, H T = none ∧ H' = upd H T o ∧ Dp K (upd Hb T o) v x)) ∧ (xs.length ≤ i → J.stop i H)
def WI (K : PySem.W.Frag) (wi : TI) (ds : DS) (cs : CS) (Ψ : List PyData → CS → Prop) : Prop :=
  ∀ Hb Fz σ H, Ok K Hb Fz ds cs σ H → ∀ R : It → Hp → Prop, (∀ J xs cs' Hb' H', Ψ xs cs' → Same Hb Hb' → Ok K Hb' Fz ds cs' σ H' → Ylds K J Hb' xs → R J H') → wi σ H R
structure Post where
  nx : DS → CS → Prop
  rt : SV → CS → Prop
  bk : DS → CS → Prop := fun _ _ => False
  ct : DS → CS → Prop := fun _ _ => False
structure EndsOk (K : PySem.W.Frag) (Hb : Hp) (Fz : Addr → HO → Prop) (P : Post) (D : Ends) : Prop where
  nx : ∀ ds' cs' σ' H' Hb', P.nx ds' cs' → Same Hb Hb' → Ok K Hb' Fz ds' cs' σ' H' → D.nx σ' H'
  rt : ∀ v sv ds' cs' σ' H' Hb', P.rt sv cs' → Same Hb Hb' → Ok K Hb' Fz ds' cs' σ' H' → RepS K Hb' v sv → D.rt v H'
  bk : ∀ ds' cs' σ' H' Hb', P.bk ds' cs' → Same Hb Hb' → Ok K Hb' Fz ds' cs' σ' H' → D.bk σ' H'
  ct : ∀ ds' cs' σ' H' Hb', P.ct ds' cs' → Same Hb Hb' → Ok K Hb' Fz ds' cs' σ' H' → D.ct σ' H'
theorem EndsOk.mono {K : PySem.W.Frag} {Hb Hb' : Hp} {Fz : Addr → HO → Prop} {P : Post} {D : Ends} (e : EndsOk K Hb Fz P D) (s : Same Hb Hb') : EndsOk K Hb' Fz P D :=
  ⟨fun a b c d f h q => e.nx a b c d f h (s.trans q), fun a b c d f g i h q => e.rt a b c d f g i h (s.trans q), fun a b c d f h q => e.bk a b c d f h (s.trans q), fun a b c d f h q => e.ct a b c d f h (s.trans q)⟩
def WS (K : PySem.W.Frag) (t : TS) (ds : DS) (cs : CS) (P : Post) : Prop :=
  ∀ Hb Fz σ H, Ok K Hb Fz ds cs σ H → ∀ D : Ends, EndsOk K Hb Fz P D → t D σ H

/-! ### expressions -/
section
variable {K : PySem.W.Frag} {ds : DS} {cs : CS} {Φ : SV → CS → Prop} {ta tb te : TE}
theorem we_imp {Φ' : SV → CS → Prop} (h : WE K te ds cs Φ) (q : ∀ sv cs', Φ sv cs' → Φ' sv cs') : WE K te ds cs Φ' := fun Hb Fz σ H k Q z => h Hb Fz σ H k Q fun v sv cs' Hb' H' f => z v sv cs' Hb' H' (q _ _ f)
theorem we_var {i : Nat} {sv : SV} (h : ds[i]? = some (some sv)) (q : Φ sv cs) : WE K (tVar i) ds cs Φ := fun Hb Fz σ H k Q z => by
  obtain ⟨v, h1, h2⟩ := k.slot i sv h
  exact ⟨v, h1, z v sv cs Hb H q (Same.refl _) k h2⟩
theorem we_int {n : Int} (q : Φ (iN n) cs) : WE K (tC (.int n)) ds cs Φ := fun Hb Fz σ H k Q z => z _ _ _ Hb H q (Same.refl _) k (.int n)
theorem we_bl {n : Bool} (q : Φ (bB n) cs) : WE K (tC (.bl n)) ds cs Φ := fun Hb Fz σ H k Q z => z _ _ _ Hb H q (Same.refl _) k (.bl n)
theorem we_str {n : Str} (q : Φ (.im (.str n)) cs) : WE K (tC (.str n)) ds cs Φ := fun Hb Fz σ H k Q z => z _ _ _ Hb H q (Same.refl _) k (.str n)
theorem we_non (q : Φ (.im .none) cs) : WE K (tC .non) ds cs Φ := fun Hb Fz σ H k Q z => z _ _ _ Hb H q (Same.refl _) k .non
theorem we_raw {v : V} (q : Φ (.raw v) cs) : WE K (tC v) ds cs Φ := fun Hb Fz σ H k Q z => z _ _ _ Hb H q (Same.refl _) k rfl
theorem we_con {v : V} {d : PyData} (h : ∀ H, Dp K H v d) (q : Φ (.im d) cs) : WE K (tC v) ds cs Φ := fun Hb Fz σ H k Q z => z _ _ _ Hb H q (Same.refl _) k (h Hb)
theorem rep_int {Hb : Hp} {i : Int} : RepS K Hb (.int i) (iN i) := Dp.int i
theorem rep_bl {Hb : Hp} {i : Bool} : RepS K Hb (.bl i) (bB i) := Dp.bl i
/-- an operator, by values -/
def WR (K : PySem.W.Frag) (r : R2) (x y : SV) (ds : DS) (cs : CS) (Φ : SV → CS → Prop) : Prop :=
  ∀ Hb Fz σ H, Ok K Hb Fz ds cs σ H → ∀ v w, RepS K Hb v x → RepS K Hb w y → ∀ Q : VK, (∀ v sv cs' Hb' H', Φ sv cs' → Same Hb Hb' → Ok K Hb' Fz ds cs' σ H' → RepS K Hb' v sv → Q v H') → r v w H Q
theorem we_op {r : R2} (h : WE K ta ds cs fun x cs1 => WE K tb ds cs1 fun y cs2 => WR K r x y ds cs2 Φ) : WE K (tOp r ta tb) ds cs Φ := fun Hb Fz σ H k Q z => by
  refine h Hb Fz σ H k _ fun v x cs1 Hb1 H1 h1 s1 k1 r1 => ?_
  refine h1 Hb1 Fz σ H1 k1 _ fun w y cs2 Hb2 H2 h2 s2 k2 r2 => ?_
  exact h2 Hb2 Fz σ H2 k2 v w (r1.mono s2) r2 Q fun v' sv cs' Hb' H' f s3 k3 r3 => z v' sv cs' Hb' H' f ((s1.trans s2).trans s3) k3 r3
theorem wr_I0 {g : Int → Int → V} {i j : Int} {sv : SV} (hg : ∀ Hb, RepS K Hb (g i j) sv) (q : Φ sv cs) : WR K (rI0 g) (iN i) (iN j) ds cs Φ := fun Hb Fz σ H k v w r1 r2 Q z => by
  cases r1
  cases r2
  exact ⟨i, j, rfl, rfl, z _ sv cs Hb H q (Same.refl _) k (hg Hb)⟩
theorem wr_add {i j : Int} (q : Φ (iN (i + j)) cs) : WR K (rI0 fun i j => .int (i + j)) (iN i) (iN j) ds cs Φ := wr_I0 (sv := iN _) (fun _ => rep_int) q
theorem wr_sub {i j : Int} (q : Φ (iN (i - j)) cs) : WR K (rI0 fun i j => .int (i - j)) (iN i) (iN j) ds cs Φ := wr_I0 (sv := iN _) (fun _ => rep_int) q
theorem wr_lt {i j : Int} (q : Φ (bB (decide (i < j))) cs) : WR K (rI0 fun i j => .bl (decide (i < j))) (iN i) (iN j) ds cs Φ := wr_I0 (sv := bB _) (fun _ => rep_bl) q
theorem wr_le {i j : Int} (q : Φ (bB (decide (i ≤ j))) cs) : WR K (rI0 fun i j => .bl (decide (i ≤ j))) (iN i) (iN j) ds cs Φ := wr_I0 (sv := bB _) (fun _ => rep_bl) q
theorem wr_gt {i j : Int} (q : Φ (bB (decide (j < i))) cs) : WR K (rI0 fun i j => .bl (decide (j < i))) (iN i) (iN j) ds cs Φ := wr_I0 (sv := bB _) (fun _ => rep_bl) q
theorem wr_I {C : Int → Int → Prop} {g : Int → Int → V} {i j : Int} {sv : SV} (hc : C i j) (hg : ∀ Hb, RepS K Hb (g i j) sv) (q : Φ sv cs) : WR K (rI C g) (iN i) (iN j) ds cs Φ := fun Hb Fz σ H k v w r1 r2 Q z => by
  cases r1
  cases r2
  exact ⟨i, j, rfl, rfl, hc, z _ sv cs Hb H q (Same.refl _) k (hg Hb)⟩
theorem wr_mul {i j : Int} (hc : CMul i j) (q : Φ (iN (i * j)) cs) : WR K (rI CMul fun i j => .int (i * j)) (iN i) (iN j) ds cs Φ := wr_I (sv := iN _) hc (fun _ => rep_int) q
theorem wr_mod {i j : Int} (hc : 0 < j) (q : Φ (iN (i % j)) cs) : WR K (rI (fun _ j => 0 < j) fun i j => .int (i % j)) (iN i) (iN j) ds cs Φ := wr_I (sv := iN _) hc (fun _ => rep_int) q
theorem wr_fdiv {i j : Int} (hc : CDiv i j) (q : Φ (iN (i / j)) cs) : WR K (rI CDiv fun i j => .int (i / j)) (iN i) (iN j) ds cs Φ := wr_I (sv := iN _) hc (fun _ => rep_int) q
theorem wr_fdivW {i j : Int} (hc : CDivW i j) (q : Φ (iN (i / j)) cs) : WR K (rI CDivW fun i j => .int (i / j)) (iN i) (iN j) ds cs Φ := wr_I (sv := iN _) hc (fun _ => rep_int) q
theorem wr_mulW {i j : Int} (hc : CMulW i j) (q : Φ (iN (i * j)) cs) : WR K (rI CMulW fun i j => .int (i * j)) (iN i) (iN j) ds cs Φ := wr_I (sv := iN _) hc (fun _ => rep_int) q
theorem wr_pow {i j : Int} (hc : CPow i j) (q : Φ (iN (i ^ j.toNat)) cs) : WR K (rI CPow fun i j => .int (i ^ j.toNat)) (iN i) (iN j) ds cs Φ := wr_I (sv := iN _) hc (fun _ => rep_int) q
theorem dec_vint {i j : Int} : decide (V.int i = V.int j) = decide (i = j) := by
  by_cases h : i = j
  · subst h
    simp
  · rw [decide_eq_false h, decide_eq_false fun e => h (V.int.inj e)]
theorem dec_vbl {i j : Bool} : decide (V.bl i = V.bl j) = decide (i = j) := by
  by_cases h : i = j
  · subst h
    simp
  · rw [decide_eq_false h, decide_eq_false fun e => h (V.bl.inj e)]
theorem dec_vstr {i j : Str} : decide (V.str i = V.str j) = decide (i = j) := by
  by_cases h : i = j
  · subst h
    simp
  · rw [decide_eq_false h, decide_eq_false fun e => h (V.str.inj e)]
theorem wr_eqI {i j : Int} (q : Φ (bB (decide (i = j))) cs) : WR K rEq (iN i) (iN j) ds cs Φ := fun Hb Fz σ H k v w r1 r2 Q z => by
  cases r1
  cases r2
  refine ⟨rfl, ?_⟩
  rw [dec_vint]
  exact z _ _ cs Hb H q (Same.refl _) k (.bl _)
theorem wr_eqB {i j : Bool} (q : Φ (bB (decide (i = j))) cs) : WR K rEq (bB i) (bB j) ds cs Φ := fun Hb Fz σ H k v w r1 r2 Q z => by
  cases r1
  cases r2
  refine ⟨rfl, ?_⟩
  rw [dec_vbl]
  exact z _ _ cs Hb H q (Same.refl _) k (.bl _)
theorem wr_eqS {i j : Str} (q : Φ (bB (decide (i = j))) cs) : WR K rEq (.im (.str i)) (.im (.str j)) ds cs Φ := fun Hb Fz σ H k v w r1 r2 Q z => by
  cases r1
  cases r2
  refine ⟨rfl, ?_⟩
  rw [dec_vstr]
  exact z _ _ cs Hb H q (Same.refl _) k (.bl _)
theorem dp_tup_inv {H : Hp} {v : V} {es : List PyData} (h : Dp K H v (.tuple es)) : ∃ a xs, v = .ref a ∧ SqT K H a xs ∧ DpAll K H xs es := by
  cases h with
  | tup hs ha => exact ⟨_, _, rfl, hs, ha⟩
theorem dp_lst_inv {H : Hp} {v : V} {es : List PyData} (h : Dp K H v (.list es)) : ∃ a xs, v = .ref a ∧ SqL K H a xs ∧ DpAll K H xs es := by
  cases h with
  | lst hs ha => exact ⟨_, _, rfl, hs, ha⟩
theorem atI_dp {H : Hp} {vs : List V} {es : List PyData} {i : Int} {d : PyData} (h : DpAll K H vs es) (e : atI es i = some d) : ∃ v, atI vs i = some v ∧ Dp K H v d := by
  unfold atI at e ⊢
  rw [h.len]
  cases q : ixN es.length i with
  | none =>
    rw [q] at e
    cases e
  | some j =>
    rw [q] at e
    exact h.get e
/-- t[i] -/
theorem wr_ixT {es : List PyData} {i : Int} {d : PyData} (e : atI es i = some d) (q : Φ (.im d) cs) : WR K (rIxT K) (.im (.tuple es)) (iN i) ds cs Φ := fun Hb Fz σ H k v w r1 r2 Q z => by
  obtain ⟨a, xs, rfl, hs, ha⟩ := dp_tup_inv r1
  cases r2
  obtain ⟨v', e1, e2⟩ := atI_dp ha e
  exact ⟨a, xs, i, v', rfl, rfl, sqT_same k.ex hs, e1, z v' _ cs Hb H q (Same.refl _) k e2⟩
/-- l[i], l data -/
theorem wr_ixLd {es : List PyData} {i : Int} {d : PyData} (e : atI es i = some d) (q : Φ (.im d) cs) : WR K (rIxL K) (.im (.list es)) (iN i) ds cs Φ := fun Hb Fz σ H k v w r1 r2 Q z => by
  obtain ⟨a, xs, rfl, hs, ha⟩ := dp_lst_inv r1
  cases r2
  obtain ⟨v', e1, e2⟩ := atI_dp ha e
  exact ⟨a, xs, i, v', rfl, rfl, k.ex.seq hs, e1, z v' _ cs Hb H q (Same.refl _) k e2⟩
/-- l[i], l a cell -/
theorem wr_ixLc {j : Nat} {l : Addr} {es : List PyData} {i : Int} {d : PyData} (hj : cs[j]? = some (l, .lst es)) (e : atI es i = some d) (q : Φ (.im d) cs) : WR K (rIxL K) (.raw (.ref l)) (iN i) ds cs Φ := fun Hb Fz σ H k v w r1 r2 Q z => by
  cases r1
  cases r2
  obtain ⟨_, o, h1, h2⟩ := k.cell _ (List.mem_of_getElem? hj)
  obtain ⟨vs, rfl, h2⟩ := h2.lst
  obtain ⟨v', e1, e2⟩ := atI_dp h2 e
  exact ⟨l, vs, i, v', rfl, rfl, SqL.of h1, e1, z v' _ cs Hb H q (Same.refl _) k e2⟩
theorem wr_eqD {d e : PyData} (h1 : SeqAt.shaped d = true) (h2 : SeqAt.shaped e = true) (q : Φ (bB (PyData.eqv d e)) cs) : WR K (rEqD K) (.im d) (.im e) ds cs Φ := fun Hb Fz σ H k v w r1 r2 Q z =>
  ⟨d, e, dp_mono k.ex r1, dp_mono k.ex r2, h1, h2, z _ _ cs Hb H q (Same.refl _) k (.bl _)⟩
theorem wr_neD {d e : PyData} (h1 : SeqAt.shaped d = true) (h2 : SeqAt.shaped e = true) (q : Φ (bB (!PyData.eqv d e)) cs) : WR K (rNeD K) (.im d) (.im e) ds cs Φ := fun Hb Fz σ H k v w r1 r2 Q z =>
  ⟨d, e, dp_mono k.ex r1, dp_mono k.ex r2, h1, h2, z _ _ cs Hb H q (Same.refl _) k (.bl _)⟩
/-- a cell against data -/
theorem wr_neDc {j : Nat} {l : Addr} {xs : List PyData} {e : PyData} (hj : cs[j]? = some (l, .lst xs)) (h1 : SeqAt.shaped (.list xs) = true) (h2 : SeqAt.shaped e = true) (q : Φ (bB (!PyData.eqv (.list xs) e)) cs) : WR K (rNeD K) (.raw (.ref l)) (.im e) ds cs Φ := fun Hb Fz σ H k v w r1 r2 Q z => by
  cases r1
  obtain ⟨_, o, g1, g2⟩ := k.cell _ (List.mem_of_getElem? hj)
  obtain ⟨vs, rfl, g2⟩ := g2.lst
  exact ⟨.list xs, e, .lst (SqL.of g1) (dpAll_mono k.ex g2), dp_mono k.ex r2, h1, h2, z _ _ cs Hb H q (Same.refl _) k (.bl _)⟩
/-- a new list: as data, or as a cell -/
def NewL (xs : List PyData) (cs : CS) (Φ : SV → CS → Prop) : Prop := Φ (.im (.list xs)) cs ∨ ∀ l, Φ (.raw (.ref l)) (cs ++ [(l, .lst xs)])
theorem new_list {Hb H : Hp} {Fz : Addr → HO → Prop} {σ : L2.St} {p : Addr} {vs : List V} {xs : List PyData} {Q : VK} (k : Ok K Hb Fz ds cs σ H) (hp : H p = none) (hv : DpAll K Hb vs xs) (q : NewL xs cs Φ)
    (z : ∀ v sv cs' Hb' H', Φ sv cs' → Same Hb Hb' → Ok K Hb' Fz ds cs' σ H' → RepS K Hb' v sv → Q v H') : Q (.ref p) (upd H p (.lst vs)) := by
  rcases q with q | q
  · have sm := same_upd (o := .lst vs) (k.hbn hp)
    exact z _ _ cs _ _ q sm (k.new hp) (.lst (.inl (.inl upd_same)) (dpAll_mono sm hv))
  · exact z _ _ _ Hb _ (q p) (Same.refl _) (k.newC (c := .lst xs) hp hv) rfl
theorem new_tup {Hb H : Hp} {Fz : Addr → HO → Prop} {σ : L2.St} {p : Addr} {vs : List V} {xs : List PyData} {Q : VK} (k : Ok K Hb Fz ds cs σ H) (hp : H p = none) (hv : DpAll K Hb vs xs) (q : Φ (.im (.tuple xs)) cs)
    (z : ∀ v sv cs' Hb' H', Φ sv cs' → Same Hb Hb' → Ok K Hb' Fz ds cs' σ H' → RepS K Hb' v sv → Q v H') : Q (.ref p) (upd H p (.tup vs)) := by
  have sm := same_upd (o := .tup vs) (k.hbn hp)
  exact z _ _ cs _ _ q sm (k.new hp) (.tup (.inl (.inl upd_same)) (dpAll_mono sm hv))
theorem Ok.lcell {Hb H : Hp} {Fz : Addr → HO → Prop} {σ : L2.St} {l : Addr} {j : Nat} {xs : List PyData} (k : Ok K Hb Fz ds cs σ H) (hj : cs[j]? = some (l, .lst xs)) : ∃ vs, H l = some (.lst vs) ∧ DpAll K Hb vs xs := by
  obtain ⟨_, o, h1, h2⟩ := k.cell _ (List.mem_of_getElem? hj)
  obtain ⟨vs, rfl, h2⟩ := h2.lst
  exact ⟨vs, h1, h2⟩
theorem small6 {n : Nat} (h : n ≤ 1000000) : n ≤ sizeLine := Nat.le_trans h (by decide)
theorem small6l {n : Nat} (h : n ≤ 1000000) : n < sizeLine := Nat.lt_of_le_of_lt h (by decide)
/-- l + m of two cells -/
theorem wr_cat {i j : Nat} {l m : Addr} {xs ys : List PyData} (hi : cs[i]? = some (l, .lst xs)) (hj : cs[j]? = some (m, .lst ys)) (hz : xs.length + ys.length ≤ 1000000) (q : NewL (xs ++ ys) cs Φ) :
    WR K rCat (.raw (.ref l)) (.raw (.ref m)) ds cs Φ := fun Hb Fz σ H k v w r1 r2 Q z => by
  cases r1
  cases r2
  obtain ⟨vs, h1, h2⟩ := k.lcell hi
  obtain ⟨ws, g1, g2⟩ := k.lcell hj
  refine ⟨l, m, vs, ws, rfl, rfl, h1, g1, ?_, fun p hp => new_list k hp (h2.app g2) q z⟩
  rw [h2.len, g2.len]
  exact small6 hz
theorem we_un {r : V → Hp → VK → Prop} (h : WE K ta ds cs fun x cs1 => ∀ Hb Fz σ H, Ok K Hb Fz ds cs1 σ H → ∀ v, RepS K Hb v x → ∀ Q : VK, (∀ v sv cs' Hb' H', Φ sv cs' → Same Hb Hb' → Ok K Hb' Fz ds cs' σ H' → RepS K Hb' v sv → Q v H') → r v H Q) : WE K (tUn r ta) ds cs Φ := fun Hb Fz σ H k Q z => by
  refine h Hb Fz σ H k _ fun v x cs1 Hb1 H1 h1 s1 k1 r1 => ?_
  exact h1 Hb1 Fz σ H1 k1 v r1 Q fun v' sv cs' Hb' H' f s3 k3 r3 => z v' sv cs' Hb' H' f (s1.trans s3) k3 r3
theorem we_neg (h : WE K ta ds cs fun x cs1 => ∃ i, x = iN i ∧ Φ (iN (-i)) cs1) : WE K (tUn (rU fun i => .int (-i)) ta) ds cs Φ := we_un (we_imp h fun x cs1 ⟨i, e, q⟩ Hb Fz σ H k v r Q z => by
  subst e
  cases r
  exact ⟨i, rfl, z _ _ cs1 Hb H q (Same.refl _) k (.int _)⟩)
theorem we_chain {r r' : R2} {tc : TE} (h : WE K ta ds cs fun x cs1 => WE K tb ds cs1 fun y cs2 => WR K r x y ds cs2 fun z cs3 => ∃ b, z = bB b ∧ (b = true → WE K tc ds cs3 fun w cs4 => WR K r' y w ds cs4 Φ) ∧ (b = false → Φ (bB false) cs3)) : WE K (tChain r r' ta tb tc) ds cs Φ := fun Hb Fz σ H k Q z => by
  refine h Hb Fz σ H k _ fun v x cs1 Hb1 H1 h1 s1 k1 r1 => ?_
  refine h1 Hb1 Fz σ H1 k1 _ fun w y cs2 Hb2 H2 h2 s2 k2 r2 => ?_
  refine h2 Hb2 Fz σ H2 k2 v w (r1.mono s2) r2 _ fun v' sv cs' Hb3 H3 f s3 k3 r3 => ?_
  obtain ⟨b, rfl, q1, q2⟩ := f
  cases r3
  refine ⟨b, rfl, ?_⟩
  cases b with
  | true =>
    rw [if_pos rfl]
    refine q1 rfl Hb3 Fz σ H3 k3 _ fun u c cs4 Hb4 H4 h4 s4 k4 r4 => ?_
    exact h4 Hb4 Fz σ H4 k4 w u (r2.mono (s3.trans s4)) r4 Q fun v' sv cs' Hb' H' f s5 k5 r5 => z v' sv cs' Hb' H' f ((((s1.trans s2).trans s3).trans s4).trans s5) k5 r5
  | false =>
    rw [if_neg Bool.false_ne_true]
    exact z _ _ cs' Hb3 H3 (q2 rfl) ((s1.trans s2).trans s3) k3 (.bl _)
theorem we_and (h : WE K ta ds cs fun x cs1 => ∃ b, x = bB b ∧ (b = true → WE K tb ds cs1 Φ) ∧ (b = false → Φ (bB false) cs1)) : WE K (tAndV ta tb) ds cs Φ := fun Hb Fz σ H k Q z => by
  refine h Hb Fz σ H k _ fun v x cs1 Hb1 H1 h1 s1 k1 r1 => ?_
  obtain ⟨b, rfl, q1, q2⟩ := h1
  cases r1
  refine ⟨b, rfl, ?_⟩
  cases b with
  | true =>
    rw [if_pos rfl]
    exact q1 rfl Hb1 Fz σ H1 k1 Q fun v' sv cs' Hb' H' f s3 k3 r3 => z v' sv cs' Hb' H' f (s1.trans s3) k3 r3
  | false =>
    rw [if_neg Bool.false_ne_true]
    exact z _ _ cs1 Hb1 H1 (q2 rfl) s1 k1 (.bl _)
theorem we_or (h : WE K ta ds cs fun x cs1 => ∃ b, x = bB b ∧ (b = false → WE K tb ds cs1 Φ) ∧ (b = true → Φ (bB true) cs1)) : WE K (tOrV ta tb) ds cs Φ := fun Hb Fz σ H k Q z => by
  refine h Hb Fz σ H k _ fun v x cs1 Hb1 H1 h1 s1 k1 r1 => ?_
  obtain ⟨b, rfl, q1, q2⟩ := h1
  cases r1
  refine ⟨b, rfl, ?_⟩
  cases b with
  | false =>
    rw [if_neg Bool.false_ne_true]
    exact q1 rfl Hb1 Fz σ H1 k1 Q fun v' sv cs' Hb' H' f s3 k3 r3 => z v' sv cs' Hb' H' f (s1.trans s3) k3 r3
  | true =>
    rw [if_pos rfl]
    exact z _ _ cs1 Hb1 H1 (q2 rfl) s1 k1 (.bl _)
theorem we_not (h : WE K ta ds cs fun x cs1 => ∃ b, x = bB b ∧ Φ (bB (!b)) cs1) : WE K (tNotV ta) ds cs Φ := fun Hb Fz σ H k Q z => by
  refine h Hb Fz σ H k _ fun v x cs1 Hb1 H1 h1 s1 k1 r1 => ?_
  obtain ⟨b, rfl, q⟩ := h1
  cases r1
  exact ⟨b, rfl, z _ _ cs1 Hb1 H1 q s1 k1 (.bl _)⟩
theorem we_if {t : TT} (h : WT K t ds cs fun b cs1 => (b = true → WE K ta ds cs1 Φ) ∧ (b = false → WE K tb ds cs1 Φ)) : WE K (tIf t ta tb) ds cs Φ := fun Hb Fz σ H k Q z => by
  refine h Hb Fz σ H k _ fun b cs1 Hb1 H1 h1 s1 k1 => ?_
  cases b with
  | true =>
    rw [if_pos rfl]
    exact h1.1 rfl Hb1 Fz σ H1 k1 Q fun v' sv cs' Hb' H' f s3 k3 r3 => z v' sv cs' Hb' H' f (s1.trans s3) k3 r3
  | false =>
    rw [if_neg Bool.false_ne_true]
    exact h1.2 rfl Hb1 Fz σ H1 k1 Q fun v' sv cs' Hb' H' f s3 k3 r3 => z v' sv cs' Hb' H' f (s1.trans s3) k3 r3
end
end Sw
set_option Elab.async false
set_option linter.all false
set_option maxRecDepth 100000
set_option maxHeartbeats 1000000
set_option autoImplicit false
namespace Sw
open PySem PySem.Spec PyProof.Rows L2

/-! ### tests -/
section
variable {K : PySem.W.Frag} {ds : DS} {cs : CS} {Φ : Bool → CS → Prop} {te : TE} {t u : TT}
theorem wt_imp {Φ' : Bool → CS → Prop} (h : WT K t ds cs Φ) (q : ∀ sv cs', Φ sv cs' → Φ' sv cs') : WT K t ds cs Φ' := fun Hb Fz σ H k Q z => h Hb Fz σ H k Q fun b cs' Hb' H' f => z b cs' Hb' H' (q _ _ f)
theorem wt_test (h : WE K te ds cs fun sv cs1 => ∃ b, sv = bB b ∧ Φ b cs1) : WT K (tTest te) ds cs Φ := fun Hb Fz σ H k Q z => by
  refine h Hb Fz σ H k _ fun v x cs1 Hb1 H1 h1 s1 k1 r1 => ?_
  obtain ⟨b, rfl, q⟩ := h1
  cases r1
  exact ⟨b, rfl, z b cs1 Hb1 H1 q s1 k1⟩
theorem wt_B (h : WE K te ds cs fun sv cs1 => ∃ b, sv = bB b ∧ Φ b cs1) : WT K (tB te) ds cs Φ := fun Hb Fz σ H k Q z => by
  refine h Hb Fz σ H k _ fun v x cs1 Hb1 H1 h1 s1 k1 r1 => ?_
  obtain ⟨b, rfl, q⟩ := h1
  cases r1
  exact ⟨b, rfl, z b cs1 Hb1 H1 q s1 k1⟩
theorem wt_and (h : WT K t ds cs fun b cs1 => (b = true → WT K u ds cs1 Φ) ∧ (b = false → Φ false cs1)) : WT K (tAnd t u) ds cs Φ := fun Hb Fz σ H k Q z => by
  refine h Hb Fz σ H k _ fun b cs1 Hb1 H1 h1 s1 k1 => ?_
  cases b with
  | true =>
    rw [if_pos rfl]
    exact h1.1 rfl Hb1 Fz σ H1 k1 Q fun b cs2 Hb2 H2 f s2 k2 => z b cs2 Hb2 H2 f (s1.trans s2) k2
  | false =>
    rw [if_neg Bool.false_ne_true]
    exact z _ cs1 Hb1 H1 (h1.2 rfl) s1 k1
theorem wt_or (h : WT K t ds cs fun b cs1 => (b = false → WT K u ds cs1 Φ) ∧ (b = true → Φ true cs1)) : WT K (tOr t u) ds cs Φ := fun Hb Fz σ H k Q z => by
  refine h Hb Fz σ H k _ fun b cs1 Hb1 H1 h1 s1 k1 => ?_
  cases b with
  | false =>
    rw [if_neg Bool.false_ne_true]
    exact h1.1 rfl Hb1 Fz σ H1 k1 Q fun b cs2 Hb2 H2 f s2 k2 => z b cs2 Hb2 H2 f (s1.trans s2) k2
  | true =>
    rw [if_pos rfl]
    exact z _ cs1 Hb1 H1 (h1.2 rfl) s1 k1
theorem wt_not (h : WT K t ds cs fun b cs1 => Φ (!b) cs1) : WT K (tNot t) ds cs Φ := fun Hb Fz σ H k Q z => h Hb Fz σ H k _ fun b cs1 Hb1 H1 h1 s1 k1 => z _ cs1 Hb1 H1 h1 s1 k1
theorem wt_yes (q : Φ true cs) : WT K tYes ds cs Φ := fun Hb Fz σ H k Q z => z _ cs Hb H q (Same.refl _) k
end

/-! ### argument lists, displays, calls -/
section
variable {K : PySem.W.Frag} {ds : DS} {cs : CS} {Φ : SV → CS → Prop} {te : TE} {ta : TA} {ΦA : List SV → CS → Prop}
theorem wa_nil (q : ΦA [] cs) : WA K tNil ds cs ΦA := fun Hb Fz σ H k Q z => z [] [] cs Hb H q (Same.refl _) k .nil
theorem wa_cons (h : WE K te ds cs fun x cs1 => WA K ta ds cs1 fun xs cs2 => ΦA (x :: xs) cs2) : WA K (tCons te ta) ds cs ΦA := fun Hb Fz σ H k Q z => by
  refine h Hb Fz σ H k _ fun v x cs1 Hb1 H1 h1 s1 k1 r1 => ?_
  refine h1 Hb1 Fz σ H1 k1 _ fun vs xs cs2 Hb2 H2 h2 s2 k2 r2 => ?_
  exact z _ _ cs2 Hb2 H2 h2 (s1.trans s2) k2 (.cons (r1.mono s2) r2)
def imAll : List SV → Option (List PyData)
  | [] => some []
  | .im d :: r => (imAll r).map (d :: ·)
  | _ => none
theorem imAll_eq : ∀ {svs : List SV} {es : List PyData}, imAll svs = some es → svs = es.map .im
  | [], es, h => by
    cases h
    rfl
  | .im d :: r, es, h => by
    unfold imAll at h
    cases q : imAll r with
    | none =>
      rw [q] at h
      cases h
    | some es' =>
      rw [q] at h
      cases h
      rw [imAll_eq q]
      rfl
  | .raw _ :: _, _, h => by cases h
  | .fz _ :: _, _, h => by cases h
theorem we_tup (h : WA K ta ds cs fun svs cs1 => ∃ es, imAll svs = some es ∧ es.length ≤ 1000000 ∧ Φ (.im (.tuple es)) cs1) : WE K (tTup ta) ds cs Φ := fun Hb Fz σ H k Q z => by
  refine h Hb Fz σ H k _ fun vs svs cs1 Hb1 H1 h1 s1 k1 r1 => ?_
  obtain ⟨es, e, hl, q⟩ := h1
  rw [imAll_eq e] at r1
  have r := r1.dp
  refine ⟨?_, fun p hp => new_tup k1 hp r q fun v sv cs' Hb' H' f s2 k2 r2 => z v sv cs' Hb' H' f (s1.trans s2) k2 r2⟩
  rw [r.len]
  exact small6 hl
theorem we_lst (h : WA K ta ds cs fun svs cs1 => ∃ es, imAll svs = some es ∧ es.length ≤ 1000000 ∧ NewL es cs1 Φ) : WE K (tLst ta) ds cs Φ := fun Hb Fz σ H k Q z => by
  refine h Hb Fz σ H k _ fun vs svs cs1 Hb1 H1 h1 s1 k1 r1 => ?_
  obtain ⟨es, e, hl, q⟩ := h1
  rw [imAll_eq e] at r1
  have r := r1.dp
  refine ⟨?_, fun p hp => new_list k1 hp r q fun v sv cs' Hb' H' f s2 k2 r2 => z v sv cs' Hb' H' f (s1.trans s2) k2 r2⟩
  rw [r.len]
  exact small6 hl
/-- a call by values -/
def WC (K : PySem.W.Frag) (r : List V → Hp → VK → Prop) (svs : List SV) (ds : DS) (cs : CS) (Φ : SV → CS → Prop) : Prop :=
  ∀ Hb Fz σ H, Ok K Hb Fz ds cs σ H → ∀ vs, RepAll K Hb vs svs → ∀ Q : VK, (∀ v sv cs' Hb' H', Φ sv cs' → Same Hb Hb' → Ok K Hb' Fz ds cs' σ H' → RepS K Hb' v sv → Q v H') → r vs H Q
theorem we_cb {r : List V → Hp → VK → Prop} (h : WA K ta ds cs fun svs cs1 => WC K r svs ds cs1 Φ) : WE K (tCB r ta) ds cs Φ := fun Hb Fz σ H k Q z => by
  refine h Hb Fz σ H k _ fun vs svs cs1 Hb1 H1 h1 s1 k1 r1 => ?_
  exact h1 Hb1 Fz σ H1 k1 vs r1 Q fun v sv cs' Hb' H' f s2 k2 r2 => z v sv cs' Hb' H' f (s1.trans s2) k2 r2
theorem rep1 {Hb : Hp} {vs : List V} {sv : SV} (r : RepAll K Hb vs [sv]) : ∃ v, vs = [v] ∧ RepS K Hb v sv := by
  cases r with
  | cons h t =>
    cases t
    exact ⟨_, rfl, h⟩
theorem rep2 {Hb : Hp} {vs : List V} {sv sw : SV} (r : RepAll K Hb vs [sv, sw]) : ∃ v w, vs = [v, w] ∧ RepS K Hb v sv ∧ RepS K Hb w sw := by
  cases r with
  | cons h t =>
    obtain ⟨w, rfl, h2⟩ := rep1 t
    exact ⟨_, w, rfl, h, h2⟩
def rLenS (K : PySem.W.Frag) : List V → Hp → VK → Prop := fun xs H Q => ∃ p ys, xs = [.ref p] ∧ (SqL K H p ys ∨ SqT K H p ys) ∧ Q (.int ys.length) H
theorem cr_lenS {X : Cx} : CallR X (.builtin "len") (rLenS X.K) := call_len_seq
theorem wc_lenL {xs : List PyData} (q : Φ (iN xs.length) cs) : WC K (rLenS K) [.im (.list xs)] ds cs Φ := fun Hb Fz σ H k vs r Q z => by
  obtain ⟨v, rfl, r0⟩ := rep1 r
  obtain ⟨a, ws, rfl, h1, h2⟩ := dp_lst_inv r0
  refine ⟨a, ws, rfl, .inl (k.ex.seq h1), ?_⟩
  rw [h2.len]
  exact z _ _ cs Hb H q (Same.refl _) k rep_int
theorem wc_lenT {xs : List PyData} (q : Φ (iN xs.length) cs) : WC K (rLenS K) [.im (.tuple xs)] ds cs Φ := fun Hb Fz σ H k vs r Q z => by
  obtain ⟨v, rfl, r0⟩ := rep1 r
  obtain ⟨a, ws, rfl, h1, h2⟩ := dp_tup_inv r0
  refine ⟨a, ws, rfl, .inr (sqT_same k.ex h1), ?_⟩
  rw [h2.len]
  exact z _ _ cs Hb H q (Same.refl _) k rep_int
theorem wc_lenC {j : Nat} {l : Addr} {xs : List PyData} (hj : cs[j]? = some (l, .lst xs)) (q : Φ (iN xs.length) cs) : WC K (rLenS K) [.raw (.ref l)] ds cs Φ := fun Hb Fz σ H k vs r Q z => by
  obtain ⟨v, rfl, r0⟩ := rep1 r
  cases r0
  obtain ⟨ws, h1, h2⟩ := k.lcell hj
  refine ⟨l, ws, rfl, .inl (SqL.of h1), ?_⟩
  rw [h2.len]
  exact z _ _ cs Hb H q (Same.refl _) k rep_int
def rTupS (K : PySem.W.Frag) : List V → Hp → VK → Prop := fun xs H Q => ∃ p ys, xs = [.ref p] ∧ ((SqL K H p ys ∧ ∀ l, H l = none → Q (.ref l) (upd H l (.tup ys))) ∨ (SqT K H p ys ∧ Q (.ref p) H))
theorem cr_tupS {X : Cx} : CallR X (.type "tuple") (rTupS X.K) := call_tuple_of
theorem wc_tupL {xs : List PyData} (q : Φ (.im (.tuple xs)) cs) : WC K (rTupS K) [.im (.list xs)] ds cs Φ := fun Hb Fz σ H k vs r Q z => by
  obtain ⟨v, rfl, r0⟩ := rep1 r
  obtain ⟨a, ws, rfl, h1, h2⟩ := dp_lst_inv r0
  exact ⟨a, ws, rfl, .inl ⟨k.ex.seq h1, fun l hl => new_tup k hl h2 q z⟩⟩
theorem wc_tupC {j : Nat} {l : Addr} {xs : List PyData} (hj : cs[j]? = some (l, .lst xs)) (q : Φ (.im (.tuple xs)) cs) : WC K (rTupS K) [.raw (.ref l)] ds cs Φ := fun Hb Fz σ H k vs r Q z => by
  obtain ⟨v, rfl, r0⟩ := rep1 r
  cases r0
  obtain ⟨ws, h1, h2⟩ := k.lcell hj
  exact ⟨l, ws, rfl, .inl ⟨SqL.of h1, fun p hp => new_tup k hp h2 q z⟩⟩
def rListS (K : PySem.W.Frag) : List V → Hp → VK → Prop := fun xs H Q => ∃ p ys, xs = [.ref p] ∧ (SqL K H p ys ∨ SqT K H p ys) ∧ ∀ l, H l = none → Q (.ref l) (upd H l (.lst ys))
theorem cr_listS {X : Cx} : CallR X (.type "list") (rListS X.K) := call_list_of
theorem wc_listL {xs : List PyData} (q : NewL xs cs Φ) : WC K (rListS K) [.im (.list xs)] ds cs Φ := fun Hb Fz σ H k vs r Q z => by
  obtain ⟨v, rfl, r0⟩ := rep1 r
  obtain ⟨a, ws, rfl, h1, h2⟩ := dp_lst_inv r0
  exact ⟨a, ws, rfl, .inl (k.ex.seq h1), fun l hl => new_list k hl h2 q z⟩
theorem wc_all {bs : List Bool} (q : Φ (bB (bs.all id)) cs) : WC K (rAll K) [.im (.list (bs.map .bool))] ds cs Φ := fun Hb Fz σ H k vs r Q z => by
  obtain ⟨v, rfl, r0⟩ := rep1 r
  obtain ⟨a, ws, rfl, h1, h2⟩ := dp_lst_inv r0
  rw [DpAll.bools_inv h2] at h1
  exact ⟨a, bs, rfl, k.ex.seq h1, z _ _ cs Hb H q (Same.refl _) k rep_bl⟩
theorem wc_any {bs : List Bool} (q : Φ (bB (bs.any id)) cs) : WC K (rAny K) [.im (.list (bs.map .bool))] ds cs Φ := fun Hb Fz σ H k vs r Q z => by
  obtain ⟨v, rfl, r0⟩ := rep1 r
  obtain ⟨a, ws, rfl, h1, h2⟩ := dp_lst_inv r0
  rw [DpAll.bools_inv h2] at h1
  exact ⟨a, bs, rfl, k.ex.seq h1, z _ _ cs Hb H q (Same.refl _) k rep_bl⟩
theorem wc_min {ns : List Int} (h0 : 0 < ns.length) (q : ∀ m, m ∈ ns → (∀ y ∈ ns, m ≤ y) → Φ (iN m) cs) : WC K (rMin K) [.im (.list (ns.map .int))] ds cs Φ := fun Hb Fz σ H k vs r Q z => by
  obtain ⟨v, rfl, r0⟩ := rep1 r
  obtain ⟨a, ws, rfl, h1, h2⟩ := dp_lst_inv r0
  rw [DpAll.ints_inv h2] at h1
  exact ⟨a, ns, rfl, k.ex.seq h1, h0, fun m g1 g2 => z _ _ cs Hb H (q m g1 g2) (Same.refl _) k rep_int⟩
theorem wc_max {ns : List Int} (h0 : 0 < ns.length) (q : ∀ m, m ∈ ns → (∀ y ∈ ns, y ≤ m) → Φ (iN m) cs) : WC K (rMax K) [.im (.list (ns.map .int))] ds cs Φ := fun Hb Fz σ H k vs r Q z => by
  obtain ⟨v, rfl, r0⟩ := rep1 r
  obtain ⟨a, ws, rfl, h1, h2⟩ := dp_lst_inv r0
  rw [DpAll.ints_inv h2] at h1
  exact ⟨a, ns, rfl, k.ex.seq h1, h0, fun m g1 g2 => z _ _ cs Hb H (q m g1 g2) (Same.refl _) k rep_int⟩
theorem wc_sortedI {ns : List Int} (q : ∀ ns' : List Int, ns'.Perm ns → ns'.Pairwise (· ≤ ·) → NewL (ns'.map .int) cs Φ) : WC K (rSortedI K) [.im (.list (ns.map .int))] ds cs Φ := fun Hb Fz σ H k vs r Q z => by
  obtain ⟨v, rfl, r0⟩ := rep1 r
  obtain ⟨a, ws, rfl, h1, h2⟩ := dp_lst_inv r0
  rw [DpAll.ints_inv h2] at h1
  exact ⟨a, ns, rfl, k.ex.seq h1, fun ns' p g1 g2 hp => new_list k hp (DpAll.ints ns') (q ns' g1 g2) z⟩

/-! ### a def's promise -/
inductive Ret where
  | im (d : PyData)
  | cel (c : Cell)
  | fz (d : PyData)
def RetTo (r : Ret) (cs : CS) (Φ : SV → CS → Prop) : Prop := match r with
  | .im d => Φ (.im d) cs
  | .cel (.lst xs) => NewL xs cs Φ
  | .cel c => ∀ l, Φ (.raw (.ref l)) (cs ++ [(l, c)])
  | .fz d => Φ (.fz d) cs
def RetOk (K : PySem.W.Frag) (Hb' H0 H' : Hp) (v : V) : Ret → Prop
  | .im d => Dp K Hb' v d
  | .cel c => ∃ l o, v = .ref l ∧ H0 l = none ∧ Hb' l = none ∧ H' l = some o ∧ CellOk K Hb' o c
  | .fz d => RepS K Hb' v (.fz d)
/-- a def that is handed data (and functions) alone; g: what the promise is about -/
def SpF (K : PySem.W.Frag) {γ : Type} (args : γ → List SV) (pre : γ → Prop) (post : γ → Ret → Prop) : Sp := fun vs H Q _ => ∃ Hb g, Same Hb H ∧ RepAll K Hb vs (args g) ∧ pre g ∧
  ∀ v H' Hb' r, post g r → Same Hb Hb' → Same Hb' H' → (∀ l o, Hb l = none → H l = some o → (Hb' l = none ∨ Imm o) ∧ H' l = some o) → RetOk K Hb' H H' v r → Q v H'
/-- a def that is handed one cell besides -/
def SpC (K : PySem.W.Frag) {γ : Type} (args : γ → Addr → List SV) (pre : γ → Prop) (cell : γ → Cell) (post : γ → Ret → Cell → Prop) : Sp := fun vs H Q _ => ∃ Hb g l o, Same Hb H ∧ RepAll K Hb vs (args g l) ∧ Hb l = none ∧ H l = some o ∧ CellOk K Hb o (cell g) ∧ pre g ∧
  ∀ v H' Hb' r c', post g r c' → Same Hb Hb' → Same Hb' H' → (∀ a u, a ≠ l → Hb a = none → H a = some u → (Hb' a = none ∨ Imm u) ∧ H' a = some u) → (Hb' l = none ∧ ∃ o', H' l = some o' ∧ CellOk K Hb' o' c') → RetOk K Hb' H H' v r → Q v H'
/-- behind a call that left what it does not own -/
theorem Ok.after {Hb H Hb' H' : Hp} {Fz : Addr → HO → Prop} {σ : L2.St} (k : Ok K Hb Fz ds cs σ H) (s : Same Hb Hb') (e : Same Hb' H') (f : ∀ l o, Hb l = none → H l = some o → (Hb' l = none ∨ Imm o) ∧ H' l = some o) : Ok K Hb' Fz ds cs σ H' :=
  ⟨e, k.len, fun i sv q => let ⟨v, h1, h2⟩ := k.slot i sv q; ⟨v, h1, h2.mono s⟩, fun p hp => by
    obtain ⟨h1, o, h2, h3⟩ := k.cell p hp
    obtain ⟨g1, g2⟩ := f _ _ h1 h2
    exact ⟨g1.resolve_right h3.mut, o, g2, h3.mono s⟩, k.nd, (fun l o z => by
    obtain ⟨h1, h2⟩ := k.fz l o z
    cases hb : Hb l with
    | none => exact f l o hb h2
    | some u =>
      have hu := k.ex _ _ hb
      rw [h2] at hu
      cases hu
      refine ⟨.inr (h1.resolve_left fun z => ?_), e _ _ (s _ _ hb)⟩
      rw [hb] at z
      cases z), k.ap⟩
theorem ret_to {Hb H Hb' H' : Hp} {Fz : Addr → HO → Prop} {σ : L2.St} {cs1 : CS} {v : V} {r : Ret} {Q : VK} (k1 : Ok K Hb Fz ds cs1 σ H) (k : Ok K Hb' Fz ds cs σ H') (ro : RetOk K Hb' H H' v r) (hc : ∀ p ∈ cs, ∃ o, H p.1 = some o) (hf : ∀ l o, Fz l o → H l = some o) (q : RetTo r cs Φ)
    (z : ∀ v sv cs' Hb'' H'', Φ sv cs' → Same Hb' Hb'' → Ok K Hb'' Fz ds cs' σ H'' → RepS K Hb'' v sv → Q v H'') : Q v H' := by
  cases r with
  | im d => exact z v _ cs Hb' H' q (Same.refl _) k ro
  | fz d => exact z v _ cs Hb' H' q (Same.refl _) k ro
  | cel c =>
    obtain ⟨l, o, rfl, h0, h1, h2, h3⟩ := ro
    have kc : Ok K Hb' Fz ds (cs ++ [(l, c)]) σ H' := ⟨k.ex, k.len, k.slot, fun p hp => by
      rcases List.mem_append.mp hp with hp | hp
      · exact k.cell p hp
      · have e : p = (l, c) := by simpa using hp
        subst e
        exact ⟨h1, o, h2, h3⟩, (by
      rw [List.map_append, List.nodup_append]
      refine ⟨k.nd, by simp, fun a ha b hb e => ?_⟩
      have hb' : b = l := by simpa using hb
      subst e hb'
      obtain ⟨p, hp, e⟩ := List.mem_map.mp ha
      obtain ⟨o', e'⟩ := hc p hp
      rw [e, h0] at e'
      cases e'), k.fz, fun p hp o' zf => by
      rcases List.mem_append.mp hp with hp | hp
      · exact k.ap p hp o' zf
      · have e : p = (l, c) := by simpa using hp
        subst e
        have := hf _ _ zf
        rw [h0] at this
        cases this⟩
    cases c with
    | lst xs =>
      rcases (show NewL xs cs Φ from q) with q | q
      · have hj : (cs ++ [(l, Cell.lst xs)])[cs.length]? = some (l, .lst xs) := by simp
        obtain ⟨Hb2, s2, k2, d2⟩ := kc.freeze hj
        have e : (cs ++ [(l, Cell.lst xs)]).eraseIdx cs.length = cs := by
          rw [List.eraseIdx_append_of_length_le (Nat.le_refl _), Nat.sub_self]
          simp
        rw [e] at k2
        exact z _ _ cs Hb2 H' q s2 k2 d2
      · exact z _ _ _ Hb' H' (q l) (Same.refl _) kc rfl
    | dk kvs => exact z _ _ _ Hb' H' (q l) (Same.refl _) kc rfl
    | dt kvs => exact z _ _ _ Hb' H' (q l) (Same.refl _) kc rfl
theorem we_call {γ : Type} {args : γ → List SV} {pre : γ → Prop} {post : γ → Ret → Prop} (h : WA K ta ds cs fun svs cs1 => ∃ g, svs = args g ∧ pre g ∧ ∀ r, post g r → RetTo r cs1 Φ) : WE K (tCall (SpF K args pre post) [] E0 ta) ds cs Φ := fun Hb Fz σ H k Q z => by
  refine h Hb Fz σ H k _ fun vs svs cs1 Hb1 H1 h1 s1 k1 r1 => ?_
  show SpF K args pre post (vs ++ []) H1 Q E0
  rw [List.append_nil]
  obtain ⟨g, eg, hpre, hq⟩ := h1
  subst eg
  refine ⟨Hb1, g, k1.ex, r1, hpre, fun v H' Hb' r hp s2 e2 f2 ro => ?_⟩
  have k2 := k1.after s2 e2 f2
  refine ret_to k1 k2 ro (fun p hp => let ⟨_, o, e, _⟩ := k1.cell p hp; ⟨o, e⟩) (fun l o zf => (k1.fz l o zf).2) (hq r hp) fun v sv cs' Hb'' H'' f s3 k3 r3 => z v sv cs' Hb'' H'' f ((s1.trans s2).trans s3) k3 r3
theorem we_callL {γ : Type} {args : γ → List SV} {pre : γ → Prop} {post : γ → Ret → Prop} {i : Nat} {f : Addr} (hi : ds[i]? = some (some (.raw (.ref f)))) (h : WA K ta ds cs fun svs cs1 => ∃ g, svs = args g ∧ pre g ∧ ∀ r, post g r → RetTo r cs1 Φ) : WE K (tCallL i f (SpF K args pre post) [] E0 ta) ds cs Φ := fun Hb Fz σ H k Q z => by
  obtain ⟨v, h1, h2⟩ := k.slot i _ hi
  cases h2
  exact ⟨h1, we_call (Φ := Φ) h Hb Fz σ H k Q z⟩
/-- one cell is handed over -/
theorem we_callC {γ : Type} {args : γ → Addr → List SV} {pre : γ → Prop} {cell : γ → Cell} {post : γ → Ret → Cell → Prop} (h : WA K ta ds cs fun svs cs1 => ∃ (g : γ) (j : Nat) (l : Addr), svs = args g l ∧ cs1[j]? = some (l, cell g) ∧ pre g ∧ ∀ r c', post g r c' → RetTo r (cs1.set j (l, c')) Φ) : WE K (tCall (SpC K args pre cell post) [] E0 ta) ds cs Φ := fun Hb Fz σ H k Q z => by
  refine h Hb Fz σ H k _ fun vs svs cs1 Hb1 H1 h1 s1 k1 r1 => ?_
  show SpC K args pre cell post (vs ++ []) H1 Q E0
  rw [List.append_nil]
  obtain ⟨g, j, l, eg, hj, hpre, hq⟩ := h1
  subst eg
  have hm := List.mem_of_getElem? hj
  obtain ⟨g1, o, g2, g3⟩ := k1.cell _ hm
  refine ⟨Hb1, g, l, o, k1.ex, r1, g1, g2, g3, hpre, fun v H' Hb' r c' hp s2 e2 f2 hl ro => ?_⟩
  obtain ⟨n1, o', n2, n3⟩ := hl
  have k2 : Ok K Hb' Fz ds (cs1.set j (l, c')) σ H' := by
    refine ⟨e2, k1.len, fun i sv q => let ⟨v, h1, h2⟩ := k1.slot i sv q; ⟨v, h1, h2.mono s2⟩, fun p hp => ?_, by rw [map_set_fst hj]; exact k1.nd, fun a u zf => ?_, fun p hp o' zf => ?_⟩
    · obtain ⟨i, hi⟩ := List.mem_iff_getElem?.mp hp
      rw [List.getElem?_set] at hi
      split at hi
      · split at hi
        · cases hi
          exact ⟨n1, o', n2, n3⟩
        · cases hi
      · rename_i ne
        obtain ⟨q1, o2, q2, q3⟩ := k1.cell p (List.mem_of_getElem? hi)
        have nq : p.1 ≠ l := fun e => ne (nodup_fst k1.nd hj (show cs1[i]? = some (l, p.2) by rw [hi, ← e]))
        obtain ⟨w1, w2⟩ := f2 _ _ nq q1 q2
        exact ⟨w1.resolve_right q3.mut, o2, w2, q3.mono s2⟩
    · obtain ⟨q1, q2⟩ := k1.fz a u zf
      have nal : a ≠ l := fun e => by
        subst e
        exact k1.ap _ hm u zf
      cases hb : Hb1 a with
      | none => exact f2 a u nal hb q2
      | some u' =>
        have hu := k1.ex _ _ hb
        rw [q2] at hu
        cases hu
        refine ⟨.inr (q1.resolve_left fun z => ?_), e2 _ _ (s2 _ _ hb)⟩
        rw [hb] at z
        cases z
    · obtain ⟨i, hi⟩ := List.mem_iff_getElem?.mp hp
      rw [List.getElem?_set] at hi
      split at hi
      · split at hi
        · cases hi
          exact k1.ap _ hm o' zf
        · cases hi
      · exact k1.ap p (List.mem_of_getElem? hi) o' zf
  refine ret_to k1 k2 ro (fun p hp => ?_) (fun l o zf => (k1.fz l o zf).2) (hq r c' hp) fun v sv cs' Hb'' H'' f s3 k3 r3 => z v sv cs' Hb'' H'' f ((s1.trans s2).trans s3) k3 r3
  have e : p.1 ∈ (cs1.set j (l, c')).map (·.1) := List.mem_map.mpr ⟨p, hp, rfl⟩
  rw [map_set_fst hj] at e
  obtain ⟨p', hp', e'⟩ := List.mem_map.mp e
  obtain ⟨_, o2, e2, _⟩ := k1.cell p' hp'
  exact ⟨o2, by rw [← e']; exact e2⟩

/-! ### slices -/
def WO (K : PySem.W.Frag) (to : TO) (ds : DS) (cs : CS) (Φ : Option Int → CS → Prop) : Prop :=
  ∀ Hb Fz σ H, Ok K Hb Fz ds cs σ H → ∀ Q : Option Int → Hp → Prop, (∀ o cs' Hb' H', Φ o cs' → Same Hb Hb' → Ok K Hb' Fz ds cs' σ H' → Q o H') → to σ H Q
theorem wo_none {ΦO : Option Int → CS → Prop} (q : ΦO none cs) : WO K tNoPart ds cs ΦO := fun Hb Fz σ H k Q z => z none cs Hb H q (Same.refl _) k
theorem wo_some {ΦO : Option Int → CS → Prop} (h : WE K te ds cs fun x cs1 => ∃ i, x = iN i ∧ ΦO (some i) cs1) : WO K (tPart te) ds cs ΦO := fun Hb Fz σ H k Q z => by
  refine h Hb Fz σ H k _ fun v x cs1 Hb1 H1 h1 s1 k1 r1 => ?_
  obtain ⟨i, rfl, q⟩ := h1
  cases r1
  exact ⟨i, rfl, z _ cs1 Hb1 H1 q s1 k1⟩
def WSl (K : PySem.W.Frag) (r : V → Option Int → Option Int → Hp → VK → Prop) (x : SV) (lo hi : Option Int) (ds : DS) (cs : CS) (Φ : SV → CS → Prop) : Prop :=
  ∀ Hb Fz σ H, Ok K Hb Fz ds cs σ H → ∀ v, RepS K Hb v x → ∀ Q : VK, (∀ v sv cs' Hb' H', Φ sv cs' → Same Hb Hb' → Ok K Hb' Fz ds cs' σ H' → RepS K Hb' v sv → Q v H') → r v lo hi H Q
theorem we_sl {r : V → Option Int → Option Int → Hp → VK → Prop} {tl th : TO} (h : WE K te ds cs fun x cs1 => WO K tl ds cs1 fun lo cs2 => WO K th ds cs2 fun hi cs3 => WSl K r x lo hi ds cs3 Φ) : WE K (tSl r te tl th) ds cs Φ := fun Hb Fz σ H k Q z => by
  refine h Hb Fz σ H k _ fun v x cs1 Hb1 H1 h1 s1 k1 r1 => ?_
  refine h1 Hb1 Fz σ H1 k1 _ fun lo cs2 Hb2 H2 h2 s2 k2 => ?_
  refine h2 Hb2 Fz σ H2 k2 _ fun hi cs3 Hb3 H3 h3 s3 k3 => ?_
  exact h3 Hb3 Fz σ H3 k3 v (r1.mono (s2.trans s3)) Q fun v sv cs' Hb' H' f s4 k4 r4 => z v sv cs' Hb' H' f (((s1.trans s2).trans s3).trans s4) k4 r4
def cutD (xs : List PyData) (lo hi : Option Int) : List PyData := (xs.drop (HT.sIx xs.length 0 lo)).take (HT.sIx xs.length xs.length hi - HT.sIx xs.length 0 lo)
theorem dp_cut {Hb : Hp} {vs : List V} {xs : List PyData} (lo hi : Option Int) (h : DpAll K Hb vs xs) : DpAll K Hb (cutV vs lo hi) (cutD xs lo hi) := by
  unfold cutV cutD
  rw [h.len]
  exact (h.drop _).take _
theorem wsl_L {xs : List PyData} {lo hi : Option Int} (q : NewL (cutD xs lo hi) cs Φ) : WSl K (rSlL K) (.im (.list xs)) lo hi ds cs Φ := fun Hb Fz σ H k v r Q z => by
  obtain ⟨a, ws, rfl, h1, h2⟩ := dp_lst_inv r
  exact ⟨a, ws, rfl, k.ex.seq h1, fun p hp => new_list k hp (dp_cut lo hi h2) q z⟩
theorem wsl_C {j : Nat} {l : Addr} {xs : List PyData} {lo hi : Option Int} (hj : cs[j]? = some (l, .lst xs)) (q : NewL (cutD xs lo hi) cs Φ) : WSl K (rSlL K) (.raw (.ref l)) lo hi ds cs Φ := fun Hb Fz σ H k v r Q z => by
  cases r
  obtain ⟨ws, h1, h2⟩ := k.lcell hj
  exact ⟨l, ws, rfl, SqL.of h1, fun p hp => new_list k hp (dp_cut lo hi h2) q z⟩
theorem wsl_T {xs : List PyData} {lo hi : Option Int} (hw : ¬ (HT.sIx xs.length 0 lo = 0 ∧ HT.sIx xs.length xs.length hi = xs.length)) (q : Φ (.im (.tuple (cutD xs lo hi))) cs) : WSl K (rSlT K) (.im (.tuple xs)) lo hi ds cs Φ := fun Hb Fz σ H k v r Q z => by
  obtain ⟨a, ws, rfl, h1, h2⟩ := dp_tup_inv r
  refine ⟨a, ws, rfl, sqT_same k.ex h1, ?_, fun p hp => new_tup k hp (dp_cut lo hi h2) q z⟩
  rw [h2.len]
  exact hw

/-! ### methods of lists -/
theorem we_append (h : WE K te ds cs fun x cs1 => ∃ l, x = .raw (.ref l) ∧ (∃ (j : Nat) (xs : List PyData), cs1[j]? = some (l, .lst xs)) ∧ WA K ta ds cs1 fun svs cs2 => ∃ (d : PyData) (j : Nat) (xs : List PyData), svs = [.im d] ∧ cs2[j]? = some (l, .lst xs) ∧ xs.length ≤ 1000000 ∧ Φ (.im .none) (cs2.set j (l, .lst (xs ++ [d])))) :
    WE K (tBM K "list" rAppend te ta) ds cs Φ := fun Hb Fz σ H k Q z => by
  refine h Hb Fz σ H k _ fun v x cs1 Hb1 H1 h1 s1 k1 r1 => ?_
  obtain ⟨l, rfl, ⟨j, xs, hj⟩, h1⟩ := h1
  cases r1
  obtain ⟨ws, g1, g2⟩ := k1.lcell hj
  refine ⟨.inl ⟨rfl, _, SqL.of g1⟩, ?_⟩
  refine h1 Hb1 Fz σ H1 k1 _ fun vs svs cs2 Hb2 H2 h2 s2 k2 r2 => ?_
  obtain ⟨d, j2, xs2, rfl, hj2, hl, q⟩ := h2
  obtain ⟨y, rfl, ry⟩ := rep1 r2
  obtain ⟨ws2, g3, g4⟩ := k2.lcell hj2
  refine ⟨l, ws2, y, rfl, rfl, g3, by rw [g4.len]; exact small6l hl, ?_⟩
  exact z _ _ _ Hb2 _ q (s1.trans s2) (k2.setC hj2 (c' := .lst (xs2 ++ [d])) (g4.app (.cons ry .nil))) .non
theorem we_pop (h : WE K te ds cs fun x cs1 => ∃ (l : Addr) (j : Nat) (xs : List PyData) (d : PyData), x = .raw (.ref l) ∧ cs1[j]? = some (l, .lst (xs ++ [d])) ∧ Φ (.im d) (cs1.set j (l, .lst xs))) :
    WE K (tBM0 K "list" rPop te) ds cs Φ := fun Hb Fz σ H k Q z => by
  refine h Hb Fz σ H k _ fun v x cs1 Hb1 H1 h1 s1 k1 r1 => ?_
  obtain ⟨l, j, xs, d, rfl, hj, q⟩ := h1
  cases r1
  obtain ⟨ws, g1, g2⟩ := k1.lcell hj
  have hlen := g2.len
  obtain ⟨y, hy, ry⟩ := g2.get (i := xs.length) (d := d) (by simp)
  refine ⟨.inl ⟨rfl, _, SqL.of g1⟩, l, ws, y, rfl, rfl, g1, ?_, ?_⟩
  · rw [hlen]
    simpa using hy
  · have g3 : DpAll K Hb1 ws.dropLast xs := by
      have := g2.dropLast
      rwa [List.dropLast_concat] at this
    exact z _ _ _ Hb1 _ q s1 (k1.setC hj (c' := .lst xs) g3) ry
theorem we_extend (h : WE K te ds cs fun x cs1 => ∃ l, x = .raw (.ref l) ∧ (∃ (j : Nat) (xs : List PyData), cs1[j]? = some (l, .lst xs)) ∧ WA K ta ds cs1 fun svs cs2 => ∃ (m : Addr) (i j : Nat) (xs ys : List PyData), svs = [.raw (.ref m)] ∧ cs2[j]? = some (l, .lst xs) ∧ cs2[i]? = some (m, .lst ys) ∧ xs.length + ys.length ≤ 1000000 ∧ Φ (.im .none) (cs2.set j (l, .lst (xs ++ ys)))) :
    WE K (tBM K "list" rExtend te ta) ds cs Φ := fun Hb Fz σ H k Q z => by
  refine h Hb Fz σ H k _ fun v x cs1 Hb1 H1 h1 s1 k1 r1 => ?_
  obtain ⟨l, rfl, ⟨j, xs, hj⟩, h1⟩ := h1
  cases r1
  obtain ⟨ws, g1, g2⟩ := k1.lcell hj
  refine ⟨.inl ⟨rfl, _, SqL.of g1⟩, ?_⟩
  refine h1 Hb1 Fz σ H1 k1 _ fun vs svs cs2 Hb2 H2 h2 s2 k2 r2 => ?_
  obtain ⟨m, i, j2, xs2, ys, rfl, hj2, hi, hl, q⟩ := h2
  obtain ⟨y, rfl, ry⟩ := rep1 r2
  cases ry
  obtain ⟨ws2, g3, g4⟩ := k2.lcell hj2
  obtain ⟨us, g5, g6⟩ := k2.lcell hi
  refine ⟨l, m, ws2, us, rfl, rfl, g3, g5, by rw [g4.len, g6.len]; exact small6 hl, ?_⟩
  exact z _ _ _ Hb2 _ q (s1.trans s2) (k2.setC hj2 (c' := .lst (xs2 ++ ys)) (g4.app g6)) .non
end
end Sw
set_option Elab.async false
set_option linter.all false
set_option maxRecDepth 100000
set_option maxHeartbeats 1000000
set_option autoImplicit false
namespace Sw
open PySem PySem.Spec PyProof.Rows L2

/-! ### targets -/
section
variable {K : PySem.W.Frag} {ds : DS} {cs : CS} {Ξ : DS → CS → Prop}
theorem wg_name {i : Nat} {sv : SV} (q : Ξ (ds.set i (some sv)) cs) : WG K (gName i) sv ds cs Ξ := fun Hb Fz σ H k v r Q z => z _ _ _ _ Hb q (Same.refl _) (k.setS r)
/-- several targets -/
def WGs (K : PySem.W.Frag) (g : TGs) (es : List PyData) (ds : DS) (cs : CS) (Ξ : DS → CS → Prop) : Prop :=
  ∀ Hb Fz σ H, Ok K Hb Fz ds cs σ H → ∀ vs, DpAll K Hb vs es → ∀ Q : L2.St → Hp → Prop, (∀ ds' cs' σ' H' Hb', Ξ ds' cs' → Same Hb Hb' → Ok K Hb' Fz ds' cs' σ' H' → Q σ' H') → g vs σ H Q
theorem wgs_nil (q : Ξ ds cs) : WGs K gNil [] ds cs Ξ := fun Hb Fz σ H k vs r Q z => by
  cases r
  exact ⟨rfl, z _ _ _ _ Hb q (Same.refl _) k⟩
theorem wgs_cons {g : TG} {gs : TGs} {e : PyData} {es : List PyData} (h : WG K g (.im e) ds cs fun ds1 cs1 => WGs K gs es ds1 cs1 Ξ) : WGs K (gCons g gs) (e :: es) ds cs Ξ := fun Hb Fz σ H k vs r Q z => by
  cases r with
  | cons r t =>
    refine ⟨_, _, rfl, ?_⟩
    refine h Hb Fz σ H k _ r _ fun ds1 cs1 σ1 H1 Hb1 h1 s1 k1 => ?_
    exact h1 Hb1 Fz σ1 H1 k1 _ (dpAll_mono s1 t) Q fun ds' cs' σ' H' Hb' f s2 k2 => z ds' cs' σ' H' Hb' f (s1.trans s2) k2
theorem wg_tup {n : Nat} {g : TGs} {es : List PyData} (hl : es.length = n) (h : WGs K g es ds cs Ξ) : WG K (gTup K n g) (.im (.tuple es)) ds cs Ξ := fun Hb Fz σ H k v r Q z => by
  obtain ⟨a, vs, rfl, h1, h2⟩ := dp_tup_inv r
  exact ⟨a, vs, rfl, sqT_same k.ex h1, h2.len.trans hl, h Hb Fz σ H k vs h2 Q z⟩
end

/-! ### statements -/
section
variable {K : PySem.W.Frag} {ds : DS} {cs : CS} {P : Post} {t u : TS} {te : TE} {ta : TA} {g : TG} {tt : TT}
theorem ws_seq (h : WS K t ds cs { P with nx := fun ds' cs' => WS K u ds' cs' P }) : WS K (tSeq t u) ds cs P := fun Hb Fz σ H k D e =>
  h Hb Fz σ H k { D with nx := u D } ⟨fun ds' cs' σ' H' Hb' q s k' => q Hb' Fz σ' H' k' D (e.mono s), e.rt, e.bk, e.ct⟩
theorem ws_next (q : P.nx ds cs) : WS K tNext ds cs P := fun Hb Fz σ H k D e => e.nx ds cs σ H Hb q (Same.refl _) k
theorem ws_ret (h : WE K te ds cs P.rt) : WS K (tRet te) ds cs P := fun Hb Fz σ H k D e => h Hb Fz σ H k D.rt fun v sv cs' Hb' H' f s k' r => e.rt v sv ds cs' σ H' Hb' f s k' r
theorem ws_asg (h : WE K te ds cs fun sv cs1 => WG K g sv ds cs1 P.nx) : WS K (tAsg te g) ds cs P := fun Hb Fz σ H k D e => by
  refine h Hb Fz σ H k _ fun v sv cs1 Hb1 H1 h1 s1 k1 r1 => ?_
  exact h1 Hb1 Fz σ H1 k1 v r1 D.nx fun ds' cs' σ' H' Hb' f s2 k2 => e.nx ds' cs' σ' H' Hb' f (s1.trans s2) k2
theorem ws_set {i : Nat} (h : WE K te ds cs fun sv cs1 => P.nx (ds.set i (some sv)) cs1) : WS K (tAsg te (gName i)) ds cs P := ws_asg (we_imp h fun _ _ q => wg_name q)
theorem ws_drop (h : WE K te ds cs fun _ cs1 => P.nx ds cs1) : WS K (tDrop te) ds cs P := fun Hb Fz σ H k D e => h Hb Fz σ H k _ fun v sv cs' Hb' H' f s k' r => e.nx ds cs' σ H' Hb' f s k'
theorem ws_if (h : WT K tt ds cs fun b cs1 => (b = true → WS K t ds cs1 P) ∧ (b = false → WS K u ds cs1 P)) : WS K (tIfS tt t u) ds cs P := fun Hb Fz σ H k D e => by
  refine h Hb Fz σ H k _ fun b cs1 Hb1 H1 h1 s1 k1 => ?_
  cases b with
  | true =>
    rw [if_pos rfl]
    exact h1.1 rfl Hb1 Fz σ H1 k1 D (e.mono s1)
  | false =>
    rw [if_neg Bool.false_ne_true]
    exact h1.2 rfl Hb1 Fz σ H1 k1 D (e.mono s1)
theorem ws_par {i j : Nat} (h : WA K ta ds cs fun svs cs1 => ∃ a b, svs = [a, b] ∧ P.nx ((ds.set i (some a)).set j (some b)) cs1) : WS K (tPar i j ta) ds cs P := fun Hb Fz σ H k D e => by
  refine h Hb Fz σ H k _ fun vs svs cs1 Hb1 H1 h1 s1 k1 r1 => ?_
  obtain ⟨a, b, rfl, q⟩ := h1
  obtain ⟨v, w, rfl, rv, rw'⟩ := rep2 r1
  exact ⟨v, w, rfl, e.nx _ _ _ _ Hb1 q s1 ((k1.setS rv).setS rw')⟩
theorem ws_par3 {i j l : Nat} (h : WA K ta ds cs fun svs cs1 => ∃ a b c, svs = [a, b, c] ∧ P.nx (((ds.set i (some a)).set j (some b)).set l (some c)) cs1) : WS K (tPar3 i j l ta) ds cs P := fun Hb Fz σ H k D e => by
  refine h Hb Fz σ H k _ fun vs svs cs1 Hb1 H1 h1 s1 k1 r1 => ?_
  obtain ⟨a, b, c, rfl, q⟩ := h1
  cases r1 with
  | cons ru r1 =>
    obtain ⟨v, w, rfl, rv, rw'⟩ := rep2 r1
    exact ⟨_, v, w, rfl, e.nx _ _ _ _ Hb1 q s1 (((k1.setS ru).setS rv).setS rw')⟩
theorem ws_aug {i : Nat} {a : Int} (ha : ds[i]? = some (some (iN a))) (h : WE K te ds cs fun sv cs1 => ∃ b, sv = iN b ∧ P.nx (ds.set i (some (iN (a + b)))) cs1) : WS K (tAug i te (ipI fun i j => i + j)) ds cs P := fun Hb Fz σ H k D e => by
  obtain ⟨v, h1, h2⟩ := k.slot i _ ha
  cases h2
  refine ⟨_, h1, ?_⟩
  refine h Hb Fz σ H k _ fun v sv cs1 Hb1 H1 h1 s1 k1 r1 => ?_
  obtain ⟨b, rfl, q⟩ := h1
  cases r1
  exact ⟨a, b, rfl, rfl, e.nx _ _ _ _ Hb1 q s1 (k1.setS rep_int)⟩
/-- l[i] = v -/
theorem ws_setL {to ti : TE} (h : WE K te ds cs fun sv cs1 => ∃ d, sv = .im d ∧ WE K to ds cs1 fun x cs2 => ∃ l, x = .raw (.ref l) ∧ WE K ti ds cs2 fun y cs3 => ∃ (i : Int) (n j : Nat) (xs : List PyData), y = iN i ∧ cs3[j]? = some (l, .lst xs) ∧ ixN xs.length i = some n ∧ P.nx ds (cs3.set j (l, .lst (xs.set n d)))) :
    WS K (tAsg te (gSub to ti rSetL)) ds cs P := fun Hb Fz σ H k D e => by
  refine h Hb Fz σ H k _ fun v sv cs1 Hb1 H1 h1 s1 k1 r1 => ?_
  obtain ⟨d, rfl, h1⟩ := h1
  refine h1 Hb1 Fz σ H1 k1 _ fun x xv cs2 Hb2 H2 h2 s2 k2 r2 => ?_
  obtain ⟨l, rfl, h2⟩ := h2
  cases r2
  refine h2 Hb2 Fz σ H2 k2 _ fun y yv cs3 Hb3 H3 h3 s3 k3 r3 => ?_
  obtain ⟨i, n, j, xs, rfl, hj, hn, q⟩ := h3
  cases r3
  obtain ⟨ws, g1, g2⟩ := k3.lcell hj
  refine ⟨l, ws, i, n, rfl, rfl, g1, by rw [g2.len]; exact hn, ?_⟩
  exact e.nx _ _ _ _ Hb3 q ((s1.trans s2).trans s3) (k3.setC hj (c' := .lst (xs.set n d)) (g2.set (dp_mono (s2.trans s3) r1) n))
/-- a cell in a slot becomes data -/
theorem ws_freeze {i j : Nat} {l : Addr} {xs : List PyData} (hi : ds[i]? = some (some (.raw (.ref l)))) (hj : cs[j]? = some (l, .lst xs)) (h : WS K t (ds.set i (some (.im (.list xs)))) (cs.eraseIdx j) P) : WS K t ds cs P := fun Hb Fz σ H k D e => by
  obtain ⟨Hb', s, k', d⟩ := k.freeze hj
  refine h Hb' Fz σ H ?_ D (e.mono s)
  refine ⟨k'.ex, by rw [List.length_set]; exact k'.len, fun a sv q => ?_, k'.cell, k'.nd, k'.fz, k'.ap⟩
  rw [List.getElem?_set] at q
  split at q
  · rename_i ea
    subst ea
    split at q
    · cases q
      obtain ⟨v, h1, h2⟩ := k.slot i _ hi
      cases h2
      exact ⟨_, h1, d⟩
    · cases q
  · exact k'.slot a sv q
/-- the rest, from a word of one's own -/
theorem ws_imp {P' : Post} (h : WS K t ds cs P') (q : ∀ ds' cs', P'.nx ds' cs' → P.nx ds' cs') (r : ∀ sv cs', P'.rt sv cs' → P.rt sv cs') (b : ∀ ds' cs', P'.bk ds' cs' → P.bk ds' cs') (c : ∀ ds' cs', P'.ct ds' cs' → P.ct ds' cs') : WS K t ds cs P := fun Hb Fz σ H k D e =>
  h Hb Fz σ H k D ⟨fun a b c d f z => e.nx a b c d f (q _ _ z), fun a b c d f g h z => e.rt a b c d f g h (r _ _ z), fun a b' c d f z => e.bk a b' c d f (b _ _ z), fun a b c' d f z => e.ct a b c' d f (c _ _ z)⟩
theorem ws_forget {ds' : DS} {cs' : CS} (h : WS K t ds' cs' P) (hl : ds'.length = ds.length) (hs : ∀ (i : Nat) (sv : SV), ds'[i]? = some (some sv) → ds[i]? = some (some sv)) (hc : cs'.Sublist cs) : WS K t ds cs P := fun Hb Fz σ H k D e => h Hb Fz σ H ((k.weak hl hs).sub hc) D e

/-! ### while -/
theorem ws_while (Inv : Nat → DS → CS → Prop) (m0 : Nat) (h0 : Inv m0 ds cs)
    (hs : ∀ m ds cs, Inv m ds cs → WT K tt ds cs fun b cs1 => (b = true → WS K t ds cs1 { nx := fun ds' cs' => ∃ m', m' < m ∧ Inv m' ds' cs', ct := fun ds' cs' => ∃ m', m' < m ∧ Inv m' ds' cs', bk := P.nx, rt := P.rt }) ∧ (b = false → P.nx ds cs1)) : WS K (tWhile tt t) ds cs P := fun Hb Fz σ H k D e => by
  refine ⟨fun m σ' H' => ∃ ds' cs' Hb', Inv m ds' cs' ∧ Same Hb Hb' ∧ Ok K Hb' Fz ds' cs' σ' H', ⟨m0, ds, cs, Hb, h0, Same.refl _, k⟩, ?_⟩
  rintro m σ1 H1 ⟨ds1, cs1, Hb1, i1, s1, k1⟩
  refine hs m ds1 cs1 i1 Hb1 Fz σ1 H1 k1 _ fun b cs2 Hb2 H2 h2 s2 k2 => ?_
  cases b with
  | true =>
    rw [if_pos rfl]
    refine ⟨fun σ' H' => ∃ m', m' < m ∧ ∃ ds' cs' Hb', Inv m' ds' cs' ∧ Same Hb Hb' ∧ Ok K Hb' Fz ds' cs' σ' H', fun σ' H' z => z, ?_⟩
    have e2 := e.mono (s1.trans s2)
    refine h2.1 rfl Hb2 Fz σ1 H2 k2 _ ⟨fun ds' cs' σ' H' Hb' q s k' => ?_, e2.rt, e2.nx, fun ds' cs' σ' H' Hb' q s k' => ?_⟩
    · obtain ⟨m', hm, i'⟩ := q
      exact ⟨m', hm, ds', cs', Hb', i', (s1.trans s2).trans s, k'⟩
    · obtain ⟨m', hm, i'⟩ := q
      exact ⟨m', hm, ds', cs', Hb', i', (s1.trans s2).trans s, k'⟩
  | false =>
    rw [if_neg Bool.false_ne_true]
    exact e.nx _ _ _ _ Hb2 (h2.2 rfl) (s1.trans s2) k2
end

/-! ### walks -/
/-- where the walked thing is a cell, it stands as it stood -/
def SrcOk (src : Option Addr) (xs : List PyData) (cs : CS) : Prop := ∀ l, src = some l → ∃ j : Nat, cs[j]? = some (l, .lst xs)
def SrcH (K : PySem.W.Frag) (src : Option Addr) (xs : List PyData) (Hb H : Hp) : Prop := ∀ l, src = some l → ∃ vs, H l = some (.lst vs) ∧ DpAll K Hb vs xs
def YldS (K : PySem.W.Frag) (J : It) (Hb0 : Hp) (xs : List PyData) (src : Option Addr) : Prop :=
  ∀ (i : Nat) Hb H, Same Hb0 Hb → Same Hb H → SrcH K src xs Hb H → (∀ x, xs[i]? = some x → J.go i H ∧ ∀ v H', J.yld i H v H' → (H' = H ∧ Dp K Hb v x) ∨ (∃ T o, H T = none ∧ H' = upd H T o ∧ Dp K (upd Hb T o) v x)) ∧ (xs.length = i → J.stop i H)
def WL (K : PySem.W.Frag) (wi : TI) (ds : DS) (cs : CS) (Ψ : List PyData → Option Addr → CS → Prop) : Prop :=
  ∀ Hb Fz σ H, Ok K Hb Fz ds cs σ H → ∀ R : It → Hp → Prop, (∀ J xs src cs' Hb' H', Ψ xs src cs' → Same Hb Hb' → Ok K Hb' Fz ds cs' σ H' → YldS K J Hb' xs src → R J H') → wi σ H R
section
variable {K : PySem.W.Frag} {ds : DS} {cs : CS} {te tb : TE} {ta : TA} {Ψ : List PyData → Option Addr → CS → Prop}
theorem srcOk_none {xs : List PyData} : SrcOk none xs cs := fun _ e => nomatch e
theorem srcH_of {Hb H : Hp} {Fz : Addr → HO → Prop} {σ : L2.St} {src : Option Addr} {xs : List PyData} (k : Ok K Hb Fz ds cs σ H) (h : SrcOk src xs cs) : SrcH K src xs Hb H := fun l e => let ⟨j, hj⟩ := h l e; k.lcell hj
theorem wl_list (h : WE K te ds cs fun x cs1 => ∃ xs, x = .im (.list xs) ∧ Ψ xs none cs1) : WL K (iList K te) ds cs Ψ := fun Hb Fz σ H k R z => by
  refine h Hb Fz σ H k _ fun v x cs1 Hb1 H1 h1 s1 k1 r1 => ?_
  obtain ⟨xs, rfl, q⟩ := h1
  obtain ⟨a, ws, rfl, g1, g2⟩ := dp_lst_inv r1
  refine ⟨a, rfl, ⟨ws, k1.ex.seq g1⟩, z _ xs none cs1 Hb1 H1 q s1 k1 fun i Hb' H' e1 e2 _ => ?_⟩
  have hs : SqL K H' a ws := (e1.trans e2).seq g1
  refine ⟨fun x hx => ?_, fun hl => ⟨ws, hs, by rw [g2.len]; exact Nat.le_of_eq hl⟩⟩
  obtain ⟨y, hy, ry⟩ := g2.get hx
  refine ⟨⟨ws, y, hs, hy⟩, fun v H'' yl => ?_⟩
  obtain ⟨e, yl⟩ := yl
  have ey := yl ws hs
  rw [hy] at ey
  cases ey
  exact .inl ⟨e, dp_mono e1 ry⟩
/-- over a cell -/
theorem wl_listC (h : WE K te ds cs fun x cs1 => ∃ (l : Addr) (j : Nat) (xs : List PyData), x = .raw (.ref l) ∧ cs1[j]? = some (l, .lst xs) ∧ Ψ xs (some l) cs1) : WL K (iList K te) ds cs Ψ := fun Hb Fz σ H k R z => by
  refine h Hb Fz σ H k _ fun v x cs1 Hb1 H1 h1 s1 k1 r1 => ?_
  obtain ⟨l, j, xs, rfl, hj, q⟩ := h1
  cases r1
  obtain ⟨ws, g1, g2⟩ := k1.lcell hj
  refine ⟨l, rfl, ⟨ws, SqL.of g1⟩, z _ xs (some l) cs1 Hb1 H1 q s1 k1 fun i Hb' H' e1 e2 hsrc => ?_⟩
  obtain ⟨vs, g3, g4⟩ := hsrc l rfl
  refine ⟨fun x hx => ?_, fun hl => ⟨vs, SqL.of g3, by rw [g4.len]; exact Nat.le_of_eq hl⟩⟩
  obtain ⟨y, hy, ry⟩ := g4.get hx
  refine ⟨⟨vs, y, SqL.of g3, hy⟩, fun v H'' yl => ?_⟩
  obtain ⟨e, yl⟩ := yl
  have ey := yl vs (SqL.of g3)
  rw [hy] at ey
  cases ey
  exact .inl ⟨e, ry⟩
theorem wl_tup (h : WE K te ds cs fun x cs1 => ∃ xs, x = .im (.tuple xs) ∧ Ψ xs none cs1) : WL K (iTup K te) ds cs Ψ := fun Hb Fz σ H k R z => by
  refine h Hb Fz σ H k _ fun v x cs1 Hb1 H1 h1 s1 k1 r1 => ?_
  obtain ⟨xs, rfl, q⟩ := h1
  obtain ⟨a, ws, rfl, g1, g2⟩ := dp_tup_inv r1
  refine ⟨a, rfl, ⟨ws, sqT_same k1.ex g1⟩, z _ xs none cs1 Hb1 H1 q s1 k1 fun i Hb' H' e1 e2 _ => ?_⟩
  have hs : SqT K H' a ws := sqT_same (e1.trans e2) g1
  refine ⟨fun x hx => ?_, fun hl => ⟨ws, hs, by rw [g2.len]; exact Nat.le_of_eq hl⟩⟩
  obtain ⟨y, hy, ry⟩ := g2.get hx
  refine ⟨⟨ws, y, hs, hy⟩, fun v H'' yl => ?_⟩
  obtain ⟨e, yl⟩ := yl
  have ey := yl ws hs
  rw [hy] at ey
  cases ey
  exact .inl ⟨e, dp_mono e1 ry⟩
def intsFrom (lo : Int) (n : Nat) : List PyData := (List.range n).map fun (i : Nat) => .int (lo + (i : Int))
theorem intsFrom_len (lo : Int) (n : Nat) : (intsFrom lo n).length = n := by simp [intsFrom]
theorem intsFrom_get {lo : Int} {n i : Nat} {x : PyData} (h : (intsFrom lo n)[i]? = some x) : i < n ∧ x = .int (lo + (i : Int)) := by
  unfold intsFrom at h
  rw [List.getElem?_map] at h
  obtain ⟨j, h1, h2⟩ := Option.map_eq_some_iff.mp h
  obtain ⟨h3, h4⟩ := List.getElem?_eq_some_iff.mp h1
  rw [List.getElem_range] at h4
  subst h4
  exact ⟨by simpa using h3, h2.symm⟩
theorem yld_rng {Hb : Hp} {lo : Int} {n : Nat} : YldS K (Itr lo n) Hb (intsFrom lo n) none := fun i Hb' H' _ _ _ => by
  refine ⟨fun x hx => ?_, fun hl => by rw [intsFrom_len] at hl; exact Nat.le_of_eq hl⟩
  obtain ⟨hi, rfl⟩ := intsFrom_get hx
  exact ⟨hi, fun v H'' yl => .inl ⟨yl.1, by rw [yl.2]; exact .int _⟩⟩
theorem wl_rng1 (h : WA K ta ds cs fun svs cs1 => ∃ n : Int, svs = [iN n] ∧ -(2 ^ 62) ≤ n ∧ n < 2 ^ 62 ∧ Ψ (intsFrom 0 n.toNat) none cs1) : WL K (iRng1 ta) ds cs Ψ := fun Hb Fz σ H k R z => by
  refine h Hb Fz σ H k _ fun vs svs cs1 Hb1 H1 h1 s1 k1 r1 => ?_
  obtain ⟨n, rfl, h1, h2, q⟩ := h1
  obtain ⟨v, rfl, rv⟩ := rep1 r1
  cases rv
  exact ⟨n, rfl, h1, h2, z _ _ none cs1 Hb1 H1 q s1 k1 yld_rng⟩
theorem wl_rng2 (h : WA K ta ds cs fun svs cs1 => ∃ a b : Int, svs = [iN a, iN b] ∧ (-(2 ^ 62) ≤ a ∧ a < 2 ^ 62 ∧ -(2 ^ 62) ≤ b ∧ b < 2 ^ 62) ∧ Ψ (intsFrom a (b - a).toNat) none cs1) : WL K (iRng2 ta) ds cs Ψ := fun Hb Fz σ H k R z => by
  refine h Hb Fz σ H k _ fun vs svs cs1 Hb1 H1 h1 s1 k1 r1 => ?_
  obtain ⟨a, b, rfl, h1, q⟩ := h1
  obtain ⟨v, w, rfl, rv, rw'⟩ := rep2 r1
  cases rv
  cases rw'
  exact ⟨a, b, rfl, h1, z _ _ none cs1 Hb1 H1 q s1 k1 yld_rng⟩
def pairsD : List PyData → List PyData → List PyData
  | x :: xs, y :: ys => .tuple [x, y] :: pairsD xs ys
  | _, _ => []
theorem pairsD_len : ∀ xs ys : List PyData, (pairsD xs ys).length = min xs.length ys.length
  | [], ys => by simp [pairsD]
  | x :: xs, [] => by simp [pairsD]
  | x :: xs, y :: ys => by
    show (pairsD xs ys).length + 1 = min (xs.length + 1) (ys.length + 1)
    rw [pairsD_len xs ys]
    omega
theorem pairsD_get : ∀ {xs ys : List PyData} {i : Nat} {p : PyData}, (pairsD xs ys)[i]? = some p → ∃ x y, xs[i]? = some x ∧ ys[i]? = some y ∧ p = .tuple [x, y]
  | [], ys, i, p, h => by simp [pairsD] at h
  | x :: xs, [], i, p, h => by simp [pairsD] at h
  | x :: xs, y :: ys, 0, p, h => by
    have e : PyData.tuple [x, y] = p := Option.some.inj h
    exact ⟨x, y, rfl, rfl, e.symm⟩
  | x :: xs, y :: ys, i + 1, p, h => pairsD_get (xs := xs) (ys := ys) (i := i) h
theorem pairsD_at : ∀ {xs ys : List PyData} {i : Nat} {x y : PyData}, xs[i]? = some x → ys[i]? = some y → (pairsD xs ys)[i]? = some (.tuple [x, y])
  | [], ys, i, x, y, h, _ => by simp at h
  | x :: xs, [], i, _, _, _, h => by simp at h
  | x :: xs, y :: ys, 0, _, _, h1, h2 => by
    have e1 : x = _ := Option.some.inj h1
    have e2 : y = _ := Option.some.inj h2
    rw [← e1, ← e2]
    rfl
  | x :: xs, y :: ys, i + 1, _, _, h1, h2 => pairsD_at (xs := xs) (ys := ys) (i := i) h1 h2
/-- zip of two lists -/
theorem wl_zip (h : WA K ta ds cs fun svs cs1 => ∃ xs ys, svs = [.im (.list xs), .im (.list ys)] ∧ Ψ (pairsD xs ys) none cs1) : WL K (iZip K ta) ds cs Ψ := fun Hb Fz σ H k R z => by
  refine h Hb Fz σ H k _ fun vs svs cs1 Hb1 H1 h1 s1 k1 r1 => ?_
  obtain ⟨xs, ys, rfl, q⟩ := h1
  obtain ⟨v, w, rfl, rv, rw'⟩ := rep2 r1
  obtain ⟨a, vs, rfl, g1, g2⟩ := dp_lst_inv rv
  obtain ⟨b, ws, rfl, g3, g4⟩ := dp_lst_inv rw'
  refine ⟨a, b, vs, ws, rfl, k1.ex.seq g1, k1.ex.seq g3, z _ _ none cs1 Hb1 H1 q s1 k1 fun i Hb' H' e1 e2 _ => ?_⟩
  have hx := (e1.trans e2).seq g1
  have hy := (e1.trans e2).seq g3
  refine ⟨fun p hp => ?_, fun hl => ⟨vs, ws, hx, hy, ?_⟩⟩
  · obtain ⟨x, y, ex, ey, rfl⟩ := pairsD_get hp
    obtain ⟨vx, fx, dx⟩ := g2.get ex
    obtain ⟨vy, fy, dy⟩ := g4.get ey
    refine ⟨⟨vs, ws, vx, vy, hx, hy, fx, fy⟩, fun v H'' yl => ?_⟩
    obtain ⟨T, x', y', rfl, hT, rfl, p1, p2⟩ := yl
    have q1 := p1 vs hx
    have q2 := p2 ws hy
    rw [fx] at q1
    rw [fy] at q2
    cases q1
    cases q2
    refine .inr ⟨T, _, hT, rfl, .tup (.inl (.inl upd_same)) ?_⟩
    have sm : Same Hb1 (upd Hb' T (.tup [vx, vy])) := e1.trans (same_upd (Same.free e2 hT))
    exact .cons (dp_mono sm dx) (.cons (dp_mono sm dy) .nil)
  · rw [pairsD_len] at hl
    rw [g2.len, g4.len]
    omega
end

/-! ### for -/
section
variable {K : PySem.W.Frag} {ds : DS} {cs : CS} {P : Post} {tb : TS} {g : TG} {wi : TI}
theorem ws_for (h : WL K wi ds cs fun xs src cs1 => ∃ Inv : Nat → DS → CS → Prop, Inv 0 ds cs1 ∧ (∀ i ds' cs', Inv i ds' cs' → SrcOk src xs cs') ∧
      (∀ i ds' cs' x, xs[i]? = some x → Inv i ds' cs' → WG K g (.im x) ds' cs' fun ds2 cs2 => WS K tb ds2 cs2 { nx := Inv (i + 1), ct := Inv (i + 1), bk := P.nx, rt := P.rt }) ∧ (∀ ds' cs', Inv xs.length ds' cs' → P.nx ds' cs')) :
    WS K (tFor wi g tb) ds cs P := fun Hb Fz σ H k D e => by
  refine h Hb Fz σ H k _ fun J xs src cs1 Hb1 H1 h1 s1 k1 Y => ?_
  obtain ⟨Inv, i0, hsrc, step, done⟩ := h1
  refine ⟨fun i m σ' H' => m = xs.length - i ∧ i ≤ xs.length ∧ ∃ ds' cs' Hb', Inv i ds' cs' ∧ Same Hb1 Hb' ∧ Ok K Hb' Fz ds' cs' σ' H', ⟨xs.length, rfl, Nat.zero_le _, ds, cs1, Hb1, i0, Same.refl _, k1⟩, ?_⟩
  rintro i m σ2 H2 ⟨rfl, hi, ds2, cs2, Hb2, i2, s2, k2⟩
  obtain ⟨y1, y2⟩ := Y i Hb2 H2 s2 k2.ex (srcH_of k2 (hsrc i ds2 cs2 i2))
  by_cases hlt : i < xs.length
  · have hx : xs[i]? = some xs[i] := List.getElem?_eq_getElem hlt
    obtain ⟨go, yl⟩ := y1 _ hx
    refine .inr ⟨go, fun σ' H' => ∃ ds' cs' Hb', Inv (i + 1) ds' cs' ∧ Same Hb1 Hb' ∧ Ok K Hb' Fz ds' cs' σ' H', fun σ' H' z => ⟨xs.length - (i + 1), by omega, rfl, hlt, z⟩, fun v H3 yv => ?_⟩
    have go2 : ∀ Hb3, Same Hb2 Hb3 → Ok K Hb3 Fz ds2 cs2 σ2 H3 → Dp K Hb3 v xs[i] → g v σ2 H3 fun σ4 H4 => tb { D with nx := fun σ' H' => ∃ ds' cs' Hb', Inv (i + 1) ds' cs' ∧ Same Hb1 Hb' ∧ Ok K Hb' Fz ds' cs' σ' H', ct := fun σ' H' => ∃ ds' cs' Hb', Inv (i + 1) ds' cs' ∧ Same Hb1 Hb' ∧ Ok K Hb' Fz ds' cs' σ' H', bk := D.nx } σ4 H4 := fun Hb3 s3 k3 d3 => by
      refine step i ds2 cs2 _ hx i2 Hb3 Fz σ2 H3 k3 v d3 _ fun ds4 cs4 σ4 H4 Hb4 h4 s4 k4 => ?_
      have e4 := e.mono (((s1.trans s2).trans s3).trans s4)
      exact h4 Hb4 Fz σ4 H4 k4 _ ⟨fun ds' cs' σ' H' Hb' q s k' => ⟨ds', cs', Hb', q, ((s2.trans s3).trans s4).trans s, k'⟩, e4.rt, e4.nx, fun ds' cs' σ' H' Hb' q s k' => ⟨ds', cs', Hb', q, ((s2.trans s3).trans s4).trans s, k'⟩⟩
    rcases yl v H3 yv with ⟨rfl, d3⟩ | ⟨T, o, hT, rfl, d3⟩
    · exact go2 Hb2 (Same.refl _) k2 d3
    · exact go2 _ (same_upd (k2.hbn hT)) (k2.new hT) d3
  · have e1 : i = xs.length := by omega
    subst e1
    exact .inl ⟨y2 rfl, e.nx _ _ _ _ Hb2 (done _ _ i2) (s1.trans s2) k2⟩
end

/-! ### comprehensions -/
def wipeD (ds : DS) : List Nat → DS
  | [] => ds
  | v :: vs => (wipeD ds vs).set v none
theorem wipeD_len (ds : DS) : ∀ vs : List Nat, (wipeD ds vs).length = ds.length
  | [] => rfl
  | v :: vs => by
    unfold wipeD
    rw [List.length_set, wipeD_len ds vs]
theorem wipeD_some {ds : DS} {i : Nat} {x : SV} : ∀ {vs : List Nat}, (wipeD ds vs)[i]? = some (some x) → ds[i]? = some (some x) ∧ i ∉ vs
  | [], h => ⟨h, by simp⟩
  | v :: vs, h => by
    unfold wipeD at h
    rw [List.getElem?_set] at h
    split at h
    · split at h <;> cases h
    · rename_i ne
      obtain ⟨h1, h2⟩ := wipeD_some h
      exact ⟨h1, by
        simp only [List.mem_cons, not_or]
        exact ⟨fun e => ne e.symm, h2⟩⟩
/-- the target stores the block's own slots alone -/
def Gk (g : TG) (vs : List Nat) : Prop := ∀ v σ H (Q : L2.St → Hp → Prop), g v σ H Q → g v σ H fun σ2 H2 => wipe σ2 vs = wipe σ vs ∧ Q σ2 H2
theorem wipe_set {σ : L2.St} {j : Nat} {x : Option V} : ∀ {vs : List Nat}, j ∈ vs → wipe (σ.set j x) vs = wipe σ vs
  | [], h => by cases h
  | v :: vs, h => by
    show (wipe (σ.set j x) vs).set v none = (wipe σ vs).set v none
    by_cases hj : j ∈ vs
    · rw [wipe_set hj]
    · have e : v = j := by
        rcases List.mem_cons.mp h with e | h
        · exact e.symm
        · exact absurd h hj
      subst e
      refine List.ext_getElem? fun i => ?_
      rw [List.getElem?_set, List.getElem?_set, wipe_length, wipe_length, List.length_set]
      split
      · rfl
      · rename_i ne
        by_cases hi : i ∈ vs
        · have w0 : ∀ (τ : L2.St), τ.length = σ.length → (wipe τ vs)[i]? = if i < σ.length then some none else none := fun τ hl => by
            have q : ∀ (ws : List Nat), i ∈ ws → (wipe τ ws)[i]? = if i < σ.length then some none else none := by
              intro ws
              induction ws with
              | nil => intro h; cases h
              | cons w ws ih =>
                intro h
                show ((wipe τ ws).set w none)[i]? = _
                rw [List.getElem?_set, wipe_length, hl]
                split
                · rename_i e
                  subst e
                  rfl
                · rename_i ne
                  rcases List.mem_cons.mp h with e | h
                  · exact absurd e.symm ne
                  · exact ih h
            exact q vs hi
          rw [w0 _ (by rw [List.length_set]), w0 _ rfl]
        · rw [wipe_out hi, wipe_out hi, List.getElem?_set, if_neg ne]
theorem wipe_idem {σ : L2.St} : ∀ {vs : List Nat}, wipe (wipe σ vs) vs = wipe σ vs := by
  intro vs
  have q : ∀ (ws us : List Nat) (τ : L2.St), (∀ j ∈ us, j ∈ ws) → wipe (wipe τ us) ws = wipe τ ws := by
    intro ws us
    induction us with
    | nil => intro τ _; rfl
    | cons u us ih =>
      intro τ h
      show wipe ((wipe τ us).set u none) ws = _
      rw [wipe_set (h u List.mem_cons_self)]
      exact ih τ fun j hj => h j (List.mem_cons_of_mem _ hj)
  exact q vs vs σ fun _ h => h
theorem gk_name {j : Nat} {vs : List Nat} (h : j ∈ vs) : Gk (gName j) vs := fun v σ H Q q => ⟨wipe_set h, q⟩
def Gks (g : TGs) (vs : List Nat) : Prop := ∀ us σ H (Q : L2.St → Hp → Prop), g us σ H Q → g us σ H fun σ2 H2 => wipe σ2 vs = wipe σ vs ∧ Q σ2 H2
theorem gks_nil {vs : List Nat} : Gks gNil vs := fun us σ H Q q => ⟨q.1, rfl, q.2⟩
theorem gks_cons {j : Nat} {gs : TGs} {vs : List Nat} (h : j ∈ vs) (h2 : Gks gs vs) : Gks (gCons (gName j) gs) vs := fun us σ H Q q => by
  obtain ⟨v, r, e, q⟩ := q
  refine ⟨v, r, e, ?_⟩
  have q2 := h2 r _ H Q q
  have e2 : wipe (σ.set j (some v)) vs = wipe σ vs := wipe_set h
  show gs r (σ.set j (some v)) H fun σ2 H2 => wipe σ2 vs = wipe σ vs ∧ Q σ2 H2
  rw [← e2]
  exact q2
theorem gk_tup {K : PySem.W.Frag} {n : Nat} {g : TGs} {vs : List Nat} (h : Gks g vs) : Gk (gTup K n g) vs := fun v σ H Q q => by
  obtain ⟨a, xs, e, h1, h2, q⟩ := q
  exact ⟨a, xs, e, h1, h2, h _ _ _ _ q⟩
section
variable {K : PySem.W.Frag} {Hb Hb2 H H2 : Hp} {Fz : Addr → HO → Prop} {ds ds2 : DS} {cs cs2 : CS} {σ σ2 : L2.St}
theorem Ok.wiped (k : Ok K Hb Fz ds cs σ H) (vs : List Nat) : Ok K Hb Fz (wipeD ds vs) cs (wipe σ vs) H where
  ex := k.ex
  len := by rw [wipe_length, wipeD_len, k.len]
  slot := fun i sv e => by
    obtain ⟨h1, h2⟩ := wipeD_some e
    obtain ⟨v, h3, h4⟩ := k.slot i sv h1
    exact ⟨v, by rw [wipe_out h2]; exact h3, h4⟩
  cell := k.cell
  nd := k.nd
  fz := k.fz
  ap := k.ap
/-- the slots of the frame around, behind a block -/
theorem Ok.reslot (k : Ok K Hb Fz ds cs σ H) (k2 : Ok K Hb2 Fz ds2 cs2 σ2 H2) (s : Same Hb Hb2) : Ok K Hb2 Fz ds cs2 σ H2 :=
  ⟨k2.ex, k.len, fun i sv e => let ⟨v, h1, h2⟩ := k.slot i sv e; ⟨v, h1, h2.mono s⟩, k2.cell, k2.nd, k2.fz, k2.ap⟩
abbrev FzD (Fz : Addr → HO → Prop) (D : Addr) (u : HO) : Addr → HO → Prop := fun l o => Fz l o ∨ (l = D ∧ o = u)
/-- the list that grows -/
theorem Ok.grow {D : Addr} {u u' : HO} (k : Ok K Hb (FzD Fz D u) ds cs σ H) (hD : ∀ o, ¬ Fz D o) (hu : ¬ Imm u) : Ok K Hb (FzD Fz D u') ds cs σ (upd H D u') where
  ex := same_mut k.ex ((k.fz D u (.inr ⟨rfl, rfl⟩)).1.resolve_right hu)
  len := k.len
  slot := k.slot
  cell := fun p hp => by
    obtain ⟨h1, o, h2, h3⟩ := k.cell p hp
    have ne : p.1 ≠ D := fun e => k.ap p hp u (.inr ⟨e, rfl⟩)
    exact ⟨h1, o, by rw [upd_ne ne]; exact h2, h3⟩
  nd := k.nd
  fz := fun l o z => by
    rcases z with z | ⟨rfl, rfl⟩
    · obtain ⟨h1, h2⟩ := k.fz l o (.inl z)
      have ne : l ≠ D := fun e => by
        subst e
        exact hD o z
      exact ⟨h1, by rw [upd_ne ne]; exact h2⟩
    · exact ⟨.inl ((k.fz l u (.inr ⟨rfl, rfl⟩)).1.resolve_right hu), upd_same⟩
  ap := fun p hp o z => by
    rcases z with z | ⟨e, _⟩
    · exact k.ap p hp o (.inl z)
    · exact k.ap p hp u (.inr ⟨e, rfl⟩)
/-- the list that grew is ours -/
theorem Ok.taken {D : Addr} {u : HO} {c : Cell} (k : Ok K Hb (FzD Fz D u) ds cs σ H) (hD : ∀ o, ¬ Fz D o) (hc : CellOk K Hb u c) : Ok K Hb Fz ds (cs ++ [(D, c)]) σ H where
  ex := k.ex
  len := k.len
  slot := k.slot
  cell := fun p hp => by
    rcases List.mem_append.mp hp with hp | hp
    · exact k.cell p hp
    · have e : p = (D, c) := by simpa using hp
      subst e
      obtain ⟨h1, h2⟩ := k.fz D u (.inr ⟨rfl, rfl⟩)
      exact ⟨h1.resolve_right hc.mut, u, h2, hc⟩
  nd := by
    rw [List.map_append, List.nodup_append]
    refine ⟨k.nd, by simp, fun a ha b hb e => ?_⟩
    have hb' : b = D := by simpa using hb
    subst e hb'
    obtain ⟨p, hp, e⟩ := List.mem_map.mp ha
    exact k.ap p hp u (.inr ⟨e, rfl⟩)
  fz := fun l o z => k.fz l o (.inl z)
  ap := fun p hp o z => by
    rcases List.mem_append.mp hp with hp | hp
    · exact k.ap p hp o (.inl z)
    · have e : p = (D, c) := by simpa using hp
      subst e
      exact hD o z
theorem newL_end {D : Addr} {accV : List V} {acc : List PyData} {Φ : SV → CS → Prop} {Q : VK} (k : Ok K Hb (FzD Fz D (.lst accV)) ds cs σ H) (hD : ∀ o, ¬ Fz D o) (hv : DpAll K Hb accV acc) (q : NewL acc cs Φ)
    (z : ∀ v sv cs' Hb' H', Φ sv cs' → Same Hb Hb' → Ok K Hb' Fz ds cs' σ H' → RepS K Hb' v sv → Q v H') : Q (.ref D) H := by
  have kc := k.taken hD (c := .lst acc) hv
  rcases q with q | q
  · have hj : (cs ++ [(D, Cell.lst acc)])[cs.length]? = some (D, .lst acc) := by simp
    obtain ⟨Hb2, s2, k2, d2⟩ := kc.freeze hj
    have e : (cs ++ [(D, Cell.lst acc)]).eraseIdx cs.length = cs := by
      rw [List.eraseIdx_append_of_length_le (Nat.le_refl _), Nat.sub_self]
      simp
    rw [e] at k2
    exact z _ _ cs Hb2 H q s2 k2 d2
  · exact z _ _ _ Hb H (q D) (Same.refl _) kc rfl
end
section
variable {K : PySem.W.Frag} {ds : DS} {cs : CS} {Φ : SV → CS → Prop} {wi : TI} {g : TG} {tt : TT} {te : TE} {vs : List Nat}
theorem we_lc (hg : Gk g vs) (h : WL K wi ds cs fun xs src cs1 => xs.length ≤ 1000000 ∧ ∃ Inv : Nat → List PyData → CS → Prop, Inv 0 [] cs1 ∧ (∀ i acc cs', Inv i acc cs' → SrcOk src xs cs') ∧
      (∀ i x acc cs', xs[i]? = some x → Inv i acc cs' → WG K g (.im x) (wipeD ds vs) cs' fun ds2 cs2 => WT K tt ds2 cs2 fun b cs3 => (b = true → WE K te ds2 cs3 fun sv cs4 => ∃ d, sv = .im d ∧ Inv (i + 1) (acc ++ [d]) cs4) ∧ (b = false → Inv (i + 1) acc cs3)) ∧
      ∀ acc cs', Inv xs.length acc cs' → NewL acc cs' Φ) : WE K (tLc wi g tt te vs) ds cs Φ := fun Hb Fz σ H k Q z => by
  refine h Hb Fz σ H k _ fun J xs src cs1 Hb1 H1 h1 s1 k1 Y D hD => ?_
  obtain ⟨hz, Inv, i0, hsrc, step, done⟩ := h1
  have nF : ∀ o, ¬ Fz D o := fun o zf => by
    have := (k1.fz D o zf).2
    rw [hD] at this
    cases this
  refine ⟨fun i m H' => m = xs.length - i ∧ i ≤ xs.length ∧ ∃ acc accV cs' Hb', acc.length ≤ i ∧ Inv i acc cs' ∧ Same Hb1 Hb' ∧ DpAll K Hb' accV acc ∧ Ok K Hb' (FzD Fz D (.lst accV)) ds cs' σ H',
    ⟨xs.length, rfl, Nat.zero_le _, [], [], cs1, Hb1, Nat.zero_le _, i0, Same.refl _, .nil, ?_⟩, ?_⟩
  · have kn : Ok K Hb1 Fz ds (cs1 ++ [(D, .lst [])]) σ (upd H1 D (.lst [])) := k1.newC (c := .lst []) hD .nil
    have ks := kn.sub (cs' := cs1) (List.sublist_append_left _ _)
    refine ks.fzMore (k1.hbn hD) upd_same fun p hp e => ?_
    obtain ⟨_, o, h2, _⟩ := k1.cell p hp
    rw [e, hD] at h2
    cases h2
  rintro i m H2 ⟨rfl, hi, acc, accV, cs2, Hb2, hal, i2, s2, d2, k2⟩
  obtain ⟨y1, y2⟩ := Y i Hb2 H2 s2 k2.ex (srcH_of k2 (hsrc i acc cs2 i2))
  by_cases hlt : i < xs.length
  · have hx : xs[i]? = some xs[i] := List.getElem?_eq_getElem hlt
    obtain ⟨go, yl⟩ := y1 _ hx
    refine .inr ⟨go, fun H' => ∃ acc accV cs' Hb', acc.length ≤ i + 1 ∧ Inv (i + 1) acc cs' ∧ Same Hb1 Hb' ∧ DpAll K Hb' accV acc ∧ Ok K Hb' (FzD Fz D (.lst accV)) ds cs' σ H', fun H' q => ⟨xs.length - (i + 1), by omega, rfl, hlt, q⟩, fun v H3 yv => ?_⟩
    have go2 : ∀ Hb3, Same Hb2 Hb3 → Ok K Hb3 (FzD Fz D (.lst accV)) ds cs2 σ H3 → Dp K Hb3 v xs[i] → g v (wipe σ vs) H3 fun σ2 H4 => wipe σ2 vs = wipe σ vs ∧ tt σ2 H4 fun b H5 => if b = true then te σ2 H5 fun y H6 => ∃ acc, H6 D = some (.lst acc) ∧ acc.length < sizeLine ∧
        (∃ acc' accV' cs' Hb', acc'.length ≤ i + 1 ∧ Inv (i + 1) acc' cs' ∧ Same Hb1 Hb' ∧ DpAll K Hb' accV' acc' ∧ Ok K Hb' (FzD Fz D (.lst accV')) ds cs' σ (upd H6 D (.lst (acc ++ [y]))))
        else ∃ acc accV cs' Hb', acc.length ≤ i + 1 ∧ Inv (i + 1) acc cs' ∧ Same Hb1 Hb' ∧ DpAll K Hb' accV acc ∧ Ok K Hb' (FzD Fz D (.lst accV)) ds cs' σ H5 := fun Hb3 s3 k3 d3 => by
      have q0 : g v (wipe σ vs) H3 fun σ2 H4 => tt σ2 H4 fun b H5 => if b = true then te σ2 H5 fun y H6 => ∃ acc, H6 D = some (.lst acc) ∧ acc.length < sizeLine ∧
        (∃ acc' accV' cs' Hb', acc'.length ≤ i + 1 ∧ Inv (i + 1) acc' cs' ∧ Same Hb1 Hb' ∧ DpAll K Hb' accV' acc' ∧ Ok K Hb' (FzD Fz D (.lst accV')) ds cs' σ (upd H6 D (.lst (acc ++ [y]))))
        else ∃ acc accV cs' Hb', acc.length ≤ i + 1 ∧ Inv (i + 1) acc cs' ∧ Same Hb1 Hb' ∧ DpAll K Hb' accV acc ∧ Ok K Hb' (FzD Fz D (.lst accV)) ds cs' σ H5 := by
        refine step i _ acc cs2 hx i2 Hb3 _ (wipe σ vs) H3 (k3.wiped vs) v d3 _ fun ds4 cs4 σ4 H4 Hb4 h4 s4 k4 => ?_
        refine h4 Hb4 _ σ4 H4 k4 _ fun b cs5 Hb5 H5 h5 s5 k5 => ?_
        cases b with
        | true =>
          rw [if_pos rfl]
          refine h5.1 rfl Hb5 _ σ4 H5 k5 _ fun y sv cs6 Hb6 H6 h6 s6 k6 r6 => ?_
          obtain ⟨d, rfl, i6⟩ := h6
          have s36 := (s4.trans s5).trans s6
          have k7 := (k3.reslot k6 s36).grow (u' := .lst (accV ++ [y])) nF (by rintro ⟨xs, e⟩; cases e)
          refine ⟨accV, (k6.fz D _ (.inr ⟨rfl, rfl⟩)).2, by rw [d2.len]; exact small6l (by omega), acc ++ [d], accV ++ [y], cs6, Hb6, ?_, i6, (s2.trans s3).trans s36, (dpAll_mono (s3.trans s36) d2).app (.cons r6 .nil), k7⟩
          rw [List.length_append]
          exact Nat.add_le_add_right hal 1
        | false =>
          rw [if_neg Bool.false_ne_true]
          have s35 := s4.trans s5
          exact ⟨acc, accV, cs5, Hb5, Nat.le_succ_of_le hal, h5.2 rfl, (s2.trans s3).trans s35, dpAll_mono (s3.trans s35) d2, k3.reslot k5 s35⟩
      have q1 := hg v (wipe σ vs) H3 _ q0
      rw [wipe_idem] at q1
      exact q1
    rcases yl v H3 yv with ⟨rfl, d3⟩ | ⟨T, o, hT, rfl, d3⟩
    · exact go2 Hb2 (Same.refl _) k2 d3
    · exact go2 _ (same_upd (k2.hbn hT)) (k2.new hT) d3
  · have e1 : i = xs.length := by omega
    subst e1
    exact .inl ⟨y2 rfl, newL_end k2 nF d2 (done acc cs2 i2) fun v sv cs' Hb' H' f s k' r => z v sv cs' Hb' H' f ((s1.trans s2).trans s) k' r⟩
end
end Sw
set_option Elab.async false
set_option linter.all false
set_option maxRecDepth 100000
set_option maxHeartbeats 1000000
set_option autoImplicit false
/-! Rules that the layer lacks: dicts with tuple keys that are data, xs[::2], x in t, t.index(x), sorted of data and of dicts. -/
namespace Sw
open PySem PySem.Spec PySem.W PyProof.Rows L2
section
variable {X : Cx}
/-! ### dicts with tuple keys -/
theorem key_ofS {pins : List (Addr × Obj)} {σ : L2.St} {H : Hp} {s : Shared} {a : Addr} {ks : List L2.Key} (I : Inv X pins σ H s) (e : SqT X.K H a (ks.map kV)) : (tupleKind (mixKind X.prog X.w)).is s.heap ks a := by
  obtain ⟨its, r, ⟨o, h1, h2, n, h3⟩, _⟩ := I.tuple e
  exact ⟨o, its.toArray, n, h1, h2, h3, by simpa using items_are r⟩
def rInDT (K : PySem.W.Frag) : R2 := fun y x H Q => ∃ (a b : Addr) (kvs : List (List L2.Key × V)) (k : List L2.Key), x = .ref a ∧ y = .ref b ∧ H a = some (.dT kvs) ∧ SqT K H b (k.map kV) ∧ Q (.bl (valV kvs k).isSome) H
theorem op_inDT (hu : X.A.units + 1 < cLine) : OpR X (compareOp .In) (rInDT X.K) := by
  intro pins s σ H y x u v Q I ry rx h
  obtain ⟨a, b, kvs, k, rfl, rfl, ha, hb, q⟩ := h
  cases rx
  cases ry
  obtain ⟨z, hd, xs, rel, dd⟩ := dt_of I.hok ha
  refine wpAny_in_heap (tupleKind_room_in1 hu) (key_ofS I hb) hd dd ?_
  have q1 := (rel.val k).isSome_eq
  rw [Option.isSome_map] at q1
  rw [← q1]
  exact ⟨.bl _, H, I.tok _, rfl, q⟩
def tDGetT (K : PySem.W.Frag) (td ty : TE) : TE := fun σ H Q => td σ H fun x H1 => ty σ H1 fun y H2 => ∃ (a b : Addr) (kvs : List (List L2.Key × V)) (k : List L2.Key) (v : V), x = .ref a ∧ y = .ref b ∧ H2 a = some (.dT kvs) ∧ SqT K H2 b (k.map kV) ∧ valV kvs k = some v ∧ Q v H2
theorem pe_dgetT {o i : Expr} {td ty : TE} {pos : Pos} (hu : X.A.units + 1 < cLine) (ho : PE X o td) (hi : PE X i ty) (hs : NoSl i) : PE X (.Subscript o i pos) (tDGetT X.K td ty) := by
  refine ⟨fun pins s σ H Q I h => ?_⟩
  refine subD_of PySem.F.slot_dict_getitem.lookup hs (thn (ho.run pins s σ H _ I h) fun u s1 ⟨x, H1, I1, rx, q1⟩ => thn (hi.run pins s1 σ H1 _ I1 q1) fun iv s2 ⟨y, H2, I2, ry, a, b, kvs, k, v, ex, ey, ha, hb, hv, q2⟩ => ?_)
  subst ex ey
  obtain rfl : u = Value.ref a := rx
  obtain rfl : iv = Value.ref b := ry
  obtain ⟨z, hd, xs, rel, dd⟩ := dt_of I2.hok ha
  obtain ⟨w', hw, rw'⟩ := RelO.some_of (v := v) (o := (atKey xs k).map (·.2)) (by rw [← hv]; exact rel.val k)
  obtain ⟨p, hp, hp2⟩ := Option.map_eq_some_iff.mp hw
  refine ⟨dd.typeIs, wpAny_getItem_heap (tupleKind_room_in1 hu) (key_ofS I2 hb) dd hp ?_⟩
  rw [hp2]
  exact ⟨v, H2, I2.tok _, rw', q2⟩
def rPopTS (K : PySem.W.Frag) : V → List V → Hp → VK → Prop := fun x xs H Q => ∃ (a : Addr) (kvs : List (List L2.Key × V)) (k : List L2.Key) (b : Addr) (d : V), x = .ref a ∧ xs = [.ref b, d] ∧ H a = some (.dT kvs) ∧ SqT K H b (k.map kV) ∧
  (∀ v, valV kvs k = some v → Q v (upd H a (.dT (dropK kvs k)))) ∧ (valV kvs k = none → Q d H)
theorem mt_popTS (hu : X.A.units + 1 < cLine) : MtR X "dict.pop" (rPopTS X.K) := by
  intro pins s σ H x xs v us Q I rx rxs h
  obtain ⟨a, kvs, k, b, d, rfl, rfl, ha, hb, q1, q2⟩ := h
  cases rx
  obtain ⟨u1, u2, rfl, r1, r2⟩ := rxs.two
  cases r1
  obtain ⟨z, hd, xs', rel, dd⟩ := dt_of I.hok ha
  have hz : xs'.length ≤ sizeLine := by rw [← Paired.length rel]; exact z
  refine call_meetsIn PySem.F.slot_dict_pop dd.typeIs PySem.F.entry_dict_pop (PySem.F.args_dict_pop_3 _ _ _) (DT.meetsPop (knd := tupleKind (mixKind X.prog X.w)) (k := k) u2 hd)
    ⟨xs', tupleKind_room_in1 hu, key_ofS I hb, dd, hz, fun hn tk => ?_, fun p hp h' tk dd' hs => ?_⟩
  · have r := rel.val k
    rw [hn] at r
    have e : valV kvs k = none := by
      cases ev : valV kvs k with
      | none => rfl
      | some v0 =>
        rw [ev] at r
        exact (show False from r).elim
    show EP X pins σ Q u2 _
    exact ⟨d, H, I.tok tk, r2, q2 e⟩
  · have r := rel.val k
    rw [hp] at r
    obtain ⟨v0, ev, rv⟩ : ∃ v0, valV kvs k = some v0 ∧ RelV v0 p.2 := by
      cases ev : valV kvs k with
      | none =>
        rw [ev] at r
        exact (show False from r).elim
      | some v0 =>
        rw [ev] at r
        exact ⟨v0, rfl, r⟩
    obtain ⟨o, es, ep, hq, h2, h3, h4, _, h5⟩ := dd'
    have I2 : Inv X pins σ (upd H a (.dT (dropK kvs k))) { s with heap := h', toks := tk } :=
      d_write I (by rw [ha]; exact True.intro) hs ⟨o, hq⟩ ⟨Nat.le_trans (dropK_le kvs k) z, hd, _, (L2.DX.KT_drop k rel).keeps (fun c ys ec => (by rw [upd_ne (ne_of ec ha (fun z => nomatch z))]; exact ec)), o, es, ep, hq, h2, h3, h4, h5⟩
    show EP X pins σ Q p.2 _
    exact ⟨v0, _, I2, rv, q1 v0 ev⟩
/-- d[i] = v, by a target -/
def rSetDK : V → V → V → Hp → (Hp → Prop) → Prop := fun o i v H Q => ∃ (p : Addr) (kvs : List (L2.Key × V)) (k : L2.Key), o = .ref p ∧ i = kV k ∧ H p = some (.dK kvs) ∧ kvs.length < sizeLine ∧ Q (upd H p (.dK (putK kvs k v)))
theorem set_dK (hu : X.A.units + 1 < cLine) : PSet X rSetDK := by
  intro pins s σ H o i v ov iv u Q I ro ri rv h
  obtain ⟨p, kvs, k, rfl, rfl, hp, hl, q⟩ := h
  cases ro
  exact d_setItem hu I (DPut.k hp hl) ri rv fun s4 I4 => ⟨_, I4, q⟩

/-! ### xs[::2], xs[1::2] -/
def alt {α : Type} : List α → List α
  | [] => []
  | [x] => [x]
  | x :: _ :: r => x :: alt r
theorem alt_get {α : Type} : ∀ (l : List α) (k : Nat), (alt l)[k]? = l[2 * k]?
  | [], k => by simp [alt]
  | [x], k => by
    cases k with
    | zero => rfl
    | succ k =>
      rw [show 2 * (k + 1) = (2 * k + 1) + 1 by omega]
      simp [alt]
  | x :: y :: r, k => by
    cases k with
    | zero => rfl
    | succ k =>
      rw [show 2 * (k + 1) = (2 * k + 1) + 1 by omega]
      show (alt r)[k]? = r[2 * k]?
      exact alt_get r k
theorem pick_get {α : Type} (l : List α) : ∀ (js : List Nat), (∀ j ∈ js, j < l.length) → ∀ k : Nat, (js.filterMap (l[·]?))[k]? = (js[k]?).bind (l[·]?)
  | [], _, k => by simp
  | j :: js, h, k => by
    have hj := h j (by simp)
    have e : l[j]? = some l[j] := List.getElem?_eq_getElem hj
    rw [List.filterMap_cons, e]
    cases k with
    | zero => simp [e]
    | succ k =>
      have := pick_get l js (fun i hi => h i (List.mem_cons_of_mem _ hi)) k
      simpa using this
theorem pick_alt (items : Array Value) (a : Nat) (ha : a ≤ items.size) (lo : Option Int) (hb : sliceBounds lo none (some 2) items.size = ((a : Int), (items.size : Int), 2)) : slicePick items lo none (some 2) = (alt (items.toList.drop a)).toArray := by
  unfold slicePick
  rw [hb]
  congr 1
  have hs : sliceRange (a : Int) (items.size : Int) 2 = (List.range ((items.size - a + 1) / 2)).map fun k => a + 2 * k := by
    unfold sliceRange
    have h2 : (2 : Int) > 0 := by decide
    simp only [h2, if_true]
    by_cases h : (a : Int) < items.size
    · simp only [h, if_true]
      have e : (((items.size : Int) - a + 2 - 1) / 2).toNat = (items.size - a + 1) / 2 := by omega
      rw [e]
      apply List.map_congr_left
      intro k hk
      omega
    · simp only [h, if_false]
      have e : (items.size - a + 1) / 2 = 0 := by omega
      rw [e]
      rfl
  show (sliceRange (a : Int) (items.size : Int) 2).filterMap (items[·]?) = _
  rw [hs]
  have ef : (fun x : Nat => items[x]?) = fun x : Nat => items.toList[x]? := by
    funext x
    rw [Array.getElem?_toList]
  rw [ef]
  refine List.ext_getElem? fun k => ?_
  rw [pick_get, alt_get, List.getElem?_drop]
  · by_cases hk : k < (items.size - a + 1) / 2
    · rw [List.getElem?_map, List.getElem?_range hk]
      rfl
    · rw [List.getElem?_eq_none (by rw [List.length_map, List.length_range]; omega), List.getElem?_eq_none (by rw [Array.length_toList]; omega)]
      rfl
  · intro j hj
    obtain ⟨k, hk, rfl⟩ := List.mem_map.mp hj
    have := List.mem_range.mp hk
    rw [Array.length_toList]
    omega
theorem vals_alt : ∀ {xs : List V} {us : List Value}, Vals xs us → Vals (alt xs) (alt us)
  | _, _, .nil => .nil
  | _, _, .cons h .nil => .cons h .nil
  | _, _, .cons h (.cons _ t) => .cons h (vals_alt t)
theorem vals_drop : ∀ {xs : List V} {us : List Value} (n : Nat), Vals xs us → Vals (xs.drop n) (us.drop n)
  | _, _, 0, h => h
  | _, _, _ + 1, .nil => .nil
  | _, _, n + 1, .cons _ t => vals_drop n t
theorem alt_len {α : Type} : ∀ l : List α, (alt l).length = (l.length + 1) / 2
  | [] => by simp [alt]
  | [x] => by simp [alt]
  | x :: y :: r => by
    show (alt r).length + 1 = (r.length + 1 + 1 + 1) / 2
    rw [alt_len r]
    omega
def tAlt (K : PySem.W.Frag) (a : Nat) (te : TE) : TE := fun σ H Q => te σ H fun x H1 => ∃ p xs, x = .ref p ∧ SqL K H1 p xs ∧ a ≤ xs.length ∧ ∀ l, H1 l = none → Q (.ref l) (upd H1 l (.lst (alt (xs.drop a))))
abbrev tEvens (K : PySem.W.Frag) (te : TE) : TE := tAlt K 0 te
abbrev tOdds (K : PySem.W.Frag) (te : TE) : TE := tAlt K 1 te
theorem alt_run {e slice : Expr} {a : Nat} {pins : List (Addr × Obj)} {σ : L2.St} {H : Hp} {s4 : Shared} {Q : VK} {p : Addr} {xs : List V} {vl vu vs : Value} {lo : Option Int} (I4 : Inv X pins σ H s4) (hx : SqL X.K H p xs) (ha : a ≤ xs.length) (pl : IsPart vl lo) (pu : IsPart vu none) (ps : IsPart vs (some 2))
    (hb : ∀ n : Nat, a ≤ n → sliceBounds lo none (some 2) n = ((a : Int), (n : Int), 2)) (hs : subscripted slice false (.ref p) (.ref s4.heap.objs.size) = operate [.ref p, .ref s4.heap.objs.size] (getItem (.ref p) (.ref s4.heap.objs.size)))
    (q : ∀ l, H l = none → Q (.ref l) (upd H l (.lst (alt (xs.drop a))))) :
    wpAny (model X.prog X.w) X.A (subscriptTail e slice (.ref p) (.ref s4.heap.objs.size)) (EP X pins σ Q) X.xe { s4 with heap := s4.heap.push { cls := .type "slice", data := .fields #[vl, vu, vs] } } := by
  have I5 : Inv X pins σ H { s4 with heap := s4.heap.push { cls := .type "slice", data := .fields #[vl, vu, vs] } } := I4.kept (t' := s4.toks) fun b ob q => Heap.get?_push_of_some _ q
  obtain ⟨its, r, ht, hz⟩ := I5.list hx
  have hlen := r.length
  refine tail_any (ops := [.ref p, .ref s4.heap.objs.size]) ht.isList.typeIs (PySem.slot_list_getitem.lookup) ?_ hs
  refine wpAny_getItem_list_slice ht.isList (Heap.IsSliceOf.new _ vl vu vs) pl pu ps (by decide) ?_ (by rw [List.size_toArray]; omega)
  rw [pick_alt its.toArray a (by rw [List.size_toArray]; omega) lo (hb _ (by rw [List.size_toArray]; omega))]
  have hz2 : (alt (xs.drop a)).length ≤ sizeLine := by
    rw [alt_len, List.length_drop]
    omega
  refine ⟨.ref _, _, I5.laid (t' := s4.toks) (o := .lst (alt (xs.drop a))) (fun b ob q => Heap.get?_push_of_some _ q) (Nat.le_refl _) ?_, rfl, q _ (I5.hok.fresh (Nat.le_refl _))⟩
  exact ⟨hz2, _, 0, vals_alt (vals_drop a r), Heap.get?_push_size _ rfl⟩
theorem pe_evens {e : Expr} {te : TE} {k : Nat} {p1 p3 pos : Pos} (he : PE X e te) : PE X (.Subscript e (.Slice none none (some (.Constant (.int 2) k p1)) p3) pos) (tEvens X.K te) := by
  refine ⟨fun pins s σ H Q I h => ?_⟩
  refine Subscript_ (thn (he.run pins s σ H _ I h) fun v s1 ⟨x, H1, I1, r1, q1⟩ => ?_)
  obtain ⟨a, xs, ex, hx, hle, q⟩ := q1
  subst ex
  cases r1
  have hst : PO X (some (.Constant (.int 2) k p1)) (tPart (tC (.int 2))) := po_some pe_int
  refine wpAny_Slice (thn (po_none.run pins s1 σ H1 (fun o H2 => o = none ∧ H2 = H1) I1 ⟨rfl, rfl⟩) fun vl s2 ⟨l, H2, I2, pl, el, e2⟩ => ?_)
  subst el e2
  refine thn (po_none.run pins s2 σ H2 (fun o H3 => o = none ∧ H3 = H2) I2 ⟨rfl, rfl⟩) fun vu s3 ⟨u, H3, I3, pu, eu, e3⟩ => ?_
  subst eu e3
  refine thn (hst.run pins s3 σ H3 (fun o H4 => o = some 2 ∧ H4 = H3) I3 ⟨2, rfl, rfl, rfl⟩) fun vs s4 ⟨o, H4, I4, ps, eo, e4⟩ => ?_
  subst eo e4
  exact alt_run I4 hx hle pl pu ps (fun n _ => by simp [sliceBounds]) (by with_unfolding_all rfl) q
theorem pe_odds {e : Expr} {te : TE} {k k2 : Nat} {p1 p2 p3 pos : Pos} (he : PE X e te) : PE X (.Subscript e (.Slice (some (.Constant (.int 1) k2 p2)) none (some (.Constant (.int 2) k p1)) p3) pos) (tOdds X.K te) := by
  refine ⟨fun pins s σ H Q I h => ?_⟩
  refine Subscript_ (thn (he.run pins s σ H _ I h) fun v s1 ⟨x, H1, I1, r1, q1⟩ => ?_)
  obtain ⟨a, xs, ex, hx, hle, q⟩ := q1
  subst ex
  cases r1
  have hst : PO X (some (.Constant (.int 2) k p1)) (tPart (tC (.int 2))) := po_some pe_int
  have hlo : PO X (some (.Constant (.int 1) k2 p2)) (tPart (tC (.int 1))) := po_some pe_int
  refine wpAny_Slice (thn (hlo.run pins s1 σ H1 (fun o H2 => o = some 1 ∧ H2 = H1) I1 ⟨1, rfl, rfl, rfl⟩) fun vl s2 ⟨l, H2, I2, pl, el, e2⟩ => ?_)
  subst el e2
  refine thn (po_none.run pins s2 σ H2 (fun o H3 => o = none ∧ H3 = H2) I2 ⟨rfl, rfl⟩) fun vu s3 ⟨u, H3, I3, pu, eu, e3⟩ => ?_
  subst eu e3
  refine thn (hst.run pins s3 σ H3 (fun o H4 => o = some 2 ∧ H4 = H3) I3 ⟨2, rfl, rfl, rfl⟩) fun vs s4 ⟨o, H4, I4, ps, eo, e4⟩ => ?_
  subst eo e4
  refine alt_run I4 hx hle pl pu ps (fun n hn => ?_) (by with_unfolding_all rfl) q
  simp only [sliceBounds, Option.getD_some]
  refine Prod.ext ?_ rfl
  have h2 : (2 : Int) > 0 := by decide
  have h1 : ¬ (1 : Int) < 0 := by decide
  simp only [h2, h1, if_true, if_false]
  omega

/-! ### x in t, t.index(x), t a tuple of nested data -/
def rInTD (K : PySem.W.Frag) : R2 := fun x y H Q => ∃ d ds, Dp K H x d ∧ Dp K H y (.tuple ds) ∧ SeqAt.shaped d = true ∧ SeqAt.shaped (.tuple ds) = true ∧ Q (.bl (ds.any fun z => PyData.eqv z d)) H
def rIndexTD (K : PySem.W.Frag) : V → List V → Hp → VK → Prop := fun x xs H Q => ∃ (a : Addr) (y : V) (d : PyData) (ds : List PyData) (j : Nat) (z : PyData), x = V.ref a ∧ xs = [y] ∧ Dp K H (V.ref a) (.tuple ds) ∧ Dp K H y d ∧
  SeqAt.shaped (.tuple ds) = true ∧ SeqAt.shaped d = true ∧ ds[j]? = some z ∧ PyData.eqv z d = true ∧ (∀ (m : Nat) (z' : PyData), m < j → ds[m]? = some z' → PyData.eqv z' d = false) ∧ Q (.int (j : Nat)) H
theorem mt_indexTD (hu : X.A.units + 65 < cLine) : MtR X "tuple.index" (rIndexTD X.K) := by
  intro pins s σ H x xs v us Q I rx rxs h
  obtain ⟨a, y, d, ds, j, z, rfl, rfl, hl, hy, sl, sd, hz, hzj, hno, q⟩ := h
  cases rx
  cases rxs with
  | cons ry rt =>
    rename_i uy ut
    cases rt
    obtain ⟨bs, r1⟩ := Dp.reads I d y uy hy ry
    have hxs : PyData.canLayAll0 ds = true := SeqAt.canLay_of_shaped sl
    have hroom : X.A.units + 1 + min (PyData.depthAll ds) d.depth < cLine := room_in_shaped sd hu
    cases hl with
    | tup hs ha =>
      obtain ⟨its, rv, ⟨⟨cls, dd, data, sls⟩, ho, hc, n, hdt⟩, hlen⟩ := I.tuple hs
      simp only at hc hdt
      subst hc hdt
      obtain ⟨as, h4⟩ := Dp.readsAll I ds _ its ha rv
      have hn : its.length = ds.length := SeqAt.ReadsAll.length ds its as h4
      have hmap : its.map (SeqAt.readOf s.heap) = ds := SeqAt.readsAll_map ds its as hxs h4
      have hvl := rv.length
      have hsl := sizeLine_eq
      obtain ⟨hjd, _⟩ := List.getElem?_eq_some_iff.mp hz
      have hjl : j < its.length := by omega
      have hj : j < its.toArray.size := by simpa using hjl
      have at_ : ∀ (m : Nat) (hm : m < its.toArray.size) (z' : PyData), ds[m]? = some z' → SeqAt.readOf s.heap its.toArray[m] = z' := by
        intro m hm z' hz'
        have hml : m < its.length := by simpa using hm
        rw [← hmap, List.getElem?_map, List.getElem?_eq_getElem hml] at hz'
        have e1 : SeqAt.readOf s.heap its[m] = z' := Option.some.inj (show some (SeqAt.readOf s.heap its[m]) = some z' from hz')
        simpa using e1
      refine call_meets PySem.F.slot_tuple_index ⟨_, ho, rfl⟩ PySem.F.entry_tuple_index (PySem.F.args_tuple_index_2 _ _)
        (_root_.TI.tuple_indexAt a its.toArray n dd sls uy (fun u => PyData.eqv (SeqAt.readOf s.heap u) d) j hj ?_ ?_) ⟨ho, SeqAt.items_eqAt (vs := its.toArray) (show ReadsAll s.heap its.toArray.toList ds as from h4) r1 hxs (SeqAt.canLay_of_shaped sd) hroom, ?_⟩
      · show PyData.eqv (SeqAt.readOf s.heap its.toArray[j]) d = true
        rw [at_ j hj z hz]
        exact hzj
      · intro m hm hmj
        have hmd : m < ds.length := by omega
        have hz' : ds[m]? = some ds[m] := List.getElem?_eq_getElem hmd
        show PyData.eqv (SeqAt.readOf s.heap its.toArray[m]) d = false
        rw [at_ m hm _ hz']
        exact hno m _ hmj hz'
      · exact ⟨.int (j : Nat), H, I.tok _, ⟨_, rfl⟩, q⟩

/-! ### sorted(xs), the items data -/
theorem each_of {R : Value → PyData → Prop} : ∀ {us : List Value} {ds : List PyData}, us.length = ds.length → (∀ (i : Nat) (u : Value) (d : PyData), us[i]? = some u → ds[i]? = some d → R u d) → EachIs R us ds
  | [], [], _, _ => .nil
  | u :: us, d :: ds, hl, h => .cons (h 0 u d rfl rfl) (each_of (by simpa using hl) fun i u' d' a b => h (i + 1) u' d' (by simpa using a) (by simpa using b))
  | [], _ :: _, hl, _ => by simp at hl
  | _ :: _, [], hl, _ => by simp at hl
theorem each_zip : ∀ {us : List Value} {xs : List V} {ds : List PyData}, Vals xs us → xs.length = ds.length → ∀ {h : Heap}, (∃ as, ReadsAll h us ds as) → EachIs (fun u (p : V × PyData) => RelV p.1 u ∧ ∃ as, Reads h u p.2 as) us (xs.zip ds)
  | _, _, [], .nil, _, _, _ => .nil
  | _, _, d :: ds, .cons r t, hl, _, ⟨as, hr⟩ => by
    cases hr with
    | cons h1 h2 => exact .cons ⟨r, _, h1⟩ (each_zip t (by simpa using hl) ⟨_, h2⟩)
theorem vals_of_each {h : Heap} : ∀ {us : List Value} {ps : List (V × PyData)}, EachIs (fun u (p : V × PyData) => RelV p.1 u ∧ ∃ as, Reads h u p.2 as) us ps → Vals (ps.map (·.1)) us
  | _, _, .nil => .nil
  | _, _, .cons a t => .cons a.1 (vals_of_each t)
def rSortedD (K : PySem.W.Frag) : List V → Hp → VK → Prop := fun vs H Q => ∃ (a : Addr) (xs : List V) (ds : List PyData), vs = [V.ref a] ∧ SqL K H a xs ∧ DpAll K H xs ds ∧ AllAlike ds ∧ Sortable ds ∧ (∀ d ∈ ds, d.depth ≤ 60) ∧
  ∀ (ps : List (V × PyData)) (p : Addr), ps.Perm (xs.zip ds) → H p = none → Q (.ref p) (upd H p (.lst (ps.map (·.1))))
theorem dpAll_len {K : PySem.W.Frag} {H : Hp} {vs : List V} {ds : List PyData} (h : DpAll K H vs ds) : vs.length = ds.length := h.len
theorem snd_zip {α β : Type} {xs : List α} {ds : List β} (hl : xs.length = ds.length) : (xs.zip ds).map (·.2) = ds := List.map_snd_zip (by omega)
theorem cr_sortedD (hu : X.A.units + 64 < cLine) : CallR X (.builtin "sorted") (rSortedD X.K) := by
  intro pins s σ H vs us Q I r h
  obtain ⟨a, xs, ds, rfl, hs, hd, hal, hk, hdep, q⟩ := h
  obtain ⟨its, rv, hl, hz⟩ := I.list hs
  rw [Vals.ref1 r]
  have hlx := hd.len
  have ez := each_zip rv hlx (Dp.readsAll I ds xs its hd rv)
  have e2 : (xs.zip ds).map (·.2) = ds := snd_zip hlx
  have hlz : (xs.zip ds).length = xs.length := by rw [List.length_zip]; omega
  refine sorted_data (enc := fun p : V × PyData => p.2) hl.isList ez (ez.mono fun _ _ z => z.2) (by rw [e2]; exact hal) (by rw [e2]; exact hk) (by rw [hlz]; exact hz) (fun p hp => ?_) fun out ho he => ?_
  · have : p.2 ∈ ds := by
      rw [← e2]
      exact List.mem_map.mpr ⟨p, hp, rfl⟩
    have := hdep _ this
    omega
  · have rv2 := vals_of_each he
    have pm : ((xs.zip ds).mergeSort (dataLe false fun p : V × PyData => p.2)).Perm (xs.zip ds) := List.mergeSort_perm _ _
    obtain ⟨ep, he'⟩ := PyProof.Rows.sortedAll_at s.heap its out.toArray
    have hlen : (((xs.zip ds).mergeSort (dataLe false fun p : V × PyData => p.2)).map (·.1)).length ≤ sizeLine := by
      rw [List.length_map, pm.length_eq, hlz]
      exact hz
    exact ⟨.ref _, upd H (s.heap.objs.size + 1) (.lst _), I.laid (t' := s.toks) (fun _ _ => PyProof.Rows.sortedAll_old) (Nat.le_succ _) ⟨hlen, out, ep, rv2, he'⟩, rfl, q _ _ pm (I.hok.fresh (Nat.le_succ _))⟩
end
end Sw
set_option Elab.async false
set_option linter.all false
set_option maxRecDepth 100000
set_option maxHeartbeats 1000000
set_option autoImplicit false
/-! enumerate(tuple), zip of three tuples; sorted(dict with tuple keys). -/
namespace Sw
open PySem PySem.Spec PyProof.Rows L2
open AutoSeq1 (wpAny_loadPart')
theorem meets_enumT (l : Addr) (items : Array Value) :
    Meets (Builtin.«enumerate.__new__» ⟨[.type "enumerate", .ref l], []⟩) (fun _ R s => s.heap.IsTuple l items ∧
      R (.ok (.ret (.ref (s.heap.push { cls := .type "tuple_iterator", data := .fields #[.ref l, .int 0 0] }).objs.size)))
        { s with heap := (s.heap.push { cls := .type "tuple_iterator", data := .fields #[.ref l, .int 0 0] }).push { cls := .type "enumerate", data := .fields #[.none, .bool false, .ref s.heap.objs.size, rawInt 0, .none, .none] } }) :=
  .of_wp fun prog w A R s h => by
    obtain ⟨hp, g, d, tk, os⟩ := s
    obtain ⟨hl, h⟩ := h
    have hsub := sub_enumerate
    have hL : Heap.IsTuple (Shared.heap ⟨hp, g, d, tk, os⟩) l items := hl
    wp_walk
    refine wpAny_stack_any fun st => wpAny_pure ?_
    split
    · rename_i c _ _ _ _ _
      cases (c == Value.type "enumerate")
      · wp_walk using wpAny_pyIter_tuple hL
        exact ⟨_, rfl, h⟩
      · wp_walk using wpAny_pyIter_tuple hL
        exact ⟨_, rfl, h⟩
    · wp_walk using wpAny_pyIter_tuple hL
      exact ⟨_, rfl, h⟩
section
variable {prog : Program} {w : World} {A : Around} {E : Value → Shared → Prop} {s : Shared}
theorem call_enumT {l : Addr} {items : Array Value} {Q : Value → Shared → Prop} (hL : s.heap.IsTuple l items)
    (h : ∀ h', IsEnum h' (s.heap.objs.size + 1) s.heap.objs.size 0 .none → h'.IsTupleIter s.heap.objs.size l 0 → h'.objs.size = s.heap.objs.size + 2 →
      (∀ b o, s.heap.get? b = some o → h'.get? b = some o) → Q (.ref (s.heap.objs.size + 1)) { s with heap := h' }) :
    wpAny (model prog w) A (call (.type "enumerate") [.ref l]) Q E s := by
  refine callType_new F.called_enumerate (by decide) (F.typeCall_enumerate_1 _) (F.newCall_enumerate_1 _) (fun obj => F.args_object_init_2 obj _) F.entry_enumerate_new
    (meets_enumT l items) ⟨hL, ?_⟩
  have hz : (s.heap.push { cls := .type "tuple_iterator", data := .fields #[.ref l, .int 0 0] }).objs.size = s.heap.objs.size + 1 := Heap.size_push ..
  show _ ∧ _
  rw [hz]
  have he : IsEnum ((s.heap.push { cls := .type "tuple_iterator", data := .fields #[.ref l, .int 0 0] }).push
      { cls := .type "enumerate", data := .fields #[.none, .bool false, .ref s.heap.objs.size, rawInt 0, .none, .none] }) (s.heap.objs.size + 1) s.heap.objs.size 0 .none := by
    have := Heap.get?_push_size (s.heap.push { cls := .type "tuple_iterator", data := .fields #[.ref l, .int 0 0] })
      (o := { cls := .type "enumerate", data := .fields #[.none, .bool false, .ref s.heap.objs.size, rawInt 0, .none, .none] }) rfl
    rw [hz] at this; exact this
  refine ⟨⟨_, he, rfl⟩, h _ he ⟨_, Heap.get?_push_of_some _ (Heap.get?_push_size _ rfl), rfl, rfl⟩ (by rw [Heap.size_push, hz]) fun b o x => Heap.get?_push_of_some _ (Heap.get?_push_of_some _ x)⟩
end
theorem drawT {prog : Program} {w : World} {A : Around} (hh : A.handled = none) (it t : Addr) (hne : t ≠ it) (items : Array Value) :
    Draws prog w A.in1 it [it, t] items.size (fun i v => items[i]? = some v) (fun i h => h.IsTupleIter it t i ∧ h.IsTuple t items) := Draws.tuple (A := A.in1) (show A.in1.handled = none from hh) it t hne items
/-- the tuple at a, each item in a new pair -/
def IteT (K : PySem.W.Frag) (a : Addr) : It :=
  ⟨fun i H => ∃ (xs : List V) (x : V), SqT K H a xs ∧ xs[i]? = some x, fun i H v H' => ∃ T x, v = .ref T ∧ H T = none ∧ H' = upd H T (.tup [.int (i : Nat), x]) ∧ ∀ xs, SqT K H a xs → xs[i]? = some x, fun i H => ∃ xs : List V, SqT K H a xs ∧ xs.length = i⟩
theorem turn_enumT {P : Program} {w : World} {K : PySem.W.Frag} {elts : List Expr} {kk : Nat} {tpos : Pos} (a e it : Addr) (hea : a ≠ it) (hee : e ≠ a) :
    Turn P w K (.Tuple elts kk tpos) (IteT K a) [e, it] e (fun i h => (∃ old, IsEnum h e it ((i : Nat) : Int) old) ∧ h.IsTupleIter it a i ∧ e ≠ it) where
  mem := by simp
  obj := fun i h st b hb => by
    obtain ⟨⟨old, he⟩, ⟨o, ho, hc, hd⟩, _⟩ := st
    have e' : b = e ∨ b = it := by simpa using hb
    rcases e' with z | z
    · rw [z]; exact ⟨_, he, fun v q => nomatch q⟩
    · rw [z]; exact ⟨o, ho, fun v q => by rw [hd] at q; cases q⟩
  keep := fun i h h' st k => let ⟨⟨old, he⟩, hi, hne⟩ := st; ⟨⟨old, k e (by simp) _ he⟩, hi.at fun o q => k it (by simp) o q, hne⟩
  item := by
    intro X hP hw hK hc i pins s σ H E I hf st hg
    subst hP hw hK
    obtain ⟨⟨old, he⟩, hit, hne⟩ := st
    obtain ⟨xs, x, hq, hx⟩ := hg
    obtain ⟨its, rv, p, hz⟩ := I.tuple hq
    obtain ⟨u, hu, ru⟩ := rv.get hx
    have hel : e < s.heap.objs.size := Heap.lt_size he
    have hil : it < s.heap.objs.size := by obtain ⟨_, q, _⟩ := hit; exact Heap.lt_size q
    have hi : i < its.toArray.size := by
      rw [List.size_toArray]
      exact (List.getElem?_eq_some_iff.mp hu).1
    refine wpAny_pyNext_enum_itemD (drawT (I.ok.hd hc) it a hea its.toArray) he ⟨hit, p⟩ hi hne (by simp [hne, hee]) fun x' h' tk hP ho hit' hT hsz hk => ?_
    have ex : x' = u := by
      rw [List.getElem?_toArray] at hP
      rw [hu] at hP
      exact (Option.some.inj hP).symm
    subst ex
    refine ⟨_, rfl, wpAny_letOwnedTupleGo_enum (s := { s with heap := h', toks := tk + 1 }) ho fun h'' he' sb => ?_⟩
    have hT2 : h''.get? s.heap.objs.size = some { cls := .type "tuple", data := .seq #[.int i tk, x'] } := (sb.2 _ (Nat.ne_of_gt hel)).trans hT
    have new : ObjOk X.prog X.w (upd H s.heap.objs.size (.tup [.int (i : Nat), x])) h'' s.heap.objs.size (.tup [.int (i : Nat), x]) :=
      ⟨by show 2 ≤ sizeLine; decide, [.int i tk, x'], .cons ⟨_, rfl⟩ (.cons ru .nil), ⟨_, hT2, rfl, _, rfl⟩⟩
    have I1 : Inv X pins σ (upd H s.heap.objs.size (.tup [.int (i : Nat), x])) { s with heap := h'', toks := tk + 1 } :=
      I.turnedNew (ch := [e, it]) (fun b ob hb q => (sb.2 b (fun z => hb (by simp [z]))).trans (hk b ob (fun z => hb (by simp [z])) (fun z => hb (by simp [z])) q)) hf (Nat.le_refl _) new
    refine ⟨.ref s.heap.objs.size, _, I1, rfl, ⟨_, x, rfl, I.hok.fresh (Nat.le_refl _), rfl, fun ys hy => by rw [I.tuple_inj hy hq]; exact hx⟩, ⟨⟨x', ?_⟩, hit'.1.at fun o q => (sb.2 it (Ne.symm hne)).trans q, hne⟩, fun b hb => ?_⟩
    · have e1 : ((i + 1 : Nat) : Int) = (i : Int) + 1 := by omega
      rw [e1]; exact he'
    · have hb' : b < s.heap.objs.size := by
        have e' : b = e ∨ b = it := by simpa using hb
        rcases e' with z | z
        · rw [z]; exact hel
        · rw [z]; exact hil
      rw [upd_ne (Nat.ne_of_lt hb')]
      exact (hf b hb).1
  done := by
    intro X hP hw hK hc i pins s σ H E I hf st hg
    subst hP hw hK
    obtain ⟨⟨old, he⟩, hit, hne⟩ := st
    obtain ⟨xs, hq, hx⟩ := hg
    obtain ⟨its, rv, p, hz⟩ := I.tuple hq
    obtain ⟨f0, f1, f2, f3, f4, f5⟩ := hf it (by simp)
    have hl := rv.length
    have hi : i = its.toArray.size := by
      rw [List.size_toArray]
      omega
    subst hi
    exact wpAny_pyNext_enum_endD (drawT (I.ok.hd hc) it a hea its.toArray) he ⟨hit, p⟩ fun h' eb => ⟨rfl, I.turned (t' := s.toks) (fun b o hb q => eb b o hb q) f0 f1 f3 f4 f5⟩
  self := fun A i s Q E st h => let ⟨⟨_, he⟩, _⟩ := st; wpAny_pyIter_enum he h
def iEnumT (K : PySem.W.Frag) (ta : TA) : TI := fun σ H R => ta σ H fun vs H1 => ∃ a xs, vs = [.ref a] ∧ SqT K H1 a xs ∧ R (IteT K a) H1
theorem pi_enumT {X : Cx} {e : Expr} {ta : TA} {p pos tpos : Pos} {elts : List Expr} {kk : Nat} (hg : Gl X "enumerate") (hm : X.mg "enumerate" = none) (ha : PA X [e] ta) (hs : starEach [e] X.env = [(false, eval e X.env)] := by rfl) :
    PI X (.Tuple elts kk tpos) (.Call (.Name "enumerate" p) [e] [] pos) (iEnumT X.K ta) := by
  refine ⟨fun pins s σ H R I h => ?_⟩
  refine Call_ (ld_blt I hg hm boot_enumerate (PyProof.Rows.callWith_type1 (thn (ha.run pos pins s σ H _ I h) fun us s1 ⟨vs, H1, I1, r1, q1⟩ => ?_) hs rfl))
  obtain ⟨a, xs, ex, hq, q⟩ := q1
  subst ex
  cases r1 with
  | cons r rr =>
    cases rr
    cases r
    obtain ⟨its, rv, p', hz⟩ := I1.tuple hq
    obtain ⟨oa, hoa, _⟩ := id p'
    have hal : a < s1.heap.objs.size := Heap.lt_size hoa
    refine call_enumT (show s1.heap.IsTuple a its.toArray from p') fun h' he hit hsz hk => wpAny_pyIter_enum he ?_
    have I2 : Inv X pins σ H1 { s1 with heap := h' } := I1.kept (t' := s1.toks) hk
    refine ⟨s1.heap.objs.size + 1, [s1.heap.objs.size + 1, s1.heap.objs.size], _, _, H1, rfl, I2, turn_enumT a (s1.heap.objs.size + 1) s1.heap.objs.size (Nat.ne_of_lt hal) (Nat.ne_of_gt (Nat.lt_succ_of_lt hal)), ⟨⟨.none, he⟩, hit, Nat.succ_ne_self _⟩, fun b hb => ?_, q⟩
    have e' : b = s1.heap.objs.size + 1 ∨ b = s1.heap.objs.size := by simpa using hb
    have hle : s1.heap.objs.size ≤ b := by
      rcases e' with z | z
      · rw [z]; exact Nat.le_add_right _ _
      · rw [z]; exact Nat.le_refl _
    exact I1.fpOk hle (I1.hok.fresh hle)

/-! ### zip of three tuples -/
def Itz3 (K : PySem.W.Frag) (a b c : Addr) : It :=
  ⟨fun i H => ∃ (xs ys zs : List V) (x y z : V), SqT K H a xs ∧ SqT K H b ys ∧ SqT K H c zs ∧ xs[i]? = some x ∧ ys[i]? = some y ∧ zs[i]? = some z,
    fun i H v H' => ∃ T x y z, v = .ref T ∧ H T = none ∧ H' = upd H T (.tup [x, y, z]) ∧ (∀ xs, SqT K H a xs → xs[i]? = some x) ∧ (∀ ys, SqT K H b ys → ys[i]? = some y) ∧ ∀ zs, SqT K H c zs → zs[i]? = some z,
    fun i H => ∃ xs ys zs : List V, SqT K H a xs ∧ SqT K H b ys ∧ SqT K H c zs ∧ xs.length = i ∧ ys.length = i ∧ zs.length = i⟩
theorem turn_zip3 {P : Program} {w : World} {K : PySem.W.Frag} {elts : List Expr} {kk : Nat} {tpos : Pos} {a b c z TI TO i1 i2 i3 : Addr} (D : ZipSep3 z TI TO i1 i2 i3 [i1, a] [i2, b] [i3, c]) (n1 : a ≠ i1) (n2 : b ≠ i2) (n3 : c ≠ i3) :
    Turn P w K (.Tuple elts kk tpos) (Itz3 K a b c) [z, TI, TO, i1, i2, i3] z (fun i h => IsZip h z TI TO .none ∧ IsTupOf3 h TI (.ref i1) (.ref i2) (.ref i3) ∧ (∃ x y w, IsTupOf3 h TO x y w) ∧ h.IsTupleIter i1 a i ∧ h.IsTupleIter i2 b i ∧ h.IsTupleIter i3 c i) where
  mem := by simp
  obj := fun i h st d hd => by
    obtain ⟨hz, hTI, ⟨x, y, w, hTO⟩, ⟨o1, e1, _, d1⟩, ⟨o2, e2, _, d2⟩, ⟨o3, e3, _, d3⟩⟩ := st
    have e' : d = z ∨ d = TI ∨ d = TO ∨ d = i1 ∨ d = i2 ∨ d = i3 := by simpa using hd
    rcases e' with q | q | q | q | q | q
    · rw [q]; exact ⟨_, hz, fun v q => nomatch q⟩
    · rw [q]; exact ⟨_, hTI, fun v q => nomatch q⟩
    · rw [q]; exact ⟨_, hTO, fun v q => nomatch q⟩
    · rw [q]; exact ⟨o1, e1, fun v q => by rw [d1] at q; cases q⟩
    · rw [q]; exact ⟨o2, e2, fun v q => by rw [d2] at q; cases q⟩
    · rw [q]; exact ⟨o3, e3, fun v q => by rw [d3] at q; cases q⟩
  keep := fun i h h' st k => by
    obtain ⟨hz, hTI, ⟨x, y, w, hTO⟩, h1, h2, h3⟩ := st
    exact ⟨k z (by simp) _ hz, k TI (by simp) _ hTI, ⟨x, y, w, k TO (by simp) _ hTO⟩, h1.at fun o q => k i1 (by simp) o q, h2.at fun o q => k i2 (by simp) o q, h3.at fun o q => k i3 (by simp) o q⟩
  item := by
    intro X hP hw hK hc i pins s σ H E I hf st hg
    subst hP hw hK
    obtain ⟨hz, hTI, ⟨x0, y0, w0, hTO⟩, h1, h2, h3⟩ := st
    obtain ⟨xs, ys, zs, x, y, w, hqx, hqy, hqz, hx, hy, hw⟩ := hg
    obtain ⟨its, rv, p, _⟩ := I.tuple hqx
    obtain ⟨its2, rv2, p2, _⟩ := I.tuple hqy
    obtain ⟨its3, rv3, p3, _⟩ := I.tuple hqz
    obtain ⟨u, hu, ru⟩ := rv.get hx
    obtain ⟨u2, hu2, ru2⟩ := rv2.get hy
    obtain ⟨u3, hu3, ru3⟩ := rv3.get hw
    have hzl : z < s.heap.objs.size := Heap.lt_size hz
    have sz : ∀ {l : List Value} {v : Value}, l[i]? = some v → i < l.toArray.size := fun {l v} e => by
      rw [List.size_toArray]
      exact (List.getElem?_eq_some_iff.mp e).1
    refine wpAny_pyNext_zipD3_item D (drawT (I.ok.hd hc) i1 a n1 its.toArray) (drawT (I.ok.hd hc) i2 b n2 its2.toArray) (drawT (I.ok.hd hc) i3 c n3 its3.toArray) hz hTI hTO ⟨h1, p⟩ ⟨h2, p2⟩ ⟨h3, p3⟩ (sz hu) (sz hu2) (sz hu3) fun v1 v2 v3 h' tk P1 P2 P3 z' TO' h1' h2' h3' hT hsz hk => ?_
    have ex : v1 = u ∧ v2 = u2 ∧ v3 = u3 := by
      rw [List.getElem?_toArray] at P1 P2 P3
      rw [hu] at P1
      rw [hu2] at P2
      rw [hu3] at P3
      exact ⟨(Option.some.inj P1).symm, (Option.some.inj P2).symm, (Option.some.inj P3).symm⟩
    obtain ⟨rfl, rfl, rfl⟩ := ex
    refine ⟨_, rfl, wpAny_letOwnedTupleGo_zip (s := { s with heap := h', toks := tk }) z' fun h'' z'' sb => ?_⟩
    have hT2 : h''.get? s.heap.objs.size = some { cls := .type "tuple", data := .seq #[v1, v2, v3] } := (sb.2 _ (Nat.ne_of_gt hzl)).trans hT
    have new : ObjOk X.prog X.w (upd H s.heap.objs.size (.tup [x, y, w])) h'' s.heap.objs.size (.tup [x, y, w]) :=
      ⟨by show 3 ≤ sizeLine; decide, [v1, v2, v3], .cons ru (.cons ru2 (.cons ru3 .nil)), ⟨_, hT2, rfl, _, rfl⟩⟩
    have I1 : Inv X pins σ (upd H s.heap.objs.size (.tup [x, y, w])) { s with heap := h'', toks := tk } :=
      I.turnedNew (ch := [z, TI, TO, i1, i2, i3]) (fun d o hb q => (sb.2 d (fun q' => hb (by simp [q']))).trans (hk d o (fun q' => hb (by simp [q'])) (fun q' => hb (by simp [q'])) (fun q' => hb (by simp [q'])) (fun q' => hb (by simp [q'])) (fun q' => hb (by simp [q'])) q)) hf (Nat.le_refl _) new
    have zi1 : i1 ≠ z := Ne.symm D.zi1
    have zi2 : i2 ≠ z := Ne.symm D.zi2
    have zi3 : i3 ≠ z := Ne.symm D.zi3
    refine ⟨.ref s.heap.objs.size, _, I1, rfl, ⟨_, x, y, w, rfl, I.hok.fresh (Nat.le_refl _), rfl, fun l hl => by rw [I.tuple_inj hl hqx]; exact hx, fun l hl => by rw [I.tuple_inj hl hqy]; exact hy, fun l hl => by rw [I.tuple_inj hl hqz]; exact hw⟩, ⟨z'', ?_, ⟨v1, v2, v3, ?_⟩, ?_, ?_, ?_⟩, fun d hcm => ?_⟩
    · exact (sb.2 _ D.TIz).trans (hk _ _ D.TIz D.TITO D.TIi1 D.TIi2 D.TIi3 hTI)
    · exact (sb.2 _ D.TOz).trans TO'
    · exact h1'.1.at fun o q => (sb.2 _ zi1).trans q
    · exact h2'.1.at fun o q => (sb.2 _ zi2).trans q
    · exact h3'.1.at fun o q => (sb.2 _ zi3).trans q
    · have hlt : d < s.heap.objs.size := by
        have e' : d = z ∨ d = TI ∨ d = TO ∨ d = i1 ∨ d = i2 ∨ d = i3 := by simpa using hcm
        rcases e' with q | q | q | q | q | q
        · rw [q]; exact hzl
        · rw [q]; exact Heap.lt_size hTI
        · rw [q]; exact Heap.lt_size hTO
        · rw [q]; obtain ⟨_, e1, _⟩ := h1; exact Heap.lt_size e1
        · rw [q]; obtain ⟨_, e2, _⟩ := h2; exact Heap.lt_size e2
        · rw [q]; obtain ⟨_, e2, _⟩ := h3; exact Heap.lt_size e2
      rw [upd_ne (Nat.ne_of_lt hlt)]
      exact (hf d hcm).1
  done := by
    intro X hP hw hK hc i pins s σ H E I hf st hg
    subst hP hw hK
    obtain ⟨hz, hTI, ⟨x0, y0, w0, hTO⟩, h1, h2, h3⟩ := st
    obtain ⟨xs, ys, zs, hqx, hqy, hqz, e1, e2, e3⟩ := hg
    obtain ⟨its, rv, p, _⟩ := I.tuple hqx
    obtain ⟨its2, rv2, p2, _⟩ := I.tuple hqy
    obtain ⟨its3, rv3, p3, _⟩ := I.tuple hqz
    have l1 := rv.length
    have l2 := rv2.length
    have l3 := rv3.length
    refine wpAny_pyNext_zipD3_end D (drawT (I.ok.hd hc) i1 a n1 its.toArray) (drawT (I.ok.hd hc) i2 b n2 its2.toArray) (drawT (I.ok.hd hc) i3 c n3 its3.toArray) hz hTI hTO ⟨h1, p⟩ ⟨h2, p2⟩ ⟨h3, p3⟩ (by rw [List.size_toArray]; omega) (by rw [List.size_toArray]; omega) (by rw [List.size_toArray]; omega) (.inl (by rw [List.size_toArray]; omega)) fun h' tk hk => ⟨rfl, ?_⟩
    exact I.turnedL (t' := tk) (ch := [z, TI, TO, i1, i2, i3]) (fun d o hb q =>
      hk d o (fun q' => hb (by simp [q'])) (fun q' => hb (by simp [q'])) (fun q' => hb (by simp [q'])) (fun q' => hb (by simp [q'])) (fun q' => hb (by simp [q'])) q) hf
  self := fun A i s Q E st h => wpAny_pyIter_zip st.1 h
theorem sep_nat (n a b c : Nat) (la : a < n) (lb : b < n) (lc : c < n) : ZipSep3 (n + 5) (n + 3) (n + 4) n (n + 1) (n + 2) [n, a] [n + 1, b] [n + 2, c] := by
  have q : ∀ x y : Nat, (x < y ∨ y < x) → x ≠ y := fun x y h => by omega
  have ina : ∀ d x y : Nat, (d < x ∨ x < d) → (d < y ∨ y < d) → ¬ (d ∈ [x, y]) := fun d x y h1 h2 => by
    have := q d x h1
    have := q d y h2
    simp [*]
  have f : ∀ k : Nat, n < n + k + 1 := fun k => by omega
  exact ⟨q (n + 3) (n + 5) (by omega), q (n + 4) (n + 5) (by omega), q (n + 3) (n + 4) (by omega), q (n + 3) n (by omega), List.mem_cons_self, ina (n + 5) n a (by omega) (by omega), ina (n + 4) n a (by omega) (by omega),
    q (n + 3) (n + 1) (by omega), List.mem_cons_self, ina (n + 5) (n + 1) b (by omega) (by omega), ina (n + 4) (n + 1) b (by omega) (by omega), q (n + 3) (n + 2) (by omega), List.mem_cons_self, ina (n + 5) (n + 2) c (by omega) (by omega), ina (n + 4) (n + 2) c (by omega) (by omega),
    ina n (n + 1) b (by omega) (by omega), ina n (n + 2) c (by omega) (by omega), ina (n + 1) n a (by omega) (by omega), ina (n + 1) (n + 2) c (by omega) (by omega), ina (n + 2) n a (by omega) (by omega), ina (n + 2) (n + 1) b (by omega) (by omega)⟩
def iZip3 (K : PySem.W.Frag) (ta : TA) : TI := fun σ H R => ta σ H fun vs H1 => ∃ a b c xs ys zs, vs = [.ref a, .ref b, .ref c] ∧ SqT K H1 a xs ∧ SqT K H1 b ys ∧ SqT K H1 c zs ∧ R (Itz3 K a b c) H1
theorem pi_zip3 {X : Cx} {e e2 e3 : Expr} {ta : TA} {p pos tpos : Pos} {elts : List Expr} {kk : Nat} (hg : Gl X "zip") (hm : X.mg "zip" = none) (ha : PA X [e, e2, e3] ta)
    (hs : starEach [e, e2, e3] X.env = (false, eval e X.env) :: starEach [e2, e3] X.env := by rfl) (hpl : (backTo pos (starEach [e2, e3] X.env)).any (·.1) = false := by rfl) :
    PI X (.Tuple elts kk tpos) (.Call (.Name "zip" p) [e, e2, e3] [] pos) (iZip3 X.K ta) := by
  refine ⟨fun pins s σ H R I h => ?_⟩
  refine Call_ (ld_blt I hg hm PyProof.Rows.boot_zip (PyProof.Rows.callWith_type1 (thn (ha.run pos pins s σ H _ I h) fun us s1 ⟨vs, H1, I1, r1, q1⟩ => ?_) hs hpl))
  obtain ⟨a, b, c, xs, ys, zs, ex, hqx, hqy, hqz, q⟩ := q1
  subst ex
  cases r1 with
  | cons r rr =>
    cases rr with
    | cons r' rr =>
      cases rr with
      | cons r'' rr =>
        cases rr
        cases r
        cases r'
        cases r''
        obtain ⟨its, rv, p1, _⟩ := I1.tuple hqx
        obtain ⟨its2, rv2, p2, _⟩ := I1.tuple hqy
        obtain ⟨its3, rv3, p3, _⟩ := I1.tuple hqz
        obtain ⟨o1, ho1, _⟩ := id p1
        obtain ⟨o2, ho2, _⟩ := id p2
        obtain ⟨o3, ho3, _⟩ := id p3
        have la := Heap.lt_size ho1
        have lb := Heap.lt_size ho2
        have lc := Heap.lt_size ho3
        refine zip_begins3 (begins_tuple a its.toArray) (begins_tuple b its2.toArray) (begins_tuple c its3.toArray) p1 p2 p3 fun h' hz hTI hTO h1 h2 h3 hsz hk => wpAny_pyIter_zip hz ?_
        have I2 : Inv X pins σ H1 { s1 with heap := h' } := I1.kept (t' := s1.toks) hk
        refine ⟨s1.heap.objs.size + 5, [s1.heap.objs.size + 5, s1.heap.objs.size + 3, s1.heap.objs.size + 4, s1.heap.objs.size, s1.heap.objs.size + 1, s1.heap.objs.size + 2], _, _, H1, rfl, I2, turn_zip3 (a := a) (b := b) (c := c) (i1 := s1.heap.objs.size) (i2 := s1.heap.objs.size + 1) (i3 := s1.heap.objs.size + 2) ?_ ?_ ?_ ?_, ⟨hz, hTI, ⟨_, _, _, hTO⟩, ⟨_, h1, rfl, rfl⟩, ⟨_, h2, rfl, rfl⟩, ⟨_, h3, rfl, rfl⟩⟩, fun d hcm => ?_, q⟩
        · exact sep_nat _ _ _ _ la lb lc
        · exact Nat.ne_of_lt la
        · exact Nat.ne_of_lt (Nat.lt_succ_of_lt lb)
        · exact Nat.ne_of_lt (Nat.lt_succ_of_lt (Nat.lt_succ_of_lt lc))
        · have e' : d = s1.heap.objs.size + 5 ∨ d = s1.heap.objs.size + 3 ∨ d = s1.heap.objs.size + 4 ∨ d = s1.heap.objs.size ∨ d = s1.heap.objs.size + 1 ∨ d = s1.heap.objs.size + 2 := by simpa using hcm
          have hle : s1.heap.objs.size ≤ d := by
            rcases e' with z | z | z | z | z | z <;> rw [z] <;> first | exact Nat.le_refl _ | exact Nat.le_add_right _ _
          exact I1.fpOk hle (I1.hok.fresh hle)
end Sw
set_option Elab.async false
set_option linter.all false
set_option maxRecDepth 100000
set_option maxHeartbeats 1000000
set_option autoImplicit false
namespace Sw
open PySem PySem.Spec PySem.W PyProof.Rows L2
/-! ### sorted(dict), keys triples of ints; sorted(dict), keys ints; int(x), str(x), text + text -/
abbrev key3 (q : Int × Int × Int) : List L2.Key := [.inl q.1, .inl q.2.1, .inl q.2.2]
abbrev d3 (q : Int × Int × Int) : PyData := .tuple [.int q.1, .int q.2.1, .int q.2.2]
theorem d3_alike (p q : Int × Int × Int) : alike (d3 p) (d3 q) = true := by simp [alike, alikeAll]
theorem d3_dep (p : Int × Int × Int) : (d3 p).depth ≤ 1 := by simp [PyData.depth, PyData.depthAll]
theorem dp3 {K : PySem.W.Frag} {H : Hp} {a : Addr} {q : Int × Int × Int} (h : H a = some (.tup ((key3 q).map kV))) : Dp K H (.ref a) (d3 q) :=
  .tup (.inl (.inl h)) (.cons (.int _) (.cons (.int _) (.cons (.int _) .nil)))
def rSortedDT : List V → Hp → VK → Prop := fun vs H Q => ∃ (a : Addr) (kvs : List (List L2.Key × V)) (ks : List (Int × Int × Int)), vs = [V.ref a] ∧ H a = some (.dT kvs) ∧ kvs.map (·.1) = ks.map key3 ∧
  ∀ (ps : List (Addr × (Int × Int × Int))) (p : Addr), (ps.map (·.2)).Perm ks → (∀ z ∈ ps, H z.1 = some (.tup ((key3 z.2).map kV))) → H p = none → Q (.ref p) (upd H p (.lst (ps.map fun z => V.ref z.1)))
theorem each_maps {α : Type} {R : Value → α → Prop} (f : α → Value) : ∀ (l : List α), (∀ z ∈ l, R (f z) z) → EachIs R (l.map f) l
  | [], _ => .nil
  | z :: l, h => .cons (h z (by simp)) (each_maps f l fun y hy => h y (List.mem_cons_of_mem _ hy))
theorem vals_each3 : ∀ {us : List Value} {ps : List (Addr × (Int × Int × Int))}, EachIs (fun u (p : Addr × (Int × Int × Int)) => u = .ref p.1) us ps → Vals (ps.map fun z => V.ref z.1) us
  | _, _, .nil => .nil
  | _, _, .cons a t => .cons (show RelV (V.ref _) _ from a) (vals_each3 t)
theorem cr_sortedDT {X : Cx} (hcalm : X.calm = true) (hu : X.A.units + 64 < cLine) : CallR X (.builtin "sorted") rSortedDT := by
  intro pins s σ H vs us Q I r h
  obtain ⟨a, kvs, ks, rfl, ha, hks, q⟩ := h
  rw [Vals.ref1 r]
  obtain ⟨z, hd, xs, rel, o, es, ep, ho, hx, hdt, he, his, hn⟩ := dt_of I.hok ha
  have l1 : es.size = xs.length := size_of_entries he
  have l2 : kvs.length = xs.length := Paired.length rel
  have l3 : kvs.length = ks.length := by
    have e := congrArg List.length hks
    rw [List.length_map, List.length_map] at e
    exact e
  have h16 : es.size ≤ sizeLine := by omega
  refine Calls.call_function_entry PyProof.Rows.kind_sorted PyProof.Rows.plain_sorted PyProof.Rows.entry_sorted (PyProof.Rows.args_sorted1 _) ?_
  unfold Builtin.«sorted»
  refine wpAny_bind (m := checkCount "sorted" 1 1 _) (wpAny_pure ?_)
  refine wpAny_bind (PySem.W.kdu_collect (A := X.A.in1) (kdl_raw hd hx hdt) (I.ok.hd hcalm) ho h16 fun h' tk acc hk it => ?_)
  have ea : acc.toList = xs.map fun x => Value.ref x.2.1 := by
    have hl : acc.toList.length = xs.length := by rw [Array.length_toList, it.1]; exact l1
    apply List.ext_getElem?
    intro j
    rw [List.getElem?_map]
    cases hj : acc.toList[j]? with
    | none =>
      have h1 := List.getElem?_eq_none_iff.mp hj
      rw [List.getElem?_eq_none (by omega)]
      all_goals rfl
    | some v =>
      obtain ⟨en, hen, hv⟩ := it.2 j v (by rw [← Array.getElem?_toList]; exact hj)
      have qe := entry_at he j
      rw [hen] at qe
      cases hb : xs[j]? with
      | none =>
        rw [hb] at qe
        exact nomatch (show some en = none from qe)
      | some b =>
        rw [hb] at qe
        have e2 : en = entryOfKey (tupleKind (mixKind X.prog X.w)) b := Option.some.inj qe
        rw [hv, e2]
        all_goals rfl
  -- the keys with their numbers
  obtain ⟨bs, eb1, eb2, eb3⟩ : ∃ bs : List (Addr × (Int × Int × Int)), bs.map (·.2) = ks ∧ bs.map (fun z => Value.ref z.1) = acc.toList ∧ ∀ z ∈ bs, H z.1 = some (.tup ((key3 z.2).map kV)) := by
    rw [ea]
    clear ea it hn his he l1 l2 l3 h16 hd hx hdt ho ha z q
    induction rel generalizing ks with
    | nil =>
      cases ks with
      | nil => exact ⟨[], rfl, rfl, fun _ h => by cases h⟩
      | cons k ks => simp at hks
    | @cons p q ps qs hq t ih =>
      cases ks with
      | nil => simp at hks
      | cons k ks =>
        rw [List.map_cons, List.map_cons] at hks
        injection hks with e1 e2
        obtain ⟨bs, b1, b2, b3⟩ := ih ks e2
        refine ⟨(q.2.1, k) :: bs, by rw [List.map_cons, b1], by rw [List.map_cons, List.map_cons, b2], fun z hz => ?_⟩
        rcases List.mem_cons.mp hz with e | hz
        · subst e
          rw [← e1]
          exact hq.2.1
        · exact b3 z hz
  have hal : acc.toList.length = bs.length := by rw [← eb2, List.length_map]
  have hbl : bs.length = ks.length := by rw [← eb1, List.length_map]
  have I1 : Inv X pins σ H { s with heap := h', toks := tk } := I.kept hk
  refine wpAny_bind (wpAny_newList ?_ (by rw [hal]; omega))
  have hoL : (h'.push (seqObj "list" acc.toList.toArray 0)).get? h'.objs.size = some (seqObj "list" acc.toList.toArray 0) := Heap.get?_push_size _ rfl
  show wpAny _ _ _ _ _ { s with heap := h'.push (seqObj "list" acc.toList.toArray 0), toks := tk }
  have old : ∀ b o, h'.get? b = some o → (sortingHeap (h'.push (seqObj "list" acc.toList.toArray 0)) h'.objs.size acc.toList).get? b = some o := fun b o e => sortingHeap_old (Nat.ne_of_lt (Heap.lt_size e)) (Heap.get?_push_of_some _ e)
  have er : EachIs (fun v (p : Addr × (Int × Int × Int)) => ∃ as, Reads (sortingHeap (h'.push (seqObj "list" acc.toList.toArray 0)) h'.objs.size acc.toList) v (d3 p.2) as) acc.toList bs := by
    rw [← eb2]
    refine each_maps (fun z => Value.ref z.1) bs fun z hz => ?_
    obtain ⟨as, r⟩ := Dp.reads I1 (d3 z.2) (.ref z.1) (.ref z.1) (dp3 (eb3 z hz)) rfl
    rw [← eb2] at old
    exact ⟨as, PyProof.Rows.Reads.keeps old r⟩
  have e0 : EachIs (fun v (p : Addr × (Int × Int × Int)) => v = .ref p.1) acc.toList bs := by
    rw [← eb2]
    exact each_maps (R := fun v (p : Addr × (Int × Int × Int)) => v = .ref p.1) (fun z => Value.ref z.1) bs fun z hz => rfl
  have hal' : AllAlike (bs.map fun p : Addr × (Int × Int × Int) => d3 p.2) := AllAlike.of fun b b' => d3_alike _ _
  have hk' : PySem.W.Sortable (bs.map fun p : Addr × (Int × Int × Int) => d3 p.2) := PySem.W.Sortable.tuples fun b => ⟨_, _, rfl⟩
  have S : SortsAt X.prog X.w X.A.in1.in1 { s with heap := sortingHeap (h'.push (seqObj "list" acc.toList.toArray 0)) h'.objs.size acc.toList, toks := tk } (dataKind (sortingHeap (h'.push (seqObj "list" acc.toList.toArray 0)) h'.objs.size acc.toList) (bs.map fun p => d3 p.2)) acc.toList :=
    SortsAt.data (s := { s with heap := sortingHeap (h'.push (seqObj "list" acc.toList.toArray 0)) h'.objs.size acc.toList, toks := tk }) (each_map (R := fun v d => ∃ as, Reads (sortingHeap (h'.push (seqObj "list" acc.toList.toArray 0)) h'.objs.size acc.toList) v d as) (fun p : Addr × (Int × Int × Int) => d3 p.2) er) hal' hk' fun d hd' => by
      obtain ⟨p, _, rfl⟩ := List.mem_map.mp hd'
      have := d3_dep p.2
      show X.A.units + 1 + 1 + _ < cLine
      omega
  have sv := sortVals_data false e0 er hal'
  have pm : (bs.mergeSort (dataLe false fun p : Addr × (Int × Int × Int) => d3 p.2)).Perm bs := List.mergeSort_perm _ _
  refine wpAny_bind (wpAny_holding (wpAny_call_entry PyProof.Rows.slot_list_sort ⟨_, hoL, rfl⟩ PyProof.Rows.entry_list_sort
    (list_sort_vals (s := { s with heap := h'.push (seqObj "list" acc.toList.toArray 0), toks := tk }) hoL S (by rw [hal]; omega) ⟨_, rfl, ?_⟩) (PyProof.Rows.args_list_sort _)))
  obtain ⟨e', he'⟩ := PyProof.Rows.sortedHeap_at (vs := acc.toList) (out := (sortVals (dataKind (sortingHeap (h'.push (seqObj "list" acc.toList.toArray 0)) h'.objs.size acc.toList) (bs.map fun p => d3 p.2)) false acc.toList acc.toList).toArray) hoL
  have hlen : ((bs.mergeSort (dataLe false fun p : Addr × (Int × Int × Int) => d3 p.2)).map fun z => V.ref z.1).length ≤ sizeLine := by
    rw [List.length_map, pm.length_eq]
    omega
  refine wpAny_pure ⟨_, rfl, .ref h'.objs.size, upd H h'.objs.size (.lst _), I1.laid (t' := tk) (fun b u e => ?_) (Nat.le_refl _)
    (show ObjOk X.prog X.w _ _ _ (.lst _) from ⟨hlen, _, e', vals_each3 sv, he'⟩), rfl, q _ _ (by rw [← eb1]; exact pm.map _) (fun z hz => eb3 z (pm.mem_iff.mp hz)) (I1.hok.fresh (Nat.le_refl _))⟩
  have hb : b < h'.objs.size := Heap.lt_size e
  rw [PyProof.Rows.sortedHeap_old (Nat.ne_of_lt hb) (by rw [size_push']; exact Nat.lt_succ_of_lt hb)]
  exact Heap.get?_push_of_some _ e
def rSortedDK : List V → Hp → VK → Prop := fun xs H Q => ∃ (a : Addr) (kvs : List (L2.Key × V)) (ks : List Int), xs = [.ref a] ∧ Rd H a (.dK kvs) ∧ kvs.map (·.1) = ks.map Sum.inl ∧ ks.length < 64 ∧
    ∀ (ys : List Int) (p : Addr), ys.Perm ks → ys.Pairwise (· ≤ ·) → H p = none → Q (.ref p) (upd H p (.lst (ys.map V.int)))
theorem cr_sortedDK {X : Cx} (hcalm : X.calm = true) : CallR X (.builtin "sorted") rSortedDK := call_sortedDI hcalm
def rIntS : List V → Hp → VK → Prop := fun xs H Q => ∃ i, xs = [.int i] ∧ Q (.int i) H
theorem cr_intS {X : Cx} : CallR X (.type "int") rIntS := fun pins s σ H xs us Q I r ⟨i, e, q⟩ => call_int1 pins s σ H xs us Q I r (.inl ⟨i, e, q⟩)
def rStrS : List V → Hp → VK → Prop := fun xs H Q => ∃ i, xs = [.int i] ∧ i.natAbs.log2 < 1920 ∧ Q (.str (toString i)) H
theorem cr_strS {X : Cx} : CallR X (.type "str") rStrS := call_str_int
def rAddSS : R2 := fun x y H Q => ∃ i j, x = .str i ∧ y = .str j ∧ i.length + j.length ≤ sizeLine ∧ Q (.str (i ++ j)) H
theorem op_addSS {X : Cx} : OpR X (binaryOp .Add) rAddSS := op_add_str

/-! ### x in t; a new tuple that is known to be plain; t.index(x) of such a tuple -/
section
variable {X : Cx}
theorem op_inTD (hu : X.A.units + 65 < cLine) : OpR X (compareOp .In) (rInTD X.K) := by
  intro pins s σ H x y v u Q I rx ry h
  obtain ⟨d, ds, hd, he, sd, se, q⟩ := h
  obtain ⟨as, r1⟩ := Dp.reads I d x v hd rx
  obtain ⟨bs, r2⟩ := Dp.reads I (.tuple ds) y u he ry
  exact SeqAt.in_tuple_reads r2 r1 (SeqAt.canLay_of_shaped se) (SeqAt.canLay_of_shaped sd) (room_in_shaped sd hu) ⟨.bl _, H, I, rfl, q⟩
def rTupF (K : PySem.W.Frag) : List V → Hp → VK → Prop := fun xs H Q => ∃ p ys, xs = [.ref p] ∧ SqL K H p ys ∧ ∀ l o, H l = none → o.dict = none → Q (.ref l) (upd H l (.frz o (.tup ys)))
theorem cr_tupF : CallR X (.type "tuple") (rTupF X.K) := by
  intro pins s σ H xs us Q I r h
  obtain ⟨p, ys, rfl, hq, q⟩ := h
  rw [Vals.ref1 r]
  obtain ⟨its, r', pl, hz⟩ := I.list hq
  have hlen := r'.length
  refine call_tuple_list pl.isList (fun h' kp => ?_) (by simp only [List.size_toArray] <;> omega)
  have I1 : Inv X pins σ H { s with heap := h' } := I.kept (t' := s.toks) kp
  have I2 : Inv X pins σ (upd H h'.objs.size (.frz { cls := .type "tuple", data := .seq its.toArray } (.tup ys))) { s with heap := h'.push { cls := .type "tuple", data := .seq its.toArray } } :=
    I1.laid (t' := s.toks) (fun b o e => Heap.get?_push_of_some _ e) (Nat.le_refl _) (show ObjOk X.prog X.w _ _ _ (.frz _ (.tup ys)) from ⟨Heap.get?_push_size _ rfl, hz, its, r', IsTup.new _ _⟩)
  exact ⟨.ref h'.objs.size, _, I2, rfl, q _ _ (I1.hok.fresh (Nat.le_refl _)) rfl⟩
def tIndexT (K : PySem.W.Frag) (to te : TE) : TE := fun σ H Q => to σ H fun x H1 => (∃ p o ys, x = .ref p ∧ H1 p = some (.frz o (.tup ys)) ∧ o.dict = none) ∧ te σ H1 fun y H2 => rIndexTD K x [y] H2 Q
theorem pe_indexT {o e : Expr} {to te : TE} {apos cpos : Pos} (hu : X.A.units + 65 < cLine) (ho : PE X o to) (ha : PE X e te)
    (hbase : attributeBase o "index" X.env (eval o X.env) = eval o X.env := by rfl)
    (hfew : ((backTo cpos (starEach [e] X.env)).all (fun x => !x.1) && (backToKw cpos (keywordEach [] X.env)).all (fun x => x.1.isSome)
      && decide (([e] : List Expr).length + ([] : List Keyword).length + (if ([] : List Keyword).isEmpty then 0 else 1) < 30)) = true := by rfl)
    (hline : (apos.endLine == cpos.line) = true := by rfl) (hs : starEach [e] X.env = (false, eval e X.env) :: starEach [] X.env := by rfl) (hplain : (backTo cpos (starEach [] X.env)).any (·.1) = false := by rfl) :
    PE X (.Call (.Attribute o "index" apos) [e] [] cpos) (tIndexT X.K to te) := by
  refine ⟨fun pins s σ H Q I h => ?_⟩
  refine wpAny_Call_method_late hbase hfew hline rfl (thn (ho.run pins s σ H _ I h) fun v s1 ⟨x, H1, I1, r1, ty, q1⟩ => ?_)
  obtain ⟨p, ob, ys, rfl, hp, hd⟩ := ty
  cases r1
  obtain ⟨hget, _, its, rv, o2, ho2, hc2, n2, hd2⟩ := (show ObjOk X.prog X.w H1 s1.heap p (.frz ob (.tup ys)) from I1.hok p _ hp)
  rw [hget] at ho2
  cases ho2
  refine ⟨"tuple", "tuple.index", PySem.F.plainAttrs_tuple, PySem.F.slot_tuple_index, PySem.F.type_tuple_index, ⟨ob, hget, hc2⟩, fun a e => by cases e; exact ⟨ob, hget, hd⟩, ?_⟩
  have hA := (pa_cons ha pa_nil hs).run cpos pins s1 σ H1 (fun xs H2 => ∃ y, xs = [y] ∧ rIndexTD X.K (.ref p) [y] H2 Q) I1 (by
    show te σ H1 fun y H2 => ∃ y', [y] = [y'] ∧ rIndexTD X.K (.ref p) [y'] H2 Q
    have e0 : (fun y H2 => rIndexTD X.K (.ref p) [y] H2 Q) = fun (y : V) H2 => ∃ y', [y] = [y'] ∧ rIndexTD X.K (.ref p) [y'] H2 Q := by
      funext y H2
      refine propext ⟨fun h => ⟨y, rfl, h⟩, fun ⟨y', e, h⟩ => ?_⟩
      cases e
      exact h
    rw [← e0]
    exact q1)
  rw [hs] at hA ⊢
  refine Calls.callWith_builtin (by show (false || (backTo cpos (starEach [] X.env)).any (·.1)) = false; rw [hplain] <;> rfl) (Calls.evalArgs_plain ?_)
  exact thn hA fun us s2 ⟨vs, H2, I2, r2, y, ey, q2⟩ => by
    subst ey
    exact mt_indexTD hu pins s2 σ H2 (.ref p) [y] (.ref p) us Q I2 rfl r2 q2
end
end Sw
set_option Elab.async false
set_option linter.all false
set_option maxRecDepth 100000
set_option maxHeartbeats 1000000
set_option autoImplicit false
namespace Sw
open PySem PySem.Spec PyProof.Rows L2
/-! ### short names of readings -/
abbrev rPlus : R2 := rI0 fun i j => .int (i + j)
abbrev rMinus : R2 := rI0 fun i j => .int (i - j)
abbrev rTimes : R2 := rI CMul fun i j => .int (i * j)
abbrev rTimesW : R2 := rI CMulW fun i j => .int (i * j)
abbrev rModI : R2 := rI (fun _ j => 0 < j) fun i j => .int (i % j)
abbrev rFdivI : R2 := rI CDiv fun i j => .int (i / j)
abbrev rFdivWI : R2 := rI CDivW fun i j => .int (i / j)
abbrev rPowI : R2 := rI CPow fun i j => .int (i ^ j.toNat)
abbrev rLtI : R2 := rI0 fun i j => .bl (decide (i < j))
abbrev rLeI : R2 := rI0 fun i j => .bl (decide (i ≤ j))
abbrev rGtI : R2 := rI0 fun i j => .bl (decide (j < i))
abbrev rGeI : R2 := rI0 fun i j => .bl (decide (j ≤ i))
abbrev rNeg : V → Hp → VK → Prop := rU fun i => .int (-i)
theorem hu65 {A : Around} {k : Nat} (hr : Room k A) : A.units + 65 < cLine := by have := hr.un; omega
/-! ### callees -/
structure Cl (P : Program) (w : World) (K : PySem.W.Frag) (mg : Str → Option Value) (base : Heap) (k : Nat) (x : Str) (sp : Sp) : Prop where
  ex : ∃ (f : Addr) (fd : FuncData) (ps : List Str), FnOk P w K mg base CX0 k f fd ps sp ∧ mg x = some (.ref f) ∧ PySem.W.keepIn K (.ref f) = true ∧ Binds K fd ps []
structure ClF (P : Program) (w : World) (K : PySem.W.Frag) (mg : Str → Option Value) (base : Heap) (k : Nat) (f : Addr) (sp : Sp) : Prop where
  ex : ∃ (fd : FuncData) (ps : List Str), FnOk P w K mg base CX0 k f fd ps sp ∧ PySem.W.keepIn K (.ref f) = true ∧ Binds K fd ps []
theorem Cl.f {P : Program} {w : World} {K : PySem.W.Frag} {mg : Str → Option Value} {base : Heap} {k : Nat} {x : Str} {sp : Sp} (c : Cl P w K mg base k x sp) {f : Addr} (g : mg x = some (.ref f)) : ClF P w K mg base k f sp := by
  obtain ⟨f', fd, ps, F, h1, h2, h3⟩ := c.ex
  rw [g] at h1
  cases h1
  exact ⟨fd, ps, F, h2, h3⟩
theorem ClF.mono {P : Program} {w : World} {K : PySem.W.Frag} {mg : Str → Option Value} {base : Heap} {k j : Nat} {f : Addr} {sp : Sp} (c : ClF P w K mg base k f sp) (h : k ≤ j) : ClF P w K mg base j f sp := by
  obtain ⟨fd, ps, F, h2, h3⟩ := c.ex
  exact ⟨fd, ps, F.mono h, h2, h3⟩
section
variable {X : Cx} {k j : Nat} {x : Str} {sp : Sp} {p pos : Pos} {e : Expr} {es : List Expr} {t : TA}
theorem pe_cl (c : Cl X.prog X.w X.K X.mg X.base k x sp) (hr : Room j X.A) (hk : k ≤ j) (hg : Gl X x) (ha : PA X (e :: es) t) (hdb : (x == ("__debug__" : Str)) = false := by decide) (he : starEach (e :: es) X.env = (false, eval e X.env) :: starEach es X.env := by rfl) (hpl : (backTo pos (starEach es X.env)).any (·.1) = false := by rfl) :
    PE X (.Call (.Name x p) (e :: es) [] pos) (tCall sp [] E0 t) := by
  obtain ⟨f, fd, ps, F, h1, h2, h3⟩ := c.ex
  exact pe_call F (hr.mono hk) hg h1 h2 h3 .nil pass0 ha hdb he hpl
theorem pe_cl0 (c : Cl X.prog X.w X.K X.mg X.base k x sp) (hr : Room j X.A) (hk : k ≤ j) (hg : Gl X x) (hdb : (x == ("__debug__" : Str)) = false := by decide) : PE X (.Call (.Name x p) [] [] pos) (tCall sp [] E0 tNil) := by
  obtain ⟨f, fd, ps, F, h1, h2, h3⟩ := c.ex
  exact pe_call0 F (hr.mono hk) hg h1 h2 h3 .nil pass0 hdb
theorem pe_cll {i : Nat} {f : Addr} (c : ClF X.prog X.w X.K X.mg X.base k f sp) (hr : Room j X.A) (hk : k ≤ j) (hN : X.N[i]? = some x) (hv : Vis X.env.scope x) (ha : PA X (e :: es) t) (hdb : (x == ("__debug__" : Str)) = false := by decide) (hcd : (x == ("__classdict__" : Str)) = false := by decide)
    (he : starEach (e :: es) X.env = (false, eval e X.env) :: starEach es X.env := by rfl) (hpl : (backTo pos (starEach es X.env)).any (·.1) = false := by rfl) : PE X (.Call (.Name x p) (e :: es) [] pos) (tCallL i f sp [] E0 t) := by
  obtain ⟨fd, ps, F, h2, h3⟩ := c.ex
  exact pe_callL F (hr.mono hk) hN hv h2 h3 .nil pass0 ha hdb hcd he hpl
end
/-! ### a def, from its walk at the data layer -/
abbrev FnP (K : PySem.W.Frag) (x : Str) (st : Stmt) (f : Addr) (fd : FuncData) : Prop := FunD K x x (defArgs st) (defBody st) (defScope st) [] [] f fd
def ds0 (N : List Str) (svs : List SV) : DS := svs.map some ++ List.replicate (N.length - svs.length) none
def RetOf (r : Ret) (sv : SV) (cs : CS) : Prop := match r with
  | .im d => sv = .im d
  | .cel c => ∃ l, sv = .raw (.ref l) ∧ ∃ j : Nat, cs[j]? = some (l, c)
  | .fz d => sv = .fz d
theorem slots0 {K : PySem.W.Frag} {Hb : Hp} {vs : List V} {svs : List SV} (r : RepAll K Hb vs svs) : ∀ (n : Nat) (i : Nat) (sv : SV), (svs.map some ++ List.replicate n none)[i]? = some (some sv) → ∃ v, (vs.map some ++ List.replicate n none)[i]? = some (some v) ∧ RepS K Hb v sv := by
  induction r with
  | nil =>
    intro n i sv h
    simp only [List.map_nil, List.nil_append] at h
    rw [List.getElem?_replicate] at h
    split at h <;> cases h
  | cons h t ih =>
    intro n i sv e
    cases i with
    | zero =>
      have e' := Option.some.inj (Option.some.inj (show some (some _) = some (some sv) from e))
      subst e'
      exact ⟨_, rfl, h⟩
    | succ i => exact ih n i sv e
section
variable {P : Program} {w : World} {K : PySem.W.Frag} {mg : Str → Option Value} {base : Heap}
theorem fn_F {x : Str} {st : Stmt} {f : Addr} {fd : FuncData} {N ps : List Str} {k : Nat} {t : TS} {γ : Type} {args : γ → List SV} {pre : γ → Prop} {post : γ → Ret → Prop} (F : FnP K x st f fd) (S : FnScope N ps (defScope st))
    (der : ∀ (cdv : Value) (A : Around) (outer : List Env) (s : Shared) (H : Hp) (E : XK), Room k (A.deeper (envOfC x (defScope st) s.heap.objs.size f cdv)) → PSs (cxOf CX0 P w K mg base N x (defScope st) f cdv A outer s H E).nox (defBody st) t)
    (hl : ∀ g, (args g).length = ps.length)
    (body : ∀ g, pre g → WS K t (ds0 N (args g)) [] { nx := fun _ _ => post g (.im .none), rt := fun sv cs => ∃ r, post g r ∧ RetOf r sv cs }) : FnOk P w K mg base CX0 (k + 1) f fd ps (SpF K args pre post) := by
  refine F.ok S (fun vs H Q E h => ?_) (fun cdv A outer s H vs Q E hr h => ⟨t, (der cdv A outer s H E hr).nox, ?_⟩)
  · obtain ⟨Hb, g, _, r, hp, _⟩ := h
    rw [r.len]
    exact hl g
  · obtain ⟨Hb, g, e0, r, hp, q⟩ := h
    have k0 : Ok K Hb (fun l o => Hb l = none ∧ H l = some o) (ds0 N (args g)) [] (L2.start N vs) H := by
      refine ⟨e0, ?_, ?_, fun p hp => (by cases hp), List.nodup_nil, fun l o z => ⟨.inl z.1, z.2⟩, fun p hp => (by cases hp)⟩
      · unfold ds0 L2.start
        rw [List.length_append, List.length_append, List.length_map, List.length_map, List.length_replicate, List.length_replicate, r.len]
      · unfold ds0 L2.start
        rw [r.len]
        exact slots0 r _
    have fz : ∀ {ds' : DS} {cs' : CS} {σ' : L2.St} {H' Hb' : Hp}, Ok K Hb' (fun l o => Hb l = none ∧ H l = some o) ds' cs' σ' H' → ∀ l o, Hb l = none → H l = some o → (Hb' l = none ∨ Imm o) ∧ H' l = some o := fun k' l o h1 h2 => k'.fz l o ⟨h1, h2⟩
    refine body g hp Hb _ _ H k0 _ ⟨fun ds' cs' σ' H' Hb' z s' k' => ?_, fun v sv ds' cs' σ' H' Hb' z s' k' rv => ?_, fun _ _ _ _ _ z => z.elim, fun _ _ _ _ _ z => z.elim⟩
    · exact q .non H' Hb' _ z s' k'.ex (fz k') .non
    · obtain ⟨r', hr', ho⟩ := z
      refine q v H' Hb' r' hr' s' k'.ex (fz k') ?_
      cases r' with
      | im d =>
        have e : sv = .im d := ho
        subst e
        exact rv
      | fz d =>
        have e : sv = .fz d := ho
        subst e
        exact rv
      | cel c =>
        obtain ⟨l, e, j, hj⟩ := ho
        subst e
        have hm := List.mem_of_getElem? hj
        obtain ⟨h1, o, h2, h3⟩ := k'.cell _ hm
        refine ⟨l, o, rv, ?_, h1, h2, h3⟩
        cases hH : H l with
        | none => rfl
        | some u =>
          have hbn : Hb l = none := by
            cases hb : Hb l with
            | none => rfl
            | some u' =>
              have := s' _ _ hb
              rw [h1] at this
              cases this
          exact absurd ⟨hbn, hH⟩ (k'.ap _ hm u)
/-- .. that is handed one cell -/
theorem fn_C {x : Str} {st : Stmt} {f : Addr} {fd : FuncData} {N ps : List Str} {k : Nat} {t : TS} {γ : Type} {args : γ → Addr → List SV} {pre : γ → Prop} {cell : γ → Cell} {post : γ → Ret → Cell → Prop} (F : FnP K x st f fd) (S : FnScope N ps (defScope st))
    (der : ∀ (cdv : Value) (A : Around) (outer : List Env) (s : Shared) (H : Hp) (E : XK), Room k (A.deeper (envOfC x (defScope st) s.heap.objs.size f cdv)) → PSs (cxOf CX0 P w K mg base N x (defScope st) f cdv A outer s H E).nox (defBody st) t)
    (hl : ∀ g l, (args g l).length = ps.length)
    (body : ∀ g l, pre g → WS K t (ds0 N (args g l)) [(l, cell g)] { nx := fun _ cs => ∃ c' cs', cs = (l, c') :: cs' ∧ post g (.im .none) c', rt := fun sv cs => ∃ r c' cs', cs = (l, c') :: cs' ∧ post g r c' ∧ RetOf r sv cs' }) : FnOk P w K mg base CX0 (k + 1) f fd ps (SpC K args pre cell post) := by
  refine F.ok S (fun vs H Q E h => ?_) (fun cdv A outer s H vs Q E hr h => ⟨t, (der cdv A outer s H E hr).nox, ?_⟩)
  · obtain ⟨Hb, g, l, o, _, r, _, _, _, hp, _⟩ := h
    rw [r.len]
    exact hl g l
  · obtain ⟨Hb, g, l, o, e0, r, g1, g2, g3, hp, q⟩ := h
    have k0 : Ok K Hb (fun a u => a ≠ l ∧ Hb a = none ∧ H a = some u) (ds0 N (args g l)) [(l, cell g)] (L2.start N vs) H := by
      refine ⟨e0, ?_, ?_, fun p hp => ?_, by simp, fun l o z => ⟨.inl z.2.1, z.2.2⟩, fun p hp u z => ?_⟩
      · unfold ds0 L2.start
        rw [List.length_append, List.length_append, List.length_map, List.length_map, List.length_replicate, List.length_replicate, r.len]
      · unfold ds0 L2.start
        rw [r.len]
        exact slots0 r _
      · have e : p = (l, cell g) := by simpa using hp
        subst e
        exact ⟨g1, o, g2, g3⟩
      · have e : p = (l, cell g) := by simpa using hp
        subst e
        exact z.1 rfl
    have fz : ∀ {ds' : DS} {cs' : CS} {σ' : L2.St} {H' Hb' : Hp}, Ok K Hb' (fun a u => a ≠ l ∧ Hb a = none ∧ H a = some u) ds' cs' σ' H' → ∀ a u, a ≠ l → Hb a = none → H a = some u → (Hb' a = none ∨ Imm u) ∧ H' a = some u := fun k' a u h0 h1 h2 => k'.fz a u ⟨h0, h1, h2⟩
    refine body g l hp Hb _ _ H k0 _ ⟨fun ds' cs' σ' H' Hb' z s' k' => ?_, fun v sv ds' cs' σ' H' Hb' z s' k' rv => ?_, fun _ _ _ _ _ z => z.elim, fun _ _ _ _ _ z => z.elim⟩
    · obtain ⟨c', cs2, e, hpost⟩ := z
      subst e
      exact q .non H' Hb' _ c' hpost s' k'.ex (fz k') (k'.cell _ List.mem_cons_self) .non
    · obtain ⟨r', c', cs2, e, hpost, ho⟩ := z
      subst e
      refine q v H' Hb' r' c' hpost s' k'.ex (fz k') (k'.cell _ List.mem_cons_self) ?_
      cases r' with
      | im d =>
        have e : sv = .im d := ho
        subst e
        exact rv
      | fz d =>
        have e : sv = .fz d := ho
        subst e
        exact rv
      | cel c2 =>
        obtain ⟨a, e, j, hj⟩ := ho
        subst e
        have hm : (a, c2) ∈ (l, c') :: cs2 := List.mem_cons_of_mem _ (List.mem_of_getElem? hj)
        obtain ⟨h1, o, h2, h3⟩ := k'.cell _ hm
        refine ⟨a, o, rv, ?_, h1, h2, h3⟩
        have nal : a ≠ l := fun e => by
          subst e
          have nd := k'.nd
          rw [List.map_cons, List.nodup_cons] at nd
          exact nd.1 (List.mem_map.mpr ⟨_, List.mem_of_getElem? hj, rfl⟩)
        cases hH : H a with
        | none => rfl
        | some u =>
          have hbn : Hb a = none := by
            cases hb : Hb a with
            | none => rfl
            | some u' =>
              have := s' _ _ hb
              rw [h1] at this
              cases this
          exact absurd ⟨nal, hbn, hH⟩ (k'.ap _ hm u)
end
end Sw
set_option Elab.async false
set_option linter.all false
set_option maxRecDepth 100000
set_option maxHeartbeats 1000000
set_option autoImplicit false
/-! More rules of the data layer. -/
namespace Sw
open PySem PySem.Spec PyProof.Rows L2
/-! ### tables -/
section
variable {κ : Type} [DecidableEq κ]
def lkp (kvs : List (κ × PyData)) (k : κ) : Option PyData := (kvs.find? fun kv => decide (kv.1 = k)).map (·.2)
def putD (kvs : List (κ × PyData)) (k : κ) (v : PyData) : List (κ × PyData) :=
  if (kvs.any fun kv => decide (kv.1 = k)) = true then kvs.map (fun kv => if kv.1 = k then (kv.1, v) else kv) else kvs ++ [(k, v)]
def dropD (kvs : List (κ × PyData)) (k : κ) : List (κ × PyData) := kvs.filter fun kv => decide (kv.1 ≠ k)
variable {K : PySem.W.Frag} {Hb : Hp}
theorem kv_any {ws : List (κ × V)} {kvs : List (κ × PyData)} (h : KvOk K Hb ws kvs) (k : κ) : (ws.any fun kv => decide (kv.1 = k)) = kvs.any fun kv => decide (kv.1 = k) := by
  induction h with
  | nil => rfl
  | cons h t ih => rw [List.any_cons, List.any_cons, ih, h.1]
theorem kv_lkp {ws : List (κ × V)} {kvs : List (κ × PyData)} (h : KvOk K Hb ws kvs) (k : κ) : (∃ v d, valV ws k = some v ∧ lkp kvs k = some d ∧ Dp K Hb v d) ∨ (valV ws k = none ∧ lkp kvs k = none) := by
  induction h with
  | nil => exact .inr ⟨rfl, rfl⟩
  | @cons p q ps qs h t ih =>
    by_cases e : p.1 = k
    · have e' : q.1 = k := h.1.symm.trans e
      exact .inl ⟨p.2, q.2, by simp [valV, List.find?_cons, e], by simp [lkp, List.find?_cons, e'], h.2⟩
    · have e' : ¬ q.1 = k := fun z => e (h.1.trans z)
      have e1 : valV (p :: ps) k = valV ps k := by simp [valV, List.find?_cons, e]
      have e2 : lkp (q :: qs) k = lkp qs k := by simp [lkp, List.find?_cons, e']
      rw [e1, e2]
      exact ih
theorem kv_repl {ws : List (κ × V)} {kvs : List (κ × PyData)} (h : KvOk K Hb ws kvs) (k : κ) {v : V} {d : PyData} (hv : Dp K Hb v d) : KvOk K Hb (ws.map fun kv => if kv.1 = k then (kv.1, v) else kv) (kvs.map fun kv => if kv.1 = k then (kv.1, d) else kv) := by
  induction h with
  | nil => exact .nil
  | @cons p q ps qs h t ih =>
    rw [List.map_cons, List.map_cons]
    refine .cons ?_ ih
    by_cases e : p.1 = k
    · rw [if_pos e, if_pos (h.1.symm.trans e)]
      exact ⟨h.1, hv⟩
    · rw [if_neg e, if_neg (fun z => e (h.1.trans z))]
      exact h
theorem kv_put {ws : List (κ × V)} {kvs : List (κ × PyData)} (h : KvOk K Hb ws kvs) (k : κ) {v : V} {d : PyData} (hv : Dp K Hb v d) : KvOk K Hb (putK ws k v) (putD kvs k d) := by
  unfold putK putD
  rw [kv_any h k]
  split
  · exact kv_repl h k hv
  · exact Paired.snoc h ⟨rfl, hv⟩
theorem kv_drop {ws : List (κ × V)} {kvs : List (κ × PyData)} (h : KvOk K Hb ws kvs) (k : κ) : KvOk K Hb (dropK ws k) (dropD kvs k) := by
  unfold dropK dropD
  induction h with
  | nil => exact .nil
  | @cons p q ps qs h t ih =>
    rw [List.filter_cons, List.filter_cons]
    by_cases e : p.1 = k
    · have a : ¬ decide (p.1 ≠ k) = true := by simp [e]
      have b : ¬ decide (q.1 ≠ k) = true := by simp [h.1.symm.trans e]
      rw [if_neg a, if_neg b]
      exact ih
    · have a : decide (p.1 ≠ k) = true := by simp [e]
      have e' : ¬ q.1 = k := fun z => e (h.1.trans z)
      have b : decide (q.1 ≠ k) = true := decide_eq_true e'
      rw [if_pos a, if_pos b]
      exact .cons h ih
theorem kv_keys {ws : List (κ × V)} {kvs : List (κ × PyData)} (h : KvOk K Hb ws kvs) : ws.map (·.1) = kvs.map (·.1) := by
  induction h with
  | nil => rfl
  | cons h t ih => rw [List.map_cons, List.map_cons, ih, h.1]
theorem kv_len {ws : List (κ × V)} {kvs : List (κ × PyData)} (h : KvOk K Hb ws kvs) : ws.length = kvs.length := by
  have := congrArg List.length (kv_keys h)
  rwa [List.length_map, List.length_map] at this
theorem lkp_mem {kvs : List (κ × PyData)} {k : κ} {d : PyData} (h : lkp kvs k = some d) : k ∈ kvs.map (·.1) := by
  unfold lkp at h
  obtain ⟨p, hp, rfl⟩ := Option.map_eq_some_iff.mp h
  have h1 := List.find?_some hp
  have h2 := List.mem_of_find?_eq_some hp
  exact List.mem_map.mpr ⟨p, h2, of_decide_eq_true h1⟩
theorem lkp_isSome {kvs : List (κ × PyData)} {k : κ} : (lkp kvs k).isSome = decide (k ∈ kvs.map (·.1)) := by
  induction kvs with
  | nil => rfl
  | cons p r ih =>
    by_cases e : p.1 = k
    · simp [lkp, List.find?_cons, e]
    · have e1 : lkp (p :: r) k = lkp r k := by simp [lkp, List.find?_cons, e]
      rw [e1, ih]
      have e' : ¬ k = p.1 := fun z => e z.symm
      simp [e']
theorem putD_keys {kvs : List (κ × PyData)} {k : κ} {v : PyData} (x : κ) : x ∈ (putD kvs k v).map (·.1) ↔ x ∈ kvs.map (·.1) ∨ x = k := by
  unfold putD
  split
  · rename_i h
    have e : (kvs.map fun kv => if kv.1 = k then (kv.1, v) else kv).map (·.1) = kvs.map (·.1) := by
      rw [List.map_map]
      refine List.map_congr_left fun p hp => ?_
      show (if p.1 = k then (p.1, v) else p).1 = p.1
      split <;> rfl
    rw [e]
    obtain ⟨p, hp, hk⟩ := List.any_eq_true.mp h
    constructor
    · exact .inl
    · rintro (h | h)
      · exact h
      · subst h
        exact List.mem_map.mpr ⟨p, hp, of_decide_eq_true hk⟩
  · simp
theorem putD_nodup {kvs : List (κ × PyData)} {k : κ} {v : PyData} (h : (kvs.map (·.1)).Nodup) : ((putD kvs k v).map (·.1)).Nodup := by
  unfold putD
  split
  · have e : (kvs.map fun kv => if kv.1 = k then (kv.1, v) else kv).map (·.1) = kvs.map (·.1) := by
      rw [List.map_map]
      refine List.map_congr_left fun p hp => ?_
      show (if p.1 = k then (p.1, v) else p).1 = p.1
      split <;> rfl
    rw [e]
    exact h
  · rename_i hn
    rw [List.map_append, List.nodup_append]
    refine ⟨h, by simp, fun a ha b hb e => hn ?_⟩
    have hb' : b = k := by simpa using hb
    subst hb'
    obtain ⟨p, hp, rfl⟩ := List.mem_map.mp ha
    exact List.any_eq_true.mpr ⟨p, hp, decide_eq_true e⟩
theorem lkp_pos {p : κ × PyData} {r : List (κ × PyData)} {k : κ} (e : p.1 = k) : lkp (p :: r) k = some p.2 := by simp [lkp, List.find?_cons, e]
theorem lkp_neg {p : κ × PyData} {r : List (κ × PyData)} {k : κ} (e : ¬ p.1 = k) : lkp (p :: r) k = lkp r k := by simp [lkp, List.find?_cons, e]
theorem lkp_map (k j : κ) (y : PyData) : ∀ kvs : List (κ × PyData), lkp (kvs.map fun kv => if kv.1 = k then (kv.1, y) else kv) j = (lkp kvs j).map fun x => if j = k then y else x
  | [] => rfl
  | p :: r => by
    have ih := lkp_map k j y r
    rw [List.map_cons]
    by_cases h : p.1 = k
    · rw [if_pos h]
      by_cases e : p.1 = j
      · rw [lkp_pos (p := (p.1, y)) e, lkp_pos e, Option.map_some, if_pos (e.symm.trans h)]
      · rw [lkp_neg (p := (p.1, y)) e, lkp_neg e, ih]
    · rw [if_neg h]
      by_cases e : p.1 = j
      · rw [lkp_pos (p := p) e, lkp_pos e, Option.map_some, if_neg (fun z => h (e.trans z))]
      · rw [lkp_neg (p := p) e, lkp_neg e, ih]
theorem lkp_none {kvs : List (κ × PyData)} {k : κ} : lkp kvs k = none ↔ k ∉ kvs.map (·.1) := by
  have h := lkp_isSome (kvs := kvs) (k := k)
  constructor
  · intro e
    rw [e] at h
    exact of_decide_eq_false h.symm
  · intro e
    rw [decide_eq_false e] at h
    cases q : lkp kvs k with
    | none => rfl
    | some x =>
      rw [q] at h
      cases h
theorem lkp_snoc {k j : κ} {y : PyData} : ∀ {kvs : List (κ × PyData)}, (kvs.any fun kv => decide (kv.1 = k)) ≠ true → lkp (kvs ++ [(k, y)]) j = if j = k then some y else lkp kvs j
  | [], _ => by
    by_cases e : k = j
    · rw [if_pos e.symm]
      exact lkp_pos (p := (k, y)) e
    · rw [if_neg (fun z => e z.symm)]
      exact lkp_neg (p := (k, y)) e
  | p :: r, hn => by
    rw [List.any_cons, Ne, Bool.or_eq_true, not_or] at hn
    have hk : ¬ p.1 = k := fun z => hn.1 (decide_eq_true z)
    have ih := lkp_snoc (j := j) (y := y) hn.2
    rw [List.cons_append]
    by_cases e : p.1 = j
    · rw [lkp_pos e, lkp_pos e, if_neg (fun z => hk (e.trans z))]
    · rw [lkp_neg e, lkp_neg e, ih]
theorem lkp_put {kvs : List (κ × PyData)} {k : κ} {v : PyData} (x : κ) : lkp (putD kvs k v) x = if x = k then some v else lkp kvs x := by
  unfold putD
  split
  · rename_i h
    rw [lkp_map]
    by_cases ex : x = k
    · subst ex
      obtain ⟨p, hp, hk⟩ := List.any_eq_true.mp h
      have hm : (lkp kvs x).isSome = true := by
        rw [lkp_isSome]
        exact decide_eq_true (List.mem_map.mpr ⟨p, hp, of_decide_eq_true hk⟩)
      obtain ⟨d, hd⟩ := Option.isSome_iff_exists.mp hm
      rw [hd, if_pos rfl, Option.map_some, if_pos rfl]
    · rw [if_neg ex]
      cases lkp kvs x with
      | none => rfl
      | some d => rw [Option.map_some, if_neg ex]
  · rename_i h
    exact lkp_snoc h
theorem dropD_keys {kvs : List (κ × PyData)} {k : κ} (x : κ) : x ∈ (dropD kvs k).map (·.1) ↔ x ∈ kvs.map (·.1) ∧ x ≠ k := by
  unfold dropD
  constructor
  · intro h
    obtain ⟨p, hp, rfl⟩ := List.mem_map.mp h
    obtain ⟨h1, h2⟩ := List.mem_filter.mp hp
    exact ⟨List.mem_map.mpr ⟨p, h1, rfl⟩, of_decide_eq_true h2⟩
  · rintro ⟨h, hx⟩
    obtain ⟨p, hp, rfl⟩ := List.mem_map.mp h
    exact List.mem_map.mpr ⟨p, List.mem_filter.mpr ⟨hp, decide_eq_true hx⟩, rfl⟩
theorem dropD_nodup {kvs : List (κ × PyData)} {k : κ} (h : (kvs.map (·.1)).Nodup) : ((dropD kvs k).map (·.1)).Nodup := (List.filter_sublist.map _).nodup h
end
/-! ### keys -/
def dKey : L2.Key → PyData
  | .inl i => .int i
  | .inr s => .str s
theorem keys_inv {K : PySem.W.Frag} {H : Hp} : ∀ {vs : List V} {ks : List L2.Key}, DpAll K H vs (ks.map dKey) → vs = ks.map kV
  | _, [], h => by
    cases h
    rfl
  | _, .inl i :: ks, h => by
    cases h with
    | cons h t =>
      cases h
      rw [keys_inv t]
      rfl
  | _, .inr i :: ks, h => by
    cases h with
    | cons h t =>
      cases h
      rw [keys_inv t]
      rfl
section
variable {K : PySem.W.Frag} {ds : DS} {cs : CS} {Φ : SV → CS → Prop} {te td ty tv to : TE} {ta : TA} {P : Post}
theorem Ok.tcell {Hb H : Hp} {Fz : Addr → HO → Prop} {σ : L2.St} {l : Addr} {j : Nat} {xs : List (List L2.Key × PyData)} (k : Ok K Hb Fz ds cs σ H) (hj : cs[j]? = some (l, .dt xs)) : ∃ ws, H l = some (.dT ws) ∧ KvOk K Hb ws xs := by
  obtain ⟨_, o, h1, h2⟩ := k.cell _ (List.mem_of_getElem? hj)
  obtain ⟨vs, rfl, h2⟩ := h2.dt
  exact ⟨vs, h1, h2⟩
theorem Ok.kcell {Hb H : Hp} {Fz : Addr → HO → Prop} {σ : L2.St} {l : Addr} {j : Nat} {xs : List (L2.Key × PyData)} (k : Ok K Hb Fz ds cs σ H) (hj : cs[j]? = some (l, .dk xs)) : ∃ ws, H l = some (.dK ws) ∧ KvOk K Hb ws xs := by
  obtain ⟨_, o, h1, h2⟩ := k.cell _ (List.mem_of_getElem? hj)
  obtain ⟨vs, rfl, h2⟩ := h2.dk
  exact ⟨vs, h1, h2⟩
theorem kv_isSome {κ : Type} [DecidableEq κ] {Hb : Hp} {ws : List (κ × V)} {kvs : List (κ × PyData)} (h : KvOk K Hb ws kvs) (k : κ) : (valV ws k).isSome = (lkp kvs k).isSome := by
  rcases kv_lkp h k with ⟨v, d, h1, h2, _⟩ | ⟨h1, h2⟩ <;> rw [h1, h2] <;> rfl
theorem wr_inDT {j : Nat} {l : Addr} {kvs : List (List L2.Key × PyData)} {k : List L2.Key} {es : List PyData} (he : es = k.map dKey) (hj : cs[j]? = some (l, .dt kvs)) (q : Φ (bB (lkp kvs k).isSome) cs) : WR K (rInDT K) (.im (.tuple es)) (.raw (.ref l)) ds cs Φ := fun Hb Fz σ H ok v w r1 r2 Q z => by
  subst he
  obtain ⟨a, xs, rfl, hs, ha⟩ := dp_tup_inv r1
  cases r2
  obtain ⟨ws, h1, h2⟩ := ok.tcell hj
  rw [keys_inv ha] at hs
  refine ⟨l, a, ws, k, rfl, rfl, h1, sqT_same ok.ex hs, ?_⟩
  rw [kv_isSome h2 k]
  exact z _ _ cs Hb H q (Same.refl _) ok rep_bl
theorem we_dgetT (h : WE K td ds cs fun x cs1 => WE K ty ds cs1 fun y cs2 => ∃ (l : Addr) (j : Nat) (kvs : List (List L2.Key × PyData)) (k : List L2.Key) (d : PyData), x = .raw (.ref l) ∧ y = .im (.tuple (k.map dKey)) ∧ cs2[j]? = some (l, .dt kvs) ∧ lkp kvs k = some d ∧ Φ (.im d) cs2) :
    WE K (tDGetT K td ty) ds cs Φ := fun Hb Fz σ H ok Q z => by
  refine h Hb Fz σ H ok _ fun v x cs1 Hb1 H1 h1 s1 k1 r1 => ?_
  refine h1 Hb1 Fz σ H1 k1 _ fun w y cs2 Hb2 H2 h2 s2 k2 r2 => ?_
  obtain ⟨l, j, kvs, k, d, rfl, rfl, hj, hd, q⟩ := h2
  cases r1
  obtain ⟨a, xs, rfl, hs, ha⟩ := dp_tup_inv r2
  obtain ⟨ws, g1, g2⟩ := k2.tcell hj
  rw [keys_inv ha] at hs
  rcases kv_lkp g2 k with ⟨v, d', e1, e2, dp⟩ | ⟨_, e2⟩
  · rw [hd] at e2
    cases e2
    exact ⟨l, a, ws, k, v, rfl, rfl, g1, sqT_same k2.ex hs, e1, z _ _ cs2 Hb2 H2 q (s1.trans s2) k2 dp⟩
  · rw [hd] at e2
    cases e2
theorem we_popT (h : WE K te ds cs fun x cs1 => ∃ l : Addr, x = .raw (.ref l) ∧ (∃ (j : Nat) (kvs : List (List L2.Key × PyData)), cs1[j]? = some (l, .dt kvs)) ∧ WA K ta ds cs1 fun svs cs2 => ∃ (j : Nat) (kvs : List (List L2.Key × PyData)) (k : List L2.Key) (df : PyData), svs = [.im (.tuple (k.map dKey)), .im df] ∧ cs2[j]? = some (l, .dt kvs) ∧
      (∀ d, lkp kvs k = some d → Φ (.im d) (cs2.set j (l, .dt (dropD kvs k)))) ∧ (lkp kvs k = none → Φ (.im df) cs2)) : WE K (tBM K "dict" (rPopTS K) te ta) ds cs Φ := fun Hb Fz σ H ok Q z => by
  refine h Hb Fz σ H ok _ fun v x cs1 Hb1 H1 h1 s1 k1 r1 => ?_
  obtain ⟨l, rfl, ⟨j, kvs, hj⟩, h1⟩ := h1
  cases r1
  obtain ⟨ws, g1, g2⟩ := k1.tcell hj
  refine ⟨.inr (.inr (.inl ⟨rfl, .inr ⟨ws, g1⟩⟩)), ?_⟩
  refine h1 Hb1 Fz σ H1 k1 _ fun vs svs cs2 Hb2 H2 h2 s2 k2 r2 => ?_
  obtain ⟨j2, kvs2, k, df, rfl, hj2, q1, q2⟩ := h2
  obtain ⟨v, w, rfl, rv, rw'⟩ := rep2 r2
  obtain ⟨a, xs, rfl, hs, ha⟩ := dp_tup_inv rv
  rw [keys_inv ha] at hs
  obtain ⟨ws2, g3, g4⟩ := k2.tcell hj2
  refine ⟨l, ws2, k, a, w, rfl, rfl, g3, sqT_same k2.ex hs, fun v hv => ?_, fun hv => ?_⟩
  · rcases kv_lkp g4 k with ⟨v', d', e1, e2, dp⟩ | ⟨e1, _⟩
    · rw [hv] at e1
      cases e1
      exact z _ _ _ Hb2 _ (q1 d' e2) (s1.trans s2) (k2.setC hj2 (c' := .dt (dropD kvs2 k)) (kv_drop g4 k)) dp
    · rw [hv] at e1
      cases e1
  · rcases kv_lkp g4 k with ⟨v', d', e1, e2, dp⟩ | ⟨_, e2⟩
    · rw [hv] at e1
      cases e1
    · exact z _ _ _ Hb2 _ (q2 e2) (s1.trans s2) k2 rw'
theorem small6l' {n : Nat} (h : n < 1000000) : n < sizeLine := Nat.lt_trans h (by decide)
theorem ws_dput (h : WE K tv ds cs fun v cs1 => ∃ d, v = .im d ∧ WE K td ds cs1 fun x cs2 => ∃ l : Addr, x = .raw (.ref l) ∧ WA K ta ds cs2 fun svs cs3 => ∃ (j : Nat) (kvs : List (List L2.Key × PyData)) (k : List L2.Key), imAll svs = some (k.map dKey) ∧ k.length ≤ 1000000 ∧ cs3[j]? = some (l, .dt kvs) ∧ kvs.length < 1000000 ∧
      P.nx ds (cs3.set j (l, .dt (putD kvs k d)))) : WS K (sDPut td (tTup ta) tv) ds cs P := fun Hb Fz σ H ok D e => by
  refine h Hb Fz σ H ok _ fun v sv cs1 Hb1 H1 h1 s1 k1 r1 => ?_
  obtain ⟨d, rfl, h1⟩ := h1
  refine h1 Hb1 Fz σ H1 k1 _ fun x xv cs2 Hb2 H2 h2 s2 k2 r2 => ?_
  obtain ⟨l, rfl, h2⟩ := h2
  cases r2
  refine h2 Hb2 Fz σ H2 k2 _ fun vs svs cs3 Hb3 H3 h3 s3 k3 r3 => ?_
  obtain ⟨j, kvs, k, ek, hl, hj, hz, q⟩ := h3
  rw [imAll_eq ek] at r3
  have rk := keys_inv r3.dp
  subst rk
  refine ⟨by rw [List.length_map]; exact small6 hl, fun p hp => ?_⟩
  have k4 : Ok K (upd Hb3 p (.tup (k.map kV))) Fz ds cs3 σ (upd H3 p (.tup (k.map kV))) := k3.new hp
  obtain ⟨ws, g1, g2⟩ := k4.tcell hj
  have sm : Same Hb3 (upd Hb3 p (.tup (k.map kV))) := same_upd (k3.hbn hp)
  refine ⟨l, _, rfl, DPut.t g1 upd_same (by rw [kv_len g2]; exact small6l' hz), ?_⟩
  have s13 := ((s2.trans s3).trans sm)
  exact e.nx _ _ _ _ _ q ((s1.trans s2).trans (s3.trans sm)) (k4.setC hj (c' := .dt (putD kvs k d)) (kv_put g2 k (dp_mono s13 r1)))
theorem wg_subDK {d : PyData} {ti : TE} {Ξ : DS → CS → Prop} (h : WE K to ds cs fun x cs1 => ∃ l : Addr, x = .raw (.ref l) ∧ WE K ti ds cs1 fun y cs2 => ∃ (i : Int) (j : Nat) (kvs : List (L2.Key × PyData)), y = iN i ∧ cs2[j]? = some (l, .dk kvs) ∧ kvs.length < 1000000 ∧ Ξ ds (cs2.set j (l, .dk (putD kvs (.inl i) d)))) :
    WG K (gSub to ti rSetDK) (.im d) ds cs Ξ := fun Hb Fz σ H ok v r Q z => by
  refine h Hb Fz σ H ok _ fun x xv cs1 Hb1 H1 h1 s1 k1 r1 => ?_
  obtain ⟨l, rfl, h1⟩ := h1
  cases r1
  refine h1 Hb1 Fz σ H1 k1 _ fun y yv cs2 Hb2 H2 h2 s2 k2 r2 => ?_
  obtain ⟨i, j, kvs, rfl, hj, hz, q⟩ := h2
  cases r2
  obtain ⟨ws, g1, g2⟩ := k2.kcell hj
  exact ⟨l, ws, .inl i, rfl, rfl, g1, by rw [kv_len g2]; exact small6l' hz, z _ _ _ _ Hb2 q (s1.trans s2) (k2.setC hj (c' := .dk (putD kvs (.inl i) d)) (kv_put g2 _ (dp_mono (s1.trans s2) r)))⟩
theorem we_dnewK (q : ∀ l, Φ (.raw (.ref l)) (cs ++ [(l, .dk [])])) : WE K tDNewK ds cs Φ := fun Hb Fz σ H ok Q z p hp => z _ _ _ Hb _ (q p) (Same.refl _) (ok.newC (c := .dk []) hp .nil) rfl
theorem we_dnewT (q : ∀ l, Φ (.raw (.ref l)) (cs ++ [(l, .dt [])])) : WE K tDNewT ds cs Φ := fun Hb Fz σ H ok Q z p hp => z _ _ _ Hb _ (q p) (Same.refl _) (ok.newC (c := .dt []) hp .nil) rfl
/-! ### sorting -/
theorem wc_sortedDK {j : Nat} {l : Addr} {kvs : List (L2.Key × PyData)} {ks : List Int} (hj : cs[j]? = some (l, .dk kvs)) (hk : kvs.map (·.1) = ks.map Sum.inl) (h64 : ks.length < 64) (q : ∀ ys : List Int, ys.Perm ks → ys.Pairwise (· ≤ ·) → NewL (ys.map .int) cs Φ) :
    WC K rSortedDK [.raw (.ref l)] ds cs Φ := fun Hb Fz σ H k vs r Q z => by
  obtain ⟨v, rfl, r0⟩ := rep1 r
  cases r0
  obtain ⟨ws, h1, h2⟩ := k.kcell hj
  exact ⟨l, ws, ks, rfl, .inl h1, (kv_keys h2).trans hk, h64, fun ys p g1 g2 hp => new_list k hp (DpAll.ints ys) (q ys g1 g2) z⟩
theorem dpAll_refs {Hb : Hp} : ∀ {ps : List (Addr × (Int × Int × Int))}, (∀ z ∈ ps, Hb z.1 = some (.tup ((key3 z.2).map kV))) → DpAll K Hb (ps.map fun z => V.ref z.1) ((ps.map (·.2)).map d3)
  | [], _ => .nil
  | z :: ps, h => .cons (dp3 (h z (by simp))) (dpAll_refs fun y hy => h y (List.mem_cons_of_mem _ hy))
end
end Sw
set_option Elab.async false
set_option linter.all false
set_option maxRecDepth 100000
set_option maxHeartbeats 1000000
set_option autoImplicit false
namespace Sw
open PySem PySem.Spec PyProof.Rows L2
section
variable {K : PySem.W.Frag} {ds : DS} {cs : CS} {Φ : SV → CS → Prop} {te td ty tv to : TE} {ta : TA} {P : Post}
theorem wc_sortedDT {j : Nat} {l : Addr} {kvs : List (List L2.Key × PyData)} {ks : List (Int × Int × Int)} (hj : cs[j]? = some (l, .dt kvs)) (hk : kvs.map (·.1) = ks.map key3) (q : ∀ ys : List (Int × Int × Int), ys.Perm ks → NewL (ys.map d3) cs Φ) :
    WC K rSortedDT [.raw (.ref l)] ds cs Φ := fun Hb Fz σ H k vs r Q z => by
  obtain ⟨v, rfl, r0⟩ := rep1 r
  cases r0
  obtain ⟨ws, h1, h2⟩ := k.tcell hj
  refine ⟨l, ws, ks, rfl, h1, (kv_keys h2).trans hk, fun ps p g1 g2 hp => ?_⟩
  obtain ⟨Hb', s1, k1, e1⟩ := k.adopt (ps.map (·.1)) fun a ha => by
    obtain ⟨y, hy, rfl⟩ := List.mem_map.mp ha
    exact ⟨_, g2 y hy⟩
  have hd := dpAll_refs (K := K) (Hb := Hb') fun y hy => (e1 y.1 (List.mem_map.mpr ⟨y, hy, rfl⟩)).trans (g2 y hy)
  exact new_list k1 hp hd (q (ps.map (·.2)) g1) fun v sv cs' Hb'' H'' f s2 k2 r2 => z v sv cs' Hb'' H'' f (s1.trans s2) k2 r2
theorem dpAll_perm {Hb : Hp} {vs : List V} {xs : List PyData} (hd : DpAll K Hb vs xs) {ps : List (V × PyData)} (h : ps.Perm (vs.zip xs)) : DpAll K Hb (ps.map (·.1)) (ps.map (·.2)) ∧ (ps.map (·.2)).Perm xs := by
  have hall : ∀ p ∈ ps, Dp K Hb p.1 p.2 := fun p hp => by
    obtain ⟨i, hi⟩ := List.mem_iff_getElem?.mp (h.mem_iff.mp hp)
    obtain ⟨h1, h2⟩ := List.getElem?_zip_eq_some.mp hi
    obtain ⟨w, hw, dw⟩ := hd.get h2
    rw [h1] at hw
    cases hw
    exact dw
  refine ⟨?_, ?_⟩
  · clear h
    induction ps with
    | nil => exact .nil
    | cons p ps ih => exact .cons (hall p (by simp)) (ih fun q hq => hall q (List.mem_cons_of_mem _ hq))
  · have := h.map (·.2)
    rwa [snd_zip hd.len] at this
theorem wc_sortedD {xs : List PyData} (hal : PySem.W.AllAlike xs) (hk : PySem.W.Sortable xs) (hd : ∀ d ∈ xs, d.depth ≤ 60) (q : ∀ ys : List PyData, ys.Perm xs → NewL ys cs Φ) : WC K (rSortedD K) [.im (.list xs)] ds cs Φ := fun Hb Fz σ H k vs r Q z => by
  obtain ⟨v, rfl, r0⟩ := rep1 r
  obtain ⟨a, ws, rfl, h1, h2⟩ := dp_lst_inv r0
  refine ⟨a, ws, xs, rfl, k.ex.seq h1, dpAll_mono k.ex h2, hal, hk, hd, fun ps p g1 hp => ?_⟩
  obtain ⟨e1, e2⟩ := dpAll_perm h2 g1
  exact new_list k hp e1 (q _ e2) z
theorem wc_intS {i : Int} (q : Φ (iN i) cs) : WC K rIntS [iN i] ds cs Φ := fun Hb Fz σ H k vs r Q z => by
  obtain ⟨v, rfl, r0⟩ := rep1 r
  cases r0
  exact ⟨i, rfl, z _ _ cs Hb H q (Same.refl _) k rep_int⟩
theorem wc_strS {i : Int} (hi : i.natAbs.log2 < 1920) (q : Φ (.im (.str (toString i))) cs) : WC K rStrS [iN i] ds cs Φ := fun Hb Fz σ H k vs r Q z => by
  obtain ⟨v, rfl, r0⟩ := rep1 r
  cases r0
  exact ⟨i, rfl, hi, z _ _ cs Hb H q (Same.refl _) k (.str _)⟩
theorem wr_addSS {x y : Str} (hl : x.length + y.length ≤ 1000000) (q : Φ (.im (.str (x ++ y))) cs) : WR K rAddSS (.im (.str x)) (.im (.str y)) ds cs Φ := fun Hb Fz σ H k v w r1 r2 Q z => by
  cases r1
  cases r2
  exact ⟨x, y, rfl, rfl, small6 hl, z _ _ cs Hb H q (Same.refl _) k (.str _)⟩
theorem wr_inTD {d : PyData} {es : List PyData} (h1 : SeqAt.shaped d = true) (h2 : SeqAt.shaped (.tuple es) = true) (q : Φ (bB (es.any fun z => PyData.eqv z d)) cs) : WR K (rInTD K) (.im d) (.im (.tuple es)) ds cs Φ := fun Hb Fz σ H k v w r1 r2 Q z =>
  ⟨d, es, dp_mono k.ex r1, dp_mono k.ex r2, h1, h2, z _ _ cs Hb H q (Same.refl _) k (.bl _)⟩
theorem wc_tupF {xs : List PyData} (q : Φ (.fz (.tuple xs)) cs) : WC K (rTupF K) [.im (.list xs)] ds cs Φ := fun Hb Fz σ H k vs r Q z => by
  obtain ⟨v, rfl, r0⟩ := rep1 r
  obtain ⟨a, ws, rfl, h1, h2⟩ := dp_lst_inv r0
  refine ⟨a, ws, rfl, k.ex.seq h1, fun l o hl ho => ?_⟩
  have sm := same_upd (o := .frz o (.tup ws)) (k.hbn hl)
  exact z _ _ cs _ _ q sm (k.new hl) ⟨.tup (.inl (.inr ⟨o, upd_same⟩)) (dpAll_mono sm h2), l, o, ws, rfl, upd_same, ho⟩
theorem wr_ixTz {es : List PyData} {i : Int} {d : PyData} (e : atI es i = some d) (q : Φ (.im d) cs) : WR K (rIxT K) (.fz (.tuple es)) (iN i) ds cs Φ := fun Hb Fz σ H k v w r1 r2 Q z =>
  wr_ixT e q Hb Fz σ H k v w r1.1 r2 Q z
theorem we_indexT (h : WE K to ds cs fun x cs1 => ∃ es, x = .fz (.tuple es) ∧ WE K te ds cs1 fun y cs2 => ∃ (d : PyData) (j : Nat) (z : PyData), y = .im d ∧ SeqAt.shaped (.tuple es) = true ∧ SeqAt.shaped d = true ∧ es[j]? = some z ∧ PyData.eqv z d = true ∧ (∀ (m : Nat) (z' : PyData), m < j → es[m]? = some z' → PyData.eqv z' d = false) ∧ Φ (iN (j : Nat)) cs2) :
    WE K (tIndexT K to te) ds cs Φ := fun Hb Fz σ H ok Q z => by
  refine h Hb Fz σ H ok _ fun v x cs1 Hb1 H1 h1 s1 k1 r1 => ?_
  obtain ⟨es, rfl, h1⟩ := h1
  obtain ⟨d1, p, o, ys, rfl, hp, ho⟩ := r1
  refine ⟨⟨p, o, ys, rfl, k1.ex _ _ hp, ho⟩, ?_⟩
  refine h1 Hb1 Fz σ H1 k1 _ fun w y cs2 Hb2 H2 h2 s2 k2 r2 => ?_
  obtain ⟨d, j, zz, rfl, e1, e2, e3, e4, e5, q⟩ := h2
  exact ⟨p, w, d, es, j, zz, rfl, rfl, dp_mono (s2.trans k2.ex) d1, dp_mono k2.ex r2, e1, e2, e3, e4, e5, z _ _ cs2 Hb2 H2 q (s1.trans s2) k2 rep_int⟩
/-! ### slices with a step, stars -/
theorem dp_alt {Hb : Hp} : ∀ {vs : List V} {xs : List PyData}, DpAll K Hb vs xs → DpAll K Hb (alt vs) (alt xs)
  | _, _, .nil => .nil
  | _, _, .cons h .nil => .cons h .nil
  | _, _, .cons h (.cons _ t) => .cons h (dp_alt t)
theorem we_altC {a : Nat} (h : WE K te ds cs fun x cs1 => ∃ (l : Addr) (j : Nat) (xs : List PyData), x = .raw (.ref l) ∧ cs1[j]? = some (l, .lst xs) ∧ a ≤ xs.length ∧ NewL (alt (xs.drop a)) cs1 Φ) : WE K (tAlt K a te) ds cs Φ := fun Hb Fz σ H ok Q z => by
  refine h Hb Fz σ H ok _ fun v x cs1 Hb1 H1 h1 s1 k1 r1 => ?_
  obtain ⟨l, j, xs, rfl, hj, hl, q⟩ := h1
  cases r1
  obtain ⟨ws, g1, g2⟩ := k1.lcell hj
  refine ⟨l, ws, rfl, SqL.of g1, by rw [g2.len]; exact hl, fun p hp => new_list k1 hp (dp_alt (g2.drop a)) q fun v sv cs' Hb' H' f s2 k2 r2 => z v sv cs' Hb' H' f (s1.trans s2) k2 r2⟩
theorem repApp {Hb : Hp} : ∀ {vs us : List V} {es : List PyData} {svs : List SV}, DpAll K Hb vs es → RepAll K Hb us svs → RepAll K Hb (vs ++ us) (es.map .im ++ svs)
  | _, _, _, _, .nil, r => r
  | _, _, _, _, .cons h t, r => .cons h (repApp t r)
theorem wa_star {t : TA} {ΦA : List SV → CS → Prop} (h : WE K te ds cs fun x cs1 => ∃ es, x = .im (.tuple es) ∧ WA K t ds cs1 fun svs cs2 => ΦA (es.map .im ++ svs) cs2) : WA K (StX.tStar K te t) ds cs ΦA := fun Hb Fz σ H ok Q z => by
  refine h Hb Fz σ H ok _ fun v x cs1 Hb1 H1 h1 s1 k1 r1 => ?_
  obtain ⟨es, rfl, h1⟩ := h1
  obtain ⟨a, xs, rfl, hs, ha⟩ := dp_tup_inv r1
  refine ⟨a, xs, rfl, .inl (sqT_same k1.ex hs), ?_⟩
  refine h1 Hb1 Fz σ H1 k1 _ fun vs svs cs2 Hb2 H2 h2 s2 k2 r2 => z _ _ cs2 Hb2 H2 h2 (s1.trans s2) k2 ?_
  have ha2 := dpAll_mono s2 ha
  exact repApp ha2 r2
/-- a, b = x, y where the tuple is made -/
theorem ws_parT {i j : Nat} (h : WA K ta ds cs fun svs cs1 => ∃ a b, svs = [a, b] ∧ P.nx ((ds.set i (some a)).set j (some b)) cs1) : WS K (tAsg (tTup ta) (gTup K 2 (gCons (gName i) (gCons (gName j) gNil)))) ds cs P := fun Hb Fz σ H k D e => by
  refine h Hb Fz σ H k _ fun vs svs cs1 Hb1 H1 h1 s1 k1 r1 => ?_
  obtain ⟨a, b, rfl, q⟩ := h1
  obtain ⟨v, w, rfl, rv, rw'⟩ := rep2 r1
  refine ⟨by show 2 ≤ sizeLine; decide, fun p hp => ?_⟩
  have sm : Same Hb1 (upd Hb1 p (.tup [v, w])) := same_upd (k1.hbn hp)
  exact ⟨p, [v, w], rfl, .inl (.inl upd_same), rfl, v, [w], rfl, w, [], rfl, rfl, e.nx _ _ _ _ _ q (s1.trans sm) (((k1.new hp).setS (rv.mono sm)).setS (rw'.mono sm))⟩
end
/-! ### walks -/
section
variable {K : PySem.W.Frag} {ds : DS} {cs : CS} {te tb : TE} {ta : TA} {Ψ : List PyData → Option Addr → CS → Prop}
theorem wl_zipA (h : WA K ta ds cs fun svs cs1 => ∃ xs ys, svs = [.im (.tuple xs), .im (.tuple ys)] ∧ Ψ (pairsD xs ys) none cs1) : WL K (RZ.iZipA K ta) ds cs Ψ := fun Hb Fz σ H k R z => by
  refine h Hb Fz σ H k _ fun vs svs cs1 Hb1 H1 h1 s1 k1 r1 => ?_
  obtain ⟨xs, ys, rfl, q⟩ := h1
  obtain ⟨v, w, rfl, rv, rw'⟩ := rep2 r1
  obtain ⟨a, vs, rfl, g1, g2⟩ := dp_tup_inv rv
  obtain ⟨b, ws, rfl, g3, g4⟩ := dp_tup_inv rw'
  refine ⟨a, b, vs, ws, rfl, .inr ⟨sqT_same k1.ex g1, sqT_same k1.ex g3, z _ _ none cs1 Hb1 H1 q s1 k1 fun i Hb' H' e1 e2 _ => ?_⟩⟩
  have hx := sqT_same (e1.trans e2) g1
  have hy := sqT_same (e1.trans e2) g3
  refine ⟨fun p hp => ?_, fun hl => ⟨vs, ws, hx, hy, ?_⟩⟩
  · obtain ⟨x, y, ex, ey, rfl⟩ := pairsD_get hp
    obtain ⟨vx, fx, dx⟩ := g2.get ex
    obtain ⟨vy, fy, dy⟩ := g4.get ey
    refine ⟨⟨vs, ws, vx, vy, hx, hy, fx, fy⟩, fun v H'' yl => ?_⟩
    obtain ⟨T, x', y', rfl, hT, rfl, p1, p2⟩ := yl
    have q1 := p1 vs hx
    have q2 := p2 ws hy
    rw [fx] at q1
    rw [fy] at q2
    cases q1
    cases q2
    refine .inr ⟨T, _, hT, rfl, .tup (.inl (.inl upd_same)) ?_⟩
    have sm : Same Hb1 (upd Hb' T (.tup [vx, vy])) := e1.trans (same_upd (Same.free e2 hT))
    exact .cons (dp_mono sm dx) (.cons (dp_mono sm dy) .nil)
  · rw [pairsD_len] at hl
    rw [g2.len, g4.len]
    omega
def trip3 : List PyData → List PyData → List PyData → List PyData
  | x :: xs, y :: ys, z :: zs => .tuple [x, y, z] :: trip3 xs ys zs
  | _, _, _ => []
theorem trip3_get : ∀ {xs ys zs : List PyData} {i : Nat} {p : PyData}, (trip3 xs ys zs)[i]? = some p → ∃ x y z, xs[i]? = some x ∧ ys[i]? = some y ∧ zs[i]? = some z ∧ p = .tuple [x, y, z]
  | [], ys, zs, i, p, h => by simp [trip3] at h
  | x :: xs, [], zs, i, p, h => by simp [trip3] at h
  | x :: xs, y :: ys, [], i, p, h => by simp [trip3] at h
  | x :: xs, y :: ys, z :: zs, 0, p, h => by
    have e : PyData.tuple [x, y, z] = p := Option.some.inj h
    exact ⟨x, y, z, rfl, rfl, rfl, e.symm⟩
  | x :: xs, y :: ys, z :: zs, i + 1, p, h => trip3_get (xs := xs) (ys := ys) (zs := zs) (i := i) h
theorem trip3_len : ∀ {xs ys zs : List PyData}, xs.length = ys.length → ys.length = zs.length → (trip3 xs ys zs).length = xs.length
  | [], _, _, _, _ => rfl
  | x :: xs, [], zs, h, _ => by simp at h
  | x :: xs, y :: ys, [], _, h => by simp at h
  | x :: xs, y :: ys, z :: zs, h1, h2 => by
    show (trip3 xs ys zs).length + 1 = xs.length + 1
    rw [trip3_len (by simpa using h1) (by simpa using h2)]
theorem wl_zip3 (h : WA K ta ds cs fun svs cs1 => ∃ xs ys zs, svs = [.im (.tuple xs), .im (.tuple ys), .im (.tuple zs)] ∧ xs.length = ys.length ∧ ys.length = zs.length ∧ Ψ (trip3 xs ys zs) none cs1) : WL K (iZip3 K ta) ds cs Ψ := fun Hb Fz σ H k R z => by
  refine h Hb Fz σ H k _ fun vs svs cs1 Hb1 H1 h1 s1 k1 r1 => ?_
  obtain ⟨xs, ys, zs, rfl, l1, l2, q⟩ := h1
  cases r1 with
  | cons ru r1 =>
    obtain ⟨v, w, rfl, rv, rw'⟩ := rep2 r1
    obtain ⟨a, us, rfl, g1, g2⟩ := dp_tup_inv ru
    obtain ⟨b, vs, rfl, g3, g4⟩ := dp_tup_inv rv
    obtain ⟨c, ws, rfl, g5, g6⟩ := dp_tup_inv rw'
    refine ⟨a, b, c, us, vs, ws, rfl, sqT_same k1.ex g1, sqT_same k1.ex g3, sqT_same k1.ex g5, z _ _ none cs1 Hb1 H1 q s1 k1 fun i Hb' H' e1 e2 _ => ?_⟩
    have hx := sqT_same (e1.trans e2) g1
    have hy := sqT_same (e1.trans e2) g3
    have hz := sqT_same (e1.trans e2) g5
    refine ⟨fun p hp => ?_, fun hl => ?_⟩
    · obtain ⟨x, y, z', ex, ey, ez, rfl⟩ := trip3_get hp
      obtain ⟨vx, fx, dx⟩ := g2.get ex
      obtain ⟨vy, fy, dy⟩ := g4.get ey
      obtain ⟨vz, fz, dz⟩ := g6.get ez
      refine ⟨⟨us, vs, ws, vx, vy, vz, hx, hy, hz, fx, fy, fz⟩, fun v H'' yl => ?_⟩
      obtain ⟨T, x', y', z'', rfl, hT, rfl, p1, p2, p3⟩ := yl
      have q1 := p1 us hx
      have q2 := p2 vs hy
      have q3 := p3 ws hz
      rw [fx] at q1
      rw [fy] at q2
      rw [fz] at q3
      cases q1
      cases q2
      cases q3
      refine .inr ⟨T, _, hT, rfl, .tup (.inl (.inl upd_same)) ?_⟩
      have sm : Same Hb1 (upd Hb' T (.tup [vx, vy, vz])) := e1.trans (same_upd (Same.free e2 hT))
      exact .cons (dp_mono sm dx) (.cons (dp_mono sm dy) (.cons (dp_mono sm dz) .nil))
    · rw [trip3_len l1 l2] at hl
      exact ⟨us, vs, ws, hx, hy, hz, by rw [g2.len]; exact hl, by rw [g4.len, ← l1]; exact hl, by rw [g6.len, ← l2, ← l1]; exact hl⟩
def enumD (n : Nat) : List PyData → List PyData
  | [] => []
  | x :: xs => .tuple [.int n, x] :: enumD (n + 1) xs
theorem enumD_get : ∀ {n : Nat} {xs : List PyData} {i : Nat} {p : PyData}, (enumD n xs)[i]? = some p → ∃ x, xs[i]? = some x ∧ p = .tuple [.int ((n + i : Nat) : Int), x]
  | n, [], i, p, h => by simp [enumD] at h
  | n, x :: xs, 0, p, h => by
    have e : PyData.tuple [.int n, x] = p := Option.some.inj h
    exact ⟨x, rfl, e.symm⟩
  | n, x :: xs, i + 1, p, h => by
    obtain ⟨y, h1, h2⟩ := enumD_get (n := n + 1) (xs := xs) (i := i) h
    exact ⟨y, h1, by rw [h2, show n + 1 + i = n + (i + 1) by omega]⟩
theorem enumD_len : ∀ {n : Nat} {xs : List PyData}, (enumD n xs).length = xs.length
  | _, [] => rfl
  | n, x :: xs => by
    show (enumD (n + 1) xs).length + 1 = xs.length + 1
    rw [enumD_len]
theorem wl_enumT (h : WA K ta ds cs fun svs cs1 => ∃ xs, svs = [.im (.tuple xs)] ∧ Ψ (enumD 0 xs) none cs1) : WL K (iEnumT K ta) ds cs Ψ := fun Hb Fz σ H k R z => by
  refine h Hb Fz σ H k _ fun vs svs cs1 Hb1 H1 h1 s1 k1 r1 => ?_
  obtain ⟨xs, rfl, q⟩ := h1
  obtain ⟨v, rfl, rv⟩ := rep1 r1
  obtain ⟨a, us, rfl, g1, g2⟩ := dp_tup_inv rv
  refine ⟨a, us, rfl, sqT_same k1.ex g1, z _ _ none cs1 Hb1 H1 q s1 k1 fun i Hb' H' e1 e2 _ => ?_⟩
  have hx := sqT_same (e1.trans e2) g1
  refine ⟨fun p hp => ?_, fun hl => ?_⟩
  · obtain ⟨x, ex, rfl⟩ := enumD_get hp
    obtain ⟨vx, fx, dx⟩ := g2.get ex
    refine ⟨⟨us, vx, hx, fx⟩, fun v H'' yl => ?_⟩
    obtain ⟨T, x', rfl, hT, rfl, p1⟩ := yl
    have q1 := p1 us hx
    rw [fx] at q1
    cases q1
    refine .inr ⟨T, _, hT, rfl, .tup (.inl (.inl upd_same)) ?_⟩
    have sm : Same Hb1 (upd Hb' T (.tup [.int (i : Nat), vx])) := e1.trans (same_upd (Same.free e2 hT))
    rw [Nat.zero_add]
    exact .cons (.int _) (.cons (dp_mono sm dx) .nil)
  · rw [enumD_len] at hl
    exact ⟨us, hx, by rw [g2.len]; exact hl⟩
end
theorem Ok.reslot' {K : PySem.W.Frag} {Hb Hb2 H H2 : Hp} {Fz Fz0 : Addr → HO → Prop} {ds ds2 : DS} {cs cs2 : CS} {σ σ2 : L2.St} (k : Ok K Hb Fz0 ds cs σ H) (k2 : Ok K Hb2 Fz ds2 cs2 σ2 H2) (s : Same Hb Hb2) : Ok K Hb2 Fz ds cs2 σ H2 :=
  ⟨k2.ex, k.len, fun i sv e => let ⟨v, h1, h2⟩ := k.slot i sv e; ⟨v, h1, h2.mono s⟩, k2.cell, k2.nd, k2.fz, k2.ap⟩
/-! ### a comprehension of two fors -/
section
variable {K : PySem.W.Frag} {ds : DS} {cs : CS} {Φ : SV → CS → Prop} {wi wi1 : TI} {g g1 : TG} {tt tt1 : TT} {te : TE} {vs vs1 : List Nat}
theorem we_lc2 (hg : Gk g vs) (hg1 : Gk g1 vs1) (h : WL K wi ds cs fun xs src cs1 => xs.length ≤ 1000 ∧ ∃ Inv : Nat → List PyData → CS → Prop, Inv 0 [] cs1 ∧ (∀ i acc cs', Inv i acc cs' → SrcOk src xs cs') ∧
      (∀ i x acc cs', xs[i]? = some x → Inv i acc cs' → WG K g (.im x) (wipeD ds vs) cs' fun ds2 cs2 => WT K tt ds2 cs2 fun b cs3 => (b = true → WL K wi1 ds2 cs3 fun ys src1 cs4 => ys.length ≤ 1000 ∧ ∃ Inv1 : Nat → List PyData → CS → Prop, Inv1 0 acc cs4 ∧ (∀ j acc cs', Inv1 j acc cs' → SrcOk src1 ys cs') ∧
          (∀ j y acc cs', ys[j]? = some y → Inv1 j acc cs' → WG K g1 (.im y) (wipeD ds2 vs1) cs' fun ds3 cs5 => WT K tt1 ds3 cs5 fun b cs6 => (b = true → WE K te ds3 cs6 fun sv cs7 => ∃ d, sv = .im d ∧ Inv1 (j + 1) (acc ++ [d]) cs7) ∧ (b = false → Inv1 (j + 1) acc cs6)) ∧
          ∀ acc cs', Inv1 ys.length acc cs' → Inv (i + 1) acc cs') ∧ (b = false → Inv (i + 1) acc cs3)) ∧
      ∀ acc cs', Inv xs.length acc cs' → NewL acc cs' Φ) : WE K (tLc2 wi g tt wi1 g1 tt1 te vs vs1) ds cs Φ := fun Hb Fz σ H k Q z => by
  refine h Hb Fz σ H k _ fun J xs src cs1 Hb1 H1 h1 s1 k1 Y D hD => ?_
  obtain ⟨hz, Inv, i0, hsrc, step, done⟩ := h1
  have nF : ∀ o, ¬ Fz D o := fun o zf => by
    have := (k1.fz D o zf).2
    rw [hD] at this
    cases this
  refine ⟨fun i m H' => m = xs.length - i ∧ i ≤ xs.length ∧ ∃ acc accV cs' Hb', acc.length ≤ i * 1000 ∧ Inv i acc cs' ∧ Same Hb1 Hb' ∧ DpAll K Hb' accV acc ∧ Ok K Hb' (FzD Fz D (.lst accV)) ds cs' σ H',
    ⟨xs.length, rfl, Nat.zero_le _, [], [], cs1, Hb1, Nat.zero_le _, i0, Same.refl _, .nil, ?_⟩, ?_⟩
  · have kn : Ok K Hb1 Fz ds (cs1 ++ [(D, .lst [])]) σ (upd H1 D (.lst [])) := k1.newC (c := .lst []) hD .nil
    have ks := kn.sub (cs' := cs1) (List.sublist_append_left _ _)
    refine ks.fzMore (k1.hbn hD) upd_same fun p hp e => ?_
    obtain ⟨_, o, h2, _⟩ := k1.cell p hp
    rw [e, hD] at h2
    cases h2
  rintro i m H2 ⟨rfl, hi, acc, accV, cs2, Hb2, hal, i2, s2, d2, k2⟩
  obtain ⟨y1, y2⟩ := Y i Hb2 H2 s2 k2.ex (srcH_of k2 (hsrc i acc cs2 i2))
  by_cases hlt : i < xs.length
  · have hx : xs[i]? = some xs[i] := List.getElem?_eq_getElem hlt
    obtain ⟨go, yl⟩ := y1 _ hx
    let NxP : Hp → Prop := fun H' => ∃ acc accV cs' Hb', acc.length ≤ (i + 1) * 1000 ∧ Inv (i + 1) acc cs' ∧ Same Hb1 Hb' ∧ DpAll K Hb' accV acc ∧ Ok K Hb' (FzD Fz D (.lst accV)) ds cs' σ H'
    refine .inr ⟨go, NxP, fun H' q => ⟨xs.length - (i + 1), by omega, rfl, hlt, q⟩, fun v H3 yv => ?_⟩
    have go2 : ∀ Hb3, Same Hb2 Hb3 → Ok K Hb3 (FzD Fz D (.lst accV)) ds cs2 σ H3 → Dp K Hb3 v xs[i] → g v (wipe σ vs) H3 fun σ2 H4 => wipe σ2 vs = wipe σ vs ∧ tt σ2 H4 fun b H5 =>
        if b = true then wi1 σ2 H5 fun J1 H6 => ∃ W1 : Nat → Nat → Hp → Prop, (∃ m, W1 0 m H6) ∧ ∀ j k H, W1 j k H →
          (J1.stop j H ∧ NxP H) ∨ (J1.go j H ∧ ∃ Nx1 : Hp → Prop, (∀ H', Nx1 H' → ∃ k', k' < k ∧ W1 (j + 1) k' H') ∧ ∀ x H', J1.yld j H x H' → g1 x (wipe σ2 vs1) H' fun σ3 H5 => wipe σ3 vs1 = wipe σ2 vs1 ∧ tt1 σ3 H5 fun b H6 =>
            if b = true then te σ3 H6 fun y H7 => ∃ acc, H7 D = some (.lst acc) ∧ acc.length < sizeLine ∧ Nx1 (upd H7 D (.lst (acc ++ [y]))) else Nx1 H6)
        else NxP H5 := fun Hb3 s3 k3 d3 => by
      refine (fun q0 => ?_) (step i _ acc cs2 hx i2 Hb3 _ (wipe σ vs) H3 (k3.wiped vs) v d3 (fun σ2 H4 => tt σ2 H4 fun b H5 => if b = true then wi1 σ2 H5 fun J1 H6 => ∃ W1 : Nat → Nat → Hp → Prop, (∃ m, W1 0 m H6) ∧ ∀ j k H, W1 j k H →
          (J1.stop j H ∧ NxP H) ∨ (J1.go j H ∧ ∃ Nx1 : Hp → Prop, (∀ H', Nx1 H' → ∃ k', k' < k ∧ W1 (j + 1) k' H') ∧ ∀ x H', J1.yld j H x H' → g1 x (wipe σ2 vs1) H' fun σ3 H5 => wipe σ3 vs1 = wipe σ2 vs1 ∧ tt1 σ3 H5 fun b H6 =>
            if b = true then te σ3 H6 fun y H7 => ∃ acc, H7 D = some (.lst acc) ∧ acc.length < sizeLine ∧ Nx1 (upd H7 D (.lst (acc ++ [y]))) else Nx1 H6)
        else NxP H5) fun ds4 cs4 σ4 H4 Hb4 h4 s4 k4 => ?_)
      · have q1 := hg v (wipe σ vs) H3 _ q0
        rw [wipe_idem] at q1
        exact q1
      · refine h4 Hb4 _ σ4 H4 k4 _ fun b cs5 Hb5 H5 h5 s5 k5 => ?_
        cases b with
        | false =>
          rw [if_neg Bool.false_ne_true]
          have s35 := s4.trans s5
          exact ⟨acc, accV, cs5, Hb5, by omega, h5.2 rfl, (s2.trans s3).trans s35, dpAll_mono (s3.trans s35) d2, k3.reslot k5 s35⟩
        | true =>
          rw [if_pos rfl]
          refine h5.1 rfl Hb5 _ σ4 H5 k5 _ fun J1 ys src1 cs6 Hb6 H6 h6 s6 k6 Y1 => ?_
          obtain ⟨hz1, Inv1, j0, hsrc1, step1, done1⟩ := h6
          have s36 := (s4.trans s5).trans s6
          refine ⟨fun j n H' => n = ys.length - j ∧ j ≤ ys.length ∧ ∃ acc accV cs' Hb', acc.length ≤ i * 1000 + j ∧ Inv1 j acc cs' ∧ Same Hb6 Hb' ∧ DpAll K Hb' accV acc ∧ Ok K Hb' (FzD Fz D (.lst accV)) ds4 cs' σ4 H',
            ⟨ys.length, rfl, Nat.zero_le _, acc, accV, cs6, Hb6, by omega, j0, Same.refl _, dpAll_mono (s3.trans s36) d2, k6⟩, ?_⟩
          rintro j n H7 ⟨rfl, hj, acc1, accV1, cs7, Hb7, hal1, i7, s7, d7, k7⟩
          obtain ⟨z1, z2⟩ := Y1 j Hb7 H7 s7 k7.ex (srcH_of k7 (hsrc1 j acc1 cs7 i7))
          by_cases hlt1 : j < ys.length
          · have hy : ys[j]? = some ys[j] := List.getElem?_eq_getElem hlt1
            obtain ⟨go1, yl1⟩ := z1 _ hy
            refine .inr ⟨go1, fun H' => ∃ acc accV cs' Hb', acc.length ≤ i * 1000 + (j + 1) ∧ Inv1 (j + 1) acc cs' ∧ Same Hb6 Hb' ∧ DpAll K Hb' accV acc ∧ Ok K Hb' (FzD Fz D (.lst accV)) ds4 cs' σ4 H', fun H' q => ⟨ys.length - (j + 1), by omega, rfl, hlt1, q⟩, fun v1 H8 yv1 => ?_⟩
            have go3 : ∀ Hb8, Same Hb7 Hb8 → Ok K Hb8 (FzD Fz D (.lst accV1)) ds4 cs7 σ4 H8 → Dp K Hb8 v1 ys[j] → g1 v1 (wipe σ4 vs1) H8 fun σ3 H5 => wipe σ3 vs1 = wipe σ4 vs1 ∧ tt1 σ3 H5 fun b H6 =>
                if b = true then te σ3 H6 fun y H7 => ∃ acc, H7 D = some (.lst acc) ∧ acc.length < sizeLine ∧ (∃ acc' accV' cs' Hb', acc'.length ≤ i * 1000 + (j + 1) ∧ Inv1 (j + 1) acc' cs' ∧ Same Hb6 Hb' ∧ DpAll K Hb' accV' acc' ∧ Ok K Hb' (FzD Fz D (.lst accV')) ds4 cs' σ4 (upd H7 D (.lst (acc ++ [y]))))
                else ∃ acc accV cs' Hb', acc.length ≤ i * 1000 + (j + 1) ∧ Inv1 (j + 1) acc cs' ∧ Same Hb6 Hb' ∧ DpAll K Hb' accV acc ∧ Ok K Hb' (FzD Fz D (.lst accV)) ds4 cs' σ4 H6 := fun Hb8 s8 k8 d8 => by
              have q0 : g1 v1 (wipe σ4 vs1) H8 fun σ3 H5 => tt1 σ3 H5 fun b H6 =>
                if b = true then te σ3 H6 fun y H7 => ∃ acc, H7 D = some (.lst acc) ∧ acc.length < sizeLine ∧ (∃ acc' accV' cs' Hb', acc'.length ≤ i * 1000 + (j + 1) ∧ Inv1 (j + 1) acc' cs' ∧ Same Hb6 Hb' ∧ DpAll K Hb' accV' acc' ∧ Ok K Hb' (FzD Fz D (.lst accV')) ds4 cs' σ4 (upd H7 D (.lst (acc ++ [y]))))
                else ∃ acc accV cs' Hb', acc.length ≤ i * 1000 + (j + 1) ∧ Inv1 (j + 1) acc cs' ∧ Same Hb6 Hb' ∧ DpAll K Hb' accV acc ∧ Ok K Hb' (FzD Fz D (.lst accV)) ds4 cs' σ4 H6 := by
                refine step1 j _ acc1 cs7 hy i7 Hb8 _ (wipe σ4 vs1) H8 (k8.wiped vs1) v1 d8 _ fun ds9 cs9 σ9 H9 Hb9 h9 s9 k9 => ?_
                refine h9 Hb9 _ σ9 H9 k9 _ fun b cs10 Hb10 H10 h10 s10 k10 => ?_
                cases b with
                | true =>
                  rw [if_pos rfl]
                  refine h10.1 rfl Hb10 _ σ9 H10 k10 _ fun y sv cs11 Hb11 H11 h11 s11 k11 r11 => ?_
                  obtain ⟨d, rfl, i11⟩ := h11
                  have s811 := (s9.trans s10).trans s11
                  have k12 := (k8.reslot k11 s811).grow (u' := .lst (accV1 ++ [y])) nF (by rintro ⟨xs, e⟩; cases e)
                  refine ⟨accV1, (k11.fz D _ (.inr ⟨rfl, rfl⟩)).2, by rw [d7.len]; exact small6l (by omega), acc1 ++ [d], accV1 ++ [y], cs11, Hb11, ?_, i11, (s7.trans s8).trans s811, (dpAll_mono (s8.trans s811) d7).app (.cons r11 .nil), k12⟩
                  rw [List.length_append, List.length_singleton]
                  omega
                | false =>
                  rw [if_neg Bool.false_ne_true]
                  have s810 := s9.trans s10
                  exact ⟨acc1, accV1, cs10, Hb10, by omega, h10.2 rfl, (s7.trans s8).trans s810, dpAll_mono (s8.trans s810) d7, k8.reslot k10 s810⟩
              have q1 := hg1 v1 (wipe σ4 vs1) H8 _ q0
              rw [wipe_idem] at q1
              exact q1
            rcases yl1 v1 H8 yv1 with ⟨rfl, d8⟩ | ⟨T, o, hT, rfl, d8⟩
            · exact go3 Hb7 (Same.refl _) k7 d8
            · exact go3 _ (same_upd (k7.hbn hT)) (k7.new hT) d8
          · have e1 : j = ys.length := by omega
            subst e1
            exact .inl ⟨z2 rfl, acc1, accV1, cs7, Hb7, by omega, done1 acc1 cs7 i7, (s2.trans s3).trans (s36.trans s7), d7, k3.reslot' k7 (s36.trans s7)⟩
    rcases yl v H3 yv with ⟨rfl, d3⟩ | ⟨T, o, hT, rfl, d3⟩
    · exact go2 Hb2 (Same.refl _) k2 d3
    · exact go2 _ (same_upd (k2.hbn hT)) (k2.new hT) d3
  · have e1 : i = xs.length := by omega
    subst e1
    exact .inl ⟨y2 rfl, newL_end k2 nF d2 (done acc cs2 i2) fun v sv cs' Hb' H' f s k' r => z v sv cs' Hb' H' f ((s1.trans s2).trans s) k' r⟩
end
end Sw
set_option Elab.async false
set_option linter.all false
set_option maxRecDepth 100000
set_option maxHeartbeats 1000000
set_option autoImplicit false
/-! Stretches: the mathematics of rows, layers, solids. -/
namespace Sw
open PySem
/-! ### what is kept -/
def wEither : Str := "either"
def wBoth : Str := "both"
def wFirst : Str := "first"
def keepB (w : Str) (a b : Bool) : Bool := if w = wEither then a || b else if w = wBoth then a && b else a && !b
def keepP (w : Str) (A B : Prop) : Prop := (w = wEither ∧ (A ∨ B)) ∨ (w ≠ wEither ∧ w = wBoth ∧ A ∧ B) ∨ (w ≠ wEither ∧ w ≠ wBoth ∧ A ∧ ¬ B)
theorem keep_iff {w : Str} {a b : Bool} {A B : Prop} (ha : a = true ↔ A) (hb : b = true ↔ B) : keepB w a b = true ↔ keepP w A B := by
  unfold keepB keepP
  by_cases h1 : w = wEither
  · simp [h1, ha, hb]
  · by_cases h2 : w = wBoth
    · have hne : ¬ wBoth = wEither := fun e => h1 (h2.trans e)
      simp [h2, hne, ha, hb]
    · simp [h1, h2, ha, hb, ← Bool.not_eq_true]
theorem keep_none {w : Str} {A B : Prop} (ha : ¬ A) (hb : ¬ B) : ¬ keepP w A B := by
  rintro (⟨_, h | h⟩ | ⟨_, _, h, _⟩ | ⟨_, _, h, _⟩) <;> first | exact ha h | exact hb h
theorem keep_congr {w : Str} {A B A' B' : Prop} (ha : A ↔ A') (hb : B ↔ B') : keepP w A B ↔ keepP w A' B' := by
  unfold keepP
  rw [ha, hb]
/-! ### stretches in a row -/
abbrev Iv := List (Int × Int)
def inI (p : Int × Int) (x : Int) : Prop := p.1 ≤ x ∧ x < p.2
/-- ascending, none empty, none over another one -/
structure Asc (iv : Iv) : Prop where
  pw : iv.Pairwise fun p q => p.2 ≤ q.1
  ne : ∀ p ∈ iv, p.1 < p.2
theorem pw_get {α : Type} {R : α → α → Prop} {l : List α} (h : l.Pairwise R) {i j : Nat} {x y : α} (hi : l[i]? = some x) (hj : l[j]? = some y) (lt : i < j) : R x y := by
  obtain ⟨h1, rfl⟩ := List.getElem?_eq_some_iff.mp hi
  obtain ⟨h2, rfl⟩ := List.getElem?_eq_some_iff.mp hj
  exact List.pairwise_iff_getElem.mp h i j h1 h2 lt
/-- the ends of two rows, ascending -/
structure Ends2 (a b : Iv) (E : List Int) : Prop where
  pw : E.Pairwise (· < ·)
  mem : ∀ e, e ∈ E ↔ (∃ p ∈ a, e = p.1 ∨ e = p.2) ∨ (∃ p ∈ b, e = p.1 ∨ e = p.2)
theorem Ends2.gap {a b : Iv} {E : List Int} (h : Ends2 a b E) {k : Nat} {lo hi : Int} (h1 : E[k]? = some lo) (h2 : E[k + 1]? = some hi) : lo < hi ∧ ∀ e ∈ E, e ≤ lo ∨ hi ≤ e := by
  refine ⟨pw_get h.pw h1 h2 (Nat.lt_succ_self k), fun e he => ?_⟩
  obtain ⟨i, hi⟩ := List.mem_iff_getElem?.mp he
  by_cases c : i ≤ k
  · left
    rcases Nat.lt_or_eq_of_le c with c | c
    · exact Int.le_of_lt (pw_get h.pw hi h1 c)
    · subst c
      rw [h1] at hi
      cases hi
      exact Int.le_refl _
  · right
    rcases Nat.lt_or_eq_of_le (show k + 1 ≤ i by omega) with c | c
    · exact Int.le_of_lt (pw_get h.pw h2 hi c)
    · subst c
      rw [h2] at hi
      cases hi
      exact Int.le_refl _
/-- the place of a row that the low end has come to -/
structure At (iv : Iv) (low : Int) (n : Nat) : Prop where
  le : n ≤ iv.length
  past : ∀ (i : Nat) (p : Int × Int), i < n → iv[i]? = some p → p.2 ≤ low
theorem At.mono {iv : Iv} {low low' : Int} {n : Nat} (h : At iv low n) (hl : low ≤ low') : At iv low' n := ⟨h.le, fun i p hi e => Int.le_trans (h.past i p hi e) hl⟩
theorem At.step {iv : Iv} {low : Int} {n : Nat} (h : At iv low n) {p : Int × Int} (hp : iv[n]? = some p) (hl : p.2 ≤ low) : At iv low (n + 1) :=
  ⟨(List.getElem?_eq_some_iff.mp hp).1, fun i q hi e => by
    by_cases c : i = n
    · subst c
      rw [hp] at e
      cases e
      exact hl
    · exact h.past i q (by omega) e⟩
/-- where it has come to, it tells what is in the gap -/
theorem At.tells {iv : Iv} {low high : Int} {n : Nat} (h : At iv low n) (ha : Asc iv) (hn : ∀ p, iv[n]? = some p → low < p.2) (gap : ∀ p ∈ iv, (p.1 ≤ low ∨ high ≤ p.1) ∧ (p.2 ≤ low ∨ high ≤ p.2)) {x : Int} (h1 : low ≤ x) (h2 : x < high) (p : Int × Int) :
    (p ∈ iv ∧ inI p x) ↔ (iv[n]? = some p ∧ p.1 ≤ low) := by
  constructor
  · rintro ⟨hm, h3, h4⟩
    obtain ⟨i, hi⟩ := List.mem_iff_getElem?.mp hm
    have hin : ¬ i < n := fun c => by
      have := h.past i p c hi
      omega
    by_cases c : i = n
    · subst c
      refine ⟨hi, ?_⟩
      rcases (gap p hm).1 with c | c
      · exact c
      · omega
    · exfalso
      have lt : n < i := by omega
      have hl : n < iv.length := Nat.lt_trans lt (List.getElem?_eq_some_iff.mp hi).1
      have hq : iv[n]? = some iv[n] := List.getElem?_eq_getElem hl
      have h5 := pw_get ha.pw hq hi lt
      have h6 := hn _ hq
      rcases (gap iv[n] (List.getElem_mem hl)).2 with c | c
      · omega
      · omega
  · rintro ⟨hp, h3⟩
    have hm := List.mem_of_getElem? hp
    refine ⟨hm, Int.le_trans h3 h1, ?_⟩
    have h6 := hn _ hp
    rcases (gap p hm).2 with c | c
    · omega
    · omega
/-! ### what has been found so far -/
/-- the last one's end is moved -/
def setEnd (found : Iv) (high : Int) : Iv := match found.getLast? with
  | some p => found.set (found.length - 1) (p.1, high)
  | none => found
def memR (r : Iv) (x : Int) : Prop := ∃ p ∈ r, inI p x
theorem memR_nil (x : Int) : ¬ memR [] x := fun ⟨p, h, _⟩ => by cases h
theorem memR_app {r s : Iv} {x : Int} : memR (r ++ s) x ↔ memR r x ∨ memR s x := by
  unfold memR
  constructor
  · rintro ⟨p, h, q⟩
    rcases List.mem_append.mp h with h | h
    · exact .inl ⟨p, h, q⟩
    · exact .inr ⟨p, h, q⟩
  · rintro (⟨p, h, q⟩ | ⟨p, h, q⟩)
    · exact ⟨p, List.mem_append_left _ h, q⟩
    · exact ⟨p, List.mem_append_right _ h, q⟩
theorem memR_one {p : Int × Int} {x : Int} : memR [p] x ↔ inI p x := by
  unfold memR
  simp
theorem set_last {α : Type} (l : List α) (x y : α) : (l ++ [x]).set ((l ++ [x]).length - 1) y = l ++ [y] := by
  rw [List.length_append, List.length_singleton, Nat.add_sub_cancel, List.set_append_right _ _ (Nat.le_refl _), Nat.sub_self]
  rfl
/-- bounds of a row -/
def Bnd (lo hi : Int) (r : Iv) : Prop := ∀ p ∈ r, lo ≤ p.1 ∧ p.2 ≤ hi
theorem Asc.push {found : Iv} {low high : Int} (h : Asc found) (hu : ∀ p ∈ found, p.2 ≤ low) (lt : low < high) : Asc (found ++ [(low, high)]) where
  pw := by
    rw [List.pairwise_append]
    exact ⟨h.pw, by simp, fun p hp q hq => by
      have e : q = (low, high) := by simpa using hq
      subst e
      exact hu p hp⟩
  ne := fun p hp => by
    rcases List.mem_append.mp hp with hp | hp
    · exact h.ne p hp
    · have e : p = (low, high) := by simpa using hp
      subst e
      exact lt
theorem Asc.init {r : Iv} {p : Int × Int} (h : Asc (r ++ [p])) : Asc r ∧ (∀ q ∈ r, q.2 ≤ p.1) ∧ p.1 < p.2 := by
  obtain ⟨h1, h2⟩ := h
  rw [List.pairwise_append] at h1
  exact ⟨⟨h1.1, fun q hq => h2 q (List.mem_append_left _ hq)⟩, fun q hq => h1.2.2 q hq p (by simp), h2 p (by simp)⟩
theorem Asc.ext {r : Iv} {p : Int × Int} {high : Int} (h : Asc (r ++ [p])) (lt : p.1 < high) : Asc (r ++ [(p.1, high)]) := by
  obtain ⟨h1, h2, h3⟩ := h.init
  exact h1.push h2 lt
theorem asc_len {lo hi : Int} : ∀ {r : Iv}, Asc r → Bnd lo hi r → lo ≤ hi → (r.length : Int) ≤ hi - lo := by
  intro r
  have key : ∀ (r : Iv) (lo : Int), Asc r → Bnd lo hi r → lo ≤ hi → (r.length : Int) ≤ hi - lo := by
    intro r
    induction r with
    | nil =>
      intro lo _ _ h
      simp
      omega
    | cons p r ih =>
      intro lo h b hl
      have hb := b p (by simp)
      have hp := h.ne p (by simp)
      have hpw := h.pw
      rw [List.pairwise_cons] at hpw
      have := ih p.2 ⟨hpw.2, fun q hq => h.ne q (List.mem_cons_of_mem _ hq)⟩ (fun q hq => ⟨hpw.1 q hq, (b q (List.mem_cons_of_mem _ hq)).2⟩) hb.2
      rw [List.length_cons]
      push_cast
      omega
  exact key r lo
/-! ### rows -/
structure WFR (lo hi : Int) (r : Iv) : Prop where
  asc : Asc r
  bnd : Bnd lo hi r
theorem WFR.nil {lo hi : Int} : WFR lo hi [] := ⟨⟨.nil, fun _ h => by cases h⟩, fun _ h => by cases h⟩
theorem WFR.point {lo hi : Int} {r : Iv} (h : WFR lo hi r) (ne : r ≠ []) : ∃ x, memR r x := by
  cases r with
  | nil => exact absurd rfl ne
  | cons p r => exact ⟨p.1, p, by simp, Int.le_refl _, h.asc.ne p (by simp)⟩
theorem WFR.in_ {lo hi : Int} {r : Iv} (h : WFR lo hi r) {x : Int} (m : memR r x) : lo ≤ x ∧ x < hi := by
  obtain ⟨p, hp, h1, h2⟩ := m
  have := h.bnd p hp
  omega
/-- the found row ahead of the turn whose low end is c -/
structure FndR (w : Str) (lo hi : Int) (a b : Iv) (c : Int) (found : Iv) : Prop where
  wf : WFR lo hi found
  up : ∀ p ∈ found, p.2 ≤ c
  mem : ∀ x, memR found x ↔ x < c ∧ keepP w (memR a x) (memR b x)
theorem FndR.skip {w : Str} {lo hi : Int} {a b : Iv} {c d : Int} {found : Iv} (h : FndR w lo hi a b c found) (lt : c < d) (no : ∀ x, c ≤ x → x < d → ¬ keepP w (memR a x) (memR b x)) : FndR w lo hi a b d found :=
  ⟨h.wf, fun p hp => Int.le_trans (h.up p hp) (Int.le_of_lt lt), fun x => by
    rw [h.mem]
    constructor
    · rintro ⟨h1, h2⟩
      exact ⟨by omega, h2⟩
    · rintro ⟨h1, h2⟩
      refine ⟨?_, h2⟩
      by_cases hx : x < c
      · exact hx
      · exact absurd h2 (no x (by omega) h1)⟩
theorem FndR.push {w : Str} {lo hi : Int} {a b : Iv} {c d : Int} {found : Iv} (h : FndR w lo hi a b c found) (lt : c < d) (hb : lo ≤ c ∧ d ≤ hi) (yes : ∀ x, c ≤ x → x < d → keepP w (memR a x) (memR b x)) : FndR w lo hi a b d (found ++ [(c, d)]) :=
  ⟨⟨h.wf.asc.push h.up lt, fun p hp => by
    rcases List.mem_append.mp hp with hp | hp
    · exact h.wf.bnd p hp
    · have e : p = (c, d) := by simpa using hp
      subst e
      exact hb⟩, fun p hp => by
    rcases List.mem_append.mp hp with hp | hp
    · exact Int.le_trans (h.up p hp) (Int.le_of_lt lt)
    · have e : p = (c, d) := by simpa using hp
      subst e
      exact Int.le_refl _, fun x => by
    rw [memR_app, memR_one, h.mem]
    constructor
    · rintro (⟨h1, h2⟩ | ⟨h1, h2⟩)
      · exact ⟨by omega, h2⟩
      · exact ⟨h2, yes x h1 h2⟩
    · rintro ⟨h1, h2⟩
      by_cases hx : x < c
      · exact .inl ⟨hx, h2⟩
      · exact .inr ⟨by show c ≤ x; omega, h1⟩⟩
theorem FndR.ext {w : Str} {lo hi : Int} {a b : Iv} {c d : Int} {r : Iv} {p : Int × Int} (h : FndR w lo hi a b c (r ++ [p])) (e : p.2 = c) (lt : c < d) (hb : d ≤ hi) (yes : ∀ x, c ≤ x → x < d → keepP w (memR a x) (memR b x)) : FndR w lo hi a b d (r ++ [(p.1, d)]) := by
  obtain ⟨h1, h2, h3⟩ := h.wf.asc.init
  refine ⟨⟨h.wf.asc.ext (by omega), fun q hq => ?_⟩, fun q hq => ?_, fun x => ?_⟩
  · rcases List.mem_append.mp hq with hq | hq
    · exact h.wf.bnd q (List.mem_append_left _ hq)
    · have e' : q = (p.1, d) := by simpa using hq
      subst e'
      exact ⟨(h.wf.bnd p (by simp)).1, hb⟩
  · rcases List.mem_append.mp hq with hq | hq
    · have := h2 q hq
      omega
    · have e' : q = (p.1, d) := by simpa using hq
      subst e'
      exact Int.le_refl _
  · have hm := h.mem x
    rw [memR_app, memR_one] at hm ⊢
    have i1 : inI (p.1, d) x ↔ (inI p x ∨ (c ≤ x ∧ x < d)) := by
      unfold inI
      simp only
      omega
    rw [i1, ← or_assoc, hm]
    constructor
    · rintro (⟨h1, h2⟩ | ⟨h1, h2⟩)
      · exact ⟨by omega, h2⟩
      · exact ⟨h2, yes x h1 h2⟩
    · rintro ⟨h1, h2⟩
      by_cases hx : x < c
      · exact .inl ⟨hx, h2⟩
      · exact .inr ⟨by omega, h1⟩
end Sw
set_option Elab.async false
set_option linter.all false
set_option maxRecDepth 100000
set_option maxHeartbeats 1000000
set_option autoImplicit false
/-! Rows, layers, solids as data. -/
namespace Sw
open PySem PySem.Spec PyProof.Rows L2
abbrev dP (p : Int × Int) : PyData := .tuple [.int p.1, .int p.2]
abbrev dRow (r : Iv) : PyData := .tuple (r.map dP)
abbrev dS {α : Type} (e : α → PyData) (t : Int × Int × α) : PyData := .tuple [.int t.1, .int t.2.1, e t.2.2]
abbrev dSt {α : Type} (e : α → PyData) (s : List (Int × Int × α)) : PyData := .tuple (s.map (dS e))
abbrev Lay := List (Int × Int × Iv)
abbrev Sol := List (Int × Int × Lay)
abbrev dLay (l : Lay) : PyData := dSt dRow l
abbrev dSol (s : Sol) : PyData := dSt dLay s
/-- data without lists of lists that hold themselves: what == can be asked of -/
theorem shaped_of {d : PyData} (h1 : d.canLay0 = true) (h2 : d.depth ≤ 64) : SeqAt.shaped d = true := by
  show (d.canLay0 && decide (d.depth ≤ 64)) = true
  rw [Bool.and_eq_true]
  exact ⟨h1, decide_eq_true h2⟩
theorem layAll {α : Type} {f : α → PyData} (h : ∀ x, (f x).canLay0 = true) : ∀ l : List α, PyData.canLayAll0 (l.map f) = true
  | [] => by simp [PyData.canLayAll0]
  | x :: l => by simp [PyData.canLayAll0, h x, layAll h l]
theorem depAll {α : Type} {f : α → PyData} {n : Nat} (h : ∀ x, (f x).depth ≤ n) : ∀ l : List α, PyData.depthAll (l.map f) ≤ n
  | [] => by simp [PyData.depthAll]
  | x :: l => by
    have h1 := h x
    have h2 := depAll h l
    simp only [List.map_cons, PyData.depthAll]
    omega
theorem dP_lay (p : Int × Int) : (dP p).canLay0 = true := by simp [dP, PyData.canLay0, PyData.canLayAll0]
theorem dP_dep (p : Int × Int) : (dP p).depth ≤ 1 := by simp [dP, PyData.depth, PyData.depthAll]
theorem dRow_lay (r : Iv) : (dRow r).canLay0 = true := by
  simp only [dRow, PyData.canLay0]
  exact layAll dP_lay r
theorem dRow_dep (r : Iv) : (dRow r).depth ≤ 2 := by
  have := depAll dP_dep r
  simp only [dRow, PyData.depth]
  omega
theorem dS_lay {α : Type} {e : α → PyData} (h : ∀ x, (e x).canLay0 = true) (t : Int × Int × α) : (dS e t).canLay0 = true := by simp [dS, PyData.canLay0, PyData.canLayAll0, h]
theorem dS_dep {α : Type} {e : α → PyData} {n : Nat} (h : ∀ x, (e x).depth ≤ n) (t : Int × Int × α) : (dS e t).depth ≤ n + 1 := by
  have := h t.2.2
  simp [dS, PyData.depth, PyData.depthAll]
  omega
theorem dSt_lay {α : Type} {e : α → PyData} (h : ∀ x, (e x).canLay0 = true) (s : List (Int × Int × α)) : (dSt e s).canLay0 = true := by
  simp only [dSt, PyData.canLay0]
  exact layAll (dS_lay h) s
theorem dSt_dep {α : Type} {e : α → PyData} {n : Nat} (h : ∀ x, (e x).depth ≤ n) (s : List (Int × Int × α)) : (dSt e s).depth ≤ n + 2 := by
  have := depAll (dS_dep h) s
  simp only [dSt, PyData.depth]
  omega
theorem dLay_lay (l : Lay) : (dLay l).canLay0 = true := dSt_lay dRow_lay l
theorem dLay_dep (l : Lay) : (dLay l).depth ≤ 4 := dSt_dep dRow_dep l
theorem dSol_lay (s : Sol) : (dSol s).canLay0 = true := dSt_lay dLay_lay s
theorem dSol_dep (s : Sol) : (dSol s).depth ≤ 6 := dSt_dep dLay_dep s
theorem dRow_sh (r : Iv) : SeqAt.shaped (dRow r) = true := shaped_of (dRow_lay r) (Nat.le_trans (dRow_dep r) (by decide))
theorem dLay_sh (r : Lay) : SeqAt.shaped (dLay r) = true := shaped_of (dLay_lay r) (Nat.le_trans (dLay_dep r) (by decide))
theorem dSol_sh (r : Sol) : SeqAt.shaped (dSol r) = true := shaped_of (dSol_lay r) (Nat.le_trans (dSol_dep r) (by decide))
theorem list_sh {α : Type} {f : α → PyData} {n : Nat} (h1 : ∀ x, (f x).canLay0 = true) (h2 : ∀ x, (f x).depth ≤ n) (hn : n ≤ 60) (l : List α) : SeqAt.shaped (.list (l.map f)) = true := by
  have := depAll h2 l
  refine shaped_of ?_ ?_
  · simp only [PyData.canLay0]
    exact layAll h1 l
  · simp only [PyData.depth]
    omega
/-! ### == of such data -/
theorem eqv_nil_list {α : Type} (f : α → PyData) (l : List α) : PyData.eqv (.list (l.map f)) (.list []) = l.isEmpty := by
  cases l <;> simp [PyData.eqv, PyData.eqvAll]
theorem eqv_nil_tup {α : Type} (f : α → PyData) (l : List α) : PyData.eqv (.tuple (l.map f)) (.tuple []) = l.isEmpty := by
  cases l <;> simp [PyData.eqv, PyData.eqvAll]
theorem eqvAll_map {α : Type} {f : α → PyData} (h : ∀ x y, PyData.eqv (f x) (f y) = true → x = y) : ∀ {l m : List α}, PyData.eqvAll (l.map f) (m.map f) = true → l = m
  | [], [], _ => rfl
  | [], _ :: _, e => by simp [PyData.eqvAll] at e
  | _ :: _, [], e => by simp [PyData.eqvAll] at e
  | x :: l, y :: m, e => by
    simp only [List.map_cons, PyData.eqvAll, Bool.and_eq_true] at e
    rw [h x y e.1, eqvAll_map h e.2]
theorem dP_eqv (p q : Int × Int) (h : PyData.eqv (dP p) (dP q) = true) : p = q := by
  simp [dP, PyData.eqv, PyData.eqvAll] at h
  exact Prod.ext h.1 h.2
theorem dRow_eqv (p q : Iv) (h : PyData.eqv (dRow p) (dRow q) = true) : p = q := by
  simp only [dRow, PyData.eqv] at h
  exact eqvAll_map dP_eqv h
theorem dS_eqv {α : Type} {e : α → PyData} (h : ∀ x y, PyData.eqv (e x) (e y) = true → x = y) (p q : Int × Int × α) (z : PyData.eqv (dS e p) (dS e q) = true) : p = q := by
  simp [dS, PyData.eqv, PyData.eqvAll] at z
  exact Prod.ext z.1 (Prod.ext z.2.1 (h _ _ z.2.2))
theorem dSt_eqv {α : Type} {e : α → PyData} (h : ∀ x y, PyData.eqv (e x) (e y) = true → x = y) (p q : List (Int × Int × α)) (z : PyData.eqv (dSt e p) (dSt e q) = true) : p = q := by
  simp only [dSt, PyData.eqv] at z
  exact eqvAll_map (dS_eqv h) z
theorem dLay_eqv (p q : Lay) (h : PyData.eqv (dLay p) (dLay q) = true) : p = q := dSt_eqv dRow_eqv p q h
end Sw
set_option Elab.async false
set_option linter.all false
set_option maxRecDepth 100000
set_option maxHeartbeats 1000000
set_option autoImplicit false
namespace Sw
open PySem PySem.Spec PyProof.Rows L2
theorem nodup_len {α : Type} [DecidableEq α] : ∀ {l m : List α}, l.Nodup → (∀ x ∈ l, x ∈ m) → l.length ≤ m.length
  | [], m, _, _ => Nat.zero_le _
  | x :: l, m, h, s => by
    rw [List.nodup_cons] at h
    have hx := s x (by simp)
    have ih := nodup_len (l := l) (m := m.erase x) h.2 fun y hy => by
      have ne : y ≠ x := fun e => h.1 (e ▸ hy)
      exact (List.mem_erase_of_ne ne).mpr (s y (List.mem_cons_of_mem _ hy))
    rw [List.length_erase_of_mem hx] at ih
    have : 0 < m.length := List.length_pos_iff.mpr (List.ne_nil_of_mem hx)
    rw [List.length_cons]
    omega
def intsBetween (lo : Int) (n : Nat) : List Int := (List.range n).map fun (i : Nat) => lo + (i : Int)
theorem mem_between {lo x : Int} {n : Nat} : x ∈ intsBetween lo n ↔ lo ≤ x ∧ x < lo + n := by
  unfold intsBetween
  rw [List.mem_map]
  constructor
  · rintro ⟨i, hi, rfl⟩
    have := List.mem_range.mp hi
    omega
  · rintro ⟨h1, h2⟩
    exact ⟨(x - lo).toNat, List.mem_range.mpr (by omega), by omega⟩
theorem len_between {lo : Int} {n : Nat} : (intsBetween lo n).length = n := by simp [intsBetween]
theorem ints_len {lo : Int} {n : Nat} {ks : List Int} (h : ks.Nodup) (b : ∀ k ∈ ks, lo ≤ k ∧ k < lo + n) : ks.length ≤ n := by
  have := nodup_len (m := intsBetween lo n) h fun x hx => mem_between.mpr (b x hx)
  rwa [len_between] at this
/-! ### stretches with something in them -/
section
variable {δ β : Type}
abbrev Stt (δ : Type) := List (Int × Int × List δ)
abbrev ivT (t : Int × Int × List δ) : Int × Int := (t.1, t.2.1)
def memT (m : List δ → β → Prop) (s : Stt δ) (x : Int) (q : β) : Prop := ∃ t ∈ s, inI (ivT t) x ∧ m t.2.2 q
structure WFT (W : List δ → Prop) (lo hi : Int) (s : Stt δ) : Prop where
  asc : Asc (s.map ivT)
  bnd : Bnd lo hi (s.map ivT)
  inn : ∀ t ∈ s, W t.2.2 ∧ t.2.2 ≠ []
theorem WFT.nil {W : List δ → Prop} {lo hi : Int} : WFT W lo hi ([] : Stt δ) := ⟨⟨.nil, fun _ h => (by cases h)⟩, fun _ h => (by cases h), fun _ h => (by cases h)⟩
theorem memT_nil {m : List δ → β → Prop} {x : Int} {q : β} : ¬ memT m [] x q := fun ⟨_, h, _⟩ => by cases h
theorem memT_app {m : List δ → β → Prop} {r s : Stt δ} {x : Int} {q : β} : memT m (r ++ s) x q ↔ memT m r x q ∨ memT m s x q := by
  unfold memT
  constructor
  · rintro ⟨p, h, z⟩
    rcases List.mem_append.mp h with h | h
    · exact .inl ⟨p, h, z⟩
    · exact .inr ⟨p, h, z⟩
  · rintro (⟨p, h, z⟩ | ⟨p, h, z⟩)
    · exact ⟨p, List.mem_append_left _ h, z⟩
    · exact ⟨p, List.mem_append_right _ h, z⟩
theorem memT_one {m : List δ → β → Prop} {t : Int × Int × List δ} {x : Int} {q : β} : memT m [t] x q ↔ inI (ivT t) x ∧ m t.2.2 q := by
  unfold memT
  simp
theorem WFT.point {W : List δ → Prop} {m : List δ → β → Prop} {lo hi : Int} {s : Stt δ} (h : WFT W lo hi s) (hp : ∀ z, W z → z ≠ [] → ∃ q, m z q) (ne : s ≠ []) : ∃ x q, memT m s x q := by
  cases s with
  | nil => exact absurd rfl ne
  | cons t s =>
    obtain ⟨h1, h2⟩ := h.inn t (by simp)
    obtain ⟨q, hq⟩ := hp _ h1 h2
    exact ⟨t.1, q, t, by simp, ⟨Int.le_refl _, h.asc.ne (ivT t) (by simp)⟩, hq⟩
theorem WFT.len {W : List δ → Prop} {lo hi : Int} {s : Stt δ} (h : WFT W lo hi s) (hl : lo ≤ hi) : (s.length : Int) ≤ hi - lo := by
  have := asc_len h.asc h.bnd hl
  rwa [List.length_map] at this
/-- the inner thing of a gap -/
def Gap (s : Stt δ) (n : Nat) (low : Int) (Z : List δ) : Prop := (∃ t, s[n]? = some t ∧ t.1 ≤ low ∧ Z = t.2.2) ∨ ((∀ t, s[n]? = some t → low < t.1) ∧ Z = [])
theorem Gap.tells {m : List δ → β → Prop} {s : Stt δ} {n : Nat} {low high : Int} {Z : List δ} (g : Gap s n low Z) (hm : ∀ q, ¬ m [] q) (h : At (s.map ivT) low n) (ha : Asc (s.map ivT)) (hn : ∀ p, (s.map ivT)[n]? = some p → low < p.2)
    (gap : ∀ p ∈ s.map ivT, (p.1 ≤ low ∨ high ≤ p.1) ∧ (p.2 ≤ low ∨ high ≤ p.2)) {x : Int} (h1 : low ≤ x) (h2 : x < high) (q : β) : memT m s x q ↔ m Z q := by
  have at_ : ∀ t, t ∈ s → inI (ivT t) x → s[n]? = some t ∧ t.1 ≤ low := fun t ht hx => by
    obtain ⟨i, hi⟩ := List.mem_iff_getElem?.mp ht
    have hi' : (s.map ivT)[i]? = some (ivT t) := by
      rw [List.getElem?_map, hi]
      rfl
    obtain ⟨e1, e2⟩ := (h.tells ha hn gap h1 h2 (ivT t)).mp ⟨List.mem_of_getElem? hi', hx⟩
    have e : i = n := by
      rcases Nat.lt_trichotomy i n with c | c | c
      · have a1 := pw_get ha.pw hi' e1 c
        have a2 := ha.ne _ (List.mem_of_getElem? hi')
        omega
      · exact c
      · have a1 := pw_get ha.pw e1 hi' c
        have a2 := ha.ne _ (List.mem_of_getElem? hi')
        omega
    subst e
    exact ⟨hi, e2⟩
  rcases g with ⟨t, ht, hl, rfl⟩ | ⟨hno, rfl⟩
  · constructor
    · rintro ⟨t', ht', hx, hq⟩
      obtain ⟨e1, _⟩ := at_ t' ht' hx
      rw [ht] at e1
      cases e1
      exact hq
    · intro hq
      have ht' : (s.map ivT)[n]? = some (ivT t) := by
        rw [List.getElem?_map, ht]
        rfl
      obtain ⟨_, hx⟩ := (h.tells ha hn gap h1 h2 (ivT t)).mpr ⟨ht', hl⟩
      exact ⟨t, List.mem_of_getElem? ht, hx, hq⟩
  · constructor
    · rintro ⟨t', ht', hx, hq⟩
      obtain ⟨e1, e2⟩ := at_ t' ht' hx
      have := hno t' e1
      omega
    · intro hq
      exact absurd hq (hm q)
structure FndT (m : List δ → β → Prop) (W : List δ → Prop) (w : Str) (lo hi : Int) (a b : Stt δ) (c : Int) (found : Stt δ) : Prop where
  wf : WFT W lo hi found
  up : ∀ t ∈ found, t.2.1 ≤ c
  mem : ∀ x q, memT m found x q ↔ x < c ∧ keepP w (memT m a x q) (memT m b x q)
variable {m : List δ → β → Prop} {W : List δ → Prop} {w : Str} {lo hi : Int} {a b : Stt δ} {c d : Int} {found r : Stt δ}
theorem FndT.skip (h : FndT m W w lo hi a b c found) (lt : c < d) (no : ∀ x, c ≤ x → x < d → ∀ q, ¬ keepP w (memT m a x q) (memT m b x q)) : FndT m W w lo hi a b d found :=
  ⟨h.wf, fun p hp => Int.le_trans (h.up p hp) (Int.le_of_lt lt), fun x q => by
    rw [h.mem]
    constructor
    · rintro ⟨h1, h2⟩
      exact ⟨by omega, h2⟩
    · rintro ⟨h1, h2⟩
      refine ⟨?_, h2⟩
      by_cases hx : x < c
      · exact hx
      · exact absurd h2 (no x (by omega) h1 q)⟩
theorem FndT.push {z : List δ} (h : FndT m W w lo hi a b c found) (lt : c < d) (hb : lo ≤ c ∧ d ≤ hi) (hz : W z) (hne : z ≠ []) (yes : ∀ x, c ≤ x → x < d → ∀ q, m z q ↔ keepP w (memT m a x q) (memT m b x q)) : FndT m W w lo hi a b d (found ++ [(c, d, z)]) := by
  have e1 : (found ++ [(c, d, z)]).map ivT = found.map ivT ++ [(c, d)] := by simp
  refine ⟨⟨?_, ?_, fun t ht => ?_⟩, fun t ht => ?_, fun x q => ?_⟩
  · rw [e1]
    refine h.wf.asc.push (fun p hp => ?_) lt
    obtain ⟨t, ht, rfl⟩ := List.mem_map.mp hp
    exact h.up t ht
  · rw [e1]
    intro p hp
    rcases List.mem_append.mp hp with hp | hp
    · exact h.wf.bnd p hp
    · have e : p = (c, d) := by simpa using hp
      subst e
      exact hb
  · rcases List.mem_append.mp ht with ht | ht
    · exact h.wf.inn t ht
    · have e : t = (c, d, z) := by simpa using ht
      subst e
      exact ⟨hz, hne⟩
  · rcases List.mem_append.mp ht with ht | ht
    · exact Int.le_trans (h.up t ht) (Int.le_of_lt lt)
    · have e : t = (c, d, z) := by simpa using ht
      subst e
      exact Int.le_refl _
  · rw [memT_app, memT_one, h.mem]
    constructor
    · rintro (⟨h1, h2⟩ | ⟨⟨h1, h2⟩, h3⟩)
      · exact ⟨by omega, h2⟩
      · exact ⟨h2, (yes x h1 h2 q).mp h3⟩
    · rintro ⟨h1, h2⟩
      by_cases hx : x < c
      · exact .inl ⟨hx, h2⟩
      · exact .inr ⟨⟨by show c ≤ x; omega, h1⟩, (yes x (by omega) h1 q).mpr h2⟩
theorem FndT.ext {t : Int × Int × List δ} (h : FndT m W w lo hi a b c (r ++ [t])) (e : t.2.1 = c) (lt : c < d) (hb : d ≤ hi) (yes : ∀ x, c ≤ x → x < d → ∀ q, m t.2.2 q ↔ keepP w (memT m a x q) (memT m b x q)) : FndT m W w lo hi a b d (r ++ [(t.1, d, t.2.2)]) := by
  have e0 : (r ++ [t]).map ivT = r.map ivT ++ [ivT t] := by simp
  have e1 : (r ++ [(t.1, d, t.2.2)]).map ivT = r.map ivT ++ [(t.1, d)] := by simp
  have hasc := h.wf.asc
  have hbnd := h.wf.bnd
  rw [e0] at hasc hbnd
  obtain ⟨h1, h2, h3⟩ := hasc.init
  have h3' : t.1 < t.2.1 := h3
  refine ⟨⟨?_, ?_, fun u hu => ?_⟩, fun u hu => ?_, fun x q => ?_⟩
  · rw [e1]
    exact hasc.ext (p := ivT t) (show t.1 < d by omega)
  · rw [e1]
    intro p hp
    rcases List.mem_append.mp hp with hp | hp
    · exact hbnd p (List.mem_append_left _ hp)
    · have e' : p = (t.1, d) := by simpa using hp
      subst e'
      exact ⟨(hbnd (ivT t) (by simp)).1, hb⟩
  · rcases List.mem_append.mp hu with hu | hu
    · exact h.wf.inn u (List.mem_append_left _ hu)
    · have e' : u = (t.1, d, t.2.2) := by simpa using hu
      subst e'
      exact h.wf.inn t (by simp)
  · rcases List.mem_append.mp hu with hu | hu
    · have := h2 (ivT u) (List.mem_map.mpr ⟨u, hu, rfl⟩)
      have : u.2.1 ≤ t.1 := this
      omega
    · have e' : u = (t.1, d, t.2.2) := by simpa using hu
      subst e'
      exact Int.le_refl _
  · have hm := h.mem x q
    rw [memT_app, memT_one] at hm ⊢
    have i1 : (inI (ivT (t.1, d, t.2.2)) x ∧ m t.2.2 q) ↔ ((inI (ivT t) x ∧ m t.2.2 q) ∨ (c ≤ x ∧ x < d ∧ m t.2.2 q)) := by
      have i0 : inI (ivT (t.1, d, t.2.2)) x ↔ (inI (ivT t) x ∨ (c ≤ x ∧ x < d)) := by
        unfold inI ivT
        simp only
        omega
      rw [i0, or_and_right, and_assoc]
    rw [i1, ← or_assoc, hm]
    constructor
    · rintro (⟨h1, h2⟩ | ⟨h1, h2, h3⟩)
      · exact ⟨by omega, h2⟩
      · exact ⟨h2, (yes x h1 h2 q).mp h3⟩
    · rintro ⟨h1, h2⟩
      by_cases hx : x < c
      · exact .inl ⟨hx, h2⟩
      · exact .inr ⟨by omega, h1, (yes x (by omega) h1 q).mpr h2⟩
end
/-! ### what is wanted of the inner things -/
structure Inn {δ β : Type} (f : δ → PyData) (W : List δ → Prop) (m : List δ → β → Prop) (n : Nat) : Prop where
  lay : ∀ x, (f x).canLay0 = true
  dep : ∀ x, (f x).depth ≤ n
  few : n ≤ 20
  inj : ∀ x y, PyData.eqv (f x) (f y) = true → x = y
  wnil : W []
  mnil : ∀ q, ¬ m [] q
  pt : ∀ z, W z → z ≠ [] → ∃ q, m z q
abbrev dL {δ : Type} (f : δ → PyData) (l : List δ) : PyData := .tuple (l.map f)
section
variable {δ β : Type} {f : δ → PyData} {W : List δ → Prop} {m : List δ → β → Prop} {n : Nat}
theorem Inn.lay' (I : Inn f W m n) (l : List δ) : (dL f l).canLay0 = true := by
  simp only [dL, PyData.canLay0]
  exact layAll I.lay l
theorem Inn.dep' (I : Inn f W m n) (l : List δ) : (dL f l).depth ≤ n + 1 := by
  have := depAll I.dep l
  simp only [dL, PyData.depth]
  omega
theorem Inn.sh (I : Inn f W m n) (l : List δ) : SeqAt.shaped (dL f l) = true := shaped_of (I.lay' l) (by have := I.dep' l; have := I.few; omega)
theorem Inn.inj' (I : Inn f W m n) (x y : List δ) (h : PyData.eqv (dL f x) (dL f y) = true) : x = y := by
  simp only [dL, PyData.eqv] at h
  exact eqvAll_map I.inj h
theorem Inn.up (I : Inn f W m n) (hn : n + 2 ≤ 20) : Inn (dS (dL f)) (WFT W (-20 : Int) (20 : Int)) (fun s (q : Int × β) => memT m s q.1 q.2) (n + 2) where
  lay := dS_lay I.lay'
  dep := dS_dep I.dep'
  few := hn
  inj := dS_eqv I.inj'
  wnil := WFT.nil
  mnil := fun q => memT_nil
  pt := fun z h ne => let ⟨x, q, hq⟩ := h.point I.pt ne; ⟨(x, q), hq⟩
end
theorem innRow : Inn dP (WFR (-20 : Int) (20 : Int)) memR 1 where
  lay := dP_lay
  dep := dP_dep
  few := by decide
  inj := dP_eqv
  wnil := WFR.nil
  mnil := memR_nil
  pt := fun z h ne => h.point ne
abbrev WRow : Iv → Prop := WFR (-20 : Int) (20 : Int)
abbrev WLay : Lay → Prop := WFT WRow (-20 : Int) (20 : Int)
abbrev WSol : Sol → Prop := WFT WLay (-20 : Int) (20 : Int)
/-- y, x -/
abbrev mLay (l : Lay) (q : Int × Int) : Prop := memT memR l q.1 q.2
/-- z, y, x -/
abbrev mSol (s : Sol) (q : Int × Int × Int) : Prop := memT mLay s q.1 q.2
theorem innLay : Inn (dS dRow) WLay mLay 3 := innRow.up (by decide)
theorem innSol : Inn (dS dLay) WSol mSol 5 := innLay.up (by decide)
end Sw
set_option Elab.async false
set_option linter.all false
set_option maxRecDepth 100000
set_option maxHeartbeats 4000000
set_option autoImplicit false
namespace Sw
open PySem PySem.Spec PyProof.Rows L2
/-! ### is_kept: slots 0:word 1:is_in 2:is_other -/
abbrev N_is_kept : List Str := ["word", "is_in", "is_other"]
theorem sc_is_kept : FnScope N_is_kept ["word", "is_in", "is_other"] (defScope s_is_kept) := ⟨rfl, rfl, rfl, by decide +kernel, rfl, by decide +kernel, by decide +kernel⟩
def t_is_kept (K : PySem.W.Frag) : TS :=
  (tSeq (tIfS (tTest (tOp rEq (tVar 0) (tC (.str "either"))))
  (tRet (tOrV (tVar 1) (tVar 2)))
  tNext)
  (tRet (tIf (tTest (tOp rEq (tVar 0) (tC (.str "both")))) (tAndV (tVar 1) (tVar 2)) (tAndV (tVar 1) (tNotV (tVar 2))))))
theorem der_is_kept {P : Program} {w : World} {K : PySem.W.Frag} {mg : Str → Option Value} {base : Heap} {f : Addr} {cdv : Value} {A : Around} {outer : List Env} {s : Shared} {H : Hp} {E : XK} (hr : Room 0 (A.deeper (envOfC "is_kept" (defScope s_is_kept) s.heap.objs.size f cdv))) : PSs (cxOf CX0 P w K mg base N_is_kept "is_kept" (defScope s_is_kept) f cdv A outer s H E).nox (defBody s_is_kept) (t_is_kept K) := by
  unfold t_is_kept
  exact (pss_cons (ps_if (pt_cmpR op_eq (pv 0) pe_str (nomark _))
  (pss_one (ps_ret (pe_or (pv 1) (pe_one (pv 2)))))
  pss_nil)
  (pss_one (ps_ret (pe_ifExp (pt_cmpR op_eq (pv 0) pe_str (nomark _)) (pe_and (pv 1) (pe_one (pv 2))) (pe_and (pv 1) (pe_one (pe_not (pv 2))))))))
/-! ### ends_of: slots 0:one 1:other 2:found 3:part -/
abbrev N_ends_of : List Str := ["one", "other", "found", "part"]
theorem sc_ends_of : FnScope N_ends_of ["one", "other"] (defScope s_ends_of) := ⟨rfl, rfl, rfl, by decide +kernel, rfl, by decide +kernel, by decide +kernel⟩
def t_ends_of (K : PySem.W.Frag) : TS :=
  (tSeq (tAsg tDNewK (gName 2))
  (tSeq (tFor (iList K (tLst (StX.tStar K (tVar 0) (StX.tStar K (tVar 1) tNil)))) (gName 3)
  (tAsg (tTup (tCons (tC (.bl true)) (tCons (tC (.bl true)) tNil))) (gTup K 2 (gCons (gSub (tVar 2) (tOp (rIxT K) (tVar 3) (tC (.int 0))) rSetDK) (gCons (gSub (tVar 2) (tOp (rIxT K) (tVar 3) (tC (.int 1))) rSetDK) gNil)))))
  (tRet (tCB rSortedDK (tCons (tVar 2) tNil)))))
theorem der_ends_of {P : Program} {w : World} {K : PySem.W.Frag} {mg : Str → Option Value} {base : Heap} {f : Addr} {cdv : Value} {A : Around} {outer : List Env} {s : Shared} {H : Hp} {E : XK} (m_sorted : mg "sorted" = none) (hr : Room 0 (A.deeper (envOfC "ends_of" (defScope s_ends_of) s.heap.objs.size f cdv))) : PSs (cxOf CX0 P w K mg base N_ends_of "ends_of" (defScope s_ends_of) f cdv A outer s H E).nox (defBody s_ends_of) (t_ends_of K) := by
  unfold t_ends_of
  exact (pss_cons (ps_set (i := 2) sc_ends_of.nd rfl (Or.inl rfl) pe_dnewK)
  (pss_cons (ps_for PassesOwn.never rfl (pi_list (pe_lst (StX.pa_star (pv 0) (StX.pa_star (pv 1) pa_nil)))) (pg_name (i := 3) sc_ends_of.nd rfl (Or.inl rfl))
  (pss_one (ps_asg (pe_tup (pa_cons pe_bl (pa_cons pe_bl pa_nil))) (pg_tup rfl (pgs_cons (pg_sub (pv 2) (pe_ix ix_tup (pv 3) pe_int (fun _ _ => rfl)) (set_dK (hu_of hr))) (pgs_cons (pg_sub (pv 2) (pe_ix ix_tup (pv 3) pe_int (fun _ _ => rfl)) (set_dK (hu_of hr))) pgs_nil))))))
  (pss_one (ps_ret (pe_callB (cr_sortedDK rfl) (by rfl) m_sorted (by decide +kernel) (pa_cons (pv 2) pa_nil))))))
/-! ### rows_made: slots 0:one 1:other 2:word 3:found 4:at 5:place 6:ends 7:low 8:high 9:is_in -/
abbrev N_rows_made : List Str := ["one", "other", "word", "found", "at", "place", "ends", "low", "high", "is_in"]
theorem sc_rows_made : FnScope N_rows_made ["one", "other", "word"] (defScope s_rows_made) := ⟨rfl, rfl, rfl, by decide +kernel, rfl, by decide +kernel, by decide +kernel⟩
def t_rows_made (K : PySem.W.Frag) (sp_ends_of : Sp) (sp_is_kept : Sp) : TS :=
  (tSeq (tPar3 3 4 5 (tCons (tLst tNil) (tCons (tC (.int 0)) (tCons (tC (.int 0)) tNil))))
  (tSeq (tAsg (tCall sp_ends_of [] E0 (tCons (tVar 0) (tCons (tVar 1) tNil))) (gName 6))
  (tSeq (tFor (iZip K (tCons (tVar 6) (tCons (tSl (rSlL K) (tVar 6) (tPart (tC (.int 1))) tNoPart) tNil))) (gTup K 2 (gCons (gName 7) (gCons (gName 8) gNil)))
  (tSeq (tWhile (tAnd (tTest (tOp rLtI (tVar 4) (tCB (rLenS K) (tCons (tVar 0) tNil)))) (tTest (tOp rLeI (tOp (rIxT K) (tOp (rIxT K) (tVar 0) (tVar 4)) (tC (.int 1))) (tVar 7))))
  (tAug 4 (tC (.int 1)) (ipI fun i j => i + j)))
  (tSeq (tWhile (tAnd (tTest (tOp rLtI (tVar 5) (tCB (rLenS K) (tCons (tVar 1) tNil)))) (tTest (tOp rLeI (tOp (rIxT K) (tOp (rIxT K) (tVar 1) (tVar 5)) (tC (.int 1))) (tVar 7))))
  (tAug 5 (tC (.int 1)) (ipI fun i j => i + j)))
  (tSeq (tAsg (tAndV (tOp rLtI (tVar 4) (tCB (rLenS K) (tCons (tVar 0) tNil))) (tOp rLeI (tOp (rIxT K) (tOp (rIxT K) (tVar 0) (tVar 4)) (tC (.int 0))) (tVar 7))) (gName 9))
  (tIfS (tB (tCall sp_is_kept [] E0 (tCons (tVar 2) (tCons (tVar 9) (tCons (tAndV (tOp rLtI (tVar 5) (tCB (rLenS K) (tCons (tVar 1) tNil))) (tOp rLeI (tOp (rIxT K) (tOp (rIxT K) (tVar 1) (tVar 5)) (tC (.int 0))) (tVar 7))) tNil)))))
  (tIfS (tAnd (tTest (tOp (rNeD K) (tVar 3) (tLst tNil))) (tTest (tOp rEq (tOp (rIxT K) (tOp (rIxL K) (tVar 3) (tUn rNeg (tC (.int 1)))) (tC (.int 1))) (tVar 7))))
  (tAsg (tTup (tCons (tOp (rIxT K) (tOp (rIxL K) (tVar 3) (tUn rNeg (tC (.int 1)))) (tC (.int 0))) (tCons (tVar 8) tNil))) (gSub (tVar 3) (tUn rNeg (tC (.int 1))) rSetL))
  (tDrop (tBM K "list" rAppend (tVar 3) (tCons (tTup (tCons (tVar 7) (tCons (tVar 8) tNil))) tNil))))
  tNext)))))
  (tRet (tCB (rTupS K) (tCons (tVar 3) tNil))))))
theorem der_rows_made {P : Program} {w : World} {K : PySem.W.Frag} {mg : Str → Option Value} {base : Heap} {f : Addr} {cdv : Value} {A : Around} {outer : List Env} {s : Shared} {H : Hp} {E : XK} {sp_ends_of : Sp} (c_ends_of : Cl P w K mg base 1 "ends_of" sp_ends_of) {sp_is_kept : Sp} (c_is_kept : Cl P w K mg base 1 "is_kept" sp_is_kept) (m_zip : mg "zip" = none) (m_len : mg "len" = none) (m_tuple : mg "tuple" = none) (hr : Room 2 (A.deeper (envOfC "rows_made" (defScope s_rows_made) s.heap.objs.size f cdv))) : PSs (cxOf CX0 P w K mg base N_rows_made "rows_made" (defScope s_rows_made) f cdv A outer s H E).nox (defBody s_rows_made) (t_rows_made K sp_ends_of sp_is_kept) := by
  unfold t_rows_made
  exact (pss_cons (ps_par3 (by rfl) sc_rows_made.nd rfl rfl rfl (by decide) (by decide) (by decide) rfl rfl rfl (pa_cons (pe_lst pa_nil) (pa_cons pe_int (pa_cons pe_int pa_nil))) (by rfl))
  (pss_cons (ps_set (i := 6) sc_rows_made.nd rfl (Or.inl rfl) (pe_cl c_ends_of hr (by decide) (by rfl) (pa_cons (pv 0) (pa_cons (pv 1) pa_nil))))
  (pss_cons (ps_for PassesOwn.never rfl (pi_zip (by rfl) m_zip (pa_cons (pv 6) (pa_cons (pe_slice sl_list (pv 6) (po_some pe_int) po_none) pa_nil))) (pg_tup rfl (pgs_cons (pg_name (i := 7) sc_rows_made.nd rfl (Or.inl rfl)) (pgs_cons (pg_name (i := 8) sc_rows_made.nd rfl (Or.inl rfl)) pgs_nil)))
  (pss_cons (ps_while PassesOwn.never (PW.pt (pw_and (pt_cmpR op_lt (pv 4) (pe_callB cr_lenS (by rfl) m_len (by decide +kernel) (pa_cons (pv 0) pa_nil)) (nomark _)) (pw_and1 (pt_cmpR op_le (pe_ix ix_tup (pe_ix ix_tup (pv 0) (pv 4) (fun _ _ => rfl)) pe_int (fun _ _ => rfl)) (pv 7) (nomark _)))))
  (pss_one (ps_aug (i := 4) sc_rows_made.nd rfl (Or.inl rfl) pe_int ip_add)))
  (pss_cons (ps_while PassesOwn.never (PW.pt (pw_and (pt_cmpR op_lt (pv 5) (pe_callB cr_lenS (by rfl) m_len (by decide +kernel) (pa_cons (pv 1) pa_nil)) (nomark _)) (pw_and1 (pt_cmpR op_le (pe_ix ix_tup (pe_ix ix_tup (pv 1) (pv 5) (fun _ _ => rfl)) pe_int (fun _ _ => rfl)) (pv 7) (nomark _)))))
  (pss_one (ps_aug (i := 5) sc_rows_made.nd rfl (Or.inl rfl) pe_int ip_add)))
  (pss_cons (ps_set (i := 9) sc_rows_made.nd rfl (Or.inl rfl) (pe_and (pe_cmpR op_lt (pv 4) (pe_callB cr_lenS (by rfl) m_len (by decide +kernel) (pa_cons (pv 0) pa_nil)) (nomark _)) (pe_one (pe_cmpR op_le (pe_ix ix_tup (pe_ix ix_tup (pv 0) (pv 4) (fun _ _ => rfl)) pe_int (fun _ _ => rfl)) (pv 7) (nomark _)))))
  (pss_one (ps_if (pt_val (pe_cl c_is_kept hr (by decide) (by rfl) (pa_cons (pv 2) (pa_cons (pv 9) (pa_cons (pe_and (pe_cmpR op_lt (pv 5) (pe_callB cr_lenS (by rfl) m_len (by decide +kernel) (pa_cons (pv 1) pa_nil)) (nomark _)) (pe_one (pe_cmpR op_le (pe_ix ix_tup (pe_ix ix_tup (pv 1) (pv 5) (fun _ _ => rfl)) pe_int (fun _ _ => rfl)) (pv 7) (nomark _)))) pa_nil)))))
  (pss_one (ps_if (PW.pt (pw_and (pt_cmpR (op_neD hr.units) (pv 3) (pe_lst pa_nil) (nomark _)) (pw_and1 (pt_cmpR op_eq (pe_ix ix_tup (pe_ix ix_list (pv 3) (pe_un un_neg pe_int) (fun _ _ => rfl)) pe_int (fun _ _ => rfl)) (pv 7) (nomark _)))))
  (pss_one (ps_asg (pe_tup (pa_cons (pe_ix ix_tup (pe_ix ix_list (pv 3) (pe_un un_neg pe_int) (fun _ _ => rfl)) pe_int (fun _ _ => rfl)) (pa_cons (pv 8) pa_nil))) (pg_sub (pv 3) (pe_un un_neg pe_int) set_list)))
  (pss_one (ps_expr (pe_bm PySem.F.plainAttrs_list PySem.F.slot_list_append PySem.F.type_list_append mt_append (pv 3) (pa_cons (pe_tup (pa_cons (pv 7) (pa_cons (pv 8) pa_nil))) pa_nil))))))
  pss_nil))))))
  (pss_one (ps_ret (pe_callTy cr_tupS (by rfl) m_tuple (by decide +kernel) (pa_cons (pv 3) pa_nil)))))))
/-! ### stretches_made: slots 0:one 1:other 2:word 3:inner 4:found 5:at 6:place 7:ends 8:low 9:high 10:first 11:second 12:inside -/
abbrev N_stretches_made : List Str := ["one", "other", "word", "inner", "found", "at", "place", "ends", "low", "high", "first", "second", "inside"]
theorem sc_stretches_made : FnScope N_stretches_made ["one", "other", "word", "inner"] (defScope s_stretches_made) := ⟨rfl, rfl, rfl, by decide +kernel, rfl, by decide +kernel, by decide +kernel⟩
def t_stretches_made (K : PySem.W.Frag) (f_inner : Addr) (sp_inner : Sp) (sp_ends_of : Sp) : TS :=
  (tSeq (tPar3 4 5 6 (tCons (tLst tNil) (tCons (tC (.int 0)) (tCons (tC (.int 0)) tNil))))
  (tSeq (tAsg (tCall sp_ends_of [] E0 (tCons (tVar 0) (tCons (tVar 1) tNil))) (gName 7))
  (tSeq (tFor (iZip K (tCons (tVar 7) (tCons (tSl (rSlL K) (tVar 7) (tPart (tC (.int 1))) tNoPart) tNil))) (gTup K 2 (gCons (gName 8) (gCons (gName 9) gNil)))
  (tSeq (tWhile (tAnd (tTest (tOp rLtI (tVar 5) (tCB (rLenS K) (tCons (tVar 0) tNil)))) (tTest (tOp rLeI (tOp (rIxT K) (tOp (rIxT K) (tVar 0) (tVar 5)) (tC (.int 1))) (tVar 8))))
  (tAug 5 (tC (.int 1)) (ipI fun i j => i + j)))
  (tSeq (tWhile (tAnd (tTest (tOp rLtI (tVar 6) (tCB (rLenS K) (tCons (tVar 1) tNil)))) (tTest (tOp rLeI (tOp (rIxT K) (tOp (rIxT K) (tVar 1) (tVar 6)) (tC (.int 1))) (tVar 8))))
  (tAug 6 (tC (.int 1)) (ipI fun i j => i + j)))
  (tSeq (tAsg (tIf (tAnd (tTest (tOp rLtI (tVar 5) (tCB (rLenS K) (tCons (tVar 0) tNil)))) (tTest (tOp rLeI (tOp (rIxT K) (tOp (rIxT K) (tVar 0) (tVar 5)) (tC (.int 0))) (tVar 8)))) (tOp (rIxT K) (tOp (rIxT K) (tVar 0) (tVar 5)) (tC (.int 2))) (tTup tNil)) (gName 10))
  (tSeq (tAsg (tIf (tAnd (tTest (tOp rLtI (tVar 6) (tCB (rLenS K) (tCons (tVar 1) tNil)))) (tTest (tOp rLeI (tOp (rIxT K) (tOp (rIxT K) (tVar 1) (tVar 6)) (tC (.int 0))) (tVar 8)))) (tOp (rIxT K) (tOp (rIxT K) (tVar 1) (tVar 6)) (tC (.int 2))) (tTup tNil)) (gName 11))
  (tSeq (tAsg (tCallL 3 f_inner sp_inner [] E0 (tCons (tVar 10) (tCons (tVar 11) (tCons (tVar 2) tNil)))) (gName 12))
  (tIfS (tTest (tOp (rNeD K) (tVar 12) (tTup tNil)))
  (tIfS (tAnd (tTest (tOp (rNeD K) (tVar 4) (tLst tNil))) (tAnd (tTest (tOp rEq (tOp (rIxT K) (tOp (rIxL K) (tVar 4) (tUn rNeg (tC (.int 1)))) (tC (.int 1))) (tVar 8))) (tTest (tOp (rEqD K) (tOp (rIxT K) (tOp (rIxL K) (tVar 4) (tUn rNeg (tC (.int 1)))) (tC (.int 2))) (tVar 12)))))
  (tAsg (tTup (tCons (tOp (rIxT K) (tOp (rIxL K) (tVar 4) (tUn rNeg (tC (.int 1)))) (tC (.int 0))) (tCons (tVar 9) (tCons (tVar 12) tNil)))) (gSub (tVar 4) (tUn rNeg (tC (.int 1))) rSetL))
  (tDrop (tBM K "list" rAppend (tVar 4) (tCons (tTup (tCons (tVar 8) (tCons (tVar 9) (tCons (tVar 12) tNil)))) tNil))))
  tNext)))))))
  (tRet (tCB (rTupS K) (tCons (tVar 4) tNil))))))
theorem der_stretches_made {P : Program} {w : World} {K : PySem.W.Frag} {mg : Str → Option Value} {base : Heap} {f : Addr} {cdv : Value} {A : Around} {outer : List Env} {s : Shared} {H : Hp} {E : XK} {f_inner : Addr} {sp_inner : Sp} (c_inner : ClF P w K mg base 3 f_inner sp_inner) {sp_ends_of : Sp} (c_ends_of : Cl P w K mg base 1 "ends_of" sp_ends_of) (m_zip : mg "zip" = none) (m_len : mg "len" = none) (m_tuple : mg "tuple" = none) (hr : Room 3 (A.deeper (envOfC "stretches_made" (defScope s_stretches_made) s.heap.objs.size f cdv))) : PSs (cxOf CX0 P w K mg base N_stretches_made "stretches_made" (defScope s_stretches_made) f cdv A outer s H E).nox (defBody s_stretches_made) (t_stretches_made K f_inner sp_inner sp_ends_of) := by
  unfold t_stretches_made
  exact (pss_cons (ps_par3 (by rfl) sc_stretches_made.nd rfl rfl rfl (by decide) (by decide) (by decide) rfl rfl rfl (pa_cons (pe_lst pa_nil) (pa_cons pe_int (pa_cons pe_int pa_nil))) (by rfl))
  (pss_cons (ps_set (i := 7) sc_stretches_made.nd rfl (Or.inl rfl) (pe_cl c_ends_of hr (by decide) (by rfl) (pa_cons (pv 0) (pa_cons (pv 1) pa_nil))))
  (pss_cons (ps_for PassesOwn.never rfl (pi_zip (by rfl) m_zip (pa_cons (pv 7) (pa_cons (pe_slice sl_list (pv 7) (po_some pe_int) po_none) pa_nil))) (pg_tup rfl (pgs_cons (pg_name (i := 8) sc_stretches_made.nd rfl (Or.inl rfl)) (pgs_cons (pg_name (i := 9) sc_stretches_made.nd rfl (Or.inl rfl)) pgs_nil)))
  (pss_cons (ps_while PassesOwn.never (PW.pt (pw_and (pt_cmpR op_lt (pv 5) (pe_callB cr_lenS (by rfl) m_len (by decide +kernel) (pa_cons (pv 0) pa_nil)) (nomark _)) (pw_and1 (pt_cmpR op_le (pe_ix ix_tup (pe_ix ix_tup (pv 0) (pv 5) (fun _ _ => rfl)) pe_int (fun _ _ => rfl)) (pv 8) (nomark _)))))
  (pss_one (ps_aug (i := 5) sc_stretches_made.nd rfl (Or.inl rfl) pe_int ip_add)))
  (pss_cons (ps_while PassesOwn.never (PW.pt (pw_and (pt_cmpR op_lt (pv 6) (pe_callB cr_lenS (by rfl) m_len (by decide +kernel) (pa_cons (pv 1) pa_nil)) (nomark _)) (pw_and1 (pt_cmpR op_le (pe_ix ix_tup (pe_ix ix_tup (pv 1) (pv 6) (fun _ _ => rfl)) pe_int (fun _ _ => rfl)) (pv 8) (nomark _)))))
  (pss_one (ps_aug (i := 6) sc_stretches_made.nd rfl (Or.inl rfl) pe_int ip_add)))
  (pss_cons (ps_set (i := 10) sc_stretches_made.nd rfl (Or.inl rfl) (pe_ifExp (PW.pt (pw_and (pt_cmpR op_lt (pv 5) (pe_callB cr_lenS (by rfl) m_len (by decide +kernel) (pa_cons (pv 0) pa_nil)) (nomark _)) (pw_and1 (pt_cmpR op_le (pe_ix ix_tup (pe_ix ix_tup (pv 0) (pv 5) (fun _ _ => rfl)) pe_int (fun _ _ => rfl)) (pv 8) (nomark _))))) (pe_ix ix_tup (pe_ix ix_tup (pv 0) (pv 5) (fun _ _ => rfl)) pe_int (fun _ _ => rfl)) (pe_tup pa_nil)))
  (pss_cons (ps_set (i := 11) sc_stretches_made.nd rfl (Or.inl rfl) (pe_ifExp (PW.pt (pw_and (pt_cmpR op_lt (pv 6) (pe_callB cr_lenS (by rfl) m_len (by decide +kernel) (pa_cons (pv 1) pa_nil)) (nomark _)) (pw_and1 (pt_cmpR op_le (pe_ix ix_tup (pe_ix ix_tup (pv 1) (pv 6) (fun _ _ => rfl)) pe_int (fun _ _ => rfl)) (pv 8) (nomark _))))) (pe_ix ix_tup (pe_ix ix_tup (pv 1) (pv 6) (fun _ _ => rfl)) pe_int (fun _ _ => rfl)) (pe_tup pa_nil)))
  (pss_cons (ps_set (i := 12) sc_stretches_made.nd rfl (Or.inl rfl) (pe_cll c_inner hr (by decide) (by rfl) (.inl rfl) (pa_cons (pv 10) (pa_cons (pv 11) (pa_cons (pv 2) pa_nil)))))
  (pss_one (ps_if (pt_cmpR (op_neD hr.units) (pv 12) (pe_tup pa_nil) (nomark _))
  (pss_one (ps_if (PW.pt (pw_and (pt_cmpR (op_neD hr.units) (pv 4) (pe_lst pa_nil) (nomark _)) (pw_and (pt_cmpR op_eq (pe_ix ix_tup (pe_ix ix_list (pv 4) (pe_un un_neg pe_int) (fun _ _ => rfl)) pe_int (fun _ _ => rfl)) (pv 8) (nomark _)) (pw_and1 (pt_cmpR (op_eqD hr.units) (pe_ix ix_tup (pe_ix ix_list (pv 4) (pe_un un_neg pe_int) (fun _ _ => rfl)) pe_int (fun _ _ => rfl)) (pv 12) (nomark _))))))
  (pss_one (ps_asg (pe_tup (pa_cons (pe_ix ix_tup (pe_ix ix_list (pv 4) (pe_un un_neg pe_int) (fun _ _ => rfl)) pe_int (fun _ _ => rfl)) (pa_cons (pv 9) (pa_cons (pv 12) pa_nil)))) (pg_sub (pv 4) (pe_un un_neg pe_int) set_list)))
  (pss_one (ps_expr (pe_bm PySem.F.plainAttrs_list PySem.F.slot_list_append PySem.F.type_list_append mt_append (pv 4) (pa_cons (pe_tup (pa_cons (pv 8) (pa_cons (pv 9) (pa_cons (pv 12) pa_nil)))) pa_nil))))))
  pss_nil))))))))
  (pss_one (ps_ret (pe_callTy cr_tupS (by rfl) m_tuple (by decide +kernel) (pa_cons (pv 4) pa_nil)))))))
theorem der_stretches_made6 {P : Program} {w : World} {K : PySem.W.Frag} {mg : Str → Option Value} {base : Heap} {f : Addr} {cdv : Value} {A : Around} {outer : List Env} {s : Shared} {H : Hp} {E : XK} {f_inner : Addr} {sp_inner : Sp} (c_inner : ClF P w K mg base 5 f_inner sp_inner) {sp_ends_of : Sp} (c_ends_of : Cl P w K mg base 1 "ends_of" sp_ends_of) (m_zip : mg "zip" = none) (m_len : mg "len" = none) (m_tuple : mg "tuple" = none) (hr : Room 5 (A.deeper (envOfC "stretches_made" (defScope s_stretches_made) s.heap.objs.size f cdv))) : PSs (cxOf CX0 P w K mg base N_stretches_made "stretches_made" (defScope s_stretches_made) f cdv A outer s H E).nox (defBody s_stretches_made) (t_stretches_made K f_inner sp_inner sp_ends_of) := by
  unfold t_stretches_made
  exact (pss_cons (ps_par3 (by rfl) sc_stretches_made.nd rfl rfl rfl (by decide) (by decide) (by decide) rfl rfl rfl (pa_cons (pe_lst pa_nil) (pa_cons pe_int (pa_cons pe_int pa_nil))) (by rfl))
  (pss_cons (ps_set (i := 7) sc_stretches_made.nd rfl (Or.inl rfl) (pe_cl c_ends_of hr (by decide) (by rfl) (pa_cons (pv 0) (pa_cons (pv 1) pa_nil))))
  (pss_cons (ps_for PassesOwn.never rfl (pi_zip (by rfl) m_zip (pa_cons (pv 7) (pa_cons (pe_slice sl_list (pv 7) (po_some pe_int) po_none) pa_nil))) (pg_tup rfl (pgs_cons (pg_name (i := 8) sc_stretches_made.nd rfl (Or.inl rfl)) (pgs_cons (pg_name (i := 9) sc_stretches_made.nd rfl (Or.inl rfl)) pgs_nil)))
  (pss_cons (ps_while PassesOwn.never (PW.pt (pw_and (pt_cmpR op_lt (pv 5) (pe_callB cr_lenS (by rfl) m_len (by decide +kernel) (pa_cons (pv 0) pa_nil)) (nomark _)) (pw_and1 (pt_cmpR op_le (pe_ix ix_tup (pe_ix ix_tup (pv 0) (pv 5) (fun _ _ => rfl)) pe_int (fun _ _ => rfl)) (pv 8) (nomark _)))))
  (pss_one (ps_aug (i := 5) sc_stretches_made.nd rfl (Or.inl rfl) pe_int ip_add)))
  (pss_cons (ps_while PassesOwn.never (PW.pt (pw_and (pt_cmpR op_lt (pv 6) (pe_callB cr_lenS (by rfl) m_len (by decide +kernel) (pa_cons (pv 1) pa_nil)) (nomark _)) (pw_and1 (pt_cmpR op_le (pe_ix ix_tup (pe_ix ix_tup (pv 1) (pv 6) (fun _ _ => rfl)) pe_int (fun _ _ => rfl)) (pv 8) (nomark _)))))
  (pss_one (ps_aug (i := 6) sc_stretches_made.nd rfl (Or.inl rfl) pe_int ip_add)))
  (pss_cons (ps_set (i := 10) sc_stretches_made.nd rfl (Or.inl rfl) (pe_ifExp (PW.pt (pw_and (pt_cmpR op_lt (pv 5) (pe_callB cr_lenS (by rfl) m_len (by decide +kernel) (pa_cons (pv 0) pa_nil)) (nomark _)) (pw_and1 (pt_cmpR op_le (pe_ix ix_tup (pe_ix ix_tup (pv 0) (pv 5) (fun _ _ => rfl)) pe_int (fun _ _ => rfl)) (pv 8) (nomark _))))) (pe_ix ix_tup (pe_ix ix_tup (pv 0) (pv 5) (fun _ _ => rfl)) pe_int (fun _ _ => rfl)) (pe_tup pa_nil)))
  (pss_cons (ps_set (i := 11) sc_stretches_made.nd rfl (Or.inl rfl) (pe_ifExp (PW.pt (pw_and (pt_cmpR op_lt (pv 6) (pe_callB cr_lenS (by rfl) m_len (by decide +kernel) (pa_cons (pv 1) pa_nil)) (nomark _)) (pw_and1 (pt_cmpR op_le (pe_ix ix_tup (pe_ix ix_tup (pv 1) (pv 6) (fun _ _ => rfl)) pe_int (fun _ _ => rfl)) (pv 8) (nomark _))))) (pe_ix ix_tup (pe_ix ix_tup (pv 1) (pv 6) (fun _ _ => rfl)) pe_int (fun _ _ => rfl)) (pe_tup pa_nil)))
  (pss_cons (ps_set (i := 12) sc_stretches_made.nd rfl (Or.inl rfl) (pe_cll c_inner hr (by decide) (by rfl) (.inl rfl) (pa_cons (pv 10) (pa_cons (pv 11) (pa_cons (pv 2) pa_nil)))))
  (pss_one (ps_if (pt_cmpR (op_neD hr.units) (pv 12) (pe_tup pa_nil) (nomark _))
  (pss_one (ps_if (PW.pt (pw_and (pt_cmpR (op_neD hr.units) (pv 4) (pe_lst pa_nil) (nomark _)) (pw_and (pt_cmpR op_eq (pe_ix ix_tup (pe_ix ix_list (pv 4) (pe_un un_neg pe_int) (fun _ _ => rfl)) pe_int (fun _ _ => rfl)) (pv 8) (nomark _)) (pw_and1 (pt_cmpR (op_eqD hr.units) (pe_ix ix_tup (pe_ix ix_list (pv 4) (pe_un un_neg pe_int) (fun _ _ => rfl)) pe_int (fun _ _ => rfl)) (pv 12) (nomark _))))))
  (pss_one (ps_asg (pe_tup (pa_cons (pe_ix ix_tup (pe_ix ix_list (pv 4) (pe_un un_neg pe_int) (fun _ _ => rfl)) pe_int (fun _ _ => rfl)) (pa_cons (pv 9) (pa_cons (pv 12) pa_nil)))) (pg_sub (pv 4) (pe_un un_neg pe_int) set_list)))
  (pss_one (ps_expr (pe_bm PySem.F.plainAttrs_list PySem.F.slot_list_append PySem.F.type_list_append mt_append (pv 4) (pa_cons (pe_tup (pa_cons (pv 8) (pa_cons (pv 9) (pa_cons (pv 12) pa_nil)))) pa_nil))))))
  pss_nil))))))))
  (pss_one (ps_ret (pe_callTy cr_tupS (by rfl) m_tuple (by decide +kernel) (pa_cons (pv 4) pa_nil)))))))
/-! ### layers_made: slots 0:one 1:other 2:word -/
abbrev N_layers_made : List Str := ["one", "other", "word"]
theorem sc_layers_made : FnScope N_layers_made ["one", "other", "word"] (defScope s_layers_made) := ⟨rfl, rfl, rfl, by decide +kernel, rfl, by decide +kernel, by decide +kernel⟩
def t_layers_made (K : PySem.W.Frag) (f_rows_made : Addr) (sp_stretches_made : Sp) : TS :=
  (tRet (tCall sp_stretches_made [] E0 (tCons (tVar 0) (tCons (tVar 1) (tCons (tVar 2) (tCons (tC (.ref f_rows_made)) tNil))))))
theorem der_layers_made {P : Program} {w : World} {K : PySem.W.Frag} {mg : Str → Option Value} {base : Heap} {f : Addr} {cdv : Value} {A : Around} {outer : List Env} {s : Shared} {H : Hp} {E : XK} {f_rows_made : Addr} (g_rows_made : mg "rows_made" = some (.ref f_rows_made)) {sp_stretches_made : Sp} (c_stretches_made : Cl P w K mg base 4 "stretches_made" sp_stretches_made) (hr : Room 4 (A.deeper (envOfC "layers_made" (defScope s_layers_made) s.heap.objs.size f cdv))) : PSs (cxOf CX0 P w K mg base N_layers_made "layers_made" (defScope s_layers_made) f cdv A outer s H E).nox (defBody s_layers_made) (t_layers_made K f_rows_made sp_stretches_made) := by
  unfold t_layers_made
  exact (pss_one (ps_ret (pe_cl c_stretches_made hr (by decide) (by rfl) (pa_cons (pv 0) (pa_cons (pv 1) (pa_cons (pv 2) (pa_cons (pe_glob (by rfl) g_rows_made rfl) pa_nil)))))))
/-! ### union: slots 0:one 1:other -/
abbrev N_union : List Str := ["one", "other"]
theorem sc_union : FnScope N_union ["one", "other"] (defScope s_union) := ⟨rfl, rfl, rfl, by decide +kernel, rfl, by decide +kernel, by decide +kernel⟩
def t_union (K : PySem.W.Frag) (f_layers_made : Addr) (sp_stretches_made : Sp) : TS :=
  (tRet (tCall sp_stretches_made [] E0 (tCons (tVar 0) (tCons (tVar 1) (tCons (tC (.str "either")) (tCons (tC (.ref f_layers_made)) tNil))))))
theorem der_union {P : Program} {w : World} {K : PySem.W.Frag} {mg : Str → Option Value} {base : Heap} {f : Addr} {cdv : Value} {A : Around} {outer : List Env} {s : Shared} {H : Hp} {E : XK} {f_layers_made : Addr} (g_layers_made : mg "layers_made" = some (.ref f_layers_made)) {sp_stretches_made : Sp} (c_stretches_made : Cl P w K mg base 6 "stretches_made" sp_stretches_made) (hr : Room 6 (A.deeper (envOfC "union" (defScope s_union) s.heap.objs.size f cdv))) : PSs (cxOf CX0 P w K mg base N_union "union" (defScope s_union) f cdv A outer s H E).nox (defBody s_union) (t_union K f_layers_made sp_stretches_made) := by
  unfold t_union
  exact (pss_one (ps_ret (pe_cl c_stretches_made hr (by decide) (by rfl) (pa_cons (pv 0) (pa_cons (pv 1) (pa_cons pe_str (pa_cons (pe_glob (by rfl) g_layers_made rfl) pa_nil)))))))
/-! ### meet: slots 0:one 1:other -/
abbrev N_meet : List Str := ["one", "other"]
theorem sc_meet : FnScope N_meet ["one", "other"] (defScope s_meet) := ⟨rfl, rfl, rfl, by decide +kernel, rfl, by decide +kernel, by decide +kernel⟩
def t_meet (K : PySem.W.Frag) (f_layers_made : Addr) (sp_stretches_made : Sp) : TS :=
  (tRet (tCall sp_stretches_made [] E0 (tCons (tVar 0) (tCons (tVar 1) (tCons (tC (.str "both")) (tCons (tC (.ref f_layers_made)) tNil))))))
theorem der_meet {P : Program} {w : World} {K : PySem.W.Frag} {mg : Str → Option Value} {base : Heap} {f : Addr} {cdv : Value} {A : Around} {outer : List Env} {s : Shared} {H : Hp} {E : XK} {f_layers_made : Addr} (g_layers_made : mg "layers_made" = some (.ref f_layers_made)) {sp_stretches_made : Sp} (c_stretches_made : Cl P w K mg base 6 "stretches_made" sp_stretches_made) (hr : Room 6 (A.deeper (envOfC "meet" (defScope s_meet) s.heap.objs.size f cdv))) : PSs (cxOf CX0 P w K mg base N_meet "meet" (defScope s_meet) f cdv A outer s H E).nox (defBody s_meet) (t_meet K f_layers_made sp_stretches_made) := by
  unfold t_meet
  exact (pss_one (ps_ret (pe_cl c_stretches_made hr (by decide) (by rfl) (pa_cons (pv 0) (pa_cons (pv 1) (pa_cons pe_str (pa_cons (pe_glob (by rfl) g_layers_made rfl) pa_nil)))))))
/-! ### less: slots 0:one 1:other -/
abbrev N_less : List Str := ["one", "other"]
theorem sc_less : FnScope N_less ["one", "other"] (defScope s_less) := ⟨rfl, rfl, rfl, by decide +kernel, rfl, by decide +kernel, by decide +kernel⟩
def t_less (K : PySem.W.Frag) (f_layers_made : Addr) (sp_stretches_made : Sp) : TS :=
  (tRet (tCall sp_stretches_made [] E0 (tCons (tVar 0) (tCons (tVar 1) (tCons (tC (.str "first")) (tCons (tC (.ref f_layers_made)) tNil))))))
theorem der_less {P : Program} {w : World} {K : PySem.W.Frag} {mg : Str → Option Value} {base : Heap} {f : Addr} {cdv : Value} {A : Around} {outer : List Env} {s : Shared} {H : Hp} {E : XK} {f_layers_made : Addr} (g_layers_made : mg "layers_made" = some (.ref f_layers_made)) {sp_stretches_made : Sp} (c_stretches_made : Cl P w K mg base 6 "stretches_made" sp_stretches_made) (hr : Room 6 (A.deeper (envOfC "less" (defScope s_less) s.heap.objs.size f cdv))) : PSs (cxOf CX0 P w K mg base N_less "less" (defScope s_less) f cdv A outer s H E).nox (defBody s_less) (t_less K f_layers_made sp_stretches_made) := by
  unfold t_less
  exact (pss_one (ps_ret (pe_cl c_stretches_made hr (by decide) (by rfl) (pa_cons (pv 0) (pa_cons (pv 1) (pa_cons pe_str (pa_cons (pe_glob (by rfl) g_layers_made rfl) pa_nil)))))))
end Sw
set_option Elab.async false
set_option linter.all false
set_option maxRecDepth 100000
set_option maxHeartbeats 4000000
set_option autoImplicit false
namespace Sw
open PySem PySem.Spec PyProof.Rows L2
/-! ### union_of: slots 0:solids 1:left 2:pairs 3:one 4:other -/
abbrev N_union_of : List Str := ["solids", "left", "pairs", "one", "other"]
theorem sc_union_of : FnScope N_union_of ["solids"] (defScope s_union_of) := ⟨rfl, rfl, rfl, by decide +kernel, rfl, by decide +kernel, by decide +kernel⟩
def t_union_of (K : PySem.W.Frag) (sp_union : Sp) : TS :=
  (tSeq (tAsg (tCB (rListS K) (tCons (tVar 0) tNil)) (gName 1))
  (tSeq (tWhile (tTest (tOp rGtI (tCB (rLenS K) (tCons (tVar 1) tNil)) (tC (.int 1))))
  (tSeq (tAsg (tLc (iZip K (tCons (tEvens K (tVar 1)) (tCons (tOdds K (tVar 1)) tNil))) (gTup K 2 (gCons (gName 3) (gCons (gName 4) gNil))) tYes (tCall sp_union [] E0 (tCons (tVar 3) (tCons (tVar 4) tNil))) [3, 4]) (gName 2))
  (tAsg (tOp rCat (tVar 2) (tSl (rSlL K) (tVar 1) (tPart (tOp rTimes (tOp rFdivI (tCB (rLenS K) (tCons (tVar 1) tNil)) (tC (.int 2))) (tC (.int 2)))) tNoPart)) (gName 1))))
  (tRet (tIf (tTest (tOp (rNeD K) (tVar 1) (tLst tNil))) (tOp (rIxL K) (tVar 1) (tC (.int 0))) (tTup tNil)))))
theorem der_union_of {P : Program} {w : World} {K : PySem.W.Frag} {mg : Str → Option Value} {base : Heap} {f : Addr} {cdv : Value} {A : Around} {outer : List Env} {s : Shared} {H : Hp} {E : XK} {sp_union : Sp} (c_union : Cl P w K mg base 7 "union" sp_union) (m_list : mg "list" = none) (m_len : mg "len" = none) (m_zip : mg "zip" = none) (hr : Room 7 (A.deeper (envOfC "union_of" (defScope s_union_of) s.heap.objs.size f cdv))) : PSs (cxOf CX0 P w K mg base N_union_of "union_of" (defScope s_union_of) f cdv A outer s H E).nox (defBody s_union_of) (t_union_of K sp_union) := by
  unfold t_union_of
  exact (pss_cons (ps_set (i := 1) sc_union_of.nd rfl (Or.inl rfl) (pe_callTy cr_listS (by rfl) m_list (by decide +kernel) (pa_cons (pv 0) pa_nil)))
  (pss_cons (ps_while PassesOwn.never (pt_cmpR op_gt (pe_callB cr_lenS (by rfl) m_len (by decide +kernel) (pa_cons (pv 1) pa_nil)) pe_int (nomark _))
  (pss_cons (ps_setLc (i := 2) (own := [("one", 3), ("other", 4)]) (g := (gTup K 2 (gCons (gName 3) (gCons (gName 4) gNil)))) (tt := tYes) (by rfl) sc_union_of.nd rfl rfl (sw_true rfl rfl rfl (by decide +kernel)) (pi_zip (by rfl) m_zip (pa_cons (pe_evens (pv 1)) (pa_cons (pe_odds (pv 1)) pa_nil))) (blkOk_by (own := [("one", 3), ("other", 4)]) (N := N_union_of) (by kernel_rfl)) (fun _ _ _ _ _ => (pg_tup rfl (pgs_cons (pg_name (i := 3) sc_union_of.nd rfl (Or.inl rfl)) (pgs_cons (pg_name (i := 4) sc_union_of.nd rfl (Or.inl rfl)) pgs_nil)))) (fun _ _ _ _ _ => pts_nil) (fun _ _ _ _ _ => (pe_cl c_union hr (by decide) (by rfl) (pa_cons (pv 3) (pa_cons (pv 4) pa_nil)))))
  (pss_one (ps_set (i := 1) sc_union_of.nd rfl (Or.inl rfl) (pe_op op_cat (pv 2) (pe_slice sl_list (pv 1) (po_some (pe_op op_mul (pe_op op_fdiv (pe_callB cr_lenS (by rfl) m_len (by decide +kernel) (pa_cons (pv 1) pa_nil)) pe_int) pe_int)) po_none))))))
  (pss_one (ps_ret (pe_ifExp (pt_cmpR (op_neD hr.units) (pv 1) (pe_lst pa_nil) (nomark _)) (pe_ix ix_list (pv 1) pe_int (fun _ _ => rfl)) (pe_tup pa_nil))))))
/-! ### box: slots 0:corner 1:other 2:axis -/
abbrev N_box : List Str := ["corner", "other", "axis"]
theorem sc_box : FnScope N_box ["corner", "other"] (defScope s_box) := ⟨rfl, rfl, rfl, by decide +kernel, rfl, by decide +kernel, by decide +kernel⟩
def t_box (K : PySem.W.Frag) (aAXES : Addr) : TS :=
  (tSeq (tIfS (tNot (tB (tCB (rAll K) (tCons (tLc (iTup K (tC (.ref aAXES))) (gName 2) tYes (tOp rLtI (tOp (rIxT K) (tVar 0) (tVar 2)) (tOp (rIxT K) (tVar 1) (tVar 2))) [2]) tNil))))
  (tRet (tTup tNil))
  tNext)
  (tRet (tTup (tCons (tTup (tCons (tOp (rIxT K) (tVar 0) (tC (.int 2))) (tCons (tOp (rIxT K) (tVar 1) (tC (.int 2))) (tCons (tTup (tCons (tTup (tCons (tOp (rIxT K) (tVar 0) (tC (.int 1))) (tCons (tOp (rIxT K) (tVar 1) (tC (.int 1))) (tCons (tTup (tCons (tTup (tCons (tOp (rIxT K) (tVar 0) (tC (.int 0))) (tCons (tOp (rIxT K) (tVar 1) (tC (.int 0))) tNil))) tNil)) tNil)))) tNil)) tNil)))) tNil))))
theorem der_box {P : Program} {w : World} {K : PySem.W.Frag} {mg : Str → Option Value} {base : Heap} {f : Addr} {cdv : Value} {A : Around} {outer : List Env} {s : Shared} {H : Hp} {E : XK} {aAXES : Addr} (mAXES : mg "AXES" = some (.ref aAXES)) (m_all : mg "all" = none) (hr : Room 0 (A.deeper (envOfC "box" (defScope s_box) s.heap.objs.size f cdv))) : PSs (cxOf CX0 P w K mg base N_box "box" (defScope s_box) f cdv A outer s H E).nox (defBody s_box) (t_box K aAXES) := by
  unfold t_box
  exact (pss_cons (ps_if (pt_not (pt_val (pe_callB (cr_all rfl) (by rfl) m_all (by decide +kernel) (pa_cons (pe_lc (own := [("axis", 2)]) (g := (gName 2)) (tt := tYes) (by rfl) sc_box.nd (pi_tup (pe_glob (by rfl) mAXES rfl)) (blkOk_by (own := [("axis", 2)]) (N := N_box) (by kernel_rfl)) (fun _ _ _ _ _ => (pg_name (i := 2) sc_box.nd rfl (Or.inl rfl))) (fun _ _ _ _ _ => pts_nil) (fun _ _ _ _ _ => (pe_cmpR op_lt (pe_ix ix_tup (pv 0) (pv 2) (fun _ _ => rfl)) (pe_ix ix_tup (pv 1) (pv 2) (fun _ _ => rfl)) (nomark _)))) pa_nil))))
  (pss_one (ps_ret (pe_tup pa_nil)))
  pss_nil)
  (pss_one (ps_ret (pe_tup (pa_cons (pe_tup (pa_cons (pe_ix ix_tup (pv 0) pe_int (fun _ _ => rfl)) (pa_cons (pe_ix ix_tup (pv 1) pe_int (fun _ _ => rfl)) (pa_cons (pe_tup (pa_cons (pe_tup (pa_cons (pe_ix ix_tup (pv 0) pe_int (fun _ _ => rfl)) (pa_cons (pe_ix ix_tup (pv 1) pe_int (fun _ _ => rfl)) (pa_cons (pe_tup (pa_cons (pe_tup (pa_cons (pe_ix ix_tup (pv 0) pe_int (fun _ _ => rfl)) (pa_cons (pe_ix ix_tup (pv 1) pe_int (fun _ _ => rfl)) pa_nil))) pa_nil)) pa_nil)))) pa_nil)) pa_nil)))) pa_nil)))))
/-! ### is_within: slots 0:one 1:other -/
abbrev N_is_within : List Str := ["one", "other"]
theorem sc_is_within : FnScope N_is_within ["one", "other"] (defScope s_is_within) := ⟨rfl, rfl, rfl, by decide +kernel, rfl, by decide +kernel, by decide +kernel⟩
def t_is_within (K : PySem.W.Frag) (sp_less : Sp) : TS :=
  (tRet (tOp (rEqD K) (tCall sp_less [] E0 (tCons (tVar 0) (tCons (tVar 1) tNil))) (tTup tNil)))
theorem der_is_within {P : Program} {w : World} {K : PySem.W.Frag} {mg : Str → Option Value} {base : Heap} {f : Addr} {cdv : Value} {A : Around} {outer : List Env} {s : Shared} {H : Hp} {E : XK} {sp_less : Sp} (c_less : Cl P w K mg base 7 "less" sp_less) (hr : Room 7 (A.deeper (envOfC "is_within" (defScope s_is_within) s.heap.objs.size f cdv))) : PSs (cxOf CX0 P w K mg base N_is_within "is_within" (defScope s_is_within) f cdv A outer s H E).nox (defBody s_is_within) (t_is_within K sp_less) := by
  unfold t_is_within
  exact (pss_one (ps_ret (pe_cmpR (op_eqD hr.units) (pe_cl c_less hr (by decide) (by rfl) (pa_cons (pv 0) (pa_cons (pv 1) pa_nil))) (pe_tup pa_nil) (nomark _))))
/-! ### boxes_of: slots 0:solid 1:found 2:z0 3:z1 4:layer 5:y0 6:y1 7:row 8:x0 9:x1 -/
abbrev N_boxes_of : List Str := ["solid", "found", "z0", "z1", "layer", "y0", "y1", "row", "x0", "x1"]
theorem sc_boxes_of : FnScope N_boxes_of ["solid"] (defScope s_boxes_of) := ⟨rfl, rfl, rfl, by decide +kernel, rfl, by decide +kernel, by decide +kernel⟩
def t_boxes_of (K : PySem.W.Frag) : TS :=
  (tSeq (tAsg (tLst tNil) (gName 1))
  (tSeq (tFor (iTup K (tVar 0)) (gTup K 3 (gCons (gName 2) (gCons (gName 3) (gCons (gName 4) gNil))))
  (tFor (iTup K (tVar 4)) (gTup K 3 (gCons (gName 5) (gCons (gName 6) (gCons (gName 7) gNil))))
  (tDrop (tBM K "list" rExtend (tVar 1) (tCons (tLc (iTup K (tVar 7)) (gTup K 2 (gCons (gName 8) (gCons (gName 9) gNil))) tYes (tTup (tCons (tTup (tCons (tVar 8) (tCons (tVar 5) (tCons (tVar 2) tNil)))) (tCons (tTup (tCons (tVar 9) (tCons (tVar 6) (tCons (tVar 3) tNil)))) tNil))) [8, 9]) tNil)))))
  (tRet (tVar 1))))
theorem der_boxes_of {P : Program} {w : World} {K : PySem.W.Frag} {mg : Str → Option Value} {base : Heap} {f : Addr} {cdv : Value} {A : Around} {outer : List Env} {s : Shared} {H : Hp} {E : XK} (hr : Room 0 (A.deeper (envOfC "boxes_of" (defScope s_boxes_of) s.heap.objs.size f cdv))) : PSs (cxOf CX0 P w K mg base N_boxes_of "boxes_of" (defScope s_boxes_of) f cdv A outer s H E).nox (defBody s_boxes_of) (t_boxes_of K) := by
  unfold t_boxes_of
  exact (pss_cons (ps_set (i := 1) sc_boxes_of.nd rfl (Or.inl rfl) (pe_lst pa_nil))
  (pss_cons (ps_for PassesOwn.never rfl (pi_tup (pv 0)) (pg_tup rfl (pgs_cons (pg_name (i := 2) sc_boxes_of.nd rfl (Or.inr rfl)) (pgs_cons (pg_name (i := 3) sc_boxes_of.nd rfl (Or.inr rfl)) (pgs_cons (pg_name (i := 4) sc_boxes_of.nd rfl (Or.inl rfl)) pgs_nil))))
  (pss_one (ps_for PassesOwn.never rfl (pi_tup (pv 4)) (pg_tup rfl (pgs_cons (pg_name (i := 5) sc_boxes_of.nd rfl (Or.inr rfl)) (pgs_cons (pg_name (i := 6) sc_boxes_of.nd rfl (Or.inr rfl)) (pgs_cons (pg_name (i := 7) sc_boxes_of.nd rfl (Or.inl rfl)) pgs_nil))))
  (pss_one (ps_expr (pe_bm PySem.F.plainAttrs_list PySem.F.slot_list_extend PySem.F.type_list_extend mt_extend (pv 1) (pa_cons (pe_lc (own := [("x0", 8), ("x1", 9)]) (g := (gTup K 2 (gCons (gName 8) (gCons (gName 9) gNil)))) (tt := tYes) (by rfl) sc_boxes_of.nd (pi_tup (pv 7)) (blkOk_by (own := [("x0", 8), ("x1", 9)]) (N := N_boxes_of) (by kernel_rfl)) (fun _ _ _ _ _ => (pg_tup rfl (pgs_cons (pg_name (i := 8) sc_boxes_of.nd rfl (Or.inl rfl)) (pgs_cons (pg_name (i := 9) sc_boxes_of.nd rfl (Or.inl rfl)) pgs_nil)))) (fun _ _ _ _ _ => pts_nil) (fun _ _ _ _ _ => (pe_tup (pa_cons (pe_tup (pa_cons (pv 8) (pa_cons (pv 5) (pa_cons (pv 2) pa_nil)))) (pa_cons (pe_tup (pa_cons (pv 9) (pa_cons (pv 6) (pa_cons (pv 3) pa_nil)))) pa_nil))))) pa_nil)))))))
  (pss_one (ps_ret (pv 1)))))
/-! ### of_boxes: slots 0:boxes 1:low 2:high -/
abbrev N_of_boxes : List Str := ["boxes", "low", "high"]
theorem sc_of_boxes : FnScope N_of_boxes ["boxes"] (defScope s_of_boxes) := ⟨rfl, rfl, rfl, by decide +kernel, rfl, by decide +kernel, by decide +kernel⟩
def t_of_boxes (K : PySem.W.Frag) (sp_box : Sp) (sp_union_of : Sp) : TS :=
  (tRet (tCall sp_union_of [] E0 (tCons (tLc (iList K (tVar 0)) (gTup K 2 (gCons (gName 1) (gCons (gName 2) gNil))) tYes (tCall sp_box [] E0 (tCons (tVar 1) (tCons (tVar 2) tNil))) [1, 2]) tNil)))
theorem der_of_boxes {P : Program} {w : World} {K : PySem.W.Frag} {mg : Str → Option Value} {base : Heap} {f : Addr} {cdv : Value} {A : Around} {outer : List Env} {s : Shared} {H : Hp} {E : XK} {sp_box : Sp} (c_box : Cl P w K mg base 1 "box" sp_box) {sp_union_of : Sp} (c_union_of : Cl P w K mg base 8 "union_of" sp_union_of) (hr : Room 8 (A.deeper (envOfC "of_boxes" (defScope s_of_boxes) s.heap.objs.size f cdv))) : PSs (cxOf CX0 P w K mg base N_of_boxes "of_boxes" (defScope s_of_boxes) f cdv A outer s H E).nox (defBody s_of_boxes) (t_of_boxes K sp_box sp_union_of) := by
  unfold t_of_boxes
  exact (pss_one (ps_ret (pe_cl c_union_of hr (by decide) (by rfl) (pa_cons (pe_lc (own := [("low", 1), ("high", 2)]) (g := (gTup K 2 (gCons (gName 1) (gCons (gName 2) gNil)))) (tt := tYes) (by rfl) sc_of_boxes.nd (pi_list (pv 0)) (blkOk_by (own := [("low", 1), ("high", 2)]) (N := N_of_boxes) (by kernel_rfl)) (fun _ _ _ _ _ => (pg_tup rfl (pgs_cons (pg_name (i := 1) sc_of_boxes.nd rfl (Or.inl rfl)) (pgs_cons (pg_name (i := 2) sc_of_boxes.nd rfl (Or.inl rfl)) pgs_nil)))) (fun _ _ _ _ _ => pts_nil) (fun _ _ _ _ _ => (pe_cl c_box hr (by decide) (by rfl) (pa_cons (pv 1) (pa_cons (pv 2) pa_nil))))) pa_nil))))
/-! ### bounds: slots 0:solid 1:boxes 2:low 3:axis 4:one 5:other -/
abbrev N_bounds : List Str := ["solid", "boxes", "low", "axis", "one", "other"]
theorem sc_bounds : FnScope N_bounds ["solid"] (defScope s_bounds) := ⟨rfl, rfl, rfl, by decide +kernel, rfl, by decide +kernel, by decide +kernel⟩
def t_bounds (K : PySem.W.Frag) (aAXES : Addr) (sp_boxes_of : Sp) : TS :=
  (tSeq (tAsg (tCall sp_boxes_of [] E0 (tCons (tVar 0) tNil)) (gName 1))
  (tSeq (tIfS (tTest (tOp (rEqD K) (tVar 1) (tLst tNil)))
  (tRet (tC .non))
  tNext)
  (tSeq (tAsg (tCB (rTupS K) (tCons (tLc (iTup K (tC (.ref aAXES))) (gName 3) tYes (tCB (rMin K) (tCons (tLc (iList K (tVar 1)) (gTup K 2 (gCons (gName 4) (gCons (gName 5) gNil))) tYes (tOp (rIxT K) (tVar 4) (tVar 3)) [4, 5]) tNil)) [3]) tNil)) (gName 2))
  (tRet (tTup (tCons (tVar 2) (tCons (tCB (rTupS K) (tCons (tLc (iTup K (tC (.ref aAXES))) (gName 3) tYes (tCB (rMax K) (tCons (tLc (iList K (tVar 1)) (gTup K 2 (gCons (gName 4) (gCons (gName 5) gNil))) tYes (tOp (rIxT K) (tVar 5) (tVar 3)) [4, 5]) tNil)) [3]) tNil)) tNil)))))))
theorem der_bounds {P : Program} {w : World} {K : PySem.W.Frag} {mg : Str → Option Value} {base : Heap} {f : Addr} {cdv : Value} {A : Around} {outer : List Env} {s : Shared} {H : Hp} {E : XK} {aAXES : Addr} (mAXES : mg "AXES" = some (.ref aAXES)) {sp_boxes_of : Sp} (c_boxes_of : Cl P w K mg base 1 "boxes_of" sp_boxes_of) (m_min : mg "min" = none) (m_tuple : mg "tuple" = none) (m_max : mg "max" = none) (hr : Room 1 (A.deeper (envOfC "bounds" (defScope s_bounds) s.heap.objs.size f cdv))) : PSs (cxOf CX0 P w K mg base N_bounds "bounds" (defScope s_bounds) f cdv A outer s H E).nox (defBody s_bounds) (t_bounds K aAXES sp_boxes_of) := by
  unfold t_bounds
  exact (pss_cons (ps_set (i := 1) sc_bounds.nd rfl (Or.inr rfl) (pe_cl c_boxes_of hr (by decide) (by rfl) (pa_cons (pv 0) pa_nil)))
  (pss_cons (ps_if (pt_cmpR (op_eqD hr.units) (pv 1) (pe_lst pa_nil) (nomark _))
  (pss_one (ps_ret pe_non))
  pss_nil)
  (pss_cons (ps_set (i := 2) sc_bounds.nd rfl (Or.inl rfl) (pe_callTy cr_tupS (by rfl) m_tuple (by decide +kernel) (pa_cons (pe_lc (own := [("axis", 3)]) (g := (gName 3)) (tt := tYes) (by rfl) sc_bounds.nd (pi_tup (pe_glob (by rfl) mAXES rfl)) (blkOk_by (own := [("axis", 3)]) (N := N_bounds) (by kernel_rfl)) (fun _ _ _ _ _ => (pg_name (i := 3) sc_bounds.nd rfl (Or.inr rfl))) (fun _ _ _ _ _ => pts_nil) (fun _ _ _ _ _ => (pe_callB (cr_min rfl) (by rfl) m_min (by decide +kernel) (pa_cons (pe_lc (own := [("one", 4), ("other", 5)]) (g := (gTup K 2 (gCons (gName 4) (gCons (gName 5) gNil)))) (tt := tYes) (by rfl) sc_bounds.nd (pi_list (pv 1)) (blkOk_by (own := [("one", 4), ("other", 5)]) (N := N_bounds) (by kernel_rfl)) (fun _ _ _ _ _ => (pg_tup rfl (pgs_cons (pg_name (i := 4) sc_bounds.nd rfl (Or.inl rfl)) (pgs_cons (pg_name (i := 5) sc_bounds.nd rfl (Or.inl rfl)) pgs_nil)))) (fun _ _ _ _ _ => pts_nil) (fun _ _ _ _ _ => (pe_ix ix_tup (pv 4) (pv 3) (fun _ _ => rfl)))) pa_nil)))) pa_nil)))
  (pss_one (ps_ret (pe_tup (pa_cons (pv 2) (pa_cons (pe_callTy cr_tupS (by rfl) m_tuple (by decide +kernel) (pa_cons (pe_lc (own := [("axis", 3)]) (g := (gName 3)) (tt := tYes) (by rfl) sc_bounds.nd (pi_tup (pe_glob (by rfl) mAXES rfl)) (blkOk_by (own := [("axis", 3)]) (N := N_bounds) (by kernel_rfl)) (fun _ _ _ _ _ => (pg_name (i := 3) sc_bounds.nd rfl (Or.inr rfl))) (fun _ _ _ _ _ => pts_nil) (fun _ _ _ _ _ => (pe_callB (cr_max rfl) (by rfl) m_max (by decide +kernel) (pa_cons (pe_lc (own := [("one", 4), ("other", 5)]) (g := (gTup K 2 (gCons (gName 4) (gCons (gName 5) gNil)))) (tt := tYes) (by rfl) sc_bounds.nd (pi_list (pv 1)) (blkOk_by (own := [("one", 4), ("other", 5)]) (N := N_bounds) (by kernel_rfl)) (fun _ _ _ _ _ => (pg_tup rfl (pgs_cons (pg_name (i := 4) sc_bounds.nd rfl (Or.inl rfl)) (pgs_cons (pg_name (i := 5) sc_bounds.nd rfl (Or.inl rfl)) pgs_nil)))) (fun _ _ _ _ _ => pts_nil) (fun _ _ _ _ _ => (pe_ix ix_tup (pv 5) (pv 3) (fun _ _ => rfl)))) pa_nil)))) pa_nil)) pa_nil))))))))
/-! ### moved: slots 0:solid 1:by 2:x 3:y 4:z 5:found 6:z0 7:z1 8:layer 9:rows 10:y0 11:y1 12:row 13:x0 14:x1 -/
abbrev N_moved : List Str := ["solid", "by", "x", "y", "z", "found", "z0", "z1", "layer", "rows", "y0", "y1", "row", "x0", "x1"]
theorem sc_moved : FnScope N_moved ["solid", "by"] (defScope s_moved) := ⟨rfl, rfl, rfl, by decide +kernel, rfl, by decide +kernel, by decide +kernel⟩
def t_moved (K : PySem.W.Frag) : TS :=
  (tSeq (tAsg (tVar 1) (gTup K 3 (gCons (gName 2) (gCons (gName 3) (gCons (gName 4) gNil)))))
  (tSeq (tAsg (tLst tNil) (gName 5))
  (tSeq (tFor (iTup K (tVar 0)) (gTup K 3 (gCons (gName 6) (gCons (gName 7) (gCons (gName 8) gNil))))
  (tSeq (tAsg (tCB (rTupS K) (tCons (tLc (iTup K (tVar 8)) (gTup K 3 (gCons (gName 10) (gCons (gName 11) (gCons (gName 12) gNil)))) tYes (tTup (tCons (tOp rPlus (tVar 10) (tVar 3)) (tCons (tOp rPlus (tVar 11) (tVar 3)) (tCons (tCB (rTupS K) (tCons (tLc (iTup K (tVar 12)) (gTup K 2 (gCons (gName 13) (gCons (gName 14) gNil))) tYes (tTup (tCons (tOp rPlus (tVar 13) (tVar 2)) (tCons (tOp rPlus (tVar 14) (tVar 2)) tNil))) [13, 14]) tNil)) tNil)))) [10, 11, 12]) tNil)) (gName 9))
  (tDrop (tBM K "list" rAppend (tVar 5) (tCons (tTup (tCons (tOp rPlus (tVar 6) (tVar 4)) (tCons (tOp rPlus (tVar 7) (tVar 4)) (tCons (tVar 9) tNil)))) tNil)))))
  (tRet (tCB (rTupS K) (tCons (tVar 5) tNil))))))
theorem der_moved {P : Program} {w : World} {K : PySem.W.Frag} {mg : Str → Option Value} {base : Heap} {f : Addr} {cdv : Value} {A : Around} {outer : List Env} {s : Shared} {H : Hp} {E : XK} (m_tuple : mg "tuple" = none) (hr : Room 0 (A.deeper (envOfC "moved" (defScope s_moved) s.heap.objs.size f cdv))) : PSs (cxOf CX0 P w K mg base N_moved "moved" (defScope s_moved) f cdv A outer s H E).nox (defBody s_moved) (t_moved K) := by
  unfold t_moved
  exact (pss_cons (ps_asg (pv 1) (pg_tup rfl (pgs_cons (pg_name (i := 2) sc_moved.nd rfl (Or.inr rfl)) (pgs_cons (pg_name (i := 3) sc_moved.nd rfl (Or.inr rfl)) (pgs_cons (pg_name (i := 4) sc_moved.nd rfl (Or.inl rfl)) pgs_nil)))))
  (pss_cons (ps_set (i := 5) sc_moved.nd rfl (Or.inl rfl) (pe_lst pa_nil))
  (pss_cons (ps_for PassesOwn.never rfl (pi_tup (pv 0)) (pg_tup rfl (pgs_cons (pg_name (i := 6) sc_moved.nd rfl (Or.inl rfl)) (pgs_cons (pg_name (i := 7) sc_moved.nd rfl (Or.inl rfl)) (pgs_cons (pg_name (i := 8) sc_moved.nd rfl (Or.inl rfl)) pgs_nil))))
  (pss_cons (ps_set (i := 9) sc_moved.nd rfl (Or.inl rfl) (pe_callTy cr_tupS (by rfl) m_tuple (by decide +kernel) (pa_cons (pe_lc (own := [("y0", 10), ("y1", 11), ("row", 12)]) (g := (gTup K 3 (gCons (gName 10) (gCons (gName 11) (gCons (gName 12) gNil))))) (tt := tYes) (by rfl) sc_moved.nd (pi_tup (pv 8)) (blkOk_by (own := [("y0", 10), ("y1", 11), ("row", 12)]) (N := N_moved) (by kernel_rfl)) (fun _ _ _ _ _ => (pg_tup rfl (pgs_cons (pg_name (i := 10) sc_moved.nd rfl (Or.inl rfl)) (pgs_cons (pg_name (i := 11) sc_moved.nd rfl (Or.inl rfl)) (pgs_cons (pg_name (i := 12) sc_moved.nd rfl (Or.inl rfl)) pgs_nil))))) (fun _ _ _ _ _ => pts_nil) (fun _ _ _ _ _ => (pe_tup (pa_cons (pe_op op_add (pv 10) (pv 3)) (pa_cons (pe_op op_add (pv 11) (pv 3)) (pa_cons (pe_callTy cr_tupS (by rfl) m_tuple (by decide +kernel) (pa_cons (pe_lc (own := [("x0", 13), ("x1", 14)]) (g := (gTup K 2 (gCons (gName 13) (gCons (gName 14) gNil)))) (tt := tYes) (by rfl) sc_moved.nd (pi_tup (pv 12)) (blkOk_by (own := [("x0", 13), ("x1", 14)]) (N := N_moved) (by kernel_rfl)) (fun _ _ _ _ _ => (pg_tup rfl (pgs_cons (pg_name (i := 13) sc_moved.nd rfl (Or.inl rfl)) (pgs_cons (pg_name (i := 14) sc_moved.nd rfl (Or.inl rfl)) pgs_nil)))) (fun _ _ _ _ _ => pts_nil) (fun _ _ _ _ _ => (pe_tup (pa_cons (pe_op op_add (pv 13) (pv 2)) (pa_cons (pe_op op_add (pv 14) (pv 2)) pa_nil))))) pa_nil)) pa_nil)))))) pa_nil)))
  (pss_one (ps_expr (pe_bm PySem.F.plainAttrs_list PySem.F.slot_list_append PySem.F.type_list_append mt_append (pv 5) (pa_cons (pe_tup (pa_cons (pe_op op_add (pv 6) (pv 4)) (pa_cons (pe_op op_add (pv 7) (pv 4)) (pa_cons (pv 9) pa_nil)))) pa_nil))))))
  (pss_one (ps_ret (pe_callTy cr_tupS (by rfl) m_tuple (by decide +kernel) (pa_cons (pv 5) pa_nil)))))))
/-! ### has: slots 0:solid 1:point 2:z0 3:z1 4:layer 5:y0 6:y1 7:row 8:x0 9:x1 -/
abbrev N_has : List Str := ["solid", "point", "z0", "z1", "layer", "y0", "y1", "row", "x0", "x1"]
theorem sc_has : FnScope N_has ["solid", "point"] (defScope s_has) := ⟨rfl, rfl, rfl, by decide +kernel, rfl, by decide +kernel, by decide +kernel⟩
def t_has (K : PySem.W.Frag) : TS :=
  (tSeq (tFor (iTup K (tVar 0)) (gTup K 3 (gCons (gName 2) (gCons (gName 3) (gCons (gName 4) gNil))))
  (tIfS (tTest (tChain rLeI rLtI (tVar 2) (tOp (rIxT K) (tVar 1) (tC (.int 2))) (tVar 3)))
  (tFor (iTup K (tVar 4)) (gTup K 3 (gCons (gName 5) (gCons (gName 6) (gCons (gName 7) gNil))))
  (tIfS (tTest (tChain rLeI rLtI (tVar 5) (tOp (rIxT K) (tVar 1) (tC (.int 1))) (tVar 6)))
  (tRet (tCB (rAny K) (tCons (tLc (iTup K (tVar 7)) (gTup K 2 (gCons (gName 8) (gCons (gName 9) gNil))) tYes (tChain rLeI rLtI (tVar 8) (tOp (rIxT K) (tVar 1) (tC (.int 0))) (tVar 9)) [8, 9]) tNil)))
  tNext))
  tNext))
  (tRet (tC (.bl false))))
theorem der_has {P : Program} {w : World} {K : PySem.W.Frag} {mg : Str → Option Value} {base : Heap} {f : Addr} {cdv : Value} {A : Around} {outer : List Env} {s : Shared} {H : Hp} {E : XK} (m_any : mg "any" = none) (hr : Room 0 (A.deeper (envOfC "has" (defScope s_has) s.heap.objs.size f cdv))) : PSs (cxOf CX0 P w K mg base N_has "has" (defScope s_has) f cdv A outer s H E).nox (defBody s_has) (t_has K) := by
  unfold t_has
  exact (pss_cons (ps_for PassesOwn.never rfl (pi_tup (pv 0)) (pg_tup rfl (pgs_cons (pg_name (i := 2) sc_has.nd rfl (Or.inl rfl)) (pgs_cons (pg_name (i := 3) sc_has.nd rfl (Or.inl rfl)) (pgs_cons (pg_name (i := 4) sc_has.nd rfl (Or.inl rfl)) pgs_nil))))
  (pss_one (ps_if (pt_chain op_le op_lt (pv 2) (pe_ix ix_tup (pv 1) pe_int (fun _ _ => rfl)) (pv 3))
  (pss_one (ps_for PassesOwn.never rfl (pi_tup (pv 4)) (pg_tup rfl (pgs_cons (pg_name (i := 5) sc_has.nd rfl (Or.inl rfl)) (pgs_cons (pg_name (i := 6) sc_has.nd rfl (Or.inl rfl)) (pgs_cons (pg_name (i := 7) sc_has.nd rfl (Or.inl rfl)) pgs_nil))))
  (pss_one (ps_if (pt_chain op_le op_lt (pv 5) (pe_ix ix_tup (pv 1) pe_int (fun _ _ => rfl)) (pv 6))
  (pss_one (ps_ret (pe_callB (cr_any rfl) (by rfl) m_any (by decide +kernel) (pa_cons (pe_lc (own := [("x0", 8), ("x1", 9)]) (g := (gTup K 2 (gCons (gName 8) (gCons (gName 9) gNil)))) (tt := tYes) (by rfl) sc_has.nd (pi_tup (pv 7)) (blkOk_by (own := [("x0", 8), ("x1", 9)]) (N := N_has) (by kernel_rfl)) (fun _ _ _ _ _ => (pg_tup rfl (pgs_cons (pg_name (i := 8) sc_has.nd rfl (Or.inl rfl)) (pgs_cons (pg_name (i := 9) sc_has.nd rfl (Or.inl rfl)) pgs_nil)))) (fun _ _ _ _ _ => pts_nil) (fun _ _ _ _ _ => (pe_chain op_le op_lt (pv 8) (pe_ix ix_tup (pv 1) pe_int (fun _ _ => rfl)) (pv 9)))) pa_nil))))
  pss_nil))))
  pss_nil)))
  (pss_one (ps_ret pe_bl)))
/-! ### do_touch: slots 0:one 1:other 2:flat 3:over 4:axis -/
abbrev N_do_touch : List Str := ["one", "other", "flat", "over", "axis"]
theorem sc_do_touch : FnScope N_do_touch ["one", "other"] (defScope s_do_touch) := ⟨rfl, rfl, rfl, by decide +kernel, rfl, by decide +kernel, by decide +kernel⟩
def t_do_touch (K : PySem.W.Frag) (aAXES : Addr) : TS :=
  (tSeq (tAsg (tLc (iTup K (tC (.ref aAXES))) (gName 4) (tOr (tTest (tOp rEq (tOp (rIxT K) (tOp (rIxT K) (tVar 0) (tC (.int 1))) (tVar 4)) (tOp (rIxT K) (tOp (rIxT K) (tVar 1) (tC (.int 0))) (tVar 4)))) (tTest (tOp rEq (tOp (rIxT K) (tOp (rIxT K) (tVar 1) (tC (.int 1))) (tVar 4)) (tOp (rIxT K) (tOp (rIxT K) (tVar 0) (tC (.int 0))) (tVar 4))))) (tVar 4) [4]) (gName 2))
  (tSeq (tAsg (tLc (iTup K (tC (.ref aAXES))) (gName 4) (tAnd (tTest (tOp rLtI (tOp (rIxT K) (tOp (rIxT K) (tVar 0) (tC (.int 0))) (tVar 4)) (tOp (rIxT K) (tOp (rIxT K) (tVar 1) (tC (.int 1))) (tVar 4)))) (tTest (tOp rLtI (tOp (rIxT K) (tOp (rIxT K) (tVar 1) (tC (.int 0))) (tVar 4)) (tOp (rIxT K) (tOp (rIxT K) (tVar 0) (tC (.int 1))) (tVar 4))))) (tVar 4) [4]) (gName 3))
  (tRet (tAndV (tOp rEq (tCB (rLenS K) (tCons (tVar 2) tNil)) (tC (.int 1))) (tOp rEq (tCB (rLenS K) (tCons (tVar 3) tNil)) (tC (.int 2)))))))
theorem der_do_touch {P : Program} {w : World} {K : PySem.W.Frag} {mg : Str → Option Value} {base : Heap} {f : Addr} {cdv : Value} {A : Around} {outer : List Env} {s : Shared} {H : Hp} {E : XK} {aAXES : Addr} (mAXES : mg "AXES" = some (.ref aAXES)) (m_len : mg "len" = none) (hr : Room 0 (A.deeper (envOfC "do_touch" (defScope s_do_touch) s.heap.objs.size f cdv))) : PSs (cxOf CX0 P w K mg base N_do_touch "do_touch" (defScope s_do_touch) f cdv A outer s H E).nox (defBody s_do_touch) (t_do_touch K aAXES) := by
  unfold t_do_touch
  exact (pss_cons (ps_setLc (i := 2) (own := [("axis", 4)]) (g := (gName 4)) (tt := (tOr (tTest (tOp rEq (tOp (rIxT K) (tOp (rIxT K) (tVar 0) (tC (.int 1))) (tVar 4)) (tOp (rIxT K) (tOp (rIxT K) (tVar 1) (tC (.int 0))) (tVar 4)))) (tTest (tOp rEq (tOp (rIxT K) (tOp (rIxT K) (tVar 1) (tC (.int 1))) (tVar 4)) (tOp (rIxT K) (tOp (rIxT K) (tVar 0) (tC (.int 0))) (tVar 4)))))) (by rfl) sc_do_touch.nd rfl rfl (sw_true rfl rfl rfl (by decide +kernel)) (pi_tup (pe_glob (by rfl) mAXES rfl)) (blkOk_by (own := [("axis", 4)]) (N := N_do_touch) (by kernel_rfl)) (fun _ _ _ _ _ => (pg_name (i := 4) sc_do_touch.nd rfl (Or.inl rfl))) (fun _ _ _ _ _ => (pts_one (PW.pt (pw_or (pt_cmpR op_eq (pe_ix ix_tup (pe_ix ix_tup (pv 0) pe_int (fun _ _ => rfl)) (pv 4) (fun _ _ => rfl)) (pe_ix ix_tup (pe_ix ix_tup (pv 1) pe_int (fun _ _ => rfl)) (pv 4) (fun _ _ => rfl)) (nomark _)) (pw_or1 (pt_cmpR op_eq (pe_ix ix_tup (pe_ix ix_tup (pv 1) pe_int (fun _ _ => rfl)) (pv 4) (fun _ _ => rfl)) (pe_ix ix_tup (pe_ix ix_tup (pv 0) pe_int (fun _ _ => rfl)) (pv 4) (fun _ _ => rfl)) (nomark _))))))) (fun _ _ _ _ _ => (pv 4)))
  (pss_cons (ps_setLc (i := 3) (own := [("axis", 4)]) (g := (gName 4)) (tt := (tAnd (tTest (tOp rLtI (tOp (rIxT K) (tOp (rIxT K) (tVar 0) (tC (.int 0))) (tVar 4)) (tOp (rIxT K) (tOp (rIxT K) (tVar 1) (tC (.int 1))) (tVar 4)))) (tTest (tOp rLtI (tOp (rIxT K) (tOp (rIxT K) (tVar 1) (tC (.int 0))) (tVar 4)) (tOp (rIxT K) (tOp (rIxT K) (tVar 0) (tC (.int 1))) (tVar 4)))))) (by rfl) sc_do_touch.nd rfl rfl (sw_true rfl rfl rfl (by decide +kernel)) (pi_tup (pe_glob (by rfl) mAXES rfl)) (blkOk_by (own := [("axis", 4)]) (N := N_do_touch) (by kernel_rfl)) (fun _ _ _ _ _ => (pg_name (i := 4) sc_do_touch.nd rfl (Or.inl rfl))) (fun _ _ _ _ _ => (pts_one (PW.pt (pw_and (pt_cmpR op_lt (pe_ix ix_tup (pe_ix ix_tup (pv 0) pe_int (fun _ _ => rfl)) (pv 4) (fun _ _ => rfl)) (pe_ix ix_tup (pe_ix ix_tup (pv 1) pe_int (fun _ _ => rfl)) (pv 4) (fun _ _ => rfl)) (nomark _)) (pw_and1 (pt_cmpR op_lt (pe_ix ix_tup (pe_ix ix_tup (pv 1) pe_int (fun _ _ => rfl)) (pv 4) (fun _ _ => rfl)) (pe_ix ix_tup (pe_ix ix_tup (pv 0) pe_int (fun _ _ => rfl)) (pv 4) (fun _ _ => rfl)) (nomark _))))))) (fun _ _ _ _ _ => (pv 4)))
  (pss_one (ps_ret (pe_and (pe_cmpR op_eq (pe_callB cr_lenS (by rfl) m_len (by decide +kernel) (pa_cons (pv 2) pa_nil)) pe_int (nomark _)) (pe_one (pe_cmpR op_eq (pe_callB cr_lenS (by rfl) m_len (by decide +kernel) (pa_cons (pv 3) pa_nil)) pe_int (nomark _))))))))
/-! ### pieces: slots 0:solid 1:left 2:found 3:part 4:waiting 5:one 6:near 7:other -/
abbrev N_pieces : List Str := ["solid", "left", "found", "part", "waiting", "one", "near", "other"]
theorem sc_pieces : FnScope N_pieces ["solid"] (defScope s_pieces) := ⟨rfl, rfl, rfl, by decide +kernel, rfl, by decide +kernel, by decide +kernel⟩
def t_pieces (K : PySem.W.Frag) (sp_boxes_of : Sp) (sp_do_touch : Sp) (sp_of_boxes : Sp) : TS :=
  (tSeq (tPar 1 2 (tCons (tCall sp_boxes_of [] E0 (tCons (tVar 0) tNil)) (tCons (tLst tNil) tNil)))
  (tSeq (tWhile (tTest (tOp (rNeD K) (tVar 1) (tLst tNil)))
  (tSeq (tPar 3 4 (tCons (tLst tNil) (tCons (tLst (tCons (tBM0 K "list" rPop (tVar 1)) tNil)) tNil)))
  (tSeq (tWhile (tTest (tOp (rNeD K) (tVar 4) (tLst tNil)))
  (tSeq (tAsg (tBM0 K "list" rPop (tVar 4)) (gName 5))
  (tSeq (tDrop (tBM K "list" rAppend (tVar 3) (tCons (tVar 5) tNil)))
  (tSeq (tAsg (tLc (iList K (tVar 1)) (gName 7) (tB (tCall sp_do_touch [] E0 (tCons (tVar 5) (tCons (tVar 7) tNil)))) (tVar 7) [7]) (gName 6))
  (tSeq (tAsg (tLc (iList K (tVar 1)) (gName 7) (tNot (tB (tCall sp_do_touch [] E0 (tCons (tVar 5) (tCons (tVar 7) tNil))))) (tVar 7) [7]) (gName 1))
  (tDrop (tBM K "list" rExtend (tVar 4) (tCons (tVar 6) tNil))))))))
  (tDrop (tBM K "list" rAppend (tVar 2) (tCons (tCall sp_of_boxes [] E0 (tCons (tVar 3) tNil)) tNil))))))
  (tRet (tCB (rSortedD K) (tCons (tVar 2) tNil)))))
theorem der_pieces {P : Program} {w : World} {K : PySem.W.Frag} {mg : Str → Option Value} {base : Heap} {f : Addr} {cdv : Value} {A : Around} {outer : List Env} {s : Shared} {H : Hp} {E : XK} {sp_boxes_of : Sp} (c_boxes_of : Cl P w K mg base 1 "boxes_of" sp_boxes_of) {sp_do_touch : Sp} (c_do_touch : Cl P w K mg base 1 "do_touch" sp_do_touch) {sp_of_boxes : Sp} (c_of_boxes : Cl P w K mg base 9 "of_boxes" sp_of_boxes) (m_sorted : mg "sorted" = none) (hr : Room 9 (A.deeper (envOfC "pieces" (defScope s_pieces) s.heap.objs.size f cdv))) : PSs (cxOf CX0 P w K mg base N_pieces "pieces" (defScope s_pieces) f cdv A outer s H E).nox (defBody s_pieces) (t_pieces K sp_boxes_of sp_do_touch sp_of_boxes) := by
  unfold t_pieces
  exact (pss_cons (ps_par (by rfl) sc_pieces.nd rfl rfl (by decide) rfl rfl (pa_cons (pe_cl c_boxes_of hr (by decide) (by rfl) (pa_cons (pv 0) pa_nil)) (pa_cons (pe_lst pa_nil) pa_nil)) (by rfl))
  (pss_cons (ps_while PassesOwn.never (pt_cmpR (op_neD hr.units) (pv 1) (pe_lst pa_nil) (nomark _))
  (pss_cons (ps_par (by rfl) sc_pieces.nd rfl rfl (by decide) rfl rfl (pa_cons (pe_lst pa_nil) (pa_cons (pe_lst (pa_cons (pe_bm0 PySem.F.plainAttrs_list PySem.F.slot_list_pop PySem.F.type_list_pop mt_pop (pv 1)) pa_nil)) pa_nil)) (by rfl))
  (pss_cons (ps_while PassesOwn.never (pt_cmpR (op_neD hr.units) (pv 4) (pe_lst pa_nil) (nomark _))
  (pss_cons (ps_set (i := 5) sc_pieces.nd rfl (Or.inr rfl) (pe_bm0 PySem.F.plainAttrs_list PySem.F.slot_list_pop PySem.F.type_list_pop mt_pop (pv 4)))
  (pss_cons (ps_expr (pe_bm PySem.F.plainAttrs_list PySem.F.slot_list_append PySem.F.type_list_append mt_append (pv 3) (pa_cons (pv 5) pa_nil)))
  (pss_cons (ps_setLc (i := 6) (own := [("other", 7)]) (g := (gName 7)) (tt := (tB (tCall sp_do_touch [] E0 (tCons (tVar 5) (tCons (tVar 7) tNil))))) (by rfl) sc_pieces.nd rfl rfl (sw_true rfl rfl rfl (by decide +kernel)) (pi_list (pv 1)) (blkOk_by (own := [("other", 7)]) (N := N_pieces) (by kernel_rfl)) (fun _ _ _ _ _ => (pg_name (i := 7) sc_pieces.nd rfl (Or.inl rfl))) (fun _ _ _ _ _ => (pts_one (pt_val (pe_cl c_do_touch hr (by decide) (by rfl) (pa_cons (pv 5) (pa_cons (pv 7) pa_nil)))))) (fun _ _ _ _ _ => (pv 7)))
  (pss_cons (ps_setLc (i := 1) (own := [("other", 7)]) (g := (gName 7)) (tt := (tNot (tB (tCall sp_do_touch [] E0 (tCons (tVar 5) (tCons (tVar 7) tNil)))))) (by rfl) sc_pieces.nd rfl rfl (sw_true rfl rfl rfl (by decide +kernel)) (pi_list (pv 1)) (blkOk_by (own := [("other", 7)]) (N := N_pieces) (by kernel_rfl)) (fun _ _ _ _ _ => (pg_name (i := 7) sc_pieces.nd rfl (Or.inl rfl))) (fun _ _ _ _ _ => (pts_one (pt_not (pt_val (pe_cl c_do_touch hr (by decide) (by rfl) (pa_cons (pv 5) (pa_cons (pv 7) pa_nil))))))) (fun _ _ _ _ _ => (pv 7)))
  (pss_one (ps_expr (pe_bm PySem.F.plainAttrs_list PySem.F.slot_list_extend PySem.F.type_list_extend mt_extend (pv 4) (pa_cons (pv 6) pa_nil)))))))))
  (pss_one (ps_expr (pe_bm PySem.F.plainAttrs_list PySem.F.slot_list_append PySem.F.type_list_append mt_append (pv 2) (pa_cons (pe_cl c_of_boxes hr (by decide) (by rfl) (pa_cons (pv 3) pa_nil)) pa_nil)))))))
  (pss_one (ps_ret (pe_callB (cr_sortedD hr.units) (by rfl) m_sorted (by decide +kernel) (pa_cons (pv 2) pa_nil))))))
/-! ### piece_with: slots 0:solid 1:point 2:part -/
abbrev N_piece_with : List Str := ["solid", "point", "part"]
theorem sc_piece_with : FnScope N_piece_with ["solid", "point"] (defScope s_piece_with) := ⟨rfl, rfl, rfl, by decide +kernel, rfl, by decide +kernel, by decide +kernel⟩
def t_piece_with (K : PySem.W.Frag) (sp_pieces : Sp) (sp_has : Sp) : TS :=
  (tSeq (tFor (iList K (tCall sp_pieces [] E0 (tCons (tVar 0) tNil))) (gName 2)
  (tIfS (tB (tCall sp_has [] E0 (tCons (tVar 2) (tCons (tVar 1) tNil))))
  (tRet (tVar 2))
  tNext))
  (tRet (tTup tNil)))
theorem der_piece_with {P : Program} {w : World} {K : PySem.W.Frag} {mg : Str → Option Value} {base : Heap} {f : Addr} {cdv : Value} {A : Around} {outer : List Env} {s : Shared} {H : Hp} {E : XK} {sp_pieces : Sp} (c_pieces : Cl P w K mg base 10 "pieces" sp_pieces) {sp_has : Sp} (c_has : Cl P w K mg base 1 "has" sp_has) (hr : Room 10 (A.deeper (envOfC "piece_with" (defScope s_piece_with) s.heap.objs.size f cdv))) : PSs (cxOf CX0 P w K mg base N_piece_with "piece_with" (defScope s_piece_with) f cdv A outer s H E).nox (defBody s_piece_with) (t_piece_with K sp_pieces sp_has) := by
  unfold t_piece_with
  exact (pss_cons (ps_for PassesOwn.never rfl (pi_list (pe_cl c_pieces hr (by decide) (by rfl) (pa_cons (pv 0) pa_nil))) (pg_name (i := 2) sc_piece_with.nd rfl (Or.inl rfl))
  (pss_one (ps_if (pt_val (pe_cl c_has hr (by decide) (by rfl) (pa_cons (pv 2) (pa_cons (pv 1) pa_nil))))
  (pss_one (ps_ret (pv 2)))
  pss_nil)))
  (pss_one (ps_ret (pe_tup pa_nil))))
/-! ### swept: slots 0:lot 1:tool 2:found 3:low 4:high 5:one 6:other 7:start 8:axis -/
abbrev N_swept : List Str := ["lot", "tool", "found", "low", "high", "one", "other", "start", "axis"]
theorem sc_swept : FnScope N_swept ["lot", "tool"] (defScope s_swept) := ⟨rfl, rfl, rfl, by decide +kernel, rfl, by decide +kernel, by decide +kernel⟩
def t_swept (K : PySem.W.Frag) (aAXES : Addr) (sp_boxes_of : Sp) (sp_of_boxes : Sp) : TS :=
  (tSeq (tAsg (tLst tNil) (gName 2))
  (tSeq (tFor (iList K (tCall sp_boxes_of [] E0 (tCons (tVar 0) tNil))) (gTup K 2 (gCons (gName 3) (gCons (gName 4) gNil)))
  (tFor (iList K (tCall sp_boxes_of [] E0 (tCons (tVar 1) tNil))) (gTup K 2 (gCons (gName 5) (gCons (gName 6) gNil)))
  (tSeq (tAsg (tCB (rTupS K) (tCons (tLc (iTup K (tC (.ref aAXES))) (gName 8) tYes (tOp rPlus (tOp (rIxT K) (tVar 3) (tVar 8)) (tOp (rIxT K) (tVar 5) (tVar 8))) [8]) tNil)) (gName 7))
  (tDrop (tBM K "list" rAppend (tVar 2) (tCons (tTup (tCons (tVar 7) (tCons (tCB (rTupS K) (tCons (tLc (iTup K (tC (.ref aAXES))) (gName 8) tYes (tOp rPlus (tOp rMinus (tOp (rIxT K) (tVar 4) (tVar 8)) (tC (.int 1))) (tOp (rIxT K) (tVar 6) (tVar 8))) [8]) tNil)) tNil))) tNil))))))
  (tRet (tCall sp_of_boxes [] E0 (tCons (tVar 2) tNil)))))
theorem der_swept {P : Program} {w : World} {K : PySem.W.Frag} {mg : Str → Option Value} {base : Heap} {f : Addr} {cdv : Value} {A : Around} {outer : List Env} {s : Shared} {H : Hp} {E : XK} {aAXES : Addr} (mAXES : mg "AXES" = some (.ref aAXES)) {sp_boxes_of : Sp} (c_boxes_of : Cl P w K mg base 1 "boxes_of" sp_boxes_of) {sp_of_boxes : Sp} (c_of_boxes : Cl P w K mg base 9 "of_boxes" sp_of_boxes) (m_tuple : mg "tuple" = none) (hr : Room 9 (A.deeper (envOfC "swept" (defScope s_swept) s.heap.objs.size f cdv))) : PSs (cxOf CX0 P w K mg base N_swept "swept" (defScope s_swept) f cdv A outer s H E).nox (defBody s_swept) (t_swept K aAXES sp_boxes_of sp_of_boxes) := by
  unfold t_swept
  exact (pss_cons (ps_set (i := 2) sc_swept.nd rfl (Or.inl rfl) (pe_lst pa_nil))
  (pss_cons (ps_for PassesOwn.never rfl (pi_list (pe_cl c_boxes_of hr (by decide) (by rfl) (pa_cons (pv 0) pa_nil))) (pg_tup rfl (pgs_cons (pg_name (i := 3) sc_swept.nd rfl (Or.inr rfl)) (pgs_cons (pg_name (i := 4) sc_swept.nd rfl (Or.inr rfl)) pgs_nil)))
  (pss_one (ps_for PassesOwn.never rfl (pi_list (pe_cl c_boxes_of hr (by decide) (by rfl) (pa_cons (pv 1) pa_nil))) (pg_tup rfl (pgs_cons (pg_name (i := 5) sc_swept.nd rfl (Or.inr rfl)) (pgs_cons (pg_name (i := 6) sc_swept.nd rfl (Or.inr rfl)) pgs_nil)))
  (pss_cons (ps_set (i := 7) sc_swept.nd rfl (Or.inl rfl) (pe_callTy cr_tupS (by rfl) m_tuple (by decide +kernel) (pa_cons (pe_lc (own := [("axis", 8)]) (g := (gName 8)) (tt := tYes) (by rfl) sc_swept.nd (pi_tup (pe_glob (by rfl) mAXES rfl)) (blkOk_by (own := [("axis", 8)]) (N := N_swept) (by kernel_rfl)) (fun _ _ _ _ _ => (pg_name (i := 8) sc_swept.nd rfl (Or.inl rfl))) (fun _ _ _ _ _ => pts_nil) (fun _ _ _ _ _ => (pe_op op_add (pe_ix ix_tup (pv 3) (pv 8) (fun _ _ => rfl)) (pe_ix ix_tup (pv 5) (pv 8) (fun _ _ => rfl))))) pa_nil)))
  (pss_one (ps_expr (pe_bm PySem.F.plainAttrs_list PySem.F.slot_list_append PySem.F.type_list_append mt_append (pv 2) (pa_cons (pe_tup (pa_cons (pv 7) (pa_cons (pe_callTy cr_tupS (by rfl) m_tuple (by decide +kernel) (pa_cons (pe_lc (own := [("axis", 8)]) (g := (gName 8)) (tt := tYes) (by rfl) sc_swept.nd (pi_tup (pe_glob (by rfl) mAXES rfl)) (blkOk_by (own := [("axis", 8)]) (N := N_swept) (by kernel_rfl)) (fun _ _ _ _ _ => (pg_name (i := 8) sc_swept.nd rfl (Or.inl rfl))) (fun _ _ _ _ _ => pts_nil) (fun _ _ _ _ _ => (pe_op op_add (pe_op op_sub (pe_ix ix_tup (pv 4) (pv 8) (fun _ _ => rfl)) pe_int) (pe_ix ix_tup (pv 6) (pv 8) (fun _ _ => rfl))))) pa_nil)) pa_nil))) pa_nil))))))))
  (pss_one (ps_ret (pe_cl c_of_boxes hr (by decide) (by rfl) (pa_cons (pv 2) pa_nil))))))
/-! ### barred: slots 0:tool 1:solid 2:found 3:low 4:high 5:one 6:other 7:start 8:axis -/
abbrev N_barred : List Str := ["tool", "solid", "found", "low", "high", "one", "other", "start", "axis"]
theorem sc_barred : FnScope N_barred ["tool", "solid"] (defScope s_barred) := ⟨rfl, rfl, rfl, by decide +kernel, rfl, by decide +kernel, by decide +kernel⟩
def t_barred (K : PySem.W.Frag) (aAXES : Addr) (sp_boxes_of : Sp) (sp_of_boxes : Sp) : TS :=
  (tSeq (tAsg (tLst tNil) (gName 2))
  (tSeq (tFor (iList K (tCall sp_boxes_of [] E0 (tCons (tVar 1) tNil))) (gTup K 2 (gCons (gName 3) (gCons (gName 4) gNil)))
  (tFor (iList K (tCall sp_boxes_of [] E0 (tCons (tVar 0) tNil))) (gTup K 2 (gCons (gName 5) (gCons (gName 6) gNil)))
  (tSeq (tAsg (tCB (rTupS K) (tCons (tLc (iTup K (tC (.ref aAXES))) (gName 8) tYes (tOp rPlus (tOp rMinus (tOp (rIxT K) (tVar 3) (tVar 8)) (tOp (rIxT K) (tVar 6) (tVar 8))) (tC (.int 1))) [8]) tNil)) (gName 7))
  (tDrop (tBM K "list" rAppend (tVar 2) (tCons (tTup (tCons (tVar 7) (tCons (tCB (rTupS K) (tCons (tLc (iTup K (tC (.ref aAXES))) (gName 8) tYes (tOp rMinus (tOp (rIxT K) (tVar 4) (tVar 8)) (tOp (rIxT K) (tVar 5) (tVar 8))) [8]) tNil)) tNil))) tNil))))))
  (tRet (tCall sp_of_boxes [] E0 (tCons (tVar 2) tNil)))))
theorem der_barred {P : Program} {w : World} {K : PySem.W.Frag} {mg : Str → Option Value} {base : Heap} {f : Addr} {cdv : Value} {A : Around} {outer : List Env} {s : Shared} {H : Hp} {E : XK} {aAXES : Addr} (mAXES : mg "AXES" = some (.ref aAXES)) {sp_boxes_of : Sp} (c_boxes_of : Cl P w K mg base 1 "boxes_of" sp_boxes_of) {sp_of_boxes : Sp} (c_of_boxes : Cl P w K mg base 9 "of_boxes" sp_of_boxes) (m_tuple : mg "tuple" = none) (hr : Room 9 (A.deeper (envOfC "barred" (defScope s_barred) s.heap.objs.size f cdv))) : PSs (cxOf CX0 P w K mg base N_barred "barred" (defScope s_barred) f cdv A outer s H E).nox (defBody s_barred) (t_barred K aAXES sp_boxes_of sp_of_boxes) := by
  unfold t_barred
  exact (pss_cons (ps_set (i := 2) sc_barred.nd rfl (Or.inl rfl) (pe_lst pa_nil))
  (pss_cons (ps_for PassesOwn.never rfl (pi_list (pe_cl c_boxes_of hr (by decide) (by rfl) (pa_cons (pv 1) pa_nil))) (pg_tup rfl (pgs_cons (pg_name (i := 3) sc_barred.nd rfl (Or.inr rfl)) (pgs_cons (pg_name (i := 4) sc_barred.nd rfl (Or.inr rfl)) pgs_nil)))
  (pss_one (ps_for PassesOwn.never rfl (pi_list (pe_cl c_boxes_of hr (by decide) (by rfl) (pa_cons (pv 0) pa_nil))) (pg_tup rfl (pgs_cons (pg_name (i := 5) sc_barred.nd rfl (Or.inr rfl)) (pgs_cons (pg_name (i := 6) sc_barred.nd rfl (Or.inr rfl)) pgs_nil)))
  (pss_cons (ps_set (i := 7) sc_barred.nd rfl (Or.inl rfl) (pe_callTy cr_tupS (by rfl) m_tuple (by decide +kernel) (pa_cons (pe_lc (own := [("axis", 8)]) (g := (gName 8)) (tt := tYes) (by rfl) sc_barred.nd (pi_tup (pe_glob (by rfl) mAXES rfl)) (blkOk_by (own := [("axis", 8)]) (N := N_barred) (by kernel_rfl)) (fun _ _ _ _ _ => (pg_name (i := 8) sc_barred.nd rfl (Or.inl rfl))) (fun _ _ _ _ _ => pts_nil) (fun _ _ _ _ _ => (pe_op op_add (pe_op op_sub (pe_ix ix_tup (pv 3) (pv 8) (fun _ _ => rfl)) (pe_ix ix_tup (pv 6) (pv 8) (fun _ _ => rfl))) pe_int))) pa_nil)))
  (pss_one (ps_expr (pe_bm PySem.F.plainAttrs_list PySem.F.slot_list_append PySem.F.type_list_append mt_append (pv 2) (pa_cons (pe_tup (pa_cons (pv 7) (pa_cons (pe_callTy cr_tupS (by rfl) m_tuple (by decide +kernel) (pa_cons (pe_lc (own := [("axis", 8)]) (g := (gName 8)) (tt := tYes) (by rfl) sc_barred.nd (pi_tup (pe_glob (by rfl) mAXES rfl)) (blkOk_by (own := [("axis", 8)]) (N := N_barred) (by kernel_rfl)) (fun _ _ _ _ _ => (pg_name (i := 8) sc_barred.nd rfl (Or.inl rfl))) (fun _ _ _ _ _ => pts_nil) (fun _ _ _ _ _ => (pe_op op_sub (pe_ix ix_tup (pv 4) (pv 8) (fun _ _ => rfl)) (pe_ix ix_tup (pv 5) (pv 8) (fun _ _ => rfl))))) pa_nil)) pa_nil))) pa_nil))))))))
  (pss_one (ps_ret (pe_cl c_of_boxes hr (by decide) (by rfl) (pa_cons (pv 2) pa_nil))))))
/-! ### travel_lot: slots 0:machine 1:low 2:high 3:one -/
abbrev N_travel_lot : List Str := ["machine", "low", "high", "one"]
theorem sc_travel_lot : FnScope N_travel_lot ["machine"] (defScope s_travel_lot) := ⟨rfl, rfl, rfl, by decide +kernel, rfl, by decide +kernel, by decide +kernel⟩
def t_travel_lot (K : PySem.W.Frag) (sp_box : Sp) : TS :=
  (tSeq (tAsg (tSl (rSlT K) (tVar 0) tNoPart (tPart (tC (.int 2)))) (gTup K 2 (gCons (gName 1) (gCons (gName 2) gNil))))
  (tRet (tCall sp_box [] E0 (tCons (tVar 1) (tCons (tCB (rTupS K) (tCons (tLc (iTup K (tVar 2)) (gName 3) tYes (tOp rPlus (tVar 3) (tC (.int 1))) [3]) tNil)) tNil)))))
theorem der_travel_lot {P : Program} {w : World} {K : PySem.W.Frag} {mg : Str → Option Value} {base : Heap} {f : Addr} {cdv : Value} {A : Around} {outer : List Env} {s : Shared} {H : Hp} {E : XK} {sp_box : Sp} (c_box : Cl P w K mg base 1 "box" sp_box) (m_tuple : mg "tuple" = none) (hr : Room 1 (A.deeper (envOfC "travel_lot" (defScope s_travel_lot) s.heap.objs.size f cdv))) : PSs (cxOf CX0 P w K mg base N_travel_lot "travel_lot" (defScope s_travel_lot) f cdv A outer s H E).nox (defBody s_travel_lot) (t_travel_lot K sp_box) := by
  unfold t_travel_lot
  exact (pss_cons (ps_asg (pe_slice sl_tup (pv 0) po_none (po_some pe_int)) (pg_tup rfl (pgs_cons (pg_name (i := 1) sc_travel_lot.nd rfl (Or.inl rfl)) (pgs_cons (pg_name (i := 2) sc_travel_lot.nd rfl (Or.inl rfl)) pgs_nil))))
  (pss_one (ps_ret (pe_cl c_box hr (by decide) (by rfl) (pa_cons (pv 1) (pa_cons (pe_callTy cr_tupS (by rfl) m_tuple (by decide +kernel) (pa_cons (pe_lc (own := [("one", 3)]) (g := (gName 3)) (tt := tYes) (by rfl) sc_travel_lot.nd (pi_tup (pv 2)) (blkOk_by (own := [("one", 3)]) (N := N_travel_lot) (by kernel_rfl)) (fun _ _ _ _ _ => (pg_name (i := 3) sc_travel_lot.nd rfl (Or.inl rfl))) (fun _ _ _ _ _ => pts_nil) (fun _ _ _ _ _ => (pe_op op_add (pv 3) pe_int))) pa_nil)) pa_nil))))))
end Sw
set_option Elab.async false
set_option linter.all false
set_option maxRecDepth 100000
set_option maxHeartbeats 4000000
set_option autoImplicit false
namespace Sw
open PySem PySem.Spec PyProof.Rows L2
/-! ### is_turning: slots 0:axes 1:signs -/
abbrev N_is_turning : List Str := ["axes", "signs"]
theorem sc_is_turning : FnScope N_is_turning ["axes", "signs"] (defScope s_is_turning) := ⟨rfl, rfl, rfl, by decide +kernel, rfl, by decide +kernel, by decide +kernel⟩
def t_is_turning (K : PySem.W.Frag) (aEVEN : Addr) : TS :=
  (tRet (tOp rEq (tOp rEq (tOp rTimes (tOp rTimes (tOp (rIxT K) (tVar 1) (tC (.int 0))) (tOp (rIxT K) (tVar 1) (tC (.int 1)))) (tOp (rIxT K) (tVar 1) (tC (.int 2)))) (tC (.int 1))) (tOp (rInTD K) (tVar 0) (tC (.ref aEVEN)))))
theorem der_is_turning {P : Program} {w : World} {K : PySem.W.Frag} {mg : Str → Option Value} {base : Heap} {f : Addr} {cdv : Value} {A : Around} {outer : List Env} {s : Shared} {H : Hp} {E : XK} {aEVEN : Addr} (mEVEN : mg "EVEN" = some (.ref aEVEN)) (hr : Room 0 (A.deeper (envOfC "is_turning" (defScope s_is_turning) s.heap.objs.size f cdv))) : PSs (cxOf CX0 P w K mg base N_is_turning "is_turning" (defScope s_is_turning) f cdv A outer s H E).nox (defBody s_is_turning) (t_is_turning K aEVEN) := by
  unfold t_is_turning
  exact (pss_one (ps_ret (pe_cmpR op_eq (pe_cmpR op_eq (pe_op op_mul (pe_op op_mul (pe_ix ix_tup (pv 1) pe_int (fun _ _ => rfl)) (pe_ix ix_tup (pv 1) pe_int (fun _ _ => rfl))) (pe_ix ix_tup (pv 1) pe_int (fun _ _ => rfl))) pe_int (nomark _)) (pe_cmpR (op_inTD (hu65 hr)) (pv 0) (pe_glob (by rfl) mEVEN rfl) (by rfl)) (nomark _))))
/-! ### turnings: slots 0:axes 1:signs -/
abbrev N_turnings : List Str := ["axes", "signs"]
theorem sc_turnings : FnScope N_turnings [] (defScope s_turnings) := ⟨rfl, rfl, rfl, by decide +kernel, rfl, by decide +kernel, by decide +kernel⟩
def t_turnings (K : PySem.W.Frag) (aORDERS : Addr) (aSIGNS : Addr) (sp_is_turning : Sp) : TS :=
  (tRet (tCB (rTupF K) (tCons (tLc2 (iTup K (tC (.ref aORDERS))) (gName 0) tYes (iTup K (tC (.ref aSIGNS))) (gName 1) (tB (tCall sp_is_turning [] E0 (tCons (tVar 0) (tCons (tVar 1) tNil)))) (tTup (tCons (tVar 0) (tCons (tVar 1) tNil))) [0, 1] [1]) tNil)))
theorem der_turnings {P : Program} {w : World} {K : PySem.W.Frag} {mg : Str → Option Value} {base : Heap} {f : Addr} {cdv : Value} {A : Around} {outer : List Env} {s : Shared} {H : Hp} {E : XK} {aORDERS : Addr} (mORDERS : mg "ORDERS" = some (.ref aORDERS)) {aSIGNS : Addr} (mSIGNS : mg "SIGNS" = some (.ref aSIGNS)) {sp_is_turning : Sp} (c_is_turning : Cl P w K mg base 1 "is_turning" sp_is_turning) (m_tuple : mg "tuple" = none) (hr : Room 1 (A.deeper (envOfC "turnings" (defScope s_turnings) s.heap.objs.size f cdv))) : PSs (cxOf CX0 P w K mg base N_turnings "turnings" (defScope s_turnings) f cdv A outer s H E).nox (defBody s_turnings) (t_turnings K aORDERS aSIGNS sp_is_turning) := by
  unfold t_turnings
  exact (pss_one (ps_ret (pe_callTy cr_tupF (by rfl) m_tuple (by decide +kernel) (pa_cons (pe_lc2 (own := [("axes", 0), ("signs", 1)]) (vs1 := [1]) (g := (gName 0)) (tt := tYes) (g1 := (gName 1)) (tt1 := (tB (tCall sp_is_turning [] E0 (tCons (tVar 0) (tCons (tVar 1) tNil))))) (by rfl) sc_turnings.nd (pi_tup (pe_glob (by rfl) mORDERS rfl)) (blkOk_by (own := [("axes", 0), ("signs", 1)]) (N := N_turnings) (by kernel_rfl)) (by decide) (fun _ _ _ _ _ => (pg_name (i := 0) sc_turnings.nd rfl (Or.inl rfl))) (fun _ _ _ _ _ => pts_nil) (fun _ _ _ _ _ => (pi_tup (pe_glob (by rfl) mSIGNS rfl))) (fun _ _ _ _ _ => (pg_name (i := 1) sc_turnings.nd rfl (Or.inl rfl))) (fun _ _ _ _ _ => (pts_one (pt_val (pe_cl c_is_turning hr (by decide) (by rfl) (pa_cons (pv 0) (pa_cons (pv 1) pa_nil)))))) (fun _ _ _ _ _ => (pe_tup (pa_cons (pv 0) (pa_cons (pv 1) pa_nil))))) pa_nil))))
/-! ### turned: slots 0:solid 1:turn 2:axes 3:signs 4:found 5:low 6:high 7:ends 8:axis 9:one -/
abbrev N_turned : List Str := ["solid", "turn", "axes", "signs", "found", "low", "high", "ends", "axis", "one"]
theorem sc_turned : FnScope N_turned ["solid", "turn"] (defScope s_turned) := ⟨rfl, rfl, rfl, by decide +kernel, rfl, by decide +kernel, by decide +kernel⟩
def t_turned (K : PySem.W.Frag) (aAXES : Addr) (sp_turnings : Sp) (sp_boxes_of : Sp) (sp_of_boxes : Sp) : TS :=
  (tSeq (tAsg (tOp (rIxT K) (tCall sp_turnings [] E0 tNil) (tVar 1)) (gTup K 2 (gCons (gName 2) (gCons (gName 3) gNil))))
  (tSeq (tAsg (tLst tNil) (gName 4))
  (tSeq (tFor (iList K (tCall sp_boxes_of [] E0 (tCons (tVar 0) tNil))) (gTup K 2 (gCons (gName 5) (gCons (gName 6) gNil)))
  (tSeq (tAsg (tLc (iTup K (tC (.ref aAXES))) (gName 8) tYes (tCB (rSortedI K) (tCons (tLst (tCons (tOp rTimes (tOp (rIxT K) (tVar 3) (tVar 8)) (tOp (rIxT K) (tVar 5) (tOp (rIxT K) (tVar 2) (tVar 8)))) (tCons (tOp rTimes (tOp (rIxT K) (tVar 3) (tVar 8)) (tOp (rIxT K) (tVar 6) (tOp (rIxT K) (tVar 2) (tVar 8)))) tNil))) tNil)) [8]) (gName 7))
  (tDrop (tBM K "list" rAppend (tVar 4) (tCons (tTup (tCons (tCB (rTupS K) (tCons (tLc (iList K (tVar 7)) (gName 9) tYes (tOp (rIxL K) (tVar 9) (tC (.int 0))) [9]) tNil)) (tCons (tCB (rTupS K) (tCons (tLc (iList K (tVar 7)) (gName 9) tYes (tOp (rIxL K) (tVar 9) (tC (.int 1))) [9]) tNil)) tNil))) tNil)))))
  (tRet (tCall sp_of_boxes [] E0 (tCons (tVar 4) tNil))))))
theorem der_turned {P : Program} {w : World} {K : PySem.W.Frag} {mg : Str → Option Value} {base : Heap} {f : Addr} {cdv : Value} {A : Around} {outer : List Env} {s : Shared} {H : Hp} {E : XK} {aAXES : Addr} (mAXES : mg "AXES" = some (.ref aAXES)) {sp_turnings : Sp} (c_turnings : Cl P w K mg base 2 "turnings" sp_turnings) {sp_boxes_of : Sp} (c_boxes_of : Cl P w K mg base 1 "boxes_of" sp_boxes_of) {sp_of_boxes : Sp} (c_of_boxes : Cl P w K mg base 9 "of_boxes" sp_of_boxes) (m_sorted : mg "sorted" = none) (m_tuple : mg "tuple" = none) (hr : Room 9 (A.deeper (envOfC "turned" (defScope s_turned) s.heap.objs.size f cdv))) : PSs (cxOf CX0 P w K mg base N_turned "turned" (defScope s_turned) f cdv A outer s H E).nox (defBody s_turned) (t_turned K aAXES sp_turnings sp_boxes_of sp_of_boxes) := by
  unfold t_turned
  exact (pss_cons (ps_asg (pe_ix ix_tup (pe_cl0 c_turnings hr (by decide) (by rfl)) (pv 1) (fun _ _ => rfl)) (pg_tup rfl (pgs_cons (pg_name (i := 2) sc_turned.nd rfl (Or.inr rfl)) (pgs_cons (pg_name (i := 3) sc_turned.nd rfl (Or.inr rfl)) pgs_nil))))
  (pss_cons (ps_set (i := 4) sc_turned.nd rfl (Or.inl rfl) (pe_lst pa_nil))
  (pss_cons (ps_for PassesOwn.never rfl (pi_list (pe_cl c_boxes_of hr (by decide) (by rfl) (pa_cons (pv 0) pa_nil))) (pg_tup rfl (pgs_cons (pg_name (i := 5) sc_turned.nd rfl (Or.inr rfl)) (pgs_cons (pg_name (i := 6) sc_turned.nd rfl (Or.inr rfl)) pgs_nil)))
  (pss_cons (ps_setLc (i := 7) (own := [("axis", 8)]) (g := (gName 8)) (tt := tYes) (by rfl) sc_turned.nd rfl rfl (sw_true rfl rfl rfl (by decide +kernel)) (pi_tup (pe_glob (by rfl) mAXES rfl)) (blkOk_by (own := [("axis", 8)]) (N := N_turned) (by kernel_rfl)) (fun _ _ _ _ _ => (pg_name (i := 8) sc_turned.nd rfl (Or.inl rfl))) (fun _ _ _ _ _ => pts_nil) (fun _ _ _ _ _ => (pe_callB cr_sortedI (by rfl) m_sorted (by decide +kernel) (pa_cons (pe_lst (pa_cons (pe_op op_mul (pe_ix ix_tup (pv 3) (pv 8) (fun _ _ => rfl)) (pe_ix ix_tup (pv 5) (pe_ix ix_tup (pv 2) (pv 8) (fun _ _ => rfl)) (fun _ _ => rfl))) (pa_cons (pe_op op_mul (pe_ix ix_tup (pv 3) (pv 8) (fun _ _ => rfl)) (pe_ix ix_tup (pv 6) (pe_ix ix_tup (pv 2) (pv 8) (fun _ _ => rfl)) (fun _ _ => rfl))) pa_nil))) pa_nil))))
  (pss_one (ps_expr (pe_bm PySem.F.plainAttrs_list PySem.F.slot_list_append PySem.F.type_list_append mt_append (pv 4) (pa_cons (pe_tup (pa_cons (pe_callTy cr_tupS (by rfl) m_tuple (by decide +kernel) (pa_cons (pe_lc (own := [("one", 9)]) (g := (gName 9)) (tt := tYes) (by rfl) sc_turned.nd (pi_list (pv 7)) (blkOk_by (own := [("one", 9)]) (N := N_turned) (by kernel_rfl)) (fun _ _ _ _ _ => (pg_name (i := 9) sc_turned.nd rfl (Or.inl rfl))) (fun _ _ _ _ _ => pts_nil) (fun _ _ _ _ _ => (pe_ix ix_list (pv 9) pe_int (fun _ _ => rfl)))) pa_nil)) (pa_cons (pe_callTy cr_tupS (by rfl) m_tuple (by decide +kernel) (pa_cons (pe_lc (own := [("one", 9)]) (g := (gName 9)) (tt := tYes) (by rfl) sc_turned.nd (pi_list (pv 7)) (blkOk_by (own := [("one", 9)]) (N := N_turned) (by kernel_rfl)) (fun _ _ _ _ _ => (pg_name (i := 9) sc_turned.nd rfl (Or.inl rfl))) (fun _ _ _ _ _ => pts_nil) (fun _ _ _ _ _ => (pe_ix ix_list (pv 9) pe_int (fun _ _ => rfl)))) pa_nil)) pa_nil))) pa_nil))))))
  (pss_one (ps_ret (pe_cl c_of_boxes hr (by decide) (by rfl) (pa_cons (pv 4) pa_nil)))))))
/-! ### number_of: slots 0:one -/
abbrev N_number_of : List Str := ["one"]
theorem sc_number_of : FnScope N_number_of ["one"] (defScope s_number_of) := ⟨rfl, rfl, rfl, by decide +kernel, rfl, by decide +kernel, by decide +kernel⟩
def t_number_of (K : PySem.W.Frag) (sp_turnings : Sp) : TS :=
  (tRet (tIndexT K (tCall sp_turnings [] E0 tNil) (tVar 0)))
theorem der_number_of {P : Program} {w : World} {K : PySem.W.Frag} {mg : Str → Option Value} {base : Heap} {f : Addr} {cdv : Value} {A : Around} {outer : List Env} {s : Shared} {H : Hp} {E : XK} {sp_turnings : Sp} (c_turnings : Cl P w K mg base 2 "turnings" sp_turnings) (hr : Room 2 (A.deeper (envOfC "number_of" (defScope s_number_of) s.heap.objs.size f cdv))) : PSs (cxOf CX0 P w K mg base N_number_of "number_of" (defScope s_number_of) f cdv A outer s H E).nox (defBody s_number_of) (t_number_of K sp_turnings) := by
  unfold t_number_of
  exact (pss_one (ps_ret (pe_indexT (hu65 hr) (pe_cl0 c_turnings hr (by decide) (by rfl)) (pv 0))))
/-! ### after: slots 0:one 1:other 2:axes 3:signs 4:late 5:more 6:together 7:axis -/
abbrev N_after : List Str := ["one", "other", "axes", "signs", "late", "more", "together", "axis"]
theorem sc_after : FnScope N_after ["one", "other"] (defScope s_after) := ⟨rfl, rfl, rfl, by decide +kernel, rfl, by decide +kernel, by decide +kernel⟩
def t_after (K : PySem.W.Frag) (aAXES : Addr) (sp_turnings : Sp) (sp_number_of : Sp) : TS :=
  (tSeq (tAsg (tOp (rIxT K) (tCall sp_turnings [] E0 tNil) (tVar 0)) (gTup K 2 (gCons (gName 2) (gCons (gName 3) gNil))))
  (tSeq (tAsg (tOp (rIxT K) (tCall sp_turnings [] E0 tNil) (tVar 1)) (gTup K 2 (gCons (gName 4) (gCons (gName 5) gNil))))
  (tSeq (tAsg (tCB (rTupS K) (tCons (tLc (iTup K (tC (.ref aAXES))) (gName 7) tYes (tOp (rIxT K) (tVar 2) (tOp (rIxT K) (tVar 4) (tVar 7))) [7]) tNil)) (gName 6))
  (tRet (tCall sp_number_of [] E0 (tCons (tTup (tCons (tVar 6) (tCons (tCB (rTupS K) (tCons (tLc (iTup K (tC (.ref aAXES))) (gName 7) tYes (tOp rTimes (tOp (rIxT K) (tVar 5) (tVar 7)) (tOp (rIxT K) (tVar 3) (tOp (rIxT K) (tVar 4) (tVar 7)))) [7]) tNil)) tNil))) tNil))))))
theorem der_after {P : Program} {w : World} {K : PySem.W.Frag} {mg : Str → Option Value} {base : Heap} {f : Addr} {cdv : Value} {A : Around} {outer : List Env} {s : Shared} {H : Hp} {E : XK} {aAXES : Addr} (mAXES : mg "AXES" = some (.ref aAXES)) {sp_turnings : Sp} (c_turnings : Cl P w K mg base 2 "turnings" sp_turnings) {sp_number_of : Sp} (c_number_of : Cl P w K mg base 3 "number_of" sp_number_of) (m_tuple : mg "tuple" = none) (hr : Room 3 (A.deeper (envOfC "after" (defScope s_after) s.heap.objs.size f cdv))) : PSs (cxOf CX0 P w K mg base N_after "after" (defScope s_after) f cdv A outer s H E).nox (defBody s_after) (t_after K aAXES sp_turnings sp_number_of) := by
  unfold t_after
  exact (pss_cons (ps_asg (pe_ix ix_tup (pe_cl0 c_turnings hr (by decide) (by rfl)) (pv 0) (fun _ _ => rfl)) (pg_tup rfl (pgs_cons (pg_name (i := 2) sc_after.nd rfl (Or.inr rfl)) (pgs_cons (pg_name (i := 3) sc_after.nd rfl (Or.inr rfl)) pgs_nil))))
  (pss_cons (ps_asg (pe_ix ix_tup (pe_cl0 c_turnings hr (by decide) (by rfl)) (pv 1) (fun _ _ => rfl)) (pg_tup rfl (pgs_cons (pg_name (i := 4) sc_after.nd rfl (Or.inr rfl)) (pgs_cons (pg_name (i := 5) sc_after.nd rfl (Or.inr rfl)) pgs_nil))))
  (pss_cons (ps_set (i := 6) sc_after.nd rfl (Or.inl rfl) (pe_callTy cr_tupS (by rfl) m_tuple (by decide +kernel) (pa_cons (pe_lc (own := [("axis", 7)]) (g := (gName 7)) (tt := tYes) (by rfl) sc_after.nd (pi_tup (pe_glob (by rfl) mAXES rfl)) (blkOk_by (own := [("axis", 7)]) (N := N_after) (by kernel_rfl)) (fun _ _ _ _ _ => (pg_name (i := 7) sc_after.nd rfl (Or.inl rfl))) (fun _ _ _ _ _ => pts_nil) (fun _ _ _ _ _ => (pe_ix ix_tup (pv 2) (pe_ix ix_tup (pv 4) (pv 7) (fun _ _ => rfl)) (fun _ _ => rfl)))) pa_nil)))
  (pss_one (ps_ret (pe_cl c_number_of hr (by decide) (by rfl) (pa_cons (pe_tup (pa_cons (pv 6) (pa_cons (pe_callTy cr_tupS (by rfl) m_tuple (by decide +kernel) (pa_cons (pe_lc (own := [("axis", 7)]) (g := (gName 7)) (tt := tYes) (by rfl) sc_after.nd (pi_tup (pe_glob (by rfl) mAXES rfl)) (blkOk_by (own := [("axis", 7)]) (N := N_after) (by kernel_rfl)) (fun _ _ _ _ _ => (pg_name (i := 7) sc_after.nd rfl (Or.inl rfl))) (fun _ _ _ _ _ => pts_nil) (fun _ _ _ _ _ => (pe_op op_mul (pe_ix ix_tup (pv 5) (pv 7) (fun _ _ => rfl)) (pe_ix ix_tup (pv 3) (pe_ix ix_tup (pv 4) (pv 7) (fun _ _ => rfl)) (fun _ _ => rfl))))) pa_nil)) pa_nil))) pa_nil)))))))
/-! ### back: slots 0:turn 1:number -/
abbrev N_back : List Str := ["turn", "number"]
theorem sc_back : FnScope N_back ["turn"] (defScope s_back) := ⟨rfl, rfl, rfl, by decide +kernel, rfl, by decide +kernel, by decide +kernel⟩
def t_back (K : PySem.W.Frag) (sp_after : Sp) : TS :=
  (tRet (tOp (rIxL K) (tLc (iRng1 (tCons (tC (.int 24)) tNil)) (gName 1) (tTest (tOp rEq (tCall sp_after [] E0 (tCons (tVar 0) (tCons (tVar 1) tNil))) (tC (.int 0)))) (tVar 1) [1]) (tC (.int 0))))
theorem der_back {P : Program} {w : World} {K : PySem.W.Frag} {mg : Str → Option Value} {base : Heap} {f : Addr} {cdv : Value} {A : Around} {outer : List Env} {s : Shared} {H : Hp} {E : XK} (mMANY : ∃ t, mg "MANY" = some (.int 24 t)) {sp_after : Sp} (c_after : Cl P w K mg base 4 "after" sp_after) (m_range : mg "range" = none) (hr : Room 4 (A.deeper (envOfC "back" (defScope s_back) s.heap.objs.size f cdv))) : PSs (cxOf CX0 P w K mg base N_back "back" (defScope s_back) f cdv A outer s H E).nox (defBody s_back) (t_back K sp_after) := by
  unfold t_back
  exact (pss_one (ps_ret (pe_ix ix_list (pe_lc (own := [("number", 1)]) (g := (gName 1)) (tt := (tTest (tOp rEq (tCall sp_after [] E0 (tCons (tVar 0) (tCons (tVar 1) tNil))) (tC (.int 0))))) (by rfl) sc_back.nd (pi_range1 (by rfl) m_range (pa_cons (pe_glob (by rfl) mMANY.choose_spec ⟨_, rfl⟩) pa_nil)) (blkOk_by (own := [("number", 1)]) (N := N_back) (by kernel_rfl)) (fun _ _ _ _ _ => (pg_name (i := 1) sc_back.nd rfl (Or.inl rfl))) (fun _ _ _ _ _ => (pts_one (pt_cmpR op_eq (pe_cl c_after hr (by decide) (by rfl) (pa_cons (pv 0) (pa_cons (pv 1) pa_nil))) pe_int (nomark _)))) (fun _ _ _ _ _ => (pv 1))) pe_int (fun _ _ => rfl))))
/-! ### placed: slots 0:setup 1:solid -/
abbrev N_placed : List Str := ["setup", "solid"]
theorem sc_placed : FnScope N_placed ["setup", "solid"] (defScope s_placed) := ⟨rfl, rfl, rfl, by decide +kernel, rfl, by decide +kernel, by decide +kernel⟩
def t_placed (K : PySem.W.Frag) (sp_turned : Sp) (sp_moved : Sp) : TS :=
  (tRet (tCall sp_moved [] E0 (tCons (tCall sp_turned [] E0 (tCons (tVar 1) (tCons (tOp (rIxT K) (tVar 0) (tC (.int 1))) tNil))) (tCons (tOp (rIxT K) (tVar 0) (tC (.int 2))) tNil))))
theorem der_placed {P : Program} {w : World} {K : PySem.W.Frag} {mg : Str → Option Value} {base : Heap} {f : Addr} {cdv : Value} {A : Around} {outer : List Env} {s : Shared} {H : Hp} {E : XK} {sp_turned : Sp} (c_turned : Cl P w K mg base 10 "turned" sp_turned) {sp_moved : Sp} (c_moved : Cl P w K mg base 1 "moved" sp_moved) (hr : Room 10 (A.deeper (envOfC "placed" (defScope s_placed) s.heap.objs.size f cdv))) : PSs (cxOf CX0 P w K mg base N_placed "placed" (defScope s_placed) f cdv A outer s H E).nox (defBody s_placed) (t_placed K sp_turned sp_moved) := by
  unfold t_placed
  exact (pss_one (ps_ret (pe_cl c_moved hr (by decide) (by rfl) (pa_cons (pe_cl c_turned hr (by decide) (by rfl) (pa_cons (pv 1) (pa_cons (pe_ix ix_tup (pv 0) pe_int (fun _ _ => rfl)) pa_nil))) (pa_cons (pe_ix ix_tup (pv 0) pe_int (fun _ _ => rfl)) pa_nil)))))
/-! ### taken_back: slots 0:setup 1:solid 2:one -/
abbrev N_taken_back : List Str := ["setup", "solid", "one"]
theorem sc_taken_back : FnScope N_taken_back ["setup", "solid"] (defScope s_taken_back) := ⟨rfl, rfl, rfl, by decide +kernel, rfl, by decide +kernel, by decide +kernel⟩
def t_taken_back (K : PySem.W.Frag) (sp_moved : Sp) (sp_back : Sp) (sp_turned : Sp) : TS :=
  (tRet (tCall sp_turned [] E0 (tCons (tCall sp_moved [] E0 (tCons (tVar 1) (tCons (tCB (rTupS K) (tCons (tLc (iTup K (tOp (rIxT K) (tVar 0) (tC (.int 2)))) (gName 2) tYes (tUn rNeg (tVar 2)) [2]) tNil)) tNil))) (tCons (tCall sp_back [] E0 (tCons (tOp (rIxT K) (tVar 0) (tC (.int 1))) tNil)) tNil))))
theorem der_taken_back {P : Program} {w : World} {K : PySem.W.Frag} {mg : Str → Option Value} {base : Heap} {f : Addr} {cdv : Value} {A : Around} {outer : List Env} {s : Shared} {H : Hp} {E : XK} {sp_moved : Sp} (c_moved : Cl P w K mg base 1 "moved" sp_moved) {sp_back : Sp} (c_back : Cl P w K mg base 5 "back" sp_back) {sp_turned : Sp} (c_turned : Cl P w K mg base 10 "turned" sp_turned) (m_tuple : mg "tuple" = none) (hr : Room 10 (A.deeper (envOfC "taken_back" (defScope s_taken_back) s.heap.objs.size f cdv))) : PSs (cxOf CX0 P w K mg base N_taken_back "taken_back" (defScope s_taken_back) f cdv A outer s H E).nox (defBody s_taken_back) (t_taken_back K sp_moved sp_back sp_turned) := by
  unfold t_taken_back
  exact (pss_one (ps_ret (pe_cl c_turned hr (by decide) (by rfl) (pa_cons (pe_cl c_moved hr (by decide) (by rfl) (pa_cons (pv 1) (pa_cons (pe_callTy cr_tupS (by rfl) m_tuple (by decide +kernel) (pa_cons (pe_lc (own := [("one", 2)]) (g := (gName 2)) (tt := tYes) (by rfl) sc_taken_back.nd (pi_tup (pe_ix ix_tup (pv 0) pe_int (fun _ _ => rfl))) (blkOk_by (own := [("one", 2)]) (N := N_taken_back) (by kernel_rfl)) (fun _ _ _ _ _ => (pg_name (i := 2) sc_taken_back.nd rfl (Or.inl rfl))) (fun _ _ _ _ _ => pts_nil) (fun _ _ _ _ _ => (pe_un un_neg (pv 2)))) pa_nil)) pa_nil))) (pa_cons (pe_cl c_back hr (by decide) (by rfl) (pa_cons (pe_ix ix_tup (pv 0) pe_int (fun _ _ => rfl)) pa_nil)) pa_nil)))))
/-! ### free_lot: slots 0:job 1:setup 2:tool 3:rest 4:name 5:cutter 6:holder 7:rate 8:spared 9:above 10:shut -/
abbrev N_free_lot : List Str := ["job", "setup", "tool", "rest", "name", "cutter", "holder", "rate", "spared", "above", "shut"]
theorem sc_free_lot : FnScope N_free_lot ["job", "setup", "tool", "rest"] (defScope s_free_lot) := ⟨rfl, rfl, rfl, by decide +kernel, rfl, by decide +kernel, by decide +kernel⟩
def t_free_lot (K : PySem.W.Frag) (sp_placed : Sp) (sp_union : Sp) (sp_barred : Sp) (sp_travel_lot : Sp) (sp_less : Sp) : TS :=
  (tSeq (tAsg (tVar 2) (gTup K 4 (gCons (gName 4) (gCons (gName 5) (gCons (gName 6) (gCons (gName 7) gNil))))))
  (tSeq (tAsg (tCall sp_union [] E0 (tCons (tCall sp_placed [] E0 (tCons (tVar 1) (tCons (tOp (rIxT K) (tVar 0) (tC (.int 1))) tNil))) (tCons (tOp (rIxT K) (tVar 1) (tC (.int 3))) tNil))) (gName 8))
  (tSeq (tAsg (tCall sp_union [] E0 (tCons (tCall sp_placed [] E0 (tCons (tVar 1) (tCons (tVar 3) tNil))) (tCons (tOp (rIxT K) (tVar 1) (tC (.int 3))) tNil))) (gName 9))
  (tSeq (tAsg (tCall sp_union [] E0 (tCons (tCall sp_barred [] E0 (tCons (tVar 5) (tCons (tVar 8) tNil))) (tCons (tIf (tTest (tOp (rNeD K) (tVar 6) (tTup tNil))) (tCall sp_barred [] E0 (tCons (tVar 6) (tCons (tVar 9) tNil))) (tTup tNil)) tNil))) (gName 10))
  (tRet (tCall sp_less [] E0 (tCons (tCall sp_travel_lot [] E0 (tCons (tOp (rIxT K) (tVar 0) (tC (.int 3))) tNil)) (tCons (tVar 10) tNil))))))))
theorem der_free_lot {P : Program} {w : World} {K : PySem.W.Frag} {mg : Str → Option Value} {base : Heap} {f : Addr} {cdv : Value} {A : Around} {outer : List Env} {s : Shared} {H : Hp} {E : XK} {sp_placed : Sp} (c_placed : Cl P w K mg base 11 "placed" sp_placed) {sp_union : Sp} (c_union : Cl P w K mg base 7 "union" sp_union) {sp_barred : Sp} (c_barred : Cl P w K mg base 10 "barred" sp_barred) {sp_travel_lot : Sp} (c_travel_lot : Cl P w K mg base 2 "travel_lot" sp_travel_lot) {sp_less : Sp} (c_less : Cl P w K mg base 7 "less" sp_less) (hr : Room 11 (A.deeper (envOfC "free_lot" (defScope s_free_lot) s.heap.objs.size f cdv))) : PSs (cxOf CX0 P w K mg base N_free_lot "free_lot" (defScope s_free_lot) f cdv A outer s H E).nox (defBody s_free_lot) (t_free_lot K sp_placed sp_union sp_barred sp_travel_lot sp_less) := by
  unfold t_free_lot
  exact (pss_cons (ps_asg (pv 2) (pg_tup rfl (pgs_cons (pg_name (i := 4) sc_free_lot.nd rfl (Or.inl rfl)) (pgs_cons (pg_name (i := 5) sc_free_lot.nd rfl (Or.inl rfl)) (pgs_cons (pg_name (i := 6) sc_free_lot.nd rfl (Or.inl rfl)) (pgs_cons (pg_name (i := 7) sc_free_lot.nd rfl (Or.inl rfl)) pgs_nil))))))
  (pss_cons (ps_set (i := 8) sc_free_lot.nd rfl (Or.inl rfl) (pe_cl c_union hr (by decide) (by rfl) (pa_cons (pe_cl c_placed hr (by decide) (by rfl) (pa_cons (pv 1) (pa_cons (pe_ix ix_tup (pv 0) pe_int (fun _ _ => rfl)) pa_nil))) (pa_cons (pe_ix ix_tup (pv 1) pe_int (fun _ _ => rfl)) pa_nil))))
  (pss_cons (ps_set (i := 9) sc_free_lot.nd rfl (Or.inl rfl) (pe_cl c_union hr (by decide) (by rfl) (pa_cons (pe_cl c_placed hr (by decide) (by rfl) (pa_cons (pv 1) (pa_cons (pv 3) pa_nil))) (pa_cons (pe_ix ix_tup (pv 1) pe_int (fun _ _ => rfl)) pa_nil))))
  (pss_cons (ps_set (i := 10) sc_free_lot.nd rfl (Or.inl rfl) (pe_cl c_union hr (by decide) (by rfl) (pa_cons (pe_cl c_barred hr (by decide) (by rfl) (pa_cons (pv 5) (pa_cons (pv 8) pa_nil))) (pa_cons (pe_ifExp (pt_cmpR (op_neD hr.units) (pv 6) (pe_tup pa_nil) (nomark _)) (pe_cl c_barred hr (by decide) (by rfl) (pa_cons (pv 6) (pa_cons (pv 9) pa_nil))) (pe_tup pa_nil)) pa_nil))))
  (pss_one (ps_ret (pe_cl c_less hr (by decide) (by rfl) (pa_cons (pe_cl c_travel_lot hr (by decide) (by rfl) (pa_cons (pe_ix ix_tup (pv 0) pe_int (fun _ _ => rfl)) pa_nil)) (pa_cons (pv 10) pa_nil)))))))))
/-! ### cut_by: slots 0:setup 1:tool 2:lot 3:rest -/
abbrev N_cut_by : List Str := ["setup", "tool", "lot", "rest"]
theorem sc_cut_by : FnScope N_cut_by ["setup", "tool", "lot", "rest"] (defScope s_cut_by) := ⟨rfl, rfl, rfl, by decide +kernel, rfl, by decide +kernel, by decide +kernel⟩
def t_cut_by (K : PySem.W.Frag) (sp_placed : Sp) (sp_swept : Sp) (sp_meet : Sp) (sp_taken_back : Sp) : TS :=
  (tRet (tIf (tTest (tOp (rNeD K) (tVar 2) (tTup tNil))) (tCall sp_taken_back [] E0 (tCons (tVar 0) (tCons (tCall sp_meet [] E0 (tCons (tCall sp_placed [] E0 (tCons (tVar 0) (tCons (tVar 3) tNil))) (tCons (tCall sp_swept [] E0 (tCons (tVar 2) (tCons (tOp (rIxT K) (tVar 1) (tC (.int 1))) tNil))) tNil))) tNil))) (tTup tNil)))
theorem der_cut_by {P : Program} {w : World} {K : PySem.W.Frag} {mg : Str → Option Value} {base : Heap} {f : Addr} {cdv : Value} {A : Around} {outer : List Env} {s : Shared} {H : Hp} {E : XK} {sp_placed : Sp} (c_placed : Cl P w K mg base 11 "placed" sp_placed) {sp_swept : Sp} (c_swept : Cl P w K mg base 10 "swept" sp_swept) {sp_meet : Sp} (c_meet : Cl P w K mg base 7 "meet" sp_meet) {sp_taken_back : Sp} (c_taken_back : Cl P w K mg base 11 "taken_back" sp_taken_back) (hr : Room 11 (A.deeper (envOfC "cut_by" (defScope s_cut_by) s.heap.objs.size f cdv))) : PSs (cxOf CX0 P w K mg base N_cut_by "cut_by" (defScope s_cut_by) f cdv A outer s H E).nox (defBody s_cut_by) (t_cut_by K sp_placed sp_swept sp_meet sp_taken_back) := by
  unfold t_cut_by
  exact (pss_one (ps_ret (pe_ifExp (pt_cmpR (op_neD hr.units) (pv 2) (pe_tup pa_nil) (nomark _)) (pe_cl c_taken_back hr (by decide) (by rfl) (pa_cons (pv 0) (pa_cons (pe_cl c_meet hr (by decide) (by rfl) (pa_cons (pe_cl c_placed hr (by decide) (by rfl) (pa_cons (pv 0) (pa_cons (pv 3) pa_nil))) (pa_cons (pe_cl c_swept hr (by decide) (by rfl) (pa_cons (pv 2) (pa_cons (pe_ix ix_tup (pv 1) pe_int (fun _ _ => rfl)) pa_nil))) pa_nil))) pa_nil))) (pe_tup pa_nil))))
/-! ### closure: slots 0:job 1:rest 2:lots 3:is_new 4:at 5:setup 6:number 7:tool 8:lot 9:cut -/
abbrev N_closure : List Str := ["job", "rest", "lots", "is_new", "at", "setup", "number", "tool", "lot", "cut"]
theorem sc_closure : FnScope N_closure ["job"] (defScope s_closure) := ⟨rfl, rfl, rfl, by decide +kernel, rfl, by decide +kernel, by decide +kernel⟩
def t_closure (K : PySem.W.Frag) (sp_free_lot : Sp) (sp_piece_with : Sp) (sp_cut_by : Sp) (sp_less : Sp) : TS :=
  (tSeq (tAsg (tTup (tCons (tOp (rIxT K) (tVar 0) (tC (.int 0))) (tCons tDNewT tNil))) (gTup K 2 (gCons (gName 1) (gCons (gName 2) gNil))))
  (tSeq (tAsg (tC (.bl true)) (gName 3))
  (tSeq (tWhile (tB (tVar 3))
  (tSeq (tAsg (tC (.bl false)) (gName 3))
  (tFor (iEnumT K (tCons (tOp (rIxT K) (tVar 0) (tC (.int 5))) tNil)) (gTup K 2 (gCons (gName 4) (gCons (gName 5) gNil)))
  (tFor (iEnumT K (tCons (tOp (rIxT K) (tVar 0) (tC (.int 4))) tNil)) (gTup K 2 (gCons (gName 6) (gCons (gName 7) gNil)))
  (tSeq (tAsg (tCall sp_piece_with [] E0 (tCons (tCall sp_free_lot [] E0 (tCons (tVar 0) (tCons (tVar 5) (tCons (tVar 7) (tCons (tVar 1) tNil))))) (tCons (tOp (rIxT K) (tOp (rIxT K) (tVar 0) (tC (.int 3))) (tC (.int 2))) tNil))) (gName 8))
  (tSeq (tAsg (tCall sp_cut_by [] E0 (tCons (tVar 5) (tCons (tVar 7) (tCons (tVar 8) (tCons (tVar 1) tNil))))) (gName 9))
  (tSeq (sDPut (tVar 2) (tTup (tCons (tVar 4) (tCons (tVar 6) tNil))) (tVar 8))
  (tIfS (tTest (tOp (rNeD K) (tVar 9) (tTup tNil)))
  (tSeq (tAsg (tCall sp_less [] E0 (tCons (tVar 1) (tCons (tVar 9) tNil))) (gName 1))
  (tAsg (tC (.bl true)) (gName 3)))
  tNext))))))))
  (tRet (tTup (tCons (tVar 1) (tCons (tCB (rTupS K) (tCons (tLc (iRng1 (tCons (tCB (rLenS K) (tCons (tOp (rIxT K) (tVar 0) (tC (.int 5))) tNil)) tNil)) (gName 4) tYes (tCB (rTupS K) (tCons (tLc (iRng1 (tCons (tCB (rLenS K) (tCons (tOp (rIxT K) (tVar 0) (tC (.int 4))) tNil)) tNil)) (gName 6) tYes (tDGetT K (tVar 2) (tTup (tCons (tVar 4) (tCons (tVar 6) tNil)))) [6]) tNil)) [4]) tNil)) tNil)))))))
theorem der_closure {P : Program} {w : World} {K : PySem.W.Frag} {mg : Str → Option Value} {base : Heap} {f : Addr} {cdv : Value} {A : Around} {outer : List Env} {s : Shared} {H : Hp} {E : XK} {sp_free_lot : Sp} (c_free_lot : Cl P w K mg base 12 "free_lot" sp_free_lot) {sp_piece_with : Sp} (c_piece_with : Cl P w K mg base 11 "piece_with" sp_piece_with) {sp_cut_by : Sp} (c_cut_by : Cl P w K mg base 12 "cut_by" sp_cut_by) {sp_less : Sp} (c_less : Cl P w K mg base 7 "less" sp_less) (m_enumerate : mg "enumerate" = none) (m_range : mg "range" = none) (m_len : mg "len" = none) (m_tuple : mg "tuple" = none) (hr : Room 12 (A.deeper (envOfC "closure" (defScope s_closure) s.heap.objs.size f cdv))) : PSs (cxOf CX0 P w K mg base N_closure "closure" (defScope s_closure) f cdv A outer s H E).nox (defBody s_closure) (t_closure K sp_free_lot sp_piece_with sp_cut_by sp_less) := by
  unfold t_closure
  exact (pss_cons (ps_asg (pe_tup (pa_cons (pe_ix ix_tup (pv 0) pe_int (fun _ _ => rfl)) (pa_cons pe_dnewT pa_nil))) (pg_tup rfl (pgs_cons (pg_name (i := 1) sc_closure.nd rfl (Or.inl rfl)) (pgs_cons (pg_name (i := 2) sc_closure.nd rfl (Or.inr rfl)) pgs_nil))))
  (pss_cons (ps_set (i := 3) sc_closure.nd rfl (Or.inl rfl) pe_bl)
  (pss_cons (ps_while PassesOwn.never (pt_val (pv 3))
  (pss_cons (ps_set (i := 3) sc_closure.nd rfl (Or.inl rfl) pe_bl)
  (pss_one (ps_for PassesOwn.never rfl (pi_enumT (by rfl) m_enumerate (pa_cons (pe_ix ix_tup (pv 0) pe_int (fun _ _ => rfl)) pa_nil)) (pg_tup rfl (pgs_cons (pg_name (i := 4) sc_closure.nd rfl (Or.inl rfl)) (pgs_cons (pg_name (i := 5) sc_closure.nd rfl (Or.inl rfl)) pgs_nil)))
  (pss_one (ps_for PassesOwn.never rfl (pi_enumT (by rfl) m_enumerate (pa_cons (pe_ix ix_tup (pv 0) pe_int (fun _ _ => rfl)) pa_nil)) (pg_tup rfl (pgs_cons (pg_name (i := 6) sc_closure.nd rfl (Or.inl rfl)) (pgs_cons (pg_name (i := 7) sc_closure.nd rfl (Or.inl rfl)) pgs_nil)))
  (pss_cons (ps_set (i := 8) sc_closure.nd rfl (Or.inl rfl) (pe_cl c_piece_with hr (by decide) (by rfl) (pa_cons (pe_cl c_free_lot hr (by decide) (by rfl) (pa_cons (pv 0) (pa_cons (pv 5) (pa_cons (pv 7) (pa_cons (pv 1) pa_nil))))) (pa_cons (pe_ix ix_tup (pe_ix ix_tup (pv 0) pe_int (fun _ _ => rfl)) pe_int (fun _ _ => rfl)) pa_nil))))
  (pss_cons (ps_set (i := 9) sc_closure.nd rfl (Or.inl rfl) (pe_cl c_cut_by hr (by decide) (by rfl) (pa_cons (pv 5) (pa_cons (pv 7) (pa_cons (pv 8) (pa_cons (pv 1) pa_nil))))))
  (pss_cons (ps_dput (hu_of hr) (pv 2) (pe_tup (pa_cons (pv 4) (pa_cons (pv 6) pa_nil))) (pv 8) rfl)
  (pss_one (ps_if (pt_cmpR (op_neD hr.units) (pv 9) (pe_tup pa_nil) (nomark _))
  (pss_cons (ps_set (i := 1) sc_closure.nd rfl (Or.inl rfl) (pe_cl c_less hr (by decide) (by rfl) (pa_cons (pv 1) (pa_cons (pv 9) pa_nil))))
  (pss_one (ps_set (i := 3) sc_closure.nd rfl (Or.inl rfl) pe_bl)))
  pss_nil)))))))))))
  (pss_one (ps_ret (pe_tup (pa_cons (pv 1) (pa_cons (pe_callTy cr_tupS (by rfl) m_tuple (by decide +kernel) (pa_cons (pe_lc (own := [("at", 4)]) (g := (gName 4)) (tt := tYes) (by rfl) sc_closure.nd (pi_range1 (by rfl) m_range (pa_cons (pe_callB cr_lenS (by rfl) m_len (by decide +kernel) (pa_cons (pe_ix ix_tup (pv 0) pe_int (fun _ _ => rfl)) pa_nil)) pa_nil)) (blkOk_by (own := [("at", 4)]) (N := N_closure) (by kernel_rfl)) (fun _ _ _ _ _ => (pg_name (i := 4) sc_closure.nd rfl (Or.inr rfl))) (fun _ _ _ _ _ => pts_nil) (fun _ _ _ _ _ => (pe_callTy cr_tupS (by rfl) m_tuple (by decide +kernel) (pa_cons (pe_lc (own := [("number", 6)]) (g := (gName 6)) (tt := tYes) (by rfl) sc_closure.nd (pi_range1 (by rfl) m_range (pa_cons (pe_callB cr_lenS (by rfl) m_len (by decide +kernel) (pa_cons (pe_ix ix_tup (pv 0) pe_int (fun _ _ => rfl)) pa_nil)) pa_nil)) (blkOk_by (own := [("number", 6)]) (N := N_closure) (by kernel_rfl)) (fun _ _ _ _ _ => (pg_name (i := 6) sc_closure.nd rfl (Or.inl rfl))) (fun _ _ _ _ _ => pts_nil) (fun _ _ _ _ _ => (pe_dgetT (hu_of hr) (pv 2) (pe_tup (pa_cons (pv 4) (pa_cons (pv 6) pa_nil))) (fun _ _ => rfl)))) pa_nil)))) pa_nil)) pa_nil))))))))
end Sw
set_option Elab.async false
set_option linter.all false
set_option maxRecDepth 100000
set_option maxHeartbeats 4000000
set_option autoImplicit false
namespace Sw
open PySem PySem.Spec PyProof.Rows L2
/-! ### _law_cell_at: slots 0:_law_script 1:_law_k -/
abbrev N_law_cell_at : List Str := ["_law_script", "_law_k"]
theorem sc_law_cell_at : FnScope N_law_cell_at ["_law_script", "_law_k"] (defScope s_law_cell_at) := ⟨rfl, rfl, rfl, by decide +kernel, rfl, by decide +kernel, by decide +kernel⟩
def t_law_cell_at (K : PySem.W.Frag) : TS :=
  (tSeq (tIfS (tTest (tOp rLtI (tVar 1) (tCB (rLenS K) (tCons (tVar 0) tNil))))
  (tRet (tOp (rIxL K) (tVar 0) (tVar 1)))
  tNext)
  (tRet (tC (.int 0))))
theorem der_law_cell_at {P : Program} {w : World} {K : PySem.W.Frag} {mg : Str → Option Value} {base : Heap} {f : Addr} {cdv : Value} {A : Around} {outer : List Env} {s : Shared} {H : Hp} {E : XK} (m_len : mg "len" = none) (hr : Room 0 (A.deeper (envOfC "_law_cell_at" (defScope s_law_cell_at) s.heap.objs.size f cdv))) : PSs (cxOf CX0 P w K mg base N_law_cell_at "_law_cell_at" (defScope s_law_cell_at) f cdv A outer s H E).nox (defBody s_law_cell_at) (t_law_cell_at K) := by
  unfold t_law_cell_at
  exact (pss_cons (ps_if (pt_cmpR op_lt (pv 1) (pe_callB cr_lenS (by rfl) m_len (by decide +kernel) (pa_cons (pv 0) pa_nil)) (nomark _))
  (pss_one (ps_ret (pe_ix ix_list (pv 0) (pv 1) (fun _ _ => rfl))))
  pss_nil)
  (pss_one (ps_ret pe_int)))
/-! ### _law_draw: slots 0:_law_cell 1:_law_k 2:_law_bound 3:_law_primes -/
abbrev N_law_draw : List Str := ["_law_cell", "_law_k", "_law_bound", "_law_primes"]
theorem sc_law_draw : FnScope N_law_draw ["_law_cell", "_law_k", "_law_bound"] (defScope s_law_draw) := ⟨rfl, rfl, rfl, by decide +kernel, rfl, by decide +kernel, by decide +kernel⟩
def t_law_draw (K : PySem.W.Frag) : TS :=
  (tSeq (tAsg (tTup (tCons (tC (.int 1000003)) (tCons (tC (.int 1000033)) (tCons (tC (.int 1000037)) (tCons (tC (.int 1000039)) (tCons (tC (.int 1000081)) (tCons (tC (.int 1000099)) (tCons (tC (.int 1000117)) (tCons (tC (.int 1000121)) (tCons (tC (.int 1000133)) (tCons (tC (.int 1000151)) (tCons (tC (.int 1000159)) (tCons (tC (.int 1000171)) (tCons (tC (.int 1000183)) (tCons (tC (.int 1000187)) (tCons (tC (.int 1000193)) (tCons (tC (.int 1000199)) tNil))))))))))))))))) (gName 3))
  (tRet (tOp rModI (tOp rModI (tCB rIntS (tCons (tOp rPlus (tOp rTimes (tVar 0) (tC (.int 48271))) (tOp rTimes (tVar 1) (tC (.int 69621)))) tNil)) (tOp (rIxT K) (tVar 3) (tOp rModI (tCB rIntS (tCons (tVar 1) tNil)) (tC (.int 16))))) (tVar 2))))
theorem der_law_draw {P : Program} {w : World} {K : PySem.W.Frag} {mg : Str → Option Value} {base : Heap} {f : Addr} {cdv : Value} {A : Around} {outer : List Env} {s : Shared} {H : Hp} {E : XK} (m_int : mg "int" = none) (hr : Room 0 (A.deeper (envOfC "_law_draw" (defScope s_law_draw) s.heap.objs.size f cdv))) : PSs (cxOf CX0 P w K mg base N_law_draw "_law_draw" (defScope s_law_draw) f cdv A outer s H E).nox (defBody s_law_draw) (t_law_draw K) := by
  unfold t_law_draw
  exact (pss_cons (ps_set (i := 3) sc_law_draw.nd rfl (Or.inl rfl) (pe_tup (pa_cons pe_int (pa_cons pe_int (pa_cons pe_int (pa_cons pe_int (pa_cons pe_int (pa_cons pe_int (pa_cons pe_int (pa_cons pe_int (pa_cons pe_int (pa_cons pe_int (pa_cons pe_int (pa_cons pe_int (pa_cons pe_int (pa_cons pe_int (pa_cons pe_int (pa_cons pe_int pa_nil))))))))))))))))))
  (pss_one (ps_ret (pe_op op_mod (pe_op op_mod (pe_callTy cr_intS (by rfl) m_int (by decide +kernel) (pa_cons (pe_op op_add (pe_op op_mul (pv 0) pe_int) (pe_op op_mul (pv 1) pe_int)) pa_nil)) (pe_ix ix_tup (pv 3) (pe_op op_mod (pe_callTy cr_intS (by rfl) m_int (by decide +kernel) (pa_cons (pv 1) pa_nil)) pe_int) (fun _ _ => rfl))) (pv 2)))))
/-! ### _law_number: slots 0:_law_cell 1:_law_k 2:_law_bound 3:_law_power 4:_law_lap 5:_law_remains 6:_law_small -/
abbrev N_law_number : List Str := ["_law_cell", "_law_k", "_law_bound", "_law_power", "_law_lap", "_law_remains", "_law_small"]
theorem sc_law_number : FnScope N_law_number ["_law_cell", "_law_k", "_law_bound"] (defScope s_law_number) := ⟨rfl, rfl, rfl, by decide +kernel, rfl, by decide +kernel, by decide +kernel⟩
def t_law_number (K : PySem.W.Frag) (sp_law_draw : Sp) : TS :=
  (tSeq (tAsg (tC (.int 1)) (gName 3))
  (tSeq (tFor (iRng1 (tCons (tOp rModI (tCB rIntS (tCons (tVar 1) tNil)) (tC (.int 24))) tNil)) (gName 4)
  (tAsg (tOp rTimesW (tVar 3) (tC (.int 1009))) (gName 3)))
  (tSeq (tAsg (tOp rFdivWI (tOp rMinus (tVar 0) (tOp rPowI (tC (.int 10)) (tC (.int 18)))) (tVar 3)) (gName 5))
  (tSeq (tIfS (tTest (tOp rGtI (tVar 5) (tC (.int 0))))
  (tRet (tOp rModI (tOp rModI (tCB rIntS (tCons (tVar 5) tNil)) (tC (.int 1009))) (tVar 2)))
  tNext)
  (tSeq (tAsg (tOp rModI (tCB rIntS (tCons (tVar 0) tNil)) (tC (.int 1000003))) (gName 6))
  (tRet (tOp rModI (tCall sp_law_draw [] E0 (tCons (tOp rTimes (tOp rPlus (tVar 6) (tOp rTimes (tC (.int 977)) (tVar 1))) (tOp rPlus (tOp rPlus (tVar 6) (tOp rTimes (tC (.int 31)) (tVar 1))) (tC (.int 5)))) (tCons (tOp rPlus (tOp rModI (tCB rIntS (tCons (tVar 1) tNil)) (tC (.int 9))) (tC (.int 1))) (tCons (tC (.int 999983)) tNil)))) (tVar 2))))))))
theorem der_law_number {P : Program} {w : World} {K : PySem.W.Frag} {mg : Str → Option Value} {base : Heap} {f : Addr} {cdv : Value} {A : Around} {outer : List Env} {s : Shared} {H : Hp} {E : XK} {sp_law_draw : Sp} (c_law_draw : Cl P w K mg base 1 "_law_draw" sp_law_draw) (m_range : mg "range" = none) (m_int : mg "int" = none) (hr : Room 1 (A.deeper (envOfC "_law_number" (defScope s_law_number) s.heap.objs.size f cdv))) : PSs (cxOf CX0 P w K mg base N_law_number "_law_number" (defScope s_law_number) f cdv A outer s H E).nox (defBody s_law_number) (t_law_number K sp_law_draw) := by
  unfold t_law_number
  exact (pss_cons (ps_set (i := 3) sc_law_number.nd rfl (Or.inl rfl) pe_int)
  (pss_cons (ps_for PassesOwn.never rfl (pi_range1 (by rfl) m_range (pa_cons (pe_op op_mod (pe_callTy cr_intS (by rfl) m_int (by decide +kernel) (pa_cons (pv 1) pa_nil)) pe_int) pa_nil)) (pg_name (i := 4) sc_law_number.nd rfl (Or.inl rfl))
  (pss_one (ps_set (i := 3) sc_law_number.nd rfl (Or.inl rfl) (pe_op op_mulW (pv 3) pe_int))))
  (pss_cons (ps_set (i := 5) sc_law_number.nd rfl (Or.inl rfl) (pe_op op_fdivW (pe_op op_sub (pv 0) (pe_op op_pow pe_int pe_int)) (pv 3)))
  (pss_cons (ps_if (pt_cmpR op_gt (pv 5) pe_int (nomark _))
  (pss_one (ps_ret (pe_op op_mod (pe_op op_mod (pe_callTy cr_intS (by rfl) m_int (by decide +kernel) (pa_cons (pv 5) pa_nil)) pe_int) (pv 2))))
  pss_nil)
  (pss_cons (ps_set (i := 6) sc_law_number.nd rfl (Or.inl rfl) (pe_op op_mod (pe_callTy cr_intS (by rfl) m_int (by decide +kernel) (pa_cons (pv 0) pa_nil)) pe_int))
  (pss_one (ps_ret (pe_op op_mod (pe_cl c_law_draw hr (by decide) (by rfl) (pa_cons (pe_op op_mul (pe_op op_add (pv 6) (pe_op op_mul pe_int (pv 1))) (pe_op op_add (pe_op op_add (pv 6) (pe_op op_mul pe_int (pv 1))) pe_int)) (pa_cons (pe_op op_add (pe_op op_mod (pe_callTy cr_intS (by rfl) m_int (by decide +kernel) (pa_cons (pv 1) pa_nil)) pe_int) pe_int) (pa_cons pe_int pa_nil)))) (pv 2)))))))))
/-! ### _law_next: slots 0:_law_draw_here 1:_law_bound 2:_law_at_here 3:_law_cell -/
abbrev N_law_next : List Str := ["_law_draw_here", "_law_bound", "_law_at_here", "_law_cell"]
theorem sc_law_next : FnScope N_law_next ["_law_draw_here", "_law_bound"] (defScope s_law_next) := ⟨rfl, rfl, rfl, by decide +kernel, rfl, by decide +kernel, by decide +kernel⟩
def t_law_next (K : PySem.W.Frag) (sp_law_cell_at : Sp) (sp_law_number : Sp) : TS :=
  (tSeq (tAsg (tOp rPlus (tOp (rIxL K) (tVar 0) (tC (.int 2))) (tC (.int 1))) (gSub (tVar 0) (tC (.int 2)) rSetL))
  (tSeq (tAsg (tOp rFdivI (tOp (rIxL K) (tVar 0) (tC (.int 2))) (tC (.int 12))) (gName 2))
  (tSeq (tAsg (tOp rPlus (tCall sp_law_cell_at [] E0 (tCons (tOp (rIxL K) (tVar 0) (tC (.int 0))) (tCons (tOp rPlus (tOp (rIxL K) (tVar 0) (tC (.int 1))) (tVar 2)) tNil))) (tOp rTimes (tC (.int 31)) (tVar 2))) (gName 3))
  (tRet (tCall sp_law_number [] E0 (tCons (tVar 3) (tCons (tOp rPlus (tOp rModI (tCB rIntS (tCons (tOp (rIxL K) (tVar 0) (tC (.int 2))) tNil)) (tC (.int 12))) (tC (.int 1))) (tCons (tVar 1) tNil))))))))
theorem der_law_next {P : Program} {w : World} {K : PySem.W.Frag} {mg : Str → Option Value} {base : Heap} {f : Addr} {cdv : Value} {A : Around} {outer : List Env} {s : Shared} {H : Hp} {E : XK} {sp_law_cell_at : Sp} (c_law_cell_at : Cl P w K mg base 1 "_law_cell_at" sp_law_cell_at) {sp_law_number : Sp} (c_law_number : Cl P w K mg base 2 "_law_number" sp_law_number) (m_int : mg "int" = none) (hr : Room 2 (A.deeper (envOfC "_law_next" (defScope s_law_next) s.heap.objs.size f cdv))) : PSs (cxOf CX0 P w K mg base N_law_next "_law_next" (defScope s_law_next) f cdv A outer s H E).nox (defBody s_law_next) (t_law_next K sp_law_cell_at sp_law_number) := by
  unfold t_law_next
  exact (pss_cons (ps_asg (pe_op op_add (pe_ix ix_list (pv 0) pe_int (fun _ _ => rfl)) pe_int) (pg_sub (pv 0) pe_int set_list))
  (pss_cons (ps_set (i := 2) sc_law_next.nd rfl (Or.inl rfl) (pe_op op_fdiv (pe_ix ix_list (pv 0) pe_int (fun _ _ => rfl)) pe_int))
  (pss_cons (ps_set (i := 3) sc_law_next.nd rfl (Or.inl rfl) (pe_op op_add (pe_cl c_law_cell_at hr (by decide) (by rfl) (pa_cons (pe_ix ix_list (pv 0) pe_int (fun _ _ => rfl)) (pa_cons (pe_op op_add (pe_ix ix_list (pv 0) pe_int (fun _ _ => rfl)) (pv 2)) pa_nil))) (pe_op op_mul pe_int (pv 2))))
  (pss_one (ps_ret (pe_cl c_law_number hr (by decide) (by rfl) (pa_cons (pv 3) (pa_cons (pe_op op_add (pe_op op_mod (pe_callTy cr_intS (by rfl) m_int (by decide +kernel) (pa_cons (pe_ix ix_list (pv 0) pe_int (fun _ _ => rfl)) pa_nil)) pe_int) pe_int) (pa_cons (pv 1) pa_nil)))))))))
/-! ### _law_pick: slots 0:_law_draw_here 1:_law_things -/
abbrev N_law_pick : List Str := ["_law_draw_here", "_law_things"]
theorem sc_law_pick : FnScope N_law_pick ["_law_draw_here", "_law_things"] (defScope s_law_pick) := ⟨rfl, rfl, rfl, by decide +kernel, rfl, by decide +kernel, by decide +kernel⟩
def t_law_pick (K : PySem.W.Frag) (sp_law_next : Sp) : TS :=
  (tRet (tOp (rIx K) (tVar 1) (tCall sp_law_next [] E0 (tCons (tVar 0) (tCons (tCB (rLenS K) (tCons (tVar 1) tNil)) tNil)))))
theorem der_law_pick {P : Program} {w : World} {K : PySem.W.Frag} {mg : Str → Option Value} {base : Heap} {f : Addr} {cdv : Value} {A : Around} {outer : List Env} {s : Shared} {H : Hp} {E : XK} {sp_law_next : Sp} (c_law_next : Cl P w K mg base 3 "_law_next" sp_law_next) (m_len : mg "len" = none) (hr : Room 3 (A.deeper (envOfC "_law_pick" (defScope s_law_pick) s.heap.objs.size f cdv))) : PSs (cxOf CX0 P w K mg base N_law_pick "_law_pick" (defScope s_law_pick) f cdv A outer s H E).nox (defBody s_law_pick) (t_law_pick K sp_law_next) := by
  unfold t_law_pick
  exact (pss_one (ps_ret (pe_ix ix_seq (pv 1) (pe_cl c_law_next hr (by decide) (by rfl) (pa_cons (pv 0) (pa_cons (pe_callB cr_lenS (by rfl) m_len (by decide +kernel) (pa_cons (pv 1) pa_nil)) pa_nil))) (fun _ _ => rfl))))
/-! ### _law_box: slots 0:_law_draw_here 1:_law_low 2:_law_high 3:_law_ends 4:_law_axis 5:_law_one 6:_law_other -/
abbrev N_law_box : List Str := ["_law_draw_here", "_law_low", "_law_high", "_law_ends", "_law_axis", "_law_one", "_law_other"]
theorem sc_law_box : FnScope N_law_box ["_law_draw_here", "_law_low", "_law_high"] (defScope s_law_box) := ⟨rfl, rfl, rfl, by decide +kernel, rfl, by decide +kernel, by decide +kernel⟩
def t_law_box (K : PySem.W.Frag) (sp_law_next : Sp) (sp_box : Sp) : TS :=
  (tSeq (tAsg (tLst tNil) (gName 3))
  (tSeq (tFor (iTup K (tTup (tCons (tC (.int 0)) (tCons (tC (.int 1)) (tCons (tC (.int 2)) tNil))))) (gName 4)
  (tSeq (tAsg (tOp rPlus (tOp (rIxT K) (tVar 1) (tVar 4)) (tCall sp_law_next [] E0 (tCons (tVar 0) (tCons (tOp rMinus (tOp (rIxT K) (tVar 2) (tVar 4)) (tOp (rIxT K) (tVar 1) (tVar 4))) tNil)))) (gName 5))
  (tDrop (tBM K "list" rAppend (tVar 3) (tCons (tTup (tCons (tVar 5) (tCons (tOp rPlus (tOp rPlus (tVar 5) (tC (.int 1))) (tCall sp_law_next [] E0 (tCons (tVar 0) (tCons (tOp rMinus (tOp (rIxT K) (tVar 2) (tVar 4)) (tVar 5)) tNil)))) tNil))) tNil)))))
  (tRet (tCall sp_box [] E0 (tCons (tCB (rTupS K) (tCons (tLc (iList K (tVar 3)) (gTup K 2 (gCons (gName 5) (gCons (gName 6) gNil))) tYes (tVar 5) [5, 6]) tNil)) (tCons (tCB (rTupS K) (tCons (tLc (iList K (tVar 3)) (gTup K 2 (gCons (gName 5) (gCons (gName 6) gNil))) tYes (tVar 6) [5, 6]) tNil)) tNil))))))
theorem der_law_box {P : Program} {w : World} {K : PySem.W.Frag} {mg : Str → Option Value} {base : Heap} {f : Addr} {cdv : Value} {A : Around} {outer : List Env} {s : Shared} {H : Hp} {E : XK} {sp_law_next : Sp} (c_law_next : Cl P w K mg base 3 "_law_next" sp_law_next) {sp_box : Sp} (c_box : Cl P w K mg base 1 "box" sp_box) (m_tuple : mg "tuple" = none) (hr : Room 3 (A.deeper (envOfC "_law_box" (defScope s_law_box) s.heap.objs.size f cdv))) : PSs (cxOf CX0 P w K mg base N_law_box "_law_box" (defScope s_law_box) f cdv A outer s H E).nox (defBody s_law_box) (t_law_box K sp_law_next sp_box) := by
  unfold t_law_box
  exact (pss_cons (ps_set (i := 3) sc_law_box.nd rfl (Or.inl rfl) (pe_lst pa_nil))
  (pss_cons (ps_for PassesOwn.never rfl (pi_tup (pe_tup (pa_cons pe_int (pa_cons pe_int (pa_cons pe_int pa_nil))))) (pg_name (i := 4) sc_law_box.nd rfl (Or.inl rfl))
  (pss_cons (ps_set (i := 5) sc_law_box.nd rfl (Or.inl rfl) (pe_op op_add (pe_ix ix_tup (pv 1) (pv 4) (fun _ _ => rfl)) (pe_cl c_law_next hr (by decide) (by rfl) (pa_cons (pv 0) (pa_cons (pe_op op_sub (pe_ix ix_tup (pv 2) (pv 4) (fun _ _ => rfl)) (pe_ix ix_tup (pv 1) (pv 4) (fun _ _ => rfl))) pa_nil)))))
  (pss_one (ps_expr (pe_bm PySem.F.plainAttrs_list PySem.F.slot_list_append PySem.F.type_list_append mt_append (pv 3) (pa_cons (pe_tup (pa_cons (pv 5) (pa_cons (pe_op op_add (pe_op op_add (pv 5) pe_int) (pe_cl c_law_next hr (by decide) (by rfl) (pa_cons (pv 0) (pa_cons (pe_op op_sub (pe_ix ix_tup (pv 2) (pv 4) (fun _ _ => rfl)) (pv 5)) pa_nil)))) pa_nil))) pa_nil))))))
  (pss_one (ps_ret (pe_cl c_box hr (by decide) (by rfl) (pa_cons (pe_callTy cr_tupS (by rfl) m_tuple (by decide +kernel) (pa_cons (pe_lc (own := [("_law_one", 5), ("_law_other", 6)]) (g := (gTup K 2 (gCons (gName 5) (gCons (gName 6) gNil)))) (tt := tYes) (by rfl) sc_law_box.nd (pi_list (pv 3)) (blkOk_by (own := [("_law_one", 5), ("_law_other", 6)]) (N := N_law_box) (by kernel_rfl)) (fun _ _ _ _ _ => (pg_tup rfl (pgs_cons (pg_name (i := 5) sc_law_box.nd rfl (Or.inl rfl)) (pgs_cons (pg_name (i := 6) sc_law_box.nd rfl (Or.inl rfl)) pgs_nil)))) (fun _ _ _ _ _ => pts_nil) (fun _ _ _ _ _ => (pv 5))) pa_nil)) (pa_cons (pe_callTy cr_tupS (by rfl) m_tuple (by decide +kernel) (pa_cons (pe_lc (own := [("_law_one", 5), ("_law_other", 6)]) (g := (gTup K 2 (gCons (gName 5) (gCons (gName 6) gNil)))) (tt := tYes) (by rfl) sc_law_box.nd (pi_list (pv 3)) (blkOk_by (own := [("_law_one", 5), ("_law_other", 6)]) (N := N_law_box) (by kernel_rfl)) (fun _ _ _ _ _ => (pg_tup rfl (pgs_cons (pg_name (i := 5) sc_law_box.nd rfl (Or.inl rfl)) (pgs_cons (pg_name (i := 6) sc_law_box.nd rfl (Or.inl rfl)) pgs_nil)))) (fun _ _ _ _ _ => pts_nil) (fun _ _ _ _ _ => (pv 6))) pa_nil)) pa_nil)))))))
/-! ### _law_tool: slots 0:_law_draw_here 1:_law_name 2:_law_wide 3:_law_deep 4:_law_cutter 5:_law_low 6:_law_high -/
abbrev N_law_tool : List Str := ["_law_draw_here", "_law_name", "_law_wide", "_law_deep", "_law_cutter", "_law_low", "_law_high"]
theorem sc_law_tool : FnScope N_law_tool ["_law_draw_here", "_law_name"] (defScope s_law_tool) := ⟨rfl, rfl, rfl, by decide +kernel, rfl, by decide +kernel, by decide +kernel⟩
def t_law_tool (K : PySem.W.Frag) (sp_law_next : Sp) (sp_box : Sp) (sp_union : Sp) : TS :=
  (tSeq (tPar 2 3 (tCons (tOp rPlus (tC (.int 1)) (tCall sp_law_next [] E0 (tCons (tVar 0) (tCons (tC (.int 2)) tNil)))) (tCons (tOp rPlus (tC (.int 1)) (tCall sp_law_next [] E0 (tCons (tVar 0) (tCons (tC (.int 2)) tNil)))) tNil)))
  (tSeq (tAsg (tCall sp_box [] E0 (tCons (tTup (tCons (tC (.int 0)) (tCons (tC (.int 0)) (tCons (tC (.int 0)) tNil)))) (tCons (tTup (tCons (tVar 2) (tCons (tOp rPlus (tC (.int 1)) (tCall sp_law_next [] E0 (tCons (tVar 0) (tCons (tC (.int 2)) tNil)))) (tCons (tVar 3) tNil)))) tNil))) (gName 4))
  (tSeq (tIfS (tTest (tOp rEq (tCall sp_law_next [] E0 (tCons (tVar 0) (tCons (tC (.int 4)) tNil))) (tC (.int 0))))
  (tAsg (tCall sp_union [] E0 (tCons (tVar 4) (tCons (tCall sp_box [] E0 (tCons (tTup (tCons (tUn rNeg (tC (.int 1))) (tCons (tC (.int 0)) (tCons (tC (.int 0)) tNil)))) (tCons (tTup (tCons (tOp rPlus (tVar 2) (tC (.int 1))) (tCons (tC (.int 1)) (tCons (tC (.int 1)) tNil)))) tNil))) tNil))) (gName 4))
  tNext)
  (tSeq (tPar 5 6 (tCons (tTup (tCons (tUn rNeg (tCall sp_law_next [] E0 (tCons (tVar 0) (tCons (tC (.int 2)) tNil)))) (tCons (tUn rNeg (tCall sp_law_next [] E0 (tCons (tVar 0) (tCons (tC (.int 2)) tNil)))) (tCons (tVar 3) tNil)))) (tCons (tTup (tCons (tOp rPlus (tVar 2) (tCall sp_law_next [] E0 (tCons (tVar 0) (tCons (tC (.int 2)) tNil)))) (tCons (tOp rPlus (tC (.int 2)) (tCall sp_law_next [] E0 (tCons (tVar 0) (tCons (tC (.int 2)) tNil)))) (tCons (tOp rPlus (tVar 3) (tC (.int 2))) tNil)))) tNil)))
  (tRet (tTup (tCons (tVar 1) (tCons (tVar 4) (tCons (tIf (tTest (tOp rGtI (tCall sp_law_next [] E0 (tCons (tVar 0) (tCons (tC (.int 3)) tNil))) (tC (.int 0)))) (tCall sp_box [] E0 (tCons (tVar 5) (tCons (tVar 6) tNil))) (tTup tNil)) (tCons (tOp rPlus (tC (.int 1)) (tCall sp_law_next [] E0 (tCons (tVar 0) (tCons (tC (.int 5)) tNil)))) tNil))))))))))
theorem der_law_tool {P : Program} {w : World} {K : PySem.W.Frag} {mg : Str → Option Value} {base : Heap} {f : Addr} {cdv : Value} {A : Around} {outer : List Env} {s : Shared} {H : Hp} {E : XK} {sp_law_next : Sp} (c_law_next : Cl P w K mg base 3 "_law_next" sp_law_next) {sp_box : Sp} (c_box : Cl P w K mg base 1 "box" sp_box) {sp_union : Sp} (c_union : Cl P w K mg base 7 "union" sp_union) (hr : Room 7 (A.deeper (envOfC "_law_tool" (defScope s_law_tool) s.heap.objs.size f cdv))) : PSs (cxOf CX0 P w K mg base N_law_tool "_law_tool" (defScope s_law_tool) f cdv A outer s H E).nox (defBody s_law_tool) (t_law_tool K sp_law_next sp_box sp_union) := by
  unfold t_law_tool
  exact (pss_cons (ps_par (by rfl) sc_law_tool.nd rfl rfl (by decide) rfl rfl (pa_cons (pe_op op_add pe_int (pe_cl c_law_next hr (by decide) (by rfl) (pa_cons (pv 0) (pa_cons pe_int pa_nil)))) (pa_cons (pe_op op_add pe_int (pe_cl c_law_next hr (by decide) (by rfl) (pa_cons (pv 0) (pa_cons pe_int pa_nil)))) pa_nil)) (by rfl))
  (pss_cons (ps_set (i := 4) sc_law_tool.nd rfl (Or.inl rfl) (pe_cl c_box hr (by decide) (by rfl) (pa_cons (pe_tup (pa_cons pe_int (pa_cons pe_int (pa_cons pe_int pa_nil)))) (pa_cons (pe_tup (pa_cons (pv 2) (pa_cons (pe_op op_add pe_int (pe_cl c_law_next hr (by decide) (by rfl) (pa_cons (pv 0) (pa_cons pe_int pa_nil)))) (pa_cons (pv 3) pa_nil)))) pa_nil))))
  (pss_cons (ps_if (pt_cmpR op_eq (pe_cl c_law_next hr (by decide) (by rfl) (pa_cons (pv 0) (pa_cons pe_int pa_nil))) pe_int (nomark _))
  (pss_one (ps_set (i := 4) sc_law_tool.nd rfl (Or.inl rfl) (pe_cl c_union hr (by decide) (by rfl) (pa_cons (pv 4) (pa_cons (pe_cl c_box hr (by decide) (by rfl) (pa_cons (pe_tup (pa_cons (pe_un un_neg pe_int) (pa_cons pe_int (pa_cons pe_int pa_nil)))) (pa_cons (pe_tup (pa_cons (pe_op op_add (pv 2) pe_int) (pa_cons pe_int (pa_cons pe_int pa_nil)))) pa_nil))) pa_nil)))))
  pss_nil)
  (pss_cons (ps_par (by rfl) sc_law_tool.nd rfl rfl (by decide) rfl rfl (pa_cons (pe_tup (pa_cons (pe_un un_neg (pe_cl c_law_next hr (by decide) (by rfl) (pa_cons (pv 0) (pa_cons pe_int pa_nil)))) (pa_cons (pe_un un_neg (pe_cl c_law_next hr (by decide) (by rfl) (pa_cons (pv 0) (pa_cons pe_int pa_nil)))) (pa_cons (pv 3) pa_nil)))) (pa_cons (pe_tup (pa_cons (pe_op op_add (pv 2) (pe_cl c_law_next hr (by decide) (by rfl) (pa_cons (pv 0) (pa_cons pe_int pa_nil)))) (pa_cons (pe_op op_add pe_int (pe_cl c_law_next hr (by decide) (by rfl) (pa_cons (pv 0) (pa_cons pe_int pa_nil)))) (pa_cons (pe_op op_add (pv 3) pe_int) pa_nil)))) pa_nil)) (by rfl))
  (pss_one (ps_ret (pe_tup (pa_cons (pv 1) (pa_cons (pv 4) (pa_cons (pe_ifExp (pt_cmpR op_gt (pe_cl c_law_next hr (by decide) (by rfl) (pa_cons (pv 0) (pa_cons pe_int pa_nil))) pe_int (nomark _)) (pe_cl c_box hr (by decide) (by rfl) (pa_cons (pv 5) (pa_cons (pv 6) pa_nil))) (pe_tup pa_nil)) (pa_cons (pe_op op_add pe_int (pe_cl c_law_next hr (by decide) (by rfl) (pa_cons (pv 0) (pa_cons pe_int pa_nil)))) pa_nil)))))))))))
/-! ### _law_job: slots 0:_law_draw_here 1:_law_size 2:_law_stock 3:_law_wished 4:_law_turn 5:_law_low 6:_law_late 7:_law_machine 8:_law_at_here 9:_law_tools 10:_law_setups 11:_law_high 12:_law_by 13:_law_fixture 14:_law_one -/
abbrev N_law_job : List Str := ["_law_draw_here", "_law_size", "_law_stock", "_law_wished", "_law_turn", "_law_low", "_law_late", "_law_machine", "_law_at_here", "_law_tools", "_law_setups", "_law_high", "_law_by", "_law_fixture", "_law_one"]
theorem sc_law_job : FnScope N_law_job ["_law_draw_here"] (defScope s_law_job) := ⟨rfl, rfl, rfl, by decide +kernel, rfl, by decide +kernel, by decide +kernel⟩
def t_law_job (K : PySem.W.Frag) (sp_law_next : Sp) (sp_box : Sp) (sp_law_box : Sp) (sp_less : Sp) (sp_law_tool : Sp) (sp_turned : Sp) (sp_bounds : Sp) : TS :=
  (tSeq (tAsg (tTup (tCons (tOp rPlus (tC (.int 2)) (tCall sp_law_next [] E0 (tCons (tVar 0) (tCons (tC (.int 2)) tNil)))) (tCons (tOp rPlus (tC (.int 2)) (tCall sp_law_next [] E0 (tCons (tVar 0) (tCons (tC (.int 2)) tNil)))) (tCons (tOp rPlus (tC (.int 1)) (tCall sp_law_next [] E0 (tCons (tVar 0) (tCons (tC (.int 3)) tNil)))) tNil)))) (gName 1))
  (tSeq (tPar 2 3 (tCons (tCall sp_box [] E0 (tCons (tTup (tCons (tC (.int 0)) (tCons (tC (.int 0)) (tCons (tC (.int 0)) tNil)))) (tCons (tVar 1) tNil))) (tCons (tCall sp_box [] E0 (tCons (tTup (tCons (tC (.int 0)) (tCons (tC (.int 0)) (tCons (tC (.int 0)) tNil)))) (tCons (tVar 1) tNil))) tNil)))
  (tSeq (tFor (iRng1 (tCons (tOp rPlus (tC (.int 1)) (tCall sp_law_next [] E0 (tCons (tVar 0) (tCons (tC (.int 3)) tNil)))) tNil)) (gName 4)
  (tSeq (tAsg (tCB (rTupS K) (tCons (tLc (iTup K (tVar 1)) (gName 14) tYes (tIf (tTest (tOp rEq (tCall sp_law_next [] E0 (tCons (tVar 0) (tCons (tC (.int 2)) tNil))) (tC (.int 0)))) (tC (.int 0)) (tCall sp_law_next [] E0 (tCons (tVar 0) (tCons (tVar 14) tNil)))) [14]) tNil)) (gName 5))
  (tSeq (tAsg (tCall sp_less [] E0 (tCons (tVar 3) (tCons (tCall sp_law_box [] E0 (tCons (tVar 0) (tCons (tVar 5) (tCons (tVar 1) tNil)))) tNil))) (gName 6))
  (tAsg (tIf (tTest (tOp (rNeD K) (tVar 6) (tTup tNil))) (tVar 6) (tVar 3)) (gName 3)))))
  (tSeq (tAsg (tTup (tCons (tTup (tCons (tUn rNeg (tC (.int 2))) (tCons (tUn rNeg (tC (.int 2))) (tCons (tUn rNeg (tC (.int 1))) tNil)))) (tCons (tTup (tCons (tC (.int 3)) (tCons (tC (.int 3)) (tCons (tC (.int 4)) tNil)))) (tCons (tTup (tCons (tC (.int 0)) (tCons (tC (.int 0)) (tCons (tC (.int 4)) tNil)))) (tCons (tC (.int 1)) (tCons (tCall sp_law_next [] E0 (tCons (tVar 0) (tCons (tC (.int 4)) tNil))) (tCons (tCall sp_law_next [] E0 (tCons (tVar 0) (tCons (tC (.int 4)) tNil))) tNil))))))) (gName 7))
  (tSeq (tAsg (tCB (rTupS K) (tCons (tLc (iRng1 (tCons (tOp rPlus (tC (.int 1)) (tOp rFdivI (tCall sp_law_next [] E0 (tCons (tVar 0) (tCons (tC (.int 3)) tNil))) (tC (.int 2)))) tNil)) (gName 8) tYes (tCall sp_law_tool [] E0 (tCons (tVar 0) (tCons (tOp rAddSS (tC (.str "t")) (tCB rStrS (tCons (tVar 8) tNil))) tNil))) [8]) tNil)) (gName 9))
  (tSeq (tAsg (tLst tNil) (gName 10))
  (tSeq (tFor (iRng1 (tCons (tOp rPlus (tC (.int 1)) (tOp rFdivI (tCall sp_law_next [] E0 (tCons (tVar 0) (tCons (tC (.int 3)) tNil))) (tC (.int 2)))) tNil)) (gName 8)
  (tSeq (tAsg (tIf (tTest (tOp rEq (tVar 8) (tC (.int 0)))) (tC (.int 0)) (tCall sp_law_next [] E0 (tCons (tVar 0) (tCons (tC (.int 24)) tNil)))) (gName 4))
  (tSeq (tAsg (tCall sp_bounds [] E0 (tCons (tCall sp_turned [] E0 (tCons (tVar 2) (tCons (tVar 4) tNil))) tNil)) (gTup K 2 (gCons (gName 5) (gCons (gName 11) gNil))))
  (tSeq (tAsg (tCB (rTupS K) (tCons (tLc (iTup K (tVar 5)) (gName 14) tYes (tUn rNeg (tVar 14)) [14]) tNil)) (gName 12))
  (tSeq (tAsg (tIf (tTest (tOp rEq (tCall sp_law_next [] E0 (tCons (tVar 0) (tCons (tC (.int 2)) tNil))) (tC (.int 0)))) (tCall sp_box [] E0 (tCons (tTup (tCons (tUn rNeg (tC (.int 3))) (tCons (tUn rNeg (tC (.int 3))) (tCons (tUn rNeg (tC (.int 3))) tNil)))) (tCons (tTup (tCons (tC (.int 8)) (tCons (tC (.int 8)) (tCons (tC (.int 0)) tNil)))) tNil))) (tTup tNil)) (gName 13))
  (tDrop (tBM K "list" rAppend (tVar 10) (tCons (tTup (tCons (tOp rAddSS (tC (.str "s")) (tCB rStrS (tCons (tVar 8) tNil))) (tCons (tVar 4) (tCons (tVar 12) (tCons (tVar 13) tNil))))) tNil))))))))
  (tRet (tTup (tCons (tVar 2) (tCons (tVar 3) (tCons (tOp rFdivI (tCall sp_law_next [] E0 (tCons (tVar 0) (tCons (tC (.int 4)) tNil))) (tC (.int 3))) (tCons (tVar 7) (tCons (tVar 9) (tCons (tCB (rTupS K) (tCons (tVar 10) tNil)) tNil)))))))))))))))
theorem der_law_job {P : Program} {w : World} {K : PySem.W.Frag} {mg : Str → Option Value} {base : Heap} {f : Addr} {cdv : Value} {A : Around} {outer : List Env} {s : Shared} {H : Hp} {E : XK} {sp_law_next : Sp} (c_law_next : Cl P w K mg base 3 "_law_next" sp_law_next) {sp_box : Sp} (c_box : Cl P w K mg base 1 "box" sp_box) {sp_law_box : Sp} (c_law_box : Cl P w K mg base 4 "_law_box" sp_law_box) {sp_less : Sp} (c_less : Cl P w K mg base 7 "less" sp_less) {sp_law_tool : Sp} (c_law_tool : Cl P w K mg base 8 "_law_tool" sp_law_tool) {sp_turned : Sp} (c_turned : Cl P w K mg base 10 "turned" sp_turned) {sp_bounds : Sp} (c_bounds : Cl P w K mg base 2 "bounds" sp_bounds) (m_range : mg "range" = none) (m_tuple : mg "tuple" = none) (m_str : mg "str" = none) (hr : Room 10 (A.deeper (envOfC "_law_job" (defScope s_law_job) s.heap.objs.size f cdv))) : PSs (cxOf CX0 P w K mg base N_law_job "_law_job" (defScope s_law_job) f cdv A outer s H E).nox (defBody s_law_job) (t_law_job K sp_law_next sp_box sp_law_box sp_less sp_law_tool sp_turned sp_bounds) := by
  unfold t_law_job
  exact (pss_cons (ps_set (i := 1) sc_law_job.nd rfl (Or.inl rfl) (pe_tup (pa_cons (pe_op op_add pe_int (pe_cl c_law_next hr (by decide) (by rfl) (pa_cons (pv 0) (pa_cons pe_int pa_nil)))) (pa_cons (pe_op op_add pe_int (pe_cl c_law_next hr (by decide) (by rfl) (pa_cons (pv 0) (pa_cons pe_int pa_nil)))) (pa_cons (pe_op op_add pe_int (pe_cl c_law_next hr (by decide) (by rfl) (pa_cons (pv 0) (pa_cons pe_int pa_nil)))) pa_nil)))))
  (pss_cons (ps_par (by rfl) sc_law_job.nd rfl rfl (by decide) rfl rfl (pa_cons (pe_cl c_box hr (by decide) (by rfl) (pa_cons (pe_tup (pa_cons pe_int (pa_cons pe_int (pa_cons pe_int pa_nil)))) (pa_cons (pv 1) pa_nil))) (pa_cons (pe_cl c_box hr (by decide) (by rfl) (pa_cons (pe_tup (pa_cons pe_int (pa_cons pe_int (pa_cons pe_int pa_nil)))) (pa_cons (pv 1) pa_nil))) pa_nil)) (by rfl))
  (pss_cons (ps_for PassesOwn.never rfl (pi_range1 (by rfl) m_range (pa_cons (pe_op op_add pe_int (pe_cl c_law_next hr (by decide) (by rfl) (pa_cons (pv 0) (pa_cons pe_int pa_nil)))) pa_nil)) (pg_name (i := 4) sc_law_job.nd rfl (Or.inl rfl))
  (pss_cons (ps_set (i := 5) sc_law_job.nd rfl (Or.inl rfl) (pe_callTy cr_tupS (by rfl) m_tuple (by decide +kernel) (pa_cons (pe_lc (own := [("_law_one", 14)]) (g := (gName 14)) (tt := tYes) (by rfl) sc_law_job.nd (pi_tup (pv 1)) (blkOk_by (own := [("_law_one", 14)]) (N := N_law_job) (by kernel_rfl)) (fun _ _ _ _ _ => (pg_name (i := 14) sc_law_job.nd rfl (Or.inl rfl))) (fun _ _ _ _ _ => pts_nil) (fun _ _ _ _ _ => (pe_ifExp (pt_cmpR op_eq (pe_cl c_law_next hr (by decide) (by rfl) (pa_cons (pv 0) (pa_cons pe_int pa_nil))) pe_int (nomark _)) pe_int (pe_cl c_law_next hr (by decide) (by rfl) (pa_cons (pv 0) (pa_cons (pv 14) pa_nil)))))) pa_nil)))
  (pss_cons (ps_set (i := 6) sc_law_job.nd rfl (Or.inl rfl) (pe_cl c_less hr (by decide) (by rfl) (pa_cons (pv 3) (pa_cons (pe_cl c_law_box hr (by decide) (by rfl) (pa_cons (pv 0) (pa_cons (pv 5) (pa_cons (pv 1) pa_nil)))) pa_nil))))
  (pss_one (ps_set (i := 3) sc_law_job.nd rfl (Or.inl rfl) (pe_ifExp (pt_cmpR (op_neD hr.units) (pv 6) (pe_tup pa_nil) (nomark _)) (pv 6) (pv 3)))))))
  (pss_cons (ps_set (i := 7) sc_law_job.nd rfl (Or.inl rfl) (pe_tup (pa_cons (pe_tup (pa_cons (pe_un un_neg pe_int) (pa_cons (pe_un un_neg pe_int) (pa_cons (pe_un un_neg pe_int) pa_nil)))) (pa_cons (pe_tup (pa_cons pe_int (pa_cons pe_int (pa_cons pe_int pa_nil)))) (pa_cons (pe_tup (pa_cons pe_int (pa_cons pe_int (pa_cons pe_int pa_nil)))) (pa_cons pe_int (pa_cons (pe_cl c_law_next hr (by decide) (by rfl) (pa_cons (pv 0) (pa_cons pe_int pa_nil))) (pa_cons (pe_cl c_law_next hr (by decide) (by rfl) (pa_cons (pv 0) (pa_cons pe_int pa_nil))) pa_nil))))))))
  (pss_cons (ps_set (i := 9) sc_law_job.nd rfl (Or.inl rfl) (pe_callTy cr_tupS (by rfl) m_tuple (by decide +kernel) (pa_cons (pe_lc (own := [("_law_at_here", 8)]) (g := (gName 8)) (tt := tYes) (by rfl) sc_law_job.nd (pi_range1 (by rfl) m_range (pa_cons (pe_op op_add pe_int (pe_op op_fdiv (pe_cl c_law_next hr (by decide) (by rfl) (pa_cons (pv 0) (pa_cons pe_int pa_nil))) pe_int)) pa_nil)) (blkOk_by (own := [("_law_at_here", 8)]) (N := N_law_job) (by kernel_rfl)) (fun _ _ _ _ _ => (pg_name (i := 8) sc_law_job.nd rfl (Or.inl rfl))) (fun _ _ _ _ _ => pts_nil) (fun _ _ _ _ _ => (pe_cl c_law_tool hr (by decide) (by rfl) (pa_cons (pv 0) (pa_cons (pe_op op_addSS pe_str (pe_callTy cr_strS (by rfl) m_str (by decide +kernel) (pa_cons (pv 8) pa_nil))) pa_nil))))) pa_nil)))
  (pss_cons (ps_set (i := 10) sc_law_job.nd rfl (Or.inl rfl) (pe_lst pa_nil))
  (pss_cons (ps_for PassesOwn.never rfl (pi_range1 (by rfl) m_range (pa_cons (pe_op op_add pe_int (pe_op op_fdiv (pe_cl c_law_next hr (by decide) (by rfl) (pa_cons (pv 0) (pa_cons pe_int pa_nil))) pe_int)) pa_nil)) (pg_name (i := 8) sc_law_job.nd rfl (Or.inl rfl))
  (pss_cons (ps_set (i := 4) sc_law_job.nd rfl (Or.inl rfl) (pe_ifExp (pt_cmpR op_eq (pv 8) pe_int (nomark _)) pe_int (pe_cl c_law_next hr (by decide) (by rfl) (pa_cons (pv 0) (pa_cons pe_int pa_nil)))))
  (pss_cons (ps_asg (pe_cl c_bounds hr (by decide) (by rfl) (pa_cons (pe_cl c_turned hr (by decide) (by rfl) (pa_cons (pv 2) (pa_cons (pv 4) pa_nil))) pa_nil)) (pg_tup rfl (pgs_cons (pg_name (i := 5) sc_law_job.nd rfl (Or.inl rfl)) (pgs_cons (pg_name (i := 11) sc_law_job.nd rfl (Or.inl rfl)) pgs_nil))))
  (pss_cons (ps_set (i := 12) sc_law_job.nd rfl (Or.inl rfl) (pe_callTy cr_tupS (by rfl) m_tuple (by decide +kernel) (pa_cons (pe_lc (own := [("_law_one", 14)]) (g := (gName 14)) (tt := tYes) (by rfl) sc_law_job.nd (pi_tup (pv 5)) (blkOk_by (own := [("_law_one", 14)]) (N := N_law_job) (by kernel_rfl)) (fun _ _ _ _ _ => (pg_name (i := 14) sc_law_job.nd rfl (Or.inl rfl))) (fun _ _ _ _ _ => pts_nil) (fun _ _ _ _ _ => (pe_un un_neg (pv 14)))) pa_nil)))
  (pss_cons (ps_set (i := 13) sc_law_job.nd rfl (Or.inl rfl) (pe_ifExp (pt_cmpR op_eq (pe_cl c_law_next hr (by decide) (by rfl) (pa_cons (pv 0) (pa_cons pe_int pa_nil))) pe_int (nomark _)) (pe_cl c_box hr (by decide) (by rfl) (pa_cons (pe_tup (pa_cons (pe_un un_neg pe_int) (pa_cons (pe_un un_neg pe_int) (pa_cons (pe_un un_neg pe_int) pa_nil)))) (pa_cons (pe_tup (pa_cons pe_int (pa_cons pe_int (pa_cons pe_int pa_nil)))) pa_nil))) (pe_tup pa_nil)))
  (pss_one (ps_expr (pe_bm PySem.F.plainAttrs_list PySem.F.slot_list_append PySem.F.type_list_append mt_append (pv 10) (pa_cons (pe_tup (pa_cons (pe_op op_addSS pe_str (pe_callTy cr_strS (by rfl) m_str (by decide +kernel) (pa_cons (pv 8) pa_nil))) (pa_cons (pv 4) (pa_cons (pv 12) (pa_cons (pv 13) pa_nil))))) pa_nil)))))))))
  (pss_one (ps_ret (pe_tup (pa_cons (pv 2) (pa_cons (pv 3) (pa_cons (pe_op op_fdiv (pe_cl c_law_next hr (by decide) (by rfl) (pa_cons (pv 0) (pa_cons pe_int pa_nil))) pe_int) (pa_cons (pv 7) (pa_cons (pv 9) (pa_cons (pe_callTy cr_tupS (by rfl) m_tuple (by decide +kernel) (pa_cons (pv 10) pa_nil)) pa_nil))))))))))))))))
/-! ### _law_cubes: slots 0:_law_solid_here 1:_law_found 2:_law_z0 3:_law_z1 4:_law_layer 5:_law_y0 6:_law_y1 7:_law_row 8:_law_x0 9:_law_x1 10:_law_z 11:_law_y 12:_law_x -/
abbrev N_law_cubes : List Str := ["_law_solid_here", "_law_found", "_law_z0", "_law_z1", "_law_layer", "_law_y0", "_law_y1", "_law_row", "_law_x0", "_law_x1", "_law_z", "_law_y", "_law_x"]
theorem sc_law_cubes : FnScope N_law_cubes ["_law_solid_here"] (defScope s_law_cubes) := ⟨rfl, rfl, rfl, by decide +kernel, rfl, by decide +kernel, by decide +kernel⟩
def t_law_cubes (K : PySem.W.Frag) : TS :=
  (tSeq (tAsg tDNewT (gName 1))
  (tSeq (tFor (iTup K (tVar 0)) (gTup K 3 (gCons (gName 2) (gCons (gName 3) (gCons (gName 4) gNil))))
  (tFor (iTup K (tVar 4)) (gTup K 3 (gCons (gName 5) (gCons (gName 6) (gCons (gName 7) gNil))))
  (tFor (iTup K (tVar 7)) (gTup K 2 (gCons (gName 8) (gCons (gName 9) gNil)))
  (tFor (iRng2 (tCons (tVar 2) (tCons (tVar 3) tNil))) (gName 10)
  (tFor (iRng2 (tCons (tVar 5) (tCons (tVar 6) tNil))) (gName 11)
  (tFor (iRng2 (tCons (tVar 8) (tCons (tVar 9) tNil))) (gName 12)
  (sDPut (tVar 1) (tTup (tCons (tVar 12) (tCons (tVar 11) (tCons (tVar 10) tNil)))) (tC (.bl true)))))))))
  (tRet (tVar 1))))
theorem der_law_cubes {P : Program} {w : World} {K : PySem.W.Frag} {mg : Str → Option Value} {base : Heap} {f : Addr} {cdv : Value} {A : Around} {outer : List Env} {s : Shared} {H : Hp} {E : XK} (m_range : mg "range" = none) (hr : Room 0 (A.deeper (envOfC "_law_cubes" (defScope s_law_cubes) s.heap.objs.size f cdv))) : PSs (cxOf CX0 P w K mg base N_law_cubes "_law_cubes" (defScope s_law_cubes) f cdv A outer s H E).nox (defBody s_law_cubes) (t_law_cubes K) := by
  unfold t_law_cubes
  exact (pss_cons (ps_set (i := 1) sc_law_cubes.nd rfl (Or.inl rfl) pe_dnewT)
  (pss_cons (ps_for PassesOwn.never rfl (pi_tup (pv 0)) (pg_tup rfl (pgs_cons (pg_name (i := 2) sc_law_cubes.nd rfl (Or.inl rfl)) (pgs_cons (pg_name (i := 3) sc_law_cubes.nd rfl (Or.inl rfl)) (pgs_cons (pg_name (i := 4) sc_law_cubes.nd rfl (Or.inl rfl)) pgs_nil))))
  (pss_one (ps_for PassesOwn.never rfl (pi_tup (pv 4)) (pg_tup rfl (pgs_cons (pg_name (i := 5) sc_law_cubes.nd rfl (Or.inl rfl)) (pgs_cons (pg_name (i := 6) sc_law_cubes.nd rfl (Or.inl rfl)) (pgs_cons (pg_name (i := 7) sc_law_cubes.nd rfl (Or.inl rfl)) pgs_nil))))
  (pss_one (ps_for PassesOwn.never rfl (pi_tup (pv 7)) (pg_tup rfl (pgs_cons (pg_name (i := 8) sc_law_cubes.nd rfl (Or.inl rfl)) (pgs_cons (pg_name (i := 9) sc_law_cubes.nd rfl (Or.inl rfl)) pgs_nil)))
  (pss_one (ps_for PassesOwn.never rfl (pi_range2 (by rfl) m_range (pa_cons (pv 2) (pa_cons (pv 3) pa_nil))) (pg_name (i := 10) sc_law_cubes.nd rfl (Or.inl rfl))
  (pss_one (ps_for PassesOwn.never rfl (pi_range2 (by rfl) m_range (pa_cons (pv 5) (pa_cons (pv 6) pa_nil))) (pg_name (i := 11) sc_law_cubes.nd rfl (Or.inl rfl))
  (pss_one (ps_for PassesOwn.never rfl (pi_range2 (by rfl) m_range (pa_cons (pv 8) (pa_cons (pv 9) pa_nil))) (pg_name (i := 12) sc_law_cubes.nd rfl (Or.inl rfl))
  (pss_one (ps_dput (hu_of hr) (pv 1) (pe_tup (pa_cons (pv 12) (pa_cons (pv 11) (pa_cons (pv 10) pa_nil)))) pe_bl rfl)))))))))))))
  (pss_one (ps_ret (pv 1)))))
/-! ### _law_at: slots 0:_law_cubes_here 1:_law_place 2:_law_x 3:_law_y 4:_law_z 5:_law_a 6:_law_b 7:_law_c -/
abbrev N_law_at : List Str := ["_law_cubes_here", "_law_place", "_law_x", "_law_y", "_law_z", "_law_a", "_law_b", "_law_c"]
theorem sc_law_at : FnScope N_law_at ["_law_cubes_here", "_law_place"] (defScope s_law_at) := ⟨rfl, rfl, rfl, by decide +kernel, rfl, by decide +kernel, by decide +kernel⟩
def t_law_at (K : PySem.W.Frag) : TS :=
  (tSeq (tAsg (tVar 1) (gTup K 3 (gCons (gName 2) (gCons (gName 3) (gCons (gName 4) gNil)))))
  (tRet (tLc (iList K (tVar 0)) (gTup K 3 (gCons (gName 5) (gCons (gName 6) (gCons (gName 7) gNil)))) tYes (tTup (tCons (tOp rPlus (tVar 5) (tVar 2)) (tCons (tOp rPlus (tVar 6) (tVar 3)) (tCons (tOp rPlus (tVar 7) (tVar 4)) tNil)))) [5, 6, 7])))
theorem der_law_at {P : Program} {w : World} {K : PySem.W.Frag} {mg : Str → Option Value} {base : Heap} {f : Addr} {cdv : Value} {A : Around} {outer : List Env} {s : Shared} {H : Hp} {E : XK} (hr : Room 0 (A.deeper (envOfC "_law_at" (defScope s_law_at) s.heap.objs.size f cdv))) : PSs (cxOf CX0 P w K mg base N_law_at "_law_at" (defScope s_law_at) f cdv A outer s H E).nox (defBody s_law_at) (t_law_at K) := by
  unfold t_law_at
  exact (pss_cons (ps_asg (pv 1) (pg_tup rfl (pgs_cons (pg_name (i := 2) sc_law_at.nd rfl (Or.inr rfl)) (pgs_cons (pg_name (i := 3) sc_law_at.nd rfl (Or.inr rfl)) (pgs_cons (pg_name (i := 4) sc_law_at.nd rfl (Or.inr rfl)) pgs_nil)))))
  (pss_one (ps_ret (pe_lc (own := [("_law_a", 5), ("_law_b", 6), ("_law_c", 7)]) (g := (gTup K 3 (gCons (gName 5) (gCons (gName 6) (gCons (gName 7) gNil))))) (tt := tYes) (by rfl) sc_law_at.nd (pi_list (pv 0)) (blkOk_by (own := [("_law_a", 5), ("_law_b", 6), ("_law_c", 7)]) (N := N_law_at) (by kernel_rfl)) (fun _ _ _ _ _ => (pg_tup rfl (pgs_cons (pg_name (i := 5) sc_law_at.nd rfl (Or.inl rfl)) (pgs_cons (pg_name (i := 6) sc_law_at.nd rfl (Or.inl rfl)) (pgs_cons (pg_name (i := 7) sc_law_at.nd rfl (Or.inl rfl)) pgs_nil))))) (fun _ _ _ _ _ => pts_nil) (fun _ _ _ _ _ => (pe_tup (pa_cons (pe_op op_add (pv 5) (pv 2)) (pa_cons (pe_op op_add (pv 6) (pv 3)) (pa_cons (pe_op op_add (pv 7) (pv 4)) pa_nil)))))))))
/-! ### _law_hits: slots 0:_law_cubes_here 1:_law_place 2:_law_others 3:_law_x 4:_law_y 5:_law_z 6:_law_a 7:_law_b 8:_law_c -/
abbrev N_law_hits : List Str := ["_law_cubes_here", "_law_place", "_law_others", "_law_x", "_law_y", "_law_z", "_law_a", "_law_b", "_law_c"]
theorem sc_law_hits : FnScope N_law_hits ["_law_cubes_here", "_law_place", "_law_others"] (defScope s_law_hits) := ⟨rfl, rfl, rfl, by decide +kernel, rfl, by decide +kernel, by decide +kernel⟩
def t_law_hits (K : PySem.W.Frag) : TS :=
  (tSeq (tAsg (tVar 1) (gTup K 3 (gCons (gName 3) (gCons (gName 4) (gCons (gName 5) gNil)))))
  (tSeq (tFor (iList K (tVar 0)) (gTup K 3 (gCons (gName 6) (gCons (gName 7) (gCons (gName 8) gNil))))
  (tIfS (tTest (tOp (rInDT K) (tTup (tCons (tOp rPlus (tVar 6) (tVar 3)) (tCons (tOp rPlus (tVar 7) (tVar 4)) (tCons (tOp rPlus (tVar 8) (tVar 5)) tNil)))) (tVar 2)))
  (tRet (tC (.bl true)))
  tNext))
  (tRet (tC (.bl false)))))
theorem der_law_hits {P : Program} {w : World} {K : PySem.W.Frag} {mg : Str → Option Value} {base : Heap} {f : Addr} {cdv : Value} {A : Around} {outer : List Env} {s : Shared} {H : Hp} {E : XK} (hr : Room 0 (A.deeper (envOfC "_law_hits" (defScope s_law_hits) s.heap.objs.size f cdv))) : PSs (cxOf CX0 P w K mg base N_law_hits "_law_hits" (defScope s_law_hits) f cdv A outer s H E).nox (defBody s_law_hits) (t_law_hits K) := by
  unfold t_law_hits
  exact (pss_cons (ps_asg (pv 1) (pg_tup rfl (pgs_cons (pg_name (i := 3) sc_law_hits.nd rfl (Or.inl rfl)) (pgs_cons (pg_name (i := 4) sc_law_hits.nd rfl (Or.inl rfl)) (pgs_cons (pg_name (i := 5) sc_law_hits.nd rfl (Or.inl rfl)) pgs_nil)))))
  (pss_cons (ps_for PassesOwn.never rfl (pi_list (pv 0)) (pg_tup rfl (pgs_cons (pg_name (i := 6) sc_law_hits.nd rfl (Or.inl rfl)) (pgs_cons (pg_name (i := 7) sc_law_hits.nd rfl (Or.inl rfl)) (pgs_cons (pg_name (i := 8) sc_law_hits.nd rfl (Or.inl rfl)) pgs_nil))))
  (pss_one (ps_if (pt_cmpR (op_inDT (hu_of hr)) (pe_tup (pa_cons (pe_op op_add (pv 6) (pv 3)) (pa_cons (pe_op op_add (pv 7) (pv 4)) (pa_cons (pe_op op_add (pv 8) (pv 5)) pa_nil)))) (pv 2) (by rfl))
  (pss_one (ps_ret pe_bl))
  pss_nil)))
  (pss_one (ps_ret pe_bl))))
/-! ### _law_next_to: slots 0:_law_place 1:_law_x 2:_law_y 3:_law_z -/
abbrev N_law_next_to : List Str := ["_law_place", "_law_x", "_law_y", "_law_z"]
theorem sc_law_next_to : FnScope N_law_next_to ["_law_place"] (defScope s_law_next_to) := ⟨rfl, rfl, rfl, by decide +kernel, rfl, by decide +kernel, by decide +kernel⟩
def t_law_next_to (K : PySem.W.Frag) : TS :=
  (tSeq (tAsg (tVar 0) (gTup K 3 (gCons (gName 1) (gCons (gName 2) (gCons (gName 3) gNil)))))
  (tRet (tLst (tCons (tTup (tCons (tOp rMinus (tVar 1) (tC (.int 1))) (tCons (tVar 2) (tCons (tVar 3) tNil)))) (tCons (tTup (tCons (tOp rPlus (tVar 1) (tC (.int 1))) (tCons (tVar 2) (tCons (tVar 3) tNil)))) (tCons (tTup (tCons (tVar 1) (tCons (tOp rMinus (tVar 2) (tC (.int 1))) (tCons (tVar 3) tNil)))) (tCons (tTup (tCons (tVar 1) (tCons (tOp rPlus (tVar 2) (tC (.int 1))) (tCons (tVar 3) tNil)))) (tCons (tTup (tCons (tVar 1) (tCons (tVar 2) (tCons (tOp rMinus (tVar 3) (tC (.int 1))) tNil)))) (tCons (tTup (tCons (tVar 1) (tCons (tVar 2) (tCons (tOp rPlus (tVar 3) (tC (.int 1))) tNil)))) tNil)))))))))
theorem der_law_next_to {P : Program} {w : World} {K : PySem.W.Frag} {mg : Str → Option Value} {base : Heap} {f : Addr} {cdv : Value} {A : Around} {outer : List Env} {s : Shared} {H : Hp} {E : XK} (hr : Room 0 (A.deeper (envOfC "_law_next_to" (defScope s_law_next_to) s.heap.objs.size f cdv))) : PSs (cxOf CX0 P w K mg base N_law_next_to "_law_next_to" (defScope s_law_next_to) f cdv A outer s H E).nox (defBody s_law_next_to) (t_law_next_to K) := by
  unfold t_law_next_to
  exact (pss_cons (ps_asg (pv 0) (pg_tup rfl (pgs_cons (pg_name (i := 1) sc_law_next_to.nd rfl (Or.inl rfl)) (pgs_cons (pg_name (i := 2) sc_law_next_to.nd rfl (Or.inl rfl)) (pgs_cons (pg_name (i := 3) sc_law_next_to.nd rfl (Or.inl rfl)) pgs_nil)))))
  (pss_one (ps_ret (pe_lst (pa_cons (pe_tup (pa_cons (pe_op op_sub (pv 1) pe_int) (pa_cons (pv 2) (pa_cons (pv 3) pa_nil)))) (pa_cons (pe_tup (pa_cons (pe_op op_add (pv 1) pe_int) (pa_cons (pv 2) (pa_cons (pv 3) pa_nil)))) (pa_cons (pe_tup (pa_cons (pv 1) (pa_cons (pe_op op_sub (pv 2) pe_int) (pa_cons (pv 3) pa_nil)))) (pa_cons (pe_tup (pa_cons (pv 1) (pa_cons (pe_op op_add (pv 2) pe_int) (pa_cons (pv 3) pa_nil)))) (pa_cons (pe_tup (pa_cons (pv 1) (pa_cons (pv 2) (pa_cons (pe_op op_sub (pv 3) pe_int) pa_nil)))) (pa_cons (pe_tup (pa_cons (pv 1) (pa_cons (pv 2) (pa_cons (pe_op op_add (pv 3) pe_int) pa_nil)))) pa_nil))))))))))
/-! ### _law_is_in: slots 0:_law_machine 1:_law_place 2:_law_low 3:_law_here 4:_law_high -/
abbrev N_law_is_in : List Str := ["_law_machine", "_law_place", "_law_low", "_law_here", "_law_high"]
theorem sc_law_is_in : FnScope N_law_is_in ["_law_machine", "_law_place"] (defScope s_law_is_in) := ⟨rfl, rfl, rfl, by decide +kernel, rfl, by decide +kernel, by decide +kernel⟩
def t_law_is_in (K : PySem.W.Frag) : TS :=
  (tSeq (tFor (iZip3 K (tCons (tOp (rIxT K) (tVar 0) (tC (.int 0))) (tCons (tVar 1) (tCons (tOp (rIxT K) (tVar 0) (tC (.int 1))) tNil)))) (gTup K 3 (gCons (gName 2) (gCons (gName 3) (gCons (gName 4) gNil))))
  (tIfS (tNot (tTest (tChain rLeI rLeI (tVar 2) (tVar 3) (tVar 4))))
  (tRet (tC (.bl false)))
  tNext))
  (tRet (tC (.bl true))))
theorem der_law_is_in {P : Program} {w : World} {K : PySem.W.Frag} {mg : Str → Option Value} {base : Heap} {f : Addr} {cdv : Value} {A : Around} {outer : List Env} {s : Shared} {H : Hp} {E : XK} (m_zip : mg "zip" = none) (hr : Room 0 (A.deeper (envOfC "_law_is_in" (defScope s_law_is_in) s.heap.objs.size f cdv))) : PSs (cxOf CX0 P w K mg base N_law_is_in "_law_is_in" (defScope s_law_is_in) f cdv A outer s H E).nox (defBody s_law_is_in) (t_law_is_in K) := by
  unfold t_law_is_in
  exact (pss_cons (ps_for PassesOwn.never rfl (pi_zip3 (by rfl) m_zip (pa_cons (pe_ix ix_tup (pv 0) pe_int (fun _ _ => rfl)) (pa_cons (pv 1) (pa_cons (pe_ix ix_tup (pv 0) pe_int (fun _ _ => rfl)) pa_nil)))) (pg_tup rfl (pgs_cons (pg_name (i := 2) sc_law_is_in.nd rfl (Or.inl rfl)) (pgs_cons (pg_name (i := 3) sc_law_is_in.nd rfl (Or.inl rfl)) (pgs_cons (pg_name (i := 4) sc_law_is_in.nd rfl (Or.inl rfl)) pgs_nil))))
  (pss_one (ps_if (pt_not (pt_chain op_le op_le (pv 2) (pv 3) (pv 4)))
  (pss_one (ps_ret pe_bl))
  pss_nil)))
  (pss_one (ps_ret pe_bl)))
/-! ### _law_solid: slots 0:_law_cubes_here 1:_law_found 2:_law_x 3:_law_y 4:_law_z -/
abbrev N_law_solid : List Str := ["_law_cubes_here", "_law_found", "_law_x", "_law_y", "_law_z"]
theorem sc_law_solid : FnScope N_law_solid ["_law_cubes_here"] (defScope s_law_solid) := ⟨rfl, rfl, rfl, by decide +kernel, rfl, by decide +kernel, by decide +kernel⟩
def t_law_solid (K : PySem.W.Frag) (sp_box : Sp) (sp_union : Sp) : TS :=
  (tSeq (tAsg (tTup tNil) (gName 1))
  (tSeq (tFor (iList K (tCB rSortedDT (tCons (tVar 0) tNil))) (gTup K 3 (gCons (gName 2) (gCons (gName 3) (gCons (gName 4) gNil))))
  (tAsg (tCall sp_union [] E0 (tCons (tVar 1) (tCons (tCall sp_box [] E0 (tCons (tTup (tCons (tVar 2) (tCons (tVar 3) (tCons (tVar 4) tNil)))) (tCons (tTup (tCons (tOp rPlus (tVar 2) (tC (.int 1))) (tCons (tOp rPlus (tVar 3) (tC (.int 1))) (tCons (tOp rPlus (tVar 4) (tC (.int 1))) tNil)))) tNil))) tNil))) (gName 1)))
  (tRet (tVar 1))))
theorem der_law_solid {P : Program} {w : World} {K : PySem.W.Frag} {mg : Str → Option Value} {base : Heap} {f : Addr} {cdv : Value} {A : Around} {outer : List Env} {s : Shared} {H : Hp} {E : XK} {sp_box : Sp} (c_box : Cl P w K mg base 1 "box" sp_box) {sp_union : Sp} (c_union : Cl P w K mg base 7 "union" sp_union) (m_sorted : mg "sorted" = none) (hr : Room 7 (A.deeper (envOfC "_law_solid" (defScope s_law_solid) s.heap.objs.size f cdv))) : PSs (cxOf CX0 P w K mg base N_law_solid "_law_solid" (defScope s_law_solid) f cdv A outer s H E).nox (defBody s_law_solid) (t_law_solid K sp_box sp_union) := by
  unfold t_law_solid
  exact (pss_cons (ps_set (i := 1) sc_law_solid.nd rfl (Or.inl rfl) (pe_tup pa_nil))
  (pss_cons (ps_for PassesOwn.never rfl (pi_list (pe_callB (cr_sortedDT rfl hr.units) (by rfl) m_sorted (by decide +kernel) (pa_cons (pv 0) pa_nil))) (pg_tup rfl (pgs_cons (pg_name (i := 2) sc_law_solid.nd rfl (Or.inl rfl)) (pgs_cons (pg_name (i := 3) sc_law_solid.nd rfl (Or.inl rfl)) (pgs_cons (pg_name (i := 4) sc_law_solid.nd rfl (Or.inl rfl)) pgs_nil))))
  (pss_one (ps_set (i := 1) sc_law_solid.nd rfl (Or.inl rfl) (pe_cl c_union hr (by decide) (by rfl) (pa_cons (pv 1) (pa_cons (pe_cl c_box hr (by decide) (by rfl) (pa_cons (pe_tup (pa_cons (pv 2) (pa_cons (pv 3) (pa_cons (pv 4) pa_nil)))) (pa_cons (pe_tup (pa_cons (pe_op op_add (pv 2) pe_int) (pa_cons (pe_op op_add (pv 3) pe_int) (pa_cons (pe_op op_add (pv 4) pe_int) pa_nil)))) pa_nil))) pa_nil))))))
  (pss_one (ps_ret (pv 1)))))
/-! ### law: slots 0:_law_script 1:_law_draw_here 2:_law_job_here 3:_law_rest 4:_law_lots 5:_law_left 6:_law_turn 7:_law_setup 8:_law_tool_here 9:_law_here 10:_law_now 11:_law_spared 12:_law_fixture 13:_law_cutter 14:_law_holder 15:_law_way 16:_law_step 17:_law_late 18:_law_one 19:_law_a 20:_law_b -/
abbrev N_law : List Str := ["_law_script", "_law_draw_here", "_law_job_here", "_law_rest", "_law_lots", "_law_left", "_law_turn", "_law_setup", "_law_tool_here", "_law_here", "_law_now", "_law_spared", "_law_fixture", "_law_cutter", "_law_holder", "_law_way", "_law_step", "_law_late", "_law_one", "_law_a", "_law_b"]
theorem sc_law : FnScope N_law ["_law_script"] (defScope s_law) := ⟨rfl, rfl, rfl, by decide +kernel, rfl, by decide +kernel, by decide +kernel⟩
def t_law (K : PySem.W.Frag) (sp_law_job : Sp) (sp_closure : Sp) (sp_law_pick : Sp) (sp_placed : Sp) (sp_law_cubes : Sp) (sp_law_next_to : Sp) (sp_law_next : Sp) (sp_law_is_in : Sp) (sp_law_hits : Sp) (sp_law_at : Sp) (sp_law_solid : Sp) (sp_taken_back : Sp) (sp_is_within : Sp) : TS :=
  (tSeq (tAsg (tLst (tCons (tSl (rSlL K) (tVar 0) tNoPart (tPart (tC (.int 63)))) (tCons (tC (.int 0)) (tCons (tC (.int 0)) tNil)))) (gName 1))
  (tSeq (tAsg (tCall sp_law_job [] E0 (tCons (tVar 1) tNil)) (gName 2))
  (tSeq (tAsg (tCall sp_closure [] E0 (tCons (tVar 2) tNil)) (gTup K 2 (gCons (gName 3) (gCons (gName 4) gNil))))
  (tSeq (tAsg (tOp (rIxT K) (tVar 2) (tC (.int 0))) (gName 5))
  (tSeq (tFor (iRng1 (tCons (tC (.int 3)) tNil)) (gName 6)
  (tSeq (tPar3 7 8 9 (tCons (tCall sp_law_pick [] E0 (tCons (tVar 1) (tCons (tOp (rIxT K) (tVar 2) (tC (.int 5))) tNil))) (tCons (tCall sp_law_pick [] E0 (tCons (tVar 1) (tCons (tOp (rIxT K) (tVar 2) (tC (.int 4))) tNil))) (tCons (tOp (rIxT K) (tOp (rIxT K) (tVar 2) (tC (.int 3))) (tC (.int 2))) tNil))))
  (tSeq (tPar3 10 11 12 (tCons (tCall sp_law_cubes [] E0 (tCons (tCall sp_placed [] E0 (tCons (tVar 7) (tCons (tVar 5) tNil))) tNil)) (tCons (tCall sp_law_cubes [] E0 (tCons (tCall sp_placed [] E0 (tCons (tVar 7) (tCons (tOp (rIxT K) (tVar 2) (tC (.int 1))) tNil))) tNil)) (tCons (tCall sp_law_cubes [] E0 (tCons (tOp (rIxT K) (tVar 7) (tC (.int 3))) tNil)) tNil))))
  (tSeq (tPar3 13 14 15 (tCons (tCB rSortedDT (tCons (tCall sp_law_cubes [] E0 (tCons (tOp (rIxT K) (tVar 8) (tC (.int 1))) tNil)) tNil)) (tCons (tCB rSortedDT (tCons (tCall sp_law_cubes [] E0 (tCons (tOp (rIxT K) (tVar 8) (tC (.int 2))) tNil)) tNil)) (tCons (tCall sp_law_pick [] E0 (tCons (tVar 1) (tCons (tCall sp_law_next_to [] E0 (tCons (tTup (tCons (tC (.int 0)) (tCons (tC (.int 0)) (tCons (tC (.int 0)) tNil)))) tNil)) tNil))) tNil))))
  (tSeq (tFor (iRng1 (tCons (tC (.int 60)) tNil)) (gName 16)
  (tSeq (tIfS (tTest (tOp rEq (tCall sp_law_next [] E0 (tCons (tVar 1) (tCons (tC (.int 3)) tNil))) (tC (.int 0))))
  (tAsg (tCall sp_law_pick [] E0 (tCons (tVar 1) (tCons (tOp rCat (tLst (tCons (tTup (tCons (tC (.int 0)) (tCons (tC (.int 0)) (tCons (tUn rNeg (tC (.int 1))) tNil)))) tNil)) (tCall sp_law_next_to [] E0 (tCons (tTup (tCons (tC (.int 0)) (tCons (tC (.int 0)) (tCons (tC (.int 0)) tNil)))) tNil))) tNil))) (gName 15))
  tNext)
  (tSeq (tAsg (tCB (rTupS K) (tCons (tLc (RZ.iZipA K (tCons (tVar 9) (tCons (tVar 15) tNil))) (gTup K 2 (gCons (gName 19) (gCons (gName 20) gNil))) tYes (tOp rPlus (tVar 19) (tVar 20)) [19, 20]) tNil)) (gName 17))
  (tIfS (tAnd (tB (tCall sp_law_is_in [] E0 (tCons (tOp (rIxT K) (tVar 2) (tC (.int 3))) (tCons (tVar 17) tNil)))) (tAnd (tNot (tB (tCall sp_law_hits [] E0 (tCons (tVar 13) (tCons (tVar 17) (tCons (tVar 11) tNil)))))) (tNot (tB (tCall sp_law_hits [] E0 (tCons (tVar 13) (tCons (tVar 17) (tCons (tVar 12) tNil))))))))
  (tIfS (tAnd (tNot (tB (tCall sp_law_hits [] E0 (tCons (tVar 14) (tCons (tVar 17) (tCons (tVar 10) tNil)))))) (tNot (tB (tCall sp_law_hits [] E0 (tCons (tVar 14) (tCons (tVar 17) (tCons (tVar 12) tNil)))))))
  (tSeq (tAsg (tVar 17) (gName 9))
  (tFor (iList K (tCall sp_law_at [] E0 (tCons (tVar 13) (tCons (tVar 17) tNil)))) (gName 18)
  (tDrop (tBM K "dict" (rPopTS K) (tVar 10) (tCons (tVar 18) (tCons (tC .non) tNil))))))
  tNext)
  tNext))))
  (tSeq (tAsg (tCall sp_taken_back [] E0 (tCons (tVar 7) (tCons (tCall sp_law_solid [] E0 (tCons (tVar 10) tNil)) tNil))) (gName 5))
  (tIfS (tNot (tB (tCall sp_is_within [] E0 (tCons (tVar 3) (tCons (tVar 5) tNil)))))
  (tRet (tC (.bl false)))
  tNext)))))))
  (tRet (tAndV (tCall sp_is_within [] E0 (tCons (tVar 3) (tCons (tOp (rIxT K) (tVar 2) (tC (.int 0))) tNil))) (tCall sp_is_within [] E0 (tCons (tOp (rIxT K) (tVar 2) (tC (.int 1))) (tCons (tVar 3) tNil))))))))))
theorem der_law {P : Program} {w : World} {K : PySem.W.Frag} {mg : Str → Option Value} {base : Heap} {f : Addr} {cdv : Value} {A : Around} {outer : List Env} {s : Shared} {H : Hp} {E : XK} {sp_law_job : Sp} (c_law_job : Cl P w K mg base 11 "_law_job" sp_law_job) {sp_closure : Sp} (c_closure : Cl P w K mg base 13 "closure" sp_closure) {sp_law_pick : Sp} (c_law_pick : Cl P w K mg base 4 "_law_pick" sp_law_pick) {sp_placed : Sp} (c_placed : Cl P w K mg base 11 "placed" sp_placed) {sp_law_cubes : Sp} (c_law_cubes : Cl P w K mg base 1 "_law_cubes" sp_law_cubes) {sp_law_next_to : Sp} (c_law_next_to : Cl P w K mg base 1 "_law_next_to" sp_law_next_to) {sp_law_next : Sp} (c_law_next : Cl P w K mg base 3 "_law_next" sp_law_next) {sp_law_is_in : Sp} (c_law_is_in : Cl P w K mg base 1 "_law_is_in" sp_law_is_in) {sp_law_hits : Sp} (c_law_hits : Cl P w K mg base 1 "_law_hits" sp_law_hits) {sp_law_at : Sp} (c_law_at : Cl P w K mg base 1 "_law_at" sp_law_at) {sp_law_solid : Sp} (c_law_solid : Cl P w K mg base 8 "_law_solid" sp_law_solid) {sp_taken_back : Sp} (c_taken_back : Cl P w K mg base 11 "taken_back" sp_taken_back) {sp_is_within : Sp} (c_is_within : Cl P w K mg base 8 "is_within" sp_is_within) (m_range : mg "range" = none) (m_sorted : mg "sorted" = none) (m_zip : mg "zip" = none) (m_tuple : mg "tuple" = none) (hr : Room 13 (A.deeper (envOfC "law" (defScope s_law) s.heap.objs.size f cdv))) : PSs (cxOf CX0 P w K mg base N_law "law" (defScope s_law) f cdv A outer s H E).nox (defBody s_law) (t_law K sp_law_job sp_closure sp_law_pick sp_placed sp_law_cubes sp_law_next_to sp_law_next sp_law_is_in sp_law_hits sp_law_at sp_law_solid sp_taken_back sp_is_within) := by
  unfold t_law
  exact (pss_cons (ps_set (i := 1) sc_law.nd rfl (Or.inl rfl) (pe_lst (pa_cons (pe_slice sl_list (pv 0) po_none (po_some pe_int)) (pa_cons pe_int (pa_cons pe_int pa_nil)))))
  (pss_cons (ps_set (i := 2) sc_law.nd rfl (Or.inl rfl) (pe_cl c_law_job hr (by decide) (by rfl) (pa_cons (pv 1) pa_nil)))
  (pss_cons (ps_asg (pe_cl c_closure hr (by decide) (by rfl) (pa_cons (pv 2) pa_nil)) (pg_tup rfl (pgs_cons (pg_name (i := 3) sc_law.nd rfl (Or.inl rfl)) (pgs_cons (pg_name (i := 4) sc_law.nd rfl (Or.inl rfl)) pgs_nil))))
  (pss_cons (ps_set (i := 5) sc_law.nd rfl (Or.inl rfl) (pe_ix ix_tup (pv 2) pe_int (fun _ _ => rfl)))
  (pss_cons (ps_for PassesOwn.never rfl (pi_range1 (by rfl) m_range (pa_cons pe_int pa_nil)) (pg_name (i := 6) sc_law.nd rfl (Or.inl rfl))
  (pss_cons (ps_par3 (by rfl) sc_law.nd rfl rfl rfl (by decide) (by decide) (by decide) rfl rfl rfl (pa_cons (pe_cl c_law_pick hr (by decide) (by rfl) (pa_cons (pv 1) (pa_cons (pe_ix ix_tup (pv 2) pe_int (fun _ _ => rfl)) pa_nil))) (pa_cons (pe_cl c_law_pick hr (by decide) (by rfl) (pa_cons (pv 1) (pa_cons (pe_ix ix_tup (pv 2) pe_int (fun _ _ => rfl)) pa_nil))) (pa_cons (pe_ix ix_tup (pe_ix ix_tup (pv 2) pe_int (fun _ _ => rfl)) pe_int (fun _ _ => rfl)) pa_nil))) (by rfl))
  (pss_cons (ps_par3 (by rfl) sc_law.nd rfl rfl rfl (by decide) (by decide) (by decide) rfl rfl rfl (pa_cons (pe_cl c_law_cubes hr (by decide) (by rfl) (pa_cons (pe_cl c_placed hr (by decide) (by rfl) (pa_cons (pv 7) (pa_cons (pv 5) pa_nil))) pa_nil)) (pa_cons (pe_cl c_law_cubes hr (by decide) (by rfl) (pa_cons (pe_cl c_placed hr (by decide) (by rfl) (pa_cons (pv 7) (pa_cons (pe_ix ix_tup (pv 2) pe_int (fun _ _ => rfl)) pa_nil))) pa_nil)) (pa_cons (pe_cl c_law_cubes hr (by decide) (by rfl) (pa_cons (pe_ix ix_tup (pv 7) pe_int (fun _ _ => rfl)) pa_nil)) pa_nil))) (by rfl))
  (pss_cons (ps_par3 (by rfl) sc_law.nd rfl rfl rfl (by decide) (by decide) (by decide) rfl rfl rfl (pa_cons (pe_callB (cr_sortedDT rfl hr.units) (by rfl) m_sorted (by decide +kernel) (pa_cons (pe_cl c_law_cubes hr (by decide) (by rfl) (pa_cons (pe_ix ix_tup (pv 8) pe_int (fun _ _ => rfl)) pa_nil)) pa_nil)) (pa_cons (pe_callB (cr_sortedDT rfl hr.units) (by rfl) m_sorted (by decide +kernel) (pa_cons (pe_cl c_law_cubes hr (by decide) (by rfl) (pa_cons (pe_ix ix_tup (pv 8) pe_int (fun _ _ => rfl)) pa_nil)) pa_nil)) (pa_cons (pe_cl c_law_pick hr (by decide) (by rfl) (pa_cons (pv 1) (pa_cons (pe_cl c_law_next_to hr (by decide) (by rfl) (pa_cons (pe_tup (pa_cons pe_int (pa_cons pe_int (pa_cons pe_int pa_nil)))) pa_nil)) pa_nil))) pa_nil))) (by rfl))
  (pss_cons (ps_for PassesOwn.never rfl (pi_range1 (by rfl) m_range (pa_cons pe_int pa_nil)) (pg_name (i := 16) sc_law.nd rfl (Or.inl rfl))
  (pss_cons (ps_if (pt_cmpR op_eq (pe_cl c_law_next hr (by decide) (by rfl) (pa_cons (pv 1) (pa_cons pe_int pa_nil))) pe_int (nomark _))
  (pss_one (ps_set (i := 15) sc_law.nd rfl (Or.inl rfl) (pe_cl c_law_pick hr (by decide) (by rfl) (pa_cons (pv 1) (pa_cons (pe_op op_cat (pe_lst (pa_cons (pe_tup (pa_cons pe_int (pa_cons pe_int (pa_cons (pe_un un_neg pe_int) pa_nil)))) pa_nil)) (pe_cl c_law_next_to hr (by decide) (by rfl) (pa_cons (pe_tup (pa_cons pe_int (pa_cons pe_int (pa_cons pe_int pa_nil)))) pa_nil))) pa_nil)))))
  pss_nil)
  (pss_cons (ps_set (i := 17) sc_law.nd rfl (Or.inl rfl) (pe_callTy cr_tupS (by rfl) m_tuple (by decide +kernel) (pa_cons (pe_lc (own := [("_law_a", 19), ("_law_b", 20)]) (g := (gTup K 2 (gCons (gName 19) (gCons (gName 20) gNil)))) (tt := tYes) (by rfl) sc_law.nd (RZ.pi_zipA (by rfl) m_zip (pa_cons (pv 9) (pa_cons (pv 15) pa_nil))) (blkOk_by (own := [("_law_a", 19), ("_law_b", 20)]) (N := N_law) (by kernel_rfl)) (fun _ _ _ _ _ => (pg_tup rfl (pgs_cons (pg_name (i := 19) sc_law.nd rfl (Or.inl rfl)) (pgs_cons (pg_name (i := 20) sc_law.nd rfl (Or.inl rfl)) pgs_nil)))) (fun _ _ _ _ _ => pts_nil) (fun _ _ _ _ _ => (pe_op op_add (pv 19) (pv 20)))) pa_nil)))
  (pss_one (ps_if (PW.pt (pw_and (pt_val (pe_cl c_law_is_in hr (by decide) (by rfl) (pa_cons (pe_ix ix_tup (pv 2) pe_int (fun _ _ => rfl)) (pa_cons (pv 17) pa_nil)))) (pw_and (pt_not (pt_val (pe_cl c_law_hits hr (by decide) (by rfl) (pa_cons (pv 13) (pa_cons (pv 17) (pa_cons (pv 11) pa_nil)))))) (pw_and1 (pt_not (pt_val (pe_cl c_law_hits hr (by decide) (by rfl) (pa_cons (pv 13) (pa_cons (pv 17) (pa_cons (pv 12) pa_nil))))))))))
  (pss_one (ps_if (PW.pt (pw_and (pt_not (pt_val (pe_cl c_law_hits hr (by decide) (by rfl) (pa_cons (pv 14) (pa_cons (pv 17) (pa_cons (pv 10) pa_nil)))))) (pw_and1 (pt_not (pt_val (pe_cl c_law_hits hr (by decide) (by rfl) (pa_cons (pv 14) (pa_cons (pv 17) (pa_cons (pv 12) pa_nil)))))))))
  (pss_cons (ps_set (i := 9) sc_law.nd rfl (Or.inl rfl) (pv 17))
  (pss_one (ps_for PassesOwn.never rfl (pi_list (pe_cl c_law_at hr (by decide) (by rfl) (pa_cons (pv 13) (pa_cons (pv 17) pa_nil)))) (pg_name (i := 18) sc_law.nd rfl (Or.inl rfl))
  (pss_one (ps_expr (pe_bm PySem.F.plainAttrs_dict PySem.F.slot_dict_pop PySem.F.type_dict_pop (mt_popTS (hu_of hr)) (pv 10) (pa_cons (pv 18) (pa_cons pe_non pa_nil))))))))
  pss_nil))
  pss_nil)))))
  (pss_cons (ps_set (i := 5) sc_law.nd rfl (Or.inl rfl) (pe_cl c_taken_back hr (by decide) (by rfl) (pa_cons (pv 7) (pa_cons (pe_cl c_law_solid hr (by decide) (by rfl) (pa_cons (pv 10) pa_nil)) pa_nil))))
  (pss_one (ps_if (pt_not (pt_val (pe_cl c_is_within hr (by decide) (by rfl) (pa_cons (pv 3) (pa_cons (pv 5) pa_nil)))))
  (pss_one (ps_ret pe_bl))
  pss_nil))))))))
  (pss_one (ps_ret (pe_and (pe_cl c_is_within hr (by decide) (by rfl) (pa_cons (pv 3) (pa_cons (pe_ix ix_tup (pv 2) pe_int (fun _ _ => rfl)) pa_nil))) (pe_one (pe_cl c_is_within hr (by decide) (by rfl) (pa_cons (pe_ix ix_tup (pv 2) pe_int (fun _ _ => rfl)) (pa_cons (pv 3) pa_nil))))))))))))
end Sw
set_option Elab.async false
set_option linter.all false
set_option maxRecDepth 100000
set_option maxHeartbeats 1000000
set_option autoImplicit false
namespace Sw
open PySem PySem.Spec PyProof.Rows L2
section
variable {K : PySem.W.Frag} {ds : DS} {cs : CS} {Φ : SV → CS → Prop} {wi : TI} {g : TG} {tt : TT} {te : TE} {vs : List Nat}
theorem paired_snoc {α β : Type} {R : α → β → Prop} {l : List α} {m : List β} {x : α} {y : β} (h : Paired R l m) (r : R x y) : Paired R (l ++ [x]) (m ++ [y]) := Paired.snoc h r
theorem paired_len {α β : Type} {R : α → β → Prop} {l : List α} {m : List β} (h : Paired R l m) : l.length = m.length := Paired.length h
theorem we_lcR {α : Type} {e : α → PyData} {R : α → PyData → Prop} {p : α → Bool} {l : List α} (hg : Gk g vs) (hl : l.length ≤ 1000000)
    (hw : WL K wi ds cs fun xs src cs1 => xs = l.map e ∧ SrcOk src xs cs1 ∧ cs1 = cs)
    (h : ∀ x ∈ l, WG K g (.im (e x)) (wipeD ds vs) cs fun ds2 cs2 => cs2 = cs ∧ WT K tt ds2 cs fun b cs3 => cs3 = cs ∧ b = p x ∧ (p x = true → WE K te ds2 cs fun sv cs4 => cs4 = cs ∧ ∃ d, sv = .im d ∧ R x d))
    (q : ∀ ys, Paired R (l.filter p) ys → NewL ys cs Φ) : WE K (tLc wi g tt te vs) ds cs Φ := by
  refine we_lc hg fun Hb Fz σ H k R' z => hw Hb Fz σ H k R' fun J xs src cs' Hb' H' hx s k' Y => z J xs src cs' Hb' H' ?_ s k' Y
  obtain ⟨ex, hsrc, ec⟩ := hx
  rw [ec] at hsrc ⊢
  subst ex
  refine ⟨by rw [List.length_map]; exact hl, fun i acc cs' => cs' = cs ∧ Paired R ((l.take i).filter p) acc, ⟨rfl, .nil⟩, fun i acc cs' hi => by rw [hi.1]; exact hsrc, fun i x acc cs' hx hi => ?_, fun acc cs' hi => ?_⟩
  · obtain ⟨rfl, hp⟩ := hi
    rw [List.getElem?_map] at hx
    obtain ⟨y, hy, rfl⟩ := Option.map_eq_some_iff.mp hx
    have et : l.take (i + 1) = l.take i ++ [y] := by
      rw [List.take_succ, hy]
      rfl
    refine fun Hb Fz σ H k v r Q z => h y (List.mem_of_getElem? hy) Hb Fz σ H k v r Q fun ds' cs2 σ' H' Hb' hq s' k' => z ds' cs2 σ' H' Hb' ?_ s' k'
    obtain ⟨rfl, hq⟩ := hq
    refine wt_imp hq fun b cs3 hb => ?_
    obtain ⟨rfl, rfl, hb⟩ := hb
    refine ⟨fun e => we_imp (hb e) fun sv cs4 hd => ?_, fun e => ?_⟩
    · obtain ⟨rfl, d, rfl, hr⟩ := hd
      refine ⟨d, rfl, rfl, ?_⟩
      rw [et, List.filter_append]
      have : [y].filter p = [y] := by simp [e]
      rw [this]
      exact Paired.snoc hp hr
    · refine ⟨rfl, ?_⟩
      rw [et, List.filter_append]
      have : [y].filter p = [] := by simp [e]
      rw [this, List.append_nil]
      exact hp
  · obtain ⟨rfl, hp⟩ := hi
    rw [List.length_map, List.take_length] at hp
    exact q acc hp
theorem filter_all {α : Type} (l : List α) : l.filter (fun _ => true) = l := by simp
theorem we_mapR {α : Type} {e : α → PyData} {R : α → PyData → Prop} {l : List α} (hg : Gk g vs) (hl : l.length ≤ 1000000)
    (hw : WL K wi ds cs fun xs src cs1 => xs = l.map e ∧ SrcOk src xs cs1 ∧ cs1 = cs)
    (h : ∀ x ∈ l, WG K g (.im (e x)) (wipeD ds vs) cs fun ds2 cs2 => cs2 = cs ∧ WE K te ds2 cs fun sv cs4 => cs4 = cs ∧ ∃ d, sv = .im d ∧ R x d)
    (q : ∀ ys, Paired R l ys → NewL ys cs Φ) : WE K (tLc wi g tYes te vs) ds cs Φ := by
  refine we_lcR (p := fun _ => true) (R := R) hg hl hw (fun x hx => ?_) fun ys hy => q ys (by rwa [filter_all] at hy)
  refine fun Hb Fz σ H k v r Q z => h x hx Hb Fz σ H k v r Q fun ds' cs2 σ' H' Hb' hq s' k' => z ds' cs2 σ' H' Hb' ⟨hq.1, wt_yes ⟨rfl, rfl, fun _ => hq.2⟩⟩ s' k'
theorem paired_fun {α : Type} {F : α → PyData} : ∀ {l : List α} {ys : List PyData}, Paired (fun x d => d = F x) l ys → ys = l.map F
  | _, _, .nil => rfl
  | _, _, .cons h t => by rw [List.map_cons, h, paired_fun t]
theorem we_map {α : Type} {e F : α → PyData} {l : List α} (hg : Gk g vs) (hl : l.length ≤ 1000000)
    (hw : WL K wi ds cs fun xs src cs1 => xs = l.map e ∧ SrcOk src xs cs1 ∧ cs1 = cs)
    (h : ∀ x ∈ l, WG K g (.im (e x)) (wipeD ds vs) cs fun ds2 cs2 => cs2 = cs ∧ WE K te ds2 cs fun sv cs4 => cs4 = cs ∧ sv = .im (F x))
    (q : NewL (l.map F) cs Φ) : WE K (tLc wi g tYes te vs) ds cs Φ := by
  refine we_mapR (R := fun x d => d = F x) hg hl hw (fun x hx => ?_) fun ys hy => by rw [paired_fun hy]; exact q
  refine fun Hb Fz σ H k v r Q z => h x hx Hb Fz σ H k v r Q fun ds' cs2 σ' H' Hb' hq s' k' => z ds' cs2 σ' H' Hb' ⟨hq.1, we_imp hq.2 fun sv cs4 hs => ⟨hs.1, _, hs.2, rfl⟩⟩ s' k'
theorem we_filter {α : Type} {e F : α → PyData} {p : α → Bool} {l : List α} (hg : Gk g vs) (hl : l.length ≤ 1000000)
    (hw : WL K wi ds cs fun xs src cs1 => xs = l.map e ∧ SrcOk src xs cs1 ∧ cs1 = cs)
    (h : ∀ x ∈ l, WG K g (.im (e x)) (wipeD ds vs) cs fun ds2 cs2 => cs2 = cs ∧ WT K tt ds2 cs fun b cs3 => cs3 = cs ∧ b = p x ∧ (p x = true → WE K te ds2 cs fun sv cs4 => cs4 = cs ∧ sv = .im (F x)))
    (q : NewL ((l.filter p).map F) cs Φ) : WE K (tLc wi g tt te vs) ds cs Φ := by
  refine we_lcR (p := p) (R := fun x d => d = F x) hg hl hw (fun x hx => ?_) fun ys hy => by rw [paired_fun hy]; exact q
  refine fun Hb Fz σ H k v r Q z => h x hx Hb Fz σ H k v r Q fun ds' cs2 σ' H' Hb' hq s' k' => z ds' cs2 σ' H' Hb' ⟨hq.1, wt_imp hq.2 fun b cs3 hb => ⟨hb.1, hb.2.1, fun e => we_imp (hb.2.2 e) fun sv cs4 hs => ⟨hs.1, _, hs.2, rfl⟩⟩⟩ s' k'
/-! the three axes -/
abbrev dAxes : PyData := .tuple ([(0 : Int), 1, 2].map .int)
theorem wl_axes {a : Addr} (hA : ∀ H, Dp K H (.ref a) dAxes) : WL K (iTup K (tC (.ref a))) ds cs fun xs src cs1 => xs = [(0 : Int), 1, 2].map PyData.int ∧ SrcOk src xs cs1 ∧ cs1 = cs :=
  wl_tup (we_con hA ⟨_, rfl, rfl, srcOk_none, rfl⟩)
theorem we_axes {a : Addr} {i : Nat} {d0 d1 d2 : PyData} (hA : ∀ H, Dp K H (.ref a) dAxes)
    (h0 : WE K te ((wipeD ds [i]).set i (some (iN 0))) cs fun sv cs' => cs' = cs ∧ sv = .im d0)
    (h1 : WE K te ((wipeD ds [i]).set i (some (iN 1))) cs fun sv cs' => cs' = cs ∧ sv = .im d1)
    (h2 : WE K te ((wipeD ds [i]).set i (some (iN 2))) cs fun sv cs' => cs' = cs ∧ sv = .im d2)
    (q : NewL [d0, d1, d2] cs Φ) : WE K (tLc (iTup K (tC (.ref a))) (gName i) tYes te [i]) ds cs Φ := by
  refine we_map (l := [(0 : Int), 1, 2]) (e := PyData.int) (F := fun x => if x = 0 then d0 else if x = 1 then d1 else d2) (gk_name (by simp)) (by decide) (wl_axes hA) (fun x hx => wg_name ⟨rfl, ?_⟩) q
  have hx' : x = 0 ∨ x = 1 ∨ x = 2 := by simpa using hx
  rcases hx' with rfl | rfl | rfl
  · exact h0
  · exact h1
  · exact h2
theorem we_axesIf {a : Addr} {i : Nat} {b0 b1 b2 : Bool} (hA : ∀ H, Dp K H (.ref a) dAxes) (hi : i < ds.length)
    (h0 : WT K tt ((wipeD ds [i]).set i (some (iN 0))) cs fun b cs' => cs' = cs ∧ b = b0)
    (h1 : WT K tt ((wipeD ds [i]).set i (some (iN 1))) cs fun b cs' => cs' = cs ∧ b = b1)
    (h2 : WT K tt ((wipeD ds [i]).set i (some (iN 2))) cs fun b cs' => cs' = cs ∧ b = b2)
    (q : ∀ xs : List PyData, xs.length = (if b0 then 1 else 0) + (if b1 then 1 else 0) + (if b2 then 1 else 0) → NewL xs cs Φ) : WE K (tLc (iTup K (tC (.ref a))) (gName i) tt (tVar i) [i]) ds cs Φ := by
  have hl : i < (wipeD ds [i]).length := by rw [wipeD_len]; exact hi
  refine we_filter (l := [(0 : Int), 1, 2]) (e := PyData.int) (F := PyData.int) (p := fun x => if x = 0 then b0 else if x = 1 then b1 else b2) (gk_name (by simp)) (by decide) (wl_axes hA) (fun x hx => wg_name ⟨rfl, ?_⟩) (q _ ?_)
  · have hx' : x = 0 ∨ x = 1 ∨ x = 2 := by simpa using hx
    rcases hx' with rfl | rfl | rfl
    · exact wt_imp h0 fun b cs' hb => ⟨hb.1, hb.2, fun _ => we_var (by rw [List.getElem?_set_self hl]) ⟨rfl, rfl⟩⟩
    · exact wt_imp h1 fun b cs' hb => ⟨hb.1, hb.2, fun _ => we_var (by rw [List.getElem?_set_self hl]) ⟨rfl, rfl⟩⟩
    · exact wt_imp h2 fun b cs' hb => ⟨hb.1, hb.2, fun _ => we_var (by rw [List.getElem?_set_self hl]) ⟨rfl, rfl⟩⟩
  · cases b0 <;> cases b1 <;> cases b2 <;> rfl
end
/-! ### points, boxes -/
abbrev Pt := Int × Int × Int
abbrev Bx := Pt × Pt
abbrev dBx (b : Bx) : PyData := .tuple [d3 b.1, d3 b.2]
def inB (b : Bx) (p : Pt) : Prop := (b.1.1 ≤ p.1 ∧ p.1 < b.2.1) ∧ (b.1.2.1 ≤ p.2.1 ∧ p.2.1 < b.2.2.1) ∧ (b.1.2.2 ≤ p.2.2 ∧ p.2.2 < b.2.2.2)
def mS (s : Sol) (p : Pt) : Prop := mSol s (p.2.2, p.2.1, p.1)
/-- in the bounds of all that is made -/
def InC (x : Int) : Prop := -20 ≤ x ∧ x ≤ 20
def BxIn (b : Bx) : Prop := (InC b.1.1 ∧ InC b.2.1) ∧ (InC b.1.2.1 ∧ InC b.2.2.1) ∧ (InC b.1.2.2 ∧ InC b.2.2.2)
def BxNe (b : Bx) : Prop := b.1.1 < b.2.1 ∧ b.1.2.1 < b.2.2.1 ∧ b.1.2.2 < b.2.2.2
def boxesL (z0 z1 : Int) (l : Lay) : List Bx := l.flatMap fun u => u.2.2.map fun r => ((r.1, u.1, z0), (r.2, u.2.1, z1))
def boxesS (s : Sol) : List Bx := s.flatMap fun t => boxesL t.1 t.2.1 t.2.2
theorem mem_boxesS {s : Sol} {b : Bx} : b ∈ boxesS s ↔ ∃ t ∈ s, ∃ u ∈ t.2.2, ∃ r ∈ u.2.2, b = ((r.1, u.1, t.1), (r.2, u.2.1, t.2.1)) := by
  unfold boxesS boxesL
  simp only [List.mem_flatMap, List.mem_map]
  constructor
  · rintro ⟨t, ht, u, hu, r, hr, e⟩
    exact ⟨t, ht, u, hu, r, hr, e.symm⟩
  · rintro ⟨t, ht, u, hu, r, hr, e⟩
    exact ⟨t, ht, u, hu, r, hr, e.symm⟩
theorem boxes_mem {s : Sol} {p : Pt} : mS s p ↔ ∃ b ∈ boxesS s, inB b p := by
  unfold mS mSol memT mLay memT memR inI
  constructor
  · rintro ⟨t, ht, hz, u, hu, hy, r, hr, hx⟩
    exact ⟨_, mem_boxesS.mpr ⟨t, ht, u, hu, r, hr, rfl⟩, hx, hy, hz⟩
  · rintro ⟨b, hb, hx, hy, hz⟩
    obtain ⟨t, ht, u, hu, r, hr, rfl⟩ := mem_boxesS.mp hb
    exact ⟨t, ht, hz, u, hu, hy, r, hr, hx⟩
theorem asc_apart {iv : Iv} (h : Asc iv) : iv.Pairwise fun p q => ∀ x, ¬ (inI p x ∧ inI q x) := h.pw.imp fun {p q} hpq x hx => by
  have := hx.1.2
  have := hx.2.1
  omega
structure BoxesOk (bs : List Bx) : Prop where
  ne : ∀ b ∈ bs, BxNe b
  bd : ∀ b ∈ bs, BxIn b
  ap : bs.Pairwise fun a b => ∀ p, ¬ (inB a p ∧ inB b p)
theorem asc_ptw {δ : Type} {s : Stt δ} (h : Asc (s.map ivT)) : s.Pairwise fun t u => ∀ x, ¬ (inI (ivT t) x ∧ inI (ivT u) x) := List.pairwise_map.mp (asc_apart h)
theorem boxes_ok {s : Sol} (h : WSol s) : BoxesOk (boxesS s) := by
  refine ⟨fun b hb => ?_, fun b hb => ?_, ?_⟩
  · obtain ⟨t, ht, u, hu, r, hr, rfl⟩ := mem_boxesS.mp hb
    have h1 := h.asc.ne (ivT t) (List.mem_map.mpr ⟨t, ht, rfl⟩)
    have wl := (h.inn t ht).1
    have h2 := wl.asc.ne (ivT u) (List.mem_map.mpr ⟨u, hu, rfl⟩)
    have h3 := (wl.inn u hu).1.asc.ne r hr
    exact ⟨h3, h2, h1⟩
  · obtain ⟨t, ht, u, hu, r, hr, rfl⟩ := mem_boxesS.mp hb
    have h1 := h.asc.ne (ivT t) (List.mem_map.mpr ⟨t, ht, rfl⟩)
    have wl := (h.inn t ht).1
    have h2 := wl.asc.ne (ivT u) (List.mem_map.mpr ⟨u, hu, rfl⟩)
    have h3 := (wl.inn u hu).1.asc.ne r hr
    have g1 := h.bnd (ivT t) (List.mem_map.mpr ⟨t, ht, rfl⟩)
    have g2 := wl.bnd (ivT u) (List.mem_map.mpr ⟨u, hu, rfl⟩)
    have g3 := (wl.inn u hu).1.bnd r hr
    have h1' : t.1 < t.2.1 := h1
    have h2' : u.1 < u.2.1 := h2
    have g1' : -20 ≤ t.1 ∧ t.2.1 ≤ 20 := g1
    have g2' : -20 ≤ u.1 ∧ u.2.1 ≤ 20 := g2
    refine ⟨⟨⟨?_, ?_⟩, ?_, ?_⟩, ⟨⟨?_, ?_⟩, ?_, ?_⟩, ⟨?_, ?_⟩, ?_, ?_⟩ <;> (simp only; omega)
  · unfold boxesS
    rw [List.pairwise_flatMap]
    refine ⟨fun t ht => ?_, (asc_ptw h.asc).imp_of_mem fun {t t'} ht ht' hap a ha b hb p hp => ?_⟩
    · have wl := (h.inn t ht).1
      unfold boxesL
      rw [List.pairwise_flatMap]
      refine ⟨fun u hu => ?_, (asc_ptw wl.asc).imp_of_mem fun {u u'} hu hu' hap a ha b hb p hp => ?_⟩
      · rw [List.pairwise_map]
        refine (asc_apart (wl.inn u hu).1.asc).imp fun {r r'} hap p hp => ?_
        exact hap p.1 ⟨hp.1.1, hp.2.1⟩
      · obtain ⟨r, _, rfl⟩ := List.mem_map.mp ha
        obtain ⟨r', _, rfl⟩ := List.mem_map.mp hb
        exact hap p.2.1 ⟨hp.1.2.1, hp.2.2.1⟩
    · unfold boxesL at ha hb
      obtain ⟨u, _, ha⟩ := List.mem_flatMap.mp ha
      obtain ⟨r, _, rfl⟩ := List.mem_map.mp ha
      obtain ⟨u', _, hb⟩ := List.mem_flatMap.mp hb
      obtain ⟨r', _, rfl⟩ := List.mem_map.mp hb
      exact hap p.2.2 ⟨hp.1.2.2, hp.2.2.2⟩
/-- as many boxes as there are points, at most -/
theorem boxes_len {bs : List Bx} (h : BoxesOk bs) {m : List Pt} (hm : ∀ b ∈ bs, ∀ p, inB b p → p ∈ m) : bs.length ≤ m.length := by
  have own : ∀ b ∈ bs, inB b b.1 := fun b hb => by
    obtain ⟨h1, h2, h3⟩ := h.ne b hb
    exact ⟨⟨Int.le_refl _, h1⟩, ⟨Int.le_refl _, h2⟩, ⟨Int.le_refl _, h3⟩⟩
  have nd : (bs.map (·.1)).Nodup := List.pairwise_map.mpr (h.ap.imp_of_mem fun {a b} ha hb hap e => hap a.1 ⟨own a ha, by have := own b hb; rw [← e] at this; exact this⟩)
  have := nodup_len (m := m) nd fun x hx => by
    obtain ⟨b, hb, rfl⟩ := List.mem_map.mp hx
    exact hm b hb _ (own b hb)
  rwa [List.length_map] at this
def ptsIn (b : Bx) : List Pt := (intsBetween b.1.1 (b.2.1 - b.1.1).toNat).flatMap fun x => (intsBetween b.1.2.1 (b.2.2.1 - b.1.2.1).toNat).flatMap fun y => (intsBetween b.1.2.2 (b.2.2.2 - b.1.2.2).toNat).map fun z => (x, y, z)
theorem mem_ptsIn {b : Bx} {p : Pt} (h : inB b p) : p ∈ ptsIn b := by
  obtain ⟨h1, h2, h3⟩ := h
  unfold ptsIn
  simp only [List.mem_flatMap, List.mem_map, mem_between]
  exact ⟨p.1, by omega, p.2.1, by omega, p.2.2, by omega, rfl⟩
theorem ptsIn_len (b : Bx) : (ptsIn b).length = (b.2.1 - b.1.1).toNat * ((b.2.2.1 - b.1.2.1).toNat * (b.2.2.2 - b.1.2.2).toNat) := by
  unfold ptsIn
  have sum_const : ∀ {α β : Type} (l : List α) (f : α → List β) (c : Nat), (∀ x ∈ l, (f x).length = c) → (l.flatMap f).length = l.length * c := by
    intro α β l f c h
    induction l with
    | nil => simp
    | cons x l ih =>
      rw [List.flatMap_cons, List.length_append, h x (by simp), ih fun y hy => h y (List.mem_cons_of_mem _ hy), List.length_cons, Nat.succ_mul]
      omega
  rw [sum_const _ _ ((b.2.2.1 - b.1.2.1).toNat * (b.2.2.2 - b.1.2.2).toNat) fun x _ => ?_, len_between]
  rw [sum_const _ _ (b.2.2.2 - b.1.2.2).toNat fun y _ => ?_, len_between]
  rw [List.length_map, len_between]
/-- all boxes lie in that one: at most so many -/
theorem boxes_len_in {bs : List Bx} (h : BoxesOk bs) {c : Bx} (hc : ∀ b ∈ bs, ∀ p, inB b p → inB c p) : bs.length ≤ (c.2.1 - c.1.1).toNat * ((c.2.2.1 - c.1.2.1).toNat * (c.2.2.2 - c.1.2.2).toNat) := by
  have := boxes_len h (m := ptsIn c) fun b hb p hp => mem_ptsIn (hc b hb p hp)
  rwa [ptsIn_len] at this
abbrev cAll : Bx := ((-20, -20, -20), (20, 20, 20))
theorem boxes_len_all {bs : List Bx} (h : BoxesOk bs) : bs.length ≤ 64000 := by
  have := boxes_len_in h (c := cAll) fun b hb p hp => by
    obtain ⟨⟨⟨a1, a2⟩, a3, a4⟩, ⟨⟨a5, a6⟩, a7, a8⟩, ⟨a9, a10⟩, a11, a12⟩ := h.bd b hb
    obtain ⟨h1, h2, h3⟩ := hp
    exact ⟨⟨by show -20 ≤ p.1; omega, by show p.1 < 20; omega⟩, ⟨by show -20 ≤ p.2.1; omega, by show p.2.1 < 20; omega⟩, ⟨by show -20 ≤ p.2.2; omega, by show p.2.2 < 20; omega⟩⟩
  exact this
end Sw
set_option Elab.async false
set_option linter.all false
set_option maxRecDepth 100000
set_option maxHeartbeats 4000000
set_option autoImplicit false
namespace Sw
open PySem PySem.Spec PyProof.Rows L2
local macro_rules | `(tactic| walk_at "wp1") => `(tactic| first
  | with_reducible refine ws_seq ?_
  | with_reducible refine ws_par ?_
  | with_reducible refine ws_par3 ?_
  | with_reducible refine ws_set ?_
  | with_reducible refine ws_ret ?_
  | with_reducible refine ws_drop ?_
  | with_reducible refine ws_if ?_
  | with_reducible refine ws_next ?_
  | ((with_reducible refine' we_var ?hv ?_); (case hv => rfl))
  | with_reducible refine we_int ?_
  | with_reducible refine we_bl ?_
  | with_reducible refine we_str ?_
  | with_reducible refine we_non ?_
  | with_reducible refine we_raw ?_
  | with_reducible refine we_op ?_
  | with_reducible refine we_neg ?_
  | with_reducible refine we_tup ?_
  | with_reducible refine we_lst ?_
  | with_reducible refine we_cb ?_
  | with_reducible refine we_call ?_
  | with_reducible refine we_callC ?_
  | with_reducible refine we_if ?_
  | with_reducible refine we_and ?_
  | with_reducible refine we_or ?_
  | with_reducible refine we_not ?_
  | with_reducible refine we_chain ?_
  | with_reducible refine we_sl ?_
  | with_reducible refine wo_none ?_
  | with_reducible refine wo_some ?_
  | with_reducible refine wa_nil ?_
  | with_reducible refine wa_cons ?_
  | with_reducible refine wt_test ?_
  | with_reducible refine wt_B ?_
  | with_reducible refine wt_and ?_
  | with_reducible refine wt_or ?_
  | with_reducible refine wt_not ?_
  | with_reducible refine wt_yes ?_
  | with_reducible refine wr_add ?_
  | with_reducible refine wr_sub ?_
  | with_reducible refine wr_lt ?_
  | with_reducible refine wr_le ?_
  | with_reducible refine wr_gt ?_
  | with_reducible refine wr_eqI ?_
  | with_reducible refine wr_eqB ?_
  | with_reducible refine wr_eqS ?_
  | with_reducible refine wc_lenL ?_
  | with_reducible refine wc_lenT ?_
  | with_reducible refine wc_tupL ?_
  | ((with_reducible refine' wr_ixT ?hx ?_); (case hx => rfl))
  | with_reducible refine wg_name ?_
  | ((with_reducible refine' wg_tup ?hl ?_); (case hl => rfl))
  | with_reducible refine wgs_nil ?_
  | with_reducible refine wgs_cons ?_
  | refine ⟨_, rfl, ?_⟩
  | refine ⟨Nat.le_of_ble_eq_true rfl, ?_⟩
  | refine ⟨_, _, rfl, ?_⟩
  | refine ⟨_, _, _, rfl, ?_⟩
  | fail "no step")
local macro_rules | `(tactic| walk_at "wp") => `(tactic| repeat' walk_at "wp1")
/-! ### is_kept -/
abbrev PostF {γ : Type} (post : γ → Ret → Prop) (g : γ) : Post := { nx := fun _ _ => post g (.im .none), rt := fun sv cs => ∃ r, post g r ∧ RetOf r sv cs }
abbrev aKept (g : Str × Bool × Bool) : List SV := [.im (.str g.1), bB g.2.1, bB g.2.2]
abbrev qKept (g : Str × Bool × Bool) (r : Ret) : Prop := r = .im (.bool (keepB g.1 g.2.1 g.2.2))
abbrev spKept (K : PySem.W.Frag) : Sp := SpF K aKept (fun _ => True) qKept
theorem run_is_kept {K : PySem.W.Frag} (w : Str) (a b : Bool) : WS K (t_is_kept K) [some (.im (.str w)), some (bB a), some (bB b)] [] (PostF qKept (w, a, b)) := by
  unfold t_is_kept
  walk_at "wp"
  refine ⟨fun h1 => ?_, fun h1 => ?_⟩
  · have e1 : w = wEither := of_decide_eq_true h1
    walk_at "wp"
    refine ⟨fun h2 => ?_, fun h2 => ?_⟩
    · walk_at "wp"
      show bB b = _
      subst h2
      simp [keepB, e1]
    · subst h2
      refine ⟨_, rfl, ?_⟩
      show bB true = _
      simp [keepB, e1]
  · have e1 : ¬ w = wEither := of_decide_eq_false h1
    walk_at "wp"
    refine ⟨fun h2 => ?_, fun h2 => ?_⟩
    · have e2 : w = wBoth := of_decide_eq_true h2
      walk_at "wp"
      refine ⟨fun h3 => ?_, fun h3 => ?_⟩
      · walk_at "wp"
        show bB b = _
        subst h3
        simp [keepB, e1, ← e2]
      · subst h3
        refine ⟨_, rfl, ?_⟩
        show bB false = _
        simp [keepB, e1, ← e2]
    · have e2 : ¬ w = wBoth := of_decide_eq_false h2
      walk_at "wp"
      refine ⟨fun h3 => ?_, fun h3 => ?_⟩
      · walk_at "wp"
        show bB (!b) = _
        subst h3
        simp [keepB, e1, e2]
      · subst h3
        refine ⟨_, rfl, ?_⟩
        show bB false = _
        simp [keepB, e1, e2]
theorem fn_is_kept {P : Program} {w : World} {K : PySem.W.Frag} {mg : Str → Option Value} {base : Heap} {f : Addr} {fd : FuncData} (F : FnP K "is_kept" s_is_kept f fd) : FnOk P w K mg base CX0 1 f fd ["word", "is_in", "is_other"] (spKept K) :=
  fn_F F sc_is_kept (fun cdv A outer s H E hr => der_is_kept hr) (fun _ => rfl) fun g _ => run_is_kept g.1 g.2.1 g.2.2
/-! ### ends_of, rows_made -/
def dI (t : Int × Int × List PyData) : PyData := .tuple (.int t.1 :: .int t.2.1 :: t.2.2)
abbrev ivI (t : Int × Int × List PyData) : Int × Int := (t.1, t.2.1)
abbrev GEnds := List (Int × Int × List PyData) × List (Int × Int × List PyData)
abbrev aEnds (g : GEnds) : List SV := [.im (.tuple (g.1.map dI)), .im (.tuple (g.2.map dI))]
abbrev qEnds (g : GEnds) (r : Ret) : Prop := ∃ E : List Int, r = .cel (.lst (E.map .int)) ∧ Ends2 (g.1.map ivI) (g.2.map ivI) E
abbrev pEnds (g : GEnds) : Prop := (g.1.length ≤ 1000 ∧ g.2.length ≤ 1000) ∧ ∀ t ∈ g.1 ++ g.2, ((-20 : Int) ≤ t.1 ∧ t.1 ≤ (20 : Int)) ∧ (-20 : Int) ≤ t.2.1 ∧ t.2.1 ≤ (20 : Int)
abbrev spEnds (K : PySem.W.Frag) : Sp := SpF K aEnds pEnds qEnds
theorem atI_map {α : Type} {f : α → PyData} {l : List α} {n : Nat} {x : α} (h : l[n]? = some x) : atI (l.map f) (n : Int) = some (f x) := atI_nat (by rw [List.getElem?_map, h] <;> rfl)
theorem cutD_tail (xs : List PyData) : cutD xs (some 1) none = xs.drop 1 := by
  unfold cutD
  rw [show HT.sIx xs.length 0 (some 1) = min 1 xs.length from HT.sIx_nat xs.length 0 1, HT.sIx_none]
  cases xs with
  | nil => rfl
  | cons x r =>
    rw [show min 1 (x :: r).length = 1 by
      rw [List.length_cons]
      omega]
    show (List.take ((x :: r).length - 1) r) = r
    rw [List.length_cons, Nat.add_sub_cancel]
    exact List.take_length
def rowI (r : Iv) : List (Int × Int × List PyData) := r.map fun p => (p.1, p.2, [])
theorem rowI_d (r : Iv) : (rowI r).map dI = r.map dP := by
  unfold rowI
  rw [List.map_map]
  rfl
theorem rowI_iv (r : Iv) : (rowI r).map ivI = r := by
  unfold rowI
  rw [List.map_map]
  exact List.map_id r
structure GRows where
  lo : Int
  hi : Int
  a : Iv
  b : Iv
  w : Str
abbrev aRows (g : GRows) : List SV := [.im (dRow g.a), .im (dRow g.b), .im (.str g.w)]
abbrev pRows (g : GRows) : Prop := WFR g.lo g.hi g.a ∧ WFR g.lo g.hi g.b ∧ g.lo = (-20 : Int) ∧ g.hi = (20 : Int)
abbrev qRows (g : GRows) (r : Ret) : Prop := ∃ c : Iv, r = .im (dRow c) ∧ WFR g.lo g.hi c ∧ ∀ x, memR c x ↔ keepP g.w (memR g.a x) (memR g.b x)
abbrev spRows (K : PySem.W.Frag) : Sp := SpF K aRows pRows qRows
theorem wfr_len {lo hi : Int} {r : Iv} (h : WFR lo hi r) (h1 : lo ≤ hi) (h2 : hi - lo ≤ 1000) : r.length ≤ 1000 := by
  have := asc_len h.asc h.bnd h1
  omega
/-- the place is moved on -/
theorem run_adv {K : PySem.W.Frag} {ds : DS} {cs : CS} {P : Post} {tw : TT} {iv : Iv} {low : Int} {i : Nat} {n0 : Nat} (h0 : At iv low n0) (hi : i < ds.length)
    (ht : ∀ n, WT K tw (ds.set i (some (iN (n : Nat)))) cs fun b cs' => cs' = cs ∧ (b = true ↔ ∃ p, iv[n]? = some p ∧ p.2 ≤ low))
    (hd : ∀ n, At iv low n → (∀ p, iv[n]? = some p → low < p.2) → P.nx (ds.set i (some (iN (n : Nat)))) cs) :
    WS K (tWhile tw (tAug i (tC (.int 1)) (ipI fun i j => i + j))) (ds.set i (some (iN (n0 : Nat)))) cs P := by
  refine ws_while (fun m ds' cs' => ∃ n : Nat, ds' = ds.set i (some (iN n)) ∧ cs' = cs ∧ At iv low n ∧ m = iv.length - n) (iv.length - n0) ⟨n0, rfl, rfl, h0, rfl⟩ fun m ds' cs' hI => ?_
  obtain ⟨n, rfl, rfl, ha, rfl⟩ := hI
  refine wt_imp (ht n) fun b cs' q => ?_
  obtain ⟨rfl, hb⟩ := q
  refine ⟨fun e => ?_, fun e => ?_⟩
  · obtain ⟨p, hp, hl⟩ := hb.mp e
    refine ws_aug (a := (n : Int)) (by rw [List.getElem?_set_self hi]) (we_int ⟨1, rfl, iv.length - (n + 1), ?_, n + 1, ?_, rfl, ha.step hp hl, rfl⟩)
    · have := (List.getElem?_eq_some_iff.mp hp).1
      omega
    · rw [List.set_set]
      rfl
  · refine hd n ha fun p hp => ?_
    by_cases c : p.2 ≤ low
    · have := hb.mpr ⟨p, hp, c⟩
      rw [e] at this
      cases this
    · omega
/-- items that begin with the two ends of stretches -/
def IvD (es : List PyData) (iv : Iv) : Prop := es.length = iv.length ∧ ∀ (i : Nat) (p : Int × Int), iv[i]? = some p → ∃ rest, es[i]? = some (.tuple (.int p.1 :: .int p.2 :: rest))
theorem ivD_row (r : Iv) : IvD (r.map dP) r := ⟨by simp, fun i p h => ⟨[], by rw [List.getElem?_map, h] <;> rfl⟩⟩
section
variable {K : PySem.W.Frag} {ds : DS} {cs : CS} {p q r n : Nat} {es : List PyData} {iv : Iv} {low : Int}
theorem iv_none (hIv : IvD es iv) (h : ¬ (n : Int) < (es.length : Int)) (x : Int × Int) : iv[n]? ≠ some x := fun e => by
  have := (List.getElem?_eq_some_iff.mp e).1
  rw [← hIv.1] at this
  omega
theorem iv_some (hIv : IvD es iv) (h : (n : Int) < (es.length : Int)) : ∃ x, iv[n]? = some x := by
  have h' : n < iv.length := by
    rw [← hIv.1]
    omega
  exact ⟨iv[n], List.getElem?_eq_getElem h'⟩
theorem wt_adv (h1 : ds[p]? = some (some (iN (n : Nat)))) (h2 : ds[q]? = some (some (.im (.tuple es)))) (h3 : ds[r]? = some (some (iN low))) (hIv : IvD es iv) :
    WT K (tAnd (tTest (tOp rLtI (tVar p) (tCB (rLenS K) (tCons (tVar q) tNil)))) (tTest (tOp rLeI (tOp (rIxT K) (tOp (rIxT K) (tVar q) (tVar p)) (tC (.int 1))) (tVar r)))) ds cs fun b cs' => cs' = cs ∧ (b = true ↔ ∃ x, iv[n]? = some x ∧ x.2 ≤ low) := by
  refine wt_and (wt_test (we_op (we_var h1 (we_cb (wa_cons (we_var h2 (wa_nil (wc_lenT (wr_lt ⟨_, rfl, fun e => ?_, fun e => ?_⟩)))))))))
  · obtain ⟨x, hx⟩ := iv_some hIv (of_decide_eq_true e)
    obtain ⟨rest, he⟩ := hIv.2 n x hx
    refine wt_test (we_op (we_op (we_op (we_var h2 (we_var h1 (wr_ixT (atI_nat he) (we_int (wr_ixT (atI_nat (j := 1) rfl) (we_var h3 (wr_le ⟨_, rfl, rfl, ?_⟩))))))))))
    rw [decide_eq_true_iff]
    exact ⟨fun hl => ⟨x, hx, hl⟩, fun ⟨y, hy, hl⟩ => by
      rw [hx] at hy
      cases hy
      exact hl⟩
  · refine ⟨rfl, fun z => (nomatch z), fun ⟨x, hx, _⟩ => absurd hx (iv_none hIv (of_decide_eq_false e) x)⟩
theorem we_isin (h1 : ds[p]? = some (some (iN (n : Nat)))) (h2 : ds[q]? = some (some (.im (.tuple es)))) (h3 : ds[r]? = some (some (iN low))) (hIv : IvD es iv) :
    WE K (tAndV (tOp rLtI (tVar p) (tCB (rLenS K) (tCons (tVar q) tNil))) (tOp rLeI (tOp (rIxT K) (tOp (rIxT K) (tVar q) (tVar p)) (tC (.int 0))) (tVar r))) ds cs fun sv cs' => cs' = cs ∧ ∃ b, sv = bB b ∧ (b = true ↔ ∃ x, iv[n]? = some x ∧ x.1 ≤ low) := by
  refine we_and (we_op (we_var h1 (we_cb (wa_cons (we_var h2 (wa_nil (wc_lenT (wr_lt ⟨_, rfl, fun e => ?_, fun e => ?_⟩))))))))
  · obtain ⟨x, hx⟩ := iv_some hIv (of_decide_eq_true e)
    obtain ⟨rest, he⟩ := hIv.2 n x hx
    refine we_op (we_op (we_op (we_var h2 (we_var h1 (wr_ixT (atI_nat he) (we_int (wr_ixT (atI_nat (j := 0) rfl) (we_var h3 (wr_le ⟨rfl, _, rfl, ?_⟩)))))))))
    rw [decide_eq_true_iff]
    exact ⟨fun hl => ⟨x, hx, hl⟩, fun ⟨y, hy, hl⟩ => by
      rw [hx] at hy
      cases hy
      exact hl⟩
  · exact ⟨rfl, false, rfl, fun z => (nomatch z), fun ⟨x, hx, _⟩ => absurd hx (iv_none hIv (of_decide_eq_false e) x)⟩
theorem wt_isin (h1 : ds[p]? = some (some (iN (n : Nat)))) (h2 : ds[q]? = some (some (.im (.tuple es)))) (h3 : ds[r]? = some (some (iN low))) (hIv : IvD es iv) :
    WT K (tAnd (tTest (tOp rLtI (tVar p) (tCB (rLenS K) (tCons (tVar q) tNil)))) (tTest (tOp rLeI (tOp (rIxT K) (tOp (rIxT K) (tVar q) (tVar p)) (tC (.int 0))) (tVar r)))) ds cs fun b cs' => cs' = cs ∧ (b = true ↔ ∃ x, iv[n]? = some x ∧ x.1 ≤ low) := by
  refine wt_and (wt_test (we_op (we_var h1 (we_cb (wa_cons (we_var h2 (wa_nil (wc_lenT (wr_lt ⟨_, rfl, fun e => ?_, fun e => ?_⟩)))))))))
  · obtain ⟨x, hx⟩ := iv_some hIv (of_decide_eq_true e)
    obtain ⟨rest, he⟩ := hIv.2 n x hx
    refine wt_test (we_op (we_op (we_op (we_var h2 (we_var h1 (wr_ixT (atI_nat he) (we_int (wr_ixT (atI_nat (j := 0) rfl) (we_var h3 (wr_le ⟨_, rfl, rfl, ?_⟩))))))))))
    rw [decide_eq_true_iff]
    exact ⟨fun hl => ⟨x, hx, hl⟩, fun ⟨y, hy, hl⟩ => by
      rw [hx] at hy
      cases hy
      exact hl⟩
  · refine ⟨rfl, fun z => (nomatch z), fun ⟨x, hx, _⟩ => absurd hx (iv_none hIv (of_decide_eq_false e) x)⟩
end
/-- the ends, as the for walks them -/
theorem ends_pairs {E : List Int} {k : Nat} {x : PyData} (h : (pairsD (E.map .int) (cutD (E.map .int) (some 1) none))[k]? = some x) : ∃ lo hi, E[k]? = some lo ∧ E[k + 1]? = some hi ∧ x = .tuple [.int lo, .int hi] := by
  obtain ⟨u, v, h1, h2, rfl⟩ := pairsD_get h
  rw [cutD_tail, List.getElem?_drop, Nat.add_comm] at h2
  rw [List.getElem?_map] at h1 h2
  obtain ⟨lo, e1, rfl⟩ := Option.map_eq_some_iff.mp h1
  obtain ⟨hi, e2, rfl⟩ := Option.map_eq_some_iff.mp h2
  exact ⟨lo, hi, e1, e2, rfl⟩
theorem ends_len (E : List Int) : (pairsD (E.map .int) (cutD (E.map .int) (some 1) none)).length = E.length - 1 := by
  rw [pairsD_len, cutD_tail, List.length_drop, List.length_map]
  omega
theorem E_some {E : List Int} {k : Nat} (h : k ≤ E.length - 1) (ne : E ≠ []) : ∃ c, E[k]? = some c := by
  have : 0 < E.length := List.length_pos_iff.mpr ne
  exact ⟨E[k], List.getElem?_eq_getElem (by omega)⟩
theorem Ends2.first {a b : Iv} {E : List Int} (h : Ends2 a b E) {c : Int} (h0 : E[0]? = some c) {e : Int} (he : e ∈ E) : c ≤ e := by
  obtain ⟨i, hi⟩ := List.mem_iff_getElem?.mp he
  rcases Nat.eq_zero_or_pos i with z | z
  · subst z
    rw [h0] at hi
    cases hi
    exact Int.le_refl _
  · exact Int.le_of_lt (pw_get h.pw h0 hi z)
theorem Ends2.last {a b : Iv} {E : List Int} (h : Ends2 a b E) {c : Int} (h0 : E[E.length - 1]? = some c) {e : Int} (he : e ∈ E) : e ≤ c := by
  obtain ⟨i, hi⟩ := List.mem_iff_getElem?.mp he
  have lt := (List.getElem?_eq_some_iff.mp hi).1
  by_cases z : i = E.length - 1
  · subst z
    rw [h0] at hi
    cases hi
    exact Int.le_refl _
  · exact Int.le_of_lt (pw_get h.pw hi h0 (by omega))
theorem Ends2.gapA {a b : Iv} {E : List Int} (h : Ends2 a b E) {k : Nat} {low high : Int} (e1 : E[k]? = some low) (e2 : E[k + 1]? = some high) : low < high ∧ (∀ p ∈ a, (p.1 ≤ low ∨ high ≤ p.1) ∧ (p.2 ≤ low ∨ high ≤ p.2)) ∧ (∀ p ∈ b, (p.1 ≤ low ∨ high ≤ p.1) ∧ (p.2 ≤ low ∨ high ≤ p.2)) := by
  obtain ⟨h1, h2⟩ := h.gap e1 e2
  exact ⟨h1, fun p hp => ⟨h2 _ ((h.mem _).mpr (.inl ⟨p, hp, .inl rfl⟩)), h2 _ ((h.mem _).mpr (.inl ⟨p, hp, .inr rfl⟩))⟩, fun p hp => ⟨h2 _ ((h.mem _).mpr (.inr ⟨p, hp, .inl rfl⟩)), h2 _ ((h.mem _).mpr (.inr ⟨p, hp, .inr rfl⟩))⟩⟩
theorem Ends2.bnd {a b : Iv} {E : List Int} (h : Ends2 a b E) {lo hi : Int} (ha : Asc a) (hb : Asc b) (ba : Bnd lo hi a) (bb : Bnd lo hi b) {e : Int} (he : e ∈ E) : lo ≤ e ∧ e ≤ hi := by
  rcases (h.mem e).mp he with ⟨p, hp, q⟩ | ⟨p, hp, q⟩
  · have h1 := ba p hp
    have h2 := ha.ne p hp
    rcases q with q | q <;> omega
  · have h1 := bb p hp
    have h2 := hb.ne p hp
    rcases q with q | q <;> omega
theorem At.zero (iv : Iv) (low : Int) : At iv low 0 := ⟨Nat.zero_le _, fun i p h => absurd h (Nat.not_lt_zero i)⟩
/-- what the pointers tell of a gap -/
theorem At.memR {iv : Iv} {low high : Int} {n : Nat} (h : At iv low n) (ha : Asc iv) (hn : ∀ p, iv[n]? = some p → low < p.2) (gap : ∀ p ∈ iv, (p.1 ≤ low ∨ high ≤ p.1) ∧ (p.2 ≤ low ∨ high ≤ p.2)) {x : Int} (h1 : low ≤ x) (h2 : x < high) :
    (∃ p, iv[n]? = some p ∧ p.1 ≤ low) ↔ memR iv x := by
  constructor
  · rintro ⟨p, hp⟩
    have := (h.tells ha hn gap h1 h2 p).mpr hp
    exact ⟨p, this.1, this.2⟩
  · rintro ⟨p, h3, h4⟩
    exact ⟨p, (h.tells ha hn gap h1 h2 p).mp ⟨h3, h4⟩⟩
theorem fndR_start {w : Str} {lo hi : Int} {a b : Iv} {E : List Int} (h : Ends2 a b E) {c : Int} (h0 : E[0]? = some c) : FndR w lo hi a b c [] :=
  ⟨WFR.nil, fun _ h => (by cases h), fun x => ⟨fun z => absurd z (memR_nil x), fun ⟨z, kp⟩ => absurd kp (keep_none (fun ⟨p, hp, q⟩ => by
    have := h.first h0 ((h.mem p.1).mpr (.inl ⟨p, hp, .inl rfl⟩))
    have := q.1
    omega) (fun ⟨p, hp, q⟩ => by
    have := h.first h0 ((h.mem p.1).mpr (.inr ⟨p, hp, .inl rfl⟩))
    have := q.1
    omega))⟩⟩
theorem fndR_end {w : Str} {lo hi : Int} {a b : Iv} {E : List Int} (h : Ends2 a b E) {c : Int} (h0 : E[E.length - 1]? = some c) {found : Iv} (f : FndR w lo hi a b c found) (x : Int) : memR found x ↔ keepP w (memR a x) (memR b x) := by
  rw [f.mem]
  constructor
  · exact fun z => z.2
  · intro kp
    refine ⟨?_, kp⟩
    by_cases hx : x < c
    · exact hx
    · refine absurd kp (keep_none (fun ⟨p, hp, q⟩ => ?_) (fun ⟨p, hp, q⟩ => ?_))
      · have := h.last h0 ((h.mem p.2).mpr (.inl ⟨p, hp, .inr rfl⟩))
        have := q.2
        omega
      · have := h.last h0 ((h.mem p.2).mpr (.inr ⟨p, hp, .inr rfl⟩))
        have := q.2
        omega
theorem dec_lastP {r : Iv} {p : Int × Int} : atI ((r ++ [p]).map dP) (-1) = some (dP p) := by
  rw [List.map_append]
  exact atI_last _ _
theorem ixN_last {α : Type} (l : List α) (x : α) : ixN (l ++ [x]).length (-1) = some ((l ++ [x]).length - 1) := by
  unfold ixN
  rw [if_neg (by decide), if_pos (by rw [List.length_append, List.length_singleton]; push_cast; omega)]
  congr 1
  rw [List.length_append, List.length_singleton]
  push_cast
  omega
theorem map_snoc {α β : Type} {f : α → β} (l : List α) {x : α} : (l ++ [x]).map f = l.map f ++ [f x] := by simp
theorem nil_or_last {α : Type} (l : List α) : l = [] ∨ ∃ r p, l = r ++ [p] := by
  by_cases h : l = []
  · exact .inl h
  · exact .inr ⟨l.dropLast, l.getLast h, (List.dropLast_concat_getLast h).symm⟩
theorem run_rows_made {K : PySem.W.Frag} (g : GRows) (hp : pRows g) : WS K (t_rows_made K (spEnds K) (spKept K)) [some (.im (dRow g.a)), some (.im (dRow g.b)), some (.im (.str g.w)), none, none, none, none, none, none, none] [] (PostF qRows g) := by
  obtain ⟨lo, hi, a, b, w⟩ := g
  obtain ⟨ha, hb, elo, ehi⟩ : WFR lo hi a ∧ WFR lo hi b ∧ lo = (-20 : Int) ∧ hi = (20 : Int) := hp
  have h1 : lo ≤ hi := by omega
  have h2 : hi - lo ≤ 1000 := by omega
  unfold t_rows_made
  walk_at "wp"
  refine .inr fun l => ?_
  walk_at "wp"
  refine ⟨(rowI a, rowI b), ?_, ⟨⟨?_, ?_⟩, ?_⟩, ?_⟩
  · show [SV.im (.tuple (a.map dP)), SV.im (.tuple (b.map dP))] = [SV.im (.tuple ((rowI a).map dI)), SV.im (.tuple ((rowI b).map dI))]
    rw [rowI_d, rowI_d]
  · have := wfr_len ha h1 h2
    show (rowI a).length ≤ 1000
    rw [rowI, List.length_map]
    exact this
  · have := wfr_len hb h1 h2
    show (rowI b).length ≤ 1000
    rw [rowI, List.length_map]
    exact this
  · intro t ht
    have key : ∀ r : Iv, WFR lo hi r → t ∈ rowI r → ((-20 : Int) ≤ t.1 ∧ t.1 ≤ (20 : Int)) ∧ (-20 : Int) ≤ t.2.1 ∧ t.2.1 ≤ (20 : Int) := fun r hr hm => by
      unfold rowI at hm
      obtain ⟨p, hp, rfl⟩ := List.mem_map.mp hm
      have b1 := hr.bnd p hp
      have b2 := hr.asc.ne p hp
      rw [elo, ehi] at b1
      show ((-20 : Int) ≤ p.1 ∧ p.1 ≤ (20 : Int)) ∧ (-20 : Int) ≤ p.2 ∧ p.2 ≤ (20 : Int)
      omega
    rcases List.mem_append.mp ht with ht | ht
    · exact key a ha ht
    · exact key b hb ht
  rintro r ⟨E, rfl, hE⟩
  rw [rowI_iv, rowI_iv] at hE
  refine .inl ?_
  walk_at "wp"
  refine ws_for (wl_zip ?_)
  walk_at "wp"
  refine wsl_L (.inl ?_)
  walk_at "wp"
  refine ⟨fun k ds' cs' => ∃ (found : Iv) (n m : Nat) (x7 x8 x9 : Option SV), ds' = [some (.im (dRow a)), some (.im (dRow b)), some (.im (.str w)), some (.raw (.ref l)), some (iN n), some (iN m), some (.im (.list (E.map .int))), x7, x8, x9] ∧
    cs' = [(l, .lst (found.map dP))] ∧ (∀ c, E[k]? = some c → At a c n ∧ At b c m ∧ FndR w lo hi a b c found) ∧ (E = [] → found = []), ?_, fun _ _ _ _ => srcOk_none, ?_, ?_⟩
  · exact ⟨[], 0, 0, none, none, none, rfl, rfl, fun c hc => ⟨At.zero _ _, At.zero _ _, fndR_start hE hc⟩, fun _ => rfl⟩
  · rintro k ds' cs' x hx ⟨found, n, m, x7, x8, x9, rfl, rfl, hI, _⟩
    obtain ⟨low, high, e1, e2, rfl⟩ := ends_pairs hx
    obtain ⟨A1, B1, F1⟩ := hI low e1
    obtain ⟨lt, gA, gB⟩ := hE.gapA e1 e2
    have bL := hE.bnd ha.asc hb.asc ha.bnd hb.bnd (List.mem_of_getElem? e1)
    have bH := hE.bnd ha.asc hb.asc ha.bnd hb.bnd (List.mem_of_getElem? e2)
    walk_at "wp"
    refine run_adv (ds := [some (.im (dRow a)), some (.im (dRow b)), some (.im (.str w)), some (.raw (.ref l)), none, some (iN m), some (.im (.list (E.map .int))), some (iN low), some (iN high), x9]) (i := 4) A1 (by show 4 < 10; decide) (fun n' => wt_adv (es := a.map dP) rfl rfl rfl (ivD_row a)) fun n' A2 A3 => ?_
    walk_at "wp"
    refine run_adv (ds := [some (.im (dRow a)), some (.im (dRow b)), some (.im (.str w)), some (.raw (.ref l)), some (iN n'), none, some (.im (.list (E.map .int))), some (iN low), some (iN high), x9]) (i := 5) B1 (by show 5 < 10; decide) (fun m' => wt_adv (es := b.map dP) rfl rfl rfl (ivD_row b)) fun m' B2 B3 => ?_
    refine ws_seq (ws_set (we_imp (we_isin (es := a.map dP) (iv := a) rfl rfl rfl (ivD_row a)) fun sv cs' q => ?_))
    obtain ⟨rfl, isin, rfl, hin⟩ := q
    refine ws_if (wt_B (we_call (wa_cons (we_var rfl (wa_cons (we_var rfl (wa_cons (we_imp (we_isin (es := b.map dP) (iv := b) rfl rfl rfl (ivD_row b)) fun sv2 cs2 q2 => ?_))))))))
    obtain ⟨rfl, isot, rfl, hot⟩ := q2
    refine wa_nil ⟨(w, isin, isot), rfl, trivial, fun r hr => ?_⟩
    subst hr
    refine ⟨_, rfl, ?_⟩
    have kp : ∀ x, low ≤ x → x < high → (keepB w isin isot = true ↔ keepP w (memR a x) (memR b x)) := fun x x1 x2 => keep_iff (hin.trans (A2.memR ha.asc A3 gA x1 x2)) (hot.trans (B2.memR hb.asc B3 gB x1 x2))
    have next : ∀ found', FndR w lo hi a b high found' → ∀ c, E[k + 1]? = some c → At a c n' ∧ At b c m' ∧ FndR w lo hi a b c found' := fun found' F2 c hc => by
      rw [e2] at hc
      cases hc
      exact ⟨A2.mono (Int.le_of_lt lt), B2.mono (Int.le_of_lt lt), F2⟩
    refine ⟨fun e => ?_, fun e => ?_⟩
    · have yes : ∀ x, low ≤ x → x < high → keepP w (memR a x) (memR b x) := fun x x1 x2 => (kp x x1 x2).mp e
      rcases nil_or_last found with rfl | ⟨r, p, rfl⟩
      · walk_at "wp"
        refine .inl (wr_neDc (j := 0) (xs := []) rfl rfl rfl ⟨_, rfl, fun z => ?_, fun z => ?_⟩)
        · exact absurd z (by simp [PyData.eqv, PyData.eqvAll])
        · walk_at "wp"
          refine ⟨fun z => (nomatch z), fun _ => ?_⟩
          refine ws_drop (we_append (we_var rfl ⟨l, rfl, ⟨0, _, rfl⟩, ?_⟩))
          walk_at "wp"
          refine ⟨_, 0, _, rfl, rfl, Nat.zero_le _, ?_⟩
          exact ⟨[(low, high)], n', m', _, _, _, rfl, rfl, next _ (F1.push lt ⟨bL.1, bH.2⟩ yes), fun z => by rw [z] at e2; simp at e2⟩
      · have hlen := wfr_len F1.wf h1 h2
        walk_at "wp"
        refine .inl (wr_neDc (j := 0) rfl (list_sh dP_lay dP_dep (by decide) _) rfl ⟨_, rfl, fun _ => ?_, fun z => ?_⟩)
        · walk_at "wp"
          refine wr_ixLc (j := 0) rfl dec_lastP ?_
          walk_at "wp"
          refine ⟨fun z => ?_, fun z => ?_⟩
          · have ez : p.2 = low := of_decide_eq_true z
            refine ws_setL ?_
            walk_at "wp"
            refine wr_ixLc (j := 0) rfl dec_lastP ?_
            walk_at "wp"
            refine ⟨_, _, 0, _, rfl, rfl, by rw [List.length_map]; exact ixN_last r p, ?_⟩
            refine ⟨r ++ [(p.1, high)], n', m', _, _, _, rfl, ?_, next _ (F1.ext ez lt bH.2 yes), fun z => by rw [z] at e2; simp at e2⟩
            have es : ((r ++ [p]).map dP).set ((r ++ [p]).length - 1) (dP (p.1, high)) = (r ++ [(p.1, high)]).map dP := by
              rw [← List.map_set, set_last]
            show [(l, Cell.lst (((r ++ [p]).map dP).set ((r ++ [p]).length - 1) (dP (p.1, high))))] = _
            rw [es]
          · refine ws_drop (we_append (we_var rfl ⟨l, rfl, ⟨0, _, rfl⟩, ?_⟩))
            walk_at "wp"
            refine ⟨_, 0, _, rfl, rfl, by rw [List.length_map]; exact Nat.le_trans hlen (by decide), ?_⟩
            refine ⟨(r ++ [p]) ++ [(low, high)], n', m', _, _, _, rfl, ?_, next _ (F1.push lt ⟨bL.1, bH.2⟩ yes), fun z => by rw [z] at e2; simp at e2⟩
            rw [map_snoc (r ++ [p])]
            rfl
        · exfalso
          rw [eqv_nil_list] at z
          simp at z
    · walk_at "wp"
      refine ⟨found, n', m', _, _, _, rfl, rfl, next found (F1.skip lt fun x x1 x2 kk => ?_), fun z => by rw [z] at e2; simp at e2⟩
      have := (kp x x1 x2).mpr kk
      rw [e] at this
      cases this
  · rintro ds' cs' ⟨found, n, m, x7, x8, x9, rfl, rfl, hI, h0⟩
    walk_at "wp"
    rw [ends_len] at hI
    refine wc_tupC (j := 0) rfl ⟨_, ⟨found, rfl, ?_⟩, rfl⟩
    by_cases ne : E = []
    · have hf := h0 ne
      subst hf
      refine ⟨WFR.nil, fun x => ⟨fun z => absurd z (memR_nil x), fun kk => absurd kk (keep_none (fun ⟨p, hp, _⟩ => ?_) (fun ⟨p, hp, _⟩ => ?_))⟩⟩
      · have := (hE.mem p.1).mpr (.inl ⟨p, hp, .inl rfl⟩)
        rw [ne] at this
        cases this
      · have := (hE.mem p.1).mpr (.inr ⟨p, hp, .inl rfl⟩)
        rw [ne] at this
        cases this
    · obtain ⟨c, hc⟩ := E_some (Nat.le_refl _) ne
      obtain ⟨_, _, F1⟩ := hI c hc
      exact ⟨F1.wf, fndR_end hE hc F1⟩
/-! ### promises of what keeps two such things -/
abbrev GInn (δ : Type) := List δ × List δ × Str
abbrev aInn {δ : Type} (f : δ → PyData) (g : GInn δ) : List SV := [.im (dL f g.1), .im (dL f g.2.1), .im (.str g.2.2)]
abbrev pInn {δ : Type} (W : List δ → Prop) (g : GInn δ) : Prop := W g.1 ∧ W g.2.1
abbrev qInn {δ β : Type} (f : δ → PyData) (W : List δ → Prop) (m : List δ → β → Prop) (g : GInn δ) (r : Ret) : Prop := ∃ z, r = .im (dL f z) ∧ W z ∧ ∀ q, m z q ↔ keepP g.2.2 (m g.1 q) (m g.2.1 q)
abbrev spInn {δ β : Type} (f : δ → PyData) (W : List δ → Prop) (m : List δ → β → Prop) (K : PySem.W.Frag) : Sp := SpF K (aInn f) (pInn W) (qInn f W m)
theorem fn_rows_made {P : Program} {w : World} {K : PySem.W.Frag} {mg : Str → Option Value} {base : Heap} {f : Addr} {fd : FuncData} (F : FnP K "rows_made" s_rows_made f fd) (c1 : Cl P w K mg base 1 "ends_of" (spEnds K)) (c2 : Cl P w K mg base 1 "is_kept" (spKept K)) (m1 : mg "zip" = none) (m2 : mg "len" = none) (m3 : mg "tuple" = none) :
    FnOk P w K mg base CX0 3 f fd ["one", "other", "word"] (spInn dP WRow memR K) :=
  fn_F F sc_rows_made (fun cdv A outer s H E hr => der_rows_made c1 c2 m1 m2 m3 hr) (fun _ => rfl) fun g hp => run_rows_made ⟨(-20 : Int), (20 : Int), g.1, g.2.1, g.2.2⟩ ⟨hp.1, hp.2, rfl, rfl⟩

/-! ### ends_of -/
theorem inl_keys : ∀ {l : List L2.Key}, (∀ k ∈ l, ∃ i : Int, k = .inl i) → ∃ ks : List Int, l = ks.map Sum.inl
  | [], _ => ⟨[], rfl⟩
  | k :: l, h => by
    obtain ⟨i, rfl⟩ := h k (by simp)
    obtain ⟨ks, rfl⟩ := inl_keys fun k hk => h k (List.mem_cons_of_mem _ hk)
    exact ⟨i :: ks, rfl⟩
theorem nodup_map {α β : Type} {f : α → β} {l : List α} (h : (l.map f).Nodup) : l.Nodup := (List.pairwise_map.mp h).imp fun h e => h (congrArg f e)
theorem run_ends_of {K : PySem.W.Frag} (g : GEnds) (hp : pEnds g) : WS K (t_ends_of K) [some (.im (.tuple (g.1.map dI))), some (.im (.tuple (g.2.map dI))), none, none] [] (PostF qEnds g) := by
  obtain ⟨⟨hl1, hl2⟩, hb⟩ := hp
  unfold t_ends_of
  refine ws_seq (ws_set (we_dnewK fun l => ?_))
  refine ws_seq (ws_for (wl_list (we_lst (wa_star (we_var rfl ⟨_, rfl, wa_star (we_var rfl ⟨_, rfl, wa_nil ⟨(g.1 ++ g.2).map dI, ?_, ?_, .inl ⟨_, rfl, ?_⟩⟩⟩)⟩)))))
  · simp only [List.append_nil]
    rw [← List.map_append, ← List.map_append]
    generalize (g.1 ++ g.2).map dI = es
    induction es with
    | nil => rfl
    | cons e es ih =>
      rw [List.map_cons]
      unfold imAll
      rw [ih]
      rfl
  · rw [List.length_map, List.length_append]
    omega
  refine ⟨fun i ds' cs' => ∃ (x3 : Option SV) (kvs : List (L2.Key × PyData)), ds' = [some (.im (.tuple (g.1.map dI))), some (.im (.tuple (g.2.map dI))), some (.raw (.ref l)), x3] ∧ cs' = [(l, .dk kvs)] ∧ (kvs.map (·.1)).Nodup ∧
      (∀ k, k ∈ kvs.map (·.1) ↔ ∃ t ∈ (g.1 ++ g.2).take i, k = .inl t.1 ∨ k = .inl t.2.1), ?_, fun _ _ _ _ => srcOk_none, ?_, ?_⟩
  · refine ⟨none, [], rfl, rfl, List.nodup_nil, fun k => ?_⟩
    simp
  · rintro i ds' cs' x hx ⟨x3, kvs, rfl, rfl, hnd, hk⟩
    rw [List.getElem?_map] at hx
    obtain ⟨t, ht, rfl⟩ := Option.map_eq_some_iff.mp hx
    have lenk : ∀ kvs : List (L2.Key × PyData), (kvs.map (·.1)).Nodup → (∀ k ∈ kvs.map (·.1), ∃ t ∈ g.1 ++ g.2, k = .inl t.1 ∨ k = .inl t.2.1) → kvs.length ≤ 41 := fun kvs hnd hk => by
      obtain ⟨ks, hks⟩ := inl_keys (l := kvs.map (·.1)) fun k hk' => by
        obtain ⟨t, _, h | h⟩ := hk k hk'
        · exact ⟨_, h⟩
        · exact ⟨_, h⟩
      have hn : ks.Nodup := by
        rw [hks] at hnd
        exact nodup_map hnd
      have hl : ks.length ≤ 41 := ints_len (lo := (-20 : Int)) hn fun k hk' => by
        obtain ⟨t, ht, h | h⟩ := hk (.inl k) (by rw [hks]; exact List.mem_map.mpr ⟨k, hk', rfl⟩)
        · have := hb t ht
          have e := Sum.inl.inj h
          subst e
          omega
        · have := hb t ht
          have e := Sum.inl.inj h
          subst e
          omega
      have := congrArg List.length hks
      rw [List.length_map, List.length_map] at this
      omega
    have sub : ∀ {j : Nat} {k : L2.Key}, (∃ t ∈ (g.1 ++ g.2).take j, k = .inl t.1 ∨ k = .inl t.2.1) → ∃ t ∈ g.1 ++ g.2, k = .inl t.1 ∨ k = .inl t.2.1 := fun ⟨t, h1, h2⟩ => ⟨t, List.mem_of_mem_take h1, h2⟩
    have l1 : kvs.length ≤ 41 := lenk kvs hnd fun k hk' => sub ((hk k).mp hk')
    have tm : t ∈ g.1 ++ g.2 := List.mem_of_getElem? ht
    have l2 : (putD kvs (.inl t.1) (.bool true)).length ≤ 41 := lenk _ (putD_nodup hnd) fun k hk' => by
      rcases (putD_keys k).mp hk' with h | h
      · exact sub ((hk k).mp h)
      · exact ⟨t, tm, .inl h⟩
    walk_at "wp"
    refine ws_asg (we_tup (wa_cons (we_bl (wa_cons (we_bl (wa_nil ⟨_, rfl, Nat.le_of_ble_eq_true rfl, wg_tup rfl (wgs_cons ?_)⟩))))))
    refine wg_subDK (we_var rfl ⟨l, rfl, we_op (we_var rfl (we_int (wr_ixT (atI_nat (j := 0) rfl) ⟨t.1, 0, kvs, rfl, rfl, by omega, wgs_cons ?_⟩)))⟩)
    refine wg_subDK (we_var rfl ⟨l, rfl, we_op (we_var rfl (we_int (wr_ixT (atI_nat (j := 1) rfl) ⟨t.2.1, 0, _, rfl, rfl, by omega, wgs_nil ?_⟩)))⟩)
    refine ⟨_, _, rfl, rfl, putD_nodup (putD_nodup hnd), fun k => ?_⟩
    rw [putD_keys, putD_keys, hk]
    have e : (g.1 ++ g.2).take (i + 1) = (g.1 ++ g.2).take i ++ [t] := by
      rw [List.take_succ, ht]
      rfl
    rw [e]
    constructor
    · rintro ((⟨u, h1, h2⟩ | h) | h)
      · exact ⟨u, List.mem_append_left _ h1, h2⟩
      · exact ⟨t, by simp, .inl h⟩
      · exact ⟨t, by simp, .inr h⟩
    · rintro ⟨u, h1, h2⟩
      rcases List.mem_append.mp h1 with h1 | h1
      · exact .inl (.inl ⟨u, h1, h2⟩)
      · have e' : u = t := by simpa using h1
        subst e'
        rcases h2 with h2 | h2
        · exact .inl (.inr h2)
        · exact .inr h2
  · rintro ds' cs' ⟨x3, kvs, rfl, rfl, hnd, hk⟩
    rw [List.length_map, List.take_length] at hk
    obtain ⟨ks, hks⟩ := inl_keys (l := kvs.map (·.1)) fun k hk' => by
      obtain ⟨t, _, h | h⟩ := (hk k).mp hk'
      · exact ⟨_, h⟩
      · exact ⟨_, h⟩
    have hn : ks.Nodup := by
      rw [hks] at hnd
      exact nodup_map hnd
    have hk2 : ∀ e : Int, e ∈ ks ↔ ∃ t ∈ g.1 ++ g.2, e = t.1 ∨ e = t.2.1 := fun e => by
      have := hk (.inl e)
      rw [hks] at this
      have m1 : (Sum.inl e : L2.Key) ∈ ks.map Sum.inl ↔ e ∈ ks := by
        constructor
        · intro h
          obtain ⟨y, hy, e'⟩ := List.mem_map.mp h
          cases e'
          exact hy
        · exact fun h => List.mem_map.mpr ⟨e, h, rfl⟩
      rw [← m1, this]
      constructor
      · rintro ⟨t, h1, h | h⟩
        · exact ⟨t, h1, .inl (Sum.inl.inj h)⟩
        · exact ⟨t, h1, .inr (Sum.inl.inj h)⟩
      · rintro ⟨t, h1, h | h⟩
        · exact ⟨t, h1, .inl (by rw [h])⟩
        · exact ⟨t, h1, .inr (by rw [h])⟩
    have hl : ks.length ≤ 41 := ints_len (lo := (-20 : Int)) hn fun k hk' => by
      obtain ⟨t, ht, h | h⟩ := (hk2 k).mp hk' <;> have := hb t ht <;> omega
    walk_at "wp"
    refine wc_sortedDK (j := 0) rfl hks (by omega) fun ys pm pw => .inr fun l2 => ?_
    refine ⟨.cel (.lst (ys.map .int)), ⟨ys, rfl, ⟨?_, fun e => ?_⟩⟩, l2, rfl, 1, rfl⟩
    · have nd : ys.Nodup := pm.nodup_iff.mpr hn
      have := List.pairwise_and_iff.mpr ⟨pw, nd⟩
      exact this.imp fun {a b} h => by
        have h1 := h.1
        have h2 := h.2
        omega
    · rw [pm.mem_iff, hk2]
      constructor
      · rintro ⟨t, h1, h2⟩
        rcases List.mem_append.mp h1 with h1 | h1
        · exact .inl ⟨ivI t, List.mem_map.mpr ⟨t, h1, rfl⟩, h2⟩
        · exact .inr ⟨ivI t, List.mem_map.mpr ⟨t, h1, rfl⟩, h2⟩
      · rintro (⟨p, hp, h⟩ | ⟨p, hp, h⟩)
        · obtain ⟨t, h1, rfl⟩ := List.mem_map.mp hp
          exact ⟨t, List.mem_append_left _ h1, h⟩
        · obtain ⟨t, h1, rfl⟩ := List.mem_map.mp hp
          exact ⟨t, List.mem_append_right _ h1, h⟩
theorem fn_ends_of {P : Program} {w : World} {K : PySem.W.Frag} {mg : Str → Option Value} {base : Heap} {f : Addr} {fd : FuncData} (F : FnP K "ends_of" s_ends_of f fd) (m1 : mg "sorted" = none) : FnOk P w K mg base CX0 1 f fd ["one", "other"] (spEnds K) :=
  fn_F F sc_ends_of (fun cdv A outer s H E hr => der_ends_of m1 hr) (fun _ => rfl) fun g hp => run_ends_of g hp
end Sw
set_option Elab.async false
set_option linter.all false
set_option maxRecDepth 100000
set_option maxHeartbeats 4000000
set_option autoImplicit false
namespace Sw
open PySem PySem.Spec PyProof.Rows L2
local macro_rules | `(tactic| walk_at "wp1") => `(tactic| first
  | with_reducible refine ws_seq ?_
  | with_reducible refine ws_par ?_
  | with_reducible refine ws_par3 ?_
  | with_reducible refine ws_set ?_
  | with_reducible refine ws_ret ?_
  | with_reducible refine ws_drop ?_
  | with_reducible refine ws_if ?_
  | with_reducible refine ws_next ?_
  | ((with_reducible refine' we_var ?hv ?_); (case hv => rfl))
  | with_reducible refine we_int ?_
  | with_reducible refine we_bl ?_
  | with_reducible refine we_str ?_
  | with_reducible refine we_non ?_
  | with_reducible refine we_raw ?_
  | with_reducible refine we_op ?_
  | with_reducible refine we_neg ?_
  | with_reducible refine we_tup ?_
  | with_reducible refine we_lst ?_
  | with_reducible refine we_cb ?_
  | with_reducible refine we_call ?_
  | with_reducible refine we_callC ?_
  | with_reducible refine we_if ?_
  | with_reducible refine we_and ?_
  | with_reducible refine we_or ?_
  | with_reducible refine we_not ?_
  | with_reducible refine we_chain ?_
  | with_reducible refine we_sl ?_
  | with_reducible refine wo_none ?_
  | with_reducible refine wo_some ?_
  | with_reducible refine wa_nil ?_
  | with_reducible refine wa_cons ?_
  | with_reducible refine wt_test ?_
  | with_reducible refine wt_B ?_
  | with_reducible refine wt_and ?_
  | with_reducible refine wt_or ?_
  | with_reducible refine wt_not ?_
  | with_reducible refine wt_yes ?_
  | with_reducible refine wr_add ?_
  | with_reducible refine wr_sub ?_
  | with_reducible refine wr_lt ?_
  | with_reducible refine wr_le ?_
  | with_reducible refine wr_gt ?_
  | with_reducible refine wr_eqI ?_
  | with_reducible refine wr_eqB ?_
  | with_reducible refine wr_eqS ?_
  | with_reducible refine wc_lenL ?_
  | with_reducible refine wc_lenT ?_
  | with_reducible refine wc_tupL ?_
  | ((with_reducible refine' wr_ixT ?hx ?_); (case hx => rfl))
  | with_reducible refine wg_name ?_
  | ((with_reducible refine' wg_tup ?hl ?_); (case hl => rfl))
  | with_reducible refine wgs_nil ?_
  | with_reducible refine wgs_cons ?_
  | refine ⟨_, rfl, ?_⟩
  | refine ⟨Nat.le_of_ble_eq_true rfl, ?_⟩
  | refine ⟨_, _, rfl, ?_⟩
  | refine ⟨_, _, _, rfl, ?_⟩
  | fail "no step")
local macro_rules | `(tactic| walk_at "wp") => `(tactic| repeat' walk_at "wp1")

/-! ### stretches_made -/
abbrev dE {δ : Type} (f : δ → PyData) : Int × Int × List δ → PyData := dS (dL f)
abbrev aStr {δ : Type} (f : δ → PyData) (fa : Addr) (g : GInn (Int × Int × List δ)) : List SV := [.im (dL (dE f) g.1), .im (dL (dE f) g.2.1), .im (.str g.2.2), .raw (.ref fa)]
abbrev WT' {δ : Type} (W : List δ → Prop) : Stt δ → Prop := WFT W (-20) 20
abbrev mT' {δ β : Type} (m : List δ → β → Prop) (s : Stt δ) (q : Int × β) : Prop := memT m s q.1 q.2
abbrev spStr {δ β : Type} (f : δ → PyData) (W : List δ → Prop) (m : List δ → β → Prop) (fa : Addr) (K : PySem.W.Frag) : Sp := SpF K (aStr f fa) (pInn (WT' W)) (qInn (dE f) (WT' W) (mT' m))
def strI {δ : Type} (f : δ → PyData) (s : Stt δ) : List (Int × Int × List PyData) := s.map fun t => (t.1, t.2.1, [dL f t.2.2])
theorem strI_d {δ : Type} (f : δ → PyData) (s : Stt δ) : (strI f s).map dI = s.map (dE f) := by
  unfold strI
  rw [List.map_map]
  rfl
theorem strI_iv {δ : Type} (f : δ → PyData) (s : Stt δ) : (strI f s).map ivI = s.map ivT := by
  unfold strI
  rw [List.map_map]
  rfl
theorem ivD_str {δ : Type} (f : δ → PyData) (s : Stt δ) : IvD (s.map (dE f)) (s.map ivT) := ⟨by simp, fun i p h => by
  rw [List.getElem?_map] at h
  obtain ⟨t, ht, rfl⟩ := Option.map_eq_some_iff.mp h
  exact ⟨[dL f t.2.2], by rw [List.getElem?_map, ht] <;> rfl⟩⟩
theorem we_gap {δ : Type} {f : δ → PyData} {K : PySem.W.Frag} {ds : DS} {cs : CS} {p q r n : Nat} {s : Stt δ} {low : Int} (h1 : ds[p]? = some (some (iN (n : Nat)))) (h2 : ds[q]? = some (some (.im (.tuple (s.map (dE f)))))) (h3 : ds[r]? = some (some (iN low))) :
    WE K (tIf (tAnd (tTest (tOp rLtI (tVar p) (tCB (rLenS K) (tCons (tVar q) tNil)))) (tTest (tOp rLeI (tOp (rIxT K) (tOp (rIxT K) (tVar q) (tVar p)) (tC (.int 0))) (tVar r)))) (tOp (rIxT K) (tOp (rIxT K) (tVar q) (tVar p)) (tC (.int 2))) (tTup tNil)) ds cs fun sv cs' => cs' = cs ∧ ∃ Z, sv = .im (dL f Z) ∧ Gap s n low Z := by
  refine we_if (wt_imp (wt_isin (es := s.map (dE f)) (iv := s.map ivT) h1 h2 h3 (ivD_str f s)) fun b cs' hq => ?_)
  obtain ⟨rfl, hb⟩ := hq
  refine ⟨fun e => ?_, fun e => ?_⟩
  · obtain ⟨x, hx, hl⟩ := hb.mp e
    rw [List.getElem?_map] at hx
    obtain ⟨t, ht, rfl⟩ := Option.map_eq_some_iff.mp hx
    have ht' : (s.map (dE f))[n]? = some (dE f t) := by
      rw [List.getElem?_map, ht]
      rfl
    exact we_op (we_op (we_var h2 (we_var h1 (wr_ixT (atI_nat ht') (we_int (wr_ixT (atI_nat (j := 2) rfl) ⟨rfl, t.2.2, rfl, .inl ⟨t, ht, hl, rfl⟩⟩))))))
  · refine we_tup (wa_nil ⟨[], rfl, Nat.zero_le _, rfl, [], rfl, .inr ⟨fun t ht => ?_, rfl⟩⟩)
    by_cases c : low < t.1
    · exact c
    · have := hb.mpr ⟨ivT t, by rw [List.getElem?_map, ht] <;> rfl, by show t.1 ≤ low; omega⟩
      rw [e] at this
      cases this
theorem dec_lastE {δ : Type} {f : δ → PyData} {r : Stt δ} {t : Int × Int × List δ} : atI ((r ++ [t]).map (dE f)) (-1) = some (dE f t) := by
  rw [List.map_append]
  exact atI_last _ _
theorem fndT_start {δ β : Type} {m : List δ → β → Prop} {W : List δ → Prop} {w : Str} {lo hi : Int} {a b : Stt δ} {E : List Int} (h : Ends2 (a.map ivT) (b.map ivT) E) {c : Int} (h0 : E[0]? = some c) : FndT m W w lo hi a b c [] :=
  ⟨WFT.nil, fun _ h => (by cases h), fun x q => ⟨fun z => absurd z memT_nil, fun ⟨z, kp⟩ => absurd kp (keep_none (fun ⟨p, hp, hx, _⟩ => by
    have := h.first h0 ((h.mem p.1).mpr (.inl ⟨ivT p, List.mem_map.mpr ⟨p, hp, rfl⟩, .inl rfl⟩))
    have : p.1 ≤ x := hx.1
    omega) (fun ⟨p, hp, hx, _⟩ => by
    have := h.first h0 ((h.mem p.1).mpr (.inr ⟨ivT p, List.mem_map.mpr ⟨p, hp, rfl⟩, .inl rfl⟩))
    have : p.1 ≤ x := hx.1
    omega))⟩⟩
theorem fndT_end {δ β : Type} {m : List δ → β → Prop} {W : List δ → Prop} {w : Str} {lo hi : Int} {a b : Stt δ} {E : List Int} (h : Ends2 (a.map ivT) (b.map ivT) E) {c : Int} (h0 : E[E.length - 1]? = some c) {found : Stt δ} (fd : FndT m W w lo hi a b c found) (x : Int) (q : β) : memT m found x q ↔ keepP w (memT m a x q) (memT m b x q) := by
  rw [fd.mem]
  constructor
  · exact fun z => z.2
  · intro kp
    refine ⟨?_, kp⟩
    by_cases hx : x < c
    · exact hx
    · refine absurd kp (keep_none (fun ⟨p, hp, hq, _⟩ => ?_) (fun ⟨p, hp, hq, _⟩ => ?_))
      · have := h.last h0 ((h.mem p.2.1).mpr (.inl ⟨ivT p, List.mem_map.mpr ⟨p, hp, rfl⟩, .inr rfl⟩))
        have : x < p.2.1 := hq.2
        omega
      · have := h.last h0 ((h.mem p.2.1).mpr (.inr ⟨ivT p, List.mem_map.mpr ⟨p, hp, rfl⟩, .inr rfl⟩))
        have : x < p.2.1 := hq.2
        omega
theorem run_stretches {δ β : Type} {f : δ → PyData} {W : List δ → Prop} {m : List δ → β → Prop} {nd : Nat} (I : Inn f W m nd) {K : PySem.W.Frag} {fa : Addr} (g : GInn (Int × Int × List δ)) (hp : pInn (WT' W) g) :
    WS K (t_stretches_made K fa (spInn f W m K) (spEnds K)) [some (.im (dL (dE f) g.1)), some (.im (dL (dE f) g.2.1)), some (.im (.str g.2.2)), some (.raw (.ref fa)), none, none, none, none, none, none, none, none, none] [] (PostF (qInn (dE f) (WT' W) (mT' m)) g) := by
  obtain ⟨a, b, w⟩ := g
  obtain ⟨ha, hb⟩ : WT' W a ∧ WT' W b := hp
  have lenS : ∀ {s : Stt δ}, WT' W s → s.length ≤ 40 := fun {s} h => by
    have := h.len (by decide)
    omega
  unfold t_stretches_made
  walk_at "wp"
  refine .inr fun l => ?_
  walk_at "wp"
  refine ⟨(strI f a, strI f b), ?_, ⟨⟨?_, ?_⟩, ?_⟩, ?_⟩
  · show [SV.im (.tuple (a.map (dE f))), SV.im (.tuple (b.map (dE f)))] = [SV.im (.tuple ((strI f a).map dI)), SV.im (.tuple ((strI f b).map dI))]
    rw [strI_d, strI_d]
  · have := lenS ha
    show (strI f a).length ≤ 1000
    rw [strI, List.length_map]
    omega
  · have := lenS hb
    show (strI f b).length ≤ 1000
    rw [strI, List.length_map]
    omega
  · intro t ht
    have key : ∀ r : Stt δ, WT' W r → t ∈ strI f r → ((-20 : Int) ≤ t.1 ∧ t.1 ≤ 20) ∧ (-20 : Int) ≤ t.2.1 ∧ t.2.1 ≤ 20 := fun r hr hm => by
      unfold strI at hm
      obtain ⟨p, hp, rfl⟩ := List.mem_map.mp hm
      have b1 := hr.bnd (ivT p) (List.mem_map.mpr ⟨p, hp, rfl⟩)
      have b2 := hr.asc.ne (ivT p) (List.mem_map.mpr ⟨p, hp, rfl⟩)
      show ((-20 : Int) ≤ p.1 ∧ p.1 ≤ 20) ∧ (-20 : Int) ≤ p.2.1 ∧ p.2.1 ≤ 20
      have b1' : (-20 : Int) ≤ p.1 ∧ p.2.1 ≤ 20 := b1
      have b2' : p.1 < p.2.1 := b2
      omega
    rcases List.mem_append.mp ht with ht | ht
    · exact key a ha ht
    · exact key b hb ht
  rintro r ⟨E, rfl, hE⟩
  rw [strI_iv, strI_iv] at hE
  refine .inl ?_
  walk_at "wp"
  refine ws_for (wl_zip ?_)
  walk_at "wp"
  refine wsl_L (.inl ?_)
  walk_at "wp"
  refine ⟨fun k ds' cs' => ∃ (found : Stt δ) (n k' : Nat) (x8 x9 x10 x11 x12 : Option SV), ds' = [some (.im (dL (dE f) a)), some (.im (dL (dE f) b)), some (.im (.str w)), some (.raw (.ref fa)), some (.raw (.ref l)), some (iN n), some (iN k'), some (.im (.list (E.map .int))), x8, x9, x10, x11, x12] ∧
    cs' = [(l, .lst (found.map (dE f)))] ∧ (∀ c, E[k]? = some c → At (a.map ivT) c n ∧ At (b.map ivT) c k' ∧ FndT m W w (-20) 20 a b c found) ∧ (E = [] → found = []), ?_, fun _ _ _ _ => srcOk_none, ?_, ?_⟩
  · exact ⟨[], 0, 0, none, none, none, none, none, rfl, rfl, fun c hc => ⟨At.zero _ _, At.zero _ _, fndT_start hE hc⟩, fun _ => rfl⟩
  · rintro k ds' cs' x hx ⟨found, n, k', x8, x9, x10, x11, x12, rfl, rfl, hI, _⟩
    obtain ⟨low, high, e1, e2, rfl⟩ := ends_pairs hx
    obtain ⟨A1, B1, F1⟩ := hI low e1
    obtain ⟨lt, gA, gB⟩ := hE.gapA e1 e2
    have bL := hE.bnd ha.asc hb.asc ha.bnd hb.bnd (List.mem_of_getElem? e1)
    have bH := hE.bnd ha.asc hb.asc ha.bnd hb.bnd (List.mem_of_getElem? e2)
    walk_at "wp"
    refine run_adv (ds := [some (.im (dL (dE f) a)), some (.im (dL (dE f) b)), some (.im (.str w)), some (.raw (.ref fa)), some (.raw (.ref l)), none, some (iN k'), some (.im (.list (E.map .int))), some (iN low), some (iN high), x10, x11, x12]) (i := 5) A1 (by show 5 < 13; decide) (fun n' => wt_adv (es := a.map (dE f)) rfl rfl rfl (ivD_str f a)) fun n' A2 A3 => ?_
    walk_at "wp"
    refine run_adv (ds := [some (.im (dL (dE f) a)), some (.im (dL (dE f) b)), some (.im (.str w)), some (.raw (.ref fa)), some (.raw (.ref l)), some (iN n'), none, some (.im (.list (E.map .int))), some (iN low), some (iN high), x10, x11, x12]) (i := 6) B1 (by show 6 < 13; decide) (fun m' => wt_adv (es := b.map (dE f)) rfl rfl rfl (ivD_str f b)) fun m' B2 B3 => ?_
    refine ws_seq (ws_set (we_imp (we_gap (s := a) (n := n') rfl rfl rfl) fun sv cs' q => ?_))
    obtain ⟨rfl, Z1, rfl, g1⟩ := q
    refine ws_seq (ws_set (we_imp (we_gap (s := b) (n := m') rfl rfl rfl) fun sv cs' q => ?_))
    obtain ⟨rfl, Z2, rfl, g2⟩ := q
    have t1 : ∀ x, low ≤ x → x < high → ∀ q, memT m a x q ↔ m Z1 q := fun x x1 x2 q => g1.tells I.mnil A2 ha.asc A3 gA x1 x2 q
    have t2 : ∀ x, low ≤ x → x < high → ∀ q, memT m b x q ↔ m Z2 q := fun x x1 x2 q => g2.tells I.mnil B2 hb.asc B3 gB x1 x2 q
    have wz : ∀ {s : Stt δ} {n : Nat} {Z : List δ}, WT' W s → Gap s n low Z → W Z := fun {s n Z} hs hg => by
      rcases hg with ⟨t, ht, _, rfl⟩ | ⟨_, rfl⟩
      · exact (hs.inn t (List.mem_of_getElem? ht)).1
      · exact I.wnil
    refine ws_seq (ws_set (we_callL (f := fa) rfl ?_))
    walk_at "wp"
    refine ⟨(Z1, Z2, w), rfl, ⟨wz ha g1, wz hb g2⟩, ?_⟩
    rintro r ⟨z, rfl, hz, hm⟩
    have kp : ∀ x, low ≤ x → x < high → ∀ q, m z q ↔ keepP w (memT m a x q) (memT m b x q) := fun x x1 x2 q => (hm q).trans (keep_congr (t1 x x1 x2 q).symm (t2 x x1 x2 q).symm)
    have next : ∀ found', FndT m W w (-20) 20 a b high found' → ∀ c, E[k + 1]? = some c → At (a.map ivT) c n' ∧ At (b.map ivT) c m' ∧ FndT m W w (-20) 20 a b c found' := fun found' F2 c hc => by
      rw [e2] at hc
      cases hc
      exact ⟨A2.mono (Int.le_of_lt lt), B2.mono (Int.le_of_lt lt), F2⟩
    refine ws_if (wt_test (we_op (we_var rfl (we_tup (wa_nil ⟨[], rfl, Nat.zero_le _, wr_neD (I.sh z) (by rfl) ⟨_, rfl, fun e => ?_, fun e => ?_⟩⟩)))))
    · rw [eqv_nil_tup] at e
      have hne : z ≠ [] := by
        rintro rfl
        cases e
      rcases nil_or_last found with rfl | ⟨r, t, rfl⟩
      · walk_at "wp"
        refine .inl (wr_neDc (j := 0) (xs := []) rfl rfl rfl ⟨_, rfl, fun zz => ?_, fun zz => ?_⟩)
        · exact absurd zz (by simp [PyData.eqv, PyData.eqvAll])
        · walk_at "wp"
          refine ⟨fun z => (nomatch z), fun _ => ?_⟩
          refine ws_drop (we_append (we_var rfl ⟨l, rfl, ⟨0, _, rfl⟩, ?_⟩))
          walk_at "wp"
          refine ⟨_, 0, _, rfl, rfl, Nat.zero_le _, ?_⟩
          exact ⟨[(low, high, z)], n', m', _, _, _, _, _, rfl, rfl, next _ (F1.push lt ⟨bL.1, bH.2⟩ hz hne kp), fun z => by rw [z] at e2; simp at e2⟩
      · have hlen := F1.wf.len (by decide)
        have pu : ∀ {P : Post}, (∀ found', found' = (r ++ [t]) ++ [(low, high, z)] → FndT m W w (-20) 20 a b high found' → P.nx [some (.im (dL (dE f) a)), some (.im (dL (dE f) b)), some (.im (.str w)), some (.raw (.ref fa)), some (.raw (.ref l)), some (iN n'), some (iN m'), some (.im (.list (E.map .int))), some (iN low), some (iN high), some (.im (dL f Z1)), some (.im (dL f Z2)), some (.im (dL f z))] [(l, .lst (found'.map (dE f)))]) →
            WS K (tDrop (tBM K "list" rAppend (tVar 4) (tCons (tTup (tCons (tVar 8) (tCons (tVar 9) (tCons (tVar 12) tNil)))) tNil))) [some (.im (dL (dE f) a)), some (.im (dL (dE f) b)), some (.im (.str w)), some (.raw (.ref fa)), some (.raw (.ref l)), some (iN n'), some (iN m'), some (.im (.list (E.map .int))), some (iN low), some (iN high), some (.im (dL f Z1)), some (.im (dL f Z2)), some (.im (dL f z))] [(l, .lst ((r ++ [t]).map (dE f)))] P := fun {P} h => by
          refine ws_drop (we_append (we_var rfl ⟨l, rfl, ⟨0, _, rfl⟩, ?_⟩))
          walk_at "wp"
          refine ⟨_, 0, _, rfl, rfl, by rw [List.length_map]; omega, ?_⟩
          have := h _ rfl (F1.push lt ⟨bL.1, bH.2⟩ hz hne kp)
          rw [map_snoc (r ++ [t])] at this
          exact this
        walk_at "wp"
        refine .inl (wr_neDc (j := 0) rfl (list_sh (dS_lay I.lay') (dS_dep I.dep') (by have := I.few; omega) _) rfl ⟨_, rfl, fun _ => ?_, fun z => ?_⟩)
        · walk_at "wp"
          refine wr_ixLc (j := 0) rfl dec_lastE ?_
          walk_at "wp"
          refine ⟨fun ez => ?_, fun ez => ?_⟩
          · have ez : t.2.1 = low := of_decide_eq_true ez
            walk_at "wp"
            refine wr_ixLc (j := 0) rfl dec_lastE ?_
            walk_at "wp"
            refine wr_eqD (I.sh _) (I.sh _) ⟨_, rfl, ?_⟩
            refine ⟨fun e3 => ?_, fun e3 => ?_⟩
            · have ei : t.2.2 = z := I.inj' _ _ e3
              refine ws_setL ?_
              walk_at "wp"
              refine wr_ixLc (j := 0) rfl dec_lastE ?_
              walk_at "wp"
              refine ⟨_, _, 0, _, rfl, rfl, by rw [List.length_map]; exact ixN_last r t, ?_⟩
              refine ⟨r ++ [(t.1, high, t.2.2)], n', m', _, _, _, _, _, rfl, ?_, next _ (F1.ext ez lt bH.2 (by rw [ei]; exact kp)), fun z => by rw [z] at e2; simp at e2⟩
              have es : ((r ++ [t]).map (dE f)).set ((r ++ [t]).length - 1) (dE f (t.1, high, t.2.2)) = (r ++ [(t.1, high, t.2.2)]).map (dE f) := by
                rw [← List.map_set, set_last]
              rw [← es, ei]
              rfl
            · exact pu fun found' ef F2 => ⟨found', n', m', _, _, _, _, _, rfl, rfl, next _ F2, fun z => by rw [z] at e2; simp at e2⟩
          · refine ⟨fun z => (nomatch z), fun _ => ?_⟩
            exact pu fun found' ef F2 => ⟨found', n', m', _, _, _, _, _, rfl, rfl, next _ F2, fun z => by rw [z] at e2; simp at e2⟩
        · exfalso
          rw [eqv_nil_list] at z
          simp at z
    · rw [eqv_nil_tup] at e
      have hz0 : z = [] := by
        cases z with
        | nil => rfl
        | cons y ys => cases e
      subst hz0
      walk_at "wp"
      refine ⟨found, n', m', _, _, _, _, _, rfl, rfl, next found (F1.skip lt fun x x1 x2 q kk => I.mnil q ((kp x x1 x2 q).mpr kk)), fun z => by rw [z] at e2; simp at e2⟩
  · rintro ds' cs' ⟨found, n, k', x8, x9, x10, x11, x12, rfl, rfl, hI, h0⟩
    walk_at "wp"
    rw [ends_len] at hI
    refine wc_tupC (j := 0) rfl ⟨_, ⟨found, rfl, ?_⟩, rfl⟩
    by_cases ne : E = []
    · have hf := h0 ne
      subst hf
      refine ⟨WFT.nil, fun q => ⟨fun z => absurd z memT_nil, fun kk => absurd kk (keep_none (fun ⟨p, hp, _⟩ => ?_) (fun ⟨p, hp, _⟩ => ?_))⟩⟩
      · have := (hE.mem p.1).mpr (.inl ⟨ivT p, List.mem_map.mpr ⟨p, hp, rfl⟩, .inl rfl⟩)
        rw [ne] at this
        cases this
      · have := (hE.mem p.1).mpr (.inr ⟨ivT p, List.mem_map.mpr ⟨p, hp, rfl⟩, .inl rfl⟩)
        rw [ne] at this
        cases this
    · obtain ⟨c, hc⟩ := E_some (Nat.le_refl _) ne
      obtain ⟨_, _, F1⟩ := hI c hc
      exact ⟨F1.wf, fun q => fndT_end hE hc F1 q.1 q.2⟩
end Sw
set_option Elab.async false
set_option linter.all false
set_option maxRecDepth 100000
set_option maxHeartbeats 4000000
set_option autoImplicit false
namespace Sw
open PySem PySem.Spec PyProof.Rows L2
local macro_rules | `(tactic| walk_at "wp1") => `(tactic| first
  | with_reducible refine ws_seq ?_
  | with_reducible refine ws_par ?_
  | with_reducible refine ws_par3 ?_
  | with_reducible refine ws_set ?_
  | with_reducible refine ws_ret ?_
  | with_reducible refine ws_drop ?_
  | with_reducible refine ws_if ?_
  | with_reducible refine ws_next ?_
  | ((with_reducible refine' we_var ?hv ?_); (case hv => rfl))
  | with_reducible refine we_int ?_
  | with_reducible refine we_bl ?_
  | with_reducible refine we_str ?_
  | with_reducible refine we_non ?_
  | with_reducible refine we_raw ?_
  | with_reducible refine we_op ?_
  | with_reducible refine we_neg ?_
  | with_reducible refine we_tup ?_
  | with_reducible refine we_lst ?_
  | with_reducible refine we_cb ?_
  | with_reducible refine we_call ?_
  | with_reducible refine we_callC ?_
  | with_reducible refine we_if ?_
  | with_reducible refine we_and ?_
  | with_reducible refine we_or ?_
  | with_reducible refine we_not ?_
  | with_reducible refine we_chain ?_
  | with_reducible refine we_sl ?_
  | with_reducible refine wo_none ?_
  | with_reducible refine wo_some ?_
  | with_reducible refine wa_nil ?_
  | with_reducible refine wa_cons ?_
  | with_reducible refine wt_test ?_
  | with_reducible refine wt_B ?_
  | with_reducible refine wt_and ?_
  | with_reducible refine wt_or ?_
  | with_reducible refine wt_not ?_
  | with_reducible refine wt_yes ?_
  | with_reducible refine wr_add ?_
  | with_reducible refine wr_sub ?_
  | with_reducible refine wr_lt ?_
  | with_reducible refine wr_le ?_
  | with_reducible refine wr_gt ?_
  | with_reducible refine wr_eqI ?_
  | with_reducible refine wr_eqB ?_
  | with_reducible refine wr_eqS ?_
  | with_reducible refine wc_lenL ?_
  | with_reducible refine wc_lenT ?_
  | with_reducible refine wc_tupL ?_
  | ((with_reducible refine' wr_ixT ?hx ?_); (case hx => rfl))
  | with_reducible refine wg_name ?_
  | ((with_reducible refine' wg_tup ?hl ?_); (case hl => rfl))
  | with_reducible refine wgs_nil ?_
  | with_reducible refine wgs_cons ?_
  | refine ⟨_, rfl, ?_⟩
  | refine ⟨Nat.le_of_ble_eq_true rfl, ?_⟩
  | refine ⟨_, _, rfl, ?_⟩
  | refine ⟨_, _, _, rfl, ?_⟩
  | fail "no step")
local macro_rules | `(tactic| walk_at "wp") => `(tactic| repeat' walk_at "wp1")

/-! ### layers_made, union, meet, less -/
section
variable {P : Program} {w : World} {K : PySem.W.Frag} {mg : Str → Option Value} {base : Heap} {f : Addr} {fd : FuncData}
theorem fn_stretches4 {δ β : Type} {g : δ → PyData} {W : List δ → Prop} {m : List δ → β → Prop} {nd : Nat} (I : Inn g W m nd) {fa : Addr} (F : FnP K "stretches_made" s_stretches_made f fd) (c0 : ClF P w K mg base 3 fa (spInn g W m K)) (c1 : Cl P w K mg base 1 "ends_of" (spEnds K)) (m1 : mg "zip" = none) (m2 : mg "len" = none) (m3 : mg "tuple" = none) :
    FnOk P w K mg base CX0 4 f fd ["one", "other", "word", "inner"] (spStr g W m fa K) :=
  fn_F F sc_stretches_made (fun cdv A outer s H E hr => der_stretches_made c0 c1 m1 m2 m3 hr) (fun _ => rfl) fun g hp => run_stretches I g hp
theorem fn_stretches6 {δ β : Type} {g : δ → PyData} {W : List δ → Prop} {m : List δ → β → Prop} {nd : Nat} (I : Inn g W m nd) {fa : Addr} (F : FnP K "stretches_made" s_stretches_made f fd) (c0 : ClF P w K mg base 5 fa (spInn g W m K)) (c1 : Cl P w K mg base 1 "ends_of" (spEnds K)) (m1 : mg "zip" = none) (m2 : mg "len" = none) (m3 : mg "tuple" = none) :
    FnOk P w K mg base CX0 6 f fd ["one", "other", "word", "inner"] (spStr g W m fa K) :=
  fn_F F sc_stretches_made (fun cdv A outer s H E hr => der_stretches_made6 c0 c1 m1 m2 m3 hr) (fun _ => rfl) fun g hp => run_stretches I g hp
abbrev spLays (K : PySem.W.Frag) : Sp := spInn (dE dP) (WT' WRow) (mT' memR) K
theorem fn_layers_made {fr : Addr} (F : FnP K "layers_made" s_layers_made f fd) (g1 : mg "rows_made" = some (.ref fr)) (c1 : Cl P w K mg base 4 "stretches_made" (spStr dP WRow memR fr K)) :
    FnOk P w K mg base CX0 5 f fd ["one", "other", "word"] (spLays K) :=
  fn_F F sc_layers_made (fun cdv A outer s H E hr => der_layers_made g1 c1 hr) (fun _ => rfl) fun g hp => by
    unfold t_layers_made
    walk_at "wp"
    exact ⟨hp, fun r hr => by
      obtain ⟨z, rfl, h1, h2⟩ := hr
      exact ⟨_, ⟨z, rfl, h1, h2⟩, rfl⟩⟩
abbrev G2 := Sol × Sol
abbrev a2 (g : G2) : List SV := [.im (dSol g.1), .im (dSol g.2)]
abbrev p2 (g : G2) : Prop := WSol g.1 ∧ WSol g.2
abbrev q2 (R : Prop → Prop → Prop) (g : G2) (r : Ret) : Prop := ∃ z : Sol, r = .im (dSol z) ∧ WSol z ∧ ∀ q, mSol z q ↔ R (mSol g.1 q) (mSol g.2 q)
abbrev spOp (R : Prop → Prop → Prop) (K : PySem.W.Frag) : Sp := SpF K a2 p2 (q2 R)
abbrev spUnion (K : PySem.W.Frag) : Sp := spOp (fun A B => A ∨ B) K
abbrev spMeet (K : PySem.W.Frag) : Sp := spOp (fun A B => A ∧ B) K
abbrev spLess (K : PySem.W.Frag) : Sp := spOp (fun A B => A ∧ ¬ B) K
theorem keep_either {A B : Prop} : keepP "either" A B ↔ A ∨ B := by
  unfold keepP
  have h : ("either" : Str) = wEither := rfl
  simp [h]
theorem keep_both {A B : Prop} : keepP "both" A B ↔ A ∧ B := by
  unfold keepP
  have h : ("both" : Str) = wBoth := rfl
  have h2 : ¬ wBoth = wEither := by decide
  simp [h, h2]
theorem keep_first {A B : Prop} : keepP "first" A B ↔ A ∧ ¬ B := by
  unfold keepP
  have h1 : ¬ ("first" : Str) = wEither := by decide
  have h2 : ¬ ("first" : Str) = wBoth := by decide
  simp [h1, h2]
abbrev spStr6 (fl : Addr) (K : PySem.W.Frag) : Sp := spStr (dE dP) (WT' WRow) (mT' memR) fl K
theorem fn_union {fl : Addr} (F : FnP K "union" s_union f fd) (g1 : mg "layers_made" = some (.ref fl)) (c1 : Cl P w K mg base 6 "stretches_made" (spStr6 fl K)) : FnOk P w K mg base CX0 7 f fd ["one", "other"] (spUnion K) :=
  fn_F F sc_union (fun cdv A outer s H E hr => der_union g1 c1 hr) (fun _ => rfl) fun g hp => by
    unfold t_union
    walk_at "wp"
    exact ⟨(g.1, g.2, "either"), rfl, hp, fun r hr => by
      obtain ⟨z, rfl, h1, h2⟩ := hr
      exact ⟨_, ⟨z, rfl, h1, fun q => (h2 q).trans keep_either⟩, rfl⟩⟩
theorem fn_meet {fl : Addr} (F : FnP K "meet" s_meet f fd) (g1 : mg "layers_made" = some (.ref fl)) (c1 : Cl P w K mg base 6 "stretches_made" (spStr6 fl K)) : FnOk P w K mg base CX0 7 f fd ["one", "other"] (spMeet K) :=
  fn_F F sc_meet (fun cdv A outer s H E hr => der_meet g1 c1 hr) (fun _ => rfl) fun g hp => by
    unfold t_meet
    walk_at "wp"
    exact ⟨(g.1, g.2, "both"), rfl, hp, fun r hr => by
      obtain ⟨z, rfl, h1, h2⟩ := hr
      exact ⟨_, ⟨z, rfl, h1, fun q => (h2 q).trans keep_both⟩, rfl⟩⟩
theorem fn_less {fl : Addr} (F : FnP K "less" s_less f fd) (g1 : mg "layers_made" = some (.ref fl)) (c1 : Cl P w K mg base 6 "stretches_made" (spStr6 fl K)) : FnOk P w K mg base CX0 7 f fd ["one", "other"] (spLess K) :=
  fn_F F sc_less (fun cdv A outer s H E hr => der_less g1 c1 hr) (fun _ => rfl) fun g hp => by
    unfold t_less
    walk_at "wp"
    exact ⟨(g.1, g.2, "first"), rfl, hp, fun r hr => by
      obtain ⟨z, rfl, h1, h2⟩ := hr
      exact ⟨_, ⟨z, rfl, h1, fun q => (h2 q).trans keep_first⟩, rfl⟩⟩
end
end Sw
set_option Elab.async false
set_option linter.all false
set_option maxRecDepth 100000
set_option maxHeartbeats 4000000
set_option autoImplicit false
namespace Sw
open PySem PySem.Spec PyProof.Rows L2
local macro_rules | `(tactic| walk_at "wp1") => `(tactic| first
  | with_reducible refine ws_seq ?_
  | with_reducible refine ws_par ?_
  | with_reducible refine ws_par3 ?_
  | with_reducible refine ws_set ?_
  | with_reducible refine ws_ret ?_
  | with_reducible refine ws_drop ?_
  | with_reducible refine ws_if ?_
  | with_reducible refine ws_next ?_
  | ((with_reducible refine' we_var ?hv ?_); (case hv => rfl))
  | with_reducible refine we_int ?_
  | with_reducible refine we_bl ?_
  | with_reducible refine we_str ?_
  | with_reducible refine we_non ?_
  | with_reducible refine we_raw ?_
  | with_reducible refine we_op ?_
  | with_reducible refine we_neg ?_
  | with_reducible refine we_tup ?_
  | with_reducible refine we_lst ?_
  | with_reducible refine we_cb ?_
  | with_reducible refine we_call ?_
  | with_reducible refine we_callC ?_
  | with_reducible refine we_if ?_
  | with_reducible refine we_and ?_
  | with_reducible refine we_or ?_
  | with_reducible refine we_not ?_
  | with_reducible refine we_chain ?_
  | with_reducible refine we_sl ?_
  | with_reducible refine wo_none ?_
  | with_reducible refine wo_some ?_
  | with_reducible refine wa_nil ?_
  | with_reducible refine wa_cons ?_
  | with_reducible refine wt_test ?_
  | with_reducible refine wt_B ?_
  | with_reducible refine wt_and ?_
  | with_reducible refine wt_or ?_
  | with_reducible refine wt_not ?_
  | with_reducible refine wt_yes ?_
  | with_reducible refine wr_add ?_
  | with_reducible refine wr_sub ?_
  | with_reducible refine wr_lt ?_
  | with_reducible refine wr_le ?_
  | with_reducible refine wr_gt ?_
  | with_reducible refine wr_eqI ?_
  | with_reducible refine wr_eqB ?_
  | with_reducible refine wr_eqS ?_
  | with_reducible refine wc_lenL ?_
  | with_reducible refine wc_lenT ?_
  | with_reducible refine wc_tupL ?_
  | ((with_reducible refine' wr_ixT ?hx ?_); (case hx => rfl))
  | with_reducible refine wg_name ?_
  | ((with_reducible refine' wg_tup ?hl ?_); (case hl => rfl))
  | with_reducible refine wgs_nil ?_
  | with_reducible refine wgs_cons ?_
  | refine ⟨_, rfl, ?_⟩
  | refine ⟨Nat.le_of_ble_eq_true rfl, ?_⟩
  | refine ⟨_, _, rfl, ?_⟩
  | refine ⟨_, _, _, rfl, ?_⟩
  | fail "no step")
local macro_rules | `(tactic| walk_at "wp") => `(tactic| repeat' walk_at "wp1")

/-! ### is_within, box, boxes_of, union_of, of_boxes -/
section
variable {P : Program} {w : World} {K : PySem.W.Frag} {mg : Str → Option Value} {base : Heap} {f : Addr} {fd : FuncData}
theorem sol_nil_iff {s : Sol} (h : WSol s) : s = [] ↔ ∀ p, ¬ mS s p := by
  constructor
  · rintro rfl p hp
    exact memT_nil hp
  · intro no
    by_cases e : s = []
    · exact e
    · obtain ⟨z, q, hq⟩ := h.point innLay.pt e
      exact absurd (show mS s (q.2, q.1, z) from hq) (no _)
abbrev qWithin (g : G2) (r : Ret) : Prop := ∃ b, r = .im (.bool b) ∧ (b = true ↔ ∀ p, mS g.1 p → mS g.2 p)
abbrev spWithin (K : PySem.W.Frag) : Sp := SpF K a2 p2 qWithin
theorem fn_is_within (F : FnP K "is_within" s_is_within f fd) (c1 : Cl P w K mg base 7 "less" (spLess K)) : FnOk P w K mg base CX0 8 f fd ["one", "other"] (spWithin K) :=
  fn_F F sc_is_within (fun cdv A outer s H E hr => der_is_within c1 hr) (fun _ => rfl) fun g hp => by
    unfold t_is_within
    refine ws_ret (we_op (we_call (wa_cons (we_var rfl (wa_cons (we_var rfl (wa_nil ⟨g, rfl, hp, fun r hr => ?_⟩)))))))
    obtain ⟨z, rfl, hz, hm⟩ := hr
    refine we_tup (wa_nil ⟨[], rfl, Nat.zero_le _, wr_eqD (dSol_sh z) (by rfl) ⟨_, ⟨_, rfl, ?_⟩, rfl⟩⟩)
    rw [eqv_nil_tup]
    have e : z.isEmpty = true ↔ z = [] := by cases z <;> simp
    rw [e, sol_nil_iff hz]
    constructor
    · intro h p h1
      exact Classical.byContradiction fun h2 => h p ((hm _).mpr ⟨h1, h2⟩)
    · intro h p h1
      have := (hm (p.2.2, p.2.1, p.1)).mp h1
      exact this.2 (h p this.1)
abbrev aBx (g : Bx) : List SV := [.im (d3 g.1), .im (d3 g.2)]
abbrev qBox (g : Bx) (r : Ret) : Prop := ∃ z : Sol, r = .im (dSol z) ∧ WSol z ∧ ∀ p, mS z p ↔ inB g p
abbrev spBox (K : PySem.W.Frag) : Sp := SpF K aBx BxIn qBox
theorem asc_one {p : Int × Int} (h : p.1 < p.2) : Asc [p] := ⟨by simp, fun q hq => by
  have e : q = p := by simpa using hq
  subst e
  exact h⟩
theorem wsol_box {g : Bx} (hi : BxIn g) (hn : BxNe g) : WSol [(g.1.2.2, g.2.2.2, [(g.1.2.1, g.2.2.1, [(g.1.1, g.2.1)])])] := by
  obtain ⟨n1, n2, n3⟩ := hn
  obtain ⟨⟨⟨a1, a2⟩, a3, a4⟩, ⟨⟨a5, a6⟩, a7, a8⟩, ⟨a9, a10⟩, a11, a12⟩ := hi
  refine ⟨asc_one n3, ?_, fun t ht => ?_⟩
  · intro p hp
    have e : p = (g.1.2.2, g.2.2.2) := by simpa using hp
    subst e
    exact ⟨a9, a12⟩
  · have e : t = (g.1.2.2, g.2.2.2, [(g.1.2.1, g.2.2.1, [(g.1.1, g.2.1)])]) := by simpa using ht
    subst e
    refine ⟨⟨asc_one n2, ?_, fun u hu => ?_⟩, by simp⟩
    · intro p hp
      have e : p = (g.1.2.1, g.2.2.1) := by simpa using hp
      subst e
      exact ⟨a5, a8⟩
    · have e : u = (g.1.2.1, g.2.2.1, [(g.1.1, g.2.1)]) := by simpa using hu
      subst e
      refine ⟨⟨asc_one n1, ?_⟩, by simp⟩
      intro p hp
      have e : p = (g.1.1, g.2.1) := by simpa using hp
      subst e
      exact ⟨a1, a4⟩
theorem run_box {aX : Addr} (hA : ∀ H, Dp K H (.ref aX) dAxes) (g : Bx) (hp : BxIn g) : WS K (t_box K aX) [some (.im (d3 g.1)), some (.im (d3 g.2)), none] [] (PostF qBox g) := by
  unfold t_box
  refine ws_seq (ws_if (wt_not (wt_B (we_cb (wa_cons (we_axes hA (d0 := .bool (decide (g.1.1 < g.2.1))) (d1 := .bool (decide (g.1.2.1 < g.2.2.1))) (d2 := .bool (decide (g.1.2.2 < g.2.2.2))) ?_ ?_ ?_ (.inl (wa_nil (wc_all (bs := [decide (g.1.1 < g.2.1), decide (g.1.2.1 < g.2.2.1), decide (g.1.2.2 < g.2.2.2)]) ⟨_, rfl, ?_, ?_⟩)))))))))
  · walk_at "wp"
    exact ⟨rfl, rfl⟩
  · walk_at "wp"
    exact ⟨rfl, rfl⟩
  · walk_at "wp"
    exact ⟨rfl, rfl⟩
  · intro e
    walk_at "wp"
    refine ⟨_, ⟨[], rfl, WFT.nil, fun p => ⟨fun h => absurd h memT_nil, fun h => ?_⟩⟩, rfl⟩
    obtain ⟨⟨h1, h2⟩, ⟨h3, h4⟩, h5, h6⟩ := h
    exfalso
    simp at e
    omega
  · intro e
    walk_at "wp"
    have hn : BxNe g := by
      simp at e
      exact ⟨e.1, e.2.1, e.2.2⟩
    refine ⟨_, ⟨[(g.1.2.2, g.2.2.2, [(g.1.2.1, g.2.2.1, [(g.1.1, g.2.1)])])], rfl, wsol_box hp hn, fun p => ?_⟩, rfl⟩
    unfold mS inB
    simp only [mSol, memT_one, mLay, memR_one, inI, ivT]
    constructor
    · rintro ⟨h1, h2, h3⟩
      exact ⟨h3, h2, h1⟩
    · rintro ⟨h1, h2, h3⟩
      exact ⟨h3, h2, h1⟩
theorem fn_box {aX : Addr} (hA : ∀ H, Dp K H (.ref aX) dAxes) (F : FnP K "box" s_box f fd) (mA : mg "AXES" = some (.ref aX)) (m1 : mg "all" = none) : FnOk P w K mg base CX0 1 f fd ["corner", "other"] (spBox K) :=
  fn_F F sc_box (fun cdv A outer s H E hr => der_box mA m1 hr) (fun _ => rfl) fun g hp => run_box hA g hp
/-! boxes_of -/
abbrev a1 (g : Sol) : List SV := [.im (dSol g)]
abbrev qBoxes (g : Sol) (r : Ret) : Prop := r = .cel (.lst ((boxesS g).map dBx))
abbrev spBoxes (K : PySem.W.Frag) : Sp := SpF K a1 WSol qBoxes
theorem take_snoc {α : Type} {l : List α} {i : Nat} {x : α} (h : l[i]? = some x) : l.take (i + 1) = l.take i ++ [x] := by
  rw [List.take_succ, h]
  rfl
theorem flatMap_snoc {α β : Type} {l : List α} {x : α} {F : α → List β} : (l ++ [x]).flatMap F = l.flatMap F ++ F x := by simp
theorem boxesS_sub {s : Sol} (h : WSol s) {bs : List Bx} (hs : bs.Sublist (boxesS s)) : bs.length ≤ 64000 := Nat.le_trans hs.length_le (boxes_len_all (boxes_ok h))
theorem flatMap_take_sub {α β : Type} {F : α → List β} : ∀ (l : List α) (i : Nat), ((l.take i).flatMap F).Sublist (l.flatMap F)
  | [], i => by simp
  | x :: l, 0 => by simp
  | x :: l, i + 1 => by
    rw [List.take_succ_cons, List.flatMap_cons, List.flatMap_cons]
    exact (List.Sublist.refl _).append (flatMap_take_sub l i)
theorem flatMap_split {α β : Type} {F : α → List β} {l : List α} {i : Nat} {x : α} (h : l[i]? = some x) {ys : List β} (hy : ys.Sublist (F x)) : ((l.take i).flatMap F ++ ys).Sublist (l.flatMap F) := by
  have e : ((l.take (i + 1)).flatMap F).Sublist (l.flatMap F) := flatMap_take_sub l (i + 1)
  rw [take_snoc h, flatMap_snoc] at e
  exact ((List.Sublist.refl _).append hy).trans e
theorem run_boxes_of (g : Sol) (hp : WSol g) : WS K (t_boxes_of K) [some (.im (dSol g)), none, none, none, none, none, none, none, none, none] [] (PostF qBoxes g) := by
  unfold t_boxes_of
  walk_at "wp"
  refine .inr fun l => ?_
  walk_at "wp"
  refine ws_for (wl_tup (we_var rfl ⟨_, rfl, ?_⟩))
  refine ⟨fun i ds' cs' => ∃ x2 x3 x4 x5 x6 x7 x8 x9 : Option SV, ds' = [some (.im (dSol g)), some (.raw (.ref l)), x2, x3, x4, x5, x6, x7, x8, x9] ∧ ∃ cs0, cs' = (l, .lst (((g.take i).flatMap fun t => boxesL t.1 t.2.1 t.2.2).map dBx)) :: cs0, ⟨_, _, _, _, _, _, _, _, rfl, _, rfl⟩, fun _ _ _ _ => srcOk_none, ?_, ?_⟩
  · rintro i ds' cs' x hx ⟨x2, x3, x4, x5, x6, x7, x8, x9, rfl, cs0, rfl⟩
    rw [List.getElem?_map] at hx
    obtain ⟨t, ht, rfl⟩ := Option.map_eq_some_iff.mp hx
    have wl := (hp.inn t (List.mem_of_getElem? ht)).1
    walk_at "wp"
    refine ws_for (wl_tup (we_var rfl ⟨_, rfl, ?_⟩))
    refine ⟨fun j ds' cs' => ∃ x5 x6 x7 x8 x9 : Option SV, ds' = [some (.im (dSol g)), some (.raw (.ref l)), some (iN t.1), some (iN t.2.1), some (.im (dLay t.2.2)), x5, x6, x7, x8, x9] ∧
      ∃ cs0, cs' = (l, .lst (((g.take i).flatMap (fun t => boxesL t.1 t.2.1 t.2.2) ++ boxesL t.1 t.2.1 (t.2.2.take j)).map dBx)) :: cs0, ⟨_, _, _, _, _, rfl, cs0, by simp [boxesL]⟩, fun _ _ _ _ => srcOk_none, ?_, ?_⟩
    · rintro j ds' cs' x hx ⟨x5, x6, x7, x8, x9, rfl, cs0, rfl⟩
      rw [List.getElem?_map] at hx
      obtain ⟨u, hu, rfl⟩ := Option.map_eq_some_iff.mp hx
      walk_at "wp"
      refine (we_extend (we_var rfl ⟨l, rfl, ⟨0, _, rfl⟩, wa_cons ?_⟩))
      refine we_map (l := u.2.2) (e := dP) (F := fun r => dBx ((r.1, u.1, t.1), (r.2, u.2.1, t.2.1))) (gk_tup (gks_cons (by simp) (gks_cons (by simp) gks_nil))) ?_ (wl_tup (we_var rfl ⟨_, rfl, rfl, srcOk_none, rfl⟩)) (fun r hr => ?_) (.inr fun l2 => wa_nil ⟨l2, cs0.length + 1, 0, _, (u.2.2.map fun r => dBx ((r.1, u.1, t.1), (r.2, u.2.1, t.2.1))), rfl, rfl, ?_, ?_, ?_⟩)
      · have := asc_len (wl.inn u (List.mem_of_getElem? hu)).1.asc (wl.inn u (List.mem_of_getElem? hu)).1.bnd (by decide)
        omega
      · walk_at "wp"
        refine ⟨rfl, ?_⟩
        walk_at "wp"
        exact ⟨rfl, rfl⟩
      · simp
      · have h1 : (boxesL t.1 t.2.1 (t.2.2.take j) ++ u.2.2.map fun r => ((r.1, u.1, t.1), (r.2, u.2.1, t.2.1))).Sublist (boxesL t.1 t.2.1 t.2.2) := by
          unfold boxesL
          exact flatMap_split hu (List.Sublist.refl _)
        have h2 := boxesS_sub hp (flatMap_split (F := fun t : Int × Int × Lay => boxesL t.1 t.2.1 t.2.2) ht h1)
        rw [List.length_map, List.length_map]
        simp only [List.length_append, List.length_map] at h2 ⊢
        omega
      · refine ⟨_, _, _, _, _, rfl, cs0 ++ [(l2, .lst (u.2.2.map fun r => dBx ((r.1, u.1, t.1), (r.2, u.2.1, t.2.1))))], ?_⟩
        rw [take_snoc hu]
        unfold boxesL
        rw [flatMap_snoc]
        simp
    · rintro ds' cs' ⟨x5, x6, x7, x8, x9, rfl, cs0, rfl⟩
      refine ⟨_, _, _, _, _, _, _, _, rfl, cs0, ?_⟩
      rw [take_snoc ht, flatMap_snoc, List.length_map, List.take_length]
  · rintro ds' cs' ⟨x2, x3, x4, x5, x6, x7, x8, x9, rfl, cs0, rfl⟩
    rw [List.length_map, List.take_length]
    exact ws_ret (we_var rfl ⟨_, rfl, l, rfl, 0, rfl⟩)
theorem fn_boxes_of (F : FnP K "boxes_of" s_boxes_of f fd) : FnOk P w K mg base CX0 1 f fd ["solid"] (spBoxes K) :=
  fn_F F sc_boxes_of (fun cdv A outer s H E hr => der_boxes_of hr) (fun _ => rfl) fun g hp => run_boxes_of g hp
end
end Sw
set_option Elab.async false
set_option linter.all false
set_option maxRecDepth 100000
set_option maxHeartbeats 4000000
set_option autoImplicit false
namespace Sw
open PySem PySem.Spec PyProof.Rows L2
local macro_rules | `(tactic| walk_at "wp1") => `(tactic| first
  | with_reducible refine ws_seq ?_
  | with_reducible refine ws_par ?_
  | with_reducible refine ws_par3 ?_
  | with_reducible refine ws_set ?_
  | with_reducible refine ws_ret ?_
  | with_reducible refine ws_drop ?_
  | with_reducible refine ws_if ?_
  | with_reducible refine ws_next ?_
  | ((with_reducible refine' we_var ?hv ?_); (case hv => rfl))
  | with_reducible refine we_int ?_
  | with_reducible refine we_bl ?_
  | with_reducible refine we_str ?_
  | with_reducible refine we_non ?_
  | with_reducible refine we_raw ?_
  | with_reducible refine we_op ?_
  | with_reducible refine we_neg ?_
  | with_reducible refine we_tup ?_
  | with_reducible refine we_lst ?_
  | with_reducible refine we_cb ?_
  | with_reducible refine we_call ?_
  | with_reducible refine we_callC ?_
  | with_reducible refine we_if ?_
  | with_reducible refine we_and ?_
  | with_reducible refine we_or ?_
  | with_reducible refine we_not ?_
  | with_reducible refine we_chain ?_
  | with_reducible refine we_sl ?_
  | with_reducible refine wo_none ?_
  | with_reducible refine wo_some ?_
  | with_reducible refine wa_nil ?_
  | with_reducible refine wa_cons ?_
  | with_reducible refine wt_test ?_
  | with_reducible refine wt_B ?_
  | with_reducible refine wt_and ?_
  | with_reducible refine wt_or ?_
  | with_reducible refine wt_not ?_
  | with_reducible refine wt_yes ?_
  | with_reducible refine wr_add ?_
  | with_reducible refine wr_sub ?_
  | with_reducible refine wr_lt ?_
  | with_reducible refine wr_le ?_
  | with_reducible refine wr_gt ?_
  | with_reducible refine wr_eqI ?_
  | with_reducible refine wr_eqB ?_
  | with_reducible refine wr_eqS ?_
  | with_reducible refine wc_lenL ?_
  | with_reducible refine wc_lenT ?_
  | with_reducible refine wc_tupL ?_
  | ((with_reducible refine' wr_ixT ?hx ?_); (case hx => rfl))
  | with_reducible refine wg_name ?_
  | ((with_reducible refine' wg_tup ?hl ?_); (case hl => rfl))
  | with_reducible refine wgs_nil ?_
  | with_reducible refine wgs_cons ?_
  | refine ⟨_, rfl, ?_⟩
  | refine ⟨Nat.le_of_ble_eq_true rfl, ?_⟩
  | refine ⟨_, _, rfl, ?_⟩
  | refine ⟨_, _, _, rfl, ?_⟩
  | fail "no step")
local macro_rules | `(tactic| walk_at "wp") => `(tactic| repeat' walk_at "wp1")

/-! ### union_of, of_boxes -/
section
variable {P : Program} {w : World} {K : PySem.W.Frag} {mg : Str → Option Value} {base : Heap} {f : Addr} {fd : FuncData}
theorem exC {α : Type} {Q : α → Prop} {x : α} {l : List α} : (∃ s ∈ x :: l, Q s) ↔ Q x ∨ ∃ s ∈ l, Q s := by simp
def pairs2 {α : Type} : List α → List (α × α)
  | x :: y :: r => (x, y) :: pairs2 r
  | _ => []
theorem alt_map {α β : Type} (F : α → β) : ∀ l : List α, alt (l.map F) = (alt l).map F
  | [] => by simp [alt]
  | [x] => by simp [alt]
  | x :: y :: r => by
    show F x :: alt (r.map F) = F x :: (alt r).map F
    rw [alt_map F r]
theorem alt_cons {α : Type} (x y : α) (r : List α) : alt (x :: y :: r) = x :: alt r := rfl
theorem pairsD_alt {α : Type} (F : α → PyData) : ∀ l : List α, pairsD (alt (l.map F)) (alt ((l.map F).drop 1)) = (pairs2 l).map fun p => .tuple [F p.1, F p.2]
  | [] => by simp [alt, pairsD, pairs2]
  | [x] => by simp [alt, pairsD, pairs2]
  | [x, y] => by simp [alt, pairsD, pairs2]
  | x :: y :: z :: r => by
    have ih := pairsD_alt F (z :: r)
    show PyData.tuple [F x, F y] :: pairsD (alt ((z :: r).map F)) (alt (((z :: r).map F).drop 1)) = PyData.tuple [F x, F y] :: (pairs2 (z :: r)).map _
    rw [ih]
theorem pairs2_len {α : Type} : ∀ l : List α, (pairs2 l).length = l.length / 2
  | [] => by simp [pairs2]
  | [x] => by simp [pairs2]
  | x :: y :: r => by
    show (pairs2 r).length + 1 = (r.length + 1 + 1) / 2
    rw [pairs2_len r]
    omega
theorem pairs2_mem {α : Type} (Q : α → Prop) : ∀ l : List α, (∃ s ∈ l, Q s) ↔ (∃ p ∈ pairs2 l, Q p.1 ∨ Q p.2) ∨ ∃ s ∈ l.drop (l.length / 2 * 2), Q s
  | [] => by simp [pairs2]
  | [x] => by simp [pairs2]
  | x :: y :: r => by
    have ih := pairs2_mem Q r
    have e : (x :: y :: r).drop ((x :: y :: r).length / 2 * 2) = r.drop (r.length / 2 * 2) := by
      rw [show (x :: y :: r).length / 2 * 2 = (r.length / 2 * 2 + 1) + 1 by simp only [List.length_cons]; omega]
      rfl
    rw [e]
    show (∃ s ∈ x :: y :: r, Q s) ↔ (∃ p ∈ (x, y) :: pairs2 r, Q p.1 ∨ Q p.2) ∨ _
    rw [exC, exC, exC, ih]
    simp only [or_assoc]
theorem cutD_from {xs : List PyData} {n : Nat} (h : n ≤ xs.length) : cutD xs (some (n : Int)) none = xs.drop n := by
  unfold cutD
  rw [HT.sIx_nat, HT.sIx_none, Nat.min_eq_left h]
  exact List.take_of_length_le (by rw [List.length_drop]; exact Nat.le_refl _)
theorem zs_of {α : Type} {A : α → Pt → Prop} {l : List α} {ys : List PyData} (h : Paired (fun p d => ∃ z, d = dSol z ∧ WSol z ∧ ∀ q, mS z q ↔ A p q) l ys) : ∃ zs : List Sol, ys = zs.map dSol ∧ zs.length = l.length ∧ (∀ z ∈ zs, WSol z) ∧ ∀ q, (∃ z ∈ zs, mS z q) ↔ ∃ p ∈ l, A p q := by
  induction h with
  | nil => exact ⟨[], rfl, rfl, fun _ h => (by cases h), fun q => by simp⟩
  | @cons p y ps ys h t ih =>
    obtain ⟨zs, rfl, h1, h2, h3⟩ := ih
    obtain ⟨z, rfl, hz, hq⟩ := h
    refine ⟨z :: zs, rfl, by simp [h1], fun s hs => ?_, fun q => ?_⟩
    · rcases List.mem_cons.mp hs with rfl | hs
      · exact hz
      · exact h2 s hs
    · rw [exC, exC, h3, hq]
abbrev aSols (g : List Sol) : List SV := [.im (.list (g.map dSol))]
abbrev pSols (g : List Sol) : Prop := (∀ s ∈ g, WSol s) ∧ g.length ≤ 1000000
abbrev qSols (g : List Sol) (r : Ret) : Prop := ∃ z : Sol, r = .im (dSol z) ∧ WSol z ∧ ∀ p, mS z p ↔ ∃ s ∈ g, mS s p
abbrev spUnionOf (K : PySem.W.Frag) : Sp := SpF K aSols pSols qSols
theorem run_union_of (g : List Sol) (hp : pSols g) : WS K (t_union_of K (spUnion K)) [some (.im (.list (g.map dSol))), none, none, none, none] [] (PostF qSols g) := by
  obtain ⟨hw, hl⟩ := hp
  unfold t_union_of
  refine ws_seq (ws_set (we_cb (wa_cons (we_var rfl (wa_nil (wc_listL (.inr fun l0 => ?_)))))))
  refine ws_seq (ws_while (fun m ds' cs' => ∃ (l : Addr) (j : Nat) (ss : List Sol) (x2 x3 x4 : Option SV), ds' = [some (.im (.list (g.map dSol))), some (.raw (.ref l)), x2, x3, x4] ∧ cs'[j]? = some (l, .lst (ss.map dSol)) ∧ (∀ s ∈ ss, WSol s) ∧ (∀ p, (∃ s ∈ ss, mS s p) ↔ ∃ s ∈ g, mS s p) ∧ ss.length = m ∧ m ≤ 1000000) g.length ⟨l0, 0, g, none, none, none, rfl, rfl, hw, fun p => Iff.rfl, rfl, hl⟩ fun m ds' cs' hI => ?_)
  obtain ⟨l, j, ss, x2, x3, x4, rfl, hj, hs, hm, hlen, hmx⟩ := hI
  refine wt_test (we_op (we_cb (wa_cons (we_var rfl (wa_nil (wc_lenC hj (we_int (wr_gt ⟨_, rfl, fun e => ?_, fun e => ?_⟩))))))))
  · have h1 : 1 < ss.length := by
      have := of_decide_eq_true e
      rw [List.length_map] at this
      omega
    refine ws_seq (ws_set ?_)
    refine we_mapR (l := pairs2 ss) (e := fun p => .tuple [dSol p.1, dSol p.2]) (R := fun p d => ∃ z, d = dSol z ∧ WSol z ∧ ∀ q, mS z q ↔ mS p.1 q ∨ mS p.2 q) (gk_tup (gks_cons (by simp) (gks_cons (by simp) gks_nil))) (by rw [pairs2_len]; omega) ?_ (fun p hp => ?_) fun ys hys => .inr fun l2 => ?_
    · refine wl_zip (wa_cons (we_altC (we_var rfl ⟨l, j, _, rfl, hj, Nat.zero_le _, .inl ?_⟩)))
      refine wa_cons (we_altC (we_var rfl ⟨l, j, _, rfl, hj, (by rw [List.length_map]; omega), .inl ?_⟩))
      refine wa_nil ⟨_, _, rfl, ?_, srcOk_none, rfl⟩
      exact pairsD_alt dSol ss
    · have hpm : WSol p.1 ∧ WSol p.2 := by
        have key : ∀ (l : List Sol), (∀ s ∈ l, WSol s) → ∀ p ∈ pairs2 l, WSol p.1 ∧ WSol p.2 := by
          intro l
          induction l using pairs2.induct with
          | case1 x y r ih =>
            intro h p hp
            rcases List.mem_cons.mp (show p ∈ (x, y) :: pairs2 r from hp) with e | hp
            · subst e
              exact ⟨h x (by simp), h y (by simp)⟩
            · exact ih (fun s hs => h s (List.mem_cons_of_mem _ (List.mem_cons_of_mem _ hs))) p hp
          | case2 l h1 =>
            intro _ p hp
            exfalso
            match l, h1, hp with
            | [], _, hp => cases hp
            | [x], _, hp => cases hp
            | x :: y :: r, h1, _ => exact h1 x y r rfl
        exact key ss hs p hp
      walk_at "wp"
      refine ⟨rfl, we_call (wa_cons (we_var rfl (wa_cons (we_var rfl (wa_nil ⟨(p.1, p.2), rfl, hpm, fun r hr => ?_⟩)))))⟩
      obtain ⟨z, rfl, h2, h3⟩ := hr
      exact ⟨rfl, _, rfl, z, rfl, h2, fun q => h3 _⟩
    · obtain ⟨zs, rfl, hzl, hzw, hzm⟩ := zs_of hys
      have hj1 : ∀ X : Cell, (cs' ++ [(l2, X)])[j]? = some (l, .lst (ss.map dSol)) := fun X => by
        rw [List.getElem?_append_left (List.getElem?_eq_some_iff.mp hj).1]
        exact hj
      refine ws_set (we_op (we_var rfl (we_sl (we_var rfl (wo_some (we_op (we_op (we_cb (wa_cons (we_var rfl (wa_nil (wc_lenC (hj1 _) ?_))))))))))))
      refine we_int (wr_fdiv ⟨by decide, by decide⟩ (we_int (wr_mul (.inr ⟨by decide, by decide⟩) ⟨_, rfl, wo_none (wsl_C (hj1 _) (.inr fun l3 => ?_))⟩)))
      have ecut : cutD (ss.map dSol) (some (((ss.map dSol).length : Int) / 2 * 2)) none = (ss.drop (ss.length / 2 * 2)).map dSol := by
        rw [List.length_map, show ((ss.length : Int) / 2 * 2) = ((ss.length / 2 * 2 : Nat) : Int) by omega, cutD_from (by rw [List.length_map]; omega), List.map_drop]
      rw [ecut]
      have hz1 : (pairs2 ss).length = ss.length / 2 := pairs2_len ss
      have hdl : (ss.drop (ss.length / 2 * 2)).length = ss.length - ss.length / 2 * 2 := List.length_drop ..
      refine wr_cat (i := cs'.length) (j := cs'.length + 1) (xs := zs.map dSol) (ys := (ss.drop (ss.length / 2 * 2)).map dSol) (by simp) (by simp) (by rw [List.length_map, List.length_map]; omega) (.inr fun l4 => ?_)
      refine ⟨zs.length + (ss.drop (ss.length / 2 * 2)).length, by omega, l4, cs'.length + 2, zs ++ ss.drop (ss.length / 2 * 2), _, _, _, rfl, by simp, fun s hs' => ?_, fun p => ?_, by rw [List.length_append], by omega⟩
      · rcases List.mem_append.mp hs' with h | h
        · exact hzw s h
        · exact hs s (List.mem_of_mem_drop h)
      · rw [← hm p, pairs2_mem (fun s => mS s p) ss, ← hzm p]
        constructor
        · rintro ⟨s, h, hq⟩
          rcases List.mem_append.mp h with h | h
          · exact .inl ⟨s, h, hq⟩
          · exact .inr ⟨s, h, hq⟩
        · rintro (⟨s, h, hq⟩ | ⟨s, h, hq⟩)
          · exact ⟨s, List.mem_append_left _ h, hq⟩
          · exact ⟨s, List.mem_append_right _ h, hq⟩
  · have h1 : ss.length ≤ 1 := by
      have := of_decide_eq_false e
      rw [List.length_map] at this
      omega
    refine ws_ret (we_if (wt_test (we_op (we_var rfl (we_lst (wa_nil ⟨[], rfl, Nat.zero_le _, .inl (wr_neDc (xs := ss.map dSol) hj (list_sh dSol_lay dSol_dep (by decide) _) (by rfl) ⟨_, rfl, fun e => ?_, fun e => ?_⟩)⟩))))))
    · rw [eqv_nil_list] at e
      cases ss with
      | nil => cases e
      | cons s ss =>
        have e0 : ss = [] := by
          cases ss with
          | nil => rfl
          | cons t r =>
            simp only [List.length_cons] at h1
            omega
        subst e0
        exact we_op (we_var rfl (we_int (wr_ixLc hj (atI_nat (j := 0) rfl) ⟨_, ⟨s, rfl, hs s (by simp), fun p => by rw [← hm p]; simp⟩, rfl⟩)))
    · rw [eqv_nil_list] at e
      have e0 : ss = [] := by
        cases ss with
        | nil => rfl
        | cons t r => cases e
      subst e0
      exact we_tup (wa_nil ⟨[], rfl, Nat.zero_le _, _, ⟨[], rfl, WFT.nil, fun p => ⟨fun h => absurd h memT_nil, fun h => by
        rw [← hm p] at h
        obtain ⟨s, h, _⟩ := h
        cases h⟩⟩, rfl⟩)
theorem fn_union_of (F : FnP K "union_of" s_union_of f fd) (c1 : Cl P w K mg base 7 "union" (spUnion K)) (m1 : mg "list" = none) (m2 : mg "len" = none) (m3 : mg "zip" = none) : FnOk P w K mg base CX0 8 f fd ["solids"] (spUnionOf K) :=
  fn_F F sc_union_of (fun cdv A outer s H E hr => by first | exact der_union_of c1 m1 m2 m3 hr | exact der_union_of c1 m1 m3 m2 hr | exact der_union_of c1 m2 m1 m3 hr) (fun _ => rfl) fun g hp => run_union_of g hp
/-! of_boxes -/
abbrev aBoxes (g : List Bx) : List SV := [.im (.list (g.map dBx))]
abbrev pBoxes (g : List Bx) : Prop := (∀ b ∈ g, BxIn b) ∧ g.length ≤ 1000000
abbrev qOfB (g : List Bx) (r : Ret) : Prop := ∃ z : Sol, r = .im (dSol z) ∧ WSol z ∧ ∀ p, mS z p ↔ ∃ b ∈ g, inB b p
abbrev spOfB (K : PySem.W.Frag) : Sp := SpF K aBoxes pBoxes qOfB
theorem run_of_boxes (g : List Bx) (hp : pBoxes g) : WS K (t_of_boxes K (spBox K) (spUnionOf K)) [some (.im (.list (g.map dBx))), none, none] [] (PostF qOfB g) := by
  obtain ⟨hb, hl⟩ := hp
  unfold t_of_boxes
  refine ws_ret (we_call (wa_cons ?_))
  refine we_mapR (l := g) (e := dBx) (R := fun b d => ∃ z, d = dSol z ∧ WSol z ∧ ∀ q, mS z q ↔ inB b q) (gk_tup (gks_cons (by simp) (gks_cons (by simp) gks_nil))) hl (wl_list (we_var rfl ⟨_, rfl, rfl, srcOk_none, rfl⟩)) (fun b hb' => ?_) fun ys hys => .inl ?_
  · walk_at "wp"
    refine ⟨rfl, we_call (wa_cons (we_var rfl (wa_cons (we_var rfl (wa_nil ⟨(b.1, b.2), rfl, hb b hb', fun r hr => ?_⟩)))))⟩
    obtain ⟨z, rfl, h2, h3⟩ := hr
    exact ⟨rfl, _, rfl, z, rfl, h2, h3⟩
  · obtain ⟨zs, rfl, hzl, hzw, hzm⟩ := zs_of hys
    refine wa_nil ⟨zs, rfl, ⟨hzw, by omega⟩, fun r hr => ?_⟩
    obtain ⟨z, rfl, h2, h3⟩ := hr
    exact ⟨_, ⟨z, rfl, h2, fun p => (h3 p).trans (hzm p)⟩, rfl⟩
theorem fn_of_boxes (F : FnP K "of_boxes" s_of_boxes f fd) (c1 : Cl P w K mg base 1 "box" (spBox K)) (c2 : Cl P w K mg base 8 "union_of" (spUnionOf K)) : FnOk P w K mg base CX0 9 f fd ["boxes"] (spOfB K) :=
  fn_F F sc_of_boxes (fun cdv A outer s H E hr => by first | exact der_of_boxes c1 c2 hr | exact der_of_boxes c2 c1 hr) (fun _ => rfl) fun g hp => run_of_boxes g hp
end
end Sw
set_option Elab.async false
set_option linter.all false
set_option maxRecDepth 100000
set_option maxHeartbeats 4000000
set_option autoImplicit false
namespace Sw
open PySem PySem.Spec PyProof.Rows L2
local macro_rules | `(tactic| walk_at "wp1") => `(tactic| first
  | with_reducible refine ws_seq ?_
  | with_reducible refine ws_par ?_
  | with_reducible refine ws_par3 ?_
  | with_reducible refine ws_set ?_
  | with_reducible refine ws_ret ?_
  | with_reducible refine ws_drop ?_
  | with_reducible refine ws_if ?_
  | with_reducible refine ws_next ?_
  | ((with_reducible refine' we_var ?hv ?_); (case hv => rfl))
  | with_reducible refine we_int ?_
  | with_reducible refine we_bl ?_
  | with_reducible refine we_str ?_
  | with_reducible refine we_non ?_
  | with_reducible refine we_raw ?_
  | with_reducible refine we_op ?_
  | with_reducible refine we_neg ?_
  | with_reducible refine we_tup ?_
  | with_reducible refine we_lst ?_
  | with_reducible refine we_cb ?_
  | with_reducible refine we_call ?_
  | with_reducible refine we_callC ?_
  | with_reducible refine we_if ?_
  | with_reducible refine we_and ?_
  | with_reducible refine we_or ?_
  | with_reducible refine we_not ?_
  | with_reducible refine we_chain ?_
  | with_reducible refine we_sl ?_
  | with_reducible refine wo_none ?_
  | with_reducible refine wo_some ?_
  | with_reducible refine wa_nil ?_
  | with_reducible refine wa_cons ?_
  | with_reducible refine wt_test ?_
  | with_reducible refine wt_B ?_
  | with_reducible refine wt_and ?_
  | with_reducible refine wt_or ?_
  | with_reducible refine wt_not ?_
  | with_reducible refine wt_yes ?_
  | with_reducible refine wr_add ?_
  | with_reducible refine wr_sub ?_
  | with_reducible refine wr_lt ?_
  | with_reducible refine wr_le ?_
  | with_reducible refine wr_gt ?_
  | with_reducible refine wr_eqI ?_
  | with_reducible refine wr_eqB ?_
  | with_reducible refine wr_eqS ?_
  | with_reducible refine wc_lenL ?_
  | with_reducible refine wc_lenT ?_
  | with_reducible refine wc_tupL ?_
  | ((with_reducible refine' wr_ixT ?hx ?_); (case hx => rfl))
  | with_reducible refine wg_name ?_
  | ((with_reducible refine' wg_tup ?hl ?_); (case hl => rfl))
  | with_reducible refine wgs_nil ?_
  | with_reducible refine wgs_cons ?_
  | refine ⟨_, rfl, ?_⟩
  | refine ⟨Nat.le_of_ble_eq_true rfl, ?_⟩
  | refine ⟨_, _, rfl, ?_⟩
  | refine ⟨_, _, _, rfl, ?_⟩
  | fail "no step")
local macro_rules | `(tactic| walk_at "wp") => `(tactic| repeat' walk_at "wp1")

/-! ### moved, has, do_touch -/
section
variable {P : Program} {w : World} {K : PySem.W.Frag} {mg : Str → Option Value} {base : Heap} {f : Addr} {fd : FuncData}
abbrev padd (p b : Pt) : Pt := (p.1 + b.1, p.2.1 + b.2.1, p.2.2 + b.2.2)
abbrev movR (b : Int) (r : Iv) : Iv := r.map fun p => (p.1 + b, p.2 + b)
abbrev movL (b : Pt) (l : Lay) : Lay := l.map fun u => (u.1 + b.2.1, u.2.1 + b.2.1, movR b.1 u.2.2)
abbrev movS (b : Pt) (s : Sol) : Sol := s.map fun t => (t.1 + b.2.2, t.2.1 + b.2.2, movL b t.2.2)
theorem asc_mov {r : Iv} (h : Asc r) (b : Int) : Asc (movR b r) := ⟨by
  rw [List.pairwise_map]
  exact h.pw.imp fun {p q} z => by show p.2 + b ≤ q.1 + b; omega, fun p hp => by
  obtain ⟨q, hq, rfl⟩ := List.mem_map.mp hp
  have := h.ne q hq
  show q.1 + b < q.2 + b
  omega⟩
theorem movT_iv {δ ε : Type} (b : Int) (F : List δ → List ε) (s : Stt δ) : (s.map fun t => (t.1 + b, t.2.1 + b, F t.2.2)).map ivT = movR b (s.map ivT) := by
  unfold movR
  rw [List.map_map, List.map_map]
  rfl
theorem mS_mov {b : Pt} {s : Sol} {p : Pt} : mS (movS b s) (padd p b) ↔ mS s p := by
  unfold mS mSol memT mLay memT memR inI
  constructor
  · rintro ⟨t', ht', hz, u', hu', hy, r', hr', hx⟩
    obtain ⟨t, ht, rfl⟩ := List.mem_map.mp ht'
    obtain ⟨u, hu, rfl⟩ := List.mem_map.mp hu'
    obtain ⟨r, hr, rfl⟩ := List.mem_map.mp hr'
    simp only at hz hy hx
    exact ⟨t, ht, ⟨by show t.1 ≤ p.2.2; omega, by show p.2.2 < t.2.1; omega⟩, u, hu, ⟨by show u.1 ≤ p.2.1; omega, by show p.2.1 < u.2.1; omega⟩, r, hr, by show r.1 ≤ p.1; omega, by show p.1 < r.2; omega⟩
  · rintro ⟨t, ht, hz, u, hu, hy, r, hr, hx⟩
    simp only at hz hy hx
    exact ⟨_, List.mem_map.mpr ⟨t, ht, rfl⟩, ⟨by show t.1 + b.2.2 ≤ p.2.2 + b.2.2; omega, by show p.2.2 + b.2.2 < t.2.1 + b.2.2; omega⟩, _, List.mem_map.mpr ⟨u, hu, rfl⟩, ⟨by show u.1 + b.2.1 ≤ p.2.1 + b.2.1; omega, by show p.2.1 + b.2.1 < u.2.1 + b.2.1; omega⟩,
      _, List.mem_map.mpr ⟨r, hr, rfl⟩, by show r.1 + b.1 ≤ p.1 + b.1; omega, by show p.1 + b.1 < r.2 + b.1; omega⟩
abbrev GMov := Sol × Pt
abbrev aMov (g : GMov) : List SV := [.im (dSol g.1), .im (d3 g.2)]
abbrev pMov (g : GMov) : Prop := WSol g.1 ∧ ∀ p, mS g.1 p → inB cAll (padd p g.2)
abbrev qMov (g : GMov) (r : Ret) : Prop := ∃ z : Sol, r = .im (dSol z) ∧ WSol z ∧ ∀ p, mS z (padd p g.2) ↔ mS g.1 p
abbrev spMov (K : PySem.W.Frag) : Sp := SpF K aMov pMov qMov
theorem wsol_mov {s : Sol} {b : Pt} (h : WSol s) (hb : ∀ p, mS s p → inB cAll (padd p b)) : WSol (movS b s) := by
  have pt : ∀ t ∈ s, ∀ u ∈ t.2.2, ∀ r ∈ u.2.2, ∀ x y z, inI r x → inI (ivT u) y → inI (ivT t) z → mS s (x, y, z) := fun t ht u hu r hr x y z hx hy hz => ⟨t, ht, hz, u, hu, hy, r, hr, hx⟩
  have ends : ∀ {a c : Int}, a < c → inI (a, c) a ∧ inI (a, c) (c - 1) := fun {a c} h => ⟨⟨Int.le_refl _, h⟩, by show a ≤ c - 1; omega, by show c - 1 < c; omega⟩
  have key : ∀ t ∈ s, ∀ u ∈ t.2.2, ∀ r ∈ u.2.2, (-20 ≤ t.1 + b.2.2 ∧ t.2.1 + b.2.2 ≤ 20) ∧ (-20 ≤ u.1 + b.2.1 ∧ u.2.1 + b.2.1 ≤ 20) ∧ (-20 ≤ r.1 + b.1 ∧ r.2 + b.1 ≤ 20) := fun t ht u hu r hr => by
    have h1 : t.1 < t.2.1 := h.asc.ne (ivT t) (List.mem_map.mpr ⟨t, ht, rfl⟩)
    have wl := (h.inn t ht).1
    have h2 : u.1 < u.2.1 := wl.asc.ne (ivT u) (List.mem_map.mpr ⟨u, hu, rfl⟩)
    have h3 := (wl.inn u hu).1.asc.ne r hr
    have a1 := hb _ (pt t ht u hu r hr r.1 u.1 t.1 (ends h3).1 (ends h2).1 (ends h1).1)
    have a2 := hb _ (pt t ht u hu r hr (r.2 - 1) (u.2.1 - 1) (t.2.1 - 1) (ends h3).2 (ends h2).2 (ends h1).2)
    obtain ⟨⟨b1, b2⟩, ⟨b3, b4⟩, b5, b6⟩ := a1
    obtain ⟨⟨c1, c2⟩, ⟨c3, c4⟩, c5, c6⟩ := a2
    simp only at b1 b2 b3 b4 b5 b6 c1 c2 c3 c4 c5 c6
    omega
  refine ⟨by rw [movT_iv]; exact asc_mov h.asc _, ?_, fun t' ht' => ?_⟩
  · rw [movT_iv]
    intro p hp
    obtain ⟨q, hq, rfl⟩ := List.mem_map.mp hp
    obtain ⟨t, ht, rfl⟩ := List.mem_map.mp hq
    obtain ⟨wl, ne⟩ := h.inn t ht
    obtain ⟨u, hu⟩ := List.exists_mem_of_ne_nil _ ne
    obtain ⟨r, hr⟩ := List.exists_mem_of_ne_nil _ (wl.inn u hu).2
    exact (key t ht u hu r hr).1
  · obtain ⟨t, ht, rfl⟩ := List.mem_map.mp ht'
    obtain ⟨wl, ne⟩ := h.inn t ht
    refine ⟨⟨by rw [movT_iv]; exact asc_mov wl.asc _, ?_, fun u' hu' => ?_⟩, by simpa using ne⟩
    · rw [movT_iv]
      intro p hp
      obtain ⟨q, hq, rfl⟩ := List.mem_map.mp hp
      obtain ⟨u, hu, rfl⟩ := List.mem_map.mp hq
      obtain ⟨r, hr⟩ := List.exists_mem_of_ne_nil _ (wl.inn u hu).2
      exact (key t ht u hu r hr).2.1
    · obtain ⟨u, hu, rfl⟩ := List.mem_map.mp hu'
      obtain ⟨wr, ne2⟩ := wl.inn u hu
      refine ⟨⟨asc_mov wr.asc _, ?_⟩, by simpa using ne2⟩
      intro p hp
      obtain ⟨r, hr, rfl⟩ := List.mem_map.mp hp
      exact (key t ht u hu r hr).2.2
theorem run_moved (g : GMov) (hp : pMov g) : WS K (t_moved K) [some (.im (dSol g.1)), some (.im (d3 g.2)), none, none, none, none, none, none, none, none, none, none, none, none, none] [] (PostF qMov g) := by
  obtain ⟨hw, hb⟩ := hp
  have lenS : g.1.length ≤ 40 := by
    have := hw.len (by decide)
    omega
  unfold t_moved
  refine ws_seq (ws_asg (we_var rfl ?_))
  walk_at "wp"
  refine .inr fun l => ?_
  walk_at "wp"
  refine ws_for (wl_tup (we_var rfl ⟨_, rfl, ?_⟩))
  refine ⟨fun i ds' cs' => ∃ x6 x7 x8 x9 x10 x11 x12 x13 x14 : Option SV, ds' = [some (.im (dSol g.1)), some (.im (d3 g.2)), some (iN g.2.1), some (iN g.2.2.1), some (iN g.2.2.2), some (.raw (.ref l)), x6, x7, x8, x9, x10, x11, x12, x13, x14] ∧ cs' = [(l, .lst ((movS g.2 (g.1.take i)).map (dS dLay)))], ⟨_, _, _, _, _, _, _, _, _, rfl, rfl⟩, fun _ _ _ _ => srcOk_none, ?_, ?_⟩
  · rintro i ds' cs' x hx ⟨x6, x7, x8, x9, x10, x11, x12, x13, x14, rfl, rfl⟩
    rw [List.getElem?_map] at hx
    obtain ⟨t, ht, rfl⟩ := Option.map_eq_some_iff.mp hx
    have wl := (hw.inn t (List.mem_of_getElem? ht)).1
    have lenL := wl.len (by decide)
    walk_at "wp"
    refine we_map (l := t.2.2) (e := dS dRow) (F := fun u => dS dRow (u.1 + g.2.2.1, u.2.1 + g.2.2.1, movR g.2.1 u.2.2)) (gk_tup (gks_cons (by simp) (gks_cons (by simp) (gks_cons (by simp) gks_nil)))) (by omega) (wl_tup (we_var rfl ⟨_, rfl, rfl, srcOk_none, rfl⟩)) (fun u hu => ?_) (.inl ?_)
    · have lenR := asc_len (wl.inn u hu).1.asc (wl.inn u hu).1.bnd (by decide)
      walk_at "wp"
      refine ⟨rfl, ?_⟩
      walk_at "wp"
      refine we_map (l := u.2.2) (e := dP) (F := fun r => dP (r.1 + g.2.1, r.2 + g.2.1)) (gk_tup (gks_cons (by simp) (gks_cons (by simp) gks_nil))) (by omega) (wl_tup (we_var rfl ⟨_, rfl, rfl, srcOk_none, rfl⟩)) (fun r hr => ?_) (.inl ?_)
      · walk_at "wp"
        refine ⟨rfl, ?_⟩
        walk_at "wp"
        exact ⟨rfl, rfl⟩
      · walk_at "wp"
        refine ⟨rfl, ?_⟩
        simp [dS, dRow, List.map_map]
    · walk_at "wp"
      refine we_append (we_var rfl ⟨l, rfl, ⟨0, _, rfl⟩, ?_⟩)
      walk_at "wp"
      refine ⟨_, 0, _, rfl, rfl, ?_, ?_⟩
      · rw [List.length_map, List.length_map, List.length_take]
        omega
      · refine ⟨_, _, _, _, _, _, _, _, _, rfl, ?_⟩
        rw [take_snoc ht]
        simp [dS, dLay, List.map_map]
  · rintro ds' cs' ⟨x6, x7, x8, x9, x10, x11, x12, x13, x14, rfl, rfl⟩
    rw [List.length_map, List.take_length]
    refine ws_ret (we_cb (wa_cons (we_var rfl (wa_nil (wc_tupC (j := 0) rfl ⟨_, ⟨movS g.2 g.1, rfl, wsol_mov hw hb, fun p => mS_mov⟩, rfl⟩)))))
theorem fn_moved (F : FnP K "moved" s_moved f fd) (m1 : mg "tuple" = none) : FnOk P w K mg base CX0 1 f fd ["solid", "by"] (spMov K) :=
  fn_F F sc_moved (fun cdv A outer s H E hr => der_moved m1 hr) (fun _ => rfl) fun g hp => run_moved g hp
/-! do_touch -/
def cnt (a b c : Bool) : Int := (if a then 1 else 0) + (if b then 1 else 0) + (if c then 1 else 0)
def flB (a0 a1 b0 b1 : Int) : Bool := decide (a1 = b0) || decide (b1 = a0)
def ovB (a0 a1 b0 b1 : Int) : Bool := decide (a0 < b1) && decide (b0 < a1)
def touchB (a b : Bx) : Bool := decide (cnt (flB a.1.1 a.2.1 b.1.1 b.2.1) (flB a.1.2.1 a.2.2.1 b.1.2.1 b.2.2.1) (flB a.1.2.2 a.2.2.2 b.1.2.2 b.2.2.2) = 1) &&
  decide (cnt (ovB a.1.1 a.2.1 b.1.1 b.2.1) (ovB a.1.2.1 a.2.2.1 b.1.2.1 b.2.2.1) (ovB a.1.2.2 a.2.2.2 b.1.2.2 b.2.2.2) = 2)
abbrev GTch := Bx × Bx
abbrev aTch (g : GTch) : List SV := [.im (dBx g.1), .im (dBx g.2)]
abbrev qTch (g : GTch) (r : Ret) : Prop := r = .im (.bool (touchB g.1 g.2))
abbrev spTch (K : PySem.W.Frag) : Sp := SpF K aTch (fun _ => True) qTch
theorem cnt_eq (a b c : Bool) : (((if a then 1 else 0) + (if b then 1 else 0) + (if c then 1 else 0) : Nat) : Int) = cnt a b c := by
  cases a <;> cases b <;> cases c <;> rfl
theorem run_do_touch {aX : Addr} (hA : ∀ H, Dp K H (.ref aX) dAxes) (g : GTch) : WS K (t_do_touch K aX) [some (.im (dBx g.1)), some (.im (dBx g.2)), none, none, none] [] (PostF qTch g) := by
  unfold t_do_touch
  have fl : ∀ {a0 a1 b0 b1 : Int} {D : DS} {e1 e2 e3 e4 : TE}, WE K e1 D [] (fun sv cs' => cs' = [] ∧ sv = iN a1) → WE K e2 D [] (fun sv cs' => cs' = [] ∧ sv = iN b0) → WE K e3 D [] (fun sv cs' => cs' = [] ∧ sv = iN b1) → WE K e4 D [] (fun sv cs' => cs' = [] ∧ sv = iN a0) →
      WT K (tOr (tTest (tOp rEq e1 e2)) (tTest (tOp rEq e3 e4))) D [] fun b cs' => cs' = [] ∧ b = flB a0 a1 b0 b1 := fun {a0 a1 b0 b1 D e1 e2 e3 e4} h1 h2 h3 h4 => by
    refine wt_or (wt_test (we_op (we_imp h1 fun sv cs' q => ?_)))
    obtain ⟨rfl, rfl⟩ := q
    refine we_imp h2 fun sv cs' q => ?_
    obtain ⟨rfl, rfl⟩ := q
    refine wr_eqI ⟨_, rfl, fun e => ?_, fun e => ?_⟩
    · refine wt_test (we_op (we_imp h3 fun sv cs' q => ?_))
      obtain ⟨rfl, rfl⟩ := q
      refine we_imp h4 fun sv cs' q => ?_
      obtain ⟨rfl, rfl⟩ := q
      refine wr_eqI ⟨_, rfl, rfl, ?_⟩
      unfold flB
      rw [e, Bool.false_or]
    · refine ⟨rfl, ?_⟩
      unfold flB
      rw [e, Bool.true_or]
  have ov : ∀ {a0 a1 b0 b1 : Int} {D : DS} {e1 e2 e3 e4 : TE}, WE K e1 D [] (fun sv cs' => cs' = [] ∧ sv = iN a0) → WE K e2 D [] (fun sv cs' => cs' = [] ∧ sv = iN b1) → WE K e3 D [] (fun sv cs' => cs' = [] ∧ sv = iN b0) → WE K e4 D [] (fun sv cs' => cs' = [] ∧ sv = iN a1) →
      WT K (tAnd (tTest (tOp rLtI e1 e2)) (tTest (tOp rLtI e3 e4))) D [] fun b cs' => cs' = [] ∧ b = ovB a0 a1 b0 b1 := fun {a0 a1 b0 b1 D e1 e2 e3 e4} h1 h2 h3 h4 => by
    refine wt_and (wt_test (we_op (we_imp h1 fun sv cs' q => ?_)))
    obtain ⟨rfl, rfl⟩ := q
    refine we_imp h2 fun sv cs' q => ?_
    obtain ⟨rfl, rfl⟩ := q
    refine wr_lt ⟨_, rfl, fun e => ?_, fun e => ?_⟩
    · refine wt_test (we_op (we_imp h3 fun sv cs' q => ?_))
      obtain ⟨rfl, rfl⟩ := q
      refine we_imp h4 fun sv cs' q => ?_
      obtain ⟨rfl, rfl⟩ := q
      refine wr_lt ⟨_, rfl, rfl, ?_⟩
      unfold ovB
      rw [e, Bool.true_and]
    · refine ⟨rfl, ?_⟩
      unfold ovB
      rw [e, Bool.false_and]
  refine ws_seq (ws_set (we_axesIf hA ?_ (b0 := flB g.1.1.1 g.1.2.1 g.2.1.1 g.2.2.1) (b1 := flB g.1.1.2.1 g.1.2.2.1 g.2.1.2.1 g.2.2.2.1) (b2 := flB g.1.1.2.2 g.1.2.2.2 g.2.1.2.2 g.2.2.2.2) (fl ?_ ?_ ?_ ?_) (fl ?_ ?_ ?_ ?_) (fl ?_ ?_ ?_ ?_) fun xs hx => .inl ?_))
  · show 4 < 5
    decide
  iterate 12 (focus (walk_at "wp"; exact ⟨rfl, rfl⟩))
  refine ws_seq (ws_set (we_axesIf hA ?_ (b0 := ovB g.1.1.1 g.1.2.1 g.2.1.1 g.2.2.1) (b1 := ovB g.1.1.2.1 g.1.2.2.1 g.2.1.2.1 g.2.2.2.1) (b2 := ovB g.1.1.2.2 g.1.2.2.2 g.2.1.2.2 g.2.2.2.2) (ov ?_ ?_ ?_ ?_) (ov ?_ ?_ ?_ ?_) (ov ?_ ?_ ?_ ?_) fun ys hy => .inl ?_))
  · show 4 < 5
    decide
  iterate 12 (focus (walk_at "wp"; exact ⟨rfl, rfl⟩))
  refine ws_ret (we_and (we_op (we_cb (wa_cons (we_var rfl (wa_nil (wc_lenL (we_int (wr_eqI ⟨_, rfl, fun e => ?_, fun e => ?_⟩)))))))))
  · refine we_op (we_cb (wa_cons (we_var rfl (wa_nil (wc_lenL (we_int (wr_eqI ⟨.im (.bool (decide ((ys.length : Int) = 2))), ?_, rfl⟩)))))))
    show Ret.im _ = Ret.im _
    rw [hx, cnt_eq] at e
    rw [hy, cnt_eq]
    unfold touchB
    rw [e, Bool.true_and]
  · refine ⟨.im (.bool false), ?_, rfl⟩
    show Ret.im _ = Ret.im _
    rw [hx, cnt_eq] at e
    unfold touchB
    rw [e, Bool.false_and]
theorem fn_do_touch {aX : Addr} (hA : ∀ H, Dp K H (.ref aX) dAxes) (F : FnP K "do_touch" s_do_touch f fd) (mA : mg "AXES" = some (.ref aX)) (m1 : mg "len" = none) : FnOk P w K mg base CX0 1 f fd ["one", "other"] (spTch K) :=
  fn_F F sc_do_touch (fun cdv A outer s H E hr => der_do_touch mA m1 hr) (fun _ => rfl) fun g hp => run_do_touch hA g
end
end Sw
set_option Elab.async false
set_option linter.all false
set_option maxRecDepth 100000
set_option maxHeartbeats 4000000
set_option autoImplicit false
namespace Sw
open PySem PySem.Spec PyProof.Rows L2
local macro_rules | `(tactic| walk_at "wp1") => `(tactic| first
  | with_reducible refine ws_seq ?_
  | with_reducible refine ws_par ?_
  | with_reducible refine ws_par3 ?_
  | with_reducible refine ws_set ?_
  | with_reducible refine ws_ret ?_
  | with_reducible refine ws_drop ?_
  | with_reducible refine ws_if ?_
  | with_reducible refine ws_next ?_
  | ((with_reducible refine' we_var ?hv ?_); (case hv => rfl))
  | with_reducible refine we_int ?_
  | with_reducible refine we_bl ?_
  | with_reducible refine we_str ?_
  | with_reducible refine we_non ?_
  | with_reducible refine we_raw ?_
  | with_reducible refine we_op ?_
  | with_reducible refine we_neg ?_
  | with_reducible refine we_tup ?_
  | with_reducible refine we_lst ?_
  | with_reducible refine we_cb ?_
  | with_reducible refine we_call ?_
  | with_reducible refine we_callC ?_
  | with_reducible refine we_if ?_
  | with_reducible refine we_and ?_
  | with_reducible refine we_or ?_
  | with_reducible refine we_not ?_
  | with_reducible refine we_chain ?_
  | with_reducible refine we_sl ?_
  | with_reducible refine wo_none ?_
  | with_reducible refine wo_some ?_
  | with_reducible refine wa_nil ?_
  | with_reducible refine wa_cons ?_
  | with_reducible refine wt_test ?_
  | with_reducible refine wt_B ?_
  | with_reducible refine wt_and ?_
  | with_reducible refine wt_or ?_
  | with_reducible refine wt_not ?_
  | with_reducible refine wt_yes ?_
  | with_reducible refine wr_add ?_
  | with_reducible refine wr_sub ?_
  | with_reducible refine wr_lt ?_
  | with_reducible refine wr_le ?_
  | with_reducible refine wr_gt ?_
  | with_reducible refine wr_eqI ?_
  | with_reducible refine wr_eqB ?_
  | with_reducible refine wr_eqS ?_
  | with_reducible refine wc_lenL ?_
  | with_reducible refine wc_lenT ?_
  | with_reducible refine wc_tupL ?_
  | ((with_reducible refine' wr_ixT ?hx ?_); (case hx => rfl))
  | with_reducible refine wg_name ?_
  | ((with_reducible refine' wg_tup ?hl ?_); (case hl => rfl))
  | with_reducible refine wgs_nil ?_
  | with_reducible refine wgs_cons ?_
  | refine ⟨_, rfl, ?_⟩
  | refine ⟨Nat.le_of_ble_eq_true rfl, ?_⟩
  | refine ⟨_, _, rfl, ?_⟩
  | refine ⟨_, _, _, rfl, ?_⟩
  | fail "no step")
local macro_rules | `(tactic| walk_at "wp") => `(tactic| repeat' walk_at "wp1")

/-! ### has, swept, barred, travel_lot -/
section
variable {P : Program} {w : World} {K : PySem.W.Frag} {mg : Str → Option Value} {base : Heap} {f : Addr} {fd : FuncData}
abbrev GHas := Sol × Pt
abbrev aHas (g : GHas) : List SV := [.im (dSol g.1), .im (d3 g.2)]
abbrev qHas (g : GHas) (r : Ret) : Prop := ∃ b : Bool, r = .im (.bool b) ∧ (b = true ↔ mS g.1 g.2)
abbrev spHas (K : PySem.W.Frag) : Sp := SpF K aHas (fun g => WSol g.1) qHas
theorem we_rng {K : PySem.W.Frag} {ds : DS} {ta tb tc : TE} {a b c : Int} (h1 : WE K ta ds [] fun sv cs' => cs' = [] ∧ sv = iN a) (h2 : WE K tb ds [] fun sv cs' => cs' = [] ∧ sv = iN b) (h3 : WE K tc ds [] fun sv cs' => cs' = [] ∧ sv = iN c) :
    WE K (tChain rLeI rLtI ta tb tc) ds [] fun sv cs' => cs' = [] ∧ sv = bB (decide (a ≤ b ∧ b < c)) := by
  refine we_chain (we_imp h1 fun sv cs' q => ?_)
  obtain ⟨rfl, rfl⟩ := q
  refine we_imp h2 fun sv cs' q => ?_
  obtain ⟨rfl, rfl⟩ := q
  refine wr_le ⟨_, rfl, fun e => ?_, fun e => ?_⟩
  · refine we_imp h3 fun sv cs' q => ?_
    obtain ⟨rfl, rfl⟩ := q
    have e' := of_decide_eq_true e
    refine wr_lt ⟨rfl, ?_⟩
    have : (decide (a ≤ b ∧ b < c)) = decide (b < c) := by simp [e']
    rw [this]
  · have e' := of_decide_eq_false e
    refine ⟨rfl, ?_⟩
    have : (decide (a ≤ b ∧ b < c)) = false := by simp [e']
    rw [this]
theorem uniq_st {δ : Type} {s : Stt δ} (h : Asc (s.map ivT)) {t u : Int × Int × List δ} (ht : t ∈ s) (hu : u ∈ s) {x : Int} (h1 : inI (ivT t) x) (h2 : inI (ivT u) x) : t = u := by
  have hp := asc_ptw h
  obtain ⟨i, hi⟩ := List.mem_iff_getElem?.mp ht
  obtain ⟨j, hj⟩ := List.mem_iff_getElem?.mp hu
  rcases Nat.lt_trichotomy i j with c | c | c
  · exact absurd ⟨h1, h2⟩ (pw_get hp hi hj c x)
  · subst c
    rw [hi] at hj
    cases hj
    rfl
  · exact absurd ⟨h2, h1⟩ (pw_get hp hj hi c x)
theorem run_has (g : GHas) (hp : WSol g.1) : WS K (t_has K) [some (.im (dSol g.1)), some (.im (d3 g.2)), none, none, none, none, none, none, none, none] [] (PostF qHas g) := by
  unfold t_has
  refine ws_seq (ws_for (wl_tup (we_var rfl ⟨_, rfl, ?_⟩)))
  refine ⟨fun i ds' cs' => (∃ x2 x3 x4 x5 x6 x7 x8 x9 : Option SV, ds' = [some (.im (dSol g.1)), some (.im (d3 g.2)), x2, x3, x4, x5, x6, x7, x8, x9]) ∧ cs' = [] ∧ ∀ t ∈ g.1.take i, ¬ (inI (ivT t) g.2.2.2 ∧ mLay t.2.2 (g.2.2.1, g.2.1)), ⟨⟨_, _, _, _, _, _, _, _, rfl⟩, rfl, fun t h => (by simp at h)⟩, fun _ _ _ _ => srcOk_none, ?_, ?_⟩
  · rintro i ds' cs' x hx ⟨⟨x2, x3, x4, x5, x6, x7, x8, x9, rfl⟩, rfl, hno⟩
    rw [List.getElem?_map] at hx
    obtain ⟨t, ht, rfl⟩ := Option.map_eq_some_iff.mp hx
    have tm := List.mem_of_getElem? ht
    have wl := (hp.inn t tm).1
    have next : ¬ (inI (ivT t) g.2.2.2 ∧ mLay t.2.2 (g.2.2.1, g.2.1)) → ∀ u ∈ g.1.take (i + 1), ¬ (inI (ivT u) g.2.2.2 ∧ mLay u.2.2 (g.2.2.1, g.2.1)) := fun h u hu => by
      rw [take_snoc ht] at hu
      rcases List.mem_append.mp hu with hu | hu
      · exact hno u hu
      · have e : u = t := by simpa using hu
        subst e
        exact h
    refine wg_tup rfl (wgs_cons (wg_name (wgs_cons (wg_name (wgs_cons (wg_name (wgs_nil ?_)))))))
    refine ws_if (wt_test (we_imp (we_rng (a := t.1) (b := g.2.2.2) (c := t.2.1) (we_var rfl ⟨rfl, rfl⟩) ?_ (we_var rfl ⟨rfl, rfl⟩)) fun sv cs' q => ?_))
    · walk_at "wp"
      exact ⟨rfl, rfl⟩
    obtain ⟨rfl, rfl⟩ := q
    refine ⟨_, rfl, fun e => ?_, fun e => ?_⟩
    · have hz : inI (ivT t) g.2.2.2 := of_decide_eq_true (p := t.1 ≤ g.2.2.2 ∧ g.2.2.2 < t.2.1) e
      refine ws_for (wl_tup (we_var rfl ⟨_, rfl, ?_⟩))
      refine ⟨fun j ds' cs' => (∃ x5 x6 x7 x8 x9 : Option SV, ds' = [some (.im (dSol g.1)), some (.im (d3 g.2)), some (iN t.1), some (iN t.2.1), some (.im (dLay t.2.2)), x5, x6, x7, x8, x9]) ∧ cs' = [] ∧ ∀ u ∈ t.2.2.take j, ¬ (inI (ivT u) g.2.2.1), ⟨⟨_, _, _, _, _, rfl⟩, rfl, fun t h => (by simp at h)⟩, fun _ _ _ _ => srcOk_none, ?_, ?_⟩
      · rintro j ds' cs' x hx ⟨⟨x5, x6, x7, x8, x9, rfl⟩, rfl, hno2⟩
        rw [List.getElem?_map] at hx
        obtain ⟨u, hu, rfl⟩ := Option.map_eq_some_iff.mp hx
        have um := List.mem_of_getElem? hu
        have wr := (wl.inn u um).1
        refine wg_tup rfl (wgs_cons (wg_name (wgs_cons (wg_name (wgs_cons (wg_name (wgs_nil ?_)))))))
        refine ws_if (wt_test (we_imp (we_rng (a := u.1) (b := g.2.2.1) (c := u.2.1) (we_var rfl ⟨rfl, rfl⟩) ?_ (we_var rfl ⟨rfl, rfl⟩)) fun sv cs' q => ?_))
        · walk_at "wp"
          exact ⟨rfl, rfl⟩
        obtain ⟨rfl, rfl⟩ := q
        refine ⟨_, rfl, fun e => ?_, fun e => ?_⟩
        · have hy : inI (ivT u) g.2.2.1 := of_decide_eq_true (p := u.1 ≤ g.2.2.1 ∧ g.2.2.1 < u.2.1) e
          have lenR := asc_len wr.asc wr.bnd (by decide)
          refine ws_ret (we_cb (wa_cons (we_map (l := u.2.2) (e := dP) (F := fun r => .bool (decide (r.1 ≤ g.2.1 ∧ g.2.1 < r.2))) (gk_tup (gks_cons (by simp) (gks_cons (by simp) gks_nil))) (by omega) (wl_tup (we_var rfl ⟨_, rfl, rfl, srcOk_none, rfl⟩)) (fun r hr => ?_) (.inl ?_))))
          · refine wg_tup rfl (wgs_cons (wg_name (wgs_cons (wg_name (wgs_nil ⟨rfl, we_rng (a := r.1) (b := g.2.1) (c := r.2) (we_var rfl ⟨rfl, rfl⟩) ?_ (we_var rfl ⟨rfl, rfl⟩)⟩)))))
            walk_at "wp"
            exact ⟨rfl, rfl⟩
          · have em : (u.2.2.map fun r => PyData.bool (decide (r.1 ≤ g.2.1 ∧ g.2.1 < r.2))) = (u.2.2.map fun r => decide (r.1 ≤ g.2.1 ∧ g.2.1 < r.2)).map .bool := by
              rw [List.map_map]
              rfl
            rw [em]
            refine wa_nil (wc_any ⟨.im (.bool _), ⟨_, rfl, ?_⟩, rfl⟩)
            rw [List.any_eq_true]
            constructor
            · rintro ⟨b, hb, e⟩
              obtain ⟨r, hr, rfl⟩ := List.mem_map.mp hb
              exact ⟨t, tm, hz, u, um, hy, r, hr, of_decide_eq_true (p := r.1 ≤ g.2.1 ∧ g.2.1 < r.2) e⟩
            · rintro ⟨t', ht', hz', u', hu', hy', r, hr, hxr⟩
              have e1 := uniq_st hp.asc ht' tm hz' hz
              subst e1
              have e2 := uniq_st wl.asc hu' um hy' hy
              subst e2
              exact ⟨true, List.mem_map.mpr ⟨r, hr, decide_eq_true (p := r.1 ≤ g.2.1 ∧ g.2.1 < r.2) hxr⟩, rfl⟩
        · have hy : ¬ inI (ivT u) g.2.2.1 := of_decide_eq_false (p := u.1 ≤ g.2.2.1 ∧ g.2.2.1 < u.2.1) e
          refine ws_next ⟨⟨_, _, _, _, _, rfl⟩, rfl, fun v hv => ?_⟩
          rw [take_snoc hu] at hv
          rcases List.mem_append.mp hv with hv | hv
          · exact hno2 v hv
          · have e : v = u := by simpa using hv
            subst e
            exact hy
      · rintro ds' cs' ⟨⟨x5, x6, x7, x8, x9, rfl⟩, rfl, hno2⟩
        rw [List.length_map, List.take_length] at hno2
        exact ⟨⟨_, _, _, _, _, _, _, _, rfl⟩, rfl, next fun ⟨_, u, hu, hy, _⟩ => hno2 u hu hy⟩
    · have hz : ¬ inI (ivT t) g.2.2.2 := of_decide_eq_false (p := t.1 ≤ g.2.2.2 ∧ g.2.2.2 < t.2.1) e
      exact ws_next ⟨⟨_, _, _, _, _, _, _, _, rfl⟩, rfl, next fun h => hz h.1⟩
  · rintro ds' cs' ⟨⟨x2, x3, x4, x5, x6, x7, x8, x9, rfl⟩, rfl, hno⟩
    rw [List.length_map, List.take_length] at hno
    refine ws_ret (we_bl ⟨.im (.bool false), ⟨false, rfl, fun h => (nomatch h), fun h => ?_⟩, rfl⟩)
    obtain ⟨t, ht, hz, hl⟩ := h
    exact absurd ⟨hz, hl⟩ (hno t ht)
theorem fn_has (F : FnP K "has" s_has f fd) (m1 : mg "any" = none) : FnOk P w K mg base CX0 1 f fd ["solid", "point"] (spHas K) :=
  fn_F F sc_has (fun cdv A outer s H E hr => der_has m1 hr) (fun _ => rfl) fun g hp => run_has g hp
/-! swept, barred -/
def vol (c : Bx) : Nat := (c.2.1 - c.1.1).toNat * ((c.2.2.1 - c.1.2.1).toNat * (c.2.2.2 - c.1.2.2).toNat)
/-- together few -/
def Few (a b : Sol) : Prop := ∃ c d : Bx, (∀ p, mS a p → inB c p) ∧ (∀ p, mS b p → inB d p) ∧ vol c * vol d ≤ 1000000
theorem few_len {a b : Sol} (h : Few a b) (ha : WSol a) (hb : WSol b) : (boxesS a).length * (boxesS b).length ≤ 1000000 := by
  obtain ⟨c, d, h1, h2, h3⟩ := h
  have l1 := boxes_len_in (boxes_ok ha) (c := c) fun b hb p hp => h1 p (boxes_mem.mpr ⟨b, hb, hp⟩)
  have l2 := boxes_len_in (boxes_ok hb) (c := d) fun b hb p hp => h2 p (boxes_mem.mpr ⟨b, hb, hp⟩)
  exact Nat.le_trans (Nat.mul_le_mul l1 l2) h3
def swpB (a b : Bx) : Bx := ((a.1.1 + b.1.1, a.1.2.1 + b.1.2.1, a.1.2.2 + b.1.2.2), (a.2.1 - 1 + b.2.1, a.2.2.1 - 1 + b.2.2.1, a.2.2.2 - 1 + b.2.2.2))
def barB (a b : Bx) : Bx := ((a.1.1 - b.2.1 + 1, a.1.2.1 - b.2.2.1 + 1, a.1.2.2 - b.2.2.2 + 1), (a.2.1 - b.1.1, a.2.2.1 - b.1.2.1, a.2.2.2 - b.1.2.2))
abbrev psub (p b : Pt) : Pt := (p.1 - b.1, p.2.1 - b.2.1, p.2.2 - b.2.2)
theorem swp1 {l h o t x : Int} (n1 : l < h) (n2 : o < t) : (l + o ≤ x ∧ x < h - 1 + t) ↔ ∃ a b, (l ≤ a ∧ a < h) ∧ (o ≤ b ∧ b < t) ∧ x = a + b := by
  constructor
  · rintro ⟨h1, h2⟩
    by_cases c : x - o ≤ h - 1
    · exact ⟨x - o, o, by omega, by omega, by omega⟩
    · exact ⟨h - 1, x - (h - 1), by omega, by omega, by omega⟩
  · rintro ⟨a, b, h1, h2, rfl⟩
    omega
theorem bar1 {l h o t x : Int} (n1 : l < h) (n2 : o < t) : (l - t + 1 ≤ x ∧ x < h - o) ↔ ∃ b, (o ≤ b ∧ b < t) ∧ (l ≤ x + b ∧ x + b < h) := by
  constructor
  · rintro ⟨h1, h2⟩
    by_cases c : o ≤ l - x
    · exact ⟨l - x, by omega, by omega⟩
    · exact ⟨o, by omega, by omega⟩
  · rintro ⟨b, h1, h2⟩
    omega
theorem swp_mem {a b : Bx} (n1 : BxNe a) (n2 : BxNe b) {p : Pt} : inB (swpB a b) p ↔ ∃ q r, inB a q ∧ inB b r ∧ p = padd q r := by
  unfold swpB inB
  simp only
  rw [swp1 n1.1 n2.1, swp1 n1.2.1 n2.2.1, swp1 n1.2.2 n2.2.2]
  constructor
  · rintro ⟨⟨a1, b1, h1, h2, e1⟩, ⟨a2, b2, h3, h4, e2⟩, a3, b3, h5, h6, e3⟩
    exact ⟨(a1, a2, a3), (b1, b2, b3), ⟨h1, h3, h5⟩, ⟨h2, h4, h6⟩, Prod.ext e1 (Prod.ext e2 e3)⟩
  · rintro ⟨q, r, ⟨h1, h3, h5⟩, ⟨h2, h4, h6⟩, rfl⟩
    exact ⟨⟨q.1, r.1, h1, h2, rfl⟩, ⟨q.2.1, r.2.1, h3, h4, rfl⟩, q.2.2, r.2.2, h5, h6, rfl⟩
theorem bar_mem {a b : Bx} (n1 : BxNe a) (n2 : BxNe b) {p : Pt} : inB (barB a b) p ↔ ∃ r, inB b r ∧ inB a (padd p r) := by
  unfold barB inB
  simp only
  rw [bar1 n1.1 n2.1, bar1 n1.2.1 n2.2.1, bar1 n1.2.2 n2.2.2]
  constructor
  · rintro ⟨⟨b1, h1, h2⟩, ⟨b2, h3, h4⟩, b3, h5, h6⟩
    exact ⟨(b1, b2, b3), ⟨h1, h3, h5⟩, h2, h4, h6⟩
  · rintro ⟨r, ⟨h1, h3, h5⟩, h2, h4, h6⟩
    exact ⟨⟨r.1, h1, h2⟩, ⟨r.2.1, h3, h4⟩, r.2.2, h5, h6⟩
abbrev pSwp (g : G2) : Prop := (WSol g.1 ∧ WSol g.2) ∧ Few g.1 g.2 ∧ ∀ p q, mS g.1 p → mS g.2 q → inB cAll (padd p q)
abbrev qSwp (g : G2) (r : Ret) : Prop := ∃ z : Sol, r = .im (dSol z) ∧ WSol z ∧ ∀ p, mS z p ↔ ∃ a b, mS g.1 a ∧ mS g.2 b ∧ p = padd a b
abbrev spSwp (K : PySem.W.Frag) : Sp := SpF K a2 pSwp qSwp
abbrev pBar (g : G2) : Prop := (WSol g.1 ∧ WSol g.2) ∧ Few g.2 g.1 ∧ ∀ p q, mS g.2 p → mS g.1 q → inB cAll (psub p q)
abbrev qBar (g : G2) (r : Ret) : Prop := ∃ z : Sol, r = .im (dSol z) ∧ WSol z ∧ ∀ p, mS z p ↔ ∃ b, mS g.1 b ∧ mS g.2 (padd p b)
abbrev spBar (K : PySem.W.Frag) : Sp := SpF K a2 pBar qBar
theorem own_pts {b : Bx} (h : BxNe b) : inB b b.1 ∧ inB b (b.2.1 - 1, b.2.2.1 - 1, b.2.2.2 - 1) := by
  obtain ⟨h1, h2, h3⟩ := h
  refine ⟨⟨⟨Int.le_refl _, h1⟩, ⟨Int.le_refl _, h2⟩, Int.le_refl _, h3⟩, ⟨?_, ?_⟩, ⟨?_, ?_⟩, ?_, ?_⟩ <;> (simp only; omega)
theorem len_pairs {α β γ : Type} (F : α → β → γ) (A : List α) (B : List β) : (A.flatMap fun a => B.map (F a)).length = A.length * B.length := by
  induction A with
  | nil => simp
  | cons a A ih =>
    rw [List.flatMap_cons, List.length_append, ih, List.length_map, List.length_cons, Nat.succ_mul]
    omega
theorem run_swept {aX : Addr} (hA : ∀ H, Dp K H (.ref aX) dAxes) (g : G2) (hp : pSwp g) : WS K (t_swept K aX (spBoxes K) (spOfB K)) [some (.im (dSol g.1)), some (.im (dSol g.2)), none, none, none, none, none, none, none] [] (PostF qSwp g) := by
  obtain ⟨⟨w1, w2⟩, hf, hb⟩ := hp
  have hlen := few_len hf w1 w2
  have o1 := boxes_ok w1
  have o2 := boxes_ok w2
  unfold t_swept
  refine ws_seq (ws_set (we_lst (wa_nil ⟨[], rfl, Nat.zero_le _, .inr fun l => ?_⟩)))
  refine ws_seq (ws_for (wl_list (we_call (wa_cons (we_var rfl (wa_nil ⟨g.1, rfl, w1, fun r hr => ?_⟩))))))
  cases hr
  refine .inl ⟨_, rfl, ?_⟩
  refine ⟨fun i ds' cs' => (∃ x3 x4 x5 x6 x7 x8 : Option SV, ds' = [some (.im (dSol g.1)), some (.im (dSol g.2)), some (.raw (.ref l)), x3, x4, x5, x6, x7, x8]) ∧ cs' = [(l, .lst ((((boxesS g.1).take i).flatMap fun a => (boxesS g.2).map (swpB a)).map dBx))], ⟨⟨_, _, _, _, _, _, rfl⟩, rfl⟩, fun _ _ _ _ => srcOk_none, ?_, ?_⟩
  · rintro i ds' cs' x hx ⟨⟨x3, x4, x5, x6, x7, x8, rfl⟩, rfl⟩
    rw [List.getElem?_map] at hx
    obtain ⟨a, ha, rfl⟩ := Option.map_eq_some_iff.mp hx
    refine wg_tup rfl (wgs_cons (wg_name (wgs_cons (wg_name (wgs_nil ?_)))))
    refine ws_for (wl_list (we_call (wa_cons (we_var rfl (wa_nil ⟨g.2, rfl, w2, fun r hr => ?_⟩)))))
    cases hr
    refine .inl ⟨_, rfl, ?_⟩
    refine ⟨fun j ds' cs' => (∃ x5 x6 x7 x8 : Option SV, ds' = [some (.im (dSol g.1)), some (.im (dSol g.2)), some (.raw (.ref l)), some (.im (d3 a.1)), some (.im (d3 a.2)), x5, x6, x7, x8]) ∧ cs' = [(l, .lst ((((boxesS g.1).take i).flatMap (fun a => (boxesS g.2).map (swpB a)) ++ ((boxesS g.2).take j).map (swpB a)).map dBx))], ⟨⟨_, _, _, _, rfl⟩, by simp⟩, fun _ _ _ _ => srcOk_none, ?_, ?_⟩
    · rintro j ds' cs' x hx ⟨⟨x5, x6, x7, x8, rfl⟩, rfl⟩
      rw [List.getElem?_map] at hx
      obtain ⟨b, hb', rfl⟩ := Option.map_eq_some_iff.mp hx
      refine wg_tup rfl (wgs_cons (wg_name (wgs_cons (wg_name (wgs_nil ?_)))))
      refine ws_seq (ws_set (we_cb (wa_cons (we_axes hA (d0 := .int (swpB a b).1.1) (d1 := .int (swpB a b).1.2.1) (d2 := .int (swpB a b).1.2.2) ?_ ?_ ?_ (.inl (wa_nil (wc_tupL ?_)))))))
      iterate 3 (focus (walk_at "wp"; exact ⟨rfl, rfl⟩))
      refine ws_drop (we_append (we_var rfl ⟨l, rfl, ⟨0, _, rfl⟩, wa_cons (we_tup (wa_cons (we_var rfl (wa_cons (we_cb (wa_cons (we_axes hA (d0 := .int (swpB a b).2.1) (d1 := .int (swpB a b).2.2.1) (d2 := .int (swpB a b).2.2.2) ?_ ?_ ?_ (.inl (wa_nil (wc_tupL ?_))))))))))⟩))
      iterate 3 (focus (walk_at "wp"; exact ⟨rfl, rfl⟩))
      refine wa_nil ⟨_, rfl, Nat.le_of_ble_eq_true rfl, wa_nil ⟨_, 0, _, rfl, rfl, ?_, ?_⟩⟩
      · have hs : ((boxesS g.1).take i).flatMap (fun a => (boxesS g.2).map (swpB a)) ++ ((boxesS g.2).take j).map (swpB a) |>.Sublist ((boxesS g.1).flatMap fun a => (boxesS g.2).map (swpB a)) := flatMap_split (F := fun a => (boxesS g.2).map (swpB a)) ha ((List.take_sublist _ _).map _)
        have := hs.length_le
        rw [len_pairs] at this
        rw [List.length_map]
        exact Nat.le_trans this hlen
      · refine ⟨⟨_, _, _, _, rfl⟩, ?_⟩
        rw [take_snoc hb']
        simp
    · rintro ds' cs' ⟨⟨x5, x6, x7, x8, rfl⟩, rfl⟩
      refine ⟨⟨_, _, _, _, _, _, rfl⟩, ?_⟩
      rw [take_snoc ha, flatMap_snoc, List.length_map, List.take_length]
  · rintro ds' cs' ⟨⟨x3, x4, x5, x6, x7, x8, rfl⟩, rfl⟩
    rw [List.length_map, List.take_length]
    refine ws_freeze (i := 2) (j := 0) rfl rfl ?_
    refine ws_ret (we_call (wa_cons (we_var rfl (wa_nil ⟨(boxesS g.1).flatMap fun a => (boxesS g.2).map (swpB a), rfl, ⟨fun c hc => ?_, by rw [len_pairs]; exact hlen⟩, fun r hr => ?_⟩))))
    · obtain ⟨a, ha, hc⟩ := List.mem_flatMap.mp hc
      obtain ⟨b, hb', rfl⟩ := List.mem_map.mp hc
      have na := o1.ne a ha
      have nb := o2.ne b hb'
      obtain ⟨pa, pa'⟩ := own_pts na
      obtain ⟨pb, pb'⟩ := own_pts nb
      obtain ⟨⟨c1, c2⟩, ⟨c3, c4⟩, c5, c6⟩ := hb _ _ (boxes_mem.mpr ⟨a, ha, pa⟩) (boxes_mem.mpr ⟨b, hb', pb⟩)
      obtain ⟨⟨e1, e2⟩, ⟨e3, e4⟩, e5, e6⟩ := hb _ _ (boxes_mem.mpr ⟨a, ha, pa'⟩) (boxes_mem.mpr ⟨b, hb', pb'⟩)
      obtain ⟨n1, n2, n3⟩ := na
      obtain ⟨m1, m2, m3⟩ := nb
      simp only at c1 c2 c3 c4 c5 c6 e1 e2 e3 e4 e5 e6
      unfold swpB
      refine ⟨⟨⟨?_, ?_⟩, ?_, ?_⟩, ⟨⟨?_, ?_⟩, ?_, ?_⟩, ⟨?_, ?_⟩, ?_, ?_⟩ <;> (simp only; omega)
    · obtain ⟨z, rfl, h1, h2⟩ := hr
      refine ⟨_, ⟨z, rfl, h1, fun p => (h2 p).trans ?_⟩, rfl⟩
      constructor
      · rintro ⟨c, hc, hp⟩
        obtain ⟨a, ha, hc⟩ := List.mem_flatMap.mp hc
        obtain ⟨b, hb', rfl⟩ := List.mem_map.mp hc
        obtain ⟨q, r, hq, hr, e⟩ := (swp_mem (o1.ne a ha) (o2.ne b hb')).mp hp
        exact ⟨q, r, boxes_mem.mpr ⟨a, ha, hq⟩, boxes_mem.mpr ⟨b, hb', hr⟩, e⟩
      · rintro ⟨q, r, hq, hr, e⟩
        obtain ⟨a, ha, hq⟩ := boxes_mem.mp hq
        obtain ⟨b, hb', hr⟩ := boxes_mem.mp hr
        exact ⟨swpB a b, List.mem_flatMap.mpr ⟨a, ha, List.mem_map.mpr ⟨b, hb', rfl⟩⟩, (swp_mem (o1.ne a ha) (o2.ne b hb')).mpr ⟨q, r, hq, hr, e⟩⟩
theorem run_barred {aX : Addr} (hA : ∀ H, Dp K H (.ref aX) dAxes) (g : G2) (hp : pBar g) : WS K (t_barred K aX (spBoxes K) (spOfB K)) [some (.im (dSol g.1)), some (.im (dSol g.2)), none, none, none, none, none, none, none] [] (PostF qBar g) := by
  obtain ⟨⟨w1, w2⟩, hf, hb⟩ := hp
  have hlen := few_len hf w2 w1
  have o1 := boxes_ok w1
  have o2 := boxes_ok w2
  unfold t_barred
  refine ws_seq (ws_set (we_lst (wa_nil ⟨[], rfl, Nat.zero_le _, .inr fun l => ?_⟩)))
  refine ws_seq (ws_for (wl_list (we_call (wa_cons (we_var rfl (wa_nil ⟨g.2, rfl, w2, fun r hr => ?_⟩))))))
  cases hr
  refine .inl ⟨_, rfl, ?_⟩
  refine ⟨fun i ds' cs' => (∃ x3 x4 x5 x6 x7 x8 : Option SV, ds' = [some (.im (dSol g.1)), some (.im (dSol g.2)), some (.raw (.ref l)), x3, x4, x5, x6, x7, x8]) ∧ cs' = [(l, .lst ((((boxesS g.2).take i).flatMap fun a => (boxesS g.1).map (barB a)).map dBx))], ⟨⟨_, _, _, _, _, _, rfl⟩, rfl⟩, fun _ _ _ _ => srcOk_none, ?_, ?_⟩
  · rintro i ds' cs' x hx ⟨⟨x3, x4, x5, x6, x7, x8, rfl⟩, rfl⟩
    rw [List.getElem?_map] at hx
    obtain ⟨a, ha, rfl⟩ := Option.map_eq_some_iff.mp hx
    refine wg_tup rfl (wgs_cons (wg_name (wgs_cons (wg_name (wgs_nil ?_)))))
    refine ws_for (wl_list (we_call (wa_cons (we_var rfl (wa_nil ⟨g.1, rfl, w1, fun r hr => ?_⟩)))))
    cases hr
    refine .inl ⟨_, rfl, ?_⟩
    refine ⟨fun j ds' cs' => (∃ x5 x6 x7 x8 : Option SV, ds' = [some (.im (dSol g.1)), some (.im (dSol g.2)), some (.raw (.ref l)), some (.im (d3 a.1)), some (.im (d3 a.2)), x5, x6, x7, x8]) ∧ cs' = [(l, .lst ((((boxesS g.2).take i).flatMap (fun a => (boxesS g.1).map (barB a)) ++ ((boxesS g.1).take j).map (barB a)).map dBx))], ⟨⟨_, _, _, _, rfl⟩, by simp⟩, fun _ _ _ _ => srcOk_none, ?_, ?_⟩
    · rintro j ds' cs' x hx ⟨⟨x5, x6, x7, x8, rfl⟩, rfl⟩
      rw [List.getElem?_map] at hx
      obtain ⟨b, hb', rfl⟩ := Option.map_eq_some_iff.mp hx
      refine wg_tup rfl (wgs_cons (wg_name (wgs_cons (wg_name (wgs_nil ?_)))))
      refine ws_seq (ws_set (we_cb (wa_cons (we_axes hA (d0 := .int (barB a b).1.1) (d1 := .int (barB a b).1.2.1) (d2 := .int (barB a b).1.2.2) ?_ ?_ ?_ (.inl (wa_nil (wc_tupL ?_)))))))
      iterate 3 (focus (walk_at "wp"; exact ⟨rfl, rfl⟩))
      refine ws_drop (we_append (we_var rfl ⟨l, rfl, ⟨0, _, rfl⟩, wa_cons (we_tup (wa_cons (we_var rfl (wa_cons (we_cb (wa_cons (we_axes hA (d0 := .int (barB a b).2.1) (d1 := .int (barB a b).2.2.1) (d2 := .int (barB a b).2.2.2) ?_ ?_ ?_ (.inl (wa_nil (wc_tupL ?_))))))))))⟩))
      iterate 3 (focus (walk_at "wp"; exact ⟨rfl, rfl⟩))
      refine wa_nil ⟨_, rfl, Nat.le_of_ble_eq_true rfl, wa_nil ⟨_, 0, _, rfl, rfl, ?_, ?_⟩⟩
      · have hs : ((boxesS g.2).take i).flatMap (fun a => (boxesS g.1).map (barB a)) ++ ((boxesS g.1).take j).map (barB a) |>.Sublist ((boxesS g.2).flatMap fun a => (boxesS g.1).map (barB a)) := flatMap_split (F := fun a => (boxesS g.1).map (barB a)) ha ((List.take_sublist _ _).map _)
        have := hs.length_le
        rw [len_pairs] at this
        rw [List.length_map]
        exact Nat.le_trans this hlen
      · refine ⟨⟨_, _, _, _, rfl⟩, ?_⟩
        rw [take_snoc hb']
        simp
    · rintro ds' cs' ⟨⟨x5, x6, x7, x8, rfl⟩, rfl⟩
      refine ⟨⟨_, _, _, _, _, _, rfl⟩, ?_⟩
      rw [take_snoc ha, flatMap_snoc, List.length_map, List.take_length]
  · rintro ds' cs' ⟨⟨x3, x4, x5, x6, x7, x8, rfl⟩, rfl⟩
    rw [List.length_map, List.take_length]
    refine ws_freeze (i := 2) (j := 0) rfl rfl ?_
    refine ws_ret (we_call (wa_cons (we_var rfl (wa_nil ⟨(boxesS g.2).flatMap fun a => (boxesS g.1).map (barB a), rfl, ⟨fun c hc => ?_, by rw [len_pairs]; exact hlen⟩, fun r hr => ?_⟩))))
    · obtain ⟨a, ha, hc⟩ := List.mem_flatMap.mp hc
      obtain ⟨b, hb', rfl⟩ := List.mem_map.mp hc
      have na := o2.ne a ha
      have nb := o1.ne b hb'
      obtain ⟨pa, pa'⟩ := own_pts na
      obtain ⟨pb, pb'⟩ := own_pts nb
      obtain ⟨⟨c1, c2⟩, ⟨c3, c4⟩, c5, c6⟩ := hb _ _ (boxes_mem.mpr ⟨a, ha, pa⟩) (boxes_mem.mpr ⟨b, hb', pb'⟩)
      obtain ⟨⟨e1, e2⟩, ⟨e3, e4⟩, e5, e6⟩ := hb _ _ (boxes_mem.mpr ⟨a, ha, pa'⟩) (boxes_mem.mpr ⟨b, hb', pb⟩)
      obtain ⟨n1, n2, n3⟩ := na
      obtain ⟨m1, m2, m3⟩ := nb
      simp only at c1 c2 c3 c4 c5 c6 e1 e2 e3 e4 e5 e6
      unfold barB
      refine ⟨⟨⟨?_, ?_⟩, ?_, ?_⟩, ⟨⟨?_, ?_⟩, ?_, ?_⟩, ⟨?_, ?_⟩, ?_, ?_⟩ <;> (simp only; omega)
    · obtain ⟨z, rfl, h1, h2⟩ := hr
      refine ⟨_, ⟨z, rfl, h1, fun p => (h2 p).trans ?_⟩, rfl⟩
      constructor
      · rintro ⟨c, hc, hp⟩
        obtain ⟨a, ha, hc⟩ := List.mem_flatMap.mp hc
        obtain ⟨b, hb', rfl⟩ := List.mem_map.mp hc
        obtain ⟨r, hr, hq⟩ := (bar_mem (o2.ne a ha) (o1.ne b hb')).mp hp
        exact ⟨r, boxes_mem.mpr ⟨b, hb', hr⟩, boxes_mem.mpr ⟨a, ha, hq⟩⟩
      · rintro ⟨r, hr, hq⟩
        obtain ⟨a, ha, hq⟩ := boxes_mem.mp hq
        obtain ⟨b, hb', hr⟩ := boxes_mem.mp hr
        exact ⟨barB a b, List.mem_flatMap.mpr ⟨a, ha, List.mem_map.mpr ⟨b, hb', rfl⟩⟩, (bar_mem (o2.ne a ha) (o1.ne b hb')).mpr ⟨r, hr, hq⟩⟩
theorem fn_swept {aX : Addr} (hA : ∀ H, Dp K H (.ref aX) dAxes) (F : FnP K "swept" s_swept f fd) (mA : mg "AXES" = some (.ref aX)) (c1 : Cl P w K mg base 1 "boxes_of" (spBoxes K)) (c2 : Cl P w K mg base 9 "of_boxes" (spOfB K)) (m1 : mg "tuple" = none) : FnOk P w K mg base CX0 10 f fd ["lot", "tool"] (spSwp K) :=
  fn_F F sc_swept (fun cdv A outer s H E hr => der_swept mA c1 c2 m1 hr) (fun _ => rfl) fun g hp => run_swept hA g hp
theorem fn_barred {aX : Addr} (hA : ∀ H, Dp K H (.ref aX) dAxes) (F : FnP K "barred" s_barred f fd) (mA : mg "AXES" = some (.ref aX)) (c1 : Cl P w K mg base 1 "boxes_of" (spBoxes K)) (c2 : Cl P w K mg base 9 "of_boxes" (spOfB K)) (m1 : mg "tuple" = none) : FnOk P w K mg base CX0 10 f fd ["tool", "solid"] (spBar K) :=
  fn_F F sc_barred (fun cdv A outer s H E hr => der_barred mA c1 c2 m1 hr) (fun _ => rfl) fun g hp => run_barred hA g hp
/-! travel_lot -/
structure Mac where
  low : Pt
  high : Pt
  home : Pt
  a : Int
  b : Int
  c : Int
abbrev dMac (m : Mac) : PyData := .tuple [d3 m.low, d3 m.high, d3 m.home, .int m.a, .int m.b, .int m.c]
abbrev one3 : Pt := (1, 1, 1)
abbrev aMac (m : Mac) : List SV := [.im (dMac m)]
abbrev qTrv (m : Mac) (r : Ret) : Prop := ∃ z : Sol, r = .im (dSol z) ∧ WSol z ∧ ∀ p, mS z p ↔ inB (m.low, padd m.high one3) p
abbrev spTrv (K : PySem.W.Frag) : Sp := SpF K aMac (fun m => BxIn (m.low, padd m.high one3)) qTrv
theorem run_travel_lot (m : Mac) (hp : BxIn (m.low, padd m.high one3)) : WS K (t_travel_lot K (spBox K)) [some (.im (dMac m)), none, none, none] [] (PostF qTrv m) := by
  unfold t_travel_lot
  refine ws_seq (ws_asg (we_sl (we_var rfl (wo_none (wo_some (we_int ⟨2, rfl, wsl_T (show ¬ (HT.sIx 6 0 none = 0 ∧ HT.sIx 6 6 (some 2) = 6) by decide) (wg_tup (by rfl) ?_)⟩))))))
  have e : cutD [d3 m.low, d3 m.high, d3 m.home, .int m.a, .int m.b, .int m.c] none (some 2) = [d3 m.low, d3 m.high] := rfl
  rw [e]
  refine wgs_cons (wg_name (wgs_cons (wg_name (wgs_nil ?_))))
  refine ws_ret (we_call (wa_cons (we_var rfl (wa_cons (we_cb (wa_cons (we_map (l := [m.high.1, m.high.2.1, m.high.2.2]) (e := PyData.int) (F := fun x => .int (x + 1)) (gk_name (by simp)) (Nat.le_of_ble_eq_true rfl) (wl_tup (we_var rfl ⟨_, rfl, rfl, srcOk_none, rfl⟩)) (fun x hx => ?_) (.inl (wa_nil (wc_tupL (wa_nil ⟨(m.low, padd m.high one3), rfl, hp, fun r hr => ?_⟩)))))))))))
  · walk_at "wp"
    refine ⟨rfl, ?_⟩
    walk_at "wp"
    exact ⟨rfl, rfl⟩
  · obtain ⟨z, rfl, h1, h2⟩ := hr
    exact ⟨_, ⟨z, rfl, h1, h2⟩, rfl⟩
theorem fn_travel_lot (F : FnP K "travel_lot" s_travel_lot f fd) (c1 : Cl P w K mg base 1 "box" (spBox K)) (m1 : mg "tuple" = none) : FnOk P w K mg base CX0 2 f fd ["machine"] (spTrv K) :=
  fn_F F sc_travel_lot (fun cdv A outer s H E hr => der_travel_lot c1 m1 hr) (fun _ => rfl) fun g hp => run_travel_lot g hp
end
end Sw
set_option Elab.async false
set_option linter.all false
set_option maxRecDepth 100000
set_option maxHeartbeats 4000000
set_option autoImplicit false
namespace Sw
open PySem PySem.Spec PyProof.Rows L2
local macro_rules | `(tactic| walk_at "wp1") => `(tactic| first
  | with_reducible refine ws_seq ?_
  | with_reducible refine ws_par ?_
  | with_reducible refine ws_par3 ?_
  | with_reducible refine ws_set ?_
  | with_reducible refine ws_ret ?_
  | with_reducible refine ws_drop ?_
  | with_reducible refine ws_if ?_
  | with_reducible refine ws_next ?_
  | ((with_reducible refine' we_var ?hv ?_); (case hv => rfl))
  | with_reducible refine we_int ?_
  | with_reducible refine we_bl ?_
  | with_reducible refine we_str ?_
  | with_reducible refine we_non ?_
  | with_reducible refine we_raw ?_
  | with_reducible refine we_op ?_
  | with_reducible refine we_neg ?_
  | with_reducible refine we_tup ?_
  | with_reducible refine we_lst ?_
  | with_reducible refine we_cb ?_
  | with_reducible refine we_call ?_
  | with_reducible refine we_callC ?_
  | with_reducible refine we_if ?_
  | with_reducible refine we_and ?_
  | with_reducible refine we_or ?_
  | with_reducible refine we_not ?_
  | with_reducible refine we_chain ?_
  | with_reducible refine we_sl ?_
  | with_reducible refine wo_none ?_
  | with_reducible refine wo_some ?_
  | with_reducible refine wa_nil ?_
  | with_reducible refine wa_cons ?_
  | with_reducible refine wt_test ?_
  | with_reducible refine wt_B ?_
  | with_reducible refine wt_and ?_
  | with_reducible refine wt_or ?_
  | with_reducible refine wt_not ?_
  | with_reducible refine wt_yes ?_
  | with_reducible refine wr_add ?_
  | with_reducible refine wr_sub ?_
  | with_reducible refine wr_lt ?_
  | with_reducible refine wr_le ?_
  | with_reducible refine wr_gt ?_
  | with_reducible refine wr_eqI ?_
  | with_reducible refine wr_eqB ?_
  | with_reducible refine wr_eqS ?_
  | with_reducible refine wc_lenL ?_
  | with_reducible refine wc_lenT ?_
  | with_reducible refine wc_tupL ?_
  | ((with_reducible refine' wr_ixT ?hx ?_); (case hx => rfl))
  | with_reducible refine wg_name ?_
  | ((with_reducible refine' wg_tup ?hl ?_); (case hl => rfl))
  | with_reducible refine wgs_nil ?_
  | with_reducible refine wgs_cons ?_
  | refine ⟨_, rfl, ?_⟩
  | refine ⟨Nat.le_of_ble_eq_true rfl, ?_⟩
  | refine ⟨_, _, rfl, ?_⟩
  | refine ⟨_, _, _, rfl, ?_⟩
  | fail "no step")
local macro_rules | `(tactic| walk_at "wp") => `(tactic| repeat' walk_at "wp1")

/-! ### pieces, piece_with -/
/-- a cell stands somewhere -/
def Has (cs : CS) (l : Addr) (c : Cell) : Prop := ∃ j : Nat, cs[j]? = some (l, c)
theorem Has.app {cs ds : CS} {l : Addr} {c : Cell} (h : Has cs l c) : Has (cs ++ ds) l c := by
  obtain ⟨j, hj⟩ := h
  exact ⟨j, by rw [List.getElem?_append_left (List.getElem?_eq_some_iff.mp hj).1]; exact hj⟩
theorem Has.new {cs : CS} {l : Addr} {c : Cell} : Has (cs ++ [(l, c)]) l c := ⟨cs.length, by simp⟩
theorem Has.set_ne {cs : CS} {l l' : Addr} {c c' c2 : Cell} {j : Nat} (h : Has cs l c) (hj : cs[j]? = some (l', c2)) (ne : l ≠ l') : Has (cs.set j (l', c')) l c := by
  obtain ⟨i, hi⟩ := h
  refine ⟨i, ?_⟩
  have nij : j ≠ i := fun e => by
    subst e
    rw [hi] at hj
    cases hj
    exact ne rfl
  rw [List.getElem?_set_ne nij]
  exact hi
theorem Has.set_eq {cs : CS} {l : Addr} {c c' : Cell} {j : Nat} (hj : cs[j]? = some (l, c)) : Has (cs.set j (l, c')) l c' := ⟨j, by rw [List.getElem?_set_self (List.getElem?_eq_some_iff.mp hj).1]⟩
theorem Has.erase_ne {cs : CS} {l l' : Addr} {c c2 : Cell} {j : Nat} (h : Has cs l c) (hj : cs[j]? = some (l', c2)) (ne : l ≠ l') : Has (cs.eraseIdx j) l c := by
  obtain ⟨i, hi⟩ := h
  have nij : j ≠ i := fun e => by
    subst e
    rw [hi] at hj
    cases hj
    exact ne rfl
  by_cases c : i < j
  · exact ⟨i, by rw [List.getElem?_eraseIdx, if_pos c]; exact hi⟩
  · refine ⟨i - 1, ?_⟩
    rw [List.getElem?_eraseIdx, if_neg (by omega), show i - 1 + 1 = i by omega]
    exact hi
theorem Has.fresh {cs : CS} {l l' : Addr} {c c' : Cell} (h : Has cs l c) (nd : ((cs ++ [(l', c')]).map (·.1)).Nodup) : l ≠ l' := fun e => by
  subst e
  obtain ⟨j, hj⟩ := h
  rw [List.map_append, List.nodup_append] at nd
  exact nd.2.2 l (List.mem_map.mpr ⟨_, List.mem_of_getElem? hj, rfl⟩) l (by simp) rfl
section
variable {K : PySem.W.Frag} {ds : DS} {cs : CS} {t : TS} {P : Post} {te : TE} {Φ : SV → CS → Prop}
theorem ws_nd (h : (cs.map (·.1)).Nodup → WS K t ds cs P) : WS K t ds cs P := fun Hb Fz σ H k D e => h k.nd Hb Fz σ H k D e
theorem we_nd (h : (cs.map (·.1)).Nodup → WE K te ds cs Φ) : WE K te ds cs Φ := fun Hb Fz σ H k Q z => h k.nd Hb Fz σ H k Q z
end
/-- a unit step apart -/
def Nbr (p q : Pt) : Prop := (p.2.1 = q.2.1 ∧ p.2.2 = q.2.2 ∧ (p.1 = q.1 + 1 ∨ q.1 = p.1 + 1)) ∨ (p.1 = q.1 ∧ p.2.2 = q.2.2 ∧ (p.2.1 = q.2.1 + 1 ∨ q.2.1 = p.2.1 + 1)) ∨ (p.1 = q.1 ∧ p.2.1 = q.2.1 ∧ (p.2.2 = q.2.2 + 1 ∨ q.2.2 = p.2.2 + 1))
theorem Nbr.symm {p q : Pt} (h : Nbr p q) : Nbr q p := by
  unfold Nbr at *
  omega
theorem ov_of {a0 a1 b0 b1 x : Int} (h1 : a0 ≤ x ∧ x < a1) (h2 : b0 ≤ x ∧ x < b1) : ovB a0 a1 b0 b1 = true ∧ flB a0 a1 b0 b1 = false := by
  unfold ovB flB
  simp only [Bool.and_eq_true, decide_eq_true_eq, Bool.or_eq_false_iff, decide_eq_false_iff_not]
  omega
theorem fl_of {a0 a1 b0 b1 x y : Int} (h1 : a0 ≤ x ∧ x < a1) (h2 : b0 ≤ y ∧ y < b1) (hs : x = y + 1 ∨ y = x + 1) (no : ∀ z, ¬ ((a0 ≤ z ∧ z < a1) ∧ (b0 ≤ z ∧ z < b1))) : ovB a0 a1 b0 b1 = false ∧ flB a0 a1 b0 b1 = true := by
  have n1 := no x
  have n2 := no y
  unfold ovB flB
  simp only [Bool.and_eq_false_iff, decide_eq_true_eq, Bool.or_eq_true, decide_eq_false_iff_not]
  omega
theorem touch_nbr {a b : Bx} (ap : ∀ p, ¬ (inB a p ∧ inB b p)) {p q : Pt} (ha : inB a p) (hb : inB b q) (hn : Nbr p q) : touchB a b = true := by
  obtain ⟨a1, a2, a3⟩ := ha
  obtain ⟨b1, b2, b3⟩ := hb
  unfold touchB
  rcases hn with ⟨e1, e2, hs⟩ | ⟨e1, e2, hs⟩ | ⟨e1, e2, hs⟩
  · rw [← e1] at b2
    rw [← e2] at b3
    obtain ⟨o2, f2⟩ := ov_of a2 b2
    obtain ⟨o3, f3⟩ := ov_of a3 b3
    obtain ⟨o1, f1⟩ := fl_of a1 b1 hs fun z hz => ap (z, p.2.1, p.2.2) ⟨⟨hz.1, a2, a3⟩, hz.2, b2, b3⟩
    rw [o1, o2, o3, f1, f2, f3]
    rfl
  · rw [← e1] at b1
    rw [← e2] at b3
    obtain ⟨o1, f1⟩ := ov_of a1 b1
    obtain ⟨o3, f3⟩ := ov_of a3 b3
    obtain ⟨o2, f2⟩ := fl_of a2 b2 hs fun z hz => ap (p.1, z, p.2.2) ⟨⟨a1, hz.1, a3⟩, b1, hz.2, b3⟩
    rw [o1, o2, o3, f1, f2, f3]
    rfl
  · rw [← e1] at b1
    rw [← e2] at b2
    obtain ⟨o1, f1⟩ := ov_of a1 b1
    obtain ⟨o2, f2⟩ := ov_of a2 b2
    obtain ⟨o3, f3⟩ := fl_of a3 b3 hs fun z hz => ap (p.1, p.2.1, z) ⟨⟨a1, a2, hz.1⟩, b1, b2, hz.2⟩
    rw [o1, o2, o3, f1, f2, f3]
    rfl
/-- closed under unit steps within -/
def Piece (s z : Sol) : Prop := (∀ p, mS z p → mS s p) ∧ ∀ p q, mS z p → mS s q → Nbr p q → mS z q
section
variable {P : Program} {w : World} {K : PySem.W.Frag} {mg : Str → Option Value} {base : Heap} {f : Addr} {fd : FuncData}
abbrev qPcs (g : Sol) (r : Ret) : Prop := ∃ ps : List Sol, r = .cel (.lst (ps.map dSol)) ∧ (∀ z ∈ ps, WSol z ∧ Piece g z) ∧ ∀ p, mS g p → ∃ z ∈ ps, mS z p
abbrev spPcs (K : PySem.W.Frag) : Sp := SpF K a1 WSol qPcs
theorem alike_row : ∀ r r' : Iv, PySem.W.alike (dRow r) (dRow r') = true := by
  intro r r'
  simp only [dRow, PySem.W.alike]
  induction r generalizing r' with
  | nil => simp [PySem.W.alikeAll]
  | cons p r ih =>
    cases r' with
    | nil => simp [PySem.W.alikeAll]
    | cons q r' =>
      simp only [List.map_cons, PySem.W.alikeAll, Bool.and_eq_true]
      exact ⟨by simp [dP, PySem.W.alike, PySem.W.alikeAll], ih r'⟩
theorem alike_st {δ : Type} {e : δ → PyData} (h : ∀ x y, PySem.W.alike (e x) (e y) = true) : ∀ s s' : List (Int × Int × δ), PySem.W.alike (dSt e s) (dSt e s') = true := by
  intro r r'
  simp only [dSt, PySem.W.alike]
  induction r generalizing r' with
  | nil => simp [PySem.W.alikeAll]
  | cons p r ih =>
    cases r' with
    | nil => simp [PySem.W.alikeAll]
    | cons q r' =>
      simp only [List.map_cons, PySem.W.alikeAll, Bool.and_eq_true]
      exact ⟨by simp [dS, PySem.W.alike, PySem.W.alikeAll, h], ih r'⟩
theorem alike_sol (s s' : Sol) : PySem.W.alike (dSol s) (dSol s') = true := alike_st (alike_st alike_row) s s'
theorem sub_ok {L M : List Bx} {done : List Bx} (h : BoxesOk M) (p : (done ++ L).Perm M) : BoxesOk L := by
  have hp : (done ++ L).Pairwise fun a b => ∀ p, ¬ (inB a p ∧ inB b p) := p.symm.pairwise h.ap fun {x y} h p hp => h p ⟨hp.2, hp.1⟩
  exact ⟨fun b hb => h.ne b (p.mem_iff.mp (List.mem_append_right _ hb)), fun b hb => h.bd b (p.mem_iff.mp (List.mem_append_right _ hb)), (List.pairwise_append.mp hp).2.1⟩
theorem ok_apart {L : List Bx} {a b : List Bx} (h : BoxesOk L) (p : (a ++ b).Perm L) {x y : Bx} (hx : x ∈ a) (hy : y ∈ b) (q : Pt) : ¬ (inB x q ∧ inB y q) := by
  have hp : (a ++ b).Pairwise fun a b => ∀ p, ¬ (inB a p ∧ inB b p) := p.symm.pairwise h.ap fun {x y} h p hp => h p ⟨hp.2, hp.1⟩
  exact (List.pairwise_append.mp hp).2.2 x hx y hy q
structure OutI (g : Sol) (L : List Bx) (F : List Sol) : Prop where
  sub : ∃ done : List Bx, (done ++ L).Perm (boxesS g) ∧ F.length ≤ done.length
  pcs : ∀ z ∈ F, (WSol z ∧ z ≠ []) ∧ Piece g z ∧ ∀ p, mS z p → ∀ b ∈ L, ¬ inB b p
  cov : ∀ p, mS g p → (∃ b ∈ L, inB b p) ∨ ∃ z ∈ F, mS z p
structure InnI (L0 part W L : List Bx) : Prop where
  perm : (part ++ (W ++ L)).Perm L0
  no : ∀ a ∈ part, ∀ b ∈ L, touchB a b = false
  ne : part ≠ [] ∨ W ≠ []
theorem InnI.step {L0 part W L : List Bx} {o : Bx} (h : InnI L0 part (W ++ [o]) L) : InnI L0 (part ++ [o]) (W ++ L.filter (touchB o)) (L.filter fun x => !touchB o x) where
  perm := by
    refine List.Perm.trans ?_ h.perm
    rw [List.append_assoc, List.append_assoc, List.append_assoc]
    refine List.Perm.append_left part ?_
    show ([o] ++ (W ++ (L.filter (touchB o) ++ L.filter fun x => !touchB o x))).Perm (W ++ ([o] ++ L))
    have h1 : (L.filter (touchB o) ++ L.filter fun x => !touchB o x).Perm L := List.filter_append_perm _ _
    refine List.Perm.trans (List.Perm.append_left [o] (List.Perm.append_left W h1)) ?_
    rw [← List.append_assoc, ← List.append_assoc]
    exact List.Perm.append_right L List.perm_append_comm
  no := fun a ha b hb => by
    obtain ⟨hb1, hb2⟩ := List.mem_filter.mp hb
    rcases List.mem_append.mp ha with ha | ha
    · exact h.no a ha b hb1
    · have e : a = o := by simpa using ha
      subst e
      simpa using hb2
  ne := .inl (by simp)
theorem OutI.step {g : Sol} {L0 part L : List Bx} {F : List Sol} {z : Sol} (hw : WSol g) (h : OutI g L0 F) (i : InnI L0 part [] L) (wz : WSol z) (hz : ∀ p, mS z p ↔ ∃ b ∈ part, inB b p) : OutI g L (F ++ [z]) := by
  obtain ⟨done, hd, hf⟩ := h.sub
  have ok0 := sub_ok (boxes_ok hw) hd
  have pm : (part ++ L).Perm L0 := i.perm
  have inG : ∀ b ∈ L0, ∀ p, inB b p → mS g p := fun b hb p hp => boxes_mem.mpr ⟨b, hd.mem_iff.mp (List.mem_append_right _ hb), hp⟩
  have pl : ∀ b ∈ part, b ∈ L0 := fun b hb => pm.mem_iff.mp (List.mem_append_left _ hb)
  have ll : ∀ b ∈ L, b ∈ L0 := fun b hb => pm.mem_iff.mp (List.mem_append_right _ hb)
  have hne : part ≠ [] := i.ne.resolve_right fun h => h rfl
  have sub' : ∃ done : List Bx, (done ++ L).Perm (boxesS g) ∧ (F ++ [z]).length ≤ done.length := ⟨done ++ part, by
    rw [List.append_assoc]
    exact (List.Perm.append_left done pm).trans hd, by
    have := List.length_pos_iff.mpr hne
    rw [List.length_append, List.length_append, List.length_singleton]
    omega⟩
  have zap : ∀ p, mS z p → ∀ b ∈ L, ¬ inB b p := fun p hp b hb hbp => by
    obtain ⟨a, ha, hap⟩ := (hz p).mp hp
    exact ok_apart ok0 pm ha hb p ⟨hap, hbp⟩
  refine ⟨sub', fun y hy => ?_, fun p hp => ?_⟩
  · rcases List.mem_append.mp hy with hy | hy
    · obtain ⟨h1, h2, h3⟩ := h.pcs y hy
      exact ⟨h1, h2, fun p hp b hb => h3 p hp b (ll b hb)⟩
    · have e : y = z := by simpa using hy
      subst e
      refine ⟨⟨wz, ?_⟩, ⟨fun p hp => ?_, fun p q hp hq hn => ?_⟩, zap⟩
      · rintro rfl
        obtain ⟨b, hb⟩ := List.exists_mem_of_ne_nil _ hne
        exact memT_nil ((hz b.1).mpr ⟨b, hb, (own_pts (ok0.ne b (pl b hb))).1⟩ : mS [] b.1)
      · obtain ⟨b, hb, hbp⟩ := (hz p).mp hp
        exact inG b (pl b hb) p hbp
      · obtain ⟨a, ha, hap⟩ := (hz p).mp hp
        rcases h.cov q hq with ⟨b, hb, hbq⟩ | ⟨y', hy', hyq⟩
        · rcases List.mem_append.mp (pm.mem_iff.mpr hb) with hb' | hb'
          · exact (hz q).mpr ⟨b, hb', hbq⟩
          · have := touch_nbr (ok_apart ok0 pm ha hb') hap hbq hn
            rw [i.no a ha b hb'] at this
            cases this
        · obtain ⟨_, ⟨_, h2⟩, h3⟩ := h.pcs y' hy'
          have := h2 q p hyq (inG a (pl a ha) p hap) hn.symm
          exact absurd hap (h3 p this a (pl a ha))
  · rcases h.cov p hp with ⟨b, hb, hbp⟩ | ⟨y, hy, hyp⟩
    · rcases List.mem_append.mp (pm.mem_iff.mpr hb) with hb' | hb'
      · exact .inr ⟨z, by simp, (hz p).mpr ⟨b, hb', hbp⟩⟩
      · exact .inl ⟨b, hb', hbp⟩
    · exact .inr ⟨y, List.mem_append_left _ hy, hyp⟩
theorem OutI.few {g : Sol} {L : List Bx} {F : List Sol} (hw : WSol g) (h : OutI g L F) : F.length ≤ 64000 ∧ L.length ≤ 64000 := by
  obtain ⟨done, hd, hf⟩ := h.sub
  have := hd.length_eq
  have h2 := boxes_len_all (boxes_ok hw)
  rw [List.length_append] at this
  omega
theorem dBx_lay (b : Bx) : (dBx b).canLay0 = true := by simp [dBx, PyData.canLay0, PyData.canLayAll0]
theorem dBx_dep (b : Bx) : (dBx b).depth ≤ 2 := by simp [dBx, PyData.depth, PyData.depthAll]
theorem run_pieces (g : Sol) (hw : WSol g) : WS K (t_pieces K (spBoxes K) (spTch K) (spOfB K)) [some (.im (dSol g)), none, none, none, none, none, none, none] [] (PostF qPcs g) := by
  unfold t_pieces
  refine ws_seq (ws_par (wa_cons (we_call (wa_cons (we_var rfl (wa_nil ⟨g, rfl, hw, fun r hr => ?_⟩))))))
  cases hr
  refine .inr fun l1 => wa_cons (we_lst (wa_nil ⟨[], rfl, Nat.zero_le _, .inr fun l2 => wa_nil ⟨_, _, rfl, ?_⟩⟩))
  refine ws_nd fun nd0 => ?_
  have l12 : l1 ≠ l2 := Has.fresh (c := .lst ((boxesS g).map dBx)) ⟨0, rfl⟩ nd0
  refine ws_seq (ws_while (fun m ds' cs' => ∃ (l1 : Addr) (L : List Bx) (F : List Sol) (x3 x4 x5 x6 x7 : Option SV), ds' = [some (.im (dSol g)), some (.raw (.ref l1)), some (.raw (.ref l2)), x3, x4, x5, x6, x7] ∧ Has cs' l1 (.lst (L.map dBx)) ∧ Has cs' l2 (.lst (F.map dSol)) ∧ l1 ≠ l2 ∧ OutI g L F ∧ L.length = m) (boxesS g).length ?_ fun m ds' cs' hI => ?_)
  · exact ⟨l1, boxesS g, [], none, none, none, none, none, rfl, ⟨0, rfl⟩, ⟨1, rfl⟩, l12, ⟨⟨[], List.Perm.refl _, Nat.zero_le _⟩, fun z hz => (by cases hz), fun p hp => .inl (boxes_mem.mp hp)⟩, rfl⟩
  obtain ⟨l1, L0, F, x3, x4, x5, x6, x7, rfl, ⟨j1, hj1⟩, ⟨j2, hj2⟩, l12, hO, rfl⟩ := hI
  have hfew := hO.few hw
  refine wt_test (we_op (we_var rfl (we_lst (wa_nil ⟨[], rfl, Nat.zero_le _, .inl (wr_neDc hj1 (list_sh dBx_lay dBx_dep (by decide) _) (by rfl) ⟨_, rfl, fun e => ?_, fun e => ?_⟩)⟩))))
  · rw [eqv_nil_list] at e
    rcases nil_or_last L0 with rfl | ⟨L0', x, rfl⟩
    · cases e
    refine ws_seq (ws_par (wa_cons (we_lst (wa_nil ⟨[], rfl, Nat.zero_le _, .inr fun l3 => ?_⟩))))
    have hj1' : (cs' ++ [(l3, Cell.lst [])])[j1]? = some (l1, .lst (L0'.map dBx ++ [dBx x])) := by
      rw [List.getElem?_append_left (List.getElem?_eq_some_iff.mp hj1).1, hj1, map_snoc]
    refine wa_cons (we_lst (wa_cons (we_pop (we_var rfl ⟨l1, j1, L0'.map dBx, dBx x, rfl, hj1', wa_nil ⟨[dBx x], rfl, Nat.le_of_ble_eq_true rfl, .inr fun l4 => wa_nil ⟨_, _, rfl, ?_⟩⟩⟩))))
    refine ws_nd fun nd1 => ?_
    have H3 : Has ((cs' ++ [(l3, Cell.lst [])]).set j1 (l1, .lst (L0'.map dBx))) l3 (.lst []) := by
      refine Has.new.set_ne hj1' ?_
      have nd2 : ((cs' ++ [(l3, Cell.lst [])]).map (·.1)).Nodup := by
        rw [List.map_append, List.nodup_append] at nd1
        have := nd1.1
        rwa [map_set_fst hj1'] at this
      exact fun e => (Has.fresh (c := .lst ((L0' ++ [x]).map dBx)) ⟨j1, hj1⟩ nd2) e.symm
    have H1 : Has ((cs' ++ [(l3, Cell.lst [])]).set j1 (l1, .lst (L0'.map dBx))) l1 (.lst (L0'.map dBx)) := Has.set_eq hj1'
    have H2 : Has ((cs' ++ [(l3, Cell.lst [])]).set j1 (l1, .lst (L0'.map dBx))) l2 (.lst (F.map dSol)) := (Has.app ⟨j2, hj2⟩).set_ne hj1' (Ne.symm l12)
    have n14 := H1.fresh nd1
    have n24 := H2.fresh nd1
    have n34 := H3.fresh nd1
    have n13 : l1 ≠ l3 := by
      have nd2 : ((cs' ++ [(l3, Cell.lst [])]).map (·.1)).Nodup := by
        rw [List.map_append, List.nodup_append] at nd1
        have := nd1.1
        rwa [map_set_fst hj1'] at this
      exact Has.fresh (c := .lst ((L0' ++ [x]).map dBx)) ⟨j1, hj1⟩ nd2
    have n23 : l2 ≠ l3 := by
      have nd2 : ((cs' ++ [(l3, Cell.lst [])]).map (·.1)).Nodup := by
        rw [List.map_append, List.nodup_append] at nd1
        have := nd1.1
        rwa [map_set_fst hj1'] at this
      exact Has.fresh (c := .lst (F.map dSol)) ⟨j2, hj2⟩ nd2
    refine ws_seq (ws_while (fun m ds' cs' => ∃ (l1 : Addr) (part W L : List Bx) (x5 x6 x7 : Option SV), ds' = [some (.im (dSol g)), some (.raw (.ref l1)), some (.raw (.ref l2)), some (.raw (.ref l3)), some (.raw (.ref l4)), x5, x6, x7] ∧ Has cs' l1 (.lst (L.map dBx)) ∧ Has cs' l2 (.lst (F.map dSol)) ∧ Has cs' l3 (.lst (part.map dBx)) ∧ Has cs' l4 (.lst (W.map dBx)) ∧
      (l1 ≠ l2 ∧ l1 ≠ l3 ∧ l1 ≠ l4 ∧ l2 ≠ l3 ∧ l2 ≠ l4 ∧ l3 ≠ l4) ∧ InnI (L0' ++ [x]) part W L ∧ W.length + L.length = m) (1 + L0'.length) ?_ fun m ds' cs' hI => ?_)
    · refine ⟨l1, [], [x], L0', _, _, _, rfl, H1.app, H2.app, H3.app, Has.new, ⟨l12, n13, n14, n23, n24, n34⟩, ⟨?_, fun a ha => (by cases ha), .inr (by simp)⟩, rfl⟩
      show ([x] ++ L0').Perm (L0' ++ [x])
      exact List.perm_append_comm
    · obtain ⟨l1, part, W, L, x5, x6, x7, rfl, ⟨i1, hi1⟩, G2, G3, ⟨i4, hi4⟩, ⟨m12, m13, m14, m23, m24, m34⟩, hi, rfl⟩ := hI
      have hcount : part.length + (W.length + L.length) ≤ 64000 := by
        have := hi.perm.length_eq
        rw [List.length_append, List.length_append] at this
        omega
      refine wt_test (we_op (we_var rfl (we_lst (wa_nil ⟨[], rfl, Nat.zero_le _, .inl (wr_neDc hi4 (list_sh dBx_lay dBx_dep (by decide) _) (by rfl) ⟨_, rfl, fun e => ?_, fun e => ?_⟩)⟩))))
      · rw [eqv_nil_list] at e
        rcases nil_or_last W with rfl | ⟨W', o, rfl⟩
        · cases e
        rw [map_snoc] at hi4
        refine ws_seq (ws_set (we_pop (we_var rfl ⟨l4, i4, W'.map dBx, dBx o, rfl, hi4, ?_⟩)))
        have A1 := Has.set_ne (c' := .lst (W'.map dBx)) ⟨i1, hi1⟩ hi4 m14
        have A2 := G2.set_ne (c' := .lst (W'.map dBx)) hi4 m24
        have A3 := G3.set_ne (c' := .lst (W'.map dBx)) hi4 m34
        have A4 : Has _ l4 _ := Has.set_eq (c' := .lst (W'.map dBx)) hi4
        generalize cs'.set i4 (l4, Cell.lst (W'.map dBx)) = c1 at A1 A2 A3 A4 ⊢
        obtain ⟨i3, hi3⟩ := A3
        refine ws_seq (ws_drop (we_append (we_var rfl ⟨l3, rfl, ⟨i3, _, hi3⟩, wa_cons (we_var rfl (wa_nil ⟨_, i3, _, rfl, hi3, ?_, ?_⟩))⟩)))
        · rw [List.length_map]
          omega
        have B1 := A1.set_ne (c' := .lst (part.map dBx ++ [dBx o])) hi3 m13
        have B2 := A2.set_ne (c' := .lst (part.map dBx ++ [dBx o])) hi3 m23
        have B3 : Has _ l3 _ := Has.set_eq (c' := .lst (part.map dBx ++ [dBx o])) hi3
        have B4 := A4.set_ne (c' := .lst (part.map dBx ++ [dBx o])) hi3 (Ne.symm m34)
        generalize c1.set i3 (l3, Cell.lst (part.map dBx ++ [dBx o])) = c2 at B1 B2 B3 B4 ⊢
        obtain ⟨k1, hk1⟩ := B1
        refine ws_seq (ws_set (we_filter (l := L) (e := dBx) (F := dBx) (p := touchB o) (gk_name (by simp)) (by omega) (wl_listC (we_var rfl ⟨l1, k1, _, rfl, hk1, rfl, fun l h => ⟨k1, by cases h; exact hk1⟩, rfl⟩)) (fun b hb => wg_name ⟨rfl, wt_B (we_call (wa_cons (we_var rfl (wa_cons (we_var rfl (wa_nil ⟨(o, b), rfl, trivial, fun r hr => ?_⟩))))))⟩) (.inr fun l6 => ?_)))
        · cases hr
          exact ⟨_, rfl, rfl, rfl, fun _ => we_var rfl ⟨rfl, rfl⟩⟩
        refine ws_nd fun nd6 => ?_
        have n16 := Has.fresh ⟨k1, hk1⟩ nd6
        have n26 := B2.fresh nd6
        have n36 := B3.fresh nd6
        have n46 := B4.fresh nd6
        have C1 : Has _ l1 _ := Has.app (ds := [(l6, .lst ((L.filter (touchB o)).map dBx))]) ⟨k1, hk1⟩
        have C2 := B2.app (ds := [(l6, .lst ((L.filter (touchB o)).map dBx))])
        have C3 := B3.app (ds := [(l6, .lst ((L.filter (touchB o)).map dBx))])
        have C4 := B4.app (ds := [(l6, .lst ((L.filter (touchB o)).map dBx))])
        have C6 : Has (c2 ++ [(l6, .lst ((L.filter (touchB o)).map dBx))]) l6 _ := Has.new
        generalize c2 ++ [(l6, Cell.lst ((L.filter (touchB o)).map dBx))] = c3 at C1 C2 C3 C4 C6 ⊢
        obtain ⟨k3, hk3⟩ := C1
        refine ws_seq (ws_set (we_filter (l := L) (e := dBx) (F := dBx) (p := fun b => !touchB o b) (gk_name (by simp)) (by omega) (wl_listC (we_var rfl ⟨l1, k3, _, rfl, hk3, rfl, fun l h => ⟨k3, by cases h; exact hk3⟩, rfl⟩)) (fun b hb => wg_name ⟨rfl, wt_not (wt_B (we_call (wa_cons (we_var rfl (wa_cons (we_var rfl (wa_nil ⟨(o, b), rfl, trivial, fun r hr => ?_⟩)))))))⟩) (.inr fun l7 => ?_)))
        · cases hr
          exact ⟨_, rfl, rfl, rfl, fun _ => we_var rfl ⟨rfl, rfl⟩⟩
        refine ws_nd fun nd7 => ?_
        have n27 := C2.fresh nd7
        have n37 := C3.fresh nd7
        have n47 := C4.fresh nd7
        have n67 := C6.fresh nd7
        have D2 := C2.app (ds := [(l7, .lst ((L.filter fun b => !touchB o b).map dBx))])
        have D3 := C3.app (ds := [(l7, .lst ((L.filter fun b => !touchB o b).map dBx))])
        have D4 := C4.app (ds := [(l7, .lst ((L.filter fun b => !touchB o b).map dBx))])
        have D6 := C6.app (ds := [(l7, .lst ((L.filter fun b => !touchB o b).map dBx))])
        have D7 : Has (c3 ++ [(l7, .lst ((L.filter fun b => !touchB o b).map dBx))]) l7 _ := Has.new
        generalize c3 ++ [(l7, Cell.lst ((L.filter fun b => !touchB o b).map dBx))] = c4 at D2 D3 D4 D6 D7 ⊢
        obtain ⟨q4, hq4⟩ := D4
        obtain ⟨q6, hq6⟩ := D6
        have lf : (L.filter (touchB o)).length + (L.filter fun b => !touchB o b).length = L.length := by
          have := (List.filter_append_perm (touchB o) L).length_eq
          rwa [List.length_append] at this
        refine ws_drop (we_extend (we_var rfl ⟨l4, rfl, ⟨q4, _, hq4⟩, wa_cons (we_var rfl (wa_nil ⟨l6, q6, q4, _, _, rfl, hq4, hq6, ?_, ?_⟩))⟩))
        · rw [List.length_map, List.length_map]
          rw [List.length_append] at hcount
          omega
        · refine ⟨W'.length + L.length, by rw [List.length_append, List.length_singleton]; omega, l7, part ++ [o], W' ++ L.filter (touchB o), L.filter fun b => !touchB o b, _, _, _, rfl, D7.set_ne hq4 (Ne.symm n47), D2.set_ne hq4 m24, ?_, ?_, ⟨Ne.symm n27, Ne.symm n37, Ne.symm n47, m23, m24, m34⟩, hi.step, ?_⟩
          · rw [map_snoc]
            exact D3.set_ne hq4 m34
          · rw [List.map_append]
            exact Has.set_eq hq4
          · rw [List.length_append]
            omega
      · rw [eqv_nil_list] at e
        have e0 : W = [] := by
          cases W with
          | nil => rfl
          | cons t r => cases e
        subst e0
        obtain ⟨i2, hi2⟩ := G2
        obtain ⟨i3, hi3⟩ := G3
        refine ws_freeze (i := 3) (j := i3) rfl hi3 ?_
        have E1 : Has (cs'.eraseIdx i3) l1 _ := Has.erase_ne ⟨i1, hi1⟩ hi3 m13
        have E2 : Has (cs'.eraseIdx i3) l2 _ := Has.erase_ne ⟨i2, hi2⟩ hi3 m23
        obtain ⟨r2, hr2⟩ := E2
        have bd : ∀ b ∈ part, BxIn b := fun b hb => by
          obtain ⟨done, hd, _⟩ := hO.sub
          exact (sub_ok (boxes_ok hw) hd).bd b (hi.perm.mem_iff.mp (List.mem_append_left _ hb))
        refine ws_drop (we_append (we_var rfl ⟨l2, rfl, ⟨r2, _, hr2⟩, wa_cons (we_call (wa_cons (we_var rfl (wa_nil ⟨part, rfl, ⟨bd, by omega⟩, fun r hr => ?_⟩))))⟩))
        obtain ⟨z, rfl, wz, hz⟩ := hr
        refine wa_nil ⟨_, r2, _, rfl, hr2, by rw [List.length_map]; omega, ?_⟩
        refine ⟨L.length, ?_, l1, L, F ++ [z], _, _, _, _, _, rfl, E1.set_ne hr2 m12, ?_, m12, hO.step hw hi wz hz, rfl⟩
        · have h1 := hi.perm.length_eq
          have h2 : 0 < part.length := List.length_pos_iff.mpr (hi.ne.resolve_right fun h => h rfl)
          simp only [List.length_append, List.length_nil, List.length_singleton] at h1 ⊢
          omega
        · rw [map_snoc]
          exact Has.set_eq hr2
  · rw [eqv_nil_list] at e
    have e0 : L0 = [] := by
      cases L0 with
      | nil => rfl
      | cons t r => cases e
    subst e0
    refine ws_freeze (i := 2) (j := j2) rfl hj2 ?_
    refine ws_ret (we_cb (wa_cons (we_var rfl (wa_nil (wc_sortedD ?_ ?_ ?_ fun ys pm => .inr fun l => ?_)))))
    · intro d hd d' hd'
      obtain ⟨y, _, rfl⟩ := List.mem_map.mp hd
      obtain ⟨y', _, rfl⟩ := List.mem_map.mp hd'
      exact alike_sol y y'
    · refine .inl fun d hd => ?_
      obtain ⟨y, hy, rfl⟩ := List.mem_map.mp hd
      have := (hO.pcs y hy).1.2
      cases y with
      | nil => exact absurd rfl this
      | cons t r => exact ⟨_, _, rfl⟩
    · intro d hd
      obtain ⟨y, hy, rfl⟩ := List.mem_map.mp hd
      have := dSol_dep y
      omega
    · obtain ⟨zs, pz, rfl⟩ := perm_lift dSol pm F rfl
      refine ⟨_, ⟨zs, rfl, fun z hz => ?_, fun p hp => ?_⟩, l, rfl, (cs'.eraseIdx j2).length, by simp⟩
      · obtain ⟨h1, h2, _⟩ := hO.pcs z (pz.mem_iff.mp hz)
        exact ⟨h1.1, h2⟩
      · rcases hO.cov p hp with ⟨b, hb, _⟩ | ⟨z, hz, hzp⟩
        · cases hb
        · exact ⟨z, pz.mem_iff.mpr hz, hzp⟩
theorem fn_pieces (F : FnP K "pieces" s_pieces f fd) (c1 : Cl P w K mg base 1 "boxes_of" (spBoxes K)) (c2 : Cl P w K mg base 1 "do_touch" (spTch K)) (c3 : Cl P w K mg base 9 "of_boxes" (spOfB K)) (m1 : mg "sorted" = none) : FnOk P w K mg base CX0 10 f fd ["solid"] (spPcs K) :=
  fn_F F sc_pieces (fun cdv A outer s H E hr => der_pieces c1 c2 c3 m1 hr) (fun _ => rfl) fun g hp => run_pieces g hp
abbrev qPw (g : GHas) (r : Ret) : Prop := ∃ z : Sol, r = .im (dSol z) ∧ WSol z ∧ mS z g.2 ∧ Piece g.1 z
abbrev spPw (K : PySem.W.Frag) : Sp := SpF K aHas (fun g => WSol g.1 ∧ mS g.1 g.2) qPw
theorem run_piece_with (g : GHas) (hp : WSol g.1 ∧ mS g.1 g.2) : WS K (t_piece_with K (spPcs K) (spHas K)) [some (.im (dSol g.1)), some (.im (d3 g.2)), none] [] (PostF qPw g) := by
  obtain ⟨hw, hm⟩ := hp
  unfold t_piece_with
  refine ws_seq (ws_for (wl_list (we_call (wa_cons (we_var rfl (wa_nil ⟨g.1, rfl, hw, fun r hr => ?_⟩))))))
  obtain ⟨ps, rfl, h1, h2⟩ := hr
  refine .inl ⟨_, rfl, ?_⟩
  refine ⟨fun i ds' cs' => (∃ x2 : Option SV, ds' = [some (.im (dSol g.1)), some (.im (d3 g.2)), x2]) ∧ cs' = [] ∧ ∀ z ∈ ps.take i, ¬ mS z g.2, ⟨⟨_, rfl⟩, rfl, fun z h => (by simp at h)⟩, fun _ _ _ _ => srcOk_none, ?_, ?_⟩
  · rintro i ds' cs' x hx ⟨⟨x2, rfl⟩, rfl, hno⟩
    rw [List.getElem?_map] at hx
    obtain ⟨z, hz, rfl⟩ := Option.map_eq_some_iff.mp hx
    have zm := List.mem_of_getElem? hz
    refine wg_name (ws_if (wt_B (we_call (wa_cons (we_var rfl (wa_cons (we_var rfl (wa_nil ⟨(z, g.2), rfl, (h1 z zm).1, fun r hr => ?_⟩))))))))
    obtain ⟨b, rfl, hb⟩ := hr
    refine ⟨b, rfl, fun e => ?_, fun e => ?_⟩
    · exact ws_ret (we_var rfl ⟨_, ⟨z, rfl, (h1 z zm).1, hb.mp e, (h1 z zm).2⟩, rfl⟩)
    · refine ws_next ⟨⟨_, rfl⟩, rfl, fun y hy => ?_⟩
      rw [take_snoc hz] at hy
      rcases List.mem_append.mp hy with hy | hy
      · exact hno y hy
      · have e' : y = z := by simpa using hy
        subst e'
        intro h
        have := hb.mpr h
        rw [e] at this
        cases this
  · rintro ds' cs' ⟨⟨x2, rfl⟩, rfl, hno⟩
    rw [List.length_map, List.take_length] at hno
    obtain ⟨z, hz, hzp⟩ := h2 _ hm
    exact absurd hzp (hno z hz)
theorem fn_piece_with (F : FnP K "piece_with" s_piece_with f fd) (c1 : Cl P w K mg base 10 "pieces" (spPcs K)) (c2 : Cl P w K mg base 1 "has" (spHas K)) : FnOk P w K mg base CX0 11 f fd ["solid", "point"] (spPw K) :=
  fn_F F sc_piece_with (fun cdv A outer s H E hr => der_piece_with c1 c2 hr) (fun _ => rfl) fun g hp => run_piece_with g hp
end
end Sw
set_option Elab.async false
set_option linter.all false
set_option maxRecDepth 100000
set_option maxHeartbeats 4000000
set_option autoImplicit false
namespace Sw
open PySem PySem.Spec PyProof.Rows L2
local macro_rules | `(tactic| walk_at "wp1") => `(tactic| first
  | with_reducible refine ws_seq ?_
  | with_reducible refine ws_par ?_
  | with_reducible refine ws_par3 ?_
  | with_reducible refine ws_set ?_
  | with_reducible refine ws_ret ?_
  | with_reducible refine ws_drop ?_
  | with_reducible refine ws_if ?_
  | with_reducible refine ws_next ?_
  | ((with_reducible refine' we_var ?hv ?_); (case hv => rfl))
  | with_reducible refine we_int ?_
  | with_reducible refine we_bl ?_
  | with_reducible refine we_str ?_
  | with_reducible refine we_non ?_
  | with_reducible refine we_raw ?_
  | with_reducible refine we_op ?_
  | with_reducible refine we_neg ?_
  | with_reducible refine we_tup ?_
  | with_reducible refine we_lst ?_
  | with_reducible refine we_cb ?_
  | with_reducible refine we_call ?_
  | with_reducible refine we_callC ?_
  | with_reducible refine we_if ?_
  | with_reducible refine we_and ?_
  | with_reducible refine we_or ?_
  | with_reducible refine we_not ?_
  | with_reducible refine we_chain ?_
  | with_reducible refine we_sl ?_
  | with_reducible refine wo_none ?_
  | with_reducible refine wo_some ?_
  | with_reducible refine wa_nil ?_
  | with_reducible refine wa_cons ?_
  | with_reducible refine wt_test ?_
  | with_reducible refine wt_B ?_
  | with_reducible refine wt_and ?_
  | with_reducible refine wt_or ?_
  | with_reducible refine wt_not ?_
  | with_reducible refine wt_yes ?_
  | with_reducible refine wr_add ?_
  | with_reducible refine wr_sub ?_
  | with_reducible refine wr_lt ?_
  | with_reducible refine wr_le ?_
  | with_reducible refine wr_gt ?_
  | with_reducible refine wr_eqI ?_
  | with_reducible refine wr_eqB ?_
  | with_reducible refine wr_eqS ?_
  | with_reducible refine wc_lenL ?_
  | with_reducible refine wc_lenT ?_
  | with_reducible refine wc_tupL ?_
  | ((with_reducible refine' wr_ixT ?hx ?_); (case hx => rfl))
  | with_reducible refine wg_name ?_
  | ((with_reducible refine' wg_tup ?hl ?_); (case hl => rfl))
  | with_reducible refine wgs_nil ?_
  | with_reducible refine wgs_cons ?_
  | refine ⟨_, rfl, ?_⟩
  | refine ⟨Nat.le_of_ble_eq_true rfl, ?_⟩
  | refine ⟨_, _, rfl, ?_⟩
  | refine ⟨_, _, _, rfl, ?_⟩
  | fail "no step")
local macro_rules | `(tactic| walk_at "wp") => `(tactic| repeat' walk_at "wp1")

/-! ### turnings -/
def oL : List Pt := [(0, 1, 2), (0, 2, 1), (1, 0, 2), (1, 2, 0), (2, 0, 1), (2, 1, 0)]
def eL : List Pt := [(0, 1, 2), (1, 2, 0), (2, 0, 1)]
def sL : List Pt := [(1, 1, 1), (1, 1, -1), (1, -1, 1), (1, -1, -1), (-1, 1, 1), (-1, 1, -1), (-1, -1, 1), (-1, -1, -1)]
def isT (a s : Pt) : Bool := decide (decide (s.1 * s.2.1 * s.2.2 = 1) = eL.any fun z => decide (z = a))
def tL : List Bx := oL.flatMap fun a => (sL.filter (isT a)).map fun s => (a, s)
theorem tL_len : tL.length = 24 := by decide +kernel
theorem tL_nd : tL.Nodup := by decide +kernel
abbrev dPts (l : List Pt) : PyData := .tuple (l.map d3)
theorem d3_eqv (p q : Pt) : PyData.eqv (d3 p) (d3 q) = decide (p = q) := by
  obtain ⟨a, b, c⟩ := p
  obtain ⟨a', b', c'⟩ := q
  simp only [PyData.eqv, PyData.eqvAll, Bool.and_true]
  by_cases h1 : a = a'
  · by_cases h2 : b = b'
    · by_cases h3 : c = c'
      · simp [h1, h2, h3]
      · simp [h1, h2, h3]
    · simp [h1, h2]
  · simp [h1]
theorem dBx_eqv (p q : Bx) : PyData.eqv (dBx p) (dBx q) = decide (p = q) := by
  have h : PyData.eqv (dBx p) (dBx q) = (PyData.eqv (d3 p.1) (d3 q.1) && (PyData.eqv (d3 p.2) (d3 q.2) && true)) := by
    simp only [dBx, PyData.eqv, PyData.eqvAll]
  rw [h, d3_eqv, d3_eqv, Bool.and_true]
  by_cases h1 : p.1 = q.1
  · by_cases h2 : p.2 = q.2
    · simp [h1, h2, Prod.ext_iff]
    · simp [h1, h2, Prod.ext_iff]
  · simp [h1, Prod.ext_iff]
theorem d3_lay (p : Pt) : (d3 p).canLay0 = true := by simp [PyData.canLay0, PyData.canLayAll0]
theorem d3_sh (p : Pt) : SeqAt.shaped (d3 p) = true := shaped_of (d3_lay p) (Nat.le_trans (d3_dep p) (by decide))
theorem tup_sh {α : Type} {f : α → PyData} {n : Nat} (h1 : ∀ x, (f x).canLay0 = true) (h2 : ∀ x, (f x).depth ≤ n) (hn : n ≤ 60) (l : List α) : SeqAt.shaped (.tuple (l.map f)) = true := by
  have := depAll h2 l
  refine shaped_of ?_ ?_
  · simp only [PyData.canLay0]
    exact layAll h1 l
  · simp only [PyData.depth]
    omega
/-- a value's place among three -/
def sel (p : Pt) (i : Int) : Int := if i = 0 then p.1 else if i = 1 then p.2.1 else p.2.2
theorem atI_sel {p : Pt} {i : Int} (h : i = 0 ∨ i = 1 ∨ i = 2) : atI [PyData.int p.1, .int p.2.1, .int p.2.2] i = some (.int (sel p i)) := by
  rcases h with rfl | rfl | rfl <;> rfl
def sg (s x : Int) : Int := if s = 1 then x else -x - 1
def turnP (T : Bx) (p : Pt) : Pt := (sg T.2.1 (sel p T.1.1), sg T.2.2.1 (sel p T.1.2.1), sg T.2.2.2 (sel p T.1.2.2))
def lo1 (s l h : Int) : Int := if s = 1 then l else -h
def hi1 (s l h : Int) : Int := if s = 1 then h else -l
def turnB (T : Bx) (b : Bx) : Bx := ((lo1 T.2.1 (sel b.1 T.1.1) (sel b.2 T.1.1), lo1 T.2.2.1 (sel b.1 T.1.2.1) (sel b.2 T.1.2.1), lo1 T.2.2.2 (sel b.1 T.1.2.2) (sel b.2 T.1.2.2)),
  (hi1 T.2.1 (sel b.1 T.1.1) (sel b.2 T.1.1), hi1 T.2.2.1 (sel b.1 T.1.2.1) (sel b.2 T.1.2.1), hi1 T.2.2.2 (sel b.1 T.1.2.2) (sel b.2 T.1.2.2)))
def comp (T U : Bx) : Bx := ((sel T.1 U.1.1, sel T.1 U.1.2.1, sel T.1 U.1.2.2), (U.2.1 * sel T.2 U.1.1, U.2.2.1 * sel T.2 U.1.2.1, U.2.2.2 * sel T.2 U.1.2.2))
def ax3 (i : Int) : Prop := i = 0 ∨ i = 1 ∨ i = 2
def sg2 (i : Int) : Prop := i = 1 ∨ i = -1
instance (i : Int) : Decidable (ax3 i) := by unfold ax3; infer_instance
instance (i : Int) : Decidable (sg2 i) := by unfold sg2; infer_instance
theorem tL_ax : ∀ T ∈ tL, (ax3 T.1.1 ∧ ax3 T.1.2.1 ∧ ax3 T.1.2.2) ∧ sg2 T.2.1 ∧ sg2 T.2.2.1 ∧ sg2 T.2.2.2 := by decide +kernel
theorem tL_comp : ∀ T ∈ tL, ∀ U ∈ tL, comp T U ∈ tL := by decide +kernel
theorem tL_inv : ∀ T ∈ tL, ∃ U ∈ tL, comp T U = ((0, 1, 2), (1, 1, 1)) := by decide +kernel
theorem tL_zero : tL[0]? = some ((0, 1, 2), (1, 1, 1)) := by decide +kernel
theorem tL_perm : ∀ T ∈ tL, ∀ i, ax3 i → i = T.1.1 ∨ i = T.1.2.1 ∨ i = T.1.2.2 := by
  have h : ∀ T ∈ tL, (0 = T.1.1 ∨ 0 = T.1.2.1 ∨ 0 = T.1.2.2) ∧ (1 = T.1.1 ∨ 1 = T.1.2.1 ∨ 1 = T.1.2.2) ∧ (2 = T.1.1 ∨ 2 = T.1.2.1 ∨ 2 = T.1.2.2) := by decide +kernel
  intro T hT i hi
  obtain ⟨h0, h1, h2⟩ := h T hT
  rcases hi with rfl | rfl | rfl
  · exact h0
  · exact h1
  · exact h2
theorem sel_sel {p : Pt} {T : Bx} {i : Int} (h : ax3 i) : sel (turnP T p) i = sg (sel T.2 i) (sel p (sel T.1 i)) := by
  rcases h with rfl | rfl | rfl <;> rfl
theorem sg_mul {m s x : Int} (hm : sg2 m) (hs : sg2 s) : sg (m * s) x = sg m (sg s x) := by
  unfold sg
  rcases hm with rfl | rfl <;> rcases hs with rfl | rfl <;> simp <;> omega
theorem sel_sg2 {p : Pt} (h : sg2 p.1 ∧ sg2 p.2.1 ∧ sg2 p.2.2) (i : Int) : sg2 (sel p i) := by
  unfold sel
  split
  · exact h.1
  · split
    · exact h.2.1
    · exact h.2.2
theorem turn_comp {T U : Bx} (hT : T ∈ tL) (hU : U ∈ tL) (p : Pt) : turnP (comp T U) p = turnP U (turnP T p) := by
  obtain ⟨_, t2⟩ := tL_ax T hT
  obtain ⟨⟨u1, u2, u3⟩, v1, v2, v3⟩ := tL_ax U hU
  have e : ∀ p, turnP U p = (sg U.2.1 (sel p U.1.1), sg U.2.2.1 (sel p U.1.2.1), sg U.2.2.2 (sel p U.1.2.2)) := fun _ => rfl
  rw [e, sel_sel u1, sel_sel u2, sel_sel u3, ← sg_mul v1 (sel_sg2 t2 _), ← sg_mul v2 (sel_sg2 t2 _), ← sg_mul v3 (sel_sg2 t2 _)]
  rfl
theorem turn_id (p : Pt) : turnP ((0, 1, 2), (1, 1, 1)) p = p := rfl
/-- what undoes it -/
theorem turn_inv {T : Bx} (hT : T ∈ tL) : ∃ U ∈ tL, comp T U = ((0, 1, 2), (1, 1, 1)) ∧ (∀ p, turnP U (turnP T p) = p) ∧ ∀ p, turnP T (turnP U p) = p := by
  obtain ⟨U, hU, e⟩ := tL_inv T hT
  have h1 : ∀ p, turnP U (turnP T p) = p := fun p => by rw [← turn_comp hT hU, e, turn_id]
  obtain ⟨V, hV, e2⟩ := tL_inv U hU
  have h2 : ∀ p, turnP V (turnP U p) = p := fun p => by rw [← turn_comp hU hV, e2, turn_id]
  refine ⟨U, hU, e, h1, fun p => ?_⟩
  have h3 : turnP V (turnP U (turnP T (turnP U p))) = turnP T (turnP U p) := h2 _
  rw [h1, h2] at h3
  exact h3.symm
theorem in_sg {s l h x : Int} (hs : sg2 s) : (lo1 s l h ≤ sg s x ∧ sg s x < hi1 s l h) ↔ (l ≤ x ∧ x < h) := by
  unfold lo1 hi1 sg
  rcases hs with rfl | rfl
  · simp
  · simp
    omega
theorem turn_mem {T : Bx} (hT : T ∈ tL) {b : Bx} {p : Pt} : inB (turnB T b) (turnP T p) ↔ inB b p := by
  obtain ⟨⟨a1, a2, a3⟩, s1, s2, s3⟩ := tL_ax T hT
  have hp := tL_perm T hT
  have e : inB b p ↔ ∀ i, ax3 i → sel b.1 i ≤ sel p i ∧ sel p i < sel b.2 i := by
    constructor
    · rintro ⟨h1, h2, h3⟩ i hi
      rcases hi with rfl | rfl | rfl
      · exact h1
      · exact h2
      · exact h3
    · intro h
      exact ⟨h 0 (.inl rfl), h 1 (.inr (.inl rfl)), h 2 (.inr (.inr rfl))⟩
  rw [e]
  unfold inB turnB turnP
  simp only
  rw [in_sg s1, in_sg s2, in_sg s3]
  constructor
  · rintro ⟨h1, h2, h3⟩ i hi
    rcases hp i hi with rfl | rfl | rfl
    · exact h1
    · exact h2
    · exact h3
  · intro h
    exact ⟨h _ a1, h _ a2, h _ a3⟩
theorem sel_in {b : Bx} (h : BxIn b) (i : Int) : InC (sel b.1 i) ∧ InC (sel b.2 i) := by
  obtain ⟨h1, h2, h3⟩ := h
  unfold sel
  split
  · exact h1
  · split
    · exact h2
    · exact h3
theorem turn_in {T : Bx} {b : Bx} (h : BxIn b) : BxIn (turnB T b) := by
  have key : ∀ s i : Int, InC (lo1 s (sel b.1 i) (sel b.2 i)) ∧ InC (hi1 s (sel b.1 i) (sel b.2 i)) := fun s i => by
    obtain ⟨⟨h1, h2⟩, h3, h4⟩ := sel_in h i
    unfold lo1 hi1
    refine ⟨⟨?_, ?_⟩, ?_, ?_⟩ <;> split <;> omega
  exact ⟨key _ _, key _ _, key _ _⟩
section
variable {P : Program} {w : World} {K : PySem.W.Frag} {mg : Str → Option Value} {base : Heap} {f : Addr} {fd : FuncData}
abbrev spIsT (K : PySem.W.Frag) : Sp := SpF K aBx (fun g : Bx => g.1 ∈ oL ∧ g.2 ∈ sL) (fun g r => r = .im (.bool (isT g.1 g.2)))
theorem sL_sm : ∀ s ∈ sL, (s.1 = 1 ∨ s.1 = -1) ∧ (s.2.1 = 1 ∨ s.2.1 = -1) ∧ (s.2.2 = 1 ∨ s.2.2 = -1) := by decide +kernel
theorem fn_is_turning {aE : Addr} (hE : ∀ H, Dp K H (.ref aE) (dPts eL)) (F : FnP K "is_turning" s_is_turning f fd) (m1 : mg "EVEN" = some (.ref aE)) : FnOk P w K mg base CX0 1 f fd ["axes", "signs"] (spIsT K) :=
  fn_F F sc_is_turning (fun cdv A outer s H E hr => der_is_turning m1 hr) (fun _ => rfl) fun g hp => by
    obtain ⟨h1, h2, h3⟩ := sL_sm g.2 hp.2
    unfold t_is_turning
    walk_at "wp"
    refine wr_mul (.inl ?_) ?_
    · rcases h1 with h | h <;> rw [h] <;> decide
    walk_at "wp"
    refine wr_mul (.inr ?_) ?_
    · rcases h3 with h | h <;> rw [h] <;> decide
    refine we_int (wr_eqI (we_op (we_var rfl (we_con hE (wr_inTD (d3_sh _) (tup_sh d3_lay d3_dep (by decide) eL) (wr_eqB ?_))))))
    refine ⟨.im (.bool _), ?_, rfl⟩
    unfold isT
    rw [List.any_map]
    have e : ((fun z => PyData.eqv z (d3 g.1)) ∘ d3) = fun z : Pt => decide (z = g.1) := by
      funext z
      exact d3_eqv z g.1
    rw [e]
abbrev spTs (K : PySem.W.Frag) : Sp := SpF K (γ := Unit) (fun _ => []) (fun _ => True) (fun _ r => r = .fz (.tuple (tL.map dBx)))
theorem run_turnings {aO aS : Addr} (hO : ∀ H, Dp K H (.ref aO) (dPts oL)) (hS : ∀ H, Dp K H (.ref aS) (dPts sL)) : WS K (t_turnings K aO aS (spIsT K)) [none, none] [] (PostF (γ := Unit) (fun _ r => r = .fz (.tuple (tL.map dBx))) ()) := by
  unfold t_turnings
  refine ws_ret (we_cb (wa_cons (we_lc2 (gk_name (by simp)) (gk_name (by simp)) (wl_tup (we_con hO ⟨_, rfl, Nat.le_of_ble_eq_true rfl, ?_⟩)))))
  refine ⟨fun i acc cs' => cs' = [] ∧ acc = ((oL.take i).flatMap fun a => (sL.filter (isT a)).map fun s => (a, s)).map dBx, ⟨rfl, rfl⟩, fun _ _ _ _ => srcOk_none, ?_, ?_⟩
  · rintro i x acc cs' hx ⟨rfl, rfl⟩
    rw [List.getElem?_map] at hx
    obtain ⟨a, ha, rfl⟩ := Option.map_eq_some_iff.mp hx
    refine wg_name (wt_yes ⟨fun _ => ?_, fun e => (nomatch e)⟩)
    refine wl_tup (we_con hS ⟨_, rfl, Nat.le_of_ble_eq_true rfl, ?_⟩)
    refine ⟨fun j acc cs' => cs' = [] ∧ acc = (((oL.take i).flatMap (fun a => (sL.filter (isT a)).map fun s => (a, s))) ++ ((sL.take j).filter (isT a)).map fun s => (a, s)).map dBx, ⟨rfl, by simp⟩, fun _ _ _ _ => srcOk_none, ?_, ?_⟩
    · rintro j y acc cs' hy ⟨rfl, rfl⟩
      rw [List.getElem?_map] at hy
      obtain ⟨s, hs, rfl⟩ := Option.map_eq_some_iff.mp hy
      refine wg_name (wt_B (we_call (wa_cons (we_var rfl (wa_cons (we_var rfl (wa_nil ⟨(a, s), rfl, ⟨List.mem_of_getElem? ha, List.mem_of_getElem? hs⟩, fun r hr => ?_⟩)))))))
      cases hr
      refine ⟨_, rfl, fun e => ?_, fun e => ?_⟩
      · refine we_tup (wa_cons (we_var rfl (wa_cons (we_var rfl (wa_nil ⟨_, rfl, Nat.le_of_ble_eq_true rfl, _, rfl, rfl, ?_⟩)))))
        rw [take_snoc hs, List.filter_append]
        have : [s].filter (isT a) = [s] := by simp [show isT a s = true from e]
        rw [this]
        simp
      · refine ⟨rfl, ?_⟩
        rw [take_snoc hs, List.filter_append]
        have : [s].filter (isT a) = [] := by simp [show isT a s = false from e]
        rw [this, List.append_nil]
    · rintro acc cs' ⟨rfl, rfl⟩
      refine ⟨rfl, ?_⟩
      rw [take_snoc ha, flatMap_snoc, List.length_map, List.take_length]
  · rintro acc cs' ⟨rfl, rfl⟩
    refine .inl (wa_nil (wc_tupF ⟨_, rfl, ?_⟩))
    rw [List.length_map, List.take_length]
    rfl
theorem fn_turnings {aO aS : Addr} (hO : ∀ H, Dp K H (.ref aO) (dPts oL)) (hS : ∀ H, Dp K H (.ref aS) (dPts sL)) (F : FnP K "turnings" s_turnings f fd) (m1 : mg "ORDERS" = some (.ref aO)) (m2 : mg "SIGNS" = some (.ref aS)) (c1 : Cl P w K mg base 1 "is_turning" (spIsT K)) (m3 : mg "tuple" = none) : FnOk P w K mg base CX0 2 f fd [] (spTs K) :=
  fn_F F sc_turnings (fun cdv A outer s H E hr => der_turnings m1 m2 c1 m3 hr) (fun _ => rfl) fun g hp => run_turnings hO hS
abbrev spNum (K : PySem.W.Frag) : Sp := SpF K (γ := Bx) (fun g => [.im (dBx g)]) (fun g => g ∈ tL) (fun g r => ∃ k : Nat, r = .im (.int k) ∧ tL[k]? = some g)
theorem fn_number_of (F : FnP K "number_of" s_number_of f fd) (c1 : Cl P w K mg base 2 "turnings" (spTs K)) : FnOk P w K mg base CX0 3 f fd ["one"] (spNum K) :=
  fn_F F sc_number_of (fun cdv A outer s H E hr => der_number_of c1 hr) (fun _ => rfl) fun g hp => by
    unfold t_number_of
    obtain ⟨k, hk⟩ := List.mem_iff_getElem?.mp hp
    refine ws_ret (we_indexT (we_call (wa_nil ⟨(), rfl, trivial, fun r hr => ?_⟩)))
    cases hr
    refine ⟨_, rfl, we_var rfl ⟨_, k, dBx g, rfl, tup_sh dBx_lay dBx_dep (by decide) tL, shaped_of (dBx_lay g) (Nat.le_trans (dBx_dep g) (by decide)), by rw [List.getElem?_map, hk] <;> rfl, by rw [dBx_eqv]; simp, fun m z' hm hz => ?_, _, ⟨k, rfl, hk⟩, rfl⟩⟩
    rw [List.getElem?_map] at hz
    obtain ⟨y, hy, rfl⟩ := Option.map_eq_some_iff.mp hz
    rw [dBx_eqv, decide_eq_false_iff_not]
    exact pw_get tL_nd hy hk hm
abbrev spAft (K : PySem.W.Frag) : Sp := SpF K (γ := Nat × Nat) (fun g => [iN g.1, iN g.2]) (fun g => g.1 < 24 ∧ g.2 < 24) (fun g r => ∃ (k : Nat) (T U : Bx), r = .im (.int k) ∧ tL[g.1]? = some T ∧ tL[g.2]? = some U ∧ tL[k]? = some (comp T U))
theorem tL_at {k : Nat} (h : k < 24) : ∃ T, tL[k]? = some T := ⟨tL[k]'(by rw [tL_len]; exact h), List.getElem?_eq_getElem _⟩
theorem run_after {aX : Addr} (hA : ∀ H, Dp K H (.ref aX) dAxes) (g : Nat × Nat) (hp : g.1 < 24 ∧ g.2 < 24) : WS K (t_after K aX (spTs K) (spNum K)) [some (iN g.1), some (iN g.2), none, none, none, none, none, none] [] (PostF (fun (g : Nat × Nat) r => ∃ (k : Nat) (T U : Bx), r = .im (.int k) ∧ tL[g.1]? = some T ∧ tL[g.2]? = some U ∧ tL[k]? = some (comp T U)) g) := by
  obtain ⟨T, hT⟩ := tL_at hp.1
  obtain ⟨U, hU⟩ := tL_at hp.2
  have mT := List.mem_of_getElem? hT
  have mU := List.mem_of_getElem? hU
  obtain ⟨_, ts⟩ := tL_ax T mT
  obtain ⟨⟨u1, u2, u3⟩, v1, v2, v3⟩ := tL_ax U mU
  have hT' : (tL.map dBx)[g.1]? = some (dBx T) := by rw [List.getElem?_map, hT] <;> rfl
  have hU' : (tL.map dBx)[g.2]? = some (dBx U) := by rw [List.getElem?_map, hU] <;> rfl
  unfold t_after
  refine ws_seq (ws_asg (we_op (we_call (wa_nil ⟨(), rfl, trivial, fun r hr => ?_⟩))))
  cases hr
  refine we_var rfl (wr_ixTz (atI_nat hT') (wg_tup rfl (wgs_cons (wg_name (wgs_cons (wg_name (wgs_nil ?_)))))))
  refine ws_seq (ws_asg (we_op (we_call (wa_nil ⟨(), rfl, trivial, fun r hr => ?_⟩))))
  cases hr
  refine we_var rfl (wr_ixTz (atI_nat hU') (wg_tup rfl (wgs_cons (wg_name (wgs_cons (wg_name (wgs_nil ?_)))))))
  have mulok : ∀ {m i : Int}, sg2 m → CMul m i := fun {m i} h => .inl (by rcases h with rfl | rfl <;> decide)
  refine ws_seq (ws_set (we_cb (wa_cons (we_axes hA (d0 := .int (comp T U).1.1) (d1 := .int (comp T U).1.2.1) (d2 := .int (comp T U).1.2.2) ?_ ?_ ?_ (.inl (wa_nil (wc_tupL ?_)))))))
  · walk_at "wp"
    refine wr_ixT (atI_sel u1) ?_
    exact ⟨rfl, rfl⟩
  · walk_at "wp"
    refine wr_ixT (atI_sel u2) ?_
    exact ⟨rfl, rfl⟩
  · walk_at "wp"
    refine wr_ixT (atI_sel u3) ?_
    exact ⟨rfl, rfl⟩
  refine ws_ret (we_call (wa_cons (we_tup (wa_cons (we_var rfl (wa_cons (we_cb (wa_cons (we_axes hA (d0 := .int (comp T U).2.1) (d1 := .int (comp T U).2.2.1) (d2 := .int (comp T U).2.2.2) ?_ ?_ ?_ (.inl (wa_nil (wc_tupL ?_))))))))))))
  · walk_at "wp"
    refine wr_ixT (atI_sel u1) ?_
    refine wr_mul (mulok v1) ?_
    exact ⟨rfl, rfl⟩
  · walk_at "wp"
    refine wr_ixT (atI_sel u2) ?_
    refine wr_mul (mulok v2) ?_
    exact ⟨rfl, rfl⟩
  · walk_at "wp"
    refine wr_ixT (atI_sel u3) ?_
    refine wr_mul (mulok v3) ?_
    exact ⟨rfl, rfl⟩
  refine wa_nil ⟨_, rfl, Nat.le_of_ble_eq_true rfl, wa_nil ⟨comp T U, rfl, tL_comp T mT U mU, fun r hr => ?_⟩⟩
  obtain ⟨k, rfl, hk⟩ := hr
  exact ⟨_, ⟨k, T, U, rfl, hT, hU, hk⟩, rfl⟩
theorem fn_after {aX : Addr} (hA : ∀ H, Dp K H (.ref aX) dAxes) (F : FnP K "after" s_after f fd) (mA : mg "AXES" = some (.ref aX)) (c1 : Cl P w K mg base 2 "turnings" (spTs K)) (c2 : Cl P w K mg base 3 "number_of" (spNum K)) (m1 : mg "tuple" = none) : FnOk P w K mg base CX0 4 f fd ["one", "other"] (spAft K) :=
  fn_F F sc_after (fun cdv A outer s H E hr => der_after mA c1 c2 m1 hr) (fun _ => rfl) fun g hp => run_after hA g hp
end
end Sw
set_option Elab.async false
set_option linter.all false
set_option maxRecDepth 100000
set_option maxHeartbeats 4000000
set_option autoImplicit false
namespace Sw
open PySem PySem.Spec PyProof.Rows L2
local macro_rules | `(tactic| walk_at "wp1") => `(tactic| first
  | with_reducible refine ws_seq ?_
  | with_reducible refine ws_par ?_
  | with_reducible refine ws_par3 ?_
  | with_reducible refine ws_set ?_
  | with_reducible refine ws_ret ?_
  | with_reducible refine ws_drop ?_
  | with_reducible refine ws_if ?_
  | with_reducible refine ws_next ?_
  | ((with_reducible refine' we_var ?hv ?_); (case hv => rfl))
  | with_reducible refine we_int ?_
  | with_reducible refine we_bl ?_
  | with_reducible refine we_str ?_
  | with_reducible refine we_non ?_
  | with_reducible refine we_raw ?_
  | with_reducible refine we_op ?_
  | with_reducible refine we_neg ?_
  | with_reducible refine we_tup ?_
  | with_reducible refine we_lst ?_
  | with_reducible refine we_cb ?_
  | with_reducible refine we_call ?_
  | with_reducible refine we_callC ?_
  | with_reducible refine we_if ?_
  | with_reducible refine we_and ?_
  | with_reducible refine we_or ?_
  | with_reducible refine we_not ?_
  | with_reducible refine we_chain ?_
  | with_reducible refine we_sl ?_
  | with_reducible refine wo_none ?_
  | with_reducible refine wo_some ?_
  | with_reducible refine wa_nil ?_
  | with_reducible refine wa_cons ?_
  | with_reducible refine wt_test ?_
  | with_reducible refine wt_B ?_
  | with_reducible refine wt_and ?_
  | with_reducible refine wt_or ?_
  | with_reducible refine wt_not ?_
  | with_reducible refine wt_yes ?_
  | with_reducible refine wr_add ?_
  | with_reducible refine wr_sub ?_
  | with_reducible refine wr_lt ?_
  | with_reducible refine wr_le ?_
  | with_reducible refine wr_gt ?_
  | with_reducible refine wr_eqI ?_
  | with_reducible refine wr_eqB ?_
  | with_reducible refine wr_eqS ?_
  | with_reducible refine wc_lenL ?_
  | with_reducible refine wc_lenT ?_
  | with_reducible refine wc_tupL ?_
  | ((with_reducible refine' wr_ixT ?hx ?_); (case hx => rfl))
  | with_reducible refine wg_name ?_
  | ((with_reducible refine' wg_tup ?hl ?_); (case hl => rfl))
  | with_reducible refine wgs_nil ?_
  | with_reducible refine wgs_cons ?_
  | refine ⟨_, rfl, ?_⟩
  | refine ⟨Nat.le_of_ble_eq_true rfl, ?_⟩
  | refine ⟨_, _, rfl, ?_⟩
  | refine ⟨_, _, _, rfl, ?_⟩
  | fail "no step")
local macro_rules | `(tactic| walk_at "wp") => `(tactic| repeat' walk_at "wp1")

/-! ### back, turned, placed, taken_back -/
section
variable {P : Program} {w : World} {K : PySem.W.Frag} {mg : Str → Option Value} {base : Heap} {f : Addr} {fd : FuncData}
abbrev idT : Bx := ((0, 1, 2), (1, 1, 1))
abbrev qBack (g : Nat) (r : Ret) : Prop := ∃ (k : Nat) (T U : Bx), r = .im (.int k) ∧ k < 24 ∧ tL[g]? = some T ∧ tL[k]? = some U ∧ comp T U = idT
abbrev spBack (K : PySem.W.Frag) : Sp := SpF K (γ := Nat) (fun g => [iN g]) (fun g => g < 24) qBack
theorem run_back (g : Nat) (hg : g < 24) : WS K (t_back K (spAft K)) [some (iN g), none] [] (PostF qBack g) := by
  obtain ⟨T, hT⟩ := tL_at hg
  have mT := List.mem_of_getElem? hT
  unfold t_back
  refine ws_ret (we_op ?_)
  refine we_filter (l := List.range 24) (e := fun k : Nat => .int ((0 : Int) + (k : Int))) (F := fun k : Nat => .int ((0 : Int) + (k : Int))) (p := fun k : Nat => decide ((tL[k]?.map fun U => comp T U) = some idT)) (gk_name (by simp)) (Nat.le_of_ble_eq_true rfl) (wl_rng1 (wa_cons (we_int (wa_nil ⟨24, rfl, by decide, by decide, rfl, srcOk_none, rfl⟩)))) (fun k hk => wg_name ⟨rfl, ?_⟩) (.inl ?_)
  · have hk' : k < 24 := List.mem_range.mp hk
    obtain ⟨U, hU⟩ := tL_at hk'
    refine wt_test (we_op (we_call (wa_cons (we_var rfl (wa_cons (we_var rfl (wa_nil ⟨(g, k), by rw [Int.zero_add], ⟨hg, hk'⟩, fun r hr => ?_⟩)))))))
    obtain ⟨j, T', U', rfl, h1, h2, h3⟩ := hr
    rw [hT] at h1
    cases h1
    refine we_int (wr_eqI ⟨_, rfl, rfl, ?_, fun _ => we_var rfl ⟨rfl, rfl⟩⟩)
    have h2' : tL[k]? = some U' := h2
    rw [h2']
    show decide ((j : Int) = 0) = decide (some (comp T U') = some idT)
    have e : ((j : Int) = 0) ↔ some (comp T U') = some idT := by
      constructor
      · intro e
        have : j = 0 := by omega
        subst this
        rw [← h3]
        exact tL_zero
      · intro e
        rw [e] at h3
        have lt := (List.getElem?_eq_some_iff.mp h3).1
        have := (List.getElem?_inj lt tL_nd).mp (h3.trans tL_zero.symm)
        omega
    exact decide_eq_decide.mpr e
  · obtain ⟨U, mU, eU, _, _⟩ := turn_inv mT
    obtain ⟨k, hk⟩ := List.mem_iff_getElem?.mp mU
    have hk24 : k < 24 := by
      have := (List.getElem?_eq_some_iff.mp hk).1
      rwa [tL_len] at this
    have hmem : k ∈ (List.range 24).filter fun k => decide ((tL[k]?.map fun U => comp T U) = some idT) := List.mem_filter.mpr ⟨List.mem_range.mpr hk24, by rw [hk]; exact decide_eq_true (congrArg some eU)⟩
    generalize hfl : (List.range 24).filter (fun k => decide ((tL[k]?.map fun U => comp T U) = some idT)) = fl at hmem ⊢
    cases fl with
    | nil => cases hmem
    | cons j fl =>
      have hj : j ∈ (List.range 24).filter fun k => decide ((tL[k]?.map fun U => comp T U) = some idT) := by
        rw [hfl]
        simp
      obtain ⟨hj1, hj2⟩ := List.mem_filter.mp hj
      have hj24 := List.mem_range.mp hj1
      obtain ⟨V, hV⟩ := tL_at hj24
      have e := of_decide_eq_true hj2
      rw [hV] at e
      refine we_int (wr_ixLd (d := .int ((0 : Int) + (j : Int))) (atI_nat (j := 0) rfl) ⟨.im (.int ((0 : Int) + (j : Int))), ⟨j, T, V, by rw [Int.zero_add], hj24, hT, hV, Option.some.inj e⟩, rfl⟩)
theorem fn_back (F : FnP K "back" s_back f fd) (mM : ∃ t, mg "MANY" = some (.int 24 t)) (c1 : Cl P w K mg base 4 "after" (spAft K)) (m1 : mg "range" = none) : FnOk P w K mg base CX0 5 f fd ["turn"] (spBack K) :=
  fn_F F sc_back (fun cdv A outer s H E hr => der_back mM c1 m1 hr) (fun _ => rfl) fun g hp => run_back g hp
abbrev qTurned (g : Sol × Nat) (r : Ret) : Prop := ∃ (z : Sol) (T : Bx), r = .im (dSol z) ∧ tL[g.2]? = some T ∧ WSol z ∧ ∀ p, mS z (turnP T p) ↔ mS g.1 p
abbrev spTurned (K : PySem.W.Frag) : Sp := SpF K (γ := Sol × Nat) (fun g => [.im (dSol g.1), iN g.2]) (fun g => WSol g.1 ∧ g.2 < 24) qTurned
theorem sort2 {ns : List Int} {x y : Int} (p : ns.Perm [x, y]) (s : ns.Pairwise (· ≤ ·)) : (x ≤ y → ns = [x, y]) ∧ (y ≤ x → ns = [y, x]) := by
  have hl := p.length_eq
  match ns, hl with
  | [a, b], _ =>
    have hab : a ≤ b := by
      simp at s
      exact s
    have ha : a ∈ [x, y] := p.mem_iff.mp (by simp)
    have hb : b ∈ [x, y] := p.mem_iff.mp (by simp)
    have hx : x ∈ [a, b] := p.mem_iff.mpr (by simp)
    have hy : y ∈ [a, b] := p.mem_iff.mpr (by simp)
    have ha' : a = x ∨ a = y := by simpa using ha
    have hb' : b = x ∨ b = y := by simpa using hb
    have hx' : x = a ∨ x = b := by simpa using hx
    have hy' : y = a ∨ y = b := by simpa using hy
    refine ⟨fun h => ?_, fun h => ?_⟩
    · have e1 : a = x := by omega
      have e2 : b = y := by omega
      rw [e1, e2]
    · have e1 : a = y := by omega
      have e2 : b = x := by omega
      rw [e1, e2]
theorem sorted_sg {s l h : Int} (hs : sg2 s) (lt : l < h) {ns : List Int} (p : ns.Perm [s * l, s * h]) (so : ns.Pairwise (· ≤ ·)) : ns = [lo1 s l h, hi1 s l h] := by
  obtain ⟨h1, h2⟩ := sort2 p so
  unfold lo1 hi1
  rcases hs with rfl | rfl
  · rw [h1 (by omega)]
    simp
  · rw [h2 (by omega)]
    simp
theorem run_turned {aX : Addr} (hA : ∀ H, Dp K H (.ref aX) dAxes) (g : Sol × Nat) (hp : WSol g.1 ∧ g.2 < 24) : WS K (t_turned K aX (spTs K) (spBoxes K) (spOfB K)) [some (.im (dSol g.1)), some (iN g.2), none, none, none, none, none, none, none, none] [] (PostF qTurned g) := by
  obtain ⟨hw, ht⟩ := hp
  obtain ⟨T, hT⟩ := tL_at ht
  have mT := List.mem_of_getElem? hT
  obtain ⟨⟨a1, a2, a3⟩, s1, s2, s3⟩ := tL_ax T mT
  have hT' : (tL.map dBx)[g.2]? = some (dBx T) := by rw [List.getElem?_map, hT] <;> rfl
  have ok := boxes_ok hw
  have hlen := boxes_len_all ok
  have mulok : ∀ {m i : Int}, sg2 m → CMul m i := fun {m i} h => .inl (by rcases h with rfl | rfl <;> decide)
  unfold t_turned
  refine ws_seq (ws_asg (we_op (we_call (wa_nil ⟨(), rfl, trivial, fun r hr => ?_⟩))))
  cases hr
  refine we_var rfl (wr_ixTz (atI_nat hT') (wg_tup rfl (wgs_cons (wg_name (wgs_cons (wg_name (wgs_nil ?_)))))))
  refine ws_seq (ws_set (we_lst (wa_nil ⟨[], rfl, Nat.zero_le _, .inr fun l => ?_⟩)))
  refine ws_seq (ws_for (wl_list (we_call (wa_cons (we_var rfl (wa_nil ⟨g.1, rfl, hw, fun r hr => ?_⟩))))))
  cases hr
  refine .inl ⟨_, rfl, ?_⟩
  refine ⟨fun i ds' cs' => (∃ x5 x6 x7 x8 x9 : Option SV, ds' = [some (.im (dSol g.1)), some (iN g.2), some (.im (d3 T.1)), some (.im (d3 T.2)), some (.raw (.ref l)), x5, x6, x7, x8, x9]) ∧ cs' = [(l, .lst ((((boxesS g.1).take i).map (turnB T)).map dBx))], ⟨⟨_, _, _, _, _, rfl⟩, rfl⟩, fun _ _ _ _ => srcOk_none, ?_, ?_⟩
  · rintro i ds' cs' x hx ⟨⟨x5, x6, x7, x8, x9, rfl⟩, rfl⟩
    rw [List.getElem?_map] at hx
    obtain ⟨b, hb, rfl⟩ := Option.map_eq_some_iff.mp hx
    have nb := ok.ne b (List.mem_of_getElem? hb)
    have lts : ∀ i, ax3 i → sel b.1 i < sel b.2 i := fun i hi => by
      rcases hi with rfl | rfl | rfl
      · exact nb.1
      · exact nb.2.1
      · exact nb.2.2
    refine wg_tup rfl (wgs_cons (wg_name (wgs_cons (wg_name (wgs_nil ?_)))))
    refine ws_seq (ws_set (we_axes hA (d0 := .list [.int (turnB T b).1.1, .int (turnB T b).2.1]) (d1 := .list [.int (turnB T b).1.2.1, .int (turnB T b).2.2.1]) (d2 := .list [.int (turnB T b).1.2.2, .int (turnB T b).2.2.2]) ?_ ?_ ?_ (.inl ?_)))
    · walk_at "wp"
      refine wr_ixT (atI_sel a1) (wr_mul (mulok s1) ?_)
      walk_at "wp"
      refine wr_ixT (atI_sel a1) (wr_mul (mulok s1) ?_)
      refine wa_nil ⟨_, rfl, Nat.le_of_ble_eq_true rfl, .inl (wa_nil (wc_sortedI (ns := [T.2.1 * sel b.1 T.1.1, T.2.1 * sel b.2 T.1.1]) fun ns' p so => .inl ⟨rfl, ?_⟩))⟩
      rw [sorted_sg s1 (lts _ a1) p so]
      rfl
    · walk_at "wp"
      refine wr_ixT (atI_sel a2) (wr_mul (mulok s2) ?_)
      walk_at "wp"
      refine wr_ixT (atI_sel a2) (wr_mul (mulok s2) ?_)
      refine wa_nil ⟨_, rfl, Nat.le_of_ble_eq_true rfl, .inl (wa_nil (wc_sortedI (ns := [T.2.2.1 * sel b.1 T.1.2.1, T.2.2.1 * sel b.2 T.1.2.1]) fun ns' p so => .inl ⟨rfl, ?_⟩))⟩
      rw [sorted_sg s2 (lts _ a2) p so]
      rfl
    · walk_at "wp"
      refine wr_ixT (atI_sel a3) (wr_mul (mulok s3) ?_)
      walk_at "wp"
      refine wr_ixT (atI_sel a3) (wr_mul (mulok s3) ?_)
      refine wa_nil ⟨_, rfl, Nat.le_of_ble_eq_true rfl, .inl (wa_nil (wc_sortedI (ns := [T.2.2.2 * sel b.1 T.1.2.2, T.2.2.2 * sel b.2 T.1.2.2]) fun ns' p so => .inl ⟨rfl, ?_⟩))⟩
      rw [sorted_sg s3 (lts _ a3) p so]
      rfl
    refine ws_drop (we_append (we_var rfl ⟨l, rfl, ⟨0, _, rfl⟩, wa_cons (we_tup (wa_cons (we_cb (wa_cons ?_))))⟩))
    refine we_map (l := [((turnB T b).1.1, (turnB T b).2.1), ((turnB T b).1.2.1, (turnB T b).2.2.1), ((turnB T b).1.2.2, (turnB T b).2.2.2)]) (e := fun p : Int × Int => .list [.int p.1, .int p.2]) (F := fun p => .int p.1) (gk_name (by simp)) (Nat.le_of_ble_eq_true rfl) (wl_list (we_var rfl ⟨_, rfl, rfl, srcOk_none, rfl⟩)) (fun p hp => wg_name ⟨rfl, we_op (we_var rfl (we_int (wr_ixLd (atI_nat (j := 0) rfl) ⟨rfl, rfl⟩)))⟩) (.inl (wa_nil (wc_tupL (wa_cons (we_cb (wa_cons ?_))))))
    refine we_map (l := [((turnB T b).1.1, (turnB T b).2.1), ((turnB T b).1.2.1, (turnB T b).2.2.1), ((turnB T b).1.2.2, (turnB T b).2.2.2)]) (e := fun p : Int × Int => .list [.int p.1, .int p.2]) (F := fun p => .int p.2) (gk_name (by simp)) (Nat.le_of_ble_eq_true rfl) (wl_list (we_var rfl ⟨_, rfl, rfl, srcOk_none, rfl⟩)) (fun p hp => wg_name ⟨rfl, we_op (we_var rfl (we_int (wr_ixLd (atI_nat (j := 1) rfl) ⟨rfl, rfl⟩)))⟩) (.inl (wa_nil (wc_tupL (wa_nil ⟨_, rfl, Nat.le_of_ble_eq_true rfl, wa_nil ⟨_, 0, _, rfl, rfl, ?_, ?_⟩⟩))))
    · rw [List.length_map, List.length_map, List.length_take]
      omega
    · refine ⟨⟨_, _, _, _, _, rfl⟩, ?_⟩
      rw [take_snoc hb]
      simp
  · rintro ds' cs' ⟨⟨x5, x6, x7, x8, x9, rfl⟩, rfl⟩
    rw [List.length_map, List.take_length]
    refine ws_freeze (i := 4) (j := 0) rfl rfl ?_
    refine ws_ret (we_call (wa_cons (we_var rfl (wa_nil ⟨(boxesS g.1).map (turnB T), rfl, ⟨fun c hc => ?_, by rw [List.length_map]; omega⟩, fun r hr => ?_⟩))))
    · obtain ⟨b, hb, rfl⟩ := List.mem_map.mp hc
      exact turn_in (ok.bd b hb)
    · obtain ⟨z, rfl, h1, h2⟩ := hr
      refine ⟨_, ⟨z, T, rfl, hT, h1, fun p => (h2 _).trans ?_⟩, rfl⟩
      rw [boxes_mem]
      constructor
      · rintro ⟨c, hc, hp⟩
        obtain ⟨b, hb, rfl⟩ := List.mem_map.mp hc
        exact ⟨b, hb, (turn_mem mT).mp hp⟩
      · rintro ⟨b, hb, hp⟩
        exact ⟨_, List.mem_map.mpr ⟨b, hb, rfl⟩, (turn_mem mT).mpr hp⟩
theorem fn_turned {aX : Addr} (hA : ∀ H, Dp K H (.ref aX) dAxes) (F : FnP K "turned" s_turned f fd) (mA : mg "AXES" = some (.ref aX)) (c1 : Cl P w K mg base 2 "turnings" (spTs K)) (c2 : Cl P w K mg base 1 "boxes_of" (spBoxes K)) (c3 : Cl P w K mg base 9 "of_boxes" (spOfB K)) (m1 : mg "sorted" = none) (m2 : mg "tuple" = none) : FnOk P w K mg base CX0 10 f fd ["solid", "turn"] (spTurned K) :=
  fn_F F sc_turned (fun cdv A outer s H E hr => der_turned mA c1 c2 c3 m1 m2 hr) (fun _ => rfl) fun g hp => run_turned hA g hp
/-! a setup -/
structure Stp where
  n : Str
  t : Nat
  by_ : Pt
  fix : Sol
abbrev dStp (s : Stp) : PyData := .tuple [.str s.n, .int s.t, d3 s.by_, dSol s.fix]
abbrev tgT (s : Stp) : Bx := tL.getD s.t idT
/-- where a point of the stock stands in the machine -/
def plc (s : Stp) (p : Pt) : Pt := padd (turnP (tgT s) p) s.by_
theorem tgT_at {s : Stp} (h : s.t < 24) : tL[s.t]? = some (tgT s) := by
  obtain ⟨T, hT⟩ := tL_at h
  rw [hT]
  unfold tgT
  rw [List.getD_eq_getElem?_getD, hT]
  rfl
theorem tgT_mem {s : Stp} (h : s.t < 24) : tgT s ∈ tL := List.mem_of_getElem? (tgT_at h)
/-- the other way -/
theorem plc_onto {s : Stp} (h : s.t < 24) (q : Pt) : ∃ p, plc s p = q := by
  obtain ⟨U, _, _, _, h2⟩ := turn_inv (tgT_mem h)
  refine ⟨turnP U (psub q s.by_), ?_⟩
  unfold plc
  rw [h2]
  exact Prod.ext (by simp) (Prod.ext (by simp) (by simp))
theorem plc_inj {s : Stp} (h : s.t < 24) {p q : Pt} (e : plc s p = plc s q) : p = q := by
  obtain ⟨U, _, _, h1, _⟩ := turn_inv (tgT_mem h)
  unfold plc at e
  have e' : turnP (tgT s) p = turnP (tgT s) q := by
    have e1 := congrArg (fun r : Pt => r.1) e
    have e2 := congrArg (fun r : Pt => r.2.1) e
    have e3 := congrArg (fun r : Pt => r.2.2) e
    simp only at e1 e2 e3
    exact Prod.ext (by omega) (Prod.ext (by omega) (by omega))
  rw [← h1 p, e', h1]
abbrev GPl := Stp × Sol
abbrev aPl (g : GPl) : List SV := [.im (dStp g.1), .im (dSol g.2)]
abbrev pPl (g : GPl) : Prop := g.1.t < 24 ∧ WSol g.2 ∧ ∀ p, mS g.2 p → inB cAll (plc g.1 p)
abbrev qPl (g : GPl) (r : Ret) : Prop := ∃ z : Sol, r = .im (dSol z) ∧ WSol z ∧ ∀ p, mS z (plc g.1 p) ↔ mS g.2 p
abbrev spPl (K : PySem.W.Frag) : Sp := SpF K aPl pPl qPl
theorem fn_placed (F : FnP K "placed" s_placed f fd) (c1 : Cl P w K mg base 10 "turned" (spTurned K)) (c2 : Cl P w K mg base 1 "moved" (spMov K)) : FnOk P w K mg base CX0 11 f fd ["setup", "solid"] (spPl K) :=
  fn_F F sc_placed (fun cdv A outer s H E hr => der_placed c1 c2 hr) (fun _ => rfl) fun g hp => by
    obtain ⟨h1, h2, h3⟩ := hp
    unfold t_placed
    refine ws_ret (we_call (wa_cons (we_call (wa_cons (we_var rfl (wa_cons (we_op (we_var rfl (we_int (wr_ixT (atI_nat (j := 1) rfl) ?_))))))))))
    refine wa_nil ⟨(g.2, g.1.t), rfl, ⟨h2, h1⟩, fun r hr => ?_⟩
    obtain ⟨z, T, rfl, hT, hz, hm⟩ := hr
    have eT : T = tgT g.1 := by
      have := tgT_at h1
      have h4 : tL[g.1.t]? = some T := hT
      rw [h4] at this
      exact Option.some.inj this
    subst eT
    refine wa_cons (we_op (we_var rfl (we_int (wr_ixT (atI_nat (j := 2) rfl) (wa_nil ⟨(z, g.1.by_), rfl, ⟨hz, fun p hp => ?_⟩, fun r hr => ?_⟩)))))
    · obtain ⟨U, _, _, _, h5⟩ := turn_inv (tgT_mem h1)
      have := h3 (turnP U p) ((hm _).mp (by rw [h5]; exact hp))
      unfold plc at this
      rw [h5] at this
      exact this
    · obtain ⟨z2, rfl, hz2, hm2⟩ := hr
      exact ⟨_, ⟨z2, rfl, hz2, fun p => (hm2 _).trans (hm p)⟩, rfl⟩
abbrev pTb (g : GPl) : Prop := g.1.t < 24 ∧ WSol g.2 ∧ ∀ p, mS g.2 p → inB cAll (psub p g.1.by_)
abbrev qTb (g : GPl) (r : Ret) : Prop := ∃ z : Sol, r = .im (dSol z) ∧ WSol z ∧ ∀ p, mS z p ↔ mS g.2 (plc g.1 p)
abbrev spTb (K : PySem.W.Frag) : Sp := SpF K aPl pTb qTb
theorem fn_taken_back (F : FnP K "taken_back" s_taken_back f fd) (c1 : Cl P w K mg base 1 "moved" (spMov K)) (c2 : Cl P w K mg base 5 "back" (spBack K)) (c3 : Cl P w K mg base 10 "turned" (spTurned K)) (m1 : mg "tuple" = none) : FnOk P w K mg base CX0 11 f fd ["setup", "solid"] (spTb K) :=
  fn_F F sc_taken_back (fun cdv A outer s H E hr => der_taken_back c1 c2 c3 m1 hr) (fun _ => rfl) fun g hp => by
    obtain ⟨h1, h2, h3⟩ := hp
    have es : ∀ p, padd p (-g.1.by_.1, -g.1.by_.2.1, -g.1.by_.2.2) = psub p g.1.by_ := fun p => Prod.ext (by show p.1 + -_ = p.1 - _; omega) (Prod.ext (by show p.2.1 + -_ = p.2.1 - _; omega) (by show p.2.2 + -_ = p.2.2 - _; omega))
    unfold t_taken_back
    refine ws_ret (we_call (wa_cons (we_call (wa_cons (we_var rfl (wa_cons (we_cb (wa_cons ?_))))))))
    refine we_map (l := [g.1.by_.1, g.1.by_.2.1, g.1.by_.2.2]) (e := PyData.int) (F := fun x => .int (-x)) (gk_name (by simp)) (Nat.le_of_ble_eq_true rfl) (wl_tup (we_op (we_var rfl (we_int (wr_ixT (atI_nat (j := 2) rfl) ⟨_, rfl, rfl, srcOk_none, rfl⟩))))) (fun x hx => wg_name ⟨rfl, we_neg (we_var rfl ⟨_, rfl, rfl, rfl⟩)⟩) (.inl (wa_nil (wc_tupL (wa_nil ⟨(g.2, (-g.1.by_.1, -g.1.by_.2.1, -g.1.by_.2.2)), rfl, ⟨h2, fun p hp => ?_⟩, fun r hr => ?_⟩))))
    · show inB cAll (padd p (-g.1.by_.1, -g.1.by_.2.1, -g.1.by_.2.2))
      rw [es]
      exact h3 p hp
    obtain ⟨z, rfl, hz, hm⟩ := hr
    refine wa_cons (we_call (wa_cons (we_op (we_var rfl (we_int (wr_ixT (atI_nat (j := 1) rfl) (wa_nil ⟨g.1.t, rfl, h1, fun r hr => ?_⟩)))))))
    obtain ⟨k, T, U, rfl, hk, hT, hU, hc⟩ := hr
    have eT : T = tgT g.1 := by
      have := tgT_at h1
      rw [hT] at this
      exact Option.some.inj this
    subst eT
    have mT := tgT_mem h1
    have mU := List.mem_of_getElem? hU
    have inv : ∀ p, turnP U (turnP (tgT g.1) p) = p := fun p => by rw [← turn_comp mT mU, hc, turn_id]
    refine wa_nil ⟨(z, k), rfl, ⟨hz, hk⟩, fun r hr => ?_⟩
    obtain ⟨z2, V, rfl, hV, hz2, hm2⟩ := hr
    have eV : V = U := by
      have hV' : tL[k]? = some V := hV
      rw [hU] at hV'
      exact (Option.some.inj hV').symm
    subst eV
    refine ⟨_, ⟨z2, rfl, hz2, fun p => ?_⟩, rfl⟩
    have e1 : p = turnP V (turnP (tgT g.1) p) := (inv p).symm
    have e2 : turnP (tgT g.1) p = padd (plc g.1 p) (-g.1.by_.1, -g.1.by_.2.1, -g.1.by_.2.2) := by
      rw [es]
      unfold plc
      exact Prod.ext (by simp) (Prod.ext (by simp) (by simp))
    rw [e1, hm2, ← e1, e2]
    exact hm _
end
end Sw
set_option Elab.async false
set_option linter.all false
set_option maxRecDepth 100000
set_option maxHeartbeats 4000000
set_option autoImplicit false
namespace Sw
open PySem PySem.Spec PyProof.Rows L2
local macro_rules | `(tactic| walk_at "wp1") => `(tactic| first
  | with_reducible refine ws_seq ?_
  | with_reducible refine ws_par ?_
  | with_reducible refine ws_par3 ?_
  | with_reducible refine ws_set ?_
  | with_reducible refine ws_ret ?_
  | with_reducible refine ws_drop ?_
  | with_reducible refine ws_if ?_
  | with_reducible refine ws_next ?_
  | ((with_reducible refine' we_var ?hv ?_); (case hv => rfl))
  | with_reducible refine we_int ?_
  | with_reducible refine we_bl ?_
  | with_reducible refine we_str ?_
  | with_reducible refine we_non ?_
  | with_reducible refine we_raw ?_
  | with_reducible refine we_op ?_
  | with_reducible refine we_neg ?_
  | with_reducible refine we_tup ?_
  | with_reducible refine we_lst ?_
  | with_reducible refine we_cb ?_
  | with_reducible refine we_call ?_
  | with_reducible refine we_callC ?_
  | with_reducible refine we_if ?_
  | with_reducible refine we_and ?_
  | with_reducible refine we_or ?_
  | with_reducible refine we_not ?_
  | with_reducible refine we_chain ?_
  | with_reducible refine we_sl ?_
  | with_reducible refine wo_none ?_
  | with_reducible refine wo_some ?_
  | with_reducible refine wa_nil ?_
  | with_reducible refine wa_cons ?_
  | with_reducible refine wt_test ?_
  | with_reducible refine wt_B ?_
  | with_reducible refine wt_and ?_
  | with_reducible refine wt_or ?_
  | with_reducible refine wt_not ?_
  | with_reducible refine wt_yes ?_
  | with_reducible refine wr_add ?_
  | with_reducible refine wr_sub ?_
  | with_reducible refine wr_lt ?_
  | with_reducible refine wr_le ?_
  | with_reducible refine wr_gt ?_
  | with_reducible refine wr_eqI ?_
  | with_reducible refine wr_eqB ?_
  | with_reducible refine wr_eqS ?_
  | with_reducible refine wc_lenL ?_
  | with_reducible refine wc_lenT ?_
  | with_reducible refine wc_tupL ?_
  | ((with_reducible refine' wr_ixT ?hx ?_); (case hx => rfl))
  | with_reducible refine wg_name ?_
  | ((with_reducible refine' wg_tup ?hl ?_); (case hl => rfl))
  | with_reducible refine wgs_nil ?_
  | with_reducible refine wgs_cons ?_
  | refine ⟨_, rfl, ?_⟩
  | refine ⟨Nat.le_of_ble_eq_true rfl, ?_⟩
  | refine ⟨_, _, rfl, ?_⟩
  | refine ⟨_, _, _, rfl, ?_⟩
  | fail "no step")
local macro_rules | `(tactic| walk_at "wp") => `(tactic| repeat' walk_at "wp1")

/-! ### jobs; free_lot, cut_by, closure -/
structure Tl where
  n : Str
  cut : Sol
  hold : Sol
  rate : Int
abbrev dTl (t : Tl) : PyData := .tuple [.str t.n, dSol t.cut, dSol t.hold, .int t.rate]
structure Jb where
  stock : Sol
  wished : Sol
  n : Int
  mac : Mac
  tools : List Tl
  stps : List Stp
abbrev dJb (j : Jb) : PyData := .tuple [dSol j.stock, dSol j.wished, .int j.n, dMac j.mac, .tuple (j.tools.map dTl), .tuple (j.stps.map dStp)]
abbrev bxStock : Bx := ((0, 0, 0), (3, 3, 3))
abbrev bxTool : Bx := ((-1, -1, 0), (4, 4, 5))
abbrev bxFix : Bx := ((-3, -3, -3), (8, 8, 0))
abbrev bxTrav : Bx := ((-2, -2, -1), (4, 4, 5))
abbrev home0 : Pt := (0, 0, 4)
def TlOk (t : Tl) : Prop := (WSol t.cut ∧ WSol t.hold) ∧ (∀ p, mS t.cut p → inB bxTool p) ∧ ∀ p, mS t.hold p → inB bxTool p
def StpOk (stock : Sol) (s : Stp) : Prop := s.t < 24 ∧ WSol s.fix ∧ (∀ p, mS s.fix p → inB bxFix p) ∧ ∀ p, mS stock p → inB bxStock (plc s p)
structure JbOk (j : Jb) : Prop where
  ws : WSol j.stock
  ww : WSol j.wished
  bs : ∀ p, mS j.stock p → inB bxStock p
  sub : ∀ p, mS j.wished p → mS j.stock p
  mac : j.mac.low = (-2, -2, -1) ∧ j.mac.high = (3, 3, 4) ∧ j.mac.home = home0
  tl : ∀ t ∈ j.tools, TlOk t
  st : ∀ s ∈ j.stps, StpOk j.stock s
  few : j.tools.length ≤ 10 ∧ j.stps.length ≤ 10
/-- what stands in the machine -/
def plS (s : Stp) (S : Sol) (q : Pt) : Prop := ∃ p, plc s p = q ∧ mS S p
theorem plS_iff {s : Stp} (h : s.t < 24) {S z : Sol} (hz : ∀ p, mS z (plc s p) ↔ mS S p) (q : Pt) : mS z q ↔ plS s S q := by
  constructor
  · intro hq
    obtain ⟨p, rfl⟩ := plc_onto h q
    exact ⟨p, rfl, (hz p).mp hq⟩
  · rintro ⟨p, rfl, hp⟩
    exact (hz p).mpr hp
theorem cAll_of {c : Bx} (hc : (-20 ≤ c.1.1 ∧ c.2.1 ≤ 20) ∧ (-20 ≤ c.1.2.1 ∧ c.2.2.1 ≤ 20) ∧ (-20 ≤ c.1.2.2 ∧ c.2.2.2 ≤ 20)) {p : Pt} (h : inB c p) : inB cAll p := by
  obtain ⟨⟨h1, h2⟩, ⟨h3, h4⟩, h5, h6⟩ := h
  refine ⟨⟨?_, ?_⟩, ⟨?_, ?_⟩, ?_, ?_⟩ <;> (simp only; omega)
abbrev bxAbove : Bx := ((-3, -3, -3), (8, 8, 3))
theorem above_in {s : Stp} {stock S : Sol} (hs : StpOk stock s) (sub : ∀ p, mS S p → mS stock p) {q : Pt} (h : plS s S q ∨ mS s.fix q) : inB bxAbove q := by
  obtain ⟨_, _, h1, h2⟩ := hs
  rcases h with ⟨p, rfl, hp⟩ | h
  · obtain ⟨⟨a1, a2⟩, ⟨a3, a4⟩, a5, a6⟩ := h2 p (sub p hp)
    refine ⟨⟨?_, ?_⟩, ⟨?_, ?_⟩, ?_, ?_⟩ <;> (simp only at *; omega)
  · obtain ⟨⟨a1, a2⟩, ⟨a3, a4⟩, a5, a6⟩ := h1 _ h
    refine ⟨⟨?_, ?_⟩, ⟨?_, ?_⟩, ?_, ?_⟩ <;> (simp only at *; omega)
/-- where the tool may stand -/
def Free (j : Jb) (s : Stp) (t : Tl) (R : Sol) (p : Pt) : Prop := inB bxTrav p ∧ (∀ b, mS t.cut b → ¬ (plS s j.wished (padd p b) ∨ mS s.fix (padd p b))) ∧ ∀ b, mS t.hold b → ¬ (plS s R (padd p b) ∨ mS s.fix (padd p b))
abbrev GFr := Jb × Stp × Tl × Sol
abbrev aFr (g : GFr) : List SV := [.im (dJb g.1), .im (dStp g.2.1), .im (dTl g.2.2.1), .im (dSol g.2.2.2)]
abbrev pFr (g : GFr) : Prop := JbOk g.1 ∧ g.2.1 ∈ g.1.stps ∧ g.2.2.1 ∈ g.1.tools ∧ WSol g.2.2.2 ∧ ∀ p, mS g.2.2.2 p → mS g.1.stock p
abbrev qFr (g : GFr) (r : Ret) : Prop := ∃ z : Sol, r = .im (dSol z) ∧ WSol z ∧ ∀ p, mS z p ↔ Free g.1 g.2.1 g.2.2.1 g.2.2.2 p
abbrev spFr (K : PySem.W.Frag) : Sp := SpF K aFr pFr qFr
theorem few_at {a : Sol} {t : Sol} (h1 : ∀ p, mS a p → inB bxAbove p) (h2 : ∀ p, mS t p → inB bxTool p) : Few a t := ⟨bxAbove, bxTool, h1, h2, by decide⟩
theorem sub_at {p q : Pt} (h1 : inB bxAbove p) (h2 : inB bxTool q) : inB cAll (psub p q) := by
  obtain ⟨⟨a1, a2⟩, ⟨a3, a4⟩, a5, a6⟩ := h1
  obtain ⟨⟨b1, b2⟩, ⟨b3, b4⟩, b5, b6⟩ := h2
  refine ⟨⟨?_, ?_⟩, ⟨?_, ?_⟩, ?_, ?_⟩ <;> (simp only at *; omega)
section
variable {P : Program} {w : World} {K : PySem.W.Frag} {mg : Str → Option Value} {base : Heap} {f : Addr} {fd : FuncData}
theorem run_free_lot (g : GFr) (hp : pFr g) : WS K (t_free_lot K (spPl K) (spUnion K) (spBar K) (spTrv K) (spLess K)) [some (.im (dJb g.1)), some (.im (dStp g.2.1)), some (.im (dTl g.2.2.1)), some (.im (dSol g.2.2.2)), none, none, none, none, none, none, none] [] (PostF qFr g) := by
  obtain ⟨j, s, t, R⟩ := g
  obtain ⟨ok, hs, ht, wR, sR⟩ : JbOk j ∧ s ∈ j.stps ∧ t ∈ j.tools ∧ WSol R ∧ ∀ p, mS R p → mS j.stock p := hp
  have so := ok.st s hs
  obtain ⟨s1, s2, s3, s4⟩ := so
  obtain ⟨⟨t1, t2⟩, t3, t4⟩ := ok.tl t ht
  have inC : ∀ S : Sol, (∀ p, mS S p → mS j.stock p) → ∀ p, mS S p → inB cAll (plc s p) := fun S hS p hp => cAll_of (c := bxStock) (by decide) (s4 p (hS p hp))
  unfold t_free_lot
  refine ws_seq (ws_asg (we_var rfl (wg_tup rfl (wgs_cons (wg_name (wgs_cons (wg_name (wgs_cons (wg_name (wgs_cons (wg_name (wgs_nil ?_))))))))))))
  refine ws_seq (ws_set (we_call (wa_cons (we_call (wa_cons (we_var rfl (wa_cons (we_op (we_var rfl (we_int (wr_ixT (atI_nat (j := 1) rfl) ?_)))))))))))
  refine wa_nil ⟨(s, j.wished), rfl, ⟨s1, ok.ww, inC _ ok.sub⟩, fun r hr => ?_⟩
  obtain ⟨z1, rfl, w1, m1⟩ := hr
  refine wa_cons (we_op (we_var rfl (we_int (wr_ixT (atI_nat (j := 3) rfl) (wa_nil ⟨(z1, s.fix), rfl, ⟨w1, s2⟩, fun r hr => ?_⟩)))))
  obtain ⟨spared, rfl, w2, m2⟩ := hr
  refine ws_seq (ws_set (we_call (wa_cons (we_call (wa_cons (we_var rfl (wa_cons (we_var rfl ?_))))))))
  refine wa_nil ⟨(s, R), rfl, ⟨s1, wR, inC _ sR⟩, fun r hr => ?_⟩
  obtain ⟨z2, rfl, w3, m3⟩ := hr
  refine wa_cons (we_op (we_var rfl (we_int (wr_ixT (atI_nat (j := 3) rfl) (wa_nil ⟨(z2, s.fix), rfl, ⟨w3, s2⟩, fun r hr => ?_⟩)))))
  obtain ⟨above, rfl, w4, m4⟩ := hr
  have ms : ∀ q, mS spared q ↔ plS s j.wished q ∨ mS s.fix q := fun q => by
    rw [← plS_iff s1 m1 q]
    exact m2 _
  have ma : ∀ q, mS above q ↔ plS s R q ∨ mS s.fix q := fun q => by
    rw [← plS_iff s1 m3 q]
    exact m4 _
  have bsp : ∀ p, mS spared p → inB bxAbove p := fun p hp => above_in (ok.st s hs) ok.sub ((ms p).mp hp)
  have bab : ∀ p, mS above p → inB bxAbove p := fun p hp => above_in (ok.st s hs) sR ((ma p).mp hp)
  refine ws_seq (ws_set (we_call (wa_cons (we_call (wa_cons (we_var rfl (wa_cons (we_var rfl ?_))))))))
  refine wa_nil ⟨(t.cut, spared), rfl, ⟨⟨t1, w2⟩, few_at bsp t3, fun p q hp hq => sub_at (bsp p hp) (t3 q hq)⟩, fun r hr => ?_⟩
  obtain ⟨b1, rfl, w5, m5⟩ := hr
  have fin : ∀ b2 : Sol, WSol b2 → (∀ p, mS b2 p ↔ ∃ b, mS t.hold b ∧ mS above (padd p b)) → WA K tNil [some (.im (dJb j)), some (.im (dStp s)), some (.im (dTl t)), some (.im (dSol R)), some (.im (.str t.n)), some (.im (dSol t.cut)), some (.im (dSol t.hold)), some (iN t.rate), some (.im (dSol spared)), some (.im (dSol above)), none] [] (fun svs cs' => ∃ g, [SV.im (dSol b1), SV.im (dSol b2)] ++ svs = a2 g ∧ p2 g ∧ ∀ r, q2 (fun A B => A ∨ B) g r → RetTo r cs' fun sv cs1 =>
      WS K (tRet (tCall (spLess K) [] E0 (tCons (tCall (spTrv K) [] E0 (tCons (tOp (rIxT K) (tVar 0) (tC (.int 3))) tNil)) (tCons (tVar 10) tNil)))) [some (.im (dJb j)), some (.im (dStp s)), some (.im (dTl t)), some (.im (dSol R)), some (.im (.str t.n)), some (.im (dSol t.cut)), some (.im (dSol t.hold)), some (iN t.rate), some (.im (dSol spared)), some (.im (dSol above)), some sv] cs1 (PostF qFr (j, s, t, R))) := fun b2 wb2 mb2 => by
    refine wa_nil ⟨(b1, b2), rfl, ⟨w5, wb2⟩, fun r hr => ?_⟩
    obtain ⟨shut, rfl, w6, m6⟩ := hr
    obtain ⟨mlow, mhigh, mhome⟩ := ok.mac
    have hbx : (j.mac.low, padd j.mac.high one3) = bxTrav := by rw [mlow, mhigh] <;> rfl
    refine ws_ret (we_call (wa_cons (we_call (wa_cons (we_op (we_var rfl (we_int (wr_ixT (atI_nat (j := 3) rfl) (wa_nil ⟨j.mac, rfl, by rw [hbx]; refine ⟨⟨⟨?_, ?_⟩, ?_, ?_⟩, ⟨⟨?_, ?_⟩, ?_, ?_⟩, ⟨?_, ?_⟩, ?_, ?_⟩ <;> decide, fun r hr => ?_⟩)))))))))
    obtain ⟨tr, rfl, w7, m7⟩ := hr
    rw [hbx] at m7
    refine wa_cons (we_var rfl (wa_nil ⟨(tr, shut), rfl, ⟨w7, w6⟩, fun r hr => ?_⟩))
    obtain ⟨z, rfl, w8, m8⟩ := hr
    refine ⟨_, ⟨z, rfl, w8, fun p => ?_⟩, rfl⟩
    have e8 : mS z p ↔ mS tr p ∧ ¬ mS shut p := m8 _
    have e6 : mS shut p ↔ mS b1 p ∨ mS b2 p := m6 _
    rw [e8, m7, e6, m5, mb2]
    unfold Free
    constructor
    · rintro ⟨h1, h2⟩
      exact ⟨h1, fun b hb hc => h2 (.inl ⟨b, hb, (ms _).mpr hc⟩), fun b hb hc => h2 (.inr ⟨b, hb, (ma _).mpr hc⟩)⟩
    · rintro ⟨h1, h2, h3⟩
      exact ⟨h1, fun h => by
        rcases h with ⟨b, hb, hc⟩ | ⟨b, hb, hc⟩
        · exact h2 b hb ((ms _).mp hc)
        · exact h3 b hb ((ma _).mp hc)⟩
  refine wa_cons (we_if (wt_test (we_op (we_var rfl (we_tup (wa_nil ⟨[], rfl, Nat.zero_le _, wr_neD (dSol_sh _) (by rfl) ⟨_, rfl, fun e => ?_, fun e => ?_⟩⟩))))))
  · refine we_call (wa_cons (we_var rfl (wa_cons (we_var rfl ?_))))
    refine wa_nil ⟨(t.hold, above), rfl, ⟨⟨t2, w4⟩, few_at bab t4, fun p q hp hq => sub_at (bab p hp) (t4 q hq)⟩, fun r hr => ?_⟩
    obtain ⟨b2, rfl, wb, mb⟩ := hr
    exact fin b2 wb mb
  · rw [eqv_nil_tup] at e
    have e0 : t.hold = [] := by
      cases h : t.hold with
      | nil => rfl
      | cons x y =>
        rw [h] at e
        cases e
    refine we_tup (wa_nil ⟨[], rfl, Nat.zero_le _, fin [] WFT.nil fun p => ⟨fun h => absurd h memT_nil, fun ⟨b, hb, _⟩ => ?_⟩⟩)
    rw [e0] at hb
    exact absurd hb memT_nil
theorem fn_free_lot (F : FnP K "free_lot" s_free_lot f fd) (c1 : Cl P w K mg base 11 "placed" (spPl K)) (c2 : Cl P w K mg base 7 "union" (spUnion K)) (c3 : Cl P w K mg base 10 "barred" (spBar K)) (c4 : Cl P w K mg base 2 "travel_lot" (spTrv K)) (c5 : Cl P w K mg base 7 "less" (spLess K)) : FnOk P w K mg base CX0 12 f fd ["job", "setup", "tool", "rest"] (spFr K) :=
  fn_F F sc_free_lot (fun cdv A outer s H E hr => der_free_lot c1 c2 c3 c4 c5 hr) (fun _ => rfl) fun g hp => run_free_lot g hp
/-! cut_by -/
structure GCut where
  stock : Sol
  s : Stp
  t : Tl
  lot : Sol
  R : Sol
abbrev aCut (g : GCut) : List SV := [.im (dStp g.s), .im (dTl g.t), .im (dSol g.lot), .im (dSol g.R)]
abbrev pCut (g : GCut) : Prop := (StpOk g.stock g.s ∧ TlOk g.t) ∧ (WSol g.lot ∧ ∀ p, mS g.lot p → inB bxTrav p) ∧ WSol g.R ∧ (∀ p, mS g.R p → mS g.stock p) ∧ ∀ p, mS g.stock p → inB bxStock p
def Cuts (s : Stp) (t : Tl) (lot : Sol) (p : Pt) : Prop := ∃ a b, mS lot a ∧ mS t.cut b ∧ plc s p = padd a b
abbrev qCut (g : GCut) (r : Ret) : Prop := ∃ z : Sol, r = .im (dSol z) ∧ WSol z ∧ ∀ p, mS z p ↔ mS g.R p ∧ Cuts g.s g.t g.lot p
abbrev spCut (K : PySem.W.Frag) : Sp := SpF K aCut pCut qCut
theorem turn_small {T : Bx} (hT : T ∈ tL) {p : Pt} (h : inB bxStock p) : inB cAll (turnP T p) := by
  obtain ⟨⟨a1, a2, a3⟩, s1, s2, s3⟩ := tL_ax T hT
  have hs : ∀ i, ax3 i → 0 ≤ sel p i ∧ sel p i < 3 := fun i hi => by
    rcases hi with rfl | rfl | rfl
    · exact h.1
    · exact h.2.1
    · exact h.2.2
  have key : ∀ s i, sg2 s → ax3 i → -20 ≤ sg s (sel p i) ∧ sg s (sel p i) < 20 := fun s i hs2 hi => by
    have := hs i hi
    unfold sg
    split <;> omega
  exact ⟨key _ _ s1 a1, key _ _ s2 a2, key _ _ s3 a3⟩
theorem psub_plc (s : Stp) (p : Pt) : psub (plc s p) s.by_ = turnP (tgT s) p := by
  unfold plc
  exact Prod.ext (by simp) (Prod.ext (by simp) (by simp))
theorem run_cut_by (g : GCut) (hp : pCut g) : WS K (t_cut_by K (spPl K) (spSwp K) (spMeet K) (spTb K)) [some (.im (dStp g.s)), some (.im (dTl g.t)), some (.im (dSol g.lot)), some (.im (dSol g.R))] [] (PostF qCut g) := by
  obtain ⟨⟨so, ⟨t1, t2⟩, t3, t4⟩, ⟨wl, bl⟩, wR, sR, bS⟩ := hp
  obtain ⟨s1, s2, s3, s4⟩ := so
  unfold t_cut_by
  refine ws_ret (we_if (wt_test (we_op (we_var rfl (we_tup (wa_nil ⟨[], rfl, Nat.zero_le _, wr_neD (dSol_sh _) (by rfl) ⟨_, rfl, fun e => ?_, fun e => ?_⟩⟩))))))
  · refine we_call (wa_cons (we_var rfl (wa_cons (we_call (wa_cons (we_call (wa_cons (we_var rfl (wa_cons (we_var rfl ?_))))))))))
    refine wa_nil ⟨(g.s, g.R), rfl, ⟨s1, wR, fun p hp => cAll_of (c := bxStock) (by decide) (s4 p (sR p hp))⟩, fun r hr => ?_⟩
    obtain ⟨z1, rfl, w1, m1⟩ := hr
    refine wa_cons (we_call (wa_cons (we_var rfl (wa_cons (we_op (we_var rfl (we_int (wr_ixT (atI_nat (j := 1) rfl) ?_))))))))
    refine wa_nil ⟨(g.lot, g.t.cut), rfl, ⟨⟨wl, t1⟩, ⟨bxTrav, bxTool, bl, t3, by decide⟩, fun p q hp hq => ?_⟩, fun r hr => ?_⟩
    · obtain ⟨⟨a1, a2⟩, ⟨a3, a4⟩, a5, a6⟩ := bl p hp
      obtain ⟨⟨b1, b2⟩, ⟨b3, b4⟩, b5, b6⟩ := t3 q hq
      refine ⟨⟨?_, ?_⟩, ⟨?_, ?_⟩, ?_, ?_⟩ <;> (simp only at *; omega)
    obtain ⟨z2, rfl, w2, m2⟩ := hr
    refine wa_nil ⟨(z1, z2), rfl, ⟨w1, w2⟩, fun r hr => ?_⟩
    obtain ⟨z3, rfl, w3, m3⟩ := hr
    have e3 : ∀ p, mS z3 p ↔ mS z1 p ∧ mS z2 p := fun p => m3 _
    refine wa_nil ⟨(g.s, z3), rfl, ⟨s1, w3, fun q hq => ?_⟩, fun r hr => ?_⟩
    · obtain ⟨p, rfl⟩ := plc_onto s1 q
      show inB cAll (psub (plc g.s p) g.s.by_)
      rw [psub_plc]
      exact turn_small (tgT_mem s1) (bS p (sR p ((m1 p).mp ((e3 _).mp hq).1)))
    obtain ⟨z, rfl, wz, mz⟩ := hr
    refine ⟨_, ⟨z, rfl, wz, fun p => ?_⟩, rfl⟩
    rw [mz p, e3, m2]
    have := m1 p
    rw [this]
    rfl
  · rw [eqv_nil_tup] at e
    have e0 : g.lot = [] := by
      cases h : g.lot with
      | nil => rfl
      | cons x y =>
        rw [h] at e
        cases e
    refine we_tup (wa_nil ⟨[], rfl, Nat.zero_le _, _, ⟨[], rfl, WFT.nil, fun p => ⟨fun h => absurd h memT_nil, fun ⟨_, a, b, ha, _⟩ => ?_⟩⟩, rfl⟩)
    rw [e0] at ha
    exact absurd ha memT_nil
theorem fn_cut_by (F : FnP K "cut_by" s_cut_by f fd) (c1 : Cl P w K mg base 11 "placed" (spPl K)) (c2 : Cl P w K mg base 10 "swept" (spSwp K)) (c3 : Cl P w K mg base 7 "meet" (spMeet K)) (c4 : Cl P w K mg base 11 "taken_back" (spTb K)) : FnOk P w K mg base CX0 12 f fd ["setup", "tool", "lot", "rest"] (spCut K) :=
  fn_F F sc_cut_by (fun cdv A outer s H E hr => der_cut_by c1 c2 c3 c4 hr) (fun _ => rfl) fun g hp => run_cut_by g hp
end
end Sw
set_option Elab.async false
set_option linter.all false
set_option maxRecDepth 100000
set_option maxHeartbeats 4000000
set_option autoImplicit false
namespace Sw
open PySem PySem.Spec PyProof.Rows L2
local macro_rules | `(tactic| walk_at "wp1") => `(tactic| first
  | with_reducible refine ws_seq ?_
  | with_reducible refine ws_par ?_
  | with_reducible refine ws_par3 ?_
  | with_reducible refine ws_set ?_
  | with_reducible refine ws_ret ?_
  | with_reducible refine ws_drop ?_
  | with_reducible refine ws_if ?_
  | with_reducible refine ws_next ?_
  | ((with_reducible refine' we_var ?hv ?_); (case hv => rfl))
  | with_reducible refine we_int ?_
  | with_reducible refine we_bl ?_
  | with_reducible refine we_str ?_
  | with_reducible refine we_non ?_
  | with_reducible refine we_raw ?_
  | with_reducible refine we_op ?_
  | with_reducible refine we_neg ?_
  | with_reducible refine we_tup ?_
  | with_reducible refine we_lst ?_
  | with_reducible refine we_cb ?_
  | with_reducible refine we_call ?_
  | with_reducible refine we_callC ?_
  | with_reducible refine we_if ?_
  | with_reducible refine we_and ?_
  | with_reducible refine we_or ?_
  | with_reducible refine we_not ?_
  | with_reducible refine we_chain ?_
  | with_reducible refine we_sl ?_
  | with_reducible refine wo_none ?_
  | with_reducible refine wo_some ?_
  | with_reducible refine wa_nil ?_
  | with_reducible refine wa_cons ?_
  | with_reducible refine wt_test ?_
  | with_reducible refine wt_B ?_
  | with_reducible refine wt_and ?_
  | with_reducible refine wt_or ?_
  | with_reducible refine wt_not ?_
  | with_reducible refine wt_yes ?_
  | with_reducible refine wr_add ?_
  | with_reducible refine wr_sub ?_
  | with_reducible refine wr_lt ?_
  | with_reducible refine wr_le ?_
  | with_reducible refine wr_gt ?_
  | with_reducible refine wr_eqI ?_
  | with_reducible refine wr_eqB ?_
  | with_reducible refine wr_eqS ?_
  | with_reducible refine wc_lenL ?_
  | with_reducible refine wc_lenT ?_
  | with_reducible refine wc_tupL ?_
  | ((with_reducible refine' wr_ixT ?hx ?_); (case hx => rfl))
  | with_reducible refine wg_name ?_
  | ((with_reducible refine' wg_tup ?hl ?_); (case hl => rfl))
  | with_reducible refine wgs_nil ?_
  | with_reducible refine wgs_cons ?_
  | refine ⟨_, rfl, ?_⟩
  | refine ⟨Nat.le_of_ble_eq_true rfl, ?_⟩
  | refine ⟨_, _, rfl, ?_⟩
  | refine ⟨_, _, _, rfl, ?_⟩
  | fail "no step")
local macro_rules | `(tactic| walk_at "wp") => `(tactic| repeat' walk_at "wp1")

/-! ### closure -/
theorem lkp_of_mem {κ : Type} [DecidableEq κ] {kvs : List (κ × PyData)} {k : κ} (h : k ∈ kvs.map (·.1)) : ∃ d, lkp kvs k = some d := by
  cases e : lkp kvs k with
  | some d => exact ⟨d, rfl⟩
  | none => exact absurd h (lkp_none.mp e)
/-- what the last lot of a tool in a setup tells -/
def LotOf (j : Jb) (s : Stp) (t : Tl) (R : Sol) : Prop := ∃ L : Sol, mS L home0 ∧ (∀ p q, mS L p → Free j s t R q → Nbr p q → mS L q) ∧ ∀ p, mS R p → ¬ Cuts s t L p
structure Clo (j : Jb) (R : Sol) : Prop where
  w : WSol R
  sub : ∀ p, mS R p → mS j.stock p
  sup : ∀ p, mS j.wished p → mS R p
abbrev qClo (j : Jb) (r : Ret) : Prop := ∃ (R : Sol) (d : PyData), r = .im (.tuple [dSol R, d]) ∧ Clo j R ∧ ∀ s ∈ j.stps, ∀ t ∈ j.tools, LotOf j s t R
abbrev spClo (K : PySem.W.Frag) : Sp := SpF K (fun j : Jb => [.im (dJb j)]) JbOk qClo
open Classical in
noncomputable def cubes (R : Sol) : Nat := ((ptsIn bxStock).filter fun p => decide (mS R p)).length
theorem filter_lt {α : Type} {p q : α → Bool} : ∀ {l : List α}, (∀ x ∈ l, q x = true → p x = true) → (∃ x ∈ l, p x = true ∧ q x = false) → (l.filter q).length < (l.filter p).length
  | [], _, ⟨x, h, _⟩ => by cases h
  | a :: l, h, ⟨x, hx, h1, h2⟩ => by
    have le : ∀ l : List α, (∀ x ∈ l, q x = true → p x = true) → (l.filter q).length ≤ (l.filter p).length := by
      intro l
      induction l with
      | nil => intro _; exact Nat.le_refl _
      | cons b l ih =>
        intro h
        have := ih fun x hx => h x (List.mem_cons_of_mem _ hx)
        rw [List.filter_cons, List.filter_cons]
        by_cases hb : q b = true
        · rw [if_pos hb, if_pos (h b (by simp) hb), List.length_cons, List.length_cons]
          omega
        · rw [if_neg hb]
          split
          · rw [List.length_cons]
            omega
          · exact this
    rw [List.filter_cons, List.filter_cons]
    rcases List.mem_cons.mp hx with e | hx
    · subst e
      rw [if_pos h1, if_neg (by rw [h2]; exact Bool.false_ne_true), List.length_cons]
      have := le l fun y hy => h y (List.mem_cons_of_mem _ hy)
      omega
    · have ih := filter_lt (p := p) (q := q) (l := l) (fun y hy => h y (List.mem_cons_of_mem _ hy)) ⟨x, hx, h1, h2⟩
      by_cases hb : q a = true
      · rw [if_pos hb, if_pos (h a (by simp) hb), List.length_cons, List.length_cons]
        omega
      · rw [if_neg hb]
        split
        · rw [List.length_cons]
          omega
        · exact ih
open Classical in
theorem cubes_lt {R R' : Sol} (h : ∀ p, mS R' p → mS R p) (b : ∀ p, mS R p → inB bxStock p) (x : ∃ p, mS R p ∧ ¬ mS R' p) : cubes R' < cubes R := by
  obtain ⟨p, h1, h2⟩ := x
  refine filter_lt (fun p _ hp => decide_eq_true (h p (of_decide_eq_true hp))) ⟨p, mem_ptsIn (b p h1), decide_eq_true h1, decide_eq_false h2⟩
theorem home_free {j : Jb} (ok : JbOk j) {s : Stp} (hs : s ∈ j.stps) {t : Tl} (ht : t ∈ j.tools) {R : Sol} (sR : ∀ p, mS R p → mS j.stock p) : Free j s t R home0 := by
  obtain ⟨s1, s2, s3, s4⟩ := ok.st s hs
  obtain ⟨_, t3, t4⟩ := ok.tl t ht
  have no : ∀ S : Sol, (∀ p, mS S p → mS j.stock p) → ∀ b, inB bxTool b → ¬ (plS s S (padd home0 b) ∨ mS s.fix (padd home0 b)) := fun S hS b hb h => by
    obtain ⟨_, _, b5, b6⟩ := hb
    rcases h with ⟨p, e, hp⟩ | h
    · obtain ⟨_, _, c5, c6⟩ := s4 p (hS p hp)
      rw [e] at c5 c6
      simp only at b5 b6 c5 c6
      omega
    · obtain ⟨_, _, c5, c6⟩ := s3 _ h
      simp only at b5 b6 c5 c6
      omega
  exact ⟨⟨⟨by decide, by decide⟩, ⟨by decide, by decide⟩, by decide, by decide⟩, fun b hb => no _ ok.sub b (t3 b hb), fun b hb => no _ sR b (t4 b hb)⟩
abbrev key2 (a b : Nat) : List L2.Key := [.inl (a : Int), .inl (b : Int)]
structure LotsI (j : Jb) (kvs : List (List L2.Key × PyData)) : Prop where
  nd : (kvs.map (·.1)).Nodup
  in_ : ∀ k ∈ kvs.map (·.1), ∃ a b, a < j.stps.length ∧ b < j.tools.length ∧ k = key2 a b
theorem LotsI.few {j : Jb} (ok : JbOk j) {kvs : List (List L2.Key × PyData)} (h : LotsI j kvs) : kvs.length ≤ 100 := by
  have hl : (kvs.map (·.1)).length ≤ ((List.range 10).flatMap fun a => (List.range 10).map fun b => key2 a b).length := nodup_len h.nd fun k hk => by
    obtain ⟨a, b, h1, h2, rfl⟩ := h.in_ k hk
    have := ok.few
    exact List.mem_flatMap.mpr ⟨a, List.mem_range.mpr (by omega), List.mem_map.mpr ⟨b, List.mem_range.mpr (by omega), rfl⟩⟩
  have e : ((List.range 10).flatMap fun a => (List.range 10).map fun b => key2 a b).length = 100 := by rw [len_pairs]; rfl
  rw [List.length_map, e] at hl
  exact hl
theorem LotsI.put {j : Jb} {kvs : List (List L2.Key × PyData)} (h : LotsI j kvs) {a b : Nat} (ha : a < j.stps.length) (hb : b < j.tools.length) (d : PyData) : LotsI j (putD kvs (key2 a b) d) :=
  ⟨putD_nodup h.nd, fun k hk => by
    rcases (putD_keys k).mp hk with hk | rfl
    · exact h.in_ k hk
    · exact ⟨a, b, ha, hb, rfl⟩⟩
section
variable {P : Program} {w : World} {K : PySem.W.Frag} {mg : Str → Option Value} {base : Heap} {f : Addr} {fd : FuncData}
/-- at a turn of the inner loop: i, k the places, b whether anything was cut -/
structure CloI (j : Jb) (i k : Nat) (b : Bool) (R0 R : Sol) (kvs : List (List L2.Key × PyData)) : Prop where
  c : Clo j R
  lt : b = true → cubes R < cubes R0
  eq : b = false → R = R0 ∧ ∀ (a n : Nat) (s : Stp) (t : Tl), (a < i ∨ (a = i ∧ n < k)) → j.stps[a]? = some s → j.tools[n]? = some t → LotOf j s t R0
  ks : LotsI j kvs
  has : ∀ a n : Nat, (a < i ∨ (a = i ∧ n < k)) → a < j.stps.length → n < j.tools.length → key2 a n ∈ kvs.map (·.1)
theorem run_closure (j : Jb) (ok : JbOk j) : WS K (t_closure K (spFr K) (spPw K) (spCut K) (spLess K)) [some (.im (dJb j)), none, none, none, none, none, none, none, none, none] [] (PostF qClo j) := by
  unfold t_closure
  refine ws_seq (ws_parT (wa_cons (we_op (we_var rfl (we_int (wr_ixT (atI_nat (j := 0) rfl) (wa_cons (we_dnewT fun l => wa_nil ⟨_, _, rfl, ?_⟩))))))))
  refine ws_seq (ws_set (we_bl ?_))
  refine ws_seq (ws_while (fun m ds' cs' => ∃ (R : Sol) (b : Bool) (kvs : List (List L2.Key × PyData)) (x4 x5 x6 x7 x8 x9 : Option SV), ds' = [some (.im (dJb j)), some (.im (dSol R)), some (.raw (.ref l)), some (bB b), x4, x5, x6, x7, x8, x9] ∧ cs' = [(l, .dt kvs)] ∧ Clo j R ∧ LotsI j kvs ∧
      (b = false → (∀ s ∈ j.stps, ∀ t ∈ j.tools, LotOf j s t R) ∧ ∀ a n : Nat, a < j.stps.length → n < j.tools.length → key2 a n ∈ kvs.map (·.1)) ∧ m = 2 * cubes R + (if b then 1 else 0)) (2 * cubes j.stock + 1) ?_ fun m ds' cs' hI => ?_)
  · exact ⟨j.stock, true, [], _, _, _, _, _, _, rfl, rfl, ⟨ok.ws, fun _ h => h, ok.sub⟩, ⟨List.nodup_nil, fun k h => (by cases h)⟩, fun e => (nomatch e), rfl⟩
  obtain ⟨R0, b, kvs0, x4, x5, x6, x7, x8, x9, rfl, rfl, hc0, hk0, hb0, rfl⟩ := hI
  refine wt_B (we_var rfl ⟨b, rfl, fun e => ?_, fun e => ?_⟩)
  · subst e
    refine ws_seq (ws_set (we_bl ?_))
    refine ws_for (wl_enumT (wa_cons (we_op (we_var rfl (we_int (wr_ixT (atI_nat (j := 5) rfl) (wa_nil ⟨_, rfl, ?_⟩)))))))
    refine ⟨fun i ds' cs' => ∃ (R : Sol) (b : Bool) (kvs : List (List L2.Key × PyData)) (x4 x5 x6 x7 x8 x9 : Option SV), ds' = [some (.im (dJb j)), some (.im (dSol R)), some (.raw (.ref l)), some (bB b), x4, x5, x6, x7, x8, x9] ∧ cs' = [(l, .dt kvs)] ∧ CloI j i 0 b R0 R kvs, ?_, fun _ _ _ _ => srcOk_none, ?_, ?_⟩
    · exact ⟨R0, false, kvs0, _, _, _, _, _, _, rfl, rfl, ⟨hc0, fun e => (nomatch e), fun _ => ⟨rfl, fun a n s t h => by omega⟩, hk0, fun a n h => by omega⟩⟩
    · rintro i ds' cs' x hx ⟨R, b, kvs, x4, x5, x6, x7, x8, x9, rfl, rfl, hI⟩
      obtain ⟨y, hy, rfl⟩ := enumD_get hx
      rw [List.getElem?_map] at hy
      obtain ⟨s, hs, rfl⟩ := Option.map_eq_some_iff.mp hy
      have sm := List.mem_of_getElem? hs
      have slt := (List.getElem?_eq_some_iff.mp hs).1
      rw [Nat.zero_add]
      refine wg_tup rfl (wgs_cons (wg_name (wgs_cons (wg_name (wgs_nil ?_)))))
      refine ws_for (wl_enumT (wa_cons (we_op (we_var rfl (we_int (wr_ixT (atI_nat (j := 4) rfl) (wa_nil ⟨_, rfl, ?_⟩)))))))
      refine ⟨fun k ds' cs' => ∃ (R : Sol) (b : Bool) (kvs : List (List L2.Key × PyData)) (x6 x7 x8 x9 : Option SV), ds' = [some (.im (dJb j)), some (.im (dSol R)), some (.raw (.ref l)), some (bB b), some (iN i), some (.im (dStp s)), x6, x7, x8, x9] ∧ cs' = [(l, .dt kvs)] ∧ CloI j i k b R0 R kvs, ⟨R, b, kvs, _, _, _, _, rfl, rfl, hI⟩, fun _ _ _ _ => srcOk_none, ?_, ?_⟩
      · rintro k ds' cs' x hx ⟨R, b, kvs, x6, x7, x8, x9, rfl, rfl, hI⟩
        obtain ⟨y, hy, rfl⟩ := enumD_get hx
        rw [List.getElem?_map] at hy
        obtain ⟨t, ht, rfl⟩ := Option.map_eq_some_iff.mp hy
        have tm := List.mem_of_getElem? ht
        have tlt := (List.getElem?_eq_some_iff.mp ht).1
        have cR := hI.c
        rw [Nat.zero_add]
        refine wg_tup rfl (wgs_cons (wg_name (wgs_cons (wg_name (wgs_nil ?_)))))
        refine ws_seq (ws_set (we_call (wa_cons (we_call (wa_cons (we_var rfl (wa_cons (we_var rfl (wa_cons (we_var rfl (wa_cons (we_var rfl ?_))))))))))))
        refine wa_nil ⟨(j, s, t, R), rfl, ⟨ok, sm, tm, cR.w, cR.sub⟩, fun r hr => ?_⟩
        obtain ⟨fr, rfl, wf, mf⟩ := hr
        have mf' : ∀ p, mS fr p ↔ Free j s t R p := mf
        refine wa_cons (we_op (we_op (we_var rfl (we_int (wr_ixT (atI_nat (j := 3) rfl) (we_int (wr_ixT (atI_nat (j := 2) rfl) ?_)))))))
        refine wa_nil ⟨(fr, home0), by rw [ok.mac.2.2], ⟨wf, (mf' _).mpr (home_free ok sm tm cR.sub)⟩, fun r hr => ?_⟩
        obtain ⟨lot, rfl, wl, hl, pl⟩ := hr
        have lin : ∀ p, mS lot p → inB bxTrav p := fun p hp => ((mf' p).mp (pl.1 p hp)).1
        refine ws_seq (ws_set (we_call (wa_cons (we_var rfl (wa_cons (we_var rfl (wa_cons (we_var rfl (wa_cons (we_var rfl ?_))))))))))
        refine wa_nil ⟨⟨j.stock, s, t, lot, R⟩, rfl, ⟨⟨ok.st s sm, ok.tl t tm⟩, ⟨wl, lin⟩, cR.w, cR.sub, ok.bs⟩, fun r hr => ?_⟩
        obtain ⟨cut, rfl, wc, mc⟩ := hr
        have mc' : ∀ p, mS cut p ↔ mS R p ∧ Cuts s t lot p := mc
        refine ws_seq (ws_dput (we_var rfl ⟨dSol lot, rfl, we_var rfl ⟨l, rfl, ?_⟩⟩))
        refine wa_cons (we_var rfl (wa_cons (we_var rfl (wa_nil ⟨0, kvs, key2 i k, rfl, Nat.le_of_ble_eq_true rfl, rfl, ?_, ?_⟩))))
        · have := hI.ks.few ok
          omega
        have ks2 := hI.ks.put slt tlt (dSol lot)
        have has2 : ∀ a n : Nat, (a < i ∨ (a = i ∧ n < k + 1)) → a < j.stps.length → n < j.tools.length → key2 a n ∈ (putD kvs (key2 i k) (dSol lot)).map (·.1) := fun a n h h1 h2 => by
          rw [putD_keys]
          by_cases c : a = i ∧ n = k
          · obtain ⟨rfl, rfl⟩ := c
            exact .inr rfl
          · exact .inl (hI.has a n (by omega) h1 h2)
        refine ws_if (wt_test (we_op (we_var rfl (we_tup (wa_nil ⟨[], rfl, Nat.zero_le _, wr_neD (dSol_sh _) (by rfl) ⟨_, rfl, fun e => ?_, fun e => ?_⟩⟩)))))
        · rw [eqv_nil_tup] at e
          have hne : cut ≠ [] := by
            rintro rfl
            cases e
          have hex : ∃ p, mS cut p := by
            refine Classical.byContradiction fun h => hne ((sol_nil_iff wc).mpr fun p hp => h ⟨p, hp⟩)
          refine ws_seq (ws_set (we_call (wa_cons (we_var rfl (wa_cons (we_var rfl (wa_nil ⟨(R, cut), rfl, ⟨cR.w, wc⟩, fun r hr => ?_⟩)))))))
          obtain ⟨R', rfl, wR', mR⟩ := hr
          have mR' : ∀ p, mS R' p ↔ mS R p ∧ ¬ mS cut p := fun p => mR _
          refine ws_set (we_bl ?_)
          have hx : ∃ p, mS R p ∧ ¬ mS R' p := by
            obtain ⟨p, hp⟩ := hex
            exact ⟨p, ((mc' p).mp hp).1, fun h => ((mR' p).mp h).2 hp⟩
          have hlt : cubes R' < cubes R := cubes_lt (fun p hp => ((mR' p).mp hp).1) (fun p hp => ok.bs p (cR.sub p hp)) hx
          refine ⟨R', true, _, _, _, _, _, rfl, rfl, ⟨⟨wR', fun p hp => cR.sub p ((mR' p).mp hp).1, fun p hp => ?_⟩, fun _ => ?_, fun e => (nomatch e), ks2, has2⟩⟩
          · refine (mR' p).mpr ⟨cR.sup p hp, fun hcut => ?_⟩
            obtain ⟨_, a, b', ha, hb', e'⟩ := (mc' p).mp hcut
            have hf := (mf' a).mp (pl.1 a ha)
            exact hf.2.1 b' hb' (.inl ⟨p, e', hp⟩)
          · cases hbb : b with
            | true => exact Nat.lt_trans hlt (hI.lt hbb)
            | false =>
              have := (hI.eq hbb).1
              rw [this] at hlt
              exact hlt
        · rw [eqv_nil_tup] at e
          have hcn : cut = [] := by
            cases h : cut with
            | nil => rfl
            | cons x y =>
              rw [h] at e
              cases e
          have nocut : ∀ p, mS R p → ¬ Cuts s t lot p := fun p hp hc => (sol_nil_iff wc).mp hcn p ((mc' p).mpr ⟨hp, hc⟩)
          refine ws_next ⟨R, b, _, _, _, _, _, rfl, rfl, ⟨cR, hI.lt, fun hb => ⟨(hI.eq hb).1, fun a n s' t' h h1 h2 => ?_⟩, ks2, has2⟩⟩
          have eR := (hI.eq hb).1
          by_cases c : a = i ∧ n = k
          · obtain ⟨rfl, rfl⟩ := c
            rw [hs] at h1
            rw [ht] at h2
            cases h1
            cases h2
            rw [← eR]
            exact ⟨lot, hl, fun p q hp hq hn => pl.2 p q hp ((mf' q).mpr hq) hn, nocut⟩
          · exact (hI.eq hb).2 a n s' t' (by omega) h1 h2
      · rintro ds' cs' ⟨R, b, kvs, x6, x7, x8, x9, rfl, rfl, hI⟩
        rw [enumD_len, List.length_map] at hI
        refine ⟨R, b, kvs, _, _, _, _, _, _, rfl, rfl, ⟨hI.c, hI.lt, fun hb => ⟨(hI.eq hb).1, fun a n s' t' h h1 h2 => (hI.eq hb).2 a n s' t' ?_ h1 h2⟩, hI.ks, fun a n h h1 h2 => hI.has a n ?_ h1 h2⟩⟩
        · have := (List.getElem?_eq_some_iff.mp h2).1
          omega
        · omega
    · rintro ds' cs' ⟨R, b, kvs, x4, x5, x6, x7, x8, x9, rfl, rfl, hI⟩
      rw [enumD_len, List.length_map] at hI
      refine ⟨2 * cubes R + (if b then 1 else 0), ?_, R, b, kvs, _, _, _, _, _, _, rfl, rfl, hI.c, hI.ks, fun hb => ⟨fun s hs t ht => ?_, fun a n h1 h2 => hI.has a n (by omega) h1 h2⟩, rfl⟩
      · cases hbb : b with
        | true =>
          have := hI.lt hbb
          simp
          omega
        | false =>
          have := (hI.eq hbb).1
          rw [this]
          simp
      · obtain ⟨a, ha⟩ := List.mem_iff_getElem?.mp hs
        obtain ⟨n, hn⟩ := List.mem_iff_getElem?.mp ht
        have := (hI.eq hb).2 a n s t (.inl (List.getElem?_eq_some_iff.mp ha).1) ha hn
        rw [(hI.eq hb).1]
        exact this
  · obtain ⟨h1, h2⟩ := hb0 e
    have fs := ok.few
    refine ws_ret (we_tup (wa_cons (we_var rfl (wa_cons (we_cb (wa_cons ?_))))))
    refine we_mapR (l := List.range j.stps.length) (e := fun k : Nat => .int ((0 : Int) + (k : Int))) (R := fun _ _ => True) (gk_name (by simp)) (by rw [List.length_range]; omega) (wl_rng1 (wa_cons (we_cb (wa_cons (we_op (we_var rfl (we_int (wr_ixT (atI_nat (j := 5) rfl) (wa_nil (wc_lenT (wa_nil ⟨_, rfl, ?_, ?_, ?_, srcOk_none, rfl⟩))))))))))) (fun a ha => wg_name ⟨rfl, ?_⟩) fun ys hys => .inl ?_
    · rw [List.length_map]
      omega
    · rw [List.length_map]
      omega
    · rw [List.length_map, Int.toNat_natCast]
      rfl
    · have ha' := List.mem_range.mp ha
      refine we_cb (wa_cons ?_)
      refine we_mapR (l := List.range j.tools.length) (e := fun k : Nat => .int ((0 : Int) + (k : Int))) (R := fun _ _ => True) (gk_name (by simp)) (by rw [List.length_range]; omega) (wl_rng1 (wa_cons (we_cb (wa_cons (we_op (we_var rfl (we_int (wr_ixT (atI_nat (j := 4) rfl) (wa_nil (wc_lenT (wa_nil ⟨_, rfl, ?_, ?_, ?_, srcOk_none, rfl⟩))))))))))) (fun n hn => wg_name ⟨rfl, ?_⟩) fun ys hys => .inl ?_
      · rw [List.length_map]
        omega
      · rw [List.length_map]
        omega
      · rw [List.length_map, Int.toNat_natCast]
        rfl
      · have hn' := List.mem_range.mp hn
        have hm := h2 a n ha' hn'
        obtain ⟨d, hd⟩ := lkp_of_mem hm
        refine we_dgetT (we_var rfl (we_tup (wa_cons (we_var rfl (wa_cons (we_var rfl (wa_nil ⟨_, rfl, Nat.le_of_ble_eq_true rfl, l, 0, kvs0, key2 a n, d, rfl, ?_, rfl, hd, rfl, d, rfl, trivial⟩)))))))
        rw [Int.zero_add, Int.zero_add]
        rfl
      · exact wa_nil (wc_tupL ⟨rfl, _, rfl, trivial⟩)
    · exact wa_nil (wc_tupL (wa_nil ⟨_, rfl, Nat.le_of_ble_eq_true rfl, _, ⟨R0, _, rfl, hc0, h1⟩, rfl⟩))
theorem fn_closure (F : FnP K "closure" s_closure f fd) (c1 : Cl P w K mg base 12 "free_lot" (spFr K)) (c2 : Cl P w K mg base 11 "piece_with" (spPw K)) (c3 : Cl P w K mg base 12 "cut_by" (spCut K)) (c4 : Cl P w K mg base 7 "less" (spLess K)) (m1 : mg "enumerate" = none) (m2 : mg "range" = none) (m3 : mg "len" = none) (m4 : mg "tuple" = none) : FnOk P w K mg base CX0 13 f fd ["job"] (spClo K) :=
  fn_F F sc_closure (fun cdv A outer s H E hr => der_closure c1 c2 c3 c4 m1 m2 m3 m4 hr) (fun _ => rfl) fun g hp => run_closure g hp
end
end Sw
set_option Elab.async false
set_option linter.all false
set_option maxRecDepth 100000
set_option maxHeartbeats 4000000
set_option autoImplicit false
namespace Sw
open PySem PySem.Spec PyProof.Rows L2
local macro_rules | `(tactic| walk_at "wp1") => `(tactic| first
  | with_reducible refine ws_seq ?_
  | with_reducible refine ws_par ?_
  | with_reducible refine ws_par3 ?_
  | with_reducible refine ws_set ?_
  | with_reducible refine ws_ret ?_
  | with_reducible refine ws_drop ?_
  | with_reducible refine ws_if ?_
  | with_reducible refine ws_next ?_
  | ((with_reducible refine' we_var ?hv ?_); (case hv => rfl))
  | with_reducible refine we_int ?_
  | with_reducible refine we_bl ?_
  | with_reducible refine we_str ?_
  | with_reducible refine we_non ?_
  | with_reducible refine we_raw ?_
  | with_reducible refine we_op ?_
  | with_reducible refine we_neg ?_
  | with_reducible refine we_tup ?_
  | with_reducible refine we_lst ?_
  | with_reducible refine we_cb ?_
  | with_reducible refine we_call ?_
  | with_reducible refine we_callC ?_
  | with_reducible refine we_if ?_
  | with_reducible refine we_and ?_
  | with_reducible refine we_or ?_
  | with_reducible refine we_not ?_
  | with_reducible refine we_chain ?_
  | with_reducible refine we_sl ?_
  | with_reducible refine wo_none ?_
  | with_reducible refine wo_some ?_
  | with_reducible refine wa_nil ?_
  | with_reducible refine wa_cons ?_
  | with_reducible refine wt_test ?_
  | with_reducible refine wt_B ?_
  | with_reducible refine wt_and ?_
  | with_reducible refine wt_or ?_
  | with_reducible refine wt_not ?_
  | with_reducible refine wt_yes ?_
  | with_reducible refine wr_add ?_
  | with_reducible refine wr_sub ?_
  | with_reducible refine wr_lt ?_
  | with_reducible refine wr_le ?_
  | with_reducible refine wr_gt ?_
  | with_reducible refine wr_eqI ?_
  | with_reducible refine wr_eqB ?_
  | with_reducible refine wr_eqS ?_
  | with_reducible refine wc_lenL ?_
  | with_reducible refine wc_lenT ?_
  | with_reducible refine wc_tupL ?_
  | ((with_reducible refine' wr_ixT ?hx ?_); (case hx => rfl))
  | with_reducible refine wg_name ?_
  | ((with_reducible refine' wg_tup ?hl ?_); (case hl => rfl))
  | with_reducible refine wgs_nil ?_
  | with_reducible refine wgs_cons ?_
  | refine ⟨_, rfl, ?_⟩
  | refine ⟨Nat.le_of_ble_eq_true rfl, ?_⟩
  | refine ⟨_, _, rfl, ?_⟩
  | refine ⟨_, _, _, rfl, ?_⟩
  | fail "no step")
local macro_rules | `(tactic| walk_at "wp") => `(tactic| repeat' walk_at "wp1")

/-! ### bounds; draws -/
section
variable {P : Program} {w : World} {K : PySem.W.Frag} {mg : Str → Option Value} {base : Heap} {f : Addr} {fd : FuncData}
abbrev qBnd (g : Sol) (r : Ret) : Prop := ∃ low high : Pt, r = .im (.tuple [d3 low, d3 high]) ∧ (∀ p, mS g p → inB (low, high) p) ∧ (∃ p, mS g p ∧ p.1 = low.1) ∧ (∃ p, mS g p ∧ p.2.1 = low.2.1) ∧ ∃ p, mS g p ∧ p.2.2 = low.2.2
abbrev spBnd (K : PySem.W.Frag) : Sp := SpF K a1 (fun g => WSol g ∧ ∃ p, mS g p) qBnd
theorem run_bounds {aX : Addr} (hA : ∀ H, Dp K H (.ref aX) dAxes) (g : Sol) (hp : WSol g ∧ ∃ p, mS g p) : WS K (t_bounds K aX (spBoxes K)) [some (.im (dSol g)), none, none, none, none, none] [] (PostF qBnd g) := by
  obtain ⟨hw, p0, hp0⟩ := hp
  have ok := boxes_ok hw
  have hlen := boxes_len_all ok
  have hne : boxesS g ≠ [] := by
    obtain ⟨b, hb, _⟩ := boxes_mem.mp hp0
    exact List.ne_nil_of_mem hb
  have hpos := List.length_pos_iff.mpr hne
  unfold t_bounds
  refine ws_seq (ws_set (we_call (wa_cons (we_var rfl (wa_nil ⟨g, rfl, hw, fun r hr => ?_⟩)))))
  cases hr
  refine .inl ?_
  refine ws_seq (ws_if (wt_test (we_op (we_var rfl (we_lst (wa_nil ⟨[], rfl, Nat.zero_le _, .inl (wr_eqD (list_sh dBx_lay dBx_dep (by decide) _) (by rfl) ⟨_, rfl, fun e => ?_, fun e => ?_⟩)⟩))))))
  · rw [eqv_nil_list] at e
    exact absurd (by simpa using e) hne
  refine ws_next ?_
  have ix : ∀ {q : Pt} {i : Int}, ax3 i → atI [PyData.int q.1, .int q.2.1, .int q.2.2] i = some (.int (sel q i)) := fun h => atI_sel h
  have mn : ∀ {D : DS} {Φ : SV → CS → Prop} {i : Int}, ax3 i → D[1]? = some (some (.im (.list ((boxesS g).map dBx)))) → (wipeD D [4, 5])[3]? = some (some (iN i)) → (wipeD D [4, 5]).length = 6 → (∀ m, (∃ b ∈ boxesS g, m = sel b.1 i) → (∀ b ∈ boxesS g, m ≤ sel b.1 i) → Φ (iN m) []) →
      WE K (tCB (rMin K) (tCons (tLc (iList K (tVar 1)) (gTup K 2 (gCons (gName 4) (gCons (gName 5) gNil))) tYes (tOp (rIxT K) (tVar 4) (tVar 3)) [4, 5]) tNil)) D [] Φ := fun {D Φ i} hi h1 h3 hl q => by
    refine we_cb (wa_cons (we_map (l := boxesS g) (e := dBx) (F := fun b => .int (sel b.1 i)) (gk_tup (gks_cons (by simp) (gks_cons (by simp) gks_nil))) (by omega) (wl_list (we_var h1 ⟨_, rfl, rfl, srcOk_none, rfl⟩)) (fun b hb => ?_) (.inl (wa_nil ?_))))
    · refine wg_tup rfl (wgs_cons (wg_name (wgs_cons (wg_name (wgs_nil ⟨rfl, we_op (we_var (sv := .im (d3 b.1)) ?_ (we_var (sv := iN i) ?_ (wr_ixT (ix hi) ⟨rfl, rfl⟩)))⟩)))))
      · rw [List.getElem?_set_ne (by decide), List.getElem?_set_self (by rw [hl]; decide)]
      · rw [List.getElem?_set_ne (by decide), List.getElem?_set_ne (by decide)]
        exact h3
    · have e : ((boxesS g).map fun b => PyData.int (sel b.1 i)) = ((boxesS g).map fun b => sel b.1 i).map .int := by
        rw [List.map_map]
        rfl
      rw [e]
      refine wc_min (by rw [List.length_map]; exact hpos) fun m hm1 hm2 => q m ?_ fun b hb => hm2 _ (List.mem_map.mpr ⟨b, hb, rfl⟩)
      obtain ⟨b, hb, rfl⟩ := List.mem_map.mp hm1
      exact ⟨b, hb, rfl⟩
  have mx : ∀ {D : DS} {Φ : SV → CS → Prop} {i : Int}, ax3 i → D[1]? = some (some (.im (.list ((boxesS g).map dBx)))) → (wipeD D [4, 5])[3]? = some (some (iN i)) → (wipeD D [4, 5]).length = 6 → (∀ m, (∀ b ∈ boxesS g, sel b.2 i ≤ m) → Φ (iN m) []) →
      WE K (tCB (rMax K) (tCons (tLc (iList K (tVar 1)) (gTup K 2 (gCons (gName 4) (gCons (gName 5) gNil))) tYes (tOp (rIxT K) (tVar 5) (tVar 3)) [4, 5]) tNil)) D [] Φ := fun {D Φ i} hi h1 h3 hl q => by
    refine we_cb (wa_cons (we_map (l := boxesS g) (e := dBx) (F := fun b => .int (sel b.2 i)) (gk_tup (gks_cons (by simp) (gks_cons (by simp) gks_nil))) (by omega) (wl_list (we_var h1 ⟨_, rfl, rfl, srcOk_none, rfl⟩)) (fun b hb => ?_) (.inl (wa_nil ?_))))
    · refine wg_tup rfl (wgs_cons (wg_name (wgs_cons (wg_name (wgs_nil ⟨rfl, we_op (we_var (sv := .im (d3 b.2)) ?_ (we_var (sv := iN i) ?_ (wr_ixT (ix hi) ⟨rfl, rfl⟩)))⟩)))))
      · rw [List.getElem?_set_self (by rw [List.length_set, hl]; decide)]
      · rw [List.getElem?_set_ne (by decide), List.getElem?_set_ne (by decide)]
        exact h3
    · have e : ((boxesS g).map fun b => PyData.int (sel b.2 i)) = ((boxesS g).map fun b => sel b.2 i).map .int := by
        rw [List.map_map]
        rfl
      rw [e]
      exact wc_max (by rw [List.length_map]; exact hpos) fun m hm1 hm2 => q m fun b hb => hm2 _ (List.mem_map.mpr ⟨b, hb, rfl⟩)
  have axN : ∀ {te : TE} {D : DS} {R0 R1 R2 : Int → Prop} {Φ : SV → CS → Prop}, WE K te ((wipeD D [3]).set 3 (some (iN 0))) [] (fun sv cs' => cs' = [] ∧ ∃ d, sv = .im d ∧ ∃ m, d = .int m ∧ R0 m) → WE K te ((wipeD D [3]).set 3 (some (iN 1))) [] (fun sv cs' => cs' = [] ∧ ∃ d, sv = .im d ∧ ∃ m, d = .int m ∧ R1 m) →
      WE K te ((wipeD D [3]).set 3 (some (iN 2))) [] (fun sv cs' => cs' = [] ∧ ∃ d, sv = .im d ∧ ∃ m, d = .int m ∧ R2 m) → (∀ a b c, R0 a → R1 b → R2 c → Φ (.im (d3 (a, b, c))) []) → WE K (tCB (rTupS K) (tCons (tLc (iTup K (tC (.ref aX))) (gName 3) tYes te [3]) tNil)) D [] Φ := fun {te D R0 R1 R2 Φ} h0 h1 h2 q => by
    refine we_cb (wa_cons (we_mapR (l := [(0 : Int), 1, 2]) (e := PyData.int) (R := fun x d => ∃ m, d = .int m ∧ (if x = 0 then R0 m else if x = 1 then R1 m else R2 m)) (gk_name (by simp)) (by decide) (wl_axes hA) (fun x hx => wg_name ⟨rfl, ?_⟩) fun ys hys => .inl (wa_nil (wc_tupL ?_))))
    · have hx' : x = 0 ∨ x = 1 ∨ x = 2 := by simpa using hx
      rcases hx' with rfl | rfl | rfl
      · exact h0
      · exact h1
      · exact h2
    · cases hys with
      | cons r0 t =>
        cases t with
        | cons r1 t =>
          cases t with
          | cons r2 t =>
            cases t
            obtain ⟨a, rfl, ha⟩ := r0
            obtain ⟨b, rfl, hb⟩ := r1
            obtain ⟨c, rfl, hc⟩ := r2
            exact q a b c ha hb hc
  refine ws_seq (ws_set (axN (R0 := fun m => (∃ b ∈ boxesS g, m = sel b.1 0) ∧ ∀ b ∈ boxesS g, m ≤ sel b.1 0) (R1 := fun m => (∃ b ∈ boxesS g, m = sel b.1 1) ∧ ∀ b ∈ boxesS g, m ≤ sel b.1 1) (R2 := fun m => (∃ b ∈ boxesS g, m = sel b.1 2) ∧ ∀ b ∈ boxesS g, m ≤ sel b.1 2) ?_ ?_ ?_ fun a b c ha hb hc => ?_))
  · exact mn (.inl rfl) rfl rfl rfl fun m h1 h2 => ⟨rfl, _, rfl, m, rfl, h1, h2⟩
  · exact mn (.inr (.inl rfl)) rfl rfl rfl fun m h1 h2 => ⟨rfl, _, rfl, m, rfl, h1, h2⟩
  · exact mn (.inr (.inr rfl)) rfl rfl rfl fun m h1 h2 => ⟨rfl, _, rfl, m, rfl, h1, h2⟩
  refine ws_ret (we_tup (wa_cons (we_var rfl (wa_cons (axN (R0 := fun m => ∀ b ∈ boxesS g, sel b.2 0 ≤ m) (R1 := fun m => ∀ b ∈ boxesS g, sel b.2 1 ≤ m) (R2 := fun m => ∀ b ∈ boxesS g, sel b.2 2 ≤ m) ?_ ?_ ?_ fun a' b' c' ha' hb' hc' => ?_)))))
  · exact mx (.inl rfl) rfl rfl rfl fun m h1 => ⟨rfl, _, rfl, m, rfl, h1⟩
  · exact mx (.inr (.inl rfl)) rfl rfl rfl fun m h1 => ⟨rfl, _, rfl, m, rfl, h1⟩
  · exact mx (.inr (.inr rfl)) rfl rfl rfl fun m h1 => ⟨rfl, _, rfl, m, rfl, h1⟩
  refine wa_nil ⟨_, rfl, Nat.le_of_ble_eq_true rfl, _, ⟨(a, b, c), (a', b', c'), rfl, fun p hp => ?_, ?_, ?_, ?_⟩, rfl⟩
  · obtain ⟨x, hx, ⟨h1, h2⟩, ⟨h3, h4⟩, h5, h6⟩ := boxes_mem.mp hp
    have k1 : a ≤ x.1.1 := ha.2 x hx
    have k2 : b ≤ x.1.2.1 := hb.2 x hx
    have k3 : c ≤ x.1.2.2 := hc.2 x hx
    have k4 : x.2.1 ≤ a' := ha' x hx
    have k5 : x.2.2.1 ≤ b' := hb' x hx
    have k6 : x.2.2.2 ≤ c' := hc' x hx
    refine ⟨⟨?_, ?_⟩, ⟨?_, ?_⟩, ?_, ?_⟩ <;> (simp only; omega)
  · obtain ⟨x, hx, e⟩ := ha.1
    exact ⟨x.1, boxes_mem.mpr ⟨x, hx, (own_pts (ok.ne x hx)).1⟩, e.symm⟩
  · obtain ⟨x, hx, e⟩ := hb.1
    exact ⟨x.1, boxes_mem.mpr ⟨x, hx, (own_pts (ok.ne x hx)).1⟩, e.symm⟩
  · obtain ⟨x, hx, e⟩ := hc.1
    exact ⟨x.1, boxes_mem.mpr ⟨x, hx, (own_pts (ok.ne x hx)).1⟩, e.symm⟩
theorem fn_bounds {aX : Addr} (hA : ∀ H, Dp K H (.ref aX) dAxes) (F : FnP K "bounds" s_bounds f fd) (mA : mg "AXES" = some (.ref aX)) (c1 : Cl P w K mg base 1 "boxes_of" (spBoxes K)) (m1 : mg "tuple" = none) (m2 : mg "min" = none) (m3 : mg "max" = none) : FnOk P w K mg base CX0 2 f fd ["solid"] (spBnd K) :=
  fn_F F sc_bounds (fun cdv A outer s H E hr => der_bounds mA c1 m2 m1 m3 hr) (fun _ => rfl) fun g hp => run_bounds hA g hp
/-! draws -/
abbrev spCellAt (K : PySem.W.Frag) : Sp := SpF K (γ := List Int × Nat) (fun g => [.im (.list (g.1.map .int)), iN g.2]) (fun _ => True) (fun _ r => ∃ c : Int, r = .im (.int c))
theorem fn_cell_at (F : FnP K "_law_cell_at" s_law_cell_at f fd) (m1 : mg "len" = none) : FnOk P w K mg base CX0 1 f fd ["_law_script", "_law_k"] (spCellAt K) :=
  fn_F F sc_law_cell_at (fun cdv A outer s H E hr => der_law_cell_at m1 hr) (fun _ => rfl) fun g hp => by
    unfold t_law_cell_at
    refine ws_seq (ws_if (wt_test (we_op (we_var rfl (we_cb (wa_cons (we_var rfl (wa_nil (wc_lenL (wr_lt ⟨_, rfl, fun e => ?_, fun e => ?_⟩))))))))))
    · have h := of_decide_eq_true e
      rw [List.length_map] at h
      have hx : (g.1.map PyData.int)[g.2]? = some (.int (g.1[g.2]'(by omega))) := by
        rw [List.getElem?_map, List.getElem?_eq_getElem (by omega)]
        rfl
      exact ws_ret (we_op (we_var rfl (we_var rfl (wr_ixLd (atI_nat hx) ⟨_, ⟨_, rfl⟩, rfl⟩))))
    · exact ws_next (ws_ret (we_int ⟨_, ⟨0, rfl⟩, rfl⟩))
abbrev qDraw (b : Int) (r : Ret) : Prop := ∃ v : Int, r = .im (.int v) ∧ 0 ≤ v ∧ v < b
abbrev spDraw (K : PySem.W.Frag) : Sp := SpF K (γ := Int × Nat × Int) (fun g => [iN g.1, iN g.2.1, iN g.2.2]) (fun g => 0 < g.2.2) (fun g => qDraw g.2.2)
def prL : List Int := [1000003, 1000033, 1000037, 1000039, 1000081, 1000099, 1000117, 1000121, 1000133, 1000151, 1000159, 1000171, 1000183, 1000187, 1000193, 1000199]
theorem qmod {v b : Int} (h : 0 < b) : 0 ≤ v % b ∧ v % b < b := ⟨Int.emod_nonneg _ (by omega), Int.emod_lt_of_pos _ h⟩
theorem fn_draw (F : FnP K "_law_draw" s_law_draw f fd) (m1 : mg "int" = none) : FnOk P w K mg base CX0 1 f fd ["_law_cell", "_law_k", "_law_bound"] (spDraw K) :=
  fn_F F sc_law_draw (fun cdv A outer s H E hr => der_law_draw m1 hr) (fun _ => rfl) fun g hp => by
    have hb : 0 < g.2.2 := hp
    have hj : g.2.1 % 16 < 16 := Nat.mod_lt _ (by decide)
    obtain ⟨pr, hpr⟩ : ∃ pr, prL[g.2.1 % 16]? = some pr := ⟨_, List.getElem?_eq_getElem (show g.2.1 % 16 < prL.length from hj)⟩
    have hpos : 0 < pr := by
      have : ∀ p ∈ prL, (0 : Int) < p := by decide
      exact this pr (List.mem_of_getElem? hpr)
    have hpr' : (prL.map PyData.int)[g.2.1 % 16]? = some (.int pr) := by
      rw [List.getElem?_map, hpr]
      rfl
    unfold t_law_draw
    refine ws_seq (ws_set ?_)
    walk_at "wp"
    refine wr_mul (.inr ⟨by decide, by decide⟩) ?_
    walk_at "wp"
    refine wr_mul (.inr ⟨by decide, by decide⟩) ?_
    walk_at "wp"
    refine wc_intS ?_
    walk_at "wp"
    refine wc_intS (we_int (wr_mod (by decide) ?_))
    have e : ((g.2.1 : Int) % 16) = ((g.2.1 % 16 : Nat) : Int) := by omega
    rw [e]
    refine wr_ixT (es := prL.map PyData.int) (atI_nat hpr') (wr_mod hpos ?_)
    exact we_var rfl (wr_mod hb ⟨_, ⟨_, rfl, qmod hb⟩, rfl⟩)
abbrev spNumb (K : PySem.W.Frag) : Sp := SpF K (γ := Int × Nat × Int) (fun g => [iN g.1, iN g.2.1, iN g.2.2]) (fun g => g.2.1 ≤ 100 ∧ 0 < g.2.2) (fun g => qDraw g.2.2)
theorem pow_small {i : Nat} (h : i ≤ 24) : 1009 ^ i < 2 ^ 250 := Nat.lt_of_le_of_lt (Nat.pow_le_pow_right (by decide) h) (by decide)
theorem log_small {p : Nat} (h0 : 0 < p) (h : p < 2 ^ 250) : p.log2 < 250 := (Nat.log2_lt (by omega)).mpr h
theorem run_number (g : Int × Nat × Int) (hp : g.2.1 ≤ 100 ∧ 0 < g.2.2) : WS K (t_law_number K (spDraw K)) [some (iN g.1), some (iN g.2.1), some (iN g.2.2), none, none, none, none] [] (PostF (fun (g : Int × Nat × Int) => qDraw g.2.2) g) := by
  obtain ⟨hk, hb⟩ := hp
  unfold t_law_number
  refine ws_seq (ws_set (we_int ?_))
  refine ws_seq (ws_for (wl_rng1 (wa_cons (we_op (we_cb (wa_cons (we_var rfl (wa_nil (wc_intS (we_int (wr_mod (by decide) (wa_nil ⟨_, rfl, ?_, ?_, ?_⟩))))))))))))
  · have := qmod (v := (g.2.1 : Int)) (b := 24) (by decide)
    omega
  · have := qmod (v := (g.2.1 : Int)) (b := 24) (by decide)
    omega
  have hlen : ((g.2.1 : Int) % 24).toNat ≤ 24 := by
    have := qmod (v := (g.2.1 : Int)) (b := 24) (by decide)
    omega
  refine ⟨fun i ds' cs' => i ≤ 24 → ∃ (p : Nat) (x4 : Option SV), ds' = [some (iN g.1), some (iN g.2.1), some (iN g.2.2), some (iN p), x4, none, none] ∧ cs' = [] ∧ 0 < p ∧ p ≤ 1009 ^ i, fun _ => ⟨1, none, rfl, rfl, by decide, by decide⟩, fun _ _ _ _ => srcOk_none, ?_, ?_⟩
  · rintro i ds' cs' x hx hI
    obtain ⟨hi, rfl⟩ := intsFrom_get hx
    obtain ⟨p, x4, rfl, rfl, h0, h1⟩ := hI (by omega)
    have h2 := pow_small (i := i) (by omega)
    have h3 := log_small h0 (by omega)
    refine wg_name (ws_set (we_op (we_var rfl (we_int (wr_mulW ?_ fun _ => ⟨p * 1009, _, rfl, rfl, by omega, ?_⟩)))))
    · show ((p : Int).natAbs.log2 + (1009 : Int).natAbs.log2) < 1000000
      rw [Int.natAbs_natCast, show (1009 : Int).natAbs.log2 = 9 by decide]
      omega
    · rw [Nat.pow_succ]
      exact Nat.mul_le_mul_right _ h1
  · rintro ds' cs' hI
    rw [intsFrom_len] at hI
    obtain ⟨p, x4, rfl, rfl, h0, h1⟩ := hI hlen
    have h2 := pow_small hlen
    have h3 := log_small h0 (by omega)
    refine ws_seq (ws_set (we_op (we_op (we_var rfl (we_op (we_int (we_int (wr_pow ⟨by decide, by decide, by decide⟩ (wr_sub (we_var rfl (wr_fdivW ⟨by omega, ?_⟩ ?_)))))))))))
    · show (p : Int).natAbs.log2 < 9000
      rw [Int.natAbs_natCast]
      omega
    refine ws_seq (ws_if (wt_test (we_op (we_var rfl (we_int (wr_gt ⟨_, rfl, fun e => ?_, fun e => ?_⟩))))))
    · exact ws_ret (we_op (we_op (we_cb (wa_cons (we_var rfl (wa_nil (wc_intS (we_int (wr_mod (by decide) (we_var rfl (wr_mod hb ⟨_, ⟨_, rfl, qmod hb⟩, rfl⟩)))))))))))
    refine ws_next ?_
    refine ws_seq (ws_set (we_op (we_cb (wa_cons (we_var rfl (wa_nil (wc_intS (we_int (wr_mod (by decide) ?_)))))))))
    have hs := qmod (v := g.1) (b := 1000003) (by decide)
    generalize g.1 % 1000003 = sm at hs ⊢
    refine ws_ret (we_op (we_call (wa_cons ?_)))
    walk_at "wp"
    refine wr_mul (.inl ⟨by decide, by decide⟩) ?_
    walk_at "wp"
    refine wr_mul (.inl ⟨by decide, by decide⟩) ?_
    walk_at "wp"
    refine wr_mul (.inl ⟨?_, ?_⟩) ?_
    · omega
    · omega
    walk_at "wp"
    refine wc_intS (we_int (wr_mod (by decide) ?_))
    have h9 := qmod (v := (g.2.1 : Int)) (b := 9) (by decide)
    have e9 : (g.2.1 : Int) % 9 + 1 = ((g.2.1 % 9 + 1 : Nat) : Int) := by omega
    refine we_int (wr_add ?_)
    rw [e9]
    refine wa_cons (we_int (wa_nil ⟨(_, g.2.1 % 9 + 1, 999983), rfl, (show (0 : Int) < 999983 by decide), fun r hr => ?_⟩))
    obtain ⟨v, rfl, _⟩ := hr
    exact we_var rfl (wr_mod hb ⟨_, ⟨_, rfl, qmod hb⟩, rfl⟩)
theorem fn_number (F : FnP K "_law_number" s_law_number f fd) (c1 : Cl P w K mg base 1 "_law_draw" (spDraw K)) (m1 : mg "range" = none) (m2 : mg "int" = none) : FnOk P w K mg base CX0 2 f fd ["_law_cell", "_law_k", "_law_bound"] (spNumb K) :=
  fn_F F sc_law_number (fun cdv A outer s H E hr => der_law_number c1 m1 m2 hr) (fun _ => rfl) fun g hp => run_number g hp
end
end Sw
set_option Elab.async false
set_option linter.all false
set_option maxRecDepth 100000
set_option maxHeartbeats 4000000
set_option autoImplicit false
namespace Sw
open PySem PySem.Spec PyProof.Rows L2
local macro_rules | `(tactic| walk_at "wp1") => `(tactic| first
  | with_reducible refine ws_seq ?_
  | with_reducible refine ws_par ?_
  | with_reducible refine ws_par3 ?_
  | with_reducible refine ws_set ?_
  | with_reducible refine ws_ret ?_
  | with_reducible refine ws_drop ?_
  | with_reducible refine ws_if ?_
  | with_reducible refine ws_next ?_
  | ((with_reducible refine' we_var ?hv ?_); (case hv => rfl))
  | with_reducible refine we_int ?_
  | with_reducible refine we_bl ?_
  | with_reducible refine we_str ?_
  | with_reducible refine we_non ?_
  | with_reducible refine we_raw ?_
  | with_reducible refine we_op ?_
  | with_reducible refine we_neg ?_
  | with_reducible refine we_tup ?_
  | with_reducible refine we_lst ?_
  | with_reducible refine we_cb ?_
  | with_reducible refine we_call ?_
  | with_reducible refine we_callC ?_
  | with_reducible refine we_if ?_
  | with_reducible refine we_and ?_
  | with_reducible refine we_or ?_
  | with_reducible refine we_not ?_
  | with_reducible refine we_chain ?_
  | with_reducible refine we_sl ?_
  | with_reducible refine wo_none ?_
  | with_reducible refine wo_some ?_
  | with_reducible refine wa_nil ?_
  | with_reducible refine wa_cons ?_
  | with_reducible refine wt_test ?_
  | with_reducible refine wt_B ?_
  | with_reducible refine wt_and ?_
  | with_reducible refine wt_or ?_
  | with_reducible refine wt_not ?_
  | with_reducible refine wt_yes ?_
  | with_reducible refine wr_add ?_
  | with_reducible refine wr_sub ?_
  | with_reducible refine wr_lt ?_
  | with_reducible refine wr_le ?_
  | with_reducible refine wr_gt ?_
  | with_reducible refine wr_eqI ?_
  | with_reducible refine wr_eqB ?_
  | with_reducible refine wr_eqS ?_
  | with_reducible refine wc_lenL ?_
  | with_reducible refine wc_lenT ?_
  | with_reducible refine wc_tupL ?_
  | ((with_reducible refine' wr_ixT ?hx ?_); (case hx => rfl))
  | with_reducible refine wg_name ?_
  | ((with_reducible refine' wg_tup ?hl ?_); (case hl => rfl))
  | with_reducible refine wgs_nil ?_
  | with_reducible refine wgs_cons ?_
  | refine ⟨_, rfl, ?_⟩
  | refine ⟨Nat.le_of_ble_eq_true rfl, ?_⟩
  | refine ⟨_, _, rfl, ?_⟩
  | refine ⟨_, _, _, rfl, ?_⟩
  | fail "no step")
local macro_rules | `(tactic| walk_at "wp") => `(tactic| repeat' walk_at "wp1")

/-! ### _law_next, _law_pick, _law_box, _law_tool -/
abbrev drawC (cells : List Int) (n : Nat) : Cell := .lst [.list (cells.map .int), .int 0, .int (n : Int)]
section
variable {P : Program} {w : World} {K : PySem.W.Frag} {mg : Str → Option Value} {base : Heap} {f : Addr} {fd : FuncData}
structure GDr (α : Type) where
  cells : List Int
  n : Nat
  x : α
abbrev cDr {α : Type} (g : GDr α) : Cell := drawC g.cells g.n
/-- what a def that draws leaves behind -/
abbrev qDr {α : Type} (Q : α → Ret → Prop) (g : GDr α) (r : Ret) (c : Cell) : Prop := Q g.x r ∧ ∃ n, c = drawC g.cells n
abbrev spNext (K : PySem.W.Frag) : Sp := SpC K (γ := GDr Int) (fun g l => [.raw (.ref l), iN g.x]) (fun g => 0 < g.x) cDr (qDr fun b r => qDraw b r)
theorem run_next (g : GDr Int) (l : Addr) (hb : 0 < g.x) : WS K (t_law_next K (spCellAt K) (spNumb K)) [some (.raw (.ref l)), some (iN g.x), none, none] [(l, cDr g)] { nx := fun _ cs => ∃ c' cs', cs = (l, c') :: cs' ∧ qDr (fun b r => qDraw b r) g (.im .none) c', rt := fun sv cs => ∃ r c' cs', cs = (l, c') :: cs' ∧ qDr (fun b r => qDraw b r) g r c' ∧ RetOf r sv cs' } := by
  unfold t_law_next
  refine ws_seq (ws_setL (we_op (we_op (we_var rfl (we_int (wr_ixLc (j := 0) rfl (atI_nat (j := 2) rfl) ?_))))))
  refine we_int (wr_add ⟨_, rfl, we_var rfl ⟨l, rfl, we_int ⟨2, 2, 0, _, rfl, rfl, rfl, ?_⟩⟩⟩)
  have e1 : ([(l, cDr g)].set 0 (l, Cell.lst ([PyData.list (g.cells.map .int), .int 0, .int (g.n : Int)].set 2 (.int ((g.n : Int) + 1))))) = [(l, drawC g.cells (g.n + 1))] := rfl
  show WS K _ _ [(l, drawC g.cells (g.n + 1))] _
  refine ws_seq (ws_set (we_op (we_op (we_var rfl (we_int (wr_ixLc (j := 0) rfl (atI_nat (j := 2) rfl) (we_int (wr_fdiv ⟨by decide, by decide⟩ ?_))))))))
  have ea : (((g.n + 1 : Nat) : Int) / 12) = (((g.n + 1) / 12 : Nat) : Int) := by omega
  rw [ea]
  refine ws_seq (ws_set (we_op (we_call (wa_cons (we_op (we_var rfl (we_int (wr_ixLc (j := 0) rfl (atI_nat (j := 0) rfl) ?_))))))))
  refine wa_cons (we_op (we_op (we_var rfl (we_int (wr_ixLc (j := 0) rfl (atI_nat (j := 1) rfl) (we_var rfl (wr_add ?_)))))))
  refine wa_nil ⟨(g.cells, (g.n + 1) / 12), by rw [Int.zero_add], trivial, fun r hr => ?_⟩
  obtain ⟨c, rfl⟩ := hr
  refine we_op (we_int (we_var rfl (wr_mul (.inl ⟨by decide, by decide⟩) (wr_add ?_))))
  refine ws_ret (we_call (wa_cons (we_var rfl (wa_cons (we_op (we_op (we_cb (wa_cons (we_op (we_var rfl (we_int (wr_ixLc (j := 0) rfl (atI_nat (j := 2) rfl) ?_))))))))))))
  refine wa_nil (wc_intS (we_int (wr_mod (by decide) (we_int (wr_add ?_)))))
  have ek : (((g.n + 1 : Nat) : Int) % 12 + 1) = (((g.n + 1) % 12 + 1 : Nat) : Int) := by omega
  rw [ek]
  refine wa_cons (we_var rfl (wa_nil ⟨(_, (g.n + 1) % 12 + 1, g.x), rfl, ⟨by show (g.n + 1) % 12 + 1 ≤ 100; omega, hb⟩, fun r hr => ?_⟩))
  obtain ⟨v, rfl, hv⟩ := hr
  exact ⟨_, _, _, rfl, ⟨⟨v, rfl, hv⟩, _, rfl⟩, rfl⟩
theorem fn_next (F : FnP K "_law_next" s_law_next f fd) (c1 : Cl P w K mg base 1 "_law_cell_at" (spCellAt K)) (c2 : Cl P w K mg base 2 "_law_number" (spNumb K)) (m1 : mg "int" = none) : FnOk P w K mg base CX0 3 f fd ["_law_draw_here", "_law_bound"] (spNext K) :=
  fn_C F sc_law_next (fun cdv A outer s H E hr => der_law_next c1 c2 m1 hr) (fun _ _ => rfl) fun g l hp => run_next g l hp
/-- a draw -/
theorem we_next {ds : DS} {cs : CS} {Φ : SV → CS → Prop} {te : TE} {i : Nat} {l : Addr} {cells : List Int} {n : Nat} {b : Int} (hi : ds[i]? = some (some (.raw (.ref l)))) (hb : 0 < b)
    (ht : WE K te ds ((l, drawC cells n) :: cs) fun sv cs' => cs' = (l, drawC cells n) :: cs ∧ sv = iN b) (q : ∀ v n', 0 ≤ v → v < b → Φ (iN v) ((l, drawC cells n') :: cs)) :
    WE K (tCall (spNext K) [] E0 (tCons (tVar i) (tCons te tNil))) ds ((l, drawC cells n) :: cs) Φ := by
  refine we_callC (wa_cons (we_var hi (wa_cons (we_imp ht fun sv cs' h => ?_))))
  obtain ⟨rfl, rfl⟩ := h
  refine wa_nil ⟨⟨cells, n, b⟩, 0, l, rfl, rfl, hb, fun r c' hr => ?_⟩
  obtain ⟨⟨v, rfl, h1, h2⟩, n', rfl⟩ := hr
  exact q v n' h1 h2
theorem we_int' {ds : DS} {cs : CS} {n : Int} : WE K (tC (.int n)) ds cs fun sv cs' => cs' = cs ∧ sv = iN n := we_int ⟨rfl, rfl⟩
structure GPk where
  es : List PyData
  tup : Bool
abbrev dPk (g : GPk) : PyData := if g.tup then .tuple g.es else .list g.es
abbrev spPick (K : PySem.W.Frag) : Sp := SpC K (γ := GDr GPk) (fun g l => [.raw (.ref l), .im (dPk g.x)]) (fun g => g.x.es ≠ []) cDr (qDr fun x r => ∃ d ∈ x.es, r = .im d)
theorem run_pick (g : GDr GPk) (l : Addr) (hp : g.x.es ≠ []) : WS K (t_law_pick K (spNext K)) [some (.raw (.ref l)), some (.im (dPk g.x))] [(l, cDr g)] { nx := fun _ cs => ∃ c' cs', cs = (l, c') :: cs' ∧ qDr (fun (x : GPk) r => ∃ d ∈ x.es, r = .im d) g (.im .none) c', rt := fun sv cs => ∃ r c' cs', cs = (l, c') :: cs' ∧ qDr (fun (x : GPk) r => ∃ d ∈ x.es, r = .im d) g r c' ∧ RetOf r sv cs' } := by
  obtain ⟨cells, n, es, tup⟩ := g
  have hpos : 0 < es.length := List.length_pos_iff.mpr hp
  unfold t_law_pick
  have fin : ∀ v : Int, 0 ≤ v → v < es.length → ∃ d, atI es v = some d ∧ d ∈ es := fun v h0 h1 => by
    have hx : es[v.toNat]? = some (es[v.toNat]'(by omega)) := List.getElem?_eq_getElem (by omega)
    refine ⟨_, ?_, List.mem_of_getElem? hx⟩
    have := atI_nat (j := v.toNat) hx
    rwa [show ((v.toNat : Nat) : Int) = v by omega] at this
  cases tup with
  | true =>
    refine ws_ret (we_op (we_var rfl (we_next rfl (b := (es.length : Int)) (by omega) (we_cb (wa_cons (we_var rfl (wa_nil (wc_lenT ⟨rfl, rfl⟩))))) fun v n' h0 h1 => ?_)))
    obtain ⟨d, h2, h3⟩ := fin v h0 h1
    refine fun Hb Fz σ H k v w r1 r2 Q z => .inr (.inl (wr_ixT h2 ?_ Hb Fz σ H k v w r1 r2 Q z))
    exact ⟨_, _, _, rfl, ⟨⟨d, h3, rfl⟩, _, rfl⟩, rfl⟩
  | false =>
    refine ws_ret (we_op (we_var rfl (we_next rfl (b := (es.length : Int)) (by omega) (we_cb (wa_cons (we_var rfl (wa_nil (wc_lenL ⟨rfl, rfl⟩))))) fun v n' h0 h1 => ?_)))
    obtain ⟨d, h2, h3⟩ := fin v h0 h1
    refine fun Hb Fz σ H k v w r1 r2 Q z => .inl (wr_ixLd h2 ?_ Hb Fz σ H k v w r1 r2 Q z)
    exact ⟨_, _, _, rfl, ⟨⟨d, h3, rfl⟩, _, rfl⟩, rfl⟩
theorem fn_pick (F : FnP K "_law_pick" s_law_pick f fd) (c1 : Cl P w K mg base 3 "_law_next" (spNext K)) (m1 : mg "len" = none) : FnOk P w K mg base CX0 4 f fd ["_law_draw_here", "_law_things"] (spPick K) :=
  fn_C F sc_law_pick (fun cdv A outer s H E hr => der_law_pick c1 m1 hr) (fun _ _ => rfl) fun g l hp => run_pick g l hp
/-- a pick -/
theorem we_pick {ds : DS} {cs : CS} {Φ : SV → CS → Prop} {te : TE} {i : Nat} {l : Addr} {cells : List Int} {n : Nat} (g : GPk) (hi : ds[i]? = some (some (.raw (.ref l)))) (hb : g.es ≠ [])
    (ht : WE K te ds ((l, drawC cells n) :: cs) fun sv cs' => cs' = (l, drawC cells n) :: cs ∧ sv = .im (dPk g)) (q : ∀ d n', d ∈ g.es → Φ (.im d) ((l, drawC cells n') :: cs)) :
    WE K (tCall (spPick K) [] E0 (tCons (tVar i) (tCons te tNil))) ds ((l, drawC cells n) :: cs) Φ := by
  refine we_callC (wa_cons (we_var hi (wa_cons (we_imp ht fun sv cs' h => ?_))))
  obtain ⟨rfl, rfl⟩ := h
  refine wa_nil ⟨⟨cells, n, g⟩, 0, l, rfl, rfl, hb, fun r c' hr => ?_⟩
  obtain ⟨⟨d, h1, rfl⟩, n', rfl⟩ := hr
  exact q d n' h1
/-! _law_box -/
abbrev pLb (b : Bx) : Prop := BxNe b ∧ BxIn b
abbrev qLb (r : Ret) : Prop := ∃ z : Sol, r = .im (dSol z) ∧ WSol z
abbrev spLb (K : PySem.W.Frag) : Sp := SpC K (γ := GDr Bx) (fun g l => [.raw (.ref l), .im (d3 g.x.1), .im (d3 g.x.2)]) (fun g => pLb g.x) cDr (qDr fun _ r => qLb r)
theorem run_law_box (g : GDr Bx) (l : Addr) (hp : pLb g.x) : WS K (t_law_box K (spNext K) (spBox K)) [some (.raw (.ref l)), some (.im (d3 g.x.1)), some (.im (d3 g.x.2)), none, none, none, none] [(l, cDr g)] { nx := fun _ cs => ∃ c' cs', cs = (l, c') :: cs' ∧ qDr (fun (_ : Bx) r => qLb r) g (.im .none) c', rt := fun sv cs => ∃ r c' cs', cs = (l, c') :: cs' ∧ qDr (fun (_ : Bx) r => qLb r) g r c' ∧ RetOf r sv cs' } := by
  obtain ⟨cells, n, b⟩ := g
  obtain ⟨hn, hi⟩ := hp
  have hsel : ∀ i, ax3 i → sel b.1 i < sel b.2 i ∧ -20 ≤ sel b.1 i ∧ sel b.2 i ≤ 20 := fun i h => by
    obtain ⟨n1, n2, n3⟩ := hn
    obtain ⟨⟨⟨a1, a2⟩, a3, a4⟩, ⟨⟨a5, a6⟩, a7, a8⟩, ⟨a9, a10⟩, a11, a12⟩ := hi
    rcases h with rfl | rfl | rfl
    · exact ⟨n1, a1, a4⟩
    · exact ⟨n2, a5, a8⟩
    · exact ⟨n3, a9, a12⟩
  unfold t_law_box
  refine ws_seq (ws_set (we_lst (wa_nil ⟨[], rfl, Nat.zero_le _, .inr fun le => ?_⟩)))
  refine ws_seq (ws_for (wl_tup (we_tup (wa_cons (we_int (wa_cons (we_int (wa_cons (we_int (wa_nil ⟨[(0 : Int), 1, 2].map .int, rfl, Nat.le_of_ble_eq_true rfl, _, rfl, ?_⟩))))))))))
  refine ⟨fun i ds' cs' => ∃ (n' : Nat) (ps : List (Int × Int)) (x4 x5 x6 : Option SV), ds' = [some (.raw (.ref l)), some (.im (d3 b.1)), some (.im (d3 b.2)), some (.raw (.ref le)), x4, x5, x6] ∧ cs' = [(l, drawC cells n'), (le, .lst (ps.map dP))] ∧ ps.length = i ∧ ∀ p ∈ ps, (-20 ≤ p.1 ∧ p.1 ≤ 20) ∧ -20 ≤ p.2 ∧ p.2 ≤ 20, ⟨n, [], _, _, _, rfl, rfl, rfl, fun p h => (by cases h)⟩, fun _ _ _ _ => srcOk_none, ?_, ?_⟩
  · rintro i ds' cs' x hx ⟨n', ps, x4, x5, x6, rfl, rfl, hl, hps⟩
    rw [List.getElem?_map] at hx
    obtain ⟨ax, ha, rfl⟩ := Option.map_eq_some_iff.mp hx
    have hax : ax3 ax := by
      have := List.mem_of_getElem? ha
      simpa [ax3] using this
    have hlt3 : ps.length < 3 := by
      rw [hl]
      exact (List.getElem?_eq_some_iff.mp ha).1
    obtain ⟨h1, h2, h3⟩ := hsel ax hax
    refine wg_name ?_
    refine ws_seq (ws_set (we_op (we_op (we_var rfl (we_var rfl (wr_ixT (atI_sel hax) (we_next rfl (b := sel b.2 ax - sel b.1 ax) (by omega) ?_ fun v n2 v0 v1 => wr_add ?_)))))))
    · exact we_op (we_op (we_var rfl (we_var rfl (wr_ixT (atI_sel hax) (we_op (we_var rfl (we_var rfl (wr_ixT (atI_sel hax) (wr_sub ⟨rfl, rfl⟩)))))))))
    refine ws_drop (we_append (we_var rfl ⟨le, rfl, ⟨1, _, rfl⟩, ?_⟩))
    refine wa_cons (we_tup (wa_cons (we_var rfl (wa_cons (we_op (we_op (we_var rfl (we_int (wr_add ?_)))))))))
    refine we_next rfl (b := sel b.2 ax - (sel b.1 ax + v)) (by omega) ?_ fun v2 n3 v20 v21 => wr_add ?_
    · exact we_op (we_op (we_var rfl (we_var rfl (wr_ixT (atI_sel hax) (we_var rfl (wr_sub ⟨rfl, rfl⟩))))))
    refine wa_nil ⟨_, rfl, Nat.le_of_ble_eq_true rfl, wa_nil ⟨_, 1, _, rfl, rfl, by rw [List.length_map]; omega, ?_⟩⟩
    refine ⟨n3, ps ++ [(sel b.1 ax + v, sel b.1 ax + v + 1 + v2)], _, _, _, rfl, ?_, by rw [List.length_append, hl]; rfl, fun p hp => ?_⟩
    · rw [map_snoc]
      rfl
    · rcases List.mem_append.mp hp with hp | hp
      · exact hps p hp
      · have e : p = (sel b.1 ax + v, sel b.1 ax + v + 1 + v2) := by simpa using hp
        subst e
        refine ⟨⟨?_, ?_⟩, ?_, ?_⟩ <;> (simp only; omega)
  · rintro ds' cs' ⟨n', ps, x4, x5, x6, rfl, rfl, hl, hps⟩
    have hl3 : ps.length = 3 := hl
    refine ws_freeze (i := 3) (j := 1) rfl rfl ?_
    refine ws_ret (we_call (wa_cons (we_cb (wa_cons (we_map (l := ps) (e := dP) (F := fun p => .int p.1) (gk_tup (gks_cons (by simp) (gks_cons (by simp) gks_nil))) (by omega) (wl_list (we_var rfl ⟨_, rfl, rfl, srcOk_none, rfl⟩)) (fun p hp => wg_tup rfl (wgs_cons (wg_name (wgs_cons (wg_name (wgs_nil ⟨rfl, we_var rfl ⟨rfl, rfl⟩⟩)))))) (.inl (wa_nil (wc_tupL ?_))))))))
    refine wa_cons (we_cb (wa_cons (we_map (l := ps) (e := dP) (F := fun p => .int p.2) (gk_tup (gks_cons (by simp) (gks_cons (by simp) gks_nil))) (by omega) (wl_list (we_var rfl ⟨_, rfl, rfl, srcOk_none, rfl⟩)) (fun p hp => wg_tup rfl (wgs_cons (wg_name (wgs_cons (wg_name (wgs_nil ⟨rfl, we_var rfl ⟨rfl, rfl⟩⟩)))))) (.inl (wa_nil (wc_tupL (wa_nil ?_)))))))
    match ps, hl3, hps with
    | [p, q, r], _, hps =>
      obtain ⟨p1, p2⟩ := hps p (by simp)
      obtain ⟨q1, q2⟩ := hps q (by simp)
      obtain ⟨r1, r2⟩ := hps r (by simp)
      refine ⟨((p.1, q.1, r.1), (p.2, q.2, r.2)), rfl, ⟨⟨p1, p2⟩, ⟨q1, q2⟩, r1, r2⟩, fun r hr => ?_⟩
      obtain ⟨z, rfl, hz, _⟩ := hr
      exact ⟨_, _, _, rfl, ⟨⟨z, rfl, hz⟩, _, rfl⟩, rfl⟩
theorem fn_law_box (F : FnP K "_law_box" s_law_box f fd) (c1 : Cl P w K mg base 3 "_law_next" (spNext K)) (c2 : Cl P w K mg base 1 "box" (spBox K)) (m1 : mg "tuple" = none) : FnOk P w K mg base CX0 4 f fd ["_law_draw_here", "_law_low", "_law_high"] (spLb K) :=
  fn_C F sc_law_box (fun cdv A outer s H E hr => der_law_box c1 c2 m1 hr) (fun _ _ => rfl) fun g l hp => run_law_box g l hp
end
end Sw
set_option Elab.async false
set_option linter.all false
set_option maxRecDepth 100000
set_option maxHeartbeats 4000000
set_option autoImplicit false
namespace Sw
open PySem PySem.Spec PyProof.Rows L2
local macro_rules | `(tactic| walk_at "wp1") => `(tactic| first
  | with_reducible refine ws_seq ?_
  | with_reducible refine ws_par ?_
  | with_reducible refine ws_par3 ?_
  | with_reducible refine ws_set ?_
  | with_reducible refine ws_ret ?_
  | with_reducible refine ws_drop ?_
  | with_reducible refine ws_if ?_
  | with_reducible refine ws_next ?_
  | ((with_reducible refine' we_var ?hv ?_); (case hv => rfl))
  | with_reducible refine we_int ?_
  | with_reducible refine we_bl ?_
  | with_reducible refine we_str ?_
  | with_reducible refine we_non ?_
  | with_reducible refine we_raw ?_
  | with_reducible refine we_op ?_
  | with_reducible refine we_neg ?_
  | with_reducible refine we_tup ?_
  | with_reducible refine we_lst ?_
  | with_reducible refine we_cb ?_
  | with_reducible refine we_call ?_
  | with_reducible refine we_callC ?_
  | with_reducible refine we_if ?_
  | with_reducible refine we_and ?_
  | with_reducible refine we_or ?_
  | with_reducible refine we_not ?_
  | with_reducible refine we_chain ?_
  | with_reducible refine we_sl ?_
  | with_reducible refine wo_none ?_
  | with_reducible refine wo_some ?_
  | with_reducible refine wa_nil ?_
  | with_reducible refine wa_cons ?_
  | with_reducible refine wt_test ?_
  | with_reducible refine wt_B ?_
  | with_reducible refine wt_and ?_
  | with_reducible refine wt_or ?_
  | with_reducible refine wt_not ?_
  | with_reducible refine wt_yes ?_
  | with_reducible refine wr_add ?_
  | with_reducible refine wr_sub ?_
  | with_reducible refine wr_lt ?_
  | with_reducible refine wr_le ?_
  | with_reducible refine wr_gt ?_
  | with_reducible refine wr_eqI ?_
  | with_reducible refine wr_eqB ?_
  | with_reducible refine wr_eqS ?_
  | with_reducible refine wc_lenL ?_
  | with_reducible refine wc_lenT ?_
  | with_reducible refine wc_tupL ?_
  | ((with_reducible refine' wr_ixT ?hx ?_); (case hx => rfl))
  | with_reducible refine wg_name ?_
  | ((with_reducible refine' wg_tup ?hl ?_); (case hl => rfl))
  | with_reducible refine wgs_nil ?_
  | with_reducible refine wgs_cons ?_
  | refine ⟨_, rfl, ?_⟩
  | refine ⟨Nat.le_of_ble_eq_true rfl, ?_⟩
  | refine ⟨_, _, rfl, ?_⟩
  | refine ⟨_, _, _, rfl, ?_⟩
  | fail "no step")
local macro_rules | `(tactic| walk_at "wp") => `(tactic| repeat' walk_at "wp1")

/-! ### _law_tool, _law_job -/
section
variable {P : Program} {w : World} {K : PySem.W.Frag} {mg : Str → Option Value} {base : Heap} {f : Addr} {fd : FuncData}
abbrev qTool (r : Ret) : Prop := ∃ t : Tl, r = .im (dTl t) ∧ TlOk t
abbrev spTool (K : PySem.W.Frag) : Sp := SpC K (γ := GDr Str) (fun g l => [.raw (.ref l), .im (.str g.x)]) (fun _ => True) cDr (qDr fun _ r => qTool r)
theorem bx_in {a b c d e f : Int} (h1 : -20 ≤ a ∧ d ≤ 20 ∧ a ≤ 20 ∧ -20 ≤ d) (h2 : -20 ≤ b ∧ e ≤ 20 ∧ b ≤ 20 ∧ -20 ≤ e) (h3 : -20 ≤ c ∧ f ≤ 20 ∧ c ≤ 20 ∧ -20 ≤ f) : BxIn ((a, b, c), (d, e, f)) :=
  ⟨⟨⟨h1.1, h1.2.2.1⟩, h1.2.2.2, h1.2.1⟩, ⟨⟨h2.1, h2.2.2.1⟩, h2.2.2.2, h2.2.1⟩, ⟨h3.1, h3.2.2.1⟩, h3.2.2.2, h3.2.1⟩
theorem in_bx {a b c d e f a' b' c' d' e' f' : Int} (h : (a' ≤ a ∧ d ≤ d') ∧ (b' ≤ b ∧ e ≤ e') ∧ (c' ≤ c ∧ f ≤ f')) {p : Pt} (hp : inB ((a, b, c), (d, e, f)) p) : inB ((a', b', c'), (d', e', f')) p := by
  obtain ⟨⟨h1, h2⟩, ⟨h3, h4⟩, h5, h6⟩ := hp
  refine ⟨⟨?_, ?_⟩, ⟨?_, ?_⟩, ?_, ?_⟩ <;> (simp only at *; omega)
theorem run_tool (g : GDr Str) (l : Addr) : WS K (t_law_tool K (spNext K) (spBox K) (spUnion K)) [some (.raw (.ref l)), some (.im (.str g.x)), none, none, none, none, none] [(l, cDr g)] { nx := fun _ cs => ∃ c' cs', cs = (l, c') :: cs' ∧ qDr (fun (_ : Str) r => qTool r) g (.im .none) c', rt := fun sv cs => ∃ r c' cs', cs = (l, c') :: cs' ∧ qDr (fun (_ : Str) r => qTool r) g r c' ∧ RetOf r sv cs' } := by
  obtain ⟨cells, n, name⟩ := g
  unfold t_law_tool
  refine ws_seq (ws_par (wa_cons (we_op (we_int (we_next rfl (by decide) we_int' fun v1 n1 a1 b1 => wr_add ?_)))))
  refine wa_cons (we_op (we_int (we_next rfl (by decide) we_int' fun v2 n2 a2 b2 => wr_add (wa_nil ⟨_, _, rfl, ?_⟩))))
  refine ws_seq (ws_set (we_call (wa_cons (we_tup (wa_cons (we_int (wa_cons (we_int (wa_cons (we_int (wa_nil ⟨_, rfl, Nat.le_of_ble_eq_true rfl, ?_⟩)))))))))))
  refine wa_cons (we_tup (wa_cons (we_var rfl (wa_cons (we_op (we_int (we_next rfl (by decide) we_int' fun v3 n3 a3 b3 => wr_add ?_)))))))
  refine wa_cons (we_var rfl (wa_nil ⟨_, rfl, Nat.le_of_ble_eq_true rfl, wa_nil ⟨((0, 0, 0), (1 + v1, 1 + v3, 1 + v2)), rfl, bx_in (by omega) (by omega) (by omega), fun r hr => ?_⟩⟩))
  obtain ⟨cut0, rfl, wc0, mc0⟩ := hr
  have bc0 : ∀ p, mS cut0 p → inB bxTool p := fun p hp => in_bx (by omega) ((mc0 p).mp hp)
  -- behind the cutter
  have rest : ∀ (cut : Sol) (n4 : Nat), WSol cut → (∀ p, mS cut p → inB bxTool p) → WS K (tSeq (tPar 5 6 (tCons (tTup (tCons (tUn rNeg (tCall (spNext K) [] E0 (tCons (tVar 0) (tCons (tC (.int 2)) tNil)))) (tCons (tUn rNeg (tCall (spNext K) [] E0 (tCons (tVar 0) (tCons (tC (.int 2)) tNil)))) (tCons (tVar 3) tNil)))) (tCons (tTup (tCons (tOp rPlus (tVar 2) (tCall (spNext K) [] E0 (tCons (tVar 0) (tCons (tC (.int 2)) tNil)))) (tCons (tOp rPlus (tC (.int 2)) (tCall (spNext K) [] E0 (tCons (tVar 0) (tCons (tC (.int 2)) tNil)))) (tCons (tOp rPlus (tVar 3) (tC (.int 2))) tNil)))) tNil)))
      (tRet (tTup (tCons (tVar 1) (tCons (tVar 4) (tCons (tIf (tTest (tOp rGtI (tCall (spNext K) [] E0 (tCons (tVar 0) (tCons (tC (.int 3)) tNil))) (tC (.int 0)))) (tCall (spBox K) [] E0 (tCons (tVar 5) (tCons (tVar 6) tNil))) (tTup tNil)) (tCons (tOp rPlus (tC (.int 1)) (tCall (spNext K) [] E0 (tCons (tVar 0) (tCons (tC (.int 5)) tNil)))) tNil))))))) [some (.raw (.ref l)), some (.im (.str name)), some (iN (1 + v1)), some (iN (1 + v2)), some (.im (dSol cut)), none, none] [(l, drawC cells n4)]
      { nx := fun _ cs => ∃ c' cs', cs = (l, c') :: cs' ∧ qDr (fun (_ : Str) r => qTool r) (⟨cells, n, name⟩ : GDr Str) (.im .none) c', rt := fun sv cs => ∃ r c' cs', cs = (l, c') :: cs' ∧ qDr (fun (_ : Str) r => qTool r) (⟨cells, n, name⟩ : GDr Str) r c' ∧ RetOf r sv cs' } := fun cut n4 wcut bcut => by
    refine ws_seq (ws_par (wa_cons (we_tup (wa_cons (we_neg (we_next rfl (by decide) we_int' fun v4 n5 a4 b4 => ⟨_, rfl, ?_⟩))))))
    refine wa_cons (we_neg (we_next rfl (by decide) we_int' fun v5 n6 a5 b5 => ⟨_, rfl, wa_cons (we_var rfl (wa_nil ⟨_, rfl, Nat.le_of_ble_eq_true rfl, ?_⟩))⟩))
    refine wa_cons (we_tup (wa_cons (we_op (we_var rfl (we_next rfl (by decide) we_int' fun v6 n7 a6 b6 => wr_add ?_)))))
    refine wa_cons (we_op (we_int (we_next rfl (by decide) we_int' fun v7 n8 a7 b7 => wr_add (wa_cons (we_op (we_var rfl (we_int (wr_add (wa_nil ⟨_, rfl, Nat.le_of_ble_eq_true rfl, wa_nil ⟨_, _, rfl, ?_⟩⟩)))))))))
    refine ws_ret (we_tup (wa_cons (we_var rfl (wa_cons (we_var rfl (wa_cons (we_if (wt_test (we_op (we_next rfl (by decide) we_int' fun v8 n9 a8 b8 => we_int (wr_gt ⟨_, rfl, fun e => ?_, fun e => ?_⟩)))))))))))
    · refine we_call (wa_cons (we_var rfl (wa_cons (we_var rfl (wa_nil ⟨((-v4, -v5, 1 + v2), (1 + v1 + v6, 2 + v7, 1 + v2 + 2)), rfl, bx_in (by omega) (by omega) (by omega), fun r hr => ?_⟩)))))
      obtain ⟨hold, rfl, wh, mh⟩ := hr
      refine wa_cons (we_op (we_int (we_next rfl (by decide) we_int' fun v9 n10 a9 b9 => wr_add (wa_nil ⟨_, rfl, Nat.le_of_ble_eq_true rfl, ?_⟩))))
      exact ⟨_, _, _, rfl, ⟨⟨⟨name, cut, hold, 1 + v9⟩, rfl, ⟨wcut, wh⟩, bcut, fun p hp => in_bx (by omega) ((mh p).mp hp)⟩, _, rfl⟩, rfl⟩
    · refine we_tup (wa_nil ⟨[], rfl, Nat.zero_le _, ?_⟩)
      refine wa_cons (we_op (we_int (we_next rfl (by decide) we_int' fun v9 n10 a9 b9 => wr_add (wa_nil ⟨_, rfl, Nat.le_of_ble_eq_true rfl, ?_⟩))))
      exact ⟨_, _, _, rfl, ⟨⟨⟨name, cut, [], 1 + v9⟩, rfl, ⟨wcut, WFT.nil⟩, bcut, fun p hp => absurd hp memT_nil⟩, _, rfl⟩, rfl⟩
  refine ws_seq (ws_if (wt_test (we_op (we_next rfl (by decide) we_int' fun v4 n5 a4 b4 => we_int (wr_eqI ⟨_, rfl, fun e => ?_, fun e => ?_⟩)))))
  · refine ws_set (we_call (wa_cons (we_var rfl (wa_cons (we_call (wa_cons (we_tup (wa_cons (we_neg (we_int ⟨_, rfl, ?_⟩))))))))))
    refine wa_cons (we_int (wa_cons (we_int (wa_nil ⟨_, rfl, Nat.le_of_ble_eq_true rfl, ?_⟩))))
    refine wa_cons (we_tup (wa_cons (we_op (we_var rfl (we_int (wr_add (wa_cons (we_int (wa_cons (we_int (wa_nil ⟨_, rfl, Nat.le_of_ble_eq_true rfl, ?_⟩)))))))))))
    refine wa_nil ⟨((-1, 0, 0), (1 + v1 + 1, 1, 1)), rfl, bx_in (by omega) (by omega) (by omega), fun r hr => ?_⟩
    obtain ⟨z, rfl, wz, mz⟩ := hr
    refine wa_nil ⟨(cut0, z), rfl, ⟨wc0, wz⟩, fun r hr => ?_⟩
    obtain ⟨cut, rfl, wcut, mcut⟩ := hr
    refine rest cut _ wcut fun p hp => ?_
    rcases (mcut (p.2.2, p.2.1, p.1)).mp hp with h | h
    · exact bc0 p h
    · exact in_bx (by omega) ((mz p).mp h)
  · exact ws_next (rest cut0 _ wc0 bc0)
theorem fn_tool (F : FnP K "_law_tool" s_law_tool f fd) (c1 : Cl P w K mg base 3 "_law_next" (spNext K)) (c2 : Cl P w K mg base 1 "box" (spBox K)) (c3 : Cl P w K mg base 7 "union" (spUnion K)) : FnOk P w K mg base CX0 8 f fd ["_law_draw_here", "_law_name"] (spTool K) :=
  fn_C F sc_law_tool (fun cdv A outer s H E hr => der_law_tool c1 c2 c3 hr) (fun _ _ => rfl) fun g l hp => run_tool g l
end
end Sw
set_option Elab.async false
set_option linter.all false
set_option maxRecDepth 100000
set_option maxHeartbeats 4000000
set_option autoImplicit false
namespace Sw
open PySem PySem.Spec PyProof.Rows L2
local macro_rules | `(tactic| walk_at "wp1") => `(tactic| first
  | with_reducible refine ws_seq ?_
  | with_reducible refine ws_par ?_
  | with_reducible refine ws_par3 ?_
  | with_reducible refine ws_set ?_
  | with_reducible refine ws_ret ?_
  | with_reducible refine ws_drop ?_
  | with_reducible refine ws_if ?_
  | with_reducible refine ws_next ?_
  | ((with_reducible refine' we_var ?hv ?_); (case hv => rfl))
  | with_reducible refine we_int ?_
  | with_reducible refine we_bl ?_
  | with_reducible refine we_str ?_
  | with_reducible refine we_non ?_
  | with_reducible refine we_raw ?_
  | with_reducible refine we_op ?_
  | with_reducible refine we_neg ?_
  | with_reducible refine we_tup ?_
  | with_reducible refine we_lst ?_
  | with_reducible refine we_cb ?_
  | with_reducible refine we_call ?_
  | with_reducible refine we_callC ?_
  | with_reducible refine we_if ?_
  | with_reducible refine we_and ?_
  | with_reducible refine we_or ?_
  | with_reducible refine we_not ?_
  | with_reducible refine we_chain ?_
  | with_reducible refine we_sl ?_
  | with_reducible refine wo_none ?_
  | with_reducible refine wo_some ?_
  | with_reducible refine wa_nil ?_
  | with_reducible refine wa_cons ?_
  | with_reducible refine wt_test ?_
  | with_reducible refine wt_B ?_
  | with_reducible refine wt_and ?_
  | with_reducible refine wt_or ?_
  | with_reducible refine wt_not ?_
  | with_reducible refine wt_yes ?_
  | with_reducible refine wr_add ?_
  | with_reducible refine wr_sub ?_
  | with_reducible refine wr_lt ?_
  | with_reducible refine wr_le ?_
  | with_reducible refine wr_gt ?_
  | with_reducible refine wr_eqI ?_
  | with_reducible refine wr_eqB ?_
  | with_reducible refine wr_eqS ?_
  | with_reducible refine wc_lenL ?_
  | with_reducible refine wc_lenT ?_
  | with_reducible refine wc_tupL ?_
  | ((with_reducible refine' wr_ixT ?hx ?_); (case hx => rfl))
  | with_reducible refine wg_name ?_
  | ((with_reducible refine' wg_tup ?hl ?_); (case hl => rfl))
  | with_reducible refine wgs_nil ?_
  | with_reducible refine wgs_cons ?_
  | refine ⟨_, rfl, ?_⟩
  | refine ⟨Nat.le_of_ble_eq_true rfl, ?_⟩
  | refine ⟨_, _, rfl, ?_⟩
  | refine ⟨_, _, _, rfl, ?_⟩
  | fail "no step")
local macro_rules | `(tactic| walk_at "wp") => `(tactic| repeat' walk_at "wp1")

/-! ### _law_job -/
section
variable {P : Program} {w : World} {K : PySem.W.Frag} {mg : Str → Option Value} {base : Heap} {f : Addr} {fd : FuncData}
abbrev qJob (r : Ret) : Prop := ∃ j : Jb, r = .im (dJb j) ∧ JbOk j ∧ j.tools ≠ [] ∧ j.stps ≠ []
abbrev spJob (K : PySem.W.Frag) : Sp := SpC K (γ := GDr Unit) (fun _ l => [.raw (.ref l)]) (fun _ => True) cDr (qDr fun _ r => qJob r)
theorem sg_diff {s x y : Int} (hs : sg2 s) (h1 : 0 ≤ x ∧ x < 3) (h2 : 0 ≤ y ∧ y < 3) : sg s x - sg s y < 3 := by
  unfold sg
  rcases hs with rfl | rfl
  · simp
    omega
  · simp
    omega
theorem stp_in {T : Bx} (hT : T ∈ tL) {stock : Sol} (bS : ∀ p, mS stock p → inB bxStock p) {z : Sol} (mz : ∀ p, mS z (turnP T p) ↔ mS stock p) {low high : Pt} (hb : ∀ p, mS z p → inB (low, high) p) (h1 : ∃ p, mS z p ∧ p.1 = low.1) (h2 : ∃ p, mS z p ∧ p.2.1 = low.2.1) (h3 : ∃ p, mS z p ∧ p.2.2 = low.2.2) {p : Pt} (hp : mS stock p) :
    inB bxStock (padd (turnP T p) (-low.1, -low.2.1, -low.2.2)) := by
  obtain ⟨U, _, _, _, inv⟩ := turn_inv hT
  obtain ⟨⟨a1, a2, a3⟩, s1, s2, s3⟩ := tL_ax T hT
  have back : ∀ q, mS z q → ∃ q0, mS stock q0 ∧ turnP T q0 = q := fun q hq => ⟨turnP U q, (mz _).mp (by rw [inv]; exact hq), inv q⟩
  obtain ⟨⟨b1, b2⟩, ⟨b3, b4⟩, b5, b6⟩ := hb _ ((mz p).mpr hp)
  obtain ⟨q1, hq1, e1⟩ := h1
  obtain ⟨q2, hq2, e2⟩ := h2
  obtain ⟨q3, hq3, e3⟩ := h3
  obtain ⟨r1, hr1, rfl⟩ := back q1 hq1
  obtain ⟨r2, hr2, rfl⟩ := back q2 hq2
  obtain ⟨r3, hr3, rfl⟩ := back q3 hq3
  have sin : ∀ q, mS stock q → ∀ i, ax3 i → 0 ≤ sel q i ∧ sel q i < 3 := fun q hq i hi => by
    obtain ⟨c1, c2, c3⟩ := bS q hq
    rcases hi with rfl | rfl | rfl
    · exact c1
    · exact c2
    · exact c3
  have d1 := sg_diff s1 (sin p hp _ a1) (sin r1 hr1 _ a1)
  have d2 := sg_diff s2 (sin p hp _ a2) (sin r2 hr2 _ a2)
  have d3' := sg_diff s3 (sin p hp _ a3) (sin r3 hr3 _ a3)
  have t1 : (turnP T p).1 = sg T.2.1 (sel p T.1.1) := rfl
  have t2 : (turnP T p).2.1 = sg T.2.2.1 (sel p T.1.2.1) := rfl
  have t3 : (turnP T p).2.2 = sg T.2.2.2 (sel p T.1.2.2) := rfl
  have u1 : (turnP T r1).1 = sg T.2.1 (sel r1 T.1.1) := rfl
  have u2 : (turnP T r2).2.1 = sg T.2.2.1 (sel r2 T.1.2.1) := rfl
  have u3 : (turnP T r3).2.2 = sg T.2.2.2 (sel r3 T.1.2.2) := rfl
  rw [u1] at e1
  rw [u2] at e2
  rw [u3] at e3
  refine ⟨⟨?_, ?_⟩, ⟨?_, ?_⟩, ?_, ?_⟩ <;> (simp only at *; omega)
theorem str_small {i : Nat} (h : i < 2) : (toString ((0 : Int) + (i : Int)) : Str).length ≤ 10 ∧ ((0 : Int) + (i : Int)).natAbs.log2 < 1920 := by
  match i, h with
  | 0, _ => exact ⟨by decide +kernel, by decide +kernel⟩
  | 1, _ => exact ⟨by decide +kernel, by decide +kernel⟩
abbrev invSt (cells : List Int) (l lst : Addr) (sz : Pt) (stock W : Sol) (mac : Mac) (ts : List Tl) (x6 : Option SV) (i : Nat) (ds' : DS) (cs' : CS) : Prop := ∃ (n' : Nat) (ss : List Stp) (x4 x5 x8 x11 x12 x13 x14 : Option SV), ds' = [some (.raw (.ref l)), some (.im (d3 sz)), some (.im (dSol stock)), some (.im (dSol W)), x4, x5, x6, some (.im (dMac mac)), x8, some (.im (.tuple (ts.map dTl))), some (.raw (.ref lst)), x11, x12, x13, x14] ∧ cs' = [(l, drawC cells n'), (lst, .lst (ss.map dStp))] ∧ ss.length = i ∧ ∀ s ∈ ss, StpOk stock s
theorem run_job (g : GDr Unit) (l : Addr) : WS K (t_law_job K (spNext K) (spBox K) (spLb K) (spLess K) (spTool K) (spTurned K) (spBnd K)) [some (.raw (.ref l)), none, none, none, none, none, none, none, none, none, none, none, none, none, none] [(l, cDr g)] { nx := fun _ cs => ∃ c' cs', cs = (l, c') :: cs' ∧ qDr (fun (_ : Unit) r => qJob r) g (.im .none) c', rt := fun sv cs => ∃ r c' cs', cs = (l, c') :: cs' ∧ qDr (fun (_ : Unit) r => qJob r) g r c' ∧ RetOf r sv cs' } := by
  obtain ⟨cells, n0, u⟩ := g
  unfold t_law_job
  refine ws_seq (ws_set (we_tup (wa_cons (we_op (we_int (we_next rfl (by decide) we_int' fun v1 n1 a1 b1 => wr_add ?_))))))
  refine wa_cons (we_op (we_int (we_next rfl (by decide) we_int' fun v2 n2 a2 b2 => wr_add ?_)))
  refine wa_cons (we_op (we_int (we_next rfl (by decide) we_int' fun v3 n3 a3 b3 => wr_add (wa_nil ⟨_, rfl, Nat.le_of_ble_eq_true rfl, ?_⟩))))
  generalize h1 : 2 + v1 = sx
  generalize h2 : 2 + v2 = sy
  generalize h3 : 1 + v3 = sw
  have z1 : 2 ≤ sx ∧ sx ≤ 3 := by omega
  have z2 : 2 ≤ sy ∧ sy ≤ 3 := by omega
  have z3 : 1 ≤ sw ∧ sw ≤ 3 := by omega
  have bsz : BxIn ((0, 0, 0), (sx, sy, sw)) := bx_in (by omega) (by omega) (by omega)
  refine ws_seq (ws_par (wa_cons (we_call (wa_cons (we_tup (wa_cons (we_int (wa_cons (we_int (wa_cons (we_int (wa_nil ⟨_, rfl, Nat.le_of_ble_eq_true rfl, ?_⟩))))))))))))
  refine wa_cons (we_var rfl (wa_nil ⟨((0, 0, 0), (sx, sy, sw)), rfl, bsz, fun r hr => ?_⟩))
  obtain ⟨stock, rfl, ws, ms⟩ := hr
  refine wa_cons (we_call (wa_cons (we_tup (wa_cons (we_int (wa_cons (we_int (wa_cons (we_int (wa_nil ⟨_, rfl, Nat.le_of_ble_eq_true rfl, ?_⟩))))))))))
  refine wa_cons (we_var rfl (wa_nil ⟨((0, 0, 0), (sx, sy, sw)), rfl, bsz, fun r hr => ?_⟩))
  obtain ⟨wish0, rfl, ww0, mw0⟩ := hr
  refine wa_nil ⟨_, _, rfl, ?_⟩
  have bS : ∀ p, mS stock p → inB bxStock p := fun p hp => in_bx (a := 0) (b := 0) (c := 0) (d := sx) (e := sy) (f := sw) (by omega) ((ms p).mp hp)
  have neS : mS stock (0, 0, 0) := (ms _).mpr ⟨⟨(by show (0 : Int) ≤ 0; decide), by show (0 : Int) < sx; omega⟩, ⟨(by show (0 : Int) ≤ 0; decide), by show (0 : Int) < sy; omega⟩, (by show (0 : Int) ≤ 0; decide), by show (0 : Int) < sw; omega⟩
  -- the wished
  refine ws_seq (ws_for (wl_rng1 (wa_cons (we_op (we_int (we_next rfl (by decide) we_int' fun v4 n4 a4 b4 => wr_add (wa_nil ⟨_, rfl, by omega, by omega, ?_⟩)))))))
  refine ⟨fun i ds' cs' => ∃ (n' : Nat) (W : Sol) (x4 x5 x6 x14 : Option SV), ds' = [some (.raw (.ref l)), some (.im (d3 (sx, sy, sw))), some (.im (dSol stock)), some (.im (dSol W)), x4, x5, x6, none, none, none, none, none, none, none, x14] ∧ cs' = [(l, drawC cells n')] ∧ WSol W ∧ ∀ p, mS W p → mS stock p, ⟨n4, wish0, _, _, _, _, rfl, rfl, ww0, fun p hp => (ms p).mpr ((mw0 p).mp hp)⟩, fun _ _ _ _ => srcOk_none, ?_, ?_⟩
  · rintro i ds' cs' x hx ⟨n', W, x4, x5, x6, x14, rfl, rfl, wW, sW⟩
    refine wg_name (ws_seq (ws_set (we_cb (wa_cons (we_lc (gk_name (by simp)) (wl_tup (we_var rfl ⟨[sx, sy, sw].map .int, rfl, ?_⟩)))))))
    refine ⟨Nat.le_of_ble_eq_true rfl, fun k acc cs' => ∃ (n' : Nat) (vs : List Int), cs' = [(l, drawC cells n')] ∧ acc = vs.map .int ∧ vs.length = k ∧ ∀ (m : Nat) (v s : Int), vs[m]? = some v → [sx, sy, sw][m]? = some s → 0 ≤ v ∧ v < s, ⟨n', [], rfl, rfl, rfl, fun m v s h => (by simp at h)⟩, fun _ _ _ _ => srcOk_none, ?_, ?_⟩
    · rintro k x acc cs' hx ⟨n', vs, rfl, rfl, hl, hv⟩
      rw [List.getElem?_map] at hx
      obtain ⟨s, hs, rfl⟩ := Option.map_eq_some_iff.mp hx
      have s0 : 0 < s := by
        have := List.mem_of_getElem? hs
        have h : s = sx ∨ s = sy ∨ s = sw := by simpa using this
        rcases h with rfl | rfl | rfl <;> omega
      have add : ∀ v : Int, 0 ≤ v → v < s → ∀ (m : Nat) (v' s' : Int), (vs ++ [v])[m]? = some v' → [sx, sy, sw][m]? = some s' → 0 ≤ v' ∧ v' < s' := fun v h0 h1 m v' s' h2 h3 => by
        by_cases c : m < vs.length
        · rw [List.getElem?_append_left c] at h2
          exact hv m v' s' h2 h3
        · have em : m = vs.length := by
            have := (List.getElem?_eq_some_iff.mp h2).1
            rw [List.length_append, List.length_singleton] at this
            omega
          subst em
          rw [List.getElem?_append_right (Nat.le_refl _), Nat.sub_self] at h2
          have e1 : v = v' := Option.some.inj h2
          rw [hl, hs] at h3
          have e2 : s = s' := Option.some.inj h3
          subst e1 e2
          exact ⟨h0, h1⟩
      refine wg_name (wt_yes ⟨fun _ => ?_, fun e => (nomatch e)⟩)
      refine we_if (wt_test (we_op (we_next rfl (by decide) we_int' fun v5 n5 a5 b5 => we_int (wr_eqI ⟨_, rfl, fun e => ?_, fun e => ?_⟩))))
      · exact we_int ⟨_, rfl, n5, vs ++ [0], rfl, by simp, by rw [List.length_append, hl]; rfl, add 0 (by decide) s0⟩
      · exact we_next rfl s0 (we_var rfl ⟨rfl, rfl⟩) fun v6 n6 a6 b6 => ⟨_, rfl, n6, vs ++ [v6], rfl, by simp, by rw [List.length_append, hl]; rfl, add v6 a6 b6⟩
    · rintro acc cs' ⟨n', vs, rfl, rfl, hl, hv⟩
      have hl3 : vs.length = 3 := hl
      refine .inl (wa_nil (wc_tupL ?_))
      match vs, hl3, hv with
      | [p, q, r], _, hv =>
        have hp := hv 0 p sx rfl rfl
        have hq := hv 1 q sy rfl rfl
        have hr := hv 2 r sw rfl rfl
        refine ws_seq (ws_set (we_call (wa_cons (we_var rfl (wa_cons (we_callC (wa_cons (we_var rfl (wa_cons (we_var rfl (wa_cons (we_var rfl ?_))))))))))))
        refine wa_nil ⟨⟨cells, n', ((p, q, r), (sx, sy, sw))⟩, 0, l, rfl, rfl, ⟨⟨hp.2, hq.2, hr.2⟩, bx_in (by omega) (by omega) (by omega)⟩, fun r c' hr => ?_⟩
        obtain ⟨⟨z, rfl, wz⟩, n7, rfl⟩ := hr
        refine wa_nil ⟨(W, z), rfl, ⟨wW, wz⟩, fun r hr => ?_⟩
        obtain ⟨late, rfl, wl, ml⟩ := hr
        refine ws_set (we_if (wt_test (we_op (we_var rfl (we_tup (wa_nil ⟨[], rfl, Nat.zero_le _, wr_neD (dSol_sh _) (by rfl) ⟨_, rfl, fun e => ?_, fun e => ?_⟩⟩))))))
        · exact we_var rfl ⟨n7, late, _, _, _, _, rfl, rfl, wl, fun p hp => sW p ((ml (p.2.2, p.2.1, p.1)).mp hp).1⟩
        · exact we_var rfl ⟨n7, W, _, _, _, _, rfl, rfl, wW, sW⟩
  · rintro ds' cs' ⟨n', W, x4, x5, x6, x14, rfl, rfl, wW, sW⟩
    -- the machine
    refine ws_seq (ws_set (we_tup (wa_cons (we_tup (wa_cons (we_neg (we_int ⟨_, rfl, wa_cons (we_neg (we_int ⟨_, rfl, wa_cons (we_neg (we_int ⟨_, rfl, wa_nil ⟨_, rfl, Nat.le_of_ble_eq_true rfl, ?_⟩⟩))⟩))⟩)))))))
    refine wa_cons (we_tup (wa_cons (we_int (wa_cons (we_int (wa_cons (we_int (wa_nil ⟨_, rfl, Nat.le_of_ble_eq_true rfl, ?_⟩))))))))
    refine wa_cons (we_tup (wa_cons (we_int (wa_cons (we_int (wa_cons (we_int (wa_nil ⟨_, rfl, Nat.le_of_ble_eq_true rfl, wa_cons (we_int ?_)⟩))))))))
    refine wa_cons (we_next rfl (by decide) we_int' fun m1 n8 _ _ => ?_)
    refine wa_cons (we_next rfl (by decide) we_int' fun m2 n9 _ _ => wa_nil ⟨_, rfl, Nat.le_of_ble_eq_true rfl, ?_⟩)
    -- the tools
    refine ws_seq (ws_set (we_cb (wa_cons (we_lc (gk_name (by simp)) (wl_rng1 (wa_cons (we_op (we_int (we_op (we_next rfl (by decide) we_int' fun v7 n10 a7 b7 => we_int (wr_fdiv ⟨by decide, by decide⟩ (wr_add (wa_nil ⟨_, rfl, by omega, by omega, ?_⟩)))))))))))))
    have hr7 : (1 + v7 / 2).toNat ≤ 2 ∧ 1 ≤ (1 + v7 / 2).toNat := by omega
    refine ⟨by rw [intsFrom_len]; omega, fun k acc cs' => ∃ (n' : Nat) (ts : List Tl), cs' = [(l, drawC cells n')] ∧ acc = ts.map dTl ∧ ts.length = k ∧ ∀ t ∈ ts, TlOk t, ⟨n10, [], rfl, rfl, rfl, fun t h => (by cases h)⟩, fun _ _ _ _ => srcOk_none, ?_, ?_⟩
    · rintro k x acc cs' hx ⟨n', ts, rfl, rfl, hl, ht⟩
      obtain ⟨hk, rfl⟩ := intsFrom_get hx
      obtain ⟨st1, st2⟩ := str_small (i := k) (by omega)
      refine wg_name (wt_yes ⟨fun _ => ?_, fun e => (nomatch e)⟩)
      refine we_callC (wa_cons (we_var rfl (wa_cons (we_op (we_str (we_cb (wa_cons (we_var rfl (wa_nil (wc_strS st2 (wr_addSS ?_ ?_)))))))))))
      · have : ("t" : Str).length = 1 := by decide +kernel
        omega
      refine wa_nil ⟨⟨cells, n', _⟩, 0, l, rfl, rfl, trivial, fun r c' hr => ?_⟩
      obtain ⟨⟨t, rfl, tok⟩, n11, rfl⟩ := hr
      refine ⟨_, rfl, n11, ts ++ [t], rfl, by simp, by rw [List.length_append, hl]; rfl, fun t' h => ?_⟩
      rcases List.mem_append.mp h with h | h
      · exact ht t' h
      · have e : t' = t := by simpa using h
        subst e
        exact tok
    · rintro acc cs' ⟨n12, ts, rfl, rfl, hl, ht⟩
      rw [intsFrom_len] at hl
      refine .inl (wa_nil (wc_tupL ?_))
      -- the setups
      refine ws_seq (ws_set (we_lst (wa_nil ⟨[], rfl, Nat.zero_le _, .inr fun lst => ?_⟩)))
      refine ws_seq (ws_for (wl_rng1 (wa_cons (we_op (we_int (we_op (we_next rfl (by decide) we_int' fun v8 n13 a8 b8 => we_int (wr_fdiv ⟨by decide, by decide⟩ (wr_add (wa_nil ⟨_, rfl, by omega, by omega, ?_⟩))))))))))
      have hr8 : (1 + v8 / 2).toNat ≤ 2 ∧ 1 ≤ (1 + v8 / 2).toNat := by omega
      refine ⟨fun i ds' cs' => invSt cells l lst (sx, sy, sw) stock W ⟨(-2, -2, -1), (3, 3, 4), (0, 0, 4), 1, m1, m2⟩ ts x6 i ds' cs', ⟨n13, [], _, _, _, _, _, _, _, rfl, rfl, rfl, fun t h => (by cases h)⟩, fun _ _ _ _ => srcOk_none, ?_, ?_⟩
      · rintro i ds' cs' x hx ⟨n', ss, y4, y5, y8, y11, y12, y13, y14, rfl, rfl, hls, hss⟩
        obtain ⟨hk, rfl⟩ := intsFrom_get hx
        obtain ⟨st1, st2⟩ := str_small (i := i) (by omega)
        have body : ∀ (P : Post) (hP : ∀ ds' cs', invSt cells l lst (sx, sy, sw) stock W ⟨(-2, -2, -1), (3, 3, 4), (0, 0, 4), 1, m1, m2⟩ ts x6 (i + 1) ds' cs' → P.nx ds' cs') (t : Int) (n' : Nat), 0 ≤ t → t < 24 → WS K (tSeq (tAsg (tCall (spBnd K) [] E0 (tCons (tCall (spTurned K) [] E0 (tCons (tVar 2) (tCons (tVar 4) tNil))) tNil)) (gTup K 2 (gCons (gName 5) (gCons (gName 11) gNil))))
            (tSeq (tAsg (tCB (rTupS K) (tCons (tLc (iTup K (tVar 5)) (gName 14) tYes (tUn rNeg (tVar 14)) [14]) tNil)) (gName 12))
            (tSeq (tAsg (tIf (tTest (tOp rEq (tCall (spNext K) [] E0 (tCons (tVar 0) (tCons (tC (.int 2)) tNil))) (tC (.int 0)))) (tCall (spBox K) [] E0 (tCons (tTup (tCons (tUn rNeg (tC (.int 3))) (tCons (tUn rNeg (tC (.int 3))) (tCons (tUn rNeg (tC (.int 3))) tNil)))) (tCons (tTup (tCons (tC (.int 8)) (tCons (tC (.int 8)) (tCons (tC (.int 0)) tNil)))) tNil))) (tTup tNil)) (gName 13))
            (tDrop (tBM K "list" rAppend (tVar 10) (tCons (tTup (tCons (tOp rAddSS (tC (.str "s")) (tCB rStrS (tCons (tVar 8) tNil))) (tCons (tVar 4) (tCons (tVar 12) (tCons (tVar 13) tNil))))) tNil))))))
            [some (.raw (.ref l)), some (.im (d3 (sx, sy, sw))), some (.im (dSol stock)), some (.im (dSol W)), some (iN t), y5, x6, some (.im (dMac ⟨(-2, -2, -1), (3, 3, 4), (0, 0, 4), 1, m1, m2⟩)), some (iN ((0 : Int) + (i : Int))), some (.im (.tuple (ts.map dTl))), some (.raw (.ref lst)), y11, y12, y13, y14] [(l, drawC cells n'), (lst, .lst (ss.map dStp))]
            P := fun P hP t n' t0 t1 => by
          obtain ⟨tn, rfl⟩ := Int.eq_ofNat_of_zero_le t0
          have tn24 : tn < 24 := by omega
          refine ws_seq (ws_asg (we_call (wa_cons (we_call (wa_cons (we_var rfl (wa_cons (we_var rfl ?_))))))))
          refine wa_nil ⟨(stock, tn), rfl, ⟨ws, tn24⟩, fun r hr => ?_⟩
          obtain ⟨z, T, rfl, hT, hz, hm⟩ := hr
          refine wa_nil ⟨z, rfl, ⟨hz, _, (hm _).mpr neS⟩, fun r hr => ?_⟩
          obtain ⟨low, high, rfl, b0, b1, b2, b3⟩ := hr
          refine wg_tup rfl (wgs_cons (wg_name (wgs_cons (wg_name (wgs_nil ?_)))))
          refine ws_seq (ws_set (we_cb (wa_cons (we_map (l := [low.1, low.2.1, low.2.2]) (e := .int) (F := fun x => .int (-x)) (gk_name (by simp)) (Nat.le_of_ble_eq_true rfl) (wl_tup (we_var rfl ⟨_, rfl, rfl, srcOk_none, rfl⟩)) (fun x hx => wg_name ⟨rfl, we_neg (we_var rfl ⟨x, rfl, rfl, rfl⟩)⟩) (.inl (wa_nil (wc_tupL ?_)))))))
          have hst : ∀ (fix : Sol), WSol fix → (∀ p, mS fix p → inB bxFix p) → StpOk stock ⟨("s" : Str) ++ toString ((0 : Int) + (i : Int)), tn, (-low.1, -low.2.1, -low.2.2), fix⟩ := fun fix h1 h2 => by
            refine ⟨tn24, h1, h2, fun p hp => ?_⟩
            have eT : tgT ⟨("s" : Str) ++ toString ((0 : Int) + (i : Int)), tn, (-low.1, -low.2.1, -low.2.2), fix⟩ = T := by
              have h4 := tgT_at (s := ⟨("s" : Str) ++ toString ((0 : Int) + (i : Int)), tn, (-low.1, -low.2.1, -low.2.2), fix⟩) tn24
              have h5 : tL[tn]? = some T := hT
              have h6 : some T = some _ := h5.symm.trans h4
              exact (Option.some.inj h6).symm
            unfold plc
            rw [eT]
            exact stp_in (List.mem_of_getElem? hT) bS hm b0 b1 b2 b3 hp
          have last : ∀ (fix : Sol) (n' : Nat), WSol fix → (∀ p, mS fix p → inB bxFix p) → WS K (tDrop (tBM K "list" rAppend (tVar 10) (tCons (tTup (tCons (tOp rAddSS (tC (.str "s")) (tCB rStrS (tCons (tVar 8) tNil))) (tCons (tVar 4) (tCons (tVar 12) (tCons (tVar 13) tNil))))) tNil)))
              [some (.raw (.ref l)), some (.im (d3 (sx, sy, sw))), some (.im (dSol stock)), some (.im (dSol W)), some (iN (tn : Int)), some (.im (d3 low)), x6, some (.im (dMac ⟨(-2, -2, -1), (3, 3, 4), (0, 0, 4), 1, m1, m2⟩)), some (iN ((0 : Int) + (i : Int))), some (.im (.tuple (ts.map dTl))), some (.raw (.ref lst)), some (.im (d3 high)), some (.im (d3 (-low.1, -low.2.1, -low.2.2))), some (.im (dSol fix)), y14] [(l, drawC cells n'), (lst, .lst (ss.map dStp))]
              P := fun fix n' h1 h2 => by
            refine ws_drop (we_append (we_var rfl ⟨lst, rfl, ⟨1, _, rfl⟩, ?_⟩))
            refine wa_cons (we_tup (wa_cons (we_op (we_str (we_cb (wa_cons (we_var rfl (wa_nil (wc_strS st2 (wr_addSS ?_ ?_)))))))))) 
            · have : ("s" : Str).length = 1 := by decide +kernel
              omega
            refine wa_cons (we_var rfl (wa_cons (we_var rfl (wa_cons (we_var rfl (wa_nil ⟨_, rfl, Nat.le_of_ble_eq_true rfl, ?_⟩))))))
            refine wa_nil ⟨_, 1, _, rfl, rfl, by rw [List.length_map]; omega, ?_⟩
            refine hP _ _ ⟨n', ss ++ [⟨("s" : Str) ++ toString ((0 : Int) + (i : Int)), tn, (-low.1, -low.2.1, -low.2.2), fix⟩], _, _, _, _, _, _, _, rfl, ?_, by rw [List.length_append, hls]; rfl, fun s h => ?_⟩
            · rw [List.map_append]
              rfl
            · rcases List.mem_append.mp h with h | h
              · exact hss s h
              · have e : s = _ := List.mem_singleton.mp h
                subst e
                exact hst fix h1 h2
          refine ws_seq (ws_set (we_if (wt_test (we_op (we_next rfl (by decide) we_int' fun v9 n9 a9 b9 => we_int (wr_eqI ⟨_, rfl, fun e => ?_, fun e => ?_⟩))))))
          · refine we_call (wa_cons (we_tup (wa_cons (we_neg (we_int ⟨_, rfl, wa_cons (we_neg (we_int ⟨_, rfl, wa_cons (we_neg (we_int ⟨_, rfl, wa_nil ⟨_, rfl, Nat.le_of_ble_eq_true rfl, ?_⟩⟩))⟩))⟩)))))
            refine wa_cons (we_tup (wa_cons (we_int (wa_cons (we_int (wa_cons (we_int (wa_nil ⟨_, rfl, Nat.le_of_ble_eq_true rfl, ?_⟩))))))))
            refine wa_nil ⟨((-3, -3, -3), (8, 8, 0)), rfl, bx_in (by omega) (by omega) (by omega), fun r hr => ?_⟩
            obtain ⟨fix, rfl, wf, mf⟩ := hr
            exact last fix n9 wf fun p hp => (mf p).mp hp
          · exact we_tup (wa_nil ⟨[], rfl, Nat.zero_le _, last [] n9 WFT.nil fun p hp => absurd hp memT_nil⟩)
        refine wg_name (ws_seq (ws_set (we_if (wt_test (we_op (we_var rfl (we_int (wr_eqI ⟨_, rfl, fun e => ?_, fun e => ?_⟩))))))))
        · exact we_int (body _ (fun _ _ h => h) 0 n' (by decide) (by decide))
        · exact we_next rfl (by decide) we_int' fun v9 n9 a9 b9 => body _ (fun _ _ h => h) v9 n9 a9 b9
      · rintro ds' cs' ⟨n', ss, y4, y5, y8, y11, y12, y13, y14, rfl, rfl, hls, hss⟩
        rw [intsFrom_len] at hls
        refine ws_ret (we_tup (wa_cons (we_var rfl (wa_cons (we_var rfl (wa_cons (we_op (we_next rfl (by decide) we_int' fun v9 n9 a9 b9 => we_int (wr_fdiv ⟨by decide, by decide⟩ ?_)))))))))
        refine wa_cons (we_var rfl (wa_cons (we_var rfl (wa_cons (we_cb (wa_cons (we_var rfl (wa_nil (wc_tupC (j := 1) rfl (wa_nil ⟨_, rfl, Nat.le_of_ble_eq_true rfl, ?_⟩)))))))))) 
        refine ⟨_, _, _, rfl, ⟨⟨⟨stock, W, v9 / 3, ⟨(-2, -2, -1), (3, 3, 4), (0, 0, 4), 1, m1, m2⟩, ts, ss⟩, rfl, ⟨ws, wW, bS, sW, ⟨rfl, rfl, rfl⟩, ht, hss, by show ts.length ≤ 10; omega, by show ss.length ≤ 10; omega⟩, ?_, ?_⟩, _, rfl⟩, rfl⟩
        · intro e
          have e' : ts = [] := e
          subst e'
          have : ([] : List Tl).length = 0 := rfl
          omega
        · intro e
          have e' : ss = [] := e
          subst e'
          have : ([] : List Stp).length = 0 := rfl
          omega
theorem fn_job (F : FnP K "_law_job" s_law_job f fd) (c1 : Cl P w K mg base 3 "_law_next" (spNext K)) (c2 : Cl P w K mg base 1 "box" (spBox K)) (c3 : Cl P w K mg base 4 "_law_box" (spLb K)) (c4 : Cl P w K mg base 7 "less" (spLess K)) (c5 : Cl P w K mg base 8 "_law_tool" (spTool K)) (c6 : Cl P w K mg base 10 "turned" (spTurned K)) (c7 : Cl P w K mg base 2 "bounds" (spBnd K)) (m1 : mg "range" = none) (m2 : mg "tuple" = none) (m3 : mg "str" = none) : FnOk P w K mg base CX0 11 f fd ["_law_draw_here"] (spJob K) :=
  fn_C F sc_law_job (fun cdv A outer s H E hr => der_law_job c1 c2 c3 c4 c5 c6 c7 m1 m2 m3 hr) (fun _ _ => rfl) fun g l hp => run_job g l
end
end Sw
set_option Elab.async false
set_option linter.all false
set_option maxRecDepth 100000
set_option maxHeartbeats 4000000
set_option autoImplicit false
namespace Sw
open PySem PySem.Spec PyProof.Rows L2
local macro_rules | `(tactic| walk_at "wp1") => `(tactic| first
  | with_reducible refine ws_seq ?_
  | with_reducible refine ws_par ?_
  | with_reducible refine ws_par3 ?_
  | with_reducible refine ws_set ?_
  | with_reducible refine ws_ret ?_
  | with_reducible refine ws_drop ?_
  | with_reducible refine ws_if ?_
  | with_reducible refine ws_next ?_
  | ((with_reducible refine' we_var ?hv ?_); (case hv => rfl))
  | with_reducible refine we_int ?_
  | with_reducible refine we_bl ?_
  | with_reducible refine we_str ?_
  | with_reducible refine we_non ?_
  | with_reducible refine we_raw ?_
  | with_reducible refine we_op ?_
  | with_reducible refine we_neg ?_
  | with_reducible refine we_tup ?_
  | with_reducible refine we_lst ?_
  | with_reducible refine we_cb ?_
  | with_reducible refine we_call ?_
  | with_reducible refine we_callC ?_
  | with_reducible refine we_if ?_
  | with_reducible refine we_and ?_
  | with_reducible refine we_or ?_
  | with_reducible refine we_not ?_
  | with_reducible refine we_chain ?_
  | with_reducible refine we_sl ?_
  | with_reducible refine wo_none ?_
  | with_reducible refine wo_some ?_
  | with_reducible refine wa_nil ?_
  | with_reducible refine wa_cons ?_
  | with_reducible refine wt_test ?_
  | with_reducible refine wt_B ?_
  | with_reducible refine wt_and ?_
  | with_reducible refine wt_or ?_
  | with_reducible refine wt_not ?_
  | with_reducible refine wt_yes ?_
  | with_reducible refine wr_add ?_
  | with_reducible refine wr_sub ?_
  | with_reducible refine wr_lt ?_
  | with_reducible refine wr_le ?_
  | with_reducible refine wr_gt ?_
  | with_reducible refine wr_eqI ?_
  | with_reducible refine wr_eqB ?_
  | with_reducible refine wr_eqS ?_
  | with_reducible refine wc_lenL ?_
  | with_reducible refine wc_lenT ?_
  | with_reducible refine wc_tupL ?_
  | ((with_reducible refine' wr_ixT ?hx ?_); (case hx => rfl))
  | with_reducible refine wg_name ?_
  | ((with_reducible refine' wg_tup ?hl ?_); (case hl => rfl))
  | with_reducible refine wgs_nil ?_
  | with_reducible refine wgs_cons ?_
  | refine ⟨_, rfl, ?_⟩
  | refine ⟨Nat.le_of_ble_eq_true rfl, ?_⟩
  | refine ⟨_, _, rfl, ?_⟩
  | refine ⟨_, _, _, rfl, ?_⟩
  | fail "no step")
local macro_rules | `(tactic| walk_at "wp") => `(tactic| repeat' walk_at "wp1")

/-! ### _law_cubes -/
section
variable {P : Program} {w : World} {K : PySem.W.Frag} {mg : Str → Option Value} {base : Heap} {f : Addr} {fd : FuncData}
theorem lkp_memK {κ : Type} [DecidableEq κ] {kvs : List (κ × PyData)} {k : κ} : (lkp kvs k).isSome = true ↔ k ∈ kvs.map (·.1) := by
  rw [lkp_isSome, decide_eq_true_iff]
/-- a dict of cubes -/
def CK (S : Pt → Prop) (c : Cell) : Prop := ∃ kvs : List (List L2.Key × PyData), c = .dt kvs ∧ (kvs.map (·.1)).Nodup ∧ (∀ k ∈ kvs.map (·.1), ∃ p, k = key3 p ∧ inB cAll p ∧ S p) ∧ ∀ p, S p → key3 p ∈ kvs.map (·.1)
theorem key3_inj {p q : Pt} (h : key3 p = key3 q) : p = q := by
  unfold key3 at h
  simp only [List.cons.injEq, Sum.inl.injEq, and_true] at h
  exact Prod.ext h.1 (Prod.ext h.2.1 h.2.2)
theorem keys3_of : ∀ {l : List (List L2.Key)}, (∀ k ∈ l, ∃ p : Pt, k = key3 p) → ∃ ks : List Pt, l = ks.map key3
  | [], _ => ⟨[], rfl⟩
  | k :: l, h => by
    obtain ⟨p, rfl⟩ := h k List.mem_cons_self
    obtain ⟨ks, rfl⟩ := keys3_of fun k hk => h k (List.mem_cons_of_mem _ hk)
    exact ⟨p :: ks, rfl⟩
theorem nodup_le : ∀ {l m : List Nat}, l.Nodup → (∀ x ∈ l, x ∈ m) → l.length ≤ m.length
  | [], _, _, _ => Nat.zero_le _
  | x :: l, m, h, s => by
    rw [List.nodup_cons] at h
    have hx := s x List.mem_cons_self
    have := nodup_le (l := l) (m := m.erase x) h.2 fun y hy => by
      have hne : y ≠ x := fun e => h.1 (e ▸ hy)
      exact (List.mem_erase_of_ne hne).mpr (s y (List.mem_cons_of_mem _ hy))
    rw [List.length_erase_of_mem hx] at this
    have hpos := List.length_pos_of_mem hx
    rw [List.length_cons]
    omega
theorem CK.ks {S : Pt → Prop} {c : Cell} (h : CK S c) : ∃ (kvs : List (List L2.Key × PyData)) (ks : List Pt), c = .dt kvs ∧ kvs.map (·.1) = ks.map key3 ∧ ks.length ≤ 68921 ∧ kvs.length ≤ 68921 ∧ ∀ p, p ∈ ks ↔ S p := by
  obtain ⟨kvs, rfl, nd, h1, h2⟩ := h
  obtain ⟨ks, hk⟩ := keys3_of (l := kvs.map (·.1)) fun k hk => (h1 k hk).imp fun p hp => hp.1
  have mem : ∀ p, p ∈ ks ↔ key3 p ∈ kvs.map (·.1) := fun p => by
    rw [hk, List.mem_map]
    constructor
    · exact fun hp => ⟨p, hp, rfl⟩
    · rintro ⟨q, hq, e⟩
      rw [← key3_inj e]
      exact hq
  have all : ∀ p ∈ ks, inB cAll p ∧ S p := fun p hp => by
    obtain ⟨q, e, g1, g2⟩ := h1 _ ((mem p).mp hp)
    rw [key3_inj e]
    exact ⟨g1, g2⟩
  have l1 : ks.length ≤ 68921 := by
    have nk : ks.Pairwise fun a b => a ≠ b := by
      rw [hk] at nd
      exact (List.pairwise_map.mp nd).imp fun h e => h (by rw [e])
    have nn : (ks.map fun p : Pt => ((p.1 + 20) * 1681 + (p.2.1 + 20) * 41 + (p.2.2 + 20)).toNat).Nodup := by
      refine List.pairwise_map.mpr (nk.imp_of_mem fun {a b} ha hb hne e => hne ?_)
      obtain ⟨⟨a1, a2⟩, ⟨a3, a4⟩, a5, a6⟩ := (all a ha).1
      obtain ⟨⟨b1, b2⟩, ⟨b3, b4⟩, b5, b6⟩ := (all b hb).1
      simp only at a1 a2 a3 a4 a5 a6 b1 b2 b3 b4 b5 b6
      exact Prod.ext (by omega) (Prod.ext (by omega) (by omega))
    have := nodup_le nn (m := List.range 68921) fun x hx => by
      obtain ⟨a, ha, rfl⟩ := List.mem_map.mp hx
      obtain ⟨⟨a1, a2⟩, ⟨a3, a4⟩, a5, a6⟩ := (all a ha).1
      simp only at a1 a2 a3 a4 a5 a6
      rw [List.mem_range]
      omega
    rw [List.length_map, List.length_range] at this
    exact this
  refine ⟨kvs, ks, rfl, hk, l1, ?_, fun p => ⟨fun hp => (all p hp).2, fun hp => (mem p).mpr (h2 p hp)⟩⟩
  have := congrArg List.length hk
  rw [List.length_map, List.length_map] at this
  omega
theorem CK.congr {S T : Pt → Prop} {c : Cell} (h : CK S c) (e : ∀ p, S p ↔ T p) : CK T c := by
  obtain ⟨kvs, rfl, nd, h1, h2⟩ := h
  exact ⟨kvs, rfl, nd, fun k hk => (h1 k hk).imp fun p hp => ⟨hp.1, hp.2.1, (e p).mp hp.2.2⟩, fun p hp => h2 p ((e p).mpr hp)⟩
theorem CK.put {S : Pt → Prop} {kvs : List (List L2.Key × PyData)} (h : CK S (.dt kvs)) {q : Pt} (hq : inB cAll q) (d : PyData) : CK (fun p => S p ∨ p = q) (.dt (putD kvs (key3 q) d)) := by
  obtain ⟨kvs', e, nd, h1, h2⟩ := h
  cases e
  refine ⟨_, rfl, putD_nodup nd, fun k hk => ?_, fun p hp => ?_⟩
  · rcases (putD_keys k).mp hk with hk | rfl
    · exact (h1 k hk).imp fun p hp => ⟨hp.1, hp.2.1, .inl hp.2.2⟩
    · exact ⟨q, rfl, hq, .inr rfl⟩
  · refine (putD_keys _).mpr ?_
    rcases hp with hp | rfl
    · exact .inl (h2 p hp)
    · exact .inr rfl
theorem CK.drop {S : Pt → Prop} {kvs : List (List L2.Key × PyData)} (h : CK S (.dt kvs)) (q : Pt) : CK (fun p => S p ∧ p ≠ q) (.dt (dropD kvs (key3 q))) := by
  obtain ⟨kvs', e, nd, h1, h2⟩ := h
  cases e
  refine ⟨_, rfl, dropD_nodup nd, fun k hk => ?_, fun p hp => ?_⟩
  · obtain ⟨hk, ne⟩ := (dropD_keys k).mp hk
    obtain ⟨p, rfl, hp⟩ := h1 k hk
    exact ⟨p, rfl, hp.1, hp.2, fun e => ne (by rw [e])⟩
  · exact (dropD_keys _).mpr ⟨h2 p hp.1, fun e => hp.2 (key3_inj e)⟩
theorem CK.nil : CK (fun _ => False) (.dt []) := ⟨[], rfl, .nil, fun k hk => (by cases hk), fun p hp => hp.elim⟩
theorem CK.some {S : Pt → Prop} {kvs : List (List L2.Key × PyData)} (h : CK S (.dt kvs)) (p : Pt) : (lkp kvs (key3 p)).isSome = true ↔ S p := by
  obtain ⟨kvs', e, nd, h1, h2⟩ := h
  cases e
  constructor
  · intro hk
    obtain ⟨q, e, _, hq⟩ := h1 _ (lkp_memK.mp hk)
    rw [key3_inj e]
    exact hq
  · intro hp
    exact lkp_memK.mpr (h2 p hp)
theorem mS_all {s : Sol} (h : WSol s) {p : Pt} (hp : mS s p) : inB cAll p := by
  obtain ⟨t, ht, ⟨h1, h2⟩, u, hu, ⟨h3, h4⟩, r, hr, h5, h6⟩ := hp
  have b1 := h.bnd _ (List.mem_map.mpr ⟨t, ht, rfl⟩)
  have wl := (h.inn t ht).1
  have b2 := wl.bnd _ (List.mem_map.mpr ⟨u, hu, rfl⟩)
  have b3 := (wl.inn u hu).1.bnd r hr
  simp only at *
  refine ⟨⟨?_, ?_⟩, ⟨?_, ?_⟩, ?_, ?_⟩ <;> (simp only; omega)
abbrev qCub (s : Sol) (r : Ret) : Prop := ∃ c, r = .cel c ∧ CK (mS s) c
abbrev spCub (K : PySem.W.Frag) : Sp := SpF K a1 WSol qCub
abbrev dsC (g : Sol) (l : Addr) (t : Int × Int × Lay) (u : Int × Int × Iv) (r : Int × Int) (x10 x11 x12 : Option SV) : DS := [some (.im (dSol g)), some (.raw (.ref l)), some (iN t.1), some (iN t.2.1), some (.im (dLay t.2.2)), some (iN u.1), some (iN u.2.1), some (.im (dRow u.2.2)), some (iN r.1), some (iN r.2), x10, x11, x12]
abbrev CI (l : Addr) (S : Pt → Prop) (cs : CS) : Prop := ∃ c, cs = [(l, c)] ∧ CK S c
variable {g : Sol} {l : Addr} {t : Int × Int × Lay} {u : Int × Int × Iv} {r : Int × Int}
theorem fill_x {z y : Int} {S : Pt → Prop} (hb : ∀ x, r.1 ≤ x → x < r.2 → inB cAll (x, y, z)) (hr : -20 ≤ r.1 ∧ r.2 ≤ 20 ∧ r.1 < r.2) {Q : Post} {cs : CS} (hcs : CI l S cs) {x12 : Option SV} (hP : ∀ x12 cs, CI l (fun p => S p ∨ p.2.2 = z ∧ p.2.1 = y ∧ r.1 ≤ p.1 ∧ p.1 < r.2) cs → Q.nx (dsC g l t u r (some (iN z)) (some (iN y)) x12) cs) :
    WS K (tFor (iRng2 (tCons (tVar 8) (tCons (tVar 9) tNil))) (gName 12) (sDPut (tVar 1) (tTup (tCons (tVar 12) (tCons (tVar 11) (tCons (tVar 10) tNil)))) (tC (.bl true)))) (dsC g l t u r (some (iN z)) (some (iN y)) x12) cs Q := by
  refine ws_for (wl_rng2 (wa_cons (we_var rfl (wa_cons (we_var rfl (wa_nil ⟨_, _, rfl, by omega, ?_⟩))))))
  refine ⟨fun i ds' cs' => ∃ x12, ds' = dsC g l t u r (some (iN z)) (some (iN y)) x12 ∧ CI l (fun p => S p ∨ p.2.2 = z ∧ p.2.1 = y ∧ r.1 ≤ p.1 ∧ p.1 < r.1 + (i : Int)) cs', ⟨x12, rfl, ?_⟩, fun _ _ _ _ => srcOk_none, ?_, ?_⟩
  · obtain ⟨c, e, h⟩ := hcs
    exact ⟨c, e, h.congr fun p => ⟨.inl, fun h => h.elim id fun h => by omega⟩⟩
  · rintro i ds' cs' x hx ⟨x12, rfl, c, rfl, hc⟩
    obtain ⟨hi, rfl⟩ := intsFrom_get hx
    obtain ⟨kvs, ks, rfl, hk, l1, l2, _⟩ := hc.ks
    refine wg_name (ws_dput (we_bl ⟨_, rfl, we_var rfl ⟨l, rfl, wa_cons (we_var rfl (wa_cons (we_var rfl (wa_cons (we_var rfl (wa_nil ?_))))))⟩⟩))
    refine ⟨0, kvs, key3 (r.1 + (i : Int), y, z), rfl, Nat.le_of_ble_eq_true rfl, rfl, by omega, _, rfl, _, rfl, ?_⟩
    refine (hc.put (hb _ (by omega) (by omega)) _).congr fun p => ?_
    constructor
    · rintro ((h | h) | rfl)
      · exact .inl h
      · exact .inr ⟨h.1, h.2.1, h.2.2.1, by omega⟩
      · exact .inr ⟨rfl, rfl, by simp only; omega, by simp only; omega⟩
    · rintro (h | ⟨h1, h2, h3, h4⟩)
      · exact .inl (.inl h)
      · by_cases e : p.1 = r.1 + (i : Int)
        · exact .inr (Prod.ext e (Prod.ext h2 h1))
        · exact .inl (.inr ⟨h1, h2, h3, by omega⟩)
  · rintro ds' cs' ⟨x12, rfl, c, rfl, hc⟩
    rw [intsFrom_len] at hc
    refine hP _ _ ⟨c, rfl, hc.congr fun p => ?_⟩
    have : r.1 + ((r.2 - r.1).toNat : Int) = r.2 := by omega
    rw [this]
abbrev tX : TS := tFor (iRng2 (tCons (tVar 8) (tCons (tVar 9) tNil))) (gName 12) (sDPut (tVar 1) (tTup (tCons (tVar 12) (tCons (tVar 11) (tCons (tVar 10) tNil)))) (tC (.bl true)))
theorem fill_y {z : Int} {S : Pt → Prop} (hb : ∀ y x, u.1 ≤ y → y < u.2.1 → r.1 ≤ x → x < r.2 → inB cAll (x, y, z)) (hr : -20 ≤ r.1 ∧ r.2 ≤ 20 ∧ r.1 < r.2) (hu : -20 ≤ u.1 ∧ u.2.1 ≤ 20 ∧ u.1 < u.2.1) {Q : Post} {cs : CS} (hcs : CI l S cs) {x11 x12 : Option SV} (hP : ∀ x11 x12 cs, CI l (fun p => S p ∨ p.2.2 = z ∧ (u.1 ≤ p.2.1 ∧ p.2.1 < u.2.1) ∧ r.1 ≤ p.1 ∧ p.1 < r.2) cs → Q.nx (dsC g l t u r (some (iN z)) x11 x12) cs) :
    WS K (tFor (iRng2 (tCons (tVar 5) (tCons (tVar 6) tNil))) (gName 11) tX) (dsC g l t u r (some (iN z)) x11 x12) cs Q := by
  refine ws_for (wl_rng2 (wa_cons (we_var rfl (wa_cons (we_var rfl (wa_nil ⟨_, _, rfl, by omega, ?_⟩))))))
  refine ⟨fun i ds' cs' => ∃ x11 x12, ds' = dsC g l t u r (some (iN z)) x11 x12 ∧ CI l (fun p => S p ∨ p.2.2 = z ∧ (u.1 ≤ p.2.1 ∧ p.2.1 < u.1 + (i : Int)) ∧ r.1 ≤ p.1 ∧ p.1 < r.2) cs', ⟨x11, x12, rfl, ?_⟩, fun _ _ _ _ => srcOk_none, ?_, ?_⟩
  · obtain ⟨c, e, h⟩ := hcs
    exact ⟨c, e, h.congr fun p => ⟨.inl, fun h => h.elim id fun h => by omega⟩⟩
  · rintro i ds' cs' x hx ⟨x11, x12, rfl, hc⟩
    obtain ⟨hi, rfl⟩ := intsFrom_get hx
    refine wg_name (fill_x (fun x h1 h2 => hb _ x (by omega) (by omega) h1 h2) hr hc fun x12 cs hc => ⟨_, x12, rfl, ?_⟩)
    obtain ⟨c, e, h⟩ := hc
    refine ⟨c, e, h.congr fun p => ?_⟩
    constructor
    · rintro ((h | h) | h)
      · exact .inl h
      · exact .inr ⟨h.1, ⟨h.2.1.1, by omega⟩, h.2.2⟩
      · exact .inr ⟨h.1, by omega, h.2.2⟩
    · rintro (h | ⟨h1, h2, h3⟩)
      · exact .inl (.inl h)
      · by_cases e : p.2.1 = u.1 + (i : Int)
        · exact .inr ⟨h1, e, h3⟩
        · exact .inl (.inr ⟨h1, by omega, h3⟩)
  · rintro ds' cs' ⟨x11, x12, rfl, c, rfl, hc⟩
    rw [intsFrom_len] at hc
    refine hP _ _ _ ⟨c, rfl, hc.congr fun p => ?_⟩
    have : u.1 + ((u.2.1 - u.1).toNat : Int) = u.2.1 := by omega
    rw [this]
theorem fill_z {S : Pt → Prop} (hb : ∀ z y x, t.1 ≤ z → z < t.2.1 → u.1 ≤ y → y < u.2.1 → r.1 ≤ x → x < r.2 → inB cAll (x, y, z)) (hr : -20 ≤ r.1 ∧ r.2 ≤ 20 ∧ r.1 < r.2) (hu : -20 ≤ u.1 ∧ u.2.1 ≤ 20 ∧ u.1 < u.2.1) (ht : -20 ≤ t.1 ∧ t.2.1 ≤ 20 ∧ t.1 < t.2.1) {Q : Post} {cs : CS} (hcs : CI l S cs) {x10 x11 x12 : Option SV} (hP : ∀ x10 x11 x12 cs, CI l (fun p => S p ∨ (t.1 ≤ p.2.2 ∧ p.2.2 < t.2.1) ∧ (u.1 ≤ p.2.1 ∧ p.2.1 < u.2.1) ∧ r.1 ≤ p.1 ∧ p.1 < r.2) cs → Q.nx (dsC g l t u r x10 x11 x12) cs) :
    WS K (tFor (iRng2 (tCons (tVar 2) (tCons (tVar 3) tNil))) (gName 10) (tFor (iRng2 (tCons (tVar 5) (tCons (tVar 6) tNil))) (gName 11) tX)) (dsC g l t u r x10 x11 x12) cs Q := by
  refine ws_for (wl_rng2 (wa_cons (we_var rfl (wa_cons (we_var rfl (wa_nil ⟨_, _, rfl, by omega, ?_⟩))))))
  refine ⟨fun i ds' cs' => ∃ x10 x11 x12, ds' = dsC g l t u r x10 x11 x12 ∧ CI l (fun p => S p ∨ (t.1 ≤ p.2.2 ∧ p.2.2 < t.1 + (i : Int)) ∧ (u.1 ≤ p.2.1 ∧ p.2.1 < u.2.1) ∧ r.1 ≤ p.1 ∧ p.1 < r.2) cs', ⟨x10, x11, x12, rfl, ?_⟩, fun _ _ _ _ => srcOk_none, ?_, ?_⟩
  · obtain ⟨c, e, h⟩ := hcs
    exact ⟨c, e, h.congr fun p => ⟨.inl, fun h => h.elim id fun h => by omega⟩⟩
  · rintro i ds' cs' x hx ⟨x10, x11, x12, rfl, hc⟩
    obtain ⟨hi, rfl⟩ := intsFrom_get hx
    refine wg_name (fill_y (fun y x h1 h2 h3 h4 => hb _ y x (by omega) (by omega) h1 h2 h3 h4) hr hu hc fun x11 x12 cs hc => ⟨_, x11, x12, rfl, ?_⟩)
    obtain ⟨c, e, h⟩ := hc
    refine ⟨c, e, h.congr fun p => ?_⟩
    constructor
    · rintro ((h | h) | h)
      · exact .inl h
      · exact .inr ⟨⟨h.1.1, by omega⟩, h.2⟩
      · exact .inr ⟨by omega, h.2⟩
    · rintro (h | ⟨h1, h2⟩)
      · exact .inl (.inl h)
      · by_cases e : p.2.2 = t.1 + (i : Int)
        · exact .inr ⟨e, h2⟩
        · exact .inl (.inr ⟨by omega, h2⟩)
  · rintro ds' cs' ⟨x10, x11, x12, rfl, c, rfl, hc⟩
    rw [intsFrom_len] at hc
    refine hP _ _ _ _ ⟨c, rfl, hc.congr fun p => ?_⟩
    have : t.1 + ((t.2.1 - t.1).toNat : Int) = t.2.1 := by omega
    rw [this]
theorem run_cubes (g : Sol) (hp : WSol g) : WS K (t_law_cubes K) [some (.im (dSol g)), none, none, none, none, none, none, none, none, none, none, none, none] [] (PostF qCub g) := by
  unfold t_law_cubes
  refine ws_seq (ws_set (we_dnewT fun l => ?_))
  refine ws_seq (ws_for (wl_tup (we_var rfl ⟨_, rfl, ?_⟩)))
  refine ⟨fun i ds' cs' => ∃ x2 x3 x4 x5 x6 x7 x8 x9 x10 x11 x12 : Option SV, ds' = [some (.im (dSol g)), some (.raw (.ref l)), x2, x3, x4, x5, x6, x7, x8, x9, x10, x11, x12] ∧ CI l (fun p => mS (g.take i) p) cs', ⟨_, _, _, _, _, _, _, _, _, _, _, rfl, _, rfl, CK.nil.congr fun p => ⟨fun h => h.elim, fun h => absurd h memT_nil⟩⟩, fun _ _ _ _ => srcOk_none, ?_, ?_⟩
  · rintro i ds' cs' x hx ⟨x2, x3, x4, x5, x6, x7, x8, x9, x10, x11, x12, rfl, hc⟩
    rw [List.getElem?_map] at hx
    obtain ⟨t, ht, rfl⟩ := Option.map_eq_some_iff.mp hx
    have tm := List.mem_of_getElem? ht
    have wl := (hp.inn t tm).1
    have b1 := hp.bnd _ (List.mem_map.mpr ⟨t, tm, rfl⟩)
    have n1 := hp.asc.ne _ (List.mem_map.mpr ⟨t, tm, rfl⟩)
    refine wg_tup rfl (wgs_cons (wg_name (wgs_cons (wg_name (wgs_cons (wg_name (wgs_nil ?_)))))))
    refine ws_for (wl_tup (we_var rfl ⟨_, rfl, ?_⟩))
    refine ⟨fun j ds' cs' => ∃ x5 x6 x7 x8 x9 x10 x11 x12 : Option SV, ds' = [some (.im (dSol g)), some (.raw (.ref l)), some (iN t.1), some (iN t.2.1), some (.im (dLay t.2.2)), x5, x6, x7, x8, x9, x10, x11, x12] ∧
      CI l (fun p => mS (g.take i) p ∨ inI (ivT t) p.2.2 ∧ mLay (t.2.2.take j) (p.2.1, p.1)) cs', ⟨_, _, _, _, _, _, _, _, rfl, ?_⟩, fun _ _ _ _ => srcOk_none, ?_, ?_⟩
    · obtain ⟨c, e, h⟩ := hc
      exact ⟨c, e, h.congr fun p => ⟨.inl, fun h => h.elim id fun h => absurd h.2 memT_nil⟩⟩
    · rintro j ds' cs' x hx ⟨x5, x6, x7, x8, x9, x10, x11, x12, rfl, hc⟩
      rw [List.getElem?_map] at hx
      obtain ⟨u, hu, rfl⟩ := Option.map_eq_some_iff.mp hx
      have um := List.mem_of_getElem? hu
      have wr := (wl.inn u um).1
      have b2 := wl.bnd _ (List.mem_map.mpr ⟨u, um, rfl⟩)
      have n2 := wl.asc.ne _ (List.mem_map.mpr ⟨u, um, rfl⟩)
      refine wg_tup rfl (wgs_cons (wg_name (wgs_cons (wg_name (wgs_cons (wg_name (wgs_nil ?_)))))))
      refine ws_for (wl_tup (we_var rfl ⟨_, rfl, ?_⟩))
      refine ⟨fun k ds' cs' => ∃ x8 x9 x10 x11 x12 : Option SV, ds' = [some (.im (dSol g)), some (.raw (.ref l)), some (iN t.1), some (iN t.2.1), some (.im (dLay t.2.2)), some (iN u.1), some (iN u.2.1), some (.im (dRow u.2.2)), x8, x9, x10, x11, x12] ∧
        CI l (fun p => (mS (g.take i) p ∨ inI (ivT t) p.2.2 ∧ mLay (t.2.2.take j) (p.2.1, p.1)) ∨ inI (ivT t) p.2.2 ∧ inI (ivT u) p.2.1 ∧ memR (u.2.2.take k) p.1) cs', ⟨_, _, _, _, _, rfl, ?_⟩, fun _ _ _ _ => srcOk_none, ?_, ?_⟩
      · obtain ⟨c, e, h⟩ := hc
        exact ⟨c, e, h.congr fun p => ⟨.inl, fun h => h.elim id fun h => absurd h.2.2 (memR_nil _)⟩⟩
      · rintro k ds' cs' x hx ⟨x8, x9, x10, x11, x12, rfl, hc⟩
        rw [List.getElem?_map] at hx
        obtain ⟨r, hr, rfl⟩ := Option.map_eq_some_iff.mp hx
        have rm := List.mem_of_getElem? hr
        have b3 := wr.bnd r rm
        have n3 := wr.asc.ne r rm
        simp only at b1 b2 b3 n1 n2 n3
        refine wg_tup rfl (wgs_cons (wg_name (wgs_cons (wg_name (wgs_nil ?_)))))
        refine fill_z (g := g) (l := l) (t := t) (u := u) (r := r) (fun z y x h1 h2 h3 h4 h5 h6 => mS_all hp (p := (x, y, z)) ⟨t, tm, ⟨h1, h2⟩, u, um, ⟨h3, h4⟩, r, rm, h5, h6⟩) ⟨b3.1, b3.2, n3⟩ ⟨b2.1, b2.2, n2⟩ ⟨b1.1, b1.2, n1⟩ hc fun x10 x11 x12 cs hc => ⟨_, _, x10, x11, x12, rfl, ?_⟩
        obtain ⟨c, e, h⟩ := hc
        refine ⟨c, e, h.congr fun p => ?_⟩
        rw [take_snoc hr]
        constructor
        · rintro ((h | h) | h)
          · exact .inl h
          · obtain ⟨h1, h2, q, hq, h3⟩ := h
            exact .inr ⟨h1, h2, q, List.mem_append_left _ hq, h3⟩
          · exact .inr ⟨h.1, h.2.1, r, List.mem_append_right _ (List.mem_singleton.mpr rfl), h.2.2⟩
        · rintro (h | ⟨h1, h2, q, hq, h3⟩)
          · exact .inl (.inl h)
          · rcases List.mem_append.mp hq with hq | hq
            · exact .inl (.inr ⟨h1, h2, q, hq, h3⟩)
            · rw [List.mem_singleton.mp hq] at h3
              exact .inr ⟨h1, h2, h3⟩
      · rintro ds' cs' ⟨x8, x9, x10, x11, x12, rfl, hc⟩
        refine ⟨_, _, _, _, _, _, _, _, rfl, ?_⟩
        rw [List.length_map, List.take_length] at hc
        obtain ⟨c, e, h⟩ := hc
        refine ⟨c, e, h.congr fun p => ?_⟩
        rw [take_snoc hu]
        constructor
        · rintro ((h | h) | h)
          · exact .inl h
          · obtain ⟨h1, v, hv, h2⟩ := h
            exact .inr ⟨h1, v, List.mem_append_left _ hv, h2⟩
          · exact .inr ⟨h.1, u, List.mem_append_right _ (List.mem_singleton.mpr rfl), h.2⟩
        · rintro (h | ⟨h1, v, hv, h2⟩)
          · exact .inl (.inl h)
          · rcases List.mem_append.mp hv with hv | hv
            · exact .inl (.inr ⟨h1, v, hv, h2⟩)
            · rw [List.mem_singleton.mp hv] at h2
              exact .inr ⟨h1, h2⟩
    · rintro ds' cs' ⟨x5, x6, x7, x8, x9, x10, x11, x12, rfl, hc⟩
      refine ⟨_, _, _, _, _, _, _, _, _, _, _, rfl, ?_⟩
      rw [List.length_map, List.take_length] at hc
      obtain ⟨c, e, h⟩ := hc
      refine ⟨c, e, h.congr fun p => ?_⟩
      rw [take_snoc ht]
      constructor
      · rintro (h | h)
        · obtain ⟨v, hv, h2⟩ := h
          exact ⟨v, List.mem_append_left _ hv, h2⟩
        · exact ⟨t, List.mem_append_right _ (List.mem_singleton.mpr rfl), h⟩
      · rintro ⟨v, hv, h2⟩
        rcases List.mem_append.mp hv with hv | hv
        · exact .inl ⟨v, hv, h2⟩
        · rw [List.mem_singleton.mp hv] at h2
          exact .inr h2
  · rintro ds' cs' ⟨x2, x3, x4, x5, x6, x7, x8, x9, x10, x11, x12, rfl, hc⟩
    rw [List.length_map, List.take_length] at hc
    obtain ⟨c, rfl, h⟩ := hc
    exact ws_ret (we_var rfl ⟨_, ⟨c, rfl, h⟩, l, rfl, 0, rfl⟩)
theorem fn_cubes (F : FnP K "_law_cubes" s_law_cubes f fd) (m1 : mg "range" = none) : FnOk P w K mg base CX0 1 f fd ["_law_solid_here"] (spCub K) :=
  fn_F F sc_law_cubes (fun cdv A outer s H E hr => der_law_cubes m1 hr) (fun _ => rfl) fun g hp => run_cubes g hp
end
end Sw
set_option Elab.async false
set_option linter.all false
set_option maxRecDepth 100000
set_option maxHeartbeats 4000000
set_option autoImplicit false
namespace Sw
open PySem PySem.Spec PyProof.Rows L2
local macro_rules | `(tactic| walk_at "wp1") => `(tactic| first
  | with_reducible refine ws_seq ?_
  | with_reducible refine ws_par ?_
  | with_reducible refine ws_par3 ?_
  | with_reducible refine ws_set ?_
  | with_reducible refine ws_ret ?_
  | with_reducible refine ws_drop ?_
  | with_reducible refine ws_if ?_
  | with_reducible refine ws_next ?_
  | ((with_reducible refine' we_var ?hv ?_); (case hv => rfl))
  | with_reducible refine we_int ?_
  | with_reducible refine we_bl ?_
  | with_reducible refine we_str ?_
  | with_reducible refine we_non ?_
  | with_reducible refine we_raw ?_
  | with_reducible refine we_op ?_
  | with_reducible refine we_neg ?_
  | with_reducible refine we_tup ?_
  | with_reducible refine we_lst ?_
  | with_reducible refine we_cb ?_
  | with_reducible refine we_call ?_
  | with_reducible refine we_callC ?_
  | with_reducible refine we_if ?_
  | with_reducible refine we_and ?_
  | with_reducible refine we_or ?_
  | with_reducible refine we_not ?_
  | with_reducible refine we_chain ?_
  | with_reducible refine we_sl ?_
  | with_reducible refine wo_none ?_
  | with_reducible refine wo_some ?_
  | with_reducible refine wa_nil ?_
  | with_reducible refine wa_cons ?_
  | with_reducible refine wt_test ?_
  | with_reducible refine wt_B ?_
  | with_reducible refine wt_and ?_
  | with_reducible refine wt_or ?_
  | with_reducible refine wt_not ?_
  | with_reducible refine wt_yes ?_
  | with_reducible refine wr_add ?_
  | with_reducible refine wr_sub ?_
  | with_reducible refine wr_lt ?_
  | with_reducible refine wr_le ?_
  | with_reducible refine wr_gt ?_
  | with_reducible refine wr_eqI ?_
  | with_reducible refine wr_eqB ?_
  | with_reducible refine wr_eqS ?_
  | with_reducible refine wc_lenL ?_
  | with_reducible refine wc_lenT ?_
  | with_reducible refine wc_tupL ?_
  | ((with_reducible refine' wr_ixT ?hx ?_); (case hx => rfl))
  | with_reducible refine wg_name ?_
  | ((with_reducible refine' wg_tup ?hl ?_); (case hl => rfl))
  | with_reducible refine wgs_nil ?_
  | with_reducible refine wgs_cons ?_
  | refine ⟨_, rfl, ?_⟩
  | refine ⟨Nat.le_of_ble_eq_true rfl, ?_⟩
  | refine ⟨_, _, rfl, ?_⟩
  | refine ⟨_, _, _, rfl, ?_⟩
  | fail "no step")
local macro_rules | `(tactic| walk_at "wp") => `(tactic| repeat' walk_at "wp1")

/-! ### _law_at, _law_hits, _law_next_to, _law_is_in, _law_solid -/
section
variable {P : Program} {w : World} {K : PySem.W.Frag} {mg : Str → Option Value} {base : Heap} {f : Addr} {fd : FuncData}
abbrev GAt := List Pt × Pt
abbrev aAt (g : GAt) : List SV := [.im (.list (g.1.map d3)), .im (d3 g.2)]
abbrev qAt (g : GAt) (r : Ret) : Prop := r = .im (.list ((g.1.map fun q => padd q g.2).map d3))
abbrev spAt (K : PySem.W.Frag) : Sp := SpF K aAt (fun g => g.1.length ≤ 68921) qAt
theorem run_at (g : GAt) (hp : g.1.length ≤ 68921) : WS K (t_law_at K) [some (.im (.list (g.1.map d3))), some (.im (d3 g.2)), none, none, none, none, none, none] [] (PostF qAt g) := by
  obtain ⟨ys, q⟩ := g
  unfold t_law_at
  refine ws_seq (ws_asg (we_var rfl (wg_tup rfl (wgs_cons (wg_name (wgs_cons (wg_name (wgs_cons (wg_name (wgs_nil ?_))))))))))
  refine ws_ret (we_map (l := ys) (e := d3) (F := fun p => d3 (padd p q)) (gk_tup (gks_cons (by simp) (gks_cons (by simp) (gks_cons (by simp) gks_nil)))) (by have : ys.length ≤ 68921 := hp; omega) (wl_list (we_var rfl ⟨_, rfl, rfl, srcOk_none, rfl⟩)) (fun p hp => ?_) (.inl ⟨_, rfl, ?_⟩))
  · refine wg_tup rfl (wgs_cons (wg_name (wgs_cons (wg_name (wgs_cons (wg_name (wgs_nil ⟨rfl, ?_⟩)))))))
    refine we_tup (wa_cons (we_op (we_var rfl (we_var rfl (wr_add ?_)))))
    refine wa_cons (we_op (we_var rfl (we_var rfl (wr_add ?_))))
    refine wa_cons (we_op (we_var rfl (we_var rfl (wr_add (wa_nil ⟨_, rfl, Nat.le_of_ble_eq_true rfl, rfl, rfl⟩)))))
  · show SV.im (.list (ys.map fun p => d3 (padd p q))) = SV.im (.list ((ys.map fun p => padd p q).map d3))
    rw [List.map_map]
    rfl
theorem fn_at (F : FnP K "_law_at" s_law_at f fd) : FnOk P w K mg base CX0 1 f fd ["_law_cubes_here", "_law_place"] (spAt K) :=
  fn_F F sc_law_at (fun cdv A outer s H E hr => der_law_at hr) (fun _ => rfl) fun g hp => run_at g hp
/-! hits -/
structure GHit where
  ys : List Pt
  q : Pt
  c : Cell
  S : Pt → Prop
abbrev qHit (g : GHit) (r : Ret) (c' : Cell) : Prop := c' = g.c ∧ ∃ b, r = .im (.bool b) ∧ (b = true ↔ ∃ p ∈ g.ys, g.S (padd p g.q))
abbrev spHit (K : PySem.W.Frag) : Sp := SpC K (fun (g : GHit) l => [.im (.list (g.ys.map d3)), .im (d3 g.q), .raw (.ref l)]) (fun g => CK g.S g.c) (fun g => g.c) qHit
theorem run_hits (g : GHit) (l : Addr) (hp : CK g.S g.c) : WS K (t_law_hits K) [some (.im (.list (g.ys.map d3))), some (.im (d3 g.q)), some (.raw (.ref l)), none, none, none, none, none, none] [(l, g.c)] { nx := fun _ cs => ∃ c' cs', cs = (l, c') :: cs' ∧ qHit g (.im .none) c', rt := fun sv cs => ∃ r c' cs', cs = (l, c') :: cs' ∧ qHit g r c' ∧ RetOf r sv cs' } := by
  obtain ⟨ys, q, c, S⟩ := g
  unfold t_law_hits
  refine ws_seq (ws_asg (we_var rfl (wg_tup rfl (wgs_cons (wg_name (wgs_cons (wg_name (wgs_cons (wg_name (wgs_nil ?_))))))))))
  refine ws_seq (ws_for (wl_list (we_var rfl ⟨_, rfl, ?_⟩)))
  refine ⟨fun i ds' cs' => ∃ x6 x7 x8 : Option SV, ds' = [some (.im (.list (ys.map d3))), some (.im (d3 q)), some (.raw (.ref l)), some (iN q.1), some (iN q.2.1), some (iN q.2.2), x6, x7, x8] ∧ cs' = [(l, c)] ∧ ∀ p ∈ ys.take i, ¬ S (padd p q), ⟨_, _, _, rfl, rfl, fun p h => (by simp at h)⟩, fun _ _ _ _ => srcOk_none, ?_, ?_⟩
  · rintro i ds' cs' x hx ⟨x6, x7, x8, rfl, rfl, hn⟩
    rw [List.getElem?_map] at hx
    obtain ⟨p, hi, rfl⟩ := Option.map_eq_some_iff.mp hx
    have hp' : CK S c := hp
    obtain ⟨kvs, ks, rfl, hk, _, _, _⟩ := hp'.ks
    refine wg_tup rfl (wgs_cons (wg_name (wgs_cons (wg_name (wgs_cons (wg_name (wgs_nil ?_)))))))
    refine ws_if (wt_test (we_op (we_tup (wa_cons (we_op (we_var rfl (we_var rfl (wr_add ?_))))))))
    refine wa_cons (we_op (we_var rfl (we_var rfl (wr_add ?_))))
    refine wa_cons (we_op (we_var rfl (we_var rfl (wr_add (wa_nil ⟨_, rfl, Nat.le_of_ble_eq_true rfl, we_var rfl ?_⟩)))))
    refine wr_inDT (k := key3 (padd p q)) (j := 0) rfl rfl ⟨_, rfl, fun e => ?_, fun e => ?_⟩
    · refine ws_ret (we_bl ⟨.im (.bool true), _, _, rfl, ⟨rfl, true, rfl, fun _ => ⟨p, List.mem_of_getElem? hi, (hp'.some _).mp e⟩, fun _ => rfl⟩, rfl⟩)
    · refine ws_next ⟨_, _, _, rfl, rfl, fun p' h => ?_⟩
      rw [take_snoc hi] at h
      rcases List.mem_append.mp h with h | h
      · exact hn p' h
      · rw [List.mem_singleton.mp h]
        intro hs
        rw [(hp'.some _).mpr hs] at e
        cases e
  · rintro ds' cs' ⟨x6, x7, x8, rfl, rfl, hn⟩
    rw [List.length_map, List.take_length] at hn
    refine ws_ret (we_bl ⟨.im (.bool false), _, _, rfl, ⟨rfl, false, rfl, fun h => (by cases h), fun ⟨p, h1, h2⟩ => absurd h2 (hn p h1)⟩, rfl⟩)
theorem fn_hits (F : FnP K "_law_hits" s_law_hits f fd) : FnOk P w K mg base CX0 1 f fd ["_law_cubes_here", "_law_place", "_law_others"] (spHit K) :=
  fn_C F sc_law_hits (fun cdv A outer s H E hr => der_law_hits hr) (fun _ _ => rfl) fun g l hp => run_hits g l hp
/-! next_to -/
abbrev near (p : Pt) : List Pt := [(p.1 - 1, p.2.1, p.2.2), (p.1 + 1, p.2.1, p.2.2), (p.1, p.2.1 - 1, p.2.2), (p.1, p.2.1 + 1, p.2.2), (p.1, p.2.1, p.2.2 - 1), (p.1, p.2.1, p.2.2 + 1)]
abbrev qNear (p : Pt) (r : Ret) : Prop := r = .cel (.lst ((near p).map d3))
abbrev spNear (K : PySem.W.Frag) : Sp := SpF K (fun p : Pt => [.im (d3 p)]) (fun _ => True) qNear
theorem run_near (p : Pt) : WS K (t_law_next_to K) [some (.im (d3 p)), none, none, none] [] (PostF qNear p) := by
  unfold t_law_next_to
  refine ws_seq (ws_asg (we_var rfl (wg_tup rfl (wgs_cons (wg_name (wgs_cons (wg_name (wgs_cons (wg_name (wgs_nil ?_))))))))))
  refine ws_ret (we_lst ?_)
  refine wa_cons (we_tup (wa_cons (we_op (we_var rfl (we_int (wr_sub (wa_cons (we_var rfl (wa_cons (we_var rfl (wa_nil ⟨_, rfl, Nat.le_of_ble_eq_true rfl, ?_⟩)))))))))))
  refine wa_cons (we_tup (wa_cons (we_op (we_var rfl (we_int (wr_add (wa_cons (we_var rfl (wa_cons (we_var rfl (wa_nil ⟨_, rfl, Nat.le_of_ble_eq_true rfl, ?_⟩)))))))))))
  refine wa_cons (we_tup (wa_cons (we_var rfl (wa_cons (we_op (we_var rfl (we_int (wr_sub (wa_cons (we_var rfl (wa_nil ⟨_, rfl, Nat.le_of_ble_eq_true rfl, ?_⟩)))))))))))
  refine wa_cons (we_tup (wa_cons (we_var rfl (wa_cons (we_op (we_var rfl (we_int (wr_add (wa_cons (we_var rfl (wa_nil ⟨_, rfl, Nat.le_of_ble_eq_true rfl, ?_⟩)))))))))))
  refine wa_cons (we_tup (wa_cons (we_var rfl (wa_cons (we_var rfl (wa_cons (we_op (we_var rfl (we_int (wr_sub (wa_nil ⟨_, rfl, Nat.le_of_ble_eq_true rfl, ?_⟩)))))))))))
  refine wa_cons (we_tup (wa_cons (we_var rfl (wa_cons (we_var rfl (wa_cons (we_op (we_var rfl (we_int (wr_add (wa_nil ⟨_, rfl, Nat.le_of_ble_eq_true rfl, ?_⟩)))))))))))
  exact wa_nil ⟨_, rfl, Nat.le_of_ble_eq_true rfl, .inr fun l => ⟨_, rfl, l, rfl, 0, rfl⟩⟩
theorem fn_near (F : FnP K "_law_next_to" s_law_next_to f fd) : FnOk P w K mg base CX0 1 f fd ["_law_place"] (spNear K) :=
  fn_F F sc_law_next_to (fun cdv A outer s H E hr => der_law_next_to hr) (fun _ => rfl) fun g hp => run_near g
/-! is_in -/
abbrev qIn (g : Mac × Pt) (r : Ret) : Prop := ∃ b, r = .im (.bool b) ∧ (b = true ↔ (g.1.low.1 ≤ g.2.1 ∧ g.2.1 ≤ g.1.high.1) ∧ (g.1.low.2.1 ≤ g.2.2.1 ∧ g.2.2.1 ≤ g.1.high.2.1) ∧ g.1.low.2.2 ≤ g.2.2.2 ∧ g.2.2.2 ≤ g.1.high.2.2)
abbrev spIn (K : PySem.W.Frag) : Sp := SpF K (fun g : Mac × Pt => [.im (dMac g.1), .im (d3 g.2)]) (fun _ => True) qIn
theorem in_body {ds : DS} {Q : Post} {a b c : Int} (h2 : ds[2]? = some (some (iN a))) (h3 : ds[3]? = some (some (iN b))) (h4 : ds[4]? = some (some (iN c))) (no : ¬ (a ≤ b ∧ b ≤ c) → Q.rt (bB false) []) (yes : a ≤ b ∧ b ≤ c → Q.nx ds []) :
    WS K (tIfS (tNot (tTest (tChain rLeI rLeI (tVar 2) (tVar 3) (tVar 4)))) (tRet (tC (.bl false))) tNext) ds [] Q := by
  refine ws_if (wt_not (wt_test (we_chain (we_var h2 (we_var h3 (wr_le ⟨_, rfl, fun e => ?_, fun e => ?_⟩))))))
  · have e1 := of_decide_eq_true e
    refine we_var h4 (wr_le ⟨_, rfl, fun e => ?_, fun e => ?_⟩)
    · have e2 : ¬ b ≤ c := by simpa using e
      exact ws_ret (we_bl (no fun h => e2 h.2))
    · have e2 : b ≤ c := by simpa using e
      exact ws_next (yes ⟨e1, e2⟩)
  · have e1 := of_decide_eq_false e
    refine ⟨_, rfl, fun _ => ws_ret (we_bl (no fun h => e1 h.1)), fun e => (by cases e)⟩
theorem run_is_in (g : Mac × Pt) : WS K (t_law_is_in K) [some (.im (dMac g.1)), some (.im (d3 g.2)), none, none, none] [] (PostF qIn g) := by
  obtain ⟨m, p⟩ := g
  unfold t_law_is_in
  refine ws_seq (ws_for (wl_zip3 (wa_cons (we_op (we_var rfl (we_int (wr_ixT (atI_nat (j := 0) rfl) ?_)))))))
  refine wa_cons (we_var rfl (wa_cons (we_op (we_var rfl (we_int (wr_ixT (atI_nat (j := 1) rfl) (wa_nil ⟨_, _, _, rfl, rfl, rfl, ?_⟩)))))))
  refine ⟨fun i ds' cs' => ∃ x2 x3 x4 : Option SV, ds' = [some (.im (dMac m)), some (.im (d3 p)), x2, x3, x4] ∧ cs' = [] ∧ (0 < i → m.low.1 ≤ p.1 ∧ p.1 ≤ m.high.1) ∧ (1 < i → m.low.2.1 ≤ p.2.1 ∧ p.2.1 ≤ m.high.2.1) ∧ (2 < i → m.low.2.2 ≤ p.2.2 ∧ p.2.2 ≤ m.high.2.2), ⟨_, _, _, rfl, rfl, fun h => (by omega), fun h => (by omega), fun h => (by omega)⟩, fun _ _ _ _ => srcOk_none, ?_, ?_⟩
  · rintro i ds' cs' x hx ⟨x2, x3, x4, rfl, rfl, g0, g1, g2⟩
    match i, hx with
    | 0, hx =>
      cases hx
      refine wg_tup rfl (wgs_cons (wg_name (wgs_cons (wg_name (wgs_cons (wg_name (wgs_nil ?_)))))))
      exact in_body rfl rfl rfl (fun no => ⟨.im (.bool false), ⟨false, rfl, fun h => (by cases h), fun h => absurd h.1 no⟩, rfl⟩) fun y => ⟨_, _, _, rfl, rfl, fun _ => y, fun h => (by omega), fun h => (by omega)⟩
    | 1, hx =>
      cases hx
      refine wg_tup rfl (wgs_cons (wg_name (wgs_cons (wg_name (wgs_cons (wg_name (wgs_nil ?_)))))))
      exact in_body rfl rfl rfl (fun no => ⟨.im (.bool false), ⟨false, rfl, fun h => (by cases h), fun h => absurd h.2.1 no⟩, rfl⟩) fun y => ⟨_, _, _, rfl, rfl, fun _ => g0 (by omega), fun _ => y, fun h => (by omega)⟩
    | 2, hx =>
      cases hx
      refine wg_tup rfl (wgs_cons (wg_name (wgs_cons (wg_name (wgs_cons (wg_name (wgs_nil ?_)))))))
      exact in_body rfl rfl rfl (fun no => ⟨.im (.bool false), ⟨false, rfl, fun h => (by cases h), fun h => absurd h.2.2 no⟩, rfl⟩) fun y => ⟨_, _, _, rfl, rfl, fun _ => g0 (by omega), fun _ => g1 (by omega), fun _ => y⟩
    | n + 3, hx => cases hx
  · rintro ds' cs' ⟨x2, x3, x4, rfl, rfl, g0, g1, g2⟩
    refine ws_ret (we_bl ⟨.im (.bool true), ⟨true, rfl, fun _ => ⟨g0 (Nat.lt_of_sub_eq_succ rfl), g1 (Nat.lt_of_sub_eq_succ rfl), g2 (Nat.lt_of_sub_eq_succ rfl)⟩, fun _ => rfl⟩, rfl⟩)
theorem fn_is_in (F : FnP K "_law_is_in" s_law_is_in f fd) (m1 : mg "zip" = none) : FnOk P w K mg base CX0 1 f fd ["_law_machine", "_law_place"] (spIn K) :=
  fn_F F sc_law_is_in (fun cdv A outer s H E hr => der_law_is_in m1 hr) (fun _ => rfl) fun g hp => run_is_in g
/-! solid -/
abbrev qSd (g : Cell × (Pt → Prop)) (r : Ret) (c' : Cell) : Prop := c' = g.1 ∧ ∃ z : Sol, r = .im (dSol z) ∧ WSol z ∧ ∀ p, mS z p ↔ g.2 p
abbrev spSd (K : PySem.W.Frag) : Sp := SpC K (fun (_ : Cell × (Pt → Prop)) l => [.raw (.ref l)]) (fun g => CK g.2 g.1) (fun g => g.1) qSd
theorem run_solid (g : Cell × (Pt → Prop)) (l : Addr) (hp : CK g.2 g.1) : WS K (t_law_solid K (spBox K) (spUnion K)) [some (.raw (.ref l)), none, none, none, none] [(l, g.1)] { nx := fun _ cs => ∃ c' cs', cs = (l, c') :: cs' ∧ qSd g (.im .none) c', rt := fun sv cs => ∃ r c' cs', cs = (l, c') :: cs' ∧ qSd g r c' ∧ RetOf r sv cs' } := by
  obtain ⟨c, S⟩ := g
  obtain ⟨kvs, ks, rfl, hk, l1, l2, hm⟩ := CK.ks hp
  have hin : ∀ p, S p → inB cAll p := fun p hs => by
    obtain ⟨kvs', e, nd, h1, h2⟩ := hp
    obtain ⟨q, e, h, _⟩ := h1 _ (h2 p hs)
    rw [key3_inj e]
    exact h
  unfold t_law_solid
  refine ws_seq (ws_set (we_tup (wa_nil ⟨[], rfl, Nat.zero_le _, ?_⟩)))
  refine ws_seq (ws_for (wl_list (we_cb (wa_cons (we_var rfl (wa_nil (wc_sortedDT (j := 0) rfl hk fun ys py => .inl ⟨_, rfl, ?_⟩)))))))
  refine ⟨fun i ds' cs' => ∃ (z : Sol) (x2 x3 x4 : Option SV), ds' = [some (.raw (.ref l)), some (.im (dSol z)), x2, x3, x4] ∧ cs' = [(l, .dt kvs)] ∧ WSol z ∧ ∀ p, mS z p ↔ p ∈ ys.take i, ⟨[], _, _, _, rfl, rfl, WFT.nil, fun p => ⟨fun h => absurd h memT_nil, fun h => (by simp at h)⟩⟩, fun _ _ _ _ => srcOk_none, ?_, ?_⟩
  · rintro i ds' cs' x hx ⟨z, x2, x3, x4, rfl, rfl, wz, mz⟩
    rw [List.getElem?_map] at hx
    obtain ⟨p, hi, rfl⟩ := Option.map_eq_some_iff.mp hx
    obtain ⟨⟨a1, a2⟩, ⟨a3, a4⟩, a5, a6⟩ := hin p ((hm p).mp (py.mem_iff.mp (List.mem_of_getElem? hi)))
    simp only at a1 a2 a3 a4 a5 a6
    refine wg_tup rfl (wgs_cons (wg_name (wgs_cons (wg_name (wgs_cons (wg_name (wgs_nil ?_)))))))
    refine ws_set (we_call (wa_cons (we_var rfl (wa_cons (we_call (wa_cons (we_tup (wa_cons (we_var rfl (wa_cons (we_var rfl (wa_cons (we_var rfl (wa_nil ⟨_, rfl, Nat.le_of_ble_eq_true rfl, ?_⟩))))))))))))))
    refine wa_cons (we_tup (wa_cons (we_op (we_var rfl (we_int (wr_add ?_))))))
    refine wa_cons (we_op (we_var rfl (we_int (wr_add ?_))))
    refine wa_cons (we_op (we_var rfl (we_int (wr_add (wa_nil ⟨_, rfl, Nat.le_of_ble_eq_true rfl, ?_⟩)))))
    refine wa_nil ⟨((p.1, p.2.1, p.2.2), (p.1 + 1, p.2.1 + 1, p.2.2 + 1)), rfl, bx_in (by omega) (by omega) (by omega), fun r hr => ?_⟩
    obtain ⟨b, rfl, wb, mb⟩ := hr
    refine wa_nil ⟨(z, b), rfl, ⟨wz, wb⟩, fun r hr => ?_⟩
    obtain ⟨u, rfl, wu, mu⟩ := hr
    refine ⟨u, _, _, _, rfl, rfl, wu, fun q => ?_⟩
    have hu : mS u q ↔ mS z q ∨ mS b q := mu (q.2.2, q.2.1, q.1)
    rw [hu, mz, mb, take_snoc hi, List.mem_append, List.mem_singleton]
    constructor
    · rintro (h | ⟨⟨h1, h2⟩, ⟨h3, h4⟩, h5, h6⟩)
      · exact .inl h
      · simp only at h1 h2 h3 h4 h5 h6
        exact .inr (Prod.ext (by omega) (Prod.ext (by omega) (by omega)))
    · rintro (h | rfl)
      · exact .inl h
      · exact .inr ⟨⟨Int.le_refl _, Int.lt_succ _⟩, ⟨Int.le_refl _, Int.lt_succ _⟩, Int.le_refl _, Int.lt_succ _⟩
  · rintro ds' cs' ⟨z, x2, x3, x4, rfl, rfl, wz, mz⟩
    rw [List.length_map, List.take_length] at mz
    exact ws_ret (we_var rfl ⟨_, _, _, rfl, ⟨rfl, z, rfl, wz, fun p => (mz p).trans (py.mem_iff.trans (hm p))⟩, rfl⟩)
theorem fn_solid (F : FnP K "_law_solid" s_law_solid f fd) (c1 : Cl P w K mg base 1 "box" (spBox K)) (c2 : Cl P w K mg base 7 "union" (spUnion K)) (m1 : mg "sorted" = none) : FnOk P w K mg base CX0 8 f fd ["_law_cubes_here"] (spSd K) :=
  fn_C F sc_law_solid (fun cdv A outer s H E hr => der_law_solid c1 c2 m1 hr) (fun _ _ => rfl) fun g l hp => run_solid g l hp
end
end Sw
set_option Elab.async false
set_option linter.all false
set_option maxRecDepth 100000
set_option maxHeartbeats 4000000
set_option autoImplicit false
namespace Sw
open PySem PySem.Spec PyProof.Rows L2
local macro_rules | `(tactic| walk_at "wp1") => `(tactic| first
  | with_reducible refine ws_seq ?_
  | with_reducible refine ws_par ?_
  | with_reducible refine ws_par3 ?_
  | with_reducible refine ws_set ?_
  | with_reducible refine ws_ret ?_
  | with_reducible refine ws_drop ?_
  | with_reducible refine ws_if ?_
  | with_reducible refine ws_next ?_
  | ((with_reducible refine' we_var ?hv ?_); (case hv => rfl))
  | with_reducible refine we_int ?_
  | with_reducible refine we_bl ?_
  | with_reducible refine we_str ?_
  | with_reducible refine we_non ?_
  | with_reducible refine we_raw ?_
  | with_reducible refine we_op ?_
  | with_reducible refine we_neg ?_
  | with_reducible refine we_tup ?_
  | with_reducible refine we_lst ?_
  | with_reducible refine we_cb ?_
  | with_reducible refine we_call ?_
  | with_reducible refine we_callC ?_
  | with_reducible refine we_if ?_
  | with_reducible refine we_and ?_
  | with_reducible refine we_or ?_
  | with_reducible refine we_not ?_
  | with_reducible refine we_chain ?_
  | with_reducible refine we_sl ?_
  | with_reducible refine wo_none ?_
  | with_reducible refine wo_some ?_
  | with_reducible refine wa_nil ?_
  | with_reducible refine wa_cons ?_
  | with_reducible refine wt_test ?_
  | with_reducible refine wt_B ?_
  | with_reducible refine wt_and ?_
  | with_reducible refine wt_or ?_
  | with_reducible refine wt_not ?_
  | with_reducible refine wt_yes ?_
  | with_reducible refine wr_add ?_
  | with_reducible refine wr_sub ?_
  | with_reducible refine wr_lt ?_
  | with_reducible refine wr_le ?_
  | with_reducible refine wr_gt ?_
  | with_reducible refine wr_eqI ?_
  | with_reducible refine wr_eqB ?_
  | with_reducible refine wr_eqS ?_
  | with_reducible refine wc_lenL ?_
  | with_reducible refine wc_lenT ?_
  | with_reducible refine wc_tupL ?_
  | ((with_reducible refine' wr_ixT ?hx ?_); (case hx => rfl))
  | with_reducible refine wg_name ?_
  | ((with_reducible refine' wg_tup ?hl ?_); (case hl => rfl))
  | with_reducible refine wgs_nil ?_
  | with_reducible refine wgs_cons ?_
  | refine ⟨_, rfl, ?_⟩
  | refine ⟨Nat.le_of_ble_eq_true rfl, ?_⟩
  | refine ⟨_, _, rfl, ?_⟩
  | refine ⟨_, _, _, rfl, ?_⟩
  | fail "no step")
local macro_rules | `(tactic| walk_at "wp") => `(tactic| repeat' walk_at "wp1")

/-! ### law -/
section
variable {P : Program} {w : World} {K : PySem.W.Frag} {mg : Str → Option Value} {base : Heap} {f : Addr} {fd : FuncData}
theorem padd_comm (p q : Pt) : padd p q = padd q p := Prod.ext (Int.add_comm _ _) (Prod.ext (Int.add_comm _ _) (Int.add_comm _ _))
abbrev dsL (x0 : Option SV) (l : Addr) (j : Jb) (R : Sol) (d : PyData) (left : Sol) (x6 : Option SV) (s : Stp) (t : Tl) (here : Pt) (ln lsp lf : Addr) (ys zs : List Pt) (way : Pt) (x16 x17 x18 x19 x20 : Option SV) : DS :=
  [x0, some (.raw (.ref l)), some (.im (dJb j)), some (.im (dSol R)), some (.im d), some (.im (dSol left)), x6, some (.im (dStp s)), some (.im (dTl t)), some (.im (d3 here)), some (.raw (.ref ln)), some (.raw (.ref lsp)), some (.raw (.ref lf)), some (.im (.list (ys.map d3))), some (.im (.list (zs.map d3))), some (.im (d3 way)), x16, x17, x18, x19, x20]
abbrev csL (l : Addr) (cells : List Int) (n : Nat) (ln : Addr) (cn : Cell) (lsp : Addr) (cp : Cell) (lf : Addr) (cf : Cell) (rest : CS) : CS := (l, drawC cells n) :: (ln, cn) :: (lsp, cp) :: (lf, cf) :: rest
/-- what the walk of one turn keeps -/
structure Wk (j : Jb) (s : Stp) (t : Tl) (R left L : Sol) (ys zs : List Pt) (cp cf : Cell) : Prop where
  home : mS L home0
  grow : ∀ p q, mS L p → Free j s t R q → Nbr p q → mS L q
  cut : ∀ p, mS R p → ¬ Cuts s t L p
  mys : ∀ p, p ∈ ys ↔ mS t.cut p
  mzs : ∀ p, p ∈ zs ↔ mS t.hold p
  ly : ys.length ≤ 68921
  kcp : CK (fun q => plS s j.wished q) cp
  kcf : CK (mS s.fix) cf
  mac : j.mac.low = (-2, -2, -1) ∧ j.mac.high = (3, 3, 4) ∧ j.mac.home = home0
/-- what is now in the machine -/
def Now (s : Stp) (R left : Sol) (cn : Cell) : Prop := ∃ S : Pt → Prop, CK S cn ∧ (∀ q, plS s R q → S q) ∧ ∀ q, S q → plS s left q
theorem late_free {j : Jb} {s : Stp} {t : Tl} {R left L : Sol} {ys zs : List Pt} {cp cf : Cell} (k : Wk j s t R left L ys zs cp cf) {late : Pt} {S : Pt → Prop} (hS : ∀ q, plS s R q → S q)
    (h1 : (j.mac.low.1 ≤ late.1 ∧ late.1 ≤ j.mac.high.1) ∧ (j.mac.low.2.1 ≤ late.2.1 ∧ late.2.1 ≤ j.mac.high.2.1) ∧ j.mac.low.2.2 ≤ late.2.2 ∧ late.2.2 ≤ j.mac.high.2.2)
    (h2 : ¬ ∃ p ∈ ys, plS s j.wished (padd p late)) (h3 : ¬ ∃ p ∈ ys, mS s.fix (padd p late)) (h4 : ¬ ∃ p ∈ zs, S (padd p late)) (h5 : ¬ ∃ p ∈ zs, mS s.fix (padd p late)) : Free j s t R late := by
  obtain ⟨m1, m2, _⟩ := k.mac
  rw [m1, m2] at h1
  obtain ⟨⟨a1, a2⟩, ⟨a3, a4⟩, a5, a6⟩ := h1
  simp only at a1 a2 a3 a4 a5 a6
  refine ⟨⟨⟨a1, (by show late.1 < 4; omega)⟩, ⟨a3, (by show late.2.1 < 4; omega)⟩, a5, (by show late.2.2 < 5; omega)⟩, fun b hb h => ?_, fun b hb h => ?_⟩
  · have hb' := (k.mys b).mpr hb
    rw [padd_comm] at h
    rcases h with h | h
    · exact h2 ⟨b, hb', h⟩
    · exact h3 ⟨b, hb', h⟩
  · have hb' := (k.mzs b).mpr hb
    rw [padd_comm] at h
    rcases h with h | h
    · exact h4 ⟨b, hb', hS _ h⟩
    · exact h5 ⟨b, hb', h⟩
theorem near_nbr {here q : Pt} (h : q ∈ near (0, 0, 0)) : Nbr here (padd here q) := by
  obtain ⟨a, b, c⟩ := here
  have h' : q = (-1, 0, 0) ∨ q = (1, 0, 0) ∨ q = (0, -1, 0) ∨ q = (0, 1, 0) ∨ q = (0, 0, -1) ∨ q = (0, 0, 1) := by simpa [near] using h
  rcases h' with rfl | rfl | rfl | rfl | rfl | rfl
  · exact .inl ⟨(Int.add_zero _).symm, (Int.add_zero _).symm, .inl (by show a = a + -1 + 1; omega)⟩
  · exact .inl ⟨(Int.add_zero _).symm, (Int.add_zero _).symm, .inr rfl⟩
  · exact .inr (.inl ⟨(Int.add_zero _).symm, (Int.add_zero _).symm, .inl (by show b = b + -1 + 1; omega)⟩)
  · exact .inr (.inl ⟨(Int.add_zero _).symm, (Int.add_zero _).symm, .inr rfl⟩)
  · exact .inr (.inr ⟨(Int.add_zero _).symm, (Int.add_zero _).symm, .inl (by show c = c + -1 + 1; omega)⟩)
  · exact .inr (.inr ⟨(Int.add_zero _).symm, (Int.add_zero _).symm, .inr rfl⟩)
/-- the pops -/
theorem pops {x0 : Option SV} {l ln lsp lf : Addr} {j : Jb} {R left L : Sol} {d : PyData} {x6 x16 x17 x18 x19 x20 : Option SV} {s : Stp} {t : Tl} {here late way : Pt} {ys zs : List Pt} {cn cp cf : Cell} {cells : List Int} {n : Nat} {rest : CS} (k : Wk j s t R left L ys zs cp cf) (hl : mS L late) (hn : Now s R left cn) {Q : Post}
    (hQ : ∀ x18 cn, Now s R left cn → Q.nx (dsL x0 l j R d left x6 s t here ln lsp lf ys zs way x16 (some (.im (d3 late))) x18 x19 x20) (csL l cells n ln cn lsp cp lf cf rest)) :
    WS K (tFor (iList K (tCall (spAt K) [] E0 (tCons (tVar 13) (tCons (tVar 17) tNil)))) (gName 18) (tDrop (tBM K "dict" (rPopTS K) (tVar 10) (tCons (tVar 18) (tCons (tC .non) tNil)))))
      (dsL x0 l j R d left x6 s t here ln lsp lf ys zs way x16 (some (.im (d3 late))) x18 x19 x20) (csL l cells n ln cn lsp cp lf cf rest) Q := by
  refine ws_for (wl_list (we_call (wa_cons (we_var rfl (wa_cons (we_var rfl (wa_nil ⟨(ys, late), rfl, k.ly, fun r hr => ?_⟩)))))))
  obtain rfl := hr
  refine ⟨_, rfl, fun i ds' cs' => ∃ x18 cn, ds' = dsL x0 l j R d left x6 s t here ln lsp lf ys zs way x16 (some (.im (d3 late))) x18 x19 x20 ∧ cs' = csL l cells n ln cn lsp cp lf cf rest ∧ Now s R left cn, ⟨_, cn, rfl, rfl, hn⟩, fun _ _ _ _ => srcOk_none, ?_, ?_⟩
  · rintro i ds' cs' x hx ⟨x18, cn, rfl, rfl, S, hc, h1, h2⟩
    rw [List.map_map, List.getElem?_map] at hx
    obtain ⟨b, hb, rfl⟩ := Option.map_eq_some_iff.mp hx
    have hb' := (k.mys b).mp (List.mem_of_getElem? hb)
    obtain ⟨kvs, ks, rfl, hk, l1, l2, hm⟩ := hc.ks
    refine wg_name (ws_drop (we_popT (we_var rfl ⟨ln, rfl, ⟨1, kvs, rfl⟩, wa_cons (we_var rfl (wa_cons (we_non (wa_nil ⟨1, kvs, key3 (padd b late), .none, rfl, rfl, fun v hv => ?_, fun hv => ?_⟩))))⟩)))
    · refine ⟨_, _, rfl, rfl, _, hc.drop (padd b late), fun q hq => ⟨h1 q hq, fun e => ?_⟩, fun q hq => h2 q hq.1⟩
      obtain ⟨p, e1, hp⟩ := hq
      refine k.cut p hp ⟨late, b, hl, hb', ?_⟩
      rw [e1, e, padd_comm]
    · exact ⟨_, _, rfl, rfl, S, hc, h1, h2⟩
  · rintro ds' cs' ⟨x18, cn, rfl, rfl, hn⟩
    exact hQ _ _ hn
end
end Sw
set_option Elab.async false
set_option linter.all false
set_option maxRecDepth 100000
set_option maxHeartbeats 4000000
set_option autoImplicit false
namespace Sw
open PySem PySem.Spec PyProof.Rows L2
local macro_rules | `(tactic| walk_at "wp1") => `(tactic| first
  | with_reducible refine ws_seq ?_
  | with_reducible refine ws_par ?_
  | with_reducible refine ws_par3 ?_
  | with_reducible refine ws_set ?_
  | with_reducible refine ws_ret ?_
  | with_reducible refine ws_drop ?_
  | with_reducible refine ws_if ?_
  | with_reducible refine ws_next ?_
  | ((with_reducible refine' we_var ?hv ?_); (case hv => rfl))
  | with_reducible refine we_int ?_
  | with_reducible refine we_bl ?_
  | with_reducible refine we_str ?_
  | with_reducible refine we_non ?_
  | with_reducible refine we_raw ?_
  | with_reducible refine we_op ?_
  | with_reducible refine we_neg ?_
  | with_reducible refine we_tup ?_
  | with_reducible refine we_lst ?_
  | with_reducible refine we_cb ?_
  | with_reducible refine we_call ?_
  | with_reducible refine we_callC ?_
  | with_reducible refine we_if ?_
  | with_reducible refine we_and ?_
  | with_reducible refine we_or ?_
  | with_reducible refine we_not ?_
  | with_reducible refine we_chain ?_
  | with_reducible refine we_sl ?_
  | with_reducible refine wo_none ?_
  | with_reducible refine wo_some ?_
  | with_reducible refine wa_nil ?_
  | with_reducible refine wa_cons ?_
  | with_reducible refine wt_test ?_
  | with_reducible refine wt_B ?_
  | with_reducible refine wt_and ?_
  | with_reducible refine wt_or ?_
  | with_reducible refine wt_not ?_
  | with_reducible refine wt_yes ?_
  | with_reducible refine wr_add ?_
  | with_reducible refine wr_sub ?_
  | with_reducible refine wr_lt ?_
  | with_reducible refine wr_le ?_
  | with_reducible refine wr_gt ?_
  | with_reducible refine wr_eqI ?_
  | with_reducible refine wr_eqB ?_
  | with_reducible refine wr_eqS ?_
  | with_reducible refine wc_lenL ?_
  | with_reducible refine wc_lenT ?_
  | with_reducible refine wc_tupL ?_
  | ((with_reducible refine' wr_ixT ?hx ?_); (case hx => rfl))
  | with_reducible refine wg_name ?_
  | ((with_reducible refine' wg_tup ?hl ?_); (case hl => rfl))
  | with_reducible refine wgs_nil ?_
  | with_reducible refine wgs_cons ?_
  | refine ⟨_, rfl, ?_⟩
  | refine ⟨Nat.le_of_ble_eq_true rfl, ?_⟩
  | refine ⟨_, _, rfl, ?_⟩
  | refine ⟨_, _, _, rfl, ?_⟩
  | fail "no step")
local macro_rules | `(tactic| walk_at "wp") => `(tactic| repeat' walk_at "wp1")

/-! ### law: a step, a turn -/
section
variable {P : Program} {w : World} {K : PySem.W.Frag} {mg : Str → Option Value} {base : Heap} {f : Addr} {fd : FuncData}
abbrev tMove (K : PySem.W.Frag) : TS :=
  (tSeq (tAsg (tCB (rTupS K) (tCons (tLc (RZ.iZipA K (tCons (tVar 9) (tCons (tVar 15) tNil))) (gTup K 2 (gCons (gName 19) (gCons (gName 20) gNil))) tYes (tOp rPlus (tVar 19) (tVar 20)) [19, 20]) tNil)) (gName 17))
  (tIfS (tAnd (tB (tCall (spIn K) [] E0 (tCons (tOp (rIxT K) (tVar 2) (tC (.int 3))) (tCons (tVar 17) tNil)))) (tAnd (tNot (tB (tCall (spHit K) [] E0 (tCons (tVar 13) (tCons (tVar 17) (tCons (tVar 11) tNil)))))) (tNot (tB (tCall (spHit K) [] E0 (tCons (tVar 13) (tCons (tVar 17) (tCons (tVar 12) tNil))))))))
  (tIfS (tAnd (tNot (tB (tCall (spHit K) [] E0 (tCons (tVar 14) (tCons (tVar 17) (tCons (tVar 10) tNil)))))) (tNot (tB (tCall (spHit K) [] E0 (tCons (tVar 14) (tCons (tVar 17) (tCons (tVar 12) tNil)))))))
  (tSeq (tAsg (tVar 17) (gName 9))
  (tFor (iList K (tCall (spAt K) [] E0 (tCons (tVar 13) (tCons (tVar 17) tNil)))) (gName 18)
  (tDrop (tBM K "dict" (rPopTS K) (tVar 10) (tCons (tVar 18) (tCons (tC .non) tNil))))))
  tNext)
  tNext))
variable {x0 : Option SV} {l ln lsp lf l4 l5 : Addr} {j : Jb} {R left L : Sol} {d : PyData} {x6 : Option SV} {s : Stp} {t : Tl} {ys zs : List Pt} {cp cf c4 c5 : Cell} {cells : List Int}
abbrev StI (x0 : Option SV) (l ln lsp lf l4 l5 : Addr) (j : Jb) (R left L : Sol) (d : PyData) (x6 : Option SV) (s : Stp) (t : Tl) (ys zs : List Pt) (cp cf c4 c5 : Cell) (cells : List Int) (ds' : DS) (cs' : CS) : Prop :=
  ∃ (n : Nat) (here way : Pt) (cn : Cell) (x16 x17 x18 x19 x20 : Option SV), ds' = dsL x0 l j R d left x6 s t here ln lsp lf ys zs way x16 x17 x18 x19 x20 ∧ cs' = csL l cells n ln cn lsp cp lf cf [(l4, c4), (l5, c5)] ∧ mS L here ∧ way ∈ near (0, 0, 0) ∧ Now s R left cn
theorem run_move (k : Wk j s t R left L ys zs cp cf) {here way : Pt} {cn : Cell} {n : Nat} {x16 x17 x18 x19 x20 : Option SV} (hh : mS L here) (hw : way ∈ near (0, 0, 0)) (hn : Now s R left cn) {Q : Post} (hQ : ∀ ds' cs', StI x0 l ln lsp lf l4 l5 j R left L d x6 s t ys zs cp cf c4 c5 cells ds' cs' → Q.nx ds' cs') :
    WS K (tMove K) (dsL x0 l j R d left x6 s t here ln lsp lf ys zs way x16 x17 x18 x19 x20) (csL l cells n ln cn lsp cp lf cf [(l4, c4), (l5, c5)]) Q := by
  unfold tMove
  refine ws_seq (ws_set (we_cb (wa_cons (we_map (l := [(here.1, way.1), (here.2.1, way.2.1), (here.2.2, way.2.2)]) (e := dP) (F := fun p => .int (p.1 + p.2)) (gk_tup (gks_cons (by simp) (gks_cons (by simp) gks_nil))) (Nat.le_of_ble_eq_true rfl) (wl_zipA (wa_cons (we_var rfl (wa_cons (we_var rfl (wa_nil ⟨_, _, rfl, rfl, srcOk_none, rfl⟩)))))) (fun p hp => wg_tup rfl (wgs_cons (wg_name (wgs_cons (wg_name (wgs_nil ⟨rfl, we_op (we_var rfl (we_var rfl (wr_add ⟨rfl, rfl⟩)))⟩)))))) (.inl (wa_nil (wc_tupL ?_)))))))
  show WS K _ (dsL x0 l j R d left x6 s t here ln lsp lf ys zs way x16 (some (.im (d3 (padd here way)))) x18 x19 x20) _ Q
  have stay : ∀ {cs' : CS}, cs' = csL l cells n ln cn lsp cp lf cf [(l4, c4), (l5, c5)] → WS K tNext (dsL x0 l j R d left x6 s t here ln lsp lf ys zs way x16 (some (.im (d3 (padd here way)))) x18 x19 x20) cs' Q := fun e => by
    subst e
    exact ws_next (hQ _ _ ⟨n, here, way, cn, _, _, _, _, _, rfl, rfl, hh, hw, hn⟩)
  have hn' := hn
  obtain ⟨S, hc, h1, h2⟩ := hn
  refine ws_if (wt_and (wt_B (we_call (wa_cons (we_op (we_var rfl (we_int (wr_ixT (atI_nat (j := 3) rfl) (wa_cons (we_var rfl (wa_nil ⟨(j.mac, padd here way), rfl, trivial, fun r hr => ?_⟩)))))))))) )
  obtain ⟨b1, rfl, hb1⟩ := hr
  refine ⟨b1, rfl, fun e1 => ?_, fun _ => ⟨fun e => (nomatch e), fun _ => stay rfl⟩⟩
  refine wt_and (wt_not (wt_B (we_callC (wa_cons (we_var rfl (wa_cons (we_var rfl (wa_cons (we_var rfl (wa_nil ⟨⟨ys, padd here way, cp, fun q => plS s j.wished q⟩, 2, lsp, rfl, rfl, k.kcp, fun r c' hr => ?_⟩))))))))))
  obtain ⟨ec, b2, rfl, hb2⟩ := hr
  have ec' : cp = c' := ec.symm
  subst ec'
  refine ⟨b2, rfl, fun e2 => ?_, fun _ => ⟨fun e => (nomatch e), fun _ => stay rfl⟩⟩
  refine wt_not (wt_B (we_callC (wa_cons (we_var rfl (wa_cons (we_var rfl (wa_cons (we_var rfl (wa_nil ⟨⟨ys, padd here way, cf, mS s.fix⟩, 3, lf, rfl, rfl, k.kcf, fun r c' hr => ?_⟩)))))))))
  obtain ⟨ec, b3, rfl, hb3⟩ := hr
  have ec' : cf = c' := ec.symm
  subst ec'
  refine ⟨b3, rfl, fun e3 => ?_, fun _ => stay rfl⟩
  refine ws_if (wt_and (wt_not (wt_B (we_callC (wa_cons (we_var rfl (wa_cons (we_var rfl (wa_cons (we_var rfl (wa_nil ⟨⟨zs, padd here way, cn, S⟩, 1, ln, rfl, rfl, hc, fun r c' hr => ?_⟩)))))))))))
  obtain ⟨ec, b4, rfl, hb4⟩ := hr
  have ec' : cn = c' := ec.symm
  subst ec'
  refine ⟨b4, rfl, fun e4 => ?_, fun _ => ⟨fun e => (nomatch e), fun _ => stay rfl⟩⟩
  refine wt_not (wt_B (we_callC (wa_cons (we_var rfl (wa_cons (we_var rfl (wa_cons (we_var rfl (wa_nil ⟨⟨zs, padd here way, cf, mS s.fix⟩, 3, lf, rfl, rfl, k.kcf, fun r c' hr => ?_⟩)))))))))
  obtain ⟨ec, b5, rfl, hb5⟩ := hr
  have ec' : cf = c' := ec.symm
  subst ec'
  refine ⟨b5, rfl, fun e5 => ?_, fun _ => stay rfl⟩
  have no : ∀ {b : Bool} {A : Prop}, (!b) = true → (b = true ↔ A) → ¬ A := fun {b A} e h a => by
    rw [h.mpr a] at e
    cases e
  have fr := late_free k h1 (hb1.mp e1) (no e2 hb2) (no e3 hb3) (no e4 hb4) (no e5 hb5)
  have hl := k.grow here (padd here way) hh fr (near_nbr hw)
  refine ws_seq (ws_set (we_var rfl ?_))
  exact pops (x17 := none) k hl hn' fun x18 cn hn => hQ _ _ ⟨n, padd here way, way, cn, _, _, _, _, _, rfl, rfl, hl, hw, hn⟩
theorem run_steps (k : Wk j s t R left L ys zs cp cf) {here way : Pt} {cn : Cell} {n : Nat} {x16 x17 x18 x19 x20 : Option SV} (hh : mS L here) (hw : way ∈ near (0, 0, 0)) (hn : Now s R left cn) {Q : Post} (hQ : ∀ ds' cs', StI x0 l ln lsp lf l4 l5 j R left L d x6 s t ys zs cp cf c4 c5 cells ds' cs' → Q.nx ds' cs') :
    WS K (tFor (iRng1 (tCons (tC (.int 60)) tNil)) (gName 16)
  (tSeq (tIfS (tTest (tOp rEq (tCall (spNext K) [] E0 (tCons (tVar 1) (tCons (tC (.int 3)) tNil))) (tC (.int 0))))
  (tAsg (tCall (spPick K) [] E0 (tCons (tVar 1) (tCons (tOp rCat (tLst (tCons (tTup (tCons (tC (.int 0)) (tCons (tC (.int 0)) (tCons (tUn rNeg (tC (.int 1))) tNil)))) tNil)) (tCall (spNear K) [] E0 (tCons (tTup (tCons (tC (.int 0)) (tCons (tC (.int 0)) (tCons (tC (.int 0)) tNil)))) tNil))) tNil))) (gName 15))
  tNext) (tMove K))) (dsL x0 l j R d left x6 s t here ln lsp lf ys zs way x16 x17 x18 x19 x20) (csL l cells n ln cn lsp cp lf cf [(l4, c4), (l5, c5)]) Q := by
  refine ws_for (wl_rng1 (wa_cons (we_int (wa_nil ⟨_, rfl, by omega, by omega, ?_⟩))))
  refine ⟨fun _ ds' cs' => StI x0 l ln lsp lf l4 l5 j R left L d x6 s t ys zs cp cf c4 c5 cells ds' cs', ⟨n, here, way, cn, _, _, _, _, _, rfl, rfl, hh, hw, hn⟩, fun _ _ _ _ => srcOk_none, ?_, fun ds' cs' h => hQ _ _ h⟩
  rintro i ds' cs' x hx ⟨n, here, way, cn, x16, x17, x18, x19, x20, rfl, rfl, hh, hw, hn⟩
  refine wg_name (ws_seq (ws_if (wt_test (we_op (we_next rfl (by decide) we_int' fun v n1 a b => we_int (wr_eqI ⟨_, rfl, fun e => ?_, fun e => ?_⟩))))))
  · refine ws_set (we_callC (wa_cons (we_var rfl (wa_cons (we_op (we_lst (wa_cons (we_tup (wa_cons (we_int (wa_cons (we_int (wa_cons (we_neg (we_int ⟨_, rfl, wa_nil ⟨_, rfl, Nat.le_of_ble_eq_true rfl, ?_⟩⟩)))))))))))))))
    refine wa_nil ⟨_, rfl, Nat.le_of_ble_eq_true rfl, .inr fun l6 => ?_⟩
    refine we_call (wa_cons (we_tup (wa_cons (we_int (wa_cons (we_int (wa_cons (we_int (wa_nil ⟨_, rfl, Nat.le_of_ble_eq_true rfl, ?_⟩)))))))))
    refine wa_nil ⟨(0, 0, 0), rfl, trivial, fun r hr => ?_⟩
    obtain rfl := hr
    refine .inr fun l7 => ?_
    refine wr_cat (i := 6) (j := 7) (xs := [d3 (0, 0, -1)]) (ys := (near (0, 0, 0)).map d3) rfl rfl (Nat.le_of_ble_eq_true rfl) (.inl ?_)
    refine wa_nil ⟨⟨cells, n1, ⟨[d3 (0, 0, -1)] ++ (near (0, 0, 0)).map d3, false⟩⟩, 0, l, rfl, rfl, by simp, fun r c' hr => ?_⟩
    obtain ⟨⟨dd, hd, rfl⟩, n2, rfl⟩ := hr
    have hd' : ∃ q, dd = d3 q ∧ q ∈ near (0, 0, 0) := by
      rcases List.mem_append.mp hd with hd | hd
      · exact ⟨(0, 0, -1), List.mem_singleton.mp hd, by simp [near]⟩
      · obtain ⟨q, hq, rfl⟩ := List.mem_map.mp hd
        exact ⟨q, rfl, hq⟩
    obtain ⟨q, rfl, hq⟩ := hd'
    refine ws_forget (ds' := dsL x0 l j R d left x6 s t here ln lsp lf ys zs q (some (.im x)) x17 x18 x19 x20) (cs' := csL l cells n2 ln cn lsp cp lf cf [(l4, c4), (l5, c5)]) ?_ rfl (fun _ _ h => h) (List.sublist_append_left (csL l cells n2 ln cn lsp cp lf cf [(l4, c4), (l5, c5)]) [(l6, _), (l7, _)])
    exact run_move k hh hq hn fun _ _ h => h
  · exact ws_next (run_move k hh hw hn fun _ _ h => h)
end
end Sw
set_option Elab.async false
set_option linter.all false
set_option maxRecDepth 100000
set_option maxHeartbeats 4000000
set_option autoImplicit false
namespace Sw
open PySem PySem.Spec PyProof.Rows L2
local macro_rules | `(tactic| walk_at "wp1") => `(tactic| first
  | with_reducible refine ws_seq ?_
  | with_reducible refine ws_par ?_
  | with_reducible refine ws_par3 ?_
  | with_reducible refine ws_set ?_
  | with_reducible refine ws_ret ?_
  | with_reducible refine ws_drop ?_
  | with_reducible refine ws_if ?_
  | with_reducible refine ws_next ?_
  | ((with_reducible refine' we_var ?hv ?_); (case hv => rfl))
  | with_reducible refine we_int ?_
  | with_reducible refine we_bl ?_
  | with_reducible refine we_str ?_
  | with_reducible refine we_non ?_
  | with_reducible refine we_raw ?_
  | with_reducible refine we_op ?_
  | with_reducible refine we_neg ?_
  | with_reducible refine we_tup ?_
  | with_reducible refine we_lst ?_
  | with_reducible refine we_cb ?_
  | with_reducible refine we_call ?_
  | with_reducible refine we_callC ?_
  | with_reducible refine we_if ?_
  | with_reducible refine we_and ?_
  | with_reducible refine we_or ?_
  | with_reducible refine we_not ?_
  | with_reducible refine we_chain ?_
  | with_reducible refine we_sl ?_
  | with_reducible refine wo_none ?_
  | with_reducible refine wo_some ?_
  | with_reducible refine wa_nil ?_
  | with_reducible refine wa_cons ?_
  | with_reducible refine wt_test ?_
  | with_reducible refine wt_B ?_
  | with_reducible refine wt_and ?_
  | with_reducible refine wt_or ?_
  | with_reducible refine wt_not ?_
  | with_reducible refine wt_yes ?_
  | with_reducible refine wr_add ?_
  | with_reducible refine wr_sub ?_
  | with_reducible refine wr_lt ?_
  | with_reducible refine wr_le ?_
  | with_reducible refine wr_gt ?_
  | with_reducible refine wr_eqI ?_
  | with_reducible refine wr_eqB ?_
  | with_reducible refine wr_eqS ?_
  | with_reducible refine wc_lenL ?_
  | with_reducible refine wc_lenT ?_
  | with_reducible refine wc_tupL ?_
  | ((with_reducible refine' wr_ixT ?hx ?_); (case hx => rfl))
  | with_reducible refine wg_name ?_
  | ((with_reducible refine' wg_tup ?hl ?_); (case hl => rfl))
  | with_reducible refine wgs_nil ?_
  | with_reducible refine wgs_cons ?_
  | refine ⟨_, rfl, ?_⟩
  | refine ⟨Nat.le_of_ble_eq_true rfl, ?_⟩
  | refine ⟨_, _, rfl, ?_⟩
  | refine ⟨_, _, _, rfl, ?_⟩
  | fail "no step")
local macro_rules | `(tactic| walk_at "wp") => `(tactic| repeat' walk_at "wp1")

/-! ### law: the whole -/
section
variable {P : Program} {w : World} {K : PySem.W.Frag} {mg : Str → Option Value} {base : Heap} {f : Addr} {fd : FuncData}
abbrev qLaw (_ : List Int) (r : Ret) : Prop := r = .im (.bool true)
abbrev spLaw (K : PySem.W.Frag) : Sp := SpF K (fun xs : List Int => [.im (.list (xs.map .int))]) (fun _ => True) qLaw
theorem cutD_map (xs : List Int) (lo hi : Option Int) : ∃ cells : List Int, cutD (xs.map .int) lo hi = cells.map .int := by
  unfold cutD
  rw [List.length_map]
  exact ⟨(xs.drop (HT.sIx xs.length 0 lo)).take (HT.sIx xs.length xs.length hi - HT.sIx xs.length 0 lo), by rw [List.map_take, List.map_drop]⟩
theorem CK.dt {S : Pt → Prop} {c : Cell} (h : CK S c) : ∃ kvs, c = .dt kvs := h.imp fun _ h => h.1
abbrev LwI (x0 : Option SV) (l : Addr) (j : Jb) (R : Sol) (d : PyData) (cells : List Int) (ds' : DS) (cs' : CS) : Prop :=
  ∃ (n : Nat) (left : Sol) (x6 x7 x8 x9 x10 x11 x12 x13 x14 x15 x16 x17 x18 x19 x20 : Option SV), ds' = [x0, some (.raw (.ref l)), some (.im (dJb j)), some (.im (dSol R)), some (.im d), some (.im (dSol left)), x6, x7, x8, x9, x10, x11, x12, x13, x14, x15, x16, x17, x18, x19, x20] ∧ cs' = [(l, drawC cells n)] ∧ WSol left ∧ (∀ p, mS R p → mS left p) ∧ ∀ p, mS left p → mS j.stock p
theorem run_law (xs : List Int) : WS K (t_law K (spJob K) (spClo K) (spPick K) (spPl K) (spCub K) (spNear K) (spNext K) (spIn K) (spHit K) (spAt K) (spSd K) (spTb K) (spWithin K)) [some (.im (.list (xs.map .int))), none, none, none, none, none, none, none, none, none, none, none, none, none, none, none, none, none, none, none, none] [] (PostF qLaw xs) := by
  obtain ⟨cells, hcells⟩ := cutD_map xs none (some 63)
  unfold t_law
  refine ws_seq (ws_set (we_lst (wa_cons (we_sl (we_var rfl (wo_none (wo_some (we_int ⟨_, rfl, wsl_L (.inl ?_)⟩))))))))
  refine wa_cons (we_int (wa_cons (we_int (wa_nil ⟨_, rfl, Nat.le_of_ble_eq_true rfl, .inr fun l => ?_⟩))))
  rw [hcells]
  show WS K _ _ [(l, drawC cells 0)] _
  refine ws_seq (ws_set (we_callC (wa_cons (we_var rfl (wa_nil ⟨⟨cells, 0, ()⟩, 0, l, rfl, rfl, trivial, fun r c' hr => ?_⟩)))))
  obtain ⟨⟨j, rfl, ok, hto, hst⟩, n, rfl⟩ := hr
  refine ws_seq (ws_asg (we_call (wa_cons (we_var rfl (wa_nil ⟨j, rfl, ok, fun r hr => ?_⟩)))))
  obtain ⟨R, d, rfl, clo, lots⟩ := hr
  refine wg_tup rfl (wgs_cons (wg_name (wgs_cons (wg_name (wgs_nil ?_)))))
  refine ws_seq (ws_set (we_op (we_var rfl (we_int (wr_ixT (atI_nat (j := 0) rfl) ?_)))))
  refine ws_seq (ws_for (wl_rng1 (wa_cons (we_int (wa_nil ⟨_, rfl, by omega, by omega, ?_⟩)))))
  refine ⟨fun _ ds' cs' => LwI (some (.im (.list (xs.map .int)))) l j R d cells ds' cs', ⟨n, j.stock, _, _, _, _, _, _, _, _, _, _, _, _, _, _, _, rfl, rfl, ok.ws, clo.sub, fun _ h => h⟩, fun _ _ _ _ => srcOk_none, ?_, ?_⟩
  · rintro i ds' cs' x hx ⟨n, left, x6, x7, x8, x9, x10, x11, x12, x13, x14, x15, x16, x17, x18, x19, x20, rfl, rfl, wl, sup, sub⟩
    refine wg_name (ws_seq (ws_par3 (wa_cons (we_pick ⟨j.stps.map dStp, true⟩ rfl (fun e => hst (List.map_eq_nil_iff.mp e)) (we_op (we_var rfl (we_int (wr_ixT (atI_nat (j := 5) rfl) ⟨rfl, rfl⟩)))) fun d1 n1 h1 => ?_))))
    obtain ⟨s, hs, rfl⟩ := List.mem_map.mp h1
    refine wa_cons (we_pick ⟨j.tools.map dTl, true⟩ rfl (fun e => hto (List.map_eq_nil_iff.mp e)) (we_op (we_var rfl (we_int (wr_ixT (atI_nat (j := 4) rfl) ⟨rfl, rfl⟩)))) fun d2 n2 h2 => ?_)
    obtain ⟨t, ht, rfl⟩ := List.mem_map.mp h2
    refine wa_cons (we_op (we_op (we_var rfl (we_int (wr_ixT (atI_nat (j := 3) rfl) (we_int (wr_ixT (atI_nat (j := 2) rfl) (wa_nil ⟨_, _, _, rfl, ?_⟩))))))))
    obtain ⟨s24, wfix, bfix, bst⟩ := ok.st s hs
    obtain ⟨⟨wcut, whold⟩, bcut, bhold⟩ := ok.tl t ht
    have plin : ∀ p, mS j.stock p → inB cAll (plc s p) := fun p hp => cAll_of (c := bxStock) ⟨⟨by decide, by decide⟩, ⟨by decide, by decide⟩, by decide, by decide⟩ (bst p hp)
    refine ws_seq (ws_par3 (wa_cons (we_call (wa_cons (we_call (wa_cons (we_var rfl (wa_cons (we_var rfl (wa_nil ⟨(s, left), rfl, ⟨s24, wl, fun p hp => plin p (sub p hp)⟩, fun r hr => ?_⟩))))))))))
    obtain ⟨z1, rfl, w1, m1⟩ := hr
    refine wa_nil ⟨z1, rfl, w1, fun r hr => ?_⟩
    obtain ⟨cn, rfl, hcn⟩ := hr
    obtain ⟨kvs1, rfl⟩ := hcn.dt
    refine fun ln => ?_
    refine wa_cons (we_call (wa_cons (we_call (wa_cons (we_var rfl (wa_cons (we_op (we_var rfl (we_int (wr_ixT (atI_nat (j := 1) rfl) (wa_nil ⟨(s, j.wished), rfl, ⟨s24, ok.ww, fun p hp => plin p (ok.sub p hp)⟩, fun r hr => ?_⟩)))))))))))
    obtain ⟨z2, rfl, w2, m2⟩ := hr
    refine wa_nil ⟨z2, rfl, w2, fun r hr => ?_⟩
    obtain ⟨cp, rfl, hcp⟩ := hr
    obtain ⟨kvs2, rfl⟩ := hcp.dt
    refine fun lsp => ?_
    refine wa_cons (we_call (wa_cons (we_op (we_var rfl (we_int (wr_ixT (atI_nat (j := 3) rfl) (wa_nil ⟨s.fix, rfl, wfix, fun r hr => ?_⟩)))))))
    obtain ⟨cf, rfl, hcf⟩ := hr
    obtain ⟨kvs3, rfl⟩ := hcf.dt
    refine fun lf => wa_nil ⟨_, _, _, rfl, ?_⟩
    refine ws_seq (ws_par3 (wa_cons (we_cb (wa_cons (we_call (wa_cons (we_op (we_var rfl (we_int (wr_ixT (atI_nat (j := 1) rfl) (wa_nil ⟨t.cut, rfl, wcut, fun r hr => ?_⟩)))))))))))
    obtain ⟨c4, rfl, h4⟩ := hr
    obtain ⟨kvs4, ks4, rfl, hk4, ll4, _, hm4⟩ := h4.ks
    refine fun l4 => wa_nil (wc_sortedDT (j := 4) rfl hk4 fun ys py => .inl ?_)
    refine wa_cons (we_cb (wa_cons (we_call (wa_cons (we_op (we_var rfl (we_int (wr_ixT (atI_nat (j := 2) rfl) (wa_nil ⟨t.hold, rfl, whold, fun r hr => ?_⟩)))))))))
    obtain ⟨c5, rfl, h5⟩ := hr
    obtain ⟨kvs5, ks5, rfl, hk5, ll5, _, hm5⟩ := h5.ks
    refine fun l5 => wa_nil (wc_sortedDT (j := 5) rfl hk5 fun zs pz => .inl ?_)
    refine wa_cons (we_pick ⟨(near (0, 0, 0)).map d3, false⟩ rfl (by simp) ?_ fun d3' n3 h3 => ?_)
    · refine we_call (wa_cons (we_tup (wa_cons (we_int (wa_cons (we_int (wa_cons (we_int (wa_nil ⟨_, rfl, Nat.le_of_ble_eq_true rfl, ?_⟩)))))))))
      refine wa_nil ⟨(0, 0, 0), rfl, trivial, fun r hr => ?_⟩
      obtain rfl := hr
      exact .inl ⟨rfl, rfl⟩
    obtain ⟨way, hway, rfl⟩ := List.mem_map.mp h3
    refine wa_nil ⟨_, _, _, rfl, ?_⟩
    obtain ⟨L, g1, g2, g3⟩ := lots s hs t ht
    have k : Wk j s t R left L ys zs (.dt kvs2) (.dt kvs3) := ⟨g1, g2, g3, fun p => py.mem_iff.trans (hm4 p), fun p => pz.mem_iff.trans (hm5 p), by rw [py.length_eq]; exact ll4, hcp.congr fun q => plS_iff s24 m2 q, hcf, ok.mac⟩
    have hn : Now s R left (.dt kvs1) := ⟨_, hcn.congr fun q => plS_iff s24 m1 q, fun q hq => hq.imp fun p hp => ⟨hp.1, sup p hp.2⟩, fun q hq => hq⟩
    have hh : mS L j.mac.home := by rw [ok.mac.2.2]; exact g1
    refine ws_seq (run_steps (x0 := some (.im (.list (xs.map .int)))) (l := l) (ln := ln) (lsp := lsp) (lf := lf) (l4 := l4) (l5 := l5) (d := d) (x6 := some (.im x)) (c4 := .dt kvs4) (c5 := .dt kvs5) (cells := cells) k hh hway hn fun ds' cs' hI => ?_)
    obtain ⟨n, here, way, cn, y16, y17, y18, y19, y20, rfl, rfl, _, _, S, hc, q1, q2⟩ := hI
    refine ws_seq (ws_set (we_call (wa_cons (we_var rfl (wa_cons (we_callC (wa_cons (we_var rfl (wa_nil ⟨(cn, S), 1, ln, rfl, rfl, hc, fun r c' hr => ?_⟩)))))))))
    obtain ⟨ec, z, rfl, wz, mz⟩ := hr
    have ec' : cn = c' := ec.symm
    subst ec'
    refine wa_nil ⟨(s, z), rfl, ⟨s24, wz, fun q hq => ?_⟩, fun r hr => ?_⟩
    · obtain ⟨p, rfl, hp⟩ := q2 q ((mz q).mp hq)
      have := turn_small (tgT_mem s24) (ok.bs p (sub p hp))
      have e : psub (plc s p) s.by_ = turnP (tgT s) p := by
        unfold plc
        exact Prod.ext (by simp) (Prod.ext (by simp) (by simp))
      rw [e]
      exact this
    obtain ⟨z', rfl, wz', mz'⟩ := hr
    have sup' : ∀ p, mS R p → mS z' p := fun p hp => (mz' p).mpr ((mz _).mpr (q1 _ ⟨p, rfl, hp⟩))
    have sub' : ∀ p, mS z' p → mS j.stock p := fun p hp => by
      obtain ⟨p', e, hp'⟩ := q2 _ ((mz _).mp ((mz' p).mp hp))
      rw [← plc_inj s24 e]
      exact sub p' hp'
    refine ws_forget (cs' := [(l, drawC cells n)]) ?_ ?_ (fun _ _ h => h) ?_
    · refine ws_if (wt_not (wt_B (we_call (wa_cons (we_var rfl (wa_cons (we_var rfl (wa_nil ⟨(R, z'), rfl, ⟨clo.w, wz'⟩, fun r hr => ?_⟩))))))))
      obtain ⟨b, rfl, hb⟩ := hr
      refine ⟨b, rfl, fun e => ?_, fun _ => ws_next ⟨n, z', _, _, _, _, _, _, _, _, _, _, _, _, _, _, _, rfl, rfl, wz', sup', sub'⟩⟩
      rw [hb.mpr sup'] at e
      cases e
    · rfl
    · exact List.sublist_append_left [(l, drawC cells n)] _
  · rintro ds' cs' ⟨n, left, x6, x7, x8, x9, x10, x11, x12, x13, x14, x15, x16, x17, x18, x19, x20, rfl, rfl, wl, sup, sub⟩
    refine ws_ret (we_and (we_call (wa_cons (we_var rfl (wa_cons (we_op (we_var rfl (we_int (wr_ixT (atI_nat (j := 0) rfl) (wa_nil ⟨(R, j.stock), rfl, ⟨clo.w, ok.ws⟩, fun r hr => ?_⟩))))))))))
    obtain ⟨b, rfl, hb⟩ := hr
    have e1 : b = true := hb.mpr clo.sub
    subst e1
    refine ⟨true, rfl, fun _ => ?_, fun e => (nomatch e)⟩
    refine we_call (wa_cons (we_op (we_var rfl (we_int (wr_ixT (atI_nat (j := 1) rfl) (wa_cons (we_var rfl (wa_nil ⟨(j.wished, R), rfl, ⟨ok.ww, clo.w⟩, fun r hr => ?_⟩))))))))
    obtain ⟨b, rfl, hb⟩ := hr
    have e1 : b = true := hb.mpr clo.sup
    subst e1
    exact ⟨.im (.bool true), rfl, rfl⟩
theorem fn_law (F : FnP K "law" s_law f fd) (c1 : Cl P w K mg base 11 "_law_job" (spJob K)) (c2 : Cl P w K mg base 13 "closure" (spClo K)) (c3 : Cl P w K mg base 4 "_law_pick" (spPick K)) (c4 : Cl P w K mg base 11 "placed" (spPl K)) (c5 : Cl P w K mg base 1 "_law_cubes" (spCub K)) (c6 : Cl P w K mg base 1 "_law_next_to" (spNear K)) (c7 : Cl P w K mg base 3 "_law_next" (spNext K)) (c8 : Cl P w K mg base 1 "_law_is_in" (spIn K)) (c9 : Cl P w K mg base 1 "_law_hits" (spHit K)) (c10 : Cl P w K mg base 1 "_law_at" (spAt K)) (c11 : Cl P w K mg base 8 "_law_solid" (spSd K)) (c12 : Cl P w K mg base 11 "taken_back" (spTb K)) (c13 : Cl P w K mg base 8 "is_within" (spWithin K)) (m1 : mg "range" = none) (m2 : mg "sorted" = none) (m3 : mg "zip" = none) (m4 : mg "tuple" = none) : FnOk P w K mg base CX0 14 f fd ["_law_script"] (spLaw K) :=
  fn_F F sc_law (fun cdv A outer s H E hr => der_law c1 c2 c3 c4 c5 c6 c7 c8 c9 c10 c11 c12 c13 m1 m2 m3 m4 hr) (fun _ => rfl) fun g _ => run_law g
end
end Sw
set_option Elab.async false
set_option linter.all false
set_option maxRecDepth 100000
set_option maxHeartbeats 0
set_option autoImplicit false
namespace Sw
open PySem PySem.Spec PyProof.Rows L2
/-! ### the end -/
mutual
theorem datB_dp {K : PySem.W.Frag} : ∀ (d : PyData) (u : Value), datB K d u = true → ∃ v, RelV v u ∧ ∀ H, Dp K H v d
  | .int i, u, h => by
    cases u with
    | int j t =>
      have e : i = j := by simpa [datB] using h
      subst e
      exact ⟨.int i, ⟨t, rfl⟩, fun H => .int i⟩
    | _ => simp [datB] at h
  | .tuple ds, u, h => by
    cases u with
    | ref a =>
      unfold datB at h
      split at h
      · rename_i its n _ hk
        simp only [Bool.and_eq_true, decide_eq_true_eq] at h
        obtain ⟨hc, hz, h3⟩ := h
        obtain ⟨vs, r, hd⟩ := datAll_dp ds its.toList h3
        subst hc
        exact ⟨.ref a, rfl, fun H => .tup (.inr ⟨_, its, n, hk, rfl, rfl, hz, r⟩) (hd H)⟩
      · cases h
    | _ => simp [datB] at h
  | .none, u, h => by cases u <;> simp [datB] at h
  | .bool _, u, h => by cases u <;> simp [datB] at h
  | .str _, u, h => by cases u <;> simp [datB] at h
  | .list _, u, h => by cases u <;> simp [datB] at h
  | .dict _, u, h => by cases u <;> simp [datB] at h
theorem datAll_dp {K : PySem.W.Frag} : ∀ (ds : List PyData) (us : List Value), datB.datAll K ds us = true → ∃ vs, Vals vs us ∧ ∀ H, DpAll K H vs ds
  | [], [], _ => ⟨[], .nil, fun _ => .nil⟩
  | [], _ :: _, h => by simp [datB.datAll] at h
  | _ :: _, [], h => by simp [datB.datAll] at h
  | d :: ds, u :: us, h => by
    unfold datB.datAll at h
    rw [Bool.and_eq_true] at h
    obtain ⟨v, r, hd⟩ := datB_dp d u h.1
    obtain ⟨vs, rs, hds⟩ := datAll_dp ds us h.2
    exact ⟨v :: vs, .cons r rs, fun H => .cons (hd H) (hds H)⟩
end
theorem datR {K : PySem.W.Frag} {d : PyData} {a : Addr} (h : datB K d (.ref a) = true) : ∀ H, Dp K H (.ref a) d := by
  obtain ⟨v, r, hd⟩ := datB_dp d (.ref a) h
  have e : v = .ref a := by
    have := r.abs
    exact (Option.some.inj this).symm
  subst e
  exact hd
theorem data_ok {K : PySem.W.Frag} (h : exB K = true) : (∀ H, Dp K H (.ref (He.ga K "AXES")) dAxes) ∧ (∀ H, Dp K H (.ref (He.ga K "ORDERS")) (dPts oL)) ∧ (∀ H, Dp K H (.ref (He.ga K "EVEN")) (dPts eL)) ∧ ∀ H, Dp K H (.ref (He.ga K "SIGNS")) (dPts sL) := by
  unfold exB at h
  rw [Bool.and_eq_true, Bool.and_eq_true, Bool.and_eq_true] at h
  exact ⟨datR h.1, datR h.2.1, datR h.2.2.1, datR h.2.2.2⟩
theorem law_start {K : PySem.W.Frag} {H : Hp} {a : Addr} {ns : List Int} (hS : SqL K H a (ns.map V.int)) : spLaw K [.ref a] H (fun v _ => v = .bl true) fun _ _ _ => False := by
  refine ⟨H, ns, Same.refl _, .cons (.lst hS (DpAll.ints ns)) .nil, trivial, fun v H' Hb' r hr _ _ _ ro => ?_⟩
  have e : r = .im (.bool true) := hr
  subst e
  have d : Dp K Hb' v (.bool true) := ro
  cases d
  rfl
theorem facts {P : Program} {w : World} {K : PySem.W.Frag} {h : Heap} {mg : Str → Option Value} {f : Addr} (X : K.In h) (G : h.Ns mainGlobals mg) (hfa : mg ("law" : Str) = some (.ref f)) (c : He.SaysD fa fn K) (ex : exB K = true) :
    ∃ fd : FuncData, (∀ (s : Shared) (v : Value), BindsTo s fd ⟨[v], []⟩ [("_law_script", v)]) ∧ ∀ base : Heap, K.In base → base.Ns mainGlobals mg → FnOk P w K mg base CX0 14 f fd ["_law_script"] (spLaw K) := by
  obtain ⟨fd_is_kept, F_is_kept⟩ := c.def_ 0 (d := d_is_kept) rfl
  obtain ⟨fd_ends_of, F_ends_of⟩ := c.def_ 1 (d := d_ends_of) rfl
  obtain ⟨fd_rows_made, F_rows_made⟩ := c.def_ 2 (d := d_rows_made) rfl
  obtain ⟨fd_stretches_made, F_stretches_made⟩ := c.def_ 3 (d := d_stretches_made) rfl
  obtain ⟨fd_layers_made, F_layers_made⟩ := c.def_ 4 (d := d_layers_made) rfl
  obtain ⟨fd_union, F_union⟩ := c.def_ 5 (d := d_union) rfl
  obtain ⟨fd_meet, F_meet⟩ := c.def_ 6 (d := d_meet) rfl
  obtain ⟨fd_less, F_less⟩ := c.def_ 7 (d := d_less) rfl
  obtain ⟨fd_is_within, F_is_within⟩ := c.def_ 10 (d := d_is_within) rfl
  obtain ⟨fd_box, F_box⟩ := c.def_ 9 (d := d_box) rfl
  obtain ⟨fd_boxes_of, F_boxes_of⟩ := c.def_ 11 (d := d_boxes_of) rfl
  obtain ⟨fd_union_of, F_union_of⟩ := c.def_ 8 (d := d_union_of) rfl
  obtain ⟨fd_of_boxes, F_of_boxes⟩ := c.def_ 12 (d := d_of_boxes) rfl
  obtain ⟨fd_bounds, F_bounds⟩ := c.def_ 13 (d := d_bounds) rfl
  obtain ⟨fd_moved, F_moved⟩ := c.def_ 14 (d := d_moved) rfl
  obtain ⟨fd_has, F_has⟩ := c.def_ 15 (d := d_has) rfl
  obtain ⟨fd_do_touch, F_do_touch⟩ := c.def_ 16 (d := d_do_touch) rfl
  obtain ⟨fd_pieces, F_pieces⟩ := c.def_ 17 (d := d_pieces) rfl
  obtain ⟨fd_piece_with, F_piece_with⟩ := c.def_ 18 (d := d_piece_with) rfl
  obtain ⟨fd_swept, F_swept⟩ := c.def_ 19 (d := d_swept) rfl
  obtain ⟨fd_barred, F_barred⟩ := c.def_ 20 (d := d_barred) rfl
  obtain ⟨fd_travel_lot, F_travel_lot⟩ := c.def_ 21 (d := d_travel_lot) rfl
  obtain ⟨fd_is_turning, F_is_turning⟩ := c.def_ 22 (d := d_is_turning) rfl
  obtain ⟨fd_turnings, F_turnings⟩ := c.def_ 23 (d := d_turnings) rfl
  obtain ⟨fd_number_of, F_number_of⟩ := c.def_ 25 (d := d_number_of) rfl
  obtain ⟨fd_after, F_after⟩ := c.def_ 26 (d := d_after) rfl
  obtain ⟨fd_back, F_back⟩ := c.def_ 27 (d := d_back) rfl
  obtain ⟨fd_turned, F_turned⟩ := c.def_ 24 (d := d_turned) rfl
  obtain ⟨fd_placed, F_placed⟩ := c.def_ 28 (d := d_placed) rfl
  obtain ⟨fd_taken_back, F_taken_back⟩ := c.def_ 29 (d := d_taken_back) rfl
  obtain ⟨fd_free_lot, F_free_lot⟩ := c.def_ 30 (d := d_free_lot) rfl
  obtain ⟨fd_cut_by, F_cut_by⟩ := c.def_ 31 (d := d_cut_by) rfl
  obtain ⟨fd_closure, F_closure⟩ := c.def_ 32 (d := d_closure) rfl
  obtain ⟨fd__law_cell_at, F__law_cell_at⟩ := c.def_ 33 (d := d_law_cell_at) rfl
  obtain ⟨fd__law_draw, F__law_draw⟩ := c.def_ 34 (d := d_law_draw) rfl
  obtain ⟨fd__law_number, F__law_number⟩ := c.def_ 35 (d := d_law_number) rfl
  obtain ⟨fd__law_next, F__law_next⟩ := c.def_ 36 (d := d_law_next) rfl
  obtain ⟨fd__law_pick, F__law_pick⟩ := c.def_ 37 (d := d_law_pick) rfl
  obtain ⟨fd__law_box, F__law_box⟩ := c.def_ 38 (d := d_law_box) rfl
  obtain ⟨fd__law_tool, F__law_tool⟩ := c.def_ 39 (d := d_law_tool) rfl
  obtain ⟨fd__law_job, F__law_job⟩ := c.def_ 40 (d := d_law_job) rfl
  obtain ⟨fd__law_cubes, F__law_cubes⟩ := c.def_ 41 (d := d_law_cubes) rfl
  obtain ⟨fd__law_at, F__law_at⟩ := c.def_ 42 (d := d_law_at) rfl
  obtain ⟨fd__law_hits, F__law_hits⟩ := c.def_ 43 (d := d_law_hits) rfl
  obtain ⟨fd__law_next_to, F__law_next_to⟩ := c.def_ 44 (d := d_law_next_to) rfl
  obtain ⟨fd__law_is_in, F__law_is_in⟩ := c.def_ 45 (d := d_law_is_in) rfl
  obtain ⟨fd__law_solid, F__law_solid⟩ := c.def_ 46 (d := d_law_solid) rfl
  obtain ⟨fd_law, F_law⟩ := c.def_ 47 (d := d_law) rfl
  have G_is_kept := He.glo_ok X G (c.fact 0 (f := .glo "is_kept") rfl)
  have G_ends_of := He.glo_ok X G (c.fact 1 (f := .glo "ends_of") rfl)
  have G_rows_made := He.glo_ok X G (c.fact 2 (f := .glo "rows_made") rfl)
  have G_stretches_made := He.glo_ok X G (c.fact 3 (f := .glo "stretches_made") rfl)
  have G_layers_made := He.glo_ok X G (c.fact 4 (f := .glo "layers_made") rfl)
  have G_union := He.glo_ok X G (c.fact 5 (f := .glo "union") rfl)
  have G_meet := He.glo_ok X G (c.fact 6 (f := .glo "meet") rfl)
  have G_less := He.glo_ok X G (c.fact 7 (f := .glo "less") rfl)
  have G_is_within := He.glo_ok X G (c.fact 10 (f := .glo "is_within") rfl)
  have G_box := He.glo_ok X G (c.fact 9 (f := .glo "box") rfl)
  have G_boxes_of := He.glo_ok X G (c.fact 11 (f := .glo "boxes_of") rfl)
  have G_union_of := He.glo_ok X G (c.fact 8 (f := .glo "union_of") rfl)
  have G_of_boxes := He.glo_ok X G (c.fact 12 (f := .glo "of_boxes") rfl)
  have G_bounds := He.glo_ok X G (c.fact 13 (f := .glo "bounds") rfl)
  have G_moved := He.glo_ok X G (c.fact 14 (f := .glo "moved") rfl)
  have G_has := He.glo_ok X G (c.fact 15 (f := .glo "has") rfl)
  have G_do_touch := He.glo_ok X G (c.fact 16 (f := .glo "do_touch") rfl)
  have G_pieces := He.glo_ok X G (c.fact 17 (f := .glo "pieces") rfl)
  have G_piece_with := He.glo_ok X G (c.fact 18 (f := .glo "piece_with") rfl)
  have G_swept := He.glo_ok X G (c.fact 19 (f := .glo "swept") rfl)
  have G_barred := He.glo_ok X G (c.fact 20 (f := .glo "barred") rfl)
  have G_travel_lot := He.glo_ok X G (c.fact 21 (f := .glo "travel_lot") rfl)
  have G_is_turning := He.glo_ok X G (c.fact 22 (f := .glo "is_turning") rfl)
  have G_turnings := He.glo_ok X G (c.fact 23 (f := .glo "turnings") rfl)
  have G_number_of := He.glo_ok X G (c.fact 25 (f := .glo "number_of") rfl)
  have G_after := He.glo_ok X G (c.fact 26 (f := .glo "after") rfl)
  have G_back := He.glo_ok X G (c.fact 27 (f := .glo "back") rfl)
  have G_turned := He.glo_ok X G (c.fact 24 (f := .glo "turned") rfl)
  have G_placed := He.glo_ok X G (c.fact 28 (f := .glo "placed") rfl)
  have G_taken_back := He.glo_ok X G (c.fact 29 (f := .glo "taken_back") rfl)
  have G_free_lot := He.glo_ok X G (c.fact 30 (f := .glo "free_lot") rfl)
  have G_cut_by := He.glo_ok X G (c.fact 31 (f := .glo "cut_by") rfl)
  have G_closure := He.glo_ok X G (c.fact 32 (f := .glo "closure") rfl)
  have G__law_cell_at := He.glo_ok X G (c.fact 33 (f := .glo "_law_cell_at") rfl)
  have G__law_draw := He.glo_ok X G (c.fact 34 (f := .glo "_law_draw") rfl)
  have G__law_number := He.glo_ok X G (c.fact 35 (f := .glo "_law_number") rfl)
  have G__law_next := He.glo_ok X G (c.fact 36 (f := .glo "_law_next") rfl)
  have G__law_pick := He.glo_ok X G (c.fact 37 (f := .glo "_law_pick") rfl)
  have G__law_box := He.glo_ok X G (c.fact 38 (f := .glo "_law_box") rfl)
  have G__law_tool := He.glo_ok X G (c.fact 39 (f := .glo "_law_tool") rfl)
  have G__law_job := He.glo_ok X G (c.fact 40 (f := .glo "_law_job") rfl)
  have G__law_cubes := He.glo_ok X G (c.fact 41 (f := .glo "_law_cubes") rfl)
  have G__law_at := He.glo_ok X G (c.fact 42 (f := .glo "_law_at") rfl)
  have G__law_hits := He.glo_ok X G (c.fact 43 (f := .glo "_law_hits") rfl)
  have G__law_next_to := He.glo_ok X G (c.fact 44 (f := .glo "_law_next_to") rfl)
  have G__law_is_in := He.glo_ok X G (c.fact 45 (f := .glo "_law_is_in") rfl)
  have G__law_solid := He.glo_ok X G (c.fact 46 (f := .glo "_law_solid") rfl)
  have G_law := He.glo_ok X G (c.fact 47 (f := .glo "law") rfl)
  have G_AXES := He.glo_ok X G (c.fact 48 (f := .glo "AXES") rfl)
  have G_ORDERS := He.glo_ok X G (c.fact 49 (f := .glo "ORDERS") rfl)
  have G_EVEN := He.glo_ok X G (c.fact 50 (f := .glo "EVEN") rfl)
  have G_SIGNS := He.glo_ok X G (c.fact 51 (f := .glo "SIGNS") rfl)
  have N_all := He.free_ok X G (c.fact 57 (f := .free "all") rfl)
  have N_any := He.free_ok X G (c.fact 58 (f := .free "any") rfl)
  have N_enumerate := He.free_ok X G (c.fact 59 (f := .free "enumerate") rfl)
  have N_int := He.free_ok X G (c.fact 63 (f := .free "int") rfl)
  have N_len := He.free_ok X G (c.fact 54 (f := .free "len") rfl)
  have N_list := He.free_ok X G (c.fact 56 (f := .free "list") rfl)
  have N_max := He.free_ok X G (c.fact 62 (f := .free "max") rfl)
  have N_min := He.free_ok X G (c.fact 61 (f := .free "min") rfl)
  have N_range := He.free_ok X G (c.fact 60 (f := .free "range") rfl)
  have N_sorted := He.free_ok X G (c.fact 52 (f := .free "sorted") rfl)
  have N_str := He.free_ok X G (c.fact 64 (f := .free "str") rfl)
  have N_tuple := He.free_ok X G (c.fact 55 (f := .free "tuple") rfl)
  have N_zip := He.free_ok X G (c.fact 53 (f := .free "zip") rfl)
  have G_MANY := He.int_ok X G (c.fact 65 (f := .int "MANY" 24) rfl)
  obtain ⟨D_AXES, D_ORDERS, D_EVEN, D_SIGNS⟩ := data_ok ex
  have e := hfa.symm.trans G_law
  cases e
  have b := FunD.bindsA (ps := ["_law_script"]) F_law fun _ _ _ _ _ _ us hl => match us, hl with | [_], _ => rfl
  refine ⟨fd_law, fun s v => b s [v] rfl, fun base _ _ => ?_⟩
  have C_is_kept : Cl P w K mg base 1 "is_kept" (spKept K) := ⟨⟨_, _, ["word", "is_in", "is_other"], fn_is_kept F_is_kept, G_is_kept, F_is_kept.kp, F_is_kept.bindsN fun _ _ _ _ _ _ us hl => match us, hl with | [_, _, _], _ => rfl⟩⟩
  have C_ends_of : Cl P w K mg base 1 "ends_of" (spEnds K) := ⟨⟨_, _, ["one", "other"], fn_ends_of F_ends_of N_sorted, G_ends_of, F_ends_of.kp, F_ends_of.bindsN fun _ _ _ _ _ _ us hl => match us, hl with | [_, _], _ => rfl⟩⟩
  have C_rows_made : Cl P w K mg base 3 "rows_made" (spInn dP WRow memR K) := ⟨⟨_, _, ["one", "other", "word"], fn_rows_made F_rows_made C_ends_of C_is_kept N_zip N_len N_tuple, G_rows_made, F_rows_made.kp, F_rows_made.bindsN fun _ _ _ _ _ _ us hl => match us, hl with | [_, _, _], _ => rfl⟩⟩
  have C_stretches4 : Cl P w K mg base 4 "stretches_made" (spStr dP WRow memR (He.ga K "rows_made") K) := ⟨⟨_, _, ["one", "other", "word", "inner"], fn_stretches4 innRow F_stretches_made (C_rows_made.f G_rows_made) C_ends_of N_zip N_len N_tuple, G_stretches_made, F_stretches_made.kp, F_stretches_made.bindsN fun _ _ _ _ _ _ us hl => match us, hl with | [_, _, _, _], _ => rfl⟩⟩
  have C_layers_made : Cl P w K mg base 5 "layers_made" (spLays K) := ⟨⟨_, _, ["one", "other", "word"], fn_layers_made F_layers_made G_rows_made C_stretches4, G_layers_made, F_layers_made.kp, F_layers_made.bindsN fun _ _ _ _ _ _ us hl => match us, hl with | [_, _, _], _ => rfl⟩⟩
  have C_stretches6 : Cl P w K mg base 6 "stretches_made" (spStr6 (He.ga K "layers_made") K) := ⟨⟨_, _, ["one", "other", "word", "inner"], fn_stretches6 innLay F_stretches_made (C_layers_made.f G_layers_made) C_ends_of N_zip N_len N_tuple, G_stretches_made, F_stretches_made.kp, F_stretches_made.bindsN fun _ _ _ _ _ _ us hl => match us, hl with | [_, _, _, _], _ => rfl⟩⟩
  have C_union : Cl P w K mg base 7 "union" (spUnion K) := ⟨⟨_, _, ["one", "other"], fn_union F_union G_layers_made C_stretches6, G_union, F_union.kp, F_union.bindsN fun _ _ _ _ _ _ us hl => match us, hl with | [_, _], _ => rfl⟩⟩
  have C_meet : Cl P w K mg base 7 "meet" (spMeet K) := ⟨⟨_, _, ["one", "other"], fn_meet F_meet G_layers_made C_stretches6, G_meet, F_meet.kp, F_meet.bindsN fun _ _ _ _ _ _ us hl => match us, hl with | [_, _], _ => rfl⟩⟩
  have C_less : Cl P w K mg base 7 "less" (spLess K) := ⟨⟨_, _, ["one", "other"], fn_less F_less G_layers_made C_stretches6, G_less, F_less.kp, F_less.bindsN fun _ _ _ _ _ _ us hl => match us, hl with | [_, _], _ => rfl⟩⟩
  have C_is_within : Cl P w K mg base 8 "is_within" (spWithin K) := ⟨⟨_, _, ["one", "other"], fn_is_within F_is_within C_less, G_is_within, F_is_within.kp, F_is_within.bindsN fun _ _ _ _ _ _ us hl => match us, hl with | [_, _], _ => rfl⟩⟩
  have C_box : Cl P w K mg base 1 "box" (spBox K) := ⟨⟨_, _, ["corner", "other"], fn_box D_AXES F_box G_AXES N_all, G_box, F_box.kp, F_box.bindsN fun _ _ _ _ _ _ us hl => match us, hl with | [_, _], _ => rfl⟩⟩
  have C_boxes_of : Cl P w K mg base 1 "boxes_of" (spBoxes K) := ⟨⟨_, _, ["solid"], fn_boxes_of F_boxes_of, G_boxes_of, F_boxes_of.kp, F_boxes_of.bindsN fun _ _ _ _ _ _ us hl => match us, hl with | [_], _ => rfl⟩⟩
  have C_union_of : Cl P w K mg base 8 "union_of" (spUnionOf K) := ⟨⟨_, _, ["solids"], fn_union_of F_union_of C_union N_list N_len N_zip, G_union_of, F_union_of.kp, F_union_of.bindsN fun _ _ _ _ _ _ us hl => match us, hl with | [_], _ => rfl⟩⟩
  have C_of_boxes : Cl P w K mg base 9 "of_boxes" (spOfB K) := ⟨⟨_, _, ["boxes"], fn_of_boxes F_of_boxes C_box C_union_of, G_of_boxes, F_of_boxes.kp, F_of_boxes.bindsN fun _ _ _ _ _ _ us hl => match us, hl with | [_], _ => rfl⟩⟩
  have C_bounds : Cl P w K mg base 2 "bounds" (spBnd K) := ⟨⟨_, _, ["solid"], fn_bounds D_AXES F_bounds G_AXES C_boxes_of N_tuple N_min N_max, G_bounds, F_bounds.kp, F_bounds.bindsN fun _ _ _ _ _ _ us hl => match us, hl with | [_], _ => rfl⟩⟩
  have C_moved : Cl P w K mg base 1 "moved" (spMov K) := ⟨⟨_, _, ["solid", "by"], fn_moved F_moved N_tuple, G_moved, F_moved.kp, F_moved.bindsN fun _ _ _ _ _ _ us hl => match us, hl with | [_, _], _ => rfl⟩⟩
  have C_has : Cl P w K mg base 1 "has" (spHas K) := ⟨⟨_, _, ["solid", "point"], fn_has F_has N_any, G_has, F_has.kp, F_has.bindsN fun _ _ _ _ _ _ us hl => match us, hl with | [_, _], _ => rfl⟩⟩
  have C_do_touch : Cl P w K mg base 1 "do_touch" (spTch K) := ⟨⟨_, _, ["one", "other"], fn_do_touch D_AXES F_do_touch G_AXES N_len, G_do_touch, F_do_touch.kp, F_do_touch.bindsN fun _ _ _ _ _ _ us hl => match us, hl with | [_, _], _ => rfl⟩⟩
  have C_pieces : Cl P w K mg base 10 "pieces" (spPcs K) := ⟨⟨_, _, ["solid"], fn_pieces F_pieces C_boxes_of C_do_touch C_of_boxes N_sorted, G_pieces, F_pieces.kp, F_pieces.bindsN fun _ _ _ _ _ _ us hl => match us, hl with | [_], _ => rfl⟩⟩
  have C_piece_with : Cl P w K mg base 11 "piece_with" (spPw K) := ⟨⟨_, _, ["solid", "point"], fn_piece_with F_piece_with C_pieces C_has, G_piece_with, F_piece_with.kp, F_piece_with.bindsN fun _ _ _ _ _ _ us hl => match us, hl with | [_, _], _ => rfl⟩⟩
  have C_swept : Cl P w K mg base 10 "swept" (spSwp K) := ⟨⟨_, _, ["lot", "tool"], fn_swept D_AXES F_swept G_AXES C_boxes_of C_of_boxes N_tuple, G_swept, F_swept.kp, F_swept.bindsN fun _ _ _ _ _ _ us hl => match us, hl with | [_, _], _ => rfl⟩⟩
  have C_barred : Cl P w K mg base 10 "barred" (spBar K) := ⟨⟨_, _, ["tool", "solid"], fn_barred D_AXES F_barred G_AXES C_boxes_of C_of_boxes N_tuple, G_barred, F_barred.kp, F_barred.bindsN fun _ _ _ _ _ _ us hl => match us, hl with | [_, _], _ => rfl⟩⟩
  have C_travel_lot : Cl P w K mg base 2 "travel_lot" (spTrv K) := ⟨⟨_, _, ["machine"], fn_travel_lot F_travel_lot C_box N_tuple, G_travel_lot, F_travel_lot.kp, F_travel_lot.bindsN fun _ _ _ _ _ _ us hl => match us, hl with | [_], _ => rfl⟩⟩
  have C_is_turning : Cl P w K mg base 1 "is_turning" (spIsT K) := ⟨⟨_, _, ["axes", "signs"], fn_is_turning D_EVEN F_is_turning G_EVEN, G_is_turning, F_is_turning.kp, F_is_turning.bindsN fun _ _ _ _ _ _ us hl => match us, hl with | [_, _], _ => rfl⟩⟩
  have C_turnings : Cl P w K mg base 2 "turnings" (spTs K) := ⟨⟨_, _, [], fn_turnings D_ORDERS D_SIGNS F_turnings G_ORDERS G_SIGNS C_is_turning N_tuple, G_turnings, F_turnings.kp, F_turnings.bindsN fun _ _ _ _ _ _ us hl => match us, hl with | [], _ => rfl⟩⟩
  have C_number_of : Cl P w K mg base 3 "number_of" (spNum K) := ⟨⟨_, _, ["one"], fn_number_of F_number_of C_turnings, G_number_of, F_number_of.kp, F_number_of.bindsN fun _ _ _ _ _ _ us hl => match us, hl with | [_], _ => rfl⟩⟩
  have C_after : Cl P w K mg base 4 "after" (spAft K) := ⟨⟨_, _, ["one", "other"], fn_after D_AXES F_after G_AXES C_turnings C_number_of N_tuple, G_after, F_after.kp, F_after.bindsN fun _ _ _ _ _ _ us hl => match us, hl with | [_, _], _ => rfl⟩⟩
  have C_back : Cl P w K mg base 5 "back" (spBack K) := ⟨⟨_, _, ["turn"], fn_back F_back G_MANY C_after N_range, G_back, F_back.kp, F_back.bindsN fun _ _ _ _ _ _ us hl => match us, hl with | [_], _ => rfl⟩⟩
  have C_turned : Cl P w K mg base 10 "turned" (spTurned K) := ⟨⟨_, _, ["solid", "turn"], fn_turned D_AXES F_turned G_AXES C_turnings C_boxes_of C_of_boxes N_sorted N_tuple, G_turned, F_turned.kp, F_turned.bindsN fun _ _ _ _ _ _ us hl => match us, hl with | [_, _], _ => rfl⟩⟩
  have C_placed : Cl P w K mg base 11 "placed" (spPl K) := ⟨⟨_, _, ["setup", "solid"], fn_placed F_placed C_turned C_moved, G_placed, F_placed.kp, F_placed.bindsN fun _ _ _ _ _ _ us hl => match us, hl with | [_, _], _ => rfl⟩⟩
  have C_taken_back : Cl P w K mg base 11 "taken_back" (spTb K) := ⟨⟨_, _, ["setup", "solid"], fn_taken_back F_taken_back C_moved C_back C_turned N_tuple, G_taken_back, F_taken_back.kp, F_taken_back.bindsN fun _ _ _ _ _ _ us hl => match us, hl with | [_, _], _ => rfl⟩⟩
  have C_free_lot : Cl P w K mg base 12 "free_lot" (spFr K) := ⟨⟨_, _, ["job", "setup", "tool", "rest"], fn_free_lot F_free_lot C_placed C_union C_barred C_travel_lot C_less, G_free_lot, F_free_lot.kp, F_free_lot.bindsN fun _ _ _ _ _ _ us hl => match us, hl with | [_, _, _, _], _ => rfl⟩⟩
  have C_cut_by : Cl P w K mg base 12 "cut_by" (spCut K) := ⟨⟨_, _, ["setup", "tool", "lot", "rest"], fn_cut_by F_cut_by C_placed C_swept C_meet C_taken_back, G_cut_by, F_cut_by.kp, F_cut_by.bindsN fun _ _ _ _ _ _ us hl => match us, hl with | [_, _, _, _], _ => rfl⟩⟩
  have C_closure : Cl P w K mg base 13 "closure" (spClo K) := ⟨⟨_, _, ["job"], fn_closure F_closure C_free_lot C_piece_with C_cut_by C_less N_enumerate N_range N_len N_tuple, G_closure, F_closure.kp, F_closure.bindsN fun _ _ _ _ _ _ us hl => match us, hl with | [_], _ => rfl⟩⟩
  have C__law_cell_at : Cl P w K mg base 1 "_law_cell_at" (spCellAt K) := ⟨⟨_, _, ["_law_script", "_law_k"], fn_cell_at F__law_cell_at N_len, G__law_cell_at, F__law_cell_at.kp, F__law_cell_at.bindsN fun _ _ _ _ _ _ us hl => match us, hl with | [_, _], _ => rfl⟩⟩
  have C__law_draw : Cl P w K mg base 1 "_law_draw" (spDraw K) := ⟨⟨_, _, ["_law_cell", "_law_k", "_law_bound"], fn_draw F__law_draw N_int, G__law_draw, F__law_draw.kp, F__law_draw.bindsN fun _ _ _ _ _ _ us hl => match us, hl with | [_, _, _], _ => rfl⟩⟩
  have C__law_number : Cl P w K mg base 2 "_law_number" (spNumb K) := ⟨⟨_, _, ["_law_cell", "_law_k", "_law_bound"], fn_number F__law_number C__law_draw N_range N_int, G__law_number, F__law_number.kp, F__law_number.bindsN fun _ _ _ _ _ _ us hl => match us, hl with | [_, _, _], _ => rfl⟩⟩
  have C__law_next : Cl P w K mg base 3 "_law_next" (spNext K) := ⟨⟨_, _, ["_law_draw_here", "_law_bound"], fn_next F__law_next C__law_cell_at C__law_number N_int, G__law_next, F__law_next.kp, F__law_next.bindsN fun _ _ _ _ _ _ us hl => match us, hl with | [_, _], _ => rfl⟩⟩
  have C__law_pick : Cl P w K mg base 4 "_law_pick" (spPick K) := ⟨⟨_, _, ["_law_draw_here", "_law_things"], fn_pick F__law_pick C__law_next N_len, G__law_pick, F__law_pick.kp, F__law_pick.bindsN fun _ _ _ _ _ _ us hl => match us, hl with | [_, _], _ => rfl⟩⟩
  have C__law_box : Cl P w K mg base 4 "_law_box" (spLb K) := ⟨⟨_, _, ["_law_draw_here", "_law_low", "_law_high"], fn_law_box F__law_box C__law_next C_box N_tuple, G__law_box, F__law_box.kp, F__law_box.bindsN fun _ _ _ _ _ _ us hl => match us, hl with | [_, _, _], _ => rfl⟩⟩
  have C__law_tool : Cl P w K mg base 8 "_law_tool" (spTool K) := ⟨⟨_, _, ["_law_draw_here", "_law_name"], fn_tool F__law_tool C__law_next C_box C_union, G__law_tool, F__law_tool.kp, F__law_tool.bindsN fun _ _ _ _ _ _ us hl => match us, hl with | [_, _], _ => rfl⟩⟩
  have C__law_job : Cl P w K mg base 11 "_law_job" (spJob K) := ⟨⟨_, _, ["_law_draw_here"], fn_job F__law_job C__law_next C_box C__law_box C_less C__law_tool C_turned C_bounds N_range N_tuple N_str, G__law_job, F__law_job.kp, F__law_job.bindsN fun _ _ _ _ _ _ us hl => match us, hl with | [_], _ => rfl⟩⟩
  have C__law_cubes : Cl P w K mg base 1 "_law_cubes" (spCub K) := ⟨⟨_, _, ["_law_solid_here"], fn_cubes F__law_cubes N_range, G__law_cubes, F__law_cubes.kp, F__law_cubes.bindsN fun _ _ _ _ _ _ us hl => match us, hl with | [_], _ => rfl⟩⟩
  have C__law_at : Cl P w K mg base 1 "_law_at" (spAt K) := ⟨⟨_, _, ["_law_cubes_here", "_law_place"], fn_at F__law_at, G__law_at, F__law_at.kp, F__law_at.bindsN fun _ _ _ _ _ _ us hl => match us, hl with | [_, _], _ => rfl⟩⟩
  have C__law_hits : Cl P w K mg base 1 "_law_hits" (spHit K) := ⟨⟨_, _, ["_law_cubes_here", "_law_place", "_law_others"], fn_hits F__law_hits, G__law_hits, F__law_hits.kp, F__law_hits.bindsN fun _ _ _ _ _ _ us hl => match us, hl with | [_, _, _], _ => rfl⟩⟩
  have C__law_next_to : Cl P w K mg base 1 "_law_next_to" (spNear K) := ⟨⟨_, _, ["_law_place"], fn_near F__law_next_to, G__law_next_to, F__law_next_to.kp, F__law_next_to.bindsN fun _ _ _ _ _ _ us hl => match us, hl with | [_], _ => rfl⟩⟩
  have C__law_is_in : Cl P w K mg base 1 "_law_is_in" (spIn K) := ⟨⟨_, _, ["_law_machine", "_law_place"], fn_is_in F__law_is_in N_zip, G__law_is_in, F__law_is_in.kp, F__law_is_in.bindsN fun _ _ _ _ _ _ us hl => match us, hl with | [_, _], _ => rfl⟩⟩
  have C__law_solid : Cl P w K mg base 8 "_law_solid" (spSd K) := ⟨⟨_, _, ["_law_cubes_here"], fn_solid F__law_solid C_box C_union N_sorted, G__law_solid, F__law_solid.kp, F__law_solid.bindsN fun _ _ _ _ _ _ us hl => match us, hl with | [_], _ => rfl⟩⟩
  exact fn_law F_law C__law_job C_closure C__law_pick C_placed C__law_cubes C__law_next_to C__law_next C__law_is_in C__law_hits C__law_at C__law_solid C_taken_back C_is_within N_range N_sorted N_zip N_tuple
end Sw
open PySem PySem.W PySem.Calls PyProof.Rows
theorem PySem.Challenge.cw_shopwhole_k47_whole_no_program_holds : PySem.Challenge.rw_shopwhole_k47_whole_no_program.Holds := by
  w_on; o_law
  refine HandSHeadRun.head_any (r := OpenLaw.row PySem.Challenge.rw_shopwhole_k47_whole_no_program) (q := view (OpenLaw.row PySem.Challenge.rw_shopwhole_k47_whole_no_program).prog [58]) (H := Sw.hk) (ob := Sw.ob) (M := 4000) (loose := Sw.loose) (d := HandSHeadRun.topDef (OpenLaw.row PySem.Challenge.rw_shopwhole_k47_whole_no_program).prog 58) (kwd := []) Sw.ob_eq
    (by kernel_rfl) (fun s => by kernel_rfl) Sw.run (by kernel_rfl) (by kernel_rfl) (by kernel_rfl) (by rfl) (by first | assumption | decide +kernel) (by decide +kernel) ⟨rfl, rfl, rfl, rfl, rfl, by decide +kernel⟩ ?hw ?hc
  case hw => w_witness2
  case hc =>
    refine L2.walk_ofE (l := PySem.Challenge.rw_shopwhole_k47_whole_no_program) (n := 63) (k := 14) (x := "_law_script") (CX := L2.CX0) rfl (by decide) (by kernel_rfl) ⟨rfl, by decide, by decide⟩ ?F (fun _ _ _ _ z => z)
    intro w mg fa h Y G hmg0
    obtain ⟨K, KX, c⟩ := Y
    have hmg : mg ("law" : PySem.Str) = some (.ref fa) := by
      have e : (HandSHeadRun.topDef (OpenLaw.row PySem.Challenge.rw_shopwhole_k47_whole_no_program).prog 58).name = ("law" : PySem.Str) := by kernel_rfl
      rw [← e]
      exact hmg0
    obtain ⟨fd, hb, hF⟩ := Sw.facts (P := (PySem.Challenge.rw_shopwhole_k47_whole_no_program).prog) (w := w) KX G hmg c.t.d c.more
    refine ⟨K, fd, Sw.spLaw K, KX, hb, fun H a ns hl _ hS => ?_, hF⟩
    exact Sw.law_start hS
