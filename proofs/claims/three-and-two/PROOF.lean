import PyProof.Rows.All
import Wide.All
import OpenK.AllK
import Wide.FinOn
import HandS.ForMost
import HandS.Defaults
import PySem.Challenge.RW_breakplans_k42_whole_three_and_two
import HandS.Deep
import HandS.TupAny
import HandS.IsInst
import HandS.Conv
import HandS.Zip
import HandS.DictComp
import HandS.Style
import KE.SortData
import PyProof.Rows.InDataRows
import PyProof.TupleOfSeq
import HandS.Walk
import HandS.Text
import KE.GoesComp
import KE.GoesMore
import HandS.TupLen
import HandS.WordsDict
import HandS.Lambda
import HandS.SortKw
import KE.SortKeyHeap
import KE.GoesEnum
import KE.KDictZip
import KE.KStateDown
import HandS.Head0
import HandS.Head1
import HandS.Head2
import HandS.HeadEnd
import HandS.HeadHook1
import HandS.HeadHook2
import HandS.HeadHook3
import HandS.HeadHook4
import HandS.HeadWalk
set_option Elab.async false
set_option linter.all false
set_option maxRecDepth 100000
namespace Bp
open PySem PySem.Spec L2 PyProof.Rows
def top (i : Nat) : Stmt := PySem.Challenge.pw_breakplans_k42_whole_three_and_two.main.body.getD i (.Pass ⟨0, 0, 0, 0⟩)
abbrev s_is_list : Stmt := top 9
abbrev s_is_name : Stmt := top 10
abbrev s_checked_hands : Stmt := top 11
abbrev s_is_hand_of : Stmt := top 12
abbrev s_checked_roads : Stmt := top 14
abbrev s_are_unlike : Stmt := top 15
abbrev s_is_within : Stmt := top 16
abbrev s_in_choices : Stmt := top 17
abbrev s_checked_greatest : Stmt := top 18
abbrev s_B_init : Stmt := inClass (top 19) 0
abbrev s_B_hands : Stmt := inClass (top 19) 1
abbrev s_B_roads : Stmt := inClass (top 19) 2
abbrev s_B_greatest : Stmt := inClass (top 19) 3
abbrev s_B_near : Stmt := inClass (top 19) 4
abbrev s_B_eq : Stmt := inClass (top 19) 5
abbrev s_three_bands : Stmt := top 20
abbrev s_reached : Stmt := top 21
abbrev s_parting_bands : Stmt := top 22
abbrev s_hand_pairs : Stmt := top 23
abbrev s_parted : Stmt := top 24
abbrev s_sure_pairs : Stmt := top 25
abbrev s_bands_agree : Stmt := top 26
abbrev s_l_pairs : Stmt := top 28
abbrev s_l_ring : Stmt := top 29
abbrev s_l_net : Stmt := top 30
abbrev s_l_bands_made : Stmt := top 31
abbrev s_l_near : Stmt := top 32
abbrev s_l_ways : Stmt := top 33
abbrev s_l_sets : Stmt := top 34
abbrev s_l_is_in : Stmt := top 35
abbrev s_l_all_bands : Stmt := top 36
abbrev s_l_greatest : Stmt := top 37
abbrev s_l_is_free : Stmt := top 38
abbrev s_l_unions : Stmt := top 39
abbrev s_l_is_parted : Stmt := top 40
abbrev s_l_is_held_by_three : Stmt := top 41
abbrev s_l_start : Stmt := top 42
abbrev s_l_draw : Stmt := top 43
abbrev s_l_mixed : Stmt := top 44
abbrev s_l_same : Stmt := top 45
abbrev s_l_each_once : Stmt := top 46
abbrev s_l_hands : Stmt := top 47
abbrev s_l_loose : Stmt := top 48
abbrev s_l_three_due : Stmt := top 49
abbrev s_l_parted_due : Stmt := top 50
abbrev s_law : Stmt := top 51
abbrev n_is_list : List Str := ["thing"]
theorem sc_is_list : FnScope n_is_list ["thing"] (defScope s_is_list) := ⟨rfl, rfl, rfl, by decide +kernel, rfl, by decide +kernel, by decide +kernel⟩
abbrev n_is_name : List Str := ["thing", "sign"]
theorem sc_is_name : FnScope n_is_name ["thing"] (defScope s_is_name) := ⟨rfl, rfl, rfl, by decide +kernel, rfl, by decide +kernel, by decide +kernel⟩
abbrev n_checked_hands : List Str := ["hands", "found", "index", "hand"]
theorem sc_checked_hands : FnScope n_checked_hands ["hands"] (defScope s_checked_hands) := ⟨rfl, rfl, rfl, by decide +kernel, rfl, by decide +kernel, by decide +kernel⟩
abbrev n_is_hand_of : List Str := ["thing", "hands"]
theorem sc_is_hand_of : FnScope n_is_hand_of ["thing", "hands"] (defScope s_is_hand_of) := ⟨rfl, rfl, rfl, by decide +kernel, rfl, by decide +kernel, by decide +kernel⟩
abbrev n_checked_roads : List Str := ["roads", "hands", "found", "index", "road", "hand", "pair"]
theorem sc_checked_roads : FnScope n_checked_roads ["roads", "hands"] (defScope s_checked_roads) := ⟨rfl, rfl, rfl, by decide +kernel, rfl, by decide +kernel, by decide +kernel⟩
abbrev n_are_unlike : List Str := ["thing", "hands", "hand"]
theorem sc_are_unlike : FnScope n_are_unlike ["thing", "hands"] (defScope s_are_unlike) := ⟨rfl, rfl, rfl, by decide +kernel, rfl, by decide +kernel, by decide +kernel⟩
abbrev n_is_within : List Str := ["one", "other", "hand"]
theorem sc_is_within : FnScope n_is_within ["one", "other"] (defScope s_is_within) := ⟨rfl, rfl, rfl, by decide +kernel, rfl, by decide +kernel, by decide +kernel⟩
abbrev n_in_choices : List Str := ["sets", "one"]
theorem sc_in_choices : FnScope n_in_choices ["sets"] (defScope s_in_choices) := ⟨rfl, rfl, rfl, by decide +kernel, rfl, by decide +kernel, by decide +kernel⟩
abbrev n_checked_greatest : List Str := ["greatest", "hands", "found", "index", "thing", "every", "one", "other"]
theorem sc_checked_greatest : FnScope n_checked_greatest ["greatest", "hands"] (defScope s_checked_greatest) := ⟨rfl, rfl, rfl, by decide +kernel, rfl, by decide +kernel, by decide +kernel⟩
abbrev n_B_init : List Str := ["self", "hands", "roads", "greatest"]
theorem sc_B_init : FnScope n_B_init ["self", "hands", "roads", "greatest"] (defScope s_B_init) := ⟨rfl, rfl, rfl, by decide +kernel, rfl, by decide +kernel, by decide +kernel⟩
abbrev n_B_hands : List Str := ["self"]
theorem sc_B_hands : FnScope n_B_hands ["self"] (defScope s_B_hands) := ⟨rfl, rfl, rfl, by decide +kernel, rfl, by decide +kernel, by decide +kernel⟩
abbrev n_B_roads : List Str := ["self"]
theorem sc_B_roads : FnScope n_B_roads ["self"] (defScope s_B_roads) := ⟨rfl, rfl, rfl, by decide +kernel, rfl, by decide +kernel, by decide +kernel⟩
abbrev n_B_greatest : List Str := ["self"]
theorem sc_B_greatest : FnScope n_B_greatest ["self"] (defScope s_B_greatest) := ⟨rfl, rfl, rfl, by decide +kernel, rfl, by decide +kernel, by decide +kernel⟩
abbrev n_B_near : List Str := ["self", "hand", "other"]
theorem sc_B_near : FnScope n_B_near ["self", "hand"] (defScope s_B_near) := ⟨rfl, rfl, rfl, by decide +kernel, rfl, by decide +kernel, by decide +kernel⟩
abbrev n_three_bands : List Str := ["bands", "every", "at", "one", "later", "two", "three"]
theorem sc_three_bands : FnScope n_three_bands ["bands"] (defScope s_three_bands) := ⟨rfl, rfl, rfl, by decide +kernel, rfl, by decide +kernel, by decide +kernel⟩
abbrev n_reached : List Str := ["bands", "start", "gone", "found", "_", "some", "one", "other"]
theorem sc_reached : FnScope n_reached ["bands", "start", "gone"] (defScope s_reached) := ⟨rfl, rfl, rfl, by decide +kernel, rfl, by decide +kernel, by decide +kernel⟩
abbrev n_parting_bands : List Str := ["bands", "one", "other", "every", "hand", "band", "at", "first", "second"]
theorem sc_parting_bands : FnScope n_parting_bands ["bands", "one", "other"] (defScope s_parting_bands) := ⟨rfl, rfl, rfl, by decide +kernel, rfl, by decide +kernel, by decide +kernel⟩
abbrev n_hand_pairs : List Str := ["hands", "at", "one", "other"]
theorem sc_hand_pairs : FnScope n_hand_pairs ["hands"] (defScope s_hand_pairs) := ⟨rfl, rfl, rfl, by decide +kernel, rfl, by decide +kernel, by decide +kernel⟩
abbrev n_parted : List Str := ["bands", "one", "other", "pair"]
theorem sc_parted : FnScope n_parted ["bands"] (defScope s_parted) := ⟨rfl, rfl, rfl, by decide +kernel, rfl, by decide +kernel, by decide +kernel⟩
abbrev n_sure_pairs : List Str := ["bands", "one", "other"]
theorem sc_sure_pairs : FnScope n_sure_pairs ["bands"] (defScope s_sure_pairs) := ⟨rfl, rfl, rfl, by decide +kernel, rfl, by decide +kernel, by decide +kernel⟩
abbrev n_bands_agree : List Str := ["bands"]
theorem sc_bands_agree : FnScope n_bands_agree ["bands"] (defScope s_bands_agree) := ⟨rfl, rfl, rfl, by decide +kernel, rfl, by decide +kernel, by decide +kernel⟩
abbrev n_l_pairs : List Str := ["_law_hands_here", "_law_found", "_law_at", "_law_one", "_law_other"]
theorem sc_l_pairs : FnScope n_l_pairs ["_law_hands_here"] (defScope s_l_pairs) := ⟨rfl, rfl, rfl, by decide +kernel, rfl, by decide +kernel, by decide +kernel⟩
abbrev n_l_ring : List Str := ["_law_stream", "_law_hands_here", "_law_row", "_law_pair"]
theorem sc_l_ring : FnScope n_l_ring ["_law_stream", "_law_hands_here"] (defScope s_l_ring) := ⟨rfl, rfl, rfl, by decide +kernel, rfl, by decide +kernel, by decide +kernel⟩
abbrev n_l_net : List Str := ["_law_stream", "_law_many", "_law_size", "_law_most", "_law_hands_here", "_law_way", "_law_ring_here", "_law_roads", "_law_pair", "_law_few", "_law_half", "_law_greatest_here", "_law_k"]
theorem sc_l_net : FnScope n_l_net ["_law_stream", "_law_many", "_law_size", "_law_most"] (defScope s_l_net) := ⟨rfl, rfl, rfl, by decide +kernel, rfl, by decide +kernel, by decide +kernel⟩
abbrev n_l_bands_made : List Str := ["_law_stream", "_law_net_here", "_law_hands_here", "_law_roads", "_law_greatest_here", "_law_turned", "_law_pair", "_law_some", "_law_band"]
theorem sc_l_bands_made : FnScope n_l_bands_made ["_law_stream", "_law_net_here"] (defScope s_l_bands_made) := ⟨rfl, rfl, rfl, by decide +kernel, rfl, by decide +kernel, by decide +kernel⟩
abbrev n_l_near : List Str := ["_law_roads", "_law_hand", "_law_found", "_law_pair"]
theorem sc_l_near : FnScope n_l_near ["_law_roads", "_law_hand"] (defScope s_l_near) := ⟨rfl, rfl, rfl, by decide +kernel, rfl, by decide +kernel, by decide +kernel⟩
abbrev n_l_ways : List Str := ["_law_roads", "_law_one", "_law_other", "_law_found", "_law_level", "_law_turn", "_law_longer", "_law_way", "_law_hand"]
theorem sc_l_ways : FnScope n_l_ways ["_law_roads", "_law_one", "_law_other"] (defScope s_l_ways) := ⟨rfl, rfl, rfl, by decide +kernel, rfl, by decide +kernel, by decide +kernel⟩
abbrev n_l_sets : List Str := ["_law_things", "_law_found", "_law_thing", "_law_some", "_law_row"]
theorem sc_l_sets : FnScope n_l_sets ["_law_things"] (defScope s_l_sets) := ⟨rfl, rfl, rfl, by decide +kernel, rfl, by decide +kernel, by decide +kernel⟩
abbrev n_l_is_in : List Str := ["_law_some", "_law_sets_here", "_law_thing", "_law_one"]
theorem sc_l_is_in : FnScope n_l_is_in ["_law_some", "_law_sets_here"] (defScope s_l_is_in) := ⟨rfl, rfl, rfl, by decide +kernel, rfl, by decide +kernel, by decide +kernel⟩
abbrev n_l_all_bands : List Str := ["_law_net_here", "_law_some"]
theorem sc_l_all_bands : FnScope n_l_all_bands ["_law_net_here"] (defScope s_l_all_bands) := ⟨rfl, rfl, rfl, by decide +kernel, rfl, by decide +kernel, by decide +kernel⟩
abbrev n_l_greatest : List Str := ["_law_net_here", "_law_every", "_law_one", "_law_other"]
theorem sc_l_greatest : FnScope n_l_greatest ["_law_net_here"] (defScope s_l_greatest) := ⟨rfl, rfl, rfl, by decide +kernel, rfl, by decide +kernel, by decide +kernel⟩
abbrev n_l_is_free : List Str := ["_law_way", "_law_some", "_law_hand"]
theorem sc_l_is_free : FnScope n_l_is_free ["_law_way", "_law_some"] (defScope s_l_is_free) := ⟨rfl, rfl, rfl, by decide +kernel, rfl, by decide +kernel, by decide +kernel⟩
abbrev n_l_unions : List Str := ["_law_bands", "_law_found", "_law_one", "_law_other"]
theorem sc_l_unions : FnScope n_l_unions ["_law_bands"] (defScope s_l_unions) := ⟨rfl, rfl, rfl, by decide +kernel, rfl, by decide +kernel, by decide +kernel⟩
abbrev n_l_is_parted : List Str := ["_law_net_here", "_law_one", "_law_other", "_law_bands", "_law_band", "_law_ways_here", "_law_way", "_law_some"]
theorem sc_l_is_parted : FnScope n_l_is_parted ["_law_net_here", "_law_one", "_law_other"] (defScope s_l_is_parted) := ⟨rfl, rfl, rfl, by decide +kernel, rfl, by decide +kernel, by decide +kernel⟩
abbrev n_l_is_held_by_three : List Str := ["_law_net_here", "_law_bands", "_law_some", "_law_rest", "_law_hand"]
theorem sc_l_is_held_by_three : FnScope n_l_is_held_by_three ["_law_net_here"] (defScope s_l_is_held_by_three) := ⟨rfl, rfl, rfl, by decide +kernel, rfl, by decide +kernel, by decide +kernel⟩
abbrev n_l_start : List Str := ["_law_script"]
theorem sc_l_start : FnScope n_l_start ["_law_script"] (defScope s_l_start) := ⟨rfl, rfl, rfl, by decide +kernel, rfl, by decide +kernel, by decide +kernel⟩
abbrev n_l_draw : List Str := ["_law_stream", "_law_many", "_law_cell", "_law_digit", "_law_mixed_here"]
theorem sc_l_draw : FnScope n_l_draw ["_law_stream", "_law_many"] (defScope s_l_draw) := ⟨rfl, rfl, rfl, by decide +kernel, rfl, by decide +kernel, by decide +kernel⟩
abbrev n_l_mixed : List Str := ["_law_stream", "_law_some", "_law_left", "_law_k"]
theorem sc_l_mixed : FnScope n_l_mixed ["_law_stream", "_law_some"] (defScope s_l_mixed) := ⟨rfl, rfl, rfl, by decide +kernel, rfl, by decide +kernel, by decide +kernel⟩
abbrev n_l_same : List Str := ["_law_found", "_law_due", "_law_x", "_law_y"]
theorem sc_l_same : FnScope n_l_same ["_law_found", "_law_due"] (defScope s_l_same) := ⟨rfl, rfl, rfl, by decide +kernel, rfl, by decide +kernel, by decide +kernel⟩
abbrev n_l_each_once : List Str := ["_law_things", "_law_found", "_law_thing"]
theorem sc_l_each_once : FnScope n_l_each_once ["_law_things"] (defScope s_l_each_once) := ⟨rfl, rfl, rfl, by decide +kernel, rfl, by decide +kernel, by decide +kernel⟩
abbrev n_l_hands : List Str := ["_law_stream", "_law_many"]
theorem sc_l_hands : FnScope n_l_hands ["_law_stream", "_law_many"] (defScope s_l_hands) := ⟨rfl, rfl, rfl, by decide +kernel, rfl, by decide +kernel, by decide +kernel⟩
abbrev n_l_loose : List Str := ["_law_stream", "_law_thing", "_law_found", "_law_part"]
theorem sc_l_loose : FnScope n_l_loose ["_law_stream", "_law_thing"] (defScope s_l_loose) := ⟨rfl, rfl, rfl, by decide +kernel, rfl, by decide +kernel, by decide +kernel⟩
abbrev n_l_three_due : List Str := ["_law_net_here", "_law_every", "_law_at", "_law_one", "_law_later", "_law_two", "_law_last", "_law_three", "_law_hand"]
theorem sc_l_three_due : FnScope n_l_three_due ["_law_net_here"] (defScope s_l_three_due) := ⟨rfl, rfl, rfl, by decide +kernel, rfl, by decide +kernel, by decide +kernel⟩
abbrev n_l_parted_due : List Str := ["_law_net_here", "_law_one", "_law_other", "_law_ways_here", "_law_every", "_law_hand", "_law_band", "_law_at", "_law_first", "_law_second", "_law_way"]
theorem sc_l_parted_due : FnScope n_l_parted_due ["_law_net_here"] (defScope s_l_parted_due) := ⟨rfl, rfl, rfl, by decide +kernel, rfl, by decide +kernel, by decide +kernel⟩
abbrev n_law : List Str := ["_law_script", "_law_stream", "_law_turn", "_law_net_here", "_law_hands_here", "_law_roads", "_law_greatest_here", "_law_made", "_law_three", "_law_two", "_law_sure", "_law_pair", "_law_lacking", "_law_wide", "_law_less"]
theorem sc_law : FnScope n_law ["_law_script"] (defScope s_law) := ⟨rfl, rfl, rfl, by decide +kernel, rfl, by decide +kernel, by decide +kernel⟩
end Bp

set_option Elab.async false
set_option linter.all false
set_option maxRecDepth 100000
set_option maxHeartbeats 1000001
namespace Bp
open PySem PySem.Spec L2 PyProof.Rows

/-! ### what is known (G) of what stands (H) -/
structure GrM (M : Addr → Prop) (G H G' H' : Hp) : Prop where
  gg : Same G G'
  gh : Same G' H'
  hh : ∀ a o, H a = some o → ¬ M a → H' a = some o
  dom : ∀ a, H' a = none → H a = none
  new : ∀ a, G a = none → H a ≠ none → G' a = none ∨ ∃ xs, H a = some (.tup xs)
  tup : ∀ a xs, H' a = some (.tup xs) → H a ≠ none → H a = some (.tup xs)
abbrev Gr := GrM fun _ => False
theorem GrM.same {G H G' H' : Hp} (g : GrM (fun _ => False) G H G' H') : Same H H' := fun a o e => g.hh a o e (fun z => z)
theorem same_tup {H H' : Hp} (s : Same H H') : ∀ a xs, H' a = some (.tup xs) → H a ≠ none → H a = some (.tup xs) := fun a xs e n => by
  cases q : H a with
  | none => exact (n q).elim
  | some o => have w := s _ _ q; rw [e] at w; exact w.symm
theorem Gr.mk' {G H G' H' : Hp} (gg : Same G G') (gh : Same G' H') (hh : Same H H') (new : ∀ a, G a = none → H a ≠ none → G' a = none) : Gr G H G' H' :=
  ⟨gg, gh, fun a o e _ => hh a o e, fun _ e => hh.free e, fun a e n => .inl (new a e n), same_tup hh⟩
theorem Gr.refl {G H : Hp} (g : Same G H) : Gr G H G H := Gr.mk' (Same.refl _) g (Same.refl _) fun _ e _ => e
theorem GrM.refl {M : Addr → Prop} {G H : Hp} (g : Same G H) : GrM M G H G H := ⟨Same.refl _, g, fun _ _ e _ => e, fun _ e => e, fun _ e _ => .inl e, fun _ _ e _ => e⟩
theorem GrM.weak {M M' : Addr → Prop} {G H G' H' : Hp} (g : GrM M G H G' H') (m : ∀ a, M a → M' a) : GrM M' G H G' H' :=
  ⟨g.gg, g.gh, fun a o e n => g.hh a o e fun z => n (m a z), g.dom, g.new, g.tup⟩
theorem Gr.toM {M : Addr → Prop} {G H G' H' : Hp} (g : Gr G H G' H') : GrM M G H G' H' := GrM.weak g fun _ z => z.elim
theorem GrM.trans {M : Addr → Prop} {G H G1 H1 G2 H2 : Hp} (a : GrM M G H G1 H1) (b : GrM M G1 H1 G2 H2) : GrM M G H G2 H2 :=
  ⟨a.gg.trans b.gg, b.gh, fun x o e n => b.hh x o (a.hh x o e n) n, fun x e => a.dom x (b.dom x e), fun x e n => (a.new x e n).elim (fun e1 => (b.new x e1 fun z => n (a.dom x z)).imp id fun ⟨xs, w⟩ => ⟨xs, a.tup x xs w n⟩) .inr, fun x xs e n => a.tup x xs (b.tup x xs e fun z => n (a.dom x z)) n⟩
/-- what was not known and stood is not known now, but for a tuple -/
theorem GrM.out {M : Addr → Prop} {G H G' H' : Hp} (g : GrM M G H G' H') {a : Addr} {o : HO} (e : G a = none) (n : H a = some o) (t : ∀ xs, o ≠ .tup xs) : G' a = none :=
  (g.new a e (by rw [n]; simp)).elim id fun ⟨xs, w⟩ => absurd (Option.some.inj (n.symm.trans w)) (t xs)
theorem GrM.outL {M : Addr → Prop} {G H G' H' : Hp} (g : GrM M G H G' H') {a : Addr} {vs : List V} (e : G a = none) (n : H a = some (.lst vs)) : G' a = none := g.out e n fun _ z => nomatch z
/-- the step back to what M may change: an object that neither was known nor stood at the start may be changed -/
theorem GrM.mutM {M : Addr → Prop} {G H G' H' : Hp} (g : GrM M G H G' H') {p : Addr} {o : HO} (h : (M p ∧ ∀ xs, o ≠ .tup xs) ∨ H p = none) (e : G' p = none) : GrM M G H G' (upd H' p o) := by
  refine ⟨g.gg, fun a u ha => ?_, fun a u ha n => ?_, fun a ha => ?_, g.new, fun a xs ha n => ?_⟩
  · rw [upd_ne (ne_of_none ha e)]; exact g.gh a u ha
  · have : a ≠ p := by
      rintro rfl
      rcases h with h | h
      · exact n h.1
      · rw [h] at ha; cases ha
    rw [upd_ne this]; exact g.hh a u ha n
  · by_cases q : a = p
    · subst q; rw [upd_same] at ha; cases ha
    · rw [upd_ne q] at ha; exact g.dom a ha
  · by_cases q : a = p
    · subst q
      rw [upd_same] at ha
      rcases h with h | h
      · exact (h.2 xs (Option.some.inj ha)).elim
      · exact (n h).elim
    · rw [upd_ne q] at ha; exact g.tup a xs ha n
theorem GrM.mut {M : Addr → Prop} {G H G' H' : Hp} (g : GrM M G H G' H') {p : Addr} {o : HO} (h : H p = none) (e : G' p = none) : GrM M G H G' (upd H' p o) := GrM.mutM g (.inr h) e
theorem GrM.more {M : Addr → Prop} {G H G' H' H'' : Hp} (g : GrM M G H G' H') (s : Same H' H'') : GrM M G H G' H'' := ⟨g.gg, g.gh.trans s, fun a o e n => s _ _ (g.hh a o e n), fun a e => g.dom a (s.free e), g.new, fun a xs e n => g.tup a xs (same_tup s a xs e fun z => n (g.dom a z)) n⟩
/-- a new object, not yet known -/
theorem Gr.lay {G H : Hp} (g : Same G H) {p : Addr} {o : HO} (h : H p = none) : Gr G H G (upd H p o) :=
  GrM.mut (Gr.refl g) h (g.free h)
/-- a new object, known -/
theorem Gr.lay' {G H : Hp} (g : Same G H) {p : Addr} {o : HO} (h : H p = none) : Gr G H (upd G p o) (upd H p o) := by
  have hg : G p = none := g.free h
  refine Gr.mk' (fun a u e => ?_) (fun a u e => ?_) (fun a u e => ?_) fun a e n => ?_
  · rw [upd_ne (ne_of_none e hg)]; exact e
  · by_cases q : a = p
    · subst q; rw [upd_same] at e ⊢; exact e
    · rw [upd_ne q] at e ⊢; exact g a u e
  · rw [upd_ne (ne_of_none e h)]; exact e
  · by_cases q : a = p
    · subst q; exact (n h).elim
    · rw [upd_ne q]; exact e
/-- an object that stands becomes known -/
theorem GrM.know {M : Addr → Prop} {G H G' H' : Hp} (g : GrM M G H G' H') {p : Addr} {o : HO} (h : H p = none) (e : G' p = none) (s : H' p = some o) : GrM M G H (upd G' p o) H' := by
  refine ⟨fun a u ha => ?_, fun a u ha => ?_, g.hh, g.dom, fun a ha n => ?_, g.tup⟩
  · have e1 := g.gg a u ha
    rw [upd_ne (ne_of_none e1 e)]; exact e1
  · by_cases q : a = p
    · subst q; rw [upd_same] at ha; rw [s]; exact ha
    · rw [upd_ne q] at ha; exact g.gh a u ha
  · by_cases q : a = p
    · subst q; exact (n h).elim
    · rw [upd_ne q]; exact g.new a ha n
theorem same_upd {G : Hp} {p : Addr} {o : HO} (e : G p = none) : Same G (upd G p o) := fun a u ha => by
  rw [upd_ne (ne_of_none ha e)]; exact ha

/-! ### values and the data that they stand for -/
/-- an instance's fields, as Bands.__init__ stores them -/
def bfs (h r g ag : V) : List (Str × V) := putF "own_agree" ag (putF "own_greatest" g (putF "own_roads" r (putF "own_hands" h [])))
def encB (C : Addr) (h r g : PyData) : PyData := .dict [(.int (C : Int), h), (.none, r), (.none, g)]
mutual
inductive Rp (G : Hp) : V → PyData → Prop
  | non : Rp G .non .none
  | bl (b : Bool) : Rp G (.bl b) (.bool b)
  | int (i : Int) : Rp G (.int i) (.int i)
  | str (x : Str) : Rp G (.str x) (.str x)
  | lst {a : Addr} {xs : List V} {ds : List PyData} : G a = some (.lst xs) → RpAll G xs ds → Rp G (.ref a) (.list ds)
  | tup {a : Addr} {xs : List V} {ds : List PyData} : G a = some (.tup xs) → RpAll G xs ds → Rp G (.ref a) (.tuple ds)
  | ins {a C dx : Addr} {h r g ag : V} {dh dr dg : PyData} : G a = some (.ins C dx (bfs h r g ag)) → Rp G h dh → Rp G r dr → Rp G g dg → Rp G (.ref a) (encB C dh dr dg)
inductive RpAll (G : Hp) : List V → List PyData → Prop
  | nil : RpAll G [] []
  | cons {v : V} {vs : List V} {d : PyData} {ds : List PyData} : Rp G v d → RpAll G vs ds → RpAll G (v :: vs) (d :: ds)
end
section
variable {G G' H H' : Hp}
mutual
theorem Rp.mono (s : Same G G') : ∀ {v : V} {d : PyData}, Rp G v d → Rp G' v d
  | _, _, .non => .non
  | _, _, .bl b => .bl b
  | _, _, .int i => .int i
  | _, _, .str x => .str x
  | _, _, .lst h a => .lst (s _ _ h) (RpAll.mono s a)
  | _, _, .tup h a => .tup (s _ _ h) (RpAll.mono s a)
  | _, _, .ins h a b c => .ins (s _ _ h) (Rp.mono s a) (Rp.mono s b) (Rp.mono s c)
theorem RpAll.mono (s : Same G G') : ∀ {vs : List V} {ds : List PyData}, RpAll G vs ds → RpAll G' vs ds
  | _, _, .nil => .nil
  | _, _, .cons a b => .cons (Rp.mono s a) (RpAll.mono s b)
end
theorem RpAll.length : ∀ {vs : List V} {ds : List PyData}, RpAll G vs ds → vs.length = ds.length
  | _, _, .nil => rfl
  | _, _, .cons _ b => congrArg (· + 1) (RpAll.length b)
theorem RpAll.get : ∀ {vs : List V} {ds : List PyData} {i : Nat} {v : V}, RpAll G vs ds → vs[i]? = some v → ∃ d, ds[i]? = some d ∧ Rp G v d
  | _, _, i, v, .nil, e => by simp at e
  | _, _, 0, v, .cons (d := d) a _, e => by
    have e : _ = v := Option.some.inj e
    subst e
    exact ⟨d, rfl, a⟩
  | _, _, i + 1, v, .cons _ b, e => RpAll.get (i := i) b e
theorem RpAll.get' : ∀ {vs : List V} {ds : List PyData} {i : Nat} {d : PyData}, RpAll G vs ds → ds[i]? = some d → ∃ v, vs[i]? = some v ∧ Rp G v d
  | _, _, i, v, .nil, e => by simp at e
  | _, _, 0, d, .cons (v := v) a _, e => by
    have e : _ = d := Option.some.inj e
    subst e
    exact ⟨v, rfl, a⟩
  | _, _, i + 1, v, .cons _ b, e => RpAll.get' (i := i) b e
theorem RpAll.append : ∀ {vs ws : List V} {ds es : List PyData}, RpAll G vs ds → RpAll G ws es → RpAll G (vs ++ ws) (ds ++ es)
  | _, _, _, _, .nil, h => h
  | _, _, _, _, .cons a b, h => .cons a (RpAll.append b h)
theorem RpAll.take : ∀ {vs : List V} {ds : List PyData} (n : Nat), RpAll G vs ds → RpAll G (vs.take n) (ds.take n)
  | _, _, 0, _ => by simp only [List.take_zero]; exact .nil
  | _, _, _ + 1, .nil => .nil
  | _, _, n + 1, .cons a b => .cons a (RpAll.take n b)
theorem RpAll.drop : ∀ {vs : List V} {ds : List PyData} (n : Nat), RpAll G vs ds → RpAll G (vs.drop n) (ds.drop n)
  | _, _, 0, h => h
  | _, _, _ + 1, .nil => .nil
  | _, _, n + 1, .cons _ b => RpAll.drop n b
theorem RpAll.eraseIdx : ∀ {vs : List V} {ds : List PyData} (n : Nat), RpAll G vs ds → RpAll G (vs.eraseIdx n) (ds.eraseIdx n)
  | _, _, _, .nil => .nil
  | _, _, 0, .cons _ b => b
  | _, _, n + 1, .cons a b => .cons a (RpAll.eraseIdx n b)
theorem RpAll.one {v : V} {d : PyData} (h : Rp G v d) : RpAll G [v] [d] := .cons h .nil
theorem RpAll.snoc {vs : List V} {ds : List PyData} {v : V} {d : PyData} (h : RpAll G vs ds) (h' : Rp G v d) : RpAll G (vs ++ [v]) (ds ++ [d]) := h.append (.one h')
/-- flat values -/
theorem Rp.non_eq {v : V} (h : Rp G v .none) : v = .non := by cases h; rfl
theorem Rp.bl_eq {v : V} {b : Bool} (h : Rp G v (.bool b)) : v = .bl b := by cases h; rfl
theorem Rp.int_eq {v : V} {i : Int} (h : Rp G v (.int i)) : v = .int i := by cases h; rfl
theorem Rp.str_eq {v : V} {x : Str} (h : Rp G v (.str x)) : v = .str x := by cases h; rfl
theorem RpAll.strs : ∀ {vs : List V} {xs : List Str}, RpAll G vs (xs.map PyData.str) → vs = xs.map V.str
  | _, [], h => by
    have h : RpAll G _ [] := h
    cases h; rfl
  | _, x :: xs, h => by
    have h : RpAll G _ (PyData.str x :: xs.map PyData.str) := h
    cases h with
    | cons a b => rw [a.str_eq, RpAll.strs b]; rfl
theorem RpAll.bools : ∀ {vs : List V} {xs : List Bool}, RpAll G vs (xs.map PyData.bool) → vs = xs.map V.bl
  | _, [], h => by
    have h : RpAll G _ [] := h
    cases h; rfl
  | _, x :: xs, h => by
    have h : RpAll G _ (PyData.bool x :: xs.map PyData.bool) := h
    cases h with
    | cons a b => rw [a.bl_eq, RpAll.bools b]; rfl
theorem RpAll.of_strs : ∀ (xs : List Str), RpAll G (xs.map V.str) (xs.map PyData.str)
  | [] => .nil
  | x :: xs => .cons (.str x) (RpAll.of_strs xs)
theorem Rp.list_at {v : V} {ds : List PyData} (h : Rp G v (.list ds)) : ∃ a xs, v = .ref a ∧ G a = some (.lst xs) ∧ RpAll G xs ds := by
  cases h with
  | lst h a => exact ⟨_, _, rfl, h, a⟩
theorem Rp.tup_at {v : V} {ds : List PyData} (h : Rp G v (.tuple ds)) : ∃ a xs, v = .ref a ∧ G a = some (.tup xs) ∧ RpAll G xs ds := by
  cases h with
  | tup h a => exact ⟨_, _, rfl, h, a⟩
theorem Rp.ins_at {v : V} {C : Addr} {dh dr dg : PyData} (h : Rp G v (encB C dh dr dg)) : ∃ a dx h' r g ag, v = .ref a ∧ G a = some (.ins C dx (bfs h' r g ag)) ∧ Rp G h' dh ∧ Rp G r dr ∧ Rp G g dg := by
  generalize e : encB C dh dr dg = d at h
  cases h with
  | ins h a b c =>
    unfold encB at e
    simp only [PyData.dict.injEq, List.cons.injEq, Prod.mk.injEq, PyData.int.injEq, and_true, true_and] at e
    obtain ⟨⟨e1, e2⟩, e3, e4⟩ := e
    have e1' := Int.ofNat.inj e1
    subst e1' e2 e3 e4
    exact ⟨_, _, _, _, _, _, rfl, h, a, b, c⟩
  | _ => unfold encB at e; cases e
/-! ### list or tuple -/
def sq : Bool → List PyData → PyData
  | true, ds => .list ds
  | false, ds => .tuple ds
theorem Rp.sq_at {K : PySem.W.Frag} {v : V} {k : Bool} {ds : List PyData} (h : Rp G v (sq k ds)) : ∃ a xs, v = .ref a ∧ RpAll G xs ds ∧ ((k = true ∧ G a = some (.lst xs)) ∨ (k = false ∧ G a = some (.tup xs))) := by
  cases k with
  | true => obtain ⟨a, xs, e, h, r⟩ := h.list_at; exact ⟨a, xs, e, r, .inl ⟨rfl, h⟩⟩
  | false => obtain ⟨a, xs, e, h, r⟩ := h.tup_at; exact ⟨a, xs, e, r, .inr ⟨rfl, h⟩⟩
theorem sqL {K : PySem.W.Frag} {a : Addr} {xs : List V} (h : H a = some (.lst xs)) : SqL K H a xs := .inl (.inl h)
theorem sqT {K : PySem.W.Frag} {a : Addr} {xs : List V} (h : H a = some (.tup xs)) : SqT K H a xs := .inl (.inl h)
/-! ### plain data: no dict within -/
mutual
theorem Rp.dp {K : PySem.W.Frag} (s : Same G H) : ∀ {v : V} {d : PyData}, Rp G v d → d.canLay0 = true → Dp K H v d
  | _, _, .non, _ => .non
  | _, _, .bl b, _ => .bl b
  | _, _, .int i, _ => .int i
  | _, _, .str x, _ => .str x
  | _, _, .lst h a, c => .lst (sqL (s _ _ h)) (RpAll.dp s a (by simpa [PyData.canLay0] using c))
  | _, _, .tup h a, c => .tup (sqT (s _ _ h)) (RpAll.dp s a (by simpa [PyData.canLay0] using c))
  | _, _, .ins h a b c, q => absurd q (by simp [encB, PyData.canLay0])
theorem RpAll.dp {K : PySem.W.Frag} (s : Same G H) : ∀ {vs : List V} {ds : List PyData}, RpAll G vs ds → PyData.canLayAll0 ds = true → DpAll K H vs ds
  | _, _, .nil, _ => .nil
  | _, _, .cons a b, c => by
    simp only [PyData.canLayAll0, Bool.and_eq_true] at c
    exact .cons (Rp.dp s a c.1) (RpAll.dp s b c.2)
end
end
end Bp

set_option Elab.async false
set_option linter.all false
set_option maxRecDepth 100000
set_option maxHeartbeats 1000001
namespace Bp
open PySem PySem.Spec L2 PyProof.Rows
section
variable {X : Cx}
/-! ### in, of data -/
def rInU (K : PySem.W.Frag) (neg : Bool) : R2 := fun x y H Q => ∃ d k ds, Dp K H x d ∧ Dp K H y (sq k ds) ∧ SeqAt.shaped d = true ∧ SeqAt.shaped (sq k ds) = true ∧ Q (.bl (if neg then !(ds.any fun z => PyData.eqv z d) else ds.any fun z => PyData.eqv z d)) H
theorem op_inU (hu : X.A.units + 65 < cLine) : OpR X (compareOp .In) (rInU X.K false) := fun _ s σ H x y v u Q I rx ry ⟨d, k, ds, hd, he, sd, se, q⟩ => by
  have ⟨_, r1⟩ := Dp.reads I d x v hd rx
  have ⟨_, r2⟩ := Dp.reads I (sq k ds) y u he ry
  have lay := SeqAt.canLay_of_shaped sd
  cases k
  · exact SeqAt.in_tuple_reads r2 r1 (SeqAt.canLay_of_shaped se) lay (room_in_shaped sd hu) ⟨.bl _, H, I, rfl, q⟩
  · exact SeqAt.in_list_reads r2 r1 (SeqAt.canLay_of_shaped se) lay (room_in_shaped sd hu) ⟨.bl _, H, I, rfl, q⟩
theorem op_notInU (hu : X.A.units + 65 < cLine) : OpR X (compareOp .NotIn) (rInU X.K true) := fun _ s σ H x y v u Q I rx ry ⟨d, k, ds, hd, he, sd, se, q⟩ => by
  have ⟨_, r1⟩ := Dp.reads I d x v hd rx
  have ⟨_, r2⟩ := Dp.reads I (sq k ds) y u he ry
  have lay := SeqAt.canLay_of_shaped sd
  cases k
  · exact SeqAt.notIn_tuple_reads r2 r1 (SeqAt.canLay_of_shaped se) lay (room_in_shaped sd hu) ⟨.bl _, H, I, rfl, q⟩
  · exact SeqAt.notIn_list_reads r2 r1 (SeqAt.canLay_of_shaped se) lay (room_in_shaped sd hu) ⟨.bl _, H, I, rfl, q⟩
/-! ### for over a list or a tuple -/
def iSeq (K : PySem.W.Frag) (tl : TE) : TI := fun σ H R => iList K tl σ H R ∨ iTup K tl σ H R
theorem pi_seq {tg l : Expr} {tl : TE} (hl : PE X l tl) : PI X tg l (iSeq X.K tl) :=
  ⟨fun pins s σ H R I h => h.elim ((pi_list hl).run pins s σ H R I) ((pi_tup hl).run pins s σ H R I)⟩
end
/-! ### sorted of data, out of a list or a tuple -/
/-- the order of data -/
abbrev leD : PyData → PyData → Bool := PySem.W.dataLe false id
/-- values and data, sorted by the data -/
def sortVD (l : List (V × PyData)) : List (V × PyData) := l.mergeSort (PySem.W.dataLe false (·.2))
theorem sortVD_snd (l : List (V × PyData)) : (sortVD l).map (·.2) = (l.map (·.2)).mergeSort leD := List.map_mergeSort fun _ _ _ _ => rfl
def rSortU (K : PySem.W.Frag) : List V → Hp → VK → Prop := fun vs H Q => ∃ (a : Addr) (xs : List V) (ds : List PyData), vs = [.ref a] ∧ (SqL K H a xs ∨ SqT K H a xs) ∧ DpAll K H xs ds ∧ PySem.W.AllAlike ds ∧ PySem.W.Sortable ds ∧ (∀ d ∈ ds, d.depth ≤ 50) ∧
  ∀ p, H p = none → Q (.ref p) (upd H p (.lst ((sortVD (xs.zip ds)).map (·.1))))
theorem dpAll_length {K : PySem.W.Frag} {H : Hp} : ∀ {vs : List V} {ds : List PyData}, DpAll K H vs ds → vs.length = ds.length
  | _, _, .nil => rfl
  | _, _, .cons _ b => congrArg (· + 1) (dpAll_length b)
theorem zip_snd {xs : List V} {ds : List PyData} (h : xs.length = ds.length) : (xs.zip ds).map (·.2) = ds := by
  rw [List.map_snd_zip]; omega
section
open PySem.W
variable {X : Cx} {pins : List (Addr × Obj)} {σ : L2.St} {H : Hp} {s : Shared}
theorem each_zip (I : Inv X pins σ H s) : ∀ {xs : List V} {ds : List PyData} {us : List Value}, DpAll X.K H xs ds → Vals xs us →
    EachIs (fun (v : Value) (b : V × PyData) => L2.RelV b.1 v) us (xs.zip ds) ∧ EachIs (fun (v : Value) (b : V × PyData) => ∃ as, Reads s.heap v b.2 as) us (xs.zip ds)
  | _, _, _, .nil, .nil => ⟨.nil, .nil⟩
  | _, _, _, .cons d ds, .cons r rs => ⟨.cons r (each_zip I ds rs).1, .cons (Dp.reads I _ _ _ d r) (each_zip I ds rs).2⟩
theorem each_vals : ∀ {us : List Value} {bs : List (V × PyData)}, EachIs (fun (v : Value) (b : V × PyData) => L2.RelV b.1 v) us bs → Vals (bs.map (·.1)) us
  | _, _, .nil => .nil
  | _, _, .cons h t => .cons h (each_vals t)
/-- a list whose items are known is sorted where it stands; what is wanted of the new order -/
theorem sort_new {A : Around} {E : Value → Shared → Prop} {l : Addr} {n : Nat} {us : List Value} {bs : List (V × PyData)} {Q : Value → Shared → Prop} (hl : s.heap.get? l = some (seqObj "list" us.toArray n)) (e1 : EachIs (fun (v : Value) (b : V × PyData) => L2.RelV b.1 v) us bs)
    (e2 : EachIs (fun (v : Value) (b : V × PyData) => ∃ as, Reads s.heap v b.2 as ∧ l ∉ as) us bs) (hal : AllAlike (bs.map (·.2))) (hk : Sortable (bs.map (·.2))) (hz : bs.length ≤ sizeLine) (hu : ∀ b ∈ bs, A.units + 1 + b.2.depth < cLine)
    (q : ∀ h' c out, (∀ b o, b ≠ l → s.heap.get? b = some o → h'.get? b = some o) → h'.get? l = some (seqObj "list" (List.toArray out) c) → Vals ((sortVD bs).map (·.1)) out → out.length = bs.length → Q .none { s with heap := h' }) :
    wpAny (model X.prog X.w) A (call (.builtin "list.sort") [.ref l]) Q E s :=
  list_sort_data hl e1 e2 hal hk hz hu fun out lo eo => by
    obtain ⟨c, hc⟩ := sortedHeap_at (vs := us) (out := List.toArray out) hl
    exact q _ c out (fun b o hb e => (sortedHeap_old hb (Heap.lt_size e)).trans e) hc (each_vals eo) lo
end
mutual
theorem reads_in {h : Heap} : ∀ {v : Value} {d : PyData} {as : List Addr}, Reads h v d as → ∀ a ∈ as, (h.get? a).isSome = true
  | _, _, _, .none, a, m => by cases m
  | _, _, _, .bool _, a, m => by cases m
  | _, _, _, .int _ _, a, m => by cases m
  | _, _, _, .str _ _, a, m => by cases m
  | _, _, _, .list h1 _ _ r, a, m => by
    rcases List.mem_cons.mp m with e | m
    · rw [e, h1]; rfl
    · exact readsAll_in r a m
  | _, _, _, .tuple _ _ _ r, a, m => readsAll_in r a m
  | _, _, _, .dict h1 _ _ r r', a, m => by
    rcases List.mem_append.mp m with m | m
    · rcases List.mem_cons.mp m with e | m
      · rw [e, h1]; rfl
      · exact readsAll_in r a m
    · exact readsAll_in r' a m
theorem readsAll_in {h : Heap} : ∀ {vs : List Value} {ds : List PyData} {as : List Addr}, ReadsAll h vs ds as → ∀ a ∈ as, (h.get? a).isSome = true
  | _, _, _, .nil, a, m => by cases m
  | _, _, _, .cons r t, a, m => (List.mem_append.mp m).elim (reads_in r a) (readsAll_in t a)
end
section
open PySem.W
variable {X : Cx}
theorem cr_sortedU (hu : X.A.units + 64 < cLine) : CallR X (.builtin "sorted") (rSortU X.K) := fun pins s σ H vs us Q I r ⟨a, xs, ds, evs, hs, hd, hal, hk, hdp, q⟩ => by
  subst evs
  rw [Vals.ref1 r]
  have len := dpAll_length hd
  have ez := zip_snd len
  have zl : (xs.zip ds).length = xs.length := by rw [List.length_zip]; omega
  -- the items, whatever holds them
  obtain ⟨T, o, its, n, hT, ho, hc, hdt, rv, hz⟩ : ∃ T o its n, (T = "list" ∨ T = "tuple") ∧ s.heap.get? a = some o ∧ o.cls = .type T ∧ o.data = .seq (List.toArray its) n ∧ Vals xs its ∧ xs.length ≤ sizeLine := by
    rcases hs with hs | hs
    · obtain ⟨its, rv, ⟨o, n, h1, h2, _, h3⟩, hz⟩ := I.list hs
      exact ⟨_, o, its, n, .inl rfl, h1, h2, h3, rv, hz⟩
    · obtain ⟨its, rv, ⟨o, h1, h2, n, h3⟩, hz⟩ := I.tuple hs
      exact ⟨_, o, its, n, .inr rfl, h1, h2, h3, rv, hz⟩
  obtain ⟨e1, e2⟩ := each_zip I hd rv
  have lv := rv.length
  refine Calls.call_function_entry kind_sorted plain_sorted entry_sorted (args_sorted1 _) (?_ : wpAny _ X.A.in1 (Builtin.«sorted» _) _ _ _)
  unfold Builtin.«sorted»
  refine wpAny_bind (m := checkCount _ _ _ _) (wpAny_pure (wpAny_bind (wpAny_collect_seq a hT ho hc hdt (fun h1 k1 => ?_) (by rw [List.size_toArray, ← lv]; exact hz))))
  refine wpAny_bind (wpAny_newList ?_ (by show its.length ≤ _; rw [← lv]; exact hz))
  have k2 : ∀ b o, s.heap.get? b = some o → (h1.push (seqObj "list" its.toArray 0)).get? b = some o := fun b o e => Heap.get?_push_of_some _ (k1 b o e)
  have fresh : h1.get? h1.objs.size = none := Heap.get?_none_of_le (Nat.le_refl _)
  have I1 : Inv X pins σ H { s with heap := h1 } := I.kept (t' := s.toks) k1
  refine wpAny_bind (wpAny_holding (sort_new (X := X) (s := { s with heap := h1.push (seqObj "list" its.toArray 0) }) (Heap.get?_push_size h1 rfl) e1 (e2.mono fun v b ⟨as, rd⟩ => ⟨as, PyProof.Rows.Reads.keeps k2 rd, fun m => (?mem : False)⟩) (by rw [ez]; exact hal) (by rw [ez]; exact hk) (by rw [zl]; exact hz) (fun b hb => ?dep) fun h3 c out k3 at3 hv lo => ?fin))
  case mem =>
    have := reads_in rd _ m
    cases z : s.heap.get? h1.objs.size with
    | none => rw [z] at this; cases this
    | some u => have w := k1 _ _ z; rw [fresh] at w; cases w
  case dep =>
    have := hdp b.2 (List.of_mem_zip hb).2
    show X.A.units + 1 + 1 + b.2.depth < cLine
    omega
  case fin =>
    refine wpAny_pure ⟨_, rfl, .ref h1.objs.size, upd H h1.objs.size (.lst ((sortVD (xs.zip ds)).map (·.1))), I1.laid (t' := s.toks) (fun b o e => k3 b o (fun z => ?_) (Heap.get?_push_of_some _ e)) (Nat.le_refl _) ⟨?_, out, c, hv, at3⟩, rfl, q _ (I1.hok.fresh (Nat.le_refl _))⟩
    · rw [z, fresh] at e; cases e
    · rw [hv.length, lo, zl]; exact hz
end
end Bp

set_option Elab.async false
set_option linter.all false
set_option maxRecDepth 100000
set_option maxHeartbeats 1000001
namespace Bp
open PySem PySem.Spec L2 PyProof.Rows
/-! ### what a reading evaluates to, from what is known on -/
def EvD (te : TE) (σ : L2.St) (G : Hp) (d : PyData) : Prop := ∀ G1 H1, Same G G1 → Same G1 H1 → ∀ Q : VK, (∀ v G2 H2, Gr G1 H1 G2 H2 → Rp G2 v d → Q v H2) → te σ H1 Q
def EvB (tt : TT) (σ : L2.St) (G : Hp) (b : Bool) : Prop := ∀ G1 H1, Same G G1 → Same G1 H1 → ∀ Q : Bool → Hp → Prop, (∀ H2, Same H1 H2 → Q b H2) → tt σ H1 Q
def EvA (ta : TA) (σ : L2.St) (G : Hp) (ds : List PyData) : Prop := ∀ G1 H1, Same G G1 → Same G1 H1 → ∀ Q : List V → Hp → Prop, (∀ vs G2 H2, Gr G1 H1 G2 H2 → RpAll G2 vs ds → Q vs H2) → ta σ H1 Q
def EvO (to : TO) (σ : L2.St) (G : Hp) (o : Option Int) : Prop := ∀ G1 H1, Same G G1 → Same G1 H1 → ∀ Q : Option Int → Hp → Prop, (∀ H2, Same H1 H2 → Q o H2) → to σ H1 Q
def RvD (r : R2) (G : Hp) (x y : V) (d : PyData) : Prop := ∀ G1 H1, Same G G1 → Same G1 H1 → ∀ Q : VK, (∀ v G2 H2, Gr G1 H1 G2 H2 → Rp G2 v d → Q v H2) → r x y H1 Q
def RcD (r : List V → Hp → VK → Prop) (G : Hp) (vs : List V) (d : PyData) : Prop := ∀ G1 H1, Same G G1 → Same G1 H1 → ∀ Q : VK, (∀ v G2 H2, Gr G1 H1 G2 H2 → Rp G2 v d → Q v H2) → r vs H1 Q
theorem Gr.of {G H H' : Hp} (g : Same G H) (s : Same H H') : Gr G H G H' := Gr.mk' (Same.refl _) (g.trans s) s fun _ e _ => e
section
variable {K : PySem.W.Frag} {σ : L2.St} {G G' H : Hp} {ta tb te : TE} {t u : TT} {d e f : PyData} {v : V} {ds es : List PyData}
theorem EvD.mono (h : EvD te σ G d) (s : Same G G') : EvD te σ G' d := fun G1 H1 a b Q k => h G1 H1 (s.trans a) b Q k
theorem EvB.mono {b : Bool} (h : EvB t σ G b) (s : Same G G') : EvB t σ G' b := fun G1 H1 a c Q k => h G1 H1 (s.trans a) c Q k
theorem EvD.is (h : EvD te σ G d) (q : d = e) : EvD te σ G e := q ▸ h
theorem EvB.is {a b : Bool} (h : EvB t σ G a) (q : a = b) : EvB t σ G b := q ▸ h
theorem ev_var {i : Nat} (h : σ[i]? = some (some v)) (r : Rp G v d) : EvD (tVar i) σ G d := fun G1 H1 a b Q k => ⟨v, h, k v G1 H1 (Gr.refl b) (r.mono a)⟩
theorem ev_c (r : ∀ G : Hp, Rp G v d) : EvD (tC v) σ G d := fun G1 H1 a b Q k => k v G1 H1 (Gr.refl b) (r G1)
theorem ev_int {i : Int} : EvD (tC (.int i)) σ G (.int i) := ev_c fun _ => .int i
theorem ev_str {x : Str} : EvD (tC (.str x)) σ G (.str x) := ev_c fun _ => .str x
theorem ev_bl {b : Bool} : EvD (tC (.bl b)) σ G (.bool b) := ev_c fun _ => .bl b
theorem ev_non : EvD (tC .non) σ G .none := ev_c fun _ => .non
theorem ea_nil : EvA tNil σ G [] := fun G1 H1 a b Q k => k [] G1 H1 (Gr.refl b) .nil
theorem ea_cons {tr : TA} (h : EvD ta σ G d) (hr : EvA tr σ G ds) : EvA (tCons ta tr) σ G (d :: ds) := fun G1 H1 a b Q k =>
  h G1 H1 a b _ fun v G2 H2 g2 r2 => hr G2 H2 (a.trans g2.gg) g2.gh _ fun vs G3 H3 g3 r3 => k (v :: vs) G3 H3 (g2.trans g3) (.cons (r2.mono g3.gg) r3)
theorem ea_one (h : EvD ta σ G d) : EvA (tCons ta tNil) σ G [d] := ea_cons h ea_nil
theorem ea_two (h : EvD ta σ G d) (h' : EvD tb σ G e) : EvA (tCons ta (tCons tb tNil)) σ G [d, e] := ea_cons h (ea_one h')
theorem sz {n : Nat} (h : n ≤ 16777216) : n ≤ sizeLine := by rw [sizeLine_eq]; exact h
theorem ev_tup {ta : TA} (h : EvA ta σ G ds) (hl : ds.length ≤ 16777216) : EvD (tTup ta) σ G (.tuple ds) := fun G1 H1 a b Q k =>
  h G1 H1 a b _ fun vs G2 H2 g2 r2 => ⟨by rw [r2.length]; exact sz hl, fun p hp => k _ _ _ (g2.trans (Gr.lay' g2.gh hp)) (.tup upd_same (r2.mono (same_upd (g2.gh.free hp))))⟩
theorem ev_lst {ta : TA} (h : EvA ta σ G ds) (hl : ds.length ≤ 16777216) : EvD (tLst ta) σ G (.list ds) := fun G1 H1 a b Q k =>
  h G1 H1 a b _ fun vs G2 H2 g2 r2 => ⟨by rw [r2.length]; exact sz hl, fun p hp => k _ _ _ (g2.trans (Gr.lay' g2.gh hp)) (.lst upd_same (r2.mono (same_upd (g2.gh.free hp))))⟩
/-- a new object known -/
theorem new_lst {G1 H1 : Hp} {p : Addr} {xs : List V} (g : Same G1 H1) (hp : H1 p = none) (r : RpAll G1 xs ds) : Gr G1 H1 (upd G1 p (.lst xs)) (upd H1 p (.lst xs)) ∧ Rp (upd G1 p (.lst xs)) (.ref p) (.list ds) :=
  ⟨Gr.lay' g hp, .lst upd_same (r.mono (same_upd (g.free hp)))⟩
theorem new_tup {G1 H1 : Hp} {p : Addr} {xs : List V} (g : Same G1 H1) (hp : H1 p = none) (r : RpAll G1 xs ds) : Gr G1 H1 (upd G1 p (.tup xs)) (upd H1 p (.tup xs)) ∧ Rp (upd G1 p (.tup xs)) (.ref p) (.tuple ds) :=
  ⟨Gr.lay' g hp, .tup upd_same (r.mono (same_upd (g.free hp)))⟩
/-! ### operators -/
theorem ev_op {r : R2} (ha : EvD ta σ G d) (hb : EvD tb σ G e) (hr : ∀ G1 x y, Rp G1 x d → Rp G1 y e → RvD r G1 x y f) : EvD (tOp r ta tb) σ G f := fun G1 H1 a b Q k =>
  ha G1 H1 a b _ fun x G2 H2 g2 r2 => hb G2 H2 (a.trans g2.gg) g2.gh _ fun y G3 H3 g3 r3 => hr G3 x y (r2.mono g3.gg) r3 G3 H3 (Same.refl _) g3.gh Q fun v G4 H4 g4 r4 => k v G4 H4 ((g2.trans g3).trans g4) r4
theorem shaped_lay {d : PyData} (h : SeqAt.shaped d = true) : d.canLay0 = true := SeqAt.canLay_of_shaped h
theorem rv_flat {r : R2} {x y z : V} (hz : ∀ G, Rp G z f) (h : ∀ H1, Same G H1 → ∀ Q : VK, Q z H1 → r x y H1 Q) : RvD r G x y f := fun G1 H1 a b Q k => h H1 (a.trans b) Q (k z G1 H1 (Gr.refl b) (hz G1))
theorem ev_eq (ha : EvD ta σ G d) (hb : EvD tb σ G e) (sd : SeqAt.shaped d = true) (se : SeqAt.shaped e = true) : EvD (tOp (rEqD K) ta tb) σ G (.bool (PyData.eqv d e)) :=
  ev_op ha hb fun G1 x y rx ry => rv_flat (fun _ => .bl _) fun H1 s Q q => ⟨d, e, rx.dp s (shaped_lay sd), ry.dp s (shaped_lay se), sd, se, q⟩
theorem ev_ne (ha : EvD ta σ G d) (hb : EvD tb σ G e) (sd : SeqAt.shaped d = true) (se : SeqAt.shaped e = true) : EvD (tOp (rNeD K) ta tb) σ G (.bool (!PyData.eqv d e)) :=
  ev_op ha hb fun G1 x y rx ry => rv_flat (fun _ => .bl _) fun H1 s Q q => ⟨d, e, rx.dp s (shaped_lay sd), ry.dp s (shaped_lay se), sd, se, q⟩
theorem ev_in {neg k : Bool} (ha : EvD ta σ G d) (hb : EvD tb σ G (sq k es)) (sd : SeqAt.shaped d = true) (se : SeqAt.shaped (sq k es) = true) :
    EvD (tOp (rInU K neg) ta tb) σ G (.bool (if neg then !(es.any fun z => PyData.eqv z d) else es.any fun z => PyData.eqv z d)) :=
  ev_op ha hb fun G1 x y rx ry => rv_flat (fun _ => .bl _) fun H1 s Q q => ⟨d, k, es, rx.dp s (shaped_lay sd), ry.dp s (shaped_lay se), sd, se, q⟩
theorem ev_ints {g : Int → Int → V} {i j : Int} (ha : EvD ta σ G (.int i)) (hb : EvD tb σ G (.int j)) (hf : ∀ G : Hp, Rp G (g i j) f) : EvD (tOp (rI0 g) ta tb) σ G f :=
  ev_op ha hb fun G1 x y rx ry => rv_flat hf fun H1 s Q q => ⟨i, j, rx.int_eq, ry.int_eq, q⟩
theorem ev_add {i j : Int} (ha : EvD ta σ G (.int i)) (hb : EvD tb σ G (.int j)) : EvD (tOp (rI0 fun i j => .int (i + j)) ta tb) σ G (.int (i + j)) := ev_ints ha hb fun _ => .int _
theorem ev_cmp {p : Int → Int → Bool} {i j : Int} (ha : EvD ta σ G (.int i)) (hb : EvD tb σ G (.int j)) : EvD (tOp (rI0 fun i j => .bl (p i j)) ta tb) σ G (.bool (p i j)) := ev_ints ha hb fun _ => .bl _
end
def nonD : PyData → Bool
  | .none => true
  | _ => false
section
variable {K : PySem.W.Frag} {σ : L2.St} {G G' H : Hp} {ta tb te : TE} {t u : TT} {d e f : PyData} {v : V} {ds es : List PyData}
theorem ev_isN (ha : EvD ta σ G d) : EvD (tOp (fun x y H Q => y = .non ∧ Q (.bl (decide (x = .non))) H) ta (tC .non)) σ G (.bool (nonD d)) :=
  ev_op ha ev_non fun G1 x y rx ry => rv_flat (z := .bl (decide (x = .non))) (fun G => by
    cases rx <;> first | exact Rp.bl _ | (simp only [reduceCtorEq, decide_false]; exact Rp.bl _)) fun H1 s Q q => ⟨ry.non_eq, q⟩
theorem ev_notN (ha : EvD ta σ G d) : EvD (tOp (fun x y H Q => y = .non ∧ Q (.bl (!decide (x = .non))) H) ta (tC .non)) σ G (.bool (!nonD d)) :=
  ev_op ha ev_non fun G1 x y rx ry => rv_flat (z := .bl (!decide (x = .non))) (fun G => by
    cases rx <;> first | exact Rp.bl _ | (simp only [reduceCtorEq, decide_false, Bool.not_false]; exact Rp.bl _)) fun H1 s Q q => ⟨ry.non_eq, q⟩
/-- tuple + tuple -/
theorem ev_catT (ha : EvD ta σ G (.tuple ds)) (hb : EvD tb σ G (.tuple es)) (hl : ds.length + es.length ≤ 16777216) : EvD (tOp (rCatA K) ta tb) σ G (.tuple (ds ++ es)) :=
  ev_op ha hb fun G1 x y rx ry => fun G2 H2 a b Q k => by
    obtain ⟨p, xs, rfl, hp, r⟩ := rx.tup_at
    obtain ⟨q, ys, rfl, hq, r'⟩ := ry.tup_at
    have s := a.trans b
    refine ⟨p, q, xs, ys, rfl, rfl, sqT (s _ _ hp), sqT (s _ _ hq), by rw [r.length, r'.length]; exact sz hl, fun e => ?_, fun n e => ?_, fun _ _ p' hp' => ?_⟩
    · subst e
      cases r
      exact k _ G2 H2 (Gr.refl b) (.tup (a _ _ hq) (r'.mono a))
    · subst e
      cases r'
      rw [List.append_nil] at k
      exact k _ G2 H2 (Gr.refl b) (.tup (a _ _ hp) (r.mono a))
    · obtain ⟨g, rr⟩ := new_tup b hp' ((r.mono a).append (r'.mono a))
      exact k _ _ _ g rr
/-- list + list -/
theorem ev_catL (ha : EvD ta σ G (.list ds)) (hb : EvD tb σ G (.list es)) (hl : ds.length + es.length ≤ 16777216) : EvD (tOp rCat ta tb) σ G (.list (ds ++ es)) :=
  ev_op ha hb fun G1 x y rx ry => fun G2 H2 a b Q k => by
    obtain ⟨p, xs, rfl, hp, r⟩ := rx.list_at
    obtain ⟨q, ys, rfl, hq, r'⟩ := ry.list_at
    have s := a.trans b
    refine ⟨p, q, xs, ys, rfl, rfl, s _ _ hp, s _ _ hq, by rw [r.length, r'.length]; exact sz hl, fun p' hp' => ?_⟩
    obtain ⟨g, rr⟩ := new_lst b hp' ((r.mono a).append (r'.mono a))
    exact k _ _ _ g rr
/-- xs[i] -/
theorem ev_ix {k : Bool} {i : Int} (ha : EvD ta σ G (sq k ds)) (hb : EvD tb σ G (.int i)) (h : atI ds i = some d) : EvD (tOp (rIx K) ta tb) σ G d :=
  ev_op ha hb fun G1 x y rx ry => fun G2 H2 a b Q kk => by
    obtain ⟨p, xs, rfl, r, hp⟩ := rx.sq_at (K := K)
    have s := a.trans b
    have hl := r.length
    obtain ⟨v, hv, rv⟩ : ∃ v, atI xs i = some v ∧ Rp G1 v d := by
      unfold atI at h ⊢
      rw [hl]
      cases q : ixN ds.length i with
      | none => rw [q] at h; cases h
      | some j =>
        rw [q] at h
        obtain ⟨v, h1, h2⟩ := r.get' h
        exact ⟨v, h1, h2⟩
    have fin := kk v G2 H2 (Gr.refl b) (rv.mono a)
    rcases hp with ⟨_, hp⟩ | ⟨_, hp⟩
    · exact .inl ⟨p, xs, i, v, rfl, ry.int_eq, sqL (s _ _ hp), hv, fin⟩
    · exact .inr (.inl ⟨p, xs, i, v, rfl, ry.int_eq, sqT (s _ _ hp), hv, fin⟩)
/-! ### slices of lists -/
theorem eo_none : EvO tNoPart σ G none := fun G1 H1 a b Q k => k H1 (Same.refl _)
theorem eo_some {i : Int} (h : EvD te σ G (.int i)) : EvO (tPart te) σ G (some i) := fun G1 H1 a b Q k =>
  h G1 H1 a b _ fun v G2 H2 g2 r2 => ⟨i, r2.int_eq, k H2 g2.same⟩
def cutD (xs : List PyData) (lo hi : Option Int) : List PyData := (xs.drop (HT.sIx xs.length 0 lo)).take (HT.sIx xs.length xs.length hi - HT.sIx xs.length 0 lo)
theorem ev_slice {tl th : TO} {lo hi : Option Int} (ha : EvD ta σ G (.list ds)) (hl : EvO tl σ G lo) (hh : EvO th σ G hi) : EvD (tSl (rSlL K) ta tl th) σ G (.list (cutD ds lo hi)) := fun G1 H1 a b Q k =>
  ha G1 H1 a b _ fun x G2 H2 g2 r2 => hl G2 H2 (a.trans g2.gg) g2.gh _ fun H3 s3 => hh G2 H3 (a.trans g2.gg) (g2.gh.trans s3) _ fun H4 s4 => by
    obtain ⟨p, xs, rfl, hp, r⟩ := r2.list_at
    have g4 : Gr G1 H1 G2 H4 := (g2.more s3).more s4
    refine ⟨p, xs, rfl, sqL (g4.gh _ _ hp), fun p' hp' => ?_⟩
    have e : RpAll G2 (cutV xs lo hi) (cutD ds lo hi) := by
      unfold cutV cutD
      rw [r.length]
      exact (r.drop _).take _
    obtain ⟨g, rr⟩ := new_lst g4.gh hp' e
    exact k _ _ _ (g4.trans g) rr
/-! ### truth -/
theorem eb_test {b : Bool} (h : EvD te σ G (.bool b)) : EvB (tTest te) σ G b := fun G1 H1 a c Q k => h G1 H1 a c _ fun v G2 H2 g2 r2 => ⟨b, r2.bl_eq, k H2 g2.same⟩
theorem eb_B {b : Bool} (h : EvD te σ G (.bool b)) : EvB (tB te) σ G b := fun G1 H1 a c Q k => h G1 H1 a c _ fun v G2 H2 g2 r2 => ⟨b, r2.bl_eq, k H2 g2.same⟩
theorem eb_and {a b : Bool} (h1 : EvB t σ G a) (h2 : a = true → EvB u σ G b) : EvB (tAnd t u) σ G (a && b) := fun G1 H1 s c Q k => h1 G1 H1 s c _ fun H2 s2 => by
  cases a with
  | true => exact iteT (h2 rfl G1 H2 s (c.trans s2) Q fun H3 s3 => k H3 (s2.trans s3))
  | false => exact iteF (k H2 s2)
theorem eb_or {a b : Bool} (h1 : EvB t σ G a) (h2 : a = false → EvB u σ G b) : EvB (tOr t u) σ G (a || b) := fun G1 H1 s c Q k => h1 G1 H1 s c _ fun H2 s2 => by
  cases a with
  | true => exact iteT (k H2 s2)
  | false => exact iteF (h2 rfl G1 H2 s (c.trans s2) Q fun H3 s3 => k H3 (s2.trans s3))
theorem eb_not {a : Bool} (h1 : EvB t σ G a) : EvB (tNot t) σ G (!a) := fun G1 H1 s c Q k => h1 G1 H1 s c _ fun H2 s2 => k H2 s2
theorem eb_yes : EvB tYes σ G true := fun G1 H1 s c Q k => k H1 (Same.refl _)
theorem ev_andV {a b : Bool} (h1 : EvD ta σ G (.bool a)) (h2 : a = true → EvD tb σ G (.bool b)) : EvD (tAndV ta tb) σ G (.bool (a && b)) := fun G1 H1 s c Q k => h1 G1 H1 s c _ fun v G2 H2 g2 r2 => ⟨a, r2.bl_eq, by
  cases a with
  | true => exact iteT (h2 rfl G2 H2 (s.trans g2.gg) g2.gh Q fun v G3 H3 g3 r3 => k v G3 H3 (g2.trans g3) r3)
  | false => exact iteF (k _ G2 H2 g2 (.bl false))⟩
theorem ev_orV {a b : Bool} (h1 : EvD ta σ G (.bool a)) (h2 : a = false → EvD tb σ G (.bool b)) : EvD (tOrV ta tb) σ G (.bool (a || b)) := fun G1 H1 s c Q k => h1 G1 H1 s c _ fun v G2 H2 g2 r2 => ⟨a, r2.bl_eq, by
  cases a with
  | true => exact iteT (k _ G2 H2 g2 (.bl true))
  | false => exact iteF (h2 rfl G2 H2 (s.trans g2.gg) g2.gh Q fun v G3 H3 g3 r3 => k v G3 H3 (g2.trans g3) r3)⟩
theorem ev_notV {a : Bool} (h1 : EvD ta σ G (.bool a)) : EvD (tNotV ta) σ G (.bool (!a)) := fun G1 H1 s c Q k => h1 G1 H1 s c _ fun v G2 H2 g2 r2 => ⟨a, r2.bl_eq, k _ G2 H2 g2 (.bl _)⟩
theorem ev_if {b : Bool} (h : EvB t σ G b) (h1 : b = true → EvD ta σ G d) (h2 : b = false → EvD tb σ G d) : EvD (tIf t ta tb) σ G d := fun G1 H1 s c Q k => h G1 H1 s c _ fun H2 s2 => by
  cases b with
  | true => exact iteT (h1 rfl G1 H2 s (c.trans s2) Q fun v G3 H3 g3 r3 => k v G3 H3 ((Gr.of c s2).trans g3) r3)
  | false => exact iteF (h2 rfl G1 H2 s (c.trans s2) Q fun v G3 H3 g3 r3 => k v G3 H3 ((Gr.of c s2).trans g3) r3)
/-! ### calls -/
def tCl (sp : Sp) (t : TA) : TE := fun σ H Q => t σ H fun vs H1 => sp vs H1 Q E0
theorem ev_cb {r : List V → Hp → VK → Prop} {t : TA} (h : EvA t σ G ds) (hr : ∀ G1 vs, RpAll G1 vs ds → RcD r G1 vs d) : EvD (tCB r t) σ G d := fun G1 H1 a b Q k =>
  h G1 H1 a b _ fun vs G2 H2 g2 r2 => hr G2 vs r2 G2 H2 (Same.refl _) g2.gh Q fun v G3 H3 g3 r3 => k v G3 H3 (g2.trans g3) r3
/-- a def's promise: pure, of data -/
def spF {τ : Type} (ea : τ → List PyData) (ok : τ → Prop) (er : τ → PyData) : Sp := fun vs H Q _ => ∃ G x, Same G H ∧ RpAll G vs (ea x) ∧ ok x ∧ ∀ v G' H', Gr G H G' H' → Rp G' v (er x) → Q v H'
theorem ev_call {τ : Type} {ea : τ → List PyData} {ok : τ → Prop} {er : τ → PyData} {t : TA} (x : τ) (h : EvA t σ G (ea x)) (hx : ok x) : EvD (tCl (spF ea ok er) t) σ G (er x) := fun G1 H1 a b Q k =>
  h G1 H1 a b _ fun vs G2 H2 g2 r2 => ⟨G2, x, g2.gh, r2, hx, fun v G3 H3 g3 r3 => k v G3 H3 (g2.trans g3) r3⟩
theorem spF_len {τ : Type} {ea : τ → List PyData} {ok : τ → Prop} {er : τ → PyData} {n : Nat} (hn : ∀ x, (ea x).length = n) : ∀ vs H Q E, spF ea ok er vs H Q E → vs.length = n := fun vs H Q E ⟨G, x, _, r, _⟩ => r.length.trans (hn x)
/-- len -/
theorem ev_len {k : Bool} (h : EvD ta σ G (sq k ds)) : EvD (tCB (fun xs H Q => ∃ p ys, xs = [.ref p] ∧ (SqL K H p ys ∨ SqT K H p ys) ∧ Q (.int ys.length) H) (tCons ta tNil)) σ G (.int (ds.length : Int)) :=
  ev_cb (ea_one h) fun G1 vs r => fun G2 H2 a b Q kk => by
    cases r with
    | cons r rr =>
      cases rr
      obtain ⟨p, xs, rfl, r, hp⟩ := r.sq_at (K := K)
      have e : (xs.length : Int) = (ds.length : Int) := by rw [r.length]
      refine ⟨p, xs, rfl, ?_, by rw [e]; exact kk _ G2 H2 (Gr.refl b) (.int _)⟩
      rcases hp with ⟨_, hp⟩ | ⟨_, hp⟩
      · exact .inl (sqL ((a.trans b) _ _ hp))
      · exact .inr (sqT ((a.trans b) _ _ hp))
/-- list(x) -/
theorem ev_list {k : Bool} (h : EvD ta σ G (sq k ds)) : EvD (tCB (fun xs H Q => ∃ p ys, xs = [.ref p] ∧ (SqL K H p ys ∨ SqT K H p ys) ∧ ∀ l, H l = none → Q (.ref l) (upd H l (.lst ys))) (tCons ta tNil)) σ G (.list ds) :=
  ev_cb (ea_one h) fun G1 vs r => fun G2 H2 a b Q kk => by
    cases r with
    | cons r rr =>
      cases rr
      obtain ⟨p, xs, rfl, r, hp⟩ := r.sq_at (K := K)
      refine ⟨p, xs, rfl, ?_, fun l hl => ?_⟩
      · rcases hp with ⟨_, hp⟩ | ⟨_, hp⟩
        · exact .inl (sqL ((a.trans b) _ _ hp))
        · exact .inr (sqT ((a.trans b) _ _ hp))
      · obtain ⟨g, rr⟩ := new_lst b hl (r.mono a)
        exact kk _ _ _ g rr
/-- tuple(x) -/
theorem ev_tuple {k : Bool} (h : EvD ta σ G (sq k ds)) : EvD (tCB (fun xs H Q => ∃ p ys, xs = [.ref p] ∧ ((SqL K H p ys ∧ ∀ l, H l = none → Q (.ref l) (upd H l (.tup ys))) ∨ (SqT K H p ys ∧ Q (.ref p) H))) (tCons ta tNil)) σ G (.tuple ds) :=
  ev_cb (ea_one h) fun G1 vs r => fun G2 H2 a b Q kk => by
    cases r with
    | cons r rr =>
      cases rr
      obtain ⟨p, xs, rfl, r, hp⟩ := r.sq_at (K := K)
      refine ⟨p, xs, rfl, ?_⟩
      rcases hp with ⟨_, hp⟩ | ⟨_, hp⟩
      · refine .inl ⟨sqL ((a.trans b) _ _ hp), fun l hl => ?_⟩
        obtain ⟨g, rr⟩ := new_tup b hl (r.mono a)
        exact kk _ _ _ g rr
      · exact .inr ⟨sqT ((a.trans b) _ _ hp), kk _ _ _ (Gr.refl b) (.tup (a _ _ hp) (r.mono a))⟩
/-- all, any -/
theorem ev_all {bs : List Bool} (h : EvD ta σ G (.list (bs.map .bool))) : EvD (tCB (rAll K) (tCons ta tNil)) σ G (.bool (bs.all id)) :=
  ev_cb (ea_one h) fun G1 vs r => fun G2 H2 a b Q kk => by
    cases r with
    | cons r rr =>
      cases rr
      obtain ⟨p, xs, rfl, hp, r⟩ := r.list_at
      exact ⟨p, bs, rfl, sqL ((a.trans b) _ _ (by rw [hp, r.bools])), kk _ G2 H2 (Gr.refl b) (.bl _)⟩
theorem ev_any {bs : List Bool} (h : EvD ta σ G (.list (bs.map .bool))) : EvD (tCB (rAny K) (tCons ta tNil)) σ G (.bool (bs.any id)) :=
  ev_cb (ea_one h) fun G1 vs r => fun G2 H2 a b Q kk => by
    cases r with
    | cons r rr =>
      cases rr
      obtain ⟨p, xs, rfl, hp, r⟩ := r.list_at
      exact ⟨p, bs, rfl, sqL ((a.trans b) _ _ (by rw [hp, r.bools])), kk _ G2 H2 (Gr.refl b) (.bl _)⟩
/-- sorted -/
theorem rp_zip : ∀ {xs : List V} {ds : List PyData}, RpAll G xs ds → ∀ p ∈ xs.zip ds, Rp G p.1 p.2
  | _, _, .nil, p, hp => by cases hp
  | _, _, .cons a b, p, hp => by
    rcases List.mem_cons.mp hp with rfl | hp
    · exact a
    · exact rp_zip b p hp
theorem rp_of : ∀ {l : List (V × PyData)}, (∀ p ∈ l, Rp G p.1 p.2) → RpAll G (l.map (·.1)) (l.map (·.2))
  | [], _ => .nil
  | p :: l, h => .cons (h p List.mem_cons_self) (rp_of fun q hq => h q (List.mem_cons_of_mem _ hq))
theorem ev_sorted {k : Bool} (h : EvD ta σ G (sq k ds)) (hl : PyData.canLayAll0 ds = true) (ha : PySem.W.AllAlike ds) (hs : PySem.W.Sortable ds) (hd : ∀ d ∈ ds, d.depth ≤ 50) : EvD (tCB (rSortU K) (tCons ta tNil)) σ G (.list (ds.mergeSort leD)) :=
  ev_cb (ea_one h) fun G1 vs r => fun G2 H2 a b Q kk => by
    cases r with
    | cons r rr =>
      cases rr
      obtain ⟨p, xs, rfl, r, hp⟩ := r.sq_at (K := K)
      refine ⟨p, xs, ds, rfl, ?_, r.dp (a.trans b) hl, ha, hs, hd, fun l hl => ?_⟩
      · rcases hp with ⟨_, hp⟩ | ⟨_, hp⟩
        · exact .inl (sqL ((a.trans b) _ _ hp))
        · exact .inr (sqT ((a.trans b) _ _ hp))
      · have r2 : RpAll G2 ((sortVD (xs.zip ds)).map (·.1)) (ds.mergeSort leD) := by
          have e : (sortVD (xs.zip ds)).map (·.2) = ds.mergeSort leD := by rw [sortVD_snd, zip_snd r.length]
          rw [← e]
          exact rp_of fun p hp => rp_zip (r.mono a) p (List.mem_mergeSort.mp hp)
        obtain ⟨g, rr⟩ := new_lst b hl r2
        exact kk _ _ _ g rr
end
/-! ### what is walked -/
structure DWalk (J : It) (G0 : Hp) (ds : List PyData) : Prop where
  goes : ∀ i H, i < ds.length → Same G0 H → J.go i H
  stops : ∀ H, Same G0 H → J.stop ds.length H
  yields : ∀ i G H x H' d, ds[i]? = some d → Same G0 G → Same G H → J.yld i H x H' → ∃ G', Gr G H G' H' ∧ Rp G' x d
def EvI (wi : TI) (σ : L2.St) (G : Hp) (ds : List PyData) : Prop := ∀ G1 H1, Same G G1 → Same G1 H1 → ∀ R : It → Hp → Prop, (∀ J G2 H2, Gr G1 H1 G2 H2 → DWalk J G2 ds → R J H2) → wi σ H1 R
def EvTg (g : TG) (x : V) (σ : L2.St) (P : L2.St → Prop) (G : Hp) : Prop := ∀ H, Same G H → ∀ Q : L2.St → Hp → Prop, (∀ σ2, P σ2 → Q σ2 H) → g x σ H Q
section
variable {K : PySem.W.Frag} {σ : L2.St} {G G' H : Hp} {ta tb te : TE} {tt : TT} {d e f : PyData} {v x : V} {ds es : List PyData} {wi : TI} {g : TG} {vs : List Nat}
theorem tg_name {j : Nat} {P : L2.St → Prop} (h : P (σ.set j (some x))) : EvTg (gName j) x σ P G := fun H _ Q k => k _ h
theorem tg_pair {i j : Nat} {P : L2.St → Prop} (r : Rp G x (.tuple [d, e])) (h : ∀ v1 v2, Rp G v1 d → Rp G v2 e → P ((σ.set i (some v1)).set j (some v2))) : EvTg (gTup K 2 (gCons (gName i) (gCons (gName j) gNil))) x σ P G := fun H s Q k => by
  obtain ⟨p, xs, rfl, hp, r⟩ := r.tup_at
  cases r with
  | cons r1 r =>
    cases r with
    | cons r2 r =>
      cases r
      exact ⟨p, _, rfl, sqT (s _ _ hp), rfl, _, _, rfl, _, _, rfl, rfl, k _ (h _ _ r1 r2)⟩
theorem dwalk_list {a : Addr} {xs : List V} (h : G a = some (.lst xs)) (r : RpAll G xs ds) : DWalk (Itl K a) G ds where
  goes := fun i H hi s => by
    have hi' : i < xs.length := by rw [r.length]; exact hi
    exact ⟨xs, xs[i], sqL (s _ _ h), by simp [hi']⟩
  stops := fun H s => ⟨xs, sqL (s _ _ h), Nat.le_of_eq r.length⟩
  yields := fun i G1 H x H' d hd s s' y => by
    obtain ⟨rfl, y⟩ := y
    have q := y xs (sqL ((s.trans s') _ _ h))
    obtain ⟨d', h1, h2⟩ := r.get q
    rw [hd] at h1
    cases h1
    exact ⟨G1, Gr.refl s', h2.mono s⟩
theorem dwalk_tup {a : Addr} {xs : List V} (h : G a = some (.tup xs)) (r : RpAll G xs ds) : DWalk (Itt K a) G ds where
  goes := fun i H hi s => by
    have hi' : i < xs.length := by rw [r.length]; exact hi
    exact ⟨xs, xs[i], sqT (s _ _ h), by simp [hi']⟩
  stops := fun H s => ⟨xs, sqT (s _ _ h), Nat.le_of_eq r.length⟩
  yields := fun i G1 H x H' d hd s s' y => by
    obtain ⟨rfl, y⟩ := y
    have q := y xs (sqT ((s.trans s') _ _ h))
    obtain ⟨d', h1, h2⟩ := r.get q
    rw [hd] at h1
    cases h1
    exact ⟨G1, Gr.refl s', h2.mono s⟩
theorem ei_list (h : EvD te σ G (.list ds)) : EvI (iList K te) σ G ds := fun G1 H1 a b R kk => h G1 H1 a b _ fun v G2 H2 g2 r2 => by
  obtain ⟨p, xs, rfl, hp, r⟩ := r2.list_at
  exact ⟨p, rfl, ⟨xs, sqL (g2.gh _ _ hp)⟩, kk _ G2 H2 g2 (dwalk_list hp r)⟩
theorem ei_tup (h : EvD te σ G (.tuple ds)) : EvI (iTup K te) σ G ds := fun G1 H1 a b R kk => h G1 H1 a b _ fun v G2 H2 g2 r2 => by
  obtain ⟨p, xs, rfl, hp, r⟩ := r2.tup_at
  exact ⟨p, rfl, ⟨xs, sqT (g2.gh _ _ hp)⟩, kk _ G2 H2 g2 (dwalk_tup hp r)⟩
/-- over a list, a tuple -/
theorem ei_seq {k : Bool} (h : EvD te σ G (sq k ds)) : EvI (iSeq K te) σ G ds := fun G1 H1 a b R kk => by
  cases k with
  | true => exact .inl (ei_list h G1 H1 a b R kk)
  | false => exact .inr (ei_tup h G1 H1 a b R kk)
/-- the numbers below n -/
def numsD (n : Nat) : List PyData := (List.range n).map fun (i : Nat) => .int (i : Int)
theorem ei_range {t : TA} {n : Nat} (h : EvA t σ G [.int (n : Int)]) (hn : n ≤ 1000000000) : EvI (iRng1 t) σ G (numsD n) := fun G1 H1 a b R kk => h G1 H1 a b _ fun vs G2 H2 g2 r2 => by
  cases r2 with
  | cons r rr =>
    cases rr
    refine ⟨n, by rw [r.int_eq], by omega, by omega, kk _ G2 H2 g2 ?_⟩
    have en : (n : Int).toNat = n := Int.toNat_natCast n
    have hl : (numsD n).length = n := by simp [numsD]
    refine ⟨fun i H hi _ => ?_, fun H _ => ?_, fun i G3 H3 x H' d hd s s' y => ?_⟩
    · show i < (n : Int).toNat
      rw [hl] at hi; omega
    · show (n : Int).toNat ≤ _
      rw [hl]; omega
    · obtain ⟨rfl, rfl⟩ := y
      refine ⟨G3, Gr.refl s', ?_⟩
      have hi : i < n := by
        have := (List.getElem?_eq_some_iff.mp hd).1
        rw [hl] at this; exact this
      have : d = .int (i : Int) := by
        simp [numsD, hi] at hd
        exact hd.symm
      rw [this, Int.zero_add]
      exact .int _
/-- pairs with their places -/
def enumD (ds : List PyData) (k : Nat) : List PyData := match ds with
  | [] => []
  | d :: r => .tuple [.int (k : Int), d] :: enumD r (k + 1)
theorem enumD_get : ∀ {ds : List PyData} {k i : Nat}, (enumD ds k)[i]? = ds[i]?.map fun d => .tuple [.int ((k + i : Nat) : Int), d]
  | [], _, _ => by simp [enumD]
  | d :: r, k, 0 => by simp [enumD]
  | d :: r, k, i + 1 => by
    show (enumD r (k + 1))[i]? = _
    rw [enumD_get]
    simp only [List.getElem?_cons_succ]
    rw [show k + 1 + i = k + (i + 1) by omega]
theorem enumD_len : ∀ {ds : List PyData} {k : Nat}, (enumD ds k).length = ds.length
  | [], _ => rfl
  | d :: r, k => by show (enumD r (k + 1)).length + 1 = _; rw [enumD_len]; rfl
theorem new_pair {G1 H1 : Hp} {T : Addr} {x y : V} {d e : PyData} (g : Same G1 H1) (hp : H1 T = none) (r : Rp G1 x d) (r' : Rp G1 y e) : Gr G1 H1 (upd G1 T (.tup [x, y])) (upd H1 T (.tup [x, y])) ∧ Rp (upd G1 T (.tup [x, y])) (.ref T) (.tuple [d, e]) :=
  new_tup g hp (.cons r (.one r'))
theorem ei_enum {t : TA} (h : EvA t σ G [.list ds]) : EvI (iEnum K t) σ G (enumD ds 0) := fun G1 H1 a b R kk => h G1 H1 a b _ fun vs G2 H2 g2 r2 => by
  cases r2 with
  | cons r rr =>
    cases rr
    obtain ⟨p, xs, rfl, hp, r⟩ := r.list_at
    refine ⟨p, xs, rfl, sqL (g2.gh _ _ hp), kk _ G2 H2 g2 ⟨fun i H hi s => ?_, fun H s => ⟨xs, sqL (s _ _ hp), by rw [enumD_len]; exact Nat.le_of_eq r.length⟩, fun i G3 H3 x H' d hd s s' y => ?_⟩⟩
    · have hi' : i < xs.length := by rw [r.length, ← enumD_len (ds := ds) (k := 0)]; exact hi
      exact ⟨xs, xs[i], sqL (s _ _ hp), by simp [hi']⟩
    · obtain ⟨T, y, rfl, hT, rfl, hy⟩ := y
      have q := hy xs (sqL ((s.trans s') _ _ hp))
      obtain ⟨d', h1, h2⟩ := r.get q
      rw [enumD_get, h1] at hd
      cases hd
      obtain ⟨g, rr⟩ := new_pair (d := .int (i : Nat)) s' hT (.int _) (h2.mono s)
      rw [Nat.zero_add]
      exact ⟨_, g, rr⟩
/-- pairs of two -/
def zipD (ds es : List PyData) : List PyData := List.zipWith (fun d e => .tuple [d, e]) ds es
/-! ### list comprehensions -/
theorem ev_lc {β : Type} {bs : List β} (enc : β → PyData) (f : β → Bool) (el : β → PyData) (hI : EvI wi σ G (bs.map enc)) (hz : bs.length ≤ 16000000)
    (hb : ∀ b, b ∈ bs → ∀ x G', Same G G' → Rp G' x (enc b) → EvTg g x (wipe σ vs) (fun σ2 => wipe σ2 vs = wipe σ vs ∧ EvB tt σ2 G' (f b) ∧ (f b = true → EvD te σ2 G' (el b))) G') :
    EvD (tLc wi g tt te vs) σ G (.list ((bs.filter f).map el)) := fun G1 H1 a b Q kk => hI G1 H1 a b _ fun J G2 H2 g2 dw D hD => by
  have en : (bs.map enc).length = bs.length := List.length_map _
  refine lc_it (n := bs.length) (G := fun H => Same G2 H) (Y := fun i H x H' => J.yld i H x H') ⟨fun i H hi s => dw.goes i H (by rw [en]; exact hi) s, fun H s => by have := dw.stops H s; rw [en] at this; exact this, fun i H x H' _ _ y => y⟩
    (fun i H => ∃ G' acc, Gr G2 H2 G' H ∧ G' D = none ∧ H D = some (.lst acc) ∧ RpAll G' acc (((bs.take i).filter f).map el)) ?_ (fun i H _ ⟨G', _, g', _⟩ => g'.gg.trans g'.gh) ?_ ?_
  · exact ⟨G2, [], Gr.lay g2.gh hD, g2.gh.free hD, upd_same, by simp; exact .nil⟩
  · intro i x H3 H4 hi ⟨G3, acc, g3, n3, e3, r3⟩ y
    obtain ⟨b0, hb0⟩ : ∃ b0, bs[i]? = some b0 := ⟨bs[i], List.getElem?_eq_getElem hi⟩
    have hd : (bs.map enc)[i]? = some (enc b0) := by rw [List.getElem?_map, hb0]; rfl
    obtain ⟨G4, g4, r4⟩ := dw.yields i G3 H3 x H4 _ hd g3.gg g3.gh y
    have n4 : G4 D = none := g4.outL n3 e3
    have e4 : H4 D = some (.lst acc) := g4.same _ _ e3
    have sG : Same G G4 := ((a.trans g2.gg).trans g3.gg).trans g4.gg
    have tk : bs.take (i + 1) = bs.take i ++ [b0] := by rw [List.take_add_one, hb0]; rfl
    refine hb b0 (List.mem_of_getElem? hb0) x G4 sG r4 H4 g4.gh _ fun σ2 ⟨hw, ht, he⟩ => ⟨hw, ht G4 H4 (Same.refl _) g4.gh _ fun H5 s5 => ?_⟩
    cases hf : f b0 with
    | true =>
      refine iteT (he hf G4 H5 (Same.refl _) (g4.gh.trans s5) _ fun v G6 H6 g6 r6 => ?_)
      have n6 : G6 D = none := g6.outL n4 (s5 _ _ e4)
      have e6 : H6 D = some (.lst acc) := g6.same _ _ (s5 _ _ e4)
      have gg := ((g3.trans g4).more s5).trans g6
      refine ⟨acc, e6, ?_, G6, acc ++ [v], gg.mut hD n6, n6, upd_same, ?_⟩
      · rw [r3.length, sizeLine_eq]
        have : (((bs.take i).filter f).map el).length ≤ bs.length := by
          rw [List.length_map]
          refine Nat.le_trans (List.length_filter_le _ _) ?_
          rw [List.length_take]
          omega
        omega
      · rw [tk, List.filter_append, List.map_append]
        have : List.filter f [b0] = [b0] := by simp [hf]
        rw [this]
        exact (r3.mono (g4.gg.trans g6.gg)).snoc r6
    | false =>
      refine iteF ⟨G4, acc, (g3.trans g4).more s5, n4, s5 _ _ e4, ?_⟩
      rw [tk, List.filter_append, List.map_append]
      have : List.filter f [b0] = [] := by simp [hf]
      rw [this, List.map_nil, List.append_nil]
      exact r3.mono g4.gg
  · intro H3 ⟨G3, acc, g3, n3, e3, r3⟩
    rw [List.take_length] at r3
    have g := g2.trans (g3.know hD n3 e3)
    exact kk _ _ _ g (.lst upd_same (r3.mono (same_upd n3)))
/-- without ifs -/
theorem ev_lcm {β : Type} {bs : List β} (enc : β → PyData) (el : β → PyData) (hI : EvI wi σ G (bs.map enc)) (hz : bs.length ≤ 16000000)
    (hb : ∀ b, b ∈ bs → ∀ x G', Same G G' → Rp G' x (enc b) → EvTg g x (wipe σ vs) (fun σ2 => wipe σ2 vs = wipe σ vs ∧ EvD te σ2 G' (el b)) G') :
    EvD (tLc wi g tYes te vs) σ G (.list (bs.map el)) := by
  have h := ev_lc (f := fun _ => true) enc el hI hz (tt := tYes) (te := te) (g := g) (vs := vs) fun b hbm x G' s r H s' Q k => hb b hbm x G' s r H s' Q fun σ2 ⟨h1, h2⟩ => k σ2 ⟨h1, eb_yes, fun _ => h2⟩
  have e : bs.filter (fun _ => true) = bs := List.filter_eq_self.mpr fun _ _ => rfl
  rw [e] at h
  exact h
/-! ### statements -/
variable {D : Ends} {tz tu tw : TS}
theorem b_asg {i : Nat} (h : EvD te σ G d) (s : Same G H) (k : ∀ v G' H', Gr G H G' H' → Rp G' v d → tz D (σ.set i (some v)) H') : tSeq (tAsg te (gName i)) tz D σ H := h G H (Same.refl _) s _ k
theorem b_ret (h : EvD te σ G d) (s : Same G H) (k : ∀ v G' H', Gr G H G' H' → Rp G' v d → D.rt v H') : tRet te D σ H := h G H (Same.refl _) s _ k
theorem b_if {b : Bool} (h : EvB tt σ G b) (s : Same G H) (h1 : b = true → ∀ H', Same H H' → tu { D with nx := tz D } σ H') (h2 : b = false → ∀ H', Same H H' → tw { D with nx := tz D } σ H') : tSeq (tIfS tt tu tw) tz D σ H := h G H (Same.refl _) s _ fun H' s' => by
  cases b with
  | true => exact iteT (h1 rfl H' s')
  | false => exact iteF (h2 rfl H' s')
theorem b_if1 {b : Bool} (h : EvB tt σ G b) (s : Same G H) (h1 : b = true → ∀ H', Same H H' → tu D σ H') (h2 : b = false → ∀ H', Same H H' → tw D σ H') : tIfS tt tu tw D σ H := h G H (Same.refl _) s _ fun H' s' => by
  cases b with
  | true => exact iteT (h1 rfl H' s')
  | false => exact iteF (h2 rfl H' s')
/-- a test that is known to fail: what stands in the branch is never come to -/
theorem b_no (h : EvB tt σ G false) (s : Same G H) (k : ∀ H', Same H H' → tz D σ H') : tSeq (tIfS tt tu tNext) tz D σ H := b_if h s (fun z => nomatch z) fun _ H' s' => k H' s'
theorem b_for1 {β : Type} {bs : List β} (enc : β → PyData) (hI : EvI wi σ G (bs.map enc)) (s : Same G H) (P : Nat → L2.St → Hp → Hp → Prop) (h0 : ∀ G1 H1, Gr G H G1 H1 → P 0 σ G1 H1) (hP : ∀ i σ' G' H', P i σ' G' H' → Same G' H')
    (hs : ∀ i b x σ' G1 H1 G2 H2, bs[i]? = some b → P i σ' G1 H1 → Gr G1 H1 G2 H2 → Rp G2 x (enc b) →
      EvTg g x σ' (fun σ2 => tu { D with nx := fun σ3 H3 => ∃ G3, Same G1 G3 ∧ P (i + 1) σ3 G3 H3, ct := fun σ3 H3 => ∃ G3, Same G1 G3 ∧ P (i + 1) σ3 G3 H3, bk := D.nx } σ2 H2) G2)
    (hd : ∀ σ' G' H', P bs.length σ' G' H' → D.nx σ' H') : tFor wi g tu D σ H := hI G H (Same.refl _) s _ fun J G1 H1 g1 dw => by
  have en : (bs.map enc).length = bs.length := List.length_map _
  refine ⟨fun i m σ' H' => m = bs.length - i ∧ i ≤ bs.length ∧ ∃ G', Same G1 G' ∧ P i σ' G' H', ⟨_, rfl, Nat.zero_le _, G1, Same.refl _, h0 G1 H1 g1⟩, ?_⟩
  rintro i m σ' H' ⟨rfl, hi, G', s', p⟩
  have sH := s'.trans (hP _ _ _ _ p)
  by_cases hlt : i < bs.length
  · refine .inr ⟨dw.goes i H' (by rw [en]; exact hlt) sH, fun σ3 H3 => ∃ G3, Same G' G3 ∧ P (i + 1) σ3 G3 H3, fun σ3 H3 ⟨G3, s3, p3⟩ => ⟨bs.length - (i + 1), by omega, rfl, hlt, G3, s'.trans s3, p3⟩, fun x H2 y => ?_⟩
    obtain ⟨b, hb⟩ : ∃ b, bs[i]? = some b := ⟨bs[i], List.getElem?_eq_getElem hlt⟩
    have hd' : (bs.map enc)[i]? = some (enc b) := by rw [List.getElem?_map, hb]; rfl
    obtain ⟨G2, g2, r2⟩ := dw.yields i G' H' x H2 _ hd' s' (hP _ _ _ _ p) y
    exact hs i b x σ' G' H' G2 H2 hb p g2 r2 H2 g2.gh _ fun σ2 q => q
  · have e : i = bs.length := by omega
    subst e
    refine .inl ⟨?_, hd _ _ _ p⟩
    have := dw.stops H' sH
    rw [en] at this
    exact this
end
end Bp

set_option Elab.async false
set_option linter.all false
set_option maxRecDepth 100000
set_option maxHeartbeats 1000001
namespace Bp
open PySem PySem.Spec L2 PyProof.Rows
/-! ### hands and what is made of them, as data -/
abbrev Hd := Fin 6
def hname : Hd → Str := fun h => match h with
  | 0 => "a" | 1 => "b" | 2 => "c1" | 3 => "d" | 4 => "m9" | 5 => "zed"
def eH (h : Hd) : PyData := .str (hname h)
def eT (t : List Hd) : PyData := .tuple (t.map eH)
def eL (t : List Hd) : PyData := .list (t.map eH)
def eP (p : Hd × Hd) : PyData := .tuple [eH p.1, eH p.2]
/-- a list or a tuple of hands -/
def eK (k : Bool) (t : List Hd) : PyData := sq k (t.map eH)
def eC (t : List Hd) : PyData := .tuple [.int (t.length : Int), eT t]
def eLT (ts : List (List Hd)) : PyData := .list (ts.map eT)
def eLP (ps : List (Hd × Hd)) : PyData := .list (ps.map eP)
theorem eP_eq (a b : Hd) : eP (a, b) = eT [a, b] := rfl
/-! ### shapes -/
/-- no dict, no odd sign; nested at most n deep -/
structure Sh (n : Nat) (d : PyData) : Prop where
  lay : d.canLay0 = true
  dep : d.depth ≤ n
theorem Sh.shaped {n : Nat} {d : PyData} (h : Sh n d) (hn : n ≤ 64 := by decide) : SeqAt.shaped d = true := by
  unfold SeqAt.shaped
  rw [h.lay, Bool.true_and]
  exact decide_eq_true (Nat.le_trans h.dep hn)
theorem Sh.mono {m n : Nat} {d : PyData} (h : Sh m d) (hn : m ≤ n) : Sh n d := ⟨h.lay, Nat.le_trans h.dep hn⟩
theorem sh_all {n : Nat} : ∀ {ds : List PyData}, (∀ d ∈ ds, Sh n d) → PyData.canLayAll0 ds = true ∧ PyData.depthAll ds ≤ n
  | [], _ => ⟨by simp [PyData.canLayAll0], by simp [PyData.depthAll]⟩
  | d :: ds, h => by
    obtain ⟨h1, h2⟩ := sh_all fun e he => h e (List.mem_cons_of_mem _ he)
    have h3 := h d List.mem_cons_self
    refine ⟨by simp [PyData.canLayAll0, h3.lay, h1], ?_⟩
    simp only [PyData.depthAll]
    have := h3.dep
    omega
theorem sh_sq {n : Nat} {k : Bool} {ds : List PyData} (h : ∀ d ∈ ds, Sh n d) : Sh (n + 1) (sq k ds) := by
  obtain ⟨h1, h2⟩ := sh_all h
  cases k with
  | true => exact ⟨by simpa [sq, PyData.canLay0] using h1, by simp only [sq, PyData.depth]; omega⟩
  | false => exact ⟨by simpa [sq, PyData.canLay0] using h1, by simp only [sq, PyData.depth]; omega⟩
theorem sh_map {β : Type} {n : Nat} {k : Bool} {enc : β → PyData} {l : List β} (h : ∀ b ∈ l, Sh n (enc b)) : Sh (n + 1) (sq k (l.map enc)) := sh_sq fun d hd => by
  obtain ⟨b, hb, rfl⟩ := List.mem_map.mp hd
  exact h b hb
theorem sh_tup {n : Nat} {ds : List PyData} (h : ∀ d ∈ ds, Sh n d) : Sh (n + 1) (.tuple ds) := sh_sq (k := false) h
theorem sh_list {n : Nat} {ds : List PyData} (h : ∀ d ∈ ds, Sh n d) : Sh (n + 1) (.list ds) := sh_sq (k := true) h
theorem sh_two {n : Nat} {d e : PyData} (h : Sh n d) (h' : Sh n e) : ∀ x ∈ [d, e], Sh n x := fun x hx => by
  rcases List.mem_cons.mp hx with rfl | hx
  · exact h
  · rcases List.mem_cons.mp hx with rfl | hx
    · exact h'
    · cases hx
theorem sh_int {n : Nat} (i : Int) : Sh n (.int i) := ⟨by simp [PyData.canLay0], by simp [PyData.depth]⟩
theorem sh_bool {n : Nat} (i : Bool) : Sh n (.bool i) := ⟨by simp [PyData.canLay0], by simp [PyData.depth]⟩
theorem sh_none {n : Nat} : Sh n .none := ⟨by simp [PyData.canLay0], by simp [PyData.depth]⟩
theorem strOk_h : ∀ h : Hd, PyData.strOk (hname h) = true := by decide +kernel
theorem sh_eH {n : Nat} (h : Hd) : Sh n (eH h) := ⟨by simp [eH, PyData.canLay0, strOk_h], by simp [eH, PyData.depth]⟩
theorem sh_eK {n : Nat} (k : Bool) (t : List Hd) : Sh (n + 1) (eK k t) := sh_map fun b _ => sh_eH b
theorem sh_eT {n : Nat} (t : List Hd) : Sh (n + 1) (eT t) := sh_eK false t
theorem sh_eL {n : Nat} (t : List Hd) : Sh (n + 1) (eL t) := sh_eK true t
theorem sh_eP {n : Nat} (p : Hd × Hd) : Sh (n + 1) (eP p) := sh_eT [p.1, p.2]
theorem sh_eC {n : Nat} (t : List Hd) : Sh (n + 2) (eC t) := sh_tup (sh_two (sh_int _) (sh_eT t))
/-! ### equality -/
theorem eqv_h : ∀ a b : Hd, PyData.eqv (eH a) (eH b) = decide (a = b) := by decide +kernel
theorem eqvAll_h : ∀ s t : List Hd, PyData.eqvAll (s.map eH) (t.map eH) = decide (s = t)
  | [], [] => by simp [PyData.eqvAll]
  | [], b :: t => by simp [PyData.eqvAll]
  | a :: s, [] => by simp [PyData.eqvAll]
  | a :: s, b :: t => by
    simp only [List.map_cons, PyData.eqvAll, eqv_h, eqvAll_h s t, List.cons.injEq]
    by_cases h1 : a = b <;> by_cases h2 : s = t <;> simp [h1, h2]
theorem eqv_T (s t : List Hd) : PyData.eqv (eT s) (eT t) = decide (s = t) := by
  unfold eT
  simp only [PyData.eqv]
  exact eqvAll_h s t
theorem eqv_P (p q : Hd × Hd) : PyData.eqv (eP p) (eP q) = decide (p = q) := by
  obtain ⟨a, b⟩ := p
  obtain ⟨c, d⟩ := q
  rw [eP_eq, eP_eq, eqv_T]
  by_cases h1 : a = c <;> by_cases h2 : b = d <;> simp [h1, h2]
theorem any_eqv {β : Type} [DecidableEq β] {enc : β → PyData} (he : ∀ a b, PyData.eqv (enc a) (enc b) = decide (a = b)) (l : List β) (x : β) [Decidable (x ∈ l)] : (l.map enc).any (fun z => PyData.eqv z (enc x)) = decide (x ∈ l) := by
  have h0 : ∀ l : List β, (l.map enc).any (fun z => PyData.eqv z (enc x)) = true ↔ x ∈ l := by
    intro l
    rw [List.any_map, List.any_eq_true]
    constructor
    · rintro ⟨b, hb, h⟩
      have h' : PyData.eqv (enc b) (enc x) = true := h
      rw [he, decide_eq_true_eq] at h'
      exact h' ▸ hb
    · intro h
      exact ⟨x, h, by show PyData.eqv (enc x) (enc x) = true; rw [he]; simp⟩
  by_cases h : x ∈ l
  · rw [decide_eq_true h]; exact (h0 l).mpr h
  · rw [decide_eq_false h]
    cases q : (l.map enc).any (fun z => PyData.eqv z (enc x)) with
    | false => rfl
    | true => exact absurd ((h0 l).mp q) h
theorem eqvAll_of {β : Type} [DecidableEq β] {enc : β → PyData} (he : ∀ a b, PyData.eqv (enc a) (enc b) = decide (a = b)) : ∀ s t : List β, PyData.eqvAll (s.map enc) (t.map enc) = decide (s = t)
  | [], [] => by simp [PyData.eqvAll]
  | [], b :: t => by simp [PyData.eqvAll]
  | a :: s, [] => by simp [PyData.eqvAll]
  | a :: s, b :: t => by
    simp only [List.map_cons, PyData.eqvAll, he, eqvAll_of he s t, List.cons.injEq]
    by_cases h1 : a = b <;> by_cases h2 : s = t <;> simp [h1, h2]
theorem eqv_LP (s t : List (Hd × Hd)) : PyData.eqv (eLP s) (eLP t) = decide (s = t) := by
  unfold eLP
  simp only [PyData.eqv]
  exact eqvAll_of eqv_P s t
/-! ### order -/
theorem alike_h (a b : Hd) : PySem.W.alike (eH a) (eH b) = true := by simp [eH, PySem.W.alike]
theorem alikeAll_h : ∀ s t : List Hd, PySem.W.alikeAll (s.map eH) (t.map eH) = true
  | [], _ => by simp [PySem.W.alikeAll]
  | _ :: _, [] => by simp [PySem.W.alikeAll]
  | a :: s, b :: t => by
    show PySem.W.alikeAll (eH a :: s.map eH) (eH b :: t.map eH) = true
    rw [PySem.W.alikeAll, alike_h, alikeAll_h s t]; rfl
theorem alike_T (s t : List Hd) : PySem.W.alike (eT s) (eT t) = true := by unfold eT; rw [PySem.W.alike]; exact alikeAll_h s t
theorem alike_C (s t : List Hd) : PySem.W.alike (eC s) (eC t) = true := by
  unfold eC
  simp only [PySem.W.alike, PySem.W.alikeAll, alike_T, Bool.and_self]
theorem leH_eq : ∀ a b : Hd, leD (eH a) (eH b) = decide (a.val ≤ b.val) := by decide +kernel
def leH (a b : Hd) : Bool := decide (a.val ≤ b.val)
theorem leH_iff {a b : Hd} : leH a b = true ↔ a.val ≤ b.val := by unfold leH; simp
theorem leH_trans (a b c : Hd) (h1 : leH a b = true) (h2 : leH b c = true) : leH a c = true := by rw [leH_iff] at *; omega
theorem leH_total (a b : Hd) : (leH a b || leH b a) = true := by unfold leH; simp; omega
theorem leH_anti {a b : Hd} (h1 : leH a b = true) (h2 : leH b a = true) : a = b := by rw [leH_iff] at *; exact Fin.ext (by omega)
def leP (p q : Hd × Hd) : Bool := leD (eP p) (eP q)
def leC (s t : List Hd) : Bool := leD (eC s) (eC t)
/-- sorted hands, pairs, sets by the order of choices -/
def sH (l : List Hd) : List Hd := l.mergeSort leH
def sP (l : List (Hd × Hd)) : List (Hd × Hd) := l.mergeSort leP
def sC (l : List (List Hd)) : List (List Hd) := l.mergeSort leC
theorem sort_map {β : Type} {enc : β → PyData} {le : β → β → Bool} (h : ∀ a b, le a b = leD (enc a) (enc b)) (l : List β) : (l.map enc).mergeSort leD = (l.mergeSort le).map enc :=
  (List.map_mergeSort fun a _ b _ => h a b).symm
theorem sort_h (l : List Hd) : (l.map eH).mergeSort leD = (sH l).map eH := sort_map (fun a b => (leH_eq a b).symm) l
theorem sort_P (l : List (Hd × Hd)) : (l.map eP).mergeSort leD = (sP l).map eP := sort_map (fun _ _ => rfl) l
theorem sort_C (l : List (List Hd)) : (l.map eC).mergeSort leD = (sC l).map eC := sort_map (fun _ _ => rfl) l
/-- the order of data is one of rows of signs -/
theorem leD_eq (d e : PyData) : leD d e = !PySem.W.dataLt e d := rfl
theorem leD_total (d e : PyData) : (leD d e || leD e d) = true := by
  rw [leD_eq, leD_eq]
  cases h : PySem.W.dataLt e d with
  | false => rfl
  | true =>
    cases h' : PySem.W.dataLt d e with
    | false => rfl
    | true =>
      have t := PyProof.Rows.lex_trans (O := PyProof.Rows.itemOrd) _ _ _ h h'
      rw [PyProof.Rows.lex_irrefl] at t
      cases t
theorem leD_trans (a b c : PyData) (h1 : leD a b = true) (h2 : leD b c = true) : leD a c = true := by
  rw [leD_eq] at h1 h2 ⊢
  cases h : PySem.W.dataLt c a with
  | false => rfl
  | true =>
    rcases PyProof.Rows.lex_negTrans (O := PyProof.Rows.itemOrd) _ (PySem.W.keyToks b) _ h with t | t
    · have t' : PySem.W.dataLt c b = true := t
      rw [t'] at h2; cases h2
    · have t' : PySem.W.dataLt b a = true := t
      rw [t'] at h1; cases h1
theorem leD_toks {d e : PyData} (h1 : leD d e = true) (h2 : leD e d = true) : PySem.W.keyToks d = PySem.W.keyToks e := by
  rw [leD_eq] at h1 h2
  exact PyProof.Rows.lex_total (O := PyProof.Rows.itemOrd) _ _ (show PySem.W.dataLt d e = false by simpa using h2) (show PySem.W.dataLt e d = false by simpa using h1)
theorem hname_inj : ∀ a b : Hd, (hname a).cps.toList = (hname b).cps.toList → a = b := by decide +kernel
theorem toks_h : ∀ s t : List Hd, PySem.W.keyToksAll (s.map eH) = PySem.W.keyToksAll (t.map eH) → s = t
  | [], [], _ => rfl
  | [], b :: t, h => by simp [PySem.W.keyToksAll] at h
  | a :: s, [], h => by simp [PySem.W.keyToksAll] at h
  | a :: s, b :: t, h => by
    simp only [List.map_cons, PySem.W.keyToksAll, eH, PySem.W.keyToks, List.cons_append, List.nil_append, List.cons.injEq, Sum.inr.injEq, true_and] at h
    rw [hname_inj a b h.1, toks_h s t h.2]
theorem leC_anti {s t : List Hd} (h1 : leC s t = true) (h2 : leC t s = true) : s = t := by
  have h := leD_toks h1 h2
  unfold eC eT at h
  simp only [PySem.W.keyToks, PySem.W.keyToksAll, List.cons_append, List.nil_append, List.cons.injEq, true_and] at h
  have h3 := h.2
  exact toks_h s t (List.append_cancel_right h3)
theorem leP_anti {p q : Hd × Hd} (h1 : leP p q = true) (h2 : leP q p = true) : p = q := by
  have h := leD_toks h1 h2
  have h' : [p.1, p.2] = [q.1, q.2] := toks_h [p.1, p.2] [q.1, q.2] (by simpa [eP, PySem.W.keyToks] using h)
  simp only [List.cons.injEq, and_true] at h'
  exact Prod.ext h'.1 h'.2
theorem leC_nil (t : List Hd) : leC [] t = true := by
  unfold leC
  rw [leD_eq, eC, eC, PySem.W.dataLt_pair (by simp [PySem.W.alike]) (alike_T _ _), PySem.W.dataLt_int]
  simp only [PyData.eqv, beq_iff_eq, List.length_nil]
  split
  · rename_i h
    have : t = [] := List.eq_nil_of_length_eq_zero (by omega)
    subst this
    rw [if_pos (by simp [eT, PyData.eqv, PyData.eqvAll])]
    rfl
  · have : ¬ ((t.length : Int) < 0) := by omega
    simp [this]
theorem sH_two (a b : Hd) : sH [a, b] = if a.val ≤ b.val then [a, b] else [b, a] := by
  unfold sH
  by_cases h : a.val ≤ b.val
  · rw [if_pos h]
    exact List.mergeSort_of_pairwise (by simp [leH, h])
  · rw [if_neg h]
    have hb : b.val ≤ a.val := by omega
    have p : ([a, b].mergeSort leH).Perm [b, a] := (List.mergeSort_perm _ _).trans (List.Perm.swap _ _ _)
    have s1 : ([a, b].mergeSort leH).Pairwise (fun x y => leH x y = true) := List.pairwise_mergeSort leH_trans leH_total _
    exact p.eq_of_pairwise (le := fun x y => leH x y = true) (fun x y _ _ h1 h2 => leH_anti h1 h2) s1 (by simp [leH, hb])
end Bp

set_option Elab.async false
set_option linter.all false
set_option maxRecDepth 100000
set_option maxHeartbeats 1000001
namespace Bp
open PySem PySem.Spec L2 PyProof.Rows
/-! ### what the top has left: built-in names, the class, the defs -/
structure Blt (mg : Str → Option Value) : Prop where
  len : mg "len" = none
  all : mg "all" = none
  any : mg "any" = none
  sorted : mg "sorted" = none
  tuple : mg "tuple" = none
  list : mg "list" = none
  range : mg "range" = none
  enumerate : mg "enumerate" = none
  isinstance : mg "isinstance" = none
  zip : mg "zip" = none
  int : mg "int" = none
  str : mg "str" = none
  dict : mg "dict" = none
  bool : mg "bool" = none
  small : ∃ t, mg "SMALL" = some (.str "abcdefghijklmnopqrstuvwxyz" t)
  figures : ∃ t, mg "FIGURES" = some (.str "0123456789" t)
structure Bnd (K : PySem.W.Frag) (mg : Str → Option Value) (C : Addr) : Prop where
  cls : Cls K C
  n1 : NoAttr K C "own_hands"
  n2 : NoAttr K C "own_roads"
  n3 : NoAttr K C "own_greatest"
  n4 : NoAttr K C "own_agree"
  g : mg "Bands" = some (.ref C)
/-- a def of the text -/
def Df (K : PySem.W.Frag) (mg : Str → Option Value) (x : Str) (st : Stmt) (ps : List Str) : Prop :=
  ∃ f fd, FunD K x x (defArgs st) (defBody st) (defScope st) [] [] f fd ∧ mg x = some (.ref f) ∧ L2.Binds K fd ps []
/-- a def that keeps its promise -/
def Cal (P : Program) (w : World) (K : PySem.W.Frag) (mg : Str → Option Value) (base : Heap) (k : Nat) (x : Str) (ps : List Str) (sp : Sp) : Prop :=
  ∃ f fd, FnOk P w K mg base CX0 k f fd ps sp ∧ mg x = some (.ref f) ∧ PySem.W.keepIn K (.ref f) = true ∧ L2.Binds K fd ps []
/-- a method -/
def Dm (K : PySem.W.Frag) (C : Addr) (m : Str) (st : Stmt) (ps : List Str) : Prop :=
  ∃ f fd, FunD K m ("Bands." ++ m) (defArgs st) (defBody st) (defScope st) [] [] f fd ∧ Meth K C m f ∧ L2.Binds K fd ps []
def Cme (P : Program) (w : World) (K : PySem.W.Frag) (mg : Str → Option Value) (base : Heap) (C : Addr) (k : Nat) (m : Str) (ps : List Str) (sp : Sp) : Prop :=
  ∃ f fd, FnOk P w K mg base CX0 k f fd ps sp ∧ Meth K C m f ∧ L2.Binds K fd ps []
section
variable {P : Program} {w : World} {K : PySem.W.Frag} {mg : Str → Option Value} {base : Heap} {x : Str} {st : Stmt} {N ps : List Str} {k : Nat} {sp : Sp}
theorem cal_of (Df : Df K mg x st ps) (S : FnScope N ps (defScope st)) (len : ∀ vs H Q E, sp vs H Q E → vs.length = ps.length)
    (hbody : ∀ (f : Addr) (cdv : Value) (A : Around) (outer : List Env) (s : Shared) (H : Hp) (vs : List V) (Q : VK) (E : XK), Room k (A.deeper (envOfC x (defScope st) s.heap.objs.size f cdv)) → sp vs H Q E →
      ∃ t, PSs (cxOf CX0 P w K mg base N x (defScope st) f cdv A outer s H E).nox (defBody st) t ∧ t { nx := fun _ H' => Q .non H', rt := Q } (start N vs) H) : Cal P w K mg base (k + 1) x ps sp := by
  obtain ⟨f, fd, F, g, b⟩ := Df
  refine ⟨f, fd, F.ok S len fun cdv A outer s H vs Q E hr h => ?_, g, F.kp, b⟩
  obtain ⟨t, h1, h2⟩ := hbody f cdv A outer s H vs Q E hr h
  exact ⟨t, h1.nox, h2⟩
theorem Cal.mono {j : Nat} (c : Cal P w K mg base j x ps sp) (h : j ≤ k) : Cal P w K mg base k x ps sp := by
  obtain ⟨f, fd, F, r⟩ := c
  exact ⟨f, fd, F.mono h, r⟩
theorem cme_of {C : Addr} {m : Str} (Df : Dm K C m st ps) (S : FnScope N ps (defScope st)) (len : ∀ vs H Q E, sp vs H Q E → vs.length = ps.length)
    (hbody : ∀ (f : Addr) (cdv : Value) (A : Around) (outer : List Env) (s : Shared) (H : Hp) (vs : List V) (Q : VK) (E : XK), Room k (A.deeper (envOfC ("Bands." ++ m) (defScope st) s.heap.objs.size f cdv)) → sp vs H Q E →
      ∃ t, PSs (cxOf CX0 P w K mg base N ("Bands." ++ m) (defScope st) f cdv A outer s H E).nox (defBody st) t ∧ t { nx := fun _ H' => Q .non H', rt := Q } (start N vs) H) : Cme P w K mg base C (k + 1) m ps sp := by
  obtain ⟨f, fd, F, g, b⟩ := Df
  refine ⟨f, fd, F.ok S len fun cdv A outer s H vs Q E hr h => ?_, g, b⟩
  obtain ⟨t, h1, h2⟩ := hbody f cdv A outer s H vs Q E hr h
  exact ⟨t, h1.nox, h2⟩
end
theorem hu65 {A : Around} {k : Nat} (hr : Room k A) : A.units + 65 < cLine := by have := hr.un; omega
theorem pe_imp {X : Cx} {e : Expr} {t t' : TE} (h : PE X e t) (i : ∀ σ H Q, t' σ H Q → t σ H Q) : PE X e t' := ⟨fun pins s σ H Q I q => h.run pins s σ H Q I (i σ H Q q)⟩
section
variable {X : Cx} {k : Nat} {x m : Str} {ps : List Str} {sp : Sp} {p pos apos : Pos} {e o : Expr} {es : List Expr} {ta : TE} {t : TA} {C : Addr}
theorem tcall_imp {t : TA} : ∀ (σ : L2.St) (H : Hp) (Q : VK), tCl sp t σ H Q → tCall sp [] E0 t σ H Q := by
  intro σ H Q q
  unfold tCall
  simp only [List.append_nil]
  exact q
theorem pe_cal {j : Nat} (c : Cal X.prog X.w X.K X.mg X.base j x ps sp) (hr : Room k X.A) (ha : PA X (e :: es) t) (hj : j ≤ k := by decide) (hg : Gl X x := by rfl) (hdb : (x == ("__debug__" : Str)) = false := by decide) (he : starEach (e :: es) X.env = (false, eval e X.env) :: starEach es X.env := by rfl)
    (hpl : (backTo pos (starEach es X.env)).any (·.1) = false := by rfl) : PE X (.Call (.Name x p) (e :: es) [] pos) (tCl sp t) := by
  obtain ⟨f, fd, F, g, kp, b⟩ := c
  exact pe_imp (pe_call F (hr.mono hj) hg g kp b .nil pass0 ha hdb he hpl) tcall_imp
/-- o.m() -/
def tMe (C : Addr) (m : Str) (sp : Sp) (ta : TE) (t : TA) : TE := fun σ H Q => ta σ H fun x H1 => ∃ a dx fs, x = .ref a ∧ H1 a = some (.ins C dx fs) ∧ fs.lookup m = none ∧ t σ H1 fun vs H2 => sp (x :: vs) H2 Q E0
theorem tme_imp : ∀ (σ : L2.St) (H : Hp) (Q : VK), tMe C m sp ta t σ H Q → tMeth C m sp [] E0 ta t σ H Q := by
  intro σ H Q q
  unfold tMeth
  simp only [List.append_nil]
  exact q
/-- the method's promise, of an instance that is known -/
theorem ev_me {K : PySem.W.Frag} {σ : L2.St} {G : Hp} {τ : Type} {ea : τ → List PyData} {ok : τ → Prop} {er : τ → PyData} {dh dr dg : PyData} {ds : List PyData} (z : τ) (ho : EvD ta σ G (encB C dh dr dg)) (ha : EvA t σ G ds) (hz : ea z = encB C dh dr dg :: ds) (hok : ok z)
    (hm : ∀ h r g ag, (bfs h r g ag).lookup m = none) : EvD (tMe C m (spF ea ok er) ta t) σ G (er z) := fun G1 H1 a b Q k =>
  ho G1 H1 a b _ fun v G2 H2 g2 r2 => by
    obtain ⟨p, dx, h', r, g, ag, rfl, hp, r1, r3, r4⟩ := r2.ins_at
    exact ⟨p, dx, _, rfl, g2.gh _ _ hp, hm _ _ _ _, ha G2 H2 (a.trans g2.gg) g2.gh _ fun vs G3 H3 g3 r5 => ⟨G3, z, g3.gh, by rw [hz]; exact .cons (r2.mono g3.gg) r5, hok, fun v G4 H4 g4 r6 => k v G4 H4 ((g2.trans g3).trans g4) r6⟩⟩
/-- a field -/
theorem ev_fld {K : PySem.W.Frag} {mg : Str → Option Value} {σ : L2.St} {G : Hp} {f : Str} {dh dr dg d : PyData} (B : Bnd K mg C) (hn : NoAttr K C f) (ho : EvD ta σ G (encB C dh dr dg))
    (hl : ∀ h r g ag, ∃ v, (bfs h r g ag).lookup f = some v ∧ ∀ G' : Hp, Rp G' h dh → Rp G' r dr → Rp G' g dg → Rp G' v d) : EvD (tFld K ta f) σ G d := fun G1 H1 a b Q k =>
  ho G1 H1 a b _ fun v G2 H2 g2 r2 => by
    obtain ⟨p, dx, h', r, g, ag, rfl, hp, r1, r3, r4⟩ := r2.ins_at
    obtain ⟨v, hv, hr⟩ := hl h' r g ag
    exact ⟨p, C, dx, _, v, rfl, g2.gh _ _ hp, B.cls, hn, hv, k v G2 H2 g2 (hr G2 r1 r3 r4)⟩
end
theorem bfs_1 (h r g ag : V) : (bfs h r g ag).lookup ("own_hands" : Str) = some h := by unfold bfs; rw [lookup_putF, if_neg (by decide +kernel), lookup_putF, if_neg (by decide +kernel), lookup_putF, if_neg (by decide +kernel), lookup_putF, if_pos rfl]
theorem bfs_2 (h r g ag : V) : (bfs h r g ag).lookup ("own_roads" : Str) = some r := by unfold bfs; rw [lookup_putF, if_neg (by decide +kernel), lookup_putF, if_neg (by decide +kernel), lookup_putF, if_pos rfl]
theorem bfs_3 (h r g ag : V) : (bfs h r g ag).lookup ("own_greatest" : Str) = some g := by unfold bfs; rw [lookup_putF, if_neg (by decide +kernel), lookup_putF, if_pos rfl]
theorem bfs_4 (h r g ag : V) : (bfs h r g ag).lookup ("own_agree" : Str) = some ag := by unfold bfs; rw [lookup_putF, if_pos rfl]
theorem bfs_no {m : Str} (h1 : ¬ m = "own_agree") (h2 : ¬ m = "own_greatest") (h3 : ¬ m = "own_roads") (h4 : ¬ m = "own_hands") (h r g ag : V) : (bfs h r g ag).lookup m = none := by
  unfold bfs; rw [lookup_putF, if_neg h1, lookup_putF, if_neg h2, lookup_putF, if_neg h3, lookup_putF, if_neg h4]; rfl
/-! ### the rules, the written part told by its name -/
section
variable {X : Cx} {K : PySem.W.Frag}
theorem kin (hu : X.A.units + 65 < cLine) (hK : X.K = K := by rfl) : OpR X (compareOp .In) (rInU K false) := hK ▸ op_inU hu
theorem knin (hu : X.A.units + 65 < cLine) (hK : X.K = K := by rfl) : OpR X (compareOp .NotIn) (rInU K true) := hK ▸ op_notInU hu
theorem keq (hu : X.A.units + 64 < cLine) (hK : X.K = K := by rfl) : OpR X (compareOp .Eq) (rEqD K) := hK ▸ op_eqD hu
theorem kne (hu : X.A.units + 64 < cLine) (hK : X.K = K := by rfl) : OpR X (compareOp .NotEq) (rNeD K) := hK ▸ op_neD hu
theorem kcatA (hK : X.K = K := by rfl) : OpR X (binaryOp .Add) (rCatA K) := hK ▸ op_catA
theorem kix (hK : X.K = K := by rfl) : IxR X (rIx K) := hK ▸ ix_seq
theorem ksl (hK : X.K = K := by rfl) : SlR X (rSlL K) := hK ▸ sl_list
theorem klen (hK : X.K = K := by rfl) : CallR X (.builtin "len") (fun xs H Q => ∃ p ys, xs = [.ref p] ∧ (SqL K H p ys ∨ SqT K H p ys) ∧ Q (.int ys.length) H) := hK ▸ call_len_seq
theorem klist (hK : X.K = K := by rfl) : CallR X (.type "list") (fun xs H Q => ∃ p ys, xs = [.ref p] ∧ (SqL K H p ys ∨ SqT K H p ys) ∧ ∀ l, H l = none → Q (.ref l) (upd H l (.lst ys))) := hK ▸ call_list_of
theorem ktuple (hK : X.K = K := by rfl) : CallR X (.type "tuple") (fun xs H Q => ∃ p ys, xs = [.ref p] ∧ ((SqL K H p ys ∧ ∀ l, H l = none → Q (.ref l) (upd H l (.tup ys))) ∨ (SqT K H p ys ∧ Q (.ref p) H))) := hK ▸ call_tuple_of
theorem kall (hc : X.calm = true) (hK : X.K = K := by rfl) : CallR X (.builtin "all") (rAll K) := hK ▸ cr_all hc
theorem kany (hc : X.calm = true) (hK : X.K = K := by rfl) : CallR X (.builtin "any") (rAny K) := hK ▸ cr_any hc
theorem ksorted (hu : X.A.units + 64 < cLine) (hK : X.K = K := by rfl) : CallR X (.builtin "sorted") (rSortU K) := hK ▸ cr_sortedU hu
theorem kisi (hK : X.K = K := by rfl) : CallR X (.builtin "isinstance") (rIsi K) := hK ▸ call_isi
theorem kisiT (hK : X.K = K := by rfl) : CallR X (.builtin "isinstance") (rIsiT K) := hK ▸ call_isiT
theorem kseq {tg l : Expr} {tl : TE} (hl : PE X l tl) (hK : X.K = K := by rfl) : PI X tg l (iSeq K tl) := hK ▸ pi_seq hl
theorem kenum {tg e : Expr} {ta : TA} (h : PI X tg e (iEnum X.K ta)) (hK : X.K = K := by rfl) : PI X tg e (iEnum K ta) := hK ▸ h
theorem kzip {tg e : Expr} {ta : TA} (h : PI X tg e (RZ.iZipA X.K ta)) (hK : X.K = K := by rfl) : PI X tg e (RZ.iZipA K ta) := hK ▸ h
theorem kg_tup {e : Expr} {n : Nat} {t : TGs} (h : PG X e (gTup X.K n t)) (hK : X.K = K := by rfl) : PG X e (gTup K n t) := hK ▸ h
theorem kfld {e : Expr} {ta : TE} {f : Str} (h : PE X e (tFld X.K ta f)) (hK : X.K = K := by rfl) : PE X e (tFld K ta f) := hK ▸ h
theorem kbm {e : Expr} {T : String} {r : V → List V → Hp → VK → Prop} {to : TE} {t : TA} (h : PE X e (tBM X.K T r to t)) (hK : X.K = K := by rfl) : PE X e (tBM K T r to t) := hK ▸ h
theorem kme {e : Expr} {ta : TE} {t : TA} {C : Addr} {m : Str} {sp : Sp} (h : PE X e (tMeth C m sp [] E0 ta t)) : PE X e (tMe C m sp ta t) := pe_imp h tme_imp
end
end Bp

set_option Elab.async false
set_option linter.all false
set_option maxRecDepth 100000
set_option maxHeartbeats 1000001
namespace Bp
open PySem PySem.Spec L2 PyProof.Rows
/-- a list of the def's own at p, filled in a loop: it stands, it is not known yet; G0, H0 as the def began -/
structure Loc (M : Addr → Prop) (G0 H0 G H : Hp) (p : Addr) (ds : List PyData) : Prop where
  gr : GrM M G0 H0 G H
  n0 : H0 p = none
  ng : G p = none
  acc : ∃ vs, H p = some (.lst vs) ∧ RpAll G vs ds
section
variable {M M' : Addr → Prop} {G0 H0 G H G' H' : Hp} {p q : Addr} {ds es : List PyData} {v : V} {d : PyData}
theorem Loc.gh (L : Loc M G0 H0 G H p ds) : Same G H := L.gr.gh
theorem Loc.there (L : Loc M G0 H0 G H p ds) : H p ≠ none := by obtain ⟨vs, h, _⟩ := L.acc; rw [h]; simp
theorem Loc.step (L : Loc M G0 H0 G H p ds) (g : Gr G H G' H') : Loc M G0 H0 G' H' p ds := by
  obtain ⟨vs, h, r⟩ := L.acc
  exact ⟨L.gr.trans g.toM, L.n0, g.outL L.ng h, vs, g.same _ _ h, r.mono g.gg⟩
/-- another one is changed -/
theorem Loc.other (L : Loc M G0 H0 G H p ds) (g : GrM (fun a => a = q) G H G' H') (nq : H0 q = none) (h : p ≠ q) : Loc M G0 H0 G' H' p ds := by
  obtain ⟨vs, e, r⟩ := L.acc
  refine ⟨⟨L.gr.gg.trans g.gg, g.gh, fun a o ha n => g.hh a o (L.gr.hh a o ha n) ?_, fun a ha => L.gr.dom a (g.dom a ha), fun a ha n => (L.gr.new a ha n).elim (fun e1 => (g.new a e1 fun z => n (L.gr.dom a z)).imp id fun ⟨xs, w⟩ => ⟨xs, L.gr.tup a xs w n⟩) .inr, fun a xs ha n => L.gr.tup a xs (g.tup a xs ha fun z => n (L.gr.dom a z)) n⟩, L.n0, g.outL L.ng e, vs, g.hh _ _ e h, r.mono g.gg⟩
  rintro rfl
  rw [nq] at ha; cases ha
theorem Loc.new {G H : Hp} (g : GrM M G0 H0 G H) (hp : H p = none) : Loc M G0 H0 G (upd H p (.lst [])) p [] :=
  ⟨g.mut (g.dom p hp) (g.gh.free hp), g.dom p hp, g.gh.free hp, [], upd_same, .nil⟩
theorem Loc.put (L : Loc M G0 H0 G H p ds) {vs : List V} (r : RpAll G vs es) : Loc M G0 H0 G (upd H p (.lst vs)) p es :=
  ⟨L.gr.mut L.n0 L.ng, L.n0, L.ng, vs, upd_same, r⟩
/-- the list is known from now on -/
theorem Loc.know (L : Loc M G0 H0 G H p ds) : ∃ G', GrM M G0 H0 G' H ∧ Same G G' ∧ Rp G' (.ref p) (.list ds) := by
  obtain ⟨vs, h, r⟩ := L.acc
  exact ⟨_, L.gr.know L.n0 L.ng h, same_upd L.ng, .lst upd_same (r.mono (same_upd L.ng))⟩
end
section
variable {K : PySem.W.Frag} {M : Addr → Prop} {G0 H0 G H : Hp} {σ : L2.St} {te : TE} {tz : TS} {D : Ends} {p : Addr} {ds es : List PyData} {d : PyData} {i : Nat}
/-- x = [] -/
theorem b_new (g : GrM M G0 H0 G H) (k : ∀ p, H p = none → Loc M G0 H0 G (upd H p (.lst [])) p [] → tz D (σ.set i (some (.ref p))) (upd H p (.lst []))) : tSeq (tAsg (tLst tNil) (gName i)) tz D σ H :=
  ⟨Nat.zero_le _, fun p hp => k p hp (Loc.new g hp)⟩
/-- x.append(e) -/
theorem app1 (L : Loc M G0 H0 G H p ds) (hσ : σ[i]? = some (some (.ref p))) (he : EvD te σ G d) (hz : ds.length < 16000000)
    (k : ∀ G' H', Same G G' → GrM (fun a => a = p) G H G' H' → Loc M G0 H0 G' H' p (ds ++ [d]) → D.nx σ H') : tDrop (tBM K "list" rAppend (tVar i) (tCons te tNil)) D σ H := by
  obtain ⟨vs, h, r⟩ := L.acc
  refine ⟨_, hσ, .inl ⟨rfl, vs, sqL h⟩, he G H (Same.refl _) L.gh _ fun v G1 H1 g1 r1 => ?_⟩
  obtain ⟨vs1, h1, r2⟩ := (L.step g1).acc
  have e : vs1 = vs := by
    have := g1.same _ _ h
    rw [h1] at this; cases this; rfl
  subst e
  refine ⟨p, vs1, v, rfl, rfl, h1, ?_, k G1 _ g1.gg ?_ ((L.step g1).put (r2.snoc r1))⟩
  · rw [r2.length, sizeLine_eq]; omega
  · exact (g1.toM (M := fun a => a = p)).mutM (.inl ⟨rfl, fun _ z => nomatch z⟩) (L.step g1).ng
theorem b_append (L : Loc M G0 H0 G H p ds) (hσ : σ[i]? = some (some (.ref p))) (he : EvD te σ G d) (hz : ds.length < 16000000)
    (k : ∀ G' H', Same G G' → GrM (fun a => a = p) G H G' H' → Loc M G0 H0 G' H' p (ds ++ [d]) → tz D σ H') : tSeq (tDrop (tBM K "list" rAppend (tVar i) (tCons te tNil))) tz D σ H := app1 L hσ he hz k
/-- x.extend(e) -/
theorem ext1 (L : Loc M G0 H0 G H p ds) (hσ : σ[i]? = some (some (.ref p))) (he : EvD te σ G (.list es)) (hz : ds.length + es.length ≤ 16000000)
    (k : ∀ G' H', Same G G' → GrM (fun a => a = p) G H G' H' → Loc M G0 H0 G' H' p (ds ++ es) → D.nx σ H') : tDrop (tBM K "list" rExtend (tVar i) (tCons te tNil)) D σ H := by
  obtain ⟨vs, h, r⟩ := L.acc
  refine ⟨_, hσ, .inl ⟨rfl, vs, sqL h⟩, he G H (Same.refl _) L.gh _ fun v G1 H1 g1 r1 => ?_⟩
  obtain ⟨vs1, h1, r2⟩ := (L.step g1).acc
  have e : vs1 = vs := by
    have := g1.same _ _ h
    rw [h1] at this; cases this; rfl
  subst e
  obtain ⟨b, zs, rfl, hb, r3⟩ := r1.list_at
  refine ⟨p, b, vs1, zs, rfl, rfl, h1, g1.gh _ _ hb, ?_, k G1 _ g1.gg ?_ ((L.step g1).put (r2.append r3))⟩
  · rw [r2.length, r3.length, sizeLine_eq]; omega
  · exact (g1.toM (M := fun a => a = p)).mutM (.inl ⟨rfl, fun _ z => nomatch z⟩) (L.step g1).ng
theorem b_extend (L : Loc M G0 H0 G H p ds) (hσ : σ[i]? = some (some (.ref p))) (he : EvD te σ G (.list es)) (hz : ds.length + es.length ≤ 16000000)
    (k : ∀ G' H', Same G G' → GrM (fun a => a = p) G H G' H' → Loc M G0 H0 G' H' p (ds ++ es) → tz D σ H') : tSeq (tDrop (tBM K "list" rExtend (tVar i) (tCons te tNil))) tz D σ H := ext1 L hσ he hz k
/-- .. the loop, then what follows -/
theorem b_for {β : Type} {bs : List β} {wi : TI} {g : TG} {tu : TS} (enc : β → PyData) (hI : EvI wi σ G (bs.map enc)) (s : Same G H) (P : Nat → L2.St → Hp → Hp → Prop) (h0 : ∀ G1 H1, Gr G H G1 H1 → P 0 σ G1 H1) (hP : ∀ i σ' G' H', P i σ' G' H' → Same G' H')
    (hs : ∀ i b x σ' G1 H1 G2 H2, bs[i]? = some b → P i σ' G1 H1 → Gr G1 H1 G2 H2 → Rp G2 x (enc b) →
      EvTg g x σ' (fun σ2 => tu { D with nx := fun σ3 H3 => ∃ G3, Same G1 G3 ∧ P (i + 1) σ3 G3 H3, ct := fun σ3 H3 => ∃ G3, Same G1 G3 ∧ P (i + 1) σ3 G3 H3, bk := tz D } σ2 H2) G2)
    (hd : ∀ σ' G' H', P bs.length σ' G' H' → tz D σ' H') : tSeq (tFor wi g tu) tz D σ H := b_for1 (D := { D with nx := tz D }) enc hI s P h0 hP hs hd
end
/-- things with their places -/
def eZ {β : Type} (enc : β → PyData) (p : β × Nat) : PyData := .tuple [.int (p.2 : Int), enc p.1]
theorem enumD_zip {β : Type} (enc : β → PyData) : ∀ (l : List β) (k : Nat), enumD (l.map enc) k = (l.zipIdx k).map (eZ enc)
  | [], _ => rfl
  | b :: l, k => by
    show _ :: enumD (l.map enc) (k + 1) = _
    rw [enumD_zip enc l (k + 1)]; rfl
theorem ei_enumZ {β : Type} {K : PySem.W.Frag} {σ : L2.St} {G : Hp} {te : TE} {enc : β → PyData} {l : List β} (h : EvD te σ G (.list (l.map enc))) : EvI (iEnum K (tCons te tNil)) σ G (l.zipIdx.map (eZ enc)) := by
  rw [← enumD_zip]; exact ei_enum (ea_one h)
theorem take_succ {β : Type} {l : List β} {i : Nat} {b : β} (h : l[i]? = some b) : l.take (i + 1) = l.take i ++ [b] := by rw [List.take_add_one, h]; rfl
end Bp

set_option Elab.async false
set_option linter.all false
set_option maxRecDepth 100000
set_option maxHeartbeats 1000001
namespace Bp
open PySem PySem.Spec L2 PyProof.Rows
section
variable {P : Program} {w : World} {K : PySem.W.Frag} {mg : Str → Option Value} {base : Heap}
/-! ### is_within -/
def within (one other : List Hd) : Bool := one.all fun h => decide (h ∈ other)
def spWithin : Sp := spF (τ := Bool × List Hd × Bool × List Hd) (fun x => [eK x.1 x.2.1, eK x.2.2.1 x.2.2.2]) (fun x => x.2.1.length ≤ 1000000) (fun x => .bool (within x.2.1 x.2.2.2))
theorem ev_inH {σ : L2.St} {G : Hp} {ta tb : TE} {k : Bool} {h : Hd} {t : List Hd} (ha : EvD ta σ G (eH h)) (hb : EvD tb σ G (eK k t)) : EvD (tOp (rInU K false) ta tb) σ G (.bool (decide (h ∈ t))) :=
  (ev_in (neg := false) ha hb (sh_eH (n := 0) h).shaped (sh_eK (n := 0) k t).shaped).is (by simp only [Bool.false_eq_true, if_false]; rw [any_eqv eqv_h])
theorem ev_ninH {σ : L2.St} {G : Hp} {ta tb : TE} {k : Bool} {h : Hd} {t : List Hd} (ha : EvD ta σ G (eH h)) (hb : EvD tb σ G (eK k t)) : EvD (tOp (rInU K true) ta tb) σ G (.bool (!decide (h ∈ t))) :=
  (ev_in (neg := true) ha hb (sh_eH (n := 0) h).shaped (sh_eK (n := 0) k t).shaped).is (by simp only [if_true]; rw [any_eqv eqv_h])
theorem map_bool {β : Type} (l : List β) (f : β → Bool) : l.map (fun x => PyData.bool (f x)) = (l.map f).map PyData.bool := by rw [List.map_map]; rfl
theorem ok_is_within (Dfn : Df K mg "is_within" s_is_within ["one", "other"]) (B : Blt mg) : Cal P w K mg base 1 "is_within" ["one", "other"] spWithin := by
  refine cal_of Dfn sc_is_within (spF_len fun _ => rfl) fun f cdv A outer s H vs Q E hr h => ?_
  obtain ⟨G, ⟨k1, a, k2, b⟩, g, r, hok, q⟩ := h
  cases r with
  | cons r1 r => cases r with
    | cons r2 r =>
      cases r
      refine ⟨_, (pss_one (ps_ret (pe_callB (kall (K := K) rfl) rfl B.all (by decide +kernel) (pa_cons (pe_lc (own := [("hand", 2)]) rfl sc_is_within.nd (kseq (K := K) (pv 0)) (blkOk_by (N := n_is_within) (sc := defScope s_is_within) (own := [("hand", 2)]) (by decide +kernel)) (fun _ _ _ _ _ => (pg_name (i := 2) sc_is_within.nd rfl (Or.inl rfl))) (fun _ _ _ _ _ => pts_nil) (fun _ _ _ _ _ => (pe_cmpR (kin (K := K) (hu65 hr)) (pv 2) (pv 1) rfl))) pa_nil)))), ?_⟩
      refine b_ret ((ev_all (bs := a.map fun x => decide (x ∈ b)) ?_).is ?_) g q
      · rw [← map_bool]
        exact ev_lcm eH (fun x => .bool (decide (x ∈ b))) (ei_seq (k := k1) (ev_var rfl r1)) (by simp only at hok; omega) fun x hx v G' s rx => tg_name ⟨rfl, ev_inH (k := k2) (ev_var rfl rx) (ev_var rfl (r2.mono s))⟩
      · show PyData.bool _ = PyData.bool (within a b)
        unfold within
        rw [List.all_map]; rfl
end
end Bp

set_option Elab.async false
set_option linter.all false
set_option maxRecDepth 100000
set_option maxHeartbeats 1000001
namespace Bp
open PySem PySem.Spec L2 PyProof.Rows
abbrev M0 : Addr → Prop := fun _ => False
section
variable {P : Program} {w : World} {K : PySem.W.Frag} {mg : Str → Option Value} {base : Heap}
/-! ### each_once -/
def putD (acc : List PyData) (d : PyData) : List PyData := if acc.any (fun z => PyData.eqv z d) then acc else acc ++ [d]
def onceD (ds : List PyData) : List PyData := ds.foldl putD []
theorem foldl_take {α β : Type} (f : β → α → β) (b0 : β) {l : List α} {i : Nat} {x : α} (h : l[i]? = some x) : (l.take (i + 1)).foldl f b0 = f ((l.take i).foldl f b0) x := by rw [take_succ h, List.foldl_append]; rfl
theorem putD_len (acc : List PyData) (d : PyData) : (putD acc d).length ≤ acc.length + 1 := by unfold putD; split <;> simp
theorem onceD_len (ds : List PyData) : (onceD ds).length ≤ ds.length := by
  have : ∀ (ds acc : List PyData), (ds.foldl putD acc).length ≤ acc.length + ds.length := by
    intro ds
    induction ds with
    | nil => intro acc; simp
    | cons d r ih =>
      intro acc
      have := ih (putD acc d)
      have := putD_len acc d
      simp only [List.foldl_cons, List.length_cons]
      omega
  simpa [onceD] using this ds []
theorem onceD_mem {ds : List PyData} : ∀ d ∈ onceD ds, d ∈ ds := by
  have : ∀ (ds acc : List PyData), ∀ d ∈ ds.foldl putD acc, d ∈ acc ∨ d ∈ ds := by
    intro ds
    induction ds with
    | nil => intro acc d h; exact .inl h
    | cons e r ih =>
      intro acc d h
      rcases ih (putD acc e) d h with h | h
      · unfold putD at h
        split at h
        · exact .inl h
        · rcases List.mem_append.mp h with h | h
          · exact .inl h
          · rw [List.mem_singleton] at h; subst h; exact .inr List.mem_cons_self
      · exact .inr (List.mem_cons_of_mem _ h)
  intro d h
  simpa using this ds [] d h
def spOnce : Sp := spF (τ := List PyData) (fun ds => [.list ds]) (fun ds => ds.length ≤ 1000000 ∧ ∀ d ∈ ds, Sh 10 d) (fun ds => .list (onceD ds))
theorem ok_each_once (Dfn : Df K mg "_law_each_once" s_l_each_once ["_law_things"]) (B : Blt mg) : Cal P w K mg base 1 "_law_each_once" ["_law_things"] spOnce := by
  refine cal_of Dfn sc_l_each_once (spF_len fun _ => rfl) fun f cdv A outer s H vs Q E hr h => ?_
  obtain ⟨G, ds, g, r, ⟨hz, hsh⟩, q⟩ := h
  cases r with
  | cons r1 r =>
    rename_i v0 _
    cases r
    refine ⟨_, (pss_cons (ps_set (i := 1) sc_l_each_once.nd rfl (Or.inl rfl) (pe_lst pa_nil))
    (pss_cons (ps_for PassesOwn.never rfl (kseq (K := K) (pv 0)) (pg_name (i := 2) sc_l_each_once.nd rfl (Or.inl rfl))
      (pss_one (ps_if (pt_cmpR (knin (K := K) (hu65 hr)) (pv 2) (pv 1) rfl) (pss_one (ps_expr (kbm (K := K) (pe_bm PySem.F.plainAttrs_list PySem.F.slot_list_append PySem.F.type_list_append mt_append (pv 1) (pa_cons (pv 2) pa_nil))))) pss_nil)))
    (pss_one (ps_ret (pv 1))))), ?_⟩
    refine b_new (Gr.refl g) fun p hp L => ?_
    refine b_for (bs := ds) id (by rw [List.map_id]; exact ei_seq (k := true) (ev_var rfl r1)) L.gh (fun i σ' G' H' => ∃ y, σ' = [some v0, some (.ref p), y] ∧ Loc M0 G H G' H' p (onceD (ds.take i)))
      (fun G1 H1 g1 => ⟨_, rfl, by simpa [onceD] using L.step g1⟩) (fun i σ' G' H' ⟨y, _, L'⟩ => L'.gh) (fun i d x σ' G1 H1 G2 H2 hd ⟨y, hσ, L1⟩ g2 rx => ?_) fun σ' G' H' ⟨y, hσ, L'⟩ => ?_
    · subst hσ
      refine tg_name ?_
      have L2 := L1.step g2
      obtain ⟨G3, g3, s3, r3⟩ := L2.know
      have hdm : d ∈ ds := List.mem_of_getElem? hd
      have shO : SeqAt.shaped (sq true (onceD (ds.take i))) = true := (sh_list (n := 10) fun e he => hsh e (List.mem_of_mem_take (onceD_mem e he))).shaped
      have tb : EvB (tTest (tOp (rInU K true) (tVar 2) (tVar 1))) [some v0, some (.ref p), some x] G3 (!((onceD (ds.take i)).any fun z => PyData.eqv z d)) :=
        eb_test ((ev_in (neg := true) (k := true) (ev_var rfl (rx.mono s3)) (ev_var rfl r3) (hsh d hdm).shaped shO).is rfl)
      have e := foldl_take putD [] hd
      have ez : (onceD (ds.take i)).length < 16000000 := by
        have := onceD_len (ds.take i)
        rw [List.length_take] at this
        omega
      refine b_if1 tb g3.gh (fun hb H4 s4 => ?_) (fun hb H4 s4 => ?_)
      · have L4 := L2.step (Gr.of L2.gh s4)
        refine app1 L4 rfl (ev_var rfl rx) ez fun G5 H5 s5 g5 L5 => ⟨G5, g2.gg.trans s5, _, rfl, ?_⟩
        have e' : onceD (ds.take (i + 1)) = onceD (ds.take i) ++ [d] := by
          show (ds.take (i + 1)).foldl putD [] = _
          rw [e]
          show putD (onceD (ds.take i)) d = _
          unfold putD
          rw [if_neg (by simpa using hb)]
        rw [e']
        exact L5
      · refine ⟨G2, g2.gg, _, rfl, ?_⟩
        have e' : onceD (ds.take (i + 1)) = onceD (ds.take i) := by
          show (ds.take (i + 1)).foldl putD [] = _
          rw [e]
          show putD (onceD (ds.take i)) d = _
          unfold putD
          rw [if_pos (by simpa using hb)]
        rw [e']
        exact L2.step (Gr.of L2.gh s4)
    · subst hσ
      rw [List.take_length] at L'
      obtain ⟨G3, g3, s3, r3⟩ := L'.know
      exact b_ret (ev_var rfl r3) g3.gh fun v G4 H4 g4 r4 => q v G4 H4 (g3.trans g4) r4
/-! ### pairs -/
def pairsZ (hs : List Hd) : List (Hd × Hd) := hs.zipIdx.flatMap fun p => (hs.drop (p.2 + 1)).map fun o => (p.1, o)
def spPairs : Sp := spF (τ := List Hd) (fun hs => [eL hs]) (fun hs => hs.length ≤ 1000) (fun hs => eLP (pairsZ hs))
theorem cutD_drop (ds : List PyData) (n : Nat) : cutD ds (some (n : Int)) none = ds.drop n := by
  unfold cutD
  rw [HT.sIx_nat, HT.sIx_none]
  by_cases h : n ≤ ds.length
  · rw [Nat.min_eq_left h, List.take_of_length_le (by simp)]
  · rw [Nat.min_eq_right (by omega), List.drop_of_length_le (Nat.le_refl _), List.drop_of_length_le (by omega)]; simp
theorem zipIdx_len {β : Type} (l : List β) : l.zipIdx.length = l.length := by simp
theorem zipIdx_get {β : Type} {l : List β} {i : Nat} {b : β} {j : Nat} (h : l.zipIdx[i]? = some (b, j)) : j = i ∧ l[i]? = some b := by
  rw [List.getElem?_zipIdx] at h
  cases q : l[i]? with
  | none => rw [q] at h; cases h
  | some c => rw [q] at h; simp at h; exact ⟨h.2.symm, by rw [h.1]⟩
theorem flatMap_take {α β : Type} (f : α → List β) {l : List α} {i : Nat} {x : α} (h : l[i]? = some x) : (l.take (i + 1)).flatMap f = (l.take i).flatMap f ++ f x := by rw [take_succ h, List.flatMap_append]; simp
theorem flatMap_len {α β : Type} (f : α → List β) (m : Nat) : ∀ (l : List α), (∀ a ∈ l, (f a).length ≤ m) → (l.flatMap f).length ≤ l.length * m
  | [], _ => by simp
  | a :: l, h => by
    rw [List.flatMap_cons, List.length_append, List.length_cons, Nat.succ_mul]
    have := flatMap_len f m l fun b hb => h b (List.mem_cons_of_mem _ hb)
    have := h a List.mem_cons_self
    omega
theorem ok_pairs (Dfn : Df K mg "_law_pairs" s_l_pairs ["_law_hands_here"]) (B : Blt mg) : Cal P w K mg base 1 "_law_pairs" ["_law_hands_here"] spPairs := by
  refine cal_of Dfn sc_l_pairs (spF_len fun _ => rfl) fun f cdv A outer s H vs Q E hr h => ?_
  obtain ⟨G, hs, g, r, hz, q⟩ := h
  cases r with
  | cons r1 r =>
    rename_i v0 _
    cases r
    refine ⟨_, (pss_cons (ps_set (i := 1) sc_l_pairs.nd rfl (Or.inl rfl) (pe_lst pa_nil))
    (pss_cons (ps_for PassesOwn.never rfl (kenum (K := K) (pi_enum rfl B.enumerate (pa_cons (pv 0) pa_nil))) (kg_tup (K := K) (n := 2) (pg_tup rfl (pgs_cons (pg_name (i := 2) sc_l_pairs.nd rfl (Or.inl rfl)) (pgs_cons (pg_name (i := 3) sc_l_pairs.nd rfl (Or.inr rfl)) pgs_nil))))
      (pss_one (ps_expr (kbm (K := K) (pe_bm PySem.F.plainAttrs_list PySem.F.slot_list_extend PySem.F.type_list_extend mt_extend (pv 1) (pa_cons (pe_lc (own := [("_law_other", 4)]) rfl sc_l_pairs.nd (kseq (K := K) (pe_slice (ksl (K := K)) (pv 0) (po_some (pe_op op_add (pv 2) pe_int)) po_none)) (blkOk_by (N := n_l_pairs) (sc := defScope s_l_pairs) (own := [("_law_other", 4)]) (by decide +kernel)) (fun _ _ _ _ _ => (pg_name (i := 4) sc_l_pairs.nd rfl (Or.inl rfl))) (fun _ _ _ _ _ => pts_nil) (fun _ _ _ _ _ => (pe_tup (pa_cons (pv 3) (pa_cons (pv 4) pa_nil))))) pa_nil))))))
    (pss_one (ps_ret (pv 1))))), ?_⟩
    refine b_new (Gr.refl g) fun p hp L => ?_
    refine b_for (bs := hs.zipIdx) (eZ eH) (ei_enumZ (ev_var rfl r1)) L.gh (fun i σ' G' H' => ∃ y2 y3, σ' = [some v0, some (.ref p), y2, y3, none] ∧ Loc M0 G H G' H' p (((hs.zipIdx.take i).flatMap fun p => (hs.drop (p.2 + 1)).map fun o => (p.1, o)).map eP))
      (fun G1 H1 g1 => ⟨_, _, rfl, by simpa using L.step g1⟩) (fun i σ' G' H' ⟨_, _, _, L'⟩ => L'.gh) (fun i d x σ' G1 H1 G2 H2 hd ⟨y2, y3, hσ, L1⟩ g2 rx => ?_) fun σ' G' H' ⟨_, _, hσ, L'⟩ => ?_
    · subst hσ
      obtain ⟨a, j⟩ := d
      obtain ⟨rfl, ha⟩ := zipIdx_get hd
      refine tg_pair rx fun v1 v2 rv1 rv2 => ?_
      have L2 := L1.step g2
      have hlen : ∀ n, (((hs.zipIdx.take n).flatMap fun p => (hs.drop (p.2 + 1)).map fun o => (p.1, o)).map eP).length ≤ 1000 * 1000 := fun n => by
        rw [List.length_map]
        refine Nat.le_trans (flatMap_len _ 1000 _ fun p _ => by simp; omega) ?_
        rw [List.length_take, zipIdx_len]
        exact Nat.mul_le_mul_right _ (by omega)
      refine ext1 (es := (hs.drop (j + 1)).map fun o => eP (a, o)) L2 rfl ?_ ?_ fun G5 H5 s5 g5 L5 => ⟨G5, g2.gg.trans s5, _, _, rfl, ?_⟩
      · refine ev_lcm (bs := hs.drop (j + 1)) eH (fun o => eP (a, o)) (ei_seq (k := true) ?_) (by simp; omega) fun o ho x3 G6 s6 r6 => tg_name ⟨rfl, ev_tup (ea_two (ev_var rfl (rv2.mono s6)) (ev_var rfl r6)) (by show 2 ≤ _; decide)⟩
        have e : (hs.drop (j + 1)).map eH = cutD (hs.map eH) (some ((j : Int) + 1)) none := by
          rw [show ((j : Int) + 1) = ((j + 1 : Nat) : Int) by omega, cutD_drop, List.map_drop]
        show EvD _ _ _ (.list _)
        rw [e]
        exact ev_slice (ev_var rfl (r1.mono (((L.gr.gg.trans (Same.refl _))).trans (by exact L2.gr.gg)))) (eo_some (ev_add (ev_var rfl rv1) ev_int)) eo_none
      · have := hlen j
        have h2 : ((hs.drop (j + 1)).map fun o => eP (a, o)).length ≤ 1000 := by simp; omega
        omega
      · rw [flatMap_take _ hd, List.map_append, List.map_map]
        exact L5
    · subst hσ
      rw [List.take_length] at L'
      obtain ⟨G3, g3, s3, r3⟩ := L'.know
      exact b_ret (ev_var rfl r3) g3.gh fun v G4 H4 g4 r4 => q v G4 H4 (g3.trans g4) r4
end
end Bp

set_option Elab.async false
set_option linter.all false
set_option maxRecDepth 100000
set_option maxHeartbeats 1000001
namespace Bp
open PySem PySem.Spec L2 PyProof.Rows
theorem filter_take {α : Type} (f : α → Bool) {l : List α} {i : Nat} {x : α} (h : l[i]? = some x) : (l.take (i + 1)).filter f = (l.take i).filter f ++ (if f x = true then [x] else []) := by
  rw [take_succ h, List.filter_append]
  congr 1
  by_cases hf : f x = true
  · simp [hf]
  · simp [hf]
theorem rp1 {G : Hp} {vs : List V} {a : PyData} (h : RpAll G vs [a]) : ∃ v, vs = [v] ∧ Rp G v a := by
  cases h with
  | cons r h => cases h; exact ⟨_, rfl, r⟩
theorem rp2 {G : Hp} {vs : List V} {a b : PyData} (h : RpAll G vs [a, b]) : ∃ v w, vs = [v, w] ∧ Rp G v a ∧ Rp G w b := by
  cases h with
  | cons r h => obtain ⟨w, rfl, r'⟩ := rp1 h; exact ⟨_, _, rfl, r, r'⟩
theorem rp3 {G : Hp} {vs : List V} {a b c : PyData} (h : RpAll G vs [a, b, c]) : ∃ v w x, vs = [v, w, x] ∧ Rp G v a ∧ Rp G w b ∧ Rp G x c := by
  cases h with
  | cons r h => obtain ⟨w, x, rfl, r', r''⟩ := rp2 h; exact ⟨_, _, _, rfl, r, r', r''⟩
/-- one list of the def's own becomes known, another one stays as it was -/
theorem Loc.know2 {M : Addr → Prop} {G0 H0 G H : Hp} {p q : Addr} {ds es : List PyData} (N : Loc M G0 H0 G H q es) (L : Loc M G0 H0 G H p ds) (h : p ≠ q) : ∃ G', Same G G' ∧ Loc M G0 H0 G' H p ds ∧ Rp G' (.ref q) (.list es) := by
  obtain ⟨vs, hq, r⟩ := N.acc
  obtain ⟨us, hp, r'⟩ := L.acc
  have s := same_upd (o := .lst vs) N.ng
  exact ⟨_, s, ⟨N.gr.know N.n0 N.ng hq, L.n0, by rw [upd_ne h]; exact L.ng, us, hp, r'.mono s⟩, .lst upd_same (r.mono s)⟩
theorem b_asg1 {σ : L2.St} {G H : Hp} {te : TE} {D : Ends} {d : PyData} {i : Nat} (h : EvD te σ G d) (s : Same G H) (k : ∀ v G' H', Gr G H G' H' → Rp G' v d → D.nx (σ.set i (some v)) H') : tAsg te (gName i) D σ H := h G H (Same.refl _) s _ k
section
variable {P : Program} {w : World} {K : PySem.W.Frag} {mg : Str → Option Value} {base : Heap}
section
variable {σ : L2.St} {G : Hp} {ta : TE}
theorem ev_sortedH {k : Bool} {l : List Hd} (h : EvD ta σ G (eK k l)) : EvD (tCB (rSortU K) (tCons ta tNil)) σ G (eL (sH l)) := by
  refine (ev_sorted (K := K) h (sh_all (n := 0) fun d hd => ?_).1 ?_ ?_ fun d hd => ?_).is ?_
  · obtain ⟨b, _, rfl⟩ := List.mem_map.mp hd; exact sh_eH b
  · exact PySem.W.AllAlike.of alike_h
  · exact PySem.W.Sortable.others fun b => ⟨by unfold eH; simp, fun xs => by unfold eH; simp⟩
  · obtain ⟨b, _, rfl⟩ := List.mem_map.mp hd; exact Nat.le_trans (sh_eH (n := 0) b).dep (by decide)
  · rw [sort_h]; rfl
theorem ev_sortedP {l : List (Hd × Hd)} (h : EvD ta σ G (eLP l)) : EvD (tCB (rSortU K) (tCons ta tNil)) σ G (eLP (sP l)) := by
  refine (ev_sorted (K := K) (k := true) h (sh_all (n := 1) fun d hd => ?_).1 ?_ ?_ fun d hd => ?_).is ?_
  · obtain ⟨b, _, rfl⟩ := List.mem_map.mp hd; exact sh_eP b
  · exact PySem.W.AllAlike.of fun p q => alike_T [p.1, p.2] [q.1, q.2]
  · exact PySem.W.Sortable.tuples fun b => ⟨_, _, rfl⟩
  · obtain ⟨b, _, rfl⟩ := List.mem_map.mp hd; exact Nat.le_trans (sh_eP (n := 0) b).dep (by decide)
  · rw [sort_P]; rfl
theorem ev_sortedC {l : List (List Hd)} (h : EvD ta σ G (.list (l.map eC))) : EvD (tCB (rSortU K) (tCons ta tNil)) σ G (.list ((sC l).map eC)) := by
  refine (ev_sorted (K := K) (k := true) h (sh_all (n := 2) fun d hd => ?_).1 ?_ ?_ fun d hd => ?_).is ?_
  · obtain ⟨b, _, rfl⟩ := List.mem_map.mp hd; exact sh_eC b
  · exact PySem.W.AllAlike.of alike_C
  · exact PySem.W.Sortable.tuples fun b => ⟨_, _, rfl⟩
  · obtain ⟨b, _, rfl⟩ := List.mem_map.mp hd; exact Nat.le_trans (sh_eC (n := 0) b).dep (by decide)
  · rw [sort_C]
theorem ev_eqH {tb : TE} {a b : Hd} (ha : EvD ta σ G (eH a)) (hb : EvD tb σ G (eH b)) : EvD (tOp (rEqD K) ta tb) σ G (.bool (decide (a = b))) :=
  (ev_eq ha hb (sh_eH (n := 0) a).shaped (sh_eH (n := 0) b).shaped).is (by rw [eqv_h])
theorem ev_neT {tb : TE} {a b : List Hd} (ha : EvD ta σ G (eT a)) (hb : EvD tb σ G (eT b)) : EvD (tOp (rNeD K) ta tb) σ G (.bool (!decide (a = b))) :=
  (ev_ne ha hb (sh_eT (n := 0) a).shaped (sh_eT (n := 0) b).shaped).is (by rw [eqv_T])
end
/-! ### near -/
def nearL (rs : List (Hd × Hd)) (h : Hd) : List Hd := sH ((rs.filter fun p => decide (h ∈ [p.1, p.2])).map fun p => if p.2 = h then p.1 else p.2)
theorem sH_len (l : List Hd) : (sH l).length = l.length := List.length_mergeSort _
theorem nearL_len (rs : List (Hd × Hd)) (h : Hd) : (nearL rs h).length ≤ rs.length := by
  unfold nearL
  rw [sH_len, List.length_map]
  exact List.length_filter_le _ _
def spNear : Sp := spF (τ := List (Hd × Hd) × Hd) (fun x => [eLP x.1, eH x.2]) (fun x => x.1.length ≤ 1000) (fun x => eL (nearL x.1 x.2))
theorem ok_near (Dfn : Df K mg "_law_near" s_l_near ["_law_roads", "_law_hand"]) (B : Blt mg) : Cal P w K mg base 1 "_law_near" ["_law_roads", "_law_hand"] spNear := by
  refine cal_of Dfn sc_l_near (spF_len fun _ => rfl) fun f cdv A outer s H vs Q E hr h => ?_
  obtain ⟨G, ⟨rs, a⟩, g, r, hz, q⟩ := h
  obtain ⟨v0, v1, rfl, r1, r2⟩ := rp2 r
  focus
      refine ⟨_, (pss_cons (ps_set (i := 2) sc_l_near.nd rfl (Or.inl rfl) (pe_lst pa_nil))
    (pss_cons (ps_for PassesOwn.never rfl (kseq (K := K) (pv 0)) (pg_name (i := 3) sc_l_near.nd rfl (Or.inl rfl))
      (pss_one (ps_if (pt_cmpR (kin (K := K) (hu65 hr)) (pv 1) (pv 3) rfl) (pss_one (ps_expr (kbm (K := K) (pe_bm PySem.F.plainAttrs_list PySem.F.slot_list_append PySem.F.type_list_append mt_append (pv 2) (pa_cons (pe_ifExp (pt_cmpR (keq (K := K) hr.units) (pe_ix (kix (K := K)) (pv 3) pe_int (fun _ _ => rfl)) (pv 1) (nomark _)) (pe_ix (kix (K := K)) (pv 3) pe_int (fun _ _ => rfl)) (pe_ix (kix (K := K)) (pv 3) pe_int (fun _ _ => rfl))) pa_nil))))) pss_nil)))
    (pss_one (ps_ret (pe_callB (ksorted (K := K) hr.units) rfl B.sorted (by decide +kernel) (pa_cons (pv 2) pa_nil)))))), ?_⟩
      refine b_new (Gr.refl g) fun p hp L => ?_
      refine b_for (bs := rs) eP (ei_seq (k := true) (ev_var rfl r1)) L.gh (fun i σ' G' H' => ∃ y, σ' = [some v0, some v1, some (.ref p), y] ∧ Loc M0 G H G' H' p ((((rs.take i).filter fun p => decide (a ∈ [p.1, p.2])).map fun p => if p.2 = a then p.1 else p.2).map eH))
        (fun G1 H1 g1 => ⟨_, rfl, by simpa using L.step g1⟩) (fun i σ' G' H' ⟨_, _, L'⟩ => L'.gh) (fun i b x σ' G1 H1 G2 H2 hd ⟨y, hσ, L1⟩ g2 rx => ?_) fun σ' G' H' ⟨_, hσ, L'⟩ => ?_
      · subst hσ
        refine tg_name ?_
        have L2 := L1.step g2
        have ra := r2.mono L2.gr.gg
        refine b_if1 (eb_test (ev_inH (k := false) (h := a) (t := [b.1, b.2]) (ev_var rfl ra) (ev_var rfl rx))) L2.gh (fun hb H4 s4 => ?_) (fun hb H4 s4 => ?_)
        · have L4 := L2.step (Gr.of L2.gh s4)
          refine app1 (d := eH (if b.2 = a then b.1 else b.2)) L4 rfl ?_ ?_ fun G5 H5 s5 g5 L5 => ⟨G5, g2.gg.trans s5, _, rfl, ?_⟩
          · refine ev_if (eb_test (ev_eqH (a := b.2) (b := a) (ev_ix (k := false) (ds := [eH b.1, eH b.2]) (ev_var rfl rx) ev_int rfl) (ev_var rfl ra))) (fun h => ?_) (fun h => ?_)
            · rw [if_pos (of_decide_eq_true h)]
              exact ev_ix (k := false) (ds := [eH b.1, eH b.2]) (ev_var rfl rx) ev_int rfl
            · rw [if_neg (of_decide_eq_false h)]
              exact ev_ix (k := false) (ds := [eH b.1, eH b.2]) (ev_var rfl rx) ev_int rfl
          · rw [List.length_map, List.length_map]
            have := List.length_filter_le (fun p : Hd × Hd => decide (a ∈ [p.1, p.2])) (rs.take i)
            rw [List.length_take] at this
            simp only at hz
            omega
          · rw [filter_take _ hd, if_pos hb, List.map_append, List.map_append]
            exact L5
        · refine ⟨G2, g2.gg, _, rfl, ?_⟩
          rw [filter_take _ hd, hb, if_neg Bool.false_ne_true, List.append_nil]
          exact L2.step (Gr.of L2.gh s4)
      · subst hσ
        rw [List.take_length] at L'
        obtain ⟨G3, g3, s3, r3⟩ := L'.know
        exact b_ret (ev_sortedH (k := true) (ev_var rfl r3)) g3.gh fun v G4 H4 g4 r4 => q v G4 H4 (g3.trans g4) r4
/-! ### ways -/
def isAt (o : Hd) (w : List Hd) : Bool := decide (w.getLast? = some o)
def goOn (rs : List (Hd × Hd)) (w : List Hd) : List (List Hd) := ((nearL rs (w.getLast?.getD 0)).filter fun h => !decide (h ∈ w)).map fun h => w ++ [h]
def turnW (rs : List (Hd × Hd)) (o : Hd) (st : List (List Hd) × List (List Hd)) : List (List Hd) × List (List Hd) :=
  (st.1 ++ st.2.filter (isAt o), (st.2.filter fun w => !isAt o w).flatMap (goOn rs))
def runW (rs : List (Hd × Hd)) (one o : Hd) : Nat → List (List Hd) × List (List Hd)
  | 0 => ([], [[one]])
  | n + 1 => turnW rs o (runW rs one o n)
def waysL (rs : List (Hd × Hd)) (one o : Hd) : List (List Hd) := (runW rs one o 7).1
theorem goOn_len (rs : List (Hd × Hd)) (w : List Hd) (h : rs.length ≤ 10) : (goOn rs w).length ≤ 10 := by
  unfold goOn
  rw [List.length_map]
  exact Nat.le_trans (List.length_filter_le _ _) (Nat.le_trans (nearL_len rs _) h)
theorem runW_len (rs : List (Hd × Hd)) (one o : Hd) (h : rs.length ≤ 10) : ∀ n, (runW rs one o n).1.length ≤ 10 ^ n ∧ (runW rs one o n).2.length ≤ 10 ^ n
  | 0 => ⟨by simp [runW], by simp [runW]⟩
  | n + 1 => by
    obtain ⟨h1, h2⟩ := runW_len rs one o h n
    show (turnW rs o (runW rs one o n)).1.length ≤ _ ∧ (turnW rs o (runW rs one o n)).2.length ≤ _
    unfold turnW
    have h3 := List.length_filter_le (isAt o) (runW rs one o n).2
    have h4 := List.length_filter_le (fun w => !isAt o w) (runW rs one o n).2
    have h5 := flatMap_len (goOn rs) 10 ((runW rs one o n).2.filter fun w => !isAt o w) fun w _ => goOn_len rs w h
    rw [Nat.pow_succ]
    simp only [List.length_append]
    omega
theorem runW_ne (rs : List (Hd × Hd)) (one o : Hd) : ∀ n, ∀ w ∈ (runW rs one o n).2, w ≠ []
  | 0, w, h => by simp [runW] at h; rw [h]; simp
  | n + 1, w, h => by
    have h' : w ∈ (turnW rs o (runW rs one o n)).2 := h
    unfold turnW at h'
    obtain ⟨u, _, hw⟩ := List.mem_flatMap.mp h'
    unfold goOn at hw
    obtain ⟨x, _, rfl⟩ := List.mem_map.mp hw
    simp
theorem runW_w (rs : List (Hd × Hd)) (one o : Hd) : ∀ n, ∀ w ∈ (runW rs one o n).2, w.length = n + 1
  | 0, w, h => by simp [runW] at h; rw [h]; simp
  | n + 1, w, h => by
    have h' : w ∈ (turnW rs o (runW rs one o n)).2 := h
    unfold turnW at h'
    obtain ⟨u, hu, hw⟩ := List.mem_flatMap.mp h'
    have := runW_w rs one o n u ((List.mem_filter.mp hu).1)
    unfold goOn at hw
    obtain ⟨x, _, rfl⟩ := List.mem_map.mp hw
    simp [this]
theorem atI_neg1 {α : Type} (l : List α) (h : l ≠ []) : atI l (-1) = l.getLast? := by
  have hl : 0 < l.length := List.length_pos_iff.mpr h
  unfold atI ixN
  rw [if_neg (by omega), if_pos (by omega), List.getLast?_eq_getElem?]
  show l[_]? = l[_]?
  congr 1
  omega
theorem ev_last {σ : L2.St} {G : Hp} {ta : TE} {w : List Hd} (hw : w ≠ []) (ha : EvD ta σ G (eT w)) : EvD (tOp (rIx K) ta (tUn (rU fun i => .int (-i)) (tC (.int 1)))) σ G (eH (w.getLast?.getD 0)) := by
  refine ev_ix (k := false) (ds := w.map eH) (i := -1) ha (fun G1 H1 a b Q k => ⟨1, rfl, k _ G1 H1 (Gr.refl b) (.int _)⟩) ?_
  rw [atI_neg1 _ (by simpa using hw), List.getLast?_map]
  cases h : w.getLast? with
  | none => rw [List.getLast?_eq_none_iff] at h; exact absurd h hw
  | some x => rfl
theorem isAt_last {o : Hd} {w : List Hd} (hw : w ≠ []) : decide (w.getLast?.getD 0 = o) = isAt o w := by
  unfold isAt
  cases h : w.getLast? with
  | none => rw [List.getLast?_eq_none_iff] at h; exact absurd h hw
  | some x => simp
def spWays : Sp := spF (τ := List (Hd × Hd) × Hd × Hd) (fun x => [eLP x.1, eH x.2.1, eH x.2.2]) (fun x => x.1.length ≤ 10) (fun x => eLT (waysL x.1 x.2.1 x.2.2))
theorem ok_ways (Dfn : Df K mg "_law_ways" s_l_ways ["_law_roads", "_law_one", "_law_other"]) (B : Blt mg) (c_l_near : Cal P w K mg base 1 "_law_near" ["_law_roads", "_law_hand"] spNear) : Cal P w K mg base 2 "_law_ways" ["_law_roads", "_law_one", "_law_other"] spWays := by
  refine cal_of Dfn sc_l_ways (spF_len fun _ => rfl) fun f cdv A outer s H vs Q E hr h => ?_
  obtain ⟨G, ⟨rs, a, o⟩, g, r, hz, q⟩ := h
  obtain ⟨v0, v1, v2, rfl, r1, r2, r3⟩ := rp3 r
  focus
        simp only at hz
        refine ⟨_, (pss_cons (ps_par (i := 3) (j := 4) rfl sc_l_ways.nd rfl rfl (by decide) rfl rfl (pa_cons (pe_lst pa_nil) (pa_cons (pe_lst (pa_cons (pe_tup (pa_cons (pv 1) pa_nil)) pa_nil)) pa_nil)) (by rfl))
    (pss_cons (ps_for PassesOwn.never rfl (pi_range1 rfl B.range (pa_cons pe_int pa_nil)) (pg_name (i := 5) sc_l_ways.nd rfl (Or.inl rfl))
      (pss_cons (ps_set (i := 6) sc_l_ways.nd rfl (Or.inl rfl) (pe_lst pa_nil))
    (pss_cons (ps_for PassesOwn.never rfl (kseq (K := K) (pv 4)) (pg_name (i := 7) sc_l_ways.nd rfl (Or.inr rfl))
      (pss_one (ps_if (pt_cmpR (keq (K := K) hr.units) (pe_ix (kix (K := K)) (pv 7) (pe_un un_neg pe_int) (fun _ _ => rfl)) (pv 2) (nomark _)) (pss_one (ps_expr (kbm (K := K) (pe_bm PySem.F.plainAttrs_list PySem.F.slot_list_append PySem.F.type_list_append mt_append (pv 3) (pa_cons (pv 7) pa_nil))))) (pss_one (ps_expr (kbm (K := K) (pe_bm PySem.F.plainAttrs_list PySem.F.slot_list_extend PySem.F.type_list_extend mt_extend (pv 6) (pa_cons (pe_lc (own := [("_law_hand", 8)]) rfl sc_l_ways.nd (kseq (K := K) (pe_cal c_l_near hr (pa_cons (pv 0) (pa_cons (pe_ix (kix (K := K)) (pv 7) (pe_un un_neg pe_int) (fun _ _ => rfl)) pa_nil)))) (blkOk_by (N := n_l_ways) (sc := defScope s_l_ways) (own := [("_law_hand", 8)]) (by decide +kernel)) (fun _ _ _ _ _ => (pg_name (i := 8) sc_l_ways.nd rfl (Or.inl rfl))) (fun _ _ _ _ _ => (pts_one (pt_cmpR (knin (K := K) (hu65 hr)) (pv 8) (pv 7) rfl))) (fun _ _ _ _ _ => (pe_op (kcatA (K := K)) (pv 7) (pe_tup (pa_cons (pv 8) pa_nil))))) pa_nil))))))))
    (pss_one (ps_set (i := 4) sc_l_ways.nd rfl (Or.inl rfl) (pv 6))))))
    (pss_one (ps_ret (pv 3))))), ?_⟩
        refine ⟨Nat.zero_le _, fun p hp => ?_⟩
        have L : Loc M0 G H G (upd H p (.lst [])) p [] := Loc.new (Gr.refl g) hp
        refine ev_lst (ds := [eT [a]]) (ea_one (ev_tup (ea_one (ev_var rfl r2)) (by show 1 ≤ _; decide))) (by show 1 ≤ _; decide) G _ (Same.refl _) L.gh _ fun vl G1 H1 g1 rl => ⟨_, _, rfl, ?_⟩
        have L1 := L.step g1
        have hz7 : ∀ i, i ≤ 7 → 10 ^ i ≤ 10 ^ 7 := fun i hi => Nat.pow_le_pow_right (by decide) hi
        refine b_for (bs := List.range 7) (fun i => .int (i : Int)) (ei_range (n := 7) (ea_one ev_int) (by decide)) L1.gh
          (fun i σ' G' H' => ∃ vl y5 y6 y7, σ' = [some v0, some v1, some v2, some (.ref p), some vl, y5, y6, y7, none] ∧ Loc M0 G H G' H' p ((runW rs a o i).1.map eT) ∧ Rp G' vl (eLT (runW rs a o i).2))
          (fun G2 H2 g2 => ⟨vl, _, _, _, rfl, L1.step g2, rl.mono g2.gg⟩) (fun i σ' G' H' ⟨_, _, _, _, _, L', _⟩ => L'.gh) (fun i b x σ' G2 H2 G3 H3 hd ⟨vl, y5, y6, y7, hσ, L2, rl2⟩ g3 rx => ?_) fun σ' G' H' ⟨_, _, _, _, hσ, L', _⟩ => ?_
        · subst hσ
          refine tg_name ?_
          have hi : i < 7 := by
            have := (List.getElem?_eq_some_iff.mp hd).1
            simpa using this
          obtain ⟨hl1, hl2⟩ := runW_len rs a o hz i
          have hne := runW_ne rs a o i
          have hwl := runW_w rs a o i
          have h10 := hz7 (i + 1) (by omega)
          rw [Nat.pow_succ] at h10
          obtain ⟨st, hst⟩ : ∃ st, st = runW rs a o i := ⟨_, rfl⟩
          have est : runW rs a o (i + 1) = turnW rs o st := by rw [hst]; rfl
          rw [← hst] at hl1 hl2 hne hwl L2 rl2
          have L3 := L2.step g3
          refine b_new L3.gr fun p2 hp2 N => ?_
          have npp : p ≠ p2 := fun e => L3.there (e ▸ hp2)
          have L3' := L3.other (q := p2) (G' := G3) (H' := upd H3 p2 (.lst [])) ((Gr.refl L3.gh).toM.mutM (.inl ⟨rfl, fun _ z => nomatch z⟩) (L3.gh.free hp2)) N.n0 npp
          refine b_for (bs := st.2) eT (ei_seq (k := true) (ev_var rfl (rl2.mono g3.gg))) N.gh
            (fun j σ' G' H' => ∃ y7, σ' = [some v0, some v1, some v2, some (.ref p), some vl, some x, some (.ref p2), y7, none] ∧ Loc M0 G H G' H' p ((st.1 ++ (st.2.take j).filter (isAt o)).map eT) ∧ Loc M0 G H G' H' p2 ((((st.2.take j).filter fun w => !isAt o w).flatMap (goOn rs)).map eT) ∧ Same G3 G')
            (fun G4 H4 g4 => ⟨_, rfl, by simpa using L3'.step g4, by simpa using N.step g4, g4.gg⟩) (fun i σ' G' H' ⟨_, _, _, N', _⟩ => N'.gh) (fun j w xw σ' G4 H4 G5 H5 hw ⟨y, hσ, L4, N4, s4⟩ g5 rw_ => ?_) fun σ' G' H' ⟨_, hσ, L', N', s'⟩ => ?_
          · subst hσ
            refine tg_name ?_
            have L5 := L4.step g5
            have N5 := N4.step g5
            have hwm : w ∈ st.2 := List.mem_of_getElem? hw
            have wne := hne w hwm
            have rr0 := r1.mono L5.gr.gg
            have rr2 := r3.mono L5.gr.gg
            have lt1 : (st.2.take j).length ≤ 10 ^ i := by rw [List.length_take]; omega
            have t1 := List.length_filter_le (isAt o) (st.2.take j)
            have t2 := List.length_filter_le (fun w => !isAt o w) (st.2.take j)
            have t3 := flatMap_len (goOn rs) 10 ((st.2.take j).filter fun w => !isAt o w) fun w _ => goOn_len rs w hz
            have t4 := goOn_len rs w hz
            refine b_if1 (eb_test (ev_eqH (a := w.getLast?.getD 0) (b := o) (ev_last wne (ev_var rfl rw_)) (ev_var rfl rr2))) L5.gh (fun hb H6 s6 => ?_) (fun hb H6 s6 => ?_)
            · rw [isAt_last wne] at hb
              have L6 := L5.step (Gr.of L5.gh s6)
              have N6 := N5.step (Gr.of L5.gh s6)
              refine app1 L6 rfl (ev_var rfl rw_) ?_ fun G7 H7 s7 g7 L7 => ⟨G7, g5.gg.trans s7, _, rfl, ?_, ?_, s4.trans (g5.gg.trans s7)⟩
              · rw [List.length_map, List.length_append]; omega
              · rw [filter_take _ hw, if_pos hb, ← List.append_assoc, List.map_append]
                exact L7
              · rw [filter_take _ hw, hb, Bool.not_true, if_neg Bool.false_ne_true, List.append_nil]
                exact N6.other g7 L6.n0 npp.symm
            · rw [isAt_last wne] at hb
              have L6 := L5.step (Gr.of L5.gh s6)
              have N6 := N5.step (Gr.of L5.gh s6)
              refine ext1 (es := (goOn rs w).map eT) N6 rfl ?_ ?_ fun G7 H7 s7 g7 N7 => ⟨G7, g5.gg.trans s7, _, rfl, ?_, ?_, s4.trans (g5.gg.trans s7)⟩
              · refine (ev_lc (bs := nearL rs (w.getLast?.getD 0)) eH (fun h => !decide (h ∈ w)) (fun h => eT (w ++ [h])) (ei_seq (k := true) ?_) ?_ fun h hh xh G8 s8 r8 => tg_name ⟨rfl, ?_, fun _ => ?_⟩).is ?_
                · exact ev_call (ea := fun x : List (Hd × Hd) × Hd => [eLP x.1, eH x.2]) (er := fun x => eL (nearL x.1 x.2)) (rs, w.getLast?.getD 0) (ea_two (ev_var rfl rr0) (ev_last wne (ev_var rfl rw_))) (by simp only; omega)
                · have := nearL_len rs (w.getLast?.getD 0)
                  omega
                · exact eb_test (ev_ninH (k := false) (ev_var rfl r8) (ev_var rfl (rw_.mono s8)))
                · exact (ev_catT (ds := w.map eH) (es := [eH h]) (ev_var rfl (rw_.mono s8)) (ev_tup (ea_one (ev_var rfl r8)) (by show 1 ≤ _; decide)) (by have := hwl w hwm; simp; omega)).is (by unfold eT; rw [List.map_append]; rfl)
                · unfold goOn; rw [List.map_map]; rfl
              · rw [List.length_map, List.length_map]; omega
              · rw [filter_take _ hw, hb, if_neg Bool.false_ne_true, List.append_nil]
                exact L6.other g7 N6.n0 npp
              · rw [filter_take _ hw, hb, Bool.not_false, if_pos rfl, List.flatMap_append, List.map_append]
                simpa using N7
          · subst hσ
            rw [List.take_length] at L' N'
            obtain ⟨G6, s6, L6, r6⟩ := N'.know2 L' npp
            refine b_asg1 (ev_var rfl r6) L6.gh fun v G7 H7 g7 r7 => ⟨G7, ?_, v, _, _, _, rfl, ?_, ?_⟩
            · exact (((g3.gg).trans s').trans s6).trans g7.gg
            · rw [est]; exact L6.step g7
            · rw [est]; exact r7
        · subst hσ
          rw [List.length_range] at L'
          obtain ⟨G3, g3, s3, r3⟩ := L'.know
          exact b_ret (ev_var rfl r3) g3.gh fun v G4 H4 g4 r4 => q v G4 H4 (g3.trans g4) r4
end
end Bp

set_option Elab.async false
set_option linter.all false
set_option maxRecDepth 100000
set_option maxHeartbeats 1000001
namespace Bp
open PySem PySem.Spec L2 PyProof.Rows
/-! ### typed each_once -/
def putL {β : Type} [DecidableEq β] (acc : List β) (b : β) : List β := if b ∈ acc then acc else acc ++ [b]
def once {β : Type} [DecidableEq β] (l : List β) : List β := l.foldl putL []
theorem onceD_map {β : Type} [DecidableEq β] {enc : β → PyData} (he : ∀ a b, PyData.eqv (enc a) (enc b) = decide (a = b)) (l : List β) : onceD (l.map enc) = (once l).map enc := by
  have : ∀ (l acc : List β), (l.map enc).foldl putD (acc.map enc) = (l.foldl putL acc).map enc := by
    intro l
    induction l with
    | nil => intro acc; rfl
    | cons b r ih =>
      intro acc
      have e : putD (acc.map enc) (enc b) = (putL acc b).map enc := by
        unfold putD putL
        rw [any_eqv he]
        by_cases h : b ∈ acc
        · simp [h]
        · simp [h]
      show (r.map enc).foldl putD (putD (acc.map enc) (enc b)) = _
      rw [e, ih]; rfl
  exact this l []
theorem once_len {β : Type} [DecidableEq β] (l : List β) : (once l).length ≤ l.length := by
  have : ∀ (l acc : List β), (l.foldl putL acc).length ≤ acc.length + l.length := by
    intro l
    induction l with
    | nil => intro acc; simp
    | cons b r ih =>
      intro acc
      have h1 := ih (putL acc b)
      have h2 : (putL acc b).length ≤ acc.length + 1 := by unfold putL; split <;> simp
      simp only [List.foldl_cons, List.length_cons]
      omega
  simpa [once] using this l []
/-! ### what the law's defs compute -/
structure Net where
  hs : List Hd
  rs : List (Hd × Hd)
  gs : List (List Hd)
def eN (n : Net) : PyData := .tuple [eL n.hs, eLP n.rs, .list (n.gs.map eL)]
def subsL (hs : List Hd) : List (List Hd) := (sH hs).foldl (fun acc x => acc ++ acc.map fun s => s ++ [x]) [[]]
def setsL (hs : List Hd) : List (List Hd) := sC (subsL hs)
def isIn (s : List Hd) (ts : List (List Hd)) : Bool := s.isEmpty || ts.any fun t => within s t
def allBands (n : Net) : List (List Hd) := (setsL n.hs).filter fun s => isIn s n.gs
def greatestL (n : Net) : List (List Hd) := (allBands n).filter fun one => !(((allBands n).drop 1).any fun other => !decide (one = other) && isIn one [other])
def isFree (w s : List Hd) : Bool := !(w.any fun h => decide (h ∈ s))
def unionL (a b : List Hd) : List Hd := sH (once (a ++ b))
def unionsL (bs : List (List Hd)) : List (List Hd) := once (bs.flatMap fun one => bs.map fun other => unionL one other)
def pairS (a b : Hd) : Hd × Hd := if a.val ≤ b.val then (a, b) else (b, a)
def without (n : Net) (a b : Hd) : List (List Hd) := (allBands n).filter fun t => !decide (a ∈ t) && !decide (b ∈ t)
def isParted (n : Net) (a b : Hd) : Bool := if pairS a b ∈ n.rs then false else (unionsL (without n a b)).any fun s => !((waysL n.rs a b).any fun w => isFree w s)
def heldBy (n : Net) : Bool := (unionsL (allBands n)).any fun s => isIn (n.hs.filter fun h => !decide (h ∈ s)) (allBands n)
theorem subsL_len (hs : List Hd) : (subsL hs).length = 2 ^ hs.length := by
  have : ∀ (l : List Hd) (acc : List (List Hd)), (l.foldl (fun acc x => acc ++ acc.map fun s => s ++ [x]) acc).length = acc.length * 2 ^ l.length := by
    intro l
    induction l with
    | nil => intro acc; simp
    | cons x r ih => intro acc; simp only [List.foldl_cons, List.length_cons, Nat.pow_succ]; rw [ih, List.length_append, List.length_map, ← Nat.two_mul, Nat.mul_comm 2, Nat.mul_assoc, Nat.mul_comm (2 ^ r.length)]
  unfold subsL
  rw [this, sH_len]; simp
theorem subsL_w (hs : List Hd) : ∀ s ∈ subsL hs, s.length ≤ hs.length := by
  have : ∀ (l : List Hd) (acc : List (List Hd)) (m : Nat), (∀ s ∈ acc, s.length ≤ m) → ∀ s ∈ l.foldl (fun acc x => acc ++ acc.map fun s => s ++ [x]) acc, s.length ≤ m + l.length := by
    intro l
    induction l with
    | nil => intro acc m h; simpa using h
    | cons x r ih =>
      intro acc m h s hs
      have := ih (acc ++ acc.map fun s => s ++ [x]) (m + 1) (fun t ht => by
        rcases List.mem_append.mp ht with ht | ht
        · have := h t ht; omega
        · obtain ⟨u, hu, rfl⟩ := List.mem_map.mp ht
          have := h u hu; simp; omega) s hs
      simp only [List.length_cons]; omega
  intro s h
  unfold subsL at h
  have := this (sH hs) [[]] 0 (by simp) s h
  rw [sH_len] at this; omega
theorem setsL_len (hs : List Hd) : (setsL hs).length = 2 ^ hs.length := by unfold setsL sC; rw [List.length_mergeSort, subsL_len]
theorem setsL_w (hs : List Hd) : ∀ s ∈ setsL hs, s.length ≤ hs.length := fun s h => subsL_w hs s (List.mem_mergeSort.mp h)
theorem allBands_len (n : Net) : (allBands n).length ≤ 2 ^ n.hs.length := Nat.le_trans (List.length_filter_le _ _) (Nat.le_of_eq (setsL_len _))
theorem allBands_w (n : Net) : ∀ s ∈ allBands n, s.length ≤ n.hs.length := fun s h => setsL_w _ s (List.mem_filter.mp h).1
section
variable {P : Program} {w : World} {K : PySem.W.Frag} {mg : Str → Option Value} {base : Heap}
/-! ### sets -/
def spSets : Sp := spF (τ := List Hd) (fun hs => [eL hs]) (fun hs => hs.length ≤ 10) (fun hs => eLT (setsL hs))
theorem pow10 {m : Nat} (h : m ≤ 10) : 2 ^ m ≤ 1024 := Nat.le_trans (Nat.pow_le_pow_right (by decide) h) (by decide)
theorem ok_sets (Dfn : Df K mg "_law_sets" s_l_sets ["_law_things"]) (B : Blt mg) : Cal P w K mg base 1 "_law_sets" ["_law_things"] spSets := by
  refine cal_of Dfn sc_l_sets (spF_len fun _ => rfl) fun f cdv A outer s H vs Q E hr h => ?_
  obtain ⟨G, hs, g, r, hz, q⟩ := h
  obtain ⟨v0, rfl, r1⟩ := rp1 r
  refine ⟨_, (pss_cons (ps_set (i := 1) sc_l_sets.nd rfl (Or.inl rfl) (pe_lst (pa_cons (pe_tup pa_nil) pa_nil)))
    (pss_cons (ps_for PassesOwn.never rfl (kseq (K := K) (pe_callB (ksorted (K := K) hr.units) rfl B.sorted (by decide +kernel) (pa_cons (pv 0) pa_nil))) (pg_name (i := 2) sc_l_sets.nd rfl (Or.inr rfl))
      (pss_one (ps_set (i := 1) sc_l_sets.nd rfl (Or.inl rfl) (pe_op op_cat (pv 1) (pe_lc (own := [("_law_some", 3)]) rfl sc_l_sets.nd (kseq (K := K) (pv 1)) (blkOk_by (N := n_l_sets) (sc := defScope s_l_sets) (own := [("_law_some", 3)]) (by decide +kernel)) (fun _ _ _ _ _ => (pg_name (i := 3) sc_l_sets.nd rfl (Or.inl rfl))) (fun _ _ _ _ _ => pts_nil) (fun _ _ _ _ _ => (pe_op (kcatA (K := K)) (pv 3) (pe_tup (pa_cons (pv 2) pa_nil)))))))))
    (pss_one (ps_ret (pe_lc (own := [("_law_row", 4)]) rfl sc_l_sets.nd (kseq (K := K) (pe_callB (ksorted (K := K) hr.units) rfl B.sorted (by decide +kernel) (pa_cons (pe_lc (own := [("_law_some", 3)]) rfl sc_l_sets.nd (kseq (K := K) (pv 1)) (blkOk_by (N := n_l_sets) (sc := defScope s_l_sets) (own := [("_law_some", 3)]) (by decide +kernel)) (fun _ _ _ _ _ => (pg_name (i := 3) sc_l_sets.nd rfl (Or.inl rfl))) (fun _ _ _ _ _ => pts_nil) (fun _ _ _ _ _ => (pe_tup (pa_cons (pe_callB (klen (K := K)) rfl B.len PySem.boot_len (pa_cons (pv 3) pa_nil)) (pa_cons (pv 3) pa_nil))))) pa_nil))) (blkOk_by (N := n_l_sets) (sc := defScope s_l_sets) (own := [("_law_row", 4)]) (by decide +kernel)) (fun _ _ _ _ _ => (pg_name (i := 4) sc_l_sets.nd rfl (Or.inl rfl))) (fun _ _ _ _ _ => pts_nil) (fun _ _ _ _ _ => (pe_ix (kix (K := K)) (pv 4) pe_int (fun _ _ => rfl)))))))), ?_⟩
  refine b_asg (d := eLT [[]]) (ev_lst (ds := [eT []]) (ea_one (ev_tup ea_nil (by decide))) (by show 1 ≤ _; decide)) g fun v G1 H1 g1 r2 => ?_
  have fl : ∀ i, ((sH hs).take i).foldl (fun acc x => acc ++ acc.map fun s => s ++ [x]) ([[]] : List (List Hd)) = ((sH hs).take i).foldl (fun acc x => acc ++ acc.map fun s => s ++ [x]) [[]] := fun _ => rfl
  have pl : ∀ i, (((sH hs).take i).foldl (fun acc x => acc ++ acc.map fun s => s ++ [x]) ([[]] : List (List Hd))).length ≤ 1024 ∧ ∀ s ∈ (((sH hs).take i).foldl (fun acc x => acc ++ acc.map fun s => s ++ [x]) ([[]] : List (List Hd))), s.length ≤ 10 := by
    intro i
    have hl : ((sH hs).take i).length ≤ 10 := by rw [List.length_take, sH_len]; omega
    have e : ((sH hs).take i).foldl (fun acc x => acc ++ acc.map fun s => s ++ [x]) ([[]] : List (List Hd)) = ((sH hs).take i).foldl (fun acc x => acc ++ acc.map fun s => s ++ [x]) [[]] := rfl
    have h1 : ∀ (l : List Hd) (acc : List (List Hd)), (l.foldl (fun acc x => acc ++ acc.map fun s => s ++ [x]) acc).length = acc.length * 2 ^ l.length := by
      intro l
      induction l with
      | nil => intro acc; simp
      | cons x r ih => intro acc; simp only [List.foldl_cons, List.length_cons, Nat.pow_succ]; rw [ih, List.length_append, List.length_map, ← Nat.two_mul, Nat.mul_comm 2, Nat.mul_assoc, Nat.mul_comm (2 ^ r.length)]
    have h2 : ∀ (l : List Hd) (acc : List (List Hd)) (m : Nat), (∀ s ∈ acc, s.length ≤ m) → ∀ s ∈ l.foldl (fun acc x => acc ++ acc.map fun s => s ++ [x]) acc, s.length ≤ m + l.length := by
      intro l
      induction l with
      | nil => intro acc m h; simpa using h
      | cons x r ih =>
        intro acc m h s hs
        have := ih (acc ++ acc.map fun s => s ++ [x]) (m + 1) (fun t ht => by
          rcases List.mem_append.mp ht with ht | ht
          · have := h t ht; omega
          · obtain ⟨u, hu, rfl⟩ := List.mem_map.mp ht
            have := h u hu; simp; omega) s hs
        simp only [List.length_cons]; omega
    refine ⟨?_, fun s hs' => ?_⟩
    · rw [h1, List.length_singleton, Nat.one_mul]; exact pow10 hl
    · have := h2 _ [[]] 0 (by simp) s hs'; omega
  refine b_for (bs := sH hs) eH (ei_seq (k := true) (ev_sortedH (k := true) (ev_var rfl (r1.mono g1.gg)))) g1.gh
    (fun i σ' G' H' => ∃ v y, σ' = [some v0, some v, y, none, none] ∧ Gr G H G' H' ∧ Rp G' v (eLT (((sH hs).take i).foldl (fun acc x => acc ++ acc.map fun s => s ++ [x]) [[]])))
    (fun G2 H2 g2 => ⟨v, _, rfl, g1.trans g2, by simpa using r2.mono g2.gg⟩) (fun i σ' G' H' ⟨_, _, _, g', _⟩ => g'.gh) (fun i b x σ' G2 H2 G3 H3 hd ⟨v, y, hσ, g2, rv⟩ g3 rx => ?_) fun σ' G' H' ⟨v, _, hσ, g', rv⟩ => ?_
  · subst hσ
    refine tg_name ?_
    have rv3 := rv.mono g3.gg
    obtain ⟨pl1, pl2⟩ := pl i
    have ef := foldl_take (fun acc x => acc ++ acc.map fun s => s ++ [x]) ([[]] : List (List Hd)) hd
    generalize ((sH hs).take i).foldl (fun acc x => acc ++ acc.map fun s => s ++ [x]) ([[]] : List (List Hd)) = st at *
    refine b_asg1 (ev_catL (ds := st.map eT) (es := st.map fun s => eT (s ++ [b])) (ev_var rfl rv3) (ev_lcm (bs := st) eT (fun s => eT (s ++ [b])) (ei_seq (k := true) (ev_var rfl rv3)) (by omega) fun t ht xt G4 s4 r4 => tg_name ⟨rfl, ?_⟩) (by simp; omega)) g3.gh fun v4 G4 H4 g4 r4 => ⟨G4, g3.gg.trans g4.gg, v4, _, rfl, (g2.trans g3).trans g4, ?_⟩
    · exact (ev_catT (ds := t.map eH) (es := [eH b]) (ev_var rfl r4) (ev_tup (ea_one (ev_var rfl (rx.mono s4))) (by show 1 ≤ _; decide)) (by have := pl2 t ht; simp; omega)).is (by unfold eT; rw [List.map_append]; rfl)
    · rw [ef]
      unfold eLT
      rw [List.map_append, List.map_map]
      exact r4
  · subst hσ
    rw [List.take_length] at rv
    refine b_ret ((ev_lcm (bs := sC (subsL hs)) eC eT (ei_seq (k := true) (ev_sortedC ?_)) ?_ fun t ht xt G4 s4 r4 => tg_name ⟨rfl, ?_⟩).is rfl) g'.gh fun v4 G4 H4 g4 r4 => q v4 G4 H4 (g'.trans g4) r4
    · refine ev_lcm (bs := subsL hs) eT eC (ei_seq (k := true) (ev_var rfl rv)) (by rw [subsL_len]; have := pow10 hz; omega) fun t ht xt G5 s5 r5 => tg_name ⟨rfl, ev_tup (ea_two ?_ (ev_var rfl r5)) (by show 2 ≤ _; decide)⟩
      exact (ev_len (k := false) (ds := t.map eH) (ev_var rfl r5)).is (by rw [List.length_map])
    · unfold sC; rw [List.length_mergeSort, subsL_len]; have := pow10 hz; omega
    · exact ev_ix (k := false) (ds := [.int (t.length : Int), eT t]) (ev_var rfl r4) ev_int rfl
/-! ### is_in -/
def spIsIn : Sp := spF (τ := Bool × List Hd × Bool × List (List Hd)) (fun x => [eK x.1 x.2.1, .list (x.2.2.2.map (eK x.2.2.1))]) (fun x => x.2.1.length ≤ 1000000 ∧ x.2.2.2.length ≤ 1000000) (fun x => .bool (isIn x.2.1 x.2.2.2))
theorem ev_eqI {σ : L2.St} {G : Hp} {ta tb : TE} {i j : Int} (ha : EvD ta σ G (.int i)) (hb : EvD tb σ G (.int j)) : EvD (tOp (rEqD K) ta tb) σ G (.bool (decide (i = j))) :=
  (ev_eq ha hb (sh_int (n := 0) i).shaped (sh_int (n := 0) j).shaped).is (by simp [PyData.eqv]; rfl)
theorem ok_is_in (Dfn : Df K mg "_law_is_in" s_l_is_in ["_law_some", "_law_sets_here"]) (B : Blt mg) : Cal P w K mg base 1 "_law_is_in" ["_law_some", "_law_sets_here"] spIsIn := by
  refine cal_of Dfn sc_l_is_in (spF_len fun _ => rfl) fun f cdv A outer s H vs Q E hr h => ?_
  obtain ⟨G, ⟨k1, a, k2, ts⟩, g, r, ⟨hz1, hz2⟩, q⟩ := h
  obtain ⟨v0, v1, rfl, r1, r2⟩ := rp2 r
  simp only at hz1 hz2
  refine ⟨_, (pss_one (ps_ret (pe_or (pe_cmpR (keq (K := K) hr.units) (pe_callB (klen (K := K)) rfl B.len PySem.boot_len (pa_cons (pv 0) pa_nil)) pe_int (nomark _)) (pe_one (pe_callB (kany (K := K) rfl) rfl B.any (by decide +kernel) (pa_cons (pe_lc (own := [("_law_one", 3)]) rfl sc_l_is_in.nd (kseq (K := K) (pv 1)) (blkOk_by (N := n_l_is_in) (sc := defScope s_l_is_in) (own := [("_law_one", 3)]) (by decide +kernel)) (fun _ _ _ _ _ => (pg_name (i := 3) sc_l_is_in.nd rfl (Or.inr rfl))) (fun _ _ _ _ _ => pts_nil) (fun _ _ _ _ _ => (pe_callB (kall (K := K) rfl) rfl B.all (by decide +kernel) (pa_cons (pe_lc (own := [("_law_thing", 2)]) rfl sc_l_is_in.nd (kseq (K := K) (pv 0)) (blkOk_by (N := n_l_is_in) (sc := relS _ (defScope s_l_is_in)) (own := [("_law_thing", 2)]) (by decide +kernel)) (fun _ _ _ _ _ => (pg_name (i := 2) sc_l_is_in.nd rfl (Or.inl rfl))) (fun _ _ _ _ _ => pts_nil) (fun _ _ _ _ _ => (pe_cmpR (kin (K := K) (hu65 hr)) (pv 2) (pv 3) rfl))) pa_nil)))) pa_nil)))))), ?_⟩
  refine b_ret ((ev_orV (a := a.isEmpty) (b := ts.any fun t => within a t) ((ev_eqI (ev_len (k := k1) (ds := a.map eH) (ev_var rfl r1)) ev_int).is ?_) fun _ => ?_).is rfl) g q
  · cases a <;> simp <;> omega
  · refine (ev_any (bs := ts.map fun t => within a t) ?_).is (by rw [List.any_map]; rfl)
    rw [← map_bool]
    refine ev_lcm (bs := ts) (eK k2) (fun t => .bool (within a t)) (ei_seq (k := true) (ev_var rfl r2)) (by omega) fun t ht x G' s rx => tg_name ⟨rfl, ?_⟩
    refine (ev_all (bs := a.map fun x => decide (x ∈ t)) ?_).is (by unfold within; rw [List.all_map]; rfl)
    rw [← map_bool]
    exact ev_lcm (bs := a) eH (fun x => .bool (decide (x ∈ t))) (ei_seq (k := k1) (ev_var rfl (r1.mono s))) (by omega) fun y hy x' G'' s' rx' => tg_name ⟨rfl, ev_inH (k := k2) (ev_var rfl rx') (ev_var rfl (rx.mono s'))⟩
/-! ### all_bands, greatest -/
def spNet (ok : Net → Prop) (er : Net → PyData) : Sp := spF (τ := Net) (fun n => [eN n]) ok er
def NetOk (n : Net) : Prop := n.hs.length ≤ 6 ∧ n.rs.length ≤ 10 ∧ n.gs.length ≤ 100
theorem ev_n0 {σ : L2.St} {G : Hp} {ta : TE} {n : Net} (h : EvD ta σ G (eN n)) : EvD (tOp (rIx K) ta (tC (.int 0))) σ G (eL n.hs) := ev_ix (k := false) (ds := [eL n.hs, eLP n.rs, .list (n.gs.map eL)]) h ev_int rfl
theorem ev_n1 {σ : L2.St} {G : Hp} {ta : TE} {n : Net} (h : EvD ta σ G (eN n)) : EvD (tOp (rIx K) ta (tC (.int 1))) σ G (eLP n.rs) := ev_ix (k := false) (ds := [eL n.hs, eLP n.rs, .list (n.gs.map eL)]) h ev_int rfl
theorem ev_n2 {σ : L2.St} {G : Hp} {ta : TE} {n : Net} (h : EvD ta σ G (eN n)) : EvD (tOp (rIx K) ta (tC (.int 2))) σ G (.list (n.gs.map eL)) := ev_ix (k := false) (ds := [eL n.hs, eLP n.rs, .list (n.gs.map eL)]) h ev_int rfl
theorem ok_all_bands (Dfn : Df K mg "_law_all_bands" s_l_all_bands ["_law_net_here"]) (B : Blt mg) (c_l_sets : Cal P w K mg base 1 "_law_sets" ["_law_things"] spSets) (c_l_is_in : Cal P w K mg base 1 "_law_is_in" ["_law_some", "_law_sets_here"] spIsIn) :
    Cal P w K mg base 2 "_law_all_bands" ["_law_net_here"] (spNet NetOk fun n => eLT (allBands n)) := by
  refine cal_of Dfn sc_l_all_bands (spF_len fun _ => rfl) fun f cdv A outer s H vs Q E hr h => ?_
  obtain ⟨G, n, g, r, ⟨hz1, hz2, hz3⟩, q⟩ := h
  obtain ⟨v0, rfl, r1⟩ := rp1 r
  refine ⟨_, (pss_one (ps_ret (pe_lc (own := [("_law_some", 1)]) rfl sc_l_all_bands.nd (kseq (K := K) (pe_cal c_l_sets hr (pa_cons (pe_ix (kix (K := K)) (pv 0) pe_int (fun _ _ => rfl)) pa_nil))) (blkOk_by (N := n_l_all_bands) (sc := defScope s_l_all_bands) (own := [("_law_some", 1)]) (by decide +kernel)) (fun _ _ _ _ _ => (pg_name (i := 1) sc_l_all_bands.nd rfl (Or.inl rfl))) (fun _ _ _ _ _ => (pts_one (pt_val (pe_cal c_l_is_in hr (pa_cons (pv 1) (pa_cons (pe_ix (kix (K := K)) (pv 0) pe_int (fun _ _ => rfl)) pa_nil)))))) (fun _ _ _ _ _ => (pv 1))))), ?_⟩
  refine b_ret ((ev_lc (bs := setsL n.hs) eT (fun s => isIn s n.gs) eT (ei_seq (k := true) (ev_call (ea := fun hs => [eL hs]) (er := fun hs => eLT (setsL hs)) n.hs (ea_one (ev_n0 (ev_var rfl r1))) (by omega))) (by rw [setsL_len]; have := pow10 (show n.hs.length ≤ 10 by omega); omega) fun t ht x G' s rx => tg_name ⟨rfl, eb_B ?_, fun _ => ev_var rfl rx⟩).is rfl) g q
  exact ev_call (ea := fun x : Bool × List Hd × Bool × List (List Hd) => [eK x.1 x.2.1, .list (x.2.2.2.map (eK x.2.2.1))]) (er := fun x => .bool (isIn x.2.1 x.2.2.2)) (false, t, true, n.gs) (ea_two (ev_var rfl rx) (ev_n2 (ev_var rfl (r1.mono s))))
    ⟨by have := setsL_w n.hs t ht; simp only; omega, by simp only; omega⟩
theorem ok_greatest (Dfn : Df K mg "_law_greatest" s_l_greatest ["_law_net_here"]) (B : Blt mg) (c_l_all_bands : Cal P w K mg base 2 "_law_all_bands" ["_law_net_here"] (spNet NetOk fun n => eLT (allBands n))) (c_l_is_in : Cal P w K mg base 1 "_law_is_in" ["_law_some", "_law_sets_here"] spIsIn) :
    Cal P w K mg base 3 "_law_greatest" ["_law_net_here"] (spNet NetOk fun n => eLT (greatestL n)) := by
  refine cal_of Dfn sc_l_greatest (spF_len fun _ => rfl) fun f cdv A outer s H vs Q E hr h => ?_
  obtain ⟨G, n, g, r, hz, q⟩ := h
  obtain ⟨v0, rfl, r1⟩ := rp1 r
  have hl := allBands_len n
  have hp := pow10 (show n.hs.length ≤ 10 by have := hz.1; omega)
  refine ⟨_, (pss_cons (ps_set (i := 1) sc_l_greatest.nd rfl (Or.inr rfl) (pe_cal c_l_all_bands hr (pa_cons (pv 0) pa_nil)))
    (pss_one (ps_ret (pe_lc (own := [("_law_one", 2)]) rfl sc_l_greatest.nd (kseq (K := K) (pv 1)) (blkOk_by (N := n_l_greatest) (sc := defScope s_l_greatest) (own := [("_law_one", 2)]) (by decide +kernel)) (fun _ _ _ _ _ => (pg_name (i := 2) sc_l_greatest.nd rfl (Or.inr rfl))) (fun _ _ _ _ _ => (pts_one (pt_not (pt_val (pe_callB (kany (K := K) rfl) rfl B.any (by decide +kernel) (pa_cons (pe_lc (own := [("_law_other", 3)]) rfl sc_l_greatest.nd (kseq (K := K) (pe_slice (ksl (K := K)) (pv 1) (po_some pe_int) po_none)) (blkOk_by (N := n_l_greatest) (sc := relS _ (defScope s_l_greatest)) (own := [("_law_other", 3)]) (by decide +kernel)) (fun _ _ _ _ _ => (pg_name (i := 3) sc_l_greatest.nd rfl (Or.inl rfl))) (fun _ _ _ _ _ => pts_nil) (fun _ _ _ _ _ => (pe_and (pe_cmpR (kne (K := K) hr.units) (pv 2) (pv 3) (nomark _)) (pe_one (pe_cal c_l_is_in hr (pa_cons (pv 2) (pa_cons (pe_lst (pa_cons (pv 3) pa_nil)) pa_nil))))))) pa_nil)))))) (fun _ _ _ _ _ => (pv 2)))))), ?_⟩
  refine b_asg (ev_call (ea := fun n => [eN n]) (er := fun n => eLT (allBands n)) n (ea_one (ev_var rfl r1)) hz) g fun v G1 H1 g1 r2 => ?_
  refine b_ret ((ev_lc (bs := allBands n) eT (fun one => !(((allBands n).drop 1).any fun other => !decide (one = other) && isIn one [other])) eT (ei_seq (k := true) (ev_var rfl r2)) (by omega) fun t ht x G' s rx => tg_name ⟨rfl, eb_not (eb_B ?_), fun _ => ev_var rfl rx⟩).is rfl) g1.gh fun v2 G2 H2 g2 r3 => q v2 G2 H2 (g1.trans g2) r3
  refine (ev_any (bs := ((allBands n).drop 1).map fun other => !decide (t = other) && isIn t [other]) ?_).is (by rw [List.any_map]; rfl)
  rw [← map_bool]
  refine ev_lcm (bs := (allBands n).drop 1) eT _ (ei_seq (k := true) ?_) (by simp; omega) fun o ho x' G'' s' rx' => tg_name ⟨rfl, ev_andV (ev_neT (ev_var rfl (rx.mono s')) (ev_var rfl rx')) fun _ => ?_⟩
  · exact (ev_slice (ev_var rfl (r2.mono s)) (eo_some ev_int) eo_none).is (by rw [show (1 : Int) = ((1 : Nat) : Int) from rfl, cutD_drop, ← List.map_drop]; rfl)
  · exact ev_call (ea := fun x : Bool × List Hd × Bool × List (List Hd) => [eK x.1 x.2.1, .list (x.2.2.2.map (eK x.2.2.1))]) (er := fun x => .bool (isIn x.2.1 x.2.2.2)) (false, t, false, [o]) (ea_two (ev_var rfl (rx.mono s')) (ev_lst (ea_one (ev_var rfl rx')) (by show 1 ≤ _; decide)))
      ⟨by have := allBands_w n t ht; have := hz.1; simp only; omega, by simp⟩
/-! ### is_free, unions -/
def spIsFree : Sp := spF (τ := List Hd × List Hd) (fun x => [eT x.1, eT x.2]) (fun x => x.1.length ≤ 1000000) (fun x => .bool (isFree x.1 x.2))
theorem ok_is_free (Dfn : Df K mg "_law_is_free" s_l_is_free ["_law_way", "_law_some"]) (B : Blt mg) : Cal P w K mg base 1 "_law_is_free" ["_law_way", "_law_some"] spIsFree := by
  refine cal_of Dfn sc_l_is_free (spF_len fun _ => rfl) fun f cdv A outer s H vs Q E hr h => ?_
  obtain ⟨G, ⟨a, b⟩, g, r, hz, q⟩ := h
  obtain ⟨v0, v1, rfl, r1, r2⟩ := rp2 r
  simp only at hz
  refine ⟨_, (pss_one (ps_ret (pe_not (pe_callB (kany (K := K) rfl) rfl B.any (by decide +kernel) (pa_cons (pe_lc (own := [("_law_hand", 2)]) rfl sc_l_is_free.nd (kseq (K := K) (pv 0)) (blkOk_by (N := n_l_is_free) (sc := defScope s_l_is_free) (own := [("_law_hand", 2)]) (by decide +kernel)) (fun _ _ _ _ _ => (pg_name (i := 2) sc_l_is_free.nd rfl (Or.inl rfl))) (fun _ _ _ _ _ => pts_nil) (fun _ _ _ _ _ => (pe_cmpR (kin (K := K) (hu65 hr)) (pv 2) (pv 1) rfl))) pa_nil))))), ?_⟩
  refine b_ret ((ev_notV (ev_any (bs := a.map fun h => decide (h ∈ b)) ?_)).is (by rw [List.any_map]; rfl)) g q
  rw [← map_bool]
  exact ev_lcm (bs := a) eH (fun h => .bool (decide (h ∈ b))) (ei_seq (k := false) (ev_var rfl r1)) (by omega) fun y hy x' G'' s' rx' => tg_name ⟨rfl, ev_inH (k := false) (ev_var rfl rx') (ev_var rfl (r2.mono s'))⟩
theorem ev_once {σ : L2.St} {G : Hp} {t : TA} {β : Type} [DecidableEq β] {enc : β → PyData} (he : ∀ a b, PyData.eqv (enc a) (enc b) = decide (a = b)) (l : List β) (h : EvA t σ G [.list (l.map enc)]) (hl : l.length ≤ 1000000) (hs : ∀ b ∈ l, Sh 10 (enc b)) : EvD (tCl spOnce t) σ G (.list ((once l).map enc)) :=
  (ev_call (ea := fun ds => [.list ds]) (er := fun ds => .list (onceD ds)) (l.map enc) h ⟨by rw [List.length_map]; exact hl, fun d hd => by obtain ⟨b, hb, rfl⟩ := List.mem_map.mp hd; exact hs b hb⟩).is (by rw [onceD_map he])
def spUnions : Sp := spF (τ := List (List Hd)) (fun bs => [eLT bs]) (fun bs => bs.length ≤ 1000 ∧ ∀ b ∈ bs, b.length ≤ 1000) (fun bs => eLT (unionsL bs))
theorem ok_unions (Dfn : Df K mg "_law_unions" s_l_unions ["_law_bands"]) (B : Blt mg) (c_l_each_once : Cal P w K mg base 1 "_law_each_once" ["_law_things"] spOnce) : Cal P w K mg base 2 "_law_unions" ["_law_bands"] spUnions := by
  refine cal_of Dfn sc_l_unions (spF_len fun _ => rfl) fun f cdv A outer s H vs Q E hr h => ?_
  obtain ⟨G, bs, g, r, ⟨hz1, hz2⟩, q⟩ := h
  obtain ⟨v0, rfl, r1⟩ := rp1 r
  refine ⟨_, (pss_cons (ps_set (i := 1) sc_l_unions.nd rfl (Or.inl rfl) (pe_lst pa_nil))
    (pss_cons (ps_for PassesOwn.never rfl (kseq (K := K) (pv 0)) (pg_name (i := 2) sc_l_unions.nd rfl (Or.inr rfl))
      (pss_one (ps_expr (kbm (K := K) (pe_bm PySem.F.plainAttrs_list PySem.F.slot_list_extend PySem.F.type_list_extend mt_extend (pv 1) (pa_cons (pe_lc (own := [("_law_other", 3)]) rfl sc_l_unions.nd (kseq (K := K) (pv 0)) (blkOk_by (N := n_l_unions) (sc := defScope s_l_unions) (own := [("_law_other", 3)]) (by decide +kernel)) (fun _ _ _ _ _ => (pg_name (i := 3) sc_l_unions.nd rfl (Or.inl rfl))) (fun _ _ _ _ _ => pts_nil) (fun _ _ _ _ _ => (pe_callTy (ktuple (K := K)) rfl B.tuple (by decide +kernel) (pa_cons (pe_callB (ksorted (K := K) hr.units) rfl B.sorted (by decide +kernel) (pa_cons (pe_cal c_l_each_once hr (pa_cons (pe_callTy (klist (K := K)) rfl B.list (by decide +kernel) (pa_cons (pe_op (kcatA (K := K)) (pv 2) (pv 3)) pa_nil)) pa_nil)) pa_nil)) pa_nil)))) pa_nil))))))
    (pss_one (ps_ret (pe_cal c_l_each_once hr (pa_cons (pv 1) pa_nil)))))), ?_⟩
  refine b_new (Gr.refl g) fun p hp L => ?_
  have hlen : ∀ n, (((bs.take n).flatMap fun one => bs.map fun other => unionL one other).map eT).length ≤ 1000 * 1000 := fun n => by
    rw [List.length_map]
    refine Nat.le_trans (flatMap_len _ 1000 _ fun p _ => by simp; omega) ?_
    rw [List.length_take]
    exact Nat.mul_le_mul_right _ (by omega)
  refine b_for (bs := bs) eT (ei_seq (k := true) (ev_var rfl r1)) L.gh (fun i σ' G' H' => ∃ y, σ' = [some v0, some (.ref p), y, none] ∧ Loc M0 G H G' H' p (((bs.take i).flatMap fun one => bs.map fun other => unionL one other).map eT))
    (fun G1 H1 g1 => ⟨_, rfl, by simpa using L.step g1⟩) (fun i σ' G' H' ⟨_, _, L'⟩ => L'.gh) (fun i t x σ' G1 H1 G2 H2 hd ⟨y, hσ, L1⟩ g2 rx => ?_) fun σ' G' H' ⟨_, hσ, L'⟩ => ?_
  · subst hσ
    refine tg_name ?_
    have L2 := L1.step g2
    have ht := hz2 t (List.mem_of_getElem? hd)
    refine ext1 (es := bs.map fun o => eT (unionL t o)) L2 rfl ?_ ?_ fun G5 H5 s5 g5 L5 => ⟨G5, g2.gg.trans s5, _, rfl, ?_⟩
    · refine ev_lcm (bs := bs) eT (fun o => eT (unionL t o)) (ei_seq (k := true) (ev_var rfl (r1.mono L2.gr.gg))) (by omega) fun o ho x3 G6 s6 r6 => tg_name ⟨rfl, ?_⟩
      have ho' := hz2 o ho
      refine ev_tuple (k := true) (ds := (sH (once (t ++ o))).map eH) (ev_sortedH (k := true) (ev_once eqv_h (t ++ o) (ea_one (ev_list (k := false) (ds := (t ++ o).map eH) ?_)) (by simp; omega) fun b _ => sh_eH b))
      exact (ev_catT (ds := t.map eH) (es := o.map eH) (ev_var rfl (rx.mono s6)) (ev_var rfl r6) (by simp; omega)).is (by rw [List.map_append]; rfl)
    · have := hlen i
      rw [List.length_map (as := bs)]
      omega
    · rw [flatMap_take _ hd, List.map_append, List.map_map]
      exact L5
  · subst hσ
    rw [List.take_length] at L'
    obtain ⟨G3, g3, s3, r3⟩ := L'.know
    have h3 := hlen bs.length
    rw [List.take_length, List.length_map] at h3
    exact b_ret (ev_once eqv_T _ (ea_one (ev_var rfl r3)) (by omega) fun b _ => (sh_eT (n := 0) b).mono (by decide)) g3.gh fun v G4 H4 g4 r4 => q v G4 H4 (g3.trans g4) r4
end
end Bp

set_option Elab.async false
set_option linter.all false
set_option maxRecDepth 100000
set_option maxHeartbeats 1000001
namespace Bp
open PySem PySem.Spec L2 PyProof.Rows
theorem fs_none {α β : Type} {f : α → Option β} {l : List α} {i : Nat} {x : α} (h : l[i]? = some x) (h0 : (l.take i).findSome? f = none) (h1 : f x = none) : (l.take (i + 1)).findSome? f = none := by
  rw [take_succ h, List.findSome?_append, h0]; simp [h1]
theorem fs_some {α β : Type} {f : α → Option β} {l : List α} {i : Nat} {x : α} {y : β} (h : l[i]? = some x) (h0 : (l.take i).findSome? f = none) (h1 : f x = some y) : l.findSome? f = some y := by
  have e : l = l.take i ++ x :: l.drop (i + 1) := by
    conv => lhs; rw [← List.take_append_drop i l]
    rw [List.drop_eq_getElem_cons (List.getElem?_eq_some_iff.mp h).1]
    rw [(List.getElem?_eq_some_iff.mp h).2]
  rw [e, List.findSome?_append, h0]
  simp [h1]
theorem any_none {α : Type} {f : α → Bool} {l : List α} {i : Nat} {x : α} (h : l[i]? = some x) (h0 : (l.take i).any f = false) (h1 : f x = false) : (l.take (i + 1)).any f = false := by
  rw [take_succ h, List.any_append, h0]; simp [h1]
def eThree : Option (List Hd × List Hd × List Hd) → PyData
  | none => .none
  | some x => .tuple [eT x.1, eT x.2.1, eT x.2.2]
def eFour : Option (Hd × Hd × List Hd × List Hd) → PyData
  | none => .none
  | some x => .tuple [eH x.1, eH x.2.1, eT x.2.2.1, eT x.2.2.2]
def find3 (hs : List Hd) (every : List (List Hd)) : Option (List Hd × List Hd × List Hd) :=
  every.zipIdx.findSome? fun a => every.zipIdx.findSome? fun b => every.zipIdx.findSome? fun c => if ((decide (a.2 ≤ b.2) && decide (b.2 ≤ c.2)) && within hs (a.1 ++ b.1 ++ c.1)) = true then some (a.1, b.1, c.1) else none
def threeDue (n : Net) : Option (List Hd × List Hd × List Hd) := find3 n.hs (greatestL n)
def minus (a b : Hd) (t : List Hd) : List Hd := t.filter fun h => !decide (h ∈ [a, b])
def find2 (f : List Hd → List Hd → Bool) (every : List (List Hd)) : Option (List Hd × List Hd) :=
  every.zipIdx.findSome? fun a => (every.drop a.2).findSome? fun b => if f a.1 b = true then some (a.1, b) else none
def cutsAll (n : Net) (a b : Hd) (s t : List Hd) : Bool := !((waysL n.rs a b).any fun w => isFree w (s ++ t))
def partedDue (n : Net) : Option (Hd × Hd × List Hd × List Hd) :=
  (pairsZ n.hs).findSome? fun p => if isParted n p.1 p.2 = true then (find2 (cutsAll n p.1 p.2) ((greatestL n).map (minus p.1 p.2))).map fun x => (p.1, p.2, x.1, x.2) else none
theorem greatestL_len (n : Net) : (greatestL n).length ≤ 2 ^ n.hs.length := Nat.le_trans (List.length_filter_le _ _) (allBands_len n)
theorem greatestL_w (n : Net) : ∀ s ∈ greatestL n, s.length ≤ n.hs.length := fun s h => allBands_w n s (List.mem_filter.mp h).1
theorem pow6 {m : Nat} (h : m ≤ 6) : 2 ^ m ≤ 64 := Nat.le_trans (Nat.pow_le_pow_right (by decide) h) (by decide)
theorem unionL_w (a b : List Hd) : (unionL a b).length ≤ a.length + b.length := by
  unfold unionL
  rw [sH_len]
  have := once_len (a ++ b)
  rw [List.length_append] at this
  exact this
theorem once_mem {β : Type} [DecidableEq β] {l : List β} : ∀ b, b ∈ once l ↔ b ∈ l := by
  have : ∀ (l acc : List β) (b : β), b ∈ l.foldl putL acc ↔ b ∈ acc ∨ b ∈ l := by
    intro l
    induction l with
    | nil => intro acc b; simp
    | cons c r ih =>
      intro acc b
      rw [List.foldl_cons, ih]
      unfold putL
      by_cases h : c ∈ acc
      · rw [if_pos h, List.mem_cons]
        constructor
        · rintro (h' | h'); exact .inl h'; exact .inr (.inr h')
        · rintro (h' | h' | h'); exact .inl h'; exact .inl (h' ▸ h); exact .inr h'
      · rw [if_neg h, List.mem_append, List.mem_singleton, List.mem_cons]
        constructor
        · rintro ((h' | h') | h'); exact .inl h'; exact .inr (.inl h'); exact .inr (.inr h')
        · rintro (h' | h' | h'); exact .inl (.inl h'); exact .inl (.inr h'); exact .inr h'
  intro b
  unfold once
  rw [this]; simp
theorem unionsL_mem {bs : List (List Hd)} {s : List Hd} : s ∈ unionsL bs ↔ ∃ a ∈ bs, ∃ b ∈ bs, unionL a b = s := by
  unfold unionsL
  rw [once_mem, List.mem_flatMap]
  simp only [List.mem_map]
theorem unionsL_len (bs : List (List Hd)) : (unionsL bs).length ≤ bs.length * bs.length := by
  unfold unionsL
  exact Nat.le_trans (once_len _) (flatMap_len _ _ _ fun _ _ => by simp)
section
variable {P : Program} {w : World} {K : PySem.W.Frag} {mg : Str → Option Value} {base : Heap}
/-- an if without else -/
theorem b_when {σ : L2.St} {G H : Hp} {tt : TT} {tu tz : TS} {D : Ends} {b : Bool} (h : EvB tt σ G b) (s : Same G H) (h1 : b = true → ∀ H', Same H H' → tu { D with nx := tz D } σ H') (h2 : b = false → ∀ H', Same H H' → tz D σ H') : tSeq (tIfS tt tu tNext) tz D σ H := b_if h s h1 h2
section
variable {σ : L2.St} {G : Hp} {ta tb tc : TE}
theorem eb_le3 {i j k : Int} (ha : EvD ta σ G (.int i)) (hb : EvD tb σ G (.int j)) (hc : EvD tc σ G (.int k)) :
    EvB (tTest (tChain (rI0 fun i j => .bl (decide (i ≤ j))) (rI0 fun i j => .bl (decide (i ≤ j))) ta tb tc)) σ G (decide (i ≤ j) && decide (j ≤ k)) := fun G1 H1 s c Q kk =>
  ha G1 H1 s c _ fun x G2 H2 g2 r2 => hb G2 H2 (s.trans g2.gg) g2.gh _ fun y G3 H3 g3 r3 => ⟨i, j, r2.int_eq, r3.int_eq, decide (i ≤ j), rfl, by
    by_cases h : i ≤ j
    · rw [decide_eq_true h]
      exact iteT (hc G3 H3 ((s.trans g2.gg).trans g3.gg) g3.gh _ fun z G4 H4 g4 r4 => ⟨j, k, r3.int_eq, r4.int_eq, _, rfl, by
        have := kk H4 (((g2.trans g3).trans g4).same)
        rw [decide_eq_true h, Bool.true_and] at this
        exact this⟩)
    · rw [decide_eq_false h]
      exact iteF ⟨false, rfl, by
        have := kk H3 ((g2.trans g3).same)
        rw [decide_eq_false h, Bool.false_and] at this
        exact this⟩⟩
theorem ev_inP {p : Hd × Hd} {l : List (Hd × Hd)} (ha : EvD ta σ G (eP p)) (hb : EvD tb σ G (eLP l)) : EvD (tOp (rInU K false) ta tb) σ G (.bool (decide (p ∈ l))) :=
  (ev_in (neg := false) (k := true) ha hb (sh_eP (n := 0) p).shaped (sh_map (k := true) (n := 1) fun b _ => sh_eP b).shaped).is (by simp only [Bool.false_eq_true, if_false]; rw [any_eqv eqv_P])
theorem ev_ninP {p : Hd × Hd} {l : List (Hd × Hd)} (ha : EvD ta σ G (eP p)) (hb : EvD tb σ G (eLP l)) : EvD (tOp (rInU K true) ta tb) σ G (.bool (!decide (p ∈ l))) :=
  (ev_in (neg := true) (k := true) ha hb (sh_eP (n := 0) p).shaped (sh_map (k := true) (n := 1) fun b _ => sh_eP b).shaped).is (by simp only [if_true]; rw [any_eqv eqv_P])
theorem pairS_eq (a b : Hd) : eT (sH [a, b]) = eP (pairS a b) := by
  rw [sH_two]; unfold pairS
  split <;> rfl
/-- tuple(sorted([a, b])) -/
theorem ev_pairS {a b : Hd} (ha : EvD ta σ G (eH a)) (hb : EvD tb σ G (eH b)) : EvD (tCB (fun xs H Q => ∃ p ys, xs = [.ref p] ∧ ((SqL K H p ys ∧ ∀ l, H l = none → Q (.ref l) (upd H l (.tup ys))) ∨ (SqT K H p ys ∧ Q (.ref p) H))) (tCons (tCB (rSortU K) (tCons (tLst (tCons ta (tCons tb tNil))) tNil)) tNil)) σ G (eP (pairS a b)) :=
  (ev_tuple (k := true) (ds := (sH [a, b]).map eH) (ev_sortedH (k := true) (l := [a, b]) (ev_lst (ea_two ha hb) (by show 2 ≤ _; decide)))).is (by rw [← pairS_eq]; rfl)
theorem ev_free {t : TA} {a b : List Hd} (h : EvA t σ G [eT a, eT b]) (hz : a.length ≤ 1000000) : EvD (tCl spIsFree t) σ G (.bool (isFree a b)) :=
  ev_call (ea := fun x : List Hd × List Hd => [eT x.1, eT x.2]) (er := fun x => .bool (isFree x.1 x.2)) (a, b) h hz
theorem ev_isIn {t : TA} {k k' : Bool} {a : List Hd} {ts : List (List Hd)} (h : EvA t σ G [eK k a, .list (ts.map (eK k'))]) (hz : a.length ≤ 1000000) (hz' : ts.length ≤ 1000000) : EvD (tCl spIsIn t) σ G (.bool (isIn a ts)) :=
  ev_call (ea := fun x : Bool × List Hd × Bool × List (List Hd) => [eK x.1 x.2.1, .list (x.2.2.2.map (eK x.2.2.1))]) (er := fun x => .bool (isIn x.2.1 x.2.2.2)) (k, a, k', ts) h ⟨hz, hz'⟩
theorem ev_net {t : TA} {ok : Net → Prop} {er : Net → PyData} {n : Net} (h : EvD ta σ G (eN n)) (hn : ok n) : EvD (tCl (spNet ok er) (tCons ta tNil)) σ G (er n) := ev_call (ea := fun n => [eN n]) (er := er) n (ea_one h) hn
end
theorem runW_1 (rs : List (Hd × Hd)) (a o : Hd) : ∀ n, ∀ w ∈ (runW rs a o n).1, w.length ≤ n
  | 0, w, h => by cases h
  | n + 1, w, h => by
    have h' : w ∈ (turnW rs o (runW rs a o n)).1 := h
    unfold turnW at h'
    rcases List.mem_append.mp h' with h' | h'
    · exact Nat.le_succ_of_le (runW_1 rs a o n w h')
    · exact Nat.le_of_eq (runW_w rs a o n w (List.mem_filter.mp h').1)
theorem waysL_w (rs : List (Hd × Hd)) (a o : Hd) : ∀ w ∈ waysL rs a o, w.length ≤ 7 := runW_1 rs a o 7
theorem waysL_len (rs : List (Hd × Hd)) (a o : Hd) (h : rs.length ≤ 10) : (waysL rs a o).length ≤ 10000000 := (runW_len rs a o h 7).1
/-! ### is_parted -/
def spParted : Sp := spF (τ := Net × Hd × Hd) (fun x => [eN x.1, eH x.2.1, eH x.2.2]) (fun x => NetOk x.1) (fun x => .bool (isParted x.1 x.2.1 x.2.2))
theorem ok_is_parted (Dfn : Df K mg "_law_is_parted" s_l_is_parted ["_law_net_here", "_law_one", "_law_other"]) (B : Blt mg) (c_l_all_bands : Cal P w K mg base 2 "_law_all_bands" ["_law_net_here"] (spNet NetOk fun n => eLT (allBands n)))
    (c_l_ways : Cal P w K mg base 2 "_law_ways" ["_law_roads", "_law_one", "_law_other"] spWays) (c_l_is_free : Cal P w K mg base 1 "_law_is_free" ["_law_way", "_law_some"] spIsFree) (c_l_unions : Cal P w K mg base 2 "_law_unions" ["_law_bands"] spUnions) :
    Cal P w K mg base 3 "_law_is_parted" ["_law_net_here", "_law_one", "_law_other"] spParted := by
  refine cal_of Dfn sc_l_is_parted (spF_len fun _ => rfl) fun f cdv A outer s H vs Q E hr h => ?_
  obtain ⟨G, ⟨n, a, b⟩, g, r, hz, q⟩ := h
  obtain ⟨v0, v1, v2, rfl, r1, r2, r3⟩ := rp3 r
  simp only at hz
  refine ⟨_, (pss_cons (ps_if (pt_cmpR (kin (K := K) (hu65 hr)) (pe_callTy (ktuple (K := K)) rfl B.tuple (by decide +kernel) (pa_cons (pe_callB (ksorted (K := K) hr.units) rfl B.sorted (by decide +kernel) (pa_cons (pe_lst (pa_cons (pv 1) (pa_cons (pv 2) pa_nil))) pa_nil)) pa_nil)) (pe_ix (kix (K := K)) (pv 0) pe_int (fun _ _ => rfl)) rfl) (pss_one (ps_ret pe_bl)) pss_nil)
    (pss_cons (ps_setLc (i := 3) (own := [("_law_band", 4)]) rfl sc_l_is_parted.nd rfl rfl (sw_true rfl rfl rfl (by decide +kernel)) (kseq (K := K) (pe_cal c_l_all_bands hr (pa_cons (pv 0) pa_nil))) (blkOk_by (N := n_l_is_parted) (sc := defScope s_l_is_parted) (own := [("_law_band", 4)]) (by decide +kernel)) (fun _ _ _ _ _ => (pg_name (i := 4) sc_l_is_parted.nd rfl (Or.inl rfl))) (fun _ _ _ _ _ => (pts_one (PW.pt (pw_and (pt_cmpR (knin (K := K) (hu65 hr)) (pv 1) (pv 4) rfl) (pw_and1 (pt_cmpR (knin (K := K) (hu65 hr)) (pv 2) (pv 4) rfl)))))) (fun _ _ _ _ _ => (pv 4)))
    (pss_cons (ps_set (i := 5) sc_l_is_parted.nd rfl (Or.inr rfl) (pe_cal c_l_ways hr (pa_cons (pe_ix (kix (K := K)) (pv 0) pe_int (fun _ _ => rfl)) (pa_cons (pv 1) (pa_cons (pv 2) pa_nil)))))
    (pss_one (ps_ret (pe_callB (kany (K := K) rfl) rfl B.any (by decide +kernel) (pa_cons (pe_lc (own := [("_law_some", 7)]) rfl sc_l_is_parted.nd (kseq (K := K) (pe_cal c_l_unions hr (pa_cons (pv 3) pa_nil))) (blkOk_by (N := n_l_is_parted) (sc := defScope s_l_is_parted) (own := [("_law_some", 7)]) (by decide +kernel)) (fun _ _ _ _ _ => (pg_name (i := 7) sc_l_is_parted.nd rfl (Or.inr rfl))) (fun _ _ _ _ _ => pts_nil) (fun _ _ _ _ _ => (pe_not (pe_callB (kany (K := K) rfl) rfl B.any (by decide +kernel) (pa_cons (pe_lc (own := [("_law_way", 6)]) rfl sc_l_is_parted.nd (kseq (K := K) (pv 5)) (blkOk_by (N := n_l_is_parted) (sc := relS _ (defScope s_l_is_parted)) (own := [("_law_way", 6)]) (by decide +kernel)) (fun _ _ _ _ _ => (pg_name (i := 6) sc_l_is_parted.nd rfl (Or.inl rfl))) (fun _ _ _ _ _ => pts_nil) (fun _ _ _ _ _ => (pe_cal c_l_is_free hr (pa_cons (pv 6) (pa_cons (pv 7) pa_nil))))) pa_nil))))) pa_nil))))))), ?_⟩
  refine b_when (eb_test (ev_inP (p := pairS a b) (l := n.rs) (ev_pairS (ev_var rfl r2) (ev_var rfl r3)) (ev_n1 (ev_var rfl r1)))) g (fun hb H1 s1 => ?_) (fun hb H1 s1 => ?_)
  · refine b_ret (ev_bl.is ?_) (g.trans s1) fun v G2 H2 g2 r2 => q v G2 H2 ((Gr.of g s1).trans g2) r2
    simp only
    unfold isParted
    rw [if_pos (of_decide_eq_true hb)]
  · have g1 := Gr.of g s1
    have e : isParted n a b = (unionsL (without n a b)).any fun s => !((waysL n.rs a b).any fun w => isFree w s) := by
      unfold isParted
      rw [if_neg (of_decide_eq_false hb)]
    have hl := allBands_len n
    have hp := pow6 hz.1
    have wl : (without n a b).length ≤ 64 := Nat.le_trans (List.length_filter_le _ _) (by omega)
    have ww : ∀ t ∈ without n a b, t.length ≤ 6 := fun t ht => Nat.le_trans (allBands_w n t (List.mem_filter.mp ht).1) hz.1
    have ul := unionsL_len (without n a b)
    have ul2 : (without n a b).length * (without n a b).length ≤ 64 * 64 := Nat.mul_le_mul wl wl
    refine b_asg (d := eLT (without n a b)) (ev_lc (bs := allBands n) eT (fun t => !decide (a ∈ t) && !decide (b ∈ t)) eT (ei_seq (k := true) (ev_net (t := tNil) (ev_var rfl r1) hz)) (by omega) fun t ht x G' s rx => tg_name ⟨rfl, ?_, fun _ => ev_var rfl rx⟩) g1.gh fun vb G2 H2 g2 rb => ?_
    · exact eb_and (eb_test (ev_ninH (k := false) (ev_var rfl (r2.mono s)) (ev_var rfl rx))) fun _ => eb_test (ev_ninH (k := false) (ev_var rfl (r3.mono s)) (ev_var rfl rx))
    have g12 := g1.trans g2
    refine b_asg (ev_call (ea := fun x : List (Hd × Hd) × Hd × Hd => [eLP x.1, eH x.2.1, eH x.2.2]) (er := fun x => eLT (waysL x.1 x.2.1 x.2.2)) (n.rs, a, b) (ea_cons (ev_n1 (ev_var rfl (r1.mono g2.gg))) (ea_two (ev_var rfl (r2.mono g2.gg)) (ev_var rfl (r3.mono g2.gg)))) hz.2.1) g12.gh fun vw G3 H3 g3 rw_ => ?_
    have g13 := g12.trans g3
    refine b_ret ((ev_any (bs := (unionsL (without n a b)).map fun s => !((waysL n.rs a b).any fun w => isFree w s)) ?_).is (by rw [List.any_map]; simp only [e]; rfl)) g13.gh fun v G4 H4 g4 r4 => q v G4 H4 (g13.trans g4) r4
    rw [← map_bool]
    refine ev_lcm (bs := unionsL (without n a b)) eT _ (ei_seq (k := true) (ev_call (ea := fun bs => [eLT bs]) (er := fun bs => eLT (unionsL bs)) (without n a b) (ea_one (ev_var rfl (rb.mono g3.gg))) ⟨by omega, fun t ht => by have := ww t ht; omega⟩)) (by omega) fun t ht x G5 s5 rx => tg_name ⟨rfl, ?_⟩
    refine ev_notV ((ev_any (bs := (waysL n.rs a b).map fun w => isFree w t) ?_).is (by rw [List.any_map]; rfl))
    rw [← map_bool]
    refine ev_lcm (bs := waysL n.rs a b) eT _ (ei_seq (k := true) (ev_var rfl (rw_.mono s5))) (by have := waysL_len n.rs a b hz.2.1; omega) fun u hu x' G6 s6 rx' => tg_name ⟨rfl, ?_⟩
    exact ev_free (ea_two (ev_var rfl rx') (ev_var rfl (rx.mono s6))) (by have := waysL_w n.rs a b u hu; omega)
/-! ### is_held_by_three -/
theorem ok_held (Dfn : Df K mg "_law_is_held_by_three" s_l_is_held_by_three ["_law_net_here"]) (B : Blt mg) (c_l_all_bands : Cal P w K mg base 2 "_law_all_bands" ["_law_net_here"] (spNet NetOk fun n => eLT (allBands n)))
    (c_l_unions : Cal P w K mg base 2 "_law_unions" ["_law_bands"] spUnions) (c_l_is_in : Cal P w K mg base 1 "_law_is_in" ["_law_some", "_law_sets_here"] spIsIn) :
    Cal P w K mg base 3 "_law_is_held_by_three" ["_law_net_here"] (spNet NetOk fun n => .bool (heldBy n)) := by
  refine cal_of Dfn sc_l_is_held_by_three (spF_len fun _ => rfl) fun f cdv A outer s H vs Q E hr h => ?_
  obtain ⟨G, n, g, r, hz, q⟩ := h
  obtain ⟨v0, rfl, r1⟩ := rp1 r
  have hl := allBands_len n
  have hp := pow6 hz.1
  have ul := unionsL_len (allBands n)
  have ul2 : (allBands n).length * (allBands n).length ≤ 64 * 64 := Nat.mul_le_mul (by omega) (by omega)
  refine ⟨_, (pss_cons (ps_set (i := 1) sc_l_is_held_by_three.nd rfl (Or.inl rfl) (pe_cal c_l_all_bands hr (pa_cons (pv 0) pa_nil)))
    (pss_cons (ps_for PassesOwn.never rfl (kseq (K := K) (pe_cal c_l_unions hr (pa_cons (pv 1) pa_nil))) (pg_name (i := 2) sc_l_is_held_by_three.nd rfl (Or.inr rfl))
      (pss_cons (ps_setLc (i := 3) (own := [("_law_hand", 4)]) rfl sc_l_is_held_by_three.nd rfl rfl (sw_true rfl rfl rfl (by decide +kernel)) (kseq (K := K) (pe_ix (kix (K := K)) (pv 0) pe_int (fun _ _ => rfl))) (blkOk_by (N := n_l_is_held_by_three) (sc := defScope s_l_is_held_by_three) (own := [("_law_hand", 4)]) (by decide +kernel)) (fun _ _ _ _ _ => (pg_name (i := 4) sc_l_is_held_by_three.nd rfl (Or.inl rfl))) (fun _ _ _ _ _ => (pts_one (pt_cmpR (knin (K := K) (hu65 hr)) (pv 4) (pv 2) rfl))) (fun _ _ _ _ _ => (pv 4)))
    (pss_one (ps_if (pt_val (pe_cal c_l_is_in hr (pa_cons (pv 3) (pa_cons (pv 1) pa_nil)))) (pss_one (ps_ret pe_bl)) pss_nil))))
    (pss_one (ps_ret pe_bl)))), ?_⟩
  refine b_asg (ev_net (t := tNil) (ev_var rfl r1) hz) g fun vb G1 H1 g1 rb => ?_
  refine b_for (bs := unionsL (allBands n)) eT (ei_seq (k := true) (ev_call (ea := fun bs => [eLT bs]) (er := fun bs => eLT (unionsL bs)) (allBands n) (ea_one (ev_var rfl rb)) ⟨by omega, fun t ht => by have := allBands_w n t ht; have := hz.1; omega⟩)) g1.gh
    (fun i σ' G' H' => ∃ y2 y3, σ' = [some v0, some vb, y2, y3, none] ∧ Gr G H G' H' ∧ Same G1 G' ∧ ((unionsL (allBands n)).take i).any (fun s => isIn (n.hs.filter fun h => !decide (h ∈ s)) (allBands n)) = false)
    (fun G2 H2 g2 => ⟨_, _, rfl, g1.trans g2, g2.gg, by simp⟩) (fun i σ' G' H' ⟨_, _, _, g', _⟩ => g'.gh) (fun i t x σ' G2 H2 G3 H3 hd ⟨y2, y3, hσ, g2, s2, hn⟩ g3 rx => ?_) fun σ' G' H' ⟨_, _, hσ, g', _, hn⟩ => ?_
  · subst hσ
    refine tg_name ?_
    have g13 := g2.trans g3
    refine b_asg (d := eL (n.hs.filter fun h => !decide (h ∈ t))) ((ev_lc (bs := n.hs) eH (fun h => !decide (h ∈ t)) eH (ei_seq (k := true) (ev_n0 (ev_var rfl (r1.mono g13.gg)))) (by have := hz.1; omega) fun h hh x' G5 s5 r5 => tg_name ⟨rfl, eb_test (ev_ninH (k := false) (ev_var rfl r5) (ev_var rfl (rx.mono s5))), fun _ => ev_var rfl r5⟩).is rfl) g13.gh fun vr G4 H4 g4 rr => ?_
    have g14 := g13.trans g4
    refine b_if1 (eb_B (ev_isIn (k := true) (k' := false) (a := n.hs.filter fun h => !decide (h ∈ t)) (ts := allBands n) (ea_two (ev_var rfl rr) (ev_var rfl ((rb.mono s2).mono (g3.trans g4).gg))) (by have := List.length_filter_le (fun h => !decide (h ∈ t)) n.hs; have := hz.1; omega) (by omega))) g14.gh (fun hb H5 s5 => ?_) (fun hb H5 s5 => ?_)
    · refine b_ret (ev_bl.is ?_) (g14.gh.trans s5) fun v G6 H6 g6 r6 => q v G6 H6 ((g14.more s5).trans g6) r6
      have : heldBy n = true := by
        unfold heldBy
        exact List.any_eq_true.mpr ⟨t, List.mem_of_getElem? hd, hb⟩
      show PyData.bool true = PyData.bool (heldBy n)
      rw [this]
    · exact ⟨G4, (g3.trans g4).gg, _, _, rfl, g14.more s5, s2.trans (g3.trans g4).gg, any_none hd hn hb⟩
  · subst hσ
    rw [List.take_length] at hn
    exact b_ret (ev_bl.is (by show PyData.bool false = PyData.bool (heldBy n); unfold heldBy; rw [hn])) g'.gh fun v G6 H6 g6 r6 => q v G6 H6 (g'.trans g6) r6
/-! ### three_due -/
theorem ev_within3 {σ : L2.St} {G : Hp} {tl ta tb tc : TE} {hs a b c : List Hd} (j : Nat) (hw : ∀ x, wipe ((wipe σ [j]).set j (some x)) [j] = wipe σ [j]) (hl : EvD tl σ G (eL hs)) (ht : ∀ v, ((wipe σ [j]).set j (some v))[j]? = some (some v)) (hz : hs.length ≤ 1000)
    (ha : ∀ v G', Same G G' → EvD ta ((wipe σ [j]).set j (some v)) G' (eT a)) (hb : ∀ v G', Same G G' → EvD tb ((wipe σ [j]).set j (some v)) G' (eT b)) (hc : ∀ v G', Same G G' → EvD tc ((wipe σ [j]).set j (some v)) G' (eT c)) (hla : a.length + b.length + c.length ≤ 1000) :
    EvD (tCB (rAll K) (tCons (tLc (iSeq K tl) (gName j) tYes (tOp (rInU K false) (tVar j) (tOp (rCatA K) (tOp (rCatA K) ta tb) tc)) [j]) tNil)) σ G (.bool (within hs (a ++ b ++ c))) := by
  refine (ev_all (bs := hs.map fun x => decide (x ∈ a ++ b ++ c)) ?_).is (by unfold within; rw [List.all_map]; rfl)
  rw [← map_bool]
  refine ev_lcm (bs := hs) eH (fun x => .bool (decide (x ∈ a ++ b ++ c))) (ei_seq (k := true) hl) (by omega) fun x hx v G' s rx => tg_name ⟨hw v, ev_inH (k := false) (ev_var (ht v) rx) ?_⟩
  exact (ev_catT (ds := (a ++ b).map eH) (es := c.map eH) ((ev_catT (ds := a.map eH) (es := b.map eH) (ha v G' s) (hb v G' s) (by simp; omega)).is (by rw [List.map_append])) (hc v G' s) (by simp; omega)).is (by show PyData.tuple _ = PyData.tuple ((a ++ b ++ c).map eH); rw [List.map_append (l₁ := a ++ b)])
theorem ok_three_due (Dfn : Df K mg "_law_three_due" s_l_three_due ["_law_net_here"]) (B : Blt mg) (c_l_greatest : Cal P w K mg base 3 "_law_greatest" ["_law_net_here"] (spNet NetOk fun n => eLT (greatestL n))) :
    Cal P w K mg base 4 "_law_three_due" ["_law_net_here"] (spNet NetOk fun n => eThree (threeDue n)) := by
  refine cal_of Dfn sc_l_three_due (spF_len fun _ => rfl) fun f cdv A outer s H vs Q E hr h => ?_
  obtain ⟨G, n, g, r, hz, q⟩ := h
  obtain ⟨v0, rfl, r1⟩ := rp1 r
  have hgw := greatestL_w n
  refine ⟨_, (pss_cons (ps_set (i := 1) sc_l_three_due.nd rfl (Or.inl rfl) (pe_cal c_l_greatest hr (pa_cons (pv 0) pa_nil)))
    (pss_cons (ps_for PassesOwn.never rfl (kenum (K := K) (pi_enum rfl B.enumerate (pa_cons (pv 1) pa_nil))) (kg_tup (K := K) (n := 2) (pg_tup rfl (pgs_cons (pg_name (i := 2) sc_l_three_due.nd rfl (Or.inl rfl)) (pgs_cons (pg_name (i := 3) sc_l_three_due.nd rfl (Or.inr rfl)) pgs_nil))))
      (pss_one (ps_for PassesOwn.never rfl (kenum (K := K) (pi_enum rfl B.enumerate (pa_cons (pv 1) pa_nil))) (kg_tup (K := K) (n := 2) (pg_tup rfl (pgs_cons (pg_name (i := 4) sc_l_three_due.nd rfl (Or.inl rfl)) (pgs_cons (pg_name (i := 5) sc_l_three_due.nd rfl (Or.inr rfl)) pgs_nil))))
      (pss_one (ps_for PassesOwn.never rfl (kenum (K := K) (pi_enum rfl B.enumerate (pa_cons (pv 1) pa_nil))) (kg_tup (K := K) (n := 2) (pg_tup rfl (pgs_cons (pg_name (i := 6) sc_l_three_due.nd rfl (Or.inl rfl)) (pgs_cons (pg_name (i := 7) sc_l_three_due.nd rfl (Or.inr rfl)) pgs_nil))))
      (pss_one (ps_if (PW.pt (pw_and (pt_chain op_le op_le (pv 2) (pv 4) (pv 6)) (pw_and1 (pt_val (pe_callB (kall (K := K) rfl) rfl B.all (by decide +kernel) (pa_cons (pe_lc (own := [("_law_hand", 8)]) rfl sc_l_three_due.nd (kseq (K := K) (pe_ix (kix (K := K)) (pv 0) pe_int (fun _ _ => rfl))) (blkOk_by (N := n_l_three_due) (sc := defScope s_l_three_due) (own := [("_law_hand", 8)]) (by decide +kernel)) (fun _ _ _ _ _ => (pg_name (i := 8) sc_l_three_due.nd rfl (Or.inl rfl))) (fun _ _ _ _ _ => pts_nil) (fun _ _ _ _ _ => (pe_cmpR (kin (K := K) (hu65 hr)) (pv 8) (pe_op (kcatA (K := K)) (pe_op (kcatA (K := K)) (pv 3) (pv 5)) (pv 7)) rfl))) pa_nil)))))) (pss_one (ps_ret (pe_tup (pa_cons (pv 3) (pa_cons (pv 5) (pa_cons (pv 7) pa_nil)))))) pss_nil)))))))
    (pss_one (ps_ret pe_non)))), ?_⟩
  refine b_asg (ev_net (t := tNil) (ev_var rfl r1) hz) g fun vb G1 H1 g1 rb => ?_
  have q : ∀ v G' H', Gr G H G' H' → Rp G' v (eThree (find3 n.hs (greatestL n))) → Q v H' := q
  obtain ⟨l, hl⟩ : ∃ l, l = greatestL n := ⟨_, rfl⟩
  rw [← hl] at q rb hgw
  have hgw' : ∀ s ∈ l, s.length ≤ 6 := fun s h => Nat.le_trans (hgw s h) hz.1
  let f3 : List Hd × Nat → List Hd × Nat → List Hd × Nat → Option (List Hd × List Hd × List Hd) := fun a b c => if ((decide (a.2 ≤ b.2) && decide (b.2 ≤ c.2)) && within n.hs (a.1 ++ b.1 ++ c.1)) = true then some (a.1, b.1, c.1) else none
  let f2 : List Hd × Nat → List Hd × Nat → Option (List Hd × List Hd × List Hd) := fun a b => l.zipIdx.findSome? (f3 a b)
  let f1 : List Hd × Nat → Option (List Hd × List Hd × List Hd) := fun a => l.zipIdx.findSome? (f2 a)
  have q' : ∀ v G' H', Gr G H G' H' → Rp G' v (eThree (l.zipIdx.findSome? f1)) → Q v H' := q
  refine b_for (bs := l.zipIdx) (eZ eT) (ei_enumZ (ev_var rfl rb)) g1.gh
    (fun i σ' G' H' => ∃ y2 y3 y4 y5 y6 y7, σ' = [some v0, some vb, y2, y3, y4, y5, y6, y7, none] ∧ Gr G H G' H' ∧ Same G1 G' ∧ (l.zipIdx.take i).findSome? f1 = none)
    (fun G2 H2 g2 => ⟨_, _, _, _, _, _, rfl, g1.trans g2, g2.gg, by simp⟩) (fun i σ' G' H' ⟨_, _, _, _, _, _, _, g', _⟩ => g'.gh) (fun i a x σ' G2 H2 G3 H3 hda ⟨y2, y3, y4, y5, y6, y7, hσ, g2, s2, hna⟩ g3 rx => ?_) fun σ' G' H' ⟨_, _, _, _, _, _, hσ, g', _, hn⟩ => ?_
  · subst hσ
    obtain ⟨ta, ja⟩ := a
    obtain ⟨rfl, hma⟩ := zipIdx_get hda
    have ha6 := hgw' ta (List.mem_of_getElem? hma)
    refine tg_pair rx fun va1 va2 rva1 rva2 => ?_
    have g13 := g2.trans g3
    have s13 := s2.trans g3.gg
    refine b_for1 (bs := l.zipIdx) (eZ eT) (ei_enumZ (ev_var rfl (rb.mono s13))) g13.gh
      (fun i σ' G' H' => ∃ y4 y5 y6 y7, σ' = [some v0, some vb, some va1, some va2, y4, y5, y6, y7, none] ∧ Gr G H G' H' ∧ Same G3 G' ∧ (l.zipIdx.take i).findSome? (f2 (ta, ja)) = none)
      (fun G2 H2 g2 => ⟨_, _, _, _, rfl, g13.trans g2, g2.gg, by simp⟩) (fun i σ' G' H' ⟨_, _, _, _, _, g', _⟩ => g'.gh) (fun i b x σ' G4 H4 G5 H5 hdb ⟨y4, y5, y6, y7, hσ, g4, s4, hnb⟩ g5 rx => ?_) fun σ' G' H' ⟨_, _, _, _, hσ, g', s', hn⟩ => ?_
    · subst hσ
      obtain ⟨tb, jb⟩ := b
      obtain ⟨rfl, hmb⟩ := zipIdx_get hdb
      have hb6 := hgw' tb (List.mem_of_getElem? hmb)
      refine tg_pair rx fun vb1 vb2 rvb1 rvb2 => ?_
      have g15 := g4.trans g5
      have s35 := s4.trans g5.gg
      refine b_for1 (bs := l.zipIdx) (eZ eT) (ei_enumZ (ev_var rfl (rb.mono (s13.trans s35)))) g15.gh
        (fun i σ' G' H' => ∃ y6 y7, σ' = [some v0, some vb, some va1, some va2, some vb1, some vb2, y6, y7, none] ∧ Gr G H G' H' ∧ Same G5 G' ∧ (l.zipIdx.take i).findSome? (f3 (ta, ja) (tb, jb)) = none)
        (fun G2 H2 g2 => ⟨_, _, rfl, g15.trans g2, g2.gg, by simp⟩) (fun i σ' G' H' ⟨_, _, _, g', _⟩ => g'.gh) (fun i c x σ' G6 H6 G7 H7 hdc ⟨y6, y7, hσ, g6, s6, hnc⟩ g7 rx => ?_) fun σ' G' H' ⟨_, _, hσ, g', s', hn⟩ => ?_
      · subst hσ
        obtain ⟨tc, jc⟩ := c
        obtain ⟨rfl, hmc⟩ := zipIdx_get hdc
        have hc6 := hgw' tc (List.mem_of_getElem? hmc)
        refine tg_pair rx fun vc1 vc2 rvc1 rvc2 => ?_
        have g17 := g6.trans g7
        have s57 := s6.trans g7.gg
        have ra2 := (rva2.mono s35).mono s57
        have rb2 := rvb2.mono s57
        have ec : ((decide ((ja : Int) ≤ (jb : Int)) && decide ((jb : Int) ≤ (jc : Int))) && within n.hs (ta ++ tb ++ tc)) = ((decide (ja ≤ jb) && decide (jb ≤ jc)) && within n.hs (ta ++ tb ++ tc)) := by
          simp only [Int.ofNat_le]
        refine b_if1 (EvB.is (eb_and (eb_le3 (ev_var rfl ((rva1.mono s35).mono s57)) (ev_var rfl (rvb1.mono s57)) (ev_var rfl rvc1)) fun _ => eb_B (ev_within3 (K := K) 8 (fun _ => rfl) (ev_n0 (ev_var rfl (r1.mono (g17.gg)))) (fun _ => rfl) (by have := hz.1; omega)
            (fun v G' s => ev_var rfl (ra2.mono s)) (fun v G' s => ev_var rfl (rb2.mono s)) (fun v G' s => ev_var rfl (rvc2.mono s)) (by simp only; omega))) ec) g17.gh (fun hb H8 s8 => ?_) (fun hb H8 s8 => ?_)
        · refine b_ret (d := .tuple [eT ta, eT tb, eT tc]) (ev_tup (ea_cons (ev_var rfl ra2) (ea_two (ev_var rfl rb2) (ev_var rfl rvc2))) (by show 3 ≤ _; decide)) (g17.gh.trans s8) fun v G9 H9 g9 r9 => q' v G9 H9 ((g17.more s8).trans g9) ?_
          have e3 : f3 (ta, ja) (tb, jb) (tc, jc) = some (ta, tb, tc) := if_pos hb
          have e2 : f2 (ta, ja) (tb, jb) = some (ta, tb, tc) := fs_some hdc hnc e3
          have e1 : f1 (ta, ja) = some (ta, tb, tc) := fs_some hdb hnb e2
          rw [fs_some hda hna e1]
          exact r9
        · have e3 : f3 (ta, ja) (tb, jb) (tc, jc) = none := if_neg (by rw [hb]; exact Bool.false_ne_true)
          exact ⟨G7, g7.gg, _, _, rfl, g17.more s8, s57, fs_none hdc hnc e3⟩
      · subst hσ
        rw [List.take_length] at hn
        exact ⟨G', g5.gg.trans s', _, _, _, _, rfl, g', s35.trans s', fs_none hdb hnb hn⟩
    · subst hσ
      rw [List.take_length] at hn
      exact ⟨G', g3.gg.trans s', _, _, _, _, _, _, rfl, g', s13.trans s', fs_none hda hna hn⟩
  · subst hσ
    rw [List.take_length] at hn
    exact b_ret ev_non g'.gh fun v G6 H6 g6 r6 => q' v G6 H6 (g'.trans g6) (by rw [hn]; exact r6)
end
end Bp

set_option Elab.async false
set_option linter.all false
set_option maxRecDepth 100000
set_option maxHeartbeats 1000001
namespace Bp
open PySem PySem.Spec L2 PyProof.Rows
section
variable {P : Program} {w : World} {K : PySem.W.Frag} {mg : Str → Option Value} {base : Heap}
section
variable {σ : L2.St} {G : Hp} {ta tb tc te : TE}
/-- every[at:] -/
theorem ev_drop {β : Type} {enc : β → PyData} {l : List β} {j : Nat} (ha : EvD ta σ G (.list (l.map enc))) (hb : EvD tb σ G (.int (j : Int))) : EvD (tSl (rSlL K) ta (tPart tb) tNoPart) σ G (.list ((l.drop j).map enc)) :=
  EvD.is (ev_slice ha (eo_some hb) eo_none) (by rw [cutD_drop, List.map_drop])
/-- tuple([hand for hand in band if hand not in (a, b)]) -/
theorem ev_minus {j : Nat} {a b : Hd} {t : List Hd} (hw : ∀ x, wipe ((wipe σ [j]).set j (some x)) [j] = wipe σ [j]) (hv : ∀ v, ((wipe σ [j]).set j (some v))[j]? = some (some v)) (ht : EvD te σ G (eT t)) (hz : t.length ≤ 1000)
    (ha : ∀ v G', Same G G' → EvD ta ((wipe σ [j]).set j (some v)) G' (eH a)) (hb : ∀ v G', Same G G' → EvD tb ((wipe σ [j]).set j (some v)) G' (eH b)) :
    EvD (tCB (fun xs H Q => ∃ p ys, xs = [.ref p] ∧ ((SqL K H p ys ∧ ∀ l, H l = none → Q (.ref l) (upd H l (.tup ys))) ∨ (SqT K H p ys ∧ Q (.ref p) H))) (tCons (tLc (iSeq K te) (gName j) (tTest (tOp (rInU K true) (tVar j) (tTup (tCons ta (tCons tb tNil))))) (tVar j) [j]) tNil)) σ G (eT (minus a b t)) := by
  refine EvD.is (ev_tuple (k := true) (ds := (minus a b t).map eH) ?_) rfl
  refine ev_lc (bs := t) eH (fun h => !decide (h ∈ [a, b])) eH (ei_seq (k := false) ht) (by omega) fun h hh x G' s rx => tg_name ⟨hw x, eb_test (ev_ninH (k := false) (t := [a, b]) (ev_var (hv x) rx) (ev_tup (ea_two (ha x G' s) (hb x G' s)) (by show 2 ≤ _; decide))), fun _ => ev_var (hv x) rx⟩
end
theorem minus_w (a b : Hd) (t : List Hd) : (minus a b t).length ≤ t.length := List.length_filter_le _ _
theorem ok_parted_due (Dfn : Df K mg "_law_parted_due" s_l_parted_due ["_law_net_here"]) (B : Blt mg) (c_l_greatest : Cal P w K mg base 3 "_law_greatest" ["_law_net_here"] (spNet NetOk fun n => eLT (greatestL n)))
    (c_l_pairs : Cal P w K mg base 1 "_law_pairs" ["_law_hands_here"] spPairs) (c_l_is_parted : Cal P w K mg base 3 "_law_is_parted" ["_law_net_here", "_law_one", "_law_other"] spParted) (c_l_ways : Cal P w K mg base 2 "_law_ways" ["_law_roads", "_law_one", "_law_other"] spWays)
    (c_l_is_free : Cal P w K mg base 1 "_law_is_free" ["_law_way", "_law_some"] spIsFree) : Cal P w K mg base 4 "_law_parted_due" ["_law_net_here"] (spNet NetOk fun n => eFour (partedDue n)) := by
  refine cal_of Dfn sc_l_parted_due (spF_len fun _ => rfl) fun f cdv A outer s H vs Q E hr h => ?_
  obtain ⟨G, n, g, r, hz, q⟩ := h
  obtain ⟨v0, rfl, r1⟩ := rp1 r
  have hgw := greatestL_w n
  have hgl := greatestL_len n
  have hp6 := pow6 hz.1
  let f1 : Hd × Hd → Option (Hd × Hd × List Hd × List Hd) := fun p => if isParted n p.1 p.2 = true then (find2 (cutsAll n p.1 p.2) ((greatestL n).map (minus p.1 p.2))).map fun x => (p.1, p.2, x.1, x.2) else none
  have q : ∀ v G' H', Gr G H G' H' → Rp G' v (eFour ((pairsZ n.hs).findSome? f1)) → Q v H' := q
  refine ⟨_, (pss_cons (ps_for PassesOwn.never rfl (kseq (K := K) (pe_cal c_l_pairs hr (pa_cons (pe_ix (kix (K := K)) (pv 0) pe_int (fun _ _ => rfl)) pa_nil))) (kg_tup (K := K) (n := 2) (pg_tup rfl (pgs_cons (pg_name (i := 1) sc_l_parted_due.nd rfl (Or.inr rfl)) (pgs_cons (pg_name (i := 2) sc_l_parted_due.nd rfl (Or.inr rfl)) pgs_nil))))
      (pss_one (ps_if (pt_val (pe_cal c_l_is_parted hr (pa_cons (pv 0) (pa_cons (pv 1) (pa_cons (pv 2) pa_nil))))) (pss_cons (ps_set (i := 3) sc_l_parted_due.nd rfl (Or.inl rfl) (pe_cal c_l_ways hr (pa_cons (pe_ix (kix (K := K)) (pv 0) pe_int (fun _ _ => rfl)) (pa_cons (pv 1) (pa_cons (pv 2) pa_nil)))))
    (pss_cons (ps_setLc (i := 4) (own := [("_law_band", 6)]) rfl sc_l_parted_due.nd rfl rfl (sw_true rfl rfl rfl (by decide +kernel)) (kseq (K := K) (pe_cal c_l_greatest hr (pa_cons (pv 0) pa_nil))) (blkOk_by (N := n_l_parted_due) (sc := defScope s_l_parted_due) (own := [("_law_band", 6)]) (by decide +kernel)) (fun _ _ _ _ _ => (pg_name (i := 6) sc_l_parted_due.nd rfl (Or.inl rfl))) (fun _ _ _ _ _ => pts_nil) (fun _ _ _ _ _ => (pe_callTy (ktuple (K := K)) rfl B.tuple (by decide +kernel) (pa_cons (pe_lc (own := [("_law_hand", 5)]) rfl sc_l_parted_due.nd (kseq (K := K) (pv 6)) (blkOk_by (N := n_l_parted_due) (sc := relS _ (defScope s_l_parted_due)) (own := [("_law_hand", 5)]) (by decide +kernel)) (fun _ _ _ _ _ => (pg_name (i := 5) sc_l_parted_due.nd rfl (Or.inl rfl))) (fun _ _ _ _ _ => (pts_one (pt_cmpR (knin (K := K) (hu65 hr)) (pv 5) (pe_tup (pa_cons (pv 1) (pa_cons (pv 2) pa_nil))) rfl))) (fun _ _ _ _ _ => (pv 5))) pa_nil))))
    (pss_one (ps_for PassesOwn.never rfl (kenum (K := K) (pi_enum rfl B.enumerate (pa_cons (pv 4) pa_nil))) (kg_tup (K := K) (n := 2) (pg_tup rfl (pgs_cons (pg_name (i := 7) sc_l_parted_due.nd rfl (Or.inl rfl)) (pgs_cons (pg_name (i := 8) sc_l_parted_due.nd rfl (Or.inr rfl)) pgs_nil))))
      (pss_one (ps_for PassesOwn.never rfl (kseq (K := K) (pe_slice (ksl (K := K)) (pv 4) (po_some (pv 7)) po_none)) (pg_name (i := 9) sc_l_parted_due.nd rfl (Or.inr rfl))
      (pss_one (ps_if (pt_not (pt_val (pe_callB (kany (K := K) rfl) rfl B.any (by decide +kernel) (pa_cons (pe_lc (own := [("_law_way", 10)]) rfl sc_l_parted_due.nd (kseq (K := K) (pv 3)) (blkOk_by (N := n_l_parted_due) (sc := defScope s_l_parted_due) (own := [("_law_way", 10)]) (by decide +kernel)) (fun _ _ _ _ _ => (pg_name (i := 10) sc_l_parted_due.nd rfl (Or.inl rfl))) (fun _ _ _ _ _ => pts_nil) (fun _ _ _ _ _ => (pe_cal c_l_is_free hr (pa_cons (pv 10) (pa_cons (pe_op (kcatA (K := K)) (pv 8) (pv 9)) pa_nil))))) pa_nil)))) (pss_one (ps_ret (pe_tup (pa_cons (pv 1) (pa_cons (pv 2) (pa_cons (pv 8) (pa_cons (pv 9) pa_nil))))))) pss_nil)))))))) pss_nil)))
    (pss_one (ps_ret pe_non))), ?_⟩
  refine b_for (bs := pairsZ n.hs) eP (ei_seq (k := true) (ev_call (ea := fun hs => [eL hs]) (er := fun hs => eLP (pairsZ hs)) n.hs (ea_one (ev_n0 (ev_var rfl r1))) (by have := hz.1; omega))) g
    (fun i σ' G' H' => ∃ y1 y2 y3 y4 y7 y8 y9, σ' = [some v0, y1, y2, y3, y4, none, none, y7, y8, y9, none] ∧ Gr G H G' H' ∧ ((pairsZ n.hs).take i).findSome? f1 = none)
    (fun G2 H2 g2 => ⟨_, _, _, _, _, _, _, rfl, g2, by simp⟩) (fun i σ' G' H' ⟨_, _, _, _, _, _, _, _, g', _⟩ => g'.gh) (fun i a x σ' G2 H2 G3 H3 hda ⟨y1, y2, y3, y4, y7, y8, y9, hσ, g2, hna⟩ g3 rx => ?_) fun σ' G' H' ⟨_, _, _, _, _, _, _, hσ, g', hn⟩ => ?_
  · subst hσ
    obtain ⟨a, b⟩ := a
    refine tg_pair rx fun va vb ra rb => ?_
    have g13 := g2.trans g3
    refine b_if1 (eb_B (ev_call (ea := fun x : Net × Hd × Hd => [eN x.1, eH x.2.1, eH x.2.2]) (er := fun x => .bool (isParted x.1 x.2.1 x.2.2)) (n, a, b) (ea_cons (ev_var rfl (r1.mono g13.gg)) (ea_two (ev_var rfl ra) (ev_var rfl rb))) hz)) g13.gh (fun hb H4 s4 => ?_) (fun hb H4 s4 => ?_)
    · have g14 := g13.more s4
      refine b_asg (ev_call (ea := fun x : List (Hd × Hd) × Hd × Hd => [eLP x.1, eH x.2.1, eH x.2.2]) (er := fun x => eLT (waysL x.1 x.2.1 x.2.2)) (n.rs, a, b) (ea_cons (ev_n1 (ev_var rfl (r1.mono g13.gg))) (ea_two (ev_var rfl ra) (ev_var rfl rb))) hz.2.1) g14.gh fun vw G5 H5 g5 rw_ => ?_
      have g15 := g14.trans g5
      have ra5 := ra.mono g5.gg
      have rb5 := rb.mono g5.gg
      obtain ⟨l, hl⟩ : ∃ l, l = (greatestL n).map (minus a b) := ⟨_, rfl⟩
      have hlw : ∀ t ∈ l, t.length ≤ 6 := fun t ht => by
        rw [hl] at ht
        obtain ⟨u, hu, rfl⟩ := List.mem_map.mp ht
        have := hgw u hu
        have := minus_w a b u
        have := hz.1
        omega
      refine b_asg (d := eLT l) (EvD.is (ev_lcm (bs := greatestL n) eT (fun t => eT (minus a b t)) (ei_seq (k := true) (ev_net (t := tNil) (ev_var rfl (r1.mono g15.gg)) hz)) (by omega) fun t ht x G6 s6 r6 => tg_name ⟨rfl, ev_minus (K := K) (j := 5) (fun _ => rfl) (fun _ => rfl) (ev_var rfl r6) (by have := hgw t ht; have := hz.1; omega) (fun v G' s => ev_var rfl ((ra5.mono s6).mono s)) (fun v G' s => ev_var rfl ((rb5.mono s6).mono s))⟩) (by rw [hl]; unfold eLT; rw [List.map_map]; rfl)) g15.gh fun ve G6 H6 g6 re => ?_
      have g16 := g15.trans g6
      have ra6 := ra5.mono g6.gg
      have rb6 := rb5.mono g6.gg
      have rw6 := rw_.mono g6.gg
      let f3 : List Hd → List Hd → Option (List Hd × List Hd) := fun s t => if cutsAll n a b s t = true then some (s, t) else none
      let f2 : List Hd × Nat → Option (List Hd × List Hd) := fun s => (l.drop s.2).findSome? (f3 s.1)
      have ef : f1 (a, b) = (l.zipIdx.findSome? f2).map fun x => (a, b, x.1, x.2) := by
        show (if isParted n a b = true then _ else none) = _
        rw [if_pos hb]
        show (find2 (cutsAll n a b) ((greatestL n).map (minus a b))).map (fun x => (a, b, x.1, x.2)) = _
        rw [← hl]; rfl
      refine b_for1 (bs := l.zipIdx) (eZ eT) (ei_enumZ (ev_var rfl re)) g16.gh
        (fun i σ' G' H' => ∃ y7 y8 y9, σ' = [some v0, some va, some vb, some vw, some ve, none, none, y7, y8, y9, none] ∧ Gr G H G' H' ∧ Same G6 G' ∧ (l.zipIdx.take i).findSome? f2 = none)
        (fun G2 H2 g2 => ⟨_, _, _, rfl, g16.trans g2, g2.gg, by simp⟩) (fun i σ' G' H' ⟨_, _, _, _, g', _⟩ => g'.gh) (fun i c x σ' G7 H7 G8 H8 hdc ⟨y7, y8, y9, hσ, g7, s7, hnc⟩ g8 rx => ?_) fun σ' G' H' ⟨_, _, _, hσ, g', s', hn⟩ => ?_
      · subst hσ
        obtain ⟨tc, jc⟩ := c
        obtain ⟨rfl, hmc⟩ := zipIdx_get hdc
        have hc6 := hlw tc (List.mem_of_getElem? hmc)
        refine tg_pair rx fun vc1 vc2 rc1 rc2 => ?_
        have g18 := g7.trans g8
        have s68 := s7.trans g8.gg
        refine b_for1 (bs := l.drop jc) eT (ei_seq (k := true) (ev_drop (ev_var rfl (re.mono s68)) (ev_var rfl rc1))) g18.gh
          (fun i σ' G' H' => ∃ y9, σ' = [some v0, some va, some vb, some vw, some ve, none, none, some vc1, some vc2, y9, none] ∧ Gr G H G' H' ∧ Same G8 G' ∧ ((l.drop jc).take i).findSome? (f3 tc) = none)
          (fun G2 H2 g2 => ⟨_, rfl, g18.trans g2, g2.gg, by simp⟩) (fun i σ' G' H' ⟨_, _, g', _⟩ => g'.gh) (fun i e x σ' G9 H9 Ga Ha hde ⟨y9, hσ, g9, s9, hne⟩ ga rx => ?_) fun σ' G' H' ⟨_, hσ, g', s', hn⟩ => ?_
        · subst hσ
          refine tg_name ?_
          have he6 := hlw e (List.mem_of_mem_drop (List.mem_of_getElem? hde))
          have g1a := g9.trans ga
          have s8a := s9.trans ga.gg
          have s6a := s68.trans s8a
          have rc2a := rc2.mono s8a
          refine b_if1 (EvB.is (eb_not (eb_B (ev_any (bs := (waysL n.rs a b).map fun w => isFree w (tc ++ e)) ?_))) (b := cutsAll n a b tc e) (by rw [List.any_map]; rfl)) g1a.gh (fun hb2 Hb sb => ?_) (fun hb2 Hb sb => ?_)
          · rw [← map_bool]
            refine ev_lcm (bs := waysL n.rs a b) eT _ (ei_seq (k := true) (ev_var rfl (rw6.mono s6a))) (by have := waysL_len n.rs a b hz.2.1; omega) fun u hu x' Gc sc rx' => tg_name ⟨rfl, ?_⟩
            refine ev_free (ea_two (ev_var rfl rx') ?_) (by have := waysL_w n.rs a b u hu; omega)
            exact EvD.is (ev_catT (ds := tc.map eH) (es := e.map eH) (ev_var rfl (rc2a.mono sc)) (ev_var rfl (rx.mono sc)) (by simp; omega)) (by unfold eT; rw [List.map_append])
          · refine b_ret (d := .tuple [eH a, eH b, eT tc, eT e]) (ev_tup (ea_cons (ev_var rfl (ra6.mono s6a)) (ea_cons (ev_var rfl (rb6.mono s6a)) (ea_two (ev_var rfl rc2a) (ev_var rfl rx)))) (by show 4 ≤ _; decide)) (g1a.gh.trans sb) fun v G9 H9 g9 r9 => q v G9 H9 ((g1a.more sb).trans g9) ?_
            have e3 : f3 tc e = some (tc, e) := if_pos hb2
            have e2 : f2 (tc, jc) = some (tc, e) := fs_some hde hne e3
            have e1 : f1 (a, b) = some (a, b, tc, e) := by rw [ef, fs_some hdc hnc e2]; rfl
            rw [fs_some hda hna e1]
            exact r9
          · have e3 : f3 tc e = none := if_neg (by rw [hb2]; exact Bool.false_ne_true)
            exact ⟨Ga, ga.gg, _, rfl, g1a.more sb, s8a, fs_none hde hne e3⟩
        · subst hσ
          rw [List.take_length] at hn
          exact ⟨G', g8.gg.trans s', _, _, _, rfl, g', s68.trans s', fs_none hdc hnc hn⟩
      · subst hσ
        rw [List.take_length] at hn
        have e1 : f1 (a, b) = none := by rw [ef, hn]; rfl
        exact ⟨G', ((g3.gg.trans g5.gg).trans g6.gg).trans s', _, _, _, _, _, _, _, rfl, g', fs_none hda hna e1⟩
    · have e1 : f1 (a, b) = none := if_neg (by rw [hb]; exact Bool.false_ne_true)
      exact ⟨G3, g3.gg, _, _, _, _, _, _, _, rfl, g13.more s4, fs_none hda hna e1⟩
  · subst hσ
    rw [List.take_length] at hn
    exact b_ret ev_non g'.gh fun v G6 H6 g6 r6 => q v G6 H6 (g'.trans g6) (by rw [hn]; exact r6)
end
end Bp

set_option Elab.async false
set_option linter.all false
set_option maxRecDepth 100000
set_option maxHeartbeats 1000001
namespace Bp
open PySem PySem.Spec L2 PyProof.Rows
/-! ### isinstance -/
def tyN : PyData → String
  | .none => "NoneType" | .bool _ => "bool" | .int _ => "int" | .str _ => "str" | .list _ => "list" | .tuple _ => "tuple" | .dict _ => "dict"
def noDict : PyData → Bool
  | .dict _ => false
  | _ => true
theorem Rp.ty {K : PySem.W.Frag} {G H : Hp} (s : Same G H) {v : V} {d : PyData} (r : Rp G v d) (n : noDict d = true) : TyX K H v (.type (tyN d)) := by
  cases r with
  | non => exact .base .non
  | bl b => exact .base (.bl b)
  | int i => exact .base (.int i)
  | str x => exact .base (.str x)
  | lst h _ => exact .base (.lst (s _ _ h))
  | tup h _ => exact .base (.tup (s _ _ h))
  | ins h _ _ _ => cases n
def kitsB (T : String) : List String → Option Bool
  | [] => some false
  | n :: r => match kitB T n with
    | some true => some true
    | some false => kitsB T r
    | none => none
theorem kits {K : PySem.W.Frag} {T : String} : ∀ {ns : List String} {b : Bool}, kitsB T ns = some b → PySem.W.kitAny K (.type T) (ns.map Value.type) = some b
  | [], b, h => by rw [← h]; exact kitAny_nil
  | n :: r, b, h => by
    unfold kitsB at h
    cases q : kitB T n with
    | none => rw [q] at h; cases h
    | some c =>
      rw [q] at h
      cases c with
      | true => exact kitAny_cons (kit_ty q) (fun z => nomatch z) fun _ => (Option.some.inj h).symm
      | false => exact kitAny_cons (kit_ty q) (fun _ => kits h) fun z => nomatch z
def tTys : List String → TA
  | [] => tNil
  | n :: r => tCons (tC (.ty n)) (tTys r)
theorem tTys_ok : ∀ {ns : List String} {σ : L2.St} {H : Hp} {Q : List V → Hp → Prop}, Q (ns.map V.ty) H → tTys ns σ H Q
  | [], _, _, _, q => q
  | n :: r, σ, H, Q, q => tTys_ok (ns := r) (Q := fun xs H2 => Q (.ty n :: xs) H2) q
section
variable {K : PySem.W.Frag} {σ : L2.St} {G H : Hp} {ta : TE} {d : PyData}
theorem ev_isi {n : String} {b : Bool} (h : EvD ta σ G d) (nd : noDict d = true) (k : kitB (tyN d) n = some b) : EvD (tCB (rIsi K) (tCons ta (tCons (tC (.ty n)) tNil))) σ G (.bool b) := fun G1 H1 s1 s2 Q kk =>
  h G1 H1 s1 s2 _ fun v G2 H2 g2 r2 => ⟨v, .ty n, .type (tyN d), .type n, b, rfl, .ty n, r2.ty g2.gh nd, kit_ty k, kk _ G2 H2 g2 (.bl b)⟩
theorem ev_isiT {ns : List String} {b : Bool} (h : EvD ta σ G d) (nd : noDict d = true) (k : kitsB (tyN d) ns = some b) (hl : ns.length ≤ 100) : EvD (tCB (rIsiT K) (tCons ta (tCons (tTup (tTys ns)) tNil))) σ G (.bool b) := fun G1 H1 s1 s2 Q kk =>
  h G1 H1 s1 s2 _ fun v G2 H2 g2 r2 => tTys_ok ⟨by rw [List.length_map, sizeLine_eq]; omega, fun p hp => ⟨v, p, ns.map V.ty, .type (tyN d), ns.map Value.type, b, rfl, upd_same, clsAll ns, (r2.mono (Same.refl _)).ty (G := G2) (fun a o e => by rw [upd_ne (ne_of_none (g2.gh _ _ e) hp)]; exact g2.gh _ _ e) nd, kits k, kk _ G2 _ (g2.trans (Gr.lay g2.gh hp)) (.bl b)⟩⟩
where
  clsAll : ∀ ns : List String, Paired ClsV (ns.map V.ty) (ns.map Value.type)
    | [] => .nil
    | n :: r => .cons (.ty n) (clsAll r)
end

theorem kits_sq (k : Bool) (ds : List PyData) : kitsB (tyN (sq k ds)) ["list", "tuple"] = some true := by cases k <;> (simp only [sq, tyN]; decide +kernel)
/-! ### over the signs of a text -/
theorem ei_str {σ : L2.St} {G : Hp} {te : TE} {x : Str} (h : EvD te σ G (.str x)) : EvI (iStr te) σ G (x.cps.toList.map fun c => .str ⟨#[c]⟩) := fun G1 H1 a b R kk => h G1 H1 a b _ fun v G2 H2 g2 r2 => by
  rw [r2.str_eq]
  refine ⟨x, rfl, kk _ G2 H2 g2 ⟨fun i H hi _ => ?_, fun H _ => ?_, fun i G3 H3 z H' d hd s s' y => ?_⟩⟩
  · show i < x.cps.size
    simpa using hi
  · show x.cps.size ≤ _
    simp
  · obtain ⟨rfl, c, hc, rfl⟩ := y
    refine ⟨G3, Gr.refl s', ?_⟩
    have : d = .str ⟨#[c]⟩ := by
      have e : x.cps.toList[i]? = some c := by simpa using hc
      rw [List.getElem?_map, e] at hd
      exact (Option.some.inj hd).symm
    rw [this]
    exact .str _
/-! ### comprehensions over two rows -/
theorem yes_it {σ : L2.St} {H : Hp} {A B : Hp → Prop} (h : A H) : tYes σ H fun b H3 => if b = true then A H3 else B H3 := by
  show if true = true then A H else B H
  rw [if_pos rfl]; exact h
theorem ev_lc2 {σ : L2.St} {G : Hp} {te : TE} {wi wi1 : TI} {g g1 : TG} {vs vs1 : List Nat} {β γ : Type} {bs : List β} (enc : β → PyData) (cs : β → List γ) (enc1 : β → γ → PyData) (el : β → γ → PyData) (hI : EvI wi σ G (bs.map enc)) (hz : bs.length ≤ 1000) (hz1 : ∀ b ∈ bs, (cs b).length ≤ 1000)
    (hb : ∀ b, b ∈ bs → ∀ x G', Same G G' → Rp G' x (enc b) → EvTg g x (wipe σ vs) (fun σ2 => wipe σ2 vs = wipe σ vs ∧ EvI wi1 σ2 G' ((cs b).map (enc1 b)) ∧
      ∀ c, c ∈ cs b → ∀ y G'', Same G' G'' → Rp G'' y (enc1 b c) → EvTg g1 y (wipe σ2 vs1) (fun σ3 => wipe σ3 vs1 = wipe σ2 vs1 ∧ EvD te σ3 G'' (el b c)) G'') G') :
    EvD (tLc2 wi g tYes wi1 g1 tYes te vs vs1) σ G (.list (bs.flatMap fun b => (cs b).map (el b))) := fun G1 H1 a b Q kk => hI G1 H1 a b _ fun J G2 H2 g2 dw D hD => by
  have en : (bs.map enc).length = bs.length := List.length_map _
  let F : β → List PyData := fun b => (cs b).map (el b)
  have pl : ∀ i, ((bs.take i).flatMap F).length ≤ 1000 * 1000 := fun i => by
    refine Nat.le_trans (flatMap_len F 1000 _ fun p hp => by simp only [F, List.length_map]; exact hz1 p (List.mem_of_mem_take hp)) ?_
    rw [List.length_take]
    exact Nat.mul_le_mul_right _ (by omega)
  refine ⟨fun i m H => m = bs.length - i ∧ i ≤ bs.length ∧ ∃ G' acc, Gr G2 H2 G' H ∧ G' D = none ∧ H D = some (.lst acc) ∧ RpAll G' acc ((bs.take i).flatMap F), ⟨bs.length, by simp, Nat.zero_le _, G2, [], Gr.lay g2.gh hD, g2.gh.free hD, upd_same, by simp; exact .nil⟩, ?_⟩
  rintro i m H ⟨rfl, hi, G3, acc, g3, n3, e3, r3⟩
  by_cases hlt : i < bs.length
  · obtain ⟨b0, hb0⟩ : ∃ b0, bs[i]? = some b0 := ⟨bs[i], List.getElem?_eq_getElem hlt⟩
    have hbm := List.mem_of_getElem? hb0
    have hd : (bs.map enc)[i]? = some (enc b0) := by rw [List.getElem?_map, hb0]; rfl
    refine .inr ⟨dw.goes i H (by rw [en]; exact hlt) (g3.gg.trans g3.gh), fun H' => ∃ G' acc, Gr G2 H2 G' H' ∧ G' D = none ∧ H' D = some (.lst acc) ∧ RpAll G' acc ((bs.take (i + 1)).flatMap F), fun H' p' => ⟨bs.length - (i + 1), by omega, rfl, hlt, p'⟩, fun x H4 y => ?_⟩
    obtain ⟨G4, g4, r4⟩ := dw.yields i G3 H x H4 _ hd g3.gg g3.gh y
    have sG : Same G G4 := ((a.trans g2.gg).trans g3.gg).trans g4.gg
    refine hb b0 hbm x G4 sG r4 H4 g4.gh _ fun σ2 ⟨hw, hI1, hc⟩ => ⟨hw, yes_it (hI1 G4 H4 (Same.refl _) g4.gh _ fun J1 G5 H5 g5 dw1 => ?_)⟩
    have g35 := (g3.trans g4).trans g5
    have en1 : ((cs b0).map (enc1 b0)).length = (cs b0).length := List.length_map _
    have n5 : G5 D = none := (g4.trans g5).outL n3 e3
    have e5 : H5 D = some (.lst acc) := (g4.trans g5).same _ _ e3
    have hl1 := hz1 b0 hbm
    refine ⟨fun j k H => k = (cs b0).length - j ∧ j ≤ (cs b0).length ∧ ∃ G' acc, Gr G2 H2 G' H ∧ Same G5 G' ∧ G' D = none ∧ H D = some (.lst acc) ∧ RpAll G' acc ((bs.take i).flatMap F ++ ((cs b0).take j).map (el b0)), ⟨(cs b0).length, by simp, Nat.zero_le _, G5, acc, g35, Same.refl _, n5, e5, by simpa using r3.mono (g4.trans g5).gg⟩, ?_⟩
    rintro j k H6 ⟨rfl, hj, G6, acc6, g6, s56, n6, e6, r6⟩
    by_cases hlt1 : j < (cs b0).length
    · obtain ⟨c0, hc0⟩ : ∃ c0, (cs b0)[j]? = some c0 := ⟨(cs b0)[j], List.getElem?_eq_getElem hlt1⟩
      have hd1 : ((cs b0).map (enc1 b0))[j]? = some (enc1 b0 c0) := by rw [List.getElem?_map, hc0]; rfl
      refine .inr ⟨dw1.goes j H6 (by rw [en1]; exact hlt1) (s56.trans g6.gh), fun H' => ∃ G' acc, Gr G2 H2 G' H' ∧ Same G5 G' ∧ G' D = none ∧ H' D = some (.lst acc) ∧ RpAll G' acc ((bs.take i).flatMap F ++ ((cs b0).take (j + 1)).map (el b0)), fun H' p' => ⟨(cs b0).length - (j + 1), by omega, rfl, hlt1, p'⟩, fun x1 H7 y1 => ?_⟩
      obtain ⟨G7, g7, r7⟩ := dw1.yields j G6 H6 x1 H7 _ hd1 s56 g6.gh y1
      refine hc c0 (List.mem_of_getElem? hc0) x1 G7 ((g5.gg.trans s56).trans g7.gg) r7 H7 g7.gh _ fun σ3 ⟨hw3, he⟩ => ⟨hw3, yes_it (he G7 H7 (Same.refl _) g7.gh _ fun v G8 H8 g8 r8 => ?_)⟩
      have n8 : G8 D = none := (g7.trans g8).outL n6 e6
      have e8 : H8 D = some (.lst acc6) := (g7.trans g8).same _ _ e6
      refine ⟨acc6, e8, ?_, G8, acc6 ++ [v], (g6.trans (g7.trans g8)).mut hD n8, s56.trans (g7.trans g8).gg, n8, upd_same, ?_⟩
      · have := pl i
        rw [r6.length, sizeLine_eq, List.length_append, List.length_map, List.length_take]
        omega
      · rw [take_succ hc0, List.map_append, ← List.append_assoc]
        exact (r6.mono (g7.trans g8).gg).snoc r8
    · have e : j = (cs b0).length := by omega
      subst e
      refine .inl ⟨?_, G6, acc6, g6, n6, e6, ?_⟩
      · have := dw1.stops H6 (s56.trans g6.gh)
        rw [en1] at this
        exact this
      · rw [flatMap_take F hb0]
        rw [List.take_length] at r6
        exact r6
  · have e : i = bs.length := by omega
    subst e
    refine .inl ⟨?_, ?_⟩
    · have := dw.stops H (g3.gg.trans g3.gh)
      rw [en] at this
      exact this
    · rw [List.take_length] at r3
      have g := g2.trans (g3.know hD n3 e3)
      exact kk _ _ _ g (.lst upd_same (r3.mono (same_upd n3)))
section
variable {P : Program} {w : World} {K : PySem.W.Frag} {mg : Str → Option Value} {base : Heap}
def spIsList : Sp := spF (τ := Bool × List PyData) (fun x => [sq x.1 x.2]) (fun _ => True) (fun _ => .bool true)
theorem noDict_sq (k : Bool) (ds : List PyData) : noDict (sq k ds) = true := by cases k <;> rfl
theorem ok_is_list (Dfn : Df K mg "is_list" s_is_list ["thing"]) (B : Blt mg) : Cal P w K mg base 1 "is_list" ["thing"] spIsList := by
  refine cal_of Dfn sc_is_list (spF_len fun _ => rfl) fun f cdv A outer s H vs Q E hr h => ?_
  obtain ⟨G, ⟨k, ds⟩, g, r, _, q⟩ := h
  obtain ⟨v0, rfl, r1⟩ := rp1 r
  refine ⟨_, (pss_one (ps_ret (pe_callB (kisiT (K := K)) rfl B.isinstance (by decide +kernel) (pa_cons (pv 0) (pa_cons (pe_tup (pa_cons (pe_bltn (v := .ty "list") rfl B.list (by decide +kernel) rfl) (pa_cons (pe_bltn (v := .ty "tuple") rfl B.tuple (by decide +kernel) rfl) pa_nil))) pa_nil))))), ?_⟩
  exact b_ret (ev_isiT (ns := ["list", "tuple"]) (ev_var rfl r1) (noDict_sq k ds) (kits_sq k ds) (by decide)) g q
def spIsName : Sp := spF (τ := Hd) (fun h => [eH h]) (fun _ => True) (fun _ => .bool true)
def small : Str := "abcdefghijklmnopqrstuvwxyz"
def figs : Str := "0123456789"
theorem nm_len : ∀ h : Hd, (hname h).length ≤ 8 ∧ 1 ≤ (hname h).length := by decide +kernel
theorem nm_first : ∀ h : Hd, ∃ c, atI (hname h).cps.toList 0 = some c ∧ c ∈ small.cps.toList := fun h => by
  have : ∀ h : Hd, ((hname h).cps.toList[0]?.any fun c => decide (c ∈ small.cps.toList)) = true := by decide +kernel
  have h1 := this h
  cases q : (hname h).cps.toList[0]? with
  | none => rw [q] at h1; cases h1
  | some c =>
    rw [q] at h1
    refine ⟨c, ?_, of_decide_eq_true h1⟩
    unfold atI
    have hl : (hname h).cps.toList.length ≠ 0 := by
      intro e
      rw [List.getElem?_eq_none (by omega)] at q
      cases q
    have : ixN (hname h).cps.toList.length 0 = some 0 := by
      unfold ixN
      rw [if_pos (by decide), if_pos (by omega)]
      rfl
    rw [this]
    exact q
theorem nm_all : ∀ h : Hd, ((hname h).cps.toList.all fun c => decide (c ∈ small.cps.toList) || decide (c ∈ figs.cps.toList)) = true := by decide +kernel
theorem ok_is_name (Dfn : Df K mg "is_name" s_is_name ["thing"]) (B : Blt mg) : Cal P w K mg base 1 "is_name" ["thing"] spIsName := by
  refine cal_of Dfn sc_is_name (spF_len fun _ => rfl) fun f cdv A outer s H vs Q E hr h => ?_
  obtain ⟨G, h, g, r, _, q⟩ := h
  obtain ⟨v0, rfl, r1⟩ := rp1 r
  obtain ⟨l8, l1⟩ := nm_len h
  obtain ⟨c, hc, hs⟩ := nm_first h
  refine ⟨_, (pss_cons (ps_if (PW.pt (pw_or (pt_not (pt_val (pe_callB (kisi (K := K)) rfl B.isinstance (by decide +kernel) (pa_cons (pv 0) (pa_cons (pe_bltn (v := .ty "str") rfl B.str (by decide +kernel) rfl) pa_nil))))) (pw_or (pt_not (pt_chain op_le op_le pe_int (pe_callB call_len_str rfl B.len PySem.boot_len (pa_cons (pv 0) pa_nil)) pe_int)) (pw_or1 (pt_cmpR op_notIn_sign (pe_ix (kix (K := K)) (pv 0) pe_int (fun _ _ => rfl)) (pe_glob (v := .str "abcdefghijklmnopqrstuvwxyz") rfl B.small.choose_spec ⟨_, rfl⟩) rfl))))) (pss_one (ps_ret pe_bl)) pss_nil)
    (pss_one (ps_ret (pe_callB (kall (K := K) rfl) rfl B.all (by decide +kernel) (pa_cons (pe_lc (own := [("sign", 1)]) rfl sc_is_name.nd (pi_str (pv 0)) (blkOk_by (N := n_is_name) (sc := defScope s_is_name) (own := [("sign", 1)]) (by decide +kernel)) (fun _ _ _ _ _ => (pg_name (i := 1) sc_is_name.nd rfl (Or.inl rfl))) (fun _ _ _ _ _ => pts_nil) (fun _ _ _ _ _ => (pe_or (pe_cmpR op_in_sign (pv 1) (pe_glob (v := .str "abcdefghijklmnopqrstuvwxyz") rfl B.small.choose_spec ⟨_, rfl⟩) rfl) (pe_one (pe_cmpR op_in_sign (pv 1) (pe_glob (v := .str "0123456789") rfl B.figures.choose_spec ⟨_, rfl⟩) rfl))))) pa_nil))))), ?_⟩
  refine b_no (EvB.is (eb_or (a := false) (b := false) (EvB.is (eb_not (eb_B (ev_isi (n := "str") (b := true) (ev_var rfl r1) rfl (show kitB "str" "str" = some true by decide +kernel)))) rfl) fun _ => eb_or (a := false) (b := false) (EvB.is (eb_not (eb_le3 (j := ((hname h).length : Int)) ev_int ?_ ev_int)) ?_) fun _ => ?_) rfl) g fun H1 s1 => ?_
  · exact ev_cb (ea_one (ev_var rfl r1)) fun G1 vs r => fun G2 H2 a b Q kk => by
      obtain ⟨v, rfl, rv⟩ := rp1 r
      rw [Rp.str_eq rv]
      exact ⟨_, rfl, by rw [sizeLine_eq]; omega, kk _ G2 H2 (Gr.refl b) (.int _)⟩
  · simp; omega
  · refine eb_test (ev_op (d := .str ⟨#[c]⟩) (e := .str small) (f := .bool false) ?_ (ev_str) fun G1 x y rx ry => rv_flat (fun _ => .bl false) fun H1 s Q q => ⟨c, small, rx.str_eq, ry.str_eq, by rw [decide_eq_true hs]; exact q⟩)
    exact ev_op (ev_var rfl r1) ev_int fun G1 x y rx ry => rv_flat (fun _ => .str _) fun H1 s Q q => .inr (.inr ⟨hname h, 0, c, rx.str_eq, ry.int_eq, by rw [sizeLine_eq]; omega, hc, q⟩)
  · refine b_ret ((ev_all (bs := (hname h).cps.toList.map fun c => decide (c ∈ small.cps.toList) || decide (c ∈ figs.cps.toList)) ?_).is ?_) (g.trans s1) fun v G2 H2 g2 r2 => q v G2 H2 ((Gr.of g s1).trans g2) r2
    · rw [← map_bool]
      refine ev_lcm (bs := (hname h).cps.toList) (fun c => .str ⟨#[c]⟩) _ (ei_str (ev_var rfl r1)) (by rw [Array.length_toList]; show (hname h).length ≤ _; omega) fun c hc x G' s rx => tg_name ⟨rfl, ev_orV ?_ fun _ => ?_⟩
      · exact ev_op (d := .str ⟨#[c]⟩) (e := .str small) (ev_var rfl rx) ev_str fun G1 x y rx ry => rv_flat (fun _ => .bl _) fun H1 s Q q => ⟨c, small, rx.str_eq, ry.str_eq, q⟩
      · exact ev_op (d := .str ⟨#[c]⟩) (e := .str figs) (ev_var rfl rx) ev_str fun G1 x y rx ry => rv_flat (fun _ => .bl _) fun H1 s Q q => ⟨c, figs, rx.str_eq, ry.str_eq, q⟩
    · rw [List.all_map]
      have := nm_all h
      exact congrArg PyData.bool this
def spHandOf : Sp := spF (τ := Hd × List Hd) (fun x => [eH x.1, eL x.2]) (fun _ => True) (fun x => .bool (decide (x.1 ∈ x.2)))
theorem ok_is_hand_of (Dfn : Df K mg "is_hand_of" s_is_hand_of ["thing", "hands"]) (B : Blt mg) (c_is_name : Cal P w K mg base 1 "is_name" ["thing"] spIsName) : Cal P w K mg base 2 "is_hand_of" ["thing", "hands"] spHandOf := by
  refine cal_of Dfn sc_is_hand_of (spF_len fun _ => rfl) fun f cdv A outer s H vs Q E hr h => ?_
  obtain ⟨G, ⟨h, hs⟩, g, r, _, q⟩ := h
  obtain ⟨v0, v1, rfl, r1, r2⟩ := rp2 r
  refine ⟨_, (pss_one (ps_ret (pe_and (pe_cal c_is_name hr (pa_cons (pv 0) pa_nil)) (pe_one (pe_cmpR (kin (K := K) (hu65 hr)) (pv 0) (pv 1) rfl))))), ?_⟩
  exact b_ret ((ev_andV (a := true) (ev_call (ea := fun h => [eH h]) (er := fun _ => .bool true) h (ea_one (ev_var rfl r1)) trivial) fun _ => ev_inH (k := true) (ev_var rfl r1) (ev_var rfl r2)).is (by simp)) g q
theorem ev_handOf {σ : L2.St} {G : Hp} {t : TA} {h : Hd} {hs : List Hd} (a : EvA t σ G [eH h, eL hs]) : EvD (tCl spHandOf t) σ G (.bool (decide (h ∈ hs))) := ev_call (ea := fun x : Hd × List Hd => [eH x.1, eL x.2]) (er := fun x => .bool (decide (x.1 ∈ x.2))) (h, hs) a trivial
theorem ev_isList {σ : L2.St} {G : Hp} {t : TA} {k : Bool} {ds : List PyData} (a : EvA t σ G [sq k ds]) : EvD (tCl spIsList t) σ G (.bool true) := ev_call (ea := fun x : Bool × List PyData => [sq x.1 x.2]) (er := fun _ => .bool true) (k, ds) a trivial
end
end Bp

set_option Elab.async false
set_option linter.all false
set_option maxRecDepth 100000
set_option maxHeartbeats 1000001
namespace Bp
open PySem PySem.Spec L2 PyProof.Rows
/-! ### what Bands holds -/
structure Ban where
  hs : List Hd
  rs : List (Hd × Hd)
  gs : List (List Hd)
def eB (C : Addr) (b : Ban) : PyData := encB C (eL b.hs) (eLP b.rs) (eLT b.gs)
def spB (C : Addr) (ok : Ban → Prop) (er : Ban → PyData) : Sp := spF (τ := Ban) (fun b => [eB C b]) ok er
def nearB (b : Ban) (h : Hd) : List Hd := b.hs.filter fun o => !decide (o = h) && decide (pairS h o ∈ b.rs)
def spNearB (C : Addr) : Sp := spF (τ := Ban × Hd) (fun x => [eB C x.1, eH x.2]) (fun x => x.2 ∈ x.1.hs ∧ x.1.hs.length ≤ 1000) (fun x => eL (nearB x.1 x.2))
section
variable {P : Program} {w : World} {K : PySem.W.Frag} {mg : Str → Option Value} {base : Heap} {C : Addr}
section
variable {X : Cx} {σ : L2.St} {G : Hp} {ta tb : TE} {b : Ban}
theorem ev_f1 (Bd : Bnd K mg C) (h : EvD ta σ G (eB C b)) : EvD (tFld K ta "own_hands") σ G (eL b.hs) := ev_fld Bd Bd.n1 h fun h r g ag => ⟨h, bfs_1 h r g ag, fun _ a _ _ => a⟩
theorem ev_f2 (Bd : Bnd K mg C) (h : EvD ta σ G (eB C b)) : EvD (tFld K ta "own_roads") σ G (eLP b.rs) := ev_fld Bd Bd.n2 h fun h r g ag => ⟨r, bfs_2 h r g ag, fun _ _ a _ => a⟩
theorem ev_f3 (Bd : Bnd K mg C) (h : EvD ta σ G (eB C b)) : EvD (tFld K ta "own_greatest") σ G (eLT b.gs) := ev_fld Bd Bd.n3 h fun h r g ag => ⟨g, bfs_3 h r g ag, fun _ _ _ a => a⟩
theorem ev_mH {K : PySem.W.Frag} (h : EvD ta σ G (eB C b)) : EvD (tMe C "hands" (spB C (fun _ => True) fun b => eL b.hs) ta tNil) σ G (eL b.hs) :=
  ev_me (K := K) (ea := fun b => [eB C b]) (er := fun b => eL b.hs) b h ea_nil rfl trivial (bfs_no (by decide +kernel) (by decide +kernel) (by decide +kernel) (by decide +kernel))
theorem ev_mG {K : PySem.W.Frag} (h : EvD ta σ G (eB C b)) : EvD (tMe C "greatest" (spB C (fun _ => True) fun b => eLT b.gs) ta tNil) σ G (eLT b.gs) :=
  ev_me (K := K) (ea := fun b => [eB C b]) (er := fun b => eLT b.gs) b h ea_nil rfl trivial (bfs_no (by decide +kernel) (by decide +kernel) (by decide +kernel) (by decide +kernel))
theorem ev_mN {K : PySem.W.Frag} {h : Hd} (hb : EvD ta σ G (eB C b)) (hh : EvD tb σ G (eH h)) (hm : h ∈ b.hs) (hz : b.hs.length ≤ 1000) : EvD (tMe C "near" (spNearB C) ta (tCons tb tNil)) σ G (eL (nearB b h)) :=
  ev_me (K := K) (ea := fun x : Ban × Hd => [eB C x.1, eH x.2]) (er := fun x => eL (nearB x.1 x.2)) (b, h) hb (ea_one hh) rfl ⟨hm, hz⟩ (bfs_no (by decide +kernel) (by decide +kernel) (by decide +kernel) (by decide +kernel))
theorem ev_neH {a b : Hd} (ha : EvD ta σ G (eH a)) (hb : EvD tb σ G (eH b)) : EvD (tOp (rNeD K) ta tb) σ G (.bool (!decide (a = b))) :=
  (ev_ne ha hb (sh_eH (n := 0) a).shaped (sh_eH (n := 0) b).shaped).is (by rw [eqv_h])
end
theorem ok_hands (Dfn : Dm K C "hands" s_B_hands ["self"]) (B : Blt mg) (Bd : Bnd K mg C) : Cme P w K mg base C 1 "hands" ["self"] (spB C (fun _ => True) fun b => eL b.hs) := by
  refine cme_of Dfn sc_B_hands (spF_len fun _ => rfl) fun f cdv A outer s H vs Q E hr h => ?_
  obtain ⟨G, b, g, r, _, q⟩ := h
  obtain ⟨v0, rfl, r1⟩ := rp1 r
  refine ⟨_, (pss_one (ps_ret (pe_callTy (klist (K := K)) rfl B.list (by decide +kernel) (pa_cons (kfld (K := K) (pe_fld (pv 0) rfl)) pa_nil)))), ?_⟩
  exact b_ret (ev_list (k := true) (ds := b.hs.map eH) (ev_f1 Bd (ev_var rfl r1))) g q
theorem ok_greatestM (Dfn : Dm K C "greatest" s_B_greatest ["self"]) (B : Blt mg) (Bd : Bnd K mg C) : Cme P w K mg base C 1 "greatest" ["self"] (spB C (fun _ => True) fun b => eLT b.gs) := by
  refine cme_of Dfn sc_B_greatest (spF_len fun _ => rfl) fun f cdv A outer s H vs Q E hr h => ?_
  obtain ⟨G, b, g, r, _, q⟩ := h
  obtain ⟨v0, rfl, r1⟩ := rp1 r
  refine ⟨_, (pss_one (ps_ret (pe_callTy (klist (K := K)) rfl B.list (by decide +kernel) (pa_cons (kfld (K := K) (pe_fld (pv 0) rfl)) pa_nil)))), ?_⟩
  exact b_ret (ev_list (k := true) (ds := b.gs.map eT) (ev_f3 Bd (ev_var rfl r1))) g q
theorem ok_nearM (Dfn : Dm K C "near" s_B_near ["self", "hand"]) (B : Blt mg) (Bd : Bnd K mg C) (c_is_hand_of : Cal P w K mg base 2 "is_hand_of" ["thing", "hands"] spHandOf) : Cme P w K mg base C 3 "near" ["self", "hand"] (spNearB C) := by
  refine cme_of Dfn sc_B_near (spF_len fun _ => rfl) fun f cdv A outer s H vs Q E hr h => ?_
  obtain ⟨G, ⟨b, h⟩, g, r, ⟨hm, hz⟩, q⟩ := h
  obtain ⟨v0, v1, rfl, r1, r2⟩ := rp2 r
  simp only at hm hz
  refine ⟨_, (pss_cons (ps_if (pt_not (pt_val (pe_cal c_is_hand_of hr (pa_cons (pv 1) (pa_cons (kfld (K := K) (pe_fld (pv 0) rfl)) pa_nil))))) (pss_one ps_never) pss_nil)
    (pss_one (ps_ret (pe_lc (own := [("other", 2)]) rfl sc_B_near.nd (kseq (K := K) (kfld (K := K) (pe_fld (pv 0) rfl))) (blkOk_by (N := n_B_near) (sc := defScope s_B_near) (own := [("other", 2)]) (by decide +kernel)) (fun _ _ _ _ _ => (pg_name (i := 2) sc_B_near.nd rfl (Or.inl rfl))) (fun _ _ _ _ _ => (pts_one (PW.pt (pw_and (pt_cmpR (kne (K := K) hr.units) (pv 2) (pv 1) (nomark _)) (pw_and1 (pt_cmpR (kin (K := K) (hu65 hr)) (pe_callTy (ktuple (K := K)) rfl B.tuple (by decide +kernel) (pa_cons (pe_callB (ksorted (K := K) hr.units) rfl B.sorted (by decide +kernel) (pa_cons (pe_lst (pa_cons (pv 1) (pa_cons (pv 2) pa_nil))) pa_nil)) pa_nil)) (kfld (K := K) (pe_fld (pv 0) rfl)) rfl)))))) (fun _ _ _ _ _ => (pv 2)))))), ?_⟩
  refine b_no (EvB.is (eb_not (eb_B (ev_handOf (ea_two (ev_var rfl r2) (ev_f1 Bd (ev_var rfl r1)))))) (by simp [hm])) g fun H1 s1 => ?_
  refine b_ret (ev_lc (bs := b.hs) eH (fun o => !decide (o = h) && decide (pairS h o ∈ b.rs)) eH (ei_seq (k := true) (ev_f1 Bd (ev_var rfl r1))) (by omega) fun o ho x G' s rx => tg_name ⟨rfl, ?_, fun _ => ev_var rfl rx⟩) (g.trans s1) fun v G2 H2 g2 r2 => q v G2 H2 ((Gr.of g s1).trans g2) r2
  exact eb_and (eb_test (ev_neH (ev_var rfl rx) (ev_var rfl (r2.mono s)))) fun _ => eb_test (ev_inP (ev_pairS (ev_var rfl (r2.mono s)) (ev_var rfl rx)) (ev_f2 Bd (ev_var rfl (r1.mono s))))
/-! ### hand_pairs -/
theorem ok_hand_pairs (Dfn : Df K mg "hand_pairs" s_hand_pairs ["hands"]) (B : Blt mg) : Cal P w K mg base 1 "hand_pairs" ["hands"] spPairs := by
  refine cal_of Dfn sc_hand_pairs (spF_len fun _ => rfl) fun f cdv A outer s H vs Q E hr h => ?_
  obtain ⟨G, hs, g, r, hz, q⟩ := h
  obtain ⟨v0, rfl, r1⟩ := rp1 r
  refine ⟨_, (pss_one (ps_ret (pe_lc2 (own := [("at", 1), ("one", 2), ("other", 3)]) (vs1 := [3]) rfl sc_hand_pairs.nd (kenum (K := K) (pi_enum rfl B.enumerate (pa_cons (pv 0) pa_nil))) (blkOk_by (N := n_hand_pairs) (sc := defScope s_hand_pairs) (own := [("at", 1), ("one", 2), ("other", 3)]) (by decide +kernel)) (by decide) (fun _ _ _ _ _ => (kg_tup (K := K) (n := 2) (pg_tup rfl (pgs_cons (pg_name (i := 1) sc_hand_pairs.nd rfl (Or.inl rfl)) (pgs_cons (pg_name (i := 2) sc_hand_pairs.nd rfl (Or.inl rfl)) pgs_nil))))) (fun _ _ _ _ _ => pts_nil) (fun _ _ _ _ _ => (kseq (K := K) (pe_slice (ksl (K := K)) (pv 0) (po_some (pe_op op_add (pv 1) pe_int)) po_none))) (fun _ _ _ _ _ => (pg_name (i := 3) sc_hand_pairs.nd rfl (Or.inl rfl))) (fun _ _ _ _ _ => pts_nil) (fun _ _ _ _ _ => (pe_tup (pa_cons (pv 2) (pa_cons (pv 3) pa_nil))))))), ?_⟩
  refine b_ret (EvD.is (ev_lc2 (bs := hs.zipIdx) (eZ eH) (fun p => hs.drop (p.2 + 1)) (fun _ => eH) (fun p o => eP (p.1, o)) (ei_enumZ (ev_var rfl r1)) (by simpa using hz) (fun b _ => by simp; omega) fun p hp x G' s rx => ?_) ?_) g q
  · obtain ⟨a, j⟩ := p
    refine tg_pair rx fun va vb ra rb => ⟨rfl, ei_seq (k := true) (ev_drop (j := j + 1) (ev_var rfl (r1.mono s)) (EvD.is (ev_add (ev_var rfl ra) ev_int) (by simp))), fun o ho y G'' s' ry => tg_name ⟨rfl, ev_tup (ea_two (ev_var rfl (rb.mono s')) (ev_var rfl ry)) (by show 2 ≤ _; decide)⟩⟩
  · show _ = eLP (pairsZ hs)
    unfold pairsZ eLP
    rw [List.map_flatMap]
    simp only [List.map_map]
    rfl
/-! ### three_bands -/
def find3P (hs : List Hd) (l : List (List Hd)) : Option (List Hd × List Hd × List Hd) :=
  l.zipIdx.findSome? fun a => (l.drop a.2).zipIdx.findSome? fun b => (l.drop (a.2 + b.2)).findSome? fun c => if within hs (a.1 ++ b.1 ++ c) = true then some (a.1, b.1, c) else none
def BanOk (b : Ban) : Prop := b.hs.length ≤ 10 ∧ b.gs.length ≤ 1000 ∧ (∀ t ∈ b.gs, t.length ≤ 10)
theorem ev_within {σ : L2.St} {G : Hp} {t : TA} {k k' : Bool} {a b : List Hd} (h : EvA t σ G [eK k a, eK k' b]) (hz : a.length ≤ 1000000) : EvD (tCl spWithin t) σ G (.bool (within a b)) :=
  ev_call (ea := fun x : Bool × List Hd × Bool × List Hd => [eK x.1 x.2.1, eK x.2.2.1 x.2.2.2]) (er := fun x => .bool (within x.2.1 x.2.2.2)) (k, a, k', b) h hz
theorem ev_cat3 {σ : L2.St} {G : Hp} {ta tb tc : TE} {a b c : List Hd} (ha : EvD ta σ G (eT a)) (hb : EvD tb σ G (eT b)) (hc : EvD tc σ G (eT c)) (hl : a.length + b.length + c.length ≤ 1000) : EvD (tOp (rCatA K) (tOp (rCatA K) ta tb) tc) σ G (eT (a ++ b ++ c)) :=
  (ev_catT (ds := (a ++ b).map eH) (es := c.map eH) ((ev_catT (ds := a.map eH) (es := b.map eH) ha hb (by simp; omega)).is (by rw [List.map_append])) hc (by simp; omega)).is (by unfold eT; rw [List.map_append (l₁ := a ++ b)])
theorem ok_three_bands (Dfn : Df K mg "three_bands" s_three_bands ["bands"]) (B : Blt mg) (Bd : Bnd K mg C) (c_hands : Cme P w K mg base C 1 "hands" ["self"] (spB C (fun _ => True) fun b => eL b.hs))
    (c_greatest : Cme P w K mg base C 1 "greatest" ["self"] (spB C (fun _ => True) fun b => eLT b.gs)) (c_is_within : Cal P w K mg base 1 "is_within" ["one", "other"] spWithin) :
    Cal P w K mg base 2 "three_bands" ["bands"] (spB C BanOk fun b => eThree (find3P b.hs b.gs)) := by
  refine cal_of Dfn sc_three_bands (spF_len fun _ => rfl) fun f cdv A outer s H vs Q E hr h => ?_
  obtain ⟨G, n, g, r, hz, q⟩ := h
  obtain ⟨v0, rfl, r1⟩ := rp1 r
  obtain ⟨f_hands, F_hands0, F_hands, g_hands, b_hands⟩ := c_hands
  obtain ⟨f_greatest, F_greatest0, F_greatest, g_greatest, b_greatest⟩ := c_greatest
  obtain ⟨hz1, hz2, hz3⟩ := hz
  refine ⟨_, (pss_cons (ps_set (i := 1) sc_three_bands.nd rfl (Or.inl rfl) (kme (pe_meth0 (pv 0) Bd.cls g_greatest F_greatest (hr.mono (by decide)) b_greatest .nil pass0)))
    (pss_cons (ps_for PassesOwn.never rfl (kenum (K := K) (pi_enum rfl B.enumerate (pa_cons (pv 1) pa_nil))) (kg_tup (K := K) (n := 2) (pg_tup rfl (pgs_cons (pg_name (i := 2) sc_three_bands.nd rfl (Or.inl rfl)) (pgs_cons (pg_name (i := 3) sc_three_bands.nd rfl (Or.inl rfl)) pgs_nil))))
      (pss_one (ps_for PassesOwn.never rfl (kenum (K := K) (pi_enum rfl B.enumerate (pa_cons (pe_slice (ksl (K := K)) (pv 1) (po_some (pv 2)) po_none) pa_nil))) (kg_tup (K := K) (n := 2) (pg_tup rfl (pgs_cons (pg_name (i := 4) sc_three_bands.nd rfl (Or.inl rfl)) (pgs_cons (pg_name (i := 5) sc_three_bands.nd rfl (Or.inl rfl)) pgs_nil))))
      (pss_one (ps_for PassesOwn.never rfl (kseq (K := K) (pe_slice (ksl (K := K)) (pv 1) (po_some (pe_op op_add (pv 2) (pv 4))) po_none)) (pg_name (i := 6) sc_three_bands.nd rfl (Or.inl rfl))
      (pss_one (ps_if (pt_val (pe_cal c_is_within hr (pa_cons (kme (pe_meth0 (pv 0) Bd.cls g_hands F_hands (hr.mono (by decide)) b_hands .nil pass0)) (pa_cons (pe_op (kcatA (K := K)) (pe_op (kcatA (K := K)) (pv 3) (pv 5)) (pv 6)) pa_nil)))) (pss_one (ps_ret (pe_tup (pa_cons (pv 3) (pa_cons (pv 5) (pa_cons (pv 6) pa_nil)))))) pss_nil)))))))
    (pss_one (ps_ret pe_non)))), ?_⟩
  refine b_asg (ev_mG (K := K) (ev_var rfl r1)) g fun vb G1 H1 g1 rb => ?_
  obtain ⟨hs, rs, l⟩ := n
  simp only at hz1 hz2 hz3 q rb
  let f3 : List Hd × Nat → List Hd × Nat → List Hd → Option (List Hd × List Hd × List Hd) := fun a b c => if within hs (a.1 ++ b.1 ++ c) = true then some (a.1, b.1, c) else none
  let f2 : List Hd × Nat → List Hd × Nat → Option (List Hd × List Hd × List Hd) := fun a b => (l.drop (a.2 + b.2)).findSome? (f3 a b)
  let f1 : List Hd × Nat → Option (List Hd × List Hd × List Hd) := fun a => (l.drop a.2).zipIdx.findSome? (f2 a)
  have q' : ∀ v G' H', Gr G H G' H' → Rp G' v (eThree (l.zipIdx.findSome? f1)) → Q v H' := q
  refine b_for (bs := l.zipIdx) (eZ eT) (ei_enumZ (ev_var rfl rb)) g1.gh
    (fun i σ' G' H' => ∃ y2 y3 y4 y5 y6, σ' = [some v0, some vb, y2, y3, y4, y5, y6] ∧ Gr G H G' H' ∧ Same G1 G' ∧ (l.zipIdx.take i).findSome? f1 = none)
    (fun G2 H2 g2 => ⟨_, _, _, _, _, rfl, g1.trans g2, g2.gg, by simp⟩) (fun i σ' G' H' ⟨_, _, _, _, _, _, g', _⟩ => g'.gh) (fun i a x σ' G2 H2 G3 H3 hda ⟨y2, y3, y4, y5, y6, hσ, g2, s2, hna⟩ g3 rx => ?_) fun σ' G' H' ⟨_, _, _, _, _, hσ, g', _, hn⟩ => ?_
  · subst hσ
    obtain ⟨ta, ja⟩ := a
    obtain ⟨rfl, hma⟩ := zipIdx_get hda
    have ha6 := hz3 ta (List.mem_of_getElem? hma)
    refine tg_pair rx fun va1 va2 rva1 rva2 => ?_
    have g13 := g2.trans g3
    have s13 := s2.trans g3.gg
    refine b_for1 (bs := (l.drop ja).zipIdx) (eZ eT) (ei_enumZ (ev_drop (ev_var rfl (rb.mono s13)) (ev_var rfl rva1))) g13.gh
      (fun i σ' G' H' => ∃ y4 y5 y6, σ' = [some v0, some vb, some va1, some va2, y4, y5, y6] ∧ Gr G H G' H' ∧ Same G3 G' ∧ ((l.drop ja).zipIdx.take i).findSome? (f2 (ta, ja)) = none)
      (fun G2 H2 g2 => ⟨_, _, _, rfl, g13.trans g2, g2.gg, by simp⟩) (fun i σ' G' H' ⟨_, _, _, _, g', _⟩ => g'.gh) (fun i b x σ' G4 H4 G5 H5 hdb ⟨y4, y5, y6, hσ, g4, s4, hnb⟩ g5 rx => ?_) fun σ' G' H' ⟨_, _, _, hσ, g', s', hn⟩ => ?_
    · subst hσ
      obtain ⟨tb, jb⟩ := b
      obtain ⟨rfl, hmb⟩ := zipIdx_get hdb
      have hb6 := hz3 tb (List.mem_of_mem_drop (List.mem_of_getElem? hmb))
      refine tg_pair rx fun vb1 vb2 rvb1 rvb2 => ?_
      have g15 := g4.trans g5
      have s35 := s4.trans g5.gg
      refine b_for1 (bs := l.drop (ja + jb)) eT (ei_seq (k := true) (ev_drop (j := ja + jb) (ev_var rfl (rb.mono (s13.trans s35))) (EvD.is (ev_add (ev_var rfl (rva1.mono s35)) (ev_var rfl rvb1)) (by simp)))) g15.gh
        (fun i σ' G' H' => ∃ y6, σ' = [some v0, some vb, some va1, some va2, some vb1, some vb2, y6] ∧ Gr G H G' H' ∧ Same G5 G' ∧ ((l.drop (ja + jb)).take i).findSome? (f3 (ta, ja) (tb, jb)) = none)
        (fun G2 H2 g2 => ⟨_, rfl, g15.trans g2, g2.gg, by simp⟩) (fun i σ' G' H' ⟨_, _, g', _⟩ => g'.gh) (fun i tc x σ' G6 H6 G7 H7 hdc ⟨y6, hσ, g6, s6, hnc⟩ g7 rx => ?_) fun σ' G' H' ⟨_, hσ, g', s', hn⟩ => ?_
      · subst hσ
        have hc6 := hz3 tc (List.mem_of_mem_drop (List.mem_of_getElem? hdc))
        refine tg_name ?_
        have g17 := g6.trans g7
        have s57 := s6.trans g7.gg
        have ra2 := (rva2.mono s35).mono s57
        have rb2 := rvb2.mono s57
        refine b_if1 (eb_B (ev_within (k := true) (k' := false) (a := hs) (b := ta ++ tb ++ tc) (ea_two (ev_mH (K := K) (b := ⟨hs, rs, l⟩) (ev_var rfl (r1.mono g17.gg))) (ev_cat3 (ev_var rfl ra2) (ev_var rfl rb2) (ev_var rfl rx) (by omega))) (by omega))) g17.gh (fun hb H8 s8 => ?_) (fun hb H8 s8 => ?_)
        · refine b_ret (d := .tuple [eT ta, eT tb, eT tc]) (ev_tup (ea_cons (ev_var rfl ra2) (ea_two (ev_var rfl rb2) (ev_var rfl rx))) (by show 3 ≤ _; decide)) (g17.gh.trans s8) fun v G9 H9 g9 r9 => q' v G9 H9 ((g17.more s8).trans g9) ?_
          have e3 : f3 (ta, ja) (tb, jb) tc = some (ta, tb, tc) := if_pos hb
          have e2 : f2 (ta, ja) (tb, jb) = some (ta, tb, tc) := fs_some hdc hnc e3
          have e1 : f1 (ta, ja) = some (ta, tb, tc) := fs_some hdb hnb e2
          rw [fs_some hda hna e1]
          exact r9
        · have e3 : f3 (ta, ja) (tb, jb) tc = none := if_neg (by rw [hb]; exact Bool.false_ne_true)
          exact ⟨G7, g7.gg, _, rfl, g17.more s8, s57, fs_none hdc hnc e3⟩
      · subst hσ
        rw [List.take_length] at hn
        exact ⟨G', g5.gg.trans s', _, _, _, rfl, g', s35.trans s', fs_none hdb hnb hn⟩
    · subst hσ
      rw [List.take_length] at hn
      exact ⟨G', g3.gg.trans s', _, _, _, _, _, rfl, g', s13.trans s', fs_none hda hna hn⟩
  · subst hσ
    rw [List.take_length] at hn
    exact b_ret ev_non g'.gh fun v G6 H6 g6 r6 => q' v G6 H6 (g'.trans g6) (by rw [hn]; exact r6)
end
end Bp

set_option Elab.async false
set_option linter.all false
set_option maxRecDepth 100000
set_option maxHeartbeats 1000001
namespace Bp
open PySem PySem.Spec L2 PyProof.Rows
/-! ### {one: True for one in row}, the keys tuples -/
/-- the dict's pairs behind the first i keys -/
def dKeys (ks : List (List L2.Key)) : List (List L2.Key × V) := ks.foldl (fun m k => putK m k (.bl true)) []
def tDcT (K : PySem.W.Frag) (te : TE) : TE := fun σ H Q => te σ H fun v H1 => ∃ a xs ks, v = .ref a ∧ SqL K H1 a xs ∧ Paired (fun x k => ∃ b, x = V.ref b ∧ H1 b = some (.tup (List.map kV k))) xs ks ∧ xs.length < sizeLine ∧ ∀ D, H1 D = none → Q (.ref D) (upd H1 D (.dT (dKeys ks)))
theorem dKeys_len (ks : List (List L2.Key)) : (dKeys ks).length ≤ ks.length := by
  have : ∀ (ks : List (List L2.Key)) (m : List (List L2.Key × V)), (ks.foldl (fun m k => putK m k (.bl true)) m).length ≤ m.length + ks.length := by
    intro ks
    induction ks with
    | nil => intro m; simp
    | cons k r ih =>
      intro m
      have h1 := ih (putK m k (.bl true))
      have h2 := length_putK m k (.bl true)
      simp only [List.foldl_cons, List.length_cons]
      omega
  simpa [dKeys] using this ks []
theorem paired_at {α β : Type} {R : α → β → Prop} : ∀ {xs : List α} {ys : List β} {i : Nat} {x : α}, Paired R xs ys → xs[i]? = some x → ∃ y, ys[i]? = some y ∧ R x y
  | _, _, i, _, .nil, h => by simp at h
  | _, _, 0, _, .cons r _, h => by
    have h := Option.some.inj h
    subst h
    exact ⟨_, rfl, r⟩
  | _, _, i + 1, _, .cons _ t, h => paired_at (i := i) t h
theorem vals_at : ∀ {xs : List V} {us : List Value} {i : Nat} {u : Value}, Vals xs us → us[i]? = some u → ∃ x, xs[i]? = some x ∧ L2.RelV x u
  | _, _, i, _, .nil, h => by simp at h
  | _, _, 0, _, .cons r _, h => by
    have h := Option.some.inj h
    subst h
    exact ⟨_, rfl, r⟩
  | _, _, i + 1, _, .cons _ t, h => vals_at (i := i) t h
theorem paired_len {α β : Type} {R : α → β → Prop} : ∀ {xs : List α} {ys : List β}, Paired R xs ys → xs.length = ys.length
  | _, _, .nil => rfl
  | _, _, .cons _ t => congrArg (· + 1) (paired_len t)
theorem pe_dcT {X : Cx} {one : Str} {it : Expr} {te : TE} {scope : Scope} {pos p1 p2 p3 : Pos} {j : Nat} (hc : X.calm = true) (hu : X.A.units < cLine) (hi : PE X it te) (hn : ∀ y ∈ scope.names, y.2 = .local ∧ scope.names.lookup y.1 = some .local := by decide +kernel) (hn1 : scope.names.lookup one = some .local := by rfl) (hk : scope.kind = .function := by rfl) (hd : (one == ("__debug__" : Str)) = false := by decide)
    (hs : ∀ x, foldedSetIterable it X.env x = pure x := by intro _; rfl) : PE X (.DictComp (.Name one p1) (.Constant (.bool true) j p2) [⟨.Name one p3, it, [], 0⟩] scope pos) (tDcT X.K te) := by
  refine ⟨fun pins s σ H Q I h => ?_⟩
  have hloc : ∀ cl C, (compEnvC scope cl C X.env).kindOf one = some .local := fun cl C => by
    show (relabel scope X.env).names.lookup one = some .local
    unfold relabel
    exact lookup_relabel_local hn1
  refine DictComp_goes (cl := cloFrom X.env.cells scope.names []) (closure_ok fun y hy e => ?_) (fun y hy e => ?_) hk (fun y hy e => ?_) ?_ hs
  · rw [(hn y hy).1] at e; cases e
  · rw [(hn y hy).1] at e; cases e
  · exact (hn y hy).2
  refine thn (hi.run pins s σ H _ I h) fun xv s1 ⟨y, H1, I1, r1, a, xs, ks, ey, hl, hp, hz, q⟩ => ?_
  subst ey
  cases (show xv = Value.ref a from r1)
  obtain ⟨its, rv, pl, _⟩ := I1.list hl
  have lk := paired_len hp
  have lv := rv.length
  refine wpAny_pyIter_list pl.isList ?_
  generalize hI : s1.heap.objs.size = I0
  generalize hs2 : ({ s1 with heap := s1.heap.push _ } : Shared) = s2
  have I2 : Inv X pins σ H1 s2 := by rw [← hs2]; exact I1.kept (t' := s1.toks) fun b o e => Heap.get?_push_of_some _ e
  have sz2 : s2.heap.objs.size = I0 + 1 := by rw [← hs2, ← hI]; exact Heap.size_push _ _
  have aLt : a < I0 := by
    obtain ⟨o, ho, _⟩ := pl.isList
    exact hI ▸ Heap.lt_size ho
  have aI : a ≠ I0 := Nat.ne_of_lt aLt
  have I0Lt : I0 < s2.heap.objs.size := sz2 ▸ Nat.lt_succ_self _
  have st0 : s2.heap.IsListIter I0 a 0 ∧ s2.heap.IsList a its.toArray := by
    rw [← hs2, ← hI]
    exact ⟨⟨_, Heap.get?_push_size _ rfl, rfl, rfl⟩, pl.isList.push _⟩
  refine ⟨I0, [I0, a], [I0], its.toArray.size, fun i v _ => its.toArray[i]? = some v, fun i h => h.IsListIter I0 a i ∧ h.IsList a its.toArray, rfl, Goes.list (I1.ok.hd hc) I0 a aI its.toArray, st0, ?_⟩
  intro D C s3 ⟨⟨h3, tk3, e3⟩, old, hD, hC, hDC, ns⟩ hdict
  have hDn : H1 D = none := I2.hok.fresh hD
  have hCn : ∀ o, (upd H1 D o) C = none := fun o => by rw [upd_ne (Ne.symm hDC)]; exact I2.hok.fresh hC
  have ID : I0 ≠ D := Nat.ne_of_lt (Nat.lt_of_lt_of_le I0Lt hD)
  have IC : I0 ≠ C := Nat.ne_of_lt (Nat.lt_of_lt_of_le I0Lt hC)
  have hIn : ∀ o, (upd H1 D o) I0 = none := fun o => by rw [upd_ne ID]; exact I1.hok.fresh (Nat.le_of_eq hI)
  have fC : ∀ o, FpOk X pins (upd H1 D o) C := fun o => I2.fpOk hC (hCn o)
  have fI : ∀ o, FpOk X pins (upd H1 D o) I0 := fun o => I1.fpOk (Nat.le_of_eq hI) (hIn o)
  have aD : a ≠ D := Nat.ne_of_lt (Nat.lt_of_lt_of_le (Nat.lt_trans aLt I0Lt) hD)
  have aC : a ≠ C := Nat.ne_of_lt (Nat.lt_of_lt_of_le (Nat.lt_trans aLt I0Lt) hC)
  have I3 : Inv X pins σ (upd H1 D (.dT [])) s3 := by
    rw [e3] at old hdict ⊢
    exact I2.laid (t' := tk3) old hD ⟨Nat.zero_le _, beq_eq_false_iff_ne.mpr fun e => absurd (Nat.lt_of_lt_of_le I2.big hD) (by rw [e]; exact Nat.lt_irrefl _), [], .nil, _, #[], 0, hdict, ⟨rfl, rfl, rfl⟩, rfl, rfl, List.nodup_nil⟩
  refine ⟨fun i s' => (∃ m, s'.heap.Ns C m) ∧ Inv X pins σ (upd H1 D (.dT (dKeys (ks.take i)))) s', ⟨⟨_, ns⟩, I3⟩, ?_, ?_, ?_⟩
  · rintro i s' h' tk ⟨⟨m, hm⟩, I'⟩ keep _
    exact ⟨⟨m, hm.at fun o e => keep C o (by simp; exact Ne.symm IC) e⟩, I'.turnedL (t' := tk) (ch := [I0]) (fun b o hb e => keep b o hb e) fun b hb => by rw [List.mem_singleton] at hb; subst hb; exact fI _⟩
  · rintro i v s' hi hv st ⟨⟨m, hm⟩, I'⟩
    have hi' : i < its.length := by simpa using hi
    obtain ⟨x, hx, rx⟩ := vals_at rv (by simpa using hv)
    obtain ⟨k, hk', b, rfl, hb⟩ := paired_at hp hx
    cases (show v = Value.ref b from rx)
    have bD : b ≠ D := ne_of_none hb hDn
    refine wpAny_assign_Name (wpAny_storeName_local (hloc _ _) hm (fun h4 ns4 sb4 => ?_) ?_)
    · have I4 := I'.turnedL (t' := s'.toks + 1) (h' := h4) (ch := [C]) (fun b o hb e => (sb4.2 b (fun z => hb (List.mem_singleton.mpr z))).trans e) fun b hb => by rw [List.mem_singleton] at hb; subst hb; exact fC _
      refine wpAny_pure ?_
      simp only [if_true]
      refine wpAny_Name (wpAny_loadName_local hk (hloc _ _) ns4 (by simp; rfl) (Constant_bool ?_)) hd
      have hbT : (upd H1 D (.dT (dKeys (ks.take i)))) b = some (.tup (k.map kV)) := by rw [upd_ne bD]; exact hb
      obtain ⟨z, hsm, ys, rel, dd⟩ := dt_of I4.hok upd_same
      have hlt : (dKeys (ks.take i)).length ≤ i := Nat.le_trans (dKeys_len _) (by rw [List.length_take]; omega)
      have e1 : dKeys (ks.take (i + 1)) = putK (dKeys (ks.take i)) k (.bl true) := foldl_take _ [] hk'
      refine wpAny_dictSet_heap (hsz := by rw [← Paired.length rel]; exact z) hu (key_of I4.hok hbT) dd fun h5 dd5 sb5 => ?_
      obtain ⟨o5, es, ep, ho5, x2, x3, x4, _, x5⟩ := dd5
      refine ⟨⟨⟨_, Heap.Ns.sameBut ns4 sb5 (Ne.symm hDC)⟩, ?_⟩, ?_⟩
      · have w := d_write (t' := s'.toks + 1 + (tupleKind (mixKind X.prog X.w)).draws k) I4 (by rw [upd_same]; exact True.intro) sb5 ⟨o5, ho5⟩ (ob := .dT (dKeys (ks.take (i + 1)))) ⟨by have := dKeys_len (ks.take (i + 1)); rw [List.length_take] at this; omega, hsm, _, ?_, o5, es, ep, ho5, x2, x3, x4, x5⟩
        · rw [upd_upd] at w
          exact w
        · rw [e1]
          refine (rel.put k hbT (y := .bl true) rfl).keeps fun c ys ec => ?_
          rw [upd_ne (ne_of ec upd_same (fun z => nomatch z))]
          exact ec
      · obtain ⟨⟨oi, hoi, ri⟩, oa, hoa, ra⟩ := st
        exact ⟨⟨oi, (sb5.2 I0 ID).trans ((sb4.2 I0 IC).trans hoi), ri⟩, oa, (sb5.2 a aD).trans ((sb4.2 a aC).trans hoa), ra⟩
    · show (scope.kind == .class || (scope.kind == .module && _)) = false
      rw [hk]; rfl
  · rintro s' ⟨⟨m, hm⟩, I'⟩
    rw [List.take_of_length_le (by simp; omega)] at I'
    refine ⟨m, hm, fun h' sb => ⟨.ref D, _, I'.turnedL (t' := s'.toks) (ch := [C]) (fun b o hb e => (sb.2 b (fun z => hb (List.mem_singleton.mpr z))).trans e) (fun b hb => by rw [List.mem_singleton] at hb; subst hb; exact fC _), rfl, q D hDn⟩⟩
theorem kdcT {X : Cx} {K : PySem.W.Frag} {e : Expr} {te : TE} (h : PE X e (tDcT X.K te)) (hK : X.K = K := by rfl) : PE X e (tDcT K te) := hK ▸ h
theorem hu0 {A : Around} {k : Nat} (hr : Room k A) : A.units < cLine := by have := hr.un; omega
def rListT : List V → Hp → VK → Prop := fun xs H Q => ∃ d kvs, xs = [V.ref d] ∧ H d = some (.dT kvs) ∧ ∀ p bs, H p = none → IsKeys H kvs bs → Q (.ref p) (upd H p (.lst (bs.map V.ref)))
theorem klistT {X : Cx} (hc : X.calm = true) : CallR X (.type "list") rListT := fun pins s σ H xs us Q I r ⟨d, kvs, e, hd, q⟩ => call_list_dT hc pins s σ H xs us Q I r ⟨d, kvs, e, .inl hd, q⟩
/-! ### tuples become known -/
theorem GrM.knowT {M : Addr → Prop} {G H G' H' : Hp} (g : GrM M G H G' H') {p : Addr} {xs : List V} (s : H' p = some (.tup xs)) : ∃ G2, GrM M G H G2 H' ∧ Same G' G2 ∧ G2 p = some (.tup xs) := by
  cases e : G' p with
  | some o => exact ⟨G', g, Same.refl _, by have w := g.gh _ _ e; rw [s] at w; rw [e, Option.some.inj w]⟩
  | none =>
    refine ⟨_, ⟨fun a u ha => ?_, fun a u ha => ?_, g.hh, g.dom, fun a ha n => ?_, g.tup⟩, same_upd e, upd_same⟩
    · have e1 := g.gg a u ha
      rw [upd_ne (ne_of_none e1 e)]; exact e1
    · by_cases q : a = p
      · subst q; rw [upd_same] at ha; rw [s]; exact ha
      · rw [upd_ne q] at ha; exact g.gh a u ha
    · by_cases q : a = p
      · subst q; exact .inr ⟨xs, g.tup _ _ s n⟩
      · rw [upd_ne q]; exact g.new a ha n
def kH (h : Hd) : L2.Key := .inr (hname h)
def kT (t : List Hd) : List L2.Key := t.map kH
theorem kH_V (t : List Hd) : (kT t).map kV = (t.map hname).map V.str := by unfold kT; rw [List.map_map, List.map_map]; rfl
theorem hname_inj' : ∀ a b : Hd, hname a = hname b → a = b := fun a b h => hname_inj a b (by rw [h])
theorem kT_inj {s t : List Hd} (h : kT s = kT t) : s = t := by
  unfold kT at h
  exact List.map_inj_right (fun a b e => hname_inj' a b (Sum.inr.inj e)) |>.mp h
theorem eT_strs (t : List Hd) : t.map eH = (t.map hname).map PyData.str := by rw [List.map_map]; rfl
/-- the dict behind a row of different keys -/
theorem putK_map {β κ : Type} [DecidableEq β] [DecidableEq κ] (key : β → κ) (inj : ∀ a b, key a = key b → a = b) (acc : List β) (b : β) :
    putK (acc.map fun x => (key x, V.bl true)) (key b) (.bl true) = (putL acc b).map fun x => (key x, V.bl true) := by
  unfold putK putL
  have e : ((acc.map fun x => (key x, V.bl true)).any fun kv => decide (kv.1 = key b)) = decide (b ∈ acc) := by
    rw [List.any_map]
    by_cases h : b ∈ acc
    · rw [decide_eq_true h]
      exact List.any_eq_true.mpr ⟨b, h, by simp⟩
    · rw [decide_eq_false h]
      rw [List.any_eq_false]
      intro x hx
      simp only [Function.comp, decide_eq_true_eq]
      exact fun z => h (inj _ _ z ▸ hx)
  rw [e]
  by_cases h : b ∈ acc
  · rw [if_pos (decide_eq_true h), if_pos h, List.map_map]
    refine List.map_congr_left fun x hx => ?_
    simp only [Function.comp]
    split <;> rfl
  · rw [if_neg (by simpa using h), if_neg h, List.map_append]
    rfl
theorem foldK {β κ : Type} [DecidableEq β] [DecidableEq κ] (key : β → κ) (inj : ∀ a b, key a = key b → a = b) : ∀ (l acc : List β), (l.map key).foldl (fun m k => putK m k (V.bl true)) (acc.map fun x => (key x, V.bl true)) = (l.foldl putL acc).map fun x => (key x, V.bl true)
  | [], _ => rfl
  | b :: l, acc => by
    rw [List.map_cons, List.foldl_cons, putK_map key inj]
    exact foldK key inj l (putL acc b)
theorem dKeys_once (ts : List (List Hd)) : dKeys (ts.map kT) = (once ts).map fun t => (kT t, V.bl true) := foldK kT (fun _ _ => kT_inj) ts []
theorem keys_known {G H : Hp} : ∀ {ts : List (List Hd)} {bs : List Addr} {G0 H0 : Hp}, Gr G0 H0 G H → IsKeys H (ts.map fun t => (kT t, V.bl true)) bs → ∃ G', Gr G0 H0 G' H ∧ RpAll G' (bs.map V.ref) (ts.map eT)
  | [], _, G0, H0, g, h => by
    cases h
    exact ⟨G, g, .nil⟩
  | t :: ts, _, G0, H0, g, h => by
    cases h with
    | cons hb r =>
      obtain ⟨G1, g1, r1⟩ := keys_known g r
      obtain ⟨G2, g2, s2, e2⟩ := g1.knowT hb
      refine ⟨G2, g2, .cons (.tup e2 ?_) (r1.mono s2)⟩
      show RpAll G2 ((kT t).map kV) (t.map eH)
      rw [kH_V, eT_strs]
      exact RpAll.of_strs _
theorem keys_pair {H : Hp} {K : PySem.W.Frag} : ∀ {xs : List V} {ts : List (List Hd)} {G : Hp}, Same G H → RpAll G xs (ts.map eT) → Paired (fun x k => ∃ b, x = V.ref b ∧ H b = some (.tup (List.map kV k))) xs (ts.map kT)
  | [], [], _, _, _ => .nil
  | [], t :: ts, _, _, h => nomatch h
  | x :: xs, [], _, _, h => nomatch h
  | x :: xs, t :: ts, G, s, h => by
    have h : RpAll G (x :: xs) (eT t :: ts.map eT) := h
    cases h with
    | cons r h =>
      refine .cons ?_ (keys_pair (K := K) s h)
      obtain ⟨p, ys, rfl, hp, ry⟩ := Rp.tup_at r
      refine ⟨p, rfl, ?_⟩
      rw [eT_strs] at ry
      rw [kH_V, ← RpAll.strs ry]
      exact s _ _ hp
section
variable {K : PySem.W.Frag} {σ : L2.St} {G : Hp} {te : TE}
/-- list({one: True for one in sets}) -/
theorem ev_onceT {ts : List (List Hd)} (h : EvD te σ G (eLT ts)) (hz : ts.length ≤ 1000000) : EvD (tCB rListT (tCons (tDcT K te) tNil)) σ G (eLT (once ts)) := fun G1 H1 s1 s2 Q kk =>
  h G1 H1 s1 s2 _ fun v G2 H2 g2 r2 => by
    obtain ⟨a, xs, rfl, ha, r⟩ := r2.list_at
    refine ⟨a, xs, ts.map kT, rfl, sqL (g2.gh _ _ ha), keys_pair (K := K) g2.gh r, ?_, fun D hD => ?_⟩
    · rw [r.length, List.length_map, sizeLine_eq]; omega
    · refine ⟨D, _, rfl, upd_same, fun p bs hp hk => ?_⟩
      rw [dKeys_once] at hk
      have g3 : Gr G1 H1 G2 (upd H2 D (.dT (dKeys (ts.map kT)))) := g2.trans (Gr.lay g2.gh hD)
      rw [dKeys_once] at hp ⊢
      rw [dKeys_once] at g3
      obtain ⟨G3, g4, rk⟩ := keys_known g3 hk
      obtain ⟨gn, rn⟩ := new_lst g4.gh hp rk
      exact kk _ _ _ (g4.trans gn) rn
/-- list({hand: True for hand in row}) -/
theorem dK_once (l : List Hd) : (l.map kH).foldl (fun m k => putK m k (V.bl true)) [] = (once l).map fun t => (kH t, V.bl true) := foldK kH (fun a b e => hname_inj' a b (Sum.inr.inj e)) l []
theorem ev_dK {k : Bool} {l : List Hd} {j : Nat} {vs : List Nat} (h : EvD te σ G (eK k l)) (hz : l.length ≤ 1000000) (hw : ∀ x, wipe ((wipe σ vs).set j (some x)) vs = wipe σ vs) (hv : ∀ v, ((wipe σ vs).set j (some v))[j]? = some (some v)) :
    ∀ G1 H1, Same G G1 → Same G1 H1 → ∀ Q : VK, (∀ D G2 H2, Gr G1 H1 G2 H2 → G2 D = none → H2 D = some (.dK ((once l).map fun t => (kH t, V.bl true))) → Q (.ref D) H2) → tDc (iSeq K te) (gName j) tYes (tVar j) (tC (.bl true)) vs σ H1 Q := fun G1 H1 s1 s2 Q kk => by
  refine ei_seq (k := k) h G1 H1 s1 s2 _ fun J G2 H2 g2 dw D hD => ?_
  have en : (l.map eH).length = l.length := List.length_map _
  refine ⟨fun i m H => m = l.length - i ∧ i ≤ l.length ∧ ∃ G', Gr G1 H1 G' H ∧ Same G2 G' ∧ G' D = none ∧ H D = some (.dK ((once (l.take i)).map fun t => (kH t, V.bl true))), ⟨l.length, by simp, Nat.zero_le _, G2, g2.trans (Gr.lay g2.gh hD), Same.refl _, g2.gh.free hD, by rw [upd_same]; rfl⟩, ?_⟩
  rintro i m H ⟨rfl, hi, G', g', s', n', e'⟩
  by_cases hlt : i < l.length
  · obtain ⟨h0, hb0⟩ : ∃ h0, l[i]? = some h0 := ⟨l[i], List.getElem?_eq_getElem hlt⟩
    have hd : (l.map eH)[i]? = some (eH h0) := by rw [List.getElem?_map, hb0]; rfl
    refine .inr ⟨dw.goes i H (by rw [en]; exact hlt) (s'.trans g'.gh), fun H' => ∃ G', Gr G1 H1 G' H' ∧ Same G2 G' ∧ G' D = none ∧ H' D = some (.dK ((once (l.take (i + 1))).map fun t => (kH t, V.bl true))), fun H' p' => ⟨l.length - (i + 1), by omega, rfl, hlt, p'⟩, fun x H4 y => ?_⟩
    obtain ⟨G4, g4, r4⟩ := dw.yields i G' H x H4 _ hd s' g'.gh y
    have n4 : G4 D = none := g4.out n' e' fun _ z => nomatch z
    have e4 := g4.same _ _ e'
    have ll : (once (l.take i)).length ≤ i := Nat.le_trans (once_len _) (by rw [List.length_take]; omega)
    have ex : x = V.str (hname h0) := r4.str_eq
    refine ⟨hw x, yes_it ⟨x, hv x, _, kH h0, ex, e4, by rw [List.length_map, sizeLine_eq]; omega, G4, (g'.trans g4).mut (g2.dom D hD) n4, s'.trans g4.gg, n4, ?_⟩⟩
    rw [upd_same]
    rw [putK_map kH (fun a b e => hname_inj' a b (Sum.inr.inj e))]
    have : once (l.take (i + 1)) = putL (once (l.take i)) h0 := foldl_take putL [] hb0
    rw [this]
  · have e : i = l.length := by omega
    subst e
    refine .inl ⟨?_, ?_⟩
    · have := dw.stops H (s'.trans g'.gh)
      rw [en] at this
      exact this
    · rw [List.take_length] at e'
      exact kk D G' H g' n' e'
theorem ev_onceH {k : Bool} {l : List Hd} {j : Nat} {vs : List Nat} (h : EvD te σ G (eK k l)) (hz : l.length ≤ 1000000) (hw : ∀ x, wipe ((wipe σ vs).set j (some x)) vs = wipe σ vs) (hv : ∀ v, ((wipe σ vs).set j (some v))[j]? = some (some v)) :
    EvD (tCB rListD (tCons (tDc (iSeq K te) (gName j) tYes (tVar j) (tC (.bl true)) vs) tNil)) σ G (eL (once l)) := fun G1 H1 s1 s2 Q kk => by
  show tDc (iSeq K te) (gName j) tYes (tVar j) (tC (.bl true)) vs σ H1 (fun v H => rListD [v] H Q)
  exact ev_dK h hz hw hv G1 H1 s1 s2 _ fun D G2 H2 g2 n2 e2 => ⟨D, _, rfl, e2, fun q hq => by
    have e : ((once l).map fun t => (kH t, V.bl true)).map (fun kv => kV kv.1) = ((once l).map hname).map V.str := by rw [List.map_map, List.map_map]; rfl
    rw [e]
    obtain ⟨g, rr⟩ := new_lst g2.gh hq (ds := (once l).map eH) (by rw [eT_strs]; exact RpAll.of_strs _)
    exact kk _ _ _ (g2.trans g) rr⟩
theorem ev_lenOnce {k : Bool} {l : List Hd} {j : Nat} {vs : List Nat} (h : EvD te σ G (eK k l)) (hz : l.length ≤ 1000000) (hw : ∀ x, wipe ((wipe σ vs).set j (some x)) vs = wipe σ vs) (hv : ∀ v, ((wipe σ vs).set j (some v))[j]? = some (some v)) :
    EvD (tCB (fun xs H Q => ∃ a kvs, xs = [V.ref a] ∧ H a = some (.dK kvs) ∧ Q (.int kvs.length) H) (tCons (tDc (iSeq K te) (gName j) tYes (tVar j) (tC (.bl true)) vs) tNil)) σ G (.int ((once l).length : Int)) := fun G1 H1 s1 s2 Q kk => by
  show tDc (iSeq K te) (gName j) tYes (tVar j) (tC (.bl true)) vs σ H1 (fun v H => ∃ a kvs, [v] = [V.ref a] ∧ H a = some (.dK kvs) ∧ Q (.int kvs.length) H)
  exact ev_dK h hz hw hv G1 H1 s1 s2 _ fun D G2 H2 g2 n2 e2 => ⟨D, _, rfl, e2, by rw [List.length_map]; exact kk _ _ _ g2 (.int _)⟩
end
end Bp

set_option Elab.async false
set_option linter.all false
set_option maxRecDepth 100000
set_option maxHeartbeats 1000001
namespace Bp
open PySem PySem.Spec L2 PyProof.Rows
/-! ### reached -/
def stepR (b : Ban) (gone found : List Hd) : List Hd := found ++ sH (once (found.flatMap fun one => (nearB b one).filter fun o => !decide (o ∈ gone) && !decide (o ∈ found)))
def reachN (b : Ban) (gone : List Hd) (a : Hd) : Nat → List Hd
  | 0 => [a]
  | n + 1 => stepR b gone (reachN b gone a n)
def reachB (b : Ban) (a : Hd) (gone : List Hd) : List Hd := reachN b gone a b.hs.length
theorem once_nodup {β : Type} [DecidableEq β] (l : List β) : (once l).Nodup := by
  have : ∀ (l acc : List β), acc.Nodup → (l.foldl putL acc).Nodup := by
    intro l
    induction l with
    | nil => intro acc h; exact h
    | cons c r ih =>
      intro acc h
      refine ih _ ?_
      unfold putL
      split
      · exact h
      · rename_i hn
        rw [List.nodup_append]
        exact ⟨h, by simp, fun x hx y hy => by rw [List.mem_singleton] at hy; subst hy; rintro rfl; exact hn hx⟩
  exact this l [] List.nodup_nil
theorem sH_perm (l : List Hd) : (sH l).Perm l := List.mergeSort_perm _ _
theorem sH_mem {l : List Hd} {x : Hd} : x ∈ sH l ↔ x ∈ l := (sH_perm l).mem_iff
theorem nodup_le {β : Type} [DecidableEq β] : ∀ (l m : List β), l.Nodup → (∀ x ∈ l, x ∈ m) → l.length ≤ m.length
  | [], _, _, _ => by simp
  | x :: l, m, hn, h => by
    have hx := h x List.mem_cons_self
    rw [List.nodup_cons] at hn
    have h2 := nodup_le l (m.erase x) hn.2 fun y hy => (List.mem_erase_of_ne (by rintro rfl; exact hn.1 hy)).mpr (h y (List.mem_cons_of_mem _ hy))
    rw [List.length_erase_of_mem hx] at h2
    have : 0 < m.length := List.length_pos_of_mem hx
    simp only [List.length_cons]
    omega
theorem nearB_mem {b : Ban} {h o : Hd} : o ∈ nearB b h ↔ o ∈ b.hs ∧ o ≠ h ∧ pairS h o ∈ b.rs := by
  unfold nearB
  rw [List.mem_filter]
  simp
theorem stepR_mem {b : Ban} {gone found : List Hd} {o : Hd} : o ∈ stepR b gone found ↔ o ∈ found ∨ (o ∉ found ∧ o ∉ gone ∧ ∃ h ∈ found, o ∈ nearB b h) := by
  unfold stepR
  rw [List.mem_append, sH_mem, once_mem, List.mem_flatMap]
  constructor
  · rintro (h | ⟨x, hx, h⟩)
    · exact .inl h
    · rw [List.mem_filter] at h
      simp at h
      exact .inr ⟨h.2.2, h.2.1, x, hx, h.1⟩
  · rintro (h | ⟨h1, h2, x, hx, h⟩)
    · exact .inl h
    · exact .inr ⟨x, hx, by rw [List.mem_filter]; simp [h, h1, h2]⟩
theorem stepR_nodup {b : Ban} {gone found : List Hd} (h : found.Nodup) : (stepR b gone found).Nodup := by
  unfold stepR
  rw [List.nodup_append]
  refine ⟨h, (sH_perm _).nodup_iff.mpr (once_nodup _), fun x hx y hy => ?_⟩
  rintro rfl
  rw [sH_mem, once_mem, List.mem_flatMap] at hy
  obtain ⟨z, _, hy⟩ := hy
  rw [List.mem_filter] at hy
  simp [hx] at hy
theorem reachN_ok {b : Ban} {gone : List Hd} {a : Hd} (ha : a ∈ b.hs) : ∀ n, (reachN b gone a n).Nodup ∧ ∀ x ∈ reachN b gone a n, x ∈ b.hs
  | 0 => ⟨by simp [reachN], by simp [reachN]; exact ha⟩
  | n + 1 => by
    obtain ⟨h1, h2⟩ := reachN_ok (gone := gone) ha n
    refine ⟨stepR_nodup h1, fun x hx => ?_⟩
    rcases stepR_mem.mp hx with h | ⟨_, _, y, hy, h⟩
    · exact h2 x h
    · exact (nearB_mem.mp h).1
theorem reachN_len {b : Ban} {gone : List Hd} {a : Hd} (ha : a ∈ b.hs) (n : Nat) : (reachN b gone a n).length ≤ b.hs.length := nodup_le _ _ (reachN_ok ha n).1 (reachN_ok ha n).2
theorem nearB_len (b : Ban) (h : Hd) : (nearB b h).length ≤ b.hs.length := List.length_filter_le _ _
def spReached (C : Addr) : Sp := spF (τ := Ban × Hd × List Hd) (fun x => [eB C x.1, eH x.2.1, eT x.2.2]) (fun x => x.1.hs.length ≤ 100 ∧ x.2.1 ∈ x.1.hs) (fun x => eL (reachB x.1 x.2.1 x.2.2))
section
variable {P : Program} {w : World} {K : PySem.W.Frag} {mg : Str → Option Value} {base : Heap} {C : Addr}
theorem ok_reached (Dfn : Df K mg "reached" s_reached ["bands", "start", "gone"]) (B : Blt mg) (Bd : Bnd K mg C) (c_hands : Cme P w K mg base C 1 "hands" ["self"] (spB C (fun _ => True) fun b => eL b.hs))
    (c_near : Cme P w K mg base C 3 "near" ["self", "hand"] (spNearB C)) : Cal P w K mg base 4 "reached" ["bands", "start", "gone"] (spReached C) := by
  refine cal_of Dfn sc_reached (spF_len fun _ => rfl) fun f cdv A outer s H vs Q E hr h => ?_
  obtain ⟨G, ⟨b, a, gone⟩, g, r, hz, q⟩ := h
  obtain ⟨v0, v1, v2, rfl, r1, r2, r3⟩ := rp3 r
  obtain ⟨f_hands, F_hands0, F_hands, g_hands, b_hands⟩ := c_hands
  obtain ⟨f_near, F_near0, F_near, g_near, b_near⟩ := c_near
  simp only at hz
  obtain ⟨hz1, hm⟩ := hz
  have q : ∀ v G' H', Gr G H G' H' → Rp G' v (eL (reachN b gone a b.hs.length)) → Q v H' := q
  refine ⟨_, (pss_cons (ps_set (i := 3) sc_reached.nd rfl (Or.inr rfl) (pe_lst (pa_cons (pv 1) pa_nil)))
    (pss_cons (ps_for PassesOwn.never rfl (pi_range1 rfl B.range (pa_cons (pe_callB (klen (K := K)) rfl B.len PySem.boot_len (pa_cons (kme (pe_meth0 (pv 0) Bd.cls g_hands F_hands (hr.mono (by decide)) b_hands .nil pass0)) pa_nil)) pa_nil)) (pg_name (i := 4) sc_reached.nd rfl (Or.inl rfl))
      (pss_cons (ps_set (i := 5) sc_reached.nd rfl (Or.inl rfl) (pe_lst pa_nil))
    (pss_cons (ps_for PassesOwn.never rfl (kseq (K := K) (pv 3)) (pg_name (i := 6) sc_reached.nd rfl (Or.inl rfl))
      (pss_one (ps_expr (kbm (K := K) (pe_bm PySem.F.plainAttrs_list PySem.F.slot_list_extend PySem.F.type_list_extend mt_extend (pv 5) (pa_cons (pe_lc (own := [("other", 7)]) rfl sc_reached.nd (kseq (K := K) (kme (pe_meth (pv 0) Bd.cls g_near F_near (hr.mono (by decide)) b_near .nil pass0 (pa_cons (pv 6) pa_nil)))) (blkOk_by (N := n_reached) (sc := defScope s_reached) (own := [("other", 7)]) (by decide +kernel)) (fun _ _ _ _ _ => (pg_name (i := 7) sc_reached.nd rfl (Or.inl rfl))) (fun _ _ _ _ _ => (pts_one (PW.pt (pw_and (pt_cmpR (knin (K := K) (hu65 hr)) (pv 7) (pv 2) rfl) (pw_and1 (pt_cmpR (knin (K := K) (hu65 hr)) (pv 7) (pv 3) rfl)))))) (fun _ _ _ _ _ => (pv 7))) pa_nil))))))
    (pss_one (ps_set (i := 3) sc_reached.nd rfl (Or.inr rfl) (pe_op op_cat (pv 3) (pe_callB (ksorted (K := K) hr.units) rfl B.sorted (by decide +kernel) (pa_cons (pe_callTy (call_list_dK rfl) rfl B.list (by decide +kernel) (pa_cons (pe_dc (own := [("other", 7)]) rfl sc_reached.nd (kseq (K := K) (pv 5)) (blkOk_by (N := n_reached) (sc := defScope s_reached) (own := [("other", 7)]) (by decide +kernel)) (fun _ _ _ _ _ => (pg_name (i := 7) sc_reached.nd rfl (Or.inl rfl))) (fun _ _ _ _ _ => pts_nil) (fun _ _ _ _ _ => (pv 7)) (fun _ _ _ _ _ => pe_bl)) pa_nil)) pa_nil))))))))
    (pss_one (ps_ret (pv 3))))), ?_⟩
  refine b_asg (d := eL [a]) (ev_lst (ea_one (ev_var rfl r2)) (by show 1 ≤ _; decide)) g fun v3 G1 H1 g1 rf => ?_
  have hnl : (List.range b.hs.length).length = b.hs.length := List.length_range
  refine b_for (bs := List.range b.hs.length) (fun i => .int (i : Int)) (ei_range (n := b.hs.length) (ea_one ((ev_len (k := true) (ds := b.hs.map eH) (ev_mH (K := K) (ev_var rfl (r1.mono g1.gg)))).is (by rw [List.length_map]))) (by omega)) g1.gh
    (fun i σ' G' H' => ∃ v3 y4 y5 y6, σ' = [some v0, some v1, some v2, some v3, y4, y5, y6, none] ∧ Gr G H G' H' ∧ Rp G' v3 (eL (reachN b gone a i)))
    (fun G2 H2 g2 => ⟨v3, _, _, _, rfl, g1.trans g2, rf.mono g2.gg⟩) (fun i σ' G' H' ⟨_, _, _, _, _, g', _⟩ => g'.gh) (fun i _ x σ' G2 H2 G3 H3 _ ⟨v3, y4, y5, y6, hσ, g2, rf⟩ g3 rx => ?_) fun σ' G' H' ⟨v3, _, _, _, hσ, g', rf⟩ => ?_
  · subst hσ
    refine tg_name ?_
    have g13 := g2.trans g3
    have rf3 := rf.mono g3.gg
    obtain ⟨hnd, hsub⟩ := reachN_ok (b := b) (gone := gone) hm i
    have hlen := reachN_len (b := b) (gone := gone) hm i
    have es : reachN b gone a (i + 1) = stepR b gone (reachN b gone a i) := rfl
    generalize reachN b gone a i = found at *
    refine b_new g13 fun p hp L => ?_
    let F : Hd → List Hd := fun one => (nearB b one).filter fun o => !decide (o ∈ gone) && !decide (o ∈ found)
    have hF : ∀ o, (F o).length ≤ 100 := fun o => Nat.le_trans (List.length_filter_le _ _) (Nat.le_trans (nearB_len b o) hz1)
    have hpl : ∀ n, ((found.take n).flatMap F).length ≤ 100 * 100 := fun n => Nat.le_trans (flatMap_len F 100 _ fun o _ => hF o) (Nat.mul_le_mul_right _ (by rw [List.length_take]; omega))
    refine b_for (bs := found) eH (ei_seq (k := true) (ev_var rfl rf3)) L.gh (fun n σ' G' H' => ∃ y6, σ' = [some v0, some v1, some v2, some v3, some x, some (.ref p), y6, none] ∧ Same G3 G' ∧ Loc M0 G H G' H' p (((found.take n).flatMap F).map eH))
      (fun G1 H1 g1 => ⟨_, rfl, g1.gg, by simpa using L.step g1⟩) (fun n σ' G' H' ⟨_, _, _, L'⟩ => L'.gh) (fun n o x2 σ' G4 H4 G5 H5 hd ⟨y6, hσ, s4, L4⟩ g5 rx2 => ?_) fun σ' G' H' ⟨y6, hσ, s', L'⟩ => ?_
    · subst hσ
      refine tg_name ?_
      have L5 := L4.step g5
      have s35 := s4.trans g5.gg
      have ho : o ∈ b.hs := hsub o (List.mem_of_getElem? hd)
      refine ext1 (es := (F o).map eH) L5 rfl ?_ ?_ fun G6 H6 s6 g6 L6 => ⟨G6, g5.gg.trans s6, _, rfl, s35.trans s6, ?_⟩
      · refine ev_lc (bs := nearB b o) eH (fun o => !decide (o ∈ gone) && !decide (o ∈ found)) eH (ei_seq (k := true) (ev_mN (K := K) (ev_var rfl (r1.mono L5.gr.gg)) (ev_var rfl rx2) ho (by omega))) (by have := nearB_len b o; omega) fun c hc x3 G7 s7 r7 => tg_name ⟨rfl, ?_, fun _ => ev_var rfl r7⟩
        exact eb_and (eb_test (ev_ninH (k := false) (ev_var rfl r7) (ev_var rfl ((r3.mono L5.gr.gg).mono s7)))) fun _ => eb_test (ev_ninH (k := true) (ev_var rfl r7) (ev_var rfl ((rf3.mono s35).mono s7)))
      · rw [List.length_map, List.length_map]
        have := hpl n
        have := hF o
        omega
      · rw [flatMap_take F hd, List.map_append]
        exact L6
    · subst hσ
      rw [List.take_length] at L'
      obtain ⟨G6, g6, s6, r6⟩ := L'.know
      have h1 := hpl found.length
      rw [List.take_length] at h1
      have h2 := once_len (found.flatMap F)
      have h3 : (sH (once (found.flatMap F))).length ≤ 100 * 100 := by rw [sH_len]; omega
      refine b_asg1 (d := eL (found ++ sH (once (found.flatMap F)))) (EvD.is (ev_catL (ds := found.map eH) (es := (sH (once (found.flatMap F))).map eH) (ev_var rfl ((rf3.mono s').mono s6)) (ev_sortedH (k := true) (ev_onceH (k := true) (l := found.flatMap F) (ev_var rfl r6) (by omega) (fun _ => rfl) fun _ => rfl)) (by rw [List.length_map, List.length_map]; omega)) (by unfold eL; rw [List.map_append])) g6.gh fun v7 G7 H7 g7 r7 => ?_
      refine ⟨G7, ((g3.gg.trans s').trans s6).trans g7.gg, v7, _, _, _, rfl, g6.trans g7, ?_⟩
      rw [es]
      exact r7
  · subst hσ
    rw [hnl] at rf
    exact b_ret (ev_var rfl rf) g'.gh fun v G6 H6 g6 r6 => q v G6 H6 (g'.trans g6) r6
/-! ### parting_bands -/
def partP (b : Ban) (a c : Hd) : Option (List Hd × List Hd) := find2 (fun s t => !decide (c ∈ reachB b a (s ++ t))) (b.gs.map (minus a c))
def eTwo : Option (List Hd × List Hd) → PyData
  | none => .none
  | some x => .tuple [eT x.1, eT x.2]
def spParting (C : Addr) : Sp := spF (τ := Ban × Hd × Hd) (fun x => [eB C x.1, eH x.2.1, eH x.2.2]) (fun x => BanOk x.1 ∧ x.2.1 ∈ x.1.hs) (fun x => eTwo (partP x.1 x.2.1 x.2.2))
theorem ev_reached {σ : L2.St} {G : Hp} {t : TA} {b : Ban} {a : Hd} {gone : List Hd} (h : EvA t σ G [eB C b, eH a, eT gone]) (hz : b.hs.length ≤ 100) (ha : a ∈ b.hs) : EvD (tCl (spReached C) t) σ G (eL (reachB b a gone)) :=
  ev_call (ea := fun x : Ban × Hd × List Hd => [eB C x.1, eH x.2.1, eT x.2.2]) (er := fun x => eL (reachB x.1 x.2.1 x.2.2)) (b, a, gone) h ⟨hz, ha⟩
theorem ok_parting_bands (Dfn : Df K mg "parting_bands" s_parting_bands ["bands", "one", "other"]) (B : Blt mg) (Bd : Bnd K mg C) (c_greatest : Cme P w K mg base C 1 "greatest" ["self"] (spB C (fun _ => True) fun b => eLT b.gs))
    (c_reached : Cal P w K mg base 4 "reached" ["bands", "start", "gone"] (spReached C)) : Cal P w K mg base 5 "parting_bands" ["bands", "one", "other"] (spParting C) := by
  refine cal_of Dfn sc_parting_bands (spF_len fun _ => rfl) fun f cdv A outer s H vs Q E hr h => ?_
  obtain ⟨G, ⟨b, a, c⟩, g, r, hz, q⟩ := h
  obtain ⟨v0, v1, v2, rfl, r1, r2, r3⟩ := rp3 r
  obtain ⟨f_greatest, F_greatest0, F_greatest, g_greatest, b_greatest⟩ := c_greatest
  simp only at hz
  obtain ⟨⟨hz1, hz2, hz3⟩, hm⟩ := hz
  obtain ⟨l, hl⟩ : ∃ l, l = b.gs.map (minus a c) := ⟨_, rfl⟩
  let f3 : List Hd → List Hd → Option (List Hd × List Hd) := fun s t => if (!decide (c ∈ reachB b a (s ++ t))) = true then some (s, t) else none
  let f2 : List Hd × Nat → Option (List Hd × List Hd) := fun s => (l.drop s.2).findSome? (f3 s.1)
  have q : ∀ v G' H', Gr G H G' H' → Rp G' v (eTwo (find2 (fun s t => !decide (c ∈ reachB b a (s ++ t))) l)) → Q v H' := by rw [hl]; exact q
  have q : ∀ v G' H', Gr G H G' H' → Rp G' v (eTwo (l.zipIdx.findSome? f2)) → Q v H' := q
  have hlw : ∀ t ∈ l, t.length ≤ 10 := fun t ht => by
    rw [hl] at ht
    obtain ⟨u, hu, rfl⟩ := List.mem_map.mp ht
    exact Nat.le_trans (minus_w a c u) (hz3 u hu)
  refine ⟨_, (pss_cons (ps_setLc (i := 3) (own := [("band", 5)]) rfl sc_parting_bands.nd rfl rfl (sw_true rfl rfl rfl (by decide +kernel)) (kseq (K := K) (kme (pe_meth0 (pv 0) Bd.cls g_greatest F_greatest (hr.mono (by decide)) b_greatest .nil pass0))) (blkOk_by (N := n_parting_bands) (sc := defScope s_parting_bands) (own := [("band", 5)]) (by decide +kernel)) (fun _ _ _ _ _ => (pg_name (i := 5) sc_parting_bands.nd rfl (Or.inl rfl))) (fun _ _ _ _ _ => pts_nil) (fun _ _ _ _ _ => (pe_callTy (ktuple (K := K)) rfl B.tuple (by decide +kernel) (pa_cons (pe_lc (own := [("hand", 4)]) rfl sc_parting_bands.nd (kseq (K := K) (pv 5)) (blkOk_by (N := n_parting_bands) (sc := relS _ (defScope s_parting_bands)) (own := [("hand", 4)]) (by decide +kernel)) (fun _ _ _ _ _ => (pg_name (i := 4) sc_parting_bands.nd rfl (Or.inl rfl))) (fun _ _ _ _ _ => (pts_one (pt_cmpR (knin (K := K) (hu65 hr)) (pv 4) (pe_tup (pa_cons (pv 1) (pa_cons (pv 2) pa_nil))) rfl))) (fun _ _ _ _ _ => (pv 4))) pa_nil))))
    (pss_cons (ps_for PassesOwn.never rfl (kenum (K := K) (pi_enum rfl B.enumerate (pa_cons (pv 3) pa_nil))) (kg_tup (K := K) (n := 2) (pg_tup rfl (pgs_cons (pg_name (i := 6) sc_parting_bands.nd rfl (Or.inl rfl)) (pgs_cons (pg_name (i := 7) sc_parting_bands.nd rfl (Or.inl rfl)) pgs_nil))))
      (pss_one (ps_for PassesOwn.never rfl (kseq (K := K) (pe_slice (ksl (K := K)) (pv 3) (po_some (pv 6)) po_none)) (pg_name (i := 8) sc_parting_bands.nd rfl (Or.inl rfl))
      (pss_one (ps_if (pt_cmpR (knin (K := K) (hu65 hr)) (pv 2) (pe_cal c_reached hr (pa_cons (pv 0) (pa_cons (pv 1) (pa_cons (pe_op (kcatA (K := K)) (pv 7) (pv 8)) pa_nil)))) rfl) (pss_one (ps_ret (pe_tup (pa_cons (pv 7) (pa_cons (pv 8) pa_nil))))) pss_nil)))))
    (pss_one (ps_ret pe_non)))), ?_⟩
  refine b_asg (d := eLT l) (EvD.is (ev_lcm (bs := b.gs) eT (fun t => eT (minus a c t)) (ei_seq (k := true) (ev_mG (K := K) (ev_var rfl r1))) (by omega) fun t ht x G6 s6 r6 => tg_name ⟨rfl, ev_minus (K := K) (j := 4) (fun _ => rfl) (fun _ => rfl) (ev_var rfl r6) (by have := hz3 t ht; omega) (fun v G' s => ev_var rfl ((r2.mono s6).mono s)) (fun v G' s => ev_var rfl ((r3.mono s6).mono s))⟩) (by rw [hl]; unfold eLT; rw [List.map_map]; rfl)) g fun ve G1 H1 g1 re => ?_
  refine b_for (bs := l.zipIdx) (eZ eT) (ei_enumZ (ev_var rfl re)) g1.gh
    (fun i σ' G' H' => ∃ y6 y7 y8, σ' = [some v0, some v1, some v2, some ve, none, none, y6, y7, y8] ∧ Gr G H G' H' ∧ Same G1 G' ∧ (l.zipIdx.take i).findSome? f2 = none)
    (fun G2 H2 g2 => ⟨_, _, _, rfl, g1.trans g2, g2.gg, by simp⟩) (fun i σ' G' H' ⟨_, _, _, _, g', _⟩ => g'.gh) (fun i d x σ' G7 H7 G8 H8 hdc ⟨y7, y8, y9, hσ, g7, s7, hnc⟩ g8 rx => ?_) fun σ' G' H' ⟨_, _, _, hσ, g', s', hn⟩ => ?_
  · subst hσ
    obtain ⟨tc, jc⟩ := d
    obtain ⟨rfl, hmc⟩ := zipIdx_get hdc
    have hc6 := hlw tc (List.mem_of_getElem? hmc)
    refine tg_pair rx fun vc1 vc2 rc1 rc2 => ?_
    have g18 := g7.trans g8
    have s68 := s7.trans g8.gg
    refine b_for1 (bs := l.drop jc) eT (ei_seq (k := true) (ev_drop (ev_var rfl (re.mono s68)) (ev_var rfl rc1))) g18.gh
      (fun i σ' G' H' => ∃ y8, σ' = [some v0, some v1, some v2, some ve, none, none, some vc1, some vc2, y8] ∧ Gr G H G' H' ∧ Same G8 G' ∧ ((l.drop jc).take i).findSome? (f3 tc) = none)
      (fun G2 H2 g2 => ⟨_, rfl, g18.trans g2, g2.gg, by simp⟩) (fun i σ' G' H' ⟨_, _, g', _⟩ => g'.gh) (fun i e x σ' G9 H9 Ga Ha hde ⟨y9, hσ, g9, s9, hne⟩ ga rx => ?_) fun σ' G' H' ⟨_, hσ, g', s', hn⟩ => ?_
    · subst hσ
      refine tg_name ?_
      have he6 := hlw e (List.mem_of_mem_drop (List.mem_of_getElem? hde))
      have g1a := g9.trans ga
      have s8a := s9.trans ga.gg
      have rc2a := rc2.mono s8a
      have sG := g1a.gg
      refine b_if1 (eb_test (ev_ninH (k := true) (t := reachB b a (tc ++ e)) (ev_var rfl (r3.mono sG)) (ev_reached (ea_cons (ev_var rfl (r1.mono sG)) (ea_two (ev_var rfl (r2.mono sG)) (EvD.is (ev_catT (ds := tc.map eH) (es := e.map eH) (ev_var rfl rc2a) (ev_var rfl rx) (by simp; omega)) (by unfold eT; rw [List.map_append])))) (by omega) hm))) g1a.gh (fun hb2 Hb sb => ?_) (fun hb2 Hb sb => ?_)
      · refine b_ret (d := .tuple [eT tc, eT e]) (ev_tup (ea_two (ev_var rfl rc2a) (ev_var rfl rx)) (by show 2 ≤ _; decide)) (g1a.gh.trans sb) fun v G9 H9 g9 r9 => q v G9 H9 ((g1a.more sb).trans g9) ?_
        have e3 : f3 tc e = some (tc, e) := if_pos hb2
        have e2 : f2 (tc, jc) = some (tc, e) := fs_some hde hne e3
        rw [fs_some hdc hnc e2]
        exact r9
      · have e3 : f3 tc e = none := if_neg (by rw [hb2]; exact Bool.false_ne_true)
        exact ⟨Ga, ga.gg, _, rfl, g1a.more sb, s8a, fs_none hde hne e3⟩
    · subst hσ
      rw [List.take_length] at hn
      exact ⟨G', g8.gg.trans s', _, _, _, rfl, g', s68.trans s', fs_none hdc hnc hn⟩
  · subst hσ
    rw [List.take_length] at hn
    exact b_ret ev_non g'.gh fun v G6 H6 g6 r6 => q v G6 H6 (g'.trans g6) (by rw [hn]; exact r6)
/-! ### parted, sure_pairs -/
def partedP (b : Ban) : Option (Hd × Hd × List Hd × List Hd) := (pairsZ b.hs).findSome? fun p => (partP b p.1 p.2).map fun x => (p.1, p.2, x.1, x.2)
def sureP (b : Ban) : List (Hd × Hd) := (pairsZ b.hs).filter fun p => (partP b p.1 p.2).isNone
theorem pairsZ_fst {hs : List Hd} {p : Hd × Hd} (h : p ∈ pairsZ hs) : p.1 ∈ hs := by
  unfold pairsZ at h
  obtain ⟨⟨a, i⟩, ha, h⟩ := List.mem_flatMap.mp h
  obtain ⟨o, ho, rfl⟩ := List.mem_map.mp h
  obtain ⟨j, hj⟩ := List.getElem?_of_mem ha
  exact List.mem_of_getElem? (zipIdx_get hj).2
theorem pairsZ_len (hs : List Hd) : (pairsZ hs).length ≤ hs.length * hs.length := by
  unfold pairsZ
  refine Nat.le_trans (flatMap_len _ hs.length _ fun p _ => by simp) ?_
  rw [zipIdx_len]
  exact Nat.le_refl _
theorem ev_parting {σ : L2.St} {G : Hp} {t : TA} {b : Ban} {a c : Hd} (h : EvA t σ G [eB C b, eH a, eH c]) (hz : BanOk b) (ha : a ∈ b.hs) : EvD (tCl (spParting C) t) σ G (eTwo (partP b a c)) :=
  ev_call (ea := fun x : Ban × Hd × Hd => [eB C x.1, eH x.2.1, eH x.2.2]) (er := fun x => eTwo (partP x.1 x.2.1 x.2.2)) (b, a, c) h ⟨hz, ha⟩
theorem ev_handPairs {σ : L2.St} {G : Hp} {t : TA} {hs : List Hd} (h : EvA t σ G [eL hs]) (hz : hs.length ≤ 1000) : EvD (tCl spPairs t) σ G (eLP (pairsZ hs)) := ev_call (ea := fun hs => [eL hs]) (er := fun hs => eLP (pairsZ hs)) hs h hz
theorem ok_parted (Dfn : Df K mg "parted" s_parted ["bands"]) (B : Blt mg) (Bd : Bnd K mg C) (c_hands : Cme P w K mg base C 1 "hands" ["self"] (spB C (fun _ => True) fun b => eL b.hs))
    (c_hand_pairs : Cal P w K mg base 1 "hand_pairs" ["hands"] spPairs) (c_parting_bands : Cal P w K mg base 5 "parting_bands" ["bands", "one", "other"] (spParting C)) : Cal P w K mg base 6 "parted" ["bands"] (spB C BanOk fun b => eFour (partedP b)) := by
  refine cal_of Dfn sc_parted (spF_len fun _ => rfl) fun f cdv A outer s H vs Q E hr h => ?_
  obtain ⟨G, b, g, r, hz, q⟩ := h
  obtain ⟨v0, rfl, r1⟩ := rp1 r
  obtain ⟨f_hands, F_hands0, F_hands, g_hands, b_hands⟩ := c_hands
  let f1 : Hd × Hd → Option (Hd × Hd × List Hd × List Hd) := fun p => (partP b p.1 p.2).map fun x => (p.1, p.2, x.1, x.2)
  have q : ∀ v G' H', Gr G H G' H' → Rp G' v (eFour ((pairsZ b.hs).findSome? f1)) → Q v H' := q
  refine ⟨_, (pss_cons (ps_for PassesOwn.never rfl (kseq (K := K) (pe_cal c_hand_pairs hr (pa_cons (kme (pe_meth0 (pv 0) Bd.cls g_hands F_hands (hr.mono (by decide)) b_hands .nil pass0)) pa_nil))) (kg_tup (K := K) (n := 2) (pg_tup rfl (pgs_cons (pg_name (i := 1) sc_parted.nd rfl (Or.inl rfl)) (pgs_cons (pg_name (i := 2) sc_parted.nd rfl (Or.inl rfl)) pgs_nil))))
      (pss_cons (ps_set (i := 3) sc_parted.nd rfl (Or.inl rfl) (pe_cal c_parting_bands hr (pa_cons (pv 0) (pa_cons (pv 1) (pa_cons (pv 2) pa_nil)))))
    (pss_one (ps_if (pt_cmpR op_notN (pv 3) pe_non (nomark _)) (pss_one (ps_ret (pe_op (kcatA (K := K)) (pe_tup (pa_cons (pv 1) (pa_cons (pv 2) pa_nil))) (pv 3)))) pss_nil))))
    (pss_one (ps_ret pe_non))), ?_⟩
  refine b_for (bs := pairsZ b.hs) eP (ei_seq (k := true) (ev_handPairs (ea_one (ev_mH (K := K) (ev_var rfl r1))) (by have := hz.1; omega))) g
    (fun i σ' G' H' => ∃ y1 y2 y3, σ' = [some v0, y1, y2, y3] ∧ Gr G H G' H' ∧ ((pairsZ b.hs).take i).findSome? f1 = none)
    (fun G2 H2 g2 => ⟨_, _, _, rfl, g2, by simp⟩) (fun i σ' G' H' ⟨_, _, _, _, g', _⟩ => g'.gh) (fun i a x σ' G2 H2 G3 H3 hda ⟨y1, y2, y3, hσ, g2, hna⟩ g3 rx => ?_) fun σ' G' H' ⟨_, _, _, hσ, g', hn⟩ => ?_
  · subst hσ
    obtain ⟨a, c⟩ := a
    have hm : a ∈ b.hs := pairsZ_fst (List.mem_of_getElem? hda)
    refine tg_pair rx fun va vb ra rb => ?_
    have g13 := g2.trans g3
    refine b_asg (ev_parting (ea_cons (ev_var rfl (r1.mono g13.gg)) (ea_two (ev_var rfl ra) (ev_var rfl rb))) hz hm) g13.gh fun vp G4 H4 g4 rp => ?_
    have g14 := g13.trans g4
    refine b_if1 (EvB.is (eb_test (ev_notN (ev_var rfl rp))) (b := (partP b a c).isSome) (by show (!nonD (eTwo (partP b a c))) = _; cases partP b a c <;> rfl)) g14.gh (fun hb H5 s5 => ?_) (fun hb H5 s5 => ?_)
    · cases ep : partP b a c with
      | none => rw [ep] at hb; cases hb
      | some z =>
        have rp : Rp G4 vp (eTwo (partP b a c)) := rp
        rw [ep] at rp
        refine b_ret (d := .tuple [eH a, eH c, eT z.1, eT z.2]) (ev_catT (ds := [eH a, eH c]) (es := [eT z.1, eT z.2]) (ev_tup (ea_two (ev_var rfl (ra.mono g4.gg)) (ev_var rfl (rb.mono g4.gg))) (by show 2 ≤ _; decide)) (ev_var rfl rp) (by show 2 + 2 ≤ _; decide)) (g14.gh.trans s5) fun v G9 H9 g9 r9 => q v G9 H9 ((g14.more s5).trans g9) ?_
        have e1 : f1 (a, c) = some (a, c, z.1, z.2) := by show (partP b a c).map _ = _; rw [ep]; rfl
        rw [fs_some hda hna e1]
        exact r9
    · cases ep : partP b a c with
      | some z => rw [ep] at hb; cases hb
      | none =>
        have e1 : f1 (a, c) = none := by show (partP b a c).map _ = _; rw [ep]; rfl
        exact ⟨G4, (g3.trans g4).gg, _, _, _, rfl, g14.more s5, fs_none hda hna e1⟩
  · subst hσ
    rw [List.take_length] at hn
    exact b_ret ev_non g'.gh fun v G6 H6 g6 r6 => q v G6 H6 (g'.trans g6) (by rw [hn]; exact r6)
theorem ok_sure_pairs (Dfn : Df K mg "sure_pairs" s_sure_pairs ["bands"]) (B : Blt mg) (Bd : Bnd K mg C) (c_hands : Cme P w K mg base C 1 "hands" ["self"] (spB C (fun _ => True) fun b => eL b.hs))
    (c_hand_pairs : Cal P w K mg base 1 "hand_pairs" ["hands"] spPairs) (c_parting_bands : Cal P w K mg base 5 "parting_bands" ["bands", "one", "other"] (spParting C)) : Cal P w K mg base 6 "sure_pairs" ["bands"] (spB C BanOk fun b => eLP (sureP b)) := by
  refine cal_of Dfn sc_sure_pairs (spF_len fun _ => rfl) fun f cdv A outer s H vs Q E hr h => ?_
  obtain ⟨G, b, g, r, hz, q⟩ := h
  obtain ⟨v0, rfl, r1⟩ := rp1 r
  obtain ⟨f_hands, F_hands0, F_hands, g_hands, b_hands⟩ := c_hands
  have hl := pairsZ_len b.hs
  have hl2 : b.hs.length * b.hs.length ≤ 10 * 10 := Nat.mul_le_mul hz.1 hz.1
  refine ⟨_, (pss_one (ps_ret (pe_lc (own := [("one", 1), ("other", 2)]) rfl sc_sure_pairs.nd (kseq (K := K) (pe_cal c_hand_pairs hr (pa_cons (kme (pe_meth0 (pv 0) Bd.cls g_hands F_hands (hr.mono (by decide)) b_hands .nil pass0)) pa_nil))) (blkOk_by (N := n_sure_pairs) (sc := defScope s_sure_pairs) (own := [("one", 1), ("other", 2)]) (by decide +kernel)) (fun _ _ _ _ _ => (kg_tup (K := K) (n := 2) (pg_tup rfl (pgs_cons (pg_name (i := 1) sc_sure_pairs.nd rfl (Or.inl rfl)) (pgs_cons (pg_name (i := 2) sc_sure_pairs.nd rfl (Or.inl rfl)) pgs_nil))))) (fun _ _ _ _ _ => (pts_one (pt_cmpR op_isN (pe_cal c_parting_bands hr (pa_cons (pv 0) (pa_cons (pv 1) (pa_cons (pv 2) pa_nil)))) pe_non (nomark _)))) (fun _ _ _ _ _ => (pe_tup (pa_cons (pv 1) (pa_cons (pv 2) pa_nil))))))), ?_⟩
  refine b_ret (ev_lc (bs := pairsZ b.hs) eP (fun p => (partP b p.1 p.2).isNone) eP (ei_seq (k := true) (ev_handPairs (ea_one (ev_mH (K := K) (ev_var rfl r1))) (by have := hz.1; omega))) (by omega) fun p hp x G' s rx => ?_) g q
  obtain ⟨a, c⟩ := p
  refine tg_pair rx fun va vb ra rb => ⟨rfl, eb_test (EvD.is (ev_isN (ev_parting (ea_cons (ev_var rfl (r1.mono s)) (ea_two (ev_var rfl ra) (ev_var rfl rb))) hz (pairsZ_fst hp))) ?_), fun _ => ev_tup (ea_two (ev_var rfl ra) (ev_var rfl rb)) (by show 2 ≤ _; decide)⟩
  show PyData.bool (nonD (eTwo (partP b a c))) = PyData.bool (partP b a c).isNone
  cases partP b a c <;> rfl
end
end Bp

set_option Elab.async false
set_option linter.all false
set_option maxRecDepth 100000
set_option maxHeartbeats 1000001
namespace Bp
open PySem PySem.Spec L2 PyProof.Rows
/-! ### an object that is changed: what is known without it -/
def drop1 (G : Hp) (p : Addr) : Hp := fun a => if a = p then none else G a
theorem drop1_at {G : Hp} {p : Addr} : drop1 G p p = none := if_pos rfl
theorem drop1_ne {G : Hp} {p a : Addr} (h : a ≠ p) : drop1 G p a = G a := if_neg h
theorem drop1_same {G : Hp} {p : Addr} : Same (drop1 G p) G := fun a o e => by
  by_cases h : a = p
  · subst h; rw [drop1_at] at e; cases e
  · rw [drop1_ne h] at e; exact e
theorem drop_gr {M : Addr → Prop} {G H G2 H2 : Hp} {p : Addr} {o : HO} (n : G p = none) (g : GrM M (upd G p o) H G2 H2) : GrM M G H (drop1 G2 p) H2 := by
  refine ⟨fun a u e => ?_, drop1_same.trans g.gh, g.hh, g.dom, fun a e ha => ?_, g.tup⟩
  · have ne := ne_of_none e n
    rw [drop1_ne ne]
    exact g.gg a u (by rw [upd_ne ne]; exact e)
  · by_cases h : a = p
    · subst h; exact .inl drop1_at
    · rw [drop1_ne h]
      exact g.new a (by rw [upd_ne h]; exact e) ha
/-! plain data does not go through an instance -/
mutual
theorem Rp.off {G G' : Hp} {p C dx : Addr} {fs : List (Str × V)} (hp : G p = some (.ins C dx fs)) (s : ∀ a o, a ≠ p → G a = some o → G' a = some o) : ∀ {v : V} {d : PyData}, Rp G v d → d.canLay0 = true → Rp G' v d
  | _, _, .non, _ => .non
  | _, _, .bl b, _ => .bl b
  | _, _, .int i, _ => .int i
  | _, _, .str x, _ => .str x
  | _, _, .lst h a, c => .lst (s _ _ (ne_of h hp (fun z => nomatch z)) h) (RpAll.off hp s a (by simpa [PyData.canLay0] using c))
  | _, _, .tup h a, c => .tup (s _ _ (ne_of h hp (fun z => nomatch z)) h) (RpAll.off hp s a (by simpa [PyData.canLay0] using c))
  | _, _, .ins h a b c, q => absurd q (by simp [encB, PyData.canLay0])
theorem RpAll.off {G G' : Hp} {p C dx : Addr} {fs : List (Str × V)} (hp : G p = some (.ins C dx fs)) (s : ∀ a o, a ≠ p → G a = some o → G' a = some o) : ∀ {vs : List V} {ds : List PyData}, RpAll G vs ds → PyData.canLayAll0 ds = true → RpAll G' vs ds
  | _, _, .nil, _ => .nil
  | _, _, .cons a b, c => by
    simp only [PyData.canLayAll0, Bool.and_eq_true] at c
    exact .cons (Rp.off hp s a c.1) (RpAll.off hp s b c.2)
end
theorem putF_twice (f : Str) (x y : V) : ∀ fs : List (Str × V), putF f x (putF f y fs) = putF f x fs
  | [] => by simp [putF]
  | (g, z) :: r => by
    by_cases h : g = f
    · simp [putF, h]
    · simp [putF, h, putF_twice f x y r]
theorem bfs_put (h r g ag x : V) : putF "own_agree" x (bfs h r g ag) = bfs h r g x := putF_twice _ _ _ _
def agreeP (b : Ban) : Bool := (find3P b.hs b.gs).isNone && (partedP b).isNone
def spAgree (C : Addr) : Sp := fun vs H Q _ => ∃ (G : Hp) (p dx : Addr) (h r g ag : V) (b : Ban), vs = [.ref p] ∧ Same G H ∧ G p = none ∧ H p = some (.ins C dx (bfs h r g ag)) ∧ Rp G h (eL b.hs) ∧ Rp G r (eLP b.rs) ∧ Rp G g (eLT b.gs) ∧ BanOk b ∧ (ag = .non ∨ ag = .bl (agreeP b)) ∧
  ∀ G' H', GrM (fun a => a = p) G H G' H' → G' p = none → H' p = some (.ins C dx (bfs h r g (.bl (agreeP b)))) → Q (.bl (agreeP b)) H'
section
variable {P : Program} {w : World} {K : PySem.W.Frag} {mg : Str → Option Value} {base : Heap} {C : Addr}
theorem ev_fldAt {σ : L2.St} {G : Hp} {i : Nat} {p dx : Addr} {h r g ag : V} {d : PyData} (Bd : Bnd K mg C) (hσ : σ[i]? = some (some (.ref p))) (hp : G p = some (.ins C dx (bfs h r g ag))) (rd : Rp G ag d) : EvD (tFld K (tVar i) "own_agree") σ G d := fun G1 H1 s1 s2 Q k =>
  ⟨_, hσ, p, C, dx, _, ag, rfl, s2 _ _ (s1 _ _ hp), Bd.cls, Bd.n4, bfs_4 _ _ _ _, k ag G1 H1 (Gr.refl s2) (rd.mono s1)⟩
theorem ev_isB {σ : L2.St} {G : Hp} {t : TA} {ok : Ban → Prop} {er : Ban → PyData} {b : Ban} (h : EvA t σ G [eB C b]) (hb : ok b) : EvD (tCl (spB C ok er) t) σ G (er b) := ev_call (ea := fun b => [eB C b]) (er := er) b h hb
theorem ok_bands_agree (Dfn : Df K mg "bands_agree" s_bands_agree ["bands"]) (B : Blt mg) (Bd : Bnd K mg C) (c_three_bands : Cal P w K mg base 2 "three_bands" ["bands"] (spB C BanOk fun b => eThree (find3P b.hs b.gs)))
    (c_parted : Cal P w K mg base 6 "parted" ["bands"] (spB C BanOk fun b => eFour (partedP b))) : Cal P w K mg base 7 "bands_agree" ["bands"] (spAgree C) := by
  refine cal_of Dfn sc_bands_agree (fun vs H Q E h => by obtain ⟨G, p, dx, h, r, g, ag, b, rfl, _⟩ := h; rfl) fun f cdv A outer s H vs Q E hr h => ?_
  obtain ⟨G, p, dx, h, r, g, ag, b, rfl, gs, np, hp, rh, rr, rg, hz, hag, q⟩ := h
  have s1 : Same G (upd G p (.ins C dx (bfs h r g ag))) := same_upd np
  have s2 : Same (upd G p (.ins C dx (bfs h r g ag))) H := fun a o e => by
    by_cases z : a = p
    · subst z; rw [upd_same] at e; rw [hp]; exact e
    · rw [upd_ne z] at e; exact gs a o e
  refine ⟨_, (pss_cons (ps_if (pt_cmpR op_isN (kfld (K := K) (pe_fld (pv 0) rfl)) pe_non (nomark _)) (pss_one (ps_fld (pv 0) (pe_and (pe_cmpR op_isN (pe_cal c_three_bands hr (pa_cons (pv 0) pa_nil)) pe_non (nomark _)) (pe_one (pe_cmpR op_isN (pe_cal c_parted hr (pa_cons (pv 0) pa_nil)) pe_non (nomark _)))) rfl)) pss_nil)
    (pss_one (ps_ret (kfld (K := K) (pe_fld (pv 0) rfl))))), ?_⟩
  have rp : Rp (upd G p (.ins C dx (bfs h r g ag))) (.ref p) (eB C b) := .ins upd_same (rh.mono s1) (rr.mono s1) (rg.mono s1)
  rcases hag with rfl | rfl
  · refine b_if (b := true) (EvB.is (eb_test (ev_isN (d := .none) (ev_fldAt Bd rfl upd_same .non))) rfl) s2 (fun _ H1 s3 => ?_) fun z => nomatch z
    have ev : EvD _ _ _ (.bool (agreeP b)) := ev_andV (a := (find3P b.hs b.gs).isNone) (b := (partedP b).isNone) (EvD.is (ev_isN (ev_isB (ok := BanOk) (er := fun b => eThree (find3P b.hs b.gs)) (t := tCons (tVar 0) tNil) (ea_one (ev_var (σ := L2.start n_bands_agree [.ref p]) rfl rp)) hz)) (by show PyData.bool (nonD (eThree (find3P b.hs b.gs))) = _; cases find3P b.hs b.gs <;> rfl)) fun _ => EvD.is (ev_isN (ev_isB (ok := BanOk) (er := fun b => eFour (partedP b)) (t := tCons (tVar 0) tNil) (ea_one (ev_var rfl rp)) hz)) (by show PyData.bool (nonD (eFour (partedP b))) = _; cases partedP b <;> rfl)
    refine ev _ H1 (Same.refl _) (s2.trans s3) _ fun v G2 H2 g2 r2 => ?_
    have e2 : H2 p = some (.ins C dx (bfs h r g .non)) := g2.same _ _ (s3 _ _ hp)
    have gD : GrM (fun a => a = p) G H (drop1 G2 p) H2 := Gr.toM (drop_gr np ((Gr.of s2 s3).trans g2))
    refine ⟨_, rfl, p, C, dx, _, rfl, e2, Bd.cls, Bd.n4, by show 4 < 1000; decide, ?_⟩
    rw [bfs_put, r2.bl_eq]
    have gE := gD.mutM (o := .ins C dx (bfs h r g (.bl (agreeP b)))) (.inl ⟨rfl, fun _ z => nomatch z⟩) drop1_at
    exact ⟨_, rfl, p, C, dx, _, _, rfl, upd_same, Bd.cls, Bd.n4, bfs_4 _ _ _ _, q _ _ gE drop1_at upd_same⟩
  · refine b_if (b := false) (EvB.is (eb_test (ev_isN (d := .bool (agreeP b)) (ev_fldAt Bd rfl upd_same (.bl _)))) rfl) s2 (fun z => nomatch z) fun _ H1 s3 => ?_
    exact ⟨_, rfl, p, C, dx, _, _, rfl, s3 _ _ hp, Bd.cls, Bd.n4, bfs_4 _ _ _ _, q G H1 (Gr.toM (Gr.of gs s3)) np (s3 _ _ hp)⟩
end
end Bp

set_option Elab.async false
set_option linter.all false
set_option maxRecDepth 100000
set_option maxHeartbeats 1000001
namespace Bp
open PySem PySem.Spec L2 PyProof.Rows LamX
/-! ### sorted(row, key=lambda one: (len(one), one)) -/
/-- the lambda's object, told of the heap -/
def LamO (f c' : Addr) (q : Str) (params : Arguments) (body : Expr) (scope : Scope) : HO := .ext fun h => ∃ pm ctv, h.get? f = some (PySem.W.kla_obj "<lambda>" q params body scope [] pm c' ctv)
/-- what the making of a lambda does to the table and the code objects -/
def TabStep (P : Addr) (q : Str) (H H1 : Hp) : Prop := H1 = H ∨ ∃ ps c', H c' = none ∧ H1 = upd (upd H P (.tbl ps)) c' (CodeO c' q)
def tLamF (P : Addr) (q : Str) (params : Arguments) (body : Expr) (scope : Scope) : TE := fun σ H Q => TabS H P q ∧ ∀ H1 f c', TabStep P q H H1 → TabS H1 P q → H1 f = none → H1 c' = some (CodeO c' q) → Q (.ref f) (upd H1 f (LamO f c' q params body scope))
theorem no_free {cells : List (Str × Addr)} : ∀ {names : List (Str × NameKind)}, (∀ y ∈ names, y.2 ≠ .free) → ∀ acc, cloFrom cells names acc = acc
  | [], _, acc => rfl
  | (n, k) :: r, h, acc => by
    have h1 := h (n, k) List.mem_cons_self
    have ih := no_free (cells := cells) (names := r) (fun y hy => h y (List.mem_cons_of_mem _ hy)) acc
    cases k <;> first | exact ih | exact absurd rfl h1
section
variable {X : Cx} {params : Arguments} {body : Expr} {scope : Scope} {c P : Addr}
theorem pe_lamF {lpos : Pos} (TB : TabB X.base X.mg c P) (hcode : X.env.code = .ref c) (hdef : defaultsOf params X.env = ([], [])) (hfree : ∀ y ∈ scope.names, y.2 ≠ .free) :
    PE X (.Lambda params body scope lpos) (tLamF P (X.env.qual ++ "<lambda>") params body scope) := by
  refine ⟨fun pins s σ H Q I ⟨⟨ps, hP, ht, ha⟩, h⟩ => ?_⟩
  refine PySem.W.kla_eval hdef ?_
  have hP' : s.heap.get? P = some { cls := .none, data := .fields ps } := I.hok P _ hP
  have clo : cloFrom X.env.cells scope.names [] = [] := no_free hfree []
  have hcl : closureFor scope X.env = pure [] := by
    rw [← clo]
    exact closure_ok fun y hy e => absurd e (hfree y hy)
  cases hc : codeAmong lpos ps.toList with
  | none =>
    refine PySem.W.kla_makeFunction (mg := X.mg) (c := c) (P := P) (ps := ps) hcl I.ok.glob (I.mod.glob.keeps I.bk) hcode (TB.code.keeps I.bk) hP' ht hc TB.gP (TB.bm.keeps I.bk) fun c' ctv h' tk hx hge hlt ⟨c2, oc, vs, t, e2, hoc, hd, hv⟩ htb => ?_
    cases e2
    have nC : H c' = none := I.hok.fresh hge
    have nPc : P ≠ c' := ne_of_none hP nC
    have I1 := inv_table (t' := tk) (more := #[rawInt lpos.line, rawInt lpos.col, .ref c']) (q := X.env.qual ++ "<lambda>") (h' := h') I hP hx htb hge ⟨oc, vs, t, hoc, hd, hv⟩
    have I2 := I1.laid (t' := tk) (a := h'.objs.size) (o := LamO h'.objs.size c' (X.env.qual ++ "<lambda>") params body scope) (h' := h'.push (PySem.W.kla_obj "<lambda>" (X.env.qual ++ "<lambda>") params body scope [] ((X.mg "__name__").getD .none) c' ctv)) (fun b o e => Heap.get?_push_of_some _ e) (Nat.le_refl _)
      ⟨⟨_, ctv, Heap.get?_push_size _ rfl⟩, ⟨_, Heap.get?_push_size _ rfl⟩, fun h1 h2 ⟨pm, ct, e⟩ st => ⟨pm, ct, st _ e⟩⟩
    have eL : (ps ++ #[rawInt lpos.line, rawInt lpos.col, .ref c']).toList = ps.toList ++ [rawInt lpos.line, rawInt lpos.col, .ref c'] := by simp
    refine ⟨.ref h'.objs.size, _, I2, rfl, h _ _ c' (.inr ⟨_, c', nC, rfl⟩) ⟨_, by rw [upd_ne nPc, upd_same], by rw [eL]; exact PySem.TriplesOk_snoc _ _ _ _ ht, fun p' cv hcv => ?_⟩ (I1.hok.fresh (Nat.le_refl _)) upd_same⟩
    rw [eL] at hcv
    rcases among_app _ ht hcv with z | z
    · obtain ⟨c0, e1, e3⟩ := ha p' cv z
      have n0 : c0 ≠ c' := ne_of_none e3 nC
      have nP : c0 ≠ P := ne_of e3 hP (codeO_ne ps)
      exact ⟨c0, e1, by rw [upd_ne n0, upd_ne nP]; exact e3⟩
    · exact ⟨c', z, upd_same⟩
  | some cv =>
    obtain ⟨c', e, hco⟩ := ha lpos cv hc
    subst e
    refine PySem.W.kla_makeFunctionHit (mg := X.mg) (c := c) (P := P) (ps := ps) hcl I.ok.glob (I.mod.glob.keeps I.bk) hcode (TB.code.keeps I.bk) hP' ht hc (TB.bm.keeps I.bk) fun ctv h' tk hx hsz => ?_
    have I2 := I.laid (t' := tk) (a := h'.objs.size) (o := LamO h'.objs.size c' (X.env.qual ++ "<lambda>") params body scope) (h' := h'.push (PySem.W.kla_obj "<lambda>" (X.env.qual ++ "<lambda>") params body scope [] ((X.mg "__name__").getD .none) c' ctv)) (fun b o e => Heap.get?_push_of_some _ (hx b o e)) hsz
      ⟨⟨_, ctv, Heap.get?_push_size _ rfl⟩, ⟨_, Heap.get?_push_size _ rfl⟩, fun h1 h2 ⟨pm, ct, e⟩ st => ⟨pm, ct, st _ e⟩⟩
    exact ⟨.ref h'.objs.size, _, I2, rfl, h H _ c' (.inl rfl) ⟨ps, hP, ht, ha⟩ (I.hok.fresh hsz) hco⟩
/-- (len(one), one), the lambda's own body -/
theorem lam_body {prog : Program} {w : World} {A : Around} {E : Value → Shared → Prop} {s : Shared} {q one : Str} {L f : Addr} {cv : Value} {scope : Scope} {p1 p2 p3 p4 p5 : Pos} {x1 : Nat} {mg mb : Str → Option Value} {T : Addr} {items : Array Value} {Q : Value → Shared → Prop}
    (hk : scope.kind = .function) (h1 : scope.names.lookup one = some .local) (h2 : scope.names.lookup ("len" : Str) = some .globalImplicit) (hd : (one == ("__debug__" : Str)) = false)
    (hg : s.heap.Ns mainGlobals mg) (hm : mg "len" = none) (hb : s.heap.Ns builtinsNs mb) (hbb : ∀ x : Str, x ≠ "__name__" → mb x = bootBuiltins x) (hn : s.heap.Ns L fun y => [(one, Value.ref T)].reverse.lookup y) (ht : IsTup s.heap T items) (hz : (items.size : Int) < 2 ^ 63)
    (h : ∀ t tk, Q (.ref s.heap.objs.size) { s with heap := s.heap.push { cls := .type "tuple", data := .seq #[.int items.size t, .ref T] }, toks := tk }) :
    wpAny (model prog w) A (eval (.Tuple [.Call (.Name "len" p1) [.Name one p2] [] p3, .Name one p4] x1 p5) (PySem.W.envX q scope L f cv [])) Q E s := by
  have k : (PySem.W.envX q scope L f cv []).scope.kind = .function := hk
  have x2 : (PySem.W.envX q scope L f cv []).kindOf "len" = some .globalImplicit := h2
  have x3 : (PySem.W.envX q scope L f cv []).kindOf one = some .local := h1
  have v3 : (fun y => [(one, Value.ref T)].reverse.lookup y) one = some (Value.ref T) := by simp
  refine wpAny_Tuple_spliced (Calls.spliced_cons (wpAny_Call_Name_kw (Calls.Name_function_global k x2 (Calls.loadGlobal_builtin (env := PySem.W.envX q scope L f cv []) hg hm hb ((hbb _ (by decide)).trans PySem.boot_len) ?_))))
  refine PyProof.Rows.callWith_builtin1 (Calls.spliced_cons (wpAny_Name (wpAny_loadName_local k x3 hn v3 (Calls.spliced_nil ?_)) hd))
  refine PyProof.Rows.len_tuple ht hz ?_
  refine Calls.spliced_cons (wpAny_Name (wpAny_loadName_local k x3 hn v3 (Calls.spliced_nil ⟨?_, ?_⟩)) hd)
  · rw [sizeLine_eq]; show 2 ≤ _; decide
  · exact h _ _
theorem reads_strs {h : Heap} : ∀ {xs : List Str} {vs : List Value} {as : List Addr}, ReadsAll h vs (xs.map PyData.str) as → as = []
  | [], _, _, r => by
    have r : ReadsAll h _ [] _ := r
    cases r; rfl
  | x :: xs, _, _, r => by
    have r : ReadsAll h _ (PyData.str x :: xs.map PyData.str) _ := r
    cases r with
    | cons a b =>
      cases a
      rw [reads_strs b]; rfl
theorem reads_T {h : Heap} {v : Value} {t : List Hd} {as : List Addr} (r : Reads h v (eT t) as) : as = [] ∧ ∃ T items, v = .ref T ∧ IsTup h T items ∧ items.size = t.length := by
  unfold eT at r
  rw [eT_strs] at r
  cases r with
  | tuple h1 h2 h3 h4 =>
    refine ⟨reads_strs h4, _, _, rfl, ⟨_, h1, h2, _, h3⟩, ?_⟩
    have := h4.lenAny
    rw [Array.length_toList, List.length_map, List.length_map] at this
    exact this
/-- the lambda called with a tuple of hands: the key, all else kept -/
theorem lam_turn {prog : Program} {w : World} {A : Around} {s : Shared} {q one : Str} {f c' : Addr} {pm ctv : Value} {params : Arguments} {scope : Scope} {p1 p2 p3 p4 p5 : Pos} {x1 : Nat} {mg mb : Str → Option Value} {v : Value} {t : List Hd} {as : List Addr}
    (hk : scope.kind = .function) (hco : scope.isCoroutine = false) (hgen : scope.isGenerator = false) (hcell : ∀ y ∈ scope.names, y.2 ≠ .cell) (h1 : scope.names.lookup one = some .local) (h2 : scope.names.lookup ("len" : Str) = some .globalImplicit) (hd : (one == ("__debug__" : Str)) = false)
    (hbind : ∀ v, bindArgs (PySem.W.kla_fn "<lambda>" q params (.Tuple [.Call (.Name "len" p1) [.Name one p2] [] p3, .Name one p4] x1 p5) scope [] pm (.ref c') ctv) ⟨[v], []⟩ = pure [(one, v)])
    (hf : s.heap.get? f = some (PySem.W.kla_obj "<lambda>" q params (.Tuple [.Call (.Name "len" p1) [.Name one p2] [] p3, .Name one p4] x1 p5) scope [] pm c' ctv)) (hcr : s.heap.CodeRec (.ref c') q) (hlim : s.heap.NoLimit) (hroom : A.depth < recursionLimit)
    (hg : s.heap.Ns mainGlobals mg) (hm : mg "len" = none) (hb : s.heap.Ns builtinsNs mb) (hbb : ∀ x : Str, x ≠ "__name__" → mb x = bootBuiltins x) (r : Reads s.heap v (eT t) as) (hz : t.length ≤ 1000) :
    wpAny (model prog w) A (call (.ref f) [v]) (PySem.W.KeyPure (eC t) s) (fun _ _ => False) s := by
  obtain ⟨ea, T, items, ev, ht, hl⟩ := reads_T r
  subst ev
  refine wpAny_call (PySem.W.kla_callFunE hroom hf rfl hco hgen rfl hcr ?_)
  rw [hbind]
  refine wpAny_pure (wpAny_newFunctionEnv hcell (fun y hy => by rw [List.mem_singleton] at hy; rw [hy]; exact h1) (fun h₁ hns hsb => ⟨hlim.fresh _ hsb, ?_⟩) hk)
  have kp : ∀ b o, s.heap.get? b = some o → h₁.get? b = some o := fun b o e => hsb.extBut b o (Nat.ne_of_lt (Heap.lt_size e)) (Heap.get?_push_of_some _ e)
  obtain ⟨oT, g1, g2, n, g3⟩ := ht
  refine PySem.W.kla_codeExpr (wpAny_mono (lam_body (prog := prog) (w := w) (s := { s with heap := h₁, toks := s.toks + 1 }) (E := fun _ _ => False) (Q := PySem.W.KeyPure (eC t) s) (p1 := p1) (p2 := p2) (p3 := p3) (p4 := p4) (p5 := p5) (x1 := x1) (L := s.heap.objs.size) (f := f) (cv := .ref c') hk h1 h2 hd (hg.keeps kp) hm (hb.keeps kp) hbb hns ⟨oT, kp _ _ g1, g2, n, g3⟩ (by rw [hl]; omega) fun tk1 tk2 => ?_) (fun _ _ z => z) fun _ _ z => z.elim)
  refine ⟨_, _, rfl, fun b o e => Heap.get?_push_of_some _ (kp b o e), ?_⟩
  have r2 : Reads (h₁.push { cls := .type "tuple", data := .seq #[.int items.size tk1, .ref T] }) (.ref T) (eT t) [] := by
    rw [← ea]
    exact PyProof.Rows.Reads.keeps (fun b o e => Heap.get?_push_of_some _ (kp b o e)) r
  have r3 : ReadsAll (h₁.push { cls := .type "tuple", data := .seq #[.int items.size tk1, .ref T] }) [.int items.size tk1, .ref T] [.int (t.length : Int), eT t] [] := by
    rw [hl]
    have z : ReadsAll (h₁.push { cls := .type "tuple", data := .seq #[.int items.size tk1, .ref T] }) [.ref T] [eT t] ([] ++ []) := .cons r2 .nil
    rw [hl] at z
    exact ReadsAll.cons (as := []) (.int _ _) z
  exact Reads.tuple (Heap.get?_push_size _ rfl) rfl rfl r3
/-- sorted(xs, key=..) -/
def rSortLam (K : PySem.W.Frag) (q : Str) (params : Arguments) (body : Expr) (scope : Scope) : List V → List V → Hp → VK → Prop := fun vs zs H Q => ∃ a xs ts f c', vs = [.ref a] ∧ zs = [.ref f] ∧ SqL K H a xs ∧ DpAll K H xs (List.map eT ts) ∧ (∀ t ∈ ts, List.length t ≤ 1000) ∧
  H f = some (LamO f c' q params body scope) ∧ H c' = some (CodeO c' q) ∧ ∀ p, H p = none → Q (.ref p) (upd H p (.lst (((xs.zip ts).mergeSort (PySem.W.dataLe false fun b => eC b.2)).map (·.1))))
theorem each_T {X : Cx} {pins : List (Addr × Obj)} {σ : L2.St} {H : Hp} {s : Shared} (I : L2.Inv X pins σ H s) : ∀ {xs : List V} {ts : List (List Hd)} {us : List Value}, DpAll X.K H xs (ts.map eT) → Vals xs us →
    PySem.W.EachIs (fun (v : Value) (b : V × List Hd) => L2.RelV b.1 v ∧ ∃ as, Reads s.heap v (eT b.2) as) us (xs.zip ts)
  | _, [], _, d, r => by
    have d : DpAll X.K H _ [] := d
    cases d; cases r; exact .nil
  | _, t :: ts, _, d, r => by
    have d : DpAll X.K H _ (eT t :: ts.map eT) := d
    cases d with
    | cons d1 d2 =>
      cases r with
      | cons r1 r2 => exact .cons ⟨r1, Dp.reads I _ _ _ d1 r1⟩ (each_T I d2 r2)
theorem each_vals' {R : Value → V × List Hd → Prop} (h : ∀ v b, R v b → L2.RelV b.1 v) : ∀ {us : List Value} {bs : List (V × List Hd)}, PySem.W.EachIs R us bs → Vals (bs.map (·.1)) us
  | _, _, .nil => .nil
  | _, _, .cons r t => .cons (h _ _ r) (each_vals' h t)
theorem cr_sortLam {X : Cx} {q one : Str} {params : Arguments} {scope : Scope} {p1 p2 p3 p4 p5 : Pos} {x1 : Nat} (hu : X.A.units + 65 < cLine) (hdp : X.A.depth < recursionLimit) (hm : X.mg "len" = none)
    (hk : scope.kind = .function) (hco : scope.isCoroutine = false) (hgen : scope.isGenerator = false) (hcell : ∀ y ∈ scope.names, y.2 ≠ .cell) (h1 : scope.names.lookup one = some .local) (h2 : scope.names.lookup ("len" : Str) = some .globalImplicit) (hd : (one == ("__debug__" : Str)) = false)
    (hbind : ∀ pm c' ctv v, bindArgs (PySem.W.kla_fn "<lambda>" q params (.Tuple [.Call (.Name "len" p1) [.Name one p2] [] p3, .Name one p4] x1 p5) scope [] pm (.ref c') ctv) ⟨[v], []⟩ = pure [(one, v)]) :
    CallRK X (.builtin "sorted") [Str.ofString "key"] (rSortLam X.K q params (.Tuple [.Call (.Name "len" p1) [.Name one p2] [] p3, .Name one p4] x1 p5) scope) := by
  rintro pins s σ H vs zs us ws Q I r rz ⟨a, xs, ts, f, c', rfl, rfl, hs, hdp', hw, hf, hc, q0⟩
  obtain rfl := Vals.ref1 r
  obtain ⟨w1, rfl, e1⟩ := vals1 rz
  obtain rfl : w1 = Value.ref f := e1
  obtain ⟨its, rv, hl, hz⟩ := I.list hs
  have len : xs.length = ts.length := by have := dpAll_length hdp'; rw [List.length_map] at this; exact this
  have zl : (xs.zip ts).length = xs.length := by rw [List.length_zip]; omega
  obtain ⟨⟨pm, ctv, hfo⟩, _, _⟩ := I.hok f _ hf
  obtain ⟨⟨oc, vs', t', hoc, hdc, hvc⟩, _, _⟩ := I.hok c' _ hc
  obtain ⟨mb, b1, b2⟩ := I.mod.blt
  have lim := I.nolimit
  refine PySem.W.sorted_key_data (b := false) (R := fun (v : Value) (b : V × List Hd) => L2.RelV b.1 v ∧ ∃ as, Reads s.heap v (eT b.2) as) (fun b => eC b.2) hl.isList (each_T I hdp' rv) (PySem.W.AllAlike.of fun p q => alike_C _ _) (PySem.W.Sortable.tuples fun b => ⟨_, _, rfl⟩) (by rw [zl]; exact hz) (fun b hb => ?_) (PyProof.Rows.ksk_s1 _ _) (fun _ => PyProof.Rows.ksk_l1 _ _) (fun _ => PyProof.Rows.ksk_t1 _ _)
    (fun v b hR hb h tk kp => ?_) fun out c h' tk kp hn hD lo ko => ?_
  · have := (sh_eC (n := 0) b.2).dep
    omega
  · obtain ⟨hR1, as, hR2⟩ := hR
    exact lam_turn (s := { s with heap := h, toks := tk }) hk hco hgen hcell h1 h2 hd (hbind pm c' ctv) (kp _ _ hfo) ⟨c', oc, vs', t', rfl, kp _ _ hoc, hdc, hvc⟩ (lim.keeps kp) hdp ((I.mod.glob.keeps I.bk).keeps kp) hm ((b1.keeps I.bk).keeps kp) b2 (PyProof.Rows.Reads.keeps kp hR2) (hw b.2 (List.of_mem_zip hb).2)
  · have hv := each_vals' (fun v b h => h.1) ko
    refine ⟨.ref (s.heap.objs.size + 1), upd H (s.heap.objs.size + 1) (.lst _), I.laid (t' := tk) kp (Nat.le_succ _) ⟨?_, out, c, hv, hD⟩, rfl, q0 _ (I.hok.fresh (Nat.le_succ _))⟩
    rw [hv.length, lo, zl]; exact hz
theorem kksl {X : Cx} {K : PySem.W.Frag} {q : Str} {params : Arguments} {body : Expr} {scope : Scope} (h : CallRK X (.builtin "sorted") [Str.ofString "key"] (rSortLam X.K q params body scope)) (hK : X.K = K := by rfl) : CallRK X (.builtin "sorted") [Str.ofString "key"] (rSortLam K q params body scope) := hK ▸ h
theorem pe_sortLam {X : Cx} {K : PySem.W.Frag} {q one : Str} {params : Arguments} {scope : Scope} {p p1 p2 p3 p4 p5 lpos kpos pos : Pos} {x1 : Nat} {e : Expr} {te : TE} {c P : Addr} (he : PE X e te) (hu : X.A.units + 65 < cLine) (hdp : X.A.depth < recursionLimit) (TB : TabB X.base X.mg c P) (hcode : X.env.code = .ref c) (hq : X.env.qual ++ "<lambda>" = q)
    (hm : X.mg "len" = none) (hms : X.mg "sorted" = none) (hgl : Gl X "sorted") (hdef : defaultsOf params X.env = ([], [])) (hfree : ∀ y ∈ scope.names, y.2 ≠ .free ∧ y.2 ≠ .cell) (hk : scope.kind = .function) (hco : scope.isCoroutine = false) (hgen : scope.isGenerator = false) (h1 : scope.names.lookup one = some .local) (h2 : scope.names.lookup ("len" : Str) = some .globalImplicit)
    (hd : (one == ("__debug__" : Str)) = false) (hbind : ∀ pm c' ctv v, bindArgs (PySem.W.kla_fn "<lambda>" q params (.Tuple [.Call (.Name "len" p1) [.Name one p2] [] p3, .Name one p4] x1 p5) scope [] pm (.ref c') ctv) ⟨[v], []⟩ = pure [(one, v)])
    (hs : starEach [e] X.env = (false, eval e X.env) :: starEach [] X.env) (hK : X.K = K := by rfl) :
    PE X (.Call (.Name "sorted" p) [e] [⟨some (Str.ofString "key"), .Lambda params (.Tuple [.Call (.Name "len" p1) [.Name one p2] [] p3, .Name one p4] x1 p5) scope lpos, kpos⟩] pos)
      (tCKw (rSortLam K q params (.Tuple [.Call (.Name "len" p1) [.Name one p2] [] p3, .Name one p4] x1 p5) scope) (tCons te tNil) (tCons (tLamF P q params (.Tuple [.Call (.Name "len" p1) [.Name one p2] [] p3, .Name one p4] x1 p5) scope) tNil)) := by
  subst hq hK
  exact pe_callBK (cr_sortLam hu hdp hm hk hco hgen (fun y hy => (hfree y hy).2) h1 h2 hd hbind) hgl hms (by decide +kernel) (pa_cons he pa_nil hs) (pk_cons (pe_lamF TB hcode hdef fun y hy => (hfree y hy).1) pk_nil) (he := by rw [hs]; rfl) (hpl := by rw [hs]; rfl)
end
end Bp

set_option Elab.async false
set_option linter.all false
set_option maxRecDepth 100000
set_option maxHeartbeats 1000001
namespace Bp
open PySem PySem.Spec L2 PyProof.Rows LamX
/-- a def whose code object is known -/
def DfC (K : PySem.W.Frag) (mg : Str → Option Value) (x : Str) (st : Stmt) (ps : List Str) (c : Addr) : Prop :=
  ∃ f fd, FunD K x x (defArgs st) (defBody st) (defScope st) [] [] f fd ∧ fd.code = .ref c ∧ mg x = some (.ref f) ∧ L2.Binds K fd ps []
section
variable {P : Program} {w : World} {K : PySem.W.Frag} {mg : Str → Option Value} {base : Heap} {x : Str} {st : Stmt} {N ps : List Str} {k : Nat} {sp : Sp} {c : Addr}
theorem cal_ofC (Df : DfC K mg x st ps c) (S : FnScope N ps (defScope st)) (len : ∀ vs H Q E, sp vs H Q E → vs.length = ps.length)
    (hbody : ∀ (f : Addr) (A : Around) (outer : List Env) (s : Shared) (H : Hp) (vs : List V) (Q : VK) (E : XK), Room k (A.deeper (envOfC x (defScope st) s.heap.objs.size f (.ref c))) → sp vs H Q E →
      ∃ t, PSs (cxOf CX0 P w K mg base N x (defScope st) f (.ref c) A outer s H E).nox (defBody st) t ∧ t { nx := fun _ H' => Q .non H', rt := Q } (start N vs) H) : Cal P w K mg base (k + 1) x ps sp := by
  obtain ⟨f, fd, F, ec, g, b⟩ := Df
  refine ⟨f, fd, ?_, g, F.kp, b⟩
  obtain ⟨oc, od, dV, kV, doc, pm, an, cdv, ct, osl, rfl, lk, hcd, _, _⟩ := F.ex
  cases (show cdv = .ref c from ec)
  refine fn_of lk hcd S len fun A outer s H vs Q E hr h => ?_
  obtain ⟨t, h1, h2⟩ := hbody f A outer s H vs Q E hr h
  exact ⟨t, h1.nox, h2⟩
end
/-! ### in_choices -/
def q0 : Str := (envOfC "in_choices" (defScope s_in_choices) 0 0 .none).qual ++ "<lambda>"
theorem sortC_snd (l : List (V × List Hd)) : (l.mergeSort (PySem.W.dataLe false fun b => eC b.2)).map (·.2) = sC (l.map (·.2)) := List.map_mergeSort fun _ _ _ _ => rfl
theorem tab_keep {M : Addr → Prop} {G H G' H' : Hp} {P : Addr} {q : Str} (g : GrM M G H G' H') (t : TabS H P q) (n : ∀ a, M a → ∀ o, H a = some o → (∃ xs, o = .lst xs) ∨ ∃ C dx fs, o = .ins C dx fs) : TabS H' P q := by
  obtain ⟨ps, h1, h2, h3⟩ := t
  have key : ∀ a o, H a = some o → (∀ xs, o ≠ .lst xs) → (∀ C dx fs, o ≠ .ins C dx fs) → H' a = some o := fun a o e k1 k2 => g.hh a o e fun m => by
    rcases n a m o e with ⟨xs, z⟩ | ⟨C, dx, fs, z⟩
    · exact k1 _ z
    · exact k2 _ _ _ z
  refine ⟨ps, key P _ h1 (fun _ z => nomatch z) (fun _ _ _ z => nomatch z), h2, fun pos cv e => ?_⟩
  obtain ⟨c, e1, e2⟩ := h3 pos cv e
  exact ⟨c, e1, key c _ e2 (fun _ z => nomatch z) fun _ _ _ z => nomatch z⟩
theorem tab_pure {G H G' H' : Hp} {P : Addr} {q : Str} (g : Gr G H G' H') (t : TabS H P q) : TabS H' P q := tab_keep g t fun _ z => z.elim
def spChoices (P : Addr) : Sp := fun vs H Q _ => ∃ (G : Hp) (ts : List (List Hd)), Same G H ∧ RpAll G vs [eLT ts] ∧ TabS H P q0 ∧ G P = none ∧ ts.length ≤ 10000 ∧ (∀ t ∈ ts, t.length ≤ 1000) ∧
  ∀ v G' H', GrM (fun a => a = P) G H G' H' → TabS H' P q0 → Rp G' v (eLT (sC (once ts))) → Q v H'
theorem tab_at {H : Hp} {P : Addr} {q : Str} (t : TabS H P q) : ∃ ps, H P = some (.tbl ps) := let ⟨ps, h, _⟩ := t; ⟨ps, h⟩
theorem tabP {M : Addr → Prop} {G H G' H' : Hp} {P : Addr} {q : Str} (g : GrM M G H G' H') (t : TabS H P q) (n : G P = none) : G' P = none := by
  obtain ⟨ps, h⟩ := tab_at t
  exact g.out n h fun _ z => nomatch z
section
variable {P : Program} {w : World} {K : PySem.W.Frag} {mg : Str → Option Value} {base : Heap} {c T : Addr}
theorem ok_in_choices (Dfn : DfC K mg "in_choices" s_in_choices ["sets"] c) (B : Blt mg) (TB : TabB base mg c T) : Cal P w K mg base 1 "in_choices" ["sets"] (spChoices T) := by
  refine cal_ofC Dfn sc_in_choices (fun vs H Q E h => by obtain ⟨G, ts, _, r, _⟩ := h; exact r.length) fun f A outer s H vs Q E hr h => ?_
  obtain ⟨G, ts, g, r, tab, nT, hz, hw, q⟩ := h
  obtain ⟨v0, rfl, r1⟩ := rp1 r
  refine ⟨_, (pss_one (ps_ret (pe_sortLam (K := K) (q := q0) (pe_callTy (klistT (X := _) rfl) rfl B.list (by decide +kernel) (pa_cons (kdcT (K := K) (pe_dcT rfl (hu0 hr) (pv 0))) pa_nil)) (hu65 hr) hr.depth TB rfl rfl B.len B.sorted rfl rfl (by decide +kernel) rfl rfl rfl rfl rfl (by decide +kernel) (fun _ _ _ _ => rfl) rfl))), ?_⟩
  refine ev_onceT (K := K) (ev_var rfl r1) (by omega) G H (Same.refl _) g _ fun v G1 H1 g1 r2 => ?_
  have tab1 := tab_pure g1 tab
  refine ⟨tab1, fun H2 f' c' st tab2 hf hc => ?_⟩
  have n1 : G1 T = none := tabP g1 tab nT
  have gT : GrM (fun a => a = T) G H G1 H2 := by
    rcases st with rfl | ⟨ps, c1, nc, rfl⟩
    · exact Gr.toM g1
    · have z : GrM (fun a => a = T) G H G1 (upd H1 T (.tbl ps)) := GrM.mutM (Gr.toM g1) (.inl ⟨rfl, fun _ z => nomatch z⟩) n1
      exact z.mut (g1.dom _ nc) (g1.gh.free nc)
  have gF : ∀ o, GrM (fun a => a = T) G H G1 (upd H2 f' o) := fun o => gT.mut (gT.dom _ hf) (gT.gh.free hf)
  have tabF : ∀ o, TabS (upd H2 f' o) T q0 := fun o => tab2.ext fun a o e => by rw [upd_ne (ne_of_none e hf)]; exact e
  obtain ⟨a, xs, rfl, ha, rx⟩ := r2.list_at
  have hlen : (once ts).length ≤ 10000 := Nat.le_trans (once_len ts) hz
  refine ⟨a, xs, once ts, f', c', rfl, rfl, sqL ((gF _).gh _ _ ha), rx.dp (gF _).gh (sh_all (n := 1) fun d hd => ?_).1, fun t ht => hw t (once_mem t |>.mp ht), upd_same, ?_, fun p hp => ?_⟩
  · obtain ⟨b, _, rfl⟩ := List.mem_map.mp hd; exact sh_eT b
  · rw [upd_ne (ne_of_none hc hf)]; exact hc
  · have len : xs.length = (once ts).length := by rw [rx.length, List.length_map]
    have rr : RpAll G1 (((xs.zip (once ts)).mergeSort (PySem.W.dataLe false fun b => eC b.2)).map (·.1)) ((sC (once ts)).map eT) := by
      have e : ((xs.zip (once ts)).mergeSort (PySem.W.dataLe false fun b => eC b.2)).map (·.2) = sC (once ts) := by
        rw [sortC_snd, List.map_snd_zip]; omega
      rw [← e, List.map_map]
      have : ∀ l : List (V × List Hd), (∀ p ∈ l, Rp G1 p.1 (eT p.2)) → RpAll G1 (l.map (·.1)) (l.map (eT ∘ (·.2))) := by
        intro l
        induction l with
        | nil => intro _; exact .nil
        | cons p l ih => intro h; exact .cons (h p List.mem_cons_self) (ih fun q hq => h q (List.mem_cons_of_mem _ hq))
      refine this _ fun p hp => ?_
      have hm := List.mem_mergeSort.mp hp
      have z : ∀ {xs : List V} {ts : List (List Hd)}, RpAll G1 xs (ts.map eT) → ∀ p ∈ xs.zip ts, Rp G1 p.1 (eT p.2) := by
        intro xs ts
        induction ts generalizing xs with
        | nil => intro _ p hp; simp at hp
        | cons t ts ih =>
          intro h p hp
          have h : RpAll G1 xs (eT t :: ts.map eT) := h
          cases h with
          | cons r1 r2 =>
            rcases List.mem_cons.mp hp with rfl | hp
            · exact r1
            · exact ih r2 p hp
      exact z rx p hm
    obtain ⟨gn, rn⟩ := new_lst (gF _).gh hp rr
    exact q _ _ _ ((gF _).trans (Gr.toM gn)) ((tabF _).ext fun a o e => by rw [upd_ne (ne_of_none e hp)]; exact e) rn
end
end Bp

set_option Elab.async false
set_option linter.all false
set_option maxRecDepth 100000
set_option maxHeartbeats 1000001
namespace Bp
open PySem PySem.Spec L2 PyProof.Rows
/-! ### enumerate(v), v a tuple -/
theorem meets_enum1 {v : Value} {o : Obj} {H : Heap → Prop} (B : Begins v o H) :
    Meets (Builtin.«enumerate.__new__» ⟨[.type "enumerate", v], []⟩) (fun _ R s => H s.heap ∧
      R (.ok (.ret (.ref (s.heap.push o).objs.size))) { s with heap := (s.heap.push o).push { cls := .type "enumerate", data := .fields #[.none, .bool false, .ref s.heap.objs.size, rawInt 0, .none, .none] } }) :=
  .of_wp fun prog w A R s ⟨h1, h⟩ => by
    obtain ⟨hp, g, d, tk, os⟩ := s
    have hsub := sub_enumerate
    have it1 : ∀ {A' : Around} {E : Value → Shared → Prop} {Q : Value → Shared → Prop}, Q (.ref hp.objs.size) ⟨hp.push o, g, d, tk, os⟩ → wpAny (model prog w) A' (pyIter v) Q E ⟨hp, g, d, tk, os⟩ :=
      fun q => B.iter prog w _ _ ⟨hp, g, d, tk, os⟩ _ h1 q
    wp_walk using it1
    refine wpAny_stack_any fun st => wpAny_pure ?_
    split
    · rename_i c _ _ _ _ _
      cases (c == Value.type "enumerate") <;>
      · wp_walk using it1
        exact ⟨_, rfl, h⟩
    · wp_walk using it1
      exact ⟨_, rfl, h⟩
section
variable {prog : Program} {w : World} {A : Around} {E : Value → Shared → Prop} {s : Shared}
theorem call_enum1 {v : Value} {o : Obj} {H : Heap → Prop} {Q : Value → Shared → Prop} (B : Begins v o H) (h1 : H s.heap)
    (h : ∀ h', IsEnum h' (s.heap.objs.size + 1) s.heap.objs.size 0 .none → h'.get? s.heap.objs.size = some o → (∀ b o, s.heap.get? b = some o → h'.get? b = some o) → Q (.ref (s.heap.objs.size + 1)) { s with heap := h' }) :
    wpAny (model prog w) A (call (.type "enumerate") [v]) Q E s := by
  refine callType_new F.called_enumerate (by decide) (F.typeCall_enumerate_1 _) (F.newCall_enumerate_1 _) (fun obj => F.args_object_init_2 obj _) F.entry_enumerate_new (meets_enum1 B) ⟨h1, ?_⟩
  have hz : (s.heap.push o).objs.size = s.heap.objs.size + 1 := Heap.size_push ..
  have he : IsEnum ((s.heap.push o).push { cls := .type "enumerate", data := .fields #[.none, .bool false, .ref s.heap.objs.size, rawInt 0, .none, .none] }) (s.heap.objs.size + 1) s.heap.objs.size 0 .none := by
    have z := Heap.get?_push_size (s.heap.push o) (o := { cls := .type "enumerate", data := .fields #[.none, .bool false, .ref s.heap.objs.size, rawInt 0, .none, .none] }) rfl
    rw [hz] at z
    exact z
  show _ ∧ _
  rw [hz]
  exact ⟨⟨_, he, rfl⟩, h _ he (Heap.get?_push_of_some _ (Heap.get?_push_size _ B.free)) fun b o x => Heap.get?_push_of_some _ (Heap.get?_push_of_some _ x)⟩
end
/-- the pairs of a tuple's places and items -/
def ItE (K : PySem.W.Frag) (a : Addr) : It where
  go := fun i H => ∃ (xs : List V) (x : V), SqT K H a xs ∧ xs[i]? = some x
  yld := fun i H v H' => ∃ T x, v = .ref T ∧ H T = none ∧ H' = upd H T (.tup [.int (i : Nat), x]) ∧ ∀ xs, SqT K H a xs → xs[i]? = some x
  stop := fun i H => ∃ xs : List V, SqT K H a xs ∧ xs.length = i
theorem turn_enT {P : Program} {w : World} {K : PySem.W.Frag} {elts : List Expr} {kk : Nat} {tpos : Pos} (a e it : Addr) :
    Turn P w K (.Tuple elts kk tpos) (ItE K a) [e, it] e (fun i h => ((∃ old, IsEnum h e it ((i : Nat) : Int) old) ∧ h.IsTupleIter it a i) ∧ e ≠ it ∧ e ≠ a ∧ a ≠ it) where
  mem := List.mem_cons_self
  obj := fun i h ⟨⟨⟨old, he⟩, ⟨o, ho, hc, hd⟩⟩, _⟩ b hb => by
    rcases List.mem_cons.mp hb with rfl | hb
    · exact ⟨_, he, fun v q => nomatch q⟩
    · cases List.mem_singleton.mp hb
      exact ⟨o, ho, fun v q => by rw [hd] at q; cases q⟩
  keep := fun i h h' ⟨⟨⟨old, he⟩, hi⟩, hne⟩ k => ⟨⟨⟨old, k e List.mem_cons_self _ he⟩, hi.at fun o q => k it (by simp) o q⟩, hne⟩
  item := by
    rintro X rfl rfl rfl hc i pins s σ H E I hf ⟨⟨⟨old, he⟩, hit⟩, n1, n2, n3⟩ ⟨xs, x, hq, hx⟩
    obtain ⟨its, rv, p, hz⟩ := I.tuple hq
    have lv := rv.length
    have hlt : i < its.toArray.size := by
      rw [List.size_toArray, ← lv]
      exact (List.getElem?_eq_some_iff.mp hx).1
    refine wpAny_pyNext_enum_itemD (Draws.tuple (A := X.A.in1) (I.ok.hd hc) it a n3 its.toArray) he ⟨hit, p⟩ hlt n1 (by simp [n1, n2]) fun u h' tk hP ho st' hT hsz hk => ⟨_, rfl, ?_⟩
    obtain ⟨x', hx', ru⟩ := vals_at rv (by simpa using hP)
    rw [hx] at hx'
    cases hx'
    have hel : e ≠ s.heap.objs.size := Nat.ne_of_lt (Heap.lt_size he)
    have hil : it ≠ s.heap.objs.size := by
      obtain ⟨_, q, _⟩ := hit
      exact Nat.ne_of_lt (Heap.lt_size q)
    refine wpAny_letOwnedTupleGo_enum (s := { s with heap := h', toks := tk + 1 }) ho fun h2 he' sb => ?_
    have k2 : ∀ b o, b ∉ [e, it] → s.heap.get? b = some o → h2.get? b = some o := fun b o hb q => by
      rw [List.mem_cons, List.mem_singleton, not_or] at hb
      exact (sb.2 b hb.1).trans (hk b o hb.1 hb.2 q)
    have I1 := I.turnedNew (t' := tk + 1) (ob := .tup [.int (i : Nat), x]) k2 hf (Nat.le_refl _) ⟨by show 2 ≤ sizeLine; decide, [.int i tk, u], .cons ⟨_, rfl⟩ (.cons ru .nil), ⟨_, (sb.2 _ (Ne.symm hel)).trans hT, rfl, _, rfl⟩⟩
    refine ⟨.ref s.heap.objs.size, _, I1, rfl, ⟨_, x, rfl, I.hok.fresh (Nat.le_refl _), rfl, fun ys hy => ?_⟩, ⟨⟨⟨u, ?_⟩, st'.1.at fun o q => (sb.2 it (Ne.symm n1)).trans q⟩, n1, n2, n3⟩, fun b hb => ?_⟩
    · rw [I.tuple_inj hy hq]; exact hx
    · rw [show ((i + 1 : Nat) : Int) = (i : Int) + 1 by omega]; exact he'
    · have nb : b ≠ s.heap.objs.size := by
        rcases List.mem_cons.mp hb with rfl | hb
        · exact hel
        · cases List.mem_singleton.mp hb; exact hil
      rw [upd_ne nb]
      exact (hf b hb).1
  done := by
    rintro X rfl rfl rfl hc i pins s σ H E I hf ⟨⟨⟨old, he⟩, hit⟩, n1, n2, n3⟩ ⟨xs, hq, hx⟩
    obtain ⟨its, rv, p, hz⟩ := I.tuple hq
    have lv := rv.length
    have ei : its.toArray.size = i := by rw [List.size_toArray]; omega
    obtain ⟨f0, f1, f2, f3, f4, f5⟩ := hf it (by simp)
    exact wpAny_pyNext_enum_endD (Draws.tuple (A := X.A.in1) (I.ok.hd hc) it a n3 its.toArray) he ⟨by rw [ei]; exact hit, p⟩ fun h' eb => ⟨rfl, I.turned (t' := s.toks) (fun b o hb q => eb b o hb q) f0 f1 f3 f4 f5⟩
  self := fun A i s Q E ⟨⟨⟨_, he⟩, _⟩, _⟩ h => wpAny_pyIter_enum he h
def iEnT (K : PySem.W.Frag) (ta : TA) : TI := fun σ H R => ta σ H fun vs H1 => ∃ a xs, vs = [V.ref a] ∧ SqT K H1 a xs ∧ R (ItE K a) H1
theorem pi_enT {X : Cx} {e : Expr} {ta : TA} {p pos tpos : Pos} {elts : List Expr} {kk : Nat} (hg : Gl X "enumerate") (hm : X.mg "enumerate" = none) (ha : PA X [e] ta) (hs : starEach [e] X.env = [(false, eval e X.env)] := by rfl) :
    PI X (.Tuple elts kk tpos) (.Call (.Name "enumerate" p) [e] [] pos) (iEnT X.K ta) := by
  refine ⟨fun pins s σ H R I h => Call_ (ld_blt I hg hm boot_enumerate (PyProof.Rows.callWith_type1 (thn (ha.run pos pins s σ H _ I h) fun us s1 ⟨vs, H1, I1, r1, a, xs, ex, hq, q⟩ => ?_) hs rfl))⟩
  subst ex
  rw [Vals.ref1 r1]
  obtain ⟨its, rv, p', hz⟩ := I1.tuple hq
  have aLt : a < s1.heap.objs.size := by
    obtain ⟨o, ho, _⟩ := p'
    exact Heap.lt_size ho
  refine call_enum1 (begins_tuple a its.toArray) p' fun h' he hit hk => wpAny_pyIter_enum he ⟨s1.heap.objs.size + 1, [s1.heap.objs.size + 1, s1.heap.objs.size], _, _, H1, rfl, I1.kept (t' := s1.toks) hk, turn_enT a (s1.heap.objs.size + 1) s1.heap.objs.size, ⟨⟨⟨.none, he⟩, ⟨_, hit, rfl, rfl⟩⟩, Nat.succ_ne_self _, Nat.ne_of_gt (Nat.lt_succ_of_lt aLt), Nat.ne_of_lt aLt⟩, fun b hb => ?_, q⟩
  have hle : s1.heap.objs.size ≤ b := by
    rcases List.mem_cons.mp hb with rfl | hb
    · exact Nat.le_succ _
    · cases List.mem_singleton.mp hb; exact Nat.le_refl _
  exact I1.fpOk hle (I1.hok.fresh hle)
/-- over a list or a tuple -/
def iEnS (K : PySem.W.Frag) (ta : TA) : TI := fun σ H R => iEnum K ta σ H R ∨ iEnT K ta σ H R
theorem kenS {X : Cx} {K : PySem.W.Frag} {e : Expr} {ta : TA} {p pos tpos : Pos} {elts : List Expr} {kk : Nat} (hg : Gl X "enumerate") (hm : X.mg "enumerate" = none) (ha : PA X [e] ta) (hs : starEach [e] X.env = [(false, eval e X.env)] := by rfl) (hK : X.K = K := by rfl) :
    PI X (.Tuple elts kk tpos) (.Call (.Name "enumerate" p) [e] [] pos) (iEnS K ta) := by
  subst hK
  exact ⟨fun pins s σ H R I h => h.elim ((pi_enum hg hm ha hs).run pins s σ H R I) ((pi_enT hg hm ha hs).run pins s σ H R I)⟩
section
variable {K : PySem.W.Frag} {σ : L2.St} {G : Hp}
theorem ei_enT {t : TA} {ds : List PyData} (h : EvA t σ G [.tuple ds]) : EvI (iEnT K t) σ G (enumD ds 0) := fun G1 H1 a b R kk => h G1 H1 a b _ fun vs G2 H2 g2 r2 => by
  obtain ⟨v, rfl, r⟩ := rp1 r2
  obtain ⟨p, xs, rfl, hp, r⟩ := Rp.tup_at r
  have len := r.length
  refine ⟨p, xs, rfl, sqT (g2.gh _ _ hp), kk _ G2 H2 g2 ⟨fun i H hi s => ?_, fun H s => ⟨xs, sqT (s _ _ hp), by rw [enumD_len]; exact len⟩, fun i G3 H3 x H' d hd s s' y => ?_⟩⟩
  · have hi' : i < xs.length := by rw [len, ← enumD_len (ds := ds) (k := 0)]; exact hi
    exact ⟨xs, xs[i], sqT (s _ _ hp), by simp [hi']⟩
  · obtain ⟨T, y, rfl, hT, rfl, hy⟩ := y
    obtain ⟨d', h1, h2⟩ := r.get (hy xs (sqT ((s.trans s') _ _ hp)))
    rw [enumD_get, h1] at hd
    cases hd
    obtain ⟨g, rr⟩ := new_pair (d := .int (i : Nat)) s' hT (.int _) (h2.mono s)
    rw [Nat.zero_add]
    exact ⟨_, g, rr⟩
theorem ei_enS {β : Type} {te : TE} {enc : β → PyData} {l : List β} {k : Bool} (h : EvD te σ G (sq k (l.map enc))) : EvI (iEnS K (tCons te tNil)) σ G (l.zipIdx.map (eZ enc)) := by
  rw [← enumD_zip]
  intro G1 H1 a b R kk
  cases k with
  | true => exact .inl (ei_enum (ea_one h) G1 H1 a b R kk)
  | false => exact .inr (ei_enT (ea_one h) G1 H1 a b R kk)
end
end Bp

set_option Elab.async false
set_option linter.all false
set_option maxRecDepth 100000
set_option maxHeartbeats 1000001
namespace Bp
open PySem PySem.Spec L2 PyProof.Rows LamX
theorem once_eq {β : Type} [DecidableEq β] (l : List β) (h : l.Nodup) : once l = l := by
  have : ∀ (l acc : List β), (acc ++ l).Nodup → l.foldl putL acc = acc ++ l := by
    intro l
    induction l with
    | nil => intro acc _; simp
    | cons b r ih =>
      intro acc hn
      have hb : b ∉ acc := fun m => by
        rw [List.nodup_append] at hn
        exact hn.2.2 b m b List.mem_cons_self rfl
      rw [List.foldl_cons]
      have e : putL acc b = acc ++ [b] := by unfold putL; rw [if_neg hb]
      rw [e, ih _ (by simpa using hn)]
      simp
  exact this l [] (by simpa using h)
theorem not_before {β : Type} {l : List β} (h : l.Nodup) {i : Nat} {b : β} (hi : l[i]? = some b) : b ∉ l.take i := fun m => by
  have e : l.take (i + 1) = l.take i ++ [b] := take_succ hi
  have n : (l.take (i + 1)).Nodup := h.sublist (List.take_sublist _ _)
  rw [e, List.nodup_append] at n
  exact n.2.2 b m b (by simp) rfl
section
variable {P : Program} {w : World} {K : PySem.W.Frag} {mg : Str → Option Value} {base : Heap} {c T : Addr}
theorem ev_isName {σ : L2.St} {G : Hp} {t : TA} {h : Hd} (a : EvA t σ G [eH h]) : EvD (tCl spIsName t) σ G (.bool true) := ev_call (ea := fun h => [eH h]) (er := fun _ => .bool true) h a trivial
/-! ### checked_hands -/
def spCHands : Sp := spF (τ := Bool × List Hd) (fun x => [eK x.1 x.2]) (fun x => x.2.Nodup ∧ 2 ≤ x.2.length ∧ x.2.length ≤ 1000) (fun x => eL (sH x.2))
theorem ok_checked_hands (Dfn : Df K mg "checked_hands" s_checked_hands ["hands"]) (B : Blt mg) (c_is_list : Cal P w K mg base 1 "is_list" ["thing"] spIsList) (c_is_name : Cal P w K mg base 1 "is_name" ["thing"] spIsName) : Cal P w K mg base 2 "checked_hands" ["hands"] spCHands := by
  refine cal_of Dfn sc_checked_hands (spF_len fun _ => rfl) fun f cdv A outer s H vs Q E hr h => ?_
  obtain ⟨G, ⟨k, hs⟩, g, r, ⟨hn, h2, hz⟩, q⟩ := h
  obtain ⟨v0, rfl, r1⟩ := rp1 r
  simp only at hn h2 hz
  refine ⟨_, (pss_cons (ps_if (pt_not (pt_val (pe_cal c_is_list hr (pa_cons (pv 0) pa_nil)))) (pss_one ps_never) pss_nil)
    (pss_cons (ps_set (i := 1) sc_checked_hands.nd rfl (Or.inl rfl) (pe_lst pa_nil))
    (pss_cons (ps_for PassesOwn.never rfl (kenS (K := K) rfl B.enumerate (pa_cons (pv 0) pa_nil)) (kg_tup (K := K) (n := 2) (pg_tup rfl (pgs_cons (pg_name (i := 2) sc_checked_hands.nd rfl (Or.inl rfl)) (pgs_cons (pg_name (i := 3) sc_checked_hands.nd rfl (Or.inl rfl)) pgs_nil))))
      (pss_cons (ps_if (PW.pt (pw_or (pt_not (pt_val (pe_cal c_is_name hr (pa_cons (pv 3) pa_nil)))) (pw_or1 (pt_cmpR (kin (K := K) (hu65 hr)) (pv 3) (pv 1) rfl)))) (pss_one ps_never) pss_nil)
    (pss_one (ps_expr (kbm (K := K) (pe_bm PySem.F.plainAttrs_list PySem.F.slot_list_append PySem.F.type_list_append mt_append (pv 1) (pa_cons (pv 3) pa_nil)))))))
    (pss_cons (ps_if (pt_cmpR op_lt (pe_callB (klen (K := K)) rfl B.len PySem.boot_len (pa_cons (pv 1) pa_nil)) pe_int (nomark _)) (pss_one ps_never) pss_nil)
    (pss_one (ps_ret (pe_callB (ksorted (K := K) hr.units) rfl B.sorted (by decide +kernel) (pa_cons (pv 1) pa_nil)))))))), ?_⟩
  refine b_no (EvB.is (eb_not (eb_B (ev_isList (k := k) (ds := hs.map eH) (ea_one (ev_var rfl r1))))) rfl) g fun H1 s1 => ?_
  refine b_new (Gr.of g s1) fun p hp L => ?_
  refine b_for (bs := hs.zipIdx) (eZ eH) (ei_enS (k := k) (ev_var rfl r1)) L.gh (fun i σ' G' H' => ∃ y2 y3, σ' = [some v0, some (.ref p), y2, y3] ∧ Loc M0 G H G' H' p ((hs.take i).map eH))
    (fun G1 H1 g1 => ⟨_, _, rfl, by simpa using L.step g1⟩) (fun i σ' G' H' ⟨_, _, _, L'⟩ => L'.gh) (fun i d x σ' G1 H1 G2 H2 hd ⟨y2, y3, hσ, L1⟩ g2 rx => ?_) fun σ' G' H' ⟨_, _, hσ, L'⟩ => ?_
  · subst hσ
    obtain ⟨a, j⟩ := d
    obtain ⟨rfl, ha⟩ := zipIdx_get hd
    refine tg_pair rx fun v1 v2 rv1 rv2 => ?_
    have L2 := L1.step g2
    obtain ⟨G3, g3, s3, r3⟩ := L2.know
    refine b_no (EvB.is (eb_or (a := false) (b := false) (EvB.is (eb_not (eb_B (ev_isName (ea_one (ev_var rfl (rv2.mono s3)))))) rfl) fun _ => eb_test (EvD.is (ev_inH (k := true) (t := hs.take j) (ev_var rfl (rv2.mono s3)) (ev_var rfl r3)) (by rw [decide_eq_false (not_before hn ha)]))) rfl) g3.gh fun H4 s4 => ?_
    have L4 := L2.step (Gr.of L2.gh s4)
    refine app1 L4 rfl (ev_var rfl rv2) (by rw [List.length_map, List.length_take]; omega) fun G5 H5 s5 g5 L5 => ⟨G5, g2.gg.trans s5, _, _, rfl, ?_⟩
    rw [take_succ ha, List.map_append]
    exact L5
  · subst hσ
    have e : hs.zipIdx.length = hs.length := zipIdx_len hs
    rw [e, List.take_length] at L'
    obtain ⟨G3, g3, s3, r3⟩ := L'.know
    refine b_no (EvB.is (eb_test (ev_cmp (p := fun i j => decide (i < j)) (ev_len (k := true) (ds := hs.map eH) (ev_var rfl r3)) ev_int)) (by rw [List.length_map, decide_eq_false (by omega)])) g3.gh fun H4 s4 => ?_
    exact b_ret (ev_sortedH (k := true) (ev_var rfl r3)) (g3.gh.trans s4) fun v G4 H4 g4 r4 => q v G4 H4 ((g3.more s4).trans g4) r4
/-! ### are_unlike -/
def spUnlike : Sp := spF (τ := Bool × List Hd × List Hd) (fun x => [eK x.1 x.2.1, eL x.2.2]) (fun x => x.2.1.Nodup ∧ (∀ h ∈ x.2.1, h ∈ x.2.2) ∧ x.2.1.length ≤ 1000) (fun _ => .bool true)
theorem ev_allHands {σ : L2.St} {G : Hp} {te th : TE} {j : Nat} {k : Bool} {t hs : List Hd} (hw : ∀ x, wipe ((wipe σ [j]).set j (some x)) [j] = wipe σ [j]) (hv : ∀ v, ((wipe σ [j]).set j (some v))[j]? = some (some v)) (ht : EvD te σ G (eK k t)) (hz : t.length ≤ 1000) (hm : ∀ h ∈ t, h ∈ hs)
    (hh : ∀ v G', Same G G' → EvD th ((wipe σ [j]).set j (some v)) G' (eL hs)) : EvD (tCB (rAll K) (tCons (tLc (iSeq K te) (gName j) tYes (tCl spHandOf (tCons (tVar j) (tCons th tNil))) [j]) tNil)) σ G (.bool true) := by
  refine (ev_all (bs := t.map fun h => decide (h ∈ hs)) ?_).is ?_
  · rw [← map_bool]
    exact ev_lcm (bs := t) eH (fun h => .bool (decide (h ∈ hs))) (ei_seq (k := k) ht) (by omega) fun h _ x G' s rx => tg_name ⟨hw x, ev_handOf (ea_two (ev_var (hv x) rx) (hh x G' s))⟩
  · rw [List.all_map]
    exact congrArg PyData.bool (List.all_eq_true.mpr fun h m => by simp [hm h m])
theorem ok_are_unlike (Dfn : Df K mg "are_unlike" s_are_unlike ["thing", "hands"]) (B : Blt mg) (c_is_list : Cal P w K mg base 1 "is_list" ["thing"] spIsList) (c_is_hand_of : Cal P w K mg base 2 "is_hand_of" ["thing", "hands"] spHandOf) : Cal P w K mg base 3 "are_unlike" ["thing", "hands"] spUnlike := by
  refine cal_of Dfn sc_are_unlike (spF_len fun _ => rfl) fun f cdv A outer s H vs Q E hr h => ?_
  obtain ⟨G, ⟨k, t, hs⟩, g, r, ⟨hn, hm, hz⟩, q⟩ := h
  obtain ⟨v0, v1, rfl, r1, r2⟩ := rp2 r
  simp only at hn hm hz
  refine ⟨_, (pss_cons (ps_if (PW.pt (pw_or (pt_not (pt_val (pe_cal c_is_list hr (pa_cons (pv 0) pa_nil)))) (pw_or1 (pt_not (pt_val (pe_callB (kall (K := K) rfl) rfl B.all (by decide +kernel) (pa_cons (pe_lc (own := [("hand", 2)]) rfl sc_are_unlike.nd (kseq (K := K) (pv 0)) (blkOk_by (N := n_are_unlike) (sc := defScope s_are_unlike) (own := [("hand", 2)]) (by decide +kernel)) (fun _ _ _ _ _ => (pg_name (i := 2) sc_are_unlike.nd rfl (Or.inl rfl))) (fun _ _ _ _ _ => pts_nil) (fun _ _ _ _ _ => (pe_cal c_is_hand_of hr (pa_cons (pv 2) (pa_cons (pv 1) pa_nil))))) pa_nil))))))) (pss_one (ps_ret pe_bl)) pss_nil)
    (pss_one (ps_ret (pe_cmpR (keq (K := K) hr.units) (pe_callB call_lenD rfl B.len PySem.boot_len (pa_cons (pe_dc (own := [("hand", 2)]) rfl sc_are_unlike.nd (kseq (K := K) (pv 0)) (blkOk_by (N := n_are_unlike) (sc := defScope s_are_unlike) (own := [("hand", 2)]) (by decide +kernel)) (fun _ _ _ _ _ => (pg_name (i := 2) sc_are_unlike.nd rfl (Or.inl rfl))) (fun _ _ _ _ _ => pts_nil) (fun _ _ _ _ _ => (pv 2)) (fun _ _ _ _ _ => pe_bl)) pa_nil)) (pe_callB (klen (K := K)) rfl B.len PySem.boot_len (pa_cons (pv 0) pa_nil)) (nomark _))))), ?_⟩
  refine b_no (EvB.is (eb_or (a := false) (b := false) (EvB.is (eb_not (eb_B (ev_isList (k := k) (ds := t.map eH) (ea_one (ev_var rfl r1))))) rfl) fun _ => EvB.is (eb_not (eb_B (ev_allHands (K := K) (k := k) (j := 2) (t := t) (hs := hs) (fun _ => rfl) (fun _ => rfl) (ev_var rfl r1) hz hm fun v G' s => ev_var rfl (r2.mono s)))) rfl) rfl) g fun H1 s1 => ?_
  refine b_ret (EvD.is (ev_eqI (ev_lenOnce (k := k) (l := t) (ev_var rfl r1) (by omega) (fun _ => rfl) fun _ => rfl) (ev_len (k := k) (ds := t.map eH) (ev_var rfl r1))) ?_) (g.trans s1) fun v G2 H2 g2 r2 => q v G2 H2 ((Gr.of g s1).trans g2) r2
  rw [once_eq t hn, List.length_map]
  simp
/-! ### checked_roads -/
abbrev Rd3 := Bool × Hd × Hd
def eR (r : Rd3) : PyData := eK r.1 [r.2.1, r.2.2]
def pR (r : Rd3) : Hd × Hd := pairS r.2.1 r.2.2
def spCRoads : Sp := spF (τ := Bool × List Rd3 × List Hd) (fun x => [sq x.1 (x.2.1.map eR), eL x.2.2]) (fun x => x.2.1.length ≤ 1000 ∧ (∀ r ∈ x.2.1, r.2.1 ∈ x.2.2 ∧ r.2.2 ∈ x.2.2 ∧ r.2.1 ≠ r.2.2) ∧ (x.2.1.map pR).Nodup) (fun x => eLP (sP (x.2.1.map pR)))
theorem pairS_ne {a b : Hd} (h : a ≠ b) : (pairS a b).1 ≠ (pairS a b).2 := by
  unfold pairS
  split
  · exact h
  · exact Ne.symm h
theorem ok_checked_roads (Dfn : Df K mg "checked_roads" s_checked_roads ["roads", "hands"]) (B : Blt mg) (c_is_list : Cal P w K mg base 1 "is_list" ["thing"] spIsList) (c_is_hand_of : Cal P w K mg base 2 "is_hand_of" ["thing", "hands"] spHandOf) : Cal P w K mg base 3 "checked_roads" ["roads", "hands"] spCRoads := by
  refine cal_of Dfn sc_checked_roads (spF_len fun _ => rfl) fun f cdv A outer s H vs Q E hr h => ?_
  obtain ⟨G, ⟨k, rs, hs⟩, g, r, ⟨hz, hm, hn⟩, q⟩ := h
  obtain ⟨v0, v1, rfl, r1, r2⟩ := rp2 r
  simp only at hn hm hz
  have q : ∀ v G' H', Gr G H G' H' → Rp G' v (eLP (sP (rs.map pR))) → Q v H' := q
  refine ⟨_, (pss_cons (ps_if (pt_not (pt_val (pe_cal c_is_list hr (pa_cons (pv 0) pa_nil)))) (pss_one ps_never) pss_nil)
    (pss_cons (ps_set (i := 2) sc_checked_roads.nd rfl (Or.inl rfl) (pe_lst pa_nil))
    (pss_cons (ps_for PassesOwn.never rfl (kenS (K := K) rfl B.enumerate (pa_cons (pv 0) pa_nil)) (kg_tup (K := K) (n := 2) (pg_tup rfl (pgs_cons (pg_name (i := 3) sc_checked_roads.nd rfl (Or.inl rfl)) (pgs_cons (pg_name (i := 4) sc_checked_roads.nd rfl (Or.inl rfl)) pgs_nil))))
      (pss_cons (ps_if (PW.pt (pw_or (pt_not (pt_val (pe_cal c_is_list hr (pa_cons (pv 4) pa_nil)))) (pw_or (pt_cmpR (kne (K := K) hr.units) (pe_callB (klen (K := K)) rfl B.len PySem.boot_len (pa_cons (pv 4) pa_nil)) pe_int (nomark _)) (pw_or1 (pt_not (pt_val (pe_callB (kall (K := K) rfl) rfl B.all (by decide +kernel) (pa_cons (pe_lc (own := [("hand", 5)]) rfl sc_checked_roads.nd (kseq (K := K) (pv 4)) (blkOk_by (N := n_checked_roads) (sc := defScope s_checked_roads) (own := [("hand", 5)]) (by decide +kernel)) (fun _ _ _ _ _ => (pg_name (i := 5) sc_checked_roads.nd rfl (Or.inl rfl))) (fun _ _ _ _ _ => pts_nil) (fun _ _ _ _ _ => (pe_cal c_is_hand_of hr (pa_cons (pv 5) (pa_cons (pv 1) pa_nil))))) pa_nil)))))))) (pss_one ps_never) pss_nil)
    (pss_cons (ps_set (i := 6) sc_checked_roads.nd rfl (Or.inl rfl) (pe_callTy (ktuple (K := K)) rfl B.tuple (by decide +kernel) (pa_cons (pe_callB (ksorted (K := K) hr.units) rfl B.sorted (by decide +kernel) (pa_cons (pv 4) pa_nil)) pa_nil)))
    (pss_cons (ps_if (PW.pt (pw_or (pt_cmpR (keq (K := K) hr.units) (pe_ix (kix (K := K)) (pv 6) pe_int (fun _ _ => rfl)) (pe_ix (kix (K := K)) (pv 6) pe_int (fun _ _ => rfl)) (nomark _)) (pw_or1 (pt_cmpR (kin (K := K) (hu65 hr)) (pv 6) (pv 2) rfl)))) (pss_one ps_never) pss_nil)
    (pss_one (ps_expr (kbm (K := K) (pe_bm PySem.F.plainAttrs_list PySem.F.slot_list_append PySem.F.type_list_append mt_append (pv 2) (pa_cons (pv 6) pa_nil)))))))))
    (pss_one (ps_ret (pe_callB (ksorted (K := K) hr.units) rfl B.sorted (by decide +kernel) (pa_cons (pv 2) pa_nil))))))), ?_⟩
  refine b_no (EvB.is (eb_not (eb_B (ev_isList (k := k) (ds := rs.map eR) (ea_one (ev_var rfl r1))))) rfl) g fun H1 s1 => ?_
  refine b_new (Gr.of g s1) fun p hp L => ?_
  refine b_for (bs := rs.zipIdx) (eZ eR) (ei_enS (k := k) (ev_var rfl r1)) L.gh (fun i σ' G' H' => ∃ y3 y4 y6, σ' = [some v0, some v1, some (.ref p), y3, y4, none, y6] ∧ Loc M0 G H G' H' p (((rs.take i).map pR).map eP))
    (fun G1 H1 g1 => ⟨_, _, _, rfl, by simpa using L.step g1⟩) (fun i σ' G' H' ⟨_, _, _, _, L'⟩ => L'.gh) (fun i d x σ' G1 H1 G2 H2 hd ⟨y3, y4, y6, hσ, L1⟩ g2 rx => ?_) fun σ' G' H' ⟨_, _, _, hσ, L'⟩ => ?_
  · subst hσ
    obtain ⟨a, j⟩ := d
    obtain ⟨rfl, ha⟩ := zipIdx_get hd
    obtain ⟨ka, a, b⟩ := a
    obtain ⟨ma, mb, ne⟩ := hm _ (List.mem_of_getElem? ha)
    simp only at ma mb ne
    refine tg_pair rx fun w1 w2 rw1 rw2 => ?_
    have rw2 : Rp G2 w2 (eK ka [a, b]) := rw2
    have L2 := L1.step g2
    have r22 := r2.mono L2.gr.gg
    refine b_no (EvB.is (eb_or (a := false) (b := false) (EvB.is (eb_not (eb_B (ev_isList (k := ka) (ds := [eH a, eH b]) (ea_one (ev_var rfl rw2))))) rfl) fun _ => eb_or (a := false) (b := false) (eb_test (EvD.is (ev_ne (ev_len (k := ka) (ds := [eH a, eH b]) (ev_var rfl rw2)) ev_int (sh_int (n := 0) _).shaped (sh_int (n := 0) _).shaped) (by simp [PyData.eqv]))) fun _ =>
      EvB.is (eb_not (eb_B (ev_allHands (K := K) (k := ka) (j := 5) (t := [a, b]) (hs := hs) (fun _ => rfl) (fun _ => rfl) (ev_var rfl rw2) (by show 2 ≤ _; decide) (fun h m => by rcases List.mem_cons.mp m with rfl | m; exact ma; cases List.mem_singleton.mp m; exact mb) fun v G' s => ev_var rfl (r22.mono s)))) rfl) rfl) L2.gh fun H4 s4 => ?_
    have L4 := L2.step (Gr.of L2.gh s4)
    refine b_asg (d := eP (pairS a b)) (EvD.is (ev_tuple (k := true) (ds := (sH [a, b]).map eH) (ev_sortedH (k := ka) (l := [a, b]) (ev_var rfl rw2))) (by rw [← pairS_eq]; rfl)) L4.gh fun vp G5 H5 g5 rp => ?_
    have L5 := L4.step g5
    obtain ⟨G6, g6, s6, r6⟩ := L5.know
    have nb : pairS a b ∉ (rs.take j).map pR := by
      rw [List.map_take]
      exact not_before hn (by rw [List.getElem?_map, ha]; rfl)
    refine b_no (EvB.is (eb_or (a := false) (b := false) (eb_test (EvD.is (ev_eqH (ev_ix (k := false) (ds := [eH (pairS a b).1, eH (pairS a b).2]) (ev_var rfl (rp.mono s6)) ev_int rfl) (ev_ix (k := false) (ds := [eH (pairS a b).1, eH (pairS a b).2]) (ev_var rfl (rp.mono s6)) ev_int rfl)) (by rw [decide_eq_false (pairS_ne ne)]))) fun _ => eb_test (EvD.is (ev_inP (p := pairS a b) (l := (rs.take j).map pR) (ev_var rfl (rp.mono s6)) (ev_var rfl r6)) (by rw [decide_eq_false nb]))) rfl) g6.gh fun H7 s7 => ?_
    have L7 := L5.step (Gr.of L5.gh s7)
    refine app1 L7 rfl (ev_var rfl rp) (by rw [List.length_map, List.length_map, List.length_take]; omega) fun G8 H8 s8 g8 L8 => ⟨G8, (g2.gg.trans g5.gg).trans s8, _, _, _, rfl, ?_⟩
    rw [take_succ ha, List.map_append, List.map_append]
    exact L8
  · subst hσ
    have e : rs.zipIdx.length = rs.length := zipIdx_len rs
    rw [e, List.take_length] at L'
    obtain ⟨G3, g3, s3, r3⟩ := L'.know
    exact b_ret (ev_sortedP (ev_var rfl r3)) g3.gh fun v G4 H4 g4 r4 => q v G4 H4 (g3.trans g4) r4
/-! ### checked_greatest -/
theorem b_new1 {M : Addr → Prop} {σ : L2.St} {G0 H0 G H : Hp} {te : TE} {tz : TS} {D : Ends} {d : PyData} {i : Nat} (g : GrM M G0 H0 G H) (h : EvD te σ G d) (k : ∀ p G' H', Same G G' → Loc M G0 H0 G' H' p [d] → tz D (σ.set i (some (.ref p))) H') : tSeq (tAsg (tLst (tCons te tNil)) (gName i)) tz D σ H :=
  h G H (Same.refl _) g.gh _ fun v G2 H2 g2 r2 => ⟨by rw [sizeLine_eq]; show 1 ≤ _; decide, fun p hp => k p G2 _ g2.gg ((Loc.new (g.trans (Gr.toM g2)) hp).put (.one r2) |> fun L => by rw [upd_upd] at L; exact L)⟩
abbrev Gd := Bool × List Hd
def eG (g : Gd) : PyData := eK g.1 g.2
def choicesP (gs : List (List Hd)) : List (List Hd) := sC (once ([] :: gs.map sH))
def greatP (gs : List (List Hd)) : List (List Hd) := (choicesP gs).filter fun one => !((choicesP gs).any fun other => !decide (one = other) && within one other)
def spCGreat (T : Addr) : Sp := fun vs H Q _ => ∃ (G : Hp) (k : Bool) (gs : List Gd) (hs : List Hd), Same G H ∧ RpAll G vs [sq k (gs.map eG), eL hs] ∧ TabS H T q0 ∧ G T = none ∧ gs.length ≤ 1000 ∧ (∀ g ∈ gs, g.2.Nodup ∧ (∀ h ∈ g.2, h ∈ hs)) ∧
  ∀ v G' H', GrM (fun a => a = T) G H G' H' → TabS H' T q0 → Rp G' v (eLT (greatP (gs.map (·.2)))) → Q v H'
theorem ev_unlike {σ : L2.St} {G : Hp} {t : TA} {k : Bool} {a hs : List Hd} (h : EvA t σ G [eK k a, eL hs]) (hn : a.Nodup) (hm : ∀ h ∈ a, h ∈ hs) (hz : a.length ≤ 1000) : EvD (tCl spUnlike t) σ G (.bool true) :=
  ev_call (ea := fun x : Bool × List Hd × List Hd => [eK x.1 x.2.1, eL x.2.2]) (er := fun _ => .bool true) (k, a, hs) h ⟨hn, hm, hz⟩
theorem hd_len {l : List Hd} (h : l.Nodup) : l.length ≤ 6 := by
  have := nodup_le l (List.finRange 6) h fun x _ => List.mem_finRange x
  simpa using this
theorem ok_checked_greatest (Dfn : Df K mg "checked_greatest" s_checked_greatest ["greatest", "hands"]) (B : Blt mg) (c_is_list : Cal P w K mg base 1 "is_list" ["thing"] spIsList) (c_are_unlike : Cal P w K mg base 3 "are_unlike" ["thing", "hands"] spUnlike)
    (c_in_choices : Cal P w K mg base 1 "in_choices" ["sets"] (spChoices T)) (c_is_within : Cal P w K mg base 1 "is_within" ["one", "other"] spWithin) : Cal P w K mg base 4 "checked_greatest" ["greatest", "hands"] (spCGreat T) := by
  refine cal_of Dfn sc_checked_greatest (fun vs H Q E h => by obtain ⟨G, k, gs, hs, _, r, _⟩ := h; exact r.length) fun f cdv A outer s H vs Q E hr h => ?_
  obtain ⟨G, k, gs, hs, g, r, tab, nT, hz, hm, q⟩ := h
  obtain ⟨v0, v1, rfl, r1, r2⟩ := rp2 r
  refine ⟨_, (pss_cons (ps_if (pt_not (pt_val (pe_cal c_is_list hr (pa_cons (pv 0) pa_nil)))) (pss_one ps_never) pss_nil)
    (pss_cons (ps_set (i := 2) sc_checked_greatest.nd rfl (Or.inl rfl) (pe_lst (pa_cons (pe_tup pa_nil) pa_nil)))
    (pss_cons (ps_for PassesOwn.never rfl (kenS (K := K) rfl B.enumerate (pa_cons (pv 0) pa_nil)) (kg_tup (K := K) (n := 2) (pg_tup rfl (pgs_cons (pg_name (i := 3) sc_checked_greatest.nd rfl (Or.inl rfl)) (pgs_cons (pg_name (i := 4) sc_checked_greatest.nd rfl (Or.inl rfl)) pgs_nil))))
      (pss_cons (ps_if (pt_not (pt_val (pe_cal c_are_unlike hr (pa_cons (pv 4) (pa_cons (pv 1) pa_nil))))) (pss_one ps_never) pss_nil)
    (pss_one (ps_expr (kbm (K := K) (pe_bm PySem.F.plainAttrs_list PySem.F.slot_list_append PySem.F.type_list_append mt_append (pv 2) (pa_cons (pe_callTy (ktuple (K := K)) rfl B.tuple (by decide +kernel) (pa_cons (pe_callB (ksorted (K := K) hr.units) rfl B.sorted (by decide +kernel) (pa_cons (pv 4) pa_nil)) pa_nil)) pa_nil)))))))
    (pss_cons (ps_set (i := 5) sc_checked_greatest.nd rfl (Or.inr rfl) (pe_cal c_in_choices hr (pa_cons (pv 2) pa_nil)))
    (pss_one (ps_ret (pe_lc (own := [("one", 6)]) rfl sc_checked_greatest.nd (kseq (K := K) (pv 5)) (blkOk_by (N := n_checked_greatest) (sc := defScope s_checked_greatest) (own := [("one", 6)]) (by decide +kernel)) (fun _ _ _ _ _ => (pg_name (i := 6) sc_checked_greatest.nd rfl (Or.inr rfl))) (fun _ _ _ _ _ => (pts_one (pt_not (pt_val (pe_callB (kany (K := K) rfl) rfl B.any (by decide +kernel) (pa_cons (pe_lc (own := [("other", 7)]) rfl sc_checked_greatest.nd (kseq (K := K) (pv 5)) (blkOk_by (N := n_checked_greatest) (sc := relS _ (defScope s_checked_greatest)) (own := [("other", 7)]) (by decide +kernel)) (fun _ _ _ _ _ => (pg_name (i := 7) sc_checked_greatest.nd rfl (Or.inl rfl))) (fun _ _ _ _ _ => pts_nil) (fun _ _ _ _ _ => (pe_and (pe_cmpR (kne (K := K) hr.units) (pv 6) (pv 7) (nomark _)) (pe_one (pe_cal c_is_within hr (pa_cons (pv 6) (pa_cons (pv 7) pa_nil))))))) pa_nil)))))) (fun _ _ _ _ _ => (pv 6))))))))), ?_⟩
  refine b_no (EvB.is (eb_not (eb_B (ev_isList (k := k) (ds := gs.map eG) (ea_one (ev_var rfl r1))))) rfl) g fun H1 s1 => ?_
  refine b_new1 (M := M0) (d := eT []) (Gr.of g s1) (ev_tup ea_nil (by decide)) fun p G1 H1 s01 L => ?_
  refine b_for (bs := gs.zipIdx) (eZ eG) (ei_enS (k := k) (ev_var rfl (r1.mono s01))) L.gh (fun i σ' G' H' => ∃ y3 y4, σ' = [some v0, some v1, some (.ref p), y3, y4, none, none, none] ∧ Loc M0 G H G' H' p (([] :: (gs.take i).map fun g => sH g.2).map eT))
    (fun G1 H1 g1 => ⟨_, _, rfl, by simpa using L.step g1⟩) (fun i σ' G' H' ⟨_, _, _, L'⟩ => L'.gh) (fun i d x σ' G1 H1 G2 H2 hd ⟨y3, y4, hσ, L1⟩ g2 rx => ?_) fun σ' G' H' ⟨_, _, hσ, L'⟩ => ?_
  · subst hσ
    obtain ⟨a, j⟩ := d
    obtain ⟨rfl, ha⟩ := zipIdx_get hd
    obtain ⟨ka, a⟩ := a
    obtain ⟨hna, hma⟩ := hm _ (List.mem_of_getElem? ha)
    simp only at hna hma
    have hl6 := hd_len hna
    refine tg_pair rx fun w1 w2 rw1 rw2 => ?_
    have rw2 : Rp G2 w2 (eK ka a) := rw2
    have L2 := L1.step g2
    refine b_no (EvB.is (eb_not (eb_B (ev_unlike (k := ka) (a := a) (hs := hs) (ea_two (ev_var rfl rw2) (ev_var rfl (r2.mono L2.gr.gg))) hna hma (by omega)))) rfl) L2.gh fun H4 s4 => ?_
    have L4 := L2.step (Gr.of L2.gh s4)
    refine app1 (d := eT (sH a)) L4 rfl (ev_tuple (k := true) (ds := (sH a).map eH) (ev_sortedH (k := ka) (l := a) (ev_var rfl rw2))) (by simp; omega) fun G8 H8 s8 g8 L8 => ⟨G8, g2.gg.trans s8, _, _, rfl, ?_⟩
    rw [take_succ ha, List.map_append]
    simpa using L8
  · subst hσ
    have e : gs.zipIdx.length = gs.length := zipIdx_len gs
    rw [e, List.take_length] at L'
    obtain ⟨G3, g3, s3, r3⟩ := L'.know
    have em : ([] :: gs.map fun g => sH g.2) = [] :: (gs.map (·.2)).map sH := by rw [List.map_map]; rfl
    rw [em] at r3
    refine ⟨_, rfl, G3, [] :: (gs.map fun g : Gd => g.2).map sH, g3.gh, .one r3, tab_pure g3 tab, tabP g3 tab nT, by simp; omega, fun t ht => ?_, fun v G4 H4 g4 tab4 r4 => ?_⟩
    · rcases List.mem_cons.mp ht with rfl | ht
      · simp
      · obtain ⟨u, hu, rfl⟩ := List.mem_map.mp ht
        obtain ⟨g', hg', rfl⟩ := List.mem_map.mp hu
        have := hd_len (hm g' hg').1
        rw [sH_len]; omega
    · have r4 : Rp G4 v (eLT (choicesP (gs.map (·.2)))) := r4
      have gT : GrM (fun a => a = T) G H G4 H4 := GrM.trans (Gr.toM g3) g4
      have q : ∀ v G' H', GrM (fun a => a = T) G H G' H' → TabS H' T q0 → Rp G' v (eLT ((choicesP (gs.map (·.2))).filter fun one => !((choicesP (gs.map (·.2))).any fun other => !decide (one = other) && within one other))) → Q v H' := q
      have hcl : (choicesP (gs.map (·.2))).length ≤ 1001 := by
        unfold choicesP sC
        rw [List.length_mergeSort]
        refine Nat.le_trans (once_len _) ?_
        simp; omega
      have hcw : ∀ t ∈ choicesP (gs.map (·.2)), t.length ≤ 6 := fun t ht => by
        unfold choicesP sC at ht
        rw [List.mem_mergeSort, once_mem] at ht
        rcases List.mem_cons.mp ht with rfl | ht
        · simp
        · obtain ⟨u, hu, rfl⟩ := List.mem_map.mp ht
          obtain ⟨g', hg', rfl⟩ := List.mem_map.mp hu
          rw [sH_len]
          exact hd_len (hm g' hg').1
      generalize choicesP (gs.map (·.2)) = every at *
      refine b_ret (ev_lc (bs := every) eT (fun one => !(every.any fun other => !decide (one = other) && within one other)) eT (ei_seq (k := true) (ev_var rfl r4)) (by omega) fun t ht x G5 s5 rx => tg_name ⟨rfl, eb_not (eb_B ?_), fun _ => ev_var rfl rx⟩) g4.gh fun v5 G5 H5 g5 r5 => q v5 G5 H5 (gT.trans (Gr.toM g5)) (tab_pure g5 tab4) r5
      refine (ev_any (bs := every.map fun other => !decide (t = other) && within t other) ?_).is (by rw [List.any_map]; rfl)
      rw [← map_bool]
      refine ev_lcm (bs := every) eT _ (ei_seq (k := true) (ev_var rfl (r4.mono s5))) (by omega) fun o ho x' G6 s6 rx' => tg_name ⟨rfl, ev_andV (ev_neT (ev_var rfl (rx.mono s6)) (ev_var rfl rx')) fun _ => ev_within (k := false) (k' := false) (ea_two (ev_var rfl (rx.mono s6)) (ev_var rfl rx')) (by have := hcw t ht; omega)⟩
end
end Bp

set_option Elab.async false
set_option linter.all false
set_option maxRecDepth 100000
set_option maxHeartbeats 1000001
namespace Bp
open PySem PySem.Spec L2 PyProof.Rows LamX
section
variable {P : Program} {w : World} {K : PySem.W.Frag} {mg : Str → Option Value} {base : Heap} {C T : Addr}
/-! ### an instance that is being filled -/
theorem know_same {G H : Hp} {x : Addr} {o : HO} (n : G x = none) (g : Same G H) (h : H x = some o) : Same (upd G x o) H := fun a u e => by
  by_cases z : a = x
  · subst z; rw [upd_same] at e; rw [h]; exact e
  · rw [upd_ne z] at e; exact g a u e
theorem know_gr {M : Addr → Prop} {G H : Hp} {x : Addr} {o : HO} (n : G x = none) (g : Same G H) (h : H x = some o) {G2 H2 : Hp} (g2 : GrM M (upd G x o) H G2 H2) : GrM M G H (drop1 G2 x) H2 := drop_gr n g2
theorem known_in {M : Addr → Prop} {G H G2 H2 : Hp} {x : Addr} {o : HO} (g2 : GrM M (upd G x o) H G2 H2) : G2 x = some o := g2.gg _ _ upd_same
theorem off_known {G2 : Hp} {x C dx : Addr} {fs : List (Str × V)} (h : G2 x = some (.ins C dx fs)) {v : V} {d : PyData} (r : Rp G2 v d) (hd : d.canLay0 = true) : Rp (drop1 G2 x) v d := Rp.off h (fun a o ne e => by rw [drop1_ne ne]; exact e) r hd
theorem b_fld {σ : L2.St} {G H : Hp} {tv : TE} {tz : TS} {D : Ends} {x dx : Addr} {fs : List (Str × V)} {f : Str} {d : PyData} (Bd : Bnd K mg C) (nf : NoAttr K C f) (hx : σ[0]? = some (some (.ref x))) (gs : Same G H) (n : G x = none) (hp : H x = some (.ins C dx fs)) (hl : fs.length < 1000)
    (h : EvD tv σ (upd G x (.ins C dx fs)) d) (hd : d.canLay0 = true) (k : ∀ v G' H', GrM (fun a => a = x) G H G' H' → G' x = none → H' x = some (.ins C dx (putF f v fs)) → Rp G' v d → tz D σ H') : tSeq (sFld K (tVar 0) tv f) tz D σ H :=
  h _ H (Same.refl _) (know_same n gs hp) _ fun v G2 H2 g2 r2 => by
    have e2 := known_in g2
    have gD : GrM (fun a => a = x) G H (drop1 G2 x) H2 := Gr.toM (know_gr n gs hp g2)
    exact ⟨_, hx, x, C, dx, fs, rfl, g2.gh _ _ e2, Bd.cls, nf, hl, k v _ _ (gD.mutM (.inl ⟨rfl, fun _ z => nomatch z⟩) drop1_at) drop1_at upd_same (off_known e2 r2 hd)⟩
theorem ev_fldX {σ : L2.St} {G : Hp} {x dx : Addr} {fs : List (Str × V)} {f : Str} {v : V} {d : PyData} (Bd : Bnd K mg C) (nf : NoAttr K C f) (hx : σ[0]? = some (some (.ref x))) (hp : G x = some (.ins C dx fs)) (hf : fs.lookup f = some v) (r : Rp G v d) : EvD (tFld K (tVar 0) f) σ G d := fun G1 H1 s1 s2 Q k =>
  ⟨_, hx, x, C, dx, fs, v, rfl, s2 _ _ (s1 _ _ hp), Bd.cls, nf, hf, k v G1 H1 (Gr.refl s2) (r.mono s1)⟩
theorem sfld_call {σ : L2.St} {H : Hp} {tz : TS} {D : Ends} {f : Str} {sp : Sp} {t : TA} (h : t σ H (fun vs H1 => sp vs H1 (fun y H2 => (tVar 0) σ H2 fun x H3 => ∃ a C dx fs, x = .ref a ∧ H3 a = some (.ins C dx fs) ∧ Cls K C ∧ NoAttr K C f ∧ fs.length < 1000 ∧ tz D σ (upd H3 a (.ins C dx (putF f y fs)))) E0)) : tSeq (sFld K (tVar 0) (tCl sp t) f) tz D σ H := h
/-- what may be handed to Bands -/
structure Hand (hs : List Hd) (rs : List Rd3) (gs : List Gd) : Prop where
  nd : hs.Nodup
  two : 2 ≤ hs.length
  rl : rs.length ≤ 1000
  rin : ∀ r ∈ rs, r.2.1 ∈ hs ∧ r.2.2 ∈ hs ∧ r.2.1 ≠ r.2.2
  rnd : (rs.map pR).Nodup
  gl : gs.length ≤ 1000
  gin : ∀ g ∈ gs, g.2.Nodup ∧ ∀ h ∈ g.2, h ∈ hs
def banOf (hs : List Hd) (rs : List Rd3) (gs : List Gd) : Ban := ⟨sH hs, sP (rs.map pR), greatP (gs.map fun g => g.2)⟩
def spInit (C T : Addr) : Sp := fun vs H Q _ => ∃ (G : Hp) (x dx : Addr) (us : List V) (kh kr kg : Bool) (hs : List Hd) (rs : List Rd3) (gs : List Gd), vs = .ref x :: us ∧ Same G H ∧ G x = none ∧ H x = some (.ins C dx []) ∧ RpAll G us [eK kh hs, sq kr (rs.map eR), sq kg (gs.map eG)] ∧ TabS H T q0 ∧ G T = none ∧ Hand hs rs gs ∧
  ∀ h r g G' H', GrM (fun a => a = T ∨ a = x) G H G' H' → TabS H' T q0 → G' x = none → H' x = some (.ins C dx (bfs h r g .non)) → Rp G' h (eL (sH hs)) → Rp G' r (eLP (sP (rs.map pR))) → Rp G' g (eLT (greatP (gs.map fun g => g.2))) → Q .non H'
theorem lay_eL (l : List Hd) : (eL l).canLay0 = true := (sh_eL (n := 0) l).lay
theorem lay_eLP (l : List (Hd × Hd)) : (eLP l).canLay0 = true := (sh_map (k := true) (n := 1) fun b _ => sh_eP b).lay
theorem lay_eLT (l : List (List Hd)) : (eLT l).canLay0 = true := (sh_map (k := true) (n := 1) fun b _ => sh_eT b).lay
theorem ok_init (Dfn : Dm K C "__init__" s_B_init ["self", "hands", "roads", "greatest"]) (B : Blt mg) (Bd : Bnd K mg C) (c_checked_hands : Cal P w K mg base 2 "checked_hands" ["hands"] spCHands) (c_checked_roads : Cal P w K mg base 3 "checked_roads" ["roads", "hands"] spCRoads)
    (c_checked_greatest : Cal P w K mg base 4 "checked_greatest" ["greatest", "hands"] (spCGreat T)) : Cme P w K mg base C 5 "__init__" ["self", "hands", "roads", "greatest"] (spInit C T) := by
  refine cme_of Dfn sc_B_init (fun vs H Q E h => by obtain ⟨G, x, dx, us, kh, kr, kg, hs, rs, gs, rfl, _, _, _, r, _⟩ := h; exact congrArg (· + 1) r.length) fun f cdv A outer s H vs Q E hr h => ?_
  obtain ⟨G, x, dx, us, kh, kr, kg, hs, rs, gs, rfl, g, nx, hx, ru, tab, nT, ok, q⟩ := h
  obtain ⟨vh, vr, vg, rfl, r1, r2, r3⟩ := rp3 ru
  have xT : x ≠ T := by
    obtain ⟨ps, e⟩ := tab_at tab
    exact ne_of hx e fun z => nomatch z
  have hl6 := hd_len ok.nd
  refine ⟨_, (pss_cons (ps_fld (pv 0) (pe_cal c_checked_hands hr (pa_cons (pv 1) pa_nil)) rfl)
    (pss_cons (ps_fld (pv 0) (pe_cal c_checked_roads hr (pa_cons (pv 2) (pa_cons (kfld (K := K) (pe_fld (pv 0) rfl)) pa_nil))) rfl)
    (pss_cons (ps_fld (pv 0) (pe_cal c_checked_greatest hr (pa_cons (pv 3) (pa_cons (kfld (K := K) (pe_fld (pv 0) rfl)) pa_nil))) rfl)
    (pss_one (ps_fld (pv 0) pe_non rfl))))), ?_⟩
  have s0 : Same G (upd G x (.ins C dx [])) := same_upd nx
  refine b_fld (d := eL (sH hs)) Bd Bd.n1 rfl g nx hx (by decide) (ev_call (ea := fun x : Bool × List Hd => [eK x.1 x.2]) (er := fun x => eL (sH x.2)) (kh, hs) (ea_one (ev_var rfl (r1.mono s0))) ⟨ok.nd, ok.two, by show hs.length ≤ 1000; omega⟩) (lay_eL _) fun h G1 H1 g1 n1 e1 rh => ?_
  have tab1 := tab_keep g1 tab fun a ma o e => .inr (by rw [ma, hx] at e; exact ⟨C, dx, [], (Option.some.inj e).symm⟩)
  have nT1 := tabP g1 tab nT
  have r21 := r2.mono g1.gg
  have r31 := r3.mono g1.gg
  obtain ⟨fs1, ef1⟩ : ∃ fs1, fs1 = putF "own_hands" h [] := ⟨_, rfl⟩
  have lk1 : fs1.lookup ("own_hands" : Str) = some h := by rw [ef1, lookup_putF, if_pos rfl]
  have ln1 : fs1.length < 1000 := by rw [ef1]; show 1 < 1000; decide
  rw [← ef1] at e1
  have s1 : Same G1 (upd G1 x (.ins C dx fs1)) := same_upd n1
  refine b_fld (d := eLP (sP (rs.map pR))) Bd Bd.n2 rfl g1.gh n1 e1 ln1 (ev_call (ea := fun x : Bool × List Rd3 × List Hd => [sq x.1 (x.2.1.map eR), eL x.2.2]) (er := fun x => eLP (sP (x.2.1.map pR))) (kr, rs, sH hs) (ea_two (ev_var rfl (r21.mono s1)) (ev_fldX Bd Bd.n1 rfl upd_same lk1 (rh.mono s1))) ⟨ok.rl, fun r hr => ?_, ok.rnd⟩) (lay_eLP _) fun rv G2 H2 g2 n2 e2 rr => ?_
  · obtain ⟨z1, z2, z3⟩ := ok.rin r hr
    exact ⟨sH_mem.mpr z1, sH_mem.mpr z2, z3⟩
  have tab2 := tab_keep g2 tab1 fun a ma o e => .inr (by rw [ma, e1] at e; exact ⟨C, dx, fs1, (Option.some.inj e).symm⟩)
  have nT2 := tabP g2 tab1 nT1
  have r32 := r31.mono g2.gg
  have rh2 := rh.mono g2.gg
  obtain ⟨fs2, ef2⟩ : ∃ fs2, fs2 = putF "own_roads" rv fs1 := ⟨_, rfl⟩
  have lk2 : fs2.lookup ("own_hands" : Str) = some h := by rw [ef2, lookup_putF, if_neg (by decide +kernel), lk1]
  have ln2 : fs2.length < 1000 := by rw [ef2, ef1]; show 2 < 1000; decide
  rw [← ef2] at e2
  have s2 : Same G2 (upd G2 x (.ins C dx fs2)) := same_upd n2
  have args : EvA (tCons (tVar 3) (tCons (tFld K (tVar 0) "own_hands") tNil)) (L2.start n_B_init [V.ref x, vh, vr, vg]) (upd G2 x (.ins C dx fs2)) [sq kg (gs.map eG), eL (sH hs)] := ea_two (ev_var rfl (r32.mono s2)) (ev_fldX Bd Bd.n1 rfl upd_same lk2 (rh2.mono s2))
  refine sfld_call (K := K) (args _ H2 (Same.refl _) (know_same n2 g2.gh e2) _ fun us G3 H3 g3 ra => ?_)
  have k3 := known_in g3
  have e3 : H3 x = some (.ins C dx fs2) := g3.gh _ _ k3
  have gD : GrM (fun _ => False) G2 H2 (drop1 G3 x) H3 := know_gr n2 g2.gh e2 g3
  have ra' : RpAll (drop1 G3 x) us [sq kg (gs.map eG), eL (sH hs)] := RpAll.off k3 (fun a o ne e => by rw [drop1_ne ne]; exact e) ra (by
    have z1 : (sq kg (gs.map eG)).canLay0 = true := (sh_map (k := kg) (n := 1) fun b _ => sh_eK b.1 b.2).lay
    simp [PyData.canLayAll0, z1, lay_eL])
  have tab3 := tab_pure gD tab2
  refine ⟨drop1 G3 x, kg, gs, sH hs, gD.gh, ra', tab3, tabP gD tab2 nT2, ok.gl, fun g' hg' => ⟨(ok.gin g' hg').1, fun h' hh' => sH_mem.mpr ((ok.gin g' hg').2 h' hh')⟩, fun gv G4 H4 g4 tab4 rg => ?_⟩
  have n4 : G4 x = none := g4.out drop1_at e3 fun _ z => nomatch z
  have e4 : H4 x = some (.ins C dx fs2) := g4.hh _ _ e3 xT
  refine ⟨_, rfl, x, C, dx, fs2, rfl, e4, Bd.cls, Bd.n3, ln2, ?_⟩
  refine ⟨_, rfl, x, C, dx, _, rfl, upd_same, Bd.cls, Bd.n4, by rw [ef2, ef1]; show 3 < 1000; decide, ?_⟩
  rw [upd_upd]
  have fin : putF "own_agree" V.non (putF "own_greatest" gv fs2) = bfs h rv gv .non := by rw [ef2, ef1]; rfl
  rw [fin]
  have gAll : GrM (fun a => a = T ∨ a = x) G H G4 H4 := (((g1.weak fun a z => .inr z).trans (g2.weak fun a z => .inr z)).trans (Gr.toM gD)).trans (g4.weak fun a z => .inl z)
  refine q h rv gv G4 _ (gAll.mutM (.inl ⟨.inr rfl, fun _ z => nomatch z⟩) n4) ?_ n4 upd_same ((rh2.mono gD.gg).mono g4.gg) ((rr.mono gD.gg).mono g4.gg) rg
  obtain ⟨ps, p1, p2, p3⟩ := tab4
  refine ⟨ps, by rw [upd_ne (Ne.symm xT)]; exact p1, p2, fun pos cv e => ?_⟩
  obtain ⟨c, c1, c2⟩ := p3 pos cv e
  exact ⟨c, c1, by rw [upd_ne (ne_of c2 e4 fun z => nomatch z)]; exact c2⟩
/-- what stands of an instance of Bands whose fields are known -/
structure BanAt (C : Addr) (G : Hp) (x : Addr) (b : Ban) (ag : V) : Prop where
  ex : ∃ dx h r g, G x = some (.ins C dx (bfs h r g ag)) ∧ Rp G h (eL b.hs) ∧ Rp G r (eLP b.rs) ∧ Rp G g (eLT b.gs)
theorem BanAt.rp {G : Hp} {x : Addr} {b : Ban} {ag : V} (B : BanAt C G x b ag) : Rp G (.ref x) (eB C b) := by
  obtain ⟨dx, h, r, g, e, r1, r2, r3⟩ := B.ex
  exact .ins e r1 r2 r3
theorem BanAt.mono {G G' : Hp} {x : Addr} {b : Ban} {ag : V} (B : BanAt C G x b ag) (s : Same G G') : BanAt C G' x b ag := by
  obtain ⟨dx, h, r, g, e, r1, r2, r3⟩ := B.ex
  exact ⟨dx, h, r, g, s _ _ e, r1.mono s, r2.mono s, r3.mono s⟩
/-- Bands(hands, roads, greatest) -/
theorem make_ok {G H : Hp} {vs : List V} {Q : VK} {kh kr kg : Bool} {hs : List Hd} {rs : List Rd3} {gs : List Gd} (gs' : Same G H) (rv : RpAll G vs [eK kh hs, sq kr (rs.map eR), sq kg (gs.map eG)]) (tab : TabS H T q0) (nT : G T = none) (ok : Hand hs rs gs)
    (k : ∀ x G' H', H x = none → GrM (fun a => a = T) G H G' H' → TabS H' T q0 → BanAt C G' x (banOf hs rs gs) .non → Q (.ref x) H') :
    ∀ x dx, H x = none → H dx = none → dx ≠ x → spInit C T (.ref x :: (vs ++ [])) (upd (upd H dx (.own x)) x (.ins C dx [])) (fun v H2 => v = .non ∧ Q (.ref x) H2) E0 := by
  intro x dx hx hdx ne
  have g1 : Gr G H G (upd H dx (.own x)) := Gr.lay gs' hdx
  have hx1 : (upd H dx (.own x)) x = none := by rw [upd_ne (Ne.symm ne)]; exact hx
  have g2 : Gr G H G (upd (upd H dx (.own x)) x (.ins C dx [])) := g1.mut hx (gs'.free hx)
  rw [List.append_nil]
  refine ⟨G, x, dx, vs, kh, kr, kg, hs, rs, gs, rfl, g2.gh, gs'.free hx, upd_same, rv, tab_pure g2 tab, nT, ok, fun h r g G' H' g3 tab3 n3 e3 r1 r2 r3 => ⟨rfl, ?_⟩⟩
  have g4 : GrM (fun a => a = T) G H G' H' := by
    refine ⟨g3.gg, g3.gh, fun a o e n => ?_, fun a e => g2.dom a (g3.dom a e), fun a e n => ?_, fun a xs e n => ?_⟩
    · have ax : a ≠ x := ne_of_none e hx
      have ad : a ≠ dx := ne_of_none e hdx
      exact g3.hh a o (by rw [upd_ne ax, upd_ne ad]; exact e) fun z => z.elim n ax
    · have ax : a ≠ x := fun z => n (z ▸ hx)
      have ad : a ≠ dx := fun z => n (z ▸ hdx)
      have := g3.new a e (by rw [upd_ne ax, upd_ne ad]; exact n)
      rw [upd_ne ax, upd_ne ad] at this
      exact this
    · have ax : a ≠ x := fun z => n (z ▸ hx)
      have ad : a ≠ dx := fun z => n (z ▸ hdx)
      have := g3.tup a xs e (by rw [upd_ne ax, upd_ne ad]; exact n)
      rw [upd_ne ax, upd_ne ad] at this
      exact this
  have s4 := same_upd (o := .ins C dx (bfs h r g .non)) n3
  exact k x _ H' hx (g4.know hx n3 e3) tab3 ⟨dx, h, r, g, upd_same, r1.mono s4, r2.mono s4, r3.mono s4⟩
end
end Bp

set_option Elab.async false
set_option linter.all false
set_option maxRecDepth 100000
set_option maxHeartbeats 1000001
namespace Bp
open PySem PySem.Spec L2 PyProof.Rows LamX
/-! ### the stream -/
theorem kpop {X : Cx} : MtR X "list.pop" rPopAt := mt_popAt
section
variable {K : PySem.W.Frag} {σ : L2.St} {G : Hp} {ta tb : TE} {i j : Int}
theorem ev_intsC {c : Int → Int → Prop} {g : Int → Int → Int} (ha : EvD ta σ G (.int i)) (hb : EvD tb σ G (.int j)) (hc : c i j) : EvD (tOp (rI c fun i j => .int (g i j)) ta tb) σ G (.int (g i j)) :=
  ev_op ha hb fun G1 x y rx ry => rv_flat (fun _ => .int _) fun H1 s Q q => ⟨i, j, rx.int_eq, ry.int_eq, hc, q⟩
theorem ev_int1 (ha : EvD ta σ G (.int i)) : EvD (tCB (fun xs H Q => (∃ i, xs = [V.int i] ∧ Q (.int i) H) ∨ ∃ k, xs = [V.bl k] ∧ Q (.int (if k then 1 else 0)) H) (tCons ta tNil)) σ G (.int i) :=
  ev_cb (ea_one ha) fun G1 vs r => fun G2 H2 a b Q kk => by
    obtain ⟨v, rfl, rv⟩ := rp1 r
    rw [Rp.int_eq rv]
    exact .inl ⟨i, rfl, kk _ G2 H2 (Gr.refl b) (.int i)⟩
theorem ev_run {te : TE} {H : Hp} {Q : VK} (h : EvD te σ G (.int i)) (s : Same G H) (k : ∀ H2, Same H H2 → Q (.int i) H2) : te σ H Q := h G H (Same.refl _) s _ fun v G2 H2 g2 r2 => by rw [r2.int_eq]; exact k H2 g2.same
end
/-- the stream's two lists -/
def stL (C : Addr) (a b c : Int) : HO := .lst [.ref C, .int a, .int b, .int c]
def stC (ns : List Int) : HO := .lst (ns.map V.int)
theorem stL_nt {C : Addr} {a b c : Int} : ∀ xs, stL C a b c ≠ .tup xs := fun _ z => by unfold stL at z; cases z
theorem stC_nt {ns : List Int} : ∀ xs, stC ns ≠ .tup xs := fun _ z => by unfold stC at z; cases z
def MS (S C : Addr) : Addr → Prop := fun x => x = S ∨ x = C
structure SH (S C : Addr) (H : Hp) (a b c : Int) (ns : List Int) : Prop where
  s : H S = some (stL C a b c)
  c : H C = some (stC ns)
  ne : S ≠ C
structure Strm (S C : Addr) (n : Nat) (G H : Hp) : Prop where
  nS : G S = none
  nC : G C = none
  at' : ∃ (a b c : Int) (ns : List Int), SH S C H a b c ns ∧ 0 ≤ b ∧ b ≤ n ∧ 0 ≤ c ∧ c ≤ 2147483647
def gS (S C : Addr) (a b c : Int) (ns : List Int) : Hp := upd (upd (fun _ => none) C (stC ns)) S (stL C a b c)
section
variable {K : PySem.W.Frag} {S C : Addr} {H H' : Hp} {a b c : Int} {ns : List Int} {σ : L2.St}
theorem rp_ints (G : Hp) : ∀ ns : List Int, RpAll G (ns.map V.int) (ns.map PyData.int)
  | [] => .nil
  | n :: r => .cons (.int n) (rp_ints G r)
theorem SH.same (h : SH S C H a b c ns) : Same (gS S C a b c ns) H := fun x o e => by
  unfold gS at e
  by_cases h1 : x = S
  · subst h1; rw [upd_same] at e; rw [h.s]; exact e
  · rw [upd_ne h1] at e
    by_cases h2 : x = C
    · subst h2; rw [upd_same] at e; rw [h.c]; exact e
    · rw [upd_ne h2] at e; cases e
theorem SH.keep (h : SH S C H a b c ns) (s : Same H H') : SH S C H' a b c ns := ⟨s _ _ h.s, s _ _ h.c, h.ne⟩
theorem SH.rp (ne : S ≠ C) : Rp (gS S C a b c ns) (.ref S) (.list [.list (ns.map PyData.int), .int a, .int b, .int c]) :=
  .lst (a := S) (xs := [.ref C, .int a, .int b, .int c]) (by unfold gS; rw [upd_same]; rfl) (.cons (.lst (a := C) (xs := ns.map V.int) (by unfold gS; rw [upd_ne (Ne.symm ne), upd_same]; rfl) (rp_ints _ ns)) (.cons (.int a) (.cons (.int b) (.one (.int c)))))
theorem ev_s0 (hσ : σ[0]? = some (some (.ref S))) (ne : S ≠ C) : EvD (tOp (rIx K) (tVar 0) (tC (.int 0))) σ (gS S C a b c ns) (.list (ns.map PyData.int)) := ev_ix (k := true) (ds := [.list (ns.map PyData.int), .int a, .int b, .int c]) (ev_var hσ (SH.rp ne)) ev_int rfl
theorem ev_s1 (hσ : σ[0]? = some (some (.ref S))) (ne : S ≠ C) : EvD (tOp (rIx K) (tVar 0) (tC (.int 1))) σ (gS S C a b c ns) (.int a) := ev_ix (k := true) (ds := [.list (ns.map PyData.int), .int a, .int b, .int c]) (ev_var hσ (SH.rp ne)) ev_int rfl
theorem ev_s2 (hσ : σ[0]? = some (some (.ref S))) (ne : S ≠ C) : EvD (tOp (rIx K) (tVar 0) (tC (.int 2))) σ (gS S C a b c ns) (.int b) := ev_ix (k := true) (ds := [.list (ns.map PyData.int), .int a, .int b, .int c]) (ev_var hσ (SH.rp ne)) ev_int rfl
theorem ev_s3 (hσ : σ[0]? = some (some (.ref S))) (ne : S ≠ C) : EvD (tOp (rIx K) (tVar 0) (tC (.int 3))) σ (gS S C a b c ns) (.int c) := ev_ix (k := true) (ds := [.list (ns.map PyData.int), .int a, .int b, .int c]) (ev_var hσ (SH.rp ne)) ev_int rfl
/-- stream[k] = e -/
theorem b_set {te : TE} {tz : TS} {D : Ends} {i k : Int} {j : Nat} {a' b' c' : Int} (hσ : σ[0]? = some (some (.ref S))) (h : SH S C H a b c ns) (he : EvD te σ (gS S C a b c ns) (.int i)) (hk : ixN 4 k = some j) (hs : [V.ref C, .int a, .int b, .int c].set j (.int i) = [V.ref C, .int a', .int b', .int c'])
    (kk : ∀ H2 H3, Same H H2 → H3 = upd H2 S (stL C a' b' c') → SH S C H3 a' b' c' ns → tz D σ H3) : tSeq (tAsg te (gSub (tVar 0) (tC (.int k)) rSetL)) tz D σ H :=
  ev_run he h.same fun H2 s2 => ⟨_, hσ, S, _, k, j, rfl, rfl, (h.keep s2).s, hk, by
    rw [hs]
    exact kk H2 _ s2 rfl ⟨upd_same, by rw [upd_ne (Ne.symm h.ne)]; exact (h.keep s2).c, h.ne⟩⟩
theorem b_set1 {te : TE} {D : Ends} {i k : Int} {j : Nat} {a' b' c' : Int} (hσ : σ[0]? = some (some (.ref S))) (h : SH S C H a b c ns) (he : EvD te σ (gS S C a b c ns) (.int i)) (hk : ixN 4 k = some j) (hs : [V.ref C, .int a, .int b, .int c].set j (.int i) = [V.ref C, .int a', .int b', .int c'])
    (kk : ∀ H2 H3, Same H H2 → H3 = upd H2 S (stL C a' b' c') → SH S C H3 a' b' c' ns → D.nx σ H3) : tAsg te (gSub (tVar 0) (tC (.int k)) rSetL) D σ H :=
  ev_run he h.same fun H2 s2 => ⟨_, hσ, S, _, k, j, rfl, rfl, (h.keep s2).s, hk, by
    rw [hs]
    exact kk H2 _ s2 rfl ⟨upd_same, by rw [upd_ne (Ne.symm h.ne)]; exact (h.keep s2).c, h.ne⟩⟩
end
/-- .. all that lies elsewhere is kept -/
theorem gr_set {S C : Addr} {G H H2 : Hp} {o : HO} {G0 H0 : Hp} (g : GrM (MS S C) G0 H0 G H) (s : Same H H2) (nS : G S = none) (ho : ∀ xs, o ≠ .tup xs) : GrM (MS S C) G0 H0 G (upd H2 S o) := (g.more s).mutM (.inl ⟨.inl rfl, ho⟩) nS
theorem gr_setC {S C : Addr} {G H H2 : Hp} {o : HO} {G0 H0 : Hp} (g : GrM (MS S C) G0 H0 G H) (s : Same H H2) (nC : G C = none) (ho : ∀ xs, o ≠ .tup xs) : GrM (MS S C) G0 H0 G (upd H2 C o) := (g.more s).mutM (.inl ⟨.inr rfl, ho⟩) nC
theorem pop_c {K : PySem.W.Frag} {S C : Addr} {H : Hp} {a b c n : Int} {ns : List Int} {σ : L2.St} {tz : TS} {D : Ends} {i : Nat} (hσ : σ[0]? = some (some (.ref S))) (h : SH S C H a b c (n :: ns))
    (k : SH S C (upd H C (stC ns)) a b c ns → tz D (σ.set i (some (.int n))) (upd H C (stC ns))) : tSeq (tAsg (tBM K "list" rPopAt (tOp (rIx K) (tVar 0) (tC (.int 0))) (tCons (tC (.int 0)) tNil)) (gName i)) tz D σ H :=
  ⟨_, hσ, .inl ⟨S, _, 0, .ref C, rfl, rfl, sqL h.s, rfl, .inl ⟨rfl, _, sqL h.c⟩, C, V.int n :: ns.map V.int, 0, 0, .int n, rfl, rfl, h.c, by decide, by decide, (by
    show seqIndex? 0 ((ns.map V.int).length + 1) = some 0
    exact (ixN_seq (show ixN ((ns.map V.int).length + 1) 0 = some 0 by unfold ixN; rw [if_pos (by decide), if_pos (by omega)]; rfl)).1), rfl, k ⟨by rw [upd_ne h.ne]; exact h.s, upd_same, h.ne⟩⟩⟩
theorem eqv_ints0 : ∀ ns : List Int, PyData.eqv (.list (ns.map PyData.int)) (.list []) = ns.isEmpty
  | [] => rfl
  | n :: r => by simp [PyData.eqv, PyData.eqvAll]
theorem sh_ints (ns : List Int) : Sh 1 (.list (ns.map PyData.int)) := sh_map (k := true) (n := 0) fun i _ => sh_int i
def spDraw : Sp := fun vs H Q _ => ∃ (G : Hp) (S C : Addr) (n : Nat) (m : Int), vs = [.ref S, .int m] ∧ 0 < m ∧ m ≤ 1000 ∧ n ≤ 1000000 ∧ Same G H ∧ Strm S C n G H ∧
  ∀ r H', 0 ≤ r → r < m → GrM (MS S C) G H G H' → Strm S C (n + 1) G H' → Q (.int r) H'
section
variable {P : Program} {w : World} {K : PySem.W.Frag} {mg : Str → Option Value} {base : Heap}
theorem small64 {x : Int} (h0 : 0 ≤ x) (h : x < 18446744073709551616) : x.natAbs < 2 ^ 64 := by
  have e : (2 : Nat) ^ 64 = 18446744073709551616 := by decide
  rw [e]; omega
theorem two64 : (2 : Int) ^ 64 = 18446744073709551616 := by decide
theorem cmul_r {i j : Int} (h0 : 0 ≤ j) (h : j < 18446744073709551616) : CMul i j := .inr (by rw [two64]; omega)
theorem cmul_l {i j : Int} (h0 : 0 ≤ i) (h : i < 18446744073709551616) : CMul i j := .inl (by rw [two64]; omega)
theorem ok_draw (Dfn : Df K mg "_law_draw" s_l_draw ["_law_stream", "_law_many"]) (B : Blt mg) : Cal P w K mg base 1 "_law_draw" ["_law_stream", "_law_many"] spDraw := by
  refine cal_of Dfn sc_l_draw (fun vs H Q E h => by obtain ⟨G, S, C, n, m, rfl, _⟩ := h; rfl) fun f cdv A outer s H vs Q E hr h => ?_
  obtain ⟨G, S, C, n, m, rfl, m0, m1, hn, g, st, q⟩ := h
  obtain ⟨nS, nC, a, b, c, ns, sh, b0, bn, c0, c1⟩ := st
  refine ⟨_, (pss_cons (ps_asg (pe_op op_add (pe_ix (kix (K := K)) (pv 0) pe_int (fun _ _ => rfl)) pe_int) (pg_sub (pv 0) pe_int set_list))
    (pss_cons (ps_while PassesOwn.never (PW.pt (pw_and (pt_cmpR (keq (K := K) hr.units) (pe_ix (kix (K := K)) (pv 0) pe_int (fun _ _ => rfl)) pe_int (nomark _)) (pw_and1 (pt_cmpR (kne (K := K) hr.units) (pe_ix (kix (K := K)) (pv 0) pe_int (fun _ _ => rfl)) (pe_lst pa_nil) (nomark _)))))
      (pss_cons (ps_set (i := 2) sc_l_draw.nd rfl (Or.inl rfl) (kbm (K := K) (pe_bm PySem.F.plainAttrs_list PySem.F.slot_list_pop PySem.F.type_list_pop kpop (pe_ix (kix (K := K)) (pv 0) pe_int (fun _ _ => rfl)) (pa_cons pe_int pa_nil))))
    (pss_cons (ps_asg (pe_op op_mod (pe_callTy call_int1 rfl B.int (by decide +kernel) (pa_cons (pe_op op_add (pe_op op_add (pe_op op_mul (pe_ix (kix (K := K)) (pv 0) pe_int (fun _ _ => rfl)) pe_int) (pv 2)) pe_int) pa_nil)) pe_int) (pg_sub (pv 0) pe_int set_list))
    (pss_one (ps_asg (pe_ifExp (pt_cmpR op_ge (pv 2) (pe_op op_pow pe_int pe_int) (nomark _)) (pv 2) pe_int) (pg_sub (pv 0) pe_int set_list))))))
    (pss_cons (ps_if (pt_cmpR op_gt (pe_ix (kix (K := K)) (pv 0) pe_int (fun _ _ => rfl)) pe_int (nomark _)) (pss_cons (ps_set (i := 3) sc_l_draw.nd rfl (Or.inl rfl) (pe_op op_mod (pe_callTy call_int1 rfl B.int (by decide +kernel) (pa_cons (pe_ix (kix (K := K)) (pv 0) pe_int (fun _ _ => rfl)) pa_nil)) (pv 1)))
    (pss_cons (ps_asg (pe_op op_fdiv (pe_ix (kix (K := K)) (pv 0) pe_int (fun _ _ => rfl)) (pv 1)) (pg_sub (pv 0) pe_int set_list))
    (pss_one (ps_ret (pv 3))))) pss_nil)
    (pss_cons (ps_set (i := 4) sc_l_draw.nd rfl (Or.inl rfl) (pe_op op_mod (pe_callTy call_int1 rfl B.int (by decide +kernel) (pa_cons (pe_op op_pow (pe_op op_add (pe_op op_add (pe_ix (kix (K := K)) (pv 0) pe_int (fun _ _ => rfl)) (pe_op op_mul pe_int (pe_ix (kix (K := K)) (pv 0) pe_int (fun _ _ => rfl)))) pe_int) pe_int) pa_nil)) pe_int))
    (pss_one (ps_ret (pe_op op_mod (pe_op op_mod (pe_callTy call_int1 rfl B.int (by decide +kernel) (pa_cons (pe_op op_pow (pe_op op_add (pe_op op_add (pe_op op_mul (pv 4) pe_int) (pe_op op_mul pe_int (pe_ix (kix (K := K)) (pv 0) pe_int (fun _ _ => rfl)))) pe_int) pe_int) pa_nil)) pe_int) (pv 1)))))))), ?_⟩
  have g0 : GrM (MS S C) G H G H := GrM.refl g
  refine b_set (a' := a) (b' := b + 1) (c' := c) (j := 2) rfl sh (ev_add (ev_s2 rfl sh.ne) ev_int) rfl rfl fun H1 H2 s1 e2 sh2 => ?_
  have g2 : GrM (MS S C) G H G H2 := by rw [e2]; exact gr_set g0 s1 nS stL_nt
  refine ⟨fun mm σ' H' => ∃ a' c' ns' y2, σ' = [some (.ref S), some (.int m), y2, none, none] ∧ mm = ns'.length ∧ GrM (MS S C) G H G H' ∧ SH S C H' a' (b + 1) c' ns' ∧ 0 ≤ c' ∧ c' ≤ 2147483647, ⟨_, a, c, ns, none, rfl, rfl, g2, sh2, c0, c1⟩, ?_⟩
  rintro mm σ' H' ⟨a', c', ns', y2, rfl, rfl, g', sh', c0', c1'⟩
  have tst : EvB _ [some (.ref S), some (.int m), y2, none, none] (gS S C a' (b + 1) c' ns') (decide (a' = 0) && !ns'.isEmpty) := eb_and (eb_test (ev_eqI (K := K) (ev_s1 (K := K) rfl sh'.ne) ev_int)) fun _ => eb_test (EvD.is (ev_ne (K := K) (ev_s0 (K := K) rfl sh'.ne) (ev_lst ea_nil (by decide)) (sh_ints ns').shaped (sh_list (n := 0) (ds := []) (fun _ z => by cases z)).shaped) (by rw [eqv_ints0]))
  refine tst _ H' (Same.refl _) sh'.same _ fun H3 s3 => ?_
  have sh3 := sh'.keep s3
  have g3 := g'.more s3
  cases hb : (decide (a' = 0) && !ns'.isEmpty) with
  | true =>
    refine iteT ⟨fun σ4 H4 => ∃ a4 c4 ns4 y4, σ4 = [some (.ref S), some (.int m), y4, none, none] ∧ ns4.length + 1 = ns'.length ∧ GrM (MS S C) G H G H4 ∧ SH S C H4 a4 (b + 1) c4 ns4 ∧ 0 ≤ c4 ∧ c4 ≤ 2147483647, fun σ4 H4 ⟨a4, c4, ns4, y4, e1, e2, r⟩ => ⟨ns4.length, by omega, a4, c4, ns4, y4, e1, rfl, r⟩, ?_⟩
    cases ns' with
    | nil => simp at hb
    | cons n ns' =>
      refine pop_c rfl sh3 fun sh4 => ?_
      have g4 : GrM (MS S C) G H G (upd H3 C (stC ns')) := gr_setC g3 (Same.refl _) nC stC_nt
      have p1 : 0 ≤ (c' * 8191 + n + 3) % 2147483647 := Int.emod_nonneg _ (by decide)
      have p2 : (c' * 8191 + n + 3) % 2147483647 < 2147483647 := Int.emod_lt_of_pos _ (by decide)
      refine b_set (a' := a') (b' := b + 1) (c' := (c' * 8191 + n + 3) % 2147483647) (j := 3) rfl sh4 (ev_intsC (g := fun i j => i % j) (ev_int1 (ev_add (ev_add (ev_intsC (g := fun i j => i * j) (ev_s3 rfl sh4.ne) ev_int (cmul_r (by decide) (by decide))) (ev_var (v := .int n) rfl (.int n))) ev_int)) ev_int (by decide)) rfl rfl fun H5 H6 s5 e6 sh6 => ?_
      have g6 : GrM (MS S C) G H G H6 := by rw [e6]; exact gr_set g4 s5 nS stL_nt
      refine b_set1 (a' := if decide (1000000000000000000 ≤ n) = true then n else 0) (b' := b + 1) (c' := (c' * 8191 + n + 3) % 2147483647) (j := 1) rfl sh6 (ev_if (b := decide (1000000000000000000 ≤ n)) (eb_test (ev_cmp (p := fun i j => decide (j ≤ i)) (ev_var (v := .int n) rfl (.int n)) (EvD.is (ev_intsC (g := fun i j => i ^ j.toNat) ev_int ev_int (⟨by decide, by decide, by decide⟩ : CPow 10 18)) (congrArg PyData.int (by decide : (10 : Int) ^ (18 : Int).toNat = 1000000000000000000))))) (fun hb => EvD.is (ev_var (v := .int n) rfl (.int n)) (by rw [if_pos hb])) (fun hb => EvD.is ev_int (by rw [if_neg (by rw [hb]; exact Bool.false_ne_true)]))) rfl rfl fun H7 H8 s7 e8 sh8 => ?_
      exact ⟨_, _, ns', _, rfl, by simp, by rw [e8]; exact gr_set g6 s7 nS stL_nt, sh8, p1, Int.le_of_lt p2⟩
  | false =>
    refine iteF ?_
    refine b_when (EvB.is (eb_test (ev_cmp (p := fun i j => decide (j < i)) (ev_s1 (K := K) (σ := [some (.ref S), some (.int m), y2, none, none]) rfl sh3.ne) ev_int)) rfl) sh3.same (fun ha H4 s4 => ?_) (fun ha H4 s4 => ?_)
    · have sh4 := sh3.keep s4
      have ha := of_decide_eq_true ha
      have g4 := g3.more s4
      refine ev_run (G := gS S C a' (b + 1) c' ns') (σ := [some (.ref S), some (.int m), y2, none, none]) (i := a' % m) (ev_intsC (g := fun i j => i % j) (ev_int1 (ev_s1 rfl sh4.ne)) (ev_var (v := .int m) rfl (.int m)) m0) sh4.same fun H5 s5 => ?_
      have sh5 := sh4.keep s5
      have g5 := g4.more s5
      refine b_set (a' := a' / m) (b' := b + 1) (c' := c') (j := 1) rfl sh5 (ev_intsC (g := fun i j => i / j) (ev_s1 rfl sh5.ne) (ev_var (v := .int m) rfl (.int m)) ⟨m0, by omega⟩) rfl rfl fun H6 H7 s6 e7 sh7 => ?_
      have g7 : GrM (MS S C) G H G H7 := by rw [e7]; exact gr_set g5 s6 nS stL_nt
      exact ⟨_, rfl, q _ H7 (Int.emod_nonneg _ (by omega)) (Int.emod_lt_of_pos _ m0) g7 ⟨nS, nC, _, _, _, _, sh7, by omega, by omega, c0', c1'⟩⟩
    · have sh4 := sh3.keep s4
      have g4 := g3.more s4
      have b2 : b + 1 ≤ 1000001 := by omega
      have q1 : 0 ≤ (c' + 7919 * (b + 1) + 104729) ^ 5 % 2147483629 := Int.emod_nonneg _ (by decide)
      have q2 : (c' + 7919 * (b + 1) + 104729) ^ 5 % 2147483629 < 2147483629 := Int.emod_lt_of_pos _ (by decide)
      refine ev_run (i := (c' + 7919 * (b + 1) + 104729) ^ 5 % 2147483629) (ev_intsC (g := fun i j => i % j) (ev_int1 (ev_intsC (g := fun i j => i ^ j.toNat) (ev_add (ev_add (ev_s3 rfl sh4.ne) (ev_intsC (g := fun i j => i * j) ev_int (ev_s2 rfl sh4.ne) (cmul_l (by decide) (by decide)))) ev_int) ev_int (⟨by decide, by decide, small64 (by omega) (by omega)⟩ : CPow (c' + 7919 * (b + 1) + 104729) 5))) ev_int (by decide)) sh4.same fun H5 s5 => ?_
      generalize (c' + 7919 * (b + 1) + 104729) ^ 5 % 2147483629 = mx at q1 q2 ⊢
      have sh5 := sh4.keep s5
      have g5 := g4.more s5
      refine ev_run (ev_intsC (g := fun i j => i % j) (ev_intsC (g := fun i j => i % j) (ev_int1 (ev_intsC (g := fun i j => i ^ j.toNat) (ev_add (ev_add (ev_intsC (g := fun i j => i * j) (ev_var (v := .int mx) rfl (.int mx)) ev_int (cmul_r (by decide) (by decide))) (ev_intsC (g := fun i j => i * j) ev_int (ev_s2 rfl sh5.ne) (cmul_l (by decide) (by decide)))) ev_int) ev_int (⟨by decide, by decide, small64 (by omega) (by omega)⟩ : CPow (mx * 48271 + 30011 * (b + 1) + 29) 3))) ev_int (by decide)) (ev_var (v := .int m) rfl (.int m)) m0) sh5.same fun H6 s6 => ?_
      exact q _ H6 (Int.emod_nonneg _ (by omega)) (Int.emod_lt_of_pos _ m0) (g5.more s6) ⟨nS, nC, _, _, _, _, sh5.keep s6, by omega, by omega, c0', c1'⟩
end
end Bp

set_option Elab.async false
set_option linter.all false
set_option maxRecDepth 100000
set_option maxHeartbeats 1000001
namespace Bp
open PySem PySem.Spec L2 PyProof.Rows LamX
theorem Strm.mono {S C : Addr} {m n : Nat} {G H : Hp} (s : Strm S C m G H) (h : m ≤ n) : Strm S C n G H := by
  obtain ⟨h1, h2, a, b, c, ns, h3, h4, h5, h6⟩ := s
  exact ⟨h1, h2, a, b, c, ns, h3, h4, by omega, h6⟩
/-- what is done elsewhere does not touch the stream -/
theorem Strm.other {S C : Addr} {n : Nat} {M : Addr → Prop} {G H G' H' : Hp} (s : Strm S C n G H) (g : GrM M G H G' H') (h1 : ¬ M S) (h2 : ¬ M C) : Strm S C n G' H' := by
  obtain ⟨k1, k2, a, b, c, ns, sh, r⟩ := s
  exact ⟨g.out k1 sh.s stL_nt, g.out k2 sh.c stC_nt, a, b, c, ns, ⟨g.hh _ _ sh.s h1, g.hh _ _ sh.c h2, sh.ne⟩, r⟩
theorem Strm.pure {S C : Addr} {n : Nat} {G H G' H' : Hp} (s : Strm S C n G H) (g : Gr G H G' H') : Strm S C n G' H' := s.other g (fun z => z) fun z => z
theorem Strm.s_some {S C : Addr} {n : Nat} {G H : Hp} (s : Strm S C n G H) : H S ≠ none := by
  obtain ⟨_, _, a, b, c, ns, sh, _⟩ := s
  rw [sh.s]; simp
theorem Strm.c_some {S C : Addr} {n : Nat} {G H : Hp} (s : Strm S C n G H) : H C ≠ none := by
  obtain ⟨_, _, a, b, c, ns, sh, _⟩ := s
  rw [sh.c]; simp
theorem GrM.less {M M' : Addr → Prop} {G H G' H' : Hp} (g : GrM M' G H G' H') (h : ∀ a, M' a → ¬ M a → H a = none) : GrM M G H G' H' :=
  ⟨g.gg, g.gh, fun a o e n => g.hh a o e fun m => absurd (h a m n) (by rw [e]; simp), g.dom, g.new, g.tup⟩
/-- a comprehension whose turns may change things -/
theorem lc_eff {β : Type} {bs : List β} {enc : β → PyData} {J : It} {G1 H1 : Hp} {g : TG} {te : TE} {vs : List Nat} {σ : L2.St} {D : Addr} {Qd : Hp → Prop} (M : Addr → Prop) (P : Nat → Hp → Hp → List PyData → Prop)
    (dw : DWalk J G1 (bs.map enc)) (s1 : Same G1 H1) (hD : H1 D = none) (hz : bs.length ≤ 16000000) (hM : ¬ M D) (p0 : P 0 G1 H1 [])
    (hP : ∀ i G H G' H' ads, P i G H ads → GrM (fun a => a = D) G H G' H' → P i G' H' ads)
    (hs : ∀ i b x G H ads, bs[i]? = some b → P i G H ads → ads.length = i → Same G1 G → Same G H → Rp G x (enc b) → ∀ R : VK, (∀ y G3 H3 d, GrM M G H G3 H3 → P (i + 1) G3 H3 (ads ++ [d]) → Rp G3 y d → R y H3) → g x (wipe σ vs) H fun σ2 H2 => wipe σ2 vs = wipe σ vs ∧ te σ2 H2 R)
    (hd : ∀ G G' H ads, P bs.length G H ads → ads.length = bs.length → (∀ a, a ≠ D → G' a = G a) → GrM M G1 H1 G' H → Rp G' (.ref D) (.list ads) → Qd H) :
    ∃ W : Nat → Nat → Hp → Prop, (∃ m, W 0 m (upd H1 D (.lst []))) ∧ ∀ i m H, W i m H →
      (J.stop i H ∧ Qd H) ∨ (J.go i H ∧ ∃ Nx : Hp → Prop, (∀ H', Nx H' → ∃ m', m' < m ∧ W (i + 1) m' H') ∧ ∀ x H', J.yld i H x H' → g x (wipe σ vs) H' fun σ2 H2 => wipe σ2 vs = wipe σ vs ∧ tYes σ2 H2 fun b H3 =>
        if b = true then te σ2 H3 fun y H4 => ∃ acc, H4 D = some (.lst acc) ∧ acc.length < sizeLine ∧ Nx (upd H4 D (.lst (acc ++ [y]))) else Nx H3) := by
  have en : (bs.map enc).length = bs.length := List.length_map _
  refine ⟨fun i m H => m = bs.length - i ∧ i ≤ bs.length ∧ ∃ G ads acc, P i G H ads ∧ ads.length = i ∧ GrM M G1 H1 G H ∧ G D = none ∧ H D = some (.lst acc) ∧ RpAll G acc ads, ⟨bs.length, by simp, Nat.zero_le _, G1, [], [], hP _ _ _ _ _ _ p0 (Gr.toM (Gr.lay s1 hD)), rfl, Gr.toM (Gr.lay s1 hD), s1.free hD, upd_same, .nil⟩, ?_⟩
  rintro i m H ⟨rfl, hi, G, ads, acc, p, la, gr, nD, eD, ra⟩
  have sG := gr.gg
  by_cases hlt : i < bs.length
  · obtain ⟨b, hb⟩ : ∃ b, bs[i]? = some b := ⟨bs[i], List.getElem?_eq_getElem hlt⟩
    have hdb : (bs.map enc)[i]? = some (enc b) := by rw [List.getElem?_map, hb]; rfl
    refine .inr ⟨dw.goes i H (by rw [en]; exact hlt) (sG.trans gr.gh), fun H' => ∃ G ads acc, P (i + 1) G H' ads ∧ ads.length = i + 1 ∧ GrM M G1 H1 G H' ∧ G D = none ∧ H' D = some (.lst acc) ∧ RpAll G acc ads, fun H' p' => ⟨bs.length - (i + 1), by omega, rfl, hlt, p'⟩, fun x H' y => ?_⟩
    obtain ⟨G2, g2, rx⟩ := dw.yields i G H x H' _ hdb sG gr.gh y
    have n2 := g2.outL nD eD
    have e2 := g2.same _ _ eD
    have p2 := hP _ _ _ _ _ _ p (Gr.toM g2)
    have gr2 := gr.trans (Gr.toM g2)
    have key := hs i b x G2 H' ads hb p2 la (sG.trans g2.gg) g2.gh rx
    refine key (fun y H4 => ∃ acc, H4 D = some (.lst acc) ∧ acc.length < sizeLine ∧ ∃ G ads acc', P (i + 1) G (upd H4 D (.lst (acc ++ [y]))) ads ∧ ads.length = i + 1 ∧ GrM M G1 H1 G (upd H4 D (.lst (acc ++ [y]))) ∧ G D = none ∧ (upd H4 D (.lst (acc ++ [y]))) D = some (.lst acc') ∧ RpAll G acc' ads) fun y G3 H3 d g3 p3 r3 => ?_
    have n3 := g3.outL n2 e2
    have e3 := g3.hh _ _ e2 hM
    have gD : GrM (fun a => a = D) G3 H3 G3 (upd H3 D (.lst (acc ++ [y]))) := (GrM.refl (M := fun a => a = D) g3.gh).mutM (.inl ⟨rfl, fun _ z => nomatch z⟩) n3
    refine ⟨acc, e3, ?_, G3, ads ++ [d], acc ++ [y], hP _ _ _ _ _ _ p3 gD, by rw [List.length_append, la]; rfl, (gr2.trans g3).mut hD n3, n3, upd_same, (ra.mono (g2.gg.trans g3.gg)).snoc r3⟩
    rw [ra.length, la, sizeLine_eq]
    omega
  · have e : i = bs.length := by omega
    subst e
    refine .inl ⟨?_, ?_⟩
    · have := dw.stops H (sG.trans gr.gh)
      rw [en] at this
      exact this
    · have gk := gr.know hD nD eD
      exact hd G _ H ads p la (fun a n => upd_ne n) gk (.lst upd_same (ra.mono (same_upd nD)))
theorem dwalk_rng (G : Hp) (n : Nat) : DWalk (Itr 0 ((n : Int).toNat)) G ((List.range n).map fun (i : Nat) => .int (i : Int)) := by
  have en : (n : Int).toNat = n := Int.toNat_natCast n
  have hl : ((List.range n).map fun (i : Nat) => PyData.int (i : Int)).length = n := by simp
  refine ⟨fun i H hi _ => ?_, fun H _ => ?_, fun i G3 H3 x H' d hd s s' ⟨e1, e2⟩ => ⟨G3, by rw [e1]; exact Gr.refl s', ?_⟩⟩
  · show i < (n : Int).toNat
    rw [hl] at hi; omega
  · show (n : Int).toNat ≤ _
    rw [hl]; omega
  · have hi : i < n := by
      have := (List.getElem?_eq_some_iff.mp hd).1
      rw [hl] at this; exact this
    have : d = .int (i : Int) := by
      simp [hi] at hd
      exact hd.symm
    rw [this, e2, Int.zero_add]
    exact .int _
theorem perm_erase {β : Type} : ∀ {l : List β} {j : Nat} {d : β}, l[j]? = some d → (d :: l.eraseIdx j).Perm l
  | [], j, d, h => by simp at h
  | x :: l, 0, d, h => by
    have h := Option.some.inj h
    subst h
    exact List.Perm.refl _
  | x :: l, j + 1, d, h => (List.Perm.swap x d _).trans ((perm_erase (l := l) (j := j) h).cons x)
/-- a def that draws: what it is handed beside the stream, what it costs, what comes of it -/
def spS {τ : Type} (ea : τ → List PyData) (ok : τ → Prop) (cost : Nat) (res : τ → PyData → Prop) : Sp := fun vs H Q _ => ∃ (G : Hp) (S C : Addr) (n : Nat) (us : List V) (x : τ), vs = .ref S :: us ∧ Same G H ∧ Strm S C n G H ∧ RpAll G us (ea x) ∧ ok x ∧ n + cost ≤ 1000000 ∧
  ∀ v d G' H', res x d → GrM (MS S C) G H G' H' → Strm S C (n + cost) G' H' → Rp G' v d → Q v H'
theorem spS_len {τ : Type} {ea : τ → List PyData} {ok : τ → Prop} {cost : Nat} {res : τ → PyData → Prop} {m : Nat} (hm : ∀ x, (ea x).length = m) : ∀ vs H Q E, spS ea ok cost res vs H Q E → vs.length = m + 1 := fun vs H Q E ⟨G, S, C, n, us, x, e, _, _, r, _⟩ => by rw [e, List.length_cons, r.length, hm]
def spMixed : Sp := spS (τ := Bool × List PyData) (fun x => [sq x.1 x.2]) (fun x => x.2.length ≤ 20) 20 (fun x d => ∃ es, d = .list es ∧ es.Perm x.2)
section
variable {P : Program} {w : World} {K : PySem.W.Frag} {mg : Str → Option Value} {base : Heap}
theorem b_listL {σ : L2.St} {G H : Hp} {te : TE} {tz : TS} {D : Ends} {i : Nat} {k : Bool} {ds : List PyData} (g : Same G H) (h : EvD te σ G (sq k ds)) (kk : ∀ p ls G' H', Gr G H G' H' → H' p = none → RpAll G' ls ds → tz D (σ.set i (some (.ref p))) (upd H' p (.lst ls))) :
    tSeq (tAsg (tCB (fun xs H Q => ∃ p ys, xs = [V.ref p] ∧ (SqL K H p ys ∨ SqT K H p ys) ∧ ∀ l, H l = none → Q (.ref l) (upd H l (.lst ys))) (tCons te tNil)) (gName i)) tz D σ H :=
  h G H (Same.refl _) g _ fun v G1 H1 g1 r1 => by
    obtain ⟨a, xs, rfl, r, hp⟩ := r1.sq_at (K := K)
    refine ⟨a, xs, rfl, ?_, fun p hp => kk p xs G1 H1 g1 hp r⟩
    rcases hp with ⟨_, hp⟩ | ⟨_, hp⟩
    · exact .inl (sqL (g1.gh _ _ hp))
    · exact .inr (sqT (g1.gh _ _ hp))
theorem ok_mixed (Dfn : Df K mg "_law_mixed" s_l_mixed ["_law_stream", "_law_some"]) (B : Blt mg) (c_l_draw : Cal P w K mg base 1 "_law_draw" ["_law_stream", "_law_many"] spDraw) : Cal P w K mg base 2 "_law_mixed" ["_law_stream", "_law_some"] spMixed := by
  refine cal_of Dfn sc_l_mixed (spS_len fun _ => rfl) fun f cdv A outer s H vs Q E hr h => ?_
  obtain ⟨G, S, C, n, us, ⟨k, ds⟩, rfl, g, st, r, hz, hn, q⟩ := h
  obtain ⟨v1, rfl, r1⟩ := rp1 r
  simp only at hz
  refine ⟨_, (pss_cons (ps_set (i := 2) sc_l_mixed.nd rfl (Or.inr rfl) (pe_callTy (klist (K := K)) rfl B.list (by decide +kernel) (pa_cons (pv 1) pa_nil)))
    (pss_one (ps_ret (pe_lc (own := [("_law_k", 3)]) rfl sc_l_mixed.nd (pi_range1 rfl B.range (pa_cons (pe_callB (klen (K := K)) rfl B.len PySem.boot_len (pa_cons (pv 2) pa_nil)) pa_nil)) (blkOk_by (N := n_l_mixed) (sc := defScope s_l_mixed) (own := [("_law_k", 3)]) (by decide +kernel)) (fun _ _ _ _ _ => (pg_name (i := 3) sc_l_mixed.nd rfl (Or.inl rfl))) (fun _ _ _ _ _ => pts_nil) (fun _ _ _ _ _ => (kbm (K := K) (pe_bm PySem.F.plainAttrs_list PySem.F.slot_list_pop PySem.F.type_list_pop kpop (pv 2) (pa_cons (pe_cal c_l_draw hr (pa_cons (pv 0) (pa_cons (pe_callB (klen (K := K)) rfl B.len PySem.boot_len (pa_cons (pv 2) pa_nil)) pa_nil))) pa_nil)))))))), ?_⟩
  refine b_listL (K := K) g (ev_var rfl r1) fun p ls G1 H1 g1 hp rl => ?_
  have st1 := st.pure g1
  have nS : S ≠ p := fun z => st1.s_some (z ▸ hp)
  have nC : C ≠ p := fun z => st1.c_some (z ▸ hp)
  have gp : Gr G1 H1 G1 (upd H1 p (.lst ls)) := Gr.lay g1.gh hp
  have len : ls.length = ds.length := rl.length
  refine ⟨.ref p, rfl, p, ls, rfl, .inl (sqL upd_same), (ls.length : Int), rfl, by omega, by omega, fun D hD => ?_⟩
  have pD : p ≠ D := fun z => by rw [← z, upd_same] at hD; cases hD
  have hD1 : H1 D = none := by rw [upd_ne (Ne.symm pD)] at hD; exact hD
  have SD : S ≠ D := fun z => st1.s_some (z ▸ hD1)
  have CD : C ≠ D := fun z => st1.c_some (z ▸ hD1)
  refine lc_eff (bs := List.range ls.length) (fun a => MS S C a ∨ a = p) (fun i G H ads => Strm S C (n + i) G H ∧ G p = none ∧ ∃ vs lds, H p = some (.lst vs) ∧ RpAll G vs lds ∧ (ads ++ lds).Perm ds ∧ lds.length + i = ds.length) (dwalk_rng G1 ls.length) gp.gh hD (by simp; omega) (fun z => by rcases z with (z | z) | z; exact SD z.symm; exact CD z.symm; exact pD z.symm)
    ⟨st1.pure gp, g1.gh.free hp, ls, ds, upd_same, rl, by simp, by omega⟩ (fun i G H G' H' ads ⟨s2, n2, vs, lds, e2, r2, pm, hl⟩ g2 => ⟨s2.other g2 SD CD, g2.outL n2 e2, vs, lds, g2.hh _ _ e2 pD, r2.mono g2.gg, pm, hl⟩)
    (fun i b x G2 H2 ads hb ⟨s2, n2, vs, lds, e2, r2, pm, hl⟩ la _ sg rx R kR => ?_) fun G2 G3 H2 ads ⟨s2, n2, vs, lds, e2, r2, pm, hl⟩ la hG g3 rD => ?_
  · have hi : i < ls.length := by
      have := (List.getElem?_eq_some_iff.mp hb).1
      simpa using this
    have lv := r2.length
    refine ⟨rfl, .ref p, rfl, .inl ⟨rfl, vs, sqL e2⟩, .ref S, rfl, .ref p, rfl, p, vs, rfl, .inl (sqL e2), G2, S, C, n + i, (vs.length : Int), rfl, by omega, by omega, by omega, sg, s2, fun r H3 r0 r1' g3 st3 => ?_⟩
    have e3 : H3 p = some (.lst vs) := g3.hh _ _ e2 fun z => by rcases z with z | z; exact nS z.symm; exact nC z.symm
    obtain ⟨j, ej⟩ := Int.eq_ofNat_of_zero_le r0
    have hj : j < vs.length := by omega
    obtain ⟨y, hy⟩ : ∃ y, vs[j]? = some y := ⟨vs[j], List.getElem?_eq_getElem hj⟩
    obtain ⟨d, hd, rd⟩ := r2.get hy
    have six : seqIndex? r vs.length = some j := (ixN_seq (show ixN vs.length r = some j by unfold ixN; rw [if_pos r0, if_pos r1', ej]; rfl)).1
    have g4 : GrM (fun a => MS S C a ∨ a = p) G2 H2 G2 (upd H3 p (.lst (vs.eraseIdx j))) := (g3.weak fun a z => .inl z).mutM (.inl ⟨.inr rfl, fun _ z => nomatch z⟩) n2
    have st4 : Strm S C (n + (i + 1)) G2 (upd H3 p (.lst (vs.eraseIdx j))) := st3.other (M := fun a => a = p) ((GrM.refl g3.gh).mutM (.inl ⟨rfl, fun _ z => nomatch z⟩) n2) nS nC
    refine ⟨p, vs, r, j, y, rfl, rfl, e3, by omega, by omega, six, hy, kR y G2 _ d g4 ⟨st4, n2, vs.eraseIdx j, lds.eraseIdx j, upd_same, r2.eraseIdx j, ?_, ?_⟩ rd⟩
    · refine List.Perm.trans ?_ pm
      rw [List.append_assoc]
      refine List.Perm.append_left _ ?_
      exact perm_erase hd
    · rw [List.length_eraseIdx]
      rw [if_pos (by omega)]
      omega
  · have e0 : lds = [] := by
      have e : (List.range ls.length).length = ls.length := List.length_range
      rw [e] at hl
      exact List.eq_nil_of_length_eq_zero (by omega)
    subst e0
    have gF : GrM (MS S C) G H G3 H2 := GrM.less ((Gr.toM (M := fun a => MS S C a ∨ a = p) (g1.trans gp)).trans g3) fun a z nz => by
      rcases z with z | z
      · exact absurd z nz
      · subst z; exact g1.dom _ hp
    have e : (List.range ls.length).length = ls.length := List.length_range
    rw [e] at s2
    have s3 : Strm S C (n + 20) G3 H2 := by
      obtain ⟨k1, k2, a, b, c, ns, k3, k4, k5, k6⟩ := s2
      exact ⟨by rw [hG S SD]; exact k1, by rw [hG C CD]; exact k2, a, b, c, ns, k3, k4, by omega, k6⟩
    exact q _ _ G3 H2 ⟨ads, rfl, by simpa using pm⟩ gF s3 rD
end
end Bp

set_option Elab.async false
set_option linter.all false
set_option maxRecDepth 100000
set_option maxHeartbeats 1000001
namespace Bp
open PySem PySem.Spec L2 PyProof.Rows LamX
/-! ### [tuple(sorted(pair)) for pair in zip(a, b)] -/
def withE (X : Cx) (E : Value → Shared → Prop) : Cx := { X with xe := E }
section
variable {X : Cx} {E : Value → Shared → Prop} {pins : List (Addr × Obj)} {σ : L2.St} {H : Hp} {s : Shared} {Q : VK}
theorem inv_to (I : L2.Inv X pins σ H s) : L2.Inv (withE X E) pins σ H s :=
  ⟨⟨I.ok.mod, I.ok.kind, I.ok.glob, I.ok.blt, I.ok.above, I.ok.inj, I.ok.has, I.ok.cab, I.ok.hd, I.ok.frames, I.ok.stk, I.ok.exf, I.ok.bs, I.ok.bsz, I.ok.noex, I.ok.exfs, I.ok.funs, I.ok.frf⟩, I.os, I.bare, I.base, I.loc, I.cell, I.free, I.freeC, I.pin, I.hok, I.len⟩
theorem inv_fro (I : L2.Inv (withE X E) pins σ H s) : L2.Inv X pins σ H s :=
  ⟨⟨I.ok.mod, I.ok.kind, I.ok.glob, I.ok.blt, I.ok.above, I.ok.inj, I.ok.has, I.ok.cab, I.ok.hd, I.ok.frames, I.ok.stk, I.ok.exf, I.ok.bs, I.ok.bsz, I.ok.noex, I.ok.exfs, I.ok.funs, I.ok.frf⟩, I.os, I.bare, I.base, I.loc, I.cell, I.free, I.freeC, I.pin, I.hok, I.len⟩
theorem callE {f : Value} {r : List V → Hp → VK → Prop} {xs : List V} {us : List Value} (h : CallR (withE X E) f r) (I : L2.Inv X pins σ H s) (rv : Vals xs us) (hr : r xs H Q) : wpAny (model X.prog X.w) X.A (call f us) (EP X pins σ Q) E s :=
  wpAny_mono (h pins s σ H xs us Q (inv_to I) rv hr) (fun v s' ⟨y, H', I', r', q⟩ => ⟨y, H', inv_fro I', r', q⟩) fun _ _ z => z
end
theorem no_free_rel {scope : Scope} {env : Env} (h : ∀ y ∈ scope.names, y.2 ≠ .free) : (relabel scope env).names = scope.names := by
  unfold relabel
  show scope.names.map _ = _
  conv => rhs; rw [← List.map_id scope.names]
  refine List.map_congr_left fun y hy => ?_
  obtain ⟨n, k⟩ := y
  have := h _ hy
  cases k <;> first | rfl | exact absurd rfl this
/-- the tuples that come of it -/
def RingIs (H : Hp) (ps : List (Hd × Hd)) (bs : List Addr) : Prop := Paired (fun p b => H b = some (.tup ((sH [p.1, p.2]).map fun h => V.str (hname h)))) ps bs
def hV (h : Hd) : V := .str (hname h)
def tRing (K : PySem.W.Frag) (ta : TA) : TE := fun σ H Q => ta σ H fun vs H1 => ∃ (a b : Addr) (hs gs : List Hd), vs = [.ref a, .ref b] ∧ H1 a = some (.lst (hs.map hV)) ∧ H1 b = some (.lst (gs.map hV)) ∧ hs.length = gs.length ∧ hs.length ≤ 1000 ∧
  ∀ D bs H2, Same H1 H2 → H1 D = none → H2 D = some (.lst (bs.map V.ref)) → RingIs H2 (hs.zip gs) bs → Q (.ref D) H2
theorem sort_two (a b : Hd) : (sortVD ([hV a, hV b].zip [eH a, eH b])).map (·.1) = (sH [a, b]).map hV := by
  have e : [hV a, hV b].zip [eH a, eH b] = [a, b].map fun h => (hV h, eH h) := rfl
  have z : sortVD ([a, b].map fun h => (hV h, eH h)) = ([a, b].mergeSort leH).map fun h => (hV h, eH h) := by
    unfold sortVD
    exact (List.map_mergeSort (f := fun h => (hV h, eH h)) (r := leH) (s := PySem.W.dataLe false fun x : V × PyData => x.2) (l := [a, b]) fun x _ y _ => (show leH x y = leD (eH x) (eH y) from (leH_eq x y).symm)).symm
  rw [e, z, List.map_map]
  rfl
theorem pe_ring {X : Cx} {e1 e2 : Expr} {ta : TA} {pr : Str} {scope : Scope} {q1 q2 q3 q4 q5 q6 q7 q8 pos : Pos} (hc : X.calm = true) (hu : X.A.units + 64 < cLine) (ha : PA X [e1, e2] ta) (hgz : Gl X "zip") (mz : X.mg "zip" = none) (ms : X.mg "sorted" = none) (mt : X.mg "tuple" = none)
    (hk : scope.kind = .function) (hnm : ∀ y ∈ scope.names, (y.2 ≠ .free ∧ y.2 ≠ .cell) ∧ (y.2 = .local → scope.names.lookup y.1 = some .local)) (h1 : scope.names.lookup pr = some .local) (h2 : scope.names.lookup ("sorted" : Str) = some .globalImplicit) (h3 : scope.names.lookup ("tuple" : Str) = some .globalImplicit) (hd : (pr == ("__debug__" : Str)) = false)
    (hst : starEach [e1, e2] X.env = (false, eval e1 X.env) :: starEach [e2] X.env) (hpl : (backTo q8 (starEach [e2] X.env)).any (·.1) = false) (hfs : ∀ x, foldedSetIterable (.Call (.Name "zip" q7) [e1, e2] [] q8) X.env x = pure x) :
    PE X (.ListComp (.Call (.Name "tuple" q1) [.Call (.Name "sorted" q2) [.Name pr q3] [] q4] [] q5) [⟨.Name pr q6, .Call (.Name "zip" q7) [e1, e2] [] q8, [], 0⟩] scope pos) (tRing X.K ta) := by
  refine ⟨fun pins s σ H Q I h => ?_⟩
  rw [eval_ListComp]
  refine comprehension_at (cl := cloFrom X.env.cells scope.names []) (use := none) rfl hfs (closure_ok fun y hy e => absurd e (hnm y hy).1.1) hk (fun y hy e => (hnm y hy).2 e) ?_
  refine Call_ (ld_blt I hgz mz PyProof.Rows.boot_zip (PyProof.Rows.callWith_type1 (thn (ha.run q8 pins s σ H _ I h) fun us s1 ⟨vs, H1, I1, r1, a, b, hs, gs, ex, ea, eb, hl, hz, q⟩ => ?_) hst hpl))
  subst ex
  obtain ⟨u1, u2, rfl, ra, rb⟩ := vals2 r1
  cases (show u1 = Value.ref a from ra)
  cases (show u2 = Value.ref b from rb)
  obtain ⟨its, rv, p1, _⟩ := I1.list (sqL (K := X.K) ea)
  obtain ⟨its2, rv2, p2, _⟩ := I1.list (sqL (K := X.K) eb)
  have la : a < s1.heap.objs.size := p1.lt
  have lb : b < s1.heap.objs.size := p2.lt
  have Zp := PySem.W.ktu_apart s1.heap.objs.size a b la lb
  refine call_zip_2 p1.isList p2.isList fun h' hzp hTI hTO hi1 hi2 hsz hkp => wpAny_pyIter_zip hzp (wpAny_newObj_type (wpAny_newFunctionEnv (fun y hy => (hnm y hy).1.2) (by intro y hy; simp at hy) (fun h₂ hns hsb => ?_) hk))
  dsimp only at hns hsb ⊢
  generalize hN : s1.heap.objs.size = N at *
  have hD : (h'.push { cls := .type "list", data := .seq ([] : List Value).toArray }).objs.size = N + 6 := by rw [Heap.size_push, hsz]
  rw [hD] at hns hsb ⊢
  rw [hsz] at ⊢
  generalize hcl : cloFrom X.env.cells scope.names [] = cl
  have lk : ∀ c, N ≤ c → s1.heap.objs.size ≤ c := fun c e => by rw [hN]; exact e
  have fp0 : ∀ {H' : Hp} {c : Addr}, N ≤ c → H' c = none → FpOk X pins H' c := fun e n => I1.fpOk (lk _ e) n
  have e6 : h₂.get? (N + 5) = some { cls := .type "list", data := .seq ([] : List Value).toArray } := hsb.extBut _ _ (Nat.ne_of_lt (Nat.lt_succ_self _)) (Heap.get?_push_of_some _ (by rw [← hsz]; exact Heap.get?_push_size _ rfl))
  have up : ∀ c o, h'.get? c = some o → h₂.get? c = some o := fun c o e => hsb.extBut _ _ (Nat.ne_of_lt (Nat.lt_trans (by have := Heap.lt_size e; rw [hsz] at this; exact this) (Nat.lt_succ_self _))) (Heap.get?_push_of_some _ (Heap.get?_push_of_some _ e))
  have I2 : L2.Inv X pins σ H1 { s1 with heap := h' } := I1.kept (t' := s1.toks) hkp
  have hDn : H1 (N + 5) = none := I1.hok.fresh (lk _ (Nat.le_add_right _ _))
  have I3 : L2.Inv X pins σ (upd H1 (N + 5) (.lst [])) { s1 with heap := h₂, toks := s1.toks + ([] : List (Str × Value)).length } := I2.laid (t' := _) up (Nat.le_of_eq hsz) ⟨Nat.zero_le _, [], 0, .nil, e6⟩
  have lv : its.length = hs.length := by rw [← rv.length, List.length_map]
  have lv2 : its2.length = hs.length := by rw [← rv2.length, List.length_map, hl]
  have len : (hs.zip gs).length = hs.length := by rw [List.length_zip]; omega
  have ltD : ∀ c, c < N → c ≠ N + 5 := fun c e => Nat.ne_of_lt (Nat.lt_of_lt_of_le e (Nat.le_add_right _ _))
  let ce := compEnvC scope cl (N + 6) X.env
  have kF : ce.scope.kind = .function := hk
  have rel := no_free_rel (env := X.env) (scope := scope) fun y hy => (hnm y hy).1.1
  have x1 : ce.kindOf pr = some .local := by show (relabel scope X.env).names.lookup pr = _; rw [rel]; exact h1
  have x2 : ce.kindOf "sorted" = some .globalImplicit := by show (relabel scope X.env).names.lookup _ = _; rw [rel]; exact h2
  have x3 : ce.kindOf "tuple" = some .globalImplicit := by show (relabel scope X.env).names.lookup _ = _; rw [rel]; exact h3
  have glb : ce.globals = mainGlobals := I1.ok.glob
  have blt : ce.builtins = builtinsNs := I1.ok.blt
  obtain ⟨mb, b1, b2⟩ := I1.mod.blt
  let fp : List Addr := [N + 4, N + 2, N + 3, N, N + 1, N + 6]
  have fpN : ∀ c ∈ fp, N ≤ c := fun c hm => by
    simp only [fp, List.mem_cons, List.not_mem_nil, or_false] at hm
    rcases hm with h | h | h | h | h | h <;> rw [h] <;> first | exact Nat.le_refl _ | exact Nat.le_add_right _ _
  let ZS : Nat → Hp → Heap → Prop := fun i H' h => ((i = 0 ∧ IsZip h (N + 4) (N + 2) (N + 3) .none) ∨ ∃ T f xs, IsZipHeld h (N + 4) (N + 2) (N + 3) T f ∧ H' T = some (.tup xs)) ∧ IsPair h (N + 2) (.ref N) (.ref (N + 1)) ∧ (∃ x y, IsPair h (N + 3) x y) ∧ h.IsListIter N a i ∧ h.IsListIter (N + 1) b i
  let Iv : Nat → Shared → Prop := fun n s' => ∃ i H' bs, n = hs.length - i ∧ i ≤ hs.length ∧ (∃ m, s'.heap.Ns (N + 6) m) ∧ L2.Inv X pins σ H' s' ∧ Same H1 H' ∧ (∀ c ∈ fp, H' c = none) ∧ H' (N + 5) = some (.lst (bs.map V.ref)) ∧ RingIs H' ((hs.zip gs).take i) bs ∧ ZS i H' s'.heap
  have nC : ∀ c ∈ fp, (upd H1 (N + 5) (.lst [])) c = none := fun c hm => by
    have ne : c ≠ N + 5 := by
      simp only [fp, List.mem_cons, List.not_mem_nil, or_false] at hm
      rcases hm with h | h | h | h | h | h <;> rw [h]
      · exact Nat.ne_of_lt (Nat.lt_succ_self _)
      · exact Nat.ne_of_lt (show N + 2 < N + 5 by omega)
      · exact Nat.ne_of_lt (show N + 3 < N + 5 by omega)
      · exact Nat.ne_of_lt (show N < N + 5 by omega)
      · exact Nat.ne_of_lt (show N + 1 < N + 5 by omega)
      · exact Nat.ne_of_gt (show N + 5 < N + 6 by omega)
    rw [upd_ne ne]
    exact I1.hok.fresh (lk _ (fpN c hm))
  have loop : codeAny (model X.prog X.w) X.A (.compLoop (.ListComp (.Call (.Name "tuple" q1) [.Call (.Name "sorted" q2) [.Name pr q3] [] q4] [] q5) [⟨.Name pr q6, .Call (.Name "zip" q7) [e1, e2] [] q8, [], 0⟩] scope pos) 0 (.ref (N + 4)) (.ref (N + 5)) ce)
      (compEnds (model X.prog X.w) X.A X.xe none (fun v s' => EP X pins σ Q v s') (.ref (N + 5)) ce) { s1 with heap := h₂, toks := s1.toks + ([] : List (Str × Value)).length } := by
    refine compLoop_list_any Iv ?_ hs.length ⟨0, _, [], rfl, Nat.zero_le _, ⟨_, hns⟩, I3, same_upd hDn, nC, by rw [upd_same]; rfl, .nil, .inl ⟨rfl, up _ _ hzp⟩, up _ _ hTI, ⟨_, _, up _ _ hTO⟩, hi1.at fun o e => up _ _ e, hi2.at fun o e => up _ _ e⟩
    rintro k s' ⟨i, H', bs, rfl, hi, ⟨m, hm⟩, I', sm, hf, hDl, hR, hZ, zTI, ⟨x0, y0, zTO⟩, z1, z2⟩
    have fpk : ∀ c ∈ fp, FpOk X pins H' c := fun c hc => fp0 (fpN c hc) (hf c hc)
    obtain ⟨itsA, rA, pA, _⟩ := I'.list (sqL (K := X.K) (sm _ _ ea))
    obtain ⟨itsB, rB, pB, _⟩ := I'.list (sqL (K := X.K) (sm _ _ eb))
    have lA : itsA.length = hs.length := by rw [← rA.length, List.length_map]
    have lB : itsB.length = hs.length := by rw [← rB.length, List.length_map, hl]
    by_cases hlt : i < hs.length
    · obtain ⟨h0, hh0⟩ : ∃ h0, hs[i]? = some h0 := ⟨hs[i], List.getElem?_eq_getElem hlt⟩
      obtain ⟨g0, hg0⟩ : ∃ g0, gs[i]? = some g0 := ⟨gs[i], List.getElem?_eq_getElem (by omega)⟩
      obtain ⟨u, hu1, ru⟩ := rA.get (show (hs.map hV)[i]? = some (hV h0) by rw [List.getElem?_map, hh0]; rfl)
      obtain ⟨u2, hu2, ru2⟩ := rB.get (show (gs.map hV)[i]? = some (hV g0) by rw [List.getElem?_map, hg0]; rfl)
      have hzg : (hs.zip gs)[i]? = some (h0, g0) := by rw [List.getElem?_zip_eq_some]; exact ⟨hh0, hg0⟩
      have ltN : ∀ c ∈ fp, c < s'.heap.objs.size := fun c hc => by
        simp only [fp, List.mem_cons, List.not_mem_nil, or_false] at hc
        rcases hc with h | h | h | h | h | h <;> rw [h]
        · rcases hZ with ⟨_, hz0⟩ | ⟨T, f, xs, hz0, hT⟩ <;> exact Heap.lt_size hz0
        · exact Heap.lt_size zTI
        · exact Heap.lt_size zTO
        · obtain ⟨_, e, _⟩ := z1; exact Heap.lt_size e
        · obtain ⟨_, e, _⟩ := z2; exact Heap.lt_size e
        · exact hm.lt
      have szN : ∀ c ∈ fp, c ≠ s'.heap.objs.size := fun c hc => Nat.ne_of_lt (ltN c hc)
      have go : ∀ (h'' : Heap) (T : Addr) (f : Bool), IsZipHeld h'' (N + 4) (N + 2) (N + 3) T f → (T = s'.heap.objs.size ∨ ∃ xs, H' T = some (.tup xs)) → IsPair h'' (N + 2) (.ref N) (.ref (N + 1)) → (∃ x y, IsPair h'' (N + 3) x y) → h''.IsListIter N a (i + 1) → h''.IsListIter (N + 1) b (i + 1) → IsPair h'' s'.heap.objs.size u u2 → (∀ c o, c ∉ [N + 4, N + 2, N + 3, N, N + 1] → s'.heap.get? c = some o → h''.get? c = some o) →
          wpAny (model X.prog X.w) X.A (letOwnedTupleGo (.Name pr q6) (.ref (N + 4)) (.ref s'.heap.objs.size)) (fun _ s₁' => wpAny (model X.prog X.w) X.A (assign (.Name pr q6) ce (.ref s'.heap.objs.size)) (fun _ s₂ => wpAny (model X.prog X.w) X.A (testsOf [] ce) (fun ok s₃ =>
            if ok = true then wpAny (model X.prog X.w) X.A (eval (.Call (.Name "tuple" q1) [.Call (.Name "sorted" q2) [.Name pr q3] [] q4] [] q5) ce) (fun x s₄ =>
              wpAny (model X.prog X.w) X.A (call (.builtin "list.append") [.ref (N + 5), x]) (fun _ s₅ => ∃ m, m < hs.length - i ∧ Iv m s₅) (notedBy (model X.prog X.w) X.A ce fun e s' => compEnds (model X.prog X.w) X.A X.xe none (fun v s' => EP X pins σ Q v s') (.ref (N + 5)) ce (.error e) s') s₄) (notedBy (model X.prog X.w) X.A ce fun e s' => compEnds (model X.prog X.w) X.A X.xe none (fun v s' => EP X pins σ Q v s') (.ref (N + 5)) ce (.error e) s') s₃
            else ∃ m, m < hs.length - i ∧ Iv m s₃) (notedBy (model X.prog X.w) X.A ce fun e s' => compEnds (model X.prog X.w) X.A X.xe none (fun v s' => EP X pins σ Q v s') (.ref (N + 5)) ce (.error e) s') s₂) (notedBy (model X.prog X.w) X.A ce fun e s' => compEnds (model X.prog X.w) X.A X.xe none (fun v s' => EP X pins σ Q v s') (.ref (N + 5)) ce (.error e) s') s₁') (notedBy (model X.prog X.w) X.A ce fun e s' => compEnds (model X.prog X.w) X.A X.xe none (fun v s' => EP X pins σ Q v s') (.ref (N + 5)) ce (.error e) s') { s' with heap := h'' } := by
        generalize (notedBy (model X.prog X.w) X.A ce fun e s' => compEnds (model X.prog X.w) X.A X.xe none (fun v s' => EP X pins σ Q v s') (.ref (N + 5)) ce (.error e) s') = E2
        intro h'' T f zz hTT yTI ⟨x5, y5, yTO⟩ y1 y2 yT kk
        have fresh : H' s'.heap.objs.size = none := I'.hok.fresh (Nat.le_refl _)
        have I4 : L2.Inv X pins σ (upd H' s'.heap.objs.size (.tup [hV h0, hV g0])) { s' with heap := h'' } := I'.turnedNew (t' := s'.toks) (ch := fp) (fun c o hc e => kk c o (fun z => hc (by simp only [fp, List.mem_cons, List.not_mem_nil, or_false] at z ⊢; rcases z with z | z | z | z | z <;> simp [z])) e) fpk (Nat.le_refl _) ⟨by show 2 ≤ sizeLine; decide, [u, u2], .cons ru (.cons ru2 .nil), ⟨_, yT, rfl, _, rfl⟩⟩
        generalize hS : s'.heap.objs.size = S0 at *
        generalize hH4 : upd H' S0 (.tup [hV h0, hV g0]) = H4 at I4
        have n4 : ∀ c ∈ fp, H4 c = none := fun c hc => by rw [← hH4, upd_ne (szN c hc)]; exact hf c hc
        have eT : H4 S0 = some (.tup [hV h0, hV g0]) := by rw [← hH4, upd_same]
        have s4 : Same H' H4 := by rw [← hH4]; exact same_upd fresh
        have hm'' : h''.Ns (N + 6) m := hm.at fun o e => kk _ o (by simp) e
        refine wpAny_pure (wpAny_assign_Name (wpAny_storeName_local x1 hm'' (fun h5 ns5 sb5 => ?_) ?_))
        · refine wpAny_pure ?_
          simp only [if_true]
          have I5 : L2.Inv X pins σ H4 { s' with heap := h5, toks := s'.toks + 1 } := L2.Inv.turnedL (s := { s' with heap := h'' }) (h' := h5) (t' := s'.toks + 1) (ch := [N + 6]) I4 (fun c o hc e => (sb5.2 c fun z => hc (List.mem_singleton.mpr z)).trans e) fun c hc => by
            cases List.mem_singleton.mp hc
            exact fp0 (Nat.le_add_right _ _) (n4 _ (by simp [fp]))
          have up5 : ∀ c o, c ≠ N + 6 → h''.get? c = some o → h5.get? c = some o := fun c o hc e => (sb5.2 c hc).trans e
          have ob : ∀ c ∈ fp, ∃ o, h5.get? c = some o ∧ ∀ v, o.data ≠ .cell v := fun c hc => by
            simp only [fp, List.mem_cons, List.not_mem_nil, or_false] at hc
            rcases hc with h | h | h | h | h | h <;> rw [h]
            · exact ⟨_, up5 _ _ (Nat.ne_of_lt (show N + 4 < N + 6 by omega)) zz, fun v z => nomatch z⟩
            · exact ⟨_, up5 _ _ (Nat.ne_of_lt (show N + 2 < N + 6 by omega)) yTI, fun v z => nomatch z⟩
            · exact ⟨_, up5 _ _ (Nat.ne_of_lt (show N + 3 < N + 6 by omega)) yTO, fun v z => nomatch z⟩
            · obtain ⟨o, e, _, d⟩ := y1
              exact ⟨o, up5 _ _ (Nat.ne_of_lt (show N < N + 6 by omega)) e, fun v z => by rw [d] at z; cases z⟩
            · obtain ⟨o, e, _, d⟩ := y2
              exact ⟨o, up5 _ _ (Nat.ne_of_lt (show N + 1 < N + 6 by omega)) e, fun v z => by rw [d] at z; cases z⟩
            · obtain ⟨o, es, ep, e, d, _⟩ := ns5
              exact ⟨o, e, fun v z => by rw [d] at z; cases z⟩
          have I6 := I5.pinned (fp := fp) (fun c hc => fp0 (fpN c hc) (n4 c hc)) ob
          have gN : h5.Ns mainGlobals X.mg := I5.mod.glob.keeps I5.bk
          have bN : h5.Ns builtinsNs mb := b1.keeps I5.bk
          refine wpAny_Call_Name_kw (Calls.Name_function_global kF x3 (Calls.loadGlobal_builtin (env := ce) (by rw [glb]; exact gN) mt (by rw [blt]; exact bN) ((b2 _ (by decide)).trans (show bootBuiltins ("tuple" : Str) = some (.type "tuple") by decide +kernel)) ?_))
          refine PyProof.Rows.callWith_type1 (Calls.spliced_cons ?_)
          refine wpAny_Call_Name_kw (Calls.Name_function_global kF x2 (Calls.loadGlobal_builtin (env := ce) (by rw [glb]; exact gN) ms (by rw [blt]; exact bN) ((b2 _ (by decide)).trans (show bootBuiltins ("sorted" : Str) = some (.builtin "sorted") by decide +kernel)) ?_))
          refine PyProof.Rows.callWith_builtin1 (Calls.spliced_cons (wpAny_Name (wpAny_loadName_local kF x1 ns5 (by simp; rfl) (Calls.spliced_nil ?_)) hd))
          refine wpAny_mono (callE (Q := fun y H7 => ∃ p, H4 p = none ∧ y = .ref p ∧ H7 = upd H4 p (.lst ((sH [h0, g0]).map hV))) (cr_sortedU (X := withE X E2) hu) I6 (show Vals [V.ref S0] [Value.ref S0] from Paired.cons rfl Paired.nil) ⟨S0, [hV h0, hV g0], [eH h0, eH g0], rfl, .inr (sqT eT), .cons (.str _) (.cons (.str _) .nil), PySem.W.AllAlike.of (enc := eH) (bs := [h0, g0]) alike_h, PySem.W.Sortable.others (enc := eH) (bs := [h0, g0]) fun b => ⟨by unfold eH; simp, fun xs => by unfold eH; simp⟩, fun d hd => ?_, fun p hp => ⟨p, hp, rfl, by rw [sort_two]⟩⟩) (fun v7 s7 ⟨y7, H7, I7, r7, p, hp, ey, eH7⟩ => ?_) fun _ _ z => z
          · simp only [List.mem_cons, List.not_mem_nil, or_false] at hd
            rcases hd with rfl | rfl <;> exact Nat.le_trans (sh_eH (n := 0) _).dep (by decide)
          subst ey
          cases (show v7 = Value.ref p from r7)
          refine Calls.spliced_nil (wpAny_mono (callE (Q := fun y H8 => ∃ l, H7 l = none ∧ y = .ref l ∧ H8 = upd H7 l (.tup ((sH [h0, g0]).map hV))) (call_tuple_of (X := withE X E2)) I7 (show Vals [V.ref p] [Value.ref p] from Paired.cons rfl Paired.nil) ⟨p, (sH [h0, g0]).map hV, rfl, .inl ⟨sqL (by rw [eH7, upd_same]), fun l hl => ⟨l, hl, rfl, rfl⟩⟩⟩) (fun v8 s8 ⟨y8, H8, I8, r8, l, hl', ey8, eH8⟩ => ?_) fun _ _ z => z)
          subst ey8
          have s7 : Same H4 H7 := by rw [eH7]; exact same_upd hp
          have s8 : Same H7 H8 := by rw [eH8]; exact same_upd hl'
          have s48 : Same H' H8 := (s4.trans s7).trans s8
          have eD8 : H8 (N + 5) = some (.lst (bs.map V.ref)) := s48 _ _ hDl
          have lbs : bs.length = i := by
            have z := paired_len hR
            rw [List.length_take, len] at z
            omega
          refine app_ok I8 eD8 (by rw [List.length_map, lbs, sizeLine_eq]; omega) r8 fun s9 I9 => ⟨hs.length - (i + 1), by omega, i + 1, _, bs ++ [l], rfl, hlt, ?_, I9.unpinned, ?_, fun c hc => ?_, by rw [upd_same, List.map_append]; rfl, ?_, ?_⟩
          all_goals have pin9 : ∀ c ∈ fp, ∀ o, h5.get? c = some o → s9.heap.get? c = some o ∧ (upd H8 (N + 5) (.lst (bs.map V.ref ++ [V.ref l]))) c = none := fun c hc o e => (fun z => ⟨z.1, z.2.1⟩) (I9.pin (c, o) (List.mem_append_right _ (List.mem_append_right _ (mem_pinsAt hc e))))
          all_goals have sU : ∀ a o, a ≠ N + 5 → H8 a = some o → (upd H8 (N + 5) (.lst (bs.map V.ref ++ [V.ref l]))) a = some o := fun a o n e => by rw [upd_ne n]; exact e
          · exact ⟨_, ns5.at fun o e => (pin9 (N + 6) (by simp [fp]) o e).1⟩
          · exact fun a o e => sU a o (ne_of_none e hDn) (s48 _ _ (sm _ _ e))
          · obtain ⟨o, e, _⟩ := ob c hc
            exact (pin9 c hc o e).2
          · have tupD : ∀ b xs, H8 b = some (.tup xs) → b ≠ N + 5 := fun b xs e => ne_of e eD8 fun z => nomatch z
            rw [take_succ hzg]
            refine Paired.snoc (Paired.mapP hR fun p b e => sU _ _ (tupD _ _ (s48 _ _ e)) (s48 _ _ e)) ?_
            have el : H8 l = some (.tup ((sH [h0, g0]).map hV)) := by rw [eH8, upd_same]
            exact sU _ _ (tupD _ _ el) el
          · have t5 : ∀ c o, c ≠ N + 6 → h''.get? c = some o → c ∈ fp → s9.heap.get? c = some o := fun c o n e hc => (pin9 c hc o (up5 c o n e)).1
            have eTT : ∃ xs, (upd H8 (N + 5) (.lst (bs.map V.ref ++ [V.ref l]))) T = some (.tup xs) := by
              have z : ∃ xs, H8 T = some (.tup xs) := by
                rcases hTT with rfl | ⟨xs, e⟩
                · exact ⟨_, s8 _ _ (s7 _ _ eT)⟩
                · exact ⟨xs, s48 _ _ e⟩
              obtain ⟨xs, e⟩ := z
              exact ⟨xs, sU _ _ (ne_of e eD8 fun z => nomatch z) e⟩
            obtain ⟨xs, eX⟩ := eTT
            exact ⟨.inr ⟨T, f, xs, t5 _ _ (Nat.ne_of_lt (show N + 4 < N + 6 by omega)) zz (by simp [fp]), eX⟩, t5 _ _ (Nat.ne_of_lt (show N + 2 < N + 6 by omega)) yTI (by simp [fp]), ⟨x5, y5, t5 _ _ (Nat.ne_of_lt (show N + 3 < N + 6 by omega)) yTO (by simp [fp])⟩,
              y1.at fun o e => t5 _ _ (Nat.ne_of_lt (show N < N + 6 by omega)) e (by simp [fp]), y2.at fun o e => t5 _ _ (Nat.ne_of_lt (show N + 1 < N + 6 by omega)) e (by simp [fp])⟩
        · show (scope.kind == .class || (scope.kind == .module && _)) = false
          rw [hk]; rfl
      rcases hZ with ⟨_, hz0⟩ | ⟨T, f, xs, hz0, hT⟩
      · refine wpAny_pyNext_zip_item Zp hz0 zTI zTO z1 z2 pA.isList pB.isList (x := u) (y := u2) (by simpa using hu1) (by simpa using hu2) fun h'' zz TO' a1 a2 hT hsz' kk => ?_
        exact go h'' _ false zz (.inl rfl) (kk _ _ (Nat.ne_of_lt (show N + 2 < N + 4 by omega)) (Nat.ne_of_lt (show N + 2 < N + 3 by omega)) (Nat.ne_of_gt (show N < N + 2 by omega)) (Nat.ne_of_gt (show N + 1 < N + 2 by omega)) zTI) ⟨_, _, TO'⟩ a1 a2 hT fun c o hc e => kk c o (fun z => hc (by simp [z])) (fun z => hc (by simp [z])) (fun z => hc (by simp [z])) (fun z => hc (by simp [z])) e
      · obtain ⟨_, _, _, oT, hoT, _⟩ := (show ObjOk X.prog X.w H' s'.heap T (.tup xs) from I'.hok T _ hT)
        refine wpAny_pyNext_zip_item_held Zp hz0 hoT zTI z1 z2 pA.isList pB.isList (x := u) (y := u2) (by simpa using hu1) (by simpa using hu2) fun h'' zz a1 a2 hT' hsz' kk => ?_
        exact go h'' T true zz (.inr ⟨xs, hT⟩) (kk _ _ (Nat.ne_of_lt (show N + 2 < N + 4 by omega)) (Nat.ne_of_gt (show N < N + 2 by omega)) (Nat.ne_of_gt (show N + 1 < N + 2 by omega)) zTI) ⟨_, _, kk _ _ (Nat.ne_of_lt (show N + 3 < N + 4 by omega)) (Nat.ne_of_gt (show N < N + 3 by omega)) (Nat.ne_of_gt (show N + 1 < N + 3 by omega)) zTO⟩ a1 a2 hT' fun c o hc e => kk c o (fun z => hc (by simp [z])) (fun z => hc (by simp [z])) (fun z => hc (by simp [z])) e
    · have ei : i = hs.length := by omega
      subst ei
      have fin : ∀ h'', (∀ c o, c ∉ fp → s'.heap.get? c = some o → h''.get? c = some o) → (∃ m, h''.Ns (N + 6) m) → compEnds (model X.prog X.w) X.A X.xe none (fun v s' => EP X pins σ Q v s') (.ref (N + 5)) ce (.ok .next) { s' with heap := h'' } := fun h'' kp ⟨m', hm'⟩ => by
        have J := I'.turnedL (t' := s'.toks) (h' := h'') (ch := fp) kp fpk
        refine ⟨m', hm', fun h3 sb => ⟨.ref (N + 5), H', J.turnedL (t' := s'.toks) (h' := h3) (ch := fp) (fun c o hc e => (sb.2 c fun z => hc (by rw [z]; simp [fp, ce, compEnvC])).trans e) fpk, rfl, q _ bs H' sm hDn hDl (by rw [← len, List.take_length] at hR; exact hR)⟩⟩
      have eA : itsA.toArray[hs.length]? = none := by simp; omega
      rcases hZ with ⟨_, hz0⟩ | ⟨T, f, xs, hz0, hT⟩
      · exact wpAny_pyNext_zip_end (I1.ok.hd hc) Zp hz0 zTI zTO z1 z2 pA.isList pB.isList (.inl eA) fun h'' kk => fin h'' (fun c o hc => kk c o (fun z => hc (by rw [z]; simp [fp])) (fun z => hc (by rw [z]; simp [fp])) (fun z => hc (by rw [z]; simp [fp])) (fun z => hc (by rw [z]; simp [fp]))) ⟨m, hm.at fun o e => kk _ o (Nat.ne_of_gt (show N + 4 < N + 6 by omega)) (Nat.ne_of_gt (show N + 3 < N + 6 by omega)) (Nat.ne_of_gt (show N < N + 6 by omega)) (Nat.ne_of_gt (show N + 1 < N + 6 by omega)) e⟩
      · obtain ⟨_, _, _, oT, hoT, _⟩ := (show ObjOk X.prog X.w H' s'.heap T (.tup xs) from I'.hok T _ hT)
        exact wpAny_pyNext_zip_end_held (I1.ok.hd hc) Zp hz0 hoT zTI z1 z2 pA.isList pB.isList (.inl eA) fun h'' kk => fin h'' (fun c o hc => kk c o (fun z => hc (by rw [z]; simp [fp])) (fun z => hc (by rw [z]; simp [fp])) (fun z => hc (by rw [z]; simp [fp]))) ⟨m, hm.at fun o e => kk _ o (Nat.ne_of_gt (show N + 4 < N + 6 by omega)) (Nat.ne_of_gt (show N < N + 6 by omega)) (Nat.ne_of_gt (show N + 1 < N + 6 by omega)) e⟩
  exact codeAny_compStart_list loop (wpAny_pyIter_zip (up _ _ hzp) loop)
end Bp

set_option Elab.async false
set_option linter.all false
set_option maxRecDepth 100000
set_option maxHeartbeats 1000001
namespace Bp
open PySem PySem.Spec L2 PyProof.Rows LamX
theorem kring {X : Cx} {K : PySem.W.Frag} {e : Expr} {ta : TA} (h : PE X e (tRing X.K ta)) (hK : X.K = K := by rfl) : PE X e (tRing K ta) := hK ▸ h
/-! ### calls with the stream ahead -/
section
variable {σ : L2.St} {G H : Hp} {S C : Addr} {n i : Nat} {t : TA} {te : TE} {Q : VK}
theorem st_call {τ : Type} {ea : τ → List PyData} {ok : τ → Prop} {cost : Nat} {res : τ → PyData → Prop} (x : τ) (hs : σ[i]? = some (some (.ref S))) (h : EvA t σ G (ea x)) (st : Strm S C n G H) (g : Same G H) (hx : ok x) (hn : n + cost ≤ 1000000)
    (kk : ∀ v d G' H', res x d → GrM (MS S C) G H G' H' → Strm S C (n + cost) G' H' → Rp G' v d → Q v H') : tCl (spS ea ok cost res) (tCons (tVar i) t) σ H Q :=
  ⟨.ref S, hs, h G H (Same.refl _) g _ fun vs G1 H1 g1 r1 => ⟨G1, S, C, n, vs, x, rfl, g1.gh, st.pure g1, r1, hx, hn, fun v d G' H' rd g' st' rv => kk v d G' H' rd ((Gr.toM g1).trans g') st' rv⟩⟩
theorem st_draw {m : Int} (hs : σ[i]? = some (some (.ref S))) (h : EvD te σ G (.int m)) (st : Strm S C n G H) (g : Same G H) (m0 : 0 < m) (m1 : m ≤ 1000) (hn : n ≤ 1000000)
    (kk : ∀ r G' H', 0 ≤ r → r < m → GrM (MS S C) G H G' H' → Strm S C (n + 1) G' H' → Q (.int r) H') : tCl spDraw (tCons (tVar i) (tCons te tNil)) σ H Q :=
  ⟨.ref S, hs, h G H (Same.refl _) g _ fun v G1 H1 g1 r1 => ⟨G1, S, C, n, m, by rw [r1.int_eq], m0, m1, hn, g1.gh, st.pure g1, fun r H' r0 r1 g' st' => kk r G1 H' r0 r1 ((Gr.toM g1).trans g') st'⟩⟩
theorem st_mixed {ds : List PyData} {k : Bool} (hs : σ[i]? = some (some (.ref S))) (h : EvD te σ G (sq k ds)) (st : Strm S C n G H) (g : Same G H) (hz : ds.length ≤ 20) (hn : n + 20 ≤ 1000000)
    (kk : ∀ v es G' H', es.Perm ds → GrM (MS S C) G H G' H' → Strm S C (n + 20) G' H' → Rp G' v (.list es) → Q v H') : tCl spMixed (tCons (tVar i) (tCons te tNil)) σ H Q :=
  st_call (ea := fun x : Bool × List PyData => [sq x.1 x.2]) (k, ds) hs (ea_one h) st g hz hn fun v d G' H' ⟨es, e, pm⟩ g' st' rv => kk v es G' H' pm g' st' (by rw [← e]; exact rv)
end
theorem perm_map {β : Type} {f : β → PyData} {xs ys : List PyData} (h : xs.Perm ys) : ∀ l : List β, ys = l.map f → ∃ l' : List β, l'.Perm l ∧ xs = l'.map f := by
  induction h with
  | nil =>
    intro l e
    have : l = [] := by cases l with | nil => rfl | cons a b => cases e
    subst this
    exact ⟨[], .refl _, rfl⟩
  | cons x _ ih =>
    intro l e
    cases l with
    | nil => cases e
    | cons a l =>
      obtain ⟨e1, e2⟩ := List.cons.inj e
      obtain ⟨l', p, e3⟩ := ih l e2
      exact ⟨a :: l', p.cons a, by rw [e1, e3]; rfl⟩
  | swap x y r =>
    intro l e
    cases l with
    | nil => cases e
    | cons a l =>
      cases l with
      | nil => cases (List.cons.inj e).2
      | cons b l =>
        obtain ⟨e1, e2⟩ := List.cons.inj e
        obtain ⟨e3, e4⟩ := List.cons.inj e2
        exact ⟨b :: a :: l, List.Perm.swap a b l, by rw [e1, e3, e4]; rfl⟩
  | trans _ _ ih1 ih2 =>
    intro l e
    obtain ⟨l2, p2, e2⟩ := ih2 l e
    obtain ⟨l1, p1, e1⟩ := ih1 l2 e2
    exact ⟨l1, p1.trans p2, e1⟩
section
variable {P : Program} {w : World} {K : PySem.W.Frag} {mg : Str → Option Value} {base : Heap}
theorem cutD_take (ds : List PyData) (n : Nat) : cutD ds none (some (n : Int)) = ds.take n := by
  unfold cutD
  rw [HT.sIx_nat, HT.sIx_none]
  simp
theorem sl_tail {σ : L2.St} {G H : Hp} {x : V} {ds : List PyData} {tl th : TO} {lo hi : Option Int} {Q : VK} (rx : Rp G x (.list ds)) (g : Same G H) (hl : EvO tl σ G lo) (hh : EvO th σ G hi) (kk : ∀ v G' H', Gr G H G' H' → Rp G' v (.list (cutD ds lo hi)) → Q v H') : tl σ H fun l H2 => th σ H2 fun h H3 => rSlL K x l h H3 Q :=
  hl G H (Same.refl _) g _ fun H3 s3 => hh G H3 (Same.refl _) (g.trans s3) _ fun H4 s4 => by
    obtain ⟨p, xs, rfl, hp, r⟩ := rx.list_at
    have g4 : Gr G H G H4 := (Gr.of g s3).more s4
    refine ⟨p, xs, rfl, sqL (g4.gh _ _ hp), fun p' hp' => ?_⟩
    have e : RpAll G (cutV xs lo hi) (cutD ds lo hi) := by
      unfold cutV cutD
      rw [r.length]
      exact (r.drop _).take _
    obtain ⟨g5, rr⟩ := new_lst g4.gh hp' e
    exact kk _ _ _ (g4.trans g5) rr
/-! ### hands -/
def spHands : Sp := spS (τ := Nat) (fun m => [.int (m : Int)]) (fun m => m ≤ 6) 20 (fun m d => ∃ hs : List Hd, d = eL hs ∧ hs.Nodup ∧ hs.length = m)
theorem ok_hands_law (Dfn : Df K mg "_law_hands" s_l_hands ["_law_stream", "_law_many"]) (B : Blt mg) (c_l_mixed : Cal P w K mg base 2 "_law_mixed" ["_law_stream", "_law_some"] spMixed) : Cal P w K mg base 3 "_law_hands" ["_law_stream", "_law_many"] spHands := by
  refine cal_of Dfn sc_l_hands (spS_len fun _ => rfl) fun f cdv A outer s H vs Q E hr h => ?_
  obtain ⟨G, S, C, n, us, m, rfl, g, st, r, hz, hn, q⟩ := h
  obtain ⟨v1, rfl, r1⟩ := rp1 r
  refine ⟨_, (pss_one (ps_ret (pe_slice (ksl (K := K)) (pe_cal c_l_mixed hr (pa_cons (pv 0) (pa_cons (pe_lst (pa_cons pe_str (pa_cons pe_str (pa_cons pe_str (pa_cons pe_str (pa_cons pe_str (pa_cons pe_str pa_nil))))))) pa_nil))) po_none (po_some (pv 1))))), ?_⟩
  refine st_mixed (k := true) (ds := ([0, 1, 2, 3, 5, 4] : List Hd).map eH) rfl (ev_lst (ds := [eH 0, eH 1, eH 2, eH 3, eH 5, eH 4]) (ea_cons ev_str (ea_cons ev_str (ea_cons ev_str (ea_cons ev_str (ea_two ev_str ev_str))))) (by show 6 ≤ _; decide)) st g (by decide) hn fun v es G1 H1 pm g1 st1 rv => ?_
  obtain ⟨l, pl, el⟩ := perm_map pm _ rfl
  have nd : l.Nodup := pl.nodup_iff.mpr (by decide)
  have ll : l.length = 6 := pl.length_eq
  refine sl_tail (K := K) rv g1.gh eo_none (eo_some (ev_var rfl (r1.mono g1.gg))) fun v2 G2 H2 g2 r2 => q v2 _ G2 H2 ⟨l.take m, rfl, nd.sublist (List.take_sublist _ _), by rw [List.length_take]; omega⟩ (g1.trans (Gr.toM g2)) (st1.pure g2) ?_
  rw [cutD_take, el, ← List.map_take] at r2
  exact r2
/-! ### loose -/
inductive Fa2 {α β : Type} (R : α → β → Prop) : List α → List β → Prop
  | nil : Fa2 R [] []
  | cons {a b as bs} : R a b → Fa2 R as bs → Fa2 R (a :: as) (b :: bs)
theorem Fa2.snoc {α β : Type} {R : α → β → Prop} {a : α} {b : β} : ∀ {as : List α} {bs : List β}, Fa2 R as bs → R a b → Fa2 R (as ++ [a]) (bs ++ [b])
  | _, _, .nil, h => .cons h .nil
  | _, _, .cons r t, h => .cons r (t.snoc h)
def spLo {β : Type} (enc : β → PyData) (ok : β → Prop) (c : Nat) (rel : β → PyData → Prop) : Sp := spS (τ := β) (fun b => [enc b]) ok c rel
def relL {β : Type} (rel : β → PyData → Prop) (l : List β) (d : PyData) : Prop := ∃ k ds, d = sq k ds ∧ Fa2 rel l ds
theorem ok_loose_never (Dfn : Df K mg "_law_loose" s_l_loose ["_law_stream", "_law_thing"]) : Cal P w K mg base 1 "_law_loose" ["_law_stream", "_law_thing"] (fun _ _ _ _ => False) :=
  cal_of Dfn sc_l_loose (fun _ _ _ _ z => z.elim) fun _ _ _ _ _ _ _ _ _ _ z => z.elim
/-- a hand stays as it is -/
theorem ok_loose0 (Dfn : Df K mg "_law_loose" s_l_loose ["_law_stream", "_law_thing"]) (B : Blt mg) (c_l_draw : Cal P w K mg base 1 "_law_draw" ["_law_stream", "_law_many"] spDraw) : Cal P w K mg base 2 "_law_loose" ["_law_stream", "_law_thing"] (spLo eH (fun _ => True) 0 fun h d => d = eH h) := by
  have c_l_loose := ok_loose_never (P := P) (w := w) (base := base) Dfn
  have hjk : 1 ≤ 1 := Nat.le_refl _
  have h1k : 1 ≤ 1 := Nat.le_refl _
  refine cal_of Dfn sc_l_loose (spS_len fun _ => rfl) fun f cdv A outer s H vs Q E hr h => ?_
  obtain ⟨G, S, C, n, us, h0, rfl, g, st, r, _, hn, q⟩ := h
  obtain ⟨v1, rfl, r1⟩ := rp1 r
  refine ⟨_, (pss_cons (ps_if (pt_not (pt_val (pe_callB (kisiT (K := K)) rfl B.isinstance (by decide +kernel) (pa_cons (pv 1) (pa_cons (pe_tup (pa_cons (pe_bltn (v := .ty "list") rfl B.list (by decide +kernel) rfl) (pa_cons (pe_bltn (v := .ty "tuple") rfl B.tuple (by decide +kernel) rfl) pa_nil))) pa_nil))))) (pss_one (ps_ret (pv 1))) pss_nil)
    (pss_cons (ps_setLc (i := 2) (own := [("_law_part", 3)]) rfl sc_l_loose.nd rfl rfl (sw_true rfl rfl rfl (by decide +kernel)) (kseq (K := K) (pv 1)) (blkOk_by (N := n_l_loose) (sc := defScope s_l_loose) (own := [("_law_part", 3)]) (by decide +kernel)) (fun _ _ _ _ _ => (pg_name (i := 3) sc_l_loose.nd rfl (Or.inl rfl))) (fun _ _ _ _ _ => pts_nil) (fun _ _ _ _ _ => (pe_cal c_l_loose hr (pa_cons (pv 0) (pa_cons (pv 3) pa_nil)) hjk)))
    (pss_one (ps_ret (pe_ifExp (pt_cmpR (keq (K := K) hr.units) (pe_cal c_l_draw hr (pa_cons (pv 0) (pa_cons pe_int pa_nil)) h1k) pe_int (nomark _)) (pv 2) (pe_callTy (ktuple (K := K)) rfl B.tuple (by decide +kernel) (pa_cons (pv 2) pa_nil))))))), ?_⟩
  refine b_when (b := true) (EvB.is (eb_not (eb_B (ev_isiT (K := K) (ns := ["list", "tuple"]) (b := false) (ev_var rfl r1) rfl (show kitsB "str" ["list", "tuple"] = some false by decide +kernel) (by decide)))) rfl) g (fun _ H1 s1 => ?_) fun z => nomatch z
  exact b_ret (ev_var rfl r1) (g.trans s1) fun v G2 H2 g2 r2 => q v _ G2 H2 rfl (Gr.toM ((Gr.of g s1).trans g2)) ((st.pure ((Gr.of g s1).trans g2))) r2
theorem ok_looseL {β : Type} {enc : β → PyData} {ok : β → Prop} {c j k : Nat} {rel : β → PyData → Prop} (Dfn : Df K mg "_law_loose" s_l_loose ["_law_stream", "_law_thing"]) (B : Blt mg) (hjk : j ≤ k) (h1k : 1 ≤ k) (c_l_draw : Cal P w K mg base 1 "_law_draw" ["_law_stream", "_law_many"] spDraw)
    (c_l_loose : Cal P w K mg base j "_law_loose" ["_law_stream", "_law_thing"] (spLo enc ok c rel)) : Cal P w K mg base (k + 1) "_law_loose" ["_law_stream", "_law_thing"] (spLo (fun l : List β => .list (l.map enc)) (fun l => l.length ≤ 20 ∧ ∀ b ∈ l, ok b) (20 * c + 1) (relL rel)) := by
  refine cal_of Dfn sc_l_loose (spS_len fun _ => rfl) fun f cdv A outer s H vs Q E hr h => ?_
  obtain ⟨G, S, C, n, us, l, rfl, g, st, r, ⟨hz, hok⟩, hn, q⟩ := h
  obtain ⟨v1, rfl, r1⟩ := rp1 r
  refine ⟨_, (pss_cons (ps_if (pt_not (pt_val (pe_callB (kisiT (K := K)) rfl B.isinstance (by decide +kernel) (pa_cons (pv 1) (pa_cons (pe_tup (pa_cons (pe_bltn (v := .ty "list") rfl B.list (by decide +kernel) rfl) (pa_cons (pe_bltn (v := .ty "tuple") rfl B.tuple (by decide +kernel) rfl) pa_nil))) pa_nil))))) (pss_one (ps_ret (pv 1))) pss_nil)
    (pss_cons (ps_setLc (i := 2) (own := [("_law_part", 3)]) rfl sc_l_loose.nd rfl rfl (sw_true rfl rfl rfl (by decide +kernel)) (kseq (K := K) (pv 1)) (blkOk_by (N := n_l_loose) (sc := defScope s_l_loose) (own := [("_law_part", 3)]) (by decide +kernel)) (fun _ _ _ _ _ => (pg_name (i := 3) sc_l_loose.nd rfl (Or.inl rfl))) (fun _ _ _ _ _ => pts_nil) (fun _ _ _ _ _ => (pe_cal c_l_loose hr (pa_cons (pv 0) (pa_cons (pv 3) pa_nil)) hjk)))
    (pss_one (ps_ret (pe_ifExp (pt_cmpR (keq (K := K) hr.units) (pe_cal c_l_draw hr (pa_cons (pv 0) (pa_cons pe_int pa_nil)) h1k) pe_int (nomark _)) (pv 2) (pe_callTy (ktuple (K := K)) rfl B.tuple (by decide +kernel) (pa_cons (pv 2) pa_nil))))))), ?_⟩
  refine b_when (b := false) (EvB.is (eb_not (eb_B (ev_isiT (K := K) (ns := ["list", "tuple"]) (b := true) (ev_var rfl r1) rfl (show kitsB "list" ["list", "tuple"] = some true by decide +kernel) (by decide)))) rfl) g (fun z => nomatch z) fun _ H1 s1 => ?_
  have g1 := Gr.of g s1
  have st1 := st.pure g1
  refine ei_seq (K := K) (k := true) (ds := l.map enc) (ev_var (σ := L2.start n_l_loose [.ref S, v1]) rfl r1) G H1 (Same.refl _) g1.gh _ fun J G2 H2 g2 dw D hD => ?_
  have g12 := g1.trans g2
  have st2 := st.pure g12
  have SD : S ≠ D := fun z => st2.s_some (z ▸ hD)
  have CD : C ≠ D := fun z => st2.c_some (z ▸ hD)
  have mul : ∀ i, i ≤ 20 → i * c ≤ 20 * c := fun i hi => Nat.mul_le_mul_right _ hi
  refine lc_eff (bs := l) (enc := enc) (MS S C) (fun i G H ads => Strm S C (n + i * c) G H ∧ Fa2 rel (l.take i) ads) dw g2.gh hD (by omega) (fun z => by rcases z with z | z; exact SD z.symm; exact CD z.symm) ⟨by simpa using st2, by simpa using Fa2.nil⟩
    (fun i G H G' H' ads ⟨s2, fa⟩ g' => ⟨s2.other g' SD CD, fa⟩) (fun i b x G3 H3 ads hb ⟨s3, fa⟩ la _ sg rx R kR => ⟨rfl, ?_⟩) fun G3 G4 H4 ads ⟨s4, fa⟩ la hG g4 rD => ?_
  · have hi : i < l.length := (List.getElem?_eq_some_iff.mp hb).1
    have h1 := mul i (by omega)
    have h2 := mul (i + 1) (by omega)
    rw [Nat.add_mul, Nat.one_mul] at h2
    exact st_call (ea := fun b => [enc b]) b rfl (ea_one (ev_var rfl rx)) s3 sg (hok b (List.mem_of_getElem? hb)) (by omega) fun v d G' H' rd g' st' rv => kR v G' H' d g' ⟨by rw [Nat.add_mul, Nat.one_mul, ← Nat.add_assoc]; exact st', by rw [take_succ hb]; exact fa.snoc rd⟩ rv
  · rw [List.take_length] at fa
    have h2 := mul l.length hz
    have s5 : Strm S C (n + 20 * c) G4 H4 := by
      obtain ⟨k1, k2, r⟩ := s4.mono (n := n + 20 * c) (by omega)
      exact ⟨by rw [hG S SD]; exact k1, by rw [hG C CD]; exact k2, r⟩
    have gA : GrM (MS S C) G H G4 H4 := (Gr.toM g12).trans g4
    refine st_draw (m := 3) (σ := [some (.ref S), some v1, some (.ref D), none]) rfl ev_int s5 gA.gh (by decide) (by decide) (by omega) fun r G5 H5 r0 r3 g5 s6 => ?_
    have gB := gA.trans g5
    have rD5 := rD.mono g5.gg
    have hcost : n + 20 * c + 1 = n + (20 * c + 1) := by omega
    rw [hcost] at s6
    refine ⟨.int r, .int 0, .int r, .int 0, (sh_int (n := 0) _).shaped, (sh_int (n := 0) _).shaped, _, rfl, ?_⟩
    cases hb : PyData.eqv (.int r) (.int 0) with
    | true => exact iteT ⟨_, rfl, q _ _ G5 H5 ⟨true, ads, rfl, fa⟩ gB s6 rD5⟩
    | false =>
      refine iteF ?_
      obtain ⟨a, xs, e, ha, ra⟩ := rD5.list_at
      cases e
      refine ⟨_, rfl, D, xs, rfl, .inl ⟨sqL (g5.gh.trans (Same.refl _) _ _ ha), fun l hl => ?_⟩⟩
      obtain ⟨gn, rn⟩ := new_tup gB.gh hl ra
      exact q _ _ _ _ ⟨false, ads, rfl, fa⟩ (gB.trans (Gr.toM gn)) (s6.pure gn) rn
end
end Bp

set_option Elab.async false
set_option linter.all false
set_option maxRecDepth 100000
set_option maxHeartbeats 1000001
namespace Bp
open PySem PySem.Spec L2 PyProof.Rows LamX
theorem tail1 {r : List V → Hp → VK → Prop} {G H : Hp} {v : V} {d : PyData} {Q : VK} (h : EvD (tCB r (tCons (tVar 0) tNil)) [some v] G d) (s : Same G H) (k : ∀ v' G' H', Gr G H G' H' → Rp G' v' d → Q v' H') : r [v] H Q := by
  obtain ⟨v', e, hr⟩ := h G H (Same.refl _) s Q k
  cases e
  exact hr
theorem Loc.stepM {M : Addr → Prop} {G0 H0 G H G' H' : Hp} {p : Addr} {ds : List PyData} (L : Loc M G0 H0 G H p ds) (g : GrM M G H G' H') (np : ¬ M p) : Loc M G0 H0 G' H' p ds := by
  obtain ⟨vs, h, r⟩ := L.acc
  exact ⟨L.gr.trans g, L.n0, g.outL L.ng h, vs, g.hh _ _ h np, r.mono g.gg⟩
theorem ring_known {G H : Hp} : ∀ {ps : List (Hd × Hd)} {bs : List Addr} {G0 H0 : Hp}, Gr G0 H0 G H → RingIs H ps bs → ∃ G', Gr G0 H0 G' H ∧ Same G G' ∧ RpAll G' (bs.map V.ref) ((ps.map fun p => pairS p.1 p.2).map eP)
  | [], _, G0, H0, g, h => by
    cases h
    exact ⟨G, g, Same.refl _, .nil⟩
  | p :: ps, _, G0, H0, g, h => by
    cases h with
    | cons hb r =>
      obtain ⟨G1, g1, s1, r1⟩ := ring_known g r
      obtain ⟨G2, g2, s2, e2⟩ := g1.knowT hb
      refine ⟨G2, g2, s1.trans s2, .cons ?_ (r1.mono s2)⟩
      show Rp G2 _ (eP (pairS p.1 p.2))
      rw [← pairS_eq]
      refine .tup e2 ?_
      rw [eT_strs]
      have : ((sH [p.1, p.2]).map fun h => V.str (hname h)) = ((sH [p.1, p.2]).map hname).map V.str := by rw [List.map_map]; rfl
      rw [this]
      exact RpAll.of_strs _
theorem rp_hands {G : Hp} {vs : List V} {hs : List Hd} (r : RpAll G vs (hs.map eH)) : vs = hs.map hV := by
  rw [eT_strs] at r
  rw [RpAll.strs r, List.map_map]
  rfl
def spRing : Sp := spS (τ := List Hd) (fun hs => [eL hs]) (fun hs => hs.length ≤ 20) 20 (fun _ d => ∃ rl : List (Hd × Hd), d = eLP rl ∧ rl.length ≤ 20)
section
variable {P : Program} {w : World} {K : PySem.W.Frag} {mg : Str → Option Value} {base : Heap}
theorem ev_ring {σ : L2.St} {G : Hp} {ta : TA} {l r : List Hd} (args : EvA ta σ G [eL l, eL r]) (hlen : l.length = r.length) (hz : l.length ≤ 1000) : EvD (tRing K ta) σ G (eLP ((l.zip r).map fun p => pairS p.1 p.2)) := fun G1 H1 s1 s2 Q k =>
  args G1 H1 s1 s2 _ fun us G2 H2 g2 ra => by
    obtain ⟨x, y, rfl, rx, ry⟩ := rp2 ra
    obtain ⟨a, xs, rfl, hx, ex⟩ := Rp.list_at rx
    obtain ⟨b, ys, rfl, hy, ey⟩ := Rp.list_at ry
    have ex := rp_hands ex
    have ey := rp_hands ey
    subst ex ey
    refine ⟨a, b, l, r, rfl, g2.gh _ _ hx, g2.gh _ _ hy, hlen, hz, fun D bs H3 s3 hD eD hR => ?_⟩
    have gk : Gr G2 H2 _ H3 := (Gr.of g2.gh s3).know hD (g2.gh.free hD) eD
    obtain ⟨G4, g4, s4, r4⟩ := ring_known gk hR
    exact k (.ref D) G4 H3 (g2.trans g4) (.lst (s4 _ _ upd_same) r4)
theorem cutD_to (ds : List PyData) (n : Nat) : cutD ds none (some (n : Int)) = ds.take n := cutD_take ds n
theorem ok_ring (Dfn : Df K mg "_law_ring" s_l_ring ["_law_stream", "_law_hands_here"]) (B : Blt mg) (c_l_mixed : Cal P w K mg base 2 "_law_mixed" ["_law_stream", "_law_some"] spMixed) (c_l_each_once : Cal P w K mg base 1 "_law_each_once" ["_law_things"] spOnce) :
    Cal P w K mg base 3 "_law_ring" ["_law_stream", "_law_hands_here"] spRing := by
  refine cal_of Dfn sc_l_ring (spS_len fun _ => rfl) fun f cdv A outer s H vs Q E hr h => ?_
  obtain ⟨G, S, C, n, us, hs, rfl, g, st, r, hz, hn, q⟩ := h
  obtain ⟨v1, rfl, r1⟩ := rp1 r
  refine ⟨_, (pss_cons (ps_set (i := 2) sc_l_ring.nd rfl (Or.inl rfl) (pe_cal c_l_mixed hr (pa_cons (pv 0) (pa_cons (pv 1) pa_nil))))
    (pss_one (ps_ret (pe_cal c_l_each_once hr (pa_cons (kring (K := K) (pe_ring rfl hr.units (pa_cons (pv 2) (pa_cons (pe_op op_cat (pe_slice (ksl (K := K)) (pv 2) (po_some pe_int) po_none) (pe_slice (ksl (K := K)) (pv 2) po_none (po_some pe_int))) pa_nil)) rfl B.zip B.sorted B.tuple rfl (by decide +kernel) rfl rfl rfl (by decide +kernel) rfl rfl (fun _ => rfl))) pa_nil))))), ?_⟩
  refine st_mixed (k := true) (ds := hs.map eH) (σ := L2.start n_l_ring [.ref S, v1]) rfl (ev_var rfl r1) st g (by rw [List.length_map]; exact hz) hn fun v es G1 H1 pm g1 st1 rv => ?_
  obtain ⟨l, pl, rfl⟩ := perm_map pm _ rfl
  have ll : l.length ≤ 20 := by rw [pl.length_eq]; exact hz
  have rv : Rp G1 v (eL l) := rv
  have args : EvA (tCons (tVar 2) (tCons (tOp rCat (tSl (rSlL K) (tVar 2) (tPart (tC (.int 1))) tNoPart) (tSl (rSlL K) (tVar 2) tNoPart (tPart (tC (.int 1))))) tNil)) [some (.ref S), some v1, some v, none] G1 [eL l, eL (l.drop 1 ++ l.take 1)] := by
    refine ea_two (ev_var rfl rv) (EvD.is (ev_catL (ds := (l.drop 1).map eH) (es := (l.take 1).map eH) (EvD.is (ev_slice (ev_var rfl rv) (eo_some ev_int) eo_none) ?_) (EvD.is (ev_slice (ev_var rfl rv) eo_none (eo_some ev_int)) ?_) (by rw [List.length_map, List.length_map, List.length_drop, List.length_take]; omega)) (by unfold eL; rw [List.map_append]))
    · rw [show (1 : Int) = ((1 : Nat) : Int) from rfl, cutD_drop, List.map_drop]
    · rw [show (1 : Int) = ((1 : Nat) : Int) from rfl, cutD_take, List.map_take]
  have hlen : l.length = (l.drop 1 ++ l.take 1).length := by rw [List.length_append, List.length_drop, List.length_take]; omega
  have er := ev_ring (K := K) args hlen (by omega)
  generalize hrl : (l.zip (l.drop 1 ++ l.take 1)).map (fun p => pairS p.1 p.2) = rl at er
  have hrl2 : rl.length ≤ 20 := by rw [← hrl, List.length_map, List.length_zip]; omega
  exact b_ret (ev_once eqv_P rl (ea_one er) (by omega) fun b _ => (sh_eP (n := 0) b).mono (by decide)) g1.gh fun v5 G5 H5 g5 r5 => q v5 _ G5 H5 ⟨once rl, rfl, Nat.le_trans (once_len rl) hrl2⟩ (g1.trans (Gr.toM g5)) (st1.pure g5) r5
end
end Bp

set_option Elab.async false
set_option linter.all false
set_option maxRecDepth 100000
set_option maxHeartbeats 1000001
namespace Bp
open PySem PySem.Spec L2 PyProof.Rows LamX
theorem nil_tail {σ : L2.St} {H : Hp} {Q : List V → Hp → Prop} (h : Q [] H) : tNil σ H Q := h
/-- a net as the law makes it -/
structure NetG (m : Nat) (n : Net) : Prop where
  asc : n.hs.Pairwise (fun a b => a.val < b.val)
  len : n.hs.length = m
  rs : n.rs.Sublist (pairsZ n.hs)
  gl : n.gs.length ≤ 4
  gg : ∀ g ∈ n.gs, g.Nodup ∧ (∀ h ∈ g, h ∈ n.hs) ∧ g.length ≤ 3
theorem sH_asc {l : List Hd} (h : l.Nodup) : (sH l).Pairwise fun a b => a.val < b.val := by
  have p1 : (sH l).Pairwise fun a b => leH a b = true := List.pairwise_mergeSort leH_trans leH_total l
  have p2 : (sH l).Nodup := (sH_perm l).nodup_iff.mpr h
  have p3 := p1.and p2
  refine p3.imp fun {a b} z => ?_
  have z1 := leH_iff.mp z.1
  have z2 : a.val ≠ b.val := fun e => z.2 (Fin.ext e)
  omega
theorem at5 {way : Int} : ∀ l : List Bool, l.length = 5 → 0 ≤ way → way < 5 → ∃ bb, atI (l.map PyData.bool) way = some (.bool bb) := fun l hl w0 w5 => by
  obtain ⟨j, rfl⟩ := Int.eq_ofNat_of_zero_le w0
  refine ⟨l[j]'(by omega), ?_⟩
  unfold atI ixN
  rw [if_pos w0, if_pos (by rw [List.length_map, hl]; omega)]
  show (l.map PyData.bool)[j]? = _
  rw [List.getElem?_map, List.getElem?_eq_getElem (by omega)]
  rfl
theorem sl_at {K : PySem.W.Frag} {G H : Hp} {x : V} {ds : List PyData} {lo hi : Option Int} {Q : VK} (rx : Rp G x (.list ds)) (g : Same G H) (kk : ∀ v G' H', Gr G H G' H' → Rp G' v (.list (cutD ds lo hi)) → Q v H') : rSlL K x lo hi H Q := by
  obtain ⟨p, xs, rfl, hp, r⟩ := rx.list_at
  refine ⟨p, xs, rfl, sqL (g _ _ hp), fun p' hp' => ?_⟩
  have e : RpAll G (cutV xs lo hi) (cutD ds lo hi) := by
    unfold cutV cutD
    rw [r.length]
    exact (r.drop _).take _
  obtain ⟨g5, rr⟩ := new_lst g hp' e
  exact kk _ _ _ g5 rr
def spNetS : Sp := spS (τ := Nat) (fun m => [.int (m : Int), .int 3, .int 4]) (fun m => m ≤ 6) 200 (fun m d => ∃ n : Net, d = eN n ∧ NetG m n)
section
variable {P : Program} {w : World} {K : PySem.W.Frag} {mg : Str → Option Value} {base : Heap}
theorem ok_net (Dfn : Df K mg "_law_net" s_l_net ["_law_stream", "_law_many", "_law_size", "_law_most"]) (B : Blt mg) (c_l_draw : Cal P w K mg base 1 "_law_draw" ["_law_stream", "_law_many"] spDraw) (c_l_mixed : Cal P w K mg base 2 "_law_mixed" ["_law_stream", "_law_some"] spMixed)
    (c_l_hands : Cal P w K mg base 3 "_law_hands" ["_law_stream", "_law_many"] spHands) (c_l_ring : Cal P w K mg base 3 "_law_ring" ["_law_stream", "_law_hands_here"] spRing) (c_l_pairs : Cal P w K mg base 1 "_law_pairs" ["_law_hands_here"] spPairs) :
    Cal P w K mg base 4 "_law_net" ["_law_stream", "_law_many", "_law_size", "_law_most"] spNetS := by
  refine cal_of Dfn sc_l_net (spS_len fun _ => rfl) fun f cdv A outer s H vs Q E hr h => ?_
  obtain ⟨G, S, C, n, us, m, rfl, g, st, r, hz, hn, q⟩ := h
  obtain ⟨v1, v2, v3, rfl, r1, r2, r3⟩ := rp3 r
  refine ⟨_, (pss_cons (ps_set (i := 4) sc_l_net.nd rfl (Or.inr rfl) (pe_callB (ksorted (K := K) hr.units) rfl B.sorted (by decide +kernel) (pa_cons (pe_cal c_l_hands hr (pa_cons (pv 0) (pa_cons (pv 1) pa_nil))) pa_nil)))
    (pss_cons (ps_par3 (i := 5) (j := 6) (l := 7) rfl sc_l_net.nd rfl rfl rfl (by decide) (by decide) (by decide) rfl rfl rfl (pa_cons (pe_cal c_l_draw hr (pa_cons (pv 0) (pa_cons pe_int pa_nil))) (pa_cons (pe_cal c_l_ring hr (pa_cons (pv 0) (pa_cons (pv 4) pa_nil))) (pa_cons (pe_lst pa_nil) pa_nil))) (by rfl))
    (pss_cons (ps_for PassesOwn.never rfl (kseq (K := K) (pe_cal c_l_pairs hr (pa_cons (pv 4) pa_nil))) (pg_name (i := 8) sc_l_net.nd rfl (Or.inl rfl))
      (pss_cons (ps_par (i := 9) (j := 10) rfl sc_l_net.nd rfl rfl (by decide) rfl rfl (pa_cons (pe_cal c_l_draw hr (pa_cons (pv 0) (pa_cons pe_int pa_nil))) (pa_cons (pe_cal c_l_draw hr (pa_cons (pv 0) (pa_cons pe_int pa_nil))) pa_nil)) (by rfl))
    (pss_one (ps_if (pt_val (pe_ix (kix (K := K)) (pe_lst (pa_cons pe_bl (pa_cons (pe_cmpR op_gt (pv 9) pe_int (nomark _)) (pa_cons (pe_cmpR (keq (K := K) hr.units) (pv 10) pe_int (nomark _)) (pa_cons (pe_cmpR (kin (K := K) (hu65 hr)) (pv 8) (pv 6) rfl) (pa_cons (pe_or (pe_cmpR (kin (K := K) (hu65 hr)) (pv 8) (pv 6) rfl) (pe_one (pe_cmpR (keq (K := K) hr.units) (pv 10) pe_int (nomark _)))) pa_nil)))))) (pv 5) (fun _ _ => rfl))) (pss_one (ps_expr (kbm (K := K) (pe_bm PySem.F.plainAttrs_list PySem.F.slot_list_append PySem.F.type_list_append mt_append (pv 7) (pa_cons (pv 8) pa_nil))))) pss_nil))))
    (pss_cons (ps_setLc (i := 11) (own := [("_law_k", 12)]) rfl sc_l_net.nd rfl rfl (sw_true rfl rfl rfl (by decide +kernel)) (pi_range1 rfl B.range (pa_cons (pe_cal c_l_draw hr (pa_cons (pv 0) (pa_cons (pe_op op_add (pv 3) pe_int) pa_nil))) pa_nil)) (blkOk_by (N := n_l_net) (sc := defScope s_l_net) (own := [("_law_k", 12)]) (by decide +kernel)) (fun _ _ _ _ _ => (pg_name (i := 12) sc_l_net.nd rfl (Or.inl rfl))) (fun _ _ _ _ _ => pts_nil) (fun _ _ _ _ _ => (pe_slice (ksl (K := K)) (pe_cal c_l_mixed hr (pa_cons (pv 0) (pa_cons (pv 4) pa_nil))) po_none (po_some (pe_cal c_l_draw hr (pa_cons (pv 0) (pa_cons (pe_op op_add (pv 2) pe_int) pa_nil)))))))
    (pss_one (ps_ret (pe_tup (pa_cons (pv 4) (pa_cons (pv 7) (pa_cons (pv 11) pa_nil)))))))))), ?_⟩
  refine st_call (ea := fun m => [.int ((m : Nat) : Int)]) (σ := L2.start n_l_net [.ref S, v1, v2, v3]) m rfl (ea_one (ev_var rfl r1)) st g hz (by omega) fun v d G1 H1 ⟨hs0, ed, nd, hl⟩ g1 st1 rv => ?_
  subst ed
  refine nil_tail (tail1 (r := rSortU K) (ev_sortedH (K := K) (k := true) (ev_var rfl rv)) g1.gh fun vh G2 H2 g2 rh => ?_)
  have g12 := g1.trans (Gr.toM (M := MS S C) g2)
  have st2 := st1.pure g2
  have asc := sH_asc nd
  have hlen : (sH hs0).length = m := by rw [sH_len, hl]
  have hnd : (sH hs0).Nodup := (sH_perm hs0).nodup_iff.mpr nd
  generalize sH hs0 = hs at rh asc hlen hnd
  refine st_draw (m := 5) (σ := [some (.ref S), some v1, some v2, some v3, some vh, none, none, none, none, none, none, none, none]) rfl ev_int st2 g12.gh (by decide) (by decide) (by omega) fun way G3 H3 w0 w5 g3 st3 => ?_
  have g13 := g12.trans g3
  refine st_call (ea := fun hs => [eL hs]) (σ := [some (.ref S), some v1, some v2, some v3, some vh, none, none, none, none, none, none, none, none]) hs rfl (ea_one (ev_var rfl (rh.mono g3.gg))) st3 g13.gh (by omega) (by omega) fun vr d G4 H4 ⟨rl, ed, hrl⟩ g4 st4 rr => ?_
  subst ed
  have g14 := g13.trans g4
  have rh4 := rh.mono (g3.gg.trans g4.gg)
  refine ⟨Nat.zero_le _, fun p hp => ⟨_, _, _, rfl, ?_⟩⟩
  have L0 : Loc (MS S C) G H G4 (upd H4 p (.lst [])) p [] := Loc.new g14 hp
  have gp : Gr G4 H4 G4 (upd H4 p (.lst [])) := Gr.lay g14.gh hp
  have st5 := st4.pure gp
  have Sp' : S ≠ p := fun z => st4.s_some (z ▸ hp)
  have Cp : C ≠ p := fun z => st4.c_some (z ▸ hp)
  have np : ¬ MS S C p := fun z => by rcases z with z | z; exact Sp' z.symm; exact Cp z.symm
  have pl := pairsZ_len hs
  have pl2 : (pairsZ hs).length ≤ 36 := Nat.le_trans pl (by rw [hlen]; exact Nat.mul_le_mul hz hz)
  have n4 : n + 20 + 1 + 20 = n + 41 := by omega
  rw [n4] at st5
  refine b_for (bs := pairsZ hs) eP (ei_seq (k := true) (ev_handPairs (ea_one (ev_var rfl rh4)) (by omega))) L0.gh
    (fun i σ' G' H' => ∃ y8 y9 y10 rs, σ' = [some (.ref S), some v1, some v2, some v3, some vh, some (.int way), some vr, some (.ref p), y8, y9, y10, none, none] ∧ Loc (MS S C) G H G' H' p (List.map eP rs) ∧ rs.Sublist ((pairsZ hs).take i) ∧ Strm S C (n + 41 + 2 * i) G' H' ∧ Same G4 G')
    (fun G5 H5 g5 => ⟨_, _, _, [], rfl, L0.step g5, by simp, by simpa using st5.pure g5, g5.gg⟩) (fun i σ' G' H' ⟨_, _, _, _, _, L, _⟩ => L.gh) (fun i b x σ' G5 H5 G6 H6 hb ⟨y8, y9, y10, rs, hσ, L5, sub, s5, s45⟩ g6 rx => ?_) fun σ' G' H' ⟨_, _, _, rs, hσ, L, sub, s6, s46⟩ => ?_
  · subst hσ
    refine tg_name ?_
    have hi : i < (pairsZ hs).length := (List.getElem?_eq_some_iff.mp hb).1
    have L6 := L5.step g6
    have s6 := s5.pure g6
    refine st_draw (m := 5) (i := 0) (σ := [some (.ref S), some v1, some v2, some v3, some vh, some (.int way), some vr, some (.ref p), some x, y9, y10, none, none]) rfl ev_int s6 g6.gh (by decide) (by decide) (by omega) fun few G7 H7 f0 f5 g7 s7 => ?_
    refine st_draw (m := 2) (i := 0) (σ := [some (.ref S), some v1, some v2, some v3, some vh, some (.int way), some vr, some (.ref p), some x, y9, y10, none, none]) rfl ev_int s7 g7.gh (by decide) (by decide) (by omega) fun half G8 H8 h0 h2 g8 s8 => ⟨_, _, rfl, ?_⟩
    have g68 := g7.trans g8
    have L8 := L6.stepM g68 np
    have rx8 := rx.mono g68.gg
    have rr8 := rr.mono ((s45.trans g6.gg).trans g68.gg)
    have e8 : n + 41 + 2 * i + 1 + 1 = n + 41 + 2 * (i + 1) := by omega
    rw [e8] at s8
    obtain ⟨bb, hbb⟩ : ∃ bb, atI ([true, decide (few > 0), decide (half = 0), decide (b ∈ rl), decide (b ∈ rl) || decide (half = 0)].map PyData.bool) way = some (.bool bb) := by
      exact at5 _ rfl w0 w5
    have ew : EvD (tVar 5) [some (.ref S), some v1, some v2, some v3, some vh, some (.int way), some vr, some (.ref p), some x, some (.int few), some (.int half), none, none] G8 (.int way) := ev_var rfl (.int way)
    refine b_if1 (eb_B (ev_ix (k := true) (ev_lst (ds := [true, decide (few > 0), decide (half = 0), decide (b ∈ rl), decide (b ∈ rl) || decide (half = 0)].map PyData.bool) (ea_cons ev_bl (ea_cons (ev_cmp (p := fun i j => decide (j < i)) (ev_var (v := .int few) rfl (.int few)) ev_int) (ea_cons (ev_eqI (ev_var (v := .int half) rfl (.int half)) ev_int) (ea_two (ev_inP (p := b) (l := rl) (ev_var rfl rx8) (ev_var rfl rr8)) (ev_orV (ev_inP (p := b) (l := rl) (ev_var rfl rx8) (ev_var rfl rr8)) fun _ => ev_eqI (ev_var (v := .int half) rfl (.int half)) ev_int))))) (by show 5 ≤ _; decide)) ew hbb)) L8.gh (fun _ H9 s9 => ?_) (fun _ H9 s9 => ?_)
    · have L9 := L8.step (Gr.of L8.gh s9)
      have sb := s8.pure (Gr.of L8.gh s9)
      have hrs : rs.length ≤ 36 := Nat.le_trans sub.length_le (by rw [List.length_take]; omega)
      refine app1 L9 rfl (ev_var rfl rx8) (by rw [List.length_map]; omega) fun Ga Ha sa ga La => ⟨Ga, (g6.gg.trans g68.gg).trans sa, _, _, _, rs ++ [b], rfl, by rw [List.map_append]; exact La, ?_, sb.other ga Sp' Cp, ((s45.trans g6.gg).trans g68.gg).trans sa⟩
      rw [take_succ hb]
      exact sub.append (List.Sublist.refl _)
    · exact ⟨G8, g6.gg.trans g68.gg, _, _, _, rs, rfl, L8.step (Gr.of L8.gh s9), by rw [take_succ hb]; exact sub.trans (List.sublist_append_left _ _), s8.pure (Gr.of L8.gh s9), (s45.trans g6.gg).trans g68.gg⟩
  · subst hσ
    rw [List.take_length] at sub
    obtain ⟨ls, hp6, racc⟩ := L.acc
    have gk := L.gr.know L.n0 L.ng hp6
    have sk := same_upd (o := .lst ls) L.ng
    have rp : Rp (upd G' p (.lst ls)) (.ref p) (eLP rs) := .lst upd_same (racc.mono sk)
    have s7 : Strm S C (n + 41 + 2 * (pairsZ hs).length) (upd G' p (.lst ls)) H' := ⟨by rw [upd_ne Sp']; exact s6.nS, by rw [upd_ne Cp]; exact s6.nC, s6.at'⟩
    have rh7 := (rh4.mono s46).mono sk
    generalize upd G' p (.lst ls) = G7 at gk rp s7 rh7
    have rz : ∀ {v d} {G8 : Hp}, Rp G v d → Same G7 G8 → Rp G8 v d := fun r s => r.mono (gk.gg.trans s)
    refine st_draw (m := 4 + 1) (i := 0) (σ := [some (.ref S), some v1, some v2, some v3, some vh, some (.int way), some vr, some (.ref p), _, _, _, none, none]) rfl (ev_add (ev_var rfl (r3.mono gk.gg)) ev_int) s7 gk.gh (by decide) (by decide) (by omega) fun k G8 H8 k0 k5 g8 s8 => nil_tail ?_
    obtain ⟨j, rfl⟩ := Int.eq_ofNat_of_zero_le k0
    refine ⟨(j : Int), rfl, by omega, by omega, fun D hD => ?_⟩
    have SD : S ≠ D := fun z => s8.s_some (z ▸ hD)
    have CD : C ≠ D := fun z => s8.c_some (z ▸ hD)
    have rh8 := rh7.mono g8.gg
    refine lc_eff (bs := List.range j) (MS S C) (fun i G H ads => Strm S C (n + 114 + 21 * i) G H ∧ ∃ gs : List (List Hd), ads = gs.map eL ∧ ∀ g ∈ gs, g.Nodup ∧ (∀ h ∈ g, h ∈ hs) ∧ g.length ≤ 3) (dwalk_rng G8 j) g8.gh hD (by simp; omega) (fun z => by rcases z with z | z; exact SD z.symm; exact CD z.symm) ⟨s8.mono (by omega), [], rfl, fun g z => by cases z⟩
      (fun i G H G' H' ads ⟨s2, gs⟩ g' => ⟨s2.other g' SD CD, gs⟩) (fun i b x Ga Ha ads hb ⟨sa, gs, e, hg⟩ la s8a sg rx R kR => ⟨rfl, ?_⟩) fun Ga Gb Hb ads ⟨sb, gs, e, hg⟩ la hG gb rD => ?_
    · have hi : i < j := by
        have := (List.getElem?_eq_some_iff.mp hb).1
        simpa using this
      refine st_mixed (k := true) (i := 0) (ds := hs.map eH) rfl (ev_var (i := 4) rfl (rh8.mono s8a)) sa sg (by rw [List.length_map]; omega) (by omega) fun vm es Gc Hc pm gc sc rm => ?_
      obtain ⟨l, pl', rfl⟩ := perm_map pm _ rfl
      refine st_draw (m := 3 + 1) (i := 0) rfl (ev_add (ev_var (i := 2) rfl (r2.mono ((gk.gg.trans g8.gg).trans (s8a.trans gc.gg)))) ev_int) sc gc.gh (by decide) (by decide) (by omega) fun r Gd Hd' r0 r4 gd sd => ⟨r, rfl, ?_⟩
      obtain ⟨j2, rfl⟩ := Int.eq_ofNat_of_zero_le r0
      refine sl_at (rm.mono gd.gg) gd.gh fun ve Ge He ge re => kR ve Ge He _ ((gc.trans gd).trans (Gr.toM ge)) ⟨(sd.pure ge).mono (by omega), gs ++ [l.take j2], by rw [e, List.map_append]; rfl, fun g' hg' => ?_⟩ ?_
      · rcases List.mem_append.mp hg' with z | z
        · exact hg g' z
        · cases List.mem_singleton.mp z
          refine ⟨(pl'.nodup_iff.mpr hnd).sublist (List.take_sublist _ _), fun h' hm => pl'.mem_iff.mp (List.mem_of_mem_take hm), ?_⟩
          rw [List.length_take]; omega
      · rw [cutD_take, ← List.map_take] at re
        exact re
    · subst e
      have gAll := (gk.trans g8).trans gb
      have lg : gs.length = j := by
        rw [List.length_map, List.length_range] at la
        exact la
      have ss : (g8.trans gb).gg = (g8.trans gb).gg := rfl
      refine b_ret (d := .tuple [eL hs, eLP rs, .list (gs.map eL)]) (ev_tup (ea_cons (ev_var (i := 4) rfl (rh7.mono (g8.trans gb).gg)) (ea_two (ev_var (i := 7) rfl (rp.mono (g8.trans gb).gg)) (ev_var (i := 11) rfl rD))) (by show 3 ≤ _; decide)) gAll.gh fun vf Gf Hf gf rf => q vf _ Gf Hf ⟨⟨hs, rs, gs⟩, rfl, asc, hlen, sub, by show gs.length ≤ 4; omega, hg⟩ (gAll.trans (Gr.toM gf)) (Strm.pure (G := Gb) (H := Hb) ?_ gf) rf
      obtain ⟨k1, k2, kk⟩ := sb.mono (n := n + 200) (by rw [List.length_range]; omega)
      exact ⟨by rw [hG S SD]; exact k1, by rw [hG C CD]; exact k2, kk⟩
end
end Bp

set_option Elab.async false
set_option linter.all false
set_option maxRecDepth 100000
set_option maxHeartbeats 1000001
namespace Bp
open PySem PySem.Spec L2 PyProof.Rows LamX
/-! ### plain: what the constructor makes of a net -/
def pairsR : List Hd → List (Hd × Hd)
  | [] => []
  | a :: t => t.map (fun o => (a, o)) ++ pairsR t
theorem pairsZ_eq (hs : List Hd) : pairsZ hs = pairsR hs := by
  have : ∀ (t full : List Hd) (k : Nat), full.drop k = t → (t.zipIdx k).flatMap (fun p => (full.drop (p.2 + 1)).map fun o => (p.1, o)) = pairsR t := by
    intro t
    induction t with
    | nil => intro full k _; rfl
    | cons a t ih =>
      intro full k h
      have h2 : full.drop (k + 1) = t := by
        rw [← List.drop_drop, h]; rfl
      rw [List.zipIdx_cons, List.flatMap_cons, ih full (k + 1) h2]
      show (full.drop (k + 1)).map _ ++ _ = _
      rw [h2]; rfl
  exact this hs hs 0 rfl
theorem pairsR_mem {hs : List Hd} {p : Hd × Hd} (h : p ∈ pairsR hs) : p.1 ∈ hs ∧ p.2 ∈ hs := by
  induction hs with
  | nil => cases h
  | cons a t ih =>
    unfold pairsR at h
    rcases List.mem_append.mp h with h | h
    · obtain ⟨o, ho, rfl⟩ := List.mem_map.mp h
      exact ⟨List.mem_cons_self, List.mem_cons_of_mem _ ho⟩
    · exact ⟨List.mem_cons_of_mem _ (ih h).1, List.mem_cons_of_mem _ (ih h).2⟩
theorem leP_lex : ∀ a b c d : Hd, (a.val < c.val ∨ (a = c ∧ b.val < d.val)) → leP (a, b) (c, d) = true := by decide +kernel
def Asc (l : List Hd) : Prop := l.Pairwise fun a b => a.val < b.val
theorem pairsR_sorted {hs : List Hd} (h : Asc hs) : (pairsR hs).Pairwise fun p q => leP p q = true ∧ p ≠ q := by
  induction hs with
  | nil => exact .nil
  | cons a t ih =>
    have h' := List.pairwise_cons.mp h
    unfold pairsR
    rw [List.pairwise_append]
    refine ⟨?_, ih h'.2, fun p hp q hq => ?_⟩
    · rw [List.pairwise_map]
      refine h'.2.imp fun {b c} z => ⟨leP_lex _ _ _ _ (.inr ⟨rfl, z⟩), fun e => ?_⟩
      have := (Prod.mk.inj e).2
      rw [this] at z; omega
    · obtain ⟨o, ho, rfl⟩ := List.mem_map.mp hp
      have := h'.1 q.1 (pairsR_mem hq).1
      refine ⟨leP_lex _ _ _ _ (.inl this), fun e => ?_⟩
      rw [← e] at this
      exact absurd this (Nat.lt_irrefl _)
theorem pairsR_lt {hs : List Hd} (h : Asc hs) {p : Hd × Hd} (hp : p ∈ pairsR hs) : p.1.val < p.2.val := by
  induction hs with
  | nil => cases hp
  | cons a t ih =>
    have h' := List.pairwise_cons.mp h
    unfold pairsR at hp
    rcases List.mem_append.mp hp with hp | hp
    · obtain ⟨o, ho, rfl⟩ := List.mem_map.mp hp
      exact h'.1 o ho
    · exact ih h'.2 hp
theorem pairsR_iff {hs : List Hd} (h : Asc hs) {a b : Hd} : (a, b) ∈ pairsR hs ↔ a ∈ hs ∧ b ∈ hs ∧ a.val < b.val := by
  constructor
  · exact fun hp => ⟨(pairsR_mem hp).1, (pairsR_mem hp).2, pairsR_lt h hp⟩
  · rintro ⟨ha, hb, hab⟩
    induction hs with
    | nil => cases ha
    | cons x t ih =>
      have h' := List.pairwise_cons.mp h
      unfold pairsR
      rw [List.mem_append]
      rcases List.mem_cons.mp ha with e1 | ha2
      · subst e1
        rcases List.mem_cons.mp hb with e2 | hb2
        · subst e2; exact absurd hab (Nat.lt_irrefl _)
        · exact .inl (List.mem_map.mpr ⟨b, hb2, rfl⟩)
      · rcases List.mem_cons.mp hb with e2 | hb2
        · have z := h'.1 a ha2
          rw [← e2] at z; omega
        · exact .inr (ih h'.2 ha2 hb2)
theorem asc_nodup {l : List Hd} (h : Asc l) : l.Nodup := h.imp fun {a b} z e => by rw [e] at z; omega
theorem pairsR_nodup {hs : List Hd} (h : Asc hs) : (pairsR hs).Nodup := (pairsR_sorted h).imp fun z => z.2
theorem pairsZ_len10 {hs : List Hd} (h : hs.length ≤ 5) : (pairsZ hs).length ≤ 10 := by
  rw [pairsZ_eq]
  have : ∀ l : List Hd, (pairsR l).length * 2 = l.length * (l.length - 1) := by
    intro l
    induction l with
    | nil => rfl
    | cons a t ih =>
      unfold pairsR
      rw [List.length_append, List.length_map, Nat.add_mul, ih, List.length_cons]
      simp only [Nat.add_sub_cancel]
      cases t with
      | nil => rfl
      | cons b t =>
        simp only [List.length_cons, Nat.add_sub_cancel]
        generalize t.length = k
        have : (k + 1 + 1) * (k + 1) = (k + 1) * k + (k + 1) * 2 := by rw [Nat.mul_comm, ← Nat.mul_add]
        omega
  have h2 := this hs
  have h3 : hs.length * (hs.length - 1) ≤ 5 * 4 := Nat.mul_le_mul h (by omega)
  omega
theorem sH_id {l : List Hd} (h : Asc l) : sH l = l := by
  unfold sH
  exact List.mergeSort_of_pairwise (h.imp fun z => leH_iff.mpr (Nat.le_of_lt z))
theorem sH_eq_of {l m : List Hd} (p : l.Perm m) : sH l = sH m := by
  have q : (sH l).Perm (sH m) := ((sH_perm l).trans p).trans (sH_perm m).symm
  exact q.eq_of_pairwise (le := fun x y => leH x y = true) (fun x y _ _ h1 h2 => leH_anti h1 h2) (List.pairwise_mergeSort leH_trans leH_total _) (List.pairwise_mergeSort leH_trans leH_total _)
theorem leP_trans (a b c : Hd × Hd) (h1 : leP a b = true) (h2 : leP b c = true) : leP a c = true := leD_trans _ _ _ h1 h2
theorem leP_total (a b : Hd × Hd) : (leP a b || leP b a) = true := leD_total _ _
theorem leC_trans (a b c : List Hd) (h1 : leC a b = true) (h2 : leC b c = true) : leC a c = true := leD_trans _ _ _ h1 h2
theorem leC_total (a b : List Hd) : (leC a b || leC b a) = true := leD_total _ _
theorem sP_eq {l m : List (Hd × Hd)} (p : l.Perm m) (h : m.Pairwise fun x y => leP x y = true) : sP l = m := by
  have q : (sP l).Perm m := (List.mergeSort_perm _ _).trans p
  exact q.eq_of_pairwise (le := fun x y => leP x y = true) (fun x y _ _ h1 h2 => leP_anti h1 h2) (List.pairwise_mergeSort leP_trans leP_total _) h
theorem sC_set {l m : List (List Hd)} (h1 : l.Nodup) (h2 : m.Nodup) (h : ∀ s, s ∈ l ↔ s ∈ m) : sC l = sC m := by
  have p : l.Perm m := (List.perm_ext_iff_of_nodup h1 h2).mpr h
  have q : (sC l).Perm (sC m) := ((List.mergeSort_perm _ _).trans p).trans (List.mergeSort_perm _ _).symm
  exact q.eq_of_pairwise (le := fun x y => leC x y = true) (fun x y _ _ h1 h2 => leC_anti h1 h2) (List.pairwise_mergeSort leC_trans leC_total _) (List.pairwise_mergeSort leC_trans leC_total _)
theorem choices_eq {l m : List (List Hd)} (h : ∀ s, s ∈ l.map sH ↔ s ∈ m.map sH) : choicesP l = choicesP m := by
  unfold choicesP
  refine sC_set (once_nodup _) (once_nodup _) fun s => ?_
  rw [once_mem, once_mem, List.mem_cons, List.mem_cons, h]
def banN (n : Net) : Ban := ⟨n.hs, n.rs, greatP n.gs⟩
theorem Fa2.mem_l {α β : Type} {R : α → β → Prop} {a : α} : ∀ {as : List α} {bs : List β}, Fa2 R as bs → a ∈ as → ∃ b ∈ bs, R a b
  | _, _, .nil, h => by cases h
  | _, _, .cons r t, h => by
    rcases List.mem_cons.mp h with rfl | h
    · exact ⟨_, List.mem_cons_self, r⟩
    · obtain ⟨b, hb, rb⟩ := t.mem_l h
      exact ⟨b, List.mem_cons_of_mem _ hb, rb⟩
theorem Fa2.mem_r {α β : Type} {R : α → β → Prop} {b : β} : ∀ {as : List α} {bs : List β}, Fa2 R as bs → b ∈ bs → ∃ a ∈ as, R a b
  | _, _, .nil, h => by cases h
  | _, _, .cons r t, h => by
    rcases List.mem_cons.mp h with rfl | h
    · exact ⟨_, List.mem_cons_self, r⟩
    · obtain ⟨a, ha, ra⟩ := t.mem_r h
      exact ⟨a, List.mem_cons_of_mem _ ha, ra⟩
theorem ban_eq {m : Nat} {n : Net} (N : NetG m n) {hs : List Hd} {rs : List Rd3} {gs : List Gd} (ph : hs.Perm n.hs) (pr : (rs.map pR).Perm n.rs) {l : List (List Hd)} (pl : l.Perm n.gs) (pg : Fa2 (fun g g' => g'.2.Perm g) l gs) : banOf hs rs gs = banN n := by
  have e1 : sH hs = n.hs := by rw [sH_eq_of ph, sH_id N.asc]
  have e2 : sP (rs.map pR) = n.rs := sP_eq pr ((pairsR_sorted N.asc).imp (fun z => z.1) |>.sublist (by rw [← pairsZ_eq]; exact N.rs))
  have e3 : choicesP (gs.map fun g => g.2) = choicesP n.gs := by
    refine choices_eq fun s => ?_
    rw [List.mem_map, List.mem_map]
    constructor
    · rintro ⟨t, ht, rfl⟩
      obtain ⟨g', hg', rfl⟩ := List.mem_map.mp ht
      obtain ⟨g, hg, p⟩ := pg.mem_r hg'
      exact ⟨g, pl.mem_iff.mp hg, (sH_eq_of p).symm⟩
    · rintro ⟨t, ht, rfl⟩
      obtain ⟨g', hg', p⟩ := pg.mem_l (pl.mem_iff.mpr ht)
      exact ⟨g'.2, List.mem_map.mpr ⟨g', hg', rfl⟩, sH_eq_of p⟩
  unfold banOf banN greatP
  rw [e1, e2, e3]
end Bp

set_option Elab.async false
set_option linter.all false
set_option maxRecDepth 100000
set_option maxHeartbeats 1000001
namespace Bp
open PySem PySem.Spec L2 PyProof.Rows LamX
theorem tg_triple {K : PySem.W.Frag} {σ : L2.St} {G : Hp} {x : V} {i j k : Nat} {d e f : PyData} {P : L2.St → Prop} (r : Rp G x (.tuple [d, e, f])) (h : ∀ v1 v2 v3, Rp G v1 d → Rp G v2 e → Rp G v3 f → P (((σ.set i (some v1)).set j (some v2)).set k (some v3))) : EvTg (gTup K 3 (gCons (gName i) (gCons (gName j) (gCons (gName k) gNil)))) x σ P G := fun H s Q kk => by
  obtain ⟨p, xs, rfl, hp, r⟩ := r.tup_at
  obtain ⟨v1, v2, v3, rfl, r1, r2, r3⟩ := rp3 r
  exact ⟨p, _, rfl, sqT (s _ _ hp), rfl, _, _, rfl, _, _, rfl, _, _, rfl, rfl, kk _ (h _ _ _ r1 r2 r3)⟩
theorem asg_in {σ : L2.St} {H : Hp} {te : TE} {j : Nat} {tz : TS} {D : Ends} (h : te σ H fun x H1 => tz D (σ.set j (some x)) H1) : tSeq (tAsg te (gName j)) tz D σ H := h
theorem ret_in {σ : L2.St} {H : Hp} {te : TE} {D : Ends} (h : te σ H D.rt) : tRet te D σ H := h
theorem make_in {σ : L2.St} {H : Hp} {C : Addr} {sp : Sp} {t : TA} {Q : VK} (h : t σ H fun vs H1 => ∀ x dx, H1 x = none → H1 dx = none → dx ≠ x → sp (.ref x :: (vs ++ [])) (upd (upd H1 dx (.own x)) x (.ins C dx [])) (fun v H2 => v = .non ∧ Q (.ref x) H2) E0) : tMake C sp [] E0 t σ H Q := h
theorem seq_inl {K : PySem.W.Frag} {te : TE} {σ : L2.St} {H : Hp} {R : It → Hp → Prop} (h : iList K te σ H R) : iSeq K te σ H R := .inl h
/-- [mixed(stream, x) for x in mixed(stream, row)] -/
theorem mix_mix {K : PySem.W.Frag} {β : Type} {enc : β → PyData} {inn : β → List Hd} {σ : L2.St} {G H : Hp} {S C : Addr} {n i j : Nat} {t0 te : TE} {vs : List Nat} {Q : VK} {l : List β} (hs : σ[i]? = some (some (.ref S))) (hsw : ∀ v, ((wipe σ vs).set j (some v))[i]? = some (some (.ref S))) (hw : ∀ v, wipe ((wipe σ vs).set j (some v)) vs = wipe σ vs)
    (h0 : EvD t0 σ G (.list (l.map enc))) (he : ∀ b x G', Same G G' → Rp G' x (enc b) → ∃ k, EvD te ((wipe σ vs).set j (some x)) G' (eK k (inn b))) (st : Strm S C n G H) (g : Same G H) (hz : l.length ≤ 20) (hin : ∀ b ∈ l, (inn b).length ≤ 20) (hn : n + 20 + 20 * 20 ≤ 1000000)
    (kk : ∀ v (l' : List β) (ts : List (List Hd)) G' H', l'.Perm l → Fa2 (fun (b : β) (t : List Hd) => t.Perm (inn b)) l' ts → GrM (MS S C) G H G' H' → Strm S C (n + 20 + 20 * 20) G' H' → Rp G' v (.list (ts.map eL)) → Q v H') :
    tLc (iSeq K (tCl spMixed (tCons (tVar i) (tCons t0 tNil)))) (gName j) tYes (tCl spMixed (tCons (tVar i) (tCons te tNil))) vs σ H Q := by
  refine seq_inl (st_mixed (k := true) (ds := l.map enc) hs h0 st g (by rw [List.length_map]; exact hz) (by omega) fun v es G1 H1 pm g1 st1 rv => ?_)
  obtain ⟨l', pl, rfl⟩ := perm_map pm _ rfl
  obtain ⟨a, xs, rfl, ha, ra⟩ := rv.list_at
  refine ⟨a, rfl, ⟨xs, sqL (g1.gh _ _ ha)⟩, fun D hD => ?_⟩
  have SD : S ≠ D := fun z => st1.s_some (z ▸ hD)
  have CD : C ≠ D := fun z => st1.c_some (z ▸ hD)
  have ll : l'.length ≤ 20 := by rw [pl.length_eq]; exact hz
  have mul : ∀ i, i ≤ 20 → i * 20 ≤ 20 * 20 := fun i hi => Nat.mul_le_mul_right _ hi
  refine lc_eff (bs := l') (enc := enc) (MS S C) (fun i G H ads => Strm S C (n + 20 + i * 20) G H ∧ ∃ ts : List (List Hd), ads = ts.map eL ∧ Fa2 (fun (b : β) (t : List Hd) => t.Perm (inn b)) (l'.take i) ts) (dwalk_list (K := K) ha ra) g1.gh hD (by omega) (fun z => by rcases z with z | z; exact SD z.symm; exact CD z.symm) ⟨by simpa using st1, [], rfl, by simpa using Fa2.nil⟩
    (fun i G H G' H' ads ⟨s2, ts⟩ g' => ⟨s2.other g' SD CD, ts⟩) (fun i b x Ga Ha ads hb ⟨sa, ts, e, fa⟩ la s1a sg rx R kR => ⟨hw x, ?_⟩) fun Ga Gb Hb ads ⟨sb, ts, e, fa⟩ la hG gb rD => ?_
  · have hi : i < l'.length := (List.getElem?_eq_some_iff.mp hb).1
    obtain ⟨k, ev⟩ := he b x Ga (g1.gg.trans s1a) rx
    have h1 := mul (i + 1) (by omega)
    rw [Nat.add_mul, Nat.one_mul] at h1
    have hm := hin b (pl.mem_iff.mp (List.mem_of_getElem? hb))
    refine st_mixed (k := k) (ds := (inn b).map eH) (hsw x) ev sa sg (by rw [List.length_map]; exact hm) (by omega) fun v es G' H' pm g' st' rv => ?_
    obtain ⟨t, pt, rfl⟩ := perm_map pm _ rfl
    exact kR v G' H' _ g' ⟨by rw [Nat.add_mul, Nat.one_mul, ← Nat.add_assoc]; exact st', ts ++ [t], by rw [e, List.map_append]; rfl, by rw [take_succ hb]; exact fa.snoc pt⟩ rv
  · subst e
    rw [List.take_length] at fa
    have h1 := mul l'.length ll
    obtain ⟨k1, k2, r⟩ := sb.mono (n := n + 20 + 20 * 20) (by omega)
    exact kk (.ref D) l' ts Gb Hb pl fa (g1.trans gb) ⟨by rw [hG S SD]; exact k1, by rw [hG C CD]; exact k2, r⟩ rD
def spMade (C T : Addr) : Sp := fun vs H Q _ => ∃ (G : Hp) (S L : Addr) (c m : Nat) (n : Net) (v : V), vs = [.ref S, v] ∧ Same G H ∧ Rp G v (eN n) ∧ NetG m n ∧ 2 ≤ m ∧ m ≤ 5 ∧ Strm S L c G H ∧ c + 2000 ≤ 1000000 ∧ TabS H T q0 ∧ G T = none ∧
  ∀ x G' H', H x = none → GrM (fun a => MS S L a ∨ a = T) G H G' H' → Strm S L (c + 2000) G' H' → TabS H' T q0 → BanAt C G' x (banN n) .non → Q (.ref x) H'
theorem tab_str {S L : Addr} {c : Nat} {G H G' H' : Hp} {T : Addr} {q : Str} (st : Strm S L c G H) (g : GrM (MS S L) G H G' H') (t : TabS H T q) : TabS H' T q := tab_keep g t fun a ma o e => by
  obtain ⟨_, _, x, y, z, ns, sh, _⟩ := st
  rcases ma with rfl | rfl
  · rw [sh.s] at e
    exact .inl ⟨_, (Option.some.inj e).symm⟩
  · rw [sh.c] at e
    exact .inl ⟨_, (Option.some.inj e).symm⟩
/-- what loose makes of rows of rows -/
theorem loose_map {l : List (List Hd)} {ds : List PyData} (h : Fa2 (relL fun h d => d = eH h) l ds) : ∃ gs : List Gd, ds = gs.map eG ∧ gs.map (fun g => g.2) = l := by
  induction h with
  | nil => exact ⟨[], rfl, rfl⟩
  | @cons a b as bs r _ ih =>
    obtain ⟨gs, e1, e2⟩ := ih
    obtain ⟨k, es, rfl, fa⟩ := r
    have e3 : ∀ {as : List Hd} {es : List PyData}, Fa2 (fun h d => d = eH h) as es → es = as.map eH := by
      intro as es h
      induction h with
      | nil => rfl
      | cons r _ ih => rw [r, ih]; rfl
    refine ⟨(k, a) :: gs, ?_, ?_⟩
    · rw [e1, e3 fa]; rfl
    · rw [List.map_cons, e2]
theorem loose_hands {l : List Hd} {d : PyData} (h : relL (fun h d => d = eH h) l d) : ∃ k, d = eK k l := by
  obtain ⟨k, es, rfl, fa⟩ := h
  have e3 : ∀ {as : List Hd} {es : List PyData}, Fa2 (fun h d => d = eH h) as es → es = as.map eH := by
    intro as es h
    induction h with
    | nil => rfl
    | cons r _ ih => rw [r, ih]; rfl
  exact ⟨k, by rw [e3 fa]; rfl⟩
/-- rows of two hands, as roads -/
theorem as_roads {ps : List (Hd × Hd)} {ts : List (List Hd)} (h : Fa2 (fun p t => t.Perm [p.1, p.2]) ps ts) : ∀ {gs : List Gd}, gs.map (fun g => g.2) = ts → (∀ p ∈ ps, p.1.val < p.2.val) → ∃ rs : List Rd3, gs.map eG = rs.map eR ∧ rs.map pR = ps ∧ ∀ r ∈ rs, ∃ p ∈ ps, [r.2.1, r.2.2].Perm [p.1, p.2] := by
  induction h with
  | nil =>
    intro gs e _
    have : gs = [] := List.map_eq_nil_iff.mp e
    subst this
    exact ⟨[], rfl, rfl, fun r z => by cases z⟩
  | @cons p t ps ts r _ ih =>
    intro gs e hlt
    cases gs with
    | nil => cases e
    | cons g gs =>
      obtain ⟨e1, e2⟩ := List.cons.inj e
      obtain ⟨rs, h1, h2, h3⟩ := ih e2 fun p hp => hlt p (List.mem_cons_of_mem _ hp)
      have hl : t.length = 2 := r.length_eq
      obtain ⟨x, y, rfl⟩ : ∃ x y, t = [x, y] := by
        match t, hl with
        | [x, y], _ => exact ⟨x, y, rfl⟩
      obtain ⟨k, g2⟩ := g
      simp only at e1
      subst e1
      refine ⟨(k, x, y) :: rs, by rw [List.map_cons, h1]; rfl, ?_, fun r' hr => ?_⟩
      · rw [List.map_cons, h2]
        congr 1
        have hp := hlt p List.mem_cons_self
        have e4 : sH [x, y] = sH [p.1, p.2] := sH_eq_of r
        have e5 : eP (pairS x y) = eP (pairS p.1 p.2) := by rw [← pairS_eq, ← pairS_eq, e4]
        have e6 : pairS x y = pairS p.1 p.2 := by
          have := eqv_P (pairS x y) (pairS p.1 p.2)
          rw [e5, eqv_P] at this
          simpa using this.symm
        show pairS x y = p
        rw [e6]
        unfold pairS
        rw [if_pos (Nat.le_of_lt hp)]
      · rcases List.mem_cons.mp hr with rfl | hr
        · exact ⟨p, List.mem_cons_self, r⟩
        · obtain ⟨p', hp', q⟩ := h3 r' hr
          exact ⟨p', List.mem_cons_of_mem _ hp', q⟩
section
variable {P : Program} {w : World} {K : PySem.W.Frag} {mg : Str → Option Value} {base : Heap} {C T : Addr}
theorem hand_ok {m : Nat} {n : Net} (N : NetG m n) (hm : 2 ≤ m) {hs : List Hd} {rs : List Rd3} {gs : List Gd} {ps : List (Hd × Hd)} {l : List (List Hd)} (ph : hs.Perm n.hs) (pp : ps.Perm n.rs) (e : rs.map pR = ps) (hr : ∀ r ∈ rs, ∃ p ∈ ps, [r.2.1, r.2.2].Perm [p.1, p.2]) (rl : rs.length ≤ 1000)
    (pl : l.Perm n.gs) (pg : Fa2 (fun g g' => g'.2.Perm g) l gs) (gl : gs.length ≤ 1000) : Hand hs rs gs := by
  have inp : ∀ p ∈ ps, p.1 ∈ n.hs ∧ p.2 ∈ n.hs ∧ p.1.val < p.2.val := fun p hp => by
    have := N.rs.subset (pp.mem_iff.mp hp)
    rw [pairsZ_eq] at this
    exact (pairsR_iff N.asc).mp this
  refine ⟨ph.nodup_iff.mpr (asc_nodup N.asc), by rw [ph.length_eq, N.len]; exact hm, rl, fun r hr' => ?_, ?_, gl, fun g hg => ?_⟩
  · obtain ⟨p, hp, q⟩ := hr r hr'
    obtain ⟨h1, h2, h3⟩ := inp p hp
    have mem : ∀ x ∈ [r.2.1, r.2.2], x ∈ hs := fun x hx => by
      have := q.mem_iff.mp hx
      rcases List.mem_cons.mp this with rfl | this
      · exact ph.mem_iff.mpr h1
      · cases List.mem_singleton.mp this
        exact ph.mem_iff.mpr h2
    refine ⟨mem _ (by simp), mem _ (by simp), fun e => ?_⟩
    have nd : [r.2.1, r.2.2].Nodup := q.nodup_iff.mpr (by simp; intro z; rw [z] at h3; omega)
    rw [e] at nd
    simp at nd
  · rw [e]
    refine pp.nodup_iff.mpr ?_
    have := pairsR_nodup N.asc
    rw [← pairsZ_eq] at this
    exact this.sublist N.rs
  · obtain ⟨g0, hg0, q⟩ := pg.mem_r hg
    obtain ⟨h1, h2, _⟩ := N.gg g0 (pl.mem_iff.mp hg0)
    exact ⟨q.nodup_iff.mpr h1, fun h hh => ph.mem_iff.mpr (h2 h (q.mem_iff.mp hh))⟩
theorem fa2_map {l : List (List Hd)} {ts : List (List Hd)} {gs : List Gd} (h : Fa2 (fun b t => t.Perm b) l ts) : gs.map (fun g => g.2) = ts → Fa2 (fun g g' => g'.2.Perm g) l gs := by
  induction h generalizing gs with
  | nil =>
    intro e
    have : gs = [] := List.map_eq_nil_iff.mp e
    subst this
    exact .nil
  | cons r _ ih =>
    intro e
    cases gs with
    | nil => cases e
    | cons g gs =>
      obtain ⟨e1, e2⟩ := List.cons.inj e
      exact .cons (by have e3 : g.2 = _ := e1; rw [e3]; exact r) (ih e2)
theorem fa2_len {α β : Type} {R : α → β → Prop} : ∀ {as : List α} {bs : List β}, Fa2 R as bs → as.length = bs.length
  | _, _, .nil => rfl
  | _, _, .cons _ t => congrArg (· + 1) (fa2_len t)
theorem ok_bands_made (Dfn : Df K mg "_law_bands_made" s_l_bands_made ["_law_stream", "_law_net_here"]) (B : Blt mg) (Bd : Bnd K mg C) (c_l_mixed : Cal P w K mg base 2 "_law_mixed" ["_law_stream", "_law_some"] spMixed)
    (c_l_loose1 : Cal P w K mg base 3 "_law_loose" ["_law_stream", "_law_thing"] (spLo (fun l : List Hd => .list (l.map eH)) (fun l => l.length ≤ 20 ∧ ∀ b ∈ l, True) (20 * 0 + 1) (relL fun h d => d = eH h)))
    (c_l_loose2 : Cal P w K mg base 4 "_law_loose" ["_law_stream", "_law_thing"] (spLo (fun l : List (List Hd) => .list (l.map fun l : List Hd => .list (l.map eH))) (fun l => l.length ≤ 20 ∧ ∀ b ∈ l, b.length ≤ 20 ∧ ∀ b' ∈ b, True) (20 * (20 * 0 + 1) + 1) (relL (relL fun h d => d = eH h))))
    {f_init : Addr} (Mk : Mk K C f_init) (c_init : ∃ fd, FnOk P w K mg base CX0 5 f_init fd ["self", "hands", "roads", "greatest"] (spInit C T) ∧ L2.Binds K fd ["self", "hands", "roads", "greatest"] []) :
    Cal P w K mg base 7 "_law_bands_made" ["_law_stream", "_law_net_here"] (spMade C T) := by
  refine cal_of Dfn sc_l_bands_made (fun vs H Q E h => by obtain ⟨G, S, L, c, m, n, v, rfl, _⟩ := h; rfl) fun f cdv A outer s H vs Q E hr h => ?_
  obtain ⟨G, S, L, c, m, n, v, rfl, g, rn, N, m2, m5, st, hc, tab, nT, q⟩ := h
  obtain ⟨fd_init, F_init, b_init⟩ := c_init
  have nlen : n.hs.length ≤ 5 := by rw [N.len]; exact m5
  have rlen : n.rs.length ≤ 10 := Nat.le_trans N.rs.length_le (pairsZ_len10 nlen)
  refine ⟨_, (pss_cons (ps_asg (pv 1) (kg_tup (K := K) (n := 3) (pg_tup rfl (pgs_cons (pg_name (i := 2) sc_l_bands_made.nd rfl (Or.inl rfl)) (pgs_cons (pg_name (i := 3) sc_l_bands_made.nd rfl (Or.inl rfl)) (pgs_cons (pg_name (i := 4) sc_l_bands_made.nd rfl (Or.inl rfl)) pgs_nil))))))
    (pss_cons (ps_setLc (i := 5) (own := [("_law_pair", 6)]) rfl sc_l_bands_made.nd rfl rfl (sw_true rfl rfl rfl (by decide +kernel)) (kseq (K := K) (pe_cal c_l_mixed hr (pa_cons (pv 0) (pa_cons (pv 3) pa_nil)))) (blkOk_by (N := n_l_bands_made) (sc := defScope s_l_bands_made) (own := [("_law_pair", 6)]) (by decide +kernel)) (fun _ _ _ _ _ => (pg_name (i := 6) sc_l_bands_made.nd rfl (Or.inl rfl))) (fun _ _ _ _ _ => pts_nil) (fun _ _ _ _ _ => (pe_cal c_l_mixed hr (pa_cons (pv 0) (pa_cons (pe_callTy (klist (K := K)) rfl B.list (by decide +kernel) (pa_cons (pv 6) pa_nil)) pa_nil)))))
    (pss_cons (ps_setLc (i := 7) (own := [("_law_band", 8)]) rfl sc_l_bands_made.nd rfl rfl (sw_true rfl rfl rfl (by decide +kernel)) (kseq (K := K) (pe_cal c_l_mixed hr (pa_cons (pv 0) (pa_cons (pv 4) pa_nil)))) (blkOk_by (N := n_l_bands_made) (sc := defScope s_l_bands_made) (own := [("_law_band", 8)]) (by decide +kernel)) (fun _ _ _ _ _ => (pg_name (i := 8) sc_l_bands_made.nd rfl (Or.inl rfl))) (fun _ _ _ _ _ => pts_nil) (fun _ _ _ _ _ => (pe_cal c_l_mixed hr (pa_cons (pv 0) (pa_cons (pv 8) pa_nil)))))
    (pss_one (ps_ret (pe_make Mk F_init (hr.mono (by decide)) rfl Bd.g b_init .nil pass0 (pa_cons (pe_cal c_l_loose1 hr (pa_cons (pv 0) (pa_cons (pe_cal c_l_mixed hr (pa_cons (pv 0) (pa_cons (pv 2) pa_nil))) pa_nil))) (pa_cons (pe_cal c_l_loose2 hr (pa_cons (pv 0) (pa_cons (pv 5) pa_nil))) (pa_cons (pe_cal c_l_loose2 hr (pa_cons (pv 0) (pa_cons (pv 7) pa_nil))) pa_nil))))))))), ?_⟩
  refine ⟨v, rfl, tg_triple (P := fun σ2 => ∃ v1 v2 v3, σ2 = [some (.ref S), some v, some v1, some v2, some v3, none, none, none, none] ∧ Rp G v1 (eL n.hs) ∧ Rp G v2 (eLP n.rs) ∧ Rp G v3 (.list (n.gs.map eL))) rn (fun v1 v2 v3 a b c => ⟨v1, v2, v3, rfl, a, b, c⟩) H g _ fun σ2 ⟨v1, v2, v3, e2, r1, r2, r3⟩ => ?_⟩
  subst e2
  dsimp only
  refine asg_in (mix_mix (K := K) (i := 0) (β := Hd × Hd) (enc := eP) (inn := fun p => [p.1, p.2]) (l := n.rs) rfl (fun _ => rfl) (fun _ => rfl) (ev_var (i := 3) rfl r2) (fun b x G' s rx => ⟨true, ev_list (k := false) (ds := [eH b.1, eH b.2]) (ev_var (i := 6) rfl rx)⟩) st g (by omega) (fun b _ => by show 2 ≤ 20; decide) (by omega) fun vt ps ts G1 H1 pp fa g1 st1 rt => ?_)
  have tab1 := tab_str st g1 tab
  have nT1 := tabP g1 tab nT
  refine asg_in (mix_mix (K := K) (β := List Hd) (enc := eL) (inn := fun b => b) (l := n.gs) (i := 0) rfl (fun _ => rfl) (fun _ => rfl) (ev_var (i := 4) rfl (r3.mono g1.gg)) (fun b x G' s rx => ⟨true, ev_var (i := 8) rfl rx⟩) st1 g1.gh (by have := N.gl; omega) (fun b hb => by have := (N.gg b hb).2.2; omega) (by omega) fun vg l ts2 G2 H2 pl fa2 g2 st2 rg => ?_)
  have tab2 := tab_str st1 g2 tab1
  have nT2 := tabP g2 tab1 nT1
  have g12 := g1.trans g2
  have lps : ps.length ≤ 10 := by rw [pp.length_eq]; exact rlen
  have lts : ts.length ≤ 10 := by rw [← fa2_len fa]; exact lps
  have ll : l.length ≤ 4 := by rw [pl.length_eq]; exact N.gl
  have lt2 : ts2.length ≤ 4 := by rw [← fa2_len fa2]; exact ll
  -- hands
  refine ret_in (make_in ?_)
  refine ⟨.ref S, rfl, st_mixed (k := true) (i := 0) (ds := n.hs.map eH) rfl (ev_var (i := 2) rfl (r1.mono g12.gg)) st2 g2.gh (by rw [List.length_map]; omega) (by omega) fun vm es G3 H3 pm g3 st3 rm => nil_tail ?_⟩
  obtain ⟨hs, ph, rfl⟩ := perm_map pm _ rfl
  have tab3 := tab_str st2 g3 tab2
  have nT3 := tabP g3 tab2 nT2
  have lhs : hs.length ≤ 5 := by rw [ph.length_eq]; exact nlen
  refine ⟨G3, S, L, _, [vm], hs, rfl, g3.gh, st3, .one rm, ⟨by omega, fun _ _ => trivial⟩, by omega, fun w1 d1 G4 H4 rel1 g4 st4 rw1 => ?_⟩
  obtain ⟨kh, rfl⟩ := loose_hands rel1
  have tab4 := tab_str st3 g4 tab3
  have nT4 := tabP g4 tab3 nT3
  -- roads
  have rt4 : Rp G4 vt (.list (ts.map eL)) := rt.mono ((g2.trans g3).trans g4).gg
  refine st_call (ea := fun l : List (List Hd) => [.list (l.map fun l : List Hd => .list (l.map eH))]) (i := 0) ts rfl (ea_one (ev_var (i := 5) rfl rt4)) st4 g4.gh ⟨by omega, fun b hb => ⟨?_, fun _ _ => trivial⟩⟩ (by omega) fun w2 d2 G5 H5 rel2 g5 st5 rw2 => ?_
  · obtain ⟨p, _, q⟩ := fa.mem_r hb
    rw [q.length_eq]; show 2 ≤ 20; decide
  obtain ⟨kr, es2, rfl, f2⟩ := rel2
  obtain ⟨gr, rfl, eg⟩ := loose_map f2
  have tab5 := tab_str st4 g5 tab4
  have nT5 := tabP g5 tab4 nT4
  -- greatest
  have rg5 : Rp G5 vg (.list (ts2.map eL)) := rg.mono ((g3.trans g4).trans g5).gg
  refine st_call (ea := fun l : List (List Hd) => [.list (l.map fun l : List Hd => .list (l.map eH))]) (i := 0) ts2 rfl (ea_one (ev_var (i := 7) rfl rg5)) st5 g5.gh ⟨by omega, fun b hb => ⟨?_, fun _ _ => trivial⟩⟩ (by omega) fun w3 d3 G6 H6 rel3 g6 st6 rw3 => nil_tail ?_
  · obtain ⟨b0, hb0, q⟩ := fa2.mem_r hb
    have := (N.gg b0 (pl.mem_iff.mp hb0)).2.2
    have h' : b.length = b0.length := q.length_eq
    omega
  obtain ⟨kg, es3, rfl, f3⟩ := rel3
  obtain ⟨gs, rfl, eg3⟩ := loose_map f3
  have tab6 := tab_str st5 g6 tab5
  have nT6 := tabP g6 tab5 nT5
  have ltp : ∀ p ∈ ps, p.1.val < p.2.val := fun p hp => by
    have := N.rs.subset (pp.mem_iff.mp hp)
    rw [pairsZ_eq] at this
    exact pairsR_lt N.asc this
  obtain ⟨rs, er1, er2, er3⟩ := as_roads fa eg ltp
  have fg := fa2_map fa2 eg3
  have lrs : rs.length ≤ 1000 := by
    have : (rs.map pR).length = ps.length := by rw [er2]
    rw [List.length_map] at this; omega
  have lgs : gs.length ≤ 1000 := by rw [← fa2_len fg]; omega
  have ok := hand_ok N m2 ph pp er2 er3 lrs pl fg lgs
  have rw2' : Rp G5 w2 (sq kr (rs.map eR)) := by rw [← er1]; exact rw2
  have st7 := st6.mono (n := c + 2000) (by omega)
  refine make_ok (C := C) (T := T) (kh := kh) (kr := kr) (kg := kg) (hs := hs) (rs := rs) (gs := gs) g6.gh (.cons (rw1.mono (g5.trans g6).gg) (.cons (rw2'.mono g6.gg) (.one rw3))) tab6 nT6 ok fun x G7 H7 hx7 g7 tab7 ban => ?_
  rw [ban_eq N ph (by rw [er2]; exact pp) pl fg] at ban
  have ST : S ≠ T := by
    obtain ⟨_, _, a, b, c', ns, sh, _⟩ := st6
    obtain ⟨tp, e⟩ := tab_at tab6
    exact ne_of sh.s e fun z => by unfold stL at z; cases z
  have LT : L ≠ T := by
    obtain ⟨_, _, a, b, c', ns, sh, _⟩ := st6
    obtain ⟨tp, e⟩ := tab_at tab6
    exact ne_of sh.c e fun z => by unfold stC at z; cases z
  have gS : GrM (MS S L) G H G6 H6 := (((g12.trans g3).trans g4).trans g5).trans g6
  exact q x G7 H7 (gS.dom x hx7) ((gS.weak fun a z => .inl z).trans (g7.weak fun a z => .inr z)) (st7.other g7 ST LT) tab7 ban
end
end Bp

set_option Elab.async false
set_option linter.all false
set_option maxRecDepth 100000
set_option maxHeartbeats 1000001
namespace Bp
open PySem PySem.Spec L2 PyProof.Rows LamX
/-! ### same -/
theorem ei_zipA {K : PySem.W.Frag} {σ : L2.St} {G : Hp} {t : TA} {k : Bool} {ds es : List PyData} (h : EvA t σ G [sq k ds, sq k es]) (hl : ds.length = es.length) : EvI (RZ.iZipA K t) σ G (zipD ds es) := fun G1 H1 a b R kk => h G1 H1 a b _ fun vs G2 H2 g2 r2 => by
  obtain ⟨x, y, rfl, rx, ry⟩ := rp2 r2
  have zl : (zipD ds es).length = ds.length := by unfold zipD; rw [List.length_zipWith]; omega
  have zg : ∀ {i : Nat} {d : PyData}, (zipD ds es)[i]? = some d → ∃ d1 d2, ds[i]? = some d1 ∧ es[i]? = some d2 ∧ d = .tuple [d1, d2] := fun {i d} e => by
    unfold zipD at e
    rw [List.getElem?_zipWith] at e
    cases e1 : ds[i]? with
    | none => rw [e1] at e; cases e
    | some d1 =>
      cases e2 : es[i]? with
      | none => rw [e1, e2] at e; cases e
      | some d2 => rw [e1, e2] at e; exact ⟨d1, d2, rfl, rfl, (Option.some.inj e).symm⟩
  cases k with
  | true =>
    obtain ⟨p, xs, rfl, hp, r⟩ := Rp.list_at rx
    obtain ⟨q, ys, rfl, hq, r'⟩ := Rp.list_at ry
    have l1 := r.length
    have l2 := r'.length
    refine ⟨p, q, xs, ys, rfl, .inl ⟨sqL (g2.gh _ _ hp), sqL (g2.gh _ _ hq), kk _ G2 H2 g2 ⟨fun i H hi s => ?_, fun H s => ⟨xs, ys, sqL (s _ _ hp), sqL (s _ _ hq), .inl (by omega)⟩, fun i G3 H3 v H' d hd s s' y => ?_⟩⟩⟩
    · exact ⟨xs, ys, xs[i]'(by omega), ys[i]'(by omega), sqL (s _ _ hp), sqL (s _ _ hq), List.getElem?_eq_getElem _, List.getElem?_eq_getElem _⟩
    · obtain ⟨T, u, w, rfl, hT, rfl, hu, hw⟩ := y
      obtain ⟨d1, d2, e1, e2, rfl⟩ := zg hd
      obtain ⟨f1, k1, k2⟩ := r.get (hu xs (sqL ((s.trans s') _ _ hp)))
      obtain ⟨f2, k3, k4⟩ := r'.get (hw ys (sqL ((s.trans s') _ _ hq)))
      rw [e1] at k1; cases k1
      rw [e2] at k3; cases k3
      obtain ⟨g, rr⟩ := new_pair s' hT (k2.mono s) (k4.mono s)
      exact ⟨_, g, rr⟩
  | false =>
    obtain ⟨p, xs, rfl, hp, r⟩ := Rp.tup_at rx
    obtain ⟨q, ys, rfl, hq, r'⟩ := Rp.tup_at ry
    have l1 := r.length
    have l2 := r'.length
    refine ⟨p, q, xs, ys, rfl, .inr ⟨sqT (g2.gh _ _ hp), sqT (g2.gh _ _ hq), kk _ G2 H2 g2 ⟨fun i H hi s => ?_, fun H s => ⟨xs, ys, sqT (s _ _ hp), sqT (s _ _ hq), .inl (by omega)⟩, fun i G3 H3 v H' d hd s s' y => ?_⟩⟩⟩
    · exact ⟨xs, ys, xs[i]'(by omega), ys[i]'(by omega), sqT (s _ _ hp), sqT (s _ _ hq), List.getElem?_eq_getElem _, List.getElem?_eq_getElem _⟩
    · obtain ⟨T, u, w, rfl, hT, rfl, hu, hw⟩ := y
      obtain ⟨d1, d2, e1, e2, rfl⟩ := zg hd
      obtain ⟨f1, k1, k2⟩ := r.get (hu xs (sqT ((s.trans s') _ _ hp)))
      obtain ⟨f2, k3, k4⟩ := r'.get (hw ys (sqT ((s.trans s') _ _ hq)))
      rw [e1] at k1; cases k1
      rw [e2] at k3; cases k3
      obtain ⟨g, rr⟩ := new_pair s' hT (k2.mono s) (k4.mono s)
      exact ⟨_, g, rr⟩
/-- none, a truth value, a text -/
inductive Flat : PyData → Prop
  | non : Flat .none
  | bl (b : Bool) : Flat (.bool b)
  | str (x : Str) : PyData.strOk x = true → Flat (.str x)
def SmOk (inn : PyData → Prop) (d : PyData) : Prop := Flat d ∨ ∃ k ds, d = sq k ds ∧ ds.length ≤ 1000 ∧ ∀ e ∈ ds, inn e
def spSm (ok : PyData → Prop) : Sp := spF (τ := PyData) (fun d => [d, d]) ok (fun _ => .bool true)
theorem zipD_self : ∀ ds : List PyData, zipD ds ds = ds.map fun d => .tuple [d, d]
  | [] => rfl
  | d :: r => by
    show _ :: zipD r r = _
    rw [zipD_self r]; rfl
section
variable {P : Program} {w : World} {K : PySem.W.Frag} {mg : Str → Option Value} {base : Heap}
theorem ev_neB {σ : L2.St} {G : Hp} {ta tb : TE} {a : Bool} (ha : EvD ta σ G (.bool a)) (hb : EvD tb σ G (.bool a)) : EvD (tOp (rNeD K) ta tb) σ G (.bool false) := EvD.is (ev_ne ha hb (sh_bool (n := 0) a).shaped (sh_bool (n := 0) a).shaped) (by cases a <;> rfl)
theorem ev_eqB {σ : L2.St} {G : Hp} {ta tb : TE} {a : Bool} (ha : EvD ta σ G (.bool a)) (hb : EvD tb σ G (.bool a)) : EvD (tOp (rEqD K) ta tb) σ G (.bool true) := EvD.is (ev_eq ha hb (sh_bool (n := 0) a).shaped (sh_bool (n := 0) a).shaped) (by cases a <;> rfl)
theorem ok_same {j k : Nat} {inn : PyData → Prop} {spI : Sp} (Dfn : Df K mg "_law_same" s_l_same ["_law_found", "_law_due"]) (B : Blt mg) (hjk : j ≤ k) (c_l_same : Cal P w K mg base j "_law_same" ["_law_found", "_law_due"] spI)
    (hin : ∀ (σ : L2.St) (G : Hp) (t : TA) (d : PyData), inn d → EvA t σ G [d, d] → EvD (tCl spI t) σ G (.bool true)) : Cal P w K mg base (k + 1) "_law_same" ["_law_found", "_law_due"] (spSm (SmOk inn)) := by
  refine cal_of Dfn sc_l_same (spF_len fun _ => rfl) fun f cdv A outer s H vs Q E hr h => ?_
  obtain ⟨G, d, g, r, ok, q⟩ := h
  obtain ⟨v0, v1, rfl, r1, r2⟩ := rp2 r
  refine ⟨_, (pss_cons (ps_if (pt_val (pe_callB (kisiT (K := K)) rfl B.isinstance (by decide +kernel) (pa_cons (pv 1) (pa_cons (pe_tup (pa_cons (pe_bltn (v := .ty "list") rfl B.list (by decide +kernel) rfl) (pa_cons (pe_bltn (v := .ty "tuple") rfl B.tuple (by decide +kernel) rfl) pa_nil))) pa_nil)))) (pss_cons (ps_if (PW.pt (pw_or (pt_cmpR (kne (K := K) hr.units) (pe_callB (kisi (K := K)) rfl B.isinstance (by decide +kernel) (pa_cons (pv 0) (pa_cons (pe_bltn (v := .ty "list") rfl B.list (by decide +kernel) rfl) pa_nil))) (pe_callB (kisi (K := K)) rfl B.isinstance (by decide +kernel) (pa_cons (pv 1) (pa_cons (pe_bltn (v := .ty "list") rfl B.list (by decide +kernel) rfl) pa_nil))) (nomark _)) (pw_or1 (pt_cmpR (kne (K := K) hr.units) (pe_callB (kisi (K := K)) rfl B.isinstance (by decide +kernel) (pa_cons (pv 0) (pa_cons (pe_bltn (v := .ty "tuple") rfl B.tuple (by decide +kernel) rfl) pa_nil))) (pe_callB (kisi (K := K)) rfl B.isinstance (by decide +kernel) (pa_cons (pv 1) (pa_cons (pe_bltn (v := .ty "tuple") rfl B.tuple (by decide +kernel) rfl) pa_nil))) (nomark _))))) (pss_one (ps_ret pe_bl)) pss_nil)
    (pss_one (ps_ret (pe_and (pe_cmpR (keq (K := K) hr.units) (pe_callB (klen (K := K)) rfl B.len PySem.boot_len (pa_cons (pv 0) pa_nil)) (pe_callB (klen (K := K)) rfl B.len PySem.boot_len (pa_cons (pv 1) pa_nil)) (nomark _)) (pe_one (pe_callB (kall (K := K) rfl) rfl B.all (by decide +kernel) (pa_cons (pe_lc (own := [("_law_x", 2), ("_law_y", 3)]) rfl sc_l_same.nd (kzip (K := K) (RZ.pi_zipA rfl B.zip (pa_cons (pv 0) (pa_cons (pv 1) pa_nil)))) (blkOk_by (N := n_l_same) (sc := defScope s_l_same) (own := [("_law_x", 2), ("_law_y", 3)]) (by decide +kernel)) (fun _ _ _ _ _ => (kg_tup (K := K) (n := 2) (pg_tup rfl (pgs_cons (pg_name (i := 2) sc_l_same.nd rfl (Or.inl rfl)) (pgs_cons (pg_name (i := 3) sc_l_same.nd rfl (Or.inl rfl)) pgs_nil))))) (fun _ _ _ _ _ => pts_nil) (fun _ _ _ _ _ => (pe_cal c_l_same hr (pa_cons (pv 2) (pa_cons (pv 3) pa_nil)) hjk))) pa_nil))))))) pss_nil)
    (pss_cons (ps_if (pt_val (pe_callB (kisi (K := K)) rfl B.isinstance (by decide +kernel) (pa_cons (pv 1) (pa_cons (pe_bltn (v := .ty "dict") rfl B.dict (by decide +kernel) rfl) pa_nil)))) (pss_one ps_never) pss_nil)
    (pss_cons (ps_if (pt_val (pe_callB (kisi (K := K)) rfl B.isinstance (by decide +kernel) (pa_cons (pv 1) (pa_cons (pe_bltn (v := .ty "int") rfl B.int (by decide +kernel) rfl) pa_nil)))) (pss_one (ps_ret (pe_and (pe_callB (kisi (K := K)) rfl B.isinstance (by decide +kernel) (pa_cons (pv 0) (pa_cons (pe_bltn (v := .ty "int") rfl B.int (by decide +kernel) rfl) pa_nil))) (pe_and (pe_cmpR (keq (K := K) hr.units) (pe_callB (kisi (K := K)) rfl B.isinstance (by decide +kernel) (pa_cons (pv 0) (pa_cons (pe_bltn (v := .ty "bool") rfl B.bool (by decide +kernel) rfl) pa_nil))) (pe_callB (kisi (K := K)) rfl B.isinstance (by decide +kernel) (pa_cons (pv 1) (pa_cons (pe_bltn (v := .ty "bool") rfl B.bool (by decide +kernel) rfl) pa_nil))) (nomark _)) (pe_one (pe_cmpR (keq (K := K) hr.units) (pv 0) (pv 1) (nomark _))))))) pss_nil)
    (pss_one (ps_ret (pe_and (pe_not (pe_callB (kisiT (K := K)) rfl B.isinstance (by decide +kernel) (pa_cons (pv 0) (pa_cons (pe_tup (pa_cons (pe_bltn (v := .ty "int") rfl B.int (by decide +kernel) rfl) (pa_cons (pe_bltn (v := .ty "list") rfl B.list (by decide +kernel) rfl) (pa_cons (pe_bltn (v := .ty "tuple") rfl B.tuple (by decide +kernel) rfl) (pa_cons (pe_bltn (v := .ty "dict") rfl B.dict (by decide +kernel) rfl) pa_nil))))) pa_nil)))) (pe_one (pe_cmpR (keq (K := K) hr.units) (pv 0) (pv 1) (nomark _))))))))), ?_⟩
  have fin : ∀ {te : TE} {H1 : Hp}, Same H H1 → EvD te (L2.start n_l_same [v0, v1]) G (.bool true) → tRet te { nx := fun _ H' => Q .non H', rt := Q } (L2.start n_l_same [v0, v1]) H1 := fun s1 ev => b_ret ev (g.trans s1) fun v G2 H2 g2 r2 => q v G2 H2 ((Gr.of g s1).trans g2) r2
  rcases ok with fl | ⟨kk, ds, rfl, hz, hi⟩
  · cases fl with
    | non =>
      refine b_no (eb_B (ev_isiT (K := K) (ns := ["list", "tuple"]) (b := false) (ev_var rfl r2) rfl (show kitsB "NoneType" ["list", "tuple"] = some false by decide +kernel) (by decide))) g fun H1 s1 => ?_
      refine b_no (eb_B (ev_isi (K := K) (n := "dict") (b := false) (ev_var rfl r2) rfl (show kitB "NoneType" "dict" = some false by decide +kernel))) (g.trans s1) fun H2 s2 => ?_
      refine b_no (eb_B (ev_isi (K := K) (n := "int") (b := false) (ev_var rfl r2) rfl (show kitB "NoneType" "int" = some false by decide +kernel))) ((g.trans s1).trans s2) fun H3 s3 => ?_
      exact fin ((s1.trans s2).trans s3) (EvD.is (ev_andV (a := true) (b := true) (EvD.is (ev_notV (ev_isiT (K := K) (ns := ["int", "list", "tuple", "dict"]) (b := false) (ev_var rfl r1) rfl (show kitsB "NoneType" ["int", "list", "tuple", "dict"] = some false by decide +kernel) (by decide))) rfl) fun _ => EvD.is (ev_eq (ev_var rfl r1) (ev_var rfl r2) (sh_none (n := 0)).shaped (sh_none (n := 0)).shaped) rfl) rfl)
    | str x hx =>
      have shx : SeqAt.shaped (.str x) = true := (show Sh 0 (.str x) from ⟨by simp [PyData.canLay0, hx], by simp [PyData.depth]⟩).shaped
      refine b_no (eb_B (ev_isiT (K := K) (ns := ["list", "tuple"]) (b := false) (ev_var rfl r2) rfl (show kitsB "str" ["list", "tuple"] = some false by decide +kernel) (by decide))) g fun H1 s1 => ?_
      refine b_no (eb_B (ev_isi (K := K) (n := "dict") (b := false) (ev_var rfl r2) rfl (show kitB "str" "dict" = some false by decide +kernel))) (g.trans s1) fun H2 s2 => ?_
      refine b_no (eb_B (ev_isi (K := K) (n := "int") (b := false) (ev_var rfl r2) rfl (show kitB "str" "int" = some false by decide +kernel))) ((g.trans s1).trans s2) fun H3 s3 => ?_
      exact fin ((s1.trans s2).trans s3) (EvD.is (ev_andV (a := true) (b := true) (EvD.is (ev_notV (ev_isiT (K := K) (ns := ["int", "list", "tuple", "dict"]) (b := false) (ev_var rfl r1) rfl (show kitsB "str" ["int", "list", "tuple", "dict"] = some false by decide +kernel) (by decide))) rfl) fun _ => EvD.is (ev_eq (ev_var rfl r1) (ev_var rfl r2) shx shx) (by simp [PyData.eqv])) rfl)
    | bl b =>
      refine b_no (eb_B (ev_isiT (K := K) (ns := ["list", "tuple"]) (b := false) (ev_var rfl r2) rfl (show kitsB "bool" ["list", "tuple"] = some false by decide +kernel) (by decide))) g fun H1 s1 => ?_
      refine b_no (eb_B (ev_isi (K := K) (n := "dict") (b := false) (ev_var rfl r2) rfl (show kitB "bool" "dict" = some false by decide +kernel))) (g.trans s1) fun H2 s2 => ?_
      refine b_when (b := true) (eb_B (ev_isi (K := K) (n := "int") (b := true) (ev_var rfl r2) rfl (show kitB "bool" "int" = some true by decide +kernel))) ((g.trans s1).trans s2) (fun _ H3 s3 => ?_) fun z => nomatch z
      exact fin ((s1.trans s2).trans s3) (EvD.is (ev_andV (a := true) (b := true) (ev_isi (K := K) (n := "int") (b := true) (ev_var rfl r1) rfl (show kitB "bool" "int" = some true by decide +kernel)) fun _ => EvD.is (ev_andV (a := true) (b := true) (ev_eqB (ev_isi (K := K) (n := "bool") (b := true) (ev_var rfl r1) rfl (show kitB "bool" "bool" = some true by decide +kernel)) (ev_isi (K := K) (n := "bool") (b := true) (ev_var rfl r2) rfl (show kitB "bool" "bool" = some true by decide +kernel))) fun _ => ev_eqB (ev_var rfl r1) (ev_var rfl r2)) rfl) rfl)
  · have e1 := noDict_sq kk ds
    have kl : ∃ b1, kitB (tyN (sq kk ds)) "list" = some b1 := by
      cases kk with
      | true => exact ⟨true, show kitB "list" "list" = some true by decide +kernel⟩
      | false => exact ⟨false, show kitB "tuple" "list" = some false by decide +kernel⟩
    have kt : ∃ b2, kitB (tyN (sq kk ds)) "tuple" = some b2 := by
      cases kk with
      | true => exact ⟨false, show kitB "list" "tuple" = some false by decide +kernel⟩
      | false => exact ⟨true, show kitB "tuple" "tuple" = some true by decide +kernel⟩
    obtain ⟨b1, kl⟩ := kl
    obtain ⟨b2, kt⟩ := kt
    refine b_when (b := true) (eb_B (ev_isiT (K := K) (ns := ["list", "tuple"]) (b := true) (ev_var rfl r2) e1 (kits_sq kk ds) (by decide))) g (fun _ H1 s1 => ?_) fun z => nomatch z
    refine b_no (EvB.is (eb_or (a := false) (b := false) (eb_test (ev_neB (ev_isi (K := K) (n := "list") (ev_var rfl r1) e1 kl) (ev_isi (K := K) (n := "list") (ev_var rfl r2) e1 kl))) fun _ => eb_test (ev_neB (ev_isi (K := K) (n := "tuple") (ev_var rfl r1) e1 kt) (ev_isi (K := K) (n := "tuple") (ev_var rfl r2) e1 kt))) rfl) (g.trans s1) fun H2 s2 => ?_
    refine b_ret (d := .bool true) (EvD.is (ev_andV (a := true) (b := true) (EvD.is (ev_eqI (ev_len (k := kk) (ds := ds) (ev_var rfl r1)) (ev_len (k := kk) (ds := ds) (ev_var rfl r2))) (by simp)) fun _ => ?_) rfl) ((g.trans s1).trans s2) fun v G2 H2 g2 r2 => q v G2 H2 ((Gr.of g (s1.trans s2)).trans g2) r2
    refine EvD.is (ev_all (bs := ds.map fun _ => true) ?_) (by simp)
    have hlc : EvD _ (L2.start n_l_same [v0, v1]) G (.list (ds.map fun d => .bool true)) := ev_lcm (bs := ds) (wi := RZ.iZipA K (tCons (tVar 0) (tCons (tVar 1) tNil))) (vs := [2, 3]) (g := gTup K 2 (gCons (gName 2) (gCons (gName 3) gNil))) (te := tCl spI (tCons (tVar 2) (tCons (tVar 3) tNil))) (fun d => .tuple [d, d]) (fun d => .bool true) (by rw [← zipD_self]; exact ei_zipA (K := K) (k := kk) (t := tCons (tVar 0) (tCons (tVar 1) tNil)) (ea_two (ev_var rfl r1) (ev_var rfl r2)) rfl) (by omega) fun d hd x G' s rx => tg_pair rx fun a b ra rb => ⟨rfl, hin _ _ _ d (hi d hd) (ea_two (ev_var rfl ra) (ev_var rfl rb))⟩
    rw [List.map_map]
    exact hlc
theorem ok_same_never (Dfn : Df K mg "_law_same" s_l_same ["_law_found", "_law_due"]) : Cal P w K mg base 1 "_law_same" ["_law_found", "_law_due"] (fun _ _ _ _ => False) :=
  cal_of Dfn sc_l_same (fun _ _ _ _ z => z.elim) fun _ _ _ _ _ _ _ _ _ _ z => z.elim
theorem ev_sm {σ : L2.St} {G : Hp} {t : TA} {ok : PyData → Prop} {d : PyData} (hd : ok d) (h : EvA t σ G [d, d]) : EvD (tCl (spSm ok) t) σ G (.bool true) := ev_call (ea := fun d => [d, d]) (er := fun _ => .bool true) d h hd
def Sm : Nat → PyData → Prop
  | 0 => SmOk fun _ => False
  | n + 1 => SmOk (Sm n)
theorem ok_sames (Dfn : Df K mg "_law_same" s_l_same ["_law_found", "_law_due"]) (B : Blt mg) : ∀ n, Cal P w K mg base (n + 2) "_law_same" ["_law_found", "_law_due"] (spSm (Sm n))
  | 0 => ok_same Dfn B (Nat.le_refl 1) (ok_same_never Dfn) fun _ _ _ _ z => z.elim
  | n + 1 => ok_same Dfn B (Nat.le_refl (n + 2)) (ok_sames Dfn B n) fun _ _ _ _ hd h => ev_sm hd h
end
end Bp

set_option Elab.async false
set_option linter.all false
set_option maxRecDepth 100000
set_option maxHeartbeats 1000001
namespace Bp
/-! ### plain: bands, the greatest ones -/
theorem asc_eq : ∀ {s t : List Hd}, Asc s → Asc t → (∀ x, x ∈ s ↔ x ∈ t) → s = t := fun {s t} hs ht h => by
  have p : s.Perm t := (List.perm_ext_iff_of_nodup (asc_nodup hs) (asc_nodup ht)).mpr h
  rw [← sH_id hs, ← sH_id ht, sH_eq_of p]
theorem within_iff {s t : List Hd} : within s t = true ↔ ∀ x ∈ s, x ∈ t := by
  unfold within
  rw [List.all_eq_true]
  simp
theorem isIn_iff {s : List Hd} {ts : List (List Hd)} : isIn s ts = true ↔ s = [] ∨ ∃ t ∈ ts, ∀ x ∈ s, x ∈ t := by
  unfold isIn
  rw [Bool.or_eq_true, List.isEmpty_iff, List.any_eq_true]
  constructor
  · rintro (h | ⟨t, ht, h⟩)
    · exact .inl h
    · exact .inr ⟨t, ht, within_iff.mp h⟩
  · rintro (h | ⟨t, ht, h⟩)
    · exact .inl h
    · exact .inr ⟨t, ht, within_iff.mpr h⟩
theorem sH_nodup_asc {l : List Hd} (h : l.Nodup) : Asc (sH l) := sH_asc h
/-- the rows that are made of a row's hands -/
theorem subs_mem : ∀ (l : List Hd) (acc : List (List Hd)) (s : List Hd), s ∈ l.foldl (fun acc x => acc ++ acc.map fun s => s ++ [x]) acc ↔ ∃ a ∈ acc, ∃ b : List Hd, b.Sublist l ∧ s = a ++ b
  | [], acc, s => by
    constructor
    · exact fun h => ⟨s, h, [], .slnil, by simp⟩
    · rintro ⟨a, ha, b, hb, rfl⟩
      have : b = [] := List.eq_nil_of_sublist_nil hb
      rw [this, List.append_nil]; exact ha
  | x :: l, acc, s => by
    rw [List.foldl_cons, subs_mem l]
    constructor
    · rintro ⟨a, ha, b, hb, rfl⟩
      rcases List.mem_append.mp ha with ha | ha
      · exact ⟨a, ha, b, hb.cons x, rfl⟩
      · obtain ⟨a', ha', rfl⟩ := List.mem_map.mp ha
        exact ⟨a', ha', x :: b, hb.cons₂ x, by simp⟩
    · rintro ⟨a, ha, b, hb, rfl⟩
      cases hb with
      | cons _ hb => exact ⟨a, List.mem_append_left _ ha, b, hb, rfl⟩
      | cons_cons _ hb =>
        rename_i b'
        exact ⟨a ++ [x], List.mem_append_right _ (List.mem_map.mpr ⟨a, ha, rfl⟩), b', hb, by simp⟩
theorem sub_of_asc : ∀ {l s : List Hd}, Asc l → Asc s → (∀ x ∈ s, x ∈ l) → s.Sublist l
  | [], s, _, _, h => by
    have : s = [] := List.eq_nil_iff_forall_not_mem.mpr fun x hx => by cases h x hx
    rw [this]; exact .slnil
  | a :: l, [], _, _, _ => List.nil_sublist _
  | a :: l, b :: s, hl, hs, h => by
    have hl' := List.pairwise_cons.mp hl
    have hs' := List.pairwise_cons.mp hs
    by_cases e : b = a
    · subst e
      refine (sub_of_asc hl'.2 hs'.2 fun x hx => ?_).cons₂ b
      rcases List.mem_cons.mp (h x (List.mem_cons_of_mem _ hx)) with e | m
      · have := hs'.1 x hx
        rw [e] at this
        exact absurd this (Nat.lt_irrefl _)
      · exact m
    · have hb : b ∈ l := (List.mem_cons.mp (h b List.mem_cons_self)).resolve_left e
      have hab := hl'.1 b hb
      refine (sub_of_asc hl'.2 hs fun x hx => ?_).cons a
      rcases List.mem_cons.mp (h x hx) with e' | m
      · subst e'
        rcases List.mem_cons.mp hx with e2 | hx
        · exact absurd e2.symm e
        · have := hs'.1 x hx
          omega
      · exact m
theorem asc_sub {l s : List Hd} (h : Asc l) (p : s.Sublist l) : Asc s := h.sublist p
theorem setsL_iff {hs s : List Hd} (h : Asc hs) : s ∈ setsL hs ↔ Asc s ∧ ∀ x ∈ s, x ∈ hs := by
  unfold setsL sC subsL
  rw [List.mem_mergeSort, sH_id h, subs_mem]
  constructor
  · rintro ⟨a, ha, b, hb, rfl⟩
    cases List.mem_singleton.mp ha
    exact ⟨asc_sub h hb, fun x hx => hb.subset hx⟩
  · rintro ⟨h1, h2⟩
    exact ⟨[], by simp, s, sub_of_asc h h1 h2, by simp⟩
theorem subs_nodup (hs : List Hd) (h : Asc hs) : (setsL hs).Nodup := by
  unfold setsL sC
  rw [(List.mergeSort_perm _ _).nodup_iff]
  unfold subsL
  rw [sH_id h]
  have : ∀ (l : List Hd) (acc : List (List Hd)), acc.Nodup → l.Nodup → (∀ a ∈ acc, ∀ x ∈ l, x ∉ a) → (l.foldl (fun acc x => acc ++ acc.map fun s => s ++ [x]) acc).Nodup := by
    intro l
    induction l with
    | nil => intro acc h _ _; exact h
    | cons x l ih =>
      intro acc hn hl hd
      have hl' := List.nodup_cons.mp hl
      rw [List.foldl_cons]
      refine ih _ ?_ hl'.2 fun a ha y hy => ?_
      · rw [List.nodup_append]
        refine ⟨hn, ?_, fun a ha b hb e => ?_⟩
        · rw [List.nodup_iff_pairwise_ne, List.pairwise_map]
          exact (List.nodup_iff_pairwise_ne.mp hn).imp fun ne e => ne (List.append_cancel_right e)
        · obtain ⟨b', _, rfl⟩ := List.mem_map.mp hb
          exact hd a ha x List.mem_cons_self (by rw [e]; simp)
      · rcases List.mem_append.mp ha with ha | ha
        · exact hd a ha y (List.mem_cons_of_mem _ hy)
        · obtain ⟨a', ha', rfl⟩ := List.mem_map.mp ha
          intro m
          rcases List.mem_append.mp m with m | m
          · exact hd a' ha' y (List.mem_cons_of_mem _ hy) m
          · cases List.mem_singleton.mp m
            exact hl'.1 hy
  exact this hs [[]] (by simp) (asc_nodup h) (fun a ha x _ m => by cases List.mem_singleton.mp ha; cases m)
section
variable {m : Nat} {n : Net}
theorem ab_iff (N : NetG m n) {s : List Hd} : s ∈ allBands n ↔ Asc s ∧ (∀ x ∈ s, x ∈ n.hs) ∧ (s = [] ∨ ∃ g ∈ n.gs, ∀ x ∈ s, x ∈ g) := by
  unfold allBands
  rw [List.mem_filter, setsL_iff N.asc, isIn_iff, and_assoc]
theorem ab_sorted (n : Net) : (allBands n).Pairwise fun s t => leC s t = true := (List.pairwise_mergeSort leC_trans leC_total _).sublist List.filter_sublist
theorem ab_nodup (N : NetG m n) : (allBands n).Nodup := (subs_nodup n.hs N.asc).sublist List.filter_sublist
theorem nil_ab (N : NetG m n) : [] ∈ allBands n := (ab_iff N).mpr ⟨.nil, (fun _ z => by cases z), .inl rfl⟩
theorem ab_tail (N : NetG m n) {t : List Hd} : t ∈ (allBands n).drop 1 ↔ t ∈ allBands n ∧ t ≠ [] := by
  have h1 := nil_ab N
  have h2 := ab_sorted n
  have h3 := ab_nodup N
  cases q : allBands n with
  | nil => rw [q] at h1; cases h1
  | cons a l =>
    rw [q] at h1 h2 h3
    have h3' := List.nodup_cons.mp h3
    have ea : a = [] := by
      rcases List.mem_cons.mp h1 with e | m
      · exact e.symm
      · exact leC_anti ((List.pairwise_cons.mp h2).1 [] m) (leC_nil a)
    subst ea
    show t ∈ l ↔ _
    rw [List.mem_cons]
    constructor
    · exact fun m => ⟨.inr m, fun e => h3'.1 (e ▸ m)⟩
    · rintro ⟨e | m, ne⟩
      · exact absurd e ne
      · exact m
theorem gl_iff (N : NetG m n) {s : List Hd} : s ∈ greatestL n ↔ s ∈ allBands n ∧ ∀ t ∈ allBands n, (∀ x ∈ s, x ∈ t) → s = t := by
  unfold greatestL
  rw [List.mem_filter]
  constructor
  · rintro ⟨h1, h2⟩
    refine ⟨h1, fun t ht hst => ?_⟩
    by_cases e : s = t
    · exact e
    · exfalso
      have hs := (ab_iff N).mp h1
      have ht' := (ab_iff N).mp ht
      by_cases et : t = []
      · subst et
        exact e (List.eq_nil_iff_forall_not_mem.mpr fun x hx => by cases hst x hx)
      · have h3 : ((allBands n).drop 1).any (fun other => !decide (s = other) && isIn s [other]) = true := List.any_eq_true.mpr ⟨t, (ab_tail N).mpr ⟨ht, et⟩, by
          rw [decide_eq_false e, Bool.not_false, Bool.true_and]
          exact isIn_iff.mpr (.inr ⟨t, by simp, hst⟩)⟩
        rw [h3] at h2
        cases h2
  · rintro ⟨h1, h2⟩
    refine ⟨h1, ?_⟩
    rw [Bool.not_eq_true']
    rw [List.any_eq_false]
    intro t ht h
    obtain ⟨ht1, ht2⟩ := (ab_tail N).mp ht
    rw [Bool.and_eq_true] at h
    have ne : s ≠ t := by simpa using h.1
    rcases isIn_iff.mp h.2 with e | ⟨t', ht', hst⟩
    · subst e
      exact ne (h2 t ht1 fun x hx => by cases hx)
    · cases List.mem_singleton.mp ht'
      exact ne (h2 t ht1 hst)
theorem ch_iff {gs : List (List Hd)} {s : List Hd} : s ∈ choicesP gs ↔ s = [] ∨ ∃ g ∈ gs, s = sH g := by
  unfold choicesP sC
  rw [List.mem_mergeSort, once_mem, List.mem_cons, List.mem_map]
  constructor
  · rintro (h | ⟨g, hg, h⟩)
    · exact .inl h
    · exact .inr ⟨g, hg, h.symm⟩
  · rintro (h | ⟨g, hg, h⟩)
    · exact .inl h
    · exact .inr ⟨g, hg, h.symm⟩
theorem gp_iff {gs : List (List Hd)} {s : List Hd} : s ∈ greatP gs ↔ s ∈ choicesP gs ∧ ∀ t ∈ choicesP gs, (∀ x ∈ s, x ∈ t) → s = t := by
  unfold greatP
  rw [List.mem_filter]
  constructor
  · rintro ⟨h1, h2⟩
    refine ⟨h1, fun t ht hst => ?_⟩
    by_cases e : s = t
    · exact e
    · exfalso
      have h3 : (choicesP gs).any (fun other => !decide (s = other) && within s other) = true := List.any_eq_true.mpr ⟨t, ht, by rw [decide_eq_false e, Bool.not_false, Bool.true_and]; exact within_iff.mpr hst⟩
      rw [h3] at h2
      cases h2
  · rintro ⟨h1, h2⟩
    refine ⟨h1, ?_⟩
    rw [Bool.not_eq_true', List.any_eq_false]
    intro t ht h
    rw [Bool.and_eq_true] at h
    have ne : s ≠ t := by simpa using h.1
    exact ne (h2 t ht (within_iff.mp h.2))
theorem ch_asc (N : NetG m n) {s : List Hd} (h : s ∈ choicesP n.gs) : Asc s := by
  rcases ch_iff.mp h with rfl | ⟨g, hg, rfl⟩
  · exact .nil
  · exact sH_asc (N.gg g hg).1
theorem ch_ab (N : NetG m n) {s : List Hd} (h : s ∈ choicesP n.gs) : s ∈ allBands n := by
  rcases ch_iff.mp h with rfl | ⟨g, hg, rfl⟩
  · exact nil_ab N
  · exact (ab_iff N).mpr ⟨sH_asc (N.gg g hg).1, fun x hx => (N.gg g hg).2.1 x (sH_mem.mp hx), .inr ⟨g, hg, fun x hx => sH_mem.mp hx⟩⟩
theorem ab_ch (N : NetG m n) {s : List Hd} (h : s ∈ allBands n) : ∃ t ∈ choicesP n.gs, ∀ x ∈ s, x ∈ t := by
  obtain ⟨_, _, h3⟩ := (ab_iff N).mp h
  rcases h3 with rfl | ⟨g, hg, hs⟩
  · exact ⟨[], ch_iff.mpr (.inl rfl), fun _ z => by cases z⟩
  · exact ⟨sH g, ch_iff.mpr (.inr ⟨g, hg, rfl⟩), fun x hx => sH_mem.mpr (hs x hx)⟩
theorem great_mem (N : NetG m n) (s : List Hd) : s ∈ greatestL n ↔ s ∈ greatP n.gs := by
  rw [gl_iff N, gp_iff]
  constructor
  · rintro ⟨h1, h2⟩
    obtain ⟨t, ht, hst⟩ := ab_ch N h1
    have e := h2 t (ch_ab N ht) hst
    subst e
    exact ⟨ht, fun u hu hsu => h2 u (ch_ab N hu) hsu⟩
  · rintro ⟨h1, h2⟩
    refine ⟨ch_ab N h1, fun t ht hst => ?_⟩
    obtain ⟨u, hu, htu⟩ := ab_ch N ht
    have e := h2 u hu fun x hx => htu x (hst x hx)
    subst e
    exact asc_eq (ch_asc N h1) ((ab_iff N).mp ht).1 fun x => ⟨hst x, htu x⟩
theorem great_eq (N : NetG m n) : greatestL n = greatP n.gs := by
  have n1 : (greatestL n).Nodup := (ab_nodup N).sublist List.filter_sublist
  have n2 : (greatP n.gs).Nodup := ((List.mergeSort_perm _ _).nodup_iff.mpr (once_nodup _)).sublist List.filter_sublist
  have p : (greatestL n).Perm (greatP n.gs) := (List.perm_ext_iff_of_nodup n1 n2).mpr (great_mem N)
  exact p.eq_of_pairwise (le := fun x y => leC x y = true) (fun x y _ _ h1 h2 => leC_anti h1 h2) ((ab_sorted n).sublist List.filter_sublist) ((List.pairwise_mergeSort leC_trans leC_total _).sublist List.filter_sublist)
/-- above each band stands a greatest one -/
theorem up_great (N : NetG m n) {s : List Hd} (h : s ∈ allBands n) : ∃ t ∈ greatP n.gs, ∀ x ∈ s, x ∈ t := by
  obtain ⟨t0, ht0, hs0⟩ := ab_ch N h
  have key : ∀ k (t : List Hd), t ∈ choicesP n.gs → 6 - t.length ≤ k → ∃ u ∈ greatP n.gs, ∀ x ∈ t, x ∈ u := by
    intro k
    induction k with
    | zero =>
      intro t ht hk
      refine ⟨t, gp_iff.mpr ⟨ht, fun u hu htu => ?_⟩, fun x hx => hx⟩
      have l1 := hd_len (asc_nodup (ch_asc N ht))
      have l2 := hd_len (asc_nodup (ch_asc N hu))
      refine asc_eq (ch_asc N ht) (ch_asc N hu) fun x => ⟨htu x, fun hx => ?_⟩
      exact Classical.byContradiction fun hn => by
        have := nodup_le (x :: t) u (List.nodup_cons.mpr ⟨hn, asc_nodup (ch_asc N ht)⟩) fun y hy => by
          rcases List.mem_cons.mp hy with rfl | hy
          · exact hx
          · exact htu y hy
        simp only [List.length_cons] at this
        omega
    | succ k ih =>
      intro t ht hk
      by_cases hm : ∀ u ∈ choicesP n.gs, (∀ x ∈ t, x ∈ u) → t = u
      · exact ⟨t, gp_iff.mpr ⟨ht, hm⟩, fun x hx => hx⟩
      · have : ∃ u ∈ choicesP n.gs, (∀ x ∈ t, x ∈ u) ∧ t ≠ u := Classical.byContradiction fun hn => hm fun u hu htu => Classical.byContradiction fun ne => hn ⟨u, hu, htu, ne⟩
        obtain ⟨u, hu, htu, ne⟩ := this
        have lt : t.length < u.length := by
          refine Classical.byContradiction fun hn => ne (asc_eq (ch_asc N ht) (ch_asc N hu) fun x => ⟨htu x, fun hx => Classical.byContradiction fun hx' => ?_⟩)
          have := nodup_le (x :: t) u (List.nodup_cons.mpr ⟨hx', asc_nodup (ch_asc N ht)⟩) fun y hy => by
            rcases List.mem_cons.mp hy with rfl | hy
            · exact hx
            · exact htu y hy
          simp only [List.length_cons] at this
          omega
        obtain ⟨v, hv, huv⟩ := ih u hu (by omega)
        exact ⟨v, hv, fun x hx => huv x (htu x hx)⟩
  obtain ⟨u, hu, h2⟩ := key 6 t0 ht0 (by omega)
  exact ⟨u, hu, fun x hx => h2 x (hs0 x hx)⟩
theorem great_ab (N : NetG m n) {s : List Hd} (h : s ∈ greatP n.gs) : s ∈ allBands n := ch_ab N (gp_iff.mp h).1
end
end Bp

set_option Elab.async false
set_option linter.all false
set_option maxRecDepth 100000
set_option maxHeartbeats 1000001
namespace Bp
/-! ### plain: the first three -/
section
variable {α β : Type}
theorem fz_all {f : α × Nat → Option β} {c : Nat} : ∀ (l : List α) (k : Nat), c ≤ k → (l.zipIdx k).findSome? (fun b => if c ≤ b.2 then f b else none) = (l.zipIdx k).findSome? f
  | [], _, _ => rfl
  | a :: l, k, h => by
    rw [List.zipIdx_cons, List.findSome?_cons, List.findSome?_cons, fz_all l (k + 1) (by omega)]
    simp only [if_pos h]
theorem fz_from {f : α × Nat → Option β} : ∀ (l : List α) (k j : Nat), (l.zipIdx k).findSome? (fun b => if k + j ≤ b.2 then f b else none) = ((l.drop j).zipIdx (k + j)).findSome? f
  | [], _, j => by simp
  | a :: l, k, 0 => fz_all (c := k + 0) (a :: l) k (Nat.le_refl _)
  | a :: l, k, j + 1 => by
    rw [List.zipIdx_cons, List.findSome?_cons]
    have : ¬ (k + (j + 1) ≤ k) := by omega
    simp only [if_neg this]
    have e := fz_from (f := f) l (k + 1) j
    rw [show k + 1 + j = k + (j + 1) by omega] at e
    exact e
theorem fz_shift {f : α × Nat → Option β} (k : Nat) : ∀ (l : List α) (i : Nat), (l.zipIdx (k + i)).findSome? f = (l.zipIdx i).findSome? fun b => f (b.1, k + b.2)
  | [], _ => rfl
  | a :: l, i => by
    rw [List.zipIdx_cons, List.zipIdx_cons, List.findSome?_cons, List.findSome?_cons]
    have e := fz_shift (f := f) k l (i + 1)
    rw [show k + (i + 1) = k + i + 1 by omega] at e
    rw [e]
theorem fz_drop {g : α → Option β} : ∀ (l : List α) (k : Nat), (l.zipIdx k).findSome? (fun b => g b.1) = l.findSome? g
  | [], _ => rfl
  | a :: l, k => by rw [List.zipIdx_cons, List.findSome?_cons, List.findSome?_cons, fz_drop l (k + 1)]
theorem fs_false {f : α → Option β} {l : List α} (h : ∀ x ∈ l, f x = none) : l.findSome? f = none := List.findSome?_eq_none_iff.mpr h
theorem fs_congr {f g : α → Option β} : ∀ {l : List α}, (∀ x ∈ l, f x = g x) → l.findSome? f = l.findSome? g
  | [], _ => rfl
  | a :: l, h => by
    rw [List.findSome?_cons, List.findSome?_cons, h a List.mem_cons_self, fs_congr fun x hx => h x (List.mem_cons_of_mem _ hx)]
end
theorem find3_eq (hs : List Hd) (l : List (List Hd)) : find3 hs l = find3P hs l := by
  unfold find3 find3P
  refine fs_congr fun a _ => ?_
  have h1 : ∀ b : List Hd × Nat, (l.zipIdx.findSome? fun c => if ((decide (a.2 ≤ b.2) && decide (b.2 ≤ c.2)) && within hs (a.1 ++ b.1 ++ c.1)) = true then some (a.1, b.1, c.1) else none) =
      if a.2 ≤ b.2 then (l.drop b.2).findSome? (fun c => if within hs (a.1 ++ b.1 ++ c) = true then some (a.1, b.1, c) else none) else none := fun b => by
    by_cases h : a.2 ≤ b.2
    · rw [if_pos h]
      have e1 := fz_from (f := fun c : List Hd × Nat => if within hs (a.1 ++ b.1 ++ c.1) = true then some (a.1, b.1, c.1) else none) l 0 b.2
      rw [fz_drop (g := fun c => if within hs (a.1 ++ b.1 ++ c) = true then some (a.1, b.1, c) else none), Nat.zero_add] at e1
      rw [← e1]
      refine fs_congr fun c _ => ?_
      by_cases h2 : b.2 ≤ c.2
      · simp [h, h2]
      · simp [h, h2]
    · rw [if_neg h]
      exact fs_false fun c _ => by simp [h]
  rw [fs_congr fun b _ => h1 b]
  have e2 := fz_from (f := fun b : List Hd × Nat => (l.drop b.2).findSome? fun c => if within hs (a.1 ++ b.1 ++ c) = true then some (a.1, b.1, c) else none) l 0 a.2
  rw [Nat.zero_add] at e2
  rw [e2]
  exact fz_shift a.2 (l.drop a.2) 0
def Covers (hs a b c : List Hd) : Prop := ∀ x ∈ hs, x ∈ a ∨ x ∈ b ∨ x ∈ c
theorem within3 {hs a b c : List Hd} : within hs (a ++ b ++ c) = true ↔ Covers hs a b c := by
  rw [within_iff]
  simp only [List.mem_append, or_assoc]
  rfl
theorem find3_some {hs : List Hd} {l : List (List Hd)} : (find3 hs l).isSome = true ↔ ∃ a ∈ l, ∃ b ∈ l, ∃ c ∈ l, Covers hs a b c := by
  have at_ : ∀ {p : List Hd × Nat}, p ∈ l.zipIdx → p.1 ∈ l ∧ l[p.2]? = some p.1 := fun {p} hp => by
    obtain ⟨j, hj⟩ := List.getElem?_of_mem hp
    obtain ⟨e1, e2⟩ := zipIdx_get (b := p.1) (j := p.2) hj
    rw [e1]
    exact ⟨List.mem_of_getElem? e2, e2⟩
  have to_ : ∀ {j : Nat} {a : List Hd}, l[j]? = some a → (a, j) ∈ l.zipIdx := fun {j a} h => by
    have : l.zipIdx[j]? = some (a, j) := by rw [List.getElem?_zipIdx, h]; simp
    exact List.mem_of_getElem? this
  unfold find3
  constructor
  · intro h
    obtain ⟨a, ha, h⟩ := List.findSome?_isSome_iff.mp h
    obtain ⟨b, hb, h⟩ := List.findSome?_isSome_iff.mp h
    obtain ⟨c, hc, h⟩ := List.findSome?_isSome_iff.mp h
    refine ⟨a.1, (at_ ha).1, b.1, (at_ hb).1, c.1, (at_ hc).1, ?_⟩
    split at h
    · rename_i hh
      rw [Bool.and_eq_true] at hh
      exact within3.mp hh.2
    · cases h
  · rintro ⟨a, ha, b, hb, c, hc, h⟩
    obtain ⟨i, hi⟩ := List.getElem?_of_mem ha
    obtain ⟨j, hj⟩ := List.getElem?_of_mem hb
    obtain ⟨k, hk⟩ := List.getElem?_of_mem hc
    have go : ∀ (a b c : List Hd) (i j k : Nat), l[i]? = some a → l[j]? = some b → l[k]? = some c → i ≤ j → j ≤ k → Covers hs a b c → (l.zipIdx.findSome? fun a => l.zipIdx.findSome? fun b => l.zipIdx.findSome? fun c => if ((decide (a.2 ≤ b.2) && decide (b.2 ≤ c.2)) && within hs (a.1 ++ b.1 ++ c.1)) = true then some (a.1, b.1, c.1) else none).isSome = true := fun a b c i j k hi hj hk l1 l2 h => by
      refine List.findSome?_isSome_iff.mpr ⟨(a, i), to_ hi, List.findSome?_isSome_iff.mpr ⟨(b, j), to_ hj, List.findSome?_isSome_iff.mpr ⟨(c, k), to_ hk, ?_⟩⟩⟩
      rw [if_pos (by simp only; rw [within3.mpr h, decide_eq_true l1, decide_eq_true l2]; rfl)]
      rfl
    have p1 : Covers hs a c b := fun x hx => by rcases h x hx with h | h | h <;> simp [h]
    have p2 : Covers hs b a c := fun x hx => by rcases h x hx with h | h | h <;> simp [h]
    have p3 : Covers hs b c a := fun x hx => by rcases h x hx with h | h | h <;> simp [h]
    have p4 : Covers hs c a b := fun x hx => by rcases h x hx with h | h | h <;> simp [h]
    have p5 : Covers hs c b a := fun x hx => by rcases h x hx with h | h | h <;> simp [h]
    rcases Nat.le_total i j with h1 | h1 <;> rcases Nat.le_total j k with h2 | h2 <;> rcases Nat.le_total i k with h3 | h3
    · exact go a b c i j k hi hj hk h1 h2 h
    · exact go a b c i j k hi hj hk h1 h2 h
    · exact go a c b i k j hi hk hj h3 h2 p1
    · exact go c a b k i j hk hi hj h3 h1 p4
    · exact go b a c j i k hj hi hk h1 h3 p2
    · exact go b c a j k i hj hk hi h2 h3 p3
    · exact go c b a k j i hk hj hi h2 h1 p5
    · exact go c b a k j i hk hj hi h2 h1 p5
section
variable {m : Nat} {n : Net}
theorem three_eq (N : NetG m n) : find3P (banN n).hs (banN n).gs = threeDue n := by
  unfold threeDue
  rw [find3_eq, great_eq N]
  rfl
theorem uni_mem {a b : List Hd} {x : Hd} : x ∈ unionL a b ↔ x ∈ a ∨ x ∈ b := by
  unfold unionL
  rw [sH_mem, once_mem, List.mem_append]
theorem held_eq (N : NetG m n) : heldBy n = (threeDue n).isSome := by
  rw [Bool.eq_iff_iff]
  unfold threeDue
  rw [find3_some]
  unfold heldBy
  rw [List.any_eq_true]
  constructor
  · rintro ⟨s, hs, h⟩
    obtain ⟨a, ha, b, hb, rfl⟩ := unionsL_mem.mp hs
    obtain ⟨A, hA, sa⟩ := up_great N ha
    obtain ⟨B, hB, sb⟩ := up_great N hb
    rw [great_eq N]
    rcases isIn_iff.mp h with e | ⟨c, hc, h⟩
    · refine ⟨A, hA, B, hB, A, hA, fun x hx => ?_⟩
      refine Classical.byContradiction fun hn => ?_
      have : x ∈ n.hs.filter fun h => !decide (h ∈ unionL a b) := List.mem_filter.mpr ⟨hx, by
        have : x ∉ unionL a b := fun hu => by
          rcases uni_mem.mp hu with h | h
          · exact hn (.inl (sa x h))
          · exact hn (.inr (.inl (sb x h)))
        simp [this]⟩
      rw [e] at this
      cases this
    · obtain ⟨C, hC, sc⟩ := up_great N hc
      refine ⟨A, hA, B, hB, C, hC, fun x hx => ?_⟩
      by_cases hu : x ∈ unionL a b
      · rcases uni_mem.mp hu with h | h
        · exact .inl (sa x h)
        · exact .inr (.inl (sb x h))
      · exact .inr (.inr (sc x (h x (List.mem_filter.mpr ⟨hx, by simp [hu]⟩))))
  · rintro ⟨a, ha, b, hb, c, hc, h⟩
    rw [great_eq N] at ha hb hc
    refine ⟨unionL a b, unionsL_mem.mpr ⟨a, great_ab N ha, b, great_ab N hb, rfl⟩, isIn_iff.mpr (.inr ⟨c, great_ab N hc, fun x hx => ?_⟩)⟩
    obtain ⟨h1, h2⟩ := List.mem_filter.mp hx
    have h3 : x ∉ unionL a b := by simpa using h2
    rcases h x h1 with k | k | k
    · exact absurd (uni_mem.mpr (.inl k)) h3
    · exact absurd (uni_mem.mpr (.inr k)) h3
    · exact k
end
end Bp

set_option Elab.async false
set_option linter.all false
set_option maxRecDepth 100000
set_option maxHeartbeats 1000001
namespace Bp
/-! ### plain: what is reached, the ways -/
inductive Pth (hs : List Hd) (rs : List (Hd × Hd)) (gone : List Hd) (a : Hd) : Hd → Prop
  | refl : Pth hs rs gone a a
  | step {x o : Hd} : Pth hs rs gone a x → o ∈ hs → o ≠ x → pairS x o ∈ rs → o ∉ gone → Pth hs rs gone a o
theorem Pth.mono {hs hs' : List Hd} {rs rs' : List (Hd × Hd)} {gone gone' : List Hd} {a c : Hd} (h1 : ∀ x ∈ hs, x ∈ hs') (h2 : ∀ p ∈ rs, p ∈ rs') (h3 : ∀ x ∈ gone', x ∈ gone) (p : Pth hs rs gone a c) : Pth hs' rs' gone' a c := by
  induction p with
  | refl => exact .refl
  | step _ k1 k2 k3 k4 ih => exact .step ih (h1 _ k1) k2 (h2 _ k3) fun z => k4 (h3 _ z)
section
variable {b : Ban} {gone : List Hd} {a : Hd}
theorem reach_pth : ∀ n c, c ∈ reachN b gone a n → Pth b.hs b.rs gone a c
  | 0, c, h => by
    cases List.mem_singleton.mp (show c ∈ [a] from h)
    exact .refl
  | n + 1, c, h => by
    rcases stepR_mem.mp (show c ∈ stepR b gone (reachN b gone a n) from h) with h | ⟨_, h2, x, hx, h3⟩
    · exact reach_pth n c h
    · obtain ⟨k1, k2, k3⟩ := nearB_mem.mp h3
      exact .step (reach_pth n x hx) k1 k2 k3 h2
theorem reach_up : ∀ {k n : Nat}, k ≤ n → ∀ c, c ∈ reachN b gone a k → c ∈ reachN b gone a n := fun {k n} h => by
  induction h with
  | refl => exact fun c h => h
  | step _ ih => exact fun c h => stepR_mem.mpr (.inl (ih c h))
theorem reach_grow : ∀ n, (∃ k, k ≤ n ∧ ∀ o, o ∈ stepR b gone (reachN b gone a k) → o ∈ reachN b gone a k) ∨ n + 1 ≤ (reachN b gone a n).length
  | 0 => .inr (Nat.le_refl _)
  | n + 1 => by
    rcases reach_grow n with ⟨k, hk, h⟩ | h
    · exact .inl ⟨k, Nat.le_succ_of_le hk, h⟩
    · by_cases hc : ∀ o, o ∈ stepR b gone (reachN b gone a n) → o ∈ reachN b gone a n
      · exact .inl ⟨n, Nat.le_succ _, hc⟩
      · refine .inr ?_
        have : ∃ o, o ∈ stepR b gone (reachN b gone a n) ∧ o ∉ reachN b gone a n := Classical.byContradiction fun hn => hc fun o ho => Classical.byContradiction fun ho' => hn ⟨o, ho, ho'⟩
        obtain ⟨o, ho, ho'⟩ := this
        show n + 1 + 1 ≤ (stepR b gone (reachN b gone a n)).length
        unfold stepR at ho ⊢
        rw [List.length_append]
        rcases List.mem_append.mp ho with z | z
        · exact absurd z ho'
        · have := List.length_pos_of_mem z
          omega
theorem reach_iff (ha : a ∈ b.hs) {c : Hd} : c ∈ reachB b a gone ↔ Pth b.hs b.rs gone a c := by
  refine ⟨reach_pth _ c, fun p => ?_⟩
  rcases reach_grow (b := b) (gone := gone) (a := a) b.hs.length with ⟨k, hk, h⟩ | h
  · refine reach_up hk c ?_
    clear hk
    induction p with
    | refl => exact reach_up (Nat.zero_le k) a (by simp [reachN])
    | @step x o _ k1 k2 k3 k4 ih =>
      by_cases z : o ∈ reachN b gone a k
      · exact z
      · exact h o (stepR_mem.mpr (.inr ⟨z, k4, x, ih, nearB_mem.mpr ⟨k1, k2, k3⟩⟩))
  · have := reachN_len (gone := gone) ha b.hs.length
    omega
end
theorem pairS_lt {x o : Hd} (h : x.val < o.val) : pairS x o = (x, o) := by unfold pairS; rw [if_pos (Nat.le_of_lt h)]
theorem pairS_gt {x o : Hd} (h : o.val < x.val) : pairS x o = (o, x) := by unfold pairS; rw [if_neg (by omega)]
theorem pairS_comm (x o : Hd) : pairS x o = pairS o x := by
  rcases Nat.lt_trichotomy x.val o.val with h | h | h
  · rw [pairS_lt h, pairS_gt h]
  · have : x = o := Fin.ext h
    rw [this]
  · rw [pairS_gt h, pairS_lt h]
theorem near_iff {rs : List (Hd × Hd)} (hr : ∀ p ∈ rs, p.1.val < p.2.val) {h o : Hd} : o ∈ nearL rs h ↔ o ≠ h ∧ pairS h o ∈ rs := by
  unfold nearL
  rw [sH_mem, List.mem_map]
  constructor
  · rintro ⟨⟨x, y⟩, hp, rfl⟩
    obtain ⟨h1, h2⟩ := List.mem_filter.mp hp
    have lt := hr _ h1
    simp only at lt
    have h3 : h = x ∨ h = y := by simpa using h2
    by_cases e : y = h
    · subst e
      simp only [if_true]
      exact ⟨fun z => by rw [z] at lt; omega, by rw [pairS_gt lt]; exact h1⟩
    · rw [if_neg e]
      have e2 : h = x := h3.resolve_right (fun z => e z.symm)
      subst e2
      exact ⟨e, by rw [pairS_lt lt]; exact h1⟩
  · rintro ⟨ne, hp⟩
    refine ⟨pairS h o, List.mem_filter.mpr ⟨hp, ?_⟩, ?_⟩
    · unfold pairS
      split <;> simp
    · by_cases hle : h.val ≤ o.val
      · rw [show pairS h o = (h, o) from if_pos hle]
        show (if o = h then h else o) = o
        rw [if_neg ne]
      · rw [show pairS h o = (o, h) from if_neg hle]
        show (if h = h then o else h) = o
        rw [if_pos rfl]
/-- a simple way from a, its end -/
inductive Wy (rs : List (Hd × Hd)) (a : Hd) : List Hd → Hd → Prop
  | one : Wy rs a [a] a
  | snoc {w : List Hd} {x h : Hd} : Wy rs a w x → h ∈ nearL rs x → h ∉ w → Wy rs a (w ++ [h]) h
section
variable {rs : List (Hd × Hd)} {a o : Hd}
theorem Wy.last {w : List Hd} {x : Hd} (h : Wy rs a w x) : w.getLast? = some x := by
  cases h with
  | one => rfl
  | snoc _ _ _ => simp
theorem Wy.mem {w : List Hd} {x : Hd} (h : Wy rs a w x) : x ∈ w := List.mem_of_getLast? h.last
theorem Wy.nodup {w : List Hd} {x : Hd} (h : Wy rs a w x) : w.Nodup := by
  induction h with
  | one => simp
  | @snoc w x h _ _ hn ih =>
    rw [List.nodup_append]
    exact ⟨ih, by simp, fun y hy z hz => by cases List.mem_singleton.mp hz; rintro rfl; exact hn hy⟩
theorem Wy.cut {w : List Hd} {x y : Hd} (h : Wy rs a w x) (hy : y ∈ w) : ∃ w', Wy rs a w' y ∧ ∀ z ∈ w', z ∈ w := by
  induction h with
  | one =>
    cases List.mem_singleton.mp hy
    exact ⟨[a], .one, fun z h => h⟩
  | @snoc w x h p hn hm ih =>
    rcases List.mem_append.mp hy with hy | hy
    · obtain ⟨w', h1, h2⟩ := ih hy
      exact ⟨w', h1, fun z hz => List.mem_append_left _ (h2 z hz)⟩
    · rw [List.mem_singleton.mp hy]
      exact ⟨w ++ [h], .snoc p hn hm, fun z h => h⟩
theorem run_sound : ∀ n, (∀ w ∈ (runW rs a o n).2, ∃ x, Wy rs a w x) ∧ ∀ w ∈ (runW rs a o n).1, Wy rs a w o
  | 0 => ⟨fun w h => by cases List.mem_singleton.mp (show w ∈ [[a]] from h); exact ⟨a, .one⟩, fun w h => by cases h⟩
  | n + 1 => by
    obtain ⟨h1, h2⟩ := run_sound n
    refine ⟨fun w h => ?_, fun w h => ?_⟩
    · obtain ⟨v, hv, hw⟩ := List.mem_flatMap.mp (show w ∈ ((runW rs a o n).2.filter fun w => !isAt o w).flatMap (goOn rs) from h)
      obtain ⟨x, hx⟩ := h1 v (List.mem_filter.mp hv).1
      obtain ⟨y, hy, rfl⟩ := List.mem_map.mp hw
      obtain ⟨y1, y2⟩ := List.mem_filter.mp hy
      rw [hx.last] at y1
      exact ⟨y, .snoc hx y1 (by simpa using y2)⟩
    · rcases List.mem_append.mp (show w ∈ (runW rs a o n).1 ++ (runW rs a o n).2.filter (isAt o) from h) with h | h
      · exact h2 w h
      · obtain ⟨k1, k2⟩ := List.mem_filter.mp h
        obtain ⟨x, hx⟩ := h1 w k1
        have e : w.getLast? = some o := by unfold isAt at k2; simpa using k2
        rw [hx.last] at e
        cases e
        exact hx
theorem run_level : ∀ n w x, Wy rs a w x → w.length = n + 1 → o ∉ w.dropLast → w ∈ (runW rs a o n).2
  | 0, w, x, h, hl, _ => by
    cases h with
    | one => exact List.mem_singleton.mpr rfl
    | @snoc w' _ h' p _ _ =>
      have h1 := List.length_pos_of_mem p.mem
      have h2 : (w' ++ [x]).length = w'.length + 1 := by simp
      omega
  | n + 1, w, x, h, hl, ho => by
    cases h with
    | one => simp at hl
    | @snoc w' x' _ p hn hm =>
      rw [List.dropLast_concat] at ho
      have hl' : w'.length = n + 1 := by rw [List.length_append] at hl; simpa using hl
      have hw := run_level n w' x' p hl' fun z => ho ((List.dropLast_sublist _).subset z)
      refine List.mem_flatMap.mpr ⟨w', List.mem_filter.mpr ⟨hw, ?_⟩, List.mem_map.mpr ⟨x, List.mem_filter.mpr ⟨?_, by simp [hm]⟩, rfl⟩⟩
      · unfold isAt
        rw [p.last]
        have : x' ≠ o := fun e => ho (e ▸ p.mem)
        simp [this]
      · rw [p.last]; exact hn
theorem run_found {n : Nat} : ∀ {k : Nat}, n ≤ k → ∀ w, w ∈ (runW rs a o n).1 → w ∈ (runW rs a o k).1 := fun {k} h => by
  induction h with
  | refl => exact fun w h => h
  | step _ ih => exact fun w h => List.mem_append_left _ (ih w h)
theorem ways_iff {w : List Hd} : w ∈ waysL rs a o ↔ Wy rs a w o := by
  refine ⟨(run_sound 7).2 w, fun h => ?_⟩
  have hl := hd_len h.nodup
  have hp := List.length_pos_of_mem h.mem
  obtain ⟨n, hn⟩ : ∃ n, w.length = n + 1 := ⟨w.length - 1, by omega⟩
  have hd : o ∉ w.dropLast := by
    cases h with
    | one => simp
    | snoc _ _ hm => rw [List.dropLast_concat]; exact hm
  have h1 := run_level n w o h hn hd
  have h2 : w ∈ (runW rs a o (n + 1)).1 := List.mem_append_right _ (List.mem_filter.mpr ⟨h1, by unfold isAt; rw [h.last]; simp⟩)
  exact run_found (by omega) w h2
theorem free_iff {w s : List Hd} : isFree w s = true ↔ ∀ h ∈ w, h ∉ s := by
  unfold isFree
  rw [Bool.not_eq_true', List.any_eq_false]
  simp
end
/-- a free way just where the other is reached -/
theorem way_iff {m : Nat} {n : Net} (N : NetG m n) {gone : List Hd} {a c : Hd} (ha : a ∈ n.hs) (hg : a ∉ gone) : (∃ w ∈ waysL n.rs a c, isFree w gone = true) ↔ Pth n.hs n.rs gone a c := by
  have hr : ∀ p ∈ n.rs, p.1 ∈ n.hs ∧ p.2 ∈ n.hs ∧ p.1.val < p.2.val := fun p hp => by
    have := N.rs.subset hp
    rw [pairsZ_eq] at this
    exact (pairsR_iff N.asc).mp this
  have hin : ∀ x o, pairS x o ∈ n.rs → o ∈ n.hs := fun x o h => by
    have := hr _ h
    unfold pairS at this
    split at this
    · exact this.2.1
    · exact this.1
  constructor
  · rintro ⟨w, hw0, hf0⟩
    have hf := free_iff.mp hf0
    have hw := ways_iff.mp hw0
    clear hw0 hf0
    induction hw with
    | one => exact .refl
    | @snoc w x h p hn hm ih =>
      obtain ⟨k1, k2⟩ := (near_iff fun p hp => (hr p hp).2.2).mp hn
      exact .step (ih fun y hy => hf y (List.mem_append_left _ hy)) (hin _ _ k2) k1 k2 (hf h (by simp))
  · intro p
    have : ∃ w, Wy n.rs a w c ∧ ∀ h ∈ w, h ∉ gone := by
      induction p with
      | refl => exact ⟨[a], .one, fun h hh => by cases List.mem_singleton.mp hh; exact hg⟩
      | @step x o _ k1 k2 k3 k4 ih =>
        obtain ⟨w, h1, h2⟩ := ih
        by_cases ho : o ∈ w
        · obtain ⟨w', h3, h4⟩ := h1.cut ho
          exact ⟨w', h3, fun h hh => h2 h (h4 h hh)⟩
        · exact ⟨w ++ [o], .snoc h1 ((near_iff fun p hp => (hr p hp).2.2).mpr ⟨k2, k3⟩) ho, fun h hh => by
            rcases List.mem_append.mp hh with hh | hh
            · exact h2 h hh
            · cases List.mem_singleton.mp hh; exact k4⟩
    obtain ⟨w, h1, h2⟩ := this
    exact ⟨w, ways_iff.mpr h1, free_iff.mpr h2⟩
end Bp

set_option Elab.async false
set_option linter.all false
set_option maxRecDepth 100000
set_option maxHeartbeats 1000001
namespace Bp
/-! ### plain: who is parted -/
theorem find2_congr {f f' : List Hd → List Hd → Bool} {l : List (List Hd)} (h : ∀ s ∈ l, ∀ t ∈ l, f s t = f' s t) : find2 f l = find2 f' l := by
  unfold find2
  refine fs_congr fun a ha => fs_congr fun b hb => ?_
  obtain ⟨j, hj⟩ := List.getElem?_of_mem ha
  have h1 : a.1 ∈ l := List.mem_of_getElem? (zipIdx_get (b := a.1) (j := a.2) hj).2
  rw [h a.1 h1 b (List.mem_of_mem_drop hb)]
theorem find2_some {f : List Hd → List Hd → Bool} (sym : ∀ s t, f s t = f t s) {l : List (List Hd)} : (find2 f l).isSome = true ↔ ∃ s ∈ l, ∃ t ∈ l, f s t = true := by
  unfold find2
  constructor
  · intro h
    obtain ⟨a, ha, h⟩ := List.findSome?_isSome_iff.mp h
    obtain ⟨b, hb, h⟩ := List.findSome?_isSome_iff.mp h
    obtain ⟨j, hj⟩ := List.getElem?_of_mem ha
    refine ⟨a.1, List.mem_of_getElem? (zipIdx_get (b := a.1) (j := a.2) hj).2, b, List.mem_of_mem_drop hb, ?_⟩
    split at h
    · rename_i hh; exact hh
    · cases h
  · rintro ⟨s, hs, t, ht, h⟩
    obtain ⟨i, hi⟩ := List.getElem?_of_mem hs
    obtain ⟨j, hj⟩ := List.getElem?_of_mem ht
    have go : ∀ (s t : List Hd) (i j : Nat), l[i]? = some s → l[j]? = some t → i ≤ j → f s t = true → (l.zipIdx.findSome? fun a => (l.drop a.2).findSome? fun b => if f a.1 b = true then some (a.1, b) else none).isSome = true := fun s t i j hi hj hij h => by
      have z : l.zipIdx[i]? = some (s, i) := by rw [List.getElem?_zipIdx, hi]; simp
      have y : (l.drop i)[j - i]? = some t := by rw [List.getElem?_drop]; rw [show i + (j - i) = j by omega]; exact hj
      refine List.findSome?_isSome_iff.mpr ⟨(s, i), List.mem_of_getElem? z, List.findSome?_isSome_iff.mpr ⟨t, List.mem_of_getElem? y, ?_⟩⟩
      rw [if_pos h]
      rfl
    rcases Nat.le_total i j with hij | hij
    · exact go s t i j hi hj hij h
    · exact go t s j i hj hi hij (by rw [sym]; exact h)
theorem minus_mem {a c x : Hd} {t : List Hd} : x ∈ minus a c t ↔ x ∈ t ∧ x ≠ a ∧ x ≠ c := by
  unfold minus
  rw [List.mem_filter]
  simp
/-- the hands that are away -/
def gone2 (a c : Hd) (s t : List Hd) : List Hd := minus a c s ++ minus a c t
theorem gone2_mem {a c x : Hd} {s t : List Hd} : x ∈ gone2 a c s t ↔ (x ∈ s ∨ x ∈ t) ∧ x ≠ a ∧ x ≠ c := by
  unfold gone2
  rw [List.mem_append, minus_mem, minus_mem]
  constructor
  · rintro (⟨h1, h2⟩ | ⟨h1, h2⟩)
    · exact ⟨.inl h1, h2⟩
    · exact ⟨.inr h1, h2⟩
  · rintro ⟨h1 | h1, h2⟩
    · exact .inl ⟨h1, h2⟩
    · exact .inr ⟨h1, h2⟩
theorem reach_bool {b : Ban} {a c : Hd} {g : List Hd} (ha : a ∈ b.hs) : (!decide (c ∈ reachB b a g)) = true ↔ ¬ Pth b.hs b.rs g a c := by
  rw [← reach_iff ha]
  simp
theorem part_some {b : Ban} {a c : Hd} (ha : a ∈ b.hs) : (partP b a c).isSome = true ↔ ∃ s ∈ b.gs, ∃ t ∈ b.gs, ¬ Pth b.hs b.rs (gone2 a c s t) a c := by
  unfold partP
  rw [find2_some fun s t => ?_]
  · constructor
    · rintro ⟨s, hs, t, ht, h⟩
      obtain ⟨s', hs', rfl⟩ := List.mem_map.mp hs
      obtain ⟨t', ht', rfl⟩ := List.mem_map.mp ht
      exact ⟨s', hs', t', ht', (reach_bool ha).mp h⟩
    · rintro ⟨s, hs, t, ht, h⟩
      exact ⟨_, List.mem_map.mpr ⟨s, hs, rfl⟩, _, List.mem_map.mpr ⟨t, ht, rfl⟩, (reach_bool ha).mpr h⟩
  · rw [Bool.eq_iff_iff, reach_bool ha, reach_bool ha]
    constructor <;> exact fun h p => h (p.mono (fun _ h => h) (fun _ h => h) fun x hx => by simpa [or_comm] using hx)
section
variable {m : Nat} {n : Net}
theorem pair_in (N : NetG m n) {p : Hd × Hd} (h : p ∈ pairsZ n.hs) : p.1 ∈ n.hs ∧ p.2 ∈ n.hs ∧ p.1.val < p.2.val := by
  rw [pairsZ_eq] at h
  exact (pairsR_iff N.asc).mp h
theorem minus_ab (N : NetG m n) {a c : Hd} {s : List Hd} (h : s ∈ greatP n.gs) : minus a c s ∈ without n a c := by
  unfold without
  have h0 := (ab_iff N).mp (great_ab N h)
  refine List.mem_filter.mpr ⟨(ab_iff N).mpr ⟨asc_sub h0.1 List.filter_sublist, fun x hx => h0.2.1 x (minus_mem.mp hx).1, ?_⟩, ?_⟩
  · rcases h0.2.2 with e | ⟨g, hg, k⟩
    · exact .inl (by rw [e]; rfl)
    · exact .inr ⟨g, hg, fun x hx => k x (minus_mem.mp hx).1⟩
  · have k1 : a ∉ minus a c s := fun h => (minus_mem.mp h).2.1 rfl
    have k2 : c ∉ minus a c s := fun h => (minus_mem.mp h).2.2 rfl
    simp [k1, k2]
theorem parted_iff (N : NetG m n) {a c : Hd} (ha : a ∈ n.hs) (hc : c ∈ n.hs) (hac : a ≠ c) : isParted n a c = true ↔ ∃ s ∈ greatP n.gs, ∃ t ∈ greatP n.gs, ¬ Pth n.hs n.rs (gone2 a c s t) a c := by
  unfold isParted
  constructor
  · intro h
    split at h
    · cases h
    · obtain ⟨u, hu, h⟩ := List.any_eq_true.mp h
      obtain ⟨b1, hb1, b2, hb2, rfl⟩ := unionsL_mem.mp hu
      obtain ⟨k1, k2⟩ := List.mem_filter.mp hb1
      obtain ⟨k3, k4⟩ := List.mem_filter.mp hb2
      have k2 : a ∉ b1 ∧ c ∉ b1 := by simpa using k2
      have k4 : a ∉ b2 ∧ c ∉ b2 := by simpa using k4
      obtain ⟨s, hs, i1⟩ := up_great N k1
      obtain ⟨t, ht, i2⟩ := up_great N k3
      refine ⟨s, hs, t, ht, fun p => ?_⟩
      have nu : a ∉ unionL b1 b2 := fun z => by rcases uni_mem.mp z with z | z; exact k2.1 z; exact k4.1 z
      have p2 : Pth n.hs n.rs (unionL b1 b2) a c := p.mono (fun _ h => h) (fun _ h => h) fun x hx => by
        rw [gone2_mem]
        rcases uni_mem.mp hx with z | z
        · exact ⟨.inl (i1 x z), fun e => k2.1 (e ▸ z), fun e => k2.2 (e ▸ z)⟩
        · exact ⟨.inr (i2 x z), fun e => k4.1 (e ▸ z), fun e => k4.2 (e ▸ z)⟩
      obtain ⟨w, hw, hf⟩ := (way_iff N ha nu).mpr p2
      rw [Bool.not_eq_true', List.any_eq_false] at h
      exact h w hw hf
  · rintro ⟨s, hs, t, ht, h⟩
    have np : pairS a c ∉ n.rs := fun hp => h (.step .refl hc (Ne.symm hac) hp fun z => (gone2_mem.mp z).2.2 rfl)
    rw [if_neg np]
    refine List.any_eq_true.mpr ⟨unionL (minus a c s) (minus a c t), unionsL_mem.mpr ⟨_, minus_ab N hs, _, minus_ab N ht, rfl⟩, ?_⟩
    rw [Bool.not_eq_true', List.any_eq_false]
    intro w hw hf
    have mem : ∀ x, x ∈ unionL (minus a c s) (minus a c t) ↔ x ∈ gone2 a c s t := fun x => by
      rw [uni_mem]; unfold gone2; rw [List.mem_append]
    have na : a ∉ gone2 a c s t := fun z => (gone2_mem.mp z).2.1 rfl
    exact h ((way_iff N ha na).mp ⟨w, hw, free_iff.mpr fun x hx z => free_iff.mp hf x hx ((mem x).mpr z)⟩)
theorem part_isSome (N : NetG m n) {p : Hd × Hd} (h : p ∈ pairsZ n.hs) : (partP (banN n) p.1 p.2).isSome = isParted n p.1 p.2 := by
  obtain ⟨h1, h2, h3⟩ := pair_in N h
  rw [Bool.eq_iff_iff, part_some (b := banN n) h1, parted_iff N h1 h2 (fun e => by rw [e] at h3; omega)]
  rfl
theorem part_eq (N : NetG m n) {p : Hd × Hd} (h : p ∈ pairsZ n.hs) : partP (banN n) p.1 p.2 = if isParted n p.1 p.2 = true then find2 (cutsAll n p.1 p.2) ((greatestL n).map (minus p.1 p.2)) else none := by
  have e := part_isSome N h
  obtain ⟨h1, h2, h3⟩ := pair_in N h
  by_cases hp : isParted n p.1 p.2 = true
  · rw [if_pos hp, great_eq N]
    unfold partP
    refine find2_congr fun s hs t ht => ?_
    obtain ⟨s', _, rfl⟩ := List.mem_map.mp hs
    obtain ⟨t', _, rfl⟩ := List.mem_map.mp ht
    have na : p.1 ∉ minus p.1 p.2 s' ++ minus p.1 p.2 t' := fun z => (gone2_mem.mp z).2.1 rfl
    rw [Bool.eq_iff_iff, reach_bool (b := banN n) h1]
    unfold cutsAll
    rw [Bool.not_eq_true', List.any_eq_false]
    show ¬ Pth n.hs n.rs _ _ _ ↔ _
    rw [← way_iff N h1 na]
    constructor
    · exact fun h w hw hf => h ⟨w, hw, hf⟩
    · rintro h ⟨w, hw, hf⟩
      exact h w hw hf
  · rw [if_neg hp]
    have : isParted n p.1 p.2 = false := by simpa using hp
    rw [this] at e
    cases q : partP (banN n) p.1 p.2 with
    | none => rfl
    | some x => rw [q] at e; cases e
theorem parted_eq (N : NetG m n) : partedP (banN n) = partedDue n := by
  unfold partedP partedDue
  refine fs_congr fun p hp => ?_
  rw [part_eq N hp]
  split <;> rfl
def sureD (n : Net) : List (Hd × Hd) := (pairsZ n.hs).filter fun p => !isParted n p.1 p.2
theorem sure_eq (N : NetG m n) : sureP (banN n) = sureD n := by
  unfold sureP sureD
  refine List.filter_congr fun p hp => ?_
  have e := part_isSome N hp
  rw [← e]
  cases partP (banN n) p.1 p.2 <;> rfl
theorem sure_mem {b : Ban} {p : Hd × Hd} : p ∈ sureP b ↔ p ∈ pairsZ b.hs ∧ ∀ s ∈ b.gs, ∀ t ∈ b.gs, Pth b.hs b.rs (gone2 p.1 p.2 s t) p.1 p.2 := by
  unfold sureP
  rw [List.mem_filter]
  constructor
  · rintro ⟨h1, h2⟩
    refine ⟨h1, fun s hs t ht => Classical.byContradiction fun h => ?_⟩
    have := (part_some (b := b) (pairsZ_fst h1)).mpr ⟨s, hs, t, ht, h⟩
    rw [Option.isNone_iff_eq_none] at h2
    rw [h2] at this
    cases this
  · rintro ⟨h1, h2⟩
    refine ⟨h1, ?_⟩
    cases q : partP b p.1 p.2 with
    | none => rfl
    | some x =>
      obtain ⟨s, hs, t, ht, h⟩ := (part_some (b := b) (pairsZ_fst h1)).mp (by rw [q]; rfl)
      exact absurd (h2 s hs t ht) h
theorem due_none (N : NetG m n) : (partedDue n).isNone = decide (sureD n = pairsZ n.hs) := by
  rw [← parted_eq N, ← sure_eq N]
  have key : (partedP (banN n)).isNone = true ↔ sureP (banN n) = pairsZ n.hs := by
    rw [Option.isNone_iff_eq_none]
    unfold partedP sureP
    show _ ↔ List.filter _ (pairsZ n.hs) = pairsZ n.hs
    rw [List.findSome?_eq_none_iff, List.filter_eq_self]
    constructor
    · intro h p hp
      have := h p hp
      cases q : partP (banN n) p.1 p.2 with
      | none => rfl
      | some x => rw [q] at this; cases this
    · intro h p hp
      have := h p hp
      cases q : partP (banN n) p.1 p.2 with
      | none => rfl
      | some x => rw [q] at this; cases this
  rw [Bool.eq_iff_iff, key]
  simp
theorem agree_eq (N : NetG m n) : agreeP (banN n) = ((threeDue n).isNone && (partedDue n).isNone) := by
  unfold agreeP
  rw [three_eq N, parted_eq N]
/-- with a road more -/
theorem wide_ok (N : NetG m n) {b : Ban} (h1 : b.hs = n.hs) (h2 : ∀ p ∈ n.rs, p ∈ b.rs) (h3 : b.gs = greatP n.gs) {p : Hd × Hd} (hp : p ∈ sureD n) : p ∈ sureP b := by
  rw [← sure_eq N, sure_mem] at hp
  rw [sure_mem]
  refine ⟨by rw [h1]; exact hp.1, fun s hs t ht => ?_⟩
  rw [h3] at hs ht
  exact (hp.2 s hs t ht).mono (fun x hx => by rw [h1]; exact hx) h2 fun _ h => h
/-- with a set less -/
theorem less_up (N : NetG m n) {n' : Net} (N' : NetG m n') (e1 : n'.hs = n.hs) (sub : ∀ g ∈ n'.gs, g ∈ n.gs) {s : List Hd} (h : s ∈ greatP n'.gs) : ∃ t ∈ greatP n.gs, ∀ x ∈ s, x ∈ t := by
  have h0 := (ab_iff N').mp (great_ab N' h)
  refine up_great N ((ab_iff N).mpr ⟨h0.1, fun x hx => by rw [← e1]; exact h0.2.1 x hx, ?_⟩)
  rcases h0.2.2 with e | ⟨g, hg, k⟩
  · exact .inl e
  · exact .inr ⟨g, sub g hg, k⟩
theorem less_sure (N : NetG m n) {n' : Net} (N' : NetG m n') (e1 : n'.hs = n.hs) (e2 : n'.rs = n.rs) (sub : ∀ g ∈ n'.gs, g ∈ n.gs) {p : Hd × Hd} (hp : p ∈ sureD n) : p ∈ sureP (banN n') := by
  rw [← sure_eq N, sure_mem] at hp
  rw [sure_mem]
  refine ⟨by show p ∈ pairsZ n'.hs; rw [e1]; exact hp.1, fun s hs t ht => ?_⟩
  obtain ⟨S, hS, i1⟩ := less_up N N' e1 sub hs
  obtain ⟨T, hT, i2⟩ := less_up N N' e1 sub ht
  refine (hp.2 S hS T hT).mono (fun x hx => by show x ∈ n'.hs; rw [e1]; exact hx) (fun q hq => by show q ∈ n'.rs; rw [e2]; exact hq) fun x hx => ?_
  rw [gone2_mem] at hx ⊢
  refine ⟨?_, hx.2⟩
  rcases hx.1 with z | z
  · exact .inl (i1 x z)
  · exact .inr (i2 x z)
theorem less_three (N : NetG m n) {n' : Net} (N' : NetG m n') (e1 : n'.hs = n.hs) (sub : ∀ g ∈ n'.gs, g ∈ n.gs) (h : threeDue n = none) : threeDue n' = none := by
  cases q : threeDue n' with
  | none => rfl
  | some x =>
    exfalso
    have h1 : (find3 n'.hs (greatestL n')).isSome = true := by
      have : threeDue n' = find3 n'.hs (greatestL n') := rfl
      rw [← this, q]; rfl
    obtain ⟨a, ha, b, hb, c, hc, cov⟩ := find3_some.mp h1
    rw [great_eq N'] at ha hb hc
    obtain ⟨A, hA, i1⟩ := less_up N N' e1 sub ha
    obtain ⟨B, hB, i2⟩ := less_up N N' e1 sub hb
    obtain ⟨C, hC, i3⟩ := less_up N N' e1 sub hc
    rw [← great_eq N] at hA hB hC
    have h2 : (find3 n.hs (greatestL n)).isSome = true := find3_some.mpr ⟨A, hA, B, hB, C, hC, fun x hx => by
      rcases cov x (by rw [e1]; exact hx) with z | z | z
      · exact .inl (i1 x z)
      · exact .inr (.inl (i2 x z))
      · exact .inr (.inr (i3 x z))⟩
    have : threeDue n = find3 n.hs (greatestL n) := rfl
    rw [← this, h] at h2
    cases h2
theorem less_agree (N : NetG m n) {n' : Net} (N' : NetG m n') (e1 : n'.hs = n.hs) (e2 : n'.rs = n.rs) (sub : ∀ g ∈ n'.gs, g ∈ n.gs) (h : agreeP (banN n) = true) : agreeP (banN n') = true := by
  rw [agree_eq N, Bool.and_eq_true] at h
  rw [agree_eq N', Bool.and_eq_true]
  obtain ⟨h1, h2⟩ := h
  refine ⟨by rw [less_three N N' e1 sub (Option.isNone_iff_eq_none.mp h1)]; rfl, ?_⟩
  rw [due_none N] at h2
  rw [due_none N']
  have h2 := of_decide_eq_true h2
  refine decide_eq_true ?_
  rw [← sure_eq N']
  unfold sureP
  show List.filter _ (pairsZ n'.hs) = pairsZ n'.hs
  rw [List.filter_eq_self]
  intro p hp
  have hp' : p ∈ sureD n := by rw [h2, ← e1]; exact hp
  have := less_sure N N' e1 e2 sub hp'
  unfold sureP at this
  exact (List.mem_filter.mp this).2
end
end Bp

set_option Elab.async false
set_option linter.all false
set_option maxRecDepth 100000
set_option maxHeartbeats 1000001
namespace Bp
open PySem PySem.Spec L2 PyProof.Rows LamX
/-! ### a new list -/
def EvF (te : TE) (σ : L2.St) (G : Hp) (d : PyData) : Prop := ∀ G1 H1, Same G G1 → Same G1 H1 → ∀ Q : VK, (∀ p G2 H2, H1 p = none → Gr G1 H1 G2 H2 → Rp G2 (.ref p) d → Q (.ref p) H2) → te σ H1 Q
theorem ev_lcF {σ : L2.St} {G : Hp} {wi : TI} {g : TG} {tt : TT} {te : TE} {vs : List Nat} {β : Type} {bs : List β} (enc : β → PyData) (f : β → Bool) (el : β → PyData) (hI : EvI wi σ G (bs.map enc)) (hz : bs.length ≤ 16000000)
    (hb : ∀ b, b ∈ bs → ∀ x G', Same G G' → Rp G' x (enc b) → EvTg g x (wipe σ vs) (fun σ2 => wipe σ2 vs = wipe σ vs ∧ EvB tt σ2 G' (f b) ∧ (f b = true → EvD te σ2 G' (el b))) G') :
    EvF (tLc wi g tt te vs) σ G (.list ((bs.filter f).map el)) := fun G1 H1 a b Q kk => hI G1 H1 a b _ fun J G2 H2 g2 dw D hD => by
  have en : (bs.map enc).length = bs.length := List.length_map _
  refine lc_it (n := bs.length) (G := fun H => Same G2 H) (Y := fun i H x H' => J.yld i H x H') ⟨fun i H hi s => dw.goes i H (by rw [en]; exact hi) s, fun H s => by have := dw.stops H s; rw [en] at this; exact this, fun i H x H' _ _ y => y⟩
    (fun i H => ∃ G' acc, Gr G2 H2 G' H ∧ G' D = none ∧ H D = some (.lst acc) ∧ RpAll G' acc (((bs.take i).filter f).map el)) ?_ (fun i H _ ⟨G', _, g', _⟩ => g'.gg.trans g'.gh) ?_ ?_
  · exact ⟨G2, [], Gr.lay g2.gh hD, g2.gh.free hD, upd_same, by simp; exact .nil⟩
  · intro i x H3 H4 hi ⟨G3, acc, g3, n3, e3, r3⟩ y
    obtain ⟨b0, hb0⟩ : ∃ b0, bs[i]? = some b0 := ⟨bs[i], List.getElem?_eq_getElem hi⟩
    have hd : (bs.map enc)[i]? = some (enc b0) := by rw [List.getElem?_map, hb0]; rfl
    obtain ⟨G4, g4, r4⟩ := dw.yields i G3 H3 x H4 _ hd g3.gg g3.gh y
    have n4 : G4 D = none := g4.outL n3 e3
    have e4 : H4 D = some (.lst acc) := g4.same _ _ e3
    have sG : Same G G4 := ((a.trans g2.gg).trans g3.gg).trans g4.gg
    have tk : bs.take (i + 1) = bs.take i ++ [b0] := by rw [List.take_add_one, hb0]; rfl
    refine hb b0 (List.mem_of_getElem? hb0) x G4 sG r4 H4 g4.gh _ fun σ2 ⟨hw, ht, he⟩ => ⟨hw, ht G4 H4 (Same.refl _) g4.gh _ fun H5 s5 => ?_⟩
    cases hf : f b0 with
    | true =>
      refine iteT (he hf G4 H5 (Same.refl _) (g4.gh.trans s5) _ fun v G6 H6 g6 r6 => ?_)
      have n6 : G6 D = none := g6.outL n4 (s5 _ _ e4)
      have e6 : H6 D = some (.lst acc) := g6.same _ _ (s5 _ _ e4)
      have gg := ((g3.trans g4).more s5).trans g6
      refine ⟨acc, e6, ?_, G6, acc ++ [v], gg.mut hD n6, n6, upd_same, ?_⟩
      · rw [r3.length, sizeLine_eq]
        have : (((bs.take i).filter f).map el).length ≤ bs.length := by
          rw [List.length_map]
          refine Nat.le_trans (List.length_filter_le _ _) ?_
          rw [List.length_take]
          omega
        omega
      · rw [tk, List.filter_append, List.map_append]
        have : List.filter f [b0] = [b0] := by simp [hf]
        rw [this]
        exact (r3.mono (g4.gg.trans g6.gg)).snoc r6
    | false =>
      refine iteF ⟨G4, acc, (g3.trans g4).more s5, n4, s5 _ _ e4, ?_⟩
      rw [tk, List.filter_append, List.map_append]
      have : List.filter f [b0] = [] := by simp [hf]
      rw [this, List.map_nil, List.append_nil]
      exact r3.mono g4.gg
  · intro H3 ⟨G3, acc, g3, n3, e3, r3⟩
    rw [List.take_length] at r3
    have g := g2.trans (g3.know hD n3 e3)
    exact kk D _ _ (g2.dom _ hD) g (.lst upd_same (r3.mono (same_upd n3)))
theorem b_retF {σ : L2.St} {G H : Hp} {te : TE} {D : Ends} {d : PyData} (h : EvF te σ G d) (s : Same G H) (k : ∀ p G' H', H p = none → Gr G H G' H' → Rp G' (.ref p) d → D.rt (.ref p) H') : tRet te D σ H := h G H (Same.refl _) s _ k
def spSure (C : Addr) : Sp := fun vs H Q _ => ∃ G b, Same G H ∧ RpAll G vs [eB C b] ∧ BanOk b ∧ ∀ p G' H', H p = none → Gr G H G' H' → Rp G' (.ref p) (eLP (sureP b)) → Q (.ref p) H'
theorem ev_sureF {σ : L2.St} {G : Hp} {C : Addr} {te : TE} {b : Ban} (h : EvD te σ G (eB C b)) (hz : BanOk b) : EvF (tCl (spSure C) (tCons te tNil)) σ G (eLP (sureP b)) := fun G1 H1 s1 s2 Q k =>
  ea_one h G1 H1 s1 s2 _ fun vs G2 H2 g2 r2 => ⟨G2, b, g2.gh, r2, hz, fun p G3 H3 hp g3 r3 => k p G3 H3 (g2.dom _ hp) (g2.trans g3) r3⟩
theorem EvF.ev {te : TE} {σ : L2.St} {G : Hp} {d : PyData} (h : EvF te σ G d) : EvD te σ G d := fun G1 H1 s1 s2 Q k => h G1 H1 s1 s2 Q fun p G2 H2 _ g r => k _ G2 H2 g r
section
variable {P : Program} {w : World} {K : PySem.W.Frag} {mg : Str → Option Value} {base : Heap} {C T : Addr}
theorem ok_sure_new (Dfn : Df K mg "sure_pairs" s_sure_pairs ["bands"]) (B : Blt mg) (Bd : Bnd K mg C) (c_hands : Cme P w K mg base C 1 "hands" ["self"] (spB C (fun _ => True) fun b => eL b.hs))
    (c_hand_pairs : Cal P w K mg base 1 "hand_pairs" ["hands"] spPairs) (c_parting_bands : Cal P w K mg base 5 "parting_bands" ["bands", "one", "other"] (spParting C)) : Cal P w K mg base 6 "sure_pairs" ["bands"] (spSure C) := by
  refine cal_of Dfn sc_sure_pairs (fun vs H Q E h => by obtain ⟨G, b, g, r, _⟩ := h; exact r.length) fun f cdv A outer s H vs Q E hr h => ?_
  obtain ⟨G, b, g, r, hz, q⟩ := h
  obtain ⟨v0, rfl, r1⟩ := rp1 r
  obtain ⟨f_hands, F_hands0, F_hands, g_hands, b_hands⟩ := c_hands
  have hl := pairsZ_len b.hs
  have hl2 : b.hs.length * b.hs.length ≤ 10 * 10 := Nat.mul_le_mul hz.1 hz.1
  refine ⟨_, (pss_one (ps_ret (pe_lc (own := [("one", 1), ("other", 2)]) rfl sc_sure_pairs.nd (kseq (K := K) (pe_cal c_hand_pairs hr (pa_cons (kme (pe_meth0 (pv 0) Bd.cls g_hands F_hands (hr.mono (by decide)) b_hands .nil pass0)) pa_nil))) (blkOk_by (N := n_sure_pairs) (sc := defScope s_sure_pairs) (own := [("one", 1), ("other", 2)]) (by decide +kernel)) (fun _ _ _ _ _ => (kg_tup (K := K) (n := 2) (pg_tup rfl (pgs_cons (pg_name (i := 1) sc_sure_pairs.nd rfl (Or.inl rfl)) (pgs_cons (pg_name (i := 2) sc_sure_pairs.nd rfl (Or.inl rfl)) pgs_nil))))) (fun _ _ _ _ _ => (pts_one (pt_cmpR op_isN (pe_cal c_parting_bands hr (pa_cons (pv 0) (pa_cons (pv 1) (pa_cons (pv 2) pa_nil)))) pe_non (nomark _)))) (fun _ _ _ _ _ => (pe_tup (pa_cons (pv 1) (pa_cons (pv 2) pa_nil))))))), ?_⟩
  refine b_retF (ev_lcF (bs := pairsZ b.hs) eP (fun p => (partP b p.1 p.2).isNone) eP (ei_seq (k := true) (ev_handPairs (ea_one (ev_mH (K := K) (ev_var rfl r1))) (by have := hz.1; omega))) (by omega) fun p hp x G' s rx => ?_) g q
  obtain ⟨a, c⟩ := p
  refine tg_pair rx fun va vb ra rb => ⟨rfl, eb_test (EvD.is (ev_isN (ev_parting (ea_cons (ev_var rfl (r1.mono s)) (ea_two (ev_var rfl ra) (ev_var rfl rb))) hz (pairsZ_fst hp))) ?_), fun _ => ev_tup (ea_two (ev_var rfl ra) (ev_var rfl rb)) (by show 2 ≤ _; decide)⟩
  show PyData.bool (nonD (eTwo (partP b a c))) = PyData.bool (partP b a c).isNone
  cases partP b a c <;> rfl
/-! ### the stream's start -/
def spStart (K : PySem.W.Frag) : Sp := fun vs H Q _ => ∃ (a : Addr) (ns : List Int), vs = [.ref a] ∧ SqL K H a (ns.map V.int) ∧ ∀ S L, H S = none → H L = none → S ≠ L → Q (.ref S) (upd (upd H L (stC ns)) S (stL L 0 0 11))
theorem ok_start (Dfn : Df K mg "_law_start" s_l_start ["_law_script"]) (B : Blt mg) : Cal P w K mg base 1 "_law_start" ["_law_script"] (spStart K) := by
  refine cal_of Dfn sc_l_start (fun vs H Q E h => by obtain ⟨a, ns, rfl, _⟩ := h; rfl) fun f cdv A outer s H vs Q E hr h => ?_
  obtain ⟨a, ns, rfl, hS, q⟩ := h
  refine ⟨_, (pss_one (ps_ret (pe_lst (pa_cons (pe_callTy (klist (K := K)) rfl B.list (by decide +kernel) (pa_cons (pv 0) pa_nil)) (pa_cons pe_int (pa_cons pe_int (pa_cons pe_int pa_nil))))))), ?_⟩
  refine ⟨.ref a, rfl, a, _, rfl, .inl hS, fun L hL => ⟨by show 4 ≤ _; decide, fun S hS' => ?_⟩⟩
  have ne : S ≠ L := fun z => by rw [z, upd_same] at hS'; cases hS'
  rw [upd_ne ne] at hS'
  exact q S L hS' hL ne
/-! ### the law's world -/
structure Wd (S L T : Addr) (c : Nat) (G H : Hp) : Prop where
  g : Same G H
  st : Strm S L c G H
  tab : TabS H T q0
  nT : G T = none
variable {S L : Addr} {c c' : Nat} {G H G' H' : Hp}
theorem Wd.pure (W : Wd S L T c G H) (g : Gr G H G' H') : Wd S L T c G' H' := ⟨g.gh, W.st.pure g, tab_pure g W.tab, tabP g W.tab W.nT⟩
theorem Wd.str (W : Wd S L T c G H) (g : GrM (MS S L) G H G' H') (st : Strm S L c' G' H') : Wd S L T c' G' H' := ⟨g.gh, st, tab_str W.st g W.tab, tabP g W.tab W.nT⟩
theorem Wd.more (W : Wd S L T c G H) (s : Same H H') : Wd S L T c G H' := W.pure (Gr.of W.g s)
theorem Wd.neS (W : Wd S L T c G H) : S ≠ T := by
  obtain ⟨_, _, a, b, c', ns, sh, _⟩ := W.st
  obtain ⟨tp, e⟩ := tab_at W.tab
  exact ne_of sh.s e fun z => by unfold stL at z; cases z
theorem Wd.neL (W : Wd S L T c G H) : L ≠ T := by
  obtain ⟨_, _, a, b, c', ns, sh, _⟩ := W.st
  obtain ⟨tp, e⟩ := tab_at W.tab
  exact ne_of sh.c e fun z => by unfold stC at z; cases z
theorem Wd.make (W : Wd S L T c G H) (g : GrM (fun a => a = T) G H G' H') (tab' : TabS H' T q0) : Wd S L T c G' H' := ⟨g.gh, W.st.other g W.neS W.neL, tab', tabP g W.tab W.nT⟩
/-- bands_agree, of an instance that is known -/
theorem agree_in {σ : L2.St} {i : Nat} {x : Addr} {b : Ban} {ag : V} {Q : VK} (hσ : σ[i]? = some (some (.ref x))) (W : Wd S L T c G H) (Bn : BanAt C G x b ag) (hb : BanOk b) (hag : ag = .non ∨ ag = .bl (agreeP b))
    (kk : ∀ G' H', Wd S L T c G' H' → BanAt C G' x b (.bl (agreeP b)) → (∀ a o, a ≠ x → G a = some o → G' a = some o) → Q (.bl (agreeP b)) H') : tCl (spAgree C) (tCons (tVar i) tNil) σ H Q := by
  obtain ⟨dx, h, r, g, e, r1, r2, r3⟩ := Bn.ex
  have eX := W.g _ _ e
  have d1 : ∀ a o, a ≠ x → G a = some o → drop1 G x a = some o := fun a o n e => by rw [drop1_ne n]; exact e
  have xS : S ≠ x := by
    obtain ⟨_, _, a, b, c', ns, sh, _⟩ := W.st
    exact ne_of sh.s eX fun z => by unfold stL at z; cases z
  have xL : L ≠ x := by
    obtain ⟨_, _, a, b, c', ns, sh, _⟩ := W.st
    exact ne_of sh.c eX fun z => by unfold stC at z; cases z
  have xT : T ≠ x := by
    obtain ⟨tp, et⟩ := tab_at W.tab
    exact ne_of et eX fun z => nomatch z
  have s0 : Strm S L c (drop1 G x) H := ⟨by rw [drop1_ne xS]; exact W.st.nS, by rw [drop1_ne xL]; exact W.st.nC, W.st.at'⟩
  refine ⟨.ref x, hσ, drop1 G x, x, dx, h, r, g, ag, b, rfl, drop1_same.trans W.g, drop1_at, eX, Rp.off e d1 r1 (sh_eL (n := 0) _).lay, Rp.off e d1 r2 (sh_map (n := 1) (k := true) fun p _ => sh_eP p).lay, Rp.off e d1 r3 (sh_map (n := 1) (k := true) fun p _ => sh_eT p).lay, hb, hag, fun G1 H1 g1 n1 e1 => ?_⟩
  have sk : Same G1 (upd G1 x (.ins C dx (bfs h r g (.bl (agreeP b))))) := same_upd n1
  have off : ∀ a o, a ≠ x → G a = some o → upd G1 x (.ins C dx (bfs h r g (.bl (agreeP b)))) a = some o := fun a o n e' => by rw [upd_ne n]; exact g1.gg _ _ (d1 a o n e')
  have s1 := s0.other g1 xS xL
  have t1 : TabS H1 T q0 := tab_keep g1 W.tab fun a ma o eo => by
    subst ma
    rw [eX] at eo
    cases eo
    exact .inr ⟨_, _, _, rfl⟩
  have nT1 : G1 T = none := tabP g1 W.tab (by rw [drop1_ne xT]; exact W.nT)
  exact kk _ H1 ⟨know_same n1 g1.gh e1, ⟨by rw [upd_ne xS]; exact s1.nS, by rw [upd_ne xL]; exact s1.nC, s1.at'⟩, t1, by rw [upd_ne xT]; exact nT1⟩
    ⟨dx, h, r, g, upd_same, Rp.off e off r1 (sh_eL (n := 0) _).lay, Rp.off e off r2 (sh_map (n := 1) (k := true) fun p _ => sh_eP p).lay, Rp.off e off r3 (sh_map (n := 1) (k := true) fun p _ => sh_eT p).lay⟩ off
theorem BanAt.off {x y : Addr} {b b' : Ban} {ag ag' : V} (Bn : BanAt C G x b ag) (B' : BanAt C G y b' ag') (ne : y ≠ x) (off : ∀ a o, a ≠ x → G a = some o → G' a = some o) : BanAt C G' y b' ag' := by
  obtain ⟨_, _, _, _, e0, _⟩ := Bn.ex
  obtain ⟨dx, h, r, g, e, r1, r2, r3⟩ := B'.ex
  exact ⟨dx, h, r, g, off _ _ ne e, Rp.off e0 off r1 (sh_eL (n := 0) _).lay, Rp.off e0 off r2 (sh_map (n := 1) (k := true) fun p _ => sh_eP p).lay, Rp.off e0 off r3 (sh_map (n := 1) (k := true) fun p _ => sh_eT p).lay⟩
theorem BanAt.rpo {x : Addr} {b : Ban} {ag : V} (Bn : BanAt C G x b ag) (off : ∀ a o, a ≠ x → G a = some o → G' a = some o) {v : V} {d : PyData} (r : Rp G v d) (hd : d.canLay0 = true) : Rp G' v d := by
  obtain ⟨_, _, _, _, e0, _⟩ := Bn.ex
  exact Rp.off e0 off r hd
end
/-! ### sizes and shapes -/
section
variable {m : Nat} {n : Net}
theorem net_ban (N : NetG m n) (m5 : m ≤ 5) : BanOk (banN n) := by
  refine ⟨by show n.hs.length ≤ 10; rw [N.len]; omega, ?_, fun t ht => ?_⟩
  · have h1 : (greatP n.gs).length ≤ (choicesP n.gs).length := List.length_filter_le _ _
    have h2 : (choicesP n.gs).length ≤ n.gs.length + 1 := by
      unfold choicesP sC
      rw [List.length_mergeSort]
      exact Nat.le_trans (once_len _) (by simp)
    have := N.gl
    show (greatP n.gs).length ≤ 1000
    omega
  · have := greatestL_w n t ((great_mem N t).mpr ht)
    rw [N.len] at this
    omega
theorem net_ok (N : NetG m n) (m5 : m ≤ 5) : NetOk n := ⟨by rw [N.len]; omega, Nat.le_trans N.rs.length_le (pairsZ_len10 (by rw [N.len]; exact m5)), by have := N.gl; omega⟩
theorem net_less (N : NetG m n) : NetG m { n with gs := n.gs.drop 1 } := ⟨N.asc, N.len, N.rs, by have := N.gl; show (n.gs.drop 1).length ≤ 4; rw [List.length_drop]; omega, fun g hg => N.gg g (List.mem_of_mem_drop hg)⟩
theorem sh_eLP (l : List (Hd × Hd)) : Sh 2 (eLP l) := sh_map (n := 1) (k := true) fun p _ => sh_eP p
theorem sh_gs (l : List (List Hd)) : Sh 2 (.list (l.map eL)) := sh_map (n := 1) (k := true) fun p _ => sh_eL p
theorem sh_three (x : Option (List Hd × List Hd × List Hd)) : Sh 2 (eThree x) := by
  cases x with
  | none => exact sh_none
  | some y =>
    exact sh_tup (n := 1) (fun d hd => by
      simp only [List.mem_cons, List.not_mem_nil, or_false] at hd
      rcases hd with rfl | rfl | rfl
      · exact sh_eT _
      · exact sh_eT _
      · exact sh_eT _)
theorem sh_four (x : Option (Hd × Hd × List Hd × List Hd)) : Sh 2 (eFour x) := by
  cases x with
  | none => exact sh_none
  | some y =>
    exact sh_tup (n := 1) (fun d hd => by
      simp only [List.mem_cons, List.not_mem_nil, or_false] at hd
      rcases hd with rfl | rfl | rfl | rfl
      · exact sh_eH _
      · exact sh_eH _
      · exact sh_eT _
      · exact sh_eT _)
theorem sm_flat {k : Nat} {d : PyData} (h : Flat d) : Sm k d := by
  cases k with
  | zero => exact .inl h
  | succ k => exact .inl h
theorem sm_h {k : Nat} (h : Hd) : Sm k (eH h) := sm_flat (.str _ (strOk_h h))
theorem sm_T {k : Nat} {t : List Hd} (hl : t.length ≤ 1000) : Sm (k + 1) (eT t) := .inr ⟨false, t.map eH, rfl, by rw [List.length_map]; exact hl, fun d hd => by
  obtain ⟨h, _, rfl⟩ := List.mem_map.mp hd
  exact sm_h h⟩
theorem sm_LP {k : Nat} {l : List (Hd × Hd)} (hl : l.length ≤ 1000) : Sm (k + 2) (eLP l) := .inr ⟨true, l.map eP, rfl, by rw [List.length_map]; exact hl, fun d hd => by
  obtain ⟨p, _, rfl⟩ := List.mem_map.mp hd
  exact sm_T (t := [p.1, p.2]) (by show 2 ≤ 1000; decide)⟩
theorem sm_three {k : Nat} {x : Option (List Hd × List Hd × List Hd)} (h : ∀ y, x = some y → y.1.length ≤ 1000 ∧ y.2.1.length ≤ 1000 ∧ y.2.2.length ≤ 1000) : Sm (k + 2) (eThree x) := by
  cases x with
  | none => exact sm_flat .non
  | some y =>
    obtain ⟨h1, h2, h3⟩ := h y rfl
    refine .inr ⟨false, [eT y.1, eT y.2.1, eT y.2.2], rfl, by show 3 ≤ 1000; decide, fun d hd => ?_⟩
    simp only [List.mem_cons, List.not_mem_nil, or_false] at hd
    rcases hd with rfl | rfl | rfl
    · exact sm_T h1
    · exact sm_T h2
    · exact sm_T h3
theorem sm_four {k : Nat} {x : Option (Hd × Hd × List Hd × List Hd)} (h : ∀ y, x = some y → y.2.2.1.length ≤ 1000 ∧ y.2.2.2.length ≤ 1000) : Sm (k + 2) (eFour x) := by
  cases x with
  | none => exact sm_flat .non
  | some y =>
    obtain ⟨h1, h2⟩ := h y rfl
    refine .inr ⟨false, [eH y.1, eH y.2.1, eT y.2.2.1, eT y.2.2.2], rfl, by show 4 ≤ 1000; decide, fun d hd => ?_⟩
    simp only [List.mem_cons, List.not_mem_nil, or_false] at hd
    rcases hd with rfl | rfl | rfl | rfl
    · exact sm_h _
    · exact sm_h _
    · exact sm_T h1
    · exact sm_T h2
theorem find3_mem {hs : List Hd} {l : List (List Hd)} {y : List Hd × List Hd × List Hd} (h : find3 hs l = some y) : y.1 ∈ l ∧ y.2.1 ∈ l ∧ y.2.2 ∈ l := by
  unfold find3 at h
  obtain ⟨a, ha, h⟩ := List.exists_of_findSome?_eq_some h
  obtain ⟨b, hb, h⟩ := List.exists_of_findSome?_eq_some h
  obtain ⟨d, hd, h⟩ := List.exists_of_findSome?_eq_some h
  split at h
  · cases h
    exact ⟨List.fst_mem_of_mem_zipIdx ha, List.fst_mem_of_mem_zipIdx hb, List.fst_mem_of_mem_zipIdx hd⟩
  · cases h
theorem find2_mem {f : List Hd → List Hd → Bool} {l : List (List Hd)} {y : List Hd × List Hd} (h : find2 f l = some y) : y.1 ∈ l ∧ y.2 ∈ l := by
  unfold find2 at h
  obtain ⟨a, ha, h⟩ := List.exists_of_findSome?_eq_some h
  obtain ⟨b, hb, h⟩ := List.exists_of_findSome?_eq_some h
  split at h
  · cases h
    exact ⟨List.fst_mem_of_mem_zipIdx ha, List.mem_of_mem_drop hb⟩
  · cases h
theorem sm_due3 {k : Nat} (N : NetG m n) (m5 : m ≤ 5) : Sm (k + 2) (eThree (threeDue n)) := sm_three fun y h => by
  obtain ⟨h1, h2, h3⟩ := find3_mem h
  have := greatestL_w n _ h1
  have := greatestL_w n _ h2
  have := greatestL_w n _ h3
  have := N.len
  omega
theorem sm_due4 {k : Nat} (N : NetG m n) (m5 : m ≤ 5) : Sm (k + 2) (eFour (partedDue n)) := sm_four fun y h => by
  unfold partedDue at h
  obtain ⟨p, hp, h⟩ := List.exists_of_findSome?_eq_some h
  split at h
  · cases q : find2 (cutsAll n p.1 p.2) ((greatestL n).map (minus p.1 p.2)) with
    | none => rw [q] at h; cases h
    | some x =>
      rw [q] at h
      cases h
      obtain ⟨h1, h2⟩ := find2_mem q
      obtain ⟨s, hs, e1⟩ := List.mem_map.mp h1
      obtain ⟨t, ht, e2⟩ := List.mem_map.mp h2
      have l1 := greatestL_w n _ hs
      have l2 := greatestL_w n _ ht
      have k1 : (minus p.1 p.2 s).length ≤ s.length := List.length_filter_le _ _
      have k2 : (minus p.1 p.2 t).length ≤ t.length := List.length_filter_le _ _
      have := N.len
      show x.1.length ≤ 1000 ∧ x.2.length ≤ 1000
      rw [← e1, ← e2]
      omega
  · cases h
end
end Bp

set_option Elab.async false
set_option linter.all false
set_option maxRecDepth 100000
set_option maxHeartbeats 1000001
namespace Bp
open PySem PySem.Spec L2 PyProof.Rows LamX
/-! ### Bands(hands, roads, greatest) with rows as they stand -/
section
variable {m : Nat} {n : Net}
def asR (p : Hd × Hd) : Rd3 := (false, p.1, p.2)
def asG (g : List Hd) : Gd := (true, g)
theorem asR_map (l : List (Hd × Hd)) : (l.map asR).map eR = l.map eP := by rw [List.map_map]; rfl
theorem asG_map (l : List (List Hd)) : (l.map asG).map eG = l.map eL := by rw [List.map_map]; rfl
theorem asG_snd (l : List (List Hd)) : (l.map asG).map (fun g => g.2) = l := by rw [List.map_map]; exact List.map_id l
theorem asR_pR {l : List (Hd × Hd)} (h : ∀ p ∈ l, p.1.val < p.2.val) : (l.map asR).map pR = l := by
  rw [List.map_map]
  refine Eq.trans (List.map_congr_left (g := id) fun p hp => ?_) (List.map_id l)
  show pairS p.1 p.2 = p
  rw [pairS_lt (h p hp)]
theorem as_hand (N : NetG m n) (m2 : 2 ≤ m) {rs : List (Hd × Hd)} {gs : List (List Hd)} (hr : ∀ p ∈ rs, p ∈ pairsZ n.hs) (nd : rs.Nodup) (rl : rs.length ≤ 1000) (hg : ∀ g ∈ gs, g ∈ n.gs) (gl : gs.length ≤ 1000) : Hand n.hs (rs.map asR) (gs.map asG) := by
  have lt : ∀ p ∈ rs, p.1.val < p.2.val := fun p hp => (pair_in N (hr p hp)).2.2
  refine ⟨asc_nodup N.asc, by rw [N.len]; exact m2, by rw [List.length_map]; exact rl, fun r h => ?_, by rw [asR_pR lt]; exact nd, by rw [List.length_map]; exact gl, fun g h => ?_⟩
  · obtain ⟨p, hp, rfl⟩ := List.mem_map.mp h
    obtain ⟨h1, h2, h3⟩ := pair_in N (hr p hp)
    exact ⟨h1, h2, fun e => by have : p.1 = p.2 := e; rw [this] at h3; omega⟩
  · obtain ⟨g', hg', rfl⟩ := List.mem_map.mp h
    have := N.gg g' (hg g' hg')
    exact ⟨this.1, this.2.1⟩
theorem as_ban (N : NetG m n) {rs : List (Hd × Hd)} {gs : List (List Hd)} (hr : ∀ p ∈ rs, p ∈ pairsZ n.hs) : banOf n.hs (rs.map asR) (gs.map asG) = ⟨n.hs, sP rs, greatP gs⟩ := by
  have lt : ∀ p ∈ rs, p.1.val < p.2.val := fun p hp => (pair_in N (hr p hp)).2.2
  unfold banOf
  rw [asR_pR lt, asG_snd, sH_id N.asc]
theorem rs_sub (N : NetG m n) : ∀ p ∈ n.rs, p ∈ pairsZ n.hs := fun p hp => N.rs.subset hp
theorem pz_nodup (N : NetG m n) : (pairsZ n.hs).Nodup := by rw [pairsZ_eq]; exact pairsR_nodup N.asc
theorem rs_nodup (N : NetG m n) : n.rs.Nodup := (pz_nodup N).sublist N.rs
theorem sP_rs (N : NetG m n) : sP n.rs = n.rs := sP_eq (List.Perm.refl _) ((pairsR_sorted N.asc).imp (fun z => z.1) |>.sublist (by rw [← pairsZ_eq]; exact N.rs))
def lackL (n : Net) : List (Hd × Hd) := (pairsZ n.hs).filter fun p => !decide (p ∈ n.rs)
def wideL (n : Net) (k : Nat) : List (Hd × Hd) := n.rs ++ (lackL n).take k
theorem wide_sub (N : NetG m n) (k : Nat) : ∀ p ∈ wideL n k, p ∈ pairsZ n.hs := fun p hp => by
  rcases List.mem_append.mp hp with h | h
  · exact rs_sub N p h
  · exact (List.mem_filter.mp (List.mem_of_mem_take h)).1
theorem wide_nodup (N : NetG m n) (k : Nat) : (wideL n k).Nodup := by
  refine List.nodup_append.mpr ⟨rs_nodup N, ((pz_nodup N).filter _).sublist (List.take_sublist _ _), fun a ha b hb e => ?_⟩
  subst e
  have := (List.mem_filter.mp (List.mem_of_mem_take hb)).2
  rw [decide_eq_true ha] at this
  cases this
theorem wide_len (N : NetG m n) (m5 : m ≤ 5) (k : Nat) : (wideL n k).length ≤ 20 := by
  have h0 : (pairsZ n.hs).length ≤ 10 := pairsZ_len10 (by rw [N.len]; exact m5)
  have h1 : n.rs.length ≤ (pairsZ n.hs).length := N.rs.length_le
  have h2 : ((lackL n).take k).length ≤ (lackL n).length := by rw [List.length_take]; omega
  have h3 : (lackL n).length ≤ (pairsZ n.hs).length := List.length_filter_le _ _
  unfold wideL
  rw [List.length_append]
  omega
theorem wide_ban (N : NetG m n) (m5 : m ≤ 5) (rs : List (Hd × Hd)) : BanOk ⟨n.hs, sP rs, greatP n.gs⟩ := by
  obtain ⟨h1, h2, h3⟩ := net_ban N m5
  exact ⟨h1, h2, h3⟩
theorem sP_mem {rs : List (Hd × Hd)} {p : Hd × Hd} (h : p ∈ rs) : p ∈ sP rs := by
  unfold sP
  exact (List.mergeSort_perm _ _).mem_iff.mpr h
theorem due4_non (x : Option (Hd × Hd × List Hd × List Hd)) : nonD (eFour x) = x.isNone := by cases x <;> rfl
theorem due3_non (x : Option (List Hd × List Hd × List Hd)) : nonD (eThree x) = x.isNone := by cases x <;> rfl
end
theorem call_make {σ : L2.St} {H : Hp} {C : Addr} {sp sp' : Sp} {t : TA} {Q : VK} (h : t σ H fun vs H1 => ∀ x dx, H1 x = none → H1 dx = none → dx ≠ x → sp (.ref x :: (vs ++ [])) (upd (upd H1 dx (.own x)) x (.ins C dx [])) (fun v H2 => v = .non ∧ sp' [.ref x] H2 Q E0) E0) : tCl sp' (tCons (tMake C sp [] E0 t) tNil) σ H Q := h
section
variable {P : Program} {w : World} {K : PySem.W.Frag} {mg : Str → Option Value} {base : Heap} {C T : Addr}
theorem make_ok2 {G H : Hp} {vs : List V} {Q : Addr → Hp → Prop} {kh kr kg : Bool} {hs : List Hd} {rs : List Rd3} {gs : List Gd} (gs' : Same G H) (rv : RpAll G vs [eK kh hs, sq kr (rs.map eR), sq kg (gs.map eG)]) (tab : TabS H T q0) (nT : G T = none) (ok : Hand hs rs gs)
    (k : ∀ x G' H', H x = none → GrM (fun a => a = T) G H G' H' → TabS H' T q0 → BanAt C G' x (banOf hs rs gs) .non → Q x H') :
    ∀ x dx, H x = none → H dx = none → dx ≠ x → spInit C T (.ref x :: (vs ++ [])) (upd (upd H dx (.own x)) x (.ins C dx [])) (fun v H2 => v = .non ∧ Q x H2) E0 :=
  make_ok (Q := fun v H2 => match v with | .ref y => Q y H2 | _ => True) gs' rv tab nT ok k
end
section
variable {P : Program} {w : World} {K : PySem.W.Frag} {mg : Str → Option Value} {base : Heap} {C T : Addr}
theorem b_agree2 {S L : Addr} {c : Nat} {G H : Hp} {σ : L2.St} {U : TT} {X tz : TS} {D : Ends} {i j : Nat} {x y : Addr} {b b' : Ban} {ag ag' : V} (hσ : σ[i]? = some (some (.ref x))) (hσ' : σ[j]? = some (some (.ref y))) (W : Wd S L T c G H) (Bx : BanAt C G x b ag) (By : BanAt C G y b' ag') (ne : y ≠ x) (hb : BanOk b) (hb' : BanOk b')
    (hag : ag = .non ∨ ag = .bl (agreeP b)) (hag' : ag' = .non ∨ ag' = .bl (agreeP b')) (imp : agreeP b = true → agreeP b' = true)
    (k : ∀ G' H', Wd S L T c G' H' → BanAt C G' x b (.bl (agreeP b)) → (∃ ag2, BanAt C G' y b' ag2) → (∀ {v d}, Rp G v d → d.canLay0 = true → Rp G' v d) → (∀ a o, a ≠ x → a ≠ y → G a = some o → G' a = some o) → U σ H' fun c H1 => if c = true then X { D with nx := tz D } σ H1 else tNext { D with nx := tz D } σ H1) :
    tSeq (tIfS (tOr (tAnd (tB (tCl (spAgree C) (tCons (tVar i) tNil))) (tNot (tB (tCl (spAgree C) (tCons (tVar j) tNil))))) U) X tNext) tz D σ H := by
  refine agree_in hσ W Bx hb hag fun G1 H1 W1 B1 off1 => ⟨_, rfl, ?_⟩
  have By1 := Bx.off By ne off1
  cases hA : agreeP b with
  | false => exact iteF (iteF (k G1 H1 W1 B1 ⟨_, By1⟩ (fun r hd => Bx.rpo off1 r hd) fun a o n1 _ e => off1 a o n1 e))
  | true =>
    refine iteT (agree_in hσ' W1 By1 hb' hag' fun G2 H2 W2 B2 off2 => ⟨_, rfl, ?_⟩)
    cases hB : agreeP b' with
    | false => exact absurd (imp hA) (by rw [hB]; decide)
    | true => exact iteF (k G2 H2 W2 (By1.off B1 (Ne.symm ne) off2) ⟨_, B2⟩ (fun r hd => By1.rpo off2 (Bx.rpo off1 r hd) hd) fun a o n1 n2 e => off2 a o n2 (off1 a o n1 e))
theorem Wd.up {S L : Addr} {c c' : Nat} {G H : Hp} (W : Wd S L T c G H) (h : c ≤ c') : Wd S L T c' G H := ⟨W.g, W.st.mono h, W.tab, W.nT⟩
end
theorem no_part {σ : L2.St} {H : Hp} {Q : Option Int → Hp → Prop} (h : Q none H) : tNoPart σ H Q := h
theorem fn_ofF {P : Program} {w : World} {K : PySem.W.Frag} {mg : Str → Option Value} {base : Heap} {x : Str} {st : Stmt} {N ps : List Str} {k : Nat} {sp : Sp} {f0 : Addr} {fd : FuncData} (F : FunD K x x (defArgs st) (defBody st) (defScope st) [] [] f0 fd) (S : FnScope N ps (defScope st)) (len : ∀ vs H Q E, sp vs H Q E → vs.length = ps.length)
    (hbody : ∀ (f : Addr) (cdv : Value) (A : Around) (outer : List Env) (s : Shared) (H : Hp) (vs : List V) (Q : VK) (E : XK), Room k (A.deeper (envOfC x (defScope st) s.heap.objs.size f cdv)) → sp vs H Q E →
      ∃ t, PSs (cxOf CX0 P w K mg base N x (defScope st) f cdv A outer s H E).nox (defBody st) t ∧ t { nx := fun _ H' => Q .non H', rt := Q } (start N vs) H) : FnOk P w K mg base CX0 (k + 1) f0 fd ps sp :=
  F.ok S len fun cdv A outer s H vs Q E hr h => by
    obtain ⟨t, h1, h2⟩ := hbody f0 cdv A outer s H vs Q E hr h
    exact ⟨t, h1.nox, h2⟩
/-- the law's promise -/
def spLaw (K : PySem.W.Frag) (T : Addr) : Sp := fun vs H Q _ => ∃ (a : Addr) (ns : List Int), vs = [.ref a] ∧ SqL K H a (ns.map V.int) ∧ H T = some (.tbl #[]) ∧ ∀ H', Q (.bl true) H'
theorem tab_new {H : Hp} {T : Addr} {q : Str} (h : H T = some (.tbl #[])) : TabS H T q := ⟨#[], h, by first | trivial | decide | constructor | (unfold TriplesOk; simp), fun pos cv e => by cases e⟩
theorem asg_in2 {σ : L2.St} {H : Hp} {te : TE} {j : Nat} {tz : TS} {D : Ends} (h : te σ H fun x H1 => tz D (σ.set j (some x)) H1) : tSeq (tAsg te (gName j)) tz D σ H := h
theorem par_in {σ : L2.St} {G H : Hp} {i j : Nat} {ta : TA} {tz : TS} {D : Ends} {d e : PyData} (h : EvA ta σ G [d, e]) (s : Same G H) (k : ∀ v w G' H', Gr G H G' H' → Rp G' v d → Rp G' w e → tz D ((σ.set i (some v)).set j (some w)) H') : tSeq (tPar i j ta) tz D σ H :=
  h G H (Same.refl _) s _ fun vs G' H' g r => by
    obtain ⟨v, w, rfl, r1, r2⟩ := rp2 r
    exact ⟨v, w, rfl, k v w G' H' g r1 r2⟩
end Bp

set_option Elab.async false
set_option linter.all false
set_option maxRecDepth 100000
set_option maxHeartbeats 4000000
namespace Bp
open PySem PySem.Spec L2 PyProof.Rows LamX
section
variable {P : Program} {w : World} {K : PySem.W.Frag} {mg : Str → Option Value} {base : Heap} {C T : Addr}
theorem ok_law {f_law : Addr} {fd_law : FuncData} (Dfn : FunD K "law" "law" (defArgs s_law) (defBody s_law) (defScope s_law) [] [] f_law fd_law) (B : Blt mg) (Bd : Bnd K mg C) (c_l_start : Cal P w K mg base 1 "_law_start" ["_law_script"] (spStart K)) (c_l_draw : Cal P w K mg base 1 "_law_draw" ["_law_stream", "_law_many"] spDraw)
    (c_l_net : Cal P w K mg base 4 "_law_net" ["_law_stream", "_law_many", "_law_size", "_law_most"] spNetS) (c_l_bands_made : Cal P w K mg base 7 "_law_bands_made" ["_law_stream", "_law_net_here"] (spMade C T))
    (c_l_three_due : Cal P w K mg base 4 "_law_three_due" ["_law_net_here"] (spNet NetOk fun n => eThree (threeDue n))) (c_l_parted_due : Cal P w K mg base 4 "_law_parted_due" ["_law_net_here"] (spNet NetOk fun n => eFour (partedDue n)))
    (c_l_same : Cal P w K mg base 5 "_law_same" ["_law_found", "_law_due"] (spSm (Sm 3))) (c_three_bands : Cal P w K mg base 2 "three_bands" ["bands"] (spB C BanOk fun b => eThree (find3P b.hs b.gs)))
    (c_parted : Cal P w K mg base 6 "parted" ["bands"] (spB C BanOk fun b => eFour (partedP b))) (c_l_pairs : Cal P w K mg base 1 "_law_pairs" ["_law_hands_here"] spPairs)
    (c_l_is_parted : Cal P w K mg base 3 "_law_is_parted" ["_law_net_here", "_law_one", "_law_other"] spParted) (c_sure_pairs : Cal P w K mg base 6 "sure_pairs" ["bands"] (spSure C))
    (c_l_is_held_by_three : Cal P w K mg base 3 "_law_is_held_by_three" ["_law_net_here"] (spNet NetOk fun n => .bool (heldBy n))) (c_bands_agree : Cal P w K mg base 7 "bands_agree" ["bands"] (spAgree C))
    {f_init : Addr} (Mk : Mk K C f_init) (c_init : ∃ fd, FnOk P w K mg base CX0 5 f_init fd ["self", "hands", "roads", "greatest"] (spInit C T) ∧ L2.Binds K fd ["self", "hands", "roads", "greatest"] []) :
    FnOk P w K mg base CX0 8 f_law fd_law ["_law_script"] (spLaw K T) := by
  refine fn_ofF Dfn sc_law (fun vs H Q E h => by obtain ⟨a, ns, rfl, _⟩ := h; rfl) fun f cdv A outer s H vs Q E hr h => ?_
  obtain ⟨a, ns, rfl, hS, hT, q⟩ := h
  obtain ⟨fd_init, F_init, b_init⟩ := c_init
  refine ⟨_, (pss_cons (ps_set (i := 1) sc_law.nd rfl (Or.inl rfl) (pe_cal c_l_start hr (pa_cons (pv 0) pa_nil)))
    (pss_cons (ps_for PassesOwn.never rfl (pi_range1 rfl B.range (pa_cons pe_int pa_nil)) (pg_name (i := 2) sc_law.nd rfl (Or.inl rfl))
      (pss_cons (ps_set (i := 3) sc_law.nd rfl (Or.inr rfl) (pe_cal c_l_net hr (pa_cons (pv 1) (pa_cons (pe_op op_add pe_int (pe_cal c_l_draw hr (pa_cons (pv 1) (pa_cons pe_int pa_nil)))) (pa_cons pe_int (pa_cons pe_int pa_nil))))))
    (pss_cons (ps_asg (pv 3) (kg_tup (K := K) (n := 3) (pg_tup rfl (pgs_cons (pg_name (i := 4) sc_law.nd rfl (Or.inl rfl)) (pgs_cons (pg_name (i := 5) sc_law.nd rfl (Or.inr rfl)) (pgs_cons (pg_name (i := 6) sc_law.nd rfl (Or.inl rfl)) pgs_nil))))))
    (pss_cons (ps_set (i := 7) sc_law.nd rfl (Or.inl rfl) (pe_cal c_l_bands_made hr (pa_cons (pv 1) (pa_cons (pv 3) pa_nil))))
    (pss_cons (ps_par (i := 8) (j := 9) rfl sc_law.nd rfl rfl (by decide) rfl rfl (pa_cons (pe_cal c_l_three_due hr (pa_cons (pv 3) pa_nil)) (pa_cons (pe_cal c_l_parted_due hr (pa_cons (pv 3) pa_nil)) pa_nil)) (by rfl))
    (pss_cons (ps_if (pt_not (pt_val (pe_cal c_l_same hr (pa_cons (pe_lst (pa_cons (pe_cal c_three_bands hr (pa_cons (pv 7) pa_nil)) (pa_cons (pe_cal c_parted hr (pa_cons (pv 7) pa_nil)) pa_nil))) (pa_cons (pe_lst (pa_cons (pv 8) (pa_cons (pv 9) pa_nil))) pa_nil))))) (pss_one (ps_ret pe_bl)) pss_nil)
    (pss_cons (ps_setLc (i := 10) (own := [("_law_pair", 11)]) rfl sc_law.nd rfl rfl (sw_true rfl rfl rfl (by decide +kernel)) (kseq (K := K) (pe_cal c_l_pairs hr (pa_cons (pv 4) pa_nil))) (blkOk_by (N := n_law) (sc := defScope s_law) (own := [("_law_pair", 11)]) (by decide +kernel)) (fun _ _ _ _ _ => (pg_name (i := 11) sc_law.nd rfl (Or.inl rfl))) (fun _ _ _ _ _ => (pts_one (pt_not (pt_val (pe_cal c_l_is_parted hr (pa_cons (pv 3) (pa_cons (pe_ix (kix (K := K)) (pv 11) pe_int (fun _ _ => rfl)) (pa_cons (pe_ix (kix (K := K)) (pv 11) pe_int (fun _ _ => rfl)) pa_nil)))))))) (fun _ _ _ _ _ => (pv 11)))
    (pss_cons (ps_if (PW.pt (pw_or (pt_not (pt_val (pe_cal c_l_same hr (pa_cons (pe_cal c_sure_pairs hr (pa_cons (pv 7) pa_nil)) (pa_cons (pv 10) pa_nil))))) (pw_or1 (pt_cmpR (kne (K := K) hr.units) (pe_cmpR op_isN (pv 9) pe_non (nomark _)) (pe_cmpR (keq (K := K) hr.units) (pv 10) (pe_cal c_l_pairs hr (pa_cons (pv 4) pa_nil)) (nomark _)) (nomark _))))) (pss_one (ps_ret pe_bl)) pss_nil)
    (pss_cons (ps_if (pt_cmpR (kne (K := K) hr.units) (pe_cmpR op_notN (pv 8) pe_non (nomark _)) (pe_cal c_l_is_held_by_three hr (pa_cons (pv 3) pa_nil)) (nomark _)) (pss_one (ps_ret pe_bl)) pss_nil)
    (pss_cons (ps_if (pt_not (pt_val (pe_cal c_l_same hr (pa_cons (pe_cal c_bands_agree hr (pa_cons (pv 7) pa_nil)) (pa_cons (pe_and (pe_cmpR op_isN (pv 8) pe_non (nomark _)) (pe_one (pe_cmpR op_isN (pv 9) pe_non (nomark _)))) pa_nil))))) (pss_one (ps_ret pe_bl)) pss_nil)
    (pss_cons (ps_setLc (i := 12) (own := [("_law_pair", 11)]) rfl sc_law.nd rfl rfl (sw_true rfl rfl rfl (by decide +kernel)) (kseq (K := K) (pe_cal c_l_pairs hr (pa_cons (pv 4) pa_nil))) (blkOk_by (N := n_law) (sc := defScope s_law) (own := [("_law_pair", 11)]) (by decide +kernel)) (fun _ _ _ _ _ => (pg_name (i := 11) sc_law.nd rfl (Or.inl rfl))) (fun _ _ _ _ _ => (pts_one (pt_cmpR (knin (K := K) (hu65 hr)) (pv 11) (pv 5) rfl))) (fun _ _ _ _ _ => (pv 11)))
    (pss_cons (ps_set (i := 13) sc_law.nd rfl (Or.inr rfl) (pe_cal c_sure_pairs hr (pa_cons (pe_make Mk F_init (hr.mono (by decide)) rfl Bd.g b_init .nil pass0 (pa_cons (pv 4) (pa_cons (pe_op op_cat (pv 5) (pe_slice (ksl (K := K)) (pv 12) po_none (po_some (pe_op op_add pe_int (pe_cal c_l_draw hr (pa_cons (pv 1) (pa_cons pe_int pa_nil))))))) (pa_cons (pv 6) pa_nil)))) pa_nil)))
    (pss_cons (ps_set (i := 14) sc_law.nd rfl (Or.inr rfl) (pe_make Mk F_init (hr.mono (by decide)) rfl Bd.g b_init .nil pass0 (pa_cons (pv 4) (pa_cons (pv 5) (pa_cons (pe_slice (ksl (K := K)) (pv 6) (po_some pe_int) po_none) pa_nil)))))
    (pss_cons (ps_if (PW.pt (pw_or (pt_not (pt_val (pe_callB (kall (K := K) rfl) rfl B.all (by decide +kernel) (pa_cons (pe_lc (own := [("_law_pair", 11)]) rfl sc_law.nd (kseq (K := K) (pv 10)) (blkOk_by (N := n_law) (sc := defScope s_law) (own := [("_law_pair", 11)]) (by decide +kernel)) (fun _ _ _ _ _ => (pg_name (i := 11) sc_law.nd rfl (Or.inl rfl))) (fun _ _ _ _ _ => pts_nil) (fun _ _ _ _ _ => (pe_cmpR (kin (K := K) (hu65 hr)) (pv 11) (pv 13) rfl))) pa_nil)))) (pw_or1 (pt_not (pt_val (pe_callB (kall (K := K) rfl) rfl B.all (by decide +kernel) (pa_cons (pe_lc (own := [("_law_pair", 11)]) rfl sc_law.nd (kseq (K := K) (pv 10)) (blkOk_by (N := n_law) (sc := defScope s_law) (own := [("_law_pair", 11)]) (by decide +kernel)) (fun _ _ _ _ _ => (pg_name (i := 11) sc_law.nd rfl (Or.inl rfl))) (fun _ _ _ _ _ => pts_nil) (fun _ _ _ _ _ => (pe_cmpR (kin (K := K) (hu65 hr)) (pv 11) (pe_cal c_sure_pairs hr (pa_cons (pv 14) pa_nil)) rfl))) pa_nil))))))) (pss_one (ps_ret pe_bl)) pss_nil)
    (pss_cons (ps_if (PW.pt (pw_or (PW.pt (pw_and (pt_val (pe_cal c_bands_agree hr (pa_cons (pv 7) pa_nil))) (pw_and1 (pt_not (pt_val (pe_cal c_bands_agree hr (pa_cons (pv 14) pa_nil))))))) (pw_or1 (PW.pt (pw_and (pt_cmpR op_isN (pv 8) pe_non (nomark _)) (pw_and1 (pt_cmpR op_notN (pe_cal c_three_bands hr (pa_cons (pv 14) pa_nil)) pe_non (nomark _)))))))) (pss_one (ps_ret pe_bl)) pss_nil)
    (pss_cons (ps_expr (kbm (K := K) (pe_bm PySem.F.plainAttrs_list PySem.F.slot_list_append PySem.F.type_list_append mt_append (pe_cal c_sure_pairs hr (pa_cons (pv 7) pa_nil)) (pa_cons pe_str pa_nil))))
    (pss_one (ps_if (pt_not (pt_val (pe_cal c_l_same hr (pa_cons (pe_cal c_sure_pairs hr (pa_cons (pv 7) pa_nil)) (pa_cons (pv 10) pa_nil))))) (pss_one (ps_ret pe_bl)) pss_nil))))))))))))))))))
    (pss_one (ps_ret pe_bl)))), ?_⟩
  refine asg_in ⟨.ref a, rfl, a, ns, rfl, hS, fun S L hS0 hL0 ne => ?_⟩
  have W0 : Wd S L T 0 (fun _ => none) (upd (upd H L (stC ns)) S (stL L 0 0 11)) := ⟨fun a o e => (by cases e), ⟨rfl, rfl, 0, 0, 11, ns, ⟨upd_same, by rw [upd_ne (Ne.symm ne), upd_same], ne⟩, by decide, by decide, by decide, by decide⟩,
    (tab_new hT).ext (fun b o e => by rw [upd_ne (ne_of_none e hS0), upd_ne (ne_of_none e hL0)]; exact e), rfl⟩
  generalize upd (upd H L (stC ns)) S (stL L 0 0 11) = Ha at W0
  refine b_for (bs := List.range 2) (fun i => .int (i : Int)) (ei_range (n := 2) (ea_one ev_int) (by decide)) W0.g
    (fun i σ' G' H' => (∃ o2 o3 o4 o5 o6 o7 o8 o9 o10 o12 o13 o14, σ' = [some (.ref a), some (.ref S), o2, o3, o4, o5, o6, o7, o8, o9, o10, none, o12, o13, o14]) ∧ Wd S L T (3000 * i) G' H')
    (fun G1 H1 g1 => ⟨⟨_, _, _, _, _, _, _, _, _, _, _, _, rfl⟩, W0.pure g1⟩) (fun i σ' G' H' W => W.2.g) (fun i b x σ' G1 H1 G2 H2 hb ⟨⟨o2, o3, o4, o5, o6, o7, o8, o9, o10, o12, o13, o14, hσ⟩, W1⟩ g2 rx => ?_) fun σ' G' H' W => q H'
  subst hσ
  have W2 := W1.pure g2
  have i2 : i < 2 := by
    have := (List.getElem?_eq_some_iff.mp hb).1
    simpa using this
  refine tg_name ?_
  refine asg_in ⟨.ref S, rfl, st_draw (m := 4) (i := 1) rfl ev_int W2.st W2.g (by decide) (by decide) (by omega) fun r Ga Hb r0 r4 ga sa => ⟨2, r, rfl, rfl, ?_⟩⟩
  have Wa := W2.str ga sa
  obtain ⟨j, rfl⟩ := Int.eq_ofNat_of_zero_le r0
  obtain ⟨m, em⟩ : ∃ m, m = 2 + j := ⟨_, rfl⟩
  have e2 : (2 + (j : Int)) = ((m : Nat) : Int) := by omega
  have rm : Rp Ga (.int (2 + (j : Int))) (.int ((m : Nat) : Int)) := by rw [e2]; exact .int _
  refine ⟨Ga, S, L, 3000 * i + 1, _, m, rfl, Wa.g, Wa.st, .cons rm (.cons (.int 3) (.one (.int 4))), by show m ≤ 6; omega, by omega, fun v d Gb Hc ⟨n, ed, N⟩ gb sb rn => ?_⟩
  subst ed
  have m2 : 2 ≤ m := by omega
  have m5 : m ≤ 5 := by omega
  clear em e2 rm r4 r0
  have Wb := Wa.str gb sb
  have NB := net_ban N m5
  have NO := net_ok N m5
  have nh : n.hs.length ≤ 5 := by rw [N.len]; exact m5
  have pz : (pairsZ n.hs).length ≤ 10 := pairsZ_len10 nh
  refine ⟨v, rfl, tg_triple (P := fun σ2 => ∃ v1 v2 v3, σ2 = [some (.ref a), some (.ref S), some x, some v, some v1, some v2, some v3, o7, o8, o9, o10, none, o12, o13, o14] ∧ Rp Gb v1 (eL n.hs) ∧ Rp Gb v2 (eLP n.rs) ∧ Rp Gb v3 (.list (n.gs.map eL))) rn (fun v1 v2 v3 a b c => ⟨v1, v2, v3, rfl, a, b, c⟩) Hc Wb.g _ fun σ2 ⟨v1, v2, v3, e2, r1, r2, r3⟩ => ?_⟩
  subst e2
  dsimp only
  -- the bands
  refine asg_in ⟨.ref S, rfl, v, rfl, Gb, S, L, _, m, n, v, rfl, Wb.g, rn, N, m2, m5, Wb.st, by omega, Wb.tab, Wb.nT, fun y Gc Hdd hy gc sc tc Bc => ?_⟩
  have Wc : Wd S L T _ Gc Hdd := ⟨gc.gh, sc, tc, tabP gc Wb.tab Wb.nT⟩
  have bs0 : Same G2 Gc := (ga.gg.trans gb.gg).trans gc.gg
  have ny : G2 y = none := (ga.gg.trans gb.gg).free (Wb.g.free hy)
  replace r1 := r1.mono gc.gg
  replace r2 := r2.mono gc.gg
  replace r3 := r3.mono gc.gg
  replace rn := rn.mono gc.gg
  -- what is due
  refine par_in (ea_two (ev_net (t := tNil) (er := fun n => eThree (threeDue n)) (ev_var rfl rn) NO) (ev_net (t := tNil) (er := fun n => eFour (partedDue n)) (ev_var rfl rn) NO)) Wc.g fun t3 t2 Gd He gd rt3 rt2 => ?_
  have Wd' := Wc.pure gd
  replace r1 := r1.mono gd.gg
  replace r2 := r2.mono gd.gg
  replace r3 := r3.mono gd.gg
  replace rn := rn.mono gd.gg
  have bs1 := bs0.trans gd.gg
  have Bd' := Bc.mono gd.gg
  have hsm : Sm 3 (.list [eThree (threeDue n), eFour (partedDue n)]) := .inr ⟨true, [eThree (threeDue n), eFour (partedDue n)], rfl, by show 2 ≤ 1000; decide, fun d hd => by
    rcases List.mem_cons.mp hd with rfl | hd
    · exact sm_due3 (k := 0) N m5
    · cases List.mem_singleton.mp hd
      exact sm_due4 (k := 0) N m5⟩
  dsimp only [List.set]
  refine b_no (EvB.is (eb_not (eb_B (ev_sm hsm (ea_two (ev_lst (ea_two (EvD.is (ev_isB (ok := BanOk) (er := fun b => eThree (find3P b.hs b.gs)) (ea_one (ev_var rfl Bd'.rp)) NB) (by show eThree (find3P (banN n).hs (banN n).gs) = _; rw [three_eq N])) (EvD.is (ev_isB (ok := BanOk) (er := fun b => eFour (partedP b)) (ea_one (ev_var rfl Bd'.rp)) NB) (by show eFour (partedP (banN n)) = _; rw [parted_eq N]))) (by show 2 ≤ _; decide)) (ev_lst (ea_two (ev_var rfl rt3) (ev_var rfl rt2)) (by show 2 ≤ _; decide)))))) rfl) Wd'.g fun Hf s1 => ?_
  have We := Wd'.more s1
  -- the sure pairs
  refine b_asg (d := eLP (sureD n)) (ev_lc (bs := pairsZ n.hs) eP (fun p => !isParted n p.1 p.2) eP (ei_seq (k := true) (ev_handPairs (ea_one (ev_var rfl r1)) (by omega))) (by omega) fun p hp x' G' s' rx' => tg_name ⟨rfl, eb_not (eb_B (ev_call (ea := fun x : Net × Hd × Hd => [eN x.1, eH x.2.1, eH x.2.2]) (er := fun x => .bool (isParted x.1 x.2.1 x.2.2)) (ok := fun x => NetOk x.1) (n, p.1, p.2) (ea_cons (ev_var rfl (rn.mono s')) (ea_two (ev_ix (k := false) (i := 0) (ev_var rfl rx') ev_int rfl) (ev_ix (k := false) (i := 1) (ev_var rfl rx') ev_int rfl))) NO)), fun _ => ev_var rfl rx'⟩) We.g fun vs' Gg Hg gg rs => ?_
  have Wg := We.pure gg
  replace r1 := r1.mono gg.gg
  replace r2 := r2.mono gg.gg
  replace r3 := r3.mono gg.gg
  replace rn := rn.mono gg.gg
  replace rt3 := rt3.mono gg.gg
  replace rt2 := rt2.mono gg.gg
  have bs2 := bs1.trans gg.gg
  have Bg := Bd'.mono gg.gg
  have hsp : Sm 3 (eLP (sureD n)) := sm_LP (k := 1) (by have : (sureD n).length ≤ (pairsZ n.hs).length := List.length_filter_le _ _; omega)
  dsimp only [List.set]
  refine b_no (EvB.is (eb_or (a := false) (b := false) (EvB.is (eb_not (eb_B (ev_sm hsp (ea_two (EvD.is (ev_sureF (ev_var rfl Bg.rp) NB).ev (by rw [sure_eq N])) (ev_var rfl rs))))) rfl) fun _ => eb_test (ev_neB (a := decide (sureD n = pairsZ n.hs)) (EvD.is (ev_isN (ev_var rfl rt2)) (by rw [due4_non, due_none N])) (EvD.is (ev_eq (ev_var rfl rs) (ev_handPairs (ea_one (ev_var rfl r1)) (by omega)) (sh_eLP _).shaped (sh_eLP _).shaped) (by rw [eqv_LP])))) rfl) Wg.g fun Hh s2 => ?_
  have Wh := Wg.more s2
  refine b_no (eb_test (ev_neB (a := (threeDue n).isSome) (EvD.is (ev_notN (ev_var rfl rt3)) (by rw [due3_non]; cases threeDue n <;> rfl)) (EvD.is (ev_net (t := tNil) (er := fun n => .bool (heldBy n)) (ev_var rfl rn) NO) (by show PyData.bool (heldBy n) = _; rw [held_eq N])))) Wh.g fun Hi s3 => ?_
  have Wi := Wh.more s3
  -- they agree
  refine agree_in (i := 7) rfl Wi Bg NB (.inl rfl) fun Gj Hj Wj Bj off => ?_
  replace r1 := Bg.rpo off r1 (sh_eL (n := 0) _).lay
  replace r2 := Bg.rpo off r2 (sh_eLP _).lay
  replace r3 := Bg.rpo off r3 (sh_gs _).lay
  replace rs := Bg.rpo off rs (sh_eLP _).lay
  replace rt3 := Bg.rpo off rt3 (sh_three _).lay
  replace rt2 := Bg.rpo off rt2 (sh_four _).lay
  have bs3 : Same G2 Gj := fun a o e => off a o (ne_of_none e ny) (bs2 a o e)
  refine (ev_andV (a := (threeDue n).isNone) (b := (partedDue n).isNone) (EvD.is (ev_isN (ev_var rfl rt3)) (by rw [due3_non])) fun _ => EvD.is (ev_isN (ev_var rfl rt2)) (by rw [due4_non])) Gj Hj (Same.refl _) Wj.g _ fun va Gk Hk gk rva => nil_tail ?_
  rw [← agree_eq N] at rva
  refine ⟨Gk, .bool (agreeP (banN n)), gk.gh, .cons (.bl _) (.one rva), sm_flat (.bl _), fun vr Gl Hl gl rvr => ⟨true, rvr.bl_eq, iteF ?_⟩⟩
  have gkl := gk.trans gl
  have Wl := Wj.pure gkl
  replace r1 := r1.mono gkl.gg
  replace r2 := r2.mono gkl.gg
  replace r3 := r3.mono gkl.gg
  replace rs := rs.mono gkl.gg
  replace rt3 := rt3.mono gkl.gg
  have bs4 := bs3.trans gkl.gg
  have Bl := Bj.mono gkl.gg
  -- what is lacking
  refine b_asg (d := eLP (lackL n)) (ev_lc (bs := pairsZ n.hs) eP (fun p => !decide (p ∈ n.rs)) eP (ei_seq (k := true) (ev_handPairs (ea_one (ev_var rfl r1)) (by omega))) (by omega) fun p hp x' G' s' rx' => tg_name ⟨rfl, eb_test (ev_ninP (ev_var rfl rx') (ev_var rfl (r2.mono s'))), fun _ => ev_var rfl rx'⟩) Wl.g fun vl Gm Hm gm rl => ?_
  have Wm := Wl.pure gm
  replace r1 := r1.mono gm.gg
  replace r2 := r2.mono gm.gg
  replace r3 := r3.mono gm.gg
  replace rs := rs.mono gm.gg
  replace rt3 := rt3.mono gm.gg
  have bs5 := bs4.trans gm.gg
  have Bm := Bl.mono gm.gg
  dsimp only [List.set]
  -- with more roads
  refine asg_in (call_make ⟨v1, rfl, v2, rfl, vl, rfl, st_draw (m := 3) (i := 1) rfl ev_int Wm.st Wm.g (by decide) (by decide) (by omega) fun r Gn Hn r0 r3' gn sn => ⟨1, r, rfl, rfl, 1 + r, rfl, ?_⟩⟩)
  have Wn := Wm.str gn sn
  obtain ⟨j2, rfl⟩ := Int.eq_ofNat_of_zero_le r0
  refine sl_at (rl.mono gn.gg) Wn.g fun ve Go Ho go re => ?_
  have gno := gn.trans (Gr.toM go)
  have Wo := Wn.pure go
  replace r1 := r1.mono gno.gg
  replace r2 := r2.mono gno.gg
  replace r3 := r3.mono gno.gg
  replace rs := rs.mono gno.gg
  replace rt3 := rt3.mono gno.gg
  have bs6 := bs5.trans gno.gg
  have Bo := Bm.mono gno.gg
  rw [show (1 + (j2 : Int)) = ((1 + j2 : Nat) : Int) by omega, cutD_take, ← List.map_take] at re
  obtain ⟨l2, xs2, e2, hl2, ra2⟩ := r2.list_at
  obtain ⟨le, xse, ee, hle, rae⟩ := re.list_at
  have rae' := ra2.append rae
  rw [← List.map_append] at rae'
  have lxs : (xs2 ++ xse).length = (wideL n (1 + j2)).length := by rw [rae'.length, List.length_map]; rfl
  have wl := wide_len N m5 (1 + j2)
  refine ⟨l2, le, xs2, xse, e2, ee, Wo.g _ _ hl2, Wo.g _ _ hle, by rw [← List.length_append, lxs, sizeLine_eq]; omega, fun pw hpw => ?_⟩
  obtain ⟨gp, rp⟩ := new_lst Wo.g hpw rae'
  have Wp := Wo.pure gp
  refine ⟨v3, rfl, nil_tail ?_⟩
  replace r1 := r1.mono gp.gg
  replace r2 := r2.mono gp.gg
  replace r3 := r3.mono gp.gg
  replace rs := rs.mono gp.gg
  replace rt3 := rt3.mono gp.gg
  have bs7 := bs6.trans gp.gg
  have Bp' := Bo.mono gp.gg
  refine make_ok2 (C := C) (T := T) (kh := true) (kr := true) (kg := true) (hs := n.hs) (rs := (wideL n (1 + j2)).map asR) (gs := n.gs.map asG) Wp.g (.cons r1 (.cons (by rw [asR_map]; exact rp) (.one (by rw [asG_map]; exact r3)))) Wp.tab Wp.nT
    (as_hand N m2 (wide_sub N _) (wide_nodup N _) (by omega) (fun _ h => h) (by have := N.gl; omega)) fun yw Gq Hq hyw gq tq Bw => ?_
  rw [as_ban N (wide_sub N _)] at Bw
  have Wq := Wp.make gq tq
  refine ⟨Gq, _, Wq.g, .one Bw.rp, wide_ban N m5 _, fun pq Grr Hrr hpq gr rw' => ?_⟩
  have Wr := Wq.pure gr
  have gqr := gq.trans (Gr.toM gr)
  replace r1 := r1.mono gqr.gg
  replace r2 := r2.mono gqr.gg
  replace r3 := r3.mono gqr.gg
  replace rs := rs.mono gqr.gg
  replace rt3 := rt3.mono gqr.gg
  have bs8 := bs7.trans gqr.gg
  have Br := Bp'.mono gqr.gg
  dsimp only [List.set]
  -- with a set less
  refine asg_in (make_in ⟨v1, rfl, v2, rfl, v3, rfl, 1, rfl, no_part (sl_at r3 Wr.g fun vd Gs Hs gs rd => nil_tail ?_)⟩)
  have Ws := Wr.pure gs
  replace r1 := r1.mono gs.gg
  replace r2 := r2.mono gs.gg
  replace rs := rs.mono gs.gg
  replace rt3 := rt3.mono gs.gg
  replace rw' := rw'.mono gs.gg
  have bs9 := bs8.trans gs.gg
  have Bs := Br.mono gs.gg
  rw [show (1 : Int) = ((1 : Nat) : Int) from rfl, cutD_drop, ← List.map_drop] at rd
  have N' := net_less N
  have NB' := net_ban N' m5
  refine make_ok2 (C := C) (T := T) (kh := true) (kr := true) (kg := true) (hs := n.hs) (rs := n.rs.map asR) (gs := (n.gs.drop 1).map asG) Ws.g (.cons r1 (.cons (by rw [asR_map]; exact r2) (.one (by rw [asG_map]; exact rd)))) Ws.tab Ws.nT
    (as_hand N m2 (rs_sub N) (rs_nodup N) (by have := N.rs.length_le; omega) (fun _ h => List.mem_of_mem_drop h) (by have := N.gl; rw [List.length_drop]; omega)) fun yl Gt Ht hyl gt tt Bt => ?_
  have eB' : banOf n.hs (n.rs.map asR) ((n.gs.drop 1).map asG) = banN { n with gs := n.gs.drop 1 } := by
    rw [as_ban N (rs_sub N), sP_rs N]
    rfl
  rw [eB'] at Bt
  have Wt := Ws.make gt tt
  have ye : yl ≠ y := by
    rintro rfl
    obtain ⟨_, _, _, _, e, _⟩ := Bs.ex
    rw [Ws.g _ _ e] at hyl
    cases hyl
  have nyl : G2 yl = none := bs9.free (Ws.g.free hyl)
  replace rs := rs.mono gt.gg
  replace rt3 := rt3.mono gt.gg
  replace rw' := rw'.mono gt.gg
  have bs10 := bs9.trans gt.gg
  have Bu := Bs.mono gt.gg
  have sub : ∀ g ∈ (n.gs.drop 1), g ∈ n.gs := fun _ h => List.mem_of_mem_drop h
  have suL : (sureD n).length ≤ 10 := by have : (sureD n).length ≤ (pairsZ n.hs).length := List.length_filter_le _ _; omega
  dsimp only [List.set]
  refine b_no (EvB.is (eb_or (a := false) (b := false)
    (EvB.is (eb_not (eb_B (ev_all (bs := (sureD n).map fun p => decide (p ∈ sureP ⟨n.hs, sP (wideL n (1 + j2)), greatP n.gs⟩)) (EvD.is (ev_lcm (bs := sureD n) eP (fun p => .bool (decide (p ∈ sureP ⟨n.hs, sP (wideL n (1 + j2)), greatP n.gs⟩))) (ei_seq (k := true) (ev_var rfl rs)) (by omega) fun p hp x' G' s' rx' => tg_name ⟨rfl, ev_inP (ev_var rfl rx') (ev_var rfl (rw'.mono s'))⟩) (by rw [List.map_map]; rfl))))) (by
      have : ((sureD n).map fun p => decide (p ∈ sureP ⟨n.hs, sP (wideL n (1 + j2)), greatP n.gs⟩)).all id = true := by
        rw [List.all_map, List.all_eq_true]
        exact fun p hp => decide_eq_true (wide_ok N rfl (fun p hp => sP_mem (List.mem_append_left _ hp)) rfl hp)
      rw [this]; rfl))
    fun _ => EvB.is (eb_not (eb_B (ev_all (bs := (sureD n).map fun p => decide (p ∈ sureP (banN { n with gs := n.gs.drop 1 }))) (EvD.is (ev_lcm (bs := sureD n) eP (fun p => .bool (decide (p ∈ sureP (banN { n with gs := n.gs.drop 1 })))) (ei_seq (k := true) (ev_var rfl rs)) (by omega) fun p hp x' G' s' rx' => tg_name ⟨rfl, ev_inP (ev_var rfl rx') (ev_sureF (ev_var rfl (Bt.rp.mono s')) NB').ev⟩) (by rw [List.map_map]; rfl))))) (by
      have : ((sureD n).map fun p => decide (p ∈ sureP (banN { n with gs := n.gs.drop 1 }))).all id = true := by
        rw [List.all_map, List.all_eq_true]
        exact fun p hp => decide_eq_true (less_sure N N' rfl rfl sub hp)
      rw [this]; rfl)) rfl) Wt.g fun Hu s4 => ?_
  have Wu := Wt.more s4
  -- and agree still
  refine b_agree2 (i := 7) (j := 14) rfl rfl Wu Bu Bt ye NB NB' (.inr rfl) (.inl rfl) (less_agree N N' rfl rfl sub) fun Gv Hv Wv Bv ⟨ag2, Bv'⟩ rpo off => ?_
  replace rs := rpo rs (sh_eLP _).lay
  replace rt3 := rpo rt3 (sh_three _).lay
  have bs11 : Same G2 Gv := fun a o e => off a o (ne_of_none e ny) (ne_of_none e nyl) (bs10 a o e)
  refine (EvB.is (eb_and (a := (threeDue n).isNone) (b := (threeDue { n with gs := n.gs.drop 1 }).isSome) (eb_test (EvD.is (ev_isN (ev_var rfl rt3)) (by rw [due3_non]))) fun _ => eb_test (EvD.is (ev_notN (EvD.is (ev_isB (ok := BanOk) (er := fun b => eThree (find3P b.hs b.gs)) (ea_one (ev_var rfl Bv'.rp)) NB') (by show eThree (find3P (banN { n with gs := n.gs.drop 1 }).hs (banN { n with gs := n.gs.drop 1 }).gs) = _; rw [three_eq N']))) (by rw [due3_non]; cases threeDue { n with gs := n.gs.drop 1 } <;> rfl))) (by
    cases h3 : threeDue n with
    | none => rw [less_three N N' rfl sub h3]; rfl
    | some z => rfl)) Gv Hv (Same.refl _) Wv.g _ fun Hw sw => iteF ?_
  have Ww := Wv.more sw
  -- the row of the caller's own
  refine ev_sureF (ev_var rfl Bv.rp) NB Gv Hw (Same.refl _) Ww.g _ fun p Gx Hx hp gx rp => ?_
  obtain ⟨p', xs, ep, hl, rl⟩ := rp.list_at
  cases ep
  have sl : xs.length = (sureP (banN n)).length := by rw [rl.length, List.length_map]
  rw [sure_eq N] at sl
  refine ⟨.inl ⟨rfl, xs, sqL (gx.gh _ _ hl)⟩, p, xs, _, rfl, rfl, gx.gh _ _ hl, by rw [sizeLine_eq]; omega, ?_⟩
  have Wx := Ww.pure ((Gr.of Ww.g gx.same).mut (o := .lst (xs ++ [.str "late"])) hp (Ww.g.free hp))
  refine b_if1 (b := false) (EvB.is (eb_not (eb_B (ev_sm hsp (ea_two (EvD.is (ev_sureF (ev_var rfl Bv.rp) NB).ev (by rw [sure_eq N])) (ev_var rfl rs))))) rfl) Wx.g (fun z => nomatch z) fun _ Hy sy => ⟨Gv, g2.gg.trans bs11, ⟨_, _, _, _, _, _, _, _, _, _, _, _, rfl⟩, (Wx.more sy).up (by omega)⟩
end
end Bp

set_option Elab.async false
set_option linter.all false
set_option maxRecDepth 100000
set_option maxHeartbeats 0
namespace Bp
open PySem PySem.Spec L2 PyProof.Rows
def d_is_list : He.DefD := ⟨("is_list", none), "is_list", "is_list", defArgs s_is_list, defBody s_is_list, defScope s_is_list, [], []⟩
def d_is_name : He.DefD := ⟨("is_name", none), "is_name", "is_name", defArgs s_is_name, defBody s_is_name, defScope s_is_name, [], []⟩
def d_checked_hands : He.DefD := ⟨("checked_hands", none), "checked_hands", "checked_hands", defArgs s_checked_hands, defBody s_checked_hands, defScope s_checked_hands, [], []⟩
def d_is_hand_of : He.DefD := ⟨("is_hand_of", none), "is_hand_of", "is_hand_of", defArgs s_is_hand_of, defBody s_is_hand_of, defScope s_is_hand_of, [], []⟩
def d_checked_roads : He.DefD := ⟨("checked_roads", none), "checked_roads", "checked_roads", defArgs s_checked_roads, defBody s_checked_roads, defScope s_checked_roads, [], []⟩
def d_are_unlike : He.DefD := ⟨("are_unlike", none), "are_unlike", "are_unlike", defArgs s_are_unlike, defBody s_are_unlike, defScope s_are_unlike, [], []⟩
def d_is_within : He.DefD := ⟨("is_within", none), "is_within", "is_within", defArgs s_is_within, defBody s_is_within, defScope s_is_within, [], []⟩
def d_in_choices : He.DefD := ⟨("in_choices", none), "in_choices", "in_choices", defArgs s_in_choices, defBody s_in_choices, defScope s_in_choices, [], []⟩
def d_checked_greatest : He.DefD := ⟨("checked_greatest", none), "checked_greatest", "checked_greatest", defArgs s_checked_greatest, defBody s_checked_greatest, defScope s_checked_greatest, [], []⟩
def d_B_init : He.DefD := ⟨("Bands", some "__init__"), "__init__", "Bands.__init__", defArgs s_B_init, defBody s_B_init, defScope s_B_init, [], []⟩
def d_B_hands : He.DefD := ⟨("Bands", some "hands"), "hands", "Bands.hands", defArgs s_B_hands, defBody s_B_hands, defScope s_B_hands, [], []⟩
def d_B_roads : He.DefD := ⟨("Bands", some "roads"), "roads", "Bands.roads", defArgs s_B_roads, defBody s_B_roads, defScope s_B_roads, [], []⟩
def d_B_greatest : He.DefD := ⟨("Bands", some "greatest"), "greatest", "Bands.greatest", defArgs s_B_greatest, defBody s_B_greatest, defScope s_B_greatest, [], []⟩
def d_B_near : He.DefD := ⟨("Bands", some "near"), "near", "Bands.near", defArgs s_B_near, defBody s_B_near, defScope s_B_near, [], []⟩
def d_three_bands : He.DefD := ⟨("three_bands", none), "three_bands", "three_bands", defArgs s_three_bands, defBody s_three_bands, defScope s_three_bands, [], []⟩
def d_reached : He.DefD := ⟨("reached", none), "reached", "reached", defArgs s_reached, defBody s_reached, defScope s_reached, [], []⟩
def d_parting_bands : He.DefD := ⟨("parting_bands", none), "parting_bands", "parting_bands", defArgs s_parting_bands, defBody s_parting_bands, defScope s_parting_bands, [], []⟩
def d_hand_pairs : He.DefD := ⟨("hand_pairs", none), "hand_pairs", "hand_pairs", defArgs s_hand_pairs, defBody s_hand_pairs, defScope s_hand_pairs, [], []⟩
def d_parted : He.DefD := ⟨("parted", none), "parted", "parted", defArgs s_parted, defBody s_parted, defScope s_parted, [], []⟩
def d_sure_pairs : He.DefD := ⟨("sure_pairs", none), "sure_pairs", "sure_pairs", defArgs s_sure_pairs, defBody s_sure_pairs, defScope s_sure_pairs, [], []⟩
def d_bands_agree : He.DefD := ⟨("bands_agree", none), "bands_agree", "bands_agree", defArgs s_bands_agree, defBody s_bands_agree, defScope s_bands_agree, [], []⟩
def d_l_pairs : He.DefD := ⟨("_law_pairs", none), "_law_pairs", "_law_pairs", defArgs s_l_pairs, defBody s_l_pairs, defScope s_l_pairs, [], []⟩
def d_l_ring : He.DefD := ⟨("_law_ring", none), "_law_ring", "_law_ring", defArgs s_l_ring, defBody s_l_ring, defScope s_l_ring, [], []⟩
def d_l_net : He.DefD := ⟨("_law_net", none), "_law_net", "_law_net", defArgs s_l_net, defBody s_l_net, defScope s_l_net, [], []⟩
def d_l_bands_made : He.DefD := ⟨("_law_bands_made", none), "_law_bands_made", "_law_bands_made", defArgs s_l_bands_made, defBody s_l_bands_made, defScope s_l_bands_made, [], []⟩
def d_l_near : He.DefD := ⟨("_law_near", none), "_law_near", "_law_near", defArgs s_l_near, defBody s_l_near, defScope s_l_near, [], []⟩
def d_l_ways : He.DefD := ⟨("_law_ways", none), "_law_ways", "_law_ways", defArgs s_l_ways, defBody s_l_ways, defScope s_l_ways, [], []⟩
def d_l_sets : He.DefD := ⟨("_law_sets", none), "_law_sets", "_law_sets", defArgs s_l_sets, defBody s_l_sets, defScope s_l_sets, [], []⟩
def d_l_is_in : He.DefD := ⟨("_law_is_in", none), "_law_is_in", "_law_is_in", defArgs s_l_is_in, defBody s_l_is_in, defScope s_l_is_in, [], []⟩
def d_l_all_bands : He.DefD := ⟨("_law_all_bands", none), "_law_all_bands", "_law_all_bands", defArgs s_l_all_bands, defBody s_l_all_bands, defScope s_l_all_bands, [], []⟩
def d_l_greatest : He.DefD := ⟨("_law_greatest", none), "_law_greatest", "_law_greatest", defArgs s_l_greatest, defBody s_l_greatest, defScope s_l_greatest, [], []⟩
def d_l_is_free : He.DefD := ⟨("_law_is_free", none), "_law_is_free", "_law_is_free", defArgs s_l_is_free, defBody s_l_is_free, defScope s_l_is_free, [], []⟩
def d_l_unions : He.DefD := ⟨("_law_unions", none), "_law_unions", "_law_unions", defArgs s_l_unions, defBody s_l_unions, defScope s_l_unions, [], []⟩
def d_l_is_parted : He.DefD := ⟨("_law_is_parted", none), "_law_is_parted", "_law_is_parted", defArgs s_l_is_parted, defBody s_l_is_parted, defScope s_l_is_parted, [], []⟩
def d_l_is_held_by_three : He.DefD := ⟨("_law_is_held_by_three", none), "_law_is_held_by_three", "_law_is_held_by_three", defArgs s_l_is_held_by_three, defBody s_l_is_held_by_three, defScope s_l_is_held_by_three, [], []⟩
def d_l_start : He.DefD := ⟨("_law_start", none), "_law_start", "_law_start", defArgs s_l_start, defBody s_l_start, defScope s_l_start, [], []⟩
def d_l_draw : He.DefD := ⟨("_law_draw", none), "_law_draw", "_law_draw", defArgs s_l_draw, defBody s_l_draw, defScope s_l_draw, [], []⟩
def d_l_mixed : He.DefD := ⟨("_law_mixed", none), "_law_mixed", "_law_mixed", defArgs s_l_mixed, defBody s_l_mixed, defScope s_l_mixed, [], []⟩
def d_l_same : He.DefD := ⟨("_law_same", none), "_law_same", "_law_same", defArgs s_l_same, defBody s_l_same, defScope s_l_same, [], []⟩
def d_l_each_once : He.DefD := ⟨("_law_each_once", none), "_law_each_once", "_law_each_once", defArgs s_l_each_once, defBody s_l_each_once, defScope s_l_each_once, [], []⟩
def d_l_hands : He.DefD := ⟨("_law_hands", none), "_law_hands", "_law_hands", defArgs s_l_hands, defBody s_l_hands, defScope s_l_hands, [], []⟩
def d_l_loose : He.DefD := ⟨("_law_loose", none), "_law_loose", "_law_loose", defArgs s_l_loose, defBody s_l_loose, defScope s_l_loose, [], []⟩
def d_l_three_due : He.DefD := ⟨("_law_three_due", none), "_law_three_due", "_law_three_due", defArgs s_l_three_due, defBody s_l_three_due, defScope s_l_three_due, [], []⟩
def d_l_parted_due : He.DefD := ⟨("_law_parted_due", none), "_law_parted_due", "_law_parted_due", defArgs s_l_parted_due, defBody s_l_parted_due, defScope s_l_parted_due, [], []⟩
def d_law : He.DefD := ⟨("law", none), "law", "law", defArgs s_law, defBody s_law, defScope s_law, [], []⟩
def hfn0 : List He.DefD := [d_is_list, d_is_name, d_checked_hands, d_is_hand_of, d_checked_roads, d_are_unlike, d_is_within, d_in_choices, d_checked_greatest, d_B_init, d_B_hands, d_B_roads, d_B_greatest, d_B_near, d_three_bands, d_reached, d_parting_bands, d_hand_pairs, d_parted, d_sure_pairs]
def hfn1 : List He.DefD := [d_bands_agree, d_l_pairs, d_l_ring, d_l_net, d_l_bands_made, d_l_near, d_l_ways, d_l_sets, d_l_is_in, d_l_all_bands, d_l_greatest, d_l_is_free, d_l_unions, d_l_is_parted, d_l_is_held_by_three, d_l_start, d_l_draw, d_l_mixed, d_l_same, d_l_each_once]
def hfn2 : List He.DefD := [d_l_hands, d_l_loose, d_l_three_due, d_l_parted_due, d_law]
def hfn : List He.DefD := hfn0 ++ hfn1 ++ hfn2
def hfa0 : List He.Fa := [.glo "is_list", .glo "is_name", .glo "checked_hands", .glo "is_hand_of", .glo "checked_roads", .glo "are_unlike", .glo "is_within", .glo "in_choices", .glo "checked_greatest", .glo "three_bands", .glo "reached", .glo "parting_bands", .glo "hand_pairs", .glo "parted", .glo "sure_pairs", .glo "bands_agree", .glo "_law_pairs", .glo "_law_ring", .glo "_law_net", .glo "_law_bands_made"]
def hfa1 : List He.Fa := [.glo "_law_near", .glo "_law_ways", .glo "_law_sets", .glo "_law_is_in", .glo "_law_all_bands", .glo "_law_greatest", .glo "_law_is_free", .glo "_law_unions", .glo "_law_is_parted", .glo "_law_is_held_by_three", .glo "_law_start", .glo "_law_draw", .glo "_law_mixed", .glo "_law_same", .glo "_law_each_once", .glo "_law_hands", .glo "_law_loose", .glo "_law_three_due", .glo "_law_parted_due", .glo "law"]
def hfa2 : List He.Fa := [.glo "Bands", .free "len", .free "all", .free "any", .free "sorted", .free "tuple", .free "list", .free "range", .free "enumerate", .free "isinstance", .free "zip", .free "int", .free "str", .free "dict", .free "bool", .str "SMALL" "abcdefghijklmnopqrstuvwxyz", .str "FIGURES" "0123456789", .cls "Bands", .mkr "Bands", .noat "Bands" "own_hands"]
def hfa3 : List He.Fa := [.noat "Bands" "own_roads", .noat "Bands" "own_greatest", .noat "Bands" "own_agree", .meth "Bands" "hands", .meth "Bands" "roads", .meth "Bands" "greatest", .meth "Bands" "near"]
def hfa : List He.Fa := hfa0 ++ hfa1 ++ hfa2 ++ hfa3
def hloose0 : List Str := ["PlanError", "BadBand", "BadHands", "BadRoad", "NoHand", "SMALL", "FIGURES", "is_list", "is_name", "checked_hands", "is_hand_of", "checked_roads", "are_unlike", "is_within", "in_choices", "checked_greatest", "Bands", "three_bands", "reached", "parting_bands"]
def hloose1 : List Str := ["hand_pairs", "parted", "sure_pairs", "bands_agree", "_law_pairs", "_law_ring", "_law_net", "_law_bands_made", "_law_near", "_law_ways", "_law_sets", "_law_is_in", "_law_all_bands", "_law_greatest", "_law_is_free", "_law_unions", "_law_is_parted", "_law_is_held_by_three", "_law_start", "_law_draw"]
def hloose2 : List Str := ["_law_mixed", "_law_same", "_law_each_once", "_law_hands", "_law_loose", "_law_three_due", "_law_parted_due"]
def hloose : List Str := hloose0 ++ hloose1 ++ hloose2
def htf : List He.Defn := [("in_choices", none)]
abbrev hR : PySem.W.OpenRow := PySem.W.OpenLaw.row PySem.Challenge.rw_breakplans_k42_whole_three_and_two
abbrev hk : PySem.W.Hook := He.hookX 5 hfa hfn [] htf (fun _ => true)
def hob (s : PySem.W.SharedT) : He.AlX := He.obsX 5 hfa hfn [] htf (fun _ => true) (HandSHeadRun.getT s)
theorem hob_eq (s : PySem.W.SharedT) : hob s = hk.obs s.abs := He.obsX_eq (HandSHeadRun.getT_eq s)
theorem hrun (w : World) : HandSHeadRun.RunEq hR (PySem.W.view hR.prog [51]) hk hob 8000 hloose w := by
  intro os
  kernel_rfl
end Bp

set_option Elab.async false
set_option linter.all false
set_option maxRecDepth 100000
set_option maxHeartbeats 4000000
namespace Bp
open PySem PySem.Spec L2 PyProof.Rows LamX
theorem meth_one {K : PySem.W.Frag} {C f g : Addr} {m : Str} (h : Meth K C m f) (h' : PySem.W.findIn K (.ref C) m = some (some (.ref g))) : f = g := by
  have := h.at_.symm.trans h'
  cases this
  rfl
section
variable {K : PySem.W.Frag} {h : Heap} {mg : Str → Option Value}
theorem df_is_within (KX : K.In h) (G : h.Ns mainGlobals mg) (c : He.SaysD hfa hfn K) : Df K mg "is_within" s_is_within ["one", "other"] := by
  obtain ⟨fd, F⟩ := c.def_ 6 (d := d_is_within) rfl
  exact ⟨_, fd, F, He.glo_ok KX G (c.fact 6 (f := .glo "is_within") rfl), FunD.bindsN (ps := ["one", "other"]) F fun _ _ _ _ _ _ us hl => match us, hl with | [_, _], _ => rfl⟩
theorem df_bands_agree (KX : K.In h) (G : h.Ns mainGlobals mg) (c : He.SaysD hfa hfn K) : Df K mg "bands_agree" s_bands_agree ["bands"] := by
  obtain ⟨fd, F⟩ := c.def_ 20 (d := d_bands_agree) rfl
  exact ⟨_, fd, F, He.glo_ok KX G (c.fact 15 (f := .glo "bands_agree") rfl), FunD.bindsN (ps := ["bands"]) F fun _ _ _ _ _ _ us hl => match us, hl with | [_], _ => rfl⟩
theorem df_in_choices (KX : K.In h) (G : h.Ns mainGlobals mg) (c : He.SaysD hfa hfn K) : DfC K mg "in_choices" s_in_choices ["sets"] (He.cT K ("in_choices", none)).1 := by
  obtain ⟨fd, F⟩ := c.def_ 7 (d := d_in_choices) rfl
  obtain ⟨oc, od, dV, kV, doc, pm, an, cdv, ct, osl, e, lk, hcd, _, _⟩ := F.ex
  obtain ⟨c', ec⟩ := He.codeIn_ref hcd
  have e1 : fd.code = .ref c' := by rw [e, ec]
  have e2 : (He.cT K ("in_choices", none)).1 = c' := He.codeOf_eq (p := ("in_choices", none)) lk e1
  rw [e2]
  exact ⟨_, fd, F, e1, He.glo_ok KX G (c.fact 7 (f := .glo "in_choices") rfl), FunD.bindsN (ps := ["sets"]) F fun _ _ _ _ _ _ us hl => match us, hl with | [_], _ => rfl⟩
theorem df_checked_hands (KX : K.In h) (G : h.Ns mainGlobals mg) (c : He.SaysD hfa hfn K) : Df K mg "checked_hands" s_checked_hands ["hands"] := by
  obtain ⟨fd, F⟩ := c.def_ 2 (d := d_checked_hands) rfl
  exact ⟨_, fd, F, He.glo_ok KX G (c.fact 2 (f := .glo "checked_hands") rfl), FunD.bindsN (ps := ["hands"]) F fun _ _ _ _ _ _ us hl => match us, hl with | [_], _ => rfl⟩
theorem df_are_unlike (KX : K.In h) (G : h.Ns mainGlobals mg) (c : He.SaysD hfa hfn K) : Df K mg "are_unlike" s_are_unlike ["thing", "hands"] := by
  obtain ⟨fd, F⟩ := c.def_ 5 (d := d_are_unlike) rfl
  exact ⟨_, fd, F, He.glo_ok KX G (c.fact 5 (f := .glo "are_unlike") rfl), FunD.bindsN (ps := ["thing", "hands"]) F fun _ _ _ _ _ _ us hl => match us, hl with | [_, _], _ => rfl⟩
theorem df_checked_roads (KX : K.In h) (G : h.Ns mainGlobals mg) (c : He.SaysD hfa hfn K) : Df K mg "checked_roads" s_checked_roads ["roads", "hands"] := by
  obtain ⟨fd, F⟩ := c.def_ 4 (d := d_checked_roads) rfl
  exact ⟨_, fd, F, He.glo_ok KX G (c.fact 4 (f := .glo "checked_roads") rfl), FunD.bindsN (ps := ["roads", "hands"]) F fun _ _ _ _ _ _ us hl => match us, hl with | [_, _], _ => rfl⟩
theorem df_checked_greatest (KX : K.In h) (G : h.Ns mainGlobals mg) (c : He.SaysD hfa hfn K) : Df K mg "checked_greatest" s_checked_greatest ["greatest", "hands"] := by
  obtain ⟨fd, F⟩ := c.def_ 8 (d := d_checked_greatest) rfl
  exact ⟨_, fd, F, He.glo_ok KX G (c.fact 8 (f := .glo "checked_greatest") rfl), FunD.bindsN (ps := ["greatest", "hands"]) F fun _ _ _ _ _ _ us hl => match us, hl with | [_, _], _ => rfl⟩
theorem df_l_draw (KX : K.In h) (G : h.Ns mainGlobals mg) (c : He.SaysD hfa hfn K) : Df K mg "_law_draw" s_l_draw ["_law_stream", "_law_many"] := by
  obtain ⟨fd, F⟩ := c.def_ 36 (d := d_l_draw) rfl
  exact ⟨_, fd, F, He.glo_ok KX G (c.fact 31 (f := .glo "_law_draw") rfl), FunD.bindsN (ps := ["_law_stream", "_law_many"]) F fun _ _ _ _ _ _ us hl => match us, hl with | [_, _], _ => rfl⟩
theorem df_l_mixed (KX : K.In h) (G : h.Ns mainGlobals mg) (c : He.SaysD hfa hfn K) : Df K mg "_law_mixed" s_l_mixed ["_law_stream", "_law_some"] := by
  obtain ⟨fd, F⟩ := c.def_ 37 (d := d_l_mixed) rfl
  exact ⟨_, fd, F, He.glo_ok KX G (c.fact 32 (f := .glo "_law_mixed") rfl), FunD.bindsN (ps := ["_law_stream", "_law_some"]) F fun _ _ _ _ _ _ us hl => match us, hl with | [_, _], _ => rfl⟩
theorem df_l_hands (KX : K.In h) (G : h.Ns mainGlobals mg) (c : He.SaysD hfa hfn K) : Df K mg "_law_hands" s_l_hands ["_law_stream", "_law_many"] := by
  obtain ⟨fd, F⟩ := c.def_ 40 (d := d_l_hands) rfl
  exact ⟨_, fd, F, He.glo_ok KX G (c.fact 35 (f := .glo "_law_hands") rfl), FunD.bindsN (ps := ["_law_stream", "_law_many"]) F fun _ _ _ _ _ _ us hl => match us, hl with | [_, _], _ => rfl⟩
theorem df_l_loose (KX : K.In h) (G : h.Ns mainGlobals mg) (c : He.SaysD hfa hfn K) : Df K mg "_law_loose" s_l_loose ["_law_stream", "_law_thing"] := by
  obtain ⟨fd, F⟩ := c.def_ 41 (d := d_l_loose) rfl
  exact ⟨_, fd, F, He.glo_ok KX G (c.fact 36 (f := .glo "_law_loose") rfl), FunD.bindsN (ps := ["_law_stream", "_law_thing"]) F fun _ _ _ _ _ _ us hl => match us, hl with | [_, _], _ => rfl⟩
theorem df_l_ring (KX : K.In h) (G : h.Ns mainGlobals mg) (c : He.SaysD hfa hfn K) : Df K mg "_law_ring" s_l_ring ["_law_stream", "_law_hands_here"] := by
  obtain ⟨fd, F⟩ := c.def_ 22 (d := d_l_ring) rfl
  exact ⟨_, fd, F, He.glo_ok KX G (c.fact 17 (f := .glo "_law_ring") rfl), FunD.bindsN (ps := ["_law_stream", "_law_hands_here"]) F fun _ _ _ _ _ _ us hl => match us, hl with | [_, _], _ => rfl⟩
theorem df_l_net (KX : K.In h) (G : h.Ns mainGlobals mg) (c : He.SaysD hfa hfn K) : Df K mg "_law_net" s_l_net ["_law_stream", "_law_many", "_law_size", "_law_most"] := by
  obtain ⟨fd, F⟩ := c.def_ 23 (d := d_l_net) rfl
  exact ⟨_, fd, F, He.glo_ok KX G (c.fact 18 (f := .glo "_law_net") rfl), FunD.bindsN (ps := ["_law_stream", "_law_many", "_law_size", "_law_most"]) F fun _ _ _ _ _ _ us hl => match us, hl with | [_, _, _, _], _ => rfl⟩
theorem df_l_bands_made (KX : K.In h) (G : h.Ns mainGlobals mg) (c : He.SaysD hfa hfn K) : Df K mg "_law_bands_made" s_l_bands_made ["_law_stream", "_law_net_here"] := by
  obtain ⟨fd, F⟩ := c.def_ 24 (d := d_l_bands_made) rfl
  exact ⟨_, fd, F, He.glo_ok KX G (c.fact 19 (f := .glo "_law_bands_made") rfl), FunD.bindsN (ps := ["_law_stream", "_law_net_here"]) F fun _ _ _ _ _ _ us hl => match us, hl with | [_, _], _ => rfl⟩
theorem df_l_each_once (KX : K.In h) (G : h.Ns mainGlobals mg) (c : He.SaysD hfa hfn K) : Df K mg "_law_each_once" s_l_each_once ["_law_things"] := by
  obtain ⟨fd, F⟩ := c.def_ 39 (d := d_l_each_once) rfl
  exact ⟨_, fd, F, He.glo_ok KX G (c.fact 34 (f := .glo "_law_each_once") rfl), FunD.bindsN (ps := ["_law_things"]) F fun _ _ _ _ _ _ us hl => match us, hl with | [_], _ => rfl⟩
theorem df_l_pairs (KX : K.In h) (G : h.Ns mainGlobals mg) (c : He.SaysD hfa hfn K) : Df K mg "_law_pairs" s_l_pairs ["_law_hands_here"] := by
  obtain ⟨fd, F⟩ := c.def_ 21 (d := d_l_pairs) rfl
  exact ⟨_, fd, F, He.glo_ok KX G (c.fact 16 (f := .glo "_law_pairs") rfl), FunD.bindsN (ps := ["_law_hands_here"]) F fun _ _ _ _ _ _ us hl => match us, hl with | [_], _ => rfl⟩
theorem df_l_same (KX : K.In h) (G : h.Ns mainGlobals mg) (c : He.SaysD hfa hfn K) : Df K mg "_law_same" s_l_same ["_law_found", "_law_due"] := by
  obtain ⟨fd, F⟩ := c.def_ 38 (d := d_l_same) rfl
  exact ⟨_, fd, F, He.glo_ok KX G (c.fact 33 (f := .glo "_law_same") rfl), FunD.bindsN (ps := ["_law_found", "_law_due"]) F fun _ _ _ _ _ _ us hl => match us, hl with | [_, _], _ => rfl⟩
theorem df_sure_pairs (KX : K.In h) (G : h.Ns mainGlobals mg) (c : He.SaysD hfa hfn K) : Df K mg "sure_pairs" s_sure_pairs ["bands"] := by
  obtain ⟨fd, F⟩ := c.def_ 19 (d := d_sure_pairs) rfl
  exact ⟨_, fd, F, He.glo_ok KX G (c.fact 14 (f := .glo "sure_pairs") rfl), FunD.bindsN (ps := ["bands"]) F fun _ _ _ _ _ _ us hl => match us, hl with | [_], _ => rfl⟩
theorem df_l_start (KX : K.In h) (G : h.Ns mainGlobals mg) (c : He.SaysD hfa hfn K) : Df K mg "_law_start" s_l_start ["_law_script"] := by
  obtain ⟨fd, F⟩ := c.def_ 35 (d := d_l_start) rfl
  exact ⟨_, fd, F, He.glo_ok KX G (c.fact 30 (f := .glo "_law_start") rfl), FunD.bindsN (ps := ["_law_script"]) F fun _ _ _ _ _ _ us hl => match us, hl with | [_], _ => rfl⟩
theorem df_law (KX : K.In h) (G : h.Ns mainGlobals mg) (c : He.SaysD hfa hfn K) : Df K mg "law" s_law ["_law_script"] := by
  obtain ⟨fd, F⟩ := c.def_ 44 (d := d_law) rfl
  exact ⟨_, fd, F, He.glo_ok KX G (c.fact 39 (f := .glo "law") rfl), FunD.bindsN (ps := ["_law_script"]) F fun _ _ _ _ _ _ us hl => match us, hl with | [_], _ => rfl⟩
theorem df_l_near (KX : K.In h) (G : h.Ns mainGlobals mg) (c : He.SaysD hfa hfn K) : Df K mg "_law_near" s_l_near ["_law_roads", "_law_hand"] := by
  obtain ⟨fd, F⟩ := c.def_ 25 (d := d_l_near) rfl
  exact ⟨_, fd, F, He.glo_ok KX G (c.fact 20 (f := .glo "_law_near") rfl), FunD.bindsN (ps := ["_law_roads", "_law_hand"]) F fun _ _ _ _ _ _ us hl => match us, hl with | [_, _], _ => rfl⟩
theorem df_l_ways (KX : K.In h) (G : h.Ns mainGlobals mg) (c : He.SaysD hfa hfn K) : Df K mg "_law_ways" s_l_ways ["_law_roads", "_law_one", "_law_other"] := by
  obtain ⟨fd, F⟩ := c.def_ 26 (d := d_l_ways) rfl
  exact ⟨_, fd, F, He.glo_ok KX G (c.fact 21 (f := .glo "_law_ways") rfl), FunD.bindsN (ps := ["_law_roads", "_law_one", "_law_other"]) F fun _ _ _ _ _ _ us hl => match us, hl with | [_, _, _], _ => rfl⟩
theorem df_l_sets (KX : K.In h) (G : h.Ns mainGlobals mg) (c : He.SaysD hfa hfn K) : Df K mg "_law_sets" s_l_sets ["_law_things"] := by
  obtain ⟨fd, F⟩ := c.def_ 27 (d := d_l_sets) rfl
  exact ⟨_, fd, F, He.glo_ok KX G (c.fact 22 (f := .glo "_law_sets") rfl), FunD.bindsN (ps := ["_law_things"]) F fun _ _ _ _ _ _ us hl => match us, hl with | [_], _ => rfl⟩
theorem df_l_is_in (KX : K.In h) (G : h.Ns mainGlobals mg) (c : He.SaysD hfa hfn K) : Df K mg "_law_is_in" s_l_is_in ["_law_some", "_law_sets_here"] := by
  obtain ⟨fd, F⟩ := c.def_ 28 (d := d_l_is_in) rfl
  exact ⟨_, fd, F, He.glo_ok KX G (c.fact 23 (f := .glo "_law_is_in") rfl), FunD.bindsN (ps := ["_law_some", "_law_sets_here"]) F fun _ _ _ _ _ _ us hl => match us, hl with | [_, _], _ => rfl⟩
theorem df_l_all_bands (KX : K.In h) (G : h.Ns mainGlobals mg) (c : He.SaysD hfa hfn K) : Df K mg "_law_all_bands" s_l_all_bands ["_law_net_here"] := by
  obtain ⟨fd, F⟩ := c.def_ 29 (d := d_l_all_bands) rfl
  exact ⟨_, fd, F, He.glo_ok KX G (c.fact 24 (f := .glo "_law_all_bands") rfl), FunD.bindsN (ps := ["_law_net_here"]) F fun _ _ _ _ _ _ us hl => match us, hl with | [_], _ => rfl⟩
theorem df_l_greatest (KX : K.In h) (G : h.Ns mainGlobals mg) (c : He.SaysD hfa hfn K) : Df K mg "_law_greatest" s_l_greatest ["_law_net_here"] := by
  obtain ⟨fd, F⟩ := c.def_ 30 (d := d_l_greatest) rfl
  exact ⟨_, fd, F, He.glo_ok KX G (c.fact 25 (f := .glo "_law_greatest") rfl), FunD.bindsN (ps := ["_law_net_here"]) F fun _ _ _ _ _ _ us hl => match us, hl with | [_], _ => rfl⟩
theorem df_l_is_free (KX : K.In h) (G : h.Ns mainGlobals mg) (c : He.SaysD hfa hfn K) : Df K mg "_law_is_free" s_l_is_free ["_law_way", "_law_some"] := by
  obtain ⟨fd, F⟩ := c.def_ 31 (d := d_l_is_free) rfl
  exact ⟨_, fd, F, He.glo_ok KX G (c.fact 26 (f := .glo "_law_is_free") rfl), FunD.bindsN (ps := ["_law_way", "_law_some"]) F fun _ _ _ _ _ _ us hl => match us, hl with | [_, _], _ => rfl⟩
theorem df_l_unions (KX : K.In h) (G : h.Ns mainGlobals mg) (c : He.SaysD hfa hfn K) : Df K mg "_law_unions" s_l_unions ["_law_bands"] := by
  obtain ⟨fd, F⟩ := c.def_ 32 (d := d_l_unions) rfl
  exact ⟨_, fd, F, He.glo_ok KX G (c.fact 27 (f := .glo "_law_unions") rfl), FunD.bindsN (ps := ["_law_bands"]) F fun _ _ _ _ _ _ us hl => match us, hl with | [_], _ => rfl⟩
theorem df_l_is_parted (KX : K.In h) (G : h.Ns mainGlobals mg) (c : He.SaysD hfa hfn K) : Df K mg "_law_is_parted" s_l_is_parted ["_law_net_here", "_law_one", "_law_other"] := by
  obtain ⟨fd, F⟩ := c.def_ 33 (d := d_l_is_parted) rfl
  exact ⟨_, fd, F, He.glo_ok KX G (c.fact 28 (f := .glo "_law_is_parted") rfl), FunD.bindsN (ps := ["_law_net_here", "_law_one", "_law_other"]) F fun _ _ _ _ _ _ us hl => match us, hl with | [_, _, _], _ => rfl⟩
theorem df_l_is_held_by_three (KX : K.In h) (G : h.Ns mainGlobals mg) (c : He.SaysD hfa hfn K) : Df K mg "_law_is_held_by_three" s_l_is_held_by_three ["_law_net_here"] := by
  obtain ⟨fd, F⟩ := c.def_ 34 (d := d_l_is_held_by_three) rfl
  exact ⟨_, fd, F, He.glo_ok KX G (c.fact 29 (f := .glo "_law_is_held_by_three") rfl), FunD.bindsN (ps := ["_law_net_here"]) F fun _ _ _ _ _ _ us hl => match us, hl with | [_], _ => rfl⟩
theorem df_l_three_due (KX : K.In h) (G : h.Ns mainGlobals mg) (c : He.SaysD hfa hfn K) : Df K mg "_law_three_due" s_l_three_due ["_law_net_here"] := by
  obtain ⟨fd, F⟩ := c.def_ 42 (d := d_l_three_due) rfl
  exact ⟨_, fd, F, He.glo_ok KX G (c.fact 37 (f := .glo "_law_three_due") rfl), FunD.bindsN (ps := ["_law_net_here"]) F fun _ _ _ _ _ _ us hl => match us, hl with | [_], _ => rfl⟩
theorem df_l_parted_due (KX : K.In h) (G : h.Ns mainGlobals mg) (c : He.SaysD hfa hfn K) : Df K mg "_law_parted_due" s_l_parted_due ["_law_net_here"] := by
  obtain ⟨fd, F⟩ := c.def_ 43 (d := d_l_parted_due) rfl
  exact ⟨_, fd, F, He.glo_ok KX G (c.fact 38 (f := .glo "_law_parted_due") rfl), FunD.bindsN (ps := ["_law_net_here"]) F fun _ _ _ _ _ _ us hl => match us, hl with | [_], _ => rfl⟩
theorem df_is_list (KX : K.In h) (G : h.Ns mainGlobals mg) (c : He.SaysD hfa hfn K) : Df K mg "is_list" s_is_list ["thing"] := by
  obtain ⟨fd, F⟩ := c.def_ 0 (d := d_is_list) rfl
  exact ⟨_, fd, F, He.glo_ok KX G (c.fact 0 (f := .glo "is_list") rfl), FunD.bindsN (ps := ["thing"]) F fun _ _ _ _ _ _ us hl => match us, hl with | [_], _ => rfl⟩
theorem df_is_name (KX : K.In h) (G : h.Ns mainGlobals mg) (c : He.SaysD hfa hfn K) : Df K mg "is_name" s_is_name ["thing"] := by
  obtain ⟨fd, F⟩ := c.def_ 1 (d := d_is_name) rfl
  exact ⟨_, fd, F, He.glo_ok KX G (c.fact 1 (f := .glo "is_name") rfl), FunD.bindsN (ps := ["thing"]) F fun _ _ _ _ _ _ us hl => match us, hl with | [_], _ => rfl⟩
theorem df_is_hand_of (KX : K.In h) (G : h.Ns mainGlobals mg) (c : He.SaysD hfa hfn K) : Df K mg "is_hand_of" s_is_hand_of ["thing", "hands"] := by
  obtain ⟨fd, F⟩ := c.def_ 3 (d := d_is_hand_of) rfl
  exact ⟨_, fd, F, He.glo_ok KX G (c.fact 3 (f := .glo "is_hand_of") rfl), FunD.bindsN (ps := ["thing", "hands"]) F fun _ _ _ _ _ _ us hl => match us, hl with | [_, _], _ => rfl⟩
theorem df_hand_pairs (KX : K.In h) (G : h.Ns mainGlobals mg) (c : He.SaysD hfa hfn K) : Df K mg "hand_pairs" s_hand_pairs ["hands"] := by
  obtain ⟨fd, F⟩ := c.def_ 17 (d := d_hand_pairs) rfl
  exact ⟨_, fd, F, He.glo_ok KX G (c.fact 12 (f := .glo "hand_pairs") rfl), FunD.bindsN (ps := ["hands"]) F fun _ _ _ _ _ _ us hl => match us, hl with | [_], _ => rfl⟩
theorem df_three_bands (KX : K.In h) (G : h.Ns mainGlobals mg) (c : He.SaysD hfa hfn K) : Df K mg "three_bands" s_three_bands ["bands"] := by
  obtain ⟨fd, F⟩ := c.def_ 14 (d := d_three_bands) rfl
  exact ⟨_, fd, F, He.glo_ok KX G (c.fact 9 (f := .glo "three_bands") rfl), FunD.bindsN (ps := ["bands"]) F fun _ _ _ _ _ _ us hl => match us, hl with | [_], _ => rfl⟩
theorem df_reached (KX : K.In h) (G : h.Ns mainGlobals mg) (c : He.SaysD hfa hfn K) : Df K mg "reached" s_reached ["bands", "start", "gone"] := by
  obtain ⟨fd, F⟩ := c.def_ 15 (d := d_reached) rfl
  exact ⟨_, fd, F, He.glo_ok KX G (c.fact 10 (f := .glo "reached") rfl), FunD.bindsN (ps := ["bands", "start", "gone"]) F fun _ _ _ _ _ _ us hl => match us, hl with | [_, _, _], _ => rfl⟩
theorem df_parting_bands (KX : K.In h) (G : h.Ns mainGlobals mg) (c : He.SaysD hfa hfn K) : Df K mg "parting_bands" s_parting_bands ["bands", "one", "other"] := by
  obtain ⟨fd, F⟩ := c.def_ 16 (d := d_parting_bands) rfl
  exact ⟨_, fd, F, He.glo_ok KX G (c.fact 11 (f := .glo "parting_bands") rfl), FunD.bindsN (ps := ["bands", "one", "other"]) F fun _ _ _ _ _ _ us hl => match us, hl with | [_, _, _], _ => rfl⟩
theorem df_parted (KX : K.In h) (G : h.Ns mainGlobals mg) (c : He.SaysD hfa hfn K) : Df K mg "parted" s_parted ["bands"] := by
  obtain ⟨fd, F⟩ := c.def_ 18 (d := d_parted) rfl
  exact ⟨_, fd, F, He.glo_ok KX G (c.fact 13 (f := .glo "parted") rfl), FunD.bindsN (ps := ["bands"]) F fun _ _ _ _ _ _ us hl => match us, hl with | [_], _ => rfl⟩
theorem dm_hands (c : He.SaysD hfa hfn K) : Dm K (He.ga K "Bands") "hands" s_B_hands ["self"] := by
  obtain ⟨fd, F⟩ := c.def_ 10 (d := d_B_hands) rfl
  exact ⟨_, fd, F, He.meth_ok (c.fact 63 (f := .meth "Bands" "hands") rfl), FunD.bindsN (ps := ["self"]) F fun _ _ _ _ _ _ us hl => match us, hl with | [_], _ => rfl⟩
theorem dm_greatest (c : He.SaysD hfa hfn K) : Dm K (He.ga K "Bands") "greatest" s_B_greatest ["self"] := by
  obtain ⟨fd, F⟩ := c.def_ 12 (d := d_B_greatest) rfl
  exact ⟨_, fd, F, He.meth_ok (c.fact 65 (f := .meth "Bands" "greatest") rfl), FunD.bindsN (ps := ["self"]) F fun _ _ _ _ _ _ us hl => match us, hl with | [_], _ => rfl⟩
theorem dm_near (c : He.SaysD hfa hfn K) : Dm K (He.ga K "Bands") "near" s_B_near ["self", "hand"] := by
  obtain ⟨fd, F⟩ := c.def_ 13 (d := d_B_near) rfl
  exact ⟨_, fd, F, He.meth_ok (c.fact 66 (f := .meth "Bands" "near") rfl), FunD.bindsN (ps := ["self", "hand"]) F fun _ _ _ _ _ _ us hl => match us, hl with | [_, _], _ => rfl⟩
theorem dm_init (c : He.SaysD hfa hfn K) : Dm K (He.ga K "Bands") "__init__" s_B_init ["self", "hands", "roads", "greatest"] := by
  obtain ⟨fd, F⟩ := c.def_ 9 (d := d_B_init) rfl
  exact ⟨_, fd, F, ⟨(He.mkr_ok (c.fact 58 (f := .mkr "Bands") rfl)).init, (He.mkr_ok (c.fact 58 (f := .mkr "Bands") rfl)).fn, F.kp⟩, FunD.bindsN (ps := ["self", "hands", "roads", "greatest"]) F fun _ _ _ _ _ _ us hl => match us, hl with | [_, _, _, _], _ => rfl⟩
theorem blt_of (KX : K.In h) (G : h.Ns mainGlobals mg) (c : He.SaysD hfa hfn K) : Blt mg := ⟨He.free_ok KX G (c.fact 41 (f := .free "len") rfl), He.free_ok KX G (c.fact 42 (f := .free "all") rfl), He.free_ok KX G (c.fact 43 (f := .free "any") rfl), He.free_ok KX G (c.fact 44 (f := .free "sorted") rfl), He.free_ok KX G (c.fact 45 (f := .free "tuple") rfl), He.free_ok KX G (c.fact 46 (f := .free "list") rfl), He.free_ok KX G (c.fact 47 (f := .free "range") rfl), He.free_ok KX G (c.fact 48 (f := .free "enumerate") rfl), He.free_ok KX G (c.fact 49 (f := .free "isinstance") rfl), He.free_ok KX G (c.fact 50 (f := .free "zip") rfl), He.free_ok KX G (c.fact 51 (f := .free "int") rfl), He.free_ok KX G (c.fact 52 (f := .free "str") rfl), He.free_ok KX G (c.fact 53 (f := .free "dict") rfl), He.free_ok KX G (c.fact 54 (f := .free "bool") rfl), He.str_ok KX G (c.fact 55 (f := .str "SMALL" "abcdefghijklmnopqrstuvwxyz") rfl), He.str_ok KX G (c.fact 56 (f := .str "FIGURES" "0123456789") rfl)⟩
theorem bnd_of (KX : K.In h) (G : h.Ns mainGlobals mg) (c : He.SaysD hfa hfn K) : Bnd K mg (He.ga K "Bands") := ⟨He.cls_ok (c.fact 57 (f := .cls "Bands") rfl), He.noat_ok (c.fact 59 (f := .noat "Bands" "own_hands") rfl), He.noat_ok (c.fact 60 (f := .noat "Bands" "own_roads") rfl), He.noat_ok (c.fact 61 (f := .noat "Bands" "own_greatest") rfl), He.noat_ok (c.fact 62 (f := .noat "Bands" "own_agree") rfl), He.glo_ok KX G (c.fact 40 (f := .glo "Bands") rfl)⟩
end
/-- every def keeps its promise -/
theorem all_ok {P : Program} {w : World} {K : PySem.W.Frag} {h base : Heap} {mg : Str → Option Value} (KX : K.In h) (G : h.Ns mainGlobals mg) (c : He.SaysD hfa hfn K) (TB : TabB base mg (He.cT K ("in_choices", none)).1 (He.cT K ("in_choices", none)).2)
    {f_law : Addr} {fd_law : FuncData} (F : FunD K "law" "law" (defArgs s_law) (defBody s_law) (defScope s_law) [] [] f_law fd_law) :
    FnOk P w K mg base CX0 8 f_law fd_law ["_law_script"] (spLaw K (He.cT K ("in_choices", none)).2) := by
  have B := blt_of KX G c
  have Bd := bnd_of KX G c
  have c_is_list : Cal P w K mg base 1 _ _ _ := ok_is_list (df_is_list KX G c) B
  have c_is_name : Cal P w K mg base 1 _ _ _ := ok_is_name (df_is_name KX G c) B
  have c_is_hand_of := ok_is_hand_of (df_is_hand_of KX G c) B c_is_name
  have c_is_within : Cal P w K mg base 1 _ _ _ := ok_is_within (df_is_within KX G c) B
  have c_in_choices : Cal P w K mg base 1 _ _ _ := ok_in_choices (df_in_choices KX G c) B TB
  have c_checked_hands := ok_checked_hands (df_checked_hands KX G c) B c_is_list c_is_name
  have c_are_unlike := ok_are_unlike (df_are_unlike KX G c) B c_is_list c_is_hand_of
  have c_checked_roads := ok_checked_roads (df_checked_roads KX G c) B c_is_list c_is_hand_of
  have c_checked_greatest := ok_checked_greatest (df_checked_greatest KX G c) B c_is_list c_are_unlike c_in_choices c_is_within
  have c_init0 := ok_init (dm_init c) B Bd c_checked_hands c_checked_roads c_checked_greatest
  have M : Mk K (He.ga K "Bands") (He.ma K (He.ga K "Bands") "__init__") := He.mkr_ok (c.fact 58 (f := .mkr "Bands") rfl)
  have c_init : ∃ fd, FnOk P w K mg base CX0 5 (He.ma K (He.ga K "Bands") "__init__") fd ["self", "hands", "roads", "greatest"] (spInit (He.ga K "Bands") (He.cT K ("in_choices", none)).2) ∧ L2.Binds K fd ["self", "hands", "roads", "greatest"] [] := by
    obtain ⟨f, fd, F, m, b⟩ := c_init0
    have e := meth_one m M.init
    subst e
    exact ⟨fd, F, b⟩
  have c_hands : Cme P w K mg base _ 1 _ _ _ := ok_hands (dm_hands c) B Bd
  have c_greatest : Cme P w K mg base _ 1 _ _ _ := ok_greatestM (dm_greatest c) B Bd
  have c_near := ok_nearM (dm_near c) B Bd c_is_hand_of
  have c_hand_pairs : Cal P w K mg base 1 _ _ _ := ok_hand_pairs (df_hand_pairs KX G c) B
  have c_three_bands := ok_three_bands (df_three_bands KX G c) B Bd c_hands c_greatest c_is_within
  have c_reached := ok_reached (df_reached KX G c) B Bd c_hands c_near
  have c_parting := ok_parting_bands (df_parting_bands KX G c) B Bd c_greatest c_reached
  have c_parted := ok_parted (df_parted KX G c) B Bd c_hands c_hand_pairs c_parting
  have c_sure := ok_sure_new (df_sure_pairs KX G c) B Bd c_hands c_hand_pairs c_parting
  have c_agree := ok_bands_agree (df_bands_agree KX G c) B Bd c_three_bands c_parted
  have c_l_pairs : Cal P w K mg base 1 _ _ _ := ok_pairs (df_l_pairs KX G c) B
  have c_l_once : Cal P w K mg base 1 _ _ _ := ok_each_once (df_l_each_once KX G c) B
  have c_l_near : Cal P w K mg base 1 _ _ _ := ok_near (df_l_near KX G c) B
  have c_l_ways := ok_ways (df_l_ways KX G c) B c_l_near
  have c_l_sets : Cal P w K mg base 1 _ _ _ := ok_sets (df_l_sets KX G c) B
  have c_l_is_in : Cal P w K mg base 1 _ _ _ := ok_is_in (df_l_is_in KX G c) B
  have c_l_all := ok_all_bands (df_l_all_bands KX G c) B c_l_sets c_l_is_in
  have c_l_greatest := ok_greatest (df_l_greatest KX G c) B c_l_all c_l_is_in
  have c_l_free : Cal P w K mg base 1 _ _ _ := ok_is_free (df_l_is_free KX G c) B
  have c_l_unions := ok_unions (df_l_unions KX G c) B c_l_once
  have c_l_parted := ok_is_parted (df_l_is_parted KX G c) B c_l_all c_l_ways c_l_free c_l_unions
  have c_l_held := ok_held (df_l_is_held_by_three KX G c) B c_l_all c_l_unions c_l_is_in
  have c_l_three := ok_three_due (df_l_three_due KX G c) B c_l_greatest
  have c_l_two := ok_parted_due (df_l_parted_due KX G c) B c_l_greatest c_l_pairs c_l_parted c_l_ways c_l_free
  have c_l_start : Cal P w K mg base 1 _ _ _ := ok_start (df_l_start KX G c) B
  have c_l_draw : Cal P w K mg base 1 _ _ _ := ok_draw (df_l_draw KX G c) B
  have c_l_mixed := ok_mixed (df_l_mixed KX G c) B c_l_draw
  have c_l_hands := ok_hands_law (df_l_hands KX G c) B c_l_mixed
  have c_l_ring := ok_ring (df_l_ring KX G c) B c_l_mixed c_l_once
  have c_l_net := ok_net (df_l_net KX G c) B c_l_draw c_l_mixed c_l_hands c_l_ring c_l_pairs
  have c_l_loose0 := ok_loose0 (df_l_loose KX G c) B c_l_draw
  have c_l_loose1 := ok_looseL (j := 2) (k := 2) (df_l_loose KX G c) B (by decide) (by decide) c_l_draw c_l_loose0
  have c_l_loose2 := ok_looseL (j := 3) (k := 3) (df_l_loose KX G c) B (by decide) (by decide) c_l_draw c_l_loose1
  have c_l_made := ok_bands_made (df_l_bands_made KX G c) B Bd c_l_mixed c_l_loose1 c_l_loose2 M c_init
  have c_l_same := ok_sames (P := P) (w := w) (base := base) (df_l_same KX G c) B 3
  exact ok_law F B Bd c_l_start c_l_draw c_l_net c_l_made c_l_three c_l_two c_l_same c_three_bands c_parted c_l_pairs c_l_parted c_sure c_l_held c_agree M c_init
theorem law_at {w : World} {K : PySem.W.Frag} {h : Heap} {mg : Str → Option Value} {fa : Addr} (KX : K.In h) (G : h.Ns mainGlobals mg) (c : He.SaysX hfa hfn [] htf (fun _ => true) w h K) (hm : mg ("law" : Str) = some (.ref fa)) :
    LawAtS PySem.Challenge.rw_breakplans_k42_whole_three_and_two w K CX0 8 63 "_law_script" mg fa h := by
  have cd : He.SaysD hfa hfn K := c.t.d
  obtain ⟨fd, F⟩ := cd.def_ 44 (d := d_law) rfl
  have eg := hm.symm.trans (He.glo_ok KX G (cd.fact 39 (f := .glo "law") rfl))
  cases eg
  have m0 : (("in_choices", none) : He.Defn) ∈ htf := List.mem_cons_self
  have one : ∀ p ∈ htf.map (He.cT K), p = He.cT K ("in_choices", none) := fun p hp => by
    rcases List.mem_cons.mp hp with e | e
    · exact e
    · cases e
  refine ⟨fd, htf.map (He.cT K), spLaw K (He.cT K ("in_choices", none)).2, fun p hp => ?_, fun p hp => ?_, fun p hp => ?_, fun s u => ?_, fun H a ns _ _ hT hS => ?_, fun base KB GB TB => ?_⟩
  · rw [one p hp]; exact c.empty _ m0
  · rw [one p hp]; exact c.out _ m0
  · rw [one p hp]; exact PySem.W.codeHd_of_K KX (c.hd _ m0)
  · exact FunD.bindsA (ps := ["_law_script"]) F (fun _ _ _ _ _ _ us hl => match us, hl with | [_], _ => rfl) s [u] rfl
  · exact ⟨a, ns, rfl, hS, hT _ (List.mem_map.mpr ⟨_, m0, rfl⟩), fun _ => rfl⟩
  · exact all_ok (P := PySem.Challenge.rw_breakplans_k42_whole_three_and_two.prog) (w := w) (base := base) KX G cd (TB _ (List.mem_map.mpr ⟨_, m0, rfl⟩)) F
end Bp

set_option Elab.async false
set_option linter.all false
set_option maxRecDepth 100000
set_option maxHeartbeats 0
open PySem PySem.W PySem.Calls PyProof.Rows
theorem PySem.Challenge.cw_breakplans_k42_whole_three_and_two_holds : PySem.Challenge.rw_breakplans_k42_whole_three_and_two.Holds := by
  w_on; o_law
  refine HandSHeadRun.head_any (r := Bp.hR) (q := view Bp.hR.prog [51]) (H := Bp.hk) (ob := Bp.hob) (M := 8000) (loose := Bp.hloose) (d := HandSHeadRun.topDef Bp.hR.prog 51) (kwd := []) Bp.hob_eq
    (by kernel_rfl) (fun s => by kernel_rfl) Bp.hrun (by kernel_rfl) (by kernel_rfl) (by kernel_rfl) (by rfl) (by first | assumption | decide +kernel) (by decide +kernel) ⟨rfl, rfl, rfl, rfl, rfl, by decide +kernel⟩ ?hw ?hc
  case hw => w_witness2
  case hc =>
    refine LamX.walk_ofTsE (l := PySem.Challenge.rw_breakplans_k42_whole_three_and_two) (n := 63) (k := 8) (x := "_law_script") (CX := fun _ => L2.CX0) rfl (by decide) (by kernel_rfl) ⟨rfl, by decide, by decide⟩ ?F (fun _ _ _ _ _ z => z)
    intro w mg fa h Y G hmg0
    obtain ⟨K, KX, c⟩ := Y
    have hmg : mg ("law" : PySem.Str) = some (.ref fa) := by
      have e : (HandSHeadRun.topDef Bp.hR.prog 51).name = ("law" : PySem.Str) := by kernel_rfl
      rw [← e]
      exact hmg0
    exact ⟨K, KX, Bp.law_at KX G c hmg⟩
