/- A part of the proof of: GatesOrder: of two gates of a network the lesser one is of an earlier layer, place or term: for every input the law returns true, and its arguments read as they did. -/
import Derived.Test.YtjegihodmidhoaaKGatesOrdera
import Derived.Test.YtjegihodmidhoaaKGatesOrderb
import Derived.RangeFuncNested
import Derived.RangeFuncBound
import Derived.RangeFuncCalls
import Derived.RangeFuncLeaves
import Derived.Shelf.Abstract
import Derived.Shelf.RegionOpen
import Derived.OwnWalkIn
import Derived.TacticsInMore
import Derived.LoopNIn
import Derived.LoopIn
import Derived.RangeFuncBox
namespace Go.Proofs.Ytjegihodmidhoaa.G
open Go.RowKit Go.Proofs.YtjegihodmidhoaaW.PrintWords Go.Proofs.YtjegihodmidhoaaW.PrintLast Go.Proofs.YtjegihodmidhoaaW.PrintMore
attribute [local go_sem] max2_int min2_int max_two min_two max_three min_three max_four min_four   -- for this text's walks alone
set_option linter.unusedVariables false
set_option linter.unusedSimpArgs false

/-! ### terms_Terms: function 74 -/
def terms_Terms.j0 : Nat → Int → Bool → Int → Int → Int → Int → Int → Int → Int → Int → Int → Int → Int → Option ((List (S91)))
  | 0, _, _, _, _, _, _, _, _, _, _, _, _, _ => none
  | k + 1, x2, x27, x397000, x397001, x397002, x397003, x397004, x397005, x397006, x397007, x397008, x397009, x397010 => if x27 = true then (some ([] : List (S91))) else (if x397000 = 1 then ((terms_look_conv.f x397000 x397001 x397002 x397003 x397004 x397005 x397006 x397007 x397008 x397009 x397010 x2).bind fun t398 => (some t398)) else (if x397000 = 4 then ((terms_look_dense.f k x397000 x397001 x397002 x397003 x397004 x397005 x397006 x397007 x397008 x397009 x397010 x2).bind fun t401 => (some t401)) else (if x397000 = 2 then (some (([(⟨x2, (-1)⟩ : S91)] : List (S91)))) else (some ([] : List (S91))))))
def terms_Terms.f (k : Nat) (a0_0 : Int) (a0_1 : Int) (a0_2 : Int) (l0_3 : List (S63)) (a1 : Int) (a2 : Int) : Option ((List (S91))) := (terms_of.f k a0_0 a0_1 a0_2 l0_3 a1).bind fun bt384 => (if bt384.2.2.2.2.2.2.2.2.2.2.2 = true then (if a2 < 0 then (terms_Terms.j0 k a2 true bt384.1 bt384.2.1 bt384.2.2.1 bt384.2.2.2.1 bt384.2.2.2.2.1 bt384.2.2.2.2.2.1 bt384.2.2.2.2.2.2.1 bt384.2.2.2.2.2.2.2.1 bt384.2.2.2.2.2.2.2.2.1 bt384.2.2.2.2.2.2.2.2.2.1 bt384.2.2.2.2.2.2.2.2.2.2.1) else ((shape_Size.f bt384.2.2.2.2.2.2.2.1 bt384.2.2.2.2.2.2.2.2.1 bt384.2.2.2.2.2.2.2.2.2.1).bind fun t397 => (terms_Terms.j0 k a2 (decide (a2 ≥ t397)) bt384.1 bt384.2.1 bt384.2.2.1 bt384.2.2.2.1 bt384.2.2.2.2.1 bt384.2.2.2.2.2.1 bt384.2.2.2.2.2.2.1 bt384.2.2.2.2.2.2.2.1 bt384.2.2.2.2.2.2.2.2.1 bt384.2.2.2.2.2.2.2.2.2.1 bt384.2.2.2.2.2.2.2.2.2.2.1))) else (terms_Terms.j0 k a2 true bt384.1 bt384.2.1 bt384.2.2.1 bt384.2.2.2.1 bt384.2.2.2.2.1 bt384.2.2.2.2.2.1 bt384.2.2.2.2.2.2.1 bt384.2.2.2.2.2.2.2.1 bt384.2.2.2.2.2.2.2.2.1 bt384.2.2.2.2.2.2.2.2.2.1 bt384.2.2.2.2.2.2.2.2.2.2.1))
theorem terms_Terms.mono_l : ∀ k, (∀ y0 y1 y2 y3 y4 y5 y6 y7 y8 y9 y10 y11 y12, LeO (terms_Terms.j0 k y0 y1 y2 y3 y4 y5 y6 y7 y8 y9 y10 y11 y12) (terms_Terms.j0 (k + 1) y0 y1 y2 y3 y4 y5 y6 y7 y8 y9 y10 y11 y12))
  | 0 => fun _ _ _ _ _ _ _ _ _ _ _ _ _ r h => by simp [terms_Terms.j0] at h
  | k + 1 => by
    have ih0 := terms_Terms.mono_l k
    · intro y0 y1 y2 y3 y4 y5 y6 y7 y8 y9 y10 y11 y12
      unfold terms_Terms.j0
      repeat' first
      | (with_reducible exact ih0 _ _ _ _ _ _ _ _ _ _ _ _ _)
      | (with_reducible exact terms_look_dense.mono _ _ _ _ _ _ _ _ _ _ _ _ _)
      | (with_reducible exact terms_of.mono _ _ _ _ _ _)
      | (with_reducible exact LeO.refl _)
      | (with_reducible exact LeO.none _)
      | (with_reducible refine LeO.ite ?_ ?_)
      | (with_reducible refine LeO.bind ?_ (fun _ => ?_))
      | exact ih0 _ _ _ _ _ _ _ _ _ _ _ _ _
      | exact terms_look_dense.mono _ _ _ _ _ _ _ _ _ _ _ _ _
      | exact terms_of.mono _ _ _ _ _ _
      | exact LeO.none _
      | refine LeO.ite ?_ ?_
      | refine LeO.bind ?_ (fun _ => ?_)
theorem terms_Terms.mono : ∀ a0 a1 a2 a3 a4 a5 k, LeO (terms_Terms.f k a0 a1 a2 a3 a4 a5) (terms_Terms.f (k + 1) a0 a1 a2 a3 a4 a5) := by
  intro a0 a1 a2 a3 a4 a5 k
  have ih0 := terms_Terms.mono_l k
  unfold terms_Terms.f
  repeat' first
      | (with_reducible exact ih0 _ _ _ _ _ _ _ _ _ _ _ _ _)
      | (with_reducible exact terms_look_dense.mono _ _ _ _ _ _ _ _ _ _ _ _ _)
      | (with_reducible exact terms_of.mono _ _ _ _ _ _)
      | (with_reducible exact LeO.refl _)
      | (with_reducible exact LeO.none _)
      | (with_reducible refine LeO.ite ?_ ?_)
      | (with_reducible refine LeO.bind ?_ (fun _ => ?_))
      | exact ih0 _ _ _ _ _ _ _ _ _ _ _ _ _
      | exact terms_look_dense.mono _ _ _ _ _ _ _ _ _ _ _ _ _
      | exact terms_of.mono _ _ _ _ _ _
      | exact LeO.none _
      | refine LeO.ite ?_ ?_
      | refine LeO.bind ?_ (fun _ => ?_)
set_option maxHeartbeats 8000000 in
set_option maxRecDepth 100000 in
theorem terms_Terms.calls (k : Nat) (a0_0 : Int) (a0_1 : Int) (a0_2 : Int) (A0_3 : Option Addr) (c0_3 : Nat) (l0_3 : List (S63)) (a1 : Int) (a2 : Int) (r : List (S91)) (w : World) (hr0_3 : Kd.C k63 w A0_3 l0_3.length l0_3) (hc0_3 : l0_3.length ≤ c0_3) (h : terms_Terms.f k a0_0 a0_1 a0_2 l0_3 a1 a2 = some r) :
    Calls Try.prog 74 #[.agg #[.int .i64 a0_0, .int .i64 a0_1, .int .i64 a0_2, .slice A0_3 l0_3.length c0_3], .int .i64 a1, .int .i64 a2] w fun e w' => ∃ v0_ : Value, e = .returned (v0_) ∧ Kd.R k91 91 w' w.heap.size (fun _ => True) v0_ r ∧ Below w.heap.size w w' := by
  have hu26 := Try.underlying26
  have hu134 := Try.underlying134
  have hu23 := Try.underlying23
  have hu91 := Try.underlying91
  have HR0_3 := Aside0.mk hr0_3
  have HC0_3 := Aside0.mk hc0_3
  clear hr0_3 hc0_3
  have HB := Aside0.mk (Below.refl w.heap.size w)
  have H : ((terms_of.f k a0_0 a0_1 a0_2 l0_3 a1).bind fun bt384 => (if bt384.2.2.2.2.2.2.2.2.2.2.2 = true then (if a2 < 0 then (terms_Terms.j0 k a2 true bt384.1 bt384.2.1 bt384.2.2.1 bt384.2.2.2.1 bt384.2.2.2.2.1 bt384.2.2.2.2.2.1 bt384.2.2.2.2.2.2.1 bt384.2.2.2.2.2.2.2.1 bt384.2.2.2.2.2.2.2.2.1 bt384.2.2.2.2.2.2.2.2.2.1 bt384.2.2.2.2.2.2.2.2.2.2.1) else ((shape_Size.f bt384.2.2.2.2.2.2.2.1 bt384.2.2.2.2.2.2.2.2.1 bt384.2.2.2.2.2.2.2.2.2.1).bind fun t397 => (terms_Terms.j0 k a2 (decide (a2 ≥ t397)) bt384.1 bt384.2.1 bt384.2.2.1 bt384.2.2.2.1 bt384.2.2.2.2.1 bt384.2.2.2.2.2.1 bt384.2.2.2.2.2.2.1 bt384.2.2.2.2.2.2.2.1 bt384.2.2.2.2.2.2.2.2.1 bt384.2.2.2.2.2.2.2.2.2.1 bt384.2.2.2.2.2.2.2.2.2.2.1))) else (terms_Terms.j0 k a2 true bt384.1 bt384.2.1 bt384.2.2.1 bt384.2.2.2.1 bt384.2.2.2.2.1 bt384.2.2.2.2.2.1 bt384.2.2.2.2.2.2.1 bt384.2.2.2.2.2.2.2.1 bt384.2.2.2.2.2.2.2.2.1 bt384.2.2.2.2.2.2.2.2.2.1 bt384.2.2.2.2.2.2.2.2.2.2.1))) = some r := h
  clear h
  replace H := Option.bind_eq_some_iff.mp H
  obtain ⟨⟨t384, t385, t386, t387, t388, t389, t390, t391, t392, t393, t394, t395⟩, A40, H⟩ := H
  replace H : (if t395 = true then (if a2 < 0 then (terms_Terms.j0 k a2 true t384 t385 t386 t387 t388 t389 t390 t391 t392 t393 t394) else ((shape_Size.f t391 t392 t393).bind fun t397 => (terms_Terms.j0 k a2 (decide (a2 ≥ t397)) t384 t385 t386 t387 t388 t389 t390 t391 t392 t393 t394))) else (terms_Terms.j0 k a2 true t384 t385 t386 t387 t388 t389 t390 t391 t392 t393 t394)) = some r := H
  have A4 := Aside0.mk A40
  clear A40
  have HC5 := Aside0.mk H
  clear H
  go_enter Try.func74, Try.ntmps74
  go_upto_region 2 with (first | ((with_reducible refine gate_dst (N := 3) rfl ?_); refine box_event ?hg (N := 3) ?hd (cs := #[.int .i64 a0_0, .int .i64 a0_1, .int .i64 a0_2, .slice A0_3 l0_3.length c0_3]) (t := 26) ?hr ?_; (case hd => rfl); (case hg => rfl); (case hr => first | (go_simp; done) | (go_simp; rfl)); intro gb383 hg w6 hbox hb; have n0_ := Aside0.mk (below_step (by repeat (first | (with_reducible first | exact HB.out | apply below_alloc | apply pw_below_drewN | apply below_drew1) | exact HB.out)) hb); have n1_ := Aside0.mk (hbox); have n2_ := Aside0.mk ((by rw [hg]; exact (below_size (by repeat (first | (with_reducible first | exact HB.out | apply below_alloc | apply pw_below_drewN | apply below_drew1) | exact HB.out))) : w.heap.size ≤ gb383)); have n3_ := Aside0.mk ((by rw [hg]; exact (below_size (by repeat (first | (with_reducible first | exact HB.out | apply below_alloc | apply pw_below_drewN | apply below_drew1) | exact HB.out))) : w.heap.size ≤ gb383)); clear HB; have HB := n0_; have BK383 := n1_; have GW383 := n2_; have GE383 := n3_; clear n0_ n1_ n2_ n3_; clear hb hbox hg; have hcz7_0 : w6.cell? ⟨gb383, 0, none⟩ = some (.int .i64 a0_0) := (blk_cell BK383.out 0).trans rfl; have hcz7_1 : w6.cell? ⟨gb383, 1, none⟩ = some (.int .i64 a0_1) := (blk_cell BK383.out 1).trans rfl; have hcz7_2 : w6.cell? ⟨gb383, 2, none⟩ = some (.int .i64 a0_2) := (blk_cell BK383.out 2).trans rfl; have hcz7_3 : w6.cell? ⟨gb383, 3, none⟩ = some (.slice A0_3 l0_3.length c0_3) := (blk_cell BK383.out 3).trans rfl; have hfz7_0 := blk_frozen BK383.out 0; have hfz7_1 := blk_frozen BK383.out 1; have hfz7_2 := blk_frozen BK383.out 2; have hfz7_3 := blk_frozen BK383.out 3) | ((with_reducible refine gate_callee (f := 83) rfl ?_); refine goesL_ (some 12) rfl rfl Try.func83 (by kernel_rfl) rfl #[.agg #[.int .i64 a0_0, .int .i64 a0_1, .int .i64 a0_2, .slice A0_3 l0_3.length c0_3], .int .i64 a1] rfl (by (try simp only [List.map_toArray, List.map_cons, List.map_nil]); first | done | rfl | (simp only [List.length_drop, List.length_take]; rfl)) ?_; (with_reducible refine (terms_of.calls k a0_0 a0_1 a0_2 _ _ l0_3 a1 t384 t385 t386 t387 t388 t389 t390 t391 t392 t393 t394 t395 _ ?side1 ?side2 A4.out).mono ?_); (case side1 => repeat (first | exact (Kd.C_below HR0_3.out HB.out) | (with_reducible refine Kd.C_alloc ?_ _) | (with_reducible refine Kd.C_drewN ?_ _) | (with_reducible refine Kd.C_drew ?_))); (case side2 => exact HC0_3.out); rintro e w8 ⟨rfl, hb⟩; refine ⟨_, rfl, ?_⟩; have n0_ := Aside0.mk (blk_below (g := gb383) (o := .cells #[.int .i64 a0_0, .int .i64 a0_1, .int .i64 a0_2, .slice A0_3 l0_3.length c0_3] 26 (0, 0)) (by (with_reducible repeat (first | refine blk_drewN ?_ _ | refine blk_drew ?_ | refine blk_alloc ?_ _)); exact BK383.out) hb); have n1_ := Aside0.mk (below_step (by repeat (first | (with_reducible first | exact HB.out | apply below_alloc | apply pw_below_drewN | apply below_drew1 | refine below_set ?_ GE383.out) | exact HB.out)) hb); clear BK383; clear HB; have BK383 := n0_; have HB := n1_; clear n0_ n1_; (try clear hb); (try clear hb2); (try clear hk); (try clear hi)) | ((with_reducible refine gate_dst (N := 7) rfl ?_); refine box_event ?hg (N := 7) ?hd (cs := #[.int .i64 0, .int .i64 0, .int .i64 0, .int .i64 0, .int .i64 0, .int .i64 0, .int .i64 0, .int .i64 0, .int .i64 0, .int .i64 0, .int .i64 0]) (t := 134) ?hr ?_; (case hd => rfl); (case hg => rfl); (case hr => first | (go_simp; done) | (go_simp; rfl)); intro gb396 hg w9 hbox hb; have n0_ := Aside0.mk (blk_below (g := gb383) (o := .cells #[.int .i64 a0_0, .int .i64 a0_1, .int .i64 a0_2, .slice A0_3 l0_3.length c0_3] 26 (0, 0)) (by (with_reducible repeat (first | refine blk_drewN ?_ _ | refine blk_drew ?_ | refine blk_alloc ?_ _)); exact BK383.out) hb); have n1_ := Aside0.mk (below_step (by repeat (first | (with_reducible first | exact HB.out | apply below_alloc | apply pw_below_drewN | apply below_drew1 | refine below_set ?_ GE383.out) | exact HB.out)) hb); have n2_ := Aside0.mk (hbox); have n3_ := Aside0.mk ((by rw [hg]; exact (below_size (by repeat (first | (with_reducible first | exact HB.out | apply below_alloc | apply pw_below_drewN | apply below_drew1 | refine below_set ?_ GE383.out) | exact HB.out))) : w.heap.size ≤ gb396)); have n4_ := Aside0.mk ((by rw [hg]; exact (below_size (by repeat (first | (with_reducible first | exact HB.out | apply below_alloc | apply pw_below_drewN | apply below_drew1 | refine below_set ?_ GE383.out) | exact HB.out))) : w.heap.size ≤ gb396)); have n5_ := Aside0.mk ((by rw [hg]; exact Nat.ne_of_lt (blk_lt (g := gb383) (o := .cells #[.int .i64 a0_0, .int .i64 a0_1, .int .i64 a0_2, .slice A0_3 l0_3.length c0_3] 26 (0, 0)) (by (with_reducible repeat (first | refine blk_drewN ?_ _ | refine blk_drew ?_ | refine blk_alloc ?_ _)); exact BK383.out)) : gb383 ≠ gb396)); have n6_ := Aside0.mk ((by rw [hg]; exact Nat.ne_of_gt (blk_lt (g := gb383) (o := .cells #[.int .i64 a0_0, .int .i64 a0_1, .int .i64 a0_2, .slice A0_3 l0_3.length c0_3] 26 (0, 0)) (by (with_reducible repeat (first | refine blk_drewN ?_ _ | refine blk_drew ?_ | refine blk_alloc ?_ _)); exact BK383.out)) : gb396 ≠ gb383)); clear BK383; clear HB; have BK383 := n0_; have HB := n1_; have BK396 := n2_; have GW396 := n3_; have GE396 := n4_; have NB383_396 := n5_; have NB396_383 := n6_; clear n0_ n1_ n2_ n3_ n4_ n5_ n6_; clear hb hbox hg; have hnb10 := NB396_383.out; have hnc10 := NB383_396.out; have hcz11_0 : w9.cell? ⟨gb396, 0, none⟩ = some (.int .i64 0) := (blk_cell BK396.out 0).trans rfl; have hcz11_1 : w9.cell? ⟨gb396, 1, none⟩ = some (.int .i64 0) := (blk_cell BK396.out 1).trans rfl; have hcz11_2 : w9.cell? ⟨gb396, 2, none⟩ = some (.int .i64 0) := (blk_cell BK396.out 2).trans rfl; have hcz11_3 : w9.cell? ⟨gb396, 3, none⟩ = some (.int .i64 0) := (blk_cell BK396.out 3).trans rfl; have hcz11_4 : w9.cell? ⟨gb396, 4, none⟩ = some (.int .i64 0) := (blk_cell BK396.out 4).trans rfl; have hcz11_5 : w9.cell? ⟨gb396, 5, none⟩ = some (.int .i64 0) := (blk_cell BK396.out 5).trans rfl; have hcz11_6 : w9.cell? ⟨gb396, 6, none⟩ = some (.int .i64 0) := (blk_cell BK396.out 6).trans rfl; have hcz11_7 : w9.cell? ⟨gb396, 7, none⟩ = some (.int .i64 0) := (blk_cell BK396.out 7).trans rfl; have hcz11_8 : w9.cell? ⟨gb396, 8, none⟩ = some (.int .i64 0) := (blk_cell BK396.out 8).trans rfl; have hcz11_9 : w9.cell? ⟨gb396, 9, none⟩ = some (.int .i64 0) := (blk_cell BK396.out 9).trans rfl; have hcz11_10 : w9.cell? ⟨gb396, 10, none⟩ = some (.int .i64 0) := (blk_cell BK396.out 10).trans rfl; have hfz11_0 := blk_frozen BK396.out 0; have hfz11_1 := blk_frozen BK396.out 1; have hfz11_2 := blk_frozen BK396.out 2; have hfz11_3 := blk_frozen BK396.out 3; have hfz11_4 := blk_frozen BK396.out 4; have hfz11_5 := blk_frozen BK396.out 5; have hfz11_6 := blk_frozen BK396.out 6; have hfz11_7 := blk_frozen BK396.out 7; have hfz11_8 := blk_frozen BK396.out 8; have hfz11_9 := blk_frozen BK396.out 9; have hfz11_10 := blk_frozen BK396.out 10))
  (try simp only [Act.put, List.setIfInBounds_toArray, List.set_cons_zero, List.set_cons_succ])
  go_cut [27] (fun v27 wc => ∃ (kq : Nat) (x27_4 : Bool), v27 = .bool x27_4 ∧ Aside0 (terms_Terms.j0 kq a2 x27_4 t384 t385 t386 t387 t388 t389 t390 t391 t392 t393 t394 = some r) ∧ Aside0 (kq ≤ k) ∧ Aside0 (wc.heap[gb383]? = some (.cells #[.int .i64 a0_0, .int .i64 a0_1, .int .i64 a0_2, (.slice A0_3 l0_3.length c0_3)] 26 (0, 0))) ∧ Aside0 (wc.heap[gb396]? = some (.cells #[.int .i64 t384, .int .i64 t385, .int .i64 t386, .int .i64 t387, .int .i64 t388, .int .i64 t389, .int .i64 t390, .int .i64 t391, .int .i64 t392, .int .i64 t393, .int .i64 t394] 134 (0, 0))) ∧ Aside0 (Below w.heap.size w wc))
  case first =>
    have H := HC5.out
    clear HC5
    by_cases c12 : t395 = true
    · subst c12
      have H1 : (if a2 < 0 then (terms_Terms.j0 k a2 true t384 t385 t386 t387 t388 t389 t390 t391 t392 t393 t394) else ((shape_Size.f t391 t392 t393).bind fun t397 => (terms_Terms.j0 k a2 (decide (a2 ≥ t397)) t384 t385 t386 t387 t388 t389 t390 t391 t392 t393 t394))) = some r := by rw [if_pos rfl] at H; exact H
      clear H
      have H := H1
      clear H1
      by_cases c13 : a2 < 0
      · rw [if_pos c13] at H
        have c13b0 : decide (a2 < 0) = true := decide_eq_true c13
        clear c13
        (first | rw [c13b0] | (simp only [i64_w, i32_w]; rw [c13b0]) | skip)
        have H' := Aside0.mk H
        clear H
        go_wp2
        go_meet
        case rel => exact ⟨_, (true), (by first | rfl | (simp; done) | (simp [*]; done)), H', ⟨by first | omega | exact Nat.le_refl _⟩, ⟨by (with_reducible repeat (first | refine blk_drewN ?_ _ | refine blk_drew ?_ | refine blk_alloc ?_ _)); refine blk_far ?_ NB383_396.out _; (with_reducible repeat (first | refine blk_drewN ?_ _ | refine blk_drew ?_ | refine blk_alloc ?_ _)); refine blk_far ?_ NB383_396.out _; (with_reducible repeat (first | refine blk_drewN ?_ _ | refine blk_drew ?_ | refine blk_alloc ?_ _)); refine blk_far ?_ NB383_396.out _; (with_reducible repeat (first | refine blk_drewN ?_ _ | refine blk_drew ?_ | refine blk_alloc ?_ _)); refine blk_far ?_ NB383_396.out _; (with_reducible repeat (first | refine blk_drewN ?_ _ | refine blk_drew ?_ | refine blk_alloc ?_ _)); refine blk_far ?_ NB383_396.out _; (with_reducible repeat (first | refine blk_drewN ?_ _ | refine blk_drew ?_ | refine blk_alloc ?_ _)); refine blk_far ?_ NB383_396.out _; (with_reducible repeat (first | refine blk_drewN ?_ _ | refine blk_drew ?_ | refine blk_alloc ?_ _)); refine blk_far ?_ NB383_396.out _; (with_reducible repeat (first | refine blk_drewN ?_ _ | refine blk_drew ?_ | refine blk_alloc ?_ _)); refine blk_far ?_ NB383_396.out _; (with_reducible repeat (first | refine blk_drewN ?_ _ | refine blk_drew ?_ | refine blk_alloc ?_ _)); refine blk_far ?_ NB383_396.out _; (with_reducible repeat (first | refine blk_drewN ?_ _ | refine blk_drew ?_ | refine blk_alloc ?_ _)); refine blk_far ?_ NB383_396.out _; (with_reducible repeat (first | refine blk_drewN ?_ _ | refine blk_drew ?_ | refine blk_alloc ?_ _)); refine blk_far ?_ NB383_396.out _; (with_reducible repeat (first | refine blk_drewN ?_ _ | refine blk_drew ?_ | refine blk_alloc ?_ _)); exact BK383.out⟩, ⟨by (with_reducible repeat (first | refine blk_drewN ?_ _ | refine blk_drew ?_ | refine blk_alloc ?_ _)); refine blk_put (cs := #[.int .i64 t384, .int .i64 t385, .int .i64 t386, .int .i64 t387, .int .i64 t388, .int .i64 t389, .int .i64 t390, .int .i64 t391, .int .i64 t392, .int .i64 t393, .int .i64 0]) ?_ 10 _ rfl; (with_reducible repeat (first | refine blk_drewN ?_ _ | refine blk_drew ?_ | refine blk_alloc ?_ _)); refine blk_put (cs := #[.int .i64 t384, .int .i64 t385, .int .i64 t386, .int .i64 t387, .int .i64 t388, .int .i64 t389, .int .i64 t390, .int .i64 t391, .int .i64 t392, .int .i64 0, .int .i64 0]) ?_ 9 _ rfl; (with_reducible repeat (first | refine blk_drewN ?_ _ | refine blk_drew ?_ | refine blk_alloc ?_ _)); refine blk_put (cs := #[.int .i64 t384, .int .i64 t385, .int .i64 t386, .int .i64 t387, .int .i64 t388, .int .i64 t389, .int .i64 t390, .int .i64 t391, .int .i64 0, .int .i64 0, .int .i64 0]) ?_ 8 _ rfl; (with_reducible repeat (first | refine blk_drewN ?_ _ | refine blk_drew ?_ | refine blk_alloc ?_ _)); refine blk_put (cs := #[.int .i64 t384, .int .i64 t385, .int .i64 t386, .int .i64 t387, .int .i64 t388, .int .i64 t389, .int .i64 t390, .int .i64 0, .int .i64 0, .int .i64 0, .int .i64 0]) ?_ 7 _ rfl; (with_reducible repeat (first | refine blk_drewN ?_ _ | refine blk_drew ?_ | refine blk_alloc ?_ _)); refine blk_put (cs := #[.int .i64 t384, .int .i64 t385, .int .i64 t386, .int .i64 t387, .int .i64 t388, .int .i64 t389, .int .i64 0, .int .i64 0, .int .i64 0, .int .i64 0, .int .i64 0]) ?_ 6 _ rfl; (with_reducible repeat (first | refine blk_drewN ?_ _ | refine blk_drew ?_ | refine blk_alloc ?_ _)); refine blk_put (cs := #[.int .i64 t384, .int .i64 t385, .int .i64 t386, .int .i64 t387, .int .i64 t388, .int .i64 0, .int .i64 0, .int .i64 0, .int .i64 0, .int .i64 0, .int .i64 0]) ?_ 5 _ rfl; (with_reducible repeat (first | refine blk_drewN ?_ _ | refine blk_drew ?_ | refine blk_alloc ?_ _)); refine blk_put (cs := #[.int .i64 t384, .int .i64 t385, .int .i64 t386, .int .i64 t387, .int .i64 0, .int .i64 0, .int .i64 0, .int .i64 0, .int .i64 0, .int .i64 0, .int .i64 0]) ?_ 4 _ rfl; (with_reducible repeat (first | refine blk_drewN ?_ _ | refine blk_drew ?_ | refine blk_alloc ?_ _)); refine blk_put (cs := #[.int .i64 t384, .int .i64 t385, .int .i64 t386, .int .i64 0, .int .i64 0, .int .i64 0, .int .i64 0, .int .i64 0, .int .i64 0, .int .i64 0, .int .i64 0]) ?_ 3 _ rfl; (with_reducible repeat (first | refine blk_drewN ?_ _ | refine blk_drew ?_ | refine blk_alloc ?_ _)); refine blk_put (cs := #[.int .i64 t384, .int .i64 t385, .int .i64 0, .int .i64 0, .int .i64 0, .int .i64 0, .int .i64 0, .int .i64 0, .int .i64 0, .int .i64 0, .int .i64 0]) ?_ 2 _ rfl; (with_reducible repeat (first | refine blk_drewN ?_ _ | refine blk_drew ?_ | refine blk_alloc ?_ _)); refine blk_put (cs := #[.int .i64 t384, .int .i64 0, .int .i64 0, .int .i64 0, .int .i64 0, .int .i64 0, .int .i64 0, .int .i64 0, .int .i64 0, .int .i64 0, .int .i64 0]) ?_ 1 _ rfl; (with_reducible repeat (first | refine blk_drewN ?_ _ | refine blk_drew ?_ | refine blk_alloc ?_ _)); refine blk_put (cs := #[.int .i64 0, .int .i64 0, .int .i64 0, .int .i64 0, .int .i64 0, .int .i64 0, .int .i64 0, .int .i64 0, .int .i64 0, .int .i64 0, .int .i64 0]) ?_ 0 _ rfl; (with_reducible repeat (first | refine blk_drewN ?_ _ | refine blk_drew ?_ | refine blk_alloc ?_ _)); exact BK396.out⟩, ⟨by repeat (first | (with_reducible first | exact HB.out | apply below_alloc | apply pw_below_drewN | apply below_drew1 | refine below_set ?_ GE383.out | refine below_set ?_ GE396.out) | exact HB.out)⟩⟩
      · rw [if_neg c13] at H
        have c13b0 : decide (a2 < 0) = false := decide_eq_false c13
        clear c13
        (first | rw [c13b0] | (simp only [i64_w, i32_w]; rw [c13b0]) | skip)
        replace H := Option.bind_eq_some_iff.mp H
        obtain ⟨t397, A140, H⟩ := H
        replace H : (terms_Terms.j0 k a2 (decide (a2 ≥ t397)) t384 t385 t386 t387 t388 t389 t390 t391 t392 t393 t394) = some r := H
        have A14 := Aside0.mk A140
        clear A140
        have H' := Aside0.mk H
        clear H
        have hnb15 := NB396_383.out
        have hnc15 := NB383_396.out
        have hcz16_0 : w9.cell? ⟨gb396, 0, none⟩ = some (.int .i64 0) := (blk_cell BK396.out 0).trans rfl
        have hcz16_1 : w9.cell? ⟨gb396, 1, none⟩ = some (.int .i64 0) := (blk_cell BK396.out 1).trans rfl
        have hcz16_2 : w9.cell? ⟨gb396, 2, none⟩ = some (.int .i64 0) := (blk_cell BK396.out 2).trans rfl
        have hcz16_3 : w9.cell? ⟨gb396, 3, none⟩ = some (.int .i64 0) := (blk_cell BK396.out 3).trans rfl
        have hcz16_4 : w9.cell? ⟨gb396, 4, none⟩ = some (.int .i64 0) := (blk_cell BK396.out 4).trans rfl
        have hcz16_5 : w9.cell? ⟨gb396, 5, none⟩ = some (.int .i64 0) := (blk_cell BK396.out 5).trans rfl
        have hcz16_6 : w9.cell? ⟨gb396, 6, none⟩ = some (.int .i64 0) := (blk_cell BK396.out 6).trans rfl
        have hcz16_7 : w9.cell? ⟨gb396, 7, none⟩ = some (.int .i64 0) := (blk_cell BK396.out 7).trans rfl
        have hcz16_8 : w9.cell? ⟨gb396, 8, none⟩ = some (.int .i64 0) := (blk_cell BK396.out 8).trans rfl
        have hcz16_9 : w9.cell? ⟨gb396, 9, none⟩ = some (.int .i64 0) := (blk_cell BK396.out 9).trans rfl
        have hcz16_10 : w9.cell? ⟨gb396, 10, none⟩ = some (.int .i64 0) := (blk_cell BK396.out 10).trans rfl
        have hfz16_0 := blk_frozen BK396.out 0
        have hfz16_1 := blk_frozen BK396.out 1
        have hfz16_2 := blk_frozen BK396.out 2
        have hfz16_3 := blk_frozen BK396.out 3
        have hfz16_4 := blk_frozen BK396.out 4
        have hfz16_5 := blk_frozen BK396.out 5
        have hfz16_6 := blk_frozen BK396.out 6
        have hfz16_7 := blk_frozen BK396.out 7
        have hfz16_8 := blk_frozen BK396.out 8
        have hfz16_9 := blk_frozen BK396.out 9
        have hfz16_10 := blk_frozen BK396.out 10
        go_wp2_with (first | (go_at_call 40; (with_reducible refine (shape_Size.calls t391 t392 t393 t397 _ A14.out).mono ?_); rintro e w17 ⟨rfl, hb⟩; have n0_ := Aside0.mk (blk_below (g := gb383) (o := .cells #[.int .i64 a0_0, .int .i64 a0_1, .int .i64 a0_2, .slice A0_3 l0_3.length c0_3] 26 (0, 0)) (by (with_reducible repeat (first | refine blk_drewN ?_ _ | refine blk_drew ?_ | refine blk_alloc ?_ _)); refine blk_far ?_ NB383_396.out _; (with_reducible repeat (first | refine blk_drewN ?_ _ | refine blk_drew ?_ | refine blk_alloc ?_ _)); refine blk_far ?_ NB383_396.out _; (with_reducible repeat (first | refine blk_drewN ?_ _ | refine blk_drew ?_ | refine blk_alloc ?_ _)); refine blk_far ?_ NB383_396.out _; (with_reducible repeat (first | refine blk_drewN ?_ _ | refine blk_drew ?_ | refine blk_alloc ?_ _)); refine blk_far ?_ NB383_396.out _; (with_reducible repeat (first | refine blk_drewN ?_ _ | refine blk_drew ?_ | refine blk_alloc ?_ _)); refine blk_far ?_ NB383_396.out _; (with_reducible repeat (first | refine blk_drewN ?_ _ | refine blk_drew ?_ | refine blk_alloc ?_ _)); refine blk_far ?_ NB383_396.out _; (with_reducible repeat (first | refine blk_drewN ?_ _ | refine blk_drew ?_ | refine blk_alloc ?_ _)); refine blk_far ?_ NB383_396.out _; (with_reducible repeat (first | refine blk_drewN ?_ _ | refine blk_drew ?_ | refine blk_alloc ?_ _)); refine blk_far ?_ NB383_396.out _; (with_reducible repeat (first | refine blk_drewN ?_ _ | refine blk_drew ?_ | refine blk_alloc ?_ _)); refine blk_far ?_ NB383_396.out _; (with_reducible repeat (first | refine blk_drewN ?_ _ | refine blk_drew ?_ | refine blk_alloc ?_ _)); refine blk_far ?_ NB383_396.out _; (with_reducible repeat (first | refine blk_drewN ?_ _ | refine blk_drew ?_ | refine blk_alloc ?_ _)); refine blk_far ?_ NB383_396.out _; (with_reducible repeat (first | refine blk_drewN ?_ _ | refine blk_drew ?_ | refine blk_alloc ?_ _)); exact BK383.out) hb); have n1_ := Aside0.mk (blk_below (g := gb396) (o := .cells #[.int .i64 t384, .int .i64 t385, .int .i64 t386, .int .i64 t387, .int .i64 t388, .int .i64 t389, .int .i64 t390, .int .i64 t391, .int .i64 t392, .int .i64 t393, .int .i64 t394] 134 (0, 0)) (by (with_reducible repeat (first | refine blk_drewN ?_ _ | refine blk_drew ?_ | refine blk_alloc ?_ _)); refine blk_put (cs := #[.int .i64 t384, .int .i64 t385, .int .i64 t386, .int .i64 t387, .int .i64 t388, .int .i64 t389, .int .i64 t390, .int .i64 t391, .int .i64 t392, .int .i64 t393, .int .i64 0]) ?_ 10 _ rfl; (with_reducible repeat (first | refine blk_drewN ?_ _ | refine blk_drew ?_ | refine blk_alloc ?_ _)); refine blk_put (cs := #[.int .i64 t384, .int .i64 t385, .int .i64 t386, .int .i64 t387, .int .i64 t388, .int .i64 t389, .int .i64 t390, .int .i64 t391, .int .i64 t392, .int .i64 0, .int .i64 0]) ?_ 9 _ rfl; (with_reducible repeat (first | refine blk_drewN ?_ _ | refine blk_drew ?_ | refine blk_alloc ?_ _)); refine blk_put (cs := #[.int .i64 t384, .int .i64 t385, .int .i64 t386, .int .i64 t387, .int .i64 t388, .int .i64 t389, .int .i64 t390, .int .i64 t391, .int .i64 0, .int .i64 0, .int .i64 0]) ?_ 8 _ rfl; (with_reducible repeat (first | refine blk_drewN ?_ _ | refine blk_drew ?_ | refine blk_alloc ?_ _)); refine blk_put (cs := #[.int .i64 t384, .int .i64 t385, .int .i64 t386, .int .i64 t387, .int .i64 t388, .int .i64 t389, .int .i64 t390, .int .i64 0, .int .i64 0, .int .i64 0, .int .i64 0]) ?_ 7 _ rfl; (with_reducible repeat (first | refine blk_drewN ?_ _ | refine blk_drew ?_ | refine blk_alloc ?_ _)); refine blk_put (cs := #[.int .i64 t384, .int .i64 t385, .int .i64 t386, .int .i64 t387, .int .i64 t388, .int .i64 t389, .int .i64 0, .int .i64 0, .int .i64 0, .int .i64 0, .int .i64 0]) ?_ 6 _ rfl; (with_reducible repeat (first | refine blk_drewN ?_ _ | refine blk_drew ?_ | refine blk_alloc ?_ _)); refine blk_put (cs := #[.int .i64 t384, .int .i64 t385, .int .i64 t386, .int .i64 t387, .int .i64 t388, .int .i64 0, .int .i64 0, .int .i64 0, .int .i64 0, .int .i64 0, .int .i64 0]) ?_ 5 _ rfl; (with_reducible repeat (first | refine blk_drewN ?_ _ | refine blk_drew ?_ | refine blk_alloc ?_ _)); refine blk_put (cs := #[.int .i64 t384, .int .i64 t385, .int .i64 t386, .int .i64 t387, .int .i64 0, .int .i64 0, .int .i64 0, .int .i64 0, .int .i64 0, .int .i64 0, .int .i64 0]) ?_ 4 _ rfl; (with_reducible repeat (first | refine blk_drewN ?_ _ | refine blk_drew ?_ | refine blk_alloc ?_ _)); refine blk_put (cs := #[.int .i64 t384, .int .i64 t385, .int .i64 t386, .int .i64 0, .int .i64 0, .int .i64 0, .int .i64 0, .int .i64 0, .int .i64 0, .int .i64 0, .int .i64 0]) ?_ 3 _ rfl; (with_reducible repeat (first | refine blk_drewN ?_ _ | refine blk_drew ?_ | refine blk_alloc ?_ _)); refine blk_put (cs := #[.int .i64 t384, .int .i64 t385, .int .i64 0, .int .i64 0, .int .i64 0, .int .i64 0, .int .i64 0, .int .i64 0, .int .i64 0, .int .i64 0, .int .i64 0]) ?_ 2 _ rfl; (with_reducible repeat (first | refine blk_drewN ?_ _ | refine blk_drew ?_ | refine blk_alloc ?_ _)); refine blk_put (cs := #[.int .i64 t384, .int .i64 0, .int .i64 0, .int .i64 0, .int .i64 0, .int .i64 0, .int .i64 0, .int .i64 0, .int .i64 0, .int .i64 0, .int .i64 0]) ?_ 1 _ rfl; (with_reducible repeat (first | refine blk_drewN ?_ _ | refine blk_drew ?_ | refine blk_alloc ?_ _)); refine blk_put (cs := #[.int .i64 0, .int .i64 0, .int .i64 0, .int .i64 0, .int .i64 0, .int .i64 0, .int .i64 0, .int .i64 0, .int .i64 0, .int .i64 0, .int .i64 0]) ?_ 0 _ rfl; (with_reducible repeat (first | refine blk_drewN ?_ _ | refine blk_drew ?_ | refine blk_alloc ?_ _)); exact BK396.out) hb); have n2_ := Aside0.mk (below_step (by repeat (first | (with_reducible first | exact HB.out | apply below_alloc | apply pw_below_drewN | apply below_drew1 | refine below_set ?_ GE383.out | refine below_set ?_ GE396.out) | exact HB.out)) hb); clear BK383; clear BK396; clear HB; have BK383 := n0_; have BK396 := n1_; have HB := n2_; clear n0_ n1_ n2_; (try clear hb); (try clear hb2); (try clear hk); (try clear hi)))
        go_meet
        case rel => exact ⟨_, (decide (a2 ≥ t397)), (by first | rfl | (simp; done) | (simp [*]; done)), H', ⟨by first | omega | exact Nat.le_refl _⟩, ⟨by (with_reducible repeat (first | refine blk_drewN ?_ _ | refine blk_drew ?_ | refine blk_alloc ?_ _)); exact BK383.out⟩, ⟨by (with_reducible repeat (first | refine blk_drewN ?_ _ | refine blk_drew ?_ | refine blk_alloc ?_ _)); exact BK396.out⟩, ⟨by repeat (first | (with_reducible first | exact HB.out | apply below_alloc | apply pw_below_drewN | apply below_drew1 | refine below_set ?_ GE383.out | refine below_set ?_ GE396.out) | exact HB.out)⟩⟩
    · replace c12 := Bool.eq_false_iff.mpr c12
      subst c12
      have H1 : (terms_Terms.j0 k a2 true t384 t385 t386 t387 t388 t389 t390 t391 t392 t393 t394) = some r := by rw [if_neg (show ¬ (false = true) by decide)] at H; exact H
      clear H
      have H := H1
      clear H1
      have H' := Aside0.mk H
      clear H
      go_wp2
      go_meet
      case rel => exact ⟨_, (true), (by first | rfl | (simp; done) | (simp [*]; done)), H', ⟨by first | omega | exact Nat.le_refl _⟩, ⟨by (with_reducible repeat (first | refine blk_drewN ?_ _ | refine blk_drew ?_ | refine blk_alloc ?_ _)); refine blk_far ?_ NB383_396.out _; (with_reducible repeat (first | refine blk_drewN ?_ _ | refine blk_drew ?_ | refine blk_alloc ?_ _)); refine blk_far ?_ NB383_396.out _; (with_reducible repeat (first | refine blk_drewN ?_ _ | refine blk_drew ?_ | refine blk_alloc ?_ _)); refine blk_far ?_ NB383_396.out _; (with_reducible repeat (first | refine blk_drewN ?_ _ | refine blk_drew ?_ | refine blk_alloc ?_ _)); refine blk_far ?_ NB383_396.out _; (with_reducible repeat (first | refine blk_drewN ?_ _ | refine blk_drew ?_ | refine blk_alloc ?_ _)); refine blk_far ?_ NB383_396.out _; (with_reducible repeat (first | refine blk_drewN ?_ _ | refine blk_drew ?_ | refine blk_alloc ?_ _)); refine blk_far ?_ NB383_396.out _; (with_reducible repeat (first | refine blk_drewN ?_ _ | refine blk_drew ?_ | refine blk_alloc ?_ _)); refine blk_far ?_ NB383_396.out _; (with_reducible repeat (first | refine blk_drewN ?_ _ | refine blk_drew ?_ | refine blk_alloc ?_ _)); refine blk_far ?_ NB383_396.out _; (with_reducible repeat (first | refine blk_drewN ?_ _ | refine blk_drew ?_ | refine blk_alloc ?_ _)); refine blk_far ?_ NB383_396.out _; (with_reducible repeat (first | refine blk_drewN ?_ _ | refine blk_drew ?_ | refine blk_alloc ?_ _)); refine blk_far ?_ NB383_396.out _; (with_reducible repeat (first | refine blk_drewN ?_ _ | refine blk_drew ?_ | refine blk_alloc ?_ _)); refine blk_far ?_ NB383_396.out _; (with_reducible repeat (first | refine blk_drewN ?_ _ | refine blk_drew ?_ | refine blk_alloc ?_ _)); exact BK383.out⟩, ⟨by (with_reducible repeat (first | refine blk_drewN ?_ _ | refine blk_drew ?_ | refine blk_alloc ?_ _)); refine blk_put (cs := #[.int .i64 t384, .int .i64 t385, .int .i64 t386, .int .i64 t387, .int .i64 t388, .int .i64 t389, .int .i64 t390, .int .i64 t391, .int .i64 t392, .int .i64 t393, .int .i64 0]) ?_ 10 _ rfl; (with_reducible repeat (first | refine blk_drewN ?_ _ | refine blk_drew ?_ | refine blk_alloc ?_ _)); refine blk_put (cs := #[.int .i64 t384, .int .i64 t385, .int .i64 t386, .int .i64 t387, .int .i64 t388, .int .i64 t389, .int .i64 t390, .int .i64 t391, .int .i64 t392, .int .i64 0, .int .i64 0]) ?_ 9 _ rfl; (with_reducible repeat (first | refine blk_drewN ?_ _ | refine blk_drew ?_ | refine blk_alloc ?_ _)); refine blk_put (cs := #[.int .i64 t384, .int .i64 t385, .int .i64 t386, .int .i64 t387, .int .i64 t388, .int .i64 t389, .int .i64 t390, .int .i64 t391, .int .i64 0, .int .i64 0, .int .i64 0]) ?_ 8 _ rfl; (with_reducible repeat (first | refine blk_drewN ?_ _ | refine blk_drew ?_ | refine blk_alloc ?_ _)); refine blk_put (cs := #[.int .i64 t384, .int .i64 t385, .int .i64 t386, .int .i64 t387, .int .i64 t388, .int .i64 t389, .int .i64 t390, .int .i64 0, .int .i64 0, .int .i64 0, .int .i64 0]) ?_ 7 _ rfl; (with_reducible repeat (first | refine blk_drewN ?_ _ | refine blk_drew ?_ | refine blk_alloc ?_ _)); refine blk_put (cs := #[.int .i64 t384, .int .i64 t385, .int .i64 t386, .int .i64 t387, .int .i64 t388, .int .i64 t389, .int .i64 0, .int .i64 0, .int .i64 0, .int .i64 0, .int .i64 0]) ?_ 6 _ rfl; (with_reducible repeat (first | refine blk_drewN ?_ _ | refine blk_drew ?_ | refine blk_alloc ?_ _)); refine blk_put (cs := #[.int .i64 t384, .int .i64 t385, .int .i64 t386, .int .i64 t387, .int .i64 t388, .int .i64 0, .int .i64 0, .int .i64 0, .int .i64 0, .int .i64 0, .int .i64 0]) ?_ 5 _ rfl; (with_reducible repeat (first | refine blk_drewN ?_ _ | refine blk_drew ?_ | refine blk_alloc ?_ _)); refine blk_put (cs := #[.int .i64 t384, .int .i64 t385, .int .i64 t386, .int .i64 t387, .int .i64 0, .int .i64 0, .int .i64 0, .int .i64 0, .int .i64 0, .int .i64 0, .int .i64 0]) ?_ 4 _ rfl; (with_reducible repeat (first | refine blk_drewN ?_ _ | refine blk_drew ?_ | refine blk_alloc ?_ _)); refine blk_put (cs := #[.int .i64 t384, .int .i64 t385, .int .i64 t386, .int .i64 0, .int .i64 0, .int .i64 0, .int .i64 0, .int .i64 0, .int .i64 0, .int .i64 0, .int .i64 0]) ?_ 3 _ rfl; (with_reducible repeat (first | refine blk_drewN ?_ _ | refine blk_drew ?_ | refine blk_alloc ?_ _)); refine blk_put (cs := #[.int .i64 t384, .int .i64 t385, .int .i64 0, .int .i64 0, .int .i64 0, .int .i64 0, .int .i64 0, .int .i64 0, .int .i64 0, .int .i64 0, .int .i64 0]) ?_ 2 _ rfl; (with_reducible repeat (first | refine blk_drewN ?_ _ | refine blk_drew ?_ | refine blk_alloc ?_ _)); refine blk_put (cs := #[.int .i64 t384, .int .i64 0, .int .i64 0, .int .i64 0, .int .i64 0, .int .i64 0, .int .i64 0, .int .i64 0, .int .i64 0, .int .i64 0, .int .i64 0]) ?_ 1 _ rfl; (with_reducible repeat (first | refine blk_drewN ?_ _ | refine blk_drew ?_ | refine blk_alloc ?_ _)); refine blk_put (cs := #[.int .i64 0, .int .i64 0, .int .i64 0, .int .i64 0, .int .i64 0, .int .i64 0, .int .i64 0, .int .i64 0, .int .i64 0, .int .i64 0, .int .i64 0]) ?_ 0 _ rfl; (with_reducible repeat (first | refine blk_drewN ?_ _ | refine blk_drew ?_ | refine blk_alloc ?_ _)); exact BK396.out⟩, ⟨by repeat (first | (with_reducible first | exact HB.out | apply below_alloc | apply pw_below_drewN | apply below_drew1 | refine below_set ?_ GE383.out | refine below_set ?_ GE396.out) | exact HB.out)⟩⟩
  case rest =>
    clear HC5
    try clear c1
    try clear p2
    try clear c7
    try clear c8
    try clear c10
    try clear c12
    try clear c13
    try clear c13b0
    try clear c15
    try clear hcz11_0
    try clear hcz11_1
    try clear hcz11_10
    try clear hcz11_2
    try clear hcz11_3
    try clear hcz11_4
    try clear hcz11_5
    try clear hcz11_6
    try clear hcz11_7
    try clear hcz11_8
    try clear hcz11_9
    try clear hcz16_0
    try clear hcz16_1
    try clear hcz16_10
    try clear hcz16_2
    try clear hcz16_3
    try clear hcz16_4
    try clear hcz16_5
    try clear hcz16_6
    try clear hcz16_7
    try clear hcz16_8
    try clear hcz16_9
    try clear hcz7_0
    try clear hcz7_1
    try clear hcz7_2
    try clear hcz7_3
    try clear hfz11_0
    try clear hfz11_1
    try clear hfz11_10
    try clear hfz11_2
    try clear hfz11_3
    try clear hfz11_4
    try clear hfz11_5
    try clear hfz11_6
    try clear hfz11_7
    try clear hfz11_8
    try clear hfz11_9
    try clear hfz16_0
    try clear hfz16_1
    try clear hfz16_10
    try clear hfz16_2
    try clear hfz16_3
    try clear hfz16_4
    try clear hfz16_5
    try clear hfz16_6
    try clear hfz16_7
    try clear hfz16_8
    try clear hfz16_9
    try clear hfz7_0
    try clear hfz7_1
    try clear hfz7_2
    try clear hfz7_3
    obtain ⟨kq, x27_4, rfl, HA, HJ4, BK383, BK396, HB⟩ := hcut
    cases kq with
    | zero => exact absurd HA.out (by simp [terms_Terms.j0])
    | succ kj4 =>
      have H := HA.out
      clear HA
      simp only [terms_Terms.j0] at H
      by_cases c18 : x27_4 = true
      · subst c18
        have H1 : (some ([] : List (S91))) = some r := by rw [if_pos rfl] at H; exact H
        clear H
        have H := H1
        clear H1
        obtain rfl := Option.some.inj H
        go_wp2
        go_ret
        exact ⟨_, by first | rfl | (simp [errW_none, errW_some] <;> rfl) | (simp [*, errW_none, errW_some] <;> rfl), by first | exact Kd.R_nil _ _ _ _ _ | exact Kd.N_nil _ _ _ _ _ | exact Kd.V_nil _ _ _ _ _ | exact Kd.Q_nil _ _ _ _ _ | exact Kd.S_nil _ _ _ _ _, by repeat (first | (with_reducible first | exact HB.out | apply below_alloc | apply pw_below_drewN | apply below_drew1 | refine below_set ?_ GE383.out | refine below_set ?_ GE396.out) | exact HB.out)⟩
      · replace c18 := Bool.eq_false_iff.mpr c18
        subst c18
        have H1 : (if t384 = 1 then ((terms_look_conv.f t384 t385 t386 t387 t388 t389 t390 t391 t392 t393 t394 a2).bind fun t398 => (some t398)) else (if t384 = 4 then ((terms_look_dense.f kj4 t384 t385 t386 t387 t388 t389 t390 t391 t392 t393 t394 a2).bind fun t401 => (some t401)) else (if t384 = 2 then (some (([(⟨a2, (-1)⟩ : S91)] : List (S91)))) else (some ([] : List (S91)))))) = some r := by rw [if_neg (show ¬ (false = true) by decide)] at H; exact H
        clear H
        have H := H1
        clear H1
        by_cases c19 : t384 = 1
        · rw [if_pos c19] at H
          have c19b0 : (t384 == 1) = true := beq_iff_eq.mpr c19
          have c19b1 : (t384 != 1) = false := bne_eq_false_iff_eq.mpr c19
          clear c19
          replace H := Option.bind_eq_some_iff.mp H
          obtain ⟨t398, A200, H⟩ := H
          replace H : (some t398) = some r := H
          have A20 := Aside0.mk A200
          clear A200
          obtain rfl := Option.some.inj H
          have hnb21 := NB396_383.out
          have hnc21 := NB383_396.out
          have hcz22_0 : wc.cell? ⟨gb396, 0, none⟩ = some (.int .i64 t384) := (blk_cell BK396.out 0).trans rfl
          have hcz22_1 : wc.cell? ⟨gb396, 1, none⟩ = some (.int .i64 t385) := (blk_cell BK396.out 1).trans rfl
          have hcz22_2 : wc.cell? ⟨gb396, 2, none⟩ = some (.int .i64 t386) := (blk_cell BK396.out 2).trans rfl
          have hcz22_3 : wc.cell? ⟨gb396, 3, none⟩ = some (.int .i64 t387) := (blk_cell BK396.out 3).trans rfl
          have hcz22_4 : wc.cell? ⟨gb396, 4, none⟩ = some (.int .i64 t388) := (blk_cell BK396.out 4).trans rfl
          have hcz22_5 : wc.cell? ⟨gb396, 5, none⟩ = some (.int .i64 t389) := (blk_cell BK396.out 5).trans rfl
          have hcz22_6 : wc.cell? ⟨gb396, 6, none⟩ = some (.int .i64 t390) := (blk_cell BK396.out 6).trans rfl
          have hcz22_7 : wc.cell? ⟨gb396, 7, none⟩ = some (.int .i64 t391) := (blk_cell BK396.out 7).trans rfl
          have hcz22_8 : wc.cell? ⟨gb396, 8, none⟩ = some (.int .i64 t392) := (blk_cell BK396.out 8).trans rfl
          have hcz22_9 : wc.cell? ⟨gb396, 9, none⟩ = some (.int .i64 t393) := (blk_cell BK396.out 9).trans rfl
          have hcz22_10 : wc.cell? ⟨gb396, 10, none⟩ = some (.int .i64 t394) := (blk_cell BK396.out 10).trans rfl
          have hfz22_0 := blk_frozen BK396.out 0
          have hfz22_1 := blk_frozen BK396.out 1
          have hfz22_2 := blk_frozen BK396.out 2
          have hfz22_3 := blk_frozen BK396.out 3
          have hfz22_4 := blk_frozen BK396.out 4
          have hfz22_5 := blk_frozen BK396.out 5
          have hfz22_6 := blk_frozen BK396.out 6
          have hfz22_7 := blk_frozen BK396.out 7
          have hfz22_8 := blk_frozen BK396.out 8
          have hfz22_9 := blk_frozen BK396.out 9
          have hfz22_10 := blk_frozen BK396.out 10
          go_wp2_with (first | ((with_reducible refine gate_callee (f := 84) rfl ?_); refine goesL_ (some 35) rfl rfl Try.func84 (by kernel_rfl) rfl #[.agg #[.int .i64 t384, .int .i64 t385, .int .i64 t386, .int .i64 t387, .int .i64 t388, .int .i64 t389, .int .i64 t390, .int .i64 t391, .int .i64 t392, .int .i64 t393, .int .i64 t394], .int .i64 a2] rfl (by (try simp only [List.map_toArray, List.map_cons, List.map_nil]); first | done | rfl | (simp only [List.length_drop, List.length_take]; rfl)) ?_; (with_reducible refine (terms_look_conv.calls t384 t385 t386 t387 t388 t389 t390 t391 t392 t393 t394 a2 t398 _ A20.out).mono ?_); rintro e w23 ⟨v399, rfl, ho0, hb⟩; refine ⟨_, rfl, ?_⟩; have n0_ := Aside0.mk (Kd.R_lower ho0 (below_size (by repeat (first | (with_reducible first | exact HB.out | apply below_alloc | apply pw_below_drewN | apply below_drew1 | refine below_set ?_ GE383.out | refine below_set ?_ GE396.out) | exact HB.out)))); have n1_ := Aside0.mk (blk_below (g := gb383) (o := .cells #[.int .i64 a0_0, .int .i64 a0_1, .int .i64 a0_2, .slice A0_3 l0_3.length c0_3] 26 (0, 0)) (by (with_reducible repeat (first | refine blk_drewN ?_ _ | refine blk_drew ?_ | refine blk_alloc ?_ _)); exact BK383.out) hb); have n2_ := Aside0.mk (blk_below (g := gb396) (o := .cells #[.int .i64 t384, .int .i64 t385, .int .i64 t386, .int .i64 t387, .int .i64 t388, .int .i64 t389, .int .i64 t390, .int .i64 t391, .int .i64 t392, .int .i64 t393, .int .i64 t394] 134 (0, 0)) (by (with_reducible repeat (first | refine blk_drewN ?_ _ | refine blk_drew ?_ | refine blk_alloc ?_ _)); exact BK396.out) hb); have n3_ := Aside0.mk (below_step (by repeat (first | (with_reducible first | exact HB.out | apply below_alloc | apply pw_below_drewN | apply below_drew1 | refine below_set ?_ GE383.out | refine below_set ?_ GE396.out) | exact HB.out)) hb); clear BK383; clear BK396; clear HB; have HO400 := n0_; have BK383 := n1_; have BK396 := n2_; have HB := n3_; clear n0_ n1_ n2_ n3_; (try clear hb); (try clear hb2); (try clear hk); (try clear hi); (try clear ho0)))
          go_ret
          exact ⟨_, by first | rfl | (simp [errW_none, errW_some] <;> rfl) | (simp [*, errW_none, errW_some] <;> rfl), by (with_reducible repeat (first | apply Kd.R_alloc | apply Kd.R_drewN | apply Kd.R_drew)); exact HO400.out, by repeat (first | (with_reducible first | exact HB.out | apply below_alloc | apply pw_below_drewN | apply below_drew1 | refine below_set ?_ GE383.out | refine below_set ?_ GE396.out) | exact HB.out)⟩
        · rw [if_neg c19] at H
          have c19b0 : (t384 == 1) = false := beq_eq_false_iff_ne.mpr c19
          have c19b1 : (t384 != 1) = true := bne_iff_ne.mpr c19
          by_cases c24 : t384 = 4
          · rw [if_pos c24] at H
            have c24b0 : (t384 == 4) = true := beq_iff_eq.mpr c24
            have c24b1 : (t384 != 4) = false := bne_eq_false_iff_eq.mpr c24
            clear c24
            replace H := Option.bind_eq_some_iff.mp H
            obtain ⟨t401, A250, H⟩ := H
            replace H : (some t401) = some r := H
            have A25 := Aside0.mk A250
            clear A250
            obtain rfl := Option.some.inj H
            have hnb26 := NB396_383.out
            have hnc26 := NB383_396.out
            have hcz27_0 : wc.cell? ⟨gb396, 0, none⟩ = some (.int .i64 t384) := (blk_cell BK396.out 0).trans rfl
            have hcz27_1 : wc.cell? ⟨gb396, 1, none⟩ = some (.int .i64 t385) := (blk_cell BK396.out 1).trans rfl
            have hcz27_2 : wc.cell? ⟨gb396, 2, none⟩ = some (.int .i64 t386) := (blk_cell BK396.out 2).trans rfl
            have hcz27_3 : wc.cell? ⟨gb396, 3, none⟩ = some (.int .i64 t387) := (blk_cell BK396.out 3).trans rfl
            have hcz27_4 : wc.cell? ⟨gb396, 4, none⟩ = some (.int .i64 t388) := (blk_cell BK396.out 4).trans rfl
            have hcz27_5 : wc.cell? ⟨gb396, 5, none⟩ = some (.int .i64 t389) := (blk_cell BK396.out 5).trans rfl
            have hcz27_6 : wc.cell? ⟨gb396, 6, none⟩ = some (.int .i64 t390) := (blk_cell BK396.out 6).trans rfl
            have hcz27_7 : wc.cell? ⟨gb396, 7, none⟩ = some (.int .i64 t391) := (blk_cell BK396.out 7).trans rfl
            have hcz27_8 : wc.cell? ⟨gb396, 8, none⟩ = some (.int .i64 t392) := (blk_cell BK396.out 8).trans rfl
            have hcz27_9 : wc.cell? ⟨gb396, 9, none⟩ = some (.int .i64 t393) := (blk_cell BK396.out 9).trans rfl
            have hcz27_10 : wc.cell? ⟨gb396, 10, none⟩ = some (.int .i64 t394) := (blk_cell BK396.out 10).trans rfl
            have hfz27_0 := blk_frozen BK396.out 0
            have hfz27_1 := blk_frozen BK396.out 1
            have hfz27_2 := blk_frozen BK396.out 2
            have hfz27_3 := blk_frozen BK396.out 3
            have hfz27_4 := blk_frozen BK396.out 4
            have hfz27_5 := blk_frozen BK396.out 5
            have hfz27_6 := blk_frozen BK396.out 6
            have hfz27_7 := blk_frozen BK396.out 7
            have hfz27_8 := blk_frozen BK396.out 8
            have hfz27_9 := blk_frozen BK396.out 9
            have hfz27_10 := blk_frozen BK396.out 10
            go_wp2_with (first | ((with_reducible refine gate_callee (f := 85) rfl ?_); refine goesL_ (some 40) rfl rfl Try.func85 (by kernel_rfl) rfl #[.agg #[.int .i64 t384, .int .i64 t385, .int .i64 t386, .int .i64 t387, .int .i64 t388, .int .i64 t389, .int .i64 t390, .int .i64 t391, .int .i64 t392, .int .i64 t393, .int .i64 t394], .int .i64 a2] rfl (by (try simp only [List.map_toArray, List.map_cons, List.map_nil]); first | done | rfl | (simp only [List.length_drop, List.length_take]; rfl)) ?_; (with_reducible refine (terms_look_dense.calls kj4 t384 t385 t386 t387 t388 t389 t390 t391 t392 t393 t394 a2 t401 _ A25.out).mono ?_); rintro e w28 ⟨v402, rfl, ho0, hb⟩; refine ⟨_, rfl, ?_⟩; have n0_ := Aside0.mk (Kd.R_lower ho0 (below_size (by repeat (first | (with_reducible first | exact HB.out | apply below_alloc | apply pw_below_drewN | apply below_drew1 | refine below_set ?_ GE383.out | refine below_set ?_ GE396.out) | exact HB.out)))); have n1_ := Aside0.mk (blk_below (g := gb383) (o := .cells #[.int .i64 a0_0, .int .i64 a0_1, .int .i64 a0_2, .slice A0_3 l0_3.length c0_3] 26 (0, 0)) (by (with_reducible repeat (first | refine blk_drewN ?_ _ | refine blk_drew ?_ | refine blk_alloc ?_ _)); exact BK383.out) hb); have n2_ := Aside0.mk (blk_below (g := gb396) (o := .cells #[.int .i64 t384, .int .i64 t385, .int .i64 t386, .int .i64 t387, .int .i64 t388, .int .i64 t389, .int .i64 t390, .int .i64 t391, .int .i64 t392, .int .i64 t393, .int .i64 t394] 134 (0, 0)) (by (with_reducible repeat (first | refine blk_drewN ?_ _ | refine blk_drew ?_ | refine blk_alloc ?_ _)); exact BK396.out) hb); have n3_ := Aside0.mk (below_step (by repeat (first | (with_reducible first | exact HB.out | apply below_alloc | apply pw_below_drewN | apply below_drew1 | refine below_set ?_ GE383.out | refine below_set ?_ GE396.out) | exact HB.out)) hb); clear BK383; clear BK396; clear HB; have HO403 := n0_; have BK383 := n1_; have BK396 := n2_; have HB := n3_; clear n0_ n1_ n2_ n3_; (try clear hb); (try clear hb2); (try clear hk); (try clear hi); (try clear ho0)))
            go_ret
            exact ⟨_, by first | rfl | (simp [errW_none, errW_some] <;> rfl) | (simp [*, errW_none, errW_some] <;> rfl), by (with_reducible repeat (first | apply Kd.R_alloc | apply Kd.R_drewN | apply Kd.R_drew)); exact HO403.out, by repeat (first | (with_reducible first | exact HB.out | apply below_alloc | apply pw_below_drewN | apply below_drew1 | refine below_set ?_ GE383.out | refine below_set ?_ GE396.out) | exact HB.out)⟩
          · rw [if_neg c24] at H
            have c24b0 : (t384 == 4) = false := beq_eq_false_iff_ne.mpr c24
            have c24b1 : (t384 != 4) = true := bne_iff_ne.mpr c24
            by_cases c29 : t384 = 2
            · rw [if_pos c29] at H
              have c29b0 : (t384 == 2) = true := beq_iff_eq.mpr c29
              have c29b1 : (t384 != 2) = false := bne_eq_false_iff_eq.mpr c29
              clear c29
              obtain ⟨y404, hy404⟩ : ∃ y_ : List (S91), y_ = (([(⟨a2, (-1)⟩ : S91)] : List (S91))) := ⟨_, rfl⟩
              replace H : (some y404) = some r := by first | (rw [hy404]; with_reducible exact H) | (have H2_ := (Option.bind_some _ _).symm.trans H; rw [hy404]; with_reducible exact H2_) | (have H2_ := (Option.bind_some _ _).symm.trans H; with_reducible exact H2_) | with_reducible exact H | (rw [hy404]; exact H) | exact H
              have Ny404 := Aside0.mk hy404
              clear hy404
              obtain rfl := Option.some.inj H
              have hnb30 := NB396_383.out
              have hnc30 := NB383_396.out
              have hcz31_0 : wc.cell? ⟨gb396, 0, none⟩ = some (.int .i64 t384) := (blk_cell BK396.out 0).trans rfl
              have hcz31_1 : wc.cell? ⟨gb396, 1, none⟩ = some (.int .i64 t385) := (blk_cell BK396.out 1).trans rfl
              have hcz31_2 : wc.cell? ⟨gb396, 2, none⟩ = some (.int .i64 t386) := (blk_cell BK396.out 2).trans rfl
              have hcz31_3 : wc.cell? ⟨gb396, 3, none⟩ = some (.int .i64 t387) := (blk_cell BK396.out 3).trans rfl
              have hcz31_4 : wc.cell? ⟨gb396, 4, none⟩ = some (.int .i64 t388) := (blk_cell BK396.out 4).trans rfl
              have hcz31_5 : wc.cell? ⟨gb396, 5, none⟩ = some (.int .i64 t389) := (blk_cell BK396.out 5).trans rfl
              have hcz31_6 : wc.cell? ⟨gb396, 6, none⟩ = some (.int .i64 t390) := (blk_cell BK396.out 6).trans rfl
              have hcz31_7 : wc.cell? ⟨gb396, 7, none⟩ = some (.int .i64 t391) := (blk_cell BK396.out 7).trans rfl
              have hcz31_8 : wc.cell? ⟨gb396, 8, none⟩ = some (.int .i64 t392) := (blk_cell BK396.out 8).trans rfl
              have hcz31_9 : wc.cell? ⟨gb396, 9, none⟩ = some (.int .i64 t393) := (blk_cell BK396.out 9).trans rfl
              have hcz31_10 : wc.cell? ⟨gb396, 10, none⟩ = some (.int .i64 t394) := (blk_cell BK396.out 10).trans rfl
              have hfz31_0 := blk_frozen BK396.out 0
              have hfz31_1 := blk_frozen BK396.out 1
              have hfz31_2 := blk_frozen BK396.out 2
              have hfz31_3 := blk_frozen BK396.out 3
              have hfz31_4 := blk_frozen BK396.out 4
              have hfz31_5 := blk_frozen BK396.out 5
              have hfz31_6 := blk_frozen BK396.out 6
              have hfz31_7 := blk_frozen BK396.out 7
              have hfz31_8 := blk_frozen BK396.out 8
              have hfz31_9 := blk_frozen BK396.out 9
              have hfz31_10 := blk_frozen BK396.out 10
              go_wp2_with (first | ((with_reducible refine gate_dst (N := 45) rfl ?_); refine Kd.R_lit k91 _ 91 ?hg (N := 45) ?hd (xs := ([(⟨a2, (-1)⟩ : S91)] : List (S91))) (inner := [.int .i64 a2, .int .i64 (-1)]) (ok := fun _ => True) (okp := fun _ => True) ?hr ?hp (fun _ hk => hk) trivial (Below.refl _ _) (Nat.le_refl _) (by simp) ?_; (case hd => rfl); (case hg => rfl); (case hr => first | (go_simp; done) | (go_simp; rfl)); (case hp => exact (Reps.c2 (show Kd.M k91 _ _ _ (⟨a2, (-1)⟩ : S91) [.int .i64 a2, .int .i64 (-1)] from (k91_mkM _ _ _ (⟨a2, (-1)⟩ : S91) )) (Reps.none _ _))); intro v405 w32 ho33 hb hg_ hnew_; clear hg_ hnew_; (first | rw [← Ny404.out] at ho33 | (simp only [Int.reduceToNat] at ho33; rw [← Ny404.out] at ho33)); have n0_ := Aside0.mk (Kd.R_lower ho33 (below_size (by repeat (first | (with_reducible first | exact HB.out | apply below_alloc | apply pw_below_drewN | apply below_drew1 | refine below_set ?_ GE383.out | refine below_set ?_ GE396.out) | exact HB.out)))); have n1_ := Aside0.mk (blk_below (g := gb383) (o := .cells #[.int .i64 a0_0, .int .i64 a0_1, .int .i64 a0_2, .slice A0_3 l0_3.length c0_3] 26 (0, 0)) (by (with_reducible repeat (first | refine blk_drewN ?_ _ | refine blk_drew ?_ | refine blk_alloc ?_ _)); exact BK383.out) hb); have n2_ := Aside0.mk (blk_below (g := gb396) (o := .cells #[.int .i64 t384, .int .i64 t385, .int .i64 t386, .int .i64 t387, .int .i64 t388, .int .i64 t389, .int .i64 t390, .int .i64 t391, .int .i64 t392, .int .i64 t393, .int .i64 t394] 134 (0, 0)) (by (with_reducible repeat (first | refine blk_drewN ?_ _ | refine blk_drew ?_ | refine blk_alloc ?_ _)); exact BK396.out) hb); have n3_ := Aside0.mk (below_step (by repeat (first | (with_reducible first | exact HB.out | apply below_alloc | apply pw_below_drewN | apply below_drew1 | refine below_set ?_ GE383.out | refine below_set ?_ GE396.out) | exact HB.out)) hb); clear BK383; clear BK396; clear HB; have HO406 := n0_; have BK383 := n1_; have BK396 := n2_; have HB := n3_; clear n0_ n1_ n2_ n3_; clear hb ho33))
              go_ret
              exact ⟨_, by first | rfl | (simp [errW_none, errW_some] <;> rfl) | (simp [*, errW_none, errW_some] <;> rfl), by (with_reducible repeat (first | apply Kd.R_alloc | apply Kd.R_drewN | apply Kd.R_drew)); exact HO406.out, by repeat (first | (with_reducible first | exact HB.out | apply below_alloc | apply pw_below_drewN | apply below_drew1 | refine below_set ?_ GE383.out | refine below_set ?_ GE396.out) | exact HB.out)⟩
            · rw [if_neg c29] at H
              have c29b0 : (t384 == 2) = false := beq_eq_false_iff_ne.mpr c29
              have c29b1 : (t384 != 2) = true := bne_iff_ne.mpr c29
              obtain rfl := Option.some.inj H
              have hnb34 := NB396_383.out
              have hnc34 := NB383_396.out
              have hcz35_0 : wc.cell? ⟨gb396, 0, none⟩ = some (.int .i64 t384) := (blk_cell BK396.out 0).trans rfl
              have hcz35_1 : wc.cell? ⟨gb396, 1, none⟩ = some (.int .i64 t385) := (blk_cell BK396.out 1).trans rfl
              have hcz35_2 : wc.cell? ⟨gb396, 2, none⟩ = some (.int .i64 t386) := (blk_cell BK396.out 2).trans rfl
              have hcz35_3 : wc.cell? ⟨gb396, 3, none⟩ = some (.int .i64 t387) := (blk_cell BK396.out 3).trans rfl
              have hcz35_4 : wc.cell? ⟨gb396, 4, none⟩ = some (.int .i64 t388) := (blk_cell BK396.out 4).trans rfl
              have hcz35_5 : wc.cell? ⟨gb396, 5, none⟩ = some (.int .i64 t389) := (blk_cell BK396.out 5).trans rfl
              have hcz35_6 : wc.cell? ⟨gb396, 6, none⟩ = some (.int .i64 t390) := (blk_cell BK396.out 6).trans rfl
              have hcz35_7 : wc.cell? ⟨gb396, 7, none⟩ = some (.int .i64 t391) := (blk_cell BK396.out 7).trans rfl
              have hcz35_8 : wc.cell? ⟨gb396, 8, none⟩ = some (.int .i64 t392) := (blk_cell BK396.out 8).trans rfl
              have hcz35_9 : wc.cell? ⟨gb396, 9, none⟩ = some (.int .i64 t393) := (blk_cell BK396.out 9).trans rfl
              have hcz35_10 : wc.cell? ⟨gb396, 10, none⟩ = some (.int .i64 t394) := (blk_cell BK396.out 10).trans rfl
              have hfz35_0 := blk_frozen BK396.out 0
              have hfz35_1 := blk_frozen BK396.out 1
              have hfz35_2 := blk_frozen BK396.out 2
              have hfz35_3 := blk_frozen BK396.out 3
              have hfz35_4 := blk_frozen BK396.out 4
              have hfz35_5 := blk_frozen BK396.out 5
              have hfz35_6 := blk_frozen BK396.out 6
              have hfz35_7 := blk_frozen BK396.out 7
              have hfz35_8 := blk_frozen BK396.out 8
              have hfz35_9 := blk_frozen BK396.out 9
              have hfz35_10 := blk_frozen BK396.out 10
              go_wp2
              go_ret
              exact ⟨_, by first | rfl | (simp [errW_none, errW_some] <;> rfl) | (simp [*, errW_none, errW_some] <;> rfl), by first | exact Kd.R_nil _ _ _ _ _ | exact Kd.N_nil _ _ _ _ _ | exact Kd.V_nil _ _ _ _ _ | exact Kd.Q_nil _ _ _ _ _ | exact Kd.S_nil _ _ _ _ _, by repeat (first | (with_reducible first | exact HB.out | apply below_alloc | apply pw_below_drewN | apply below_drew1 | refine below_set ?_ GE383.out | refine below_set ?_ GE396.out) | exact HB.out)⟩

end Go.Proofs.Ytjegihodmidhoaa.G
namespace Go.Proofs.Ytjegihodmidhoaa.G
open Go.RowKit Go.Shelf Go.Proofs.YtjegihodmidhoaaW.PrintWords Go.Proofs.YtjegihodmidhoaaW.PrintLast Go.Proofs.YtjegihodmidhoaaW.PrintMore
set_option linter.unusedVariables false
set_option linter.unusedSimpArgs false

/-! ### All gates, in order (no Go in it) -/
section
variable (L : List S23) (T : Nat → Nat → List S91)
def szN (i : Nat) : Nat := (sizeS (rd_T23 L ((i : Int) + 1)).f0 (rd_T23 L ((i : Int) + 1)).f1 (rd_T23 L ((i : Int) + 1)).f2).toNat
def placeG (i at_ : Nat) : List S35 := (T i at_).mapIdx fun k t => ⟨i, at_, k, t.f0, t.f1⟩
def layerG (i at_ : Nat) : List S35 := (List.range at_).flatMap (placeG T i)
def upToG (i : Nat) : List S35 := (List.range i).flatMap fun j => layerG T j (szN L j)
def soFar (i at_ k : Nat) : List S35 := upToG L T i ++ layerG T i at_ ++ (placeG T i at_).take k
def gatesG : List S35 := upToG L T (L.length - 1)
def numbered (xs : List S35) : List (Nat × S35) := xs.mapIdx fun g x => (g, x)
theorem numbered_snoc (xs : List S35) (x : S35) : numbered (xs ++ [x]) = numbered xs ++ [(xs.length, x)] := by simp [numbered, List.mapIdx_append]
theorem numbered_length (xs : List S35) : (numbered xs).length = xs.length := by simp [numbered]
theorem numbered_prefix {xs ys : List S35} (h : xs <+: ys) : numbered xs <+: numbered ys := by
  obtain ⟨t, rfl⟩ := h
  unfold numbered
  rw [List.mapIdx_append]
  exact List.prefix_append _ _
theorem range_flat_prefix {α : Type} (f : Nat → List α) {m n : Nat} (h : m ≤ n) : (List.range m).flatMap f <+: (List.range n).flatMap f := by
  induction n with
  | zero => obtain rfl : m = 0 := by omega
            exact List.prefix_rfl
  | succ n ih =>
    by_cases e : m = n + 1
    · subst e; exact List.prefix_rfl
    · rw [List.range_succ, List.flatMap_append]
      exact (ih (by omega)).trans (List.prefix_append _ _)
theorem range_flat_succ {α : Type} (f : Nat → List α) (m : Nat) : (List.range (m + 1)).flatMap f = (List.range m).flatMap f ++ f m := by
  rw [List.range_succ, List.flatMap_append]; simp
theorem soFar_zero : soFar L T 0 0 0 = [] := by simp [soFar, upToG, layerG]
theorem soFar_place (i at_ : Nat) : soFar L T i at_ (T i at_).length = soFar L T i (at_ + 1) 0 := by
  unfold soFar layerG
  rw [range_flat_succ, List.take_of_length_le (by simp [placeG])]
  simp
theorem soFar_layer (i : Nat) : soFar L T i (szN L i) 0 = soFar L T (i + 1) 0 0 := by
  unfold soFar
  have : upToG L T (i + 1) = upToG L T i ++ layerG T i (szN L i) := range_flat_succ _ _
  rw [this]
  simp [layerG]
theorem soFar_end : soFar L T (L.length - 1) 0 0 = gatesG L T := by simp [soFar, gatesG, layerG]
theorem soFar_succ {i at_ k : Nat} (hk : k < (T i at_).length) : soFar L T i at_ (k + 1) = soFar L T i at_ k ++ [⟨i, at_, k, ((T i at_)[k]).f0, ((T i at_)[k]).f1⟩] := by
  unfold soFar
  rw [List.append_assoc, List.append_assoc, List.append_assoc, List.take_succ_eq_append_getElem (by simpa [placeG] using hk)]
  simp [placeG]
theorem soFar_prefix {i at_ k : Nat} (hi : i < L.length - 1) (ha : at_ < szN L i) : soFar L T i at_ k <+: gatesG L T := by
  have h1 : soFar L T i at_ k <+: soFar L T i (at_ + 1) 0 := by
    rw [← soFar_place]
    unfold soFar
    rw [List.prefix_append_right_inj]
    rw [List.take_of_length_le (l := placeG T i at_) (i := (T i at_).length) (by simp [placeG])]
    exact List.take_prefix _ _
  have h2 : soFar L T i (at_ + 1) 0 <+: soFar L T (i + 1) 0 0 := by
    rw [← soFar_layer]
    unfold soFar
    simp only [List.take_zero, List.append_nil]
    rw [List.prefix_append_right_inj]
    exact range_flat_prefix _ ha
  have h3 : soFar L T (i + 1) 0 0 <+: gatesG L T := by
    rw [← soFar_end]
    unfold soFar
    simp only [List.take_zero, List.append_nil, layerG, List.range_zero, List.flatMap_nil]
    exact range_flat_prefix _ (by omega)
  exact h1.trans (h2.trans h3)
end

/-! ### What a round of a loop over all gates keeps -/
def KeepC (W W' : World) : Prop := ∀ (k : Nat) (cells : Array Value) (q : TypeId), W.heap[k]? = some (.cells cells q (0, 0)) → W'.heap[k]? = some (.cells cells q (0, 0))
def Kp2 (n₀ : Nat) (W W' : World) : Prop := Below n₀ W W' ∧ KeepC W W'
theorem Kp2.trans {n₀ : Nat} {A B C : World} (h : Kp2 n₀ A B) (h' : Kp2 n₀ B C) : Kp2 n₀ A C := ⟨h.1.trans h'.1, fun k c q e => h'.2 k c q (h.2 k c q e)⟩
theorem KeepC.below {W W' : World} (h : Below W.heap.size W W') : KeepC W W' := fun k c q e => (h.block k (blk_lt e)).trans e
theorem Kp2.of_below {n₀ : Nat} {W W' : World} (h : Below W.heap.size W W') (hn : n₀ ≤ W.heap.size) : Kp2 n₀ W W' := ⟨h.mono hn, KeepC.below h⟩
theorem Kp2.putObj {n₀ : Nat} {w : World} (hn : n₀ ≤ w.heap.size) (W : World) (l : Nat) (o o' : Obj) (hl : w.heap.size ≤ l) (ho : W.heap[l]? = some o) (hc : o.isCells = false) (hw : o.isWalk = false) : Kp2 n₀ W (W.putObj l o') := by
  refine ⟨belowK_b hn W l o o' hl ho hc hw, fun k c q e => ?_⟩
  have hne : k ≠ l := by
    rintro rfl
    rw [e] at ho; cases ho; cases hc
  rw [World.putObj_heap_other hne]; exact e
theorem Kd.R_keepC {α : Type} {d : Kd α} {e base : Nat} {ok : Nat → Prop} {w w' : World} {v : Value} {xs : List α} (h : d.R e w base ok v xs) (hk : KeepC w w') : d.R e w' base ok v xs :=
  Kd.R_mono (Kd.R_move (Kd.R_bound h) (fun k ⟨_, _, _, q, _, cells, hc⟩ => (hk k cells q hc).trans hc.symm)) (fun _ hk => hk.1)
theorem AbidesFrom.below {β : Type} {B : Nat} {J : β → World → Prop} (h : AbidesFrom B J) {s : β} {W W' : World} (hs : J s W) (hb : Below W.heap.size W W') : J s W' :=
  h s W W' none hs ⟨hb.os, hb.tape, hb.output, hb.size, fun k hk _ => hb.block k hk⟩ (fun r e => by cases e)
end Go.Proofs.Ytjegihodmidhoaa.G
namespace Go.Proofs.Ytjegihodmidhoaa.G
open Go.RowKit Go.Shelf Go.Proofs.YtjegihodmidhoaaW.PrintWords Go.Proofs.YtjegihodmidhoaaW.PrintLast Go.Proofs.YtjegihodmidhoaaW.PrintMore
set_option linter.unusedVariables false
set_option linter.unusedSimpArgs false
attribute [local go_sem] Oper.semAt_some
def gv (x : S35) : Value := .agg #[.int .i64 x.f0, .int .i64 x.f1, .int .i64 x.f2, .int .i64 x.f3, .int .i64 x.f4]
abbrev encG (x : Nat × S35) : Array Value := #[.int .i64 x.1, .agg #[.int .i64 x.2.f0, .int .i64 x.2.f1, .int .i64 x.2.f2, .int .i64 x.2.f3, .int .i64 x.2.f4]]
theorem abides_below {β : Type} {B : Nat} {J : β → World → Prop} (h : AbidesFrom B J) {s : β} {W W' : World} (hs : J s W) (hb : Below W.heap.size W W') : J s W' :=
  h s W W' none hs ⟨hb.os, hb.tape, hb.output, hb.size, fun k hk _ => hb.block k hk⟩ (fun r e => by cases e)
theorem sizeS_le (a b c : Int) : 0 ≤ sizeS a b c ∧ sizeS a b c ≤ 128 := by
  by_cases hr : shR a b c = true
  · rw [sizeS_eq hr]
    obtain ⟨⟨h1, h2⟩, ⟨h3, h4⟩, ⟨h5, h6⟩, h7⟩ := (shR_iff a b c).1 hr
    obtain ⟨e1, e2, e3, e4⟩ := mul3_le h1 h2 h3 h4 h5 h6
    omega
  · simp [sizeS, hr]
theorem szN_eq (L : List S23) (i : Nat) : sizeS (rd_T23 L ((i : Int) + 1)).f0 (rd_T23 L ((i : Int) + 1)).f1 (rd_T23 L ((i : Int) + 1)).f2 = (szN L i : Int) := by
  have := sizeS_le (rd_T23 L ((i : Int) + 1)).f0 (rd_T23 L ((i : Int) + 1)).f1 (rd_T23 L ((i : Int) + 1)).f2
  unfold szN; omega
theorem szN_le (L : List S23) (i : Nat) : szN L i ≤ 128 := by
  have := sizeS_le (rd_T23 L ((i : Int) + 1)).f0 (rd_T23 L ((i : Int) + 1)).f1 (rd_T23 L ((i : Int) + 1)).f2
  unfold szN; omega
theorem soFar_le0 (L : List S23) (T : Nat → Nat → List S91) {i : Nat} (hi : i ≤ L.length - 1) : (soFar L T i 0 0).length ≤ (gatesG L T).length := by
  rw [← soFar_end]
  unfold soFar
  simp only [List.take_zero, List.append_nil, layerG, List.range_zero, List.flatMap_nil]
  exact (range_flat_prefix _ hi).length_le
theorem soFar_lt (L : List S23) (T : Nat → Nat → List S91) {i at_ k : Nat} (hi : i < L.length - 1) (ha : at_ < szN L i) (hk : k < (T i at_).length) : (soFar L T i at_ k).length < (gatesG L T).length := by
  have h := (soFar_prefix L T (k := k + 1) hi ha).length_le
  rw [soFar_succ L T hk, List.length_append] at h
  simp at h; omega
/-- Between two rounds of the iterator. -/
structure ItSt (J : List (Nat × S35) → World → Prop) (L : List S23) (T : Nat → Nat → List S91) (n₀ base : Nat) (W : World) (A2 : Option Addr) (c2 i at_ k : Nat) (g : Value) (wr : World) : Prop where
  num : g = .int .i64 (soFar L T i at_ k).length
  j : J (numbered (soFar L T i at_ k)) wr
  below : Below n₀ W wr
  row : Kd.R k23 23 wr base (fun _ => True) (.slice A2 L.length c2) L

set_option maxRecDepth 100000 in
set_option maxHeartbeats 8000000 in
theorem all1_in (n : Nat) (hn : 1 ≤ n) (l n₀ g1 : Nat) (a b c : Int) (A : Option Addr) (cp : Nat) (ls : List S63) (L : List S23) (e : Int) (T : Nat → Nat → List S91) (kk : Nat) (w0 : World)
    (hcp : ls.length ≤ cp) (hC : Kd.C k63 w0 A ls.length ls) (hw0 : w0.heap.size ≤ n₀)
    (hS : check_Shapes.f kk a b c ls = some (L, e)) (hL : L.length ≤ 9)
    (hT : ∀ i at_ : Nat, i + 1 < L.length → at_ < szN L i → ∃ k, terms_Terms.f k a b c ls i at_ = some (T i at_))
    (hN : (gatesG L T).length ≤ 1000000) (J Jx : List (Nat × S35) → World → Prop) (W : World) (hJ : AbidesFrom W.heap.size J)
    (hY : ∀ pre x W, J pre W → pre.length < (gatesG L T).length → YieldAt Fence.wide (n - 1) Try.prog l (encG x) W fun e W' =>
      (e = .returned (.bool true) ∧ J (pre ++ [x]) W' ∧ Kp2 n₀ W W') ∨ (e = .returned (.bool false) ∧ Jx (pre ++ [x]) W'))
    (hg1 : W.heap[g1]? = some (.cells #[.int .i64 a, .int .i64 b, .int .i64 c, .slice A ls.length cp] 26 (0, 0))) (hgn : g1 < n₀) (hn₀ : n₀ ≤ W.heap.size) (hBw : Below w0.heap.size w0 W) (h0 : J [] W) :
    CallsIn Fence.wide n Try.prog 73 #[.func (.yield l) #[] #[], .pointer (some ⟨g1, 0, none⟩)] W fun e W' => (∃ v, e = .returned v) ∧
      ((∃ ys, ys = numbered (gatesG L T) ∧ J ys W') ∨ (∃ pre, pre <+: numbered (gatesG L T) ∧ Jx pre W')) := by
  have hu26 := Try.underlying26
  have hu23 := Try.underlying23
  have hu91 := Try.underlying91
  have hu35 := Try.underlying35
  refine callsIn_of_wp Try.func73 rfl trivial ?_ rfl
  simp only [Try.ntmps73, List.size_toArray, List.length_cons, List.length_nil, Nat.reduceAdd, Nat.reduceSub, Array.replicate_succ, Array.replicate_zero, List.push_toArray, List.append_toArray, List.nil_append, List.cons_append]
  have HC := Aside0.mk hC
  have HW := Aside0.mk hBw
  have HS := Aside0.mk hS
  have HT := Aside0.mk hT
  have HJ := Aside0.mk hJ
  have HY := Aside0.mk hY
  have H1 := Aside0.mk hg1
  have HN := Aside0.mk hN
  have J0 := Aside0.mk h0
  clear hC hBw hS hT hJ hY hg1 hN h0
  have e0 : W.cell? ⟨g1, 0, none⟩ = some (.int .i64 a) := (blk_cell H1.out 0).trans rfl
  have e1 : W.cell? ⟨g1, 1, none⟩ = some (.int .i64 b) := (blk_cell H1.out 1).trans rfl
  have e2 : W.cell? ⟨g1, 2, none⟩ = some (.int .i64 c) := (blk_cell H1.out 2).trans rfl
  have e3 : W.cell? ⟨g1, 3, none⟩ = some (.slice A ls.length cp) := (blk_cell H1.out 3).trans rfl
  gi_wp2_with (refine ⟨trivial, ?_⟩; gi_at_call 39; refine (callsIn_wide.2 (check_Shapes.calls kk a b c A cp ls L e W (Kd.C_below HC.out HW.out) hcp HS.out)).mono ?_; rintro e w1 ⟨v, rfl, hR, hb⟩)
  obtain ⟨A2, c2, rfl, hlc, _⟩ := Kd.R_reads hR
  have I0 : Aside0 (ItSt J L T n₀ W.heap.size W A2 c2 0 0 0 (.int .i64 0) w1) := ⟨⟨by rw [soFar_zero]; rfl, by rw [soFar_zero]; exact abides_below HJ.out J0.out hb, hb.mono hn₀, hR⟩⟩
  have HB1 := Aside0.mk hb
  clear hb hR J0 e0 e1 e2 e3
  have hg0 : g1 < W.heap.size := by omega
  gi_loopw [5, 6] (fun g i wr => ∃ k : Nat, k ≤ L.length - 1 ∧ i = .int .i64 k ∧ Aside0 (ItSt J L T n₀ W.heap.size W A2 c2 k 0 0 g wr) ∧ Aside0 (W.heap.size ≤ wr.heap.size)) (fun _ i _ => L.length - (intOf i).toNat)
  case atStart => exact ⟨0, Nat.zero_le _, rfl, I0, ⟨HB1.out.size⟩⟩
  case round =>
    obtain ⟨i, hi, rfl, IS, hsz⟩ := hrel
    obtain ⟨hg, hJ1, hB1, hR1⟩ := IS.out
    subst hg
    have hlen : (soFar L T i 0 0).length ≤ 1000000 := Nat.le_trans (soFar_le0 L T hi) HN.out
    by_cases hlt : i + 1 < L.length
    · have hiL : i < L.length - 1 := by omega
      obtain ⟨A3, c3, hA3, hlc3, hCL⟩ := Kd.R_reads hR1
      cases hA3
      obtain ⟨ad, rfl, d0, d1, d2⟩ := at_T23 hCL ((i : Int) + 1) (by omega) (by omega)
      have hti : ((i : Int) + 1).toNat = i + 1 := by omega
      rw [hti] at d0 d1 d2
      clear hti hCL
      gi_wp2_with (refine ⟨trivial, ?_⟩; gi_at_call 40; refine (callsIn_wide.2 (shape_Size.calls _ _ _ _ wr ((size_eq _ _ _).trans (congrArg some (szN_eq L i))))).mono ?_; rintro e w2 ⟨rfl, hb2⟩)
      have I2 : Aside0 (ItSt J L T n₀ W.heap.size W (some ad) c2 i 0 0 (.int .i64 (soFar L T i 0 0).length) w2) := ⟨⟨rfl, abides_below HJ.out hJ1 hb2, hB1.trans (hb2.mono (Nat.le_trans hn₀ hsz.out)), Kd.R_below hR1 hb2⟩⟩
      have hsz2 : W.heap.size ≤ w2.heap.size := Nat.le_trans hsz.out hb2.size
      have hs128 := szN_le L i
      clear d0 d1 d2 hb2 hJ1 hB1 hR1 IS hsz I0 HB1
      gi_loopw [5, 28] (fun g q wr => ∃ m : Nat, m ≤ szN L i ∧ q = .int .i64 m ∧ Aside0 (ItSt J L T n₀ W.heap.size W (some ad) c2 i m 0 g wr) ∧ Aside0 (W.heap.size ≤ wr.heap.size)) (fun _ q _ => szN L i - (intOf q).toNat)
      case atStart => exact ⟨0, Nat.zero_le _, rfl, I2, ⟨hsz2⟩⟩
      case round =>
        clear I2 hsz2
        obtain ⟨m, hm, rfl, IS, hsz⟩ := hrel
        obtain ⟨hg, hJ1, hB1, hR1⟩ := IS.out
        subst hg
        by_cases hlt2 : m < szN L i
        · have hg1b := (hB1.block g1 hgn).trans H1.out
          have e0 := (blk_cell hg1b 0).trans rfl
          have e1 := (blk_cell hg1b 1).trans rfl
          have e2 := (blk_cell hg1b 2).trans rfl
          have e3 := (blk_cell hg1b 3).trans rfl
          obtain ⟨kt, hkt⟩ := HT.out i m hlt hlt2
          have HK := Aside0.mk hkt
          have HCr := Aside0.mk (Kd.C_below HC.out (HW.out.trans (hB1.mono hw0)))
          clear hkt hg1b
          gi_wp2_with (refine ⟨trivial, ?_⟩; gi_at_call 74; refine (callsIn_wide.2 (terms_Terms.calls kt a b c A cp ls i m (T i m) _ HCr.out hcp HK.out)).mono ?_; rintro e w4 ⟨v4, rfl, hR4, hb4⟩; obtain ⟨A5, c5, rfl, hlc5, _⟩ := Kd.R_reads hR4)
          have I4 : Aside0 (ItSt J L T n₀ W.heap.size W (some ad) c2 i m 0 (.int .i64 (soFar L T i m 0).length) w4) := ⟨⟨rfl, abides_below HJ.out hJ1 hb4, hB1.trans (hb4.mono (Nat.le_trans hn₀ hsz.out)), Kd.R_below hR1 hb4⟩⟩
          have hsz4 : W.heap.size ≤ w4.heap.size := Nat.le_trans hsz.out hb4.size
          have R4 := Aside0.mk hR4
          have hmx : (T i m).length ≤ 1000000 := by
            rcases Nat.eq_zero_or_pos (T i m).length with h | h
            · omega
            · have h1 := soFar_lt L T (k := (T i m).length - 1) hiL hlt2 (by omega)
              have h2 : (soFar L T i m ((T i m).length - 1)).length = (soFar L T i m 0).length + ((T i m).length - 1) := by
                simp [soFar, placeG]; omega
              have := HN.out
              omega
          clear e0 e1 e2 e3 HK HCr hR4 hb4 hJ1 hB1 hR1 IS hsz
          gi_loopw [5, 36] (fun g q wr' => ∃ p : Nat, p ≤ (T i m).length ∧ q = .int .i64 p ∧ Aside0 (ItSt J L T n₀ W.heap.size W (some ad) c2 i m p g wr') ∧ Aside0 (W.heap.size ≤ wr'.heap.size) ∧ Aside0 (Kd.R k91 91 wr' wr.heap.size (fun _ => True) (.slice A5 (T i m).length c5) (T i m))) (fun _ q _ => (T i m).length - (intOf q).toNat)
          case atStart => exact ⟨0, Nat.zero_le _, rfl, I4, ⟨hsz4⟩, R4⟩
          case round =>
            clear I4 hsz4 R4
            obtain ⟨p, hp, rfl, IS, hsz, R5⟩ := hrel
            obtain ⟨hg, hJ1, hB1, hR1⟩ := IS.out
            subst hg
            by_cases hlt3 : p < (T i m).length
            · obtain ⟨A6, c6, hA6, hlc6, hCT⟩ := Kd.R_reads R5.out
              cases hA6
              obtain ⟨ad5, rfl, d0, d1⟩ := at_T91 hCT (p : Int) (by omega) (by omega)
              have hpn : ((p : Int)).toNat = p := by omega
              rw [hpn] at d0 d1
              have hrd : rd_T91 (T i m) (p : Int) = (T i m)[p] := by simp [rd_T91, List.getD_eq_getElem?_getD, List.getElem?_eq_getElem hlt3]
              rw [hrd] at d0 d1
              have hln : (soFar L T i m p).length ≤ 1000000 := by
                have h1 := soFar_lt L T hiL hlt2 hlt3
                have := HN.out
                omega
              have hgl := soFar_lt L T hiL hlt2 hlt3
              have hsucc := soFar_succ L T hlt3
              generalize hx : (T i m)[p] = x at d0 d1 hsucc
              have HX := Aside0.mk hx
              have HSU := Aside0.mk hsucc
              have hJ2 := abides_below HJ.out hJ1 (below_alloc (Below.refl _ _) (.cells #[.int .i64 x.f0, .int .i64 x.f1] 91))
              have hR2 := Aside0.mk (Kd.R_below hR1 (below_alloc (Below.refl _ _) (.cells #[.int .i64 x.f0, .int .i64 x.f1] 91)))
              have hB2 := Aside0.mk (hB1.trans ((below_alloc (Below.refl _ _) (.cells #[.int .i64 x.f0, .int .i64 x.f1] 91)).mono (Nat.le_trans hn₀ hsz.out)))
              have hR6 := Aside0.mk (Kd.R_below R5.out (below_alloc (Below.refl _ _) (.cells #[.int .i64 x.f0, .int .i64 x.f1] 91)))
              obtain ⟨fn, tmps, assign, body, hy, hRR⟩ := HY.out _ ((soFar L T i m p).length, (⟨i, m, p, x.f0, x.f1⟩ : S35)) _ hJ2 (by rw [numbered_length]; exact hgl)
              dsimp only [encG] at hy
              have RR := Aside0.mk hRR
              clear hx hsucc hpn hrd hCT hRR hJ1 hB1 hR1 IS
              gi_wp2
              refine RR.out.mono ?_
              rintro e W3 (⟨rfl, hJ3, hk3⟩ | ⟨rfl, hJx3⟩)
              · have hnum := numbered_snoc (soFar L T i m p) (⟨i, m, p, x.f0, x.f1⟩ : S35)
                rw [← HSU.out] at hnum
                have hlen3 : ((soFar L T i m p).length : Int) + 1 = ((soFar L T i m (p + 1)).length : Int) := by rw [HSU.out]; simp
                have I6 : Aside0 (ItSt J L T n₀ W.heap.size W (some ad) c2 i m (p + 1) (.int .i64 (((soFar L T i m p).length : Int) + 1)) W3) := ⟨⟨by rw [hlen3], by rw [hnum]; exact hJ3, hB2.out.trans hk3.1, Kd.R_keepC hR2.out hk3.2⟩⟩
                have hsz3 : W.heap.size ≤ W3.heap.size := Nat.le_trans hsz.out (Nat.le_trans (by simp) hk3.1.size)
                have R7 := Aside0.mk (Kd.R_keepC hR6.out hk3.2)
                clear hnum hlen3 hJ3 hk3 d0 d1 hJ2 hR2 hB2 hR6 hy RR HSU
                gi_wp2
                go_roundw
                case rel => exact ⟨p + 1, by omega, by go_num, I6, ⟨hsz3⟩, R7⟩
                case measure => simp [intOf]; omega
              · have hpre : numbered (soFar L T i m p) ++ [((soFar L T i m p).length, (⟨i, m, p, x.f0, x.f1⟩ : S35))] <+: numbered (gatesG L T) := by
                  rw [← numbered_snoc, ← HSU.out]
                  exact numbered_prefix (soFar_prefix L T hiL hlt2)
                have HP := Aside0.mk hpre
                have HJx := Aside0.mk hJx3
                clear hpre hJx3 d0 d1 hJ2 hR2 hB2 hR6 hy RR HSU
                gi_wp2
                refine bodyPost_ret (results_none rfl _ _ _) rfl ?_
                exact ⟨⟨_, rfl⟩, .inr ⟨_, HP.out, HJx.out⟩⟩
            · obtain rfl : p = (T i m).length := by omega
              have hI5 : Aside0 (ItSt J L T n₀ W.heap.size W (some ad) c2 i (m + 1) 0 (.int .i64 (soFar L T i m (T i m).length).length) _) := ⟨by rw [soFar_place] at hJ1 ⊢; exact ⟨rfl, hJ1, hB1, hR1⟩⟩
              gi_wp2
              go_roundw
              case rel => exact ⟨m + 1, by omega, by go_num, hI5, hsz⟩
              case measure => simp [intOf]; omega
        · obtain rfl : m = szN L i := by omega
          have hI5 : Aside0 (ItSt J L T n₀ W.heap.size W (some ad) c2 (i + 1) 0 0 (.int .i64 (soFar L T i (szN L i) 0).length) _) := ⟨by rw [soFar_layer] at hJ1 ⊢; exact ⟨rfl, hJ1, hB1, hR1⟩⟩
          gi_wp2
          go_roundw
          case rel => exact ⟨i + 1, by omega, by go_num, hI5, hsz⟩
          case measure => simp [intOf]; omega
    · obtain rfl : i = L.length - 1 := by omega
      gi_wp2
      go_end0
      rw [soFar_end] at hJ1
      exact ⟨⟨_, rfl⟩, .inl ⟨_, rfl, hJ1⟩⟩
end Go.Proofs.Ytjegihodmidhoaa.G
namespace Go.Proofs.Ytjegihodmidhoaa.G
open Go.RowKit Go.Shelf Go.Proofs.YtjegihodmidhoaaW.PrintWords Go.Proofs.YtjegihodmidhoaaW.PrintLast Go.Proofs.YtjegihodmidhoaaW.PrintMore
set_option linter.unusedVariables false
set_option linter.unusedSimpArgs false
attribute [local go_sem] Oper.semAt_some
theorem gates_all_calls (a b c : Int) (A : Option Addr) (n cp : Nat) (w : World) :
    Calls Try.prog 60 #[.agg #[.int .i64 a, .int .i64 b, .int .i64 c, .slice A n cp]] w fun e w' => e = .returned (.func (.func 73) #[] #[.pointer (some ⟨w.heap.size, 0, none⟩)]) ∧ w.alloc (.cells #[.int .i64 a, .int .i64 b, .int .i64 c, .slice A n cp] 26) = w' := by
  have hu26 := Try.underlying26
  go_enter Try.func60, Try.ntmps60
  go_wp2
  go_ret
  exact ⟨rfl, rfl⟩
/-- What is known of a network: its shapes, the terms of each place. -/
structure NetOk (a b c : Int) (ls : List S63) (L : List S23) (e : Int) (T : Nat → Nat → List S91) (kk : Nat) : Prop where
  shapes : check_Shapes.f kk a b c ls = some (L, e)
  len : L.length ≤ 9
  terms : ∀ i at_ : Nat, i + 1 < L.length → at_ < szN L i → ∃ k, terms_Terms.f k a b c ls i at_ = some (T i at_)
  many : (gatesG L T).length ≤ 1000000
theorem all_stops {a b c : Int} {ls : List S63} {L : List S23} {e : Int} {T : Nat → Nat → List S91} {kk : Nat} (hn : NetOk a b c ls L e T kk) (n : Nat) (h1 : 1 ≤ n) {A : Option Addr} {cp : Nat} {w0 w : World} {g1 : Nat}
    (hcp : ls.length ≤ cp) (hC : Kd.C k63 w0 A ls.length ls) (hw0 : Below w0.heap.size w0 w) (hg1 : w.heap[g1]? = some (.cells #[.int .i64 a, .int .i64 b, .int .i64 c, .slice A ls.length cp] 26 (0, 0))) :
    SeqStopsK Fence.wide n Try.prog 73 #[.pointer (some ⟨g1, 0, none⟩)] encG (Kp2 w.heap.size) (fun ys => ys = numbered (gatesG L T)) (fun pre => pre <+: numbered (gatesG L T)) (gatesG L T).length w := fun l J Jx W hW hJ hJx hY h0 =>
  all1_in n h1 l w.heap.size g1 a b c A cp ls L e T kk w0 hcp hC hw0.size hn.shapes hn.len hn.terms hn.many J Jx W hJ hY ((hW.block g1 (blk_lt hg1)).trans hg1) (blk_lt hg1) hW.size (hw0.trans (hW.mono hw0.size)) h0

theorem cells5 {w : World} {g : Nat} {x0 x1 x2 x3 x4 : Value} {t : TypeId} (h : w.heap[g]? = some (.cells #[x0, x1, x2, x3, x4] t (0, 0))) : (w.cell? ⟨g, 0, none⟩ = some x0 ∧ w.cell? ⟨g, 1, none⟩ = some x1 ∧ w.cell? ⟨g, 2, none⟩ = some x2 ∧ w.cell? ⟨g, 3, none⟩ = some x3 ∧ w.cell? ⟨g, 4, none⟩ = some x4) ∧ w.frozen? ⟨g, 0, none⟩ = false ∧ w.frozen? ⟨g, 1, none⟩ = false ∧ w.frozen? ⟨g, 2, none⟩ = false ∧ w.frozen? ⟨g, 3, none⟩ = false ∧ w.frozen? ⟨g, 4, none⟩ = false :=
  ⟨⟨(blk_cell h 0).trans rfl, (blk_cell h 1).trans rfl, (blk_cell h 2).trans rfl, (blk_cell h 3).trans rfl, (blk_cell h 4).trans rfl⟩, blk_frozen h 0, blk_frozen h 1, blk_frozen h 2, blk_frozen h 3, blk_frozen h 4⟩
theorem cells1 {w : World} {g : Nat} {x0 : Value} {t : TypeId} (h : w.heap[g]? = some (.cells #[x0] t (0, 0))) : w.cell? ⟨g, 0, none⟩ = some x0 ∧ w.frozen? ⟨g, 0, none⟩ = false := ⟨(blk_cell h 0).trans rfl, blk_frozen h 0⟩
/-- The first one of which something is true. -/
def firstOf (p : Nat → S35 → Bool) (ys : List (Nat × S35)) : Option (Nat × S35) := ys.find? fun y => p y.1 y.2
theorem firstOf_hit {p : Nat → S35 → Bool} {pre : List (Nat × S35)} {x : Nat × S35} (h : firstOf p pre = none) (hx : p x.1 x.2 = true) : firstOf p (pre ++ [x]) = some x := by
  unfold firstOf at *; rw [List.find?_append, h]; simp [hx]
theorem firstOf_miss {p : Nat → S35 → Bool} {pre : List (Nat × S35)} {x : Nat × S35} (h : firstOf p pre = none) (hx : p x.1 x.2 = false) : firstOf p (pre ++ [x]) = none := by
  unfold firstOf at *; rw [List.find?_append, h]; simp [hx]
theorem firstOf_prefix {p : Nat → S35 → Bool} {pre ys : List (Nat × S35)} {x : Nat × S35} (h : firstOf p pre = some x) (hp : pre <+: ys) : firstOf p ys = some x := by
  obtain ⟨t, rfl⟩ := hp
  unfold firstOf at *; rw [List.find?_append, h]; rfl
/-- Cells are kept where only what is no cells turns. -/
theorem blk_own {β : Type} (B b : Nat) (t : TypeId) (f : β → Array Value) : OwnFrom B (fun s W => W.heap[b]? = some (.cells (f s) t (0, 0))) := fun s X Y row hs hg hr =>
  (hg.block b (Array.getElem?_eq_some_iff.1 hs).1 (fun e => by obtain ⟨_, o, ho, hc⟩ := hr b e.symm; rw [hs] at ho; cases ho; cases hc)).trans hs
theorem cell_own {β : Type} (B : Nat) (a : Addr) (f : β → Value) : OwnFrom B (fun s W => W.cell? a = some (f s)) := fun s X Y row hs hg hr =>
  cell_kept hs hg (fun r e => (hr r e).2)
def zB : Array Value := #[.int .i64 0, .int .i64 0, .int .i64 0, .int .i64 0, .int .i64 0]
/-- `find`'s own blocks, before something is found. -/
def FindI (D0 : Nat) (p : Nat → S35 → Bool) (B : Nat) (fv : Value) (w : World) (pre : List (Nat × S35)) (W : World) : Prop :=
  (((firstOf p pre = none ∧ W.heap[B + 1]? = some (.cells #[fv] 72 (0, 0))) ∧ W.heap[B + 1 + 1]? = some (.cells #[.int .i64 0] 3 (0, 0))) ∧
    (W.heap[B + 1 + 1 + 1]? = some (.cells #[.int .i64 0, .int .i64 0, .int .i64 0, .int .i64 0, .int .i64 0] 35 (0, 0)) ∧ W.heap[B + 1 + 1 + 1 + 1]? = some (.cells #[.bool false] 4 (0, 0)))) ∧ Below w.heap.size w W ∧ D0 ≤ W.heap.size
/-- .. and when it is. -/
def FindX (p : Nat → S35 → Bool) (B : Nat) (w : World) (pre : List (Nat × S35)) (y : Nat × S35) (W : World) : Prop :=
  (firstOf p pre = some y ∧ W.cell? ⟨B + 1 + 1, 0, none⟩ = some (.int .i64 y.1)) ∧ ((W.cell? ⟨B + 1 + 1 + 1, 0, none⟩ = some (.int .i64 y.2.f0) ∧ W.cell? ⟨B + 1 + 1 + 1, 1, none⟩ = some (.int .i64 y.2.f1)) ∧
    (W.cell? ⟨B + 1 + 1 + 1, 2, none⟩ = some (.int .i64 y.2.f2) ∧ W.cell? ⟨B + 1 + 1 + 1, 3, none⟩ = some (.int .i64 y.2.f3)) ∧ W.cell? ⟨B + 1 + 1 + 1, 4, none⟩ = some (.int .i64 y.2.f4)) ∧
    W.cell? ⟨B + 1 + 1 + 1 + 1, 0, none⟩ = some (.bool true) ∧ Below w.heap.size w W
theorem size_own {β : Type} (B D0 : Nat) : OwnFrom B (fun (_ : β) W => D0 ≤ W.heap.size) := fun _ X Y row hs hg _ => Nat.le_trans hs hg.size
theorem FindI.own (D0 : Nat) (p : Nat → S35 → Bool) (B : Nat) (fv : Value) (w : World) {D : Nat} (h : w.heap.size ≤ D) : OwnFrom D (FindI D0 p B fv w) :=
  OwnFrom.and (OwnFrom.and (OwnFrom.and (OwnFrom.and (ownFrom_pure _ _) (blk_own _ _ _ _)) (blk_own _ _ _ _)) (OwnFrom.and (blk_own _ _ _ _) (blk_own _ _ _ _))) (OwnFrom.and (ownFrom_below (Nat.le_refl _) h) (size_own _ _))
theorem FindI.step {D0 : Nat} {p : Nat → S35 → Bool} {B : Nat} {fv : Value} {w W W' : World} {pre pre' : List (Nat × S35)} (h : FindI D0 p B fv w pre W) (hb : Below W.heap.size W W') (hp : firstOf p pre = none → firstOf p pre' = none) : FindI D0 p B fv w pre' W' := by
  obtain ⟨⟨⟨⟨h0, h1⟩, h2⟩, h3, h4⟩, h5, h6⟩ := h
  exact ⟨⟨⟨⟨hp h0, blk_below h1 hb⟩, blk_below h2 hb⟩, blk_below h3 hb, blk_below h4 hb⟩, below_then h5 h5.size hb, Nat.le_trans h6 hb.size⟩
theorem KeepsFrom.of_below {B : Nat} {W W' : World} (h : Below W.heap.size W W') : KeepsFrom B W W' := ⟨h.size, fun k o _ e _ => (h.block k (Array.getElem?_eq_some_iff.1 e).1).trans e⟩
theorem FindX.own (p : Nat → S35 → Bool) (B : Nat) (w : World) (y : Nat × S35) {D : Nat} (h : w.heap.size ≤ D) : OwnFrom D (fun pre W => FindX p B w pre y W) :=
  OwnFrom.and (OwnFrom.and (ownFrom_pure _ _) (cell_own _ _ _)) (OwnFrom.and (OwnFrom.and (OwnFrom.and (cell_own _ _ _) (cell_own _ _ _)) (OwnFrom.and (OwnFrom.and (cell_own _ _ _) (cell_own _ _ _)) (cell_own _ _ _))) (OwnFrom.and (cell_own _ _ _) (ownFrom_below (Nat.le_refl _) h)))
def findR (p : Nat → S35 → Bool) (ys : List (Nat × S35)) : Value := match firstOf p ys with
  | some y => .tuple #[.int .i64 y.1, .agg #[.int .i64 y.2.f0, .int .i64 y.2.f1, .int .i64 y.2.f2, .int .i64 y.2.f3, .int .i64 y.2.f4], .bool true]
  | none => .tuple #[.int .i64 (-1), .agg #[.int .i64 0, .int .i64 0, .int .i64 0, .int .i64 0, .int .i64 0], .bool false]

set_option maxHeartbeats 1000000 in
theorem results42 {W : World} {g : Nat} {v0 x0 x1 x2 x3 x4 v1 : Value} {tmps : Array Value} (h4 : tmps[4]?.getD undef = .pointer (some ⟨g, 0, none⟩)) (h5 : tmps[5]?.getD undef = .pointer (some ⟨g + 1, 0, none⟩)) (h6 : tmps[6]?.getD undef = .pointer (some ⟨g + 1 + 1, 0, none⟩))
    (c0 : W.cell? ⟨g, 0, none⟩ = some v0) (d0 : W.cell? ⟨g + 1, 0, none⟩ = some x0) (d1 : W.cell? ⟨g + 1, 1, none⟩ = some x1) (d2 : W.cell? ⟨g + 1, 2, none⟩ = some x2) (d3 : W.cell? ⟨g + 1, 3, none⟩ = some x3) (d4 : W.cell? ⟨g + 1, 4, none⟩ = some x4) (c1 : W.cell? ⟨g + 1 + 1, 0, none⟩ = some v1) :
    (results Try.f42 tmps).run Try.prog W = .ok (.tuple #[v0, .agg #[x0, x1, x2, x3, x4], v1]) W := by
  have hu35 := Try.underlying35
  simp [results, Try.results42, go_sem, h4, h5, h6, c0, c1, d0, d1, d2, d3, d4]
theorem nest7 {W : World} {g : Nat} {a0 b0 b1 b2 b3 b4 a1 : Value} (v0 x0 x1 x2 x3 x4 v1 : Value) (k2 : W.cell? ⟨g, 0, none⟩ = some a0) (k30 : W.cell? ⟨g + 1, 0, none⟩ = some b0) (k31 : W.cell? ⟨g + 1, 1, none⟩ = some b1) (k32 : W.cell? ⟨g + 1, 2, none⟩ = some b2) (k33 : W.cell? ⟨g + 1, 3, none⟩ = some b3) (k34 : W.cell? ⟨g + 1, 4, none⟩ = some b4) (k4 : W.cell? ⟨g + 1 + 1, 0, none⟩ = some a1) :
    ((((((((W.setCell ⟨g, 0, none⟩ v0).setCell ⟨g + 1, 0, none⟩ x0).setCell ⟨g + 1, 1, none⟩ x1).setCell ⟨g + 1, 2, none⟩ x2).setCell ⟨g + 1, 3, none⟩ x3).setCell ⟨g + 1, 4, none⟩ x4).setCell ⟨g + 1 + 1, 0, none⟩ v1).cell? ⟨g, 0, none⟩ = some v0 ∧ (((((((W.setCell ⟨g, 0, none⟩ v0).setCell ⟨g + 1, 0, none⟩ x0).setCell ⟨g + 1, 1, none⟩ x1).setCell ⟨g + 1, 2, none⟩ x2).setCell ⟨g + 1, 3, none⟩ x3).setCell ⟨g + 1, 4, none⟩ x4).setCell ⟨g + 1 + 1, 0, none⟩ v1).cell? ⟨g + 1, 0, none⟩ = some x0 ∧ (((((((W.setCell ⟨g, 0, none⟩ v0).setCell ⟨g + 1, 0, none⟩ x0).setCell ⟨g + 1, 1, none⟩ x1).setCell ⟨g + 1, 2, none⟩ x2).setCell ⟨g + 1, 3, none⟩ x3).setCell ⟨g + 1, 4, none⟩ x4).setCell ⟨g + 1 + 1, 0, none⟩ v1).cell? ⟨g + 1, 1, none⟩ = some x1 ∧ (((((((W.setCell ⟨g, 0, none⟩ v0).setCell ⟨g + 1, 0, none⟩ x0).setCell ⟨g + 1, 1, none⟩ x1).setCell ⟨g + 1, 2, none⟩ x2).setCell ⟨g + 1, 3, none⟩ x3).setCell ⟨g + 1, 4, none⟩ x4).setCell ⟨g + 1 + 1, 0, none⟩ v1).cell? ⟨g + 1, 2, none⟩ = some x2) ∧ (((((((W.setCell ⟨g, 0, none⟩ v0).setCell ⟨g + 1, 0, none⟩ x0).setCell ⟨g + 1, 1, none⟩ x1).setCell ⟨g + 1, 2, none⟩ x2).setCell ⟨g + 1, 3, none⟩ x3).setCell ⟨g + 1, 4, none⟩ x4).setCell ⟨g + 1 + 1, 0, none⟩ v1).cell? ⟨g + 1, 3, none⟩ = some x3 ∧ (((((((W.setCell ⟨g, 0, none⟩ v0).setCell ⟨g + 1, 0, none⟩ x0).setCell ⟨g + 1, 1, none⟩ x1).setCell ⟨g + 1, 2, none⟩ x2).setCell ⟨g + 1, 3, none⟩ x3).setCell ⟨g + 1, 4, none⟩ x4).setCell ⟨g + 1 + 1, 0, none⟩ v1).cell? ⟨g + 1, 4, none⟩ = some x4 ∧ (((((((W.setCell ⟨g, 0, none⟩ v0).setCell ⟨g + 1, 0, none⟩ x0).setCell ⟨g + 1, 1, none⟩ x1).setCell ⟨g + 1, 2, none⟩ x2).setCell ⟨g + 1, 3, none⟩ x3).setCell ⟨g + 1, 4, none⟩ x4).setCell ⟨g + 1 + 1, 0, none⟩ v1).cell? ⟨g + 1 + 1, 0, none⟩ = some v1 := by
  refine ⟨⟨?_, ?_, ?_, ?_⟩, ?_, ?_, ?_⟩ <;> go_simp
theorem cell_drew' {W : World} {a : Addr} {v : Option Value} (h : W.cell? a = v) : W.drew.cell? a = v := h
theorem keepsFrom_set {B : Nat} {W W1 : World} {p : Addr} {v : Value} (h : KeepsFrom B W W1) : KeepsFrom B W (W1.setCell p v) := h.trans ((KeepsOthers.setCell W1 p v).from _)
theorem keepsFrom_drew {B : Nat} {W W1 : World} (h : KeepsFrom B W W1) : KeepsFrom B W W1.drew := h.trans ((KeepsOthers.drew W1).from _)
theorem kept_def {D : Nat} {W : World} {p : Addr} {v : Value} (h : W.heap[D]? = some (.deferred (some []))) : (W.setCell p v).heap[D]? = some (.deferred (some [])) := (KeepsOthers.setCell W p v).same D _ h rfl
theorem kept_cell {D : Nat} {W : World} {a : Addr} {v : Value} (hD : W.heap[D]? = some (.deferred (some []))) (h : W.cell? a = some v) : (W.putObj D (.deferred none)).cell? a = some v :=
  cell_kept h (grownBy_putObj' _ D (.deferred none)) (fun r e => by cases e; exact ⟨_, hD, rfl⟩)
set_option maxRecDepth 100000 in
set_option maxHeartbeats 4000000 in
theorem find43 {a b c : Int} {ls : List S63} {L : List S23} {e : Int} {T : Nat → Nat → List S91} {kk : Nat} (hn : NetOk a b c ls L e T kk) (p : Nat → S35 → Bool) (caps : Array Value) {A : Option Addr} {cp : Nat} (w : World)
    (hcp : ls.length ≤ cp) (hC : Kd.C k63 w A ls.length ls)
    (hIs : ∀ (x : Nat × S35) (W : World), Below w.heap.size w W → Calls Try.prog 43 (#[.int .i64 x.1, .agg #[.int .i64 x.2.f0, .int .i64 x.2.f1, .int .i64 x.2.f2, .int .i64 x.2.f3, .int .i64 x.2.f4]] ++ caps) W fun e w' => e = .returned (.bool (p x.1 x.2)) ∧ Below W.heap.size W w') :
    Calls Try.prog 42 #[.agg #[.int .i64 a, .int .i64 b, .int .i64 c, .slice A ls.length cp], .func (.func 43) #[] caps] w fun e w' => e = .returned (findR p (numbered (gatesG L T))) ∧ Below w.heap.size w w' := by
  have hu26 := Try.underlying26
  have hu35 := Try.underlying35
  have hu23 := Try.underlying23
  have HIS := Aside0.mk hIs
  clear hIs
  refine (callsIn_wide (n := 6)).1 ?_
  refine callsIn_of_wp_marks Try.func42 rfl trivial ?_ rfl
  simp only [Try.ntmps42, List.size_toArray, List.length_cons, List.length_nil, Nat.reduceAdd, Nat.reduceSub, Array.replicate_succ, Array.replicate_zero, List.push_toArray, List.append_toArray, List.nil_append, List.cons_append]
  gi_wp2_with (refine ⟨trivial, ?_⟩; gi_at_call 60; refine (callsIn_wide.2 (gates_all_calls a b c A ls.length cp _)).mono ?_; rintro e w' ⟨rfl, rfl⟩)
  obtain ⟨B, hB⟩ : ∃ B, w.heap.size = B := ⟨_, rfl⟩
  obtain ⟨W0, hW0⟩ : ∃ W0, (((((w.alloc (.cells #[.int .i64 a, .int .i64 b, .int .i64 c, .slice A ls.length cp] 26)).alloc (.cells #[.func (.func 43) #[] caps] 72)).alloc (.cells #[.int .i64 0] 3)).alloc (.cells #[.int .i64 0, .int .i64 0, .int .i64 0, .int .i64 0, .int .i64 0] 35)).alloc (.cells #[.bool false] 4)).alloc (.cells #[.int .i64 a, .int .i64 b, .int .i64 c, .slice A ls.length cp] 26) = W0 := ⟨_, rfl⟩
  have hB0 : Below w.heap.size w W0 := by rw [← hW0]; repeat (first | exact Below.refl _ _ | apply below_alloc)
  have hsz : W0.heap.size = B + 6 := by rw [← hW0, ← hB]; simp
  have hI0 : FindI W0.heap.size p B (.func (.func 43) #[] caps) w [] W0 := by
    subst hB
    rw [← hW0]
    refine ⟨⟨⟨⟨rfl, ?_⟩, ?_⟩, ?_, ?_⟩, ?_, Nat.le_refl _⟩
    · exact blk_alloc (blk_alloc (blk_alloc (blk_alloc (by have := heap_alloc_new (w.alloc (.cells #[.int .i64 a, .int .i64 b, .int .i64 c, .slice A ls.length cp] 26)) (.cells #[.func (.func 43) #[] caps] 72); rwa [World.size_alloc] at this) _) _) _) _
    · exact blk_alloc (blk_alloc (blk_alloc (by have := heap_alloc_new ((w.alloc (.cells #[.int .i64 a, .int .i64 b, .int .i64 c, .slice A ls.length cp] 26)).alloc (.cells #[.func (.func 43) #[] caps] 72)) (.cells #[.int .i64 0] 3); rwa [World.size_alloc, World.size_alloc] at this) _) _) _
    · exact blk_alloc (blk_alloc (by have := heap_alloc_new (((w.alloc (.cells #[.int .i64 a, .int .i64 b, .int .i64 c, .slice A ls.length cp] 26)).alloc (.cells #[.func (.func 43) #[] caps] 72)).alloc (.cells #[.int .i64 0] 3)) (.cells #[.int .i64 0, .int .i64 0, .int .i64 0, .int .i64 0, .int .i64 0] 35); rwa [World.size_alloc, World.size_alloc, World.size_alloc] at this) _) _
    · exact blk_alloc (by have := heap_alloc_new ((((w.alloc (.cells #[.int .i64 a, .int .i64 b, .int .i64 c, .slice A ls.length cp] 26)).alloc (.cells #[.func (.func 43) #[] caps] 72)).alloc (.cells #[.int .i64 0] 3)).alloc (.cells #[.int .i64 0, .int .i64 0, .int .i64 0, .int .i64 0, .int .i64 0] 35)) (.cells #[.bool false] 4); rwa [World.size_alloc, World.size_alloc, World.size_alloc, World.size_alloc] at this) _
    · rw [hW0]; exact hB0
  have hg5 : W0.heap[B + 1 + 1 + 1 + 1 + 1]? = some (.cells #[.int .i64 a, .int .i64 b, .int .i64 c, .slice A ls.length cp] 26 (0, 0)) := by
    subst hB
    rw [← hW0]
    have := heap_alloc_new (((((w.alloc (.cells #[.int .i64 a, .int .i64 b, .int .i64 c, .slice A ls.length cp] 26)).alloc (.cells #[.func (.func 43) #[] caps] 72)).alloc (.cells #[.int .i64 0] 3)).alloc (.cells #[.int .i64 0, .int .i64 0, .int .i64 0, .int .i64 0, .int .i64 0] 35)).alloc (.cells #[.bool false] 4)) (.cells #[.int .i64 a, .int .i64 b, .int .i64 c, .slice A ls.length cp] 26)
    rwa [World.size_alloc, World.size_alloc, World.size_alloc, World.size_alloc, World.size_alloc] at this
  simp only [hB]
  rw [hW0]
  clear hW0
  have hwB : w.heap.size ≤ W0.heap.size := hB0.size
  refine wpIn_rangeFunc_ownH rfl (by decide) (gf := 73) (lb := #[.pointer (some ⟨B + 1 + 1 + 1 + 1 + 1, 0, none⟩)]) rfl trivial (enters_of Try.func73 (by kernel_rfl) rfl)
    (all_stops hn (6 - 1) (by decide) hcp hC hB0 hg5) (fun h h' => h.trans h') (Kp2.putObj (Nat.le_refl _)) (Below.refl _ _) (fun _ => rfl)
    (FindI W0.heap.size p B (.func (.func 43) #[] caps) w) (fun c pre W => c = .ret ∧ ∃ y, FindX p B w pre y W) (FindI.own _ _ _ _ _ hwB)
    (fun c s X Y row hs hg hr => by obtain ⟨hc, y, hy⟩ := hs; exact ⟨hc, y, FindX.own p B w y hwB s X Y row hy hg hr⟩) hI0
    (fun x a' W => ∃ Bx, B + 1 + 1 + 1 + 1 + 1 < Bx ∧ W.heap[Bx]? = some (.cells #[.int .i64 x.2.f0, .int .i64 x.2.f1, .int .i64 x.2.f2, .int .i64 x.2.f3, .int .i64 x.2.f4] 35 (0, 0)) ∧
      a' = { tmps := #[.agg #[.int .i64 a, .int .i64 b, .int .i64 c, .slice A ls.length cp], .func (.func 43) #[] caps, .pointer (some ⟨B, 0, none⟩), .pointer (some ⟨B + 1, 0, none⟩), .pointer (some ⟨B + 1 + 1, 0, none⟩), .pointer (some ⟨B + 1 + 1 + 1, 0, none⟩), .pointer (some ⟨B + 1 + 1 + 1 + 1, 0, none⟩), .int .i64 x.1, .pointer (some ⟨Bx, 0, none⟩), .agg #[.int .i64 a, .int .i64 b, .int .i64 c, .slice A ls.length cp], .func (.func 73) #[] #[.pointer (some ⟨B + 1 + 1 + 1 + 1 + 1, 0, none⟩)], .int .i64 x.1, .agg #[.int .i64 x.2.f0, .int .i64 x.2.f1, .int .i64 x.2.f2, .int .i64 x.2.f3, .int .i64 x.2.f4], undef, undef, undef, undef, undef, undef, undef], defers := [] })
    (fun x a' s X Y row hs hg hr => by obtain ⟨Bx, h1, h2, h3⟩ := hs; exact ⟨Bx, h1, blk_own _ _ _ (fun (_ : Unit) => _) () X Y row h2 hg hr, h3⟩) ?assign ?body ?done ?stop
  case assign =>
    intro l pre x W K hi hK
    gi_wp2
    have hbb := below_alloc (Below.refl W.heap.size W) (.cells #[.int .i64 x.2.f0, .int .i64 x.2.f1, .int .i64 x.2.f2, .int .i64 x.2.f3, .int .i64 x.2.f4] 35)
    have h6 := hi.2.2
    exact hK _ _ (KeepsFrom.of_below hbb) (Kp2.of_below hbb h6) (hi.step hbb id) ⟨W.heap.size, by omega, heap_alloc_new _ _, rfl⟩
  case body =>
    rintro l pre x a' W hl ⟨r, hr⟩ hI ⟨Bx, hBx, bX, rfl⟩ hlt
    obtain ⟨⟨⟨⟨h0, h1⟩, h2⟩, h3, h4⟩, h5, h6⟩ := id hI
    have c1 := (blk_cell h1 0).trans rfl
    have x0 := (blk_cell bX 0).trans rfl
    have x1 := (blk_cell bX 1).trans rfl
    have x2 := (blk_cell bX 2).trans rfl
    have x3 := (blk_cell bX 3).trans rfl
    have x4 := (blk_cell bX 4).trans rfl
    have HI := Aside0.mk hI
    have HX := Aside0.mk bX
    have HC := Aside0.mk (HIS.out x W h5)
    have H2 := Aside0.mk h2
    have H3 := Aside0.mk h3
    have H4 := Aside0.mk h4
    have H0 := Aside0.mk h0
    clear hI bX h0 h1 h2 h3 h4 hI0 hg5
    have b1 : ¬ Bx = B + 1 + 1 := by omega
    have b2 : ¬ Bx = B + 1 + 1 + 1 := by omega
    have b3 : ¬ Bx = B + 1 + 1 + 1 + 1 := by omega
    generalize hq : p x.1 x.2 = q at HC
    have HQ := Aside0.mk hq
    clear hq
    cases q
    · gi_wp2_with (refine ⟨trivial, ?_⟩; gi_at_call 43; refine (CallsIn.inRound l (callsIn_wide.2 HC.out)).mono ?_; rintro e w2 ⟨rfl, hb2⟩)
      exact ⟨KeepsFrom.of_below hb2, Kp2.of_below hb2 h6, HI.out.step hb2 (fun h => firstOf_miss h HQ.out)⟩
    · gi_wp2_with (refine ⟨trivial, ?_⟩; gi_at_call 43; refine (CallsIn.inRound l (callsIn_wide.2 HC.out)).mono ?_; rintro e w2 ⟨rfl, hb2⟩; obtain ⟨k2, f2⟩ := cells1 (blk_below H2.out hb2); obtain ⟨⟨k30, k31, k32, k33, k34⟩, f30, f31, f32, f33, f34⟩ := cells5 (blk_below H3.out hb2); obtain ⟨k4, f4⟩ := cells1 (blk_below H4.out hb2); obtain ⟨⟨y0, y1, y2, y3, y4⟩, _, _, _, _, _⟩ := cells5 (blk_below HX.out hb2))
      all_goals
        have HB2 := Aside0.mk hb2
        clear hb2
      have hfo : Try.prog.follows Departure.mixedOrders = true := by kernel_rfl
      gi_region_with_o (fail)
      all_goals gi_wp2
      all_goals
        obtain ⟨⟨n0, n1, n2, n3⟩, n4, n5, n6⟩ := nest7 (.int .i64 x.1) (.int .i64 x.2.f0) (.int .i64 x.2.f1) (.int .i64 x.2.f2) (.int .i64 x.2.f3) (.int .i64 x.2.f4) (.bool true) k2 k30 k31 k32 k33 k34 k4
        refine ⟨?_, rfl, x, ⟨firstOf_hit H0.out HQ.out, cell_drew' n0⟩, ⟨⟨cell_drew' n1, cell_drew' n2⟩, ⟨cell_drew' n3, cell_drew' n4⟩, cell_drew' n5⟩, cell_drew' n6, ?_⟩
        · with_reducible
            (repeat (first | refine keepsFrom_set ?_ | refine keepsFrom_drew ?_))
            exact KeepsFrom.of_below HB2.out
        · refine below_drew ?_
          exact below_set (below_set (below_set (below_set (below_set (below_set (below_set (below_then h5 h5.size HB2.out) (by omega)) (by omega)) (by omega)) (by omega)) (by omega)) (by omega)) (by omega)
  case done =>
    rintro D ys W hD rfl hI hK
    obtain ⟨⟨⟨⟨h0, h1⟩, h2⟩, h3, h4⟩, h5, h6⟩ := hI
    obtain ⟨k2, f2⟩ := cells1 h2
    obtain ⟨⟨k30, k31, k32, k33, k34⟩, f30, f31, f32, f33, f34⟩ := cells5 h3
    obtain ⟨k4, f4⟩ := cells1 h4
    clear hI0 hg5
    have HH := Aside0.mk h0
    have hDB : B + 1 + 1 + 1 + 1 < D := by omega
    gi_wp2
    obtain ⟨Wf, hWf⟩ : ∃ Wf, (((((((W.setCell ⟨B + 1 + 1, 0, none⟩ (.int .i64 (-1))).setCell ⟨B + 1 + 1 + 1, 0, none⟩ (.int .i64 0)).setCell ⟨B + 1 + 1 + 1, 1, none⟩ (.int .i64 0)).setCell ⟨B + 1 + 1 + 1, 2, none⟩ (.int .i64 0)).setCell ⟨B + 1 + 1 + 1, 3, none⟩ (.int .i64 0)).setCell ⟨B + 1 + 1 + 1, 4, none⟩ (.int .i64 0)).setCell ⟨B + 1 + 1 + 1 + 1, 0, none⟩ (.bool false)) = Wf := ⟨_, rfl⟩
    obtain ⟨⟨q0, q1, q2, q3⟩, q4, q5, q6⟩ := nest7 (.int .i64 (-1)) (.int .i64 0) (.int .i64 0) (.int .i64 0) (.int .i64 0) (.int .i64 0) (.bool false) k2 k30 k31 k32 k33 k34 k4
    rw [hWf] at q0 q1 q2 q3 q4 q5 q6
    have hKf : Wf.heap[D]? = some (.deferred (some [])) := by
      rw [← hWf]
      exact kept_def (kept_def (kept_def (kept_def (kept_def (kept_def (kept_def hK))))))
    have hBf : Below w.heap.size w Wf := by
      rw [← hWf]
      exact below_set (below_set (below_set (below_set (below_set (below_set (below_set h5 (by omega)) (by omega)) (by omega)) (by omega)) (by omega)) (by omega)) (by omega)
    rw [hWf]
    refine ⟨by simp, .inl ⟨_, _, rfl, run_takeDeferred hKf, ?_⟩⟩
    exact ⟨_, results42 (g := B + 1 + 1) rfl rfl rfl (kept_cell hKf q0) (kept_cell hKf q1) (kept_cell hKf q2) (kept_cell hKf q3) (kept_cell hKf q4) (kept_cell hKf q5) (kept_cell hKf q6), by simp only [findR, HH.out], hBf.trans (belowK_b (w := w) (Nat.le_refl _) Wf D _ _ (by omega) hKf rfl rfl)⟩
  case stop =>
    rintro D c pre W hD hSp ⟨rfl, y, hX⟩ hK
    obtain ⟨⟨hf, q0⟩, ⟨⟨q1, q2⟩, ⟨q3, q4⟩, q5⟩, q6, hBf⟩ := hX
    have hfull := firstOf_prefix hf hSp
    have HF := Aside0.mk hfull
    clear hfull hf
    gi_wp2
    refine ⟨by simp, .inl ⟨_, _, rfl, run_takeDeferred hK, ?_⟩⟩
    exact ⟨_, results42 (g := B + 1 + 1) rfl rfl rfl (kept_cell hK q0) (kept_cell hK q1) (kept_cell hK q2) (kept_cell hK q3) (kept_cell hK q4) (kept_cell hK q5) (kept_cell hK q6), by simp only [findR, HF.out], hBf.trans (belowK_b (w := w) (Nat.le_refl _) W D _ _ (by omega) hK rfl rfl)⟩
end Go.Proofs.Ytjegihodmidhoaa.G
namespace Go.Proofs.Ytjegihodmidhoaa.G
open Go.RowKit Go.Shelf Go.Proofs.YtjegihodmidhoaaW.PrintWords Go.Proofs.YtjegihodmidhoaaW.PrintLast Go.Proofs.YtjegihodmidhoaaW.PrintMore
set_option linter.unusedVariables false
set_option linter.unusedSimpArgs false
attribute [local go_sem] Oper.semAt_some
set_option maxRecDepth 100000 in
set_option maxHeartbeats 4000000 in
theorem find57 {a b c : Int} {ls : List S63} {L : List S23} {e : Int} {T : Nat → Nat → List S91} {kk : Nat} (hn : NetOk a b c ls L e T kk) (p : Nat → S35 → Bool) (caps : Array Value) {A : Option Addr} {cp : Nat} (w : World)
    (hcp : ls.length ≤ cp) (hC : Kd.C k63 w A ls.length ls)
    (hIs : ∀ (x : Nat × S35) (W : World), Below w.heap.size w W → Calls Try.prog 57 (#[.int .i64 x.1, .agg #[.int .i64 x.2.f0, .int .i64 x.2.f1, .int .i64 x.2.f2, .int .i64 x.2.f3, .int .i64 x.2.f4]] ++ caps) W fun e w' => e = .returned (.bool (p x.1 x.2)) ∧ Below W.heap.size W w') :
    Calls Try.prog 42 #[.agg #[.int .i64 a, .int .i64 b, .int .i64 c, .slice A ls.length cp], .func (.func 57) #[] caps] w fun e w' => e = .returned (findR p (numbered (gatesG L T))) ∧ Below w.heap.size w w' := by
  have hu26 := Try.underlying26
  have hu35 := Try.underlying35
  have hu23 := Try.underlying23
  have HIS := Aside0.mk hIs
  clear hIs
  refine (callsIn_wide (n := 6)).1 ?_
  refine callsIn_of_wp_marks Try.func42 rfl trivial ?_ rfl
  simp only [Try.ntmps42, List.size_toArray, List.length_cons, List.length_nil, Nat.reduceAdd, Nat.reduceSub, Array.replicate_succ, Array.replicate_zero, List.push_toArray, List.append_toArray, List.nil_append, List.cons_append]
  gi_wp2_with (refine ⟨trivial, ?_⟩; gi_at_call 60; refine (callsIn_wide.2 (gates_all_calls a b c A ls.length cp _)).mono ?_; rintro e w' ⟨rfl, rfl⟩)
  obtain ⟨B, hB⟩ : ∃ B, w.heap.size = B := ⟨_, rfl⟩
  obtain ⟨W0, hW0⟩ : ∃ W0, (((((w.alloc (.cells #[.int .i64 a, .int .i64 b, .int .i64 c, .slice A ls.length cp] 26)).alloc (.cells #[.func (.func 57) #[] caps] 72)).alloc (.cells #[.int .i64 0] 3)).alloc (.cells #[.int .i64 0, .int .i64 0, .int .i64 0, .int .i64 0, .int .i64 0] 35)).alloc (.cells #[.bool false] 4)).alloc (.cells #[.int .i64 a, .int .i64 b, .int .i64 c, .slice A ls.length cp] 26) = W0 := ⟨_, rfl⟩
  have hB0 : Below w.heap.size w W0 := by rw [← hW0]; repeat (first | exact Below.refl _ _ | apply below_alloc)
  have hsz : W0.heap.size = B + 6 := by rw [← hW0, ← hB]; simp
  have hI0 : FindI W0.heap.size p B (.func (.func 57) #[] caps) w [] W0 := by
    subst hB
    rw [← hW0]
    refine ⟨⟨⟨⟨rfl, ?_⟩, ?_⟩, ?_, ?_⟩, ?_, Nat.le_refl _⟩
    · exact blk_alloc (blk_alloc (blk_alloc (blk_alloc (by have := heap_alloc_new (w.alloc (.cells #[.int .i64 a, .int .i64 b, .int .i64 c, .slice A ls.length cp] 26)) (.cells #[.func (.func 57) #[] caps] 72); rwa [World.size_alloc] at this) _) _) _) _
    · exact blk_alloc (blk_alloc (blk_alloc (by have := heap_alloc_new ((w.alloc (.cells #[.int .i64 a, .int .i64 b, .int .i64 c, .slice A ls.length cp] 26)).alloc (.cells #[.func (.func 57) #[] caps] 72)) (.cells #[.int .i64 0] 3); rwa [World.size_alloc, World.size_alloc] at this) _) _) _
    · exact blk_alloc (blk_alloc (by have := heap_alloc_new (((w.alloc (.cells #[.int .i64 a, .int .i64 b, .int .i64 c, .slice A ls.length cp] 26)).alloc (.cells #[.func (.func 57) #[] caps] 72)).alloc (.cells #[.int .i64 0] 3)) (.cells #[.int .i64 0, .int .i64 0, .int .i64 0, .int .i64 0, .int .i64 0] 35); rwa [World.size_alloc, World.size_alloc, World.size_alloc] at this) _) _
    · exact blk_alloc (by have := heap_alloc_new ((((w.alloc (.cells #[.int .i64 a, .int .i64 b, .int .i64 c, .slice A ls.length cp] 26)).alloc (.cells #[.func (.func 57) #[] caps] 72)).alloc (.cells #[.int .i64 0] 3)).alloc (.cells #[.int .i64 0, .int .i64 0, .int .i64 0, .int .i64 0, .int .i64 0] 35)) (.cells #[.bool false] 4); rwa [World.size_alloc, World.size_alloc, World.size_alloc, World.size_alloc] at this) _
    · rw [hW0]; exact hB0
  have hg5 : W0.heap[B + 1 + 1 + 1 + 1 + 1]? = some (.cells #[.int .i64 a, .int .i64 b, .int .i64 c, .slice A ls.length cp] 26 (0, 0)) := by
    subst hB
    rw [← hW0]
    have := heap_alloc_new (((((w.alloc (.cells #[.int .i64 a, .int .i64 b, .int .i64 c, .slice A ls.length cp] 26)).alloc (.cells #[.func (.func 57) #[] caps] 72)).alloc (.cells #[.int .i64 0] 3)).alloc (.cells #[.int .i64 0, .int .i64 0, .int .i64 0, .int .i64 0, .int .i64 0] 35)).alloc (.cells #[.bool false] 4)) (.cells #[.int .i64 a, .int .i64 b, .int .i64 c, .slice A ls.length cp] 26)
    rwa [World.size_alloc, World.size_alloc, World.size_alloc, World.size_alloc, World.size_alloc] at this
  simp only [hB]
  rw [hW0]
  clear hW0
  have hwB : w.heap.size ≤ W0.heap.size := hB0.size
  refine wpIn_rangeFunc_ownH rfl (by decide) (gf := 73) (lb := #[.pointer (some ⟨B + 1 + 1 + 1 + 1 + 1, 0, none⟩)]) rfl trivial (enters_of Try.func73 (by kernel_rfl) rfl)
    (all_stops hn (6 - 1) (by decide) hcp hC hB0 hg5) (fun h h' => h.trans h') (Kp2.putObj (Nat.le_refl _)) (Below.refl _ _) (fun _ => rfl)
    (FindI W0.heap.size p B (.func (.func 57) #[] caps) w) (fun c pre W => c = .ret ∧ ∃ y, FindX p B w pre y W) (FindI.own _ _ _ _ _ hwB)
    (fun c s X Y row hs hg hr => by obtain ⟨hc, y, hy⟩ := hs; exact ⟨hc, y, FindX.own p B w y hwB s X Y row hy hg hr⟩) hI0
    (fun x a' W => ∃ Bx, B + 1 + 1 + 1 + 1 + 1 < Bx ∧ W.heap[Bx]? = some (.cells #[.int .i64 x.2.f0, .int .i64 x.2.f1, .int .i64 x.2.f2, .int .i64 x.2.f3, .int .i64 x.2.f4] 35 (0, 0)) ∧
      a' = { tmps := #[.agg #[.int .i64 a, .int .i64 b, .int .i64 c, .slice A ls.length cp], .func (.func 57) #[] caps, .pointer (some ⟨B, 0, none⟩), .pointer (some ⟨B + 1, 0, none⟩), .pointer (some ⟨B + 1 + 1, 0, none⟩), .pointer (some ⟨B + 1 + 1 + 1, 0, none⟩), .pointer (some ⟨B + 1 + 1 + 1 + 1, 0, none⟩), .int .i64 x.1, .pointer (some ⟨Bx, 0, none⟩), .agg #[.int .i64 a, .int .i64 b, .int .i64 c, .slice A ls.length cp], .func (.func 73) #[] #[.pointer (some ⟨B + 1 + 1 + 1 + 1 + 1, 0, none⟩)], .int .i64 x.1, .agg #[.int .i64 x.2.f0, .int .i64 x.2.f1, .int .i64 x.2.f2, .int .i64 x.2.f3, .int .i64 x.2.f4], undef, undef, undef, undef, undef, undef, undef], defers := [] })
    (fun x a' s X Y row hs hg hr => by obtain ⟨Bx, h1, h2, h3⟩ := hs; exact ⟨Bx, h1, blk_own _ _ _ (fun (_ : Unit) => _) () X Y row h2 hg hr, h3⟩) ?assign ?body ?done ?stop
  case assign =>
    intro l pre x W K hi hK
    gi_wp2
    have hbb := below_alloc (Below.refl W.heap.size W) (.cells #[.int .i64 x.2.f0, .int .i64 x.2.f1, .int .i64 x.2.f2, .int .i64 x.2.f3, .int .i64 x.2.f4] 35)
    have h6 := hi.2.2
    exact hK _ _ (KeepsFrom.of_below hbb) (Kp2.of_below hbb h6) (hi.step hbb id) ⟨W.heap.size, by omega, heap_alloc_new _ _, rfl⟩
  case body =>
    rintro l pre x a' W hl ⟨r, hr⟩ hI ⟨Bx, hBx, bX, rfl⟩ hlt
    obtain ⟨⟨⟨⟨h0, h1⟩, h2⟩, h3, h4⟩, h5, h6⟩ := id hI
    have c1 := (blk_cell h1 0).trans rfl
    have x0 := (blk_cell bX 0).trans rfl
    have x1 := (blk_cell bX 1).trans rfl
    have x2 := (blk_cell bX 2).trans rfl
    have x3 := (blk_cell bX 3).trans rfl
    have x4 := (blk_cell bX 4).trans rfl
    have HI := Aside0.mk hI
    have HX := Aside0.mk bX
    have HC := Aside0.mk (HIS.out x W h5)
    have H2 := Aside0.mk h2
    have H3 := Aside0.mk h3
    have H4 := Aside0.mk h4
    have H0 := Aside0.mk h0
    clear hI bX h0 h1 h2 h3 h4 hI0 hg5
    have b1 : ¬ Bx = B + 1 + 1 := by omega
    have b2 : ¬ Bx = B + 1 + 1 + 1 := by omega
    have b3 : ¬ Bx = B + 1 + 1 + 1 + 1 := by omega
    generalize hq : p x.1 x.2 = q at HC
    have HQ := Aside0.mk hq
    clear hq
    cases q
    · gi_wp2_with (refine ⟨trivial, ?_⟩; gi_at_call 57; refine (CallsIn.inRound l (callsIn_wide.2 HC.out)).mono ?_; rintro e w2 ⟨rfl, hb2⟩)
      exact ⟨KeepsFrom.of_below hb2, Kp2.of_below hb2 h6, HI.out.step hb2 (fun h => firstOf_miss h HQ.out)⟩
    · gi_wp2_with (refine ⟨trivial, ?_⟩; gi_at_call 57; refine (CallsIn.inRound l (callsIn_wide.2 HC.out)).mono ?_; rintro e w2 ⟨rfl, hb2⟩; obtain ⟨k2, f2⟩ := cells1 (blk_below H2.out hb2); obtain ⟨⟨k30, k31, k32, k33, k34⟩, f30, f31, f32, f33, f34⟩ := cells5 (blk_below H3.out hb2); obtain ⟨k4, f4⟩ := cells1 (blk_below H4.out hb2); obtain ⟨⟨y0, y1, y2, y3, y4⟩, _, _, _, _, _⟩ := cells5 (blk_below HX.out hb2))
      all_goals
        have HB2 := Aside0.mk hb2
        clear hb2
      have hfo : Try.prog.follows Departure.mixedOrders = true := by kernel_rfl
      gi_region_with_o (fail)
      all_goals gi_wp2
      all_goals
        obtain ⟨⟨n0, n1, n2, n3⟩, n4, n5, n6⟩ := nest7 (.int .i64 x.1) (.int .i64 x.2.f0) (.int .i64 x.2.f1) (.int .i64 x.2.f2) (.int .i64 x.2.f3) (.int .i64 x.2.f4) (.bool true) k2 k30 k31 k32 k33 k34 k4
        refine ⟨?_, rfl, x, ⟨firstOf_hit H0.out HQ.out, cell_drew' n0⟩, ⟨⟨cell_drew' n1, cell_drew' n2⟩, ⟨cell_drew' n3, cell_drew' n4⟩, cell_drew' n5⟩, cell_drew' n6, ?_⟩
        · with_reducible
            (repeat (first | refine keepsFrom_set ?_ | refine keepsFrom_drew ?_))
            exact KeepsFrom.of_below HB2.out
        · refine below_drew ?_
          exact below_set (below_set (below_set (below_set (below_set (below_set (below_set (below_then h5 h5.size HB2.out) (by omega)) (by omega)) (by omega)) (by omega)) (by omega)) (by omega)) (by omega)
  case done =>
    rintro D ys W hD rfl hI hK
    obtain ⟨⟨⟨⟨h0, h1⟩, h2⟩, h3, h4⟩, h5, h6⟩ := hI
    obtain ⟨k2, f2⟩ := cells1 h2
    obtain ⟨⟨k30, k31, k32, k33, k34⟩, f30, f31, f32, f33, f34⟩ := cells5 h3
    obtain ⟨k4, f4⟩ := cells1 h4
    clear hI0 hg5
    have HH := Aside0.mk h0
    have hDB : B + 1 + 1 + 1 + 1 < D := by omega
    gi_wp2
    obtain ⟨Wf, hWf⟩ : ∃ Wf, (((((((W.setCell ⟨B + 1 + 1, 0, none⟩ (.int .i64 (-1))).setCell ⟨B + 1 + 1 + 1, 0, none⟩ (.int .i64 0)).setCell ⟨B + 1 + 1 + 1, 1, none⟩ (.int .i64 0)).setCell ⟨B + 1 + 1 + 1, 2, none⟩ (.int .i64 0)).setCell ⟨B + 1 + 1 + 1, 3, none⟩ (.int .i64 0)).setCell ⟨B + 1 + 1 + 1, 4, none⟩ (.int .i64 0)).setCell ⟨B + 1 + 1 + 1 + 1, 0, none⟩ (.bool false)) = Wf := ⟨_, rfl⟩
    obtain ⟨⟨q0, q1, q2, q3⟩, q4, q5, q6⟩ := nest7 (.int .i64 (-1)) (.int .i64 0) (.int .i64 0) (.int .i64 0) (.int .i64 0) (.int .i64 0) (.bool false) k2 k30 k31 k32 k33 k34 k4
    rw [hWf] at q0 q1 q2 q3 q4 q5 q6
    have hKf : Wf.heap[D]? = some (.deferred (some [])) := by
      rw [← hWf]
      exact kept_def (kept_def (kept_def (kept_def (kept_def (kept_def (kept_def hK))))))
    have hBf : Below w.heap.size w Wf := by
      rw [← hWf]
      exact below_set (below_set (below_set (below_set (below_set (below_set (below_set h5 (by omega)) (by omega)) (by omega)) (by omega)) (by omega)) (by omega)) (by omega)
    rw [hWf]
    refine ⟨by simp, .inl ⟨_, _, rfl, run_takeDeferred hKf, ?_⟩⟩
    exact ⟨_, results42 (g := B + 1 + 1) rfl rfl rfl (kept_cell hKf q0) (kept_cell hKf q1) (kept_cell hKf q2) (kept_cell hKf q3) (kept_cell hKf q4) (kept_cell hKf q5) (kept_cell hKf q6), by simp only [findR, HH.out], hBf.trans (belowK_b (w := w) (Nat.le_refl _) Wf D _ _ (by omega) hKf rfl rfl)⟩
  case stop =>
    rintro D c pre W hD hSp ⟨rfl, y, hX⟩ hK
    obtain ⟨⟨hf, q0⟩, ⟨⟨q1, q2⟩, ⟨q3, q4⟩, q5⟩, q6, hBf⟩ := hX
    have hfull := firstOf_prefix hf hSp
    have HF := Aside0.mk hfull
    clear hfull hf
    gi_wp2
    refine ⟨by simp, .inl ⟨_, _, rfl, run_takeDeferred hK, ?_⟩⟩
    exact ⟨_, results42 (g := B + 1 + 1) rfl rfl rfl (kept_cell hK q0) (kept_cell hK q1) (kept_cell hK q2) (kept_cell hK q3) (kept_cell hK q4) (kept_cell hK q5) (kept_cell hK q6), by simp only [findR, HF.out], hBf.trans (belowK_b (w := w) (Nat.le_refl _) W D _ _ (by omega) hK rfl rfl)⟩
end Go.Proofs.Ytjegihodmidhoaa.G
namespace Go.Proofs.Ytjegihodmidhoaa.G
open Go.RowKit Go.Proofs.YtjegihodmidhoaaW.PrintWords Go.Proofs.YtjegihodmidhoaaW.PrintLast Go.Proofs.YtjegihodmidhoaaW.PrintMore
set_option linter.unusedVariables false
set_option linter.unusedSimpArgs false

/-! ### A network that fits, and its shapes -/
/-- The shapes: what goes in, and what comes out of each layer. -/
def chainL (s : S23) (xs : List S96) : List S23 := s :: xs.map (·.f2)
structure Fits (s : S23) (ls : List S63) (xs : List S96) : Prop where
  form : formB s.f0 s.f1 s.f2 ls = true
  right : shR s.f0 s.f1 s.f2 = true
  steps : ∃ e, stepsTo s ls = some (xs, e)
  w : sumW xs ≤ 512
  p : sumP xs ≤ 512
theorem allS_ok {a b c : Int} {ls : List S63} (h : (allS a b c ls).2 = 0) : Fits ⟨a, b, c⟩ ls (allS a b c ls).1 := by
  unfold allS at h ⊢
  by_cases h1 : formB a b c ls = true
  · by_cases h2 : shR a b c = true
    · simp only [if_pos h1, if_pos h2] at h ⊢
      cases h3 : stepsTo ⟨a, b, c⟩ ls with
      | none => rw [h3] at h; simp at h
      | some r =>
        rw [h3] at h
        simp only at h ⊢
        by_cases h4 : sumW r.1 ≤ 512 ∧ sumP r.1 ≤ 512
        · simp only [if_pos h4]; exact ⟨h1, h2, ⟨r.2, h3⟩, h4.1, h4.2⟩
        · rw [if_neg h4] at h; simp at h
    · simp only [if_pos h1, if_neg h2] at h; simp at h
  · simp only [if_neg h1] at h; simp at h
theorem allS_no {a b c : Int} {ls : List S63} (h : (allS a b c ls).2 ≠ 0) : (allS a b c ls).1 = [] := by
  unfold allS at h ⊢
  by_cases h1 : formB a b c ls = true
  · by_cases h2 : shR a b c = true
    · simp only [if_pos h1, if_pos h2] at h ⊢
      cases h3 : stepsTo ⟨a, b, c⟩ ls with
      | none => rfl
      | some r =>
        rw [h3] at h
        simp only at h ⊢
        by_cases h4 : sumW r.1 ≤ 512 ∧ sumP r.1 ≤ 512
        · rw [if_pos h4] at h; simp at h
        · rw [if_neg h4]
    · simp only [if_pos h1, if_neg h2]
  · simp only [if_neg h1]
theorem Fits.allS_eq {a b c : Int} {ls : List S63} {xs : List S96} (h : Fits ⟨a, b, c⟩ ls xs) : allS a b c ls = (xs, 0) := by
  obtain ⟨e, he⟩ := h.steps
  exact allS_fit ⟨h.form, h.right⟩ he h.w h.p
theorem steps_chain {s : S23} {ls : List S63} {xs : List S96} {e : S23} (h : stepsTo s ls = some (xs, e)) :
    xs.length = ls.length ∧ ∀ i, (hi : i < ls.length) → ∃ t, (chainL s xs)[i]? = some t ∧ nextIs t ls[i] = true ∧ xs[i]? = some (nextS t ls[i]) ∧ (chainL s xs)[i + 1]? = some (nextOut t ls[i]) := by
  induction ls generalizing s xs e with
  | nil =>
    simp only [stepsTo, Option.some.injEq, Prod.mk.injEq] at h
    obtain ⟨rfl, _⟩ := h
    exact ⟨rfl, fun i hi => absurd hi (by simp)⟩
  | cons l ls ih =>
    simp only [stepsTo] at h
    split at h
    · rename_i hn
      cases h2 : stepsTo (nextOut s l) ls with
      | none => rw [h2] at h; cases h
      | some q =>
        rw [h2] at h
        simp only [Option.map_some, Option.some.injEq, Prod.mk.injEq] at h
        obtain ⟨rfl, rfl⟩ := h
        obtain ⟨h3, h4⟩ := ih (xs := q.1) (e := q.2) h2
        refine ⟨by simp [h3], fun i hi => ?_⟩
        cases i with
        | zero => exact ⟨s, rfl, hn, rfl, by simp [chainL, nextS]⟩
        | succ i =>
          obtain ⟨t, g1, g2, g3, g4⟩ := h4 i (by simpa using hi)
          exact ⟨t, by simpa [chainL, nextS] using g1, by simpa using g2, by simpa using g3, by simpa [chainL, nextS] using g4⟩
    · cases h
theorem chain_shR {s : S23} {ls : List S63} {xs : List S96} {e : S23} (hs : shR s.f0 s.f1 s.f2 = true) (h : stepsTo s ls = some (xs, e)) : ∀ (i : Nat) (t : S23), (chainL s xs)[i]? = some t → shR t.f0 t.f1 t.f2 = true := by
  intro i
  induction i with
  | zero => intro t ht; simp [chainL] at ht; subst ht; exact hs
  | succ i ih =>
    intro t ht
    obtain ⟨h1, h2⟩ := steps_chain h
    have hi : i < ls.length := by
      have := (List.getElem?_eq_some_iff.1 ht).1
      simp [chainL] at this
      omega
    obtain ⟨t', g1, g2, _, g4⟩ := h2 i hi
    rw [ht] at g4
    cases g4
    exact shR_out (ih t' g1) g2
theorem Fits.len {s : S23} {ls : List S63} {xs : List S96} (h : Fits s ls xs) : xs.length = ls.length ∧ ls.length ≤ 8 := by
  obtain ⟨e, he⟩ := h.steps
  have hf := h.form
  simp only [formB, Bool.and_eq_true, decide_eq_true_eq] at hf
  exact ⟨(steps_chain he).1, hf.1.1⟩
/-- A layer of a network that fits. -/
theorem Fits.at {s : S23} {ls : List S63} {xs : List S96} (h : Fits s ls xs) {i : Nat} (hi : i < ls.length) :
    ∃ t l, ls[i]? = some l ∧ (chainL s xs)[i]? = some t ∧ formL l = true ∧ shR t.f0 t.f1 t.f2 = true ∧ nextIs t l = true ∧ xs[i]? = some (nextS t l) ∧ (chainL s xs)[i + 1]? = some (nextOut t l) := by
  obtain ⟨e, he⟩ := h.steps
  obtain ⟨t, g1, g2, g3, g4⟩ := (steps_chain he).2 i hi
  have hf := h.form
  simp only [formB, Bool.and_eq_true] at hf
  exact ⟨t, ls[i], List.getElem?_eq_getElem hi, g1, List.all_eq_true.1 hf.2 _ (List.getElem_mem hi), chain_shR h.right he i t g1, g2, g3, g4⟩

/-! ### check.Shapes, check.Weights -/
def shapesS (a b c : Int) (ls : List S63) : List S23 × Int := if (allS a b c ls).2 = 0 then (chainL ⟨a, b, c⟩ (allS a b c ls).1, 0) else ([], (allS a b c ls).2)
theorem shapes_l0 (xs : List S96) (hl : xs.length ≤ 100) (d : Nat) : ∀ (k i : Nat) (acc : List S23), xs.length - i = d → i ≤ xs.length → d < k → acc.length ≤ 200 + i →
    check_Shapes.l0 k acc xs xs.length i = some (acc ++ (xs.drop i).map (·.f2), 0) := by
  induction d with
  | zero =>
    intro k i acc hd hi hk ha
    obtain ⟨k, rfl⟩ : ∃ m, k = m + 1 := ⟨k - 1, by omega⟩
    simp only [check_Shapes.l0]
    rw [if_neg (by omega), List.drop_eq_nil_of_le (by omega)]; simp
  | succ d ih =>
    intro k i acc hd hi hk ha
    obtain ⟨k, rfl⟩ : ∃ m, k = m + 1 := ⟨k - 1, by omega⟩
    simp only [check_Shapes.l0]
    rw [if_pos (by omega), if_pos (by omega), if_pos (by omega), if_pos (by omega)]
    have hw : wrap64 ((i : Int) + 1) = ((i + 1 : Nat) : Int) := by unfold wrap64; omega
    rw [hw, ih k (i + 1) _ (by omega) (by omega) (by omega) (by simp; omega)]
    have hlt : i < xs.length := by omega
    have hr : rd_T96 xs (i : Int) = xs[i] := by simp [rd_T96, List.getD_eq_getElem?_getD, List.getElem?_eq_getElem hlt]
    rw [hr, List.drop_eq_getElem_cons hlt, List.map_cons, List.append_assoc]
    rfl
theorem allS_len (a b c : Int) (ls : List S63) : (allS a b c ls).1.length ≤ 8 := by
  by_cases h : (allS a b c ls).2 = 0
  · have := (allS_ok h).len; omega
  · rw [allS_no h]; simp
theorem shapes_eq (a b c : Int) (ls : List S63) (k : Nat) (hk : 9 ≤ k) : check_Shapes.f k a b c ls = some (shapesS a b c ls) := by
  unfold check_Shapes.f shapesS check_all.f
  simp only [Option.bind_some]
  by_cases h : (allS a b c ls).2 = 0
  · rw [if_pos h, if_pos h]
    have := allS_len a b c ls
    have := shapes_l0 (allS a b c ls).1 (by omega) (allS a b c ls).1.length k 0 [⟨a, b, c⟩] (by omega) (by omega) (by omega) (by simp)
    simpa [chainL] using this
  · rw [if_neg h, if_neg h]
def weightsS (xs : List S96) (i : Int) : Int × Int := if 0 ≤ i ∧ i < xs.length then (sumW (xs.take i.toNat), (rd_T96 xs i).f3) else (0, 0)
theorem weights_l0 (xs : List S96) (hl : xs.length ≤ 100) (x : Int) (d : Nat) : ∀ (k i : Nat), xs.length - i = d → i ≤ xs.length → d < k → ¬ (0 ≤ x ∧ x < i) →
    check_Weights.l0 k x (sumW (xs.take i)) xs xs.length i = some (weightsS xs x) := by
  induction d with
  | zero =>
    intro k i hd hi hk hx
    obtain ⟨k, rfl⟩ : ∃ m, k = m + 1 := ⟨k - 1, by omega⟩
    simp only [check_Weights.l0]
    rw [if_neg (by omega), weightsS, if_neg (by omega)]
  | succ d ih =>
    intro k i hd hi hk hx
    obtain ⟨k, rfl⟩ : ∃ m, k = m + 1 := ⟨k - 1, by omega⟩
    simp only [check_Weights.l0]
    rw [if_pos (by omega), if_pos (by omega), if_pos (by omega)]
    have hlt : i < xs.length := by omega
    have hr : rd_T96 xs (i : Int) = xs[i] := by simp [rd_T96, List.getD_eq_getElem?_getD, List.getElem?_eq_getElem hlt]
    by_cases he : (i : Int) = x
    · subst he
      rw [if_pos rfl, weightsS, if_pos (by omega)]; simp
    · rw [if_neg he]
      have hw : wrap64 ((i : Int) + 1) = ((i + 1 : Nat) : Int) := by unfold wrap64; omega
      have hs : wrap64 (sumW (xs.take i) + (rd_T96 xs (i : Int)).f3) = sumW (xs.take (i + 1)) := by
        rw [List.take_succ_eq_append_getElem hlt, sumW_snoc, hr]
      rw [hw, hs]
      exact ih k (i + 1) (by omega) (by omega) (by omega) (by omega)
theorem weights_eq (a b c : Int) (ls : List S63) (x : Int) (k : Nat) (hk : 9 ≤ k) : check_Weights.f k a b c ls x = some (weightsS (allS a b c ls).1 x) := by
  unfold check_Weights.f check_all.f
  simp only [Option.bind_some]
  have := allS_len a b c ls
  exact weights_l0 (allS a b c ls).1 (by omega) x (allS a b c ls).1.length k 0 (by omega) (by omega) (by omega) (by omega)
end Go.Proofs.Ytjegihodmidhoaa.G
namespace Go.Proofs.Ytjegihodmidhoaa.G
open Go.RowKit Go.Proofs.YtjegihodmidhoaaW.PrintWords Go.Proofs.YtjegihodmidhoaaW.PrintLast Go.Proofs.YtjegihodmidhoaaW.PrintMore
set_option linter.unusedVariables false
set_option linter.unusedSimpArgs false

/-! ### terms.Terms -/
def sizeT (s : S23) : Int := sizeS s.f0 s.f1 s.f2
theorem sizeT_bd (s : S23) : 0 ≤ sizeT s ∧ sizeT s ≤ 128 := by
  unfold sizeT
  by_cases hr : shR s.f0 s.f1 s.f2 = true
  · rw [sizeS_eq hr]
    obtain ⟨⟨h1, h2⟩, ⟨h3, h4⟩, ⟨h5, h6⟩, h7⟩ := (shR_iff s.f0 s.f1 s.f2).1 hr
    obtain ⟨e1, e2, e3, e4⟩ := mul3_le h1 h2 h3 h4 h5 h6
    omega
  · simp [sizeS, hr]
def denseL (wt at_ n : Int) : List S91 := (List.range n.toNat).map fun (k : Nat) => ⟨k, wrap64 (wrap64 (wt + wrap64 (at_ * n)) + k)⟩
def convP (l : S63) (s t : S23) (wt at_ : Int) : List S91 := match shape_Of.f t.f0 t.f1 t.f2 at_ with
  | some r => if r.2.2.2 = true then convL l.f2 s.f0 s.f1 s.f2 wt r.1 l.f2.toNat (r.2.1.toNat * l.f3.toNat) (r.2.2.1.toNat * l.f3.toNat) s.f0.toNat else []
  | none => []
/-- The terms of a place: of a layer, of what goes in, what comes out, where its weights begin. -/
def placeT (l : S63) (s t : S23) (wt at_ : Int) : List S91 :=
  if 0 ≤ at_ ∧ at_ < sizeT t then (if l.f0 = 1 then convP l s t wt at_ else if l.f0 = 4 then denseL wt at_ (sizeT s) else if l.f0 = 2 then [⟨at_, -1⟩] else []) else []
def termsS (a b c : Int) (ls : List S63) (i at_ : Int) : List S91 :=
  if (allS a b c ls).2 = 0 ∧ 0 ≤ i ∧ i < ls.length then
    placeT (rd_T63 ls i) (rd_T23 (chainL ⟨a, b, c⟩ (allS a b c ls).1) i) (rd_T23 (chainL ⟨a, b, c⟩ (allS a b c ls).1) (i + 1)) (weightsS (allS a b c ls).1 i).1 at_
  else []
theorem dense_l0 (x1 n : Int) (hn : 0 ≤ n ∧ n ≤ 128) (y0 y1 y2 y3 y4 y5 y6 y7 y8 y9 y10 : Int) (d : Nat) : ∀ (k i : Nat), n.toNat - i = d → i ≤ n.toNat → d < k →
    terms_look_dense.l0 k x1 ((List.range i).map fun (k : Nat) => ⟨k, wrap64 (wrap64 (y10 + wrap64 (x1 * n)) + k)⟩) n n i y0 y1 y2 y3 y4 y5 y6 y7 y8 y9 y10 = some (denseL y10 x1 n) := by
  induction d with
  | zero =>
    intro k i hd hi hk
    obtain ⟨k, rfl⟩ : ∃ m, k = m + 1 := ⟨k - 1, by omega⟩
    simp only [terms_look_dense.l0]
    rw [if_neg (by omega)]
    obtain rfl : i = n.toNat := by omega
    rfl
  | succ d ih =>
    intro k i hd hi hk
    obtain ⟨k, rfl⟩ : ∃ m, k = m + 1 := ⟨k - 1, by omega⟩
    simp only [terms_look_dense.l0]
    rw [if_pos (by omega), if_pos (by simp; omega)]
    have hw : wrap64 ((i : Int) + 1) = ((i + 1 : Nat) : Int) := by unfold wrap64; omega
    have := ih k (i + 1) (by omega) (by omega) (by omega)
    rw [List.range_succ, List.map_append] at this
    rw [hw]
    exact this
theorem dense_eq (y0 y1 y2 y3 y4 y5 y6 y7 y8 y9 y10 x1 : Int) (k : Nat) (hk : 150 ≤ k) : terms_look_dense.f k y0 y1 y2 y3 y4 y5 y6 y7 y8 y9 y10 x1 = some (denseL y10 x1 (sizeS y4 y5 y6)) := by
  unfold terms_look_dense.f
  rw [size_eq]
  simp only [Option.bind_some]
  have hb : 0 ≤ sizeS y4 y5 y6 ∧ sizeS y4 y5 y6 ≤ 128 := sizeT_bd ⟨y4, y5, y6⟩
  exact dense_l0 x1 _ hb y0 y1 y2 y3 y4 y5 y6 y7 y8 y9 y10 _ k 0 rfl (by omega) (by omega)
theorem conv_bd {s : S23} {l : S63} (hs : shR s.f0 s.f1 s.f2 = true) (hk : l.f0 = 1) (hn : nextIs s l = true) : (0 ≤ l.f2 ∧ l.f2 ≤ 12) ∧ (0 ≤ l.f3 ∧ l.f3 ≤ 12) ∧ (0 ≤ s.f0 ∧ s.f0 ≤ 8) := by
  obtain ⟨⟨a1, a2⟩, ⟨a3, a4⟩, _, _⟩ := (shR_iff _ _ _).1 hs
  unfold nextIs at hn
  rw [if_pos hk] at hn
  obtain ⟨_, ⟨b1, _⟩, _, _⟩ := (shR_iff _ _ _).1 hn
  unfold sideC at b1
  split at b1
  · rename_i hc
    obtain ⟨c1, c2⟩ := hc
    rw [wiB_iff] at c1 c2
    exact ⟨by omega, by omega, by omega⟩
  · omega
theorem conv_eq {s t : S23} {l : S63} {wt at_ : Int} (hs : shR s.f0 s.f1 s.f2 = true) (hk : l.f0 = 1) (hn : nextIs s l = true) :
    terms_look_conv.f l.f0 l.f1 l.f2 l.f3 s.f0 s.f1 s.f2 t.f0 t.f1 t.f2 wt at_ = some (convP l s t wt at_) := by
  unfold terms_look_conv.f convP
  rw [if_pos (conv_bd hs hk hn)]
  by_cases h : 0 ≤ at_ ∧ at_ < sizeS t.f0 t.f1 t.f2
  · obtain ⟨q, y, x, hOf, _⟩ := of_yes h
    rw [hOf]; simp
  · rw [of_no h]; simp
theorem look_j0 {s t : S23} {l : S63} {wt at_ : Int} (hs : shR s.f0 s.f1 s.f2 = true) (hn : nextIs s l = true) (k : Nat) (hk : 151 ≤ k) :
    terms_Terms.j0 k at_ (decide (¬ (0 ≤ at_ ∧ at_ < sizeT t))) l.f0 l.f1 l.f2 l.f3 s.f0 s.f1 s.f2 t.f0 t.f1 t.f2 wt = some (placeT l s t wt at_) := by
  obtain ⟨k, rfl⟩ : ∃ m, k = m + 1 := ⟨k - 1, by omega⟩
  simp only [terms_Terms.j0, placeT]
  by_cases h : 0 ≤ at_ ∧ at_ < sizeT t
  · have hd : decide (¬ (0 ≤ at_ ∧ at_ < sizeT t)) = false := by simp [h]
    rw [hd, if_neg (by simp), if_pos h]
    by_cases h1 : l.f0 = 1
    · rw [if_pos h1, if_pos h1, conv_eq hs h1 hn]; rfl
    · rw [if_neg h1, if_neg h1]
      by_cases h4 : l.f0 = 4
      · rw [if_pos h4, if_pos h4, dense_eq _ _ _ _ _ _ _ _ _ _ _ _ k (by omega)]; rfl
      · rw [if_neg h4, if_neg h4]
        by_cases h2 : l.f0 = 2
        · rw [if_pos h2, if_pos h2]
        · rw [if_neg h2, if_neg h2]
  · have hd : decide (¬ (0 ≤ at_ ∧ at_ < sizeT t)) = true := by simp only [decide_eq_true_eq]; exact h
    rw [hd, if_pos rfl, if_neg h]
theorem rd63_eq {ls : List S63} {i : Nat} {l : S63} (h : ls[i]? = some l) : rd_T63 ls (i : Int) = l := by simp [rd_T63, List.getD_eq_getElem?_getD, h]
theorem rd23_eq {L : List S23} {i : Nat} {t : S23} (h : L[i]? = some t) : rd_T23 L (i : Int) = t := by simp [rd_T23, List.getD_eq_getElem?_getD, h]
theorem rd96_eq {xs : List S96} {i : Nat} {t : S96} (h : xs[i]? = some t) : rd_T96 xs (i : Int) = t := by simp [rd_T96, List.getD_eq_getElem?_getD, h]
theorem chainL_length (s : S23) (xs : List S96) : (chainL s xs).length = xs.length + 1 := by simp [chainL]
theorem terms_eq (a b c : Int) (ls : List S63) (i at_ : Int) (k : Nat) (hk : 160 ≤ k) (hll : ls.length ≤ 1000) : terms_Terms.f k a b c ls i at_ = some (termsS a b c ls i at_) := by
  unfold terms_Terms.f terms_of.f termsS
  rw [shapes_eq a b c ls k (by omega)]
  obtain ⟨k', hk'⟩ : ∃ m, k = m + 1 := ⟨k - 1, by omega⟩
  have hT : ∀ (x : Int) y0 y1 y2 y3 y4 y5 y6 y7 y8 y9 y10, terms_Terms.j0 k x true y0 y1 y2 y3 y4 y5 y6 y7 y8 y9 y10 = some [] := by
    intro x y0 y1 y2 y3 y4 y5 y6 y7 y8 y9 y10
    subst hk'
    simp only [terms_Terms.j0, if_true]
  simp only [Option.bind_some, shapesS]
  by_cases he : (allS a b c ls).2 = 0
  · simp only [if_pos he, if_true]
    have hF := allS_ok he
    generalize (allS a b c ls).1 = xs at hF ⊢
    by_cases h0 : i < 0
    · rw [if_pos h0, if_neg (by omega)]
      simp [hT]
    · rw [if_neg h0]
      by_cases h1 : i ≥ ls.length
      · rw [if_pos h1, if_neg (by omega)]
        simp [hT]
      · rw [if_neg h1, if_pos ⟨he, by omega, by omega⟩]
        obtain ⟨n, rfl⟩ := Int.eq_ofNat_of_zero_le (by omega : 0 ≤ i)
        have hn : n < ls.length := by omega
        obtain ⟨t, l, g1, g2, g3, g4, g5, g6, g7⟩ := hF.at hn
        have hln := hF.len
        have hcl := chainL_length ⟨a, b, c⟩ xs
        have hw : wrap64 ((n + 1 : Nat) : Int) = ((n + 1 : Nat) : Int) := by unfold wrap64; omega
        have hw2 : ((n : Int) + 1) = ((n + 1 : Nat) : Int) := by omega
        have hW := weights_eq a b c ls n k (by omega)
        rw [show (allS a b c ls).1 = xs from by rw [Fits.allS_eq hF]] at hW
        rw [hW]
        simp only [Option.bind_some, hw2, hw]
        rw [if_pos (by omega), if_pos (by omega), if_pos (by rw [hcl]; omega), if_pos (by omega), if_pos (by rw [hcl]; omega)]
        simp only [Option.bind_some, if_true]
        rw [rd63_eq g1, rd23_eq g2, rd23_eq g7]
        have hj := look_j0 (t := nextOut t l) (wt := (weightsS xs n).1) (at_ := at_) g4 g5 k (by omega)
        by_cases hat : at_ < 0
        · rw [if_pos hat]
          have hd : decide (¬ (0 ≤ at_ ∧ at_ < sizeT (nextOut t l))) = true := by simp; omega
          rw [hd] at hj
          exact hj
        · rw [if_neg hat, size_eq]
          simp only [Option.bind_some]
          have hd : decide (¬ (0 ≤ at_ ∧ at_ < sizeT (nextOut t l))) = decide (at_ ≥ sizeS (nextOut t l).f0 (nextOut t l).f1 (nextOut t l).f2) := by
            rw [decide_eq_decide]; unfold sizeT; omega
          rw [hd] at hj
          exact hj
  · simp only [if_neg he]
    simp [hT, he]
end Go.Proofs.Ytjegihodmidhoaa.G
namespace Go.Proofs.Ytjegihodmidhoaa.G
open Go.RowKit Go.Proofs.YtjegihodmidhoaaW.PrintWords Go.Proofs.YtjegihodmidhoaaW.PrintLast Go.Proofs.YtjegihodmidhoaaW.PrintMore
set_option linter.unusedVariables false
set_option linter.unusedSimpArgs false

/-! ### How many products a layer has -/
theorem sizeT_eq {s : S23} (h : shR s.f0 s.f1 s.f2 = true) : sizeT s = s.f0 * s.f1 * s.f2 := sizeS_eq h
theorem kind_of {l : S63} (h : formL l = true) : l.f0 = 1 ∨ l.f0 = 2 ∨ l.f0 = 3 ∨ l.f0 = 4 := by
  simp only [formL, known, Bool.and_eq_true, Bool.or_eq_true, beq_iff_eq] at h
  rcases h.1.1 with ((h | h) | h) | h <;> simp [h]
theorem mulN (a b c d e : Int) : a * b * c * c * d * e = a * d * e * (b * (c * c)) := by ac_rfl
theorem mul_bd {x y : Int} (A B : Nat) (hx : 0 ≤ x ∧ x ≤ A) (hy : 0 ≤ y ∧ y ≤ B) : 0 ≤ x * y ∧ x * y ≤ ((A * B : Nat) : Int) := by
  refine ⟨Int.mul_nonneg hx.1 hy.1, ?_⟩
  have := Int.mul_le_mul hx.2 hy.2 hy.1 (by omega)
  simpa using this
/-- How many terms each place of a layer has. -/
def perPlace (s : S23) (l : S63) : Nat := if l.f0 = 1 then s.f0.toNat * (l.f2.toNat * l.f2.toNat) else if l.f0 = 4 then (sizeT s).toNat else if l.f0 = 2 then 1 else 0
theorem placeT_length {s t : S23} {l : S63} {wt at_ : Int} (h : 0 ≤ at_ ∧ at_ < sizeT t) : (placeT l s t wt at_).length = perPlace s l := by
  unfold placeT perPlace
  rw [if_pos h]
  by_cases h1 : l.f0 = 1
  · rw [if_pos h1, if_pos h1]
    unfold convP
    obtain ⟨q, y, x, hOf, _⟩ := of_yes h
    rw [hOf]
    simp [convL_length]
  · rw [if_neg h1, if_neg h1]
    by_cases h4 : l.f0 = 4
    · rw [if_pos h4, if_pos h4]; simp [denseL]
    · rw [if_neg h4, if_neg h4]
      by_cases h2 : l.f0 = 2
      · rw [if_pos h2, if_pos h2]; rfl
      · rw [if_neg h2, if_neg h2]; rfl
theorem nextP_eq {s : S23} {l : S63} (hs : shR s.f0 s.f1 s.f2 = true) (hf : formL l = true) (hn : nextIs s l = true) :
    nextP s l = sizeT (nextOut s l) * (perPlace s l : Int) ∧ (perPlace s l : Int) ≤ 1152 := by
  have ho := shR_out hs hn
  have hz := sizeT_eq ho
  obtain ⟨⟨a1, a2⟩, ⟨a3, a4⟩, ⟨a5, a6⟩, a7⟩ := (shR_iff _ _ _).1 hs
  obtain ⟨⟨b1, b2⟩, ⟨b3, b4⟩, ⟨b5, b6⟩, b7⟩ := (shR_iff _ _ _).1 ho
  have hb := sizeT_bd s
  rcases kind_of hf with h | h | h | h
  · obtain ⟨⟨c1, c2⟩, ⟨c3, c4⟩, _⟩ := conv_bd hs h hn
    have hout : (nextOut s l).f0 = l.f1 := by
      have hn2 := hn
      unfold nextIs at hn2
      rw [if_pos h] at hn2
      unfold nextOut
      rw [if_pos h, if_pos hn2]
    have e1 := mul_bd 8 8 (x := l.f1) (y := s.f0) (by omega) (by omega)
    have e2 := mul_bd (8 * 8) 12 (y := l.f2) e1 (by omega)
    have e3 := mul_bd (8 * 8 * 12) 12 (y := l.f2) e2 (by omega)
    have e4 := mul_bd (8 * 8 * 12 * 12) 12 (y := (nextOut s l).f1) e3 (by omega)
    have e5 := mul_bd (8 * 8 * 12 * 12 * 12) 12 (y := (nextOut s l).f2) e4 (by omega)
    have f1 := mul_bd 12 12 (x := l.f2) (y := l.f2) (by omega) (by omega)
    have f2 := mul_bd 8 (12 * 12) (x := s.f0) (by omega) f1
    have hpp : (perPlace s l : Int) = s.f0 * (l.f2 * l.f2) := by
      unfold perPlace
      rw [if_pos h]
      simp only [Int.natCast_mul, Int.toNat_of_nonneg (show 0 ≤ s.f0 by omega), Int.toNat_of_nonneg c1]
    have hW : nextW s l = l.f1 * s.f0 * l.f2 * l.f2 := by
      unfold nextW
      rw [if_pos h, IntWalk.wrap64_in (l.f1 * s.f0) (by omega), IntWalk.wrap64_in (l.f1 * s.f0 * l.f2) (by omega), IntWalk.wrap64_in _ (by omega)]
    rw [hpp, hz, hout]
    refine ⟨?_, by omega⟩
    unfold nextP
    rw [if_pos h, hW, IntWalk.wrap64_in (l.f1 * s.f0 * l.f2 * l.f2 * (nextOut s l).f1) (by omega), IntWalk.wrap64_in _ (by omega)]
    exact mulN _ _ _ _ _
  · have h1 : l.f0 ≠ 1 := by omega
    have h4 : l.f0 ≠ 4 := by omega
    have hpp : perPlace s l = 1 := by unfold perPlace; rw [if_neg h1, if_neg h4, if_pos h]
    have ho2 : nextOut s l = s := by unfold nextOut; rw [if_neg h1, if_pos h]
    rw [hpp, ho2]
    unfold nextP
    rw [if_neg h1, if_pos h]
    unfold sizeT
    omega
  · have h1 : l.f0 ≠ 1 := by omega
    have h2 : l.f0 ≠ 2 := by omega
    have h4 : l.f0 ≠ 4 := by omega
    have hpp : perPlace s l = 0 := by unfold perPlace; rw [if_neg h1, if_neg h4, if_neg h2]
    rw [hpp]
    unfold nextP
    rw [if_neg h1, if_neg h2, if_pos h]
    omega
  · have h1 : l.f0 ≠ 1 := by omega
    have h2 : l.f0 ≠ 2 := by omega
    have h3 : l.f0 ≠ 3 := by omega
    have hpp : (perPlace s l : Int) = sizeT s := by unfold perPlace; rw [if_neg h1, if_pos h]; omega
    have ho2 : nextOut s l = ⟨l.f1, 1, 1⟩ := by unfold nextOut; rw [if_neg h1, if_neg h2, if_neg h3]
    rw [hpp, hz, ho2]
    rw [ho2] at b1 b2
    simp only at b1 b2
    have e1 := mul_bd 8 128 (x := l.f1) (y := sizeT s) (by omega) hb
    refine ⟨?_, by omega⟩
    unfold nextP
    rw [if_neg h1, if_neg h2, if_neg h3]
    unfold nextW
    rw [if_neg h1, if_neg h2, if_neg h3]
    show wrap64 (l.f1 * sizeT s) = _
    rw [IntWalk.wrap64_in _ (by omega)]
    simp
/-- How many products come ahead of a layer. -/
theorem sumP_take {s : S23} {ls : List S63} {xs : List S96} (h : Fits s ls xs) (i : Nat) (hi : i ≤ ls.length) : 0 ≤ sumP (xs.take i) ∧ sumP (xs.take i) ≤ 147456 * (i : Int) := by
  induction i with
  | zero => simp [sumP]
  | succ i ih =>
    obtain ⟨t, l, g1, g2, g3, g4, g5, g6, g7⟩ := h.at (by omega : i < ls.length)
    obtain ⟨hlt, hx⟩ := List.getElem?_eq_some_iff.1 g6
    have := ih (by omega)
    have hle := h.len.2
    rw [List.take_succ_eq_append_getElem hlt, sumP_snoc, hx]
    obtain ⟨e1, e2⟩ := nextP_eq g4 g3 g5
    have e3 := mul_bd 128 1152 (sizeT_bd (nextOut t l)) (y := (perPlace t l : Int)) (by omega)
    rw [← e1] at e3
    show 0 ≤ wrap64 (sumP (List.take i xs) + nextP t l) ∧ wrap64 (sumP (List.take i xs) + nextP t l) ≤ _
    rw [IntWalk.wrap64_in _ (by omega)]
    omega
theorem sumP_succ {s : S23} {ls : List S63} {xs : List S96} (h : Fits s ls xs) {i : Nat} {t : S23} {l : S63} (hi : i < ls.length) (h1 : ls[i]? = some l) (h2 : (chainL s xs)[i]? = some t) :
    sumP (xs.take (i + 1)) = sumP (xs.take i) + nextP t l := by
  obtain ⟨t', l', g1, g2, g3, g4, g5, g6, g7⟩ := h.at hi
  rw [h1] at g1; cases g1
  rw [h2] at g2; cases g2
  obtain ⟨hlt, hx⟩ := List.getElem?_eq_some_iff.1 g6
  have := sumP_take h i (by omega)
  have hle := h.len.2
  obtain ⟨e1, e2⟩ := nextP_eq g4 g3 g5
  have e3 := mul_bd 128 1152 (sizeT_bd (nextOut t l)) (y := (perPlace t l : Int)) (by omega)
  rw [← e1] at e3
  rw [List.take_succ_eq_append_getElem hlt, sumP_snoc, hx]
  show wrap64 (sumP (List.take i xs) + nextP t l) = _
  rw [IntWalk.wrap64_in _ (by omega)]
end Go.Proofs.Ytjegihodmidhoaa.G
namespace Go.Proofs.Ytjegihodmidhoaa.G
open Go.RowKit Go.Proofs.YtjegihodmidhoaaW.PrintWords Go.Proofs.YtjegihodmidhoaaW.PrintLast Go.Proofs.YtjegihodmidhoaaW.PrintMore
set_option linter.unusedVariables false
set_option linter.unusedSimpArgs false

/-! ### All gates of a network -/
def tS (a b c : Int) (ls : List S63) (i at_ : Nat) : List S91 := termsS a b c ls i at_
def gatesS (a b c : Int) (ls : List S63) : List S35 := gatesG (shapesS a b c ls).1 (tS a b c ls)
theorem szN_at {a b c : Int} {xs : List S96} {i : Nat} {t : S23} (ht : (chainL ⟨a, b, c⟩ xs)[i + 1]? = some t) : szN (chainL ⟨a, b, c⟩ xs) i = (sizeT t).toNat := by
  have : ((i : Int) + 1) = ((i + 1 : Nat) : Int) := by omega
  unfold szN
  rw [this, rd23_eq ht]; rfl
section
variable {a b c : Int} {ls : List S63} {xs : List S96} (h : Fits ⟨a, b, c⟩ ls xs)
include h
theorem Fits.shapes : shapesS a b c ls = (chainL ⟨a, b, c⟩ xs, 0) := by simp [shapesS, h.allS_eq]
theorem Fits.terms_at {i at_ : Nat} {t : S23} {l : S63} (hi : i < ls.length) (h1 : ls[i]? = some l) (h2 : (chainL ⟨a, b, c⟩ xs)[i]? = some t) (h3 : (chainL ⟨a, b, c⟩ xs)[i + 1]? = some (nextOut t l)) :
    tS a b c ls i at_ = placeT l t (nextOut t l) (weightsS xs i).1 at_ := by
  have e : ((i : Int) + 1) = ((i + 1 : Nat) : Int) := by omega
  unfold tS termsS
  rw [h.allS_eq, if_pos ⟨rfl, by omega, by omega⟩]
  simp only
  rw [e, rd63_eq h1, rd23_eq h2, rd23_eq h3]
theorem Fits.layer_length {i m : Nat} {t : S23} {l : S63} (hi : i < ls.length) (h1 : ls[i]? = some l) (h2 : (chainL ⟨a, b, c⟩ xs)[i]? = some t) (h3 : (chainL ⟨a, b, c⟩ xs)[i + 1]? = some (nextOut t l)) (hm : m ≤ szN (chainL ⟨a, b, c⟩ xs) i) :
    (layerG (tS a b c ls) i m).length = m * perPlace t l := by
  rw [szN_at h3] at hm
  have hb := sizeT_bd (nextOut t l)
  induction m with
  | zero => simp [layerG]
  | succ m ih =>
    have : layerG (tS a b c ls) i (m + 1) = layerG (tS a b c ls) i m ++ placeG (tS a b c ls) i m := range_flat_succ _ _
    rw [this, List.length_append, ih (by omega), placeG, List.length_mapIdx, h.terms_at hi h1 h2 h3, placeT_length ⟨by omega, by omega⟩, Nat.succ_mul]
theorem Fits.upTo_length {i : Nat} (hi : i ≤ ls.length) : ((upToG (chainL ⟨a, b, c⟩ xs) (tS a b c ls) i).length : Int) = sumP (xs.take i) := by
  induction i with
  | zero => simp [upToG, sumP]
  | succ i ih =>
    obtain ⟨t, l, g1, g2, g3, g4, g5, g6, g7⟩ := h.at (by omega : i < ls.length)
    have e : upToG (chainL ⟨a, b, c⟩ xs) (tS a b c ls) (i + 1) = upToG (chainL ⟨a, b, c⟩ xs) (tS a b c ls) i ++ layerG (tS a b c ls) i (szN (chainL ⟨a, b, c⟩ xs) i) := range_flat_succ _ _
    rw [e, List.length_append, h.layer_length (by omega) g1 g2 g7 (Nat.le_refl _), sumP_succ h (by omega) g1 g2, ← ih (by omega), (nextP_eq g4 g3 g5).1, szN_at g7]
    have hb := sizeT_bd (nextOut t l)
    rw [Int.natCast_add, Int.natCast_mul, Int.toNat_of_nonneg hb.1]
theorem Fits.gates_length : ((gatesS a b c ls).length : Int) = sumP xs ∧ sumP xs ≤ 512 := by
  refine ⟨?_, h.p⟩
  unfold gatesS gatesG
  rw [h.shapes]
  simp only
  rw [chainL_length, Nat.add_sub_cancel, h.len.1, h.upTo_length (Nat.le_refl _), ← h.len.1, List.take_length]
end
theorem gates_none {a b c : Int} {ls : List S63} (h : (allS a b c ls).2 ≠ 0) : gatesS a b c ls = [] := by
  unfold gatesS gatesG shapesS
  rw [if_neg h]; rfl
theorem gates_512 (a b c : Int) (ls : List S63) : (gatesS a b c ls).length ≤ 512 := by
  by_cases h : (allS a b c ls).2 = 0
  · have := (allS_ok h).gates_length; omega
  · rw [gates_none h]; simp
theorem netOk (a b c : Int) (ls : List S63) (hll : ls.length ≤ 1000) : NetOk a b c ls (shapesS a b c ls).1 (shapesS a b c ls).2 (tS a b c ls) 9 where
  shapes := shapes_eq a b c ls 9 (by omega)
  len := by
    unfold shapesS
    split
    · rw [chainL_length]; have := allS_len a b c ls; omega
    · simp
  terms := fun i at_ _ _ => ⟨160, terms_eq a b c ls i at_ 160 (by omega) hll⟩
  many := by have := gates_512 a b c ls; unfold gatesS at this; omega
end Go.Proofs.Ytjegihodmidhoaa.G
namespace Go.Proofs.Ytjegihodmidhoaa.G
open Go.RowKit Go.Proofs.YtjegihodmidhoaaW.PrintWords Go.Proofs.YtjegihodmidhoaaW.PrintLast Go.Proofs.YtjegihodmidhoaaW.PrintMore
set_option linter.unusedVariables false
set_option linter.unusedSimpArgs false
def foundG (r : Option (Nat × S35)) : Int := match r with | some y => y.1 | none => -1
def foundX (r : Option (Nat × S35)) : S35 := match r with | some y => y.2 | none => z35
def foundB (r : Option (Nat × S35)) : Bool := match r with | some _ => true | none => false
theorem findR_eq (p : Nat → S35 → Bool) (ys : List (Nat × S35)) : findR p ys = .tuple #[.int .i64 (foundG (firstOf p ys)), .agg #[.int .i64 (foundX (firstOf p ys)).f0, .int .i64 (foundX (firstOf p ys)).f1, .int .i64 (foundX (firstOf p ys)).f2, .int .i64 (foundX (firstOf p ys)).f3, .int .i64 (foundX (firstOf p ys)).f4], .bool (foundB (firstOf p ys))] := by
  unfold findR
  cases firstOf p ys <;> rfl
def isG (g : Int) (k : Nat) (_ : S35) : Bool := (k : Int) == g
def isI (i at_ k : Int) (_ : Nat) (x : S35) : Bool := (x.f0 == i) && (x.f1 == at_) && (x.f2 == k)
set_option maxHeartbeats 1000000 in
theorem is43 (g : Int) (x : Nat × S35) (gb : Nat) (W : World) (hc : W.heap[gb]? = some (.cells #[.int .i64 g] 3 (0, 0))) :
    Calls Try.prog 43 (#[.int .i64 x.1, .agg #[.int .i64 x.2.f0, .int .i64 x.2.f1, .int .i64 x.2.f2, .int .i64 x.2.f3, .int .i64 x.2.f4]] ++ #[.pointer (some ⟨gb, 0, none⟩)]) W fun e w' => e = .returned (.bool (isG g x.1 x.2)) ∧ Below W.heap.size W w' := by
  have hu35 := Try.underlying35
  have c0 := (cells1 hc).1
  have h1 := blk_lt hc
  have h2 : ¬ gb = W.heap.size := by omega
  clear hc
  simp only [List.append_toArray, List.cons_append, List.nil_append]
  go_enter Try.func43, Try.ntmps43
  go_wp2
  go_ret
  exact ⟨rfl, below_alloc (Below.refl _ _) _⟩
set_option maxHeartbeats 2000000 in
theorem is57 (i at_ k : Int) (x : Nat × S35) (g1 g2 g3 : Nat) (W : World) (hc1 : W.heap[g1]? = some (.cells #[.int .i64 i] 3 (0, 0))) (hc2 : W.heap[g2]? = some (.cells #[.int .i64 at_] 3 (0, 0))) (hc3 : W.heap[g3]? = some (.cells #[.int .i64 k] 3 (0, 0))) :
    Calls Try.prog 57 (#[.int .i64 x.1, .agg #[.int .i64 x.2.f0, .int .i64 x.2.f1, .int .i64 x.2.f2, .int .i64 x.2.f3, .int .i64 x.2.f4]] ++ #[.pointer (some ⟨g1, 0, none⟩), .pointer (some ⟨g2, 0, none⟩), .pointer (some ⟨g3, 0, none⟩)]) W fun e w' => e = .returned (.bool (isI i at_ k x.1 x.2)) ∧ Below W.heap.size W w' := by
  have hu35 := Try.underlying35
  have c1 := (cells1 hc1).1
  have c2 := (cells1 hc2).1
  have c3 := (cells1 hc3).1
  have h1 := blk_lt hc1
  have h2 := blk_lt hc2
  have h3 := blk_lt hc3
  have n1 : ¬ g1 = W.heap.size := by omega
  have n2 : ¬ g2 = W.heap.size := by omega
  have n3 : ¬ g3 = W.heap.size := by omega
  clear hc1 hc2 hc3
  simp only [List.append_toArray, List.cons_append, List.nil_append]
  obtain ⟨q, y0, y1, y2, y3, y4⟩ := x
  unfold isI
  simp only
  by_cases e1 : (y0 == i) = true
  · by_cases e2 : (y1 == at_) = true
    · by_cases e3 : (y2 == k) = true
      · rw [e1, e2, e3]
        go_enter Try.func57, Try.ntmps57
        go_wp2
        go_ret
        exact ⟨rfl, below_alloc (Below.refl _ _) _⟩
      · replace e3 := Bool.eq_false_iff.mpr e3
        rw [e1, e2, e3]
        go_enter Try.func57, Try.ntmps57
        go_wp2
        go_ret
        exact ⟨rfl, below_alloc (Below.refl _ _) _⟩
    · replace e2 := Bool.eq_false_iff.mpr e2
      rw [e1, e2]
      go_enter Try.func57, Try.ntmps57
      go_wp2
      go_ret
      exact ⟨rfl, below_alloc (Below.refl _ _) _⟩
  · replace e1 := Bool.eq_false_iff.mpr e1
    rw [e1]
    go_enter Try.func57, Try.ntmps57
    go_wp2
    go_ret
    exact ⟨rfl, below_alloc (Below.refl _ _) _⟩
def gateS (a b c : Int) (ls : List S63) (g : Int) : Option (Nat × S35) := firstOf (isG g) (numbered (gatesS a b c ls))
def indexS (a b c : Int) (ls : List S63) (i at_ k : Int) : Option (Nat × S35) := firstOf (isI i at_ k) (numbered (gatesS a b c ls))
set_option maxRecDepth 100000 in
set_option maxHeartbeats 4000000 in
theorem gate_calls (a b c : Int) (A : Option Addr) (cp : Nat) (ls : List S63) (g : Int) (hll : ls.length ≤ 1000) (w : World) (hC : Kd.C k63 w A ls.length ls) (hcp : ls.length ≤ cp) :
    Calls Try.prog 19 #[.agg #[.int .i64 a, .int .i64 b, .int .i64 c, .slice A ls.length cp], .int .i64 g] w fun e w' =>
      e = .returned (.tuple #[.agg #[.int .i64 (foundX (gateS a b c ls g)).f0, .int .i64 (foundX (gateS a b c ls g)).f1, .int .i64 (foundX (gateS a b c ls g)).f2, .int .i64 (foundX (gateS a b c ls g)).f3, .int .i64 (foundX (gateS a b c ls g)).f4], .bool (foundB (gateS a b c ls g))]) ∧ Below w.heap.size w w' := by
  have hu26 := Try.underlying26
  have hu35 := Try.underlying35
  have hmf : ∀ (fn : Fn) (first cap : Array Value) (w : World), (Instr.makeFunc fn first cap).run Try.prog w = .ok (.func fn first cap) w := fun _ _ _ _ => rfl
  have hg : (((w.alloc (.cells #[.int .i64 a, .int .i64 b, .int .i64 c, .slice A ls.length cp] 26)).alloc (.cells #[.int .i64 g] 3)).alloc (.cells #[.int .i64 0, .int .i64 0, .int .i64 0, .int .i64 0, .int .i64 0] 35)).heap[w.heap.size + 1]? = some (.cells #[.int .i64 g] 3 (0, 0)) := (blks3 w _ _ _).2.1
  have hr : (((w.alloc (.cells #[.int .i64 a, .int .i64 b, .int .i64 c, .slice A ls.length cp] 26)).alloc (.cells #[.int .i64 g] 3)).alloc (.cells #[.int .i64 0, .int .i64 0, .int .i64 0, .int .i64 0, .int .i64 0] 35)).heap[w.heap.size + 1 + 1]? = some (.cells #[.int .i64 0, .int .i64 0, .int .i64 0, .int .i64 0, .int .i64 0] 35 (0, 0)) := (blks3 w _ _ _).1
  have F := find43 (netOk a b c ls hll) (isG g) #[.pointer (some ⟨w.heap.size + 1, 0, none⟩)] (A := A) (cp := cp) _ hcp (Kd.C_below hC (by repeat (first | exact Below.refl _ _ | apply below_alloc) : Below w.heap.size w (((w.alloc (.cells #[.int .i64 a, .int .i64 b, .int .i64 c, .slice A ls.length cp] 26)).alloc (.cells #[.int .i64 g] 3)).alloc (.cells #[.int .i64 0, .int .i64 0, .int .i64 0, .int .i64 0, .int .i64 0] 35))))
    (fun x W hW => is43 g x _ W (blk_below hg hW))
  rw [findR_eq] at F
  change Calls _ _ _ _ fun e w' => e = .returned (.tuple #[.int .i64 (foundG (gateS a b c ls g)), .agg #[.int .i64 (foundX (gateS a b c ls g)).f0, .int .i64 (foundX (gateS a b c ls g)).f1, .int .i64 (foundX (gateS a b c ls g)).f2, .int .i64 (foundX (gateS a b c ls g)).f3, .int .i64 (foundX (gateS a b c ls g)).f4], .bool (foundB (gateS a b c ls g))]) ∧ _ at F
  generalize gateS a b c ls g = r at F ⊢
  generalize foundG r = rg at F
  generalize foundX r = rx at F ⊢
  generalize foundB r = rb at F ⊢
  have HF := Aside0.mk F
  have HR := Aside0.mk hr
  clear F hg hr hC
  go_enter Try.func19, Try.ntmps19
  go_wp2_with fail
  refine HF.out.mono ?_
  rintro e w3 ⟨rfl, hb⟩
  have hR3 := blk_below HR.out hb
  have hB3 := Aside0.mk (below_then (by repeat (first | exact Below.refl _ _ | apply below_alloc) : Below w.heap.size w (((w.alloc (.cells #[.int .i64 a, .int .i64 b, .int .i64 c, .slice A ls.length cp] 26)).alloc (.cells #[.int .i64 g] 3)).alloc (.cells #[.int .i64 0, .int .i64 0, .int .i64 0, .int .i64 0, .int .i64 0] 35))) (by simp; omega) hb)
  obtain ⟨⟨k0, k1, k2, k3, k4⟩, f0, f1, f2, f3, f4⟩ := cells5 hR3
  have l1 := blk_lt hR3
  have l2 : ¬ w.heap.size + 1 + 1 = w3.heap.size := by omega
  have l3 : ¬ w3.heap.size = w.heap.size + 1 + 1 := by omega
  clear hR3 hb HF HR
  go_wp2_with fail
  refine bodyPost_ret (v := .tuple #[.agg #[.int .i64 rx.f0, .int .i64 rx.f1, .int .i64 rx.f2, .int .i64 rx.f3, .int .i64 rx.f4], .bool rb]) (by simp [results, Try.results19, go_sem, k0, k1, k2, k3, k4, l1, l2, l3]) rfl ⟨rfl, ?_⟩
  refine below_alloc (below_set (below_set (below_set (below_set (below_set hB3.out ?_) ?_) ?_) ?_) ?_) _
  all_goals omega
set_option maxRecDepth 100000 in
set_option maxHeartbeats 4000000 in
theorem index_calls (a b c : Int) (A : Option Addr) (cp : Nat) (ls : List S63) (i at_ k : Int) (hll : ls.length ≤ 1000) (w : World) (hC : Kd.C k63 w A ls.length ls) (hcp : ls.length ≤ cp) :
    Calls Try.prog 37 #[.agg #[.int .i64 a, .int .i64 b, .int .i64 c, .slice A ls.length cp], .int .i64 i, .int .i64 at_, .int .i64 k] w fun e w' =>
      e = .returned (.int .i64 (foundG (indexS a b c ls i at_ k))) ∧ Below w.heap.size w w' := by
  have hu26 := Try.underlying26
  have hu35 := Try.underlying35
  have hmf : ∀ (fn : Fn) (first cap : Array Value) (w : World), (Instr.makeFunc fn first cap).run Try.prog w = .ok (.func fn first cap) w := fun _ _ _ _ => rfl
  have B4 := blks4 w (.cells #[.int .i64 a, .int .i64 b, .int .i64 c, .slice A ls.length cp] 26) (.cells #[.int .i64 i] 3) (.cells #[.int .i64 at_] 3) (.cells #[.int .i64 k] 3)
  have hb0 : Below w.heap.size w ((((w.alloc (.cells #[.int .i64 a, .int .i64 b, .int .i64 c, .slice A ls.length cp] 26)).alloc (.cells #[.int .i64 i] 3)).alloc (.cells #[.int .i64 at_] 3)).alloc (.cells #[.int .i64 k] 3)) := by repeat (first | exact Below.refl _ _ | apply below_alloc)
  have F := find57 (netOk a b c ls hll) (isI i at_ k) #[.pointer (some ⟨w.heap.size + 1, 0, none⟩), .pointer (some ⟨w.heap.size + 1 + 1, 0, none⟩), .pointer (some ⟨w.heap.size + 1 + 1 + 1, 0, none⟩)] (A := A) (cp := cp) _ hcp (Kd.C_below hC hb0)
    (fun x W hW => is57 i at_ k x _ _ _ W (blk_below B4.2.1 hW) (blk_below B4.2.2.1 hW) (blk_below B4.2.2.2 hW))
  rw [findR_eq] at F
  change Calls _ _ _ _ fun e w' => e = .returned (.tuple #[.int .i64 (foundG (indexS a b c ls i at_ k)), .agg #[.int .i64 (foundX (indexS a b c ls i at_ k)).f0, .int .i64 (foundX (indexS a b c ls i at_ k)).f1, .int .i64 (foundX (indexS a b c ls i at_ k)).f2, .int .i64 (foundX (indexS a b c ls i at_ k)).f3, .int .i64 (foundX (indexS a b c ls i at_ k)).f4], .bool (foundB (indexS a b c ls i at_ k))]) ∧ _ at F
  generalize indexS a b c ls i at_ k = r at F ⊢
  generalize foundG r = rg at F ⊢
  generalize foundX r = rx at F
  generalize foundB r = rb at F
  have HF := Aside0.mk F
  have HB := Aside0.mk hb0
  clear F hC B4 hb0
  go_enter Try.func37, Try.ntmps37
  go_wp2_with fail
  refine HF.out.mono ?_
  rintro e w3 ⟨rfl, hb⟩
  have hB3 := Aside0.mk (below_then HB.out HB.out.size hb)
  clear hb HF
  go_wp2_with fail
  go_ret
  exact ⟨rfl, below_alloc hB3.out _⟩
end Go.Proofs.Ytjegihodmidhoaa.G
namespace Go.Proofs.Ytjegihodmidhoaa.G
open Go.RowKit Go.Proofs.YtjegihodmidhoaaW.PrintWords Go.Proofs.YtjegihodmidhoaaW.PrintLast Go.Proofs.YtjegihodmidhoaaW.PrintMore
attribute [local go_sem] max2_int min2_int max_two min_two max_three min_three max_four min_four   -- for this text's walks alone
set_option linter.unusedVariables false
set_option linter.unusedSimpArgs false

/-! ### check_All: function 41 -/
def check_All.l0 : Nat → Int → Int → List (S96) → Int → Int → Option (Int × Int)
  | 0, _, _, _, _, _ => none
  | k + 1, x4, x5, x15, x16, x17 => if x17 < x16 then (if 0 ≤ x17 then (if x17 < (x15.length : Int) then (check_All.l0 k (wrap64 (x4 + ((rd_T96 x15 x17).f3))) (wrap64 (x5 + ((rd_T96 x15 x17).f4))) x15 x16 (wrap64 (x17 + 1))) else (none)) else (none)) else (some (x4, x5))
def check_All.f (k : Nat) (a0_0 : Int) (a0_1 : Int) (a0_2 : Int) (l0_3 : List (S63)) : Option (Int × Int) := (check_all.f a0_0 a0_1 a0_2 l0_3).bind fun bt113 => (check_All.l0 k 0 0 bt113.1 (bt113.1.length : Int) 0)
theorem check_All.mono_l : ∀ k, (∀ y0 y1 y2 y3 y4, LeO (check_All.l0 k y0 y1 y2 y3 y4) (check_All.l0 (k + 1) y0 y1 y2 y3 y4))
  | 0 => fun _ _ _ _ _ r h => by simp [check_All.l0] at h
  | k + 1 => by
    have ih0 := check_All.mono_l k
    · intro y0 y1 y2 y3 y4
      unfold check_All.l0
      repeat' first
      | (with_reducible exact ih0 _ _ _ _ _)
      | (with_reducible exact LeO.refl _)
      | (with_reducible exact LeO.none _)
      | (with_reducible refine LeO.ite ?_ ?_)
      | (with_reducible refine LeO.bind ?_ (fun _ => ?_))
      | exact ih0 _ _ _ _ _
      | exact LeO.none _
      | refine LeO.ite ?_ ?_
      | refine LeO.bind ?_ (fun _ => ?_)
theorem check_All.mono : ∀ a0 a1 a2 a3 k, LeO (check_All.f k a0 a1 a2 a3) (check_All.f (k + 1) a0 a1 a2 a3) := by
  intro a0 a1 a2 a3 k
  have ih0 := check_All.mono_l k
  unfold check_All.f
  repeat' first
      | (with_reducible exact ih0 _ _ _ _ _)
      | (with_reducible exact LeO.refl _)
      | (with_reducible exact LeO.none _)
      | (with_reducible refine LeO.ite ?_ ?_)
      | (with_reducible refine LeO.bind ?_ (fun _ => ?_))
      | exact ih0 _ _ _ _ _
      | exact LeO.none _
      | refine LeO.ite ?_ ?_
      | refine LeO.bind ?_ (fun _ => ?_)
set_option maxHeartbeats 8000000 in
set_option maxRecDepth 100000 in
theorem check_All.calls (k : Nat) (a0_0 : Int) (a0_1 : Int) (a0_2 : Int) (A0_3 : Option Addr) (c0_3 : Nat) (l0_3 : List (S63)) (r1 : Int) (r2 : Int) (w : World) (hr0_3 : Kd.C k63 w A0_3 l0_3.length l0_3) (hc0_3 : l0_3.length ≤ c0_3) (h : check_All.f k a0_0 a0_1 a0_2 l0_3 = some (r1, r2)) :
    Calls Try.prog 41 #[.agg #[.int .i64 a0_0, .int .i64 a0_1, .int .i64 a0_2, .slice A0_3 l0_3.length c0_3]] w fun e w' => e = .returned (.tuple #[.int .i64 r1, .int .i64 r2]) ∧ Below w.heap.size w w' := by
  have hu26 := Try.underlying26
  have hu96 := Try.underlying96
  have HR0_3 := Aside0.mk hr0_3
  have HC0_3 := Aside0.mk hc0_3
  clear hr0_3 hc0_3
  have HB := Aside0.mk (Below.refl w.heap.size w)
  have H : ((check_all.f a0_0 a0_1 a0_2 l0_3).bind fun bt113 => (check_All.l0 k 0 0 bt113.1 (bt113.1.length : Int) 0)) = some (r1, r2) := h
  clear h
  replace H := Option.bind_eq_some_iff.mp H
  obtain ⟨⟨t113, t116⟩, A20, H⟩ := H
  replace H : (check_All.l0 k 0 0 t113 (t113.length : Int) 0) = some (r1, r2) := H
  have A2 := Aside0.mk A20
  clear A20
  have H' := Aside0.mk H
  clear H
  go_enter Try.func41, Try.ntmps41
  go_wp2_with (first | ((with_reducible refine gate_dst (N := 1) rfl ?_); refine box_event ?hg (N := 1) ?hd (cs := #[.int .i64 a0_0, .int .i64 a0_1, .int .i64 a0_2, .slice A0_3 l0_3.length c0_3]) (t := 26) ?hr ?_; (case hd => rfl); (case hg => rfl); (case hr => first | (go_simp; done) | (go_simp; rfl)); intro gb112 hg w3 hbox hb; have n0_ := Aside0.mk (below_step (by repeat (first | (with_reducible first | exact HB.out | apply below_alloc | apply pw_below_drewN | apply below_drew1) | exact HB.out)) hb); have n1_ := Aside0.mk (hbox); have n2_ := Aside0.mk ((by rw [hg]; exact (below_size (by repeat (first | (with_reducible first | exact HB.out | apply below_alloc | apply pw_below_drewN | apply below_drew1) | exact HB.out))) : w.heap.size ≤ gb112)); have n3_ := Aside0.mk ((by rw [hg]; exact (below_size (by repeat (first | (with_reducible first | exact HB.out | apply below_alloc | apply pw_below_drewN | apply below_drew1) | exact HB.out))) : w.heap.size ≤ gb112)); clear HB; have HB := n0_; have BK112 := n1_; have GW112 := n2_; have GE112 := n3_; clear n0_ n1_ n2_ n3_; clear hb hbox hg; have hcz4_0 : w3.cell? ⟨gb112, 0, none⟩ = some (.int .i64 a0_0) := (blk_cell BK112.out 0).trans rfl; have hcz4_1 : w3.cell? ⟨gb112, 1, none⟩ = some (.int .i64 a0_1) := (blk_cell BK112.out 1).trans rfl; have hcz4_2 : w3.cell? ⟨gb112, 2, none⟩ = some (.int .i64 a0_2) := (blk_cell BK112.out 2).trans rfl; have hcz4_3 : w3.cell? ⟨gb112, 3, none⟩ = some (.slice A0_3 l0_3.length c0_3) := (blk_cell BK112.out 3).trans rfl; have hfz4_0 := blk_frozen BK112.out 0; have hfz4_1 := blk_frozen BK112.out 1; have hfz4_2 := blk_frozen BK112.out 2; have hfz4_3 := blk_frozen BK112.out 3) | ((with_reducible refine gate_callee (f := 58) rfl ?_); refine goesL_ (some 12) rfl rfl Try.func58 (by kernel_rfl) rfl #[.agg #[.int .i64 a0_0, .int .i64 a0_1, .int .i64 a0_2, .slice A0_3 l0_3.length c0_3]] rfl (by (try simp only [List.map_toArray, List.map_cons, List.map_nil]); first | done | rfl | (simp only [List.length_drop, List.length_take]; rfl)) ?_; (with_reducible refine (check_all.calls a0_0 a0_1 a0_2 _ _ l0_3 t113 t116 _ ?side1 ?side2 A2.out).mono ?_); (case side1 => repeat (first | exact (Kd.C_below HR0_3.out HB.out) | (with_reducible refine Kd.C_alloc ?_ _) | (with_reducible refine Kd.C_drewN ?_ _) | (with_reducible refine Kd.C_drew ?_))); (case side2 => exact HC0_3.out); rintro e w5 ⟨v114, rfl, ho0, hb⟩; refine ⟨_, rfl, ?_⟩; have n0_ := Aside0.mk (Kd.R_lower ho0 (below_size (by repeat (first | (with_reducible first | exact HB.out | apply below_alloc | apply pw_below_drewN | apply below_drew1 | refine below_set ?_ GE112.out) | exact HB.out)))); have n1_ := Aside0.mk (blk_below (g := gb112) (o := .cells #[.int .i64 a0_0, .int .i64 a0_1, .int .i64 a0_2, .slice A0_3 l0_3.length c0_3] 26 (0, 0)) (by (with_reducible repeat (first | refine blk_drewN ?_ _ | refine blk_drew ?_ | refine blk_alloc ?_ _)); exact BK112.out) hb); have n2_ := Aside0.mk (below_step (by repeat (first | (with_reducible first | exact HB.out | apply below_alloc | apply pw_below_drewN | apply below_drew1 | refine below_set ?_ GE112.out) | exact HB.out)) hb); clear BK112; clear HB; have HO115 := n0_; have BK112 := n1_; have HB := n2_; clear n0_ n1_ n2_; (try clear hb); (try clear hb2); (try clear hk); (try clear hi); (try clear ho0); obtain ⟨Ao6, co6, eo6⟩ := Kd.R_slice HO115.out; subst eo6))
  go_loopg [4, 5, 17] k (fun kq v4 v5 v17 w' => ∃ (x4_1 : Int) (x5_1 : Int) (x17_1 : Int), v4 = .int .i64 x4_1 ∧ v5 = .int .i64 x5_1 ∧ v17 = .int .i64 x17_1 ∧ Aside0 (check_All.l0 kq x4_1 x5_1 t113 (t113.length : Int) x17_1 = some (r1, r2)) ∧ Aside0 (kq ≤ k) ∧ Aside0 (Kd.R k96 96 w' w.heap.size (fun _ => True) (.slice Ao6 t113.length co6) t113) ∧ Aside0 (w'.heap[gb112]? = some (.cells #[.int .i64 a0_0, .int .i64 a0_1, .int .i64 a0_2, (.slice A0_3 l0_3.length c0_3)] 26 (0, 0))) ∧ Aside0 (Below w.heap.size w w'))
  case atStart => exact ⟨(0), (0), (0), (by first | rfl | (simp; done) | (simp [*]; done)), (by first | rfl | (simp; done) | (simp [*]; done)), (by first | rfl | (simp; done) | (simp [*]; done)), H', ⟨Nat.le_refl _⟩, ⟨by (with_reducible repeat (first | apply Kd.R_alloc | apply Kd.R_drewN | apply Kd.R_drew)); exact HO115.out⟩, ⟨by (with_reducible repeat (first | refine blk_drewN ?_ _ | refine blk_drew ?_ | refine blk_alloc ?_ _)); exact BK112.out⟩, ⟨by repeat (first | (with_reducible first | exact HB.out | apply below_alloc | apply pw_below_drewN | apply below_drew1 | refine below_set ?_ GE112.out) | exact HB.out)⟩⟩
  case round =>
    clear H'
    try clear p2
    try clear c4
    try clear c5
    try clear hcz4_0
    try clear hcz4_1
    try clear hcz4_2
    try clear hcz4_3
    try clear hfz4_0
    try clear hfz4_1
    try clear hfz4_2
    try clear hfz4_3
    obtain ⟨x4_1, x5_1, x17_1, rfl, rfl, rfl, HA, HK1, HO_15, BK112, HB⟩ := hrel
    cases gk with
    | zero => exact absurd HA.out (by simp [check_All.l0])
    | succ k1 =>
      have H := HA.out
      clear HA
      simp only [check_All.l0] at H
      by_cases c7 : x17_1 < (t113.length : Int)
      · rw [if_pos c7] at H
        have c7b0 : decide (x17_1 < (t113.length : Int)) = true := decide_eq_true c7
        clear c7
        by_cases c8 : 0 ≤ x17_1
        · rw [if_pos c8] at H
          have c8b0 : decide (0 ≤ x17_1) = true := decide_eq_true c8
          clear c8
          by_cases c9 : x17_1 < (t113.length : Int)
          · rw [if_pos c9] at H
            have c9b0 : decide (x17_1 < (t113.length : Int)) = true := decide_eq_true c9
            clear c9
            have H' := Aside0.mk H
            clear H
            have p117 : 0 ≤ (x17_1 : Int) := of_decide_eq_true (by first | (with_reducible assumption) | assumption)
            have q117 : x17_1 < (t113.length : Int) := of_decide_eq_true (by first | (with_reducible assumption) | assumption)
            obtain ⟨ad117, e117, hx117_0, hx117_1, hx117_2, hx117_3, hx117_4, hx117_5, hx117_6, hx117_7, hx117_8, hx117_9, hx117_10, hx117_11⟩ := at_T96 (Kd.R_reads' HO_15.out).2.2 x17_1 p117 q117
            cases e117
            replace p117 := eq_true p117
            replace q117 := eq_true q117
            go_wp2_with (first | ((with_reducible refine gate_dst (N := 9) rfl ?_); refine box_event ?hg (N := 9) ?hd (cs := #[.int .i64 0, .int .i64 0, .int .i64 0, .int .i64 0, .int .i64 0, .int .i64 0, .int .i64 0, .int .i64 0, .int .i64 0, .int .i64 0, .int .i64 0, .int .i64 0]) (t := 96) ?hr ?_; (case hd => rfl); (case hg => rfl); (case hr => first | (go_simp; done) | (go_simp; rfl)); intro gb118 hg w10 hbox hb; have n0_ := Aside0.mk (Kd.R_below (Kd.R_elderB (by (with_reducible repeat (first | apply Kd.R_alloc | apply Kd.R_drewN | apply Kd.R_drew)); exact HO_15.out) gb118 (Nat.le_of_eq hg.symm)) hb); have n1_ := Aside0.mk (blk_below (g := gb112) (o := .cells #[.int .i64 a0_0, .int .i64 a0_1, .int .i64 a0_2, .slice A0_3 l0_3.length c0_3] 26 (0, 0)) (by (with_reducible repeat (first | refine blk_drewN ?_ _ | refine blk_drew ?_ | refine blk_alloc ?_ _)); exact BK112.out) hb); have n2_ := Aside0.mk (below_step (by repeat (first | (with_reducible first | exact HB.out | apply below_alloc | apply pw_below_drewN | apply below_drew1 | refine below_set ?_ GE112.out) | exact HB.out)) hb); have n3_ := Aside0.mk (hbox); have n4_ := Aside0.mk ((by rw [hg]; exact (below_size (by repeat (first | (with_reducible first | exact HB.out | apply below_alloc | apply pw_below_drewN | apply below_drew1 | refine below_set ?_ GE112.out) | exact HB.out))) : w.heap.size ≤ gb118)); have n5_ := Aside0.mk ((by rw [hg]; exact (below_size (by repeat (first | (with_reducible first | exact HB.out | apply below_alloc | apply pw_below_drewN | apply below_drew1 | refine below_set ?_ GE112.out) | exact HB.out))) : w.heap.size ≤ gb118)); have n6_ := Aside0.mk ((by rw [hg]; exact Nat.ne_of_lt (blk_lt (g := gb112) (o := .cells #[.int .i64 a0_0, .int .i64 a0_1, .int .i64 a0_2, .slice A0_3 l0_3.length c0_3] 26 (0, 0)) (by (with_reducible repeat (first | refine blk_drewN ?_ _ | refine blk_drew ?_ | refine blk_alloc ?_ _)); exact BK112.out)) : gb112 ≠ gb118)); have n7_ := Aside0.mk ((by rw [hg]; exact Nat.ne_of_gt (blk_lt (g := gb112) (o := .cells #[.int .i64 a0_0, .int .i64 a0_1, .int .i64 a0_2, .slice A0_3 l0_3.length c0_3] 26 (0, 0)) (by (with_reducible repeat (first | refine blk_drewN ?_ _ | refine blk_drew ?_ | refine blk_alloc ?_ _)); exact BK112.out)) : gb118 ≠ gb112)); clear HO_15; clear BK112; clear HB; have HO_15 := n0_; have BK112 := n1_; have HB := n2_; have BK118 := n3_; have GW118 := n4_; have GE118 := n5_; have NB112_118 := n6_; have NB118_112 := n7_; clear n0_ n1_ n2_ n3_ n4_ n5_ n6_ n7_; clear hb hbox hg; have hnb11 := NB118_112.out; have hnc11 := NB112_118.out; have hcz12_0 : w10.cell? ⟨gb118, 0, none⟩ = some (.int .i64 0) := (blk_cell BK118.out 0).trans rfl; have hcz12_1 : w10.cell? ⟨gb118, 1, none⟩ = some (.int .i64 0) := (blk_cell BK118.out 1).trans rfl; have hcz12_2 : w10.cell? ⟨gb118, 2, none⟩ = some (.int .i64 0) := (blk_cell BK118.out 2).trans rfl; have hcz12_3 : w10.cell? ⟨gb118, 3, none⟩ = some (.int .i64 0) := (blk_cell BK118.out 3).trans rfl; have hcz12_4 : w10.cell? ⟨gb118, 4, none⟩ = some (.int .i64 0) := (blk_cell BK118.out 4).trans rfl; have hcz12_5 : w10.cell? ⟨gb118, 5, none⟩ = some (.int .i64 0) := (blk_cell BK118.out 5).trans rfl; have hcz12_6 : w10.cell? ⟨gb118, 6, none⟩ = some (.int .i64 0) := (blk_cell BK118.out 6).trans rfl; have hcz12_7 : w10.cell? ⟨gb118, 7, none⟩ = some (.int .i64 0) := (blk_cell BK118.out 7).trans rfl; have hcz12_8 : w10.cell? ⟨gb118, 8, none⟩ = some (.int .i64 0) := (blk_cell BK118.out 8).trans rfl; have hcz12_9 : w10.cell? ⟨gb118, 9, none⟩ = some (.int .i64 0) := (blk_cell BK118.out 9).trans rfl; have hcz12_10 : w10.cell? ⟨gb118, 10, none⟩ = some (.int .i64 0) := (blk_cell BK118.out 10).trans rfl; have hcz12_11 : w10.cell? ⟨gb118, 11, none⟩ = some (.int .i64 0) := (blk_cell BK118.out 11).trans rfl; have hfz12_0 := blk_frozen BK118.out 0; have hfz12_1 := blk_frozen BK118.out 1; have hfz12_2 := blk_frozen BK118.out 2; have hfz12_3 := blk_frozen BK118.out 3; have hfz12_4 := blk_frozen BK118.out 4; have hfz12_5 := blk_frozen BK118.out 5; have hfz12_6 := blk_frozen BK118.out 6; have hfz12_7 := blk_frozen BK118.out 7; have hfz12_8 := blk_frozen BK118.out 8; have hfz12_9 := blk_frozen BK118.out 9; have hfz12_10 := blk_frozen BK118.out 10; have hfz12_11 := blk_frozen BK118.out 11))
            go_roundg k1
            case measure => have := HK1.out; omega
            case rel => exact ⟨(wrap64 (x4_1 + ((rd_T96 t113 x17_1).f3))), (wrap64 (x5_1 + ((rd_T96 t113 x17_1).f4))), (wrap64 (x17_1 + 1)), (by first | rfl | (simp; done) | (simp [*]; done)), (by first | rfl | (simp; done) | (simp [*]; done)), (by first | rfl | (simp; done) | (simp [*]; done)), H', ⟨by have := HK1.out; omega⟩, ⟨by (with_reducible repeat (first | apply Kd.R_alloc | apply Kd.R_drewN | apply Kd.R_drew)); exact Kd.R_mono (Kd.R_far (p := ⟨gb118, 11, none⟩) (Kd.R_far (p := ⟨gb118, 10, none⟩) (Kd.R_far (p := ⟨gb118, 9, none⟩) (Kd.R_far (p := ⟨gb118, 8, none⟩) (Kd.R_far (p := ⟨gb118, 7, none⟩) (Kd.R_far (p := ⟨gb118, 6, none⟩) (Kd.R_far (p := ⟨gb118, 5, none⟩) (Kd.R_far (p := ⟨gb118, 4, none⟩) (Kd.R_far (p := ⟨gb118, 3, none⟩) (Kd.R_far (p := ⟨gb118, 2, none⟩) (Kd.R_far (p := ⟨gb118, 1, none⟩) (Kd.R_far (p := ⟨gb118, 0, none⟩) (Kd.R_mono HO_15.out (fun k_ hk => (⟨hk, hk.2⟩ : _ ∧ k_ ≠ gb118))) (fun _ hk => hk.2) (.int .i64 ((rd_T96 t113 x17_1).f0.f0))) (fun _ hk => hk.2) (.int .i64 ((rd_T96 t113 x17_1).f0.f1))) (fun _ hk => hk.2) (.int .i64 ((rd_T96 t113 x17_1).f0.f2))) (fun _ hk => hk.2) (.int .i64 ((rd_T96 t113 x17_1).f0.f3))) (fun _ hk => hk.2) (.int .i64 ((rd_T96 t113 x17_1).f1.f0))) (fun _ hk => hk.2) (.int .i64 ((rd_T96 t113 x17_1).f1.f1))) (fun _ hk => hk.2) (.int .i64 ((rd_T96 t113 x17_1).f1.f2))) (fun _ hk => hk.2) (.int .i64 ((rd_T96 t113 x17_1).f2.f0))) (fun _ hk => hk.2) (.int .i64 ((rd_T96 t113 x17_1).f2.f1))) (fun _ hk => hk.2) (.int .i64 ((rd_T96 t113 x17_1).f2.f2))) (fun _ hk => hk.2) (.int .i64 ((rd_T96 t113 x17_1).f3))) (fun _ hk => hk.2) (.int .i64 ((rd_T96 t113 x17_1).f4))) (fun _ hk => trivial)⟩, ⟨by (with_reducible repeat (first | refine blk_drewN ?_ _ | refine blk_drew ?_ | refine blk_alloc ?_ _)); refine blk_far ?_ NB112_118.out _; (with_reducible repeat (first | refine blk_drewN ?_ _ | refine blk_drew ?_ | refine blk_alloc ?_ _)); refine blk_far ?_ NB112_118.out _; (with_reducible repeat (first | refine blk_drewN ?_ _ | refine blk_drew ?_ | refine blk_alloc ?_ _)); refine blk_far ?_ NB112_118.out _; (with_reducible repeat (first | refine blk_drewN ?_ _ | refine blk_drew ?_ | refine blk_alloc ?_ _)); refine blk_far ?_ NB112_118.out _; (with_reducible repeat (first | refine blk_drewN ?_ _ | refine blk_drew ?_ | refine blk_alloc ?_ _)); refine blk_far ?_ NB112_118.out _; (with_reducible repeat (first | refine blk_drewN ?_ _ | refine blk_drew ?_ | refine blk_alloc ?_ _)); refine blk_far ?_ NB112_118.out _; (with_reducible repeat (first | refine blk_drewN ?_ _ | refine blk_drew ?_ | refine blk_alloc ?_ _)); refine blk_far ?_ NB112_118.out _; (with_reducible repeat (first | refine blk_drewN ?_ _ | refine blk_drew ?_ | refine blk_alloc ?_ _)); refine blk_far ?_ NB112_118.out _; (with_reducible repeat (first | refine blk_drewN ?_ _ | refine blk_drew ?_ | refine blk_alloc ?_ _)); refine blk_far ?_ NB112_118.out _; (with_reducible repeat (first | refine blk_drewN ?_ _ | refine blk_drew ?_ | refine blk_alloc ?_ _)); refine blk_far ?_ NB112_118.out _; (with_reducible repeat (first | refine blk_drewN ?_ _ | refine blk_drew ?_ | refine blk_alloc ?_ _)); refine blk_far ?_ NB112_118.out _; (with_reducible repeat (first | refine blk_drewN ?_ _ | refine blk_drew ?_ | refine blk_alloc ?_ _)); refine blk_far ?_ NB112_118.out _; (with_reducible repeat (first | refine blk_drewN ?_ _ | refine blk_drew ?_ | refine blk_alloc ?_ _)); exact BK112.out⟩, ⟨by repeat (first | (with_reducible first | exact HB.out | apply below_alloc | apply pw_below_drewN | apply below_drew1 | refine below_set ?_ GE112.out | refine below_set ?_ GE118.out) | exact HB.out)⟩⟩
          · rw [if_neg c9] at H
            exact absurd H (by simp)
        · rw [if_neg c8] at H
          exact absurd H (by simp)
      · rw [if_neg c7] at H
        have c7b0 : decide (x17_1 < (t113.length : Int)) = false := decide_eq_false c7
        clear c7
        simp only [Option.some.injEq, Prod.mk.injEq] at H
        obtain ⟨rfl, rfl⟩ := H
        go_wp2
        go_ret2
        exact ⟨by first | rfl | (simp [errW_none, errW_some] <;> rfl) | (simp [*, errW_none, errW_some] <;> rfl), by repeat (first | (with_reducible first | exact HB.out | apply below_alloc | apply pw_below_drewN | apply below_drew1 | refine below_set ?_ GE112.out) | exact HB.out)⟩

end Go.Proofs.Ytjegihodmidhoaa.G
namespace Go.Proofs.Ytjegihodmidhoaa.G
open Go.RowKit Go.Proofs.YtjegihodmidhoaaW.PrintWords Go.Proofs.YtjegihodmidhoaaW.PrintLast Go.Proofs.YtjegihodmidhoaaW.PrintMore
attribute [local go_sem] max2_int min2_int max_two min_two max_three min_three max_four min_four   -- for this text's walks alone
set_option linter.unusedVariables false
set_option linter.unusedSimpArgs false

/-! ### gates_Total: function 17 -/
def gates_Total.f (k : Nat) (a0_0 : Int) (a0_1 : Int) (a0_2 : Int) (l0_3 : List (S63)) : Option (Int) := (check_All.f k a0_0 a0_1 a0_2 l0_3).bind fun bt120 => (some bt120.2)
theorem gates_Total.mono : ∀ a0 a1 a2 a3 k, LeO (gates_Total.f k a0 a1 a2 a3) (gates_Total.f (k + 1) a0 a1 a2 a3) := by
  intro a0 a1 a2 a3 k
  unfold gates_Total.f
  repeat' first
      | (with_reducible exact check_All.mono _ _ _ _ _)
      | (with_reducible exact LeO.refl _)
      | (with_reducible exact LeO.none _)
      | (with_reducible refine LeO.ite ?_ ?_)
      | (with_reducible refine LeO.bind ?_ (fun _ => ?_))
      | exact check_All.mono _ _ _ _ _
      | exact LeO.none _
      | refine LeO.ite ?_ ?_
      | refine LeO.bind ?_ (fun _ => ?_)
set_option maxHeartbeats 8000000 in
set_option maxRecDepth 100000 in
theorem gates_Total.calls (k : Nat) (a0_0 : Int) (a0_1 : Int) (a0_2 : Int) (A0_3 : Option Addr) (c0_3 : Nat) (l0_3 : List (S63)) (r : Int) (w : World) (hr0_3 : Kd.C k63 w A0_3 l0_3.length l0_3) (hc0_3 : l0_3.length ≤ c0_3) (h : gates_Total.f k a0_0 a0_1 a0_2 l0_3 = some r) :
    Calls Try.prog 17 #[.agg #[.int .i64 a0_0, .int .i64 a0_1, .int .i64 a0_2, .slice A0_3 l0_3.length c0_3]] w fun e w' => e = .returned (.int .i64 r) ∧ Below w.heap.size w w' := by
  have hu26 := Try.underlying26
  have HR0_3 := Aside0.mk hr0_3
  have HC0_3 := Aside0.mk hc0_3
  clear hr0_3 hc0_3
  have HB := Aside0.mk (Below.refl w.heap.size w)
  have H : ((check_All.f k a0_0 a0_1 a0_2 l0_3).bind fun bt120 => (some bt120.2)) = some r := h
  clear h
  replace H := Option.bind_eq_some_iff.mp H
  obtain ⟨⟨t120, t121⟩, A20, H⟩ := H
  replace H : (some t121) = some r := H
  have A2 := Aside0.mk A20
  clear A20
  obtain rfl := Option.some.inj H
  go_enter Try.func17, Try.ntmps17
  go_wp2_with (first | ((with_reducible refine gate_dst (N := 1) rfl ?_); refine box_event ?hg (N := 1) ?hd (cs := #[.int .i64 a0_0, .int .i64 a0_1, .int .i64 a0_2, .slice A0_3 l0_3.length c0_3]) (t := 26) ?hr ?_; (case hd => rfl); (case hg => rfl); (case hr => first | (go_simp; done) | (go_simp; rfl)); intro gb119 hg w3 hbox hb; have n0_ := Aside0.mk (below_step (by repeat (first | (with_reducible first | exact HB.out | apply below_alloc | apply pw_below_drewN | apply below_drew1) | exact HB.out)) hb); have n1_ := Aside0.mk (hbox); have n2_ := Aside0.mk ((by rw [hg]; exact (below_size (by repeat (first | (with_reducible first | exact HB.out | apply below_alloc | apply pw_below_drewN | apply below_drew1) | exact HB.out))) : w.heap.size ≤ gb119)); have n3_ := Aside0.mk ((by rw [hg]; exact (below_size (by repeat (first | (with_reducible first | exact HB.out | apply below_alloc | apply pw_below_drewN | apply below_drew1) | exact HB.out))) : w.heap.size ≤ gb119)); clear HB; have HB := n0_; have BK119 := n1_; have GW119 := n2_; have GE119 := n3_; clear n0_ n1_ n2_ n3_; clear hb hbox hg; have hcz4_0 : w3.cell? ⟨gb119, 0, none⟩ = some (.int .i64 a0_0) := (blk_cell BK119.out 0).trans rfl; have hcz4_1 : w3.cell? ⟨gb119, 1, none⟩ = some (.int .i64 a0_1) := (blk_cell BK119.out 1).trans rfl; have hcz4_2 : w3.cell? ⟨gb119, 2, none⟩ = some (.int .i64 a0_2) := (blk_cell BK119.out 2).trans rfl; have hcz4_3 : w3.cell? ⟨gb119, 3, none⟩ = some (.slice A0_3 l0_3.length c0_3) := (blk_cell BK119.out 3).trans rfl; have hfz4_0 := blk_frozen BK119.out 0; have hfz4_1 := blk_frozen BK119.out 1; have hfz4_2 := blk_frozen BK119.out 2; have hfz4_3 := blk_frozen BK119.out 3) | ((with_reducible refine gate_callee (f := 41) rfl ?_); refine goesL_ (some 7) rfl rfl Try.func41 (by kernel_rfl) rfl #[.agg #[.int .i64 a0_0, .int .i64 a0_1, .int .i64 a0_2, .slice A0_3 l0_3.length c0_3]] rfl (by (try simp only [List.map_toArray, List.map_cons, List.map_nil]); first | done | rfl | (simp only [List.length_drop, List.length_take]; rfl)) ?_; (with_reducible refine (check_All.calls k a0_0 a0_1 a0_2 _ _ l0_3 t120 t121 _ ?side1 ?side2 A2.out).mono ?_); (case side1 => repeat (first | exact (Kd.C_below HR0_3.out HB.out) | (with_reducible refine Kd.C_alloc ?_ _) | (with_reducible refine Kd.C_drewN ?_ _) | (with_reducible refine Kd.C_drew ?_))); (case side2 => exact HC0_3.out); rintro e w5 ⟨rfl, hb⟩; refine ⟨_, rfl, ?_⟩; have n0_ := Aside0.mk (blk_below (g := gb119) (o := .cells #[.int .i64 a0_0, .int .i64 a0_1, .int .i64 a0_2, .slice A0_3 l0_3.length c0_3] 26 (0, 0)) (by (with_reducible repeat (first | refine blk_drewN ?_ _ | refine blk_drew ?_ | refine blk_alloc ?_ _)); exact BK119.out) hb); have n1_ := Aside0.mk (below_step (by repeat (first | (with_reducible first | exact HB.out | apply below_alloc | apply pw_below_drewN | apply below_drew1 | refine below_set ?_ GE119.out) | exact HB.out)) hb); clear BK119; clear HB; have BK119 := n0_; have HB := n1_; clear n0_ n1_; (try clear hb); (try clear hb2); (try clear hk); (try clear hi)))
  go_ret
  exact ⟨by first | rfl | (simp [errW_none, errW_some] <;> rfl) | (simp [*, errW_none, errW_some] <;> rfl), by repeat (first | (with_reducible first | exact HB.out | apply below_alloc | apply pw_below_drewN | apply below_drew1 | refine below_set ?_ GE119.out) | exact HB.out)⟩

end Go.Proofs.Ytjegihodmidhoaa.G
namespace Go.Proofs.Ytjegihodmidhoaa.G
open Go.RowKit Go.Proofs.YtjegihodmidhoaaW.PrintWords Go.Proofs.YtjegihodmidhoaaW.PrintLast Go.Proofs.YtjegihodmidhoaaW.PrintMore
set_option linter.unusedVariables false
set_option linter.unusedSimpArgs false
/-! ### check.All, gates.Total -/
theorem all_l0 (xs : List S96) (hl : xs.length ≤ 100) (d : Nat) : ∀ (k i : Nat), xs.length - i = d → i ≤ xs.length → d < k →
    check_All.l0 k (sumW (xs.take i)) (sumP (xs.take i)) xs xs.length i = some (sumW xs, sumP xs) := by
  induction d with
  | zero =>
    intro k i hd hi hk
    obtain ⟨k, rfl⟩ : ∃ m, k = m + 1 := ⟨k - 1, by omega⟩
    simp only [check_All.l0]
    rw [if_neg (by omega), List.take_of_length_le (by omega)]
  | succ d ih =>
    intro k i hd hi hk
    obtain ⟨k, rfl⟩ : ∃ m, k = m + 1 := ⟨k - 1, by omega⟩
    simp only [check_All.l0]
    rw [if_pos (by omega), if_pos (by omega), if_pos (by omega)]
    have hlt : i < xs.length := by omega
    have hr : rd_T96 xs (i : Int) = xs[i] := rd96_eq (List.getElem?_eq_getElem hlt)
    have hw : wrap64 ((i : Int) + 1) = ((i + 1 : Nat) : Int) := by unfold wrap64; omega
    have h1 : wrap64 (sumW (xs.take i) + (rd_T96 xs (i : Int)).f3) = sumW (xs.take (i + 1)) := by
      rw [List.take_succ_eq_append_getElem hlt, sumW_snoc, hr]
    have h2 : wrap64 (sumP (xs.take i) + (rd_T96 xs (i : Int)).f4) = sumP (xs.take (i + 1)) := by
      rw [List.take_succ_eq_append_getElem hlt, sumP_snoc, hr]
    rw [hw, h1, h2]
    exact ih k (i + 1) (by omega) (by omega) (by omega)
theorem All_eq (a b c : Int) (ls : List S63) (k : Nat) (hk : 9 ≤ k) : check_All.f k a b c ls = some (sumW (allS a b c ls).1, sumP (allS a b c ls).1) := by
  unfold check_All.f check_all.f
  simp only [Option.bind_some]
  have := allS_len a b c ls
  exact all_l0 (allS a b c ls).1 (by omega) (allS a b c ls).1.length k 0 (by omega) (by omega) (by omega)
theorem total_eq (a b c : Int) (ls : List S63) (k : Nat) (hk : 9 ≤ k) : gates_Total.f k a b c ls = some ((gatesS a b c ls).length : Int) := by
  unfold gates_Total.f
  rw [All_eq a b c ls k hk]
  simp only [Option.bind_some, Option.some.injEq]
  by_cases h : (allS a b c ls).2 = 0
  · exact (allS_ok h).gates_length.1.symm
  · rw [allS_no h, gates_none h]; rfl
/-! ### What a gate is -/
theorem numbered_get {G : List S35} {n : Nat} (h : n < (numbered G).length) : (numbered G)[n] = (n, G[n]'(by simpa [numbered] using h)) := by simp [numbered]
theorem firstOf_at {G : List S35} {n : Nat} {x : S35} (h : G[n]? = some x) : firstOf (isG n) (numbered G) = some (n, x) := by
  obtain ⟨hl, hx⟩ := List.getElem?_eq_some_iff.1 h
  unfold firstOf
  rw [List.find?_eq_some_iff_getElem]
  refine ⟨by simp [isG], n, by rw [numbered_length]; exact hl, by rw [numbered_get, hx], fun j hj => ?_⟩
  rw [numbered_get]
  simp [isG]; omega
theorem firstOf_out {G : List S35} {g : Int} (h : g < 0 ∨ (G.length : Int) ≤ g) : firstOf (isG g) (numbered G) = none := by
  unfold firstOf
  rw [List.find?_eq_none]
  intro y hy
  obtain ⟨n, hn, e⟩ := List.getElem_of_mem hy
  rw [numbered_length] at hn
  rw [numbered_get] at e
  subst e
  simp [isG]; omega
/-! ### The gates' order -/
def lexLt (x y : S35) : Prop := x.f0 < y.f0 ∨ x.f0 = y.f0 ∧ (x.f1 < y.f1 ∨ x.f1 = y.f1 ∧ x.f2 < y.f2)
theorem lexLt_asymm {x y : S35} (h : lexLt x y) (h' : lexLt y x) : False := by unfold lexLt at *; omega
theorem lexLt_irrefl {x : S35} (h : lexLt x x) : False := by unfold lexLt at *; omega
section
variable (T : Nat → Nat → List S91)
theorem place_mem {i m : Nat} {x : S35} (h : x ∈ placeG T i m) : x.f0 = i ∧ x.f1 = m := by
  obtain ⟨n, hn, rfl⟩ := List.getElem_of_mem h
  simp [placeG]
theorem place_sorted (i m : Nat) : (placeG T i m).Pairwise lexLt := by
  rw [List.pairwise_iff_getElem]
  intro a b ha hb hab
  simp only [placeG, List.getElem_mapIdx]
  exact .inr ⟨rfl, .inr ⟨rfl, by simp only; omega⟩⟩
theorem layer_succ (i m : Nat) : layerG T i (m + 1) = layerG T i m ++ placeG T i m := range_flat_succ _ _
theorem layer_mem {i m : Nat} {x : S35} (h : x ∈ layerG T i m) : x.f0 = i ∧ x.f1 < m := by
  induction m with
  | zero => simp [layerG] at h
  | succ m ih =>
    rw [layer_succ, List.mem_append] at h
    rcases h with h | h
    · have := ih h; omega
    · have := place_mem T h; omega
theorem layer_sorted (i m : Nat) : (layerG T i m).Pairwise lexLt := by
  induction m with
  | zero => simp [layerG]
  | succ m ih =>
    rw [layer_succ, List.pairwise_append]
    refine ⟨ih, place_sorted T i m, fun x hx y hy => ?_⟩
    have h1 := layer_mem T hx
    have h2 := place_mem T hy
    exact .inr ⟨by omega, .inl (by omega)⟩
variable (L : List S23)
theorem upTo_succ (i : Nat) : upToG L T (i + 1) = upToG L T i ++ layerG T i (szN L i) := range_flat_succ _ _
theorem upTo_mem {i : Nat} {x : S35} (h : x ∈ upToG L T i) : x.f0 < i := by
  induction i with
  | zero => simp [upToG] at h
  | succ i ih =>
    rw [upTo_succ, List.mem_append] at h
    rcases h with h | h
    · have := ih h; omega
    · have := layer_mem T h; omega
theorem upTo_sorted (i : Nat) : (upToG L T i).Pairwise lexLt := by
  induction i with
  | zero => simp [upToG]
  | succ i ih =>
    rw [upTo_succ, List.pairwise_append]
    refine ⟨ih, layer_sorted T i _, fun x hx y hy => ?_⟩
    have h1 := upTo_mem T L hx
    have h2 := layer_mem T hy
    exact .inl (by omega)
end
theorem gates_sorted (a b c : Int) (ls : List S63) : (gatesS a b c ls).Pairwise lexLt := upTo_sorted _ _ _
theorem gates_lex {a b c : Int} {ls : List S63} {m n : Nat} {x y : S35} (hx : (gatesS a b c ls)[m]? = some x) (hy : (gatesS a b c ls)[n]? = some y) : lexLt x y ↔ m < n := by
  obtain ⟨h1, rfl⟩ := List.getElem?_eq_some_iff.1 hx
  obtain ⟨h2, rfl⟩ := List.getElem?_eq_some_iff.1 hy
  have hp := List.pairwise_iff_getElem.1 (gates_sorted a b c ls)
  constructor
  · intro h
    rcases Nat.lt_trichotomy m n with h3 | h3 | h3
    · exact h3
    · subst h3; exact (lexLt_irrefl h).elim
    · exact (lexLt_asymm h (hp n m h2 h1 h3)).elim
  · intro h; exact hp m n h1 h2 h
end Go.Proofs.Ytjegihodmidhoaa.G
namespace Go.Proofs.Ytjegihodmidhoaa.G
open Go.RowKit Go.Proofs.YtjegihodmidhoaaW.PrintWords Go.Proofs.YtjegihodmidhoaaW.PrintLast Go.Proofs.YtjegihodmidhoaaW.PrintMore
set_option linter.unusedVariables false
set_option linter.unusedSimpArgs false
/-- gates.Gate and gates.Index by their plain reading, in the form that printed callers take. -/
def gates_Gate.f (a b c : Int) (ls : List S63) (g : Int) : Option (Int × Int × Int × Int × Int × Bool) :=
  if ls.length ≤ 1000 then some ((foundX (gateS a b c ls g)).f0, (foundX (gateS a b c ls g)).f1, (foundX (gateS a b c ls g)).f2, (foundX (gateS a b c ls g)).f3, (foundX (gateS a b c ls g)).f4, foundB (gateS a b c ls g)) else none
theorem gates_Gate.calls (a b c : Int) (A : Option Addr) (cp : Nat) (ls : List S63) (g : Int) (r1 r2 r3 r4 r5 : Int) (r6 : Bool) (w : World) (hC : Kd.C k63 w A ls.length ls) (hcp : ls.length ≤ cp) (h : gates_Gate.f a b c ls g = some (r1, r2, r3, r4, r5, r6)) :
    Calls Try.prog 19 #[.agg #[.int .i64 a, .int .i64 b, .int .i64 c, .slice A ls.length cp], .int .i64 g] w fun e w' => e = .returned (.tuple #[.agg #[.int .i64 r1, .int .i64 r2, .int .i64 r3, .int .i64 r4, .int .i64 r5], .bool r6]) ∧ Below w.heap.size w w' := by
  unfold gates_Gate.f at h
  split at h
  · simp only [Option.some.injEq, Prod.mk.injEq] at h
    obtain ⟨rfl, rfl, rfl, rfl, rfl, rfl⟩ := h
    exact gate_calls a b c A cp ls g ‹_› w hC hcp
  · cases h
def gates_Index.f (a b c : Int) (ls : List S63) (i at_ k : Int) : Option Int := if ls.length ≤ 1000 then some (foundG (indexS a b c ls i at_ k)) else none
theorem gates_Index.calls (a b c : Int) (A : Option Addr) (cp : Nat) (ls : List S63) (i at_ k : Int) (r : Int) (w : World) (hC : Kd.C k63 w A ls.length ls) (hcp : ls.length ≤ cp) (h : gates_Index.f a b c ls i at_ k = some r) :
    Calls Try.prog 37 #[.agg #[.int .i64 a, .int .i64 b, .int .i64 c, .slice A ls.length cp], .int .i64 i, .int .i64 at_, .int .i64 k] w fun e w' => e = .returned (.int .i64 r) ∧ Below w.heap.size w w' := by
  unfold gates_Index.f at h
  split at h
  · simp only [Option.some.injEq] at h
    subst h
    exact index_calls a b c A cp ls i at_ k ‹_› w hC hcp
  · cases h
end Go.Proofs.Ytjegihodmidhoaa.G
namespace Go.Proofs.Ytjegihodmidhoaa.G
open Go.RowKit Go.Proofs.YtjegihodmidhoaaW.PrintWords Go.Proofs.YtjegihodmidhoaaW.PrintLast Go.Proofs.YtjegihodmidhoaaW.PrintMore
attribute [local go_sem] max2_int min2_int max_two min_two max_three min_three max_four min_four   -- for this text's walks alone
set_option linter.unusedVariables false
set_option linter.unusedSimpArgs false

/-! ### symbolonlaw04_Great: function 13 -/
def symbolonlaw04_Great.f (a0_0 : Int) (a0_1 : Int) (a0_2 : Int) (l0_3 : List (S63)) : Option (Bool) := some (decide ((l0_3.length : Int) > 60))
set_option maxHeartbeats 8000000 in
set_option maxRecDepth 100000 in
theorem symbolonlaw04_Great.calls (a0_0 : Int) (a0_1 : Int) (a0_2 : Int) (A0_3 : Option Addr) (c0_3 : Nat) (l0_3 : List (S63)) (r : Bool) (w : World) (hr0_3 : Kd.C k63 w A0_3 l0_3.length l0_3) (hc0_3 : l0_3.length ≤ c0_3) (h : symbolonlaw04_Great.f a0_0 a0_1 a0_2 l0_3 = some r) :
    Calls Try.prog 13 #[.agg #[.int .i64 a0_0, .int .i64 a0_1, .int .i64 a0_2, .slice A0_3 l0_3.length c0_3]] w fun e w' => e = .returned (.bool r) ∧ Below w.heap.size w w' := by
  have hu26 := Try.underlying26
  have HR0_3 := Aside0.mk hr0_3
  have HC0_3 := Aside0.mk hc0_3
  clear hr0_3 hc0_3
  have HB := Aside0.mk (Below.refl w.heap.size w)
  have H : (some (decide ((l0_3.length : Int) > 60))) = some r := h
  clear h
  obtain rfl := Option.some.inj H
  go_enter Try.func13, Try.ntmps13
  go_wp2_with (first | ((with_reducible refine gate_dst (N := 1) rfl ?_); refine box_event ?hg (N := 1) ?hd (cs := #[.int .i64 a0_0, .int .i64 a0_1, .int .i64 a0_2, .slice A0_3 l0_3.length c0_3]) (t := 26) ?hr ?_; (case hd => rfl); (case hg => rfl); (case hr => first | (go_simp; done) | (go_simp; rfl)); intro gb198 hg w2 hbox hb; have n0_ := Aside0.mk (below_step (by repeat (first | (with_reducible first | exact HB.out | apply below_alloc | apply pw_below_drewN | apply below_drew1) | exact HB.out)) hb); have n1_ := Aside0.mk (hbox); have n2_ := Aside0.mk ((by rw [hg]; exact (below_size (by repeat (first | (with_reducible first | exact HB.out | apply below_alloc | apply pw_below_drewN | apply below_drew1) | exact HB.out))) : w.heap.size ≤ gb198)); have n3_ := Aside0.mk ((by rw [hg]; exact (below_size (by repeat (first | (with_reducible first | exact HB.out | apply below_alloc | apply pw_below_drewN | apply below_drew1) | exact HB.out))) : w.heap.size ≤ gb198)); clear HB; have HB := n0_; have BK198 := n1_; have GW198 := n2_; have GE198 := n3_; clear n0_ n1_ n2_ n3_; clear hb hbox hg; have hcz3_0 : w2.cell? ⟨gb198, 0, none⟩ = some (.int .i64 a0_0) := (blk_cell BK198.out 0).trans rfl; have hcz3_1 : w2.cell? ⟨gb198, 1, none⟩ = some (.int .i64 a0_1) := (blk_cell BK198.out 1).trans rfl; have hcz3_2 : w2.cell? ⟨gb198, 2, none⟩ = some (.int .i64 a0_2) := (blk_cell BK198.out 2).trans rfl; have hcz3_3 : w2.cell? ⟨gb198, 3, none⟩ = some (.slice A0_3 l0_3.length c0_3) := (blk_cell BK198.out 3).trans rfl; have hfz3_0 := blk_frozen BK198.out 0; have hfz3_1 := blk_frozen BK198.out 1; have hfz3_2 := blk_frozen BK198.out 2; have hfz3_3 := blk_frozen BK198.out 3))
  go_ret
  exact ⟨by first | rfl | (simp [errW_none, errW_some] <;> rfl) | (simp [*, errW_none, errW_some] <;> rfl), by repeat (first | (with_reducible first | exact HB.out | apply below_alloc | apply pw_below_drewN | apply below_drew1 | refine below_set ?_ GE198.out) | exact HB.out)⟩

end Go.Proofs.Ytjegihodmidhoaa.G
namespace Go.Proofs.Ytjegihodmidhoaa.G
open Go.RowKit Go.Proofs.YtjegihodmidhoaaW.PrintWords Go.Proofs.YtjegihodmidhoaaW.PrintLast Go.Proofs.YtjegihodmidhoaaW.PrintMore
attribute [local go_sem] max2_int min2_int max_two min_two max_three min_three max_four min_four   -- for this text's walks alone
set_option linter.unusedVariables false
set_option linter.unusedSimpArgs false

/-! ### check_Products: function 38 -/
def check_Products.f (a0_0 : Int) (a0_1 : Int) (a0_2 : Int) (l0_3 : List (S63)) (a1 : Int) : Option (Int) := (check_all.f a0_0 a0_1 a0_2 l0_3).bind fun bt102 => (if a1 ≥ 0 then (if a1 < (bt102.1.length : Int) then (if 0 ≤ a1 then (some ((rd_T96 bt102.1 a1).f4)) else (none)) else (some 0)) else (some 0))
set_option maxHeartbeats 8000000 in
set_option maxRecDepth 100000 in
theorem check_Products.calls (a0_0 : Int) (a0_1 : Int) (a0_2 : Int) (A0_3 : Option Addr) (c0_3 : Nat) (l0_3 : List (S63)) (a1 : Int) (r : Int) (w : World) (hr0_3 : Kd.C k63 w A0_3 l0_3.length l0_3) (hc0_3 : l0_3.length ≤ c0_3) (h : check_Products.f a0_0 a0_1 a0_2 l0_3 a1 = some r) :
    Calls Try.prog 38 #[.agg #[.int .i64 a0_0, .int .i64 a0_1, .int .i64 a0_2, .slice A0_3 l0_3.length c0_3], .int .i64 a1] w fun e w' => e = .returned (.int .i64 r) ∧ Below w.heap.size w w' := by
  have hu26 := Try.underlying26
  have HR0_3 := Aside0.mk hr0_3
  have HC0_3 := Aside0.mk hc0_3
  clear hr0_3 hc0_3
  have HB := Aside0.mk (Below.refl w.heap.size w)
  have H : ((check_all.f a0_0 a0_1 a0_2 l0_3).bind fun bt102 => (if a1 ≥ 0 then (if a1 < (bt102.1.length : Int) then (if 0 ≤ a1 then (some ((rd_T96 bt102.1 a1).f4)) else (none)) else (some 0)) else (some 0))) = some r := h
  clear h
  replace H := Option.bind_eq_some_iff.mp H
  obtain ⟨⟨t102, t105⟩, A30, H⟩ := H
  replace H : (if a1 ≥ 0 then (if a1 < (t102.length : Int) then (if 0 ≤ a1 then (some ((rd_T96 t102 a1).f4)) else (none)) else (some 0)) else (some 0)) = some r := H
  have A3 := Aside0.mk A30
  clear A30
  by_cases c4 : a1 ≥ 0
  · rw [if_pos c4] at H
    have c4b0 : decide (0 ≤ a1) = true := decide_eq_true c4
    clear c4
    by_cases c5 : a1 < (t102.length : Int)
    · rw [if_pos c5] at H
      have c5b0 : decide (a1 < (t102.length : Int)) = true := decide_eq_true c5
      clear c5
      by_cases c6 : 0 ≤ a1
      · rw [if_pos c6] at H
        have c6b0 : decide (0 ≤ a1) = true := decide_eq_true c6
        clear c6
        obtain rfl := Option.some.inj H
        go_enter Try.func38, Try.ntmps38
        go_wp2_with (first | ((with_reducible refine gate_dst (N := 2) rfl ?_); (try (refine gate_guard (by rfl) ?_; dsimp only)); refine box_event ?hg (N := 2) ?hd (cs := #[.int .i64 a0_0, .int .i64 a0_1, .int .i64 a0_2, .slice A0_3 l0_3.length c0_3]) (t := 26) ?hr ?_; (case hd => rfl); (case hg => rfl); (case hr => first | (go_simp; done) | (go_simp; rfl)); intro gb101 hg w7 hbox hb; have n0_ := Aside0.mk (below_step (by repeat (first | (with_reducible first | exact HB.out | apply below_alloc | apply pw_below_drewN | apply below_drew1) | exact HB.out)) hb); have n1_ := Aside0.mk (hbox); have n2_ := Aside0.mk ((by rw [hg]; exact (below_size (by repeat (first | (with_reducible first | exact HB.out | apply below_alloc | apply pw_below_drewN | apply below_drew1) | exact HB.out))) : w.heap.size ≤ gb101)); have n3_ := Aside0.mk ((by rw [hg]; exact (below_size (by repeat (first | (with_reducible first | exact HB.out | apply below_alloc | apply pw_below_drewN | apply below_drew1) | exact HB.out))) : w.heap.size ≤ gb101)); clear HB; have HB := n0_; have BK101 := n1_; have GW101 := n2_; have GE101 := n3_; clear n0_ n1_ n2_ n3_; clear hb hbox hg; have hcz8_0 : w7.cell? ⟨gb101, 0, none⟩ = some (.int .i64 a0_0) := (blk_cell BK101.out 0).trans rfl; have hcz8_1 : w7.cell? ⟨gb101, 1, none⟩ = some (.int .i64 a0_1) := (blk_cell BK101.out 1).trans rfl; have hcz8_2 : w7.cell? ⟨gb101, 2, none⟩ = some (.int .i64 a0_2) := (blk_cell BK101.out 2).trans rfl; have hcz8_3 : w7.cell? ⟨gb101, 3, none⟩ = some (.slice A0_3 l0_3.length c0_3) := (blk_cell BK101.out 3).trans rfl; have hfz8_0 := blk_frozen BK101.out 0; have hfz8_1 := blk_frozen BK101.out 1; have hfz8_2 := blk_frozen BK101.out 2; have hfz8_3 := blk_frozen BK101.out 3) | ((with_reducible refine gate_callee (f := 58) rfl ?_); refine goesL_ (some 9) rfl rfl Try.func58 (by kernel_rfl) rfl #[.agg #[.int .i64 a0_0, .int .i64 a0_1, .int .i64 a0_2, .slice A0_3 l0_3.length c0_3]] rfl (by (try simp only [List.map_toArray, List.map_cons, List.map_nil]); first | done | rfl | (simp only [List.length_drop, List.length_take]; rfl)) ?_; (with_reducible refine (check_all.calls a0_0 a0_1 a0_2 _ _ l0_3 t102 t105 _ ?side1 ?side2 A3.out).mono ?_); (case side1 => repeat (first | exact (Kd.C_below HR0_3.out HB.out) | (with_reducible refine Kd.C_alloc ?_ _) | (with_reducible refine Kd.C_drewN ?_ _) | (with_reducible refine Kd.C_drew ?_))); (case side2 => exact HC0_3.out); rintro e w9 ⟨v103, rfl, ho0, hb⟩; refine ⟨_, rfl, ?_⟩; have n0_ := Aside0.mk (Kd.R_lower ho0 (below_size (by repeat (first | (with_reducible first | exact HB.out | apply below_alloc | apply pw_below_drewN | apply below_drew1 | refine below_set ?_ GE101.out) | exact HB.out)))); have n1_ := Aside0.mk (blk_below (g := gb101) (o := .cells #[.int .i64 a0_0, .int .i64 a0_1, .int .i64 a0_2, .slice A0_3 l0_3.length c0_3] 26 (0, 0)) (by (with_reducible repeat (first | refine blk_drewN ?_ _ | refine blk_drew ?_ | refine blk_alloc ?_ _)); exact BK101.out) hb); have n2_ := Aside0.mk (below_step (by repeat (first | (with_reducible first | exact HB.out | apply below_alloc | apply pw_below_drewN | apply below_drew1 | refine below_set ?_ GE101.out) | exact HB.out)) hb); clear BK101; clear HB; have HO104 := n0_; have BK101 := n1_; have HB := n2_; clear n0_ n1_ n2_; (try clear hb); (try clear hb2); (try clear hk); (try clear hi); (try clear ho0); obtain ⟨Ao10, co10, eo10⟩ := Kd.R_slice HO104.out; subst eo10; have p106 : 0 ≤ (a1 : Int) := of_decide_eq_true (by first | (with_reducible assumption) | assumption); have q106 : a1 < (t102.length : Int) := of_decide_eq_true (by first | (with_reducible assumption) | assumption); obtain ⟨ad106, e106, hx106_0, hx106_1, hx106_2, hx106_3, hx106_4, hx106_5, hx106_6, hx106_7, hx106_8, hx106_9, hx106_10, hx106_11⟩ := at_T96 (Kd.R_reads' HO104.out).2.2 a1 p106 q106; cases e106; replace p106 := eq_true p106; replace q106 := eq_true q106))
        go_ret
        exact ⟨by first | rfl | (simp [errW_none, errW_some] <;> rfl) | (simp [*, errW_none, errW_some] <;> rfl), by repeat (first | (with_reducible first | exact HB.out | apply below_alloc | apply pw_below_drewN | apply below_drew1 | refine below_set ?_ GE101.out) | exact HB.out)⟩
      · rw [if_neg c6] at H
        exact absurd H (by simp)
    · rw [if_neg c5] at H
      have c5b0 : decide (a1 < (t102.length : Int)) = false := decide_eq_false c5
      clear c5
      obtain rfl := Option.some.inj H
      go_enter Try.func38, Try.ntmps38
      go_wp2_with (first | ((with_reducible refine gate_dst (N := 2) rfl ?_); (try (refine gate_guard (by rfl) ?_; dsimp only)); refine box_event ?hg (N := 2) ?hd (cs := #[.int .i64 a0_0, .int .i64 a0_1, .int .i64 a0_2, .slice A0_3 l0_3.length c0_3]) (t := 26) ?hr ?_; (case hd => rfl); (case hg => rfl); (case hr => first | (go_simp; done) | (go_simp; rfl)); intro gb101 hg w11 hbox hb; have n0_ := Aside0.mk (below_step (by repeat (first | (with_reducible first | exact HB.out | apply below_alloc | apply pw_below_drewN | apply below_drew1) | exact HB.out)) hb); have n1_ := Aside0.mk (hbox); have n2_ := Aside0.mk ((by rw [hg]; exact (below_size (by repeat (first | (with_reducible first | exact HB.out | apply below_alloc | apply pw_below_drewN | apply below_drew1) | exact HB.out))) : w.heap.size ≤ gb101)); have n3_ := Aside0.mk ((by rw [hg]; exact (below_size (by repeat (first | (with_reducible first | exact HB.out | apply below_alloc | apply pw_below_drewN | apply below_drew1) | exact HB.out))) : w.heap.size ≤ gb101)); clear HB; have HB := n0_; have BK101 := n1_; have GW101 := n2_; have GE101 := n3_; clear n0_ n1_ n2_ n3_; clear hb hbox hg; have hcz12_0 : w11.cell? ⟨gb101, 0, none⟩ = some (.int .i64 a0_0) := (blk_cell BK101.out 0).trans rfl; have hcz12_1 : w11.cell? ⟨gb101, 1, none⟩ = some (.int .i64 a0_1) := (blk_cell BK101.out 1).trans rfl; have hcz12_2 : w11.cell? ⟨gb101, 2, none⟩ = some (.int .i64 a0_2) := (blk_cell BK101.out 2).trans rfl; have hcz12_3 : w11.cell? ⟨gb101, 3, none⟩ = some (.slice A0_3 l0_3.length c0_3) := (blk_cell BK101.out 3).trans rfl; have hfz12_0 := blk_frozen BK101.out 0; have hfz12_1 := blk_frozen BK101.out 1; have hfz12_2 := blk_frozen BK101.out 2; have hfz12_3 := blk_frozen BK101.out 3) | ((with_reducible refine gate_callee (f := 58) rfl ?_); refine goesL_ (some 9) rfl rfl Try.func58 (by kernel_rfl) rfl #[.agg #[.int .i64 a0_0, .int .i64 a0_1, .int .i64 a0_2, .slice A0_3 l0_3.length c0_3]] rfl (by (try simp only [List.map_toArray, List.map_cons, List.map_nil]); first | done | rfl | (simp only [List.length_drop, List.length_take]; rfl)) ?_; (with_reducible refine (check_all.calls a0_0 a0_1 a0_2 _ _ l0_3 t102 t105 _ ?side1 ?side2 A3.out).mono ?_); (case side1 => repeat (first | exact (Kd.C_below HR0_3.out HB.out) | (with_reducible refine Kd.C_alloc ?_ _) | (with_reducible refine Kd.C_drewN ?_ _) | (with_reducible refine Kd.C_drew ?_))); (case side2 => exact HC0_3.out); rintro e w13 ⟨v103, rfl, ho0, hb⟩; refine ⟨_, rfl, ?_⟩; have n0_ := Aside0.mk (Kd.R_lower ho0 (below_size (by repeat (first | (with_reducible first | exact HB.out | apply below_alloc | apply pw_below_drewN | apply below_drew1 | refine below_set ?_ GE101.out) | exact HB.out)))); have n1_ := Aside0.mk (blk_below (g := gb101) (o := .cells #[.int .i64 a0_0, .int .i64 a0_1, .int .i64 a0_2, .slice A0_3 l0_3.length c0_3] 26 (0, 0)) (by (with_reducible repeat (first | refine blk_drewN ?_ _ | refine blk_drew ?_ | refine blk_alloc ?_ _)); exact BK101.out) hb); have n2_ := Aside0.mk (below_step (by repeat (first | (with_reducible first | exact HB.out | apply below_alloc | apply pw_below_drewN | apply below_drew1 | refine below_set ?_ GE101.out) | exact HB.out)) hb); clear BK101; clear HB; have HO104 := n0_; have BK101 := n1_; have HB := n2_; clear n0_ n1_ n2_; (try clear hb); (try clear hb2); (try clear hk); (try clear hi); (try clear ho0); obtain ⟨Ao14, co14, eo14⟩ := Kd.R_slice HO104.out; subst eo14))
      go_ret
      exact ⟨by first | rfl | (simp [errW_none, errW_some] <;> rfl) | (simp [*, errW_none, errW_some] <;> rfl), by repeat (first | (with_reducible first | exact HB.out | apply below_alloc | apply pw_below_drewN | apply below_drew1 | refine below_set ?_ GE101.out) | exact HB.out)⟩
  · rw [if_neg c4] at H
    have c4b0 : decide (0 ≤ a1) = false := decide_eq_false c4
    clear c4
    obtain rfl := Option.some.inj H
    go_enter Try.func38, Try.ntmps38
    go_wp2_with (first | ((with_reducible refine gate_dst (N := 2) rfl ?_); (try (refine gate_guard (by rfl) ?_; dsimp only)); refine box_event ?hg (N := 2) ?hd (cs := #[.int .i64 a0_0, .int .i64 a0_1, .int .i64 a0_2, .slice A0_3 l0_3.length c0_3]) (t := 26) ?hr ?_; (case hd => rfl); (case hg => rfl); (case hr => first | (go_simp; done) | (go_simp; rfl)); intro gb101 hg w15 hbox hb; have n0_ := Aside0.mk (below_step (by repeat (first | (with_reducible first | exact HB.out | apply below_alloc | apply pw_below_drewN | apply below_drew1) | exact HB.out)) hb); have n1_ := Aside0.mk (hbox); have n2_ := Aside0.mk ((by rw [hg]; exact (below_size (by repeat (first | (with_reducible first | exact HB.out | apply below_alloc | apply pw_below_drewN | apply below_drew1) | exact HB.out))) : w.heap.size ≤ gb101)); have n3_ := Aside0.mk ((by rw [hg]; exact (below_size (by repeat (first | (with_reducible first | exact HB.out | apply below_alloc | apply pw_below_drewN | apply below_drew1) | exact HB.out))) : w.heap.size ≤ gb101)); clear HB; have HB := n0_; have BK101 := n1_; have GW101 := n2_; have GE101 := n3_; clear n0_ n1_ n2_ n3_; clear hb hbox hg; have hcz16_0 : w15.cell? ⟨gb101, 0, none⟩ = some (.int .i64 a0_0) := (blk_cell BK101.out 0).trans rfl; have hcz16_1 : w15.cell? ⟨gb101, 1, none⟩ = some (.int .i64 a0_1) := (blk_cell BK101.out 1).trans rfl; have hcz16_2 : w15.cell? ⟨gb101, 2, none⟩ = some (.int .i64 a0_2) := (blk_cell BK101.out 2).trans rfl; have hcz16_3 : w15.cell? ⟨gb101, 3, none⟩ = some (.slice A0_3 l0_3.length c0_3) := (blk_cell BK101.out 3).trans rfl; have hfz16_0 := blk_frozen BK101.out 0; have hfz16_1 := blk_frozen BK101.out 1; have hfz16_2 := blk_frozen BK101.out 2; have hfz16_3 := blk_frozen BK101.out 3) | ((with_reducible refine gate_callee (f := 58) rfl ?_); refine goesL_ (some 9) rfl rfl Try.func58 (by kernel_rfl) rfl #[.agg #[.int .i64 a0_0, .int .i64 a0_1, .int .i64 a0_2, .slice A0_3 l0_3.length c0_3]] rfl (by (try simp only [List.map_toArray, List.map_cons, List.map_nil]); first | done | rfl | (simp only [List.length_drop, List.length_take]; rfl)) ?_; (with_reducible refine (check_all.calls a0_0 a0_1 a0_2 _ _ l0_3 t102 t105 _ ?side1 ?side2 A3.out).mono ?_); (case side1 => repeat (first | exact (Kd.C_below HR0_3.out HB.out) | (with_reducible refine Kd.C_alloc ?_ _) | (with_reducible refine Kd.C_drewN ?_ _) | (with_reducible refine Kd.C_drew ?_))); (case side2 => exact HC0_3.out); rintro e w17 ⟨v103, rfl, ho0, hb⟩; refine ⟨_, rfl, ?_⟩; have n0_ := Aside0.mk (Kd.R_lower ho0 (below_size (by repeat (first | (with_reducible first | exact HB.out | apply below_alloc | apply pw_below_drewN | apply below_drew1 | refine below_set ?_ GE101.out) | exact HB.out)))); have n1_ := Aside0.mk (blk_below (g := gb101) (o := .cells #[.int .i64 a0_0, .int .i64 a0_1, .int .i64 a0_2, .slice A0_3 l0_3.length c0_3] 26 (0, 0)) (by (with_reducible repeat (first | refine blk_drewN ?_ _ | refine blk_drew ?_ | refine blk_alloc ?_ _)); exact BK101.out) hb); have n2_ := Aside0.mk (below_step (by repeat (first | (with_reducible first | exact HB.out | apply below_alloc | apply pw_below_drewN | apply below_drew1 | refine below_set ?_ GE101.out) | exact HB.out)) hb); clear BK101; clear HB; have HO104 := n0_; have BK101 := n1_; have HB := n2_; clear n0_ n1_ n2_; (try clear hb); (try clear hb2); (try clear hk); (try clear hi); (try clear ho0)))
    go_ret
    exact ⟨by first | rfl | (simp [errW_none, errW_some] <;> rfl) | (simp [*, errW_none, errW_some] <;> rfl), by repeat (first | (with_reducible first | exact HB.out | apply below_alloc | apply pw_below_drewN | apply below_drew1 | refine below_set ?_ GE101.out) | exact HB.out)⟩

end Go.Proofs.Ytjegihodmidhoaa.G
namespace Go.Proofs.Ytjegihodmidhoaa.G
open Go.RowKit Go.Proofs.YtjegihodmidhoaaW.PrintWords Go.Proofs.YtjegihodmidhoaaW.PrintLast Go.Proofs.YtjegihodmidhoaaW.PrintMore
attribute [local go_sem] max2_int min2_int max_two min_two max_three min_three max_four min_four   -- for this text's walks alone
set_option linter.unusedVariables false
set_option linter.unusedSimpArgs false

/-! ### gates_Stages: function 14 -/
def gates_Stages.l0 : Nat → List Int → Int → Int → Int → Int → Int → List (S63) → Option (List Int)
  | 0, _, _, _, _, _, _, _ => none
  | k + 1, x3, x7, x8, x108000, x108001, x108002, x108003 => if x8 < x7 then ((check_Products.f x108000 x108001 x108002 x108003 x8).bind fun t108 => (if t108 > 0 then (if x3.length < 17592186044416 then (gates_Stages.l0 k (x3 ++ [x8]) x7 (wrap64 (x8 + 1)) x108000 x108001 x108002 x108003) else (none)) else (gates_Stages.l0 k x3 x7 (wrap64 (x8 + 1)) x108000 x108001 x108002 x108003))) else (some x3)
def gates_Stages.f (k : Nat) (a0_0 : Int) (a0_1 : Int) (a0_2 : Int) (l0_3 : List (S63)) : Option (List Int) := gates_Stages.l0 k ([] : List Int) (l0_3.length : Int) 0 a0_0 a0_1 a0_2 l0_3
theorem gates_Stages.mono_l : ∀ k, (∀ y0 y1 y2 y3 y4 y5 y6, LeO (gates_Stages.l0 k y0 y1 y2 y3 y4 y5 y6) (gates_Stages.l0 (k + 1) y0 y1 y2 y3 y4 y5 y6))
  | 0 => fun _ _ _ _ _ _ _ r h => by simp [gates_Stages.l0] at h
  | k + 1 => by
    have ih0 := gates_Stages.mono_l k
    · intro y0 y1 y2 y3 y4 y5 y6
      unfold gates_Stages.l0
      repeat' first
      | (with_reducible exact ih0 _ _ _ _ _ _ _)
      | (with_reducible exact LeO.refl _)
      | (with_reducible exact LeO.none _)
      | (with_reducible refine LeO.ite ?_ ?_)
      | (with_reducible refine LeO.bind ?_ (fun _ => ?_))
      | exact ih0 _ _ _ _ _ _ _
      | exact LeO.none _
      | refine LeO.ite ?_ ?_
      | refine LeO.bind ?_ (fun _ => ?_)
theorem gates_Stages.mono : ∀ a0 a1 a2 a3 k, LeO (gates_Stages.f k a0 a1 a2 a3) (gates_Stages.f (k + 1) a0 a1 a2 a3) := by
  intro a0 a1 a2 a3 k
  have ih0 := gates_Stages.mono_l k
  unfold gates_Stages.f
  repeat' first
      | (with_reducible exact ih0 _ _ _ _ _ _ _)
      | (with_reducible exact LeO.refl _)
      | (with_reducible exact LeO.none _)
      | (with_reducible refine LeO.ite ?_ ?_)
      | (with_reducible refine LeO.bind ?_ (fun _ => ?_))
      | exact ih0 _ _ _ _ _ _ _
      | exact LeO.none _
      | refine LeO.ite ?_ ?_
      | refine LeO.bind ?_ (fun _ => ?_)
set_option maxHeartbeats 8000000 in
set_option maxRecDepth 100000 in
theorem gates_Stages.calls (k : Nat) (a0_0 : Int) (a0_1 : Int) (a0_2 : Int) (A0_3 : Option Addr) (c0_3 : Nat) (l0_3 : List (S63)) (r : List Int) (w : World) (hr0_3 : Kd.C k63 w A0_3 l0_3.length l0_3) (hc0_3 : l0_3.length ≤ c0_3) (h : gates_Stages.f k a0_0 a0_1 a0_2 l0_3 = some r) :
    Calls Try.prog 14 #[.agg #[.int .i64 a0_0, .int .i64 a0_1, .int .i64 a0_2, .slice A0_3 l0_3.length c0_3]] w fun e w' => ∃ v0_ : Value, e = .returned (v0_) ∧ Kd.R (Kd.int .i64) 3 w' w.heap.size (fun _ => True) v0_ r ∧ Below w.heap.size w w' := by
  have hu26 := Try.underlying26
  have HR0_3 := Aside0.mk hr0_3
  have HC0_3 := Aside0.mk hc0_3
  clear hr0_3 hc0_3
  have HB := Aside0.mk (Below.refl w.heap.size w)
  have H : (gates_Stages.l0 k ([] : List Int) (l0_3.length : Int) 0 a0_0 a0_1 a0_2 l0_3) = some r := h
  clear h
  have H' := Aside0.mk H
  clear H
  go_enter Try.func14, Try.ntmps14
  go_wp2_with (first | ((with_reducible refine gate_dst (N := 1) rfl ?_); refine box_event ?hg (N := 1) ?hd (cs := #[.int .i64 a0_0, .int .i64 a0_1, .int .i64 a0_2, .slice A0_3 l0_3.length c0_3]) (t := 26) ?hr ?_; (case hd => rfl); (case hg => rfl); (case hr => first | (go_simp; done) | (go_simp; rfl)); intro gb107 hg w2 hbox hb; have n0_ := Aside0.mk (below_step (by repeat (first | (with_reducible first | exact HB.out | apply below_alloc | apply pw_below_drewN | apply below_drew1) | exact HB.out)) hb); have n1_ := Aside0.mk (hbox); have n2_ := Aside0.mk ((by rw [hg]; exact (below_size (by repeat (first | (with_reducible first | exact HB.out | apply below_alloc | apply pw_below_drewN | apply below_drew1) | exact HB.out))) : w.heap.size ≤ gb107)); have n3_ := Aside0.mk ((by rw [hg]; exact (below_size (by repeat (first | (with_reducible first | exact HB.out | apply below_alloc | apply pw_below_drewN | apply below_drew1) | exact HB.out))) : w.heap.size ≤ gb107)); clear HB; have HB := n0_; have BK107 := n1_; have GW107 := n2_; have GE107 := n3_; clear n0_ n1_ n2_ n3_; clear hb hbox hg; have hcz3_0 : w2.cell? ⟨gb107, 0, none⟩ = some (.int .i64 a0_0) := (blk_cell BK107.out 0).trans rfl; have hcz3_1 : w2.cell? ⟨gb107, 1, none⟩ = some (.int .i64 a0_1) := (blk_cell BK107.out 1).trans rfl; have hcz3_2 : w2.cell? ⟨gb107, 2, none⟩ = some (.int .i64 a0_2) := (blk_cell BK107.out 2).trans rfl; have hcz3_3 : w2.cell? ⟨gb107, 3, none⟩ = some (.slice A0_3 l0_3.length c0_3) := (blk_cell BK107.out 3).trans rfl; have hfz3_0 := blk_frozen BK107.out 0; have hfz3_1 := blk_frozen BK107.out 1; have hfz3_2 := blk_frozen BK107.out 2; have hfz3_3 := blk_frozen BK107.out 3))
  go_loopg [3, 8] k (fun kq v3 v8 w' => ∃ (x3_1 : List Int) (x8_1 : Int), v8 = .int .i64 x8_1 ∧ Aside0 (gates_Stages.l0 kq x3_1 (l0_3.length : Int) x8_1 a0_0 a0_1 a0_2 l0_3 = some r) ∧ Aside0 (kq ≤ k) ∧ Aside0 (Kd.R (Kd.int .i64) 3 w' w.heap.size (fun _ => True) v3 x3_1) ∧ Aside0 (w'.heap[gb107]? = some (.cells #[.int .i64 a0_0, .int .i64 a0_1, .int .i64 a0_2, (.slice A0_3 l0_3.length c0_3)] 26 (0, 0))) ∧ Aside0 (Below w.heap.size w w'))
  case atStart => exact ⟨(([] : List Int)), (0), (by first | rfl | (simp; done) | (simp [*]; done)), H', ⟨Nat.le_refl _⟩, ⟨by first | exact Kd.R_nil _ _ _ _ _ | exact Kd.N_nil _ _ _ _ _ | exact Kd.V_nil _ _ _ _ _ | exact Kd.Q_nil _ _ _ _ _ | exact Kd.S_nil _ _ _ _ _⟩, ⟨by (with_reducible repeat (first | refine blk_drewN ?_ _ | refine blk_drew ?_ | refine blk_alloc ?_ _)); exact BK107.out⟩, ⟨by repeat (first | (with_reducible first | exact HB.out | apply below_alloc | apply pw_below_drewN | apply below_drew1 | refine below_set ?_ GE107.out) | exact HB.out)⟩⟩
  case round =>
    clear H'
    try clear c1
    try clear p2
    try clear hcz3_0
    try clear hcz3_1
    try clear hcz3_2
    try clear hcz3_3
    try clear hfz3_0
    try clear hfz3_1
    try clear hfz3_2
    try clear hfz3_3
    obtain ⟨x3_1, x8_1, rfl, HA, HK1, HO_3, BK107, HB⟩ := hrel
    cases gk with
    | zero => exact absurd HA.out (by simp [gates_Stages.l0])
    | succ k1 =>
      have H := HA.out
      clear HA
      simp only [gates_Stages.l0] at H
      by_cases c4 : x8_1 < (l0_3.length : Int)
      · rw [if_pos c4] at H
        have c4b0 : decide (x8_1 < (l0_3.length : Int)) = true := decide_eq_true c4
        clear c4
        replace H := Option.bind_eq_some_iff.mp H
        obtain ⟨t108, A50, H⟩ := H
        replace H : (if t108 > 0 then (if x3_1.length < 17592186044416 then (gates_Stages.l0 k1 (x3_1 ++ [x8_1]) (l0_3.length : Int) (wrap64 (x8_1 + 1)) a0_0 a0_1 a0_2 l0_3) else (none)) else (gates_Stages.l0 k1 x3_1 (l0_3.length : Int) (wrap64 (x8_1 + 1)) a0_0 a0_1 a0_2 l0_3)) = some r := H
        have A5 := Aside0.mk A50
        clear A50
        by_cases c6 : t108 > 0
        · rw [if_pos c6] at H
          have c6b0 : decide (0 < t108) = true := decide_eq_true c6
          clear c6
          by_cases c7 : x3_1.length < 17592186044416
          · rw [if_pos c7] at H
            have LMc7 := Aside0.mk c7
            clear c7
            obtain ⟨y109, hy109⟩ : ∃ y_ : List Int, y_ = (x3_1 ++ [x8_1]) := ⟨_, rfl⟩
            replace H : (gates_Stages.l0 k1 y109 (l0_3.length : Int) (wrap64 (x8_1 + 1)) a0_0 a0_1 a0_2 l0_3) = some r := by first | (rw [hy109]; with_reducible exact H) | (have H2_ := (Option.bind_some _ _).symm.trans H; rw [hy109]; with_reducible exact H2_) | (have H2_ := (Option.bind_some _ _).symm.trans H; with_reducible exact H2_) | with_reducible exact H | (rw [hy109]; exact H) | exact H
            have Ny109 := Aside0.mk hy109
            clear hy109
            have H' := Aside0.mk H
            clear H
            have hcz8_0 : wr.cell? ⟨gb107, 0, none⟩ = some (.int .i64 a0_0) := (blk_cell BK107.out 0).trans rfl
            have hcz8_1 : wr.cell? ⟨gb107, 1, none⟩ = some (.int .i64 a0_1) := (blk_cell BK107.out 1).trans rfl
            have hcz8_2 : wr.cell? ⟨gb107, 2, none⟩ = some (.int .i64 a0_2) := (blk_cell BK107.out 2).trans rfl
            have hcz8_3 : wr.cell? ⟨gb107, 3, none⟩ = some (.slice A0_3 l0_3.length c0_3) := (blk_cell BK107.out 3).trans rfl
            have hfz8_0 := blk_frozen BK107.out 0
            have hfz8_1 := blk_frozen BK107.out 1
            have hfz8_2 := blk_frozen BK107.out 2
            have hfz8_3 := blk_frozen BK107.out 3
            go_wp2_with (first | ((with_reducible refine gate_callee (f := 38) rfl ?_); refine goesL_ (some 13) rfl rfl Try.func38 (by kernel_rfl) rfl #[.agg #[.int .i64 a0_0, .int .i64 a0_1, .int .i64 a0_2, .slice A0_3 l0_3.length c0_3], .int .i64 x8_1] rfl (by (try simp only [List.map_toArray, List.map_cons, List.map_nil]); first | done | rfl | (simp only [List.length_drop, List.length_take]; rfl)) ?_; (with_reducible refine (check_Products.calls a0_0 a0_1 a0_2 _ _ l0_3 x8_1 t108 _ ?side1 ?side2 A5.out).mono ?_); (case side1 => repeat (first | exact (Kd.C_below HR0_3.out HB.out) | (with_reducible refine Kd.C_alloc ?_ _) | (with_reducible refine Kd.C_drewN ?_ _) | (with_reducible refine Kd.C_drew ?_))); (case side2 => exact HC0_3.out); rintro e w9 ⟨rfl, hb⟩; refine ⟨_, rfl, ?_⟩; have n0_ := Aside0.mk (Kd.R_below (by (with_reducible repeat (first | apply Kd.R_alloc | apply Kd.R_drewN | apply Kd.R_drew)); exact HO_3.out) hb); have n1_ := Aside0.mk (blk_below (g := gb107) (o := .cells #[.int .i64 a0_0, .int .i64 a0_1, .int .i64 a0_2, .slice A0_3 l0_3.length c0_3] 26 (0, 0)) (by (with_reducible repeat (first | refine blk_drewN ?_ _ | refine blk_drew ?_ | refine blk_alloc ?_ _)); exact BK107.out) hb); have n2_ := Aside0.mk (below_step (by repeat (first | (with_reducible first | exact HB.out | apply below_alloc | apply pw_below_drewN | apply below_drew1 | refine below_set ?_ GE107.out) | exact HB.out)) hb); clear HO_3; clear BK107; clear HB; have HO_3 := n0_; have BK107 := n1_; have HB := n2_; clear n0_ n1_ n2_; (try clear hb); (try clear hb2); (try clear hk); (try clear hi)) | ((with_reducible refine gate_builtin (b := .append) (xs := #[.tmp 15, .tmp 17]) rfl ?_); at_builtin; refine Kd.R_append (Kd.int .i64) (w0 := w) w.heap.size rfl (.tmp 15) (.tmp 17) 29 3 (.int .i64 0) 8 rfl Try.underlying29 info3 rfl (by decide) (by omega) u3 x3_1 x8_1 [.int .i64 x8_1] (fun _ => True) (fun _ => False) rfl rfl ?aP (fun _ hk => hk.elim) ?aF ?aO ?aB ?aS ?aL ?_; (case aP => exact rfl); (case aB => exact (by repeat (first | (with_reducible first | exact HB.out | apply below_alloc | apply pw_below_drewN | apply below_drew1 | refine below_set ?_ GE107.out) | exact HB.out))); (case aF => exact (fun _ _ => trivial)); (case aO => exact (by (with_reducible repeat (first | apply Kd.R_alloc | apply Kd.R_drewN | apply Kd.R_drew)); exact HO_3.out)); (case aS => exact (below_size (by repeat (first | (with_reducible first | exact HB.out | apply below_alloc | apply pw_below_drewN | apply below_drew1 | refine below_set ?_ GE107.out) | exact HB.out)))); (case aL => have := LMc7.out; omega); intro v110 w10 ho hb hg hat; rw [← Ny109.out] at ho; have n0_ := Aside0.mk (blk_grown (g := gb107) (o := .cells #[.int .i64 a0_0, .int .i64 a0_1, .int .i64 a0_2, .slice A0_3 l0_3.length c0_3] 26 (0, 0)) (by (with_reducible repeat (first | refine blk_drewN ?_ _ | refine blk_drew ?_ | refine blk_alloc ?_ _)); exact BK107.out) hg (Kd.R_ne HO_3.out BK107.out (by decide))); have n1_ := Aside0.mk (hb); have n2_ := Aside0.mk (ho); clear BK107; clear HB; clear HO_3; have BK107 := n0_; have HB := n1_; have HO111 := n2_; clear n0_ n1_ n2_; clear ho hb hg hat))
            go_roundg k1
            case measure => have := HK1.out; omega
            case rel => exact ⟨(y109), (wrap64 (x8_1 + 1)), (by first | rfl | (simp; done) | (simp [*]; done)), H', ⟨by have := HK1.out; omega⟩, ⟨by (with_reducible repeat (first | apply Kd.R_alloc | apply Kd.R_drewN | apply Kd.R_drew)); exact HO111.out⟩, ⟨by (with_reducible repeat (first | refine blk_drewN ?_ _ | refine blk_drew ?_ | refine blk_alloc ?_ _)); exact BK107.out⟩, ⟨by repeat (first | (with_reducible first | exact HB.out | apply below_alloc | apply pw_below_drewN | apply below_drew1 | refine below_set ?_ GE107.out) | exact HB.out)⟩⟩
          · rw [if_neg c7] at H
            exact absurd H (by simp)
        · rw [if_neg c6] at H
          have c6b0 : decide (0 < t108) = false := decide_eq_false c6
          clear c6
          have H' := Aside0.mk H
          clear H
          have hcz11_0 : wr.cell? ⟨gb107, 0, none⟩ = some (.int .i64 a0_0) := (blk_cell BK107.out 0).trans rfl
          have hcz11_1 : wr.cell? ⟨gb107, 1, none⟩ = some (.int .i64 a0_1) := (blk_cell BK107.out 1).trans rfl
          have hcz11_2 : wr.cell? ⟨gb107, 2, none⟩ = some (.int .i64 a0_2) := (blk_cell BK107.out 2).trans rfl
          have hcz11_3 : wr.cell? ⟨gb107, 3, none⟩ = some (.slice A0_3 l0_3.length c0_3) := (blk_cell BK107.out 3).trans rfl
          have hfz11_0 := blk_frozen BK107.out 0
          have hfz11_1 := blk_frozen BK107.out 1
          have hfz11_2 := blk_frozen BK107.out 2
          have hfz11_3 := blk_frozen BK107.out 3
          go_wp2_with (first | ((with_reducible refine gate_callee (f := 38) rfl ?_); refine goesL_ (some 13) rfl rfl Try.func38 (by kernel_rfl) rfl #[.agg #[.int .i64 a0_0, .int .i64 a0_1, .int .i64 a0_2, .slice A0_3 l0_3.length c0_3], .int .i64 x8_1] rfl (by (try simp only [List.map_toArray, List.map_cons, List.map_nil]); first | done | rfl | (simp only [List.length_drop, List.length_take]; rfl)) ?_; (with_reducible refine (check_Products.calls a0_0 a0_1 a0_2 _ _ l0_3 x8_1 t108 _ ?side1 ?side2 A5.out).mono ?_); (case side1 => repeat (first | exact (Kd.C_below HR0_3.out HB.out) | (with_reducible refine Kd.C_alloc ?_ _) | (with_reducible refine Kd.C_drewN ?_ _) | (with_reducible refine Kd.C_drew ?_))); (case side2 => exact HC0_3.out); rintro e w12 ⟨rfl, hb⟩; refine ⟨_, rfl, ?_⟩; have n0_ := Aside0.mk (Kd.R_below (by (with_reducible repeat (first | apply Kd.R_alloc | apply Kd.R_drewN | apply Kd.R_drew)); exact HO_3.out) hb); have n1_ := Aside0.mk (blk_below (g := gb107) (o := .cells #[.int .i64 a0_0, .int .i64 a0_1, .int .i64 a0_2, .slice A0_3 l0_3.length c0_3] 26 (0, 0)) (by (with_reducible repeat (first | refine blk_drewN ?_ _ | refine blk_drew ?_ | refine blk_alloc ?_ _)); exact BK107.out) hb); have n2_ := Aside0.mk (below_step (by repeat (first | (with_reducible first | exact HB.out | apply below_alloc | apply pw_below_drewN | apply below_drew1 | refine below_set ?_ GE107.out) | exact HB.out)) hb); clear HO_3; clear BK107; clear HB; have HO_3 := n0_; have BK107 := n1_; have HB := n2_; clear n0_ n1_ n2_; (try clear hb); (try clear hb2); (try clear hk); (try clear hi)))
          go_roundg k1
          case measure => have := HK1.out; omega
          case rel => exact ⟨(x3_1), (wrap64 (x8_1 + 1)), (by first | rfl | (simp; done) | (simp [*]; done)), H', ⟨by have := HK1.out; omega⟩, ⟨by (with_reducible repeat (first | apply Kd.R_alloc | apply Kd.R_drewN | apply Kd.R_drew)); exact HO_3.out⟩, ⟨by (with_reducible repeat (first | refine blk_drewN ?_ _ | refine blk_drew ?_ | refine blk_alloc ?_ _)); exact BK107.out⟩, ⟨by repeat (first | (with_reducible first | exact HB.out | apply below_alloc | apply pw_below_drewN | apply below_drew1 | refine below_set ?_ GE107.out) | exact HB.out)⟩⟩
      · rw [if_neg c4] at H
        have c4b0 : decide (x8_1 < (l0_3.length : Int)) = false := decide_eq_false c4
        clear c4
        obtain rfl := Option.some.inj H
        go_wp2
        go_ret
        exact ⟨_, by first | rfl | (simp [errW_none, errW_some] <;> rfl) | (simp [*, errW_none, errW_some] <;> rfl), by (with_reducible repeat (first | apply Kd.R_alloc | apply Kd.R_drewN | apply Kd.R_drew)); exact HO_3.out, by repeat (first | (with_reducible first | exact HB.out | apply below_alloc | apply pw_below_drewN | apply below_drew1 | refine below_set ?_ GE107.out) | exact HB.out)⟩

end Go.Proofs.Ytjegihodmidhoaa.G
namespace Go.Proofs.Ytjegihodmidhoaa.G
open Go.RowKit Go.Proofs.YtjegihodmidhoaaW.PrintWords Go.Proofs.YtjegihodmidhoaaW.PrintLast Go.Proofs.YtjegihodmidhoaaW.PrintMore
attribute [local go_sem] max2_int min2_int max_two min_two max_three min_three max_four min_four   -- for this text's walks alone
set_option linter.unusedVariables false
set_option linter.unusedSimpArgs false

/-! ### gates_Range: function 18 -/
def gates_Range.l0 : Nat → Int → Int → List Int → Int → Int → Int → Int → Int → List (S63) → Option (Int × Int)
  | 0, _, _, _, _, _, _, _, _, _ => none
  | k + 1, x1, x6, x11, x12, x13, x123000, x123001, x123002, x123003 => if x13 < x12 then (if 0 ≤ x13 then (if x13 < (x11.length : Int) then ((check_Products.f x123000 x123001 x123002 x123003 (rd x11 x13)).bind fun t127 => (if x13 = x1 then (some (x6, t127)) else (gates_Range.l0 k x1 (wrap64 (x6 + t127)) x11 x12 (wrap64 (x13 + 1)) x123000 x123001 x123002 x123003))) else (none)) else (none)) else (some (0, 0))
def gates_Range.f (k : Nat) (a0_0 : Int) (a0_1 : Int) (a0_2 : Int) (l0_3 : List (S63)) (a1 : Int) : Option (Int × Int) := (gates_Stages.f k a0_0 a0_1 a0_2 l0_3).bind fun t123 => (gates_Range.l0 k a1 0 t123 (t123.length : Int) 0 a0_0 a0_1 a0_2 l0_3)
theorem gates_Range.mono_l : ∀ k, (∀ y0 y1 y2 y3 y4 y5 y6 y7 y8, LeO (gates_Range.l0 k y0 y1 y2 y3 y4 y5 y6 y7 y8) (gates_Range.l0 (k + 1) y0 y1 y2 y3 y4 y5 y6 y7 y8))
  | 0 => fun _ _ _ _ _ _ _ _ _ r h => by simp [gates_Range.l0] at h
  | k + 1 => by
    have ih0 := gates_Range.mono_l k
    · intro y0 y1 y2 y3 y4 y5 y6 y7 y8
      unfold gates_Range.l0
      repeat' first
      | (with_reducible exact ih0 _ _ _ _ _ _ _ _ _)
      | (with_reducible exact gates_Stages.mono _ _ _ _ _)
      | (with_reducible exact LeO.refl _)
      | (with_reducible exact LeO.none _)
      | (with_reducible refine LeO.ite ?_ ?_)
      | (with_reducible refine LeO.bind ?_ (fun _ => ?_))
      | exact ih0 _ _ _ _ _ _ _ _ _
      | exact gates_Stages.mono _ _ _ _ _
      | exact LeO.none _
      | refine LeO.ite ?_ ?_
      | refine LeO.bind ?_ (fun _ => ?_)
theorem gates_Range.mono : ∀ a0 a1 a2 a3 a4 k, LeO (gates_Range.f k a0 a1 a2 a3 a4) (gates_Range.f (k + 1) a0 a1 a2 a3 a4) := by
  intro a0 a1 a2 a3 a4 k
  have ih0 := gates_Range.mono_l k
  unfold gates_Range.f
  repeat' first
      | (with_reducible exact ih0 _ _ _ _ _ _ _ _ _)
      | (with_reducible exact gates_Stages.mono _ _ _ _ _)
      | (with_reducible exact LeO.refl _)
      | (with_reducible exact LeO.none _)
      | (with_reducible refine LeO.ite ?_ ?_)
      | (with_reducible refine LeO.bind ?_ (fun _ => ?_))
      | exact ih0 _ _ _ _ _ _ _ _ _
      | exact gates_Stages.mono _ _ _ _ _
      | exact LeO.none _
      | refine LeO.ite ?_ ?_
      | refine LeO.bind ?_ (fun _ => ?_)
set_option maxHeartbeats 8000000 in
set_option maxRecDepth 100000 in
theorem gates_Range.calls (k : Nat) (a0_0 : Int) (a0_1 : Int) (a0_2 : Int) (A0_3 : Option Addr) (c0_3 : Nat) (l0_3 : List (S63)) (a1 : Int) (r1 : Int) (r2 : Int) (w : World) (hr0_3 : Kd.C k63 w A0_3 l0_3.length l0_3) (hc0_3 : l0_3.length ≤ c0_3) (h : gates_Range.f k a0_0 a0_1 a0_2 l0_3 a1 = some (r1, r2)) :
    Calls Try.prog 18 #[.agg #[.int .i64 a0_0, .int .i64 a0_1, .int .i64 a0_2, .slice A0_3 l0_3.length c0_3], .int .i64 a1] w fun e w' => e = .returned (.tuple #[.int .i64 r1, .int .i64 r2]) ∧ Below w.heap.size w w' := by
  have hu26 := Try.underlying26
  have HR0_3 := Aside0.mk hr0_3
  have HC0_3 := Aside0.mk hc0_3
  clear hr0_3 hc0_3
  have HB := Aside0.mk (Below.refl w.heap.size w)
  have H : ((gates_Stages.f k a0_0 a0_1 a0_2 l0_3).bind fun t123 => (gates_Range.l0 k a1 0 t123 (t123.length : Int) 0 a0_0 a0_1 a0_2 l0_3)) = some (r1, r2) := h
  clear h
  replace H := Option.bind_eq_some_iff.mp H
  obtain ⟨t123, A30, H⟩ := H
  replace H : (gates_Range.l0 k a1 0 t123 (t123.length : Int) 0 a0_0 a0_1 a0_2 l0_3) = some (r1, r2) := H
  have A3 := Aside0.mk A30
  clear A30
  have H' := Aside0.mk H
  clear H
  go_enter Try.func18, Try.ntmps18
  go_wp2_with (first | ((with_reducible refine gate_dst (N := 2) rfl ?_); refine box_event ?hg (N := 2) ?hd (cs := #[.int .i64 a0_0, .int .i64 a0_1, .int .i64 a0_2, .slice A0_3 l0_3.length c0_3]) (t := 26) ?hr ?_; (case hd => rfl); (case hg => rfl); (case hr => first | (go_simp; done) | (go_simp; rfl)); intro gb122 hg w4 hbox hb; have n0_ := Aside0.mk (below_step (by repeat (first | (with_reducible first | exact HB.out | apply below_alloc | apply pw_below_drewN | apply below_drew1) | exact HB.out)) hb); have n1_ := Aside0.mk (hbox); have n2_ := Aside0.mk ((by rw [hg]; exact (below_size (by repeat (first | (with_reducible first | exact HB.out | apply below_alloc | apply pw_below_drewN | apply below_drew1) | exact HB.out))) : w.heap.size ≤ gb122)); have n3_ := Aside0.mk ((by rw [hg]; exact (below_size (by repeat (first | (with_reducible first | exact HB.out | apply below_alloc | apply pw_below_drewN | apply below_drew1) | exact HB.out))) : w.heap.size ≤ gb122)); clear HB; have HB := n0_; have BK122 := n1_; have GW122 := n2_; have GE122 := n3_; clear n0_ n1_ n2_ n3_; clear hb hbox hg; have hcz5_0 : w4.cell? ⟨gb122, 0, none⟩ = some (.int .i64 a0_0) := (blk_cell BK122.out 0).trans rfl; have hcz5_1 : w4.cell? ⟨gb122, 1, none⟩ = some (.int .i64 a0_1) := (blk_cell BK122.out 1).trans rfl; have hcz5_2 : w4.cell? ⟨gb122, 2, none⟩ = some (.int .i64 a0_2) := (blk_cell BK122.out 2).trans rfl; have hcz5_3 : w4.cell? ⟨gb122, 3, none⟩ = some (.slice A0_3 l0_3.length c0_3) := (blk_cell BK122.out 3).trans rfl; have hfz5_0 := blk_frozen BK122.out 0; have hfz5_1 := blk_frozen BK122.out 1; have hfz5_2 := blk_frozen BK122.out 2; have hfz5_3 := blk_frozen BK122.out 3) | ((with_reducible refine gate_callee (f := 14) rfl ?_); refine goesL_ (some 11) rfl rfl Try.func14 (by kernel_rfl) rfl #[.agg #[.int .i64 a0_0, .int .i64 a0_1, .int .i64 a0_2, .slice A0_3 l0_3.length c0_3]] rfl (by (try simp only [List.map_toArray, List.map_cons, List.map_nil]); first | done | rfl | (simp only [List.length_drop, List.length_take]; rfl)) ?_; (with_reducible refine (gates_Stages.calls k a0_0 a0_1 a0_2 _ _ l0_3 t123 _ ?side1 ?side2 A3.out).mono ?_); (case side1 => repeat (first | exact (Kd.C_below HR0_3.out HB.out) | (with_reducible refine Kd.C_alloc ?_ _) | (with_reducible refine Kd.C_drewN ?_ _) | (with_reducible refine Kd.C_drew ?_))); (case side2 => exact HC0_3.out); rintro e w6 ⟨v124, rfl, ho0, hb⟩; refine ⟨_, rfl, ?_⟩; have n0_ := Aside0.mk (Kd.R_lower ho0 (below_size (by repeat (first | (with_reducible first | exact HB.out | apply below_alloc | apply pw_below_drewN | apply below_drew1 | refine below_set ?_ GE122.out) | exact HB.out)))); have n1_ := Aside0.mk (blk_below (g := gb122) (o := .cells #[.int .i64 a0_0, .int .i64 a0_1, .int .i64 a0_2, .slice A0_3 l0_3.length c0_3] 26 (0, 0)) (by (with_reducible repeat (first | refine blk_drewN ?_ _ | refine blk_drew ?_ | refine blk_alloc ?_ _)); exact BK122.out) hb); have n2_ := Aside0.mk (below_step (by repeat (first | (with_reducible first | exact HB.out | apply below_alloc | apply pw_below_drewN | apply below_drew1 | refine below_set ?_ GE122.out) | exact HB.out)) hb); clear BK122; clear HB; have HO125 := n0_; have BK122 := n1_; have HB := n2_; clear n0_ n1_ n2_; (try clear hb); (try clear hb2); (try clear hk); (try clear hi); (try clear ho0); obtain ⟨Ao7, co7, eo7⟩ := Kd.R_slice HO125.out; subst eo7))
  go_loopg [6, 13] k (fun kq v6 v13 w' => ∃ (x6_1 : Int) (x13_1 : Int), v6 = .int .i64 x6_1 ∧ v13 = .int .i64 x13_1 ∧ Aside0 (gates_Range.l0 kq a1 x6_1 t123 (t123.length : Int) x13_1 a0_0 a0_1 a0_2 l0_3 = some (r1, r2)) ∧ Aside0 (kq ≤ k) ∧ Aside0 (Kd.R (Kd.int .i64) 3 w' w.heap.size (fun _ => True) (.slice Ao7 t123.length co7) t123) ∧ Aside0 (w'.heap[gb122]? = some (.cells #[.int .i64 a0_0, .int .i64 a0_1, .int .i64 a0_2, (.slice A0_3 l0_3.length c0_3)] 26 (0, 0))) ∧ Aside0 (Below w.heap.size w w'))
  case atStart => exact ⟨(0), (0), (by first | rfl | (simp; done) | (simp [*]; done)), (by first | rfl | (simp; done) | (simp [*]; done)), H', ⟨Nat.le_refl _⟩, ⟨by (with_reducible repeat (first | apply Kd.R_alloc | apply Kd.R_drewN | apply Kd.R_drew)); exact HO125.out⟩, ⟨by (with_reducible repeat (first | refine blk_drewN ?_ _ | refine blk_drew ?_ | refine blk_alloc ?_ _)); exact BK122.out⟩, ⟨by repeat (first | (with_reducible first | exact HB.out | apply below_alloc | apply pw_below_drewN | apply below_drew1 | refine below_set ?_ GE122.out) | exact HB.out)⟩⟩
  case round =>
    clear H'
    try clear c1
    try clear p2
    try clear hcz5_0
    try clear hcz5_1
    try clear hcz5_2
    try clear hcz5_3
    try clear hfz5_0
    try clear hfz5_1
    try clear hfz5_2
    try clear hfz5_3
    obtain ⟨x6_1, x13_1, rfl, rfl, HA, HK1, HO_11, BK122, HB⟩ := hrel
    cases gk with
    | zero => exact absurd HA.out (by simp [gates_Range.l0])
    | succ k1 =>
      have H := HA.out
      clear HA
      simp only [gates_Range.l0] at H
      by_cases c8 : x13_1 < (t123.length : Int)
      · rw [if_pos c8] at H
        have c8b0 : decide (x13_1 < (t123.length : Int)) = true := decide_eq_true c8
        clear c8
        by_cases c9 : 0 ≤ x13_1
        · rw [if_pos c9] at H
          have c9b0 : decide (0 ≤ x13_1) = true := decide_eq_true c9
          clear c9
          by_cases c10 : x13_1 < (t123.length : Int)
          · rw [if_pos c10] at H
            have c10b0 : decide (x13_1 < (t123.length : Int)) = true := decide_eq_true c10
            clear c10
            replace H := Option.bind_eq_some_iff.mp H
            obtain ⟨t127, A110, H⟩ := H
            replace H : (if x13_1 = a1 then (some (x6_1, t127)) else (gates_Range.l0 k1 a1 (wrap64 (x6_1 + t127)) t123 (t123.length : Int) (wrap64 (x13_1 + 1)) a0_0 a0_1 a0_2 l0_3)) = some (r1, r2) := H
            have A11 := Aside0.mk A110
            clear A110
            by_cases c12 : x13_1 = a1
            · rw [if_pos c12] at H
              have c12b0 : (x13_1 == a1) = true := beq_iff_eq.mpr c12
              have c12b1 : (x13_1 != a1) = false := bne_eq_false_iff_eq.mpr c12
              clear c12
              simp only [Option.some.injEq, Prod.mk.injEq] at H
              obtain ⟨rfl, rfl⟩ := H
              have p126 : 0 ≤ (x13_1 : Int) := of_decide_eq_true (by first | (with_reducible assumption) | assumption)
              have q126 : x13_1 < (t123.length : Int) := of_decide_eq_true (by first | (with_reducible assumption) | assumption)
              obtain ⟨ad126, e126, hx126_0⟩ := Kd.at_int (Kd.R_reads' HO_11.out).2.2 x13_1 p126 q126
              cases e126
              replace p126 := eq_true p126
              replace q126 := eq_true q126
              have hcz13_0 : wr.cell? ⟨gb122, 0, none⟩ = some (.int .i64 a0_0) := (blk_cell BK122.out 0).trans rfl
              have hcz13_1 : wr.cell? ⟨gb122, 1, none⟩ = some (.int .i64 a0_1) := (blk_cell BK122.out 1).trans rfl
              have hcz13_2 : wr.cell? ⟨gb122, 2, none⟩ = some (.int .i64 a0_2) := (blk_cell BK122.out 2).trans rfl
              have hcz13_3 : wr.cell? ⟨gb122, 3, none⟩ = some (.slice A0_3 l0_3.length c0_3) := (blk_cell BK122.out 3).trans rfl
              have hfz13_0 := blk_frozen BK122.out 0
              have hfz13_1 := blk_frozen BK122.out 1
              have hfz13_2 := blk_frozen BK122.out 2
              have hfz13_3 := blk_frozen BK122.out 3
              go_wp2_with (first | ((with_reducible refine gate_callee (f := 38) rfl ?_); refine goesL_ (some 20) rfl rfl Try.func38 (by kernel_rfl) rfl #[.agg #[.int .i64 a0_0, .int .i64 a0_1, .int .i64 a0_2, .slice A0_3 l0_3.length c0_3], .int .i64 (rd t123 x13_1)] rfl (by (try simp only [List.map_toArray, List.map_cons, List.map_nil]); first | done | rfl | (simp only [List.length_drop, List.length_take]; rfl)) ?_; (with_reducible refine (check_Products.calls a0_0 a0_1 a0_2 _ _ l0_3 (rd t123 x13_1) t127 _ ?side1 ?side2 A11.out).mono ?_); (case side1 => repeat (first | exact (Kd.C_below HR0_3.out HB.out) | (with_reducible refine Kd.C_alloc ?_ _) | (with_reducible refine Kd.C_drewN ?_ _) | (with_reducible refine Kd.C_drew ?_))); (case side2 => exact HC0_3.out); rintro e w14 ⟨rfl, hb⟩; refine ⟨_, rfl, ?_⟩; have n0_ := Aside0.mk (Kd.R_below (by (with_reducible repeat (first | apply Kd.R_alloc | apply Kd.R_drewN | apply Kd.R_drew)); exact HO_11.out) hb); have n1_ := Aside0.mk (blk_below (g := gb122) (o := .cells #[.int .i64 a0_0, .int .i64 a0_1, .int .i64 a0_2, .slice A0_3 l0_3.length c0_3] 26 (0, 0)) (by (with_reducible repeat (first | refine blk_drewN ?_ _ | refine blk_drew ?_ | refine blk_alloc ?_ _)); exact BK122.out) hb); have n2_ := Aside0.mk (below_step (by repeat (first | (with_reducible first | exact HB.out | apply below_alloc | apply pw_below_drewN | apply below_drew1 | refine below_set ?_ GE122.out) | exact HB.out)) hb); clear HO_11; clear BK122; clear HB; have HO_11 := n0_; have BK122 := n1_; have HB := n2_; clear n0_ n1_ n2_; (try clear hb); (try clear hb2); (try clear hk); (try clear hi)))
              go_ret2
              exact ⟨by first | rfl | (simp [errW_none, errW_some] <;> rfl) | (simp [*, errW_none, errW_some] <;> rfl), by repeat (first | (with_reducible first | exact HB.out | apply below_alloc | apply pw_below_drewN | apply below_drew1 | refine below_set ?_ GE122.out) | exact HB.out)⟩
            · rw [if_neg c12] at H
              have c12b0 : (x13_1 == a1) = false := beq_eq_false_iff_ne.mpr c12
              have c12b1 : (x13_1 != a1) = true := bne_iff_ne.mpr c12
              have H' := Aside0.mk H
              clear H
              have p126 : 0 ≤ (x13_1 : Int) := of_decide_eq_true (by first | (with_reducible assumption) | assumption)
              have q126 : x13_1 < (t123.length : Int) := of_decide_eq_true (by first | (with_reducible assumption) | assumption)
              obtain ⟨ad126, e126, hx126_0⟩ := Kd.at_int (Kd.R_reads' HO_11.out).2.2 x13_1 p126 q126
              cases e126
              replace p126 := eq_true p126
              replace q126 := eq_true q126
              have hcz15_0 : wr.cell? ⟨gb122, 0, none⟩ = some (.int .i64 a0_0) := (blk_cell BK122.out 0).trans rfl
              have hcz15_1 : wr.cell? ⟨gb122, 1, none⟩ = some (.int .i64 a0_1) := (blk_cell BK122.out 1).trans rfl
              have hcz15_2 : wr.cell? ⟨gb122, 2, none⟩ = some (.int .i64 a0_2) := (blk_cell BK122.out 2).trans rfl
              have hcz15_3 : wr.cell? ⟨gb122, 3, none⟩ = some (.slice A0_3 l0_3.length c0_3) := (blk_cell BK122.out 3).trans rfl
              have hfz15_0 := blk_frozen BK122.out 0
              have hfz15_1 := blk_frozen BK122.out 1
              have hfz15_2 := blk_frozen BK122.out 2
              have hfz15_3 := blk_frozen BK122.out 3
              go_wp2_with (first | ((with_reducible refine gate_callee (f := 38) rfl ?_); refine goesL_ (some 20) rfl rfl Try.func38 (by kernel_rfl) rfl #[.agg #[.int .i64 a0_0, .int .i64 a0_1, .int .i64 a0_2, .slice A0_3 l0_3.length c0_3], .int .i64 (rd t123 x13_1)] rfl (by (try simp only [List.map_toArray, List.map_cons, List.map_nil]); first | done | rfl | (simp only [List.length_drop, List.length_take]; rfl)) ?_; (with_reducible refine (check_Products.calls a0_0 a0_1 a0_2 _ _ l0_3 (rd t123 x13_1) t127 _ ?side1 ?side2 A11.out).mono ?_); (case side1 => repeat (first | exact (Kd.C_below HR0_3.out HB.out) | (with_reducible refine Kd.C_alloc ?_ _) | (with_reducible refine Kd.C_drewN ?_ _) | (with_reducible refine Kd.C_drew ?_))); (case side2 => exact HC0_3.out); rintro e w16 ⟨rfl, hb⟩; refine ⟨_, rfl, ?_⟩; have n0_ := Aside0.mk (Kd.R_below (by (with_reducible repeat (first | apply Kd.R_alloc | apply Kd.R_drewN | apply Kd.R_drew)); exact HO_11.out) hb); have n1_ := Aside0.mk (blk_below (g := gb122) (o := .cells #[.int .i64 a0_0, .int .i64 a0_1, .int .i64 a0_2, .slice A0_3 l0_3.length c0_3] 26 (0, 0)) (by (with_reducible repeat (first | refine blk_drewN ?_ _ | refine blk_drew ?_ | refine blk_alloc ?_ _)); exact BK122.out) hb); have n2_ := Aside0.mk (below_step (by repeat (first | (with_reducible first | exact HB.out | apply below_alloc | apply pw_below_drewN | apply below_drew1 | refine below_set ?_ GE122.out) | exact HB.out)) hb); clear HO_11; clear BK122; clear HB; have HO_11 := n0_; have BK122 := n1_; have HB := n2_; clear n0_ n1_ n2_; (try clear hb); (try clear hb2); (try clear hk); (try clear hi)))
              go_roundg k1
              case measure => have := HK1.out; omega
              case rel => exact ⟨(wrap64 (x6_1 + t127)), (wrap64 (x13_1 + 1)), (by first | rfl | (simp; done) | (simp [*]; done)), (by first | rfl | (simp; done) | (simp [*]; done)), H', ⟨by have := HK1.out; omega⟩, ⟨by (with_reducible repeat (first | apply Kd.R_alloc | apply Kd.R_drewN | apply Kd.R_drew)); exact HO_11.out⟩, ⟨by (with_reducible repeat (first | refine blk_drewN ?_ _ | refine blk_drew ?_ | refine blk_alloc ?_ _)); exact BK122.out⟩, ⟨by repeat (first | (with_reducible first | exact HB.out | apply below_alloc | apply pw_below_drewN | apply below_drew1 | refine below_set ?_ GE122.out) | exact HB.out)⟩⟩
          · rw [if_neg c10] at H
            exact absurd H (by simp)
        · rw [if_neg c9] at H
          exact absurd H (by simp)
      · rw [if_neg c8] at H
        have c8b0 : decide (x13_1 < (t123.length : Int)) = false := decide_eq_false c8
        clear c8
        simp only [Option.some.injEq, Prod.mk.injEq] at H
        obtain ⟨rfl, rfl⟩ := H
        go_wp2
        go_ret2
        exact ⟨by first | rfl | (simp [errW_none, errW_some] <;> rfl) | (simp [*, errW_none, errW_some] <;> rfl), by repeat (first | (with_reducible first | exact HB.out | apply below_alloc | apply pw_below_drewN | apply below_drew1 | refine below_set ?_ GE122.out) | exact HB.out)⟩

end Go.Proofs.Ytjegihodmidhoaa.G
namespace Go.Proofs.Ytjegihodmidhoaa.G
open Go.RowKit Go.Proofs.YtjegihodmidhoaaW.PrintWords Go.Proofs.YtjegihodmidhoaaW.PrintLast Go.Proofs.YtjegihodmidhoaaW.PrintMore
attribute [local go_sem] max2_int min2_int max_two min_two max_three min_three max_four min_four   -- for this text's walks alone
set_option linter.unusedVariables false
set_option linter.unusedSimpArgs false

/-! ### gates_Line: function 16 -/
def gates_Line.j0 : Nat → Int → List (S23) → Bool → Int → Int → Int → List (S63) → Option (Int × Int)
  | 0, _, _, _, _, _, _, _ => none
  | k + 1, x1, x6, x23, x148000, x148001, x148002, x148003 => if x23 = true then ((gates_Total.f k x148000 x148001 x148002 x148003).bind fun t155 => (if 0 ≤ (wrap64 ((x6.length : Int) - 1)) then (if (wrap64 ((x6.length : Int) - 1)) < (x6.length : Int) then ((shape_Size.f ((rd_T23 x6 (wrap64 ((x6.length : Int) - 1))).f0) ((rd_T23 x6 (wrap64 ((x6.length : Int) - 1))).f1) ((rd_T23 x6 (wrap64 ((x6.length : Int) - 1))).f2)).bind fun t157 => (some (wrap64 (2 * t155), t157))) else (none)) else (none))) else ((gates_Range.f k x148000 x148001 x148002 x148003 x1).bind fun bt158 => (some (wrap64 (2 * bt158.1), wrap64 (2 * bt158.2))))
def gates_Line.f (k : Nat) (a0_0 : Int) (a0_1 : Int) (a0_2 : Int) (l0_3 : List (S63)) (a1 : Int) : Option (Int × Int) := (check_Shapes.f k a0_0 a0_1 a0_2 l0_3).bind fun bt148 => (if bt148.2 = 0 then ((gates_Stages.f k a0_0 a0_1 a0_2 l0_3).bind fun t152 => (gates_Line.j0 k a1 bt148.1 (a1 == (t152.length : Int)) a0_0 a0_1 a0_2 l0_3)) else (gates_Line.j0 k a1 bt148.1 false a0_0 a0_1 a0_2 l0_3))
theorem gates_Line.mono_l : ∀ k, (∀ y0 y1 y2 y3 y4 y5 y6, LeO (gates_Line.j0 k y0 y1 y2 y3 y4 y5 y6) (gates_Line.j0 (k + 1) y0 y1 y2 y3 y4 y5 y6))
  | 0 => fun _ _ _ _ _ _ _ r h => by simp [gates_Line.j0] at h
  | k + 1 => by
    have ih0 := gates_Line.mono_l k
    · intro y0 y1 y2 y3 y4 y5 y6
      unfold gates_Line.j0
      repeat' first
      | (with_reducible exact ih0 _ _ _ _ _ _ _)
      | (with_reducible exact check_Shapes.mono _ _ _ _ _)
      | (with_reducible exact gates_Range.mono _ _ _ _ _ _)
      | (with_reducible exact gates_Stages.mono _ _ _ _ _)
      | (with_reducible exact gates_Total.mono _ _ _ _ _)
      | (with_reducible exact LeO.refl _)
      | (with_reducible exact LeO.none _)
      | (with_reducible refine LeO.ite ?_ ?_)
      | (with_reducible refine LeO.bind ?_ (fun _ => ?_))
      | exact ih0 _ _ _ _ _ _ _
      | exact check_Shapes.mono _ _ _ _ _
      | exact gates_Range.mono _ _ _ _ _ _
      | exact gates_Stages.mono _ _ _ _ _
      | exact gates_Total.mono _ _ _ _ _
      | exact LeO.none _
      | refine LeO.ite ?_ ?_
      | refine LeO.bind ?_ (fun _ => ?_)
theorem gates_Line.mono : ∀ a0 a1 a2 a3 a4 k, LeO (gates_Line.f k a0 a1 a2 a3 a4) (gates_Line.f (k + 1) a0 a1 a2 a3 a4) := by
  intro a0 a1 a2 a3 a4 k
  have ih0 := gates_Line.mono_l k
  unfold gates_Line.f
  repeat' first
      | (with_reducible exact ih0 _ _ _ _ _ _ _)
      | (with_reducible exact check_Shapes.mono _ _ _ _ _)
      | (with_reducible exact gates_Range.mono _ _ _ _ _ _)
      | (with_reducible exact gates_Stages.mono _ _ _ _ _)
      | (with_reducible exact gates_Total.mono _ _ _ _ _)
      | (with_reducible exact LeO.refl _)
      | (with_reducible exact LeO.none _)
      | (with_reducible refine LeO.ite ?_ ?_)
      | (with_reducible refine LeO.bind ?_ (fun _ => ?_))
      | exact ih0 _ _ _ _ _ _ _
      | exact check_Shapes.mono _ _ _ _ _
      | exact gates_Range.mono _ _ _ _ _ _
      | exact gates_Stages.mono _ _ _ _ _
      | exact gates_Total.mono _ _ _ _ _
      | exact LeO.none _
      | refine LeO.ite ?_ ?_
      | refine LeO.bind ?_ (fun _ => ?_)
def gates_Line.T3 : Bool × List (List Nat × List Nat) := (true, [([], []), ([0], [0]), ([1], [1]), ([], []), ([], []), ([4], [4]), ([5], [5]), ([3, 6], [3, 6]), ([7], [7]), ([8, 1], [8]), ([2, 9, 0, 1, 2], [2]), ([9, 10, 0, 1, 2, 3, 4, 5, 6, 7, 8, 9, 10], [9])])
def gates_Line.B3 : List Nat := [0, 1, 3, 0, 0, 16, 48, 120, 248, 507, 1023, 2047]
theorem gates_Line.tab3 : rtab .any (opsOf Try.f16 3) = gates_Line.T3 := by kernel_rfl
theorem gates_Line.bits3 : waitsOk gates_Line.T3.2 gates_Line.B3 = true := by kernel_rfl
set_option maxHeartbeats 8000000 in
set_option maxRecDepth 100000 in
theorem gates_Line.calls (k : Nat) (a0_0 : Int) (a0_1 : Int) (a0_2 : Int) (A0_3 : Option Addr) (c0_3 : Nat) (l0_3 : List (S63)) (a1 : Int) (r1 : Int) (r2 : Int) (w : World) (hr0_3 : Kd.C k63 w A0_3 l0_3.length l0_3) (hc0_3 : l0_3.length ≤ c0_3) (h : gates_Line.f k a0_0 a0_1 a0_2 l0_3 a1 = some (r1, r2)) :
    Calls Try.prog 16 #[.agg #[.int .i64 a0_0, .int .i64 a0_1, .int .i64 a0_2, .slice A0_3 l0_3.length c0_3], .int .i64 a1] w fun e w' => e = .returned (.tuple #[.int .i64 r1, .int .i64 r2]) ∧ Below w.heap.size w w' := by
  have hu26 := Try.underlying26
  have hu23 := Try.underlying23
  have HR0_3 := Aside0.mk hr0_3
  have HC0_3 := Aside0.mk hc0_3
  clear hr0_3 hc0_3
  have HB := Aside0.mk (Below.refl w.heap.size w)
  have H : ((check_Shapes.f k a0_0 a0_1 a0_2 l0_3).bind fun bt148 => (if bt148.2 = 0 then ((gates_Stages.f k a0_0 a0_1 a0_2 l0_3).bind fun t152 => (gates_Line.j0 k a1 bt148.1 (a1 == (t152.length : Int)) a0_0 a0_1 a0_2 l0_3)) else (gates_Line.j0 k a1 bt148.1 false a0_0 a0_1 a0_2 l0_3))) = some (r1, r2) := h
  clear h
  replace H := Option.bind_eq_some_iff.mp H
  obtain ⟨⟨t148, t151⟩, A30, H⟩ := H
  replace H : (if t151 = 0 then ((gates_Stages.f k a0_0 a0_1 a0_2 l0_3).bind fun t152 => (gates_Line.j0 k a1 t148 (a1 == (t152.length : Int)) a0_0 a0_1 a0_2 l0_3)) else (gates_Line.j0 k a1 t148 false a0_0 a0_1 a0_2 l0_3)) = some (r1, r2) := H
  have A3 := Aside0.mk A30
  clear A30
  have HC4 := Aside0.mk H
  clear H
  go_enter Try.func16, Try.ntmps16
  go_upto_region 2 with (first | ((with_reducible refine gate_dst (N := 2) rfl ?_); (try (refine gate_guard (by rfl) ?_; dsimp only)); refine box_event ?hg (N := 2) ?hd (cs := #[.int .i64 a0_0, .int .i64 a0_1, .int .i64 a0_2, .slice A0_3 l0_3.length c0_3]) (t := 26) ?hr ?_; (case hd => rfl); (case hg => rfl); (case hr => first | (go_simp; done) | (go_simp; rfl)); intro gb147 hg w5 hbox hb; have n0_ := Aside0.mk (below_step (by repeat (first | (with_reducible first | exact HB.out | apply below_alloc | apply pw_below_drewN | apply below_drew1) | exact HB.out)) hb); have n1_ := Aside0.mk (hbox); have n2_ := Aside0.mk ((by rw [hg]; exact (below_size (by repeat (first | (with_reducible first | exact HB.out | apply below_alloc | apply pw_below_drewN | apply below_drew1) | exact HB.out))) : w.heap.size ≤ gb147)); have n3_ := Aside0.mk ((by rw [hg]; exact (below_size (by repeat (first | (with_reducible first | exact HB.out | apply below_alloc | apply pw_below_drewN | apply below_drew1) | exact HB.out))) : w.heap.size ≤ gb147)); clear HB; have HB := n0_; have BK147 := n1_; have GW147 := n2_; have GE147 := n3_; clear n0_ n1_ n2_ n3_; clear hb hbox hg; have hcz6_0 : w5.cell? ⟨gb147, 0, none⟩ = some (.int .i64 a0_0) := (blk_cell BK147.out 0).trans rfl; have hcz6_1 : w5.cell? ⟨gb147, 1, none⟩ = some (.int .i64 a0_1) := (blk_cell BK147.out 1).trans rfl; have hcz6_2 : w5.cell? ⟨gb147, 2, none⟩ = some (.int .i64 a0_2) := (blk_cell BK147.out 2).trans rfl; have hcz6_3 : w5.cell? ⟨gb147, 3, none⟩ = some (.slice A0_3 l0_3.length c0_3) := (blk_cell BK147.out 3).trans rfl; have hfz6_0 := blk_frozen BK147.out 0; have hfz6_1 := blk_frozen BK147.out 1; have hfz6_2 := blk_frozen BK147.out 2; have hfz6_3 := blk_frozen BK147.out 3) | ((with_reducible refine gate_callee (f := 39) rfl ?_); refine goesL_ (some 12) rfl rfl Try.func39 (by kernel_rfl) rfl #[.agg #[.int .i64 a0_0, .int .i64 a0_1, .int .i64 a0_2, .slice A0_3 l0_3.length c0_3]] rfl (by (try simp only [List.map_toArray, List.map_cons, List.map_nil]); first | done | rfl | (simp only [List.length_drop, List.length_take]; rfl)) ?_; (with_reducible refine (check_Shapes.calls k a0_0 a0_1 a0_2 _ _ l0_3 t148 t151 _ ?side1 ?side2 A3.out).mono ?_); (case side1 => repeat (first | exact (Kd.C_below HR0_3.out HB.out) | (with_reducible refine Kd.C_alloc ?_ _) | (with_reducible refine Kd.C_drewN ?_ _) | (with_reducible refine Kd.C_drew ?_))); (case side2 => exact HC0_3.out); rintro e w7 ⟨v149, rfl, ho0, hb⟩; refine ⟨_, rfl, ?_⟩; have n0_ := Aside0.mk (Kd.R_lower ho0 (below_size (by repeat (first | (with_reducible first | exact HB.out | apply below_alloc | apply pw_below_drewN | apply below_drew1 | refine below_set ?_ GE147.out) | exact HB.out)))); have n1_ := Aside0.mk (blk_below (g := gb147) (o := .cells #[.int .i64 a0_0, .int .i64 a0_1, .int .i64 a0_2, .slice A0_3 l0_3.length c0_3] 26 (0, 0)) (by (with_reducible repeat (first | refine blk_drewN ?_ _ | refine blk_drew ?_ | refine blk_alloc ?_ _)); exact BK147.out) hb); have n2_ := Aside0.mk (below_step (by repeat (first | (with_reducible first | exact HB.out | apply below_alloc | apply pw_below_drewN | apply below_drew1 | refine below_set ?_ GE147.out) | exact HB.out)) hb); clear BK147; clear HB; have HO150 := n0_; have BK147 := n1_; have HB := n2_; clear n0_ n1_ n2_; (try clear hb); (try clear hb2); (try clear hk); (try clear hi); (try clear ho0)))
  (try simp only [Act.put, List.setIfInBounds_toArray, List.set_cons_zero, List.set_cons_succ])
  go_cut [23] (fun v23 wc => ∃ (kq : Nat) (x23_3 : Bool), v23 = .bool x23_3 ∧ Aside0 (gates_Line.j0 kq a1 t148 x23_3 a0_0 a0_1 a0_2 l0_3 = some (r1, r2)) ∧ Aside0 (kq ≤ k) ∧ Aside0 (Kd.R k23 23 wc w.heap.size (fun _ => True) v149 t148) ∧ Aside0 (wc.heap[gb147]? = some (.cells #[.int .i64 a0_0, .int .i64 a0_1, .int .i64 a0_2, (.slice A0_3 l0_3.length c0_3)] 26 (0, 0))) ∧ Aside0 (Below w.heap.size w wc))
  case first =>
    have H := HC4.out
    clear HC4
    by_cases c8 : t151 = 0
    · rw [if_pos c8] at H
      have c8b0 : (t151 == 0) = true := beq_iff_eq.mpr c8
      have c8b1 : (t151 != 0) = false := bne_eq_false_iff_eq.mpr c8
      clear c8
      (first | rw [c8b0] | (simp only [i64_w, i32_w]; rw [c8b0]) | skip)
      replace H := Option.bind_eq_some_iff.mp H
      obtain ⟨t152, A90, H⟩ := H
      replace H : (gates_Line.j0 k a1 t148 (a1 == (t152.length : Int)) a0_0 a0_1 a0_2 l0_3) = some (r1, r2) := H
      have A9 := Aside0.mk A90
      clear A90
      have H' := Aside0.mk H
      clear H
      have hcz10_0 : w7.cell? ⟨gb147, 0, none⟩ = some (.int .i64 a0_0) := (blk_cell BK147.out 0).trans rfl
      have hcz10_1 : w7.cell? ⟨gb147, 1, none⟩ = some (.int .i64 a0_1) := (blk_cell BK147.out 1).trans rfl
      have hcz10_2 : w7.cell? ⟨gb147, 2, none⟩ = some (.int .i64 a0_2) := (blk_cell BK147.out 2).trans rfl
      have hcz10_3 : w7.cell? ⟨gb147, 3, none⟩ = some (.slice A0_3 l0_3.length c0_3) := (blk_cell BK147.out 3).trans rfl
      have hfz10_0 := blk_frozen BK147.out 0
      have hfz10_1 := blk_frozen BK147.out 1
      have hfz10_2 := blk_frozen BK147.out 2
      have hfz10_3 := blk_frozen BK147.out 3
      go_wp2_with (first | (go_at_call 14; (with_reducible refine (gates_Stages.calls k a0_0 a0_1 a0_2 _ _ l0_3 t152 _ ?side1 ?side2 A9.out).mono ?_); (case side1 => repeat (first | exact (Kd.C_below HR0_3.out HB.out) | (with_reducible refine Kd.C_alloc ?_ _) | (with_reducible refine Kd.C_drewN ?_ _) | (with_reducible refine Kd.C_drew ?_))); (case side2 => exact HC0_3.out); rintro e w11 ⟨v153, rfl, ho0, hb⟩; have n0_ := Aside0.mk (Kd.R_below (by (with_reducible repeat (first | apply Kd.R_alloc | apply Kd.R_drewN | apply Kd.R_drew)); exact HO150.out) hb); have n1_ := Aside0.mk (Kd.R_lower ho0 (below_size (by repeat (first | (with_reducible first | exact HB.out | apply below_alloc | apply pw_below_drewN | apply below_drew1 | refine below_set ?_ GE147.out) | exact HB.out)))); have n2_ := Aside0.mk (blk_below (g := gb147) (o := .cells #[.int .i64 a0_0, .int .i64 a0_1, .int .i64 a0_2, .slice A0_3 l0_3.length c0_3] 26 (0, 0)) (by (with_reducible repeat (first | refine blk_drewN ?_ _ | refine blk_drew ?_ | refine blk_alloc ?_ _)); exact BK147.out) hb); have n3_ := Aside0.mk (below_step (by repeat (first | (with_reducible first | exact HB.out | apply below_alloc | apply pw_below_drewN | apply below_drew1 | refine below_set ?_ GE147.out) | exact HB.out)) hb); clear HO150; clear BK147; clear HB; have HO150 := n0_; have HO154 := n1_; have BK147 := n2_; have HB := n3_; clear n0_ n1_ n2_ n3_; (try clear hb); (try clear hb2); (try clear hk); (try clear hi); (try clear ho0); obtain ⟨Ao12, co12, eo12⟩ := Kd.R_slice HO154.out; subst eo12))
      go_meet
      case rel => exact ⟨_, ((a1 == (t152.length : Int))), (by first | rfl | (simp; done) | (simp [*]; done)), H', ⟨by first | omega | exact Nat.le_refl _⟩, ⟨by (with_reducible repeat (first | apply Kd.R_alloc | apply Kd.R_drewN | apply Kd.R_drew)); exact HO150.out⟩, ⟨by (with_reducible repeat (first | refine blk_drewN ?_ _ | refine blk_drew ?_ | refine blk_alloc ?_ _)); exact BK147.out⟩, ⟨by repeat (first | (with_reducible first | exact HB.out | apply below_alloc | apply pw_below_drewN | apply below_drew1 | refine below_set ?_ GE147.out) | exact HB.out)⟩⟩
    · rw [if_neg c8] at H
      have c8b0 : (t151 == 0) = false := beq_eq_false_iff_ne.mpr c8
      have c8b1 : (t151 != 0) = true := bne_iff_ne.mpr c8
      (first | rw [c8b0] | (simp only [i64_w, i32_w]; rw [c8b0]) | skip)
      have H' := Aside0.mk H
      clear H
      go_wp2
      go_meet
      case rel => exact ⟨_, (false), (by first | rfl | (simp; done) | (simp [*]; done)), H', ⟨by first | omega | exact Nat.le_refl _⟩, ⟨by (with_reducible repeat (first | apply Kd.R_alloc | apply Kd.R_drewN | apply Kd.R_drew)); exact HO150.out⟩, ⟨by (with_reducible repeat (first | refine blk_drewN ?_ _ | refine blk_drew ?_ | refine blk_alloc ?_ _)); exact BK147.out⟩, ⟨by repeat (first | (with_reducible first | exact HB.out | apply below_alloc | apply pw_below_drewN | apply below_drew1 | refine below_set ?_ GE147.out) | exact HB.out)⟩⟩
  case rest =>
    clear HC4
    try clear c1
    try clear p2
    try clear c3
    try clear c8
    try clear c8b0
    try clear c8b1
    try clear hcz10_0
    try clear hcz10_1
    try clear hcz10_2
    try clear hcz10_3
    try clear hcz6_0
    try clear hcz6_1
    try clear hcz6_2
    try clear hcz6_3
    try clear hfz10_0
    try clear hfz10_1
    try clear hfz10_2
    try clear hfz10_3
    try clear hfz6_0
    try clear hfz6_1
    try clear hfz6_2
    try clear hfz6_3
    obtain ⟨kq, x23_3, rfl, HA, HJ3, HO_6, BK147, HB⟩ := hcut
    cases kq with
    | zero => exact absurd HA.out (by simp [gates_Line.j0])
    | succ kj3 =>
      have H := HA.out
      clear HA
      simp only [gates_Line.j0] at H
      by_cases c13 : x23_3 = true
      · subst c13
        have H1 : ((gates_Total.f kj3 a0_0 a0_1 a0_2 l0_3).bind fun t155 => (if 0 ≤ (wrap64 ((t148.length : Int) - 1)) then (if (wrap64 ((t148.length : Int) - 1)) < (t148.length : Int) then ((shape_Size.f ((rd_T23 t148 (wrap64 ((t148.length : Int) - 1))).f0) ((rd_T23 t148 (wrap64 ((t148.length : Int) - 1))).f1) ((rd_T23 t148 (wrap64 ((t148.length : Int) - 1))).f2)).bind fun t157 => (some (wrap64 (2 * t155), t157))) else (none)) else (none))) = some (r1, r2) := by rw [if_pos rfl] at H; exact H
        clear H
        have H := H1
        clear H1
        replace H := Option.bind_eq_some_iff.mp H
        obtain ⟨t155, A140, H⟩ := H
        replace H : (if 0 ≤ (wrap64 ((t148.length : Int) - 1)) then (if (wrap64 ((t148.length : Int) - 1)) < (t148.length : Int) then ((shape_Size.f ((rd_T23 t148 (wrap64 ((t148.length : Int) - 1))).f0) ((rd_T23 t148 (wrap64 ((t148.length : Int) - 1))).f1) ((rd_T23 t148 (wrap64 ((t148.length : Int) - 1))).f2)).bind fun t157 => (some (wrap64 (2 * t155), t157))) else (none)) else (none)) = some (r1, r2) := H
        have A14 := Aside0.mk A140
        clear A140
        obtain ⟨ji15, hji15⟩ : ∃ j_ : Int, (wrap64 ((t148.length : Int) - 1)) = j_ := ⟨_, rfl⟩
        replace H : (if 0 ≤ (ji15) then (if (ji15) < (t148.length : Int) then ((shape_Size.f ((rd_T23 t148 (ji15)).f0) ((rd_T23 t148 (ji15)).f1) ((rd_T23 t148 (ji15)).f2)).bind fun t157 => (some (wrap64 (2 * t155), t157))) else (none)) else (none)) = some (r1, r2) := by first | (rw [hji15] at H; exact H) | (simp only [hji15] at H ⊢; exact H)
        (try rw [hji15] at A14)
        have hji15w : (IntKind.i64.wrap ((t148.length : Int) - 1)) = ji15 := (i64_w _).trans hji15
        by_cases c16 : 0 ≤ (ji15)
        · rw [if_pos c16] at H
          have c16b0 : decide (0 ≤ (ji15)) = true := decide_eq_true c16
          clear c16
          by_cases c17 : (ji15) < (t148.length : Int)
          · rw [if_pos c17] at H
            have c17b0 : decide ((ji15) < (t148.length : Int)) = true := decide_eq_true c17
            clear c17
            replace H := Option.bind_eq_some_iff.mp H
            obtain ⟨t157, A180, H⟩ := H
            replace H : (some (wrap64 (2 * t155), t157)) = some (r1, r2) := H
            have A18 := Aside0.mk A180
            clear A180
            simp only [Option.some.injEq, Prod.mk.injEq] at H
            obtain ⟨rfl, rfl⟩ := H
            try go_wp2
            have n0_ := Aside0.mk (Kd.R_drew HO_6.out)
            have n1_ := Aside0.mk (blk_drew BK147.out)
            have n2_ := Aside0.mk (below_drew1 HB.out)
            clear HO_6
            clear BK147
            clear HB
            have HO_6 := n0_
            have BK147 := n1_
            have HB := n2_
            clear n0_ n1_ n2_
            obtain ⟨Ao20, co20, eo20⟩ := Kd.R_slice HO_6.out
            (first | subst eo20 | (injection eo20 with f1_ f2_ f3_; have f4_ := f1_.symm; have f5_ := f3_.symm; clear f1_ f2_ f3_; subst f4_; subst f5_))
            have p156 : 0 ≤ ((ji15) : Int) := of_decide_eq_true (by first | (with_reducible assumption) | assumption)
            have q156 : (ji15) < (t148.length : Int) := of_decide_eq_true (by first | (with_reducible assumption) | assumption)
            obtain ⟨ad156, e156, hx156_0, hx156_1, hx156_2⟩ := at_T23 (Kd.R_reads' HO_6.out).2.2 (ji15) p156 q156
            cases e156
            replace p156 := eq_true p156
            replace q156 := eq_true q156
            refine start_ (n := 12) (S := fun w' => w'.cell? ⟨gb147, 0, none⟩ = some (.int .i64 a0_0) ∧ w'.cell? ⟨gb147, 1, none⟩ = some (.int .i64 a0_1) ∧ w'.cell? ⟨gb147, 2, none⟩ = some (.int .i64 a0_2) ∧ w'.cell? ⟨gb147, 3, none⟩ = some (.slice A0_3 l0_3.length c0_3) ∧ w'.cell? (ad156.add (((ji15)).toNat * 3)) = some (.int .i64 ((rd_T23 t148 (ji15)).f0)) ∧ w'.cell? ⟨(ad156.add (((ji15)).toNat * 3)).block, (ad156.add (((ji15)).toNat * 3)).off + 1, none⟩ = some (.int .i64 ((rd_T23 t148 (ji15)).f1)) ∧ w'.cell? ⟨(ad156.add (((ji15)).toNat * 3)).block, (ad156.add (((ji15)).toNat * 3)).off + 2, none⟩ = some (.int .i64 ((rd_T23 t148 (ji15)).f2))) (ds := []) #[false, false, false, false, false, false, false, false, false, false, false, false] (by kernel_rfl) rfl rfl ⟨(blk_cell BK147.out 0).trans rfl, (blk_cell BK147.out 1).trans rfl, (blk_cell BK147.out 2).trans rfl, (blk_cell BK147.out 3).trans rfl, hx156_0, hx156_1, hx156_2⟩ (fun hHeld => ?_); refine with_tabW gates_Line.tab3 gates_Line.bits3 (fun HT_ HW_ => ?_)
            generalize wc.drew = w19 at HO_6 BK147 HB hx156_0 hx156_1 hx156_2 hHeld ⊢
            refine pure_ (i := 3) (N := some 27) (v := ?_) (a' := ?_) #[false, false, false, true, false, false, false, false, false, false, false, false] rfl rfl (any_of HT_.out (by kernel_rfl)) (fun _ _ _ h => h) (Or.inl ⟨by rfl, ?_⟩) ?_ ?_
            rotate_left
            · intro w'
              go_simp
              with_reducible rfl
            rotate_left
            · simp only [Act.put, List.setIfInBounds_toArray, List.set_cons_zero, List.set_cons_succ, i64_w, i32_w]
              rfl
            refine pure_ (i := 4) (N := some 28) (v := ?_) (a' := ?_) #[false, false, false, true, true, false, false, false, false, false, false, false] rfl rfl (any_of HT_.out (by kernel_rfl)) (fun _ _ _ h => h) (Or.inl ⟨by rfl, ?_⟩) ?_ ?_
            rotate_left
            · intro w'
              go_simp
              with_reducible rfl
            rotate_left
            · simp only [Act.put, List.setIfInBounds_toArray, List.set_cons_zero, List.set_cons_succ, i64_w, i32_w]
              rfl
            refine pure_ (i := 5) (N := some 29) (v := ?_) (a' := ?_) #[false, false, false, true, true, true, false, false, false, false, false, false] rfl rfl (any_of HT_.out (by kernel_rfl)) (fun _ _ _ h => h) (Or.inl ⟨by rfl, ?_⟩) ?_ ?_
            rotate_left
            · intro w'
              go_simp
              with_reducible rfl
            rotate_left
            · simp only [Act.put, List.setIfInBounds_toArray, List.set_cons_zero, List.set_cons_succ, i64_w, i32_w]
              rfl
            refine pure_ (i := 6) (N := some 30) (v := ?_) (a' := ?_) #[false, false, false, true, true, true, true, false, false, false, false, false] rfl rfl (any_of HT_.out (by kernel_rfl)) (fun _ _ _ h => h) (Or.inl ⟨by rfl, ?_⟩) ?_ ?_
            rotate_left
            · intro w'
              go_simp
              with_reducible rfl
            rotate_left
            · simp only [Act.put, List.setIfInBounds_toArray, List.set_cons_zero, List.set_cons_succ, i64_w, i32_w]
              rfl
            refine pure_ (i := 7) (N := some 31) (v := ?_) (a' := ?_) #[false, false, false, true, true, true, true, true, false, false, false, false] rfl rfl (any_of HT_.out (by kernel_rfl)) (fun _ _ _ h => h) (Or.inl ⟨by rfl, ?_⟩) ?_ ?_
            rotate_left
            · intro w'
              go_simp
              with_reducible rfl
            rotate_left
            · simp only [Act.put, List.setIfInBounds_toArray, List.set_cons_zero, List.set_cons_succ, i64_w, i32_w]
              rfl
            refine take_ (i := 0) (N := some 24) (v := ?_) (a' := ?_) #[true, false, false, true, true, true, true, true, false, false, false, false] rfl rfl (take_ofW HT_.out HW_.out (by kernel_rfl)) (fun _ _ _ h => h) (Or.inl ⟨by rfl, ?_⟩) hHeld ?_ ?_
            rotate_left
            · rintro w' ⟨s0, s1, s2, s3, s4, s5, s6⟩
              go_simp
              with_reducible rfl
            rotate_left
            · simp only [Act.put, List.setIfInBounds_toArray, List.set_cons_zero, List.set_cons_succ, i64_w, i32_w]
              rfl
            refine take_ (i := 8) (N := some 32) (v := ?_) (a' := ?_) #[true, false, false, true, true, true, true, true, true, false, false, false] rfl rfl (take_ofW HT_.out HW_.out (by kernel_rfl)) (fun _ _ _ h => h) (Or.inl ⟨by rfl, ?_⟩) hHeld ?_ ?_
            rotate_left
            · rintro w' ⟨s0, s1, s2, s3, s4, s5, s6⟩
              go_simp
              with_reducible rfl
            rotate_left
            · simp only [Act.put, List.setIfInBounds_toArray, List.set_cons_zero, List.set_cons_succ, i64_w, i32_w]
              rfl
            refine one_ (i := 1) (N := some 25) #[true, true, false, true, true, true, true, true, true, false, false, false] rfl rfl (one_of HT_.out (by kernel_rfl)) (by decide) (fun K hK => ?_)
            refine goes_ Try.func17 (by kernel_rfl) rfl #[.agg #[.int .i64 a0_0, .int .i64 a0_1, .int .i64 a0_2, .slice A0_3 l0_3.length c0_3]] (by rfl) rfl rfl (by (try simp only [List.map_toArray, List.map_cons, List.map_nil]); first | done | rfl | (simp only [List.length_drop, List.length_take]; rfl)) ?_
            with_reducible refine (gates_Total.calls kj3 a0_0 a0_1 a0_2 _ _ l0_3 t155 _ ?side1 ?side2 A14.out).mono ?_
            (case side1 => repeat (first | exact (Kd.C_below HR0_3.out HB.out) | (with_reducible refine Kd.C_alloc ?_ _) | (with_reducible refine Kd.C_drewN ?_ _) | (with_reducible refine Kd.C_drew ?_)))
            (case side2 => exact HC0_3.out)
            rintro e w21 ⟨rfl, hb⟩
            have HS4_ := (hb.cell (World.block_lt_of_cell? _ _ (hHeld.2.2.2.2.1))).trans (hHeld.2.2.2.2.1)
            have HS5_ := (hb.cell (World.block_lt_of_cell? _ _ (hHeld.2.2.2.2.2.1))).trans (hHeld.2.2.2.2.2.1)
            have HS6_ := (hb.cell (World.block_lt_of_cell? _ _ (hHeld.2.2.2.2.2.2))).trans (hHeld.2.2.2.2.2.2)
            refine ⟨_, rfl, ?_⟩
            have n0_ := Aside0.mk (Kd.R_below (by (with_reducible repeat (first | apply Kd.R_alloc | apply Kd.R_drewN | apply Kd.R_drew)); exact HO_6.out) hb)
            have n1_ := Aside0.mk (blk_below (g := gb147) (o := .cells #[.int .i64 a0_0, .int .i64 a0_1, .int .i64 a0_2, .slice A0_3 l0_3.length c0_3] 26 (0, 0)) (by (with_reducible repeat (first | refine blk_drewN ?_ _ | refine blk_drew ?_ | refine blk_alloc ?_ _)); exact BK147.out) hb)
            have n2_ := Aside0.mk (below_step (by repeat (first | (with_reducible first | exact HB.out | apply below_alloc | apply pw_below_drewN | apply below_drew1 | refine below_set ?_ GE147.out) | exact HB.out)) hb)
            clear HO_6
            clear BK147
            clear HB
            have HO_6 := n0_
            have BK147 := n1_
            have HB := n2_
            clear n0_ n1_ n2_
            (try clear hb)
            (try clear hb2)
            (try clear hk)
            (try clear hi)
            refine hK.out _ _ ⟨(blk_cell BK147.out 0).trans rfl, (blk_cell BK147.out 1).trans rfl, (blk_cell BK147.out 2).trans rfl, (blk_cell BK147.out 3).trans rfl, HS4_, HS5_, HS6_⟩ (fun hHeld => ?_)
            clear hK K
            refine norm_ (a' := ?_) ?_ ?_
            rotate_left
            · show Act.put _ (some 25) _ = _
              simp only [Act.put, List.setIfInBounds_toArray, List.set_cons_zero, List.set_cons_succ, i64_w, i32_w]
              rfl
            refine pure_ (i := 2) (N := some 26) (v := ?_) (a' := ?_) #[true, true, true, true, true, true, true, true, true, false, false, false] rfl rfl (any_of HT_.out (by kernel_rfl)) (fun _ _ _ h => h) (Or.inl ⟨by rfl, ?_⟩) ?_ ?_
            rotate_left
            · intro w'
              go_simp
              with_reducible rfl
            rotate_left
            · simp only [Act.put, List.setIfInBounds_toArray, List.set_cons_zero, List.set_cons_succ, i64_w, i32_w]
              rfl
            refine one_ (i := 9) (N := some 33) #[true, true, true, true, true, true, true, true, true, true, false, false] rfl rfl (one_of HT_.out (by kernel_rfl)) (by decide) (fun K hK => ?_)
            refine goes_ Try.func40 (by kernel_rfl) rfl #[.agg #[.int .i64 ((rd_T23 t148 (ji15)).f0), .int .i64 ((rd_T23 t148 (ji15)).f1), .int .i64 ((rd_T23 t148 (ji15)).f2)]] (by rfl) rfl rfl (by (try simp only [List.map_toArray, List.map_cons, List.map_nil]); first | done | (simp only [hji15]; rfl) | rfl | (simp only [List.length_drop, List.length_take]; rfl)) ?_
            with_reducible refine (shape_Size.calls ((rd_T23 t148 (ji15)).f0) ((rd_T23 t148 (ji15)).f1) ((rd_T23 t148 (ji15)).f2) t157 _ A18.out).mono ?_
            rintro e w22 ⟨rfl, hb⟩
            have HS4_ := (hb.cell (World.block_lt_of_cell? _ _ (hHeld.2.2.2.2.1))).trans (hHeld.2.2.2.2.1)
            have HS5_ := (hb.cell (World.block_lt_of_cell? _ _ (hHeld.2.2.2.2.2.1))).trans (hHeld.2.2.2.2.2.1)
            have HS6_ := (hb.cell (World.block_lt_of_cell? _ _ (hHeld.2.2.2.2.2.2))).trans (hHeld.2.2.2.2.2.2)
            refine ⟨_, rfl, ?_⟩
            have n0_ := Aside0.mk (Kd.R_below (by (with_reducible repeat (first | apply Kd.R_alloc | apply Kd.R_drewN | apply Kd.R_drew)); exact HO_6.out) hb)
            have n1_ := Aside0.mk (blk_below (g := gb147) (o := .cells #[.int .i64 a0_0, .int .i64 a0_1, .int .i64 a0_2, .slice A0_3 l0_3.length c0_3] 26 (0, 0)) (by (with_reducible repeat (first | refine blk_drewN ?_ _ | refine blk_drew ?_ | refine blk_alloc ?_ _)); exact BK147.out) hb)
            have n2_ := Aside0.mk (below_step (by repeat (first | (with_reducible first | exact HB.out | apply below_alloc | apply pw_below_drewN | apply below_drew1 | refine below_set ?_ GE147.out) | exact HB.out)) hb)
            clear HO_6
            clear BK147
            clear HB
            have HO_6 := n0_
            have BK147 := n1_
            have HB := n2_
            clear n0_ n1_ n2_
            (try clear hb)
            (try clear hb2)
            (try clear hk)
            (try clear hi)
            refine hK.out _ _ ⟨(blk_cell BK147.out 0).trans rfl, (blk_cell BK147.out 1).trans rfl, (blk_cell BK147.out 2).trans rfl, (blk_cell BK147.out 3).trans rfl, HS4_, HS5_, HS6_⟩ (fun hHeld => ?_)
            clear hK K
            refine norm_ (a' := ?_) ?_ ?_
            rotate_left
            · show Act.put _ (some 33) _ = _
              simp only [Act.put, List.setIfInBounds_toArray, List.set_cons_zero, List.set_cons_succ, i64_w, i32_w]
              rfl
            refine pure_ (i := 10) (N := some 4) (v := ?_) (a' := ?_) #[true, true, true, true, true, true, true, true, true, true, true, false] rfl rfl (any_of HT_.out (by kernel_rfl)) (fun _ _ _ h => h) (Or.inl ⟨by rfl, ?_⟩) ?_ ?_
            rotate_left
            · intro w'
              go_simp
              with_reducible rfl
            rotate_left
            · simp only [Act.put, List.setIfInBounds_toArray, List.set_cons_zero, List.set_cons_succ, i64_w, i32_w]
              rfl
            refine pure_ (i := 11) (N := some 5) (v := ?_) (a' := ?_) #[true, true, true, true, true, true, true, true, true, true, true, true] rfl rfl (any_of HT_.out (by kernel_rfl)) (fun _ _ _ h => h) (Or.inl ⟨by rfl, ?_⟩) ?_ ?_
            rotate_left
            · intro w'
              go_simp
              with_reducible rfl
            rotate_left
            · simp only [Act.put, List.setIfInBounds_toArray, List.set_cons_zero, List.set_cons_succ, i64_w, i32_w]
              rfl
            refine done_ (done_of HT_.out (by kernel_rfl)) ?_
            try go_wp2
            go_ret2
            exact ⟨by first | rfl | (simp [errW_none, errW_some] <;> rfl) | (simp only [← hji15]; first | rfl | (simp [errW_none, errW_some] <;> rfl)) | (simp [*, errW_none, errW_some] <;> rfl), by repeat (first | (with_reducible first | exact HB.out | apply below_alloc | apply pw_below_drewN | apply below_drew1 | refine below_set ?_ GE147.out) | exact HB.out)⟩
          · rw [if_neg c17] at H
            exact absurd H (by simp)
        · rw [if_neg c16] at H
          exact absurd H (by simp)
      · replace c13 := Bool.eq_false_iff.mpr c13
        subst c13
        have H1 : ((gates_Range.f kj3 a0_0 a0_1 a0_2 l0_3 a1).bind fun bt158 => (some (wrap64 (2 * bt158.1), wrap64 (2 * bt158.2)))) = some (r1, r2) := by rw [if_neg (show ¬ (false = true) by decide)] at H; exact H
        clear H
        have H := H1
        clear H1
        replace H := Option.bind_eq_some_iff.mp H
        obtain ⟨⟨t158, t159⟩, A230, H⟩ := H
        replace H : (some (wrap64 (2 * t158), wrap64 (2 * t159))) = some (r1, r2) := H
        have A23 := Aside0.mk A230
        clear A230
        simp only [Option.some.injEq, Prod.mk.injEq] at H
        obtain ⟨rfl, rfl⟩ := H
        have hcz24_0 : wc.cell? ⟨gb147, 0, none⟩ = some (.int .i64 a0_0) := (blk_cell BK147.out 0).trans rfl
        have hcz24_1 : wc.cell? ⟨gb147, 1, none⟩ = some (.int .i64 a0_1) := (blk_cell BK147.out 1).trans rfl
        have hcz24_2 : wc.cell? ⟨gb147, 2, none⟩ = some (.int .i64 a0_2) := (blk_cell BK147.out 2).trans rfl
        have hcz24_3 : wc.cell? ⟨gb147, 3, none⟩ = some (.slice A0_3 l0_3.length c0_3) := (blk_cell BK147.out 3).trans rfl
        have hfz24_0 := blk_frozen BK147.out 0
        have hfz24_1 := blk_frozen BK147.out 1
        have hfz24_2 := blk_frozen BK147.out 2
        have hfz24_3 := blk_frozen BK147.out 3
        go_wp2_with (first | ((with_reducible refine gate_callee (f := 18) rfl ?_); refine goesL_ (some 37) rfl rfl Try.func18 (by kernel_rfl) rfl #[.agg #[.int .i64 a0_0, .int .i64 a0_1, .int .i64 a0_2, .slice A0_3 l0_3.length c0_3], .int .i64 a1] rfl (by (try simp only [List.map_toArray, List.map_cons, List.map_nil]); first | done | rfl | (simp only [List.length_drop, List.length_take]; rfl)) ?_; (with_reducible refine (gates_Range.calls kj3 a0_0 a0_1 a0_2 _ _ l0_3 a1 t158 t159 _ ?side1 ?side2 A23.out).mono ?_); (case side1 => repeat (first | exact (Kd.C_below HR0_3.out HB.out) | (with_reducible refine Kd.C_alloc ?_ _) | (with_reducible refine Kd.C_drewN ?_ _) | (with_reducible refine Kd.C_drew ?_))); (case side2 => exact HC0_3.out); rintro e w25 ⟨rfl, hb⟩; refine ⟨_, rfl, ?_⟩; have n0_ := Aside0.mk (Kd.R_below (by (with_reducible repeat (first | apply Kd.R_alloc | apply Kd.R_drewN | apply Kd.R_drew)); exact HO_6.out) hb); have n1_ := Aside0.mk (blk_below (g := gb147) (o := .cells #[.int .i64 a0_0, .int .i64 a0_1, .int .i64 a0_2, .slice A0_3 l0_3.length c0_3] 26 (0, 0)) (by (with_reducible repeat (first | refine blk_drewN ?_ _ | refine blk_drew ?_ | refine blk_alloc ?_ _)); exact BK147.out) hb); have n2_ := Aside0.mk (below_step (by repeat (first | (with_reducible first | exact HB.out | apply below_alloc | apply pw_below_drewN | apply below_drew1 | refine below_set ?_ GE147.out) | exact HB.out)) hb); clear HO_6; clear BK147; clear HB; have HO_6 := n0_; have BK147 := n1_; have HB := n2_; clear n0_ n1_ n2_; (try clear hb); (try clear hb2); (try clear hk); (try clear hi)))
        go_ret2
        exact ⟨by first | rfl | (simp [errW_none, errW_some] <;> rfl) | (simp [*, errW_none, errW_some] <;> rfl), by repeat (first | (with_reducible first | exact HB.out | apply below_alloc | apply pw_below_drewN | apply below_drew1 | refine below_set ?_ GE147.out) | exact HB.out)⟩

end Go.Proofs.Ytjegihodmidhoaa.G
