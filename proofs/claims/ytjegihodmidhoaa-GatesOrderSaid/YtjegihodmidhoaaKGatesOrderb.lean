/- A part of the proof of: GatesOrder: of two gates of a network the lesser one is of an earlier layer, place or term: for every input the law returns true, and its arguments read as they did. -/
import Derived.Test.YtjegihodmidhoaaKGatesOrdera
import Derived.Laws.ComplexArith
import Derived.WalkLawsBesides
import Derived.Deep.RegionLaw
import Derived.Deep.DeepCutAuto
import Derived.IntWalk
namespace Go.Proofs.Ytjegihodmidhoaa.G
open Go.RowKit Go.Proofs.YtjegihodmidhoaaW.PrintWords Go.Proofs.YtjegihodmidhoaaW.PrintLast Go.Proofs.YtjegihodmidhoaaW.PrintMore
attribute [local go_sem] max2_int min2_int max_two min_two max_three min_three max_four min_four   -- for this text's walks alone
set_option linter.unusedVariables false
set_option linter.unusedSimpArgs false

/-! ### terms_of: function 83 -/
def terms_of.f (k : Nat) (a0_0 : Int) (a0_1 : Int) (a0_2 : Int) (l0_3 : List (S63)) (a1 : Int) : Option (Int × Int × Int × Int × Int × Int × Int × Int × Int × Int × Int × Bool) := (check_Shapes.f k a0_0 a0_1 a0_2 l0_3).bind fun bt369 => (if bt369.2 = 0 then (if a1 < 0 then (some (0, 0, 0, 0, 0, 0, 0, 0, 0, 0, 0, false)) else (if a1 ≥ (l0_3.length : Int) then (some (0, 0, 0, 0, 0, 0, 0, 0, 0, 0, 0, false)) else ((check_Weights.f k a0_0 a0_1 a0_2 l0_3 a1).bind fun bt373 => (if 0 ≤ a1 then (if a1 < (l0_3.length : Int) then (if a1 < (bt369.1.length : Int) then (if 0 ≤ (wrap64 (a1 + 1)) then (if (wrap64 (a1 + 1)) < (bt369.1.length : Int) then (some ((rd_T63 l0_3 a1).f0, (rd_T63 l0_3 a1).f1, (rd_T63 l0_3 a1).f2, (rd_T63 l0_3 a1).f3, (rd_T23 bt369.1 a1).f0, (rd_T23 bt369.1 a1).f1, (rd_T23 bt369.1 a1).f2, (rd_T23 bt369.1 (wrap64 (a1 + 1))).f0, (rd_T23 bt369.1 (wrap64 (a1 + 1))).f1, (rd_T23 bt369.1 (wrap64 (a1 + 1))).f2, bt373.1, true)) else (none)) else (none)) else (none)) else (none)) else (none))))) else (some (0, 0, 0, 0, 0, 0, 0, 0, 0, 0, 0, false)))
theorem terms_of.mono : ∀ a0 a1 a2 a3 a4 k, LeO (terms_of.f k a0 a1 a2 a3 a4) (terms_of.f (k + 1) a0 a1 a2 a3 a4) := by
  intro a0 a1 a2 a3 a4 k
  unfold terms_of.f
  repeat' first
      | (with_reducible exact check_Shapes.mono _ _ _ _ _)
      | (with_reducible exact check_Weights.mono _ _ _ _ _ _)
      | (with_reducible exact LeO.refl _)
      | (with_reducible exact LeO.none _)
      | (with_reducible refine LeO.ite ?_ ?_)
      | (with_reducible refine LeO.bind ?_ (fun _ => ?_))
      | exact check_Shapes.mono _ _ _ _ _
      | exact check_Weights.mono _ _ _ _ _ _
      | exact LeO.none _
      | refine LeO.ite ?_ ?_
      | refine LeO.bind ?_ (fun _ => ?_)
def terms_of.T5 : Bool × List (List Nat × List Nat) := (true, [([], []), ([0], [0]), ([], []), ([1, 2], [1, 2]), ([3], [3]), ([], []), ([], []), ([5, 6], [5, 6]), ([7], [7]), ([], []), ([], []), ([10], [10]), ([9, 11], [9, 11]), ([12], [12]), ([], []), ([4, 8, 13, 14], [4, 8, 13, 14]), ([15, 0, 1, 2, 3, 4, 5, 6, 7, 8, 9, 10, 11, 12, 13, 14, 15], [15]), ([16, 0, 1, 2, 3, 4, 5, 6, 7, 8, 9, 10, 11, 12, 13, 14, 15, 16], [])])
def terms_of.B5 : List Nat := [0, 1, 0, 7, 15, 0, 0, 96, 224, 0, 0, 1024, 3584, 7680, 0, 32767, 65535, 131071]
theorem terms_of.tab5 : rtab .any (opsOf Try.f83 5) = terms_of.T5 := by kernel_rfl
theorem terms_of.bits5 : waitsOk terms_of.T5.2 terms_of.B5 = true := by kernel_rfl
set_option maxHeartbeats 8000000 in
set_option maxRecDepth 100000 in
theorem terms_of.calls (k : Nat) (a0_0 : Int) (a0_1 : Int) (a0_2 : Int) (A0_3 : Option Addr) (c0_3 : Nat) (l0_3 : List (S63)) (a1 : Int) (r1 : Int) (r2 : Int) (r3 : Int) (r4 : Int) (r5 : Int) (r6 : Int) (r7 : Int) (r8 : Int) (r9 : Int) (r10 : Int) (r11 : Int) (r12 : Bool) (w : World) (hr0_3 : Kd.C k63 w A0_3 l0_3.length l0_3) (hc0_3 : l0_3.length ≤ c0_3) (h : terms_of.f k a0_0 a0_1 a0_2 l0_3 a1 = some (r1, r2, r3, r4, r5, r6, r7, r8, r9, r10, r11, r12)) :
    Calls Try.prog 83 #[.agg #[.int .i64 a0_0, .int .i64 a0_1, .int .i64 a0_2, .slice A0_3 l0_3.length c0_3], .int .i64 a1] w fun e w' => e = .returned (.tuple #[.agg #[.int .i64 r1, .int .i64 r2, .int .i64 r3, .int .i64 r4, .int .i64 r5, .int .i64 r6, .int .i64 r7, .int .i64 r8, .int .i64 r9, .int .i64 r10, .int .i64 r11], .bool r12]) ∧ Below w.heap.size w w' := by
  have hu26 := Try.underlying26
  have hu134 := Try.underlying134
  have hu63 := Try.underlying63
  have hu23 := Try.underlying23
  have HR0_3 := Aside0.mk hr0_3
  have HC0_3 := Aside0.mk hc0_3
  clear hr0_3 hc0_3
  have HB := Aside0.mk (Below.refl w.heap.size w)
  have H : ((check_Shapes.f k a0_0 a0_1 a0_2 l0_3).bind fun bt369 => (if bt369.2 = 0 then (if a1 < 0 then (some (0, 0, 0, 0, 0, 0, 0, 0, 0, 0, 0, false)) else (if a1 ≥ (l0_3.length : Int) then (some (0, 0, 0, 0, 0, 0, 0, 0, 0, 0, 0, false)) else ((check_Weights.f k a0_0 a0_1 a0_2 l0_3 a1).bind fun bt373 => (if 0 ≤ a1 then (if a1 < (l0_3.length : Int) then (if a1 < (bt369.1.length : Int) then (if 0 ≤ (wrap64 (a1 + 1)) then (if (wrap64 (a1 + 1)) < (bt369.1.length : Int) then (some ((rd_T63 l0_3 a1).f0, (rd_T63 l0_3 a1).f1, (rd_T63 l0_3 a1).f2, (rd_T63 l0_3 a1).f3, (rd_T23 bt369.1 a1).f0, (rd_T23 bt369.1 a1).f1, (rd_T23 bt369.1 a1).f2, (rd_T23 bt369.1 (wrap64 (a1 + 1))).f0, (rd_T23 bt369.1 (wrap64 (a1 + 1))).f1, (rd_T23 bt369.1 (wrap64 (a1 + 1))).f2, bt373.1, true)) else (none)) else (none)) else (none)) else (none)) else (none))))) else (some (0, 0, 0, 0, 0, 0, 0, 0, 0, 0, 0, false)))) = some (r1, r2, r3, r4, r5, r6, r7, r8, r9, r10, r11, r12) := h
  clear h
  replace H := Option.bind_eq_some_iff.mp H
  obtain ⟨⟨t369, t372⟩, A30, H⟩ := H
  replace H : (if t372 = 0 then (if a1 < 0 then (some (0, 0, 0, 0, 0, 0, 0, 0, 0, 0, 0, false)) else (if a1 ≥ (l0_3.length : Int) then (some (0, 0, 0, 0, 0, 0, 0, 0, 0, 0, 0, false)) else ((check_Weights.f k a0_0 a0_1 a0_2 l0_3 a1).bind fun bt373 => (if 0 ≤ a1 then (if a1 < (l0_3.length : Int) then (if a1 < (t369.length : Int) then (if 0 ≤ (wrap64 (a1 + 1)) then (if (wrap64 (a1 + 1)) < (t369.length : Int) then (some ((rd_T63 l0_3 a1).f0, (rd_T63 l0_3 a1).f1, (rd_T63 l0_3 a1).f2, (rd_T63 l0_3 a1).f3, (rd_T23 t369 a1).f0, (rd_T23 t369 a1).f1, (rd_T23 t369 a1).f2, (rd_T23 t369 (wrap64 (a1 + 1))).f0, (rd_T23 t369 (wrap64 (a1 + 1))).f1, (rd_T23 t369 (wrap64 (a1 + 1))).f2, bt373.1, true)) else (none)) else (none)) else (none)) else (none)) else (none))))) else (some (0, 0, 0, 0, 0, 0, 0, 0, 0, 0, 0, false))) = some (r1, r2, r3, r4, r5, r6, r7, r8, r9, r10, r11, r12) := H
  have A3 := Aside0.mk A30
  clear A30
  by_cases c4 : t372 = 0
  · rw [if_pos c4] at H
    have c4b0 : (t372 == 0) = true := beq_iff_eq.mpr c4
    have c4b1 : (t372 != 0) = false := bne_eq_false_iff_eq.mpr c4
    clear c4
    by_cases c5 : a1 < 0
    · rw [if_pos c5] at H
      have c5b0 : decide (a1 < 0) = true := decide_eq_true c5
      clear c5
      simp only [Option.some.injEq, Prod.mk.injEq] at H
      obtain ⟨rfl, rfl, rfl, rfl, rfl, rfl, rfl, rfl, rfl, rfl, rfl, rfl⟩ := H
      go_enter Try.func83, Try.ntmps83
      go_wp2_with (first | ((with_reducible refine gate_dst (N := 2) rfl ?_); (try (refine gate_guard (by rfl) ?_; dsimp only)); refine box_event ?hg (N := 2) ?hd (cs := #[.int .i64 a0_0, .int .i64 a0_1, .int .i64 a0_2, .slice A0_3 l0_3.length c0_3]) (t := 26) ?hr ?_; (case hd => rfl); (case hg => rfl); (case hr => first | (go_simp; done) | (go_simp; rfl)); intro gb367 hg w6 hbox hb; have n0_ := Aside0.mk (below_step (by repeat (first | (with_reducible first | exact HB.out | apply below_alloc | apply pw_below_drewN | apply below_drew1) | exact HB.out)) hb); have n1_ := Aside0.mk (hbox); have n2_ := Aside0.mk ((by rw [hg]; exact (below_size (by repeat (first | (with_reducible first | exact HB.out | apply below_alloc | apply pw_below_drewN | apply below_drew1) | exact HB.out))) : w.heap.size ≤ gb367)); have n3_ := Aside0.mk ((by rw [hg]; exact (below_size (by repeat (first | (with_reducible first | exact HB.out | apply below_alloc | apply pw_below_drewN | apply below_drew1) | exact HB.out))) : w.heap.size ≤ gb367)); clear HB; have HB := n0_; have BK367 := n1_; have GW367 := n2_; have GE367 := n3_; clear n0_ n1_ n2_ n3_; clear hb hbox hg) | ((with_reducible refine gate_dst (N := 4) rfl ?_); (try (refine gate_guard (by rfl) ?_; dsimp only)); refine box_event ?hg (N := 4) ?hd (cs := #[.int .i64 0, .int .i64 0, .int .i64 0, .int .i64 0, .int .i64 0, .int .i64 0, .int .i64 0, .int .i64 0, .int .i64 0, .int .i64 0, .int .i64 0]) (t := 134) ?hr ?_; (case hd => rfl); (case hg => rfl); (case hr => first | (go_simp; done) | (go_simp; rfl)); intro gb368 hg w7 hbox hb; have n0_ := Aside0.mk (blk_below (g := gb367) (o := .cells #[.int .i64 a0_0, .int .i64 a0_1, .int .i64 a0_2, .slice A0_3 l0_3.length c0_3] 26 (0, 0)) (by (with_reducible repeat (first | refine blk_drewN ?_ _ | refine blk_drew ?_ | refine blk_alloc ?_ _)); exact BK367.out) hb); have n1_ := Aside0.mk (below_step (by repeat (first | (with_reducible first | exact HB.out | apply below_alloc | apply pw_below_drewN | apply below_drew1 | refine below_set ?_ GE367.out) | exact HB.out)) hb); have n2_ := Aside0.mk (hbox); have n3_ := Aside0.mk ((by rw [hg]; exact (below_size (by repeat (first | (with_reducible first | exact HB.out | apply below_alloc | apply pw_below_drewN | apply below_drew1 | refine below_set ?_ GE367.out) | exact HB.out))) : w.heap.size ≤ gb368)); have n4_ := Aside0.mk ((by rw [hg]; exact (below_size (by repeat (first | (with_reducible first | exact HB.out | apply below_alloc | apply pw_below_drewN | apply below_drew1 | refine below_set ?_ GE367.out) | exact HB.out))) : w.heap.size ≤ gb368)); have n5_ := Aside0.mk ((by rw [hg]; exact Nat.ne_of_lt (blk_lt (g := gb367) (o := .cells #[.int .i64 a0_0, .int .i64 a0_1, .int .i64 a0_2, .slice A0_3 l0_3.length c0_3] 26 (0, 0)) (by (with_reducible repeat (first | refine blk_drewN ?_ _ | refine blk_drew ?_ | refine blk_alloc ?_ _)); exact BK367.out)) : gb367 ≠ gb368)); have n6_ := Aside0.mk ((by rw [hg]; exact Nat.ne_of_gt (blk_lt (g := gb367) (o := .cells #[.int .i64 a0_0, .int .i64 a0_1, .int .i64 a0_2, .slice A0_3 l0_3.length c0_3] 26 (0, 0)) (by (with_reducible repeat (first | refine blk_drewN ?_ _ | refine blk_drew ?_ | refine blk_alloc ?_ _)); exact BK367.out)) : gb368 ≠ gb367)); clear BK367; clear HB; have BK367 := n0_; have HB := n1_; have BK368 := n2_; have GW368 := n3_; have GE368 := n4_; have NB367_368 := n5_; have NB368_367 := n6_; clear n0_ n1_ n2_ n3_ n4_ n5_ n6_; clear hb hbox hg; have hnb8 := NB367_368.out; have hnc8 := NB368_367.out; have hcz9_0 : w7.cell? ⟨gb367, 0, none⟩ = some (.int .i64 a0_0) := (blk_cell BK367.out 0).trans rfl; have hcz9_1 : w7.cell? ⟨gb367, 1, none⟩ = some (.int .i64 a0_1) := (blk_cell BK367.out 1).trans rfl; have hcz9_2 : w7.cell? ⟨gb367, 2, none⟩ = some (.int .i64 a0_2) := (blk_cell BK367.out 2).trans rfl; have hcz9_3 : w7.cell? ⟨gb367, 3, none⟩ = some (.slice A0_3 l0_3.length c0_3) := (blk_cell BK367.out 3).trans rfl; have hfz9_0 := blk_frozen BK367.out 0; have hfz9_1 := blk_frozen BK367.out 1; have hfz9_2 := blk_frozen BK367.out 2; have hfz9_3 := blk_frozen BK367.out 3) | ((with_reducible refine gate_callee (f := 39) rfl ?_); refine goesL_ (some 12) rfl rfl Try.func39 (by kernel_rfl) rfl #[.agg #[.int .i64 a0_0, .int .i64 a0_1, .int .i64 a0_2, .slice A0_3 l0_3.length c0_3]] rfl (by (try simp only [List.map_toArray, List.map_cons, List.map_nil]); first | done | rfl | (simp only [List.length_drop, List.length_take]; rfl)) ?_; (with_reducible refine (check_Shapes.calls k a0_0 a0_1 a0_2 _ _ l0_3 t369 t372 _ ?side1 ?side2 A3.out).mono ?_); (case side1 => repeat (first | exact (Kd.C_below HR0_3.out HB.out) | (with_reducible refine Kd.C_alloc ?_ _) | (with_reducible refine Kd.C_drewN ?_ _) | (with_reducible refine Kd.C_drew ?_))); (case side2 => exact HC0_3.out); rintro e w10 ⟨v370, rfl, ho0, hb⟩; refine ⟨_, rfl, ?_⟩; have n0_ := Aside0.mk (Kd.R_lower ho0 (below_size (by repeat (first | (with_reducible first | exact HB.out | apply below_alloc | apply pw_below_drewN | apply below_drew1 | refine below_set ?_ GE367.out | refine below_set ?_ GE368.out) | exact HB.out)))); have n1_ := Aside0.mk (blk_below (g := gb367) (o := .cells #[.int .i64 a0_0, .int .i64 a0_1, .int .i64 a0_2, .slice A0_3 l0_3.length c0_3] 26 (0, 0)) (by (with_reducible repeat (first | refine blk_drewN ?_ _ | refine blk_drew ?_ | refine blk_alloc ?_ _)); exact BK367.out) hb); have n2_ := Aside0.mk (blk_below (g := gb368) (o := .cells #[.int .i64 0, .int .i64 0, .int .i64 0, .int .i64 0, .int .i64 0, .int .i64 0, .int .i64 0, .int .i64 0, .int .i64 0, .int .i64 0, .int .i64 0] 134 (0, 0)) (by (with_reducible repeat (first | refine blk_drewN ?_ _ | refine blk_drew ?_ | refine blk_alloc ?_ _)); exact BK368.out) hb); have n3_ := Aside0.mk (below_step (by repeat (first | (with_reducible first | exact HB.out | apply below_alloc | apply pw_below_drewN | apply below_drew1 | refine below_set ?_ GE367.out | refine below_set ?_ GE368.out) | exact HB.out)) hb); clear BK367; clear BK368; clear HB; have HO371 := n0_; have BK367 := n1_; have BK368 := n2_; have HB := n3_; clear n0_ n1_ n2_ n3_; (try clear hb); (try clear hb2); (try clear hk); (try clear hi); (try clear ho0); have hcz11_0 : w10.cell? ⟨gb368, 0, none⟩ = some (.int .i64 0) := (blk_cell BK368.out 0).trans rfl; have hcz11_1 : w10.cell? ⟨gb368, 1, none⟩ = some (.int .i64 0) := (blk_cell BK368.out 1).trans rfl; have hcz11_2 : w10.cell? ⟨gb368, 2, none⟩ = some (.int .i64 0) := (blk_cell BK368.out 2).trans rfl; have hcz11_3 : w10.cell? ⟨gb368, 3, none⟩ = some (.int .i64 0) := (blk_cell BK368.out 3).trans rfl; have hcz11_4 : w10.cell? ⟨gb368, 4, none⟩ = some (.int .i64 0) := (blk_cell BK368.out 4).trans rfl; have hcz11_5 : w10.cell? ⟨gb368, 5, none⟩ = some (.int .i64 0) := (blk_cell BK368.out 5).trans rfl; have hcz11_6 : w10.cell? ⟨gb368, 6, none⟩ = some (.int .i64 0) := (blk_cell BK368.out 6).trans rfl; have hcz11_7 : w10.cell? ⟨gb368, 7, none⟩ = some (.int .i64 0) := (blk_cell BK368.out 7).trans rfl; have hcz11_8 : w10.cell? ⟨gb368, 8, none⟩ = some (.int .i64 0) := (blk_cell BK368.out 8).trans rfl; have hcz11_9 : w10.cell? ⟨gb368, 9, none⟩ = some (.int .i64 0) := (blk_cell BK368.out 9).trans rfl; have hcz11_10 : w10.cell? ⟨gb368, 10, none⟩ = some (.int .i64 0) := (blk_cell BK368.out 10).trans rfl; have hfz11_0 := blk_frozen BK368.out 0; have hfz11_1 := blk_frozen BK368.out 1; have hfz11_2 := blk_frozen BK368.out 2; have hfz11_3 := blk_frozen BK368.out 3; have hfz11_4 := blk_frozen BK368.out 4; have hfz11_5 := blk_frozen BK368.out 5; have hfz11_6 := blk_frozen BK368.out 6; have hfz11_7 := blk_frozen BK368.out 7; have hfz11_8 := blk_frozen BK368.out 8; have hfz11_9 := blk_frozen BK368.out 9; have hfz11_10 := blk_frozen BK368.out 10))
      refine bodyPost_ret (results_ct rfl _ _ gb368 134 #[.int .i64 0, .int .i64 0, .int .i64 0, .int .i64 0, .int .i64 0, .int .i64 0, .int .i64 0, .int .i64 0, .int .i64 0, .int .i64 0, .int .i64 0] (0, 0) _ rfl (by (with_reducible repeat (first | refine blk_drewN ?_ _ | refine blk_drew ?_ | refine blk_alloc ?_ _)); refine blk_put (cs := #[.int .i64 0, .int .i64 0, .int .i64 0, .int .i64 0, .int .i64 0, .int .i64 0, .int .i64 0, .int .i64 0, .int .i64 0, .int .i64 0, .int .i64 0]) ?_ 10 _ rfl; (with_reducible repeat (first | refine blk_drewN ?_ _ | refine blk_drew ?_ | refine blk_alloc ?_ _)); refine blk_put (cs := #[.int .i64 0, .int .i64 0, .int .i64 0, .int .i64 0, .int .i64 0, .int .i64 0, .int .i64 0, .int .i64 0, .int .i64 0, .int .i64 0, .int .i64 0]) ?_ 9 _ rfl; (with_reducible repeat (first | refine blk_drewN ?_ _ | refine blk_drew ?_ | refine blk_alloc ?_ _)); refine blk_put (cs := #[.int .i64 0, .int .i64 0, .int .i64 0, .int .i64 0, .int .i64 0, .int .i64 0, .int .i64 0, .int .i64 0, .int .i64 0, .int .i64 0, .int .i64 0]) ?_ 8 _ rfl; (with_reducible repeat (first | refine blk_drewN ?_ _ | refine blk_drew ?_ | refine blk_alloc ?_ _)); refine blk_put (cs := #[.int .i64 0, .int .i64 0, .int .i64 0, .int .i64 0, .int .i64 0, .int .i64 0, .int .i64 0, .int .i64 0, .int .i64 0, .int .i64 0, .int .i64 0]) ?_ 7 _ rfl; (with_reducible repeat (first | refine blk_drewN ?_ _ | refine blk_drew ?_ | refine blk_alloc ?_ _)); refine blk_put (cs := #[.int .i64 0, .int .i64 0, .int .i64 0, .int .i64 0, .int .i64 0, .int .i64 0, .int .i64 0, .int .i64 0, .int .i64 0, .int .i64 0, .int .i64 0]) ?_ 6 _ rfl; (with_reducible repeat (first | refine blk_drewN ?_ _ | refine blk_drew ?_ | refine blk_alloc ?_ _)); refine blk_put (cs := #[.int .i64 0, .int .i64 0, .int .i64 0, .int .i64 0, .int .i64 0, .int .i64 0, .int .i64 0, .int .i64 0, .int .i64 0, .int .i64 0, .int .i64 0]) ?_ 5 _ rfl; (with_reducible repeat (first | refine blk_drewN ?_ _ | refine blk_drew ?_ | refine blk_alloc ?_ _)); refine blk_put (cs := #[.int .i64 0, .int .i64 0, .int .i64 0, .int .i64 0, .int .i64 0, .int .i64 0, .int .i64 0, .int .i64 0, .int .i64 0, .int .i64 0, .int .i64 0]) ?_ 4 _ rfl; (with_reducible repeat (first | refine blk_drewN ?_ _ | refine blk_drew ?_ | refine blk_alloc ?_ _)); refine blk_put (cs := #[.int .i64 0, .int .i64 0, .int .i64 0, .int .i64 0, .int .i64 0, .int .i64 0, .int .i64 0, .int .i64 0, .int .i64 0, .int .i64 0, .int .i64 0]) ?_ 3 _ rfl; (with_reducible repeat (first | refine blk_drewN ?_ _ | refine blk_drew ?_ | refine blk_alloc ?_ _)); refine blk_put (cs := #[.int .i64 0, .int .i64 0, .int .i64 0, .int .i64 0, .int .i64 0, .int .i64 0, .int .i64 0, .int .i64 0, .int .i64 0, .int .i64 0, .int .i64 0]) ?_ 2 _ rfl; (with_reducible repeat (first | refine blk_drewN ?_ _ | refine blk_drew ?_ | refine blk_alloc ?_ _)); refine blk_put (cs := #[.int .i64 0, .int .i64 0, .int .i64 0, .int .i64 0, .int .i64 0, .int .i64 0, .int .i64 0, .int .i64 0, .int .i64 0, .int .i64 0, .int .i64 0]) ?_ 1 _ rfl; (with_reducible repeat (first | refine blk_drewN ?_ _ | refine blk_drew ?_ | refine blk_alloc ?_ _)); refine blk_put (cs := #[.int .i64 0, .int .i64 0, .int .i64 0, .int .i64 0, .int .i64 0, .int .i64 0, .int .i64 0, .int .i64 0, .int .i64 0, .int .i64 0, .int .i64 0]) ?_ 0 _ rfl; (with_reducible repeat (first | refine blk_drewN ?_ _ | refine blk_drew ?_ | refine blk_alloc ?_ _)); exact BK368.out) Try.underlying134 rfl (by kernel_rfl)) rfl ?_
      exact ⟨by first | rfl | (simp [errW_none, errW_some] <;> rfl) | (simp [*, errW_none, errW_some] <;> rfl), by repeat (first | (with_reducible first | exact HB.out | apply below_alloc | apply pw_below_drewN | apply below_drew1 | refine below_set ?_ GE367.out | refine below_set ?_ GE368.out) | exact HB.out)⟩
    · rw [if_neg c5] at H
      have c5b0 : decide (a1 < 0) = false := decide_eq_false c5
      clear c5
      by_cases c12 : a1 ≥ (l0_3.length : Int)
      · rw [if_pos c12] at H
        have c12b0 : decide ((l0_3.length : Int) ≤ a1) = true := decide_eq_true c12
        clear c12
        simp only [Option.some.injEq, Prod.mk.injEq] at H
        obtain ⟨rfl, rfl, rfl, rfl, rfl, rfl, rfl, rfl, rfl, rfl, rfl, rfl⟩ := H
        go_enter Try.func83, Try.ntmps83
        go_wp2_with (first | ((with_reducible refine gate_dst (N := 2) rfl ?_); (try (refine gate_guard (by rfl) ?_; dsimp only)); refine box_event ?hg (N := 2) ?hd (cs := #[.int .i64 a0_0, .int .i64 a0_1, .int .i64 a0_2, .slice A0_3 l0_3.length c0_3]) (t := 26) ?hr ?_; (case hd => rfl); (case hg => rfl); (case hr => first | (go_simp; done) | (go_simp; rfl)); intro gb367 hg w13 hbox hb; have n0_ := Aside0.mk (below_step (by repeat (first | (with_reducible first | exact HB.out | apply below_alloc | apply pw_below_drewN | apply below_drew1) | exact HB.out)) hb); have n1_ := Aside0.mk (hbox); have n2_ := Aside0.mk ((by rw [hg]; exact (below_size (by repeat (first | (with_reducible first | exact HB.out | apply below_alloc | apply pw_below_drewN | apply below_drew1) | exact HB.out))) : w.heap.size ≤ gb367)); have n3_ := Aside0.mk ((by rw [hg]; exact (below_size (by repeat (first | (with_reducible first | exact HB.out | apply below_alloc | apply pw_below_drewN | apply below_drew1) | exact HB.out))) : w.heap.size ≤ gb367)); clear HB; have HB := n0_; have BK367 := n1_; have GW367 := n2_; have GE367 := n3_; clear n0_ n1_ n2_ n3_; clear hb hbox hg) | ((with_reducible refine gate_dst (N := 4) rfl ?_); (try (refine gate_guard (by rfl) ?_; dsimp only)); refine box_event ?hg (N := 4) ?hd (cs := #[.int .i64 0, .int .i64 0, .int .i64 0, .int .i64 0, .int .i64 0, .int .i64 0, .int .i64 0, .int .i64 0, .int .i64 0, .int .i64 0, .int .i64 0]) (t := 134) ?hr ?_; (case hd => rfl); (case hg => rfl); (case hr => first | (go_simp; done) | (go_simp; rfl)); intro gb368 hg w14 hbox hb; have n0_ := Aside0.mk (blk_below (g := gb367) (o := .cells #[.int .i64 a0_0, .int .i64 a0_1, .int .i64 a0_2, .slice A0_3 l0_3.length c0_3] 26 (0, 0)) (by (with_reducible repeat (first | refine blk_drewN ?_ _ | refine blk_drew ?_ | refine blk_alloc ?_ _)); exact BK367.out) hb); have n1_ := Aside0.mk (below_step (by repeat (first | (with_reducible first | exact HB.out | apply below_alloc | apply pw_below_drewN | apply below_drew1 | refine below_set ?_ GE367.out) | exact HB.out)) hb); have n2_ := Aside0.mk (hbox); have n3_ := Aside0.mk ((by rw [hg]; exact (below_size (by repeat (first | (with_reducible first | exact HB.out | apply below_alloc | apply pw_below_drewN | apply below_drew1 | refine below_set ?_ GE367.out) | exact HB.out))) : w.heap.size ≤ gb368)); have n4_ := Aside0.mk ((by rw [hg]; exact (below_size (by repeat (first | (with_reducible first | exact HB.out | apply below_alloc | apply pw_below_drewN | apply below_drew1 | refine below_set ?_ GE367.out) | exact HB.out))) : w.heap.size ≤ gb368)); have n5_ := Aside0.mk ((by rw [hg]; exact Nat.ne_of_lt (blk_lt (g := gb367) (o := .cells #[.int .i64 a0_0, .int .i64 a0_1, .int .i64 a0_2, .slice A0_3 l0_3.length c0_3] 26 (0, 0)) (by (with_reducible repeat (first | refine blk_drewN ?_ _ | refine blk_drew ?_ | refine blk_alloc ?_ _)); exact BK367.out)) : gb367 ≠ gb368)); have n6_ := Aside0.mk ((by rw [hg]; exact Nat.ne_of_gt (blk_lt (g := gb367) (o := .cells #[.int .i64 a0_0, .int .i64 a0_1, .int .i64 a0_2, .slice A0_3 l0_3.length c0_3] 26 (0, 0)) (by (with_reducible repeat (first | refine blk_drewN ?_ _ | refine blk_drew ?_ | refine blk_alloc ?_ _)); exact BK367.out)) : gb368 ≠ gb367)); clear BK367; clear HB; have BK367 := n0_; have HB := n1_; have BK368 := n2_; have GW368 := n3_; have GE368 := n4_; have NB367_368 := n5_; have NB368_367 := n6_; clear n0_ n1_ n2_ n3_ n4_ n5_ n6_; clear hb hbox hg; have hnb15 := NB367_368.out; have hnc15 := NB368_367.out; have hcz16_0 : w14.cell? ⟨gb367, 0, none⟩ = some (.int .i64 a0_0) := (blk_cell BK367.out 0).trans rfl; have hcz16_1 : w14.cell? ⟨gb367, 1, none⟩ = some (.int .i64 a0_1) := (blk_cell BK367.out 1).trans rfl; have hcz16_2 : w14.cell? ⟨gb367, 2, none⟩ = some (.int .i64 a0_2) := (blk_cell BK367.out 2).trans rfl; have hcz16_3 : w14.cell? ⟨gb367, 3, none⟩ = some (.slice A0_3 l0_3.length c0_3) := (blk_cell BK367.out 3).trans rfl; have hfz16_0 := blk_frozen BK367.out 0; have hfz16_1 := blk_frozen BK367.out 1; have hfz16_2 := blk_frozen BK367.out 2; have hfz16_3 := blk_frozen BK367.out 3) | ((with_reducible refine gate_callee (f := 39) rfl ?_); refine goesL_ (some 12) rfl rfl Try.func39 (by kernel_rfl) rfl #[.agg #[.int .i64 a0_0, .int .i64 a0_1, .int .i64 a0_2, .slice A0_3 l0_3.length c0_3]] rfl (by (try simp only [List.map_toArray, List.map_cons, List.map_nil]); first | done | rfl | (simp only [List.length_drop, List.length_take]; rfl)) ?_; (with_reducible refine (check_Shapes.calls k a0_0 a0_1 a0_2 _ _ l0_3 t369 t372 _ ?side1 ?side2 A3.out).mono ?_); (case side1 => repeat (first | exact (Kd.C_below HR0_3.out HB.out) | (with_reducible refine Kd.C_alloc ?_ _) | (with_reducible refine Kd.C_drewN ?_ _) | (with_reducible refine Kd.C_drew ?_))); (case side2 => exact HC0_3.out); rintro e w17 ⟨v370, rfl, ho0, hb⟩; refine ⟨_, rfl, ?_⟩; have n0_ := Aside0.mk (Kd.R_lower ho0 (below_size (by repeat (first | (with_reducible first | exact HB.out | apply below_alloc | apply pw_below_drewN | apply below_drew1 | refine below_set ?_ GE367.out | refine below_set ?_ GE368.out) | exact HB.out)))); have n1_ := Aside0.mk (blk_below (g := gb367) (o := .cells #[.int .i64 a0_0, .int .i64 a0_1, .int .i64 a0_2, .slice A0_3 l0_3.length c0_3] 26 (0, 0)) (by (with_reducible repeat (first | refine blk_drewN ?_ _ | refine blk_drew ?_ | refine blk_alloc ?_ _)); exact BK367.out) hb); have n2_ := Aside0.mk (blk_below (g := gb368) (o := .cells #[.int .i64 0, .int .i64 0, .int .i64 0, .int .i64 0, .int .i64 0, .int .i64 0, .int .i64 0, .int .i64 0, .int .i64 0, .int .i64 0, .int .i64 0] 134 (0, 0)) (by (with_reducible repeat (first | refine blk_drewN ?_ _ | refine blk_drew ?_ | refine blk_alloc ?_ _)); exact BK368.out) hb); have n3_ := Aside0.mk (below_step (by repeat (first | (with_reducible first | exact HB.out | apply below_alloc | apply pw_below_drewN | apply below_drew1 | refine below_set ?_ GE367.out | refine below_set ?_ GE368.out) | exact HB.out)) hb); clear BK367; clear BK368; clear HB; have HO371 := n0_; have BK367 := n1_; have BK368 := n2_; have HB := n3_; clear n0_ n1_ n2_ n3_; (try clear hb); (try clear hb2); (try clear hk); (try clear hi); (try clear ho0); have hcz18_0 : w17.cell? ⟨gb367, 0, none⟩ = some (.int .i64 a0_0) := (blk_cell BK367.out 0).trans rfl; have hcz18_1 : w17.cell? ⟨gb367, 1, none⟩ = some (.int .i64 a0_1) := (blk_cell BK367.out 1).trans rfl; have hcz18_2 : w17.cell? ⟨gb367, 2, none⟩ = some (.int .i64 a0_2) := (blk_cell BK367.out 2).trans rfl; have hcz18_3 : w17.cell? ⟨gb367, 3, none⟩ = some (.slice A0_3 l0_3.length c0_3) := (blk_cell BK367.out 3).trans rfl; have hfz18_0 := blk_frozen BK367.out 0; have hfz18_1 := blk_frozen BK367.out 1; have hfz18_2 := blk_frozen BK367.out 2; have hfz18_3 := blk_frozen BK367.out 3; have hcz19_0 : w17.cell? ⟨gb368, 0, none⟩ = some (.int .i64 0) := (blk_cell BK368.out 0).trans rfl; have hcz19_1 : w17.cell? ⟨gb368, 1, none⟩ = some (.int .i64 0) := (blk_cell BK368.out 1).trans rfl; have hcz19_2 : w17.cell? ⟨gb368, 2, none⟩ = some (.int .i64 0) := (blk_cell BK368.out 2).trans rfl; have hcz19_3 : w17.cell? ⟨gb368, 3, none⟩ = some (.int .i64 0) := (blk_cell BK368.out 3).trans rfl; have hcz19_4 : w17.cell? ⟨gb368, 4, none⟩ = some (.int .i64 0) := (blk_cell BK368.out 4).trans rfl; have hcz19_5 : w17.cell? ⟨gb368, 5, none⟩ = some (.int .i64 0) := (blk_cell BK368.out 5).trans rfl; have hcz19_6 : w17.cell? ⟨gb368, 6, none⟩ = some (.int .i64 0) := (blk_cell BK368.out 6).trans rfl; have hcz19_7 : w17.cell? ⟨gb368, 7, none⟩ = some (.int .i64 0) := (blk_cell BK368.out 7).trans rfl; have hcz19_8 : w17.cell? ⟨gb368, 8, none⟩ = some (.int .i64 0) := (blk_cell BK368.out 8).trans rfl; have hcz19_9 : w17.cell? ⟨gb368, 9, none⟩ = some (.int .i64 0) := (blk_cell BK368.out 9).trans rfl; have hcz19_10 : w17.cell? ⟨gb368, 10, none⟩ = some (.int .i64 0) := (blk_cell BK368.out 10).trans rfl; have hfz19_0 := blk_frozen BK368.out 0; have hfz19_1 := blk_frozen BK368.out 1; have hfz19_2 := blk_frozen BK368.out 2; have hfz19_3 := blk_frozen BK368.out 3; have hfz19_4 := blk_frozen BK368.out 4; have hfz19_5 := blk_frozen BK368.out 5; have hfz19_6 := blk_frozen BK368.out 6; have hfz19_7 := blk_frozen BK368.out 7; have hfz19_8 := blk_frozen BK368.out 8; have hfz19_9 := blk_frozen BK368.out 9; have hfz19_10 := blk_frozen BK368.out 10))
        refine bodyPost_ret (results_ct rfl _ _ gb368 134 #[.int .i64 0, .int .i64 0, .int .i64 0, .int .i64 0, .int .i64 0, .int .i64 0, .int .i64 0, .int .i64 0, .int .i64 0, .int .i64 0, .int .i64 0] (0, 0) _ rfl (by (with_reducible repeat (first | refine blk_drewN ?_ _ | refine blk_drew ?_ | refine blk_alloc ?_ _)); refine blk_put (cs := #[.int .i64 0, .int .i64 0, .int .i64 0, .int .i64 0, .int .i64 0, .int .i64 0, .int .i64 0, .int .i64 0, .int .i64 0, .int .i64 0, .int .i64 0]) ?_ 10 _ rfl; (with_reducible repeat (first | refine blk_drewN ?_ _ | refine blk_drew ?_ | refine blk_alloc ?_ _)); refine blk_put (cs := #[.int .i64 0, .int .i64 0, .int .i64 0, .int .i64 0, .int .i64 0, .int .i64 0, .int .i64 0, .int .i64 0, .int .i64 0, .int .i64 0, .int .i64 0]) ?_ 9 _ rfl; (with_reducible repeat (first | refine blk_drewN ?_ _ | refine blk_drew ?_ | refine blk_alloc ?_ _)); refine blk_put (cs := #[.int .i64 0, .int .i64 0, .int .i64 0, .int .i64 0, .int .i64 0, .int .i64 0, .int .i64 0, .int .i64 0, .int .i64 0, .int .i64 0, .int .i64 0]) ?_ 8 _ rfl; (with_reducible repeat (first | refine blk_drewN ?_ _ | refine blk_drew ?_ | refine blk_alloc ?_ _)); refine blk_put (cs := #[.int .i64 0, .int .i64 0, .int .i64 0, .int .i64 0, .int .i64 0, .int .i64 0, .int .i64 0, .int .i64 0, .int .i64 0, .int .i64 0, .int .i64 0]) ?_ 7 _ rfl; (with_reducible repeat (first | refine blk_drewN ?_ _ | refine blk_drew ?_ | refine blk_alloc ?_ _)); refine blk_put (cs := #[.int .i64 0, .int .i64 0, .int .i64 0, .int .i64 0, .int .i64 0, .int .i64 0, .int .i64 0, .int .i64 0, .int .i64 0, .int .i64 0, .int .i64 0]) ?_ 6 _ rfl; (with_reducible repeat (first | refine blk_drewN ?_ _ | refine blk_drew ?_ | refine blk_alloc ?_ _)); refine blk_put (cs := #[.int .i64 0, .int .i64 0, .int .i64 0, .int .i64 0, .int .i64 0, .int .i64 0, .int .i64 0, .int .i64 0, .int .i64 0, .int .i64 0, .int .i64 0]) ?_ 5 _ rfl; (with_reducible repeat (first | refine blk_drewN ?_ _ | refine blk_drew ?_ | refine blk_alloc ?_ _)); refine blk_put (cs := #[.int .i64 0, .int .i64 0, .int .i64 0, .int .i64 0, .int .i64 0, .int .i64 0, .int .i64 0, .int .i64 0, .int .i64 0, .int .i64 0, .int .i64 0]) ?_ 4 _ rfl; (with_reducible repeat (first | refine blk_drewN ?_ _ | refine blk_drew ?_ | refine blk_alloc ?_ _)); refine blk_put (cs := #[.int .i64 0, .int .i64 0, .int .i64 0, .int .i64 0, .int .i64 0, .int .i64 0, .int .i64 0, .int .i64 0, .int .i64 0, .int .i64 0, .int .i64 0]) ?_ 3 _ rfl; (with_reducible repeat (first | refine blk_drewN ?_ _ | refine blk_drew ?_ | refine blk_alloc ?_ _)); refine blk_put (cs := #[.int .i64 0, .int .i64 0, .int .i64 0, .int .i64 0, .int .i64 0, .int .i64 0, .int .i64 0, .int .i64 0, .int .i64 0, .int .i64 0, .int .i64 0]) ?_ 2 _ rfl; (with_reducible repeat (first | refine blk_drewN ?_ _ | refine blk_drew ?_ | refine blk_alloc ?_ _)); refine blk_put (cs := #[.int .i64 0, .int .i64 0, .int .i64 0, .int .i64 0, .int .i64 0, .int .i64 0, .int .i64 0, .int .i64 0, .int .i64 0, .int .i64 0, .int .i64 0]) ?_ 1 _ rfl; (with_reducible repeat (first | refine blk_drewN ?_ _ | refine blk_drew ?_ | refine blk_alloc ?_ _)); refine blk_put (cs := #[.int .i64 0, .int .i64 0, .int .i64 0, .int .i64 0, .int .i64 0, .int .i64 0, .int .i64 0, .int .i64 0, .int .i64 0, .int .i64 0, .int .i64 0]) ?_ 0 _ rfl; (with_reducible repeat (first | refine blk_drewN ?_ _ | refine blk_drew ?_ | refine blk_alloc ?_ _)); exact BK368.out) Try.underlying134 rfl (by kernel_rfl)) rfl ?_
        exact ⟨by first | rfl | (simp [errW_none, errW_some] <;> rfl) | (simp [*, errW_none, errW_some] <;> rfl), by repeat (first | (with_reducible first | exact HB.out | apply below_alloc | apply pw_below_drewN | apply below_drew1 | refine below_set ?_ GE367.out | refine below_set ?_ GE368.out) | exact HB.out)⟩
      · rw [if_neg c12] at H
        have c12b0 : decide ((l0_3.length : Int) ≤ a1) = false := decide_eq_false c12
        clear c12
        replace H := Option.bind_eq_some_iff.mp H
        obtain ⟨⟨t373, t374⟩, A200, H⟩ := H
        replace H : (if 0 ≤ a1 then (if a1 < (l0_3.length : Int) then (if a1 < (t369.length : Int) then (if 0 ≤ (wrap64 (a1 + 1)) then (if (wrap64 (a1 + 1)) < (t369.length : Int) then (some ((rd_T63 l0_3 a1).f0, (rd_T63 l0_3 a1).f1, (rd_T63 l0_3 a1).f2, (rd_T63 l0_3 a1).f3, (rd_T23 t369 a1).f0, (rd_T23 t369 a1).f1, (rd_T23 t369 a1).f2, (rd_T23 t369 (wrap64 (a1 + 1))).f0, (rd_T23 t369 (wrap64 (a1 + 1))).f1, (rd_T23 t369 (wrap64 (a1 + 1))).f2, t373, true)) else (none)) else (none)) else (none)) else (none)) else (none)) = some (r1, r2, r3, r4, r5, r6, r7, r8, r9, r10, r11, r12) := H
        have A20 := Aside0.mk A200
        clear A200
        by_cases c21 : 0 ≤ a1
        · rw [if_pos c21] at H
          have c21b0 : decide (0 ≤ a1) = true := decide_eq_true c21
          clear c21
          by_cases c22 : a1 < (l0_3.length : Int)
          · rw [if_pos c22] at H
            have c22b0 : decide (a1 < (l0_3.length : Int)) = true := decide_eq_true c22
            clear c22
            by_cases c23 : a1 < (t369.length : Int)
            · rw [if_pos c23] at H
              have c23b0 : decide (a1 < (t369.length : Int)) = true := decide_eq_true c23
              clear c23
              obtain ⟨ji24, hji24⟩ : ∃ j_ : Int, (wrap64 (a1 + 1)) = j_ := ⟨_, rfl⟩
              replace H : (if 0 ≤ (ji24) then (if (ji24) < (t369.length : Int) then (some ((rd_T63 l0_3 a1).f0, (rd_T63 l0_3 a1).f1, (rd_T63 l0_3 a1).f2, (rd_T63 l0_3 a1).f3, (rd_T23 t369 a1).f0, (rd_T23 t369 a1).f1, (rd_T23 t369 a1).f2, (rd_T23 t369 (ji24)).f0, (rd_T23 t369 (ji24)).f1, (rd_T23 t369 (ji24)).f2, t373, true)) else (none)) else (none)) = some (r1, r2, r3, r4, r5, r6, r7, r8, r9, r10, r11, r12) := by first | (rw [hji24] at H; exact H) | (simp only [hji24] at H ⊢; exact H)
              (try rw [hji24] at A3)
              (try rw [hji24] at A20)
              have hji24w : (IntKind.i64.wrap (a1 + 1)) = ji24 := (i64_w _).trans hji24
              by_cases c25 : 0 ≤ (ji24)
              · rw [if_pos c25] at H
                have c25b0 : decide (0 ≤ (ji24)) = true := decide_eq_true c25
                clear c25
                by_cases c26 : (ji24) < (t369.length : Int)
                · rw [if_pos c26] at H
                  have c26b0 : decide ((ji24) < (t369.length : Int)) = true := decide_eq_true c26
                  clear c26
                  simp only [Option.some.injEq, Prod.mk.injEq] at H
                  obtain ⟨rfl, rfl, rfl, rfl, rfl, rfl, rfl, rfl, rfl, rfl, rfl, rfl⟩ := H
                  go_enter Try.func83, Try.ntmps83
                  try go_wp2_with (first | ((with_reducible refine gate_dst (N := 2) rfl ?_); (try (refine gate_guard (by rfl) ?_; dsimp only)); refine box_event ?hg (N := 2) ?hd (cs := #[.int .i64 a0_0, .int .i64 a0_1, .int .i64 a0_2, .slice A0_3 l0_3.length c0_3]) (t := 26) ?hr ?_; (case hd => rfl); (case hg => rfl); (case hr => first | (go_simp; done) | (go_simp; rfl)); intro gb367 hg w27 hbox hb; have n0_ := Aside0.mk (below_step (by repeat (first | (with_reducible first | exact HB.out | apply below_alloc | apply pw_below_drewN | apply below_drew1) | exact HB.out)) hb); have n1_ := Aside0.mk (hbox); have n2_ := Aside0.mk ((by rw [hg]; exact (below_size (by repeat (first | (with_reducible first | exact HB.out | apply below_alloc | apply pw_below_drewN | apply below_drew1) | exact HB.out))) : w.heap.size ≤ gb367)); have n3_ := Aside0.mk ((by rw [hg]; exact (below_size (by repeat (first | (with_reducible first | exact HB.out | apply below_alloc | apply pw_below_drewN | apply below_drew1) | exact HB.out))) : w.heap.size ≤ gb367)); clear HB; have HB := n0_; have BK367 := n1_; have GW367 := n2_; have GE367 := n3_; clear n0_ n1_ n2_ n3_; clear hb hbox hg) | ((with_reducible refine gate_dst (N := 4) rfl ?_); (try (refine gate_guard (by rfl) ?_; dsimp only)); refine box_event ?hg (N := 4) ?hd (cs := #[.int .i64 0, .int .i64 0, .int .i64 0, .int .i64 0, .int .i64 0, .int .i64 0, .int .i64 0, .int .i64 0, .int .i64 0, .int .i64 0, .int .i64 0]) (t := 134) ?hr ?_; (case hd => rfl); (case hg => rfl); (case hr => first | (go_simp; done) | (go_simp; rfl)); intro gb368 hg w28 hbox hb; have n0_ := Aside0.mk (blk_below (g := gb367) (o := .cells #[.int .i64 a0_0, .int .i64 a0_1, .int .i64 a0_2, .slice A0_3 l0_3.length c0_3] 26 (0, 0)) (by (with_reducible repeat (first | refine blk_drewN ?_ _ | refine blk_drew ?_ | refine blk_alloc ?_ _)); exact BK367.out) hb); have n1_ := Aside0.mk (below_step (by repeat (first | (with_reducible first | exact HB.out | apply below_alloc | apply pw_below_drewN | apply below_drew1 | refine below_set ?_ GE367.out) | exact HB.out)) hb); have n2_ := Aside0.mk (hbox); have n3_ := Aside0.mk ((by rw [hg]; exact (below_size (by repeat (first | (with_reducible first | exact HB.out | apply below_alloc | apply pw_below_drewN | apply below_drew1 | refine below_set ?_ GE367.out) | exact HB.out))) : w.heap.size ≤ gb368)); have n4_ := Aside0.mk ((by rw [hg]; exact (below_size (by repeat (first | (with_reducible first | exact HB.out | apply below_alloc | apply pw_below_drewN | apply below_drew1 | refine below_set ?_ GE367.out) | exact HB.out))) : w.heap.size ≤ gb368)); have n5_ := Aside0.mk ((by rw [hg]; exact Nat.ne_of_lt (blk_lt (g := gb367) (o := .cells #[.int .i64 a0_0, .int .i64 a0_1, .int .i64 a0_2, .slice A0_3 l0_3.length c0_3] 26 (0, 0)) (by (with_reducible repeat (first | refine blk_drewN ?_ _ | refine blk_drew ?_ | refine blk_alloc ?_ _)); exact BK367.out)) : gb367 ≠ gb368)); have n6_ := Aside0.mk ((by rw [hg]; exact Nat.ne_of_gt (blk_lt (g := gb367) (o := .cells #[.int .i64 a0_0, .int .i64 a0_1, .int .i64 a0_2, .slice A0_3 l0_3.length c0_3] 26 (0, 0)) (by (with_reducible repeat (first | refine blk_drewN ?_ _ | refine blk_drew ?_ | refine blk_alloc ?_ _)); exact BK367.out)) : gb368 ≠ gb367)); clear BK367; clear HB; have BK367 := n0_; have HB := n1_; have BK368 := n2_; have GW368 := n3_; have GE368 := n4_; have NB367_368 := n5_; have NB368_367 := n6_; clear n0_ n1_ n2_ n3_ n4_ n5_ n6_; clear hb hbox hg; have hnb29 := NB367_368.out; have hnc29 := NB368_367.out; have hcz30_0 : w28.cell? ⟨gb367, 0, none⟩ = some (.int .i64 a0_0) := (blk_cell BK367.out 0).trans rfl; have hcz30_1 : w28.cell? ⟨gb367, 1, none⟩ = some (.int .i64 a0_1) := (blk_cell BK367.out 1).trans rfl; have hcz30_2 : w28.cell? ⟨gb367, 2, none⟩ = some (.int .i64 a0_2) := (blk_cell BK367.out 2).trans rfl; have hcz30_3 : w28.cell? ⟨gb367, 3, none⟩ = some (.slice A0_3 l0_3.length c0_3) := (blk_cell BK367.out 3).trans rfl; have hfz30_0 := blk_frozen BK367.out 0; have hfz30_1 := blk_frozen BK367.out 1; have hfz30_2 := blk_frozen BK367.out 2; have hfz30_3 := blk_frozen BK367.out 3) | ((with_reducible refine gate_callee (f := 39) rfl ?_); refine goesL_ (some 12) rfl rfl Try.func39 (by kernel_rfl) rfl #[.agg #[.int .i64 a0_0, .int .i64 a0_1, .int .i64 a0_2, .slice A0_3 l0_3.length c0_3]] rfl (by (try simp only [List.map_toArray, List.map_cons, List.map_nil]); first | done | rfl | (simp only [List.length_drop, List.length_take]; rfl)) ?_; (with_reducible refine (check_Shapes.calls k a0_0 a0_1 a0_2 _ _ l0_3 t369 t372 _ ?side1 ?side2 A3.out).mono ?_); (case side1 => repeat (first | exact (Kd.C_below HR0_3.out HB.out) | (with_reducible refine Kd.C_alloc ?_ _) | (with_reducible refine Kd.C_drewN ?_ _) | (with_reducible refine Kd.C_drew ?_))); (case side2 => exact HC0_3.out); rintro e w31 ⟨v370, rfl, ho0, hb⟩; refine ⟨_, rfl, ?_⟩; have n0_ := Aside0.mk (Kd.R_lower ho0 (below_size (by repeat (first | (with_reducible first | exact HB.out | apply below_alloc | apply pw_below_drewN | apply below_drew1 | refine below_set ?_ GE367.out | refine below_set ?_ GE368.out) | exact HB.out)))); have n1_ := Aside0.mk (blk_below (g := gb367) (o := .cells #[.int .i64 a0_0, .int .i64 a0_1, .int .i64 a0_2, .slice A0_3 l0_3.length c0_3] 26 (0, 0)) (by (with_reducible repeat (first | refine blk_drewN ?_ _ | refine blk_drew ?_ | refine blk_alloc ?_ _)); exact BK367.out) hb); have n2_ := Aside0.mk (blk_below (g := gb368) (o := .cells #[.int .i64 0, .int .i64 0, .int .i64 0, .int .i64 0, .int .i64 0, .int .i64 0, .int .i64 0, .int .i64 0, .int .i64 0, .int .i64 0, .int .i64 0] 134 (0, 0)) (by (with_reducible repeat (first | refine blk_drewN ?_ _ | refine blk_drew ?_ | refine blk_alloc ?_ _)); exact BK368.out) hb); have n3_ := Aside0.mk (below_step (by repeat (first | (with_reducible first | exact HB.out | apply below_alloc | apply pw_below_drewN | apply below_drew1 | refine below_set ?_ GE367.out | refine below_set ?_ GE368.out) | exact HB.out)) hb); clear BK367; clear BK368; clear HB; have HO371 := n0_; have BK367 := n1_; have BK368 := n2_; have HB := n3_; clear n0_ n1_ n2_ n3_; (try clear hb); (try clear hb2); (try clear hk); (try clear hi); (try clear ho0); have hcz32_0 : w31.cell? ⟨gb367, 0, none⟩ = some (.int .i64 a0_0) := (blk_cell BK367.out 0).trans rfl; have hcz32_1 : w31.cell? ⟨gb367, 1, none⟩ = some (.int .i64 a0_1) := (blk_cell BK367.out 1).trans rfl; have hcz32_2 : w31.cell? ⟨gb367, 2, none⟩ = some (.int .i64 a0_2) := (blk_cell BK367.out 2).trans rfl; have hcz32_3 : w31.cell? ⟨gb367, 3, none⟩ = some (.slice A0_3 l0_3.length c0_3) := (blk_cell BK367.out 3).trans rfl; have hfz32_0 := blk_frozen BK367.out 0; have hfz32_1 := blk_frozen BK367.out 1; have hfz32_2 := blk_frozen BK367.out 2; have hfz32_3 := blk_frozen BK367.out 3) | ((with_reducible refine gate_callee (f := 93) rfl ?_); refine goesL_ (some 32) rfl rfl Try.func93 (by kernel_rfl) rfl #[.agg #[.int .i64 a0_0, .int .i64 a0_1, .int .i64 a0_2, .slice A0_3 l0_3.length c0_3], .int .i64 a1] rfl (by (try simp only [List.map_toArray, List.map_cons, List.map_nil]); first | done | rfl | (simp only [List.length_drop, List.length_take]; rfl)) ?_; (with_reducible refine (check_Weights.calls k a0_0 a0_1 a0_2 _ _ l0_3 a1 t373 t374 _ ?side1 ?side2 A20.out).mono ?_); (case side1 => repeat (first | exact (Kd.C_below HR0_3.out HB.out) | (with_reducible refine Kd.C_alloc ?_ _) | (with_reducible refine Kd.C_drewN ?_ _) | (with_reducible refine Kd.C_drew ?_))); (case side2 => exact HC0_3.out); rintro e w33 ⟨rfl, hb⟩; refine ⟨_, rfl, ?_⟩; have n0_ := Aside0.mk (Kd.R_below (by (with_reducible repeat (first | apply Kd.R_alloc | apply Kd.R_drewN | apply Kd.R_drew)); exact HO371.out) hb); have n1_ := Aside0.mk (blk_below (g := gb367) (o := .cells #[.int .i64 a0_0, .int .i64 a0_1, .int .i64 a0_2, .slice A0_3 l0_3.length c0_3] 26 (0, 0)) (by (with_reducible repeat (first | refine blk_drewN ?_ _ | refine blk_drew ?_ | refine blk_alloc ?_ _)); exact BK367.out) hb); have n2_ := Aside0.mk (blk_below (g := gb368) (o := .cells #[.int .i64 0, .int .i64 0, .int .i64 0, .int .i64 0, .int .i64 0, .int .i64 0, .int .i64 0, .int .i64 0, .int .i64 0, .int .i64 0, .int .i64 0] 134 (0, 0)) (by (with_reducible repeat (first | refine blk_drewN ?_ _ | refine blk_drew ?_ | refine blk_alloc ?_ _)); exact BK368.out) hb); have n3_ := Aside0.mk (below_step (by repeat (first | (with_reducible first | exact HB.out | apply below_alloc | apply pw_below_drewN | apply below_drew1 | refine below_set ?_ GE367.out | refine below_set ?_ GE368.out) | exact HB.out)) hb); clear HO371; clear BK367; clear BK368; clear HB; have HO371 := n0_; have BK367 := n1_; have BK368 := n2_; have HB := n3_; clear n0_ n1_ n2_ n3_; (try clear hb); (try clear hb2); (try clear hk); (try clear hi)))
                  have n0_ := Aside0.mk (Kd.R_drew HO371.out)
                  have n1_ := Aside0.mk (blk_drew BK367.out)
                  have n2_ := Aside0.mk (blk_drew BK368.out)
                  have n3_ := Aside0.mk (below_drew1 HB.out)
                  clear HO371
                  clear BK367
                  clear BK368
                  clear HB
                  have HO371 := n0_
                  have BK367 := n1_
                  have BK368 := n2_
                  have HB := n3_
                  clear n0_ n1_ n2_ n3_
                  have p375 : 0 ≤ (a1 : Int) := of_decide_eq_true (by first | (with_reducible assumption) | assumption)
                  have q375 : a1 < (l0_3.length : Int) := of_decide_eq_true (by first | (with_reducible assumption) | assumption)
                  obtain ⟨ad375, e375, hx375_0, hx375_1, hx375_2, hx375_3⟩ := at_T63 HR0_3.out a1 p375 q375
                  have hw375_3 := hx375_3
                  have hw375_2 := hx375_2
                  have hw375_1 := hx375_1
                  have hw375_0 := hx375_0
                  cases e375
                  replace hx375_0 := (HB.out.cell (World.block_lt_of_cell? w _ hx375_0)).trans hx375_0
                  replace hx375_1 := (HB.out.cell (World.block_lt_of_cell? w _ hx375_1)).trans hx375_1
                  replace hx375_2 := (HB.out.cell (World.block_lt_of_cell? w _ hx375_2)).trans hx375_2
                  replace hx375_3 := (HB.out.cell (World.block_lt_of_cell? w _ hx375_3)).trans hx375_3
                  replace p375 := eq_true p375
                  replace q375 := eq_true q375
                  obtain ⟨Ao35, co35, eo35⟩ := Kd.R_slice HO371.out
                  (first | subst eo35 | (injection eo35 with f1_ f2_ f3_; have f4_ := f1_.symm; have f5_ := f3_.symm; clear f1_ f2_ f3_; subst f4_; subst f5_))
                  have p376 : 0 ≤ (a1 : Int) := of_decide_eq_true (by first | (with_reducible assumption) | assumption)
                  have q376 : a1 < (t369.length : Int) := of_decide_eq_true (by first | (with_reducible assumption) | assumption)
                  obtain ⟨ad376, e376, hx376_0, hx376_1, hx376_2⟩ := at_T23 (Kd.R_reads' HO371.out).2.2 a1 p376 q376
                  cases e376
                  replace p376 := eq_true p376
                  replace q376 := eq_true q376
                  have p377 : 0 ≤ ((ji24) : Int) := of_decide_eq_true (by first | (with_reducible assumption) | assumption)
                  have q377 : (ji24) < (t369.length : Int) := of_decide_eq_true (by first | (with_reducible assumption) | assumption)
                  obtain ⟨ad377, e377, hx377_0, hx377_1, hx377_2⟩ := at_T23 (Kd.R_reads' HO371.out).2.2 (ji24) p377 q377
                  obtain rfl : ad376 = ad377 := (by injection e377)
                  replace p377 := eq_true p377
                  replace q377 := eq_true q377
                  refine start_ (n := 18) (S := fun w' => w'.cell? ⟨gb367, 0, none⟩ = some (.int .i64 a0_0) ∧ w'.cell? ⟨gb367, 1, none⟩ = some (.int .i64 a0_1) ∧ w'.cell? ⟨gb367, 2, none⟩ = some (.int .i64 a0_2) ∧ w'.cell? ⟨gb367, 3, none⟩ = some (.slice (some ad375) l0_3.length c0_3) ∧ w'.cell? (ad375.add ((a1).toNat * 4)) = some (.int .i64 ((rd_T63 l0_3 a1).f0)) ∧ w'.cell? ⟨(ad375.add ((a1).toNat * 4)).block, (ad375.add ((a1).toNat * 4)).off + 1, none⟩ = some (.int .i64 ((rd_T63 l0_3 a1).f1)) ∧ w'.cell? ⟨(ad375.add ((a1).toNat * 4)).block, (ad375.add ((a1).toNat * 4)).off + 2, none⟩ = some (.int .i64 ((rd_T63 l0_3 a1).f2)) ∧ w'.cell? ⟨(ad375.add ((a1).toNat * 4)).block, (ad375.add ((a1).toNat * 4)).off + 3, none⟩ = some (.int .i64 ((rd_T63 l0_3 a1).f3)) ∧ w'.cell? (ad376.add ((a1).toNat * 3)) = some (.int .i64 ((rd_T23 t369 a1).f0)) ∧ w'.cell? ⟨(ad376.add ((a1).toNat * 3)).block, (ad376.add ((a1).toNat * 3)).off + 1, none⟩ = some (.int .i64 ((rd_T23 t369 a1).f1)) ∧ w'.cell? ⟨(ad376.add ((a1).toNat * 3)).block, (ad376.add ((a1).toNat * 3)).off + 2, none⟩ = some (.int .i64 ((rd_T23 t369 a1).f2)) ∧ w'.cell? (ad376.add (((ji24)).toNat * 3)) = some (.int .i64 ((rd_T23 t369 (ji24)).f0)) ∧ w'.cell? ⟨(ad376.add (((ji24)).toNat * 3)).block, (ad376.add (((ji24)).toNat * 3)).off + 1, none⟩ = some (.int .i64 ((rd_T23 t369 (ji24)).f1)) ∧ w'.cell? ⟨(ad376.add (((ji24)).toNat * 3)).block, (ad376.add (((ji24)).toNat * 3)).off + 2, none⟩ = some (.int .i64 ((rd_T23 t369 (ji24)).f2))) (ds := []) #[false, false, false, false, false, false, false, false, false, false, false, false, false, false, false, false, false, false] (by kernel_rfl) rfl rfl ⟨(blk_cell BK367.out 0).trans rfl, (blk_cell BK367.out 1).trans rfl, (blk_cell BK367.out 2).trans rfl, (blk_cell BK367.out 3).trans rfl, ((HB.out.cell (World.block_lt_of_cell? w _ hw375_0)).trans hw375_0), ((HB.out.cell (World.block_lt_of_cell? w _ hw375_1)).trans hw375_1), ((HB.out.cell (World.block_lt_of_cell? w _ hw375_2)).trans hw375_2), ((HB.out.cell (World.block_lt_of_cell? w _ hw375_3)).trans hw375_3), hx376_0, hx376_1, hx376_2, hx377_0, hx377_1, hx377_2⟩ (fun hHeld => ?_); refine with_tabW terms_of.tab5 terms_of.bits5 (fun HT_ HW_ => ?_)
                  generalize w33.drew = w34 at HO371 BK367 BK368 HB hx375_0 hx375_1 hx375_2 hx375_3 hx376_0 hx376_1 hx376_2 hx377_0 hx377_1 hx377_2 hHeld ⊢
                  refine pure_ (i := 0) (N := some 35) (v := ?_) (a' := ?_) #[true, false, false, false, false, false, false, false, false, false, false, false, false, false, false, false, false, false] rfl rfl (any_of HT_.out (by kernel_rfl)) (fun _ _ _ h => h) (Or.inl ⟨by rfl, ?_⟩) ?_ ?_
                  rotate_left
                  · intro w'
                    go_simp
                    with_reducible rfl
                  rotate_left
                  · simp only [Act.put, List.setIfInBounds_toArray, List.set_cons_zero, List.set_cons_succ, i64_w, i32_w]
                    rfl
                  refine pure_ (i := 2) (N := some 37) (v := ?_) (a' := ?_) #[true, false, true, false, false, false, false, false, false, false, false, false, false, false, false, false, false, false] rfl rfl (any_of HT_.out (by kernel_rfl)) (fun _ _ _ h => h) (Or.inl ⟨by rfl, ?_⟩) ?_ ?_
                  rotate_left
                  · intro w'
                    go_simp
                    with_reducible rfl
                  rotate_left
                  · simp only [Act.put, List.setIfInBounds_toArray, List.set_cons_zero, List.set_cons_succ, i64_w, i32_w]
                    rfl
                  refine pure_ (i := 5) (N := some 40) (v := ?_) (a' := ?_) #[true, false, true, false, false, true, false, false, false, false, false, false, false, false, false, false, false, false] rfl rfl (any_of HT_.out (by kernel_rfl)) (fun _ _ _ h => h) (Or.inl ⟨by rfl, ?_⟩) ?_ ?_
                  rotate_left
                  · intro w'
                    go_simp
                    with_reducible rfl
                  rotate_left
                  · simp only [Act.put, List.setIfInBounds_toArray, List.set_cons_zero, List.set_cons_succ, i64_w, i32_w]
                    rfl
                  refine pure_ (i := 6) (N := some 41) (v := ?_) (a' := ?_) #[true, false, true, false, false, true, true, false, false, false, false, false, false, false, false, false, false, false] rfl rfl (any_of HT_.out (by kernel_rfl)) (fun _ _ _ h => h) (Or.inl ⟨by rfl, ?_⟩) ?_ ?_
                  rotate_left
                  · intro w'
                    go_simp
                    with_reducible rfl
                  rotate_left
                  · simp only [Act.put, List.setIfInBounds_toArray, List.set_cons_zero, List.set_cons_succ, i64_w, i32_w]
                    rfl
                  refine pure_ (i := 7) (N := some 42) (v := ?_) (a' := ?_) #[true, false, true, false, false, true, true, true, false, false, false, false, false, false, false, false, false, false] rfl rfl (any_of HT_.out (by kernel_rfl)) (fun _ _ _ h => h) (Or.inl ⟨by rfl, ?_⟩) ?_ ?_
                  rotate_left
                  · intro w'
                    go_simp
                    with_reducible rfl
                  rotate_left
                  · simp only [Act.put, List.setIfInBounds_toArray, List.set_cons_zero, List.set_cons_succ, i64_w, i32_w]
                    rfl
                  refine pure_ (i := 9) (N := some 44) (v := ?_) (a' := ?_) #[true, false, true, false, false, true, true, true, false, true, false, false, false, false, false, false, false, false] rfl rfl (any_of HT_.out (by kernel_rfl)) (fun _ _ _ h => h) (Or.inl ⟨by rfl, ?_⟩) ?_ ?_
                  rotate_left
                  · intro w'
                    go_simp
                    with_reducible rfl
                  rotate_left
                  · simp only [Act.put, List.setIfInBounds_toArray, List.set_cons_zero, List.set_cons_succ, i64_w, i32_w]
                    rfl
                  refine pure_ (i := 10) (N := some 45) (v := ?_) (a' := ?_) #[true, false, true, false, false, true, true, true, false, true, true, false, false, false, false, false, false, false] rfl rfl (any_of HT_.out (by kernel_rfl)) (fun _ _ _ h => h) (Or.inl ⟨by rfl, ?_⟩) ?_ ?_
                  rotate_left
                  · intro w'
                    go_simp
                    with_reducible rfl
                  rotate_left
                  · simp only [Act.put, List.setIfInBounds_toArray, List.set_cons_zero, List.set_cons_succ, i64_w, i32_w]
                    rfl
                  refine pure_ (i := 11) (N := some 46) (v := ?_) (a' := ?_) #[true, false, true, false, false, true, true, true, false, true, true, true, false, false, false, false, false, false] rfl rfl (any_of HT_.out (by kernel_rfl)) (fun _ _ _ h => h) (Or.inl ⟨by rfl, ?_⟩) ?_ ?_
                  rotate_left
                  · intro w'
                    go_simp
                    with_reducible rfl
                  rotate_left
                  · simp only [Act.put, List.setIfInBounds_toArray, List.set_cons_zero, List.set_cons_succ, i64_w, i32_w]
                    rfl
                  refine pure_ (i := 12) (N := some 47) (v := ?_) (a' := ?_) #[true, false, true, false, false, true, true, true, false, true, true, true, true, false, false, false, false, false] rfl rfl (any_of HT_.out (by kernel_rfl)) (fun _ _ _ h => h) (Or.inl ⟨by rfl, ?_⟩) ?_ ?_
                  rotate_left
                  · intro w'
                    go_simp
                    with_reducible rfl
                  rotate_left
                  · simp only [Act.put, List.setIfInBounds_toArray, List.set_cons_zero, List.set_cons_succ, i64_w, i32_w]
                    rfl
                  refine pure_ (i := 14) (N := some 49) (v := ?_) (a' := ?_) #[true, false, true, false, false, true, true, true, false, true, true, true, true, false, true, false, false, false] rfl rfl (any_of HT_.out (by kernel_rfl)) (fun _ _ _ h => h) (Or.inl ⟨by rfl, ?_⟩) ?_ ?_
                  rotate_left
                  · intro w'
                    go_simp
                    with_reducible rfl
                  rotate_left
                  · simp only [Act.put, List.setIfInBounds_toArray, List.set_cons_zero, List.set_cons_succ, i64_w, i32_w]
                    rfl
                  refine take_ (i := 1) (N := some 36) (v := ?_) (a' := ?_) #[true, true, true, false, false, true, true, true, false, true, true, true, true, false, true, false, false, false] rfl rfl (take_ofW HT_.out HW_.out (by kernel_rfl)) (fun _ _ _ h => h) (Or.inl ⟨by rfl, ?_⟩) hHeld ?_ ?_
                  rotate_left
                  · rintro w' ⟨s0, s1, s2, s3, s4, s5, s6, s7, s8, s9, s10, s11, s12, s13⟩
                    go_simp
                    with_reducible rfl
                  rotate_left
                  · simp only [Act.put, List.setIfInBounds_toArray, List.set_cons_zero, List.set_cons_succ, i64_w, i32_w]
                    rfl
                  refine pure_ (i := 3) (N := some 38) (v := ?_) (a' := ?_) #[true, true, true, true, false, true, true, true, false, true, true, true, true, false, true, false, false, false] rfl rfl (any_of HT_.out (by kernel_rfl)) (fun _ _ _ h => h) (Or.inl ⟨by rfl, ?_⟩) ?_ ?_
                  rotate_left
                  · intro w'
                    go_simp
                    with_reducible rfl
                  rotate_left
                  · simp only [Act.put, List.setIfInBounds_toArray, List.set_cons_zero, List.set_cons_succ, i64_w, i32_w]
                    rfl
                  refine take_ (i := 4) (N := some 39) (v := ?_) (a' := ?_) #[true, true, true, true, true, true, true, true, false, true, true, true, true, false, true, false, false, false] rfl rfl (take_ofW HT_.out HW_.out (by kernel_rfl)) (fun _ _ _ h => h) (Or.inl ⟨by rfl, ?_⟩) hHeld ?_ ?_
                  rotate_left
                  · rintro w' ⟨s0, s1, s2, s3, s4, s5, s6, s7, s8, s9, s10, s11, s12, s13⟩
                    go_simp
                    with_reducible rfl
                  rotate_left
                  · simp only [Act.put, List.setIfInBounds_toArray, List.set_cons_zero, List.set_cons_succ, i64_w, i32_w]
                    rfl
                  refine take_ (i := 8) (N := some 43) (v := ?_) (a' := ?_) #[true, true, true, true, true, true, true, true, true, true, true, true, true, false, true, false, false, false] rfl rfl (take_ofW HT_.out HW_.out (by kernel_rfl)) (fun _ _ _ h => h) (Or.inl ⟨by rfl, ?_⟩) hHeld ?_ ?_
                  rotate_left
                  · rintro w' ⟨s0, s1, s2, s3, s4, s5, s6, s7, s8, s9, s10, s11, s12, s13⟩
                    go_simp
                    with_reducible rfl
                  rotate_left
                  · simp only [Act.put, List.setIfInBounds_toArray, List.set_cons_zero, List.set_cons_succ, i64_w, i32_w]
                    rfl
                  refine take_ (i := 13) (N := some 48) (v := ?_) (a' := ?_) #[true, true, true, true, true, true, true, true, true, true, true, true, true, true, true, false, false, false] rfl rfl (take_ofW HT_.out HW_.out (by kernel_rfl)) (fun _ _ _ h => h) (Or.inl ⟨by rfl, ?_⟩) hHeld ?_ ?_
                  rotate_left
                  · rintro w' ⟨s0, s1, s2, s3, s4, s5, s6, s7, s8, s9, s10, s11, s12, s13⟩
                    go_simp
                    with_reducible rfl
                  rotate_left
                  · simp only [Act.put, List.setIfInBounds_toArray, List.set_cons_zero, List.set_cons_succ, i64_w, i32_w]
                    rfl
                  refine pure_ (i := 15) (N := some 50) (v := ?_) (a' := ?_) #[true, true, true, true, true, true, true, true, true, true, true, true, true, true, true, true, false, false] rfl rfl (any_of HT_.out (by kernel_rfl)) (fun _ _ _ h => h) (Or.inl ⟨by rfl, ?_⟩) ?_ ?_
                  rotate_left
                  · intro w'
                    go_simp
                    with_reducible rfl
                  rotate_left
                  · simp only [Act.put, List.setIfInBounds_toArray, List.set_cons_zero, List.set_cons_succ, i64_w, i32_w]
                    rfl
                  refine one_ (i := 16) (N := none) #[true, true, true, true, true, true, true, true, true, true, true, true, true, true, true, true, true, false] rfl rfl (one_of HT_.out (by kernel_rfl)) (by decide) (fun K hK => ?_)
                  have hs36 : w34.cell? ⟨gb368, 0, none⟩ = some (.int .i64 0) := (blk_cell BK368.out 0).trans rfl
                  have hfs36 := blk_frozen BK368.out 0
                  have hns36_0 := NB367_368.out
                  have hms36_0 := NB368_367.out
                  have hs37 : w34.cell? ⟨gb368, 1, none⟩ = some (.int .i64 0) := (blk_cell BK368.out 1).trans rfl
                  have hfs37 := blk_frozen BK368.out 1
                  have hns37_0 := NB367_368.out
                  have hms37_0 := NB368_367.out
                  have hs38 : w34.cell? ⟨gb368, 2, none⟩ = some (.int .i64 0) := (blk_cell BK368.out 2).trans rfl
                  have hfs38 := blk_frozen BK368.out 2
                  have hns38_0 := NB367_368.out
                  have hms38_0 := NB368_367.out
                  have hs39 : w34.cell? ⟨gb368, 3, none⟩ = some (.int .i64 0) := (blk_cell BK368.out 3).trans rfl
                  have hfs39 := blk_frozen BK368.out 3
                  have hns39_0 := NB367_368.out
                  have hms39_0 := NB368_367.out
                  have hs40 : w34.cell? ⟨gb368, 4, none⟩ = some (.int .i64 0) := (blk_cell BK368.out 4).trans rfl
                  have hfs40 := blk_frozen BK368.out 4
                  have hns40_0 := NB367_368.out
                  have hms40_0 := NB368_367.out
                  have hs41 : w34.cell? ⟨gb368, 5, none⟩ = some (.int .i64 0) := (blk_cell BK368.out 5).trans rfl
                  have hfs41 := blk_frozen BK368.out 5
                  have hns41_0 := NB367_368.out
                  have hms41_0 := NB368_367.out
                  have hs42 : w34.cell? ⟨gb368, 6, none⟩ = some (.int .i64 0) := (blk_cell BK368.out 6).trans rfl
                  have hfs42 := blk_frozen BK368.out 6
                  have hns42_0 := NB367_368.out
                  have hms42_0 := NB368_367.out
                  have hs43 : w34.cell? ⟨gb368, 7, none⟩ = some (.int .i64 0) := (blk_cell BK368.out 7).trans rfl
                  have hfs43 := blk_frozen BK368.out 7
                  have hns43_0 := NB367_368.out
                  have hms43_0 := NB368_367.out
                  have hs44 : w34.cell? ⟨gb368, 8, none⟩ = some (.int .i64 0) := (blk_cell BK368.out 8).trans rfl
                  have hfs44 := blk_frozen BK368.out 8
                  have hns44_0 := NB367_368.out
                  have hms44_0 := NB368_367.out
                  have hs45 : w34.cell? ⟨gb368, 9, none⟩ = some (.int .i64 0) := (blk_cell BK368.out 9).trans rfl
                  have hfs45 := blk_frozen BK368.out 9
                  have hns45_0 := NB367_368.out
                  have hms45_0 := NB368_367.out
                  have hs46 : w34.cell? ⟨gb368, 10, none⟩ = some (.int .i64 0) := (blk_cell BK368.out 10).trans rfl
                  have hfs46 := blk_frozen BK368.out 10
                  have hns46_0 := NB367_368.out
                  have hms46_0 := NB368_367.out
                  refine skip_ (w1 := ?_) (by rfl) rfl ?_ ?_
                  rotate_left
                  · go_simp
                    rfl
                  refine hK.out _ _ ⟨((cell_far (p := ⟨gb368, _, none⟩) NB367_368.out _).trans (((cell_far (p := ⟨gb368, _, none⟩) NB367_368.out _).trans (((cell_far (p := ⟨gb368, _, none⟩) NB367_368.out _).trans (((cell_far (p := ⟨gb368, _, none⟩) NB367_368.out _).trans (((cell_far (p := ⟨gb368, _, none⟩) NB367_368.out _).trans (((cell_far (p := ⟨gb368, _, none⟩) NB367_368.out _).trans (((cell_far (p := ⟨gb368, _, none⟩) NB367_368.out _).trans (((cell_far (p := ⟨gb368, _, none⟩) NB367_368.out _).trans (((cell_far (p := ⟨gb368, _, none⟩) NB367_368.out _).trans (((cell_far (p := ⟨gb368, _, none⟩) NB367_368.out _).trans (((cell_far (p := ⟨gb368, _, none⟩) NB367_368.out _).trans (hHeld.1)))))))))))))))))))))), ((cell_far (p := ⟨gb368, _, none⟩) NB367_368.out _).trans (((cell_far (p := ⟨gb368, _, none⟩) NB367_368.out _).trans (((cell_far (p := ⟨gb368, _, none⟩) NB367_368.out _).trans (((cell_far (p := ⟨gb368, _, none⟩) NB367_368.out _).trans (((cell_far (p := ⟨gb368, _, none⟩) NB367_368.out _).trans (((cell_far (p := ⟨gb368, _, none⟩) NB367_368.out _).trans (((cell_far (p := ⟨gb368, _, none⟩) NB367_368.out _).trans (((cell_far (p := ⟨gb368, _, none⟩) NB367_368.out _).trans (((cell_far (p := ⟨gb368, _, none⟩) NB367_368.out _).trans (((cell_far (p := ⟨gb368, _, none⟩) NB367_368.out _).trans (((cell_far (p := ⟨gb368, _, none⟩) NB367_368.out _).trans (hHeld.2.1)))))))))))))))))))))), ((cell_far (p := ⟨gb368, _, none⟩) NB367_368.out _).trans (((cell_far (p := ⟨gb368, _, none⟩) NB367_368.out _).trans (((cell_far (p := ⟨gb368, _, none⟩) NB367_368.out _).trans (((cell_far (p := ⟨gb368, _, none⟩) NB367_368.out _).trans (((cell_far (p := ⟨gb368, _, none⟩) NB367_368.out _).trans (((cell_far (p := ⟨gb368, _, none⟩) NB367_368.out _).trans (((cell_far (p := ⟨gb368, _, none⟩) NB367_368.out _).trans (((cell_far (p := ⟨gb368, _, none⟩) NB367_368.out _).trans (((cell_far (p := ⟨gb368, _, none⟩) NB367_368.out _).trans (((cell_far (p := ⟨gb368, _, none⟩) NB367_368.out _).trans (((cell_far (p := ⟨gb368, _, none⟩) NB367_368.out _).trans (hHeld.2.2.1)))))))))))))))))))))), ((cell_far (p := ⟨gb368, _, none⟩) NB367_368.out _).trans (((cell_far (p := ⟨gb368, _, none⟩) NB367_368.out _).trans (((cell_far (p := ⟨gb368, _, none⟩) NB367_368.out _).trans (((cell_far (p := ⟨gb368, _, none⟩) NB367_368.out _).trans (((cell_far (p := ⟨gb368, _, none⟩) NB367_368.out _).trans (((cell_far (p := ⟨gb368, _, none⟩) NB367_368.out _).trans (((cell_far (p := ⟨gb368, _, none⟩) NB367_368.out _).trans (((cell_far (p := ⟨gb368, _, none⟩) NB367_368.out _).trans (((cell_far (p := ⟨gb368, _, none⟩) NB367_368.out _).trans (((cell_far (p := ⟨gb368, _, none⟩) NB367_368.out _).trans (((cell_far (p := ⟨gb368, _, none⟩) NB367_368.out _).trans (hHeld.2.2.2.1)))))))))))))))))))))), ((cell_far (p := ⟨gb368, _, none⟩) (by first | exact Nat.ne_of_lt (Nat.lt_of_lt_of_le (by have := World.block_lt_of_cell? _ _ hw375_0; first | rwa [add_block] at this | exact this) GW368.out) | (rw [add_block]; exact Nat.ne_of_lt (Nat.lt_of_lt_of_le (by have := World.block_lt_of_cell? _ _ hw375_0; first | rwa [add_block] at this | exact this) GW368.out)) | (show (Addr.add _ _).block ≠ _; rw [add_block]; exact Nat.ne_of_lt (Nat.lt_of_lt_of_le (by have := World.block_lt_of_cell? _ _ hw375_0; first | rwa [add_block] at this | exact this) GW368.out)) | (dsimp only; exact Nat.ne_of_lt (Nat.lt_of_lt_of_le (by have := World.block_lt_of_cell? _ _ hw375_0; first | rwa [add_block] at this | exact this) GW368.out))) _).trans (((cell_far (p := ⟨gb368, _, none⟩) (by first | exact Nat.ne_of_lt (Nat.lt_of_lt_of_le (by have := World.block_lt_of_cell? _ _ hw375_0; first | rwa [add_block] at this | exact this) GW368.out) | (rw [add_block]; exact Nat.ne_of_lt (Nat.lt_of_lt_of_le (by have := World.block_lt_of_cell? _ _ hw375_0; first | rwa [add_block] at this | exact this) GW368.out)) | (show (Addr.add _ _).block ≠ _; rw [add_block]; exact Nat.ne_of_lt (Nat.lt_of_lt_of_le (by have := World.block_lt_of_cell? _ _ hw375_0; first | rwa [add_block] at this | exact this) GW368.out)) | (dsimp only; exact Nat.ne_of_lt (Nat.lt_of_lt_of_le (by have := World.block_lt_of_cell? _ _ hw375_0; first | rwa [add_block] at this | exact this) GW368.out))) _).trans (((cell_far (p := ⟨gb368, _, none⟩) (by first | exact Nat.ne_of_lt (Nat.lt_of_lt_of_le (by have := World.block_lt_of_cell? _ _ hw375_0; first | rwa [add_block] at this | exact this) GW368.out) | (rw [add_block]; exact Nat.ne_of_lt (Nat.lt_of_lt_of_le (by have := World.block_lt_of_cell? _ _ hw375_0; first | rwa [add_block] at this | exact this) GW368.out)) | (show (Addr.add _ _).block ≠ _; rw [add_block]; exact Nat.ne_of_lt (Nat.lt_of_lt_of_le (by have := World.block_lt_of_cell? _ _ hw375_0; first | rwa [add_block] at this | exact this) GW368.out)) | (dsimp only; exact Nat.ne_of_lt (Nat.lt_of_lt_of_le (by have := World.block_lt_of_cell? _ _ hw375_0; first | rwa [add_block] at this | exact this) GW368.out))) _).trans (((cell_far (p := ⟨gb368, _, none⟩) (by first | exact Nat.ne_of_lt (Nat.lt_of_lt_of_le (by have := World.block_lt_of_cell? _ _ hw375_0; first | rwa [add_block] at this | exact this) GW368.out) | (rw [add_block]; exact Nat.ne_of_lt (Nat.lt_of_lt_of_le (by have := World.block_lt_of_cell? _ _ hw375_0; first | rwa [add_block] at this | exact this) GW368.out)) | (show (Addr.add _ _).block ≠ _; rw [add_block]; exact Nat.ne_of_lt (Nat.lt_of_lt_of_le (by have := World.block_lt_of_cell? _ _ hw375_0; first | rwa [add_block] at this | exact this) GW368.out)) | (dsimp only; exact Nat.ne_of_lt (Nat.lt_of_lt_of_le (by have := World.block_lt_of_cell? _ _ hw375_0; first | rwa [add_block] at this | exact this) GW368.out))) _).trans (((cell_far (p := ⟨gb368, _, none⟩) (by first | exact Nat.ne_of_lt (Nat.lt_of_lt_of_le (by have := World.block_lt_of_cell? _ _ hw375_0; first | rwa [add_block] at this | exact this) GW368.out) | (rw [add_block]; exact Nat.ne_of_lt (Nat.lt_of_lt_of_le (by have := World.block_lt_of_cell? _ _ hw375_0; first | rwa [add_block] at this | exact this) GW368.out)) | (show (Addr.add _ _).block ≠ _; rw [add_block]; exact Nat.ne_of_lt (Nat.lt_of_lt_of_le (by have := World.block_lt_of_cell? _ _ hw375_0; first | rwa [add_block] at this | exact this) GW368.out)) | (dsimp only; exact Nat.ne_of_lt (Nat.lt_of_lt_of_le (by have := World.block_lt_of_cell? _ _ hw375_0; first | rwa [add_block] at this | exact this) GW368.out))) _).trans (((cell_far (p := ⟨gb368, _, none⟩) (by first | exact Nat.ne_of_lt (Nat.lt_of_lt_of_le (by have := World.block_lt_of_cell? _ _ hw375_0; first | rwa [add_block] at this | exact this) GW368.out) | (rw [add_block]; exact Nat.ne_of_lt (Nat.lt_of_lt_of_le (by have := World.block_lt_of_cell? _ _ hw375_0; first | rwa [add_block] at this | exact this) GW368.out)) | (show (Addr.add _ _).block ≠ _; rw [add_block]; exact Nat.ne_of_lt (Nat.lt_of_lt_of_le (by have := World.block_lt_of_cell? _ _ hw375_0; first | rwa [add_block] at this | exact this) GW368.out)) | (dsimp only; exact Nat.ne_of_lt (Nat.lt_of_lt_of_le (by have := World.block_lt_of_cell? _ _ hw375_0; first | rwa [add_block] at this | exact this) GW368.out))) _).trans (((cell_far (p := ⟨gb368, _, none⟩) (by first | exact Nat.ne_of_lt (Nat.lt_of_lt_of_le (by have := World.block_lt_of_cell? _ _ hw375_0; first | rwa [add_block] at this | exact this) GW368.out) | (rw [add_block]; exact Nat.ne_of_lt (Nat.lt_of_lt_of_le (by have := World.block_lt_of_cell? _ _ hw375_0; first | rwa [add_block] at this | exact this) GW368.out)) | (show (Addr.add _ _).block ≠ _; rw [add_block]; exact Nat.ne_of_lt (Nat.lt_of_lt_of_le (by have := World.block_lt_of_cell? _ _ hw375_0; first | rwa [add_block] at this | exact this) GW368.out)) | (dsimp only; exact Nat.ne_of_lt (Nat.lt_of_lt_of_le (by have := World.block_lt_of_cell? _ _ hw375_0; first | rwa [add_block] at this | exact this) GW368.out))) _).trans (((cell_far (p := ⟨gb368, _, none⟩) (by first | exact Nat.ne_of_lt (Nat.lt_of_lt_of_le (by have := World.block_lt_of_cell? _ _ hw375_0; first | rwa [add_block] at this | exact this) GW368.out) | (rw [add_block]; exact Nat.ne_of_lt (Nat.lt_of_lt_of_le (by have := World.block_lt_of_cell? _ _ hw375_0; first | rwa [add_block] at this | exact this) GW368.out)) | (show (Addr.add _ _).block ≠ _; rw [add_block]; exact Nat.ne_of_lt (Nat.lt_of_lt_of_le (by have := World.block_lt_of_cell? _ _ hw375_0; first | rwa [add_block] at this | exact this) GW368.out)) | (dsimp only; exact Nat.ne_of_lt (Nat.lt_of_lt_of_le (by have := World.block_lt_of_cell? _ _ hw375_0; first | rwa [add_block] at this | exact this) GW368.out))) _).trans (((cell_far (p := ⟨gb368, _, none⟩) (by first | exact Nat.ne_of_lt (Nat.lt_of_lt_of_le (by have := World.block_lt_of_cell? _ _ hw375_0; first | rwa [add_block] at this | exact this) GW368.out) | (rw [add_block]; exact Nat.ne_of_lt (Nat.lt_of_lt_of_le (by have := World.block_lt_of_cell? _ _ hw375_0; first | rwa [add_block] at this | exact this) GW368.out)) | (show (Addr.add _ _).block ≠ _; rw [add_block]; exact Nat.ne_of_lt (Nat.lt_of_lt_of_le (by have := World.block_lt_of_cell? _ _ hw375_0; first | rwa [add_block] at this | exact this) GW368.out)) | (dsimp only; exact Nat.ne_of_lt (Nat.lt_of_lt_of_le (by have := World.block_lt_of_cell? _ _ hw375_0; first | rwa [add_block] at this | exact this) GW368.out))) _).trans (((cell_far (p := ⟨gb368, _, none⟩) (by first | exact Nat.ne_of_lt (Nat.lt_of_lt_of_le (by have := World.block_lt_of_cell? _ _ hw375_0; first | rwa [add_block] at this | exact this) GW368.out) | (rw [add_block]; exact Nat.ne_of_lt (Nat.lt_of_lt_of_le (by have := World.block_lt_of_cell? _ _ hw375_0; first | rwa [add_block] at this | exact this) GW368.out)) | (show (Addr.add _ _).block ≠ _; rw [add_block]; exact Nat.ne_of_lt (Nat.lt_of_lt_of_le (by have := World.block_lt_of_cell? _ _ hw375_0; first | rwa [add_block] at this | exact this) GW368.out)) | (dsimp only; exact Nat.ne_of_lt (Nat.lt_of_lt_of_le (by have := World.block_lt_of_cell? _ _ hw375_0; first | rwa [add_block] at this | exact this) GW368.out))) _).trans (((cell_far (p := ⟨gb368, _, none⟩) (by first | exact Nat.ne_of_lt (Nat.lt_of_lt_of_le (by have := World.block_lt_of_cell? _ _ hw375_0; first | rwa [add_block] at this | exact this) GW368.out) | (rw [add_block]; exact Nat.ne_of_lt (Nat.lt_of_lt_of_le (by have := World.block_lt_of_cell? _ _ hw375_0; first | rwa [add_block] at this | exact this) GW368.out)) | (show (Addr.add _ _).block ≠ _; rw [add_block]; exact Nat.ne_of_lt (Nat.lt_of_lt_of_le (by have := World.block_lt_of_cell? _ _ hw375_0; first | rwa [add_block] at this | exact this) GW368.out)) | (dsimp only; exact Nat.ne_of_lt (Nat.lt_of_lt_of_le (by have := World.block_lt_of_cell? _ _ hw375_0; first | rwa [add_block] at this | exact this) GW368.out))) _).trans (hHeld.2.2.2.2.1)))))))))))))))))))))), ((cell_far (p := ⟨gb368, _, none⟩) (by first | exact Nat.ne_of_lt (Nat.lt_of_lt_of_le (by have := World.block_lt_of_cell? _ _ hw375_1; first | rwa [add_block] at this | exact this) GW368.out) | (rw [add_block]; exact Nat.ne_of_lt (Nat.lt_of_lt_of_le (by have := World.block_lt_of_cell? _ _ hw375_1; first | rwa [add_block] at this | exact this) GW368.out)) | (show (Addr.add _ _).block ≠ _; rw [add_block]; exact Nat.ne_of_lt (Nat.lt_of_lt_of_le (by have := World.block_lt_of_cell? _ _ hw375_1; first | rwa [add_block] at this | exact this) GW368.out)) | (dsimp only; exact Nat.ne_of_lt (Nat.lt_of_lt_of_le (by have := World.block_lt_of_cell? _ _ hw375_1; first | rwa [add_block] at this | exact this) GW368.out))) _).trans (((cell_far (p := ⟨gb368, _, none⟩) (by first | exact Nat.ne_of_lt (Nat.lt_of_lt_of_le (by have := World.block_lt_of_cell? _ _ hw375_1; first | rwa [add_block] at this | exact this) GW368.out) | (rw [add_block]; exact Nat.ne_of_lt (Nat.lt_of_lt_of_le (by have := World.block_lt_of_cell? _ _ hw375_1; first | rwa [add_block] at this | exact this) GW368.out)) | (show (Addr.add _ _).block ≠ _; rw [add_block]; exact Nat.ne_of_lt (Nat.lt_of_lt_of_le (by have := World.block_lt_of_cell? _ _ hw375_1; first | rwa [add_block] at this | exact this) GW368.out)) | (dsimp only; exact Nat.ne_of_lt (Nat.lt_of_lt_of_le (by have := World.block_lt_of_cell? _ _ hw375_1; first | rwa [add_block] at this | exact this) GW368.out))) _).trans (((cell_far (p := ⟨gb368, _, none⟩) (by first | exact Nat.ne_of_lt (Nat.lt_of_lt_of_le (by have := World.block_lt_of_cell? _ _ hw375_1; first | rwa [add_block] at this | exact this) GW368.out) | (rw [add_block]; exact Nat.ne_of_lt (Nat.lt_of_lt_of_le (by have := World.block_lt_of_cell? _ _ hw375_1; first | rwa [add_block] at this | exact this) GW368.out)) | (show (Addr.add _ _).block ≠ _; rw [add_block]; exact Nat.ne_of_lt (Nat.lt_of_lt_of_le (by have := World.block_lt_of_cell? _ _ hw375_1; first | rwa [add_block] at this | exact this) GW368.out)) | (dsimp only; exact Nat.ne_of_lt (Nat.lt_of_lt_of_le (by have := World.block_lt_of_cell? _ _ hw375_1; first | rwa [add_block] at this | exact this) GW368.out))) _).trans (((cell_far (p := ⟨gb368, _, none⟩) (by first | exact Nat.ne_of_lt (Nat.lt_of_lt_of_le (by have := World.block_lt_of_cell? _ _ hw375_1; first | rwa [add_block] at this | exact this) GW368.out) | (rw [add_block]; exact Nat.ne_of_lt (Nat.lt_of_lt_of_le (by have := World.block_lt_of_cell? _ _ hw375_1; first | rwa [add_block] at this | exact this) GW368.out)) | (show (Addr.add _ _).block ≠ _; rw [add_block]; exact Nat.ne_of_lt (Nat.lt_of_lt_of_le (by have := World.block_lt_of_cell? _ _ hw375_1; first | rwa [add_block] at this | exact this) GW368.out)) | (dsimp only; exact Nat.ne_of_lt (Nat.lt_of_lt_of_le (by have := World.block_lt_of_cell? _ _ hw375_1; first | rwa [add_block] at this | exact this) GW368.out))) _).trans (((cell_far (p := ⟨gb368, _, none⟩) (by first | exact Nat.ne_of_lt (Nat.lt_of_lt_of_le (by have := World.block_lt_of_cell? _ _ hw375_1; first | rwa [add_block] at this | exact this) GW368.out) | (rw [add_block]; exact Nat.ne_of_lt (Nat.lt_of_lt_of_le (by have := World.block_lt_of_cell? _ _ hw375_1; first | rwa [add_block] at this | exact this) GW368.out)) | (show (Addr.add _ _).block ≠ _; rw [add_block]; exact Nat.ne_of_lt (Nat.lt_of_lt_of_le (by have := World.block_lt_of_cell? _ _ hw375_1; first | rwa [add_block] at this | exact this) GW368.out)) | (dsimp only; exact Nat.ne_of_lt (Nat.lt_of_lt_of_le (by have := World.block_lt_of_cell? _ _ hw375_1; first | rwa [add_block] at this | exact this) GW368.out))) _).trans (((cell_far (p := ⟨gb368, _, none⟩) (by first | exact Nat.ne_of_lt (Nat.lt_of_lt_of_le (by have := World.block_lt_of_cell? _ _ hw375_1; first | rwa [add_block] at this | exact this) GW368.out) | (rw [add_block]; exact Nat.ne_of_lt (Nat.lt_of_lt_of_le (by have := World.block_lt_of_cell? _ _ hw375_1; first | rwa [add_block] at this | exact this) GW368.out)) | (show (Addr.add _ _).block ≠ _; rw [add_block]; exact Nat.ne_of_lt (Nat.lt_of_lt_of_le (by have := World.block_lt_of_cell? _ _ hw375_1; first | rwa [add_block] at this | exact this) GW368.out)) | (dsimp only; exact Nat.ne_of_lt (Nat.lt_of_lt_of_le (by have := World.block_lt_of_cell? _ _ hw375_1; first | rwa [add_block] at this | exact this) GW368.out))) _).trans (((cell_far (p := ⟨gb368, _, none⟩) (by first | exact Nat.ne_of_lt (Nat.lt_of_lt_of_le (by have := World.block_lt_of_cell? _ _ hw375_1; first | rwa [add_block] at this | exact this) GW368.out) | (rw [add_block]; exact Nat.ne_of_lt (Nat.lt_of_lt_of_le (by have := World.block_lt_of_cell? _ _ hw375_1; first | rwa [add_block] at this | exact this) GW368.out)) | (show (Addr.add _ _).block ≠ _; rw [add_block]; exact Nat.ne_of_lt (Nat.lt_of_lt_of_le (by have := World.block_lt_of_cell? _ _ hw375_1; first | rwa [add_block] at this | exact this) GW368.out)) | (dsimp only; exact Nat.ne_of_lt (Nat.lt_of_lt_of_le (by have := World.block_lt_of_cell? _ _ hw375_1; first | rwa [add_block] at this | exact this) GW368.out))) _).trans (((cell_far (p := ⟨gb368, _, none⟩) (by first | exact Nat.ne_of_lt (Nat.lt_of_lt_of_le (by have := World.block_lt_of_cell? _ _ hw375_1; first | rwa [add_block] at this | exact this) GW368.out) | (rw [add_block]; exact Nat.ne_of_lt (Nat.lt_of_lt_of_le (by have := World.block_lt_of_cell? _ _ hw375_1; first | rwa [add_block] at this | exact this) GW368.out)) | (show (Addr.add _ _).block ≠ _; rw [add_block]; exact Nat.ne_of_lt (Nat.lt_of_lt_of_le (by have := World.block_lt_of_cell? _ _ hw375_1; first | rwa [add_block] at this | exact this) GW368.out)) | (dsimp only; exact Nat.ne_of_lt (Nat.lt_of_lt_of_le (by have := World.block_lt_of_cell? _ _ hw375_1; first | rwa [add_block] at this | exact this) GW368.out))) _).trans (((cell_far (p := ⟨gb368, _, none⟩) (by first | exact Nat.ne_of_lt (Nat.lt_of_lt_of_le (by have := World.block_lt_of_cell? _ _ hw375_1; first | rwa [add_block] at this | exact this) GW368.out) | (rw [add_block]; exact Nat.ne_of_lt (Nat.lt_of_lt_of_le (by have := World.block_lt_of_cell? _ _ hw375_1; first | rwa [add_block] at this | exact this) GW368.out)) | (show (Addr.add _ _).block ≠ _; rw [add_block]; exact Nat.ne_of_lt (Nat.lt_of_lt_of_le (by have := World.block_lt_of_cell? _ _ hw375_1; first | rwa [add_block] at this | exact this) GW368.out)) | (dsimp only; exact Nat.ne_of_lt (Nat.lt_of_lt_of_le (by have := World.block_lt_of_cell? _ _ hw375_1; first | rwa [add_block] at this | exact this) GW368.out))) _).trans (((cell_far (p := ⟨gb368, _, none⟩) (by first | exact Nat.ne_of_lt (Nat.lt_of_lt_of_le (by have := World.block_lt_of_cell? _ _ hw375_1; first | rwa [add_block] at this | exact this) GW368.out) | (rw [add_block]; exact Nat.ne_of_lt (Nat.lt_of_lt_of_le (by have := World.block_lt_of_cell? _ _ hw375_1; first | rwa [add_block] at this | exact this) GW368.out)) | (show (Addr.add _ _).block ≠ _; rw [add_block]; exact Nat.ne_of_lt (Nat.lt_of_lt_of_le (by have := World.block_lt_of_cell? _ _ hw375_1; first | rwa [add_block] at this | exact this) GW368.out)) | (dsimp only; exact Nat.ne_of_lt (Nat.lt_of_lt_of_le (by have := World.block_lt_of_cell? _ _ hw375_1; first | rwa [add_block] at this | exact this) GW368.out))) _).trans (((cell_far (p := ⟨gb368, _, none⟩) (by first | exact Nat.ne_of_lt (Nat.lt_of_lt_of_le (by have := World.block_lt_of_cell? _ _ hw375_1; first | rwa [add_block] at this | exact this) GW368.out) | (rw [add_block]; exact Nat.ne_of_lt (Nat.lt_of_lt_of_le (by have := World.block_lt_of_cell? _ _ hw375_1; first | rwa [add_block] at this | exact this) GW368.out)) | (show (Addr.add _ _).block ≠ _; rw [add_block]; exact Nat.ne_of_lt (Nat.lt_of_lt_of_le (by have := World.block_lt_of_cell? _ _ hw375_1; first | rwa [add_block] at this | exact this) GW368.out)) | (dsimp only; exact Nat.ne_of_lt (Nat.lt_of_lt_of_le (by have := World.block_lt_of_cell? _ _ hw375_1; first | rwa [add_block] at this | exact this) GW368.out))) _).trans (hHeld.2.2.2.2.2.1)))))))))))))))))))))), ((cell_far (p := ⟨gb368, _, none⟩) (by first | exact Nat.ne_of_lt (Nat.lt_of_lt_of_le (by have := World.block_lt_of_cell? _ _ hw375_2; first | rwa [add_block] at this | exact this) GW368.out) | (rw [add_block]; exact Nat.ne_of_lt (Nat.lt_of_lt_of_le (by have := World.block_lt_of_cell? _ _ hw375_2; first | rwa [add_block] at this | exact this) GW368.out)) | (show (Addr.add _ _).block ≠ _; rw [add_block]; exact Nat.ne_of_lt (Nat.lt_of_lt_of_le (by have := World.block_lt_of_cell? _ _ hw375_2; first | rwa [add_block] at this | exact this) GW368.out)) | (dsimp only; exact Nat.ne_of_lt (Nat.lt_of_lt_of_le (by have := World.block_lt_of_cell? _ _ hw375_2; first | rwa [add_block] at this | exact this) GW368.out))) _).trans (((cell_far (p := ⟨gb368, _, none⟩) (by first | exact Nat.ne_of_lt (Nat.lt_of_lt_of_le (by have := World.block_lt_of_cell? _ _ hw375_2; first | rwa [add_block] at this | exact this) GW368.out) | (rw [add_block]; exact Nat.ne_of_lt (Nat.lt_of_lt_of_le (by have := World.block_lt_of_cell? _ _ hw375_2; first | rwa [add_block] at this | exact this) GW368.out)) | (show (Addr.add _ _).block ≠ _; rw [add_block]; exact Nat.ne_of_lt (Nat.lt_of_lt_of_le (by have := World.block_lt_of_cell? _ _ hw375_2; first | rwa [add_block] at this | exact this) GW368.out)) | (dsimp only; exact Nat.ne_of_lt (Nat.lt_of_lt_of_le (by have := World.block_lt_of_cell? _ _ hw375_2; first | rwa [add_block] at this | exact this) GW368.out))) _).trans (((cell_far (p := ⟨gb368, _, none⟩) (by first | exact Nat.ne_of_lt (Nat.lt_of_lt_of_le (by have := World.block_lt_of_cell? _ _ hw375_2; first | rwa [add_block] at this | exact this) GW368.out) | (rw [add_block]; exact Nat.ne_of_lt (Nat.lt_of_lt_of_le (by have := World.block_lt_of_cell? _ _ hw375_2; first | rwa [add_block] at this | exact this) GW368.out)) | (show (Addr.add _ _).block ≠ _; rw [add_block]; exact Nat.ne_of_lt (Nat.lt_of_lt_of_le (by have := World.block_lt_of_cell? _ _ hw375_2; first | rwa [add_block] at this | exact this) GW368.out)) | (dsimp only; exact Nat.ne_of_lt (Nat.lt_of_lt_of_le (by have := World.block_lt_of_cell? _ _ hw375_2; first | rwa [add_block] at this | exact this) GW368.out))) _).trans (((cell_far (p := ⟨gb368, _, none⟩) (by first | exact Nat.ne_of_lt (Nat.lt_of_lt_of_le (by have := World.block_lt_of_cell? _ _ hw375_2; first | rwa [add_block] at this | exact this) GW368.out) | (rw [add_block]; exact Nat.ne_of_lt (Nat.lt_of_lt_of_le (by have := World.block_lt_of_cell? _ _ hw375_2; first | rwa [add_block] at this | exact this) GW368.out)) | (show (Addr.add _ _).block ≠ _; rw [add_block]; exact Nat.ne_of_lt (Nat.lt_of_lt_of_le (by have := World.block_lt_of_cell? _ _ hw375_2; first | rwa [add_block] at this | exact this) GW368.out)) | (dsimp only; exact Nat.ne_of_lt (Nat.lt_of_lt_of_le (by have := World.block_lt_of_cell? _ _ hw375_2; first | rwa [add_block] at this | exact this) GW368.out))) _).trans (((cell_far (p := ⟨gb368, _, none⟩) (by first | exact Nat.ne_of_lt (Nat.lt_of_lt_of_le (by have := World.block_lt_of_cell? _ _ hw375_2; first | rwa [add_block] at this | exact this) GW368.out) | (rw [add_block]; exact Nat.ne_of_lt (Nat.lt_of_lt_of_le (by have := World.block_lt_of_cell? _ _ hw375_2; first | rwa [add_block] at this | exact this) GW368.out)) | (show (Addr.add _ _).block ≠ _; rw [add_block]; exact Nat.ne_of_lt (Nat.lt_of_lt_of_le (by have := World.block_lt_of_cell? _ _ hw375_2; first | rwa [add_block] at this | exact this) GW368.out)) | (dsimp only; exact Nat.ne_of_lt (Nat.lt_of_lt_of_le (by have := World.block_lt_of_cell? _ _ hw375_2; first | rwa [add_block] at this | exact this) GW368.out))) _).trans (((cell_far (p := ⟨gb368, _, none⟩) (by first | exact Nat.ne_of_lt (Nat.lt_of_lt_of_le (by have := World.block_lt_of_cell? _ _ hw375_2; first | rwa [add_block] at this | exact this) GW368.out) | (rw [add_block]; exact Nat.ne_of_lt (Nat.lt_of_lt_of_le (by have := World.block_lt_of_cell? _ _ hw375_2; first | rwa [add_block] at this | exact this) GW368.out)) | (show (Addr.add _ _).block ≠ _; rw [add_block]; exact Nat.ne_of_lt (Nat.lt_of_lt_of_le (by have := World.block_lt_of_cell? _ _ hw375_2; first | rwa [add_block] at this | exact this) GW368.out)) | (dsimp only; exact Nat.ne_of_lt (Nat.lt_of_lt_of_le (by have := World.block_lt_of_cell? _ _ hw375_2; first | rwa [add_block] at this | exact this) GW368.out))) _).trans (((cell_far (p := ⟨gb368, _, none⟩) (by first | exact Nat.ne_of_lt (Nat.lt_of_lt_of_le (by have := World.block_lt_of_cell? _ _ hw375_2; first | rwa [add_block] at this | exact this) GW368.out) | (rw [add_block]; exact Nat.ne_of_lt (Nat.lt_of_lt_of_le (by have := World.block_lt_of_cell? _ _ hw375_2; first | rwa [add_block] at this | exact this) GW368.out)) | (show (Addr.add _ _).block ≠ _; rw [add_block]; exact Nat.ne_of_lt (Nat.lt_of_lt_of_le (by have := World.block_lt_of_cell? _ _ hw375_2; first | rwa [add_block] at this | exact this) GW368.out)) | (dsimp only; exact Nat.ne_of_lt (Nat.lt_of_lt_of_le (by have := World.block_lt_of_cell? _ _ hw375_2; first | rwa [add_block] at this | exact this) GW368.out))) _).trans (((cell_far (p := ⟨gb368, _, none⟩) (by first | exact Nat.ne_of_lt (Nat.lt_of_lt_of_le (by have := World.block_lt_of_cell? _ _ hw375_2; first | rwa [add_block] at this | exact this) GW368.out) | (rw [add_block]; exact Nat.ne_of_lt (Nat.lt_of_lt_of_le (by have := World.block_lt_of_cell? _ _ hw375_2; first | rwa [add_block] at this | exact this) GW368.out)) | (show (Addr.add _ _).block ≠ _; rw [add_block]; exact Nat.ne_of_lt (Nat.lt_of_lt_of_le (by have := World.block_lt_of_cell? _ _ hw375_2; first | rwa [add_block] at this | exact this) GW368.out)) | (dsimp only; exact Nat.ne_of_lt (Nat.lt_of_lt_of_le (by have := World.block_lt_of_cell? _ _ hw375_2; first | rwa [add_block] at this | exact this) GW368.out))) _).trans (((cell_far (p := ⟨gb368, _, none⟩) (by first | exact Nat.ne_of_lt (Nat.lt_of_lt_of_le (by have := World.block_lt_of_cell? _ _ hw375_2; first | rwa [add_block] at this | exact this) GW368.out) | (rw [add_block]; exact Nat.ne_of_lt (Nat.lt_of_lt_of_le (by have := World.block_lt_of_cell? _ _ hw375_2; first | rwa [add_block] at this | exact this) GW368.out)) | (show (Addr.add _ _).block ≠ _; rw [add_block]; exact Nat.ne_of_lt (Nat.lt_of_lt_of_le (by have := World.block_lt_of_cell? _ _ hw375_2; first | rwa [add_block] at this | exact this) GW368.out)) | (dsimp only; exact Nat.ne_of_lt (Nat.lt_of_lt_of_le (by have := World.block_lt_of_cell? _ _ hw375_2; first | rwa [add_block] at this | exact this) GW368.out))) _).trans (((cell_far (p := ⟨gb368, _, none⟩) (by first | exact Nat.ne_of_lt (Nat.lt_of_lt_of_le (by have := World.block_lt_of_cell? _ _ hw375_2; first | rwa [add_block] at this | exact this) GW368.out) | (rw [add_block]; exact Nat.ne_of_lt (Nat.lt_of_lt_of_le (by have := World.block_lt_of_cell? _ _ hw375_2; first | rwa [add_block] at this | exact this) GW368.out)) | (show (Addr.add _ _).block ≠ _; rw [add_block]; exact Nat.ne_of_lt (Nat.lt_of_lt_of_le (by have := World.block_lt_of_cell? _ _ hw375_2; first | rwa [add_block] at this | exact this) GW368.out)) | (dsimp only; exact Nat.ne_of_lt (Nat.lt_of_lt_of_le (by have := World.block_lt_of_cell? _ _ hw375_2; first | rwa [add_block] at this | exact this) GW368.out))) _).trans (((cell_far (p := ⟨gb368, _, none⟩) (by first | exact Nat.ne_of_lt (Nat.lt_of_lt_of_le (by have := World.block_lt_of_cell? _ _ hw375_2; first | rwa [add_block] at this | exact this) GW368.out) | (rw [add_block]; exact Nat.ne_of_lt (Nat.lt_of_lt_of_le (by have := World.block_lt_of_cell? _ _ hw375_2; first | rwa [add_block] at this | exact this) GW368.out)) | (show (Addr.add _ _).block ≠ _; rw [add_block]; exact Nat.ne_of_lt (Nat.lt_of_lt_of_le (by have := World.block_lt_of_cell? _ _ hw375_2; first | rwa [add_block] at this | exact this) GW368.out)) | (dsimp only; exact Nat.ne_of_lt (Nat.lt_of_lt_of_le (by have := World.block_lt_of_cell? _ _ hw375_2; first | rwa [add_block] at this | exact this) GW368.out))) _).trans (hHeld.2.2.2.2.2.2.1)))))))))))))))))))))), ((cell_far (p := ⟨gb368, _, none⟩) (by first | exact Nat.ne_of_lt (Nat.lt_of_lt_of_le (by have := World.block_lt_of_cell? _ _ hw375_3; first | rwa [add_block] at this | exact this) GW368.out) | (rw [add_block]; exact Nat.ne_of_lt (Nat.lt_of_lt_of_le (by have := World.block_lt_of_cell? _ _ hw375_3; first | rwa [add_block] at this | exact this) GW368.out)) | (show (Addr.add _ _).block ≠ _; rw [add_block]; exact Nat.ne_of_lt (Nat.lt_of_lt_of_le (by have := World.block_lt_of_cell? _ _ hw375_3; first | rwa [add_block] at this | exact this) GW368.out)) | (dsimp only; exact Nat.ne_of_lt (Nat.lt_of_lt_of_le (by have := World.block_lt_of_cell? _ _ hw375_3; first | rwa [add_block] at this | exact this) GW368.out))) _).trans (((cell_far (p := ⟨gb368, _, none⟩) (by first | exact Nat.ne_of_lt (Nat.lt_of_lt_of_le (by have := World.block_lt_of_cell? _ _ hw375_3; first | rwa [add_block] at this | exact this) GW368.out) | (rw [add_block]; exact Nat.ne_of_lt (Nat.lt_of_lt_of_le (by have := World.block_lt_of_cell? _ _ hw375_3; first | rwa [add_block] at this | exact this) GW368.out)) | (show (Addr.add _ _).block ≠ _; rw [add_block]; exact Nat.ne_of_lt (Nat.lt_of_lt_of_le (by have := World.block_lt_of_cell? _ _ hw375_3; first | rwa [add_block] at this | exact this) GW368.out)) | (dsimp only; exact Nat.ne_of_lt (Nat.lt_of_lt_of_le (by have := World.block_lt_of_cell? _ _ hw375_3; first | rwa [add_block] at this | exact this) GW368.out))) _).trans (((cell_far (p := ⟨gb368, _, none⟩) (by first | exact Nat.ne_of_lt (Nat.lt_of_lt_of_le (by have := World.block_lt_of_cell? _ _ hw375_3; first | rwa [add_block] at this | exact this) GW368.out) | (rw [add_block]; exact Nat.ne_of_lt (Nat.lt_of_lt_of_le (by have := World.block_lt_of_cell? _ _ hw375_3; first | rwa [add_block] at this | exact this) GW368.out)) | (show (Addr.add _ _).block ≠ _; rw [add_block]; exact Nat.ne_of_lt (Nat.lt_of_lt_of_le (by have := World.block_lt_of_cell? _ _ hw375_3; first | rwa [add_block] at this | exact this) GW368.out)) | (dsimp only; exact Nat.ne_of_lt (Nat.lt_of_lt_of_le (by have := World.block_lt_of_cell? _ _ hw375_3; first | rwa [add_block] at this | exact this) GW368.out))) _).trans (((cell_far (p := ⟨gb368, _, none⟩) (by first | exact Nat.ne_of_lt (Nat.lt_of_lt_of_le (by have := World.block_lt_of_cell? _ _ hw375_3; first | rwa [add_block] at this | exact this) GW368.out) | (rw [add_block]; exact Nat.ne_of_lt (Nat.lt_of_lt_of_le (by have := World.block_lt_of_cell? _ _ hw375_3; first | rwa [add_block] at this | exact this) GW368.out)) | (show (Addr.add _ _).block ≠ _; rw [add_block]; exact Nat.ne_of_lt (Nat.lt_of_lt_of_le (by have := World.block_lt_of_cell? _ _ hw375_3; first | rwa [add_block] at this | exact this) GW368.out)) | (dsimp only; exact Nat.ne_of_lt (Nat.lt_of_lt_of_le (by have := World.block_lt_of_cell? _ _ hw375_3; first | rwa [add_block] at this | exact this) GW368.out))) _).trans (((cell_far (p := ⟨gb368, _, none⟩) (by first | exact Nat.ne_of_lt (Nat.lt_of_lt_of_le (by have := World.block_lt_of_cell? _ _ hw375_3; first | rwa [add_block] at this | exact this) GW368.out) | (rw [add_block]; exact Nat.ne_of_lt (Nat.lt_of_lt_of_le (by have := World.block_lt_of_cell? _ _ hw375_3; first | rwa [add_block] at this | exact this) GW368.out)) | (show (Addr.add _ _).block ≠ _; rw [add_block]; exact Nat.ne_of_lt (Nat.lt_of_lt_of_le (by have := World.block_lt_of_cell? _ _ hw375_3; first | rwa [add_block] at this | exact this) GW368.out)) | (dsimp only; exact Nat.ne_of_lt (Nat.lt_of_lt_of_le (by have := World.block_lt_of_cell? _ _ hw375_3; first | rwa [add_block] at this | exact this) GW368.out))) _).trans (((cell_far (p := ⟨gb368, _, none⟩) (by first | exact Nat.ne_of_lt (Nat.lt_of_lt_of_le (by have := World.block_lt_of_cell? _ _ hw375_3; first | rwa [add_block] at this | exact this) GW368.out) | (rw [add_block]; exact Nat.ne_of_lt (Nat.lt_of_lt_of_le (by have := World.block_lt_of_cell? _ _ hw375_3; first | rwa [add_block] at this | exact this) GW368.out)) | (show (Addr.add _ _).block ≠ _; rw [add_block]; exact Nat.ne_of_lt (Nat.lt_of_lt_of_le (by have := World.block_lt_of_cell? _ _ hw375_3; first | rwa [add_block] at this | exact this) GW368.out)) | (dsimp only; exact Nat.ne_of_lt (Nat.lt_of_lt_of_le (by have := World.block_lt_of_cell? _ _ hw375_3; first | rwa [add_block] at this | exact this) GW368.out))) _).trans (((cell_far (p := ⟨gb368, _, none⟩) (by first | exact Nat.ne_of_lt (Nat.lt_of_lt_of_le (by have := World.block_lt_of_cell? _ _ hw375_3; first | rwa [add_block] at this | exact this) GW368.out) | (rw [add_block]; exact Nat.ne_of_lt (Nat.lt_of_lt_of_le (by have := World.block_lt_of_cell? _ _ hw375_3; first | rwa [add_block] at this | exact this) GW368.out)) | (show (Addr.add _ _).block ≠ _; rw [add_block]; exact Nat.ne_of_lt (Nat.lt_of_lt_of_le (by have := World.block_lt_of_cell? _ _ hw375_3; first | rwa [add_block] at this | exact this) GW368.out)) | (dsimp only; exact Nat.ne_of_lt (Nat.lt_of_lt_of_le (by have := World.block_lt_of_cell? _ _ hw375_3; first | rwa [add_block] at this | exact this) GW368.out))) _).trans (((cell_far (p := ⟨gb368, _, none⟩) (by first | exact Nat.ne_of_lt (Nat.lt_of_lt_of_le (by have := World.block_lt_of_cell? _ _ hw375_3; first | rwa [add_block] at this | exact this) GW368.out) | (rw [add_block]; exact Nat.ne_of_lt (Nat.lt_of_lt_of_le (by have := World.block_lt_of_cell? _ _ hw375_3; first | rwa [add_block] at this | exact this) GW368.out)) | (show (Addr.add _ _).block ≠ _; rw [add_block]; exact Nat.ne_of_lt (Nat.lt_of_lt_of_le (by have := World.block_lt_of_cell? _ _ hw375_3; first | rwa [add_block] at this | exact this) GW368.out)) | (dsimp only; exact Nat.ne_of_lt (Nat.lt_of_lt_of_le (by have := World.block_lt_of_cell? _ _ hw375_3; first | rwa [add_block] at this | exact this) GW368.out))) _).trans (((cell_far (p := ⟨gb368, _, none⟩) (by first | exact Nat.ne_of_lt (Nat.lt_of_lt_of_le (by have := World.block_lt_of_cell? _ _ hw375_3; first | rwa [add_block] at this | exact this) GW368.out) | (rw [add_block]; exact Nat.ne_of_lt (Nat.lt_of_lt_of_le (by have := World.block_lt_of_cell? _ _ hw375_3; first | rwa [add_block] at this | exact this) GW368.out)) | (show (Addr.add _ _).block ≠ _; rw [add_block]; exact Nat.ne_of_lt (Nat.lt_of_lt_of_le (by have := World.block_lt_of_cell? _ _ hw375_3; first | rwa [add_block] at this | exact this) GW368.out)) | (dsimp only; exact Nat.ne_of_lt (Nat.lt_of_lt_of_le (by have := World.block_lt_of_cell? _ _ hw375_3; first | rwa [add_block] at this | exact this) GW368.out))) _).trans (((cell_far (p := ⟨gb368, _, none⟩) (by first | exact Nat.ne_of_lt (Nat.lt_of_lt_of_le (by have := World.block_lt_of_cell? _ _ hw375_3; first | rwa [add_block] at this | exact this) GW368.out) | (rw [add_block]; exact Nat.ne_of_lt (Nat.lt_of_lt_of_le (by have := World.block_lt_of_cell? _ _ hw375_3; first | rwa [add_block] at this | exact this) GW368.out)) | (show (Addr.add _ _).block ≠ _; rw [add_block]; exact Nat.ne_of_lt (Nat.lt_of_lt_of_le (by have := World.block_lt_of_cell? _ _ hw375_3; first | rwa [add_block] at this | exact this) GW368.out)) | (dsimp only; exact Nat.ne_of_lt (Nat.lt_of_lt_of_le (by have := World.block_lt_of_cell? _ _ hw375_3; first | rwa [add_block] at this | exact this) GW368.out))) _).trans (((cell_far (p := ⟨gb368, _, none⟩) (by first | exact Nat.ne_of_lt (Nat.lt_of_lt_of_le (by have := World.block_lt_of_cell? _ _ hw375_3; first | rwa [add_block] at this | exact this) GW368.out) | (rw [add_block]; exact Nat.ne_of_lt (Nat.lt_of_lt_of_le (by have := World.block_lt_of_cell? _ _ hw375_3; first | rwa [add_block] at this | exact this) GW368.out)) | (show (Addr.add _ _).block ≠ _; rw [add_block]; exact Nat.ne_of_lt (Nat.lt_of_lt_of_le (by have := World.block_lt_of_cell? _ _ hw375_3; first | rwa [add_block] at this | exact this) GW368.out)) | (dsimp only; exact Nat.ne_of_lt (Nat.lt_of_lt_of_le (by have := World.block_lt_of_cell? _ _ hw375_3; first | rwa [add_block] at this | exact this) GW368.out))) _).trans (hHeld.2.2.2.2.2.2.2.1)))))))))))))))))))))), ((cell_far (p := ⟨gb368, _, none⟩) (by first | exact Kd.own_blk (Kd.R_ne HO371.out BK368.out (by decide)) | (rw [add_block]; exact Kd.own_blk (Kd.R_ne HO371.out BK368.out (by decide))) | (show (Addr.add _ _).block ≠ _; rw [add_block]; exact Kd.own_blk (Kd.R_ne HO371.out BK368.out (by decide))) | (dsimp only; exact Kd.own_blk (Kd.R_ne HO371.out BK368.out (by decide)))) _).trans (((cell_far (p := ⟨gb368, _, none⟩) (by first | exact Kd.own_blk (Kd.R_ne HO371.out BK368.out (by decide)) | (rw [add_block]; exact Kd.own_blk (Kd.R_ne HO371.out BK368.out (by decide))) | (show (Addr.add _ _).block ≠ _; rw [add_block]; exact Kd.own_blk (Kd.R_ne HO371.out BK368.out (by decide))) | (dsimp only; exact Kd.own_blk (Kd.R_ne HO371.out BK368.out (by decide)))) _).trans (((cell_far (p := ⟨gb368, _, none⟩) (by first | exact Kd.own_blk (Kd.R_ne HO371.out BK368.out (by decide)) | (rw [add_block]; exact Kd.own_blk (Kd.R_ne HO371.out BK368.out (by decide))) | (show (Addr.add _ _).block ≠ _; rw [add_block]; exact Kd.own_blk (Kd.R_ne HO371.out BK368.out (by decide))) | (dsimp only; exact Kd.own_blk (Kd.R_ne HO371.out BK368.out (by decide)))) _).trans (((cell_far (p := ⟨gb368, _, none⟩) (by first | exact Kd.own_blk (Kd.R_ne HO371.out BK368.out (by decide)) | (rw [add_block]; exact Kd.own_blk (Kd.R_ne HO371.out BK368.out (by decide))) | (show (Addr.add _ _).block ≠ _; rw [add_block]; exact Kd.own_blk (Kd.R_ne HO371.out BK368.out (by decide))) | (dsimp only; exact Kd.own_blk (Kd.R_ne HO371.out BK368.out (by decide)))) _).trans (((cell_far (p := ⟨gb368, _, none⟩) (by first | exact Kd.own_blk (Kd.R_ne HO371.out BK368.out (by decide)) | (rw [add_block]; exact Kd.own_blk (Kd.R_ne HO371.out BK368.out (by decide))) | (show (Addr.add _ _).block ≠ _; rw [add_block]; exact Kd.own_blk (Kd.R_ne HO371.out BK368.out (by decide))) | (dsimp only; exact Kd.own_blk (Kd.R_ne HO371.out BK368.out (by decide)))) _).trans (((cell_far (p := ⟨gb368, _, none⟩) (by first | exact Kd.own_blk (Kd.R_ne HO371.out BK368.out (by decide)) | (rw [add_block]; exact Kd.own_blk (Kd.R_ne HO371.out BK368.out (by decide))) | (show (Addr.add _ _).block ≠ _; rw [add_block]; exact Kd.own_blk (Kd.R_ne HO371.out BK368.out (by decide))) | (dsimp only; exact Kd.own_blk (Kd.R_ne HO371.out BK368.out (by decide)))) _).trans (((cell_far (p := ⟨gb368, _, none⟩) (by first | exact Kd.own_blk (Kd.R_ne HO371.out BK368.out (by decide)) | (rw [add_block]; exact Kd.own_blk (Kd.R_ne HO371.out BK368.out (by decide))) | (show (Addr.add _ _).block ≠ _; rw [add_block]; exact Kd.own_blk (Kd.R_ne HO371.out BK368.out (by decide))) | (dsimp only; exact Kd.own_blk (Kd.R_ne HO371.out BK368.out (by decide)))) _).trans (((cell_far (p := ⟨gb368, _, none⟩) (by first | exact Kd.own_blk (Kd.R_ne HO371.out BK368.out (by decide)) | (rw [add_block]; exact Kd.own_blk (Kd.R_ne HO371.out BK368.out (by decide))) | (show (Addr.add _ _).block ≠ _; rw [add_block]; exact Kd.own_blk (Kd.R_ne HO371.out BK368.out (by decide))) | (dsimp only; exact Kd.own_blk (Kd.R_ne HO371.out BK368.out (by decide)))) _).trans (((cell_far (p := ⟨gb368, _, none⟩) (by first | exact Kd.own_blk (Kd.R_ne HO371.out BK368.out (by decide)) | (rw [add_block]; exact Kd.own_blk (Kd.R_ne HO371.out BK368.out (by decide))) | (show (Addr.add _ _).block ≠ _; rw [add_block]; exact Kd.own_blk (Kd.R_ne HO371.out BK368.out (by decide))) | (dsimp only; exact Kd.own_blk (Kd.R_ne HO371.out BK368.out (by decide)))) _).trans (((cell_far (p := ⟨gb368, _, none⟩) (by first | exact Kd.own_blk (Kd.R_ne HO371.out BK368.out (by decide)) | (rw [add_block]; exact Kd.own_blk (Kd.R_ne HO371.out BK368.out (by decide))) | (show (Addr.add _ _).block ≠ _; rw [add_block]; exact Kd.own_blk (Kd.R_ne HO371.out BK368.out (by decide))) | (dsimp only; exact Kd.own_blk (Kd.R_ne HO371.out BK368.out (by decide)))) _).trans (((cell_far (p := ⟨gb368, _, none⟩) (by first | exact Kd.own_blk (Kd.R_ne HO371.out BK368.out (by decide)) | (rw [add_block]; exact Kd.own_blk (Kd.R_ne HO371.out BK368.out (by decide))) | (show (Addr.add _ _).block ≠ _; rw [add_block]; exact Kd.own_blk (Kd.R_ne HO371.out BK368.out (by decide))) | (dsimp only; exact Kd.own_blk (Kd.R_ne HO371.out BK368.out (by decide)))) _).trans (hHeld.2.2.2.2.2.2.2.2.1)))))))))))))))))))))), ((cell_far (p := ⟨gb368, _, none⟩) (by first | exact Kd.own_blk (Kd.R_ne HO371.out BK368.out (by decide)) | (rw [add_block]; exact Kd.own_blk (Kd.R_ne HO371.out BK368.out (by decide))) | (show (Addr.add _ _).block ≠ _; rw [add_block]; exact Kd.own_blk (Kd.R_ne HO371.out BK368.out (by decide))) | (dsimp only; exact Kd.own_blk (Kd.R_ne HO371.out BK368.out (by decide)))) _).trans (((cell_far (p := ⟨gb368, _, none⟩) (by first | exact Kd.own_blk (Kd.R_ne HO371.out BK368.out (by decide)) | (rw [add_block]; exact Kd.own_blk (Kd.R_ne HO371.out BK368.out (by decide))) | (show (Addr.add _ _).block ≠ _; rw [add_block]; exact Kd.own_blk (Kd.R_ne HO371.out BK368.out (by decide))) | (dsimp only; exact Kd.own_blk (Kd.R_ne HO371.out BK368.out (by decide)))) _).trans (((cell_far (p := ⟨gb368, _, none⟩) (by first | exact Kd.own_blk (Kd.R_ne HO371.out BK368.out (by decide)) | (rw [add_block]; exact Kd.own_blk (Kd.R_ne HO371.out BK368.out (by decide))) | (show (Addr.add _ _).block ≠ _; rw [add_block]; exact Kd.own_blk (Kd.R_ne HO371.out BK368.out (by decide))) | (dsimp only; exact Kd.own_blk (Kd.R_ne HO371.out BK368.out (by decide)))) _).trans (((cell_far (p := ⟨gb368, _, none⟩) (by first | exact Kd.own_blk (Kd.R_ne HO371.out BK368.out (by decide)) | (rw [add_block]; exact Kd.own_blk (Kd.R_ne HO371.out BK368.out (by decide))) | (show (Addr.add _ _).block ≠ _; rw [add_block]; exact Kd.own_blk (Kd.R_ne HO371.out BK368.out (by decide))) | (dsimp only; exact Kd.own_blk (Kd.R_ne HO371.out BK368.out (by decide)))) _).trans (((cell_far (p := ⟨gb368, _, none⟩) (by first | exact Kd.own_blk (Kd.R_ne HO371.out BK368.out (by decide)) | (rw [add_block]; exact Kd.own_blk (Kd.R_ne HO371.out BK368.out (by decide))) | (show (Addr.add _ _).block ≠ _; rw [add_block]; exact Kd.own_blk (Kd.R_ne HO371.out BK368.out (by decide))) | (dsimp only; exact Kd.own_blk (Kd.R_ne HO371.out BK368.out (by decide)))) _).trans (((cell_far (p := ⟨gb368, _, none⟩) (by first | exact Kd.own_blk (Kd.R_ne HO371.out BK368.out (by decide)) | (rw [add_block]; exact Kd.own_blk (Kd.R_ne HO371.out BK368.out (by decide))) | (show (Addr.add _ _).block ≠ _; rw [add_block]; exact Kd.own_blk (Kd.R_ne HO371.out BK368.out (by decide))) | (dsimp only; exact Kd.own_blk (Kd.R_ne HO371.out BK368.out (by decide)))) _).trans (((cell_far (p := ⟨gb368, _, none⟩) (by first | exact Kd.own_blk (Kd.R_ne HO371.out BK368.out (by decide)) | (rw [add_block]; exact Kd.own_blk (Kd.R_ne HO371.out BK368.out (by decide))) | (show (Addr.add _ _).block ≠ _; rw [add_block]; exact Kd.own_blk (Kd.R_ne HO371.out BK368.out (by decide))) | (dsimp only; exact Kd.own_blk (Kd.R_ne HO371.out BK368.out (by decide)))) _).trans (((cell_far (p := ⟨gb368, _, none⟩) (by first | exact Kd.own_blk (Kd.R_ne HO371.out BK368.out (by decide)) | (rw [add_block]; exact Kd.own_blk (Kd.R_ne HO371.out BK368.out (by decide))) | (show (Addr.add _ _).block ≠ _; rw [add_block]; exact Kd.own_blk (Kd.R_ne HO371.out BK368.out (by decide))) | (dsimp only; exact Kd.own_blk (Kd.R_ne HO371.out BK368.out (by decide)))) _).trans (((cell_far (p := ⟨gb368, _, none⟩) (by first | exact Kd.own_blk (Kd.R_ne HO371.out BK368.out (by decide)) | (rw [add_block]; exact Kd.own_blk (Kd.R_ne HO371.out BK368.out (by decide))) | (show (Addr.add _ _).block ≠ _; rw [add_block]; exact Kd.own_blk (Kd.R_ne HO371.out BK368.out (by decide))) | (dsimp only; exact Kd.own_blk (Kd.R_ne HO371.out BK368.out (by decide)))) _).trans (((cell_far (p := ⟨gb368, _, none⟩) (by first | exact Kd.own_blk (Kd.R_ne HO371.out BK368.out (by decide)) | (rw [add_block]; exact Kd.own_blk (Kd.R_ne HO371.out BK368.out (by decide))) | (show (Addr.add _ _).block ≠ _; rw [add_block]; exact Kd.own_blk (Kd.R_ne HO371.out BK368.out (by decide))) | (dsimp only; exact Kd.own_blk (Kd.R_ne HO371.out BK368.out (by decide)))) _).trans (((cell_far (p := ⟨gb368, _, none⟩) (by first | exact Kd.own_blk (Kd.R_ne HO371.out BK368.out (by decide)) | (rw [add_block]; exact Kd.own_blk (Kd.R_ne HO371.out BK368.out (by decide))) | (show (Addr.add _ _).block ≠ _; rw [add_block]; exact Kd.own_blk (Kd.R_ne HO371.out BK368.out (by decide))) | (dsimp only; exact Kd.own_blk (Kd.R_ne HO371.out BK368.out (by decide)))) _).trans (hHeld.2.2.2.2.2.2.2.2.2.1)))))))))))))))))))))), ((cell_far (p := ⟨gb368, _, none⟩) (by first | exact Kd.own_blk (Kd.R_ne HO371.out BK368.out (by decide)) | (rw [add_block]; exact Kd.own_blk (Kd.R_ne HO371.out BK368.out (by decide))) | (show (Addr.add _ _).block ≠ _; rw [add_block]; exact Kd.own_blk (Kd.R_ne HO371.out BK368.out (by decide))) | (dsimp only; exact Kd.own_blk (Kd.R_ne HO371.out BK368.out (by decide)))) _).trans (((cell_far (p := ⟨gb368, _, none⟩) (by first | exact Kd.own_blk (Kd.R_ne HO371.out BK368.out (by decide)) | (rw [add_block]; exact Kd.own_blk (Kd.R_ne HO371.out BK368.out (by decide))) | (show (Addr.add _ _).block ≠ _; rw [add_block]; exact Kd.own_blk (Kd.R_ne HO371.out BK368.out (by decide))) | (dsimp only; exact Kd.own_blk (Kd.R_ne HO371.out BK368.out (by decide)))) _).trans (((cell_far (p := ⟨gb368, _, none⟩) (by first | exact Kd.own_blk (Kd.R_ne HO371.out BK368.out (by decide)) | (rw [add_block]; exact Kd.own_blk (Kd.R_ne HO371.out BK368.out (by decide))) | (show (Addr.add _ _).block ≠ _; rw [add_block]; exact Kd.own_blk (Kd.R_ne HO371.out BK368.out (by decide))) | (dsimp only; exact Kd.own_blk (Kd.R_ne HO371.out BK368.out (by decide)))) _).trans (((cell_far (p := ⟨gb368, _, none⟩) (by first | exact Kd.own_blk (Kd.R_ne HO371.out BK368.out (by decide)) | (rw [add_block]; exact Kd.own_blk (Kd.R_ne HO371.out BK368.out (by decide))) | (show (Addr.add _ _).block ≠ _; rw [add_block]; exact Kd.own_blk (Kd.R_ne HO371.out BK368.out (by decide))) | (dsimp only; exact Kd.own_blk (Kd.R_ne HO371.out BK368.out (by decide)))) _).trans (((cell_far (p := ⟨gb368, _, none⟩) (by first | exact Kd.own_blk (Kd.R_ne HO371.out BK368.out (by decide)) | (rw [add_block]; exact Kd.own_blk (Kd.R_ne HO371.out BK368.out (by decide))) | (show (Addr.add _ _).block ≠ _; rw [add_block]; exact Kd.own_blk (Kd.R_ne HO371.out BK368.out (by decide))) | (dsimp only; exact Kd.own_blk (Kd.R_ne HO371.out BK368.out (by decide)))) _).trans (((cell_far (p := ⟨gb368, _, none⟩) (by first | exact Kd.own_blk (Kd.R_ne HO371.out BK368.out (by decide)) | (rw [add_block]; exact Kd.own_blk (Kd.R_ne HO371.out BK368.out (by decide))) | (show (Addr.add _ _).block ≠ _; rw [add_block]; exact Kd.own_blk (Kd.R_ne HO371.out BK368.out (by decide))) | (dsimp only; exact Kd.own_blk (Kd.R_ne HO371.out BK368.out (by decide)))) _).trans (((cell_far (p := ⟨gb368, _, none⟩) (by first | exact Kd.own_blk (Kd.R_ne HO371.out BK368.out (by decide)) | (rw [add_block]; exact Kd.own_blk (Kd.R_ne HO371.out BK368.out (by decide))) | (show (Addr.add _ _).block ≠ _; rw [add_block]; exact Kd.own_blk (Kd.R_ne HO371.out BK368.out (by decide))) | (dsimp only; exact Kd.own_blk (Kd.R_ne HO371.out BK368.out (by decide)))) _).trans (((cell_far (p := ⟨gb368, _, none⟩) (by first | exact Kd.own_blk (Kd.R_ne HO371.out BK368.out (by decide)) | (rw [add_block]; exact Kd.own_blk (Kd.R_ne HO371.out BK368.out (by decide))) | (show (Addr.add _ _).block ≠ _; rw [add_block]; exact Kd.own_blk (Kd.R_ne HO371.out BK368.out (by decide))) | (dsimp only; exact Kd.own_blk (Kd.R_ne HO371.out BK368.out (by decide)))) _).trans (((cell_far (p := ⟨gb368, _, none⟩) (by first | exact Kd.own_blk (Kd.R_ne HO371.out BK368.out (by decide)) | (rw [add_block]; exact Kd.own_blk (Kd.R_ne HO371.out BK368.out (by decide))) | (show (Addr.add _ _).block ≠ _; rw [add_block]; exact Kd.own_blk (Kd.R_ne HO371.out BK368.out (by decide))) | (dsimp only; exact Kd.own_blk (Kd.R_ne HO371.out BK368.out (by decide)))) _).trans (((cell_far (p := ⟨gb368, _, none⟩) (by first | exact Kd.own_blk (Kd.R_ne HO371.out BK368.out (by decide)) | (rw [add_block]; exact Kd.own_blk (Kd.R_ne HO371.out BK368.out (by decide))) | (show (Addr.add _ _).block ≠ _; rw [add_block]; exact Kd.own_blk (Kd.R_ne HO371.out BK368.out (by decide))) | (dsimp only; exact Kd.own_blk (Kd.R_ne HO371.out BK368.out (by decide)))) _).trans (((cell_far (p := ⟨gb368, _, none⟩) (by first | exact Kd.own_blk (Kd.R_ne HO371.out BK368.out (by decide)) | (rw [add_block]; exact Kd.own_blk (Kd.R_ne HO371.out BK368.out (by decide))) | (show (Addr.add _ _).block ≠ _; rw [add_block]; exact Kd.own_blk (Kd.R_ne HO371.out BK368.out (by decide))) | (dsimp only; exact Kd.own_blk (Kd.R_ne HO371.out BK368.out (by decide)))) _).trans (hHeld.2.2.2.2.2.2.2.2.2.2.1)))))))))))))))))))))), ((cell_far (p := ⟨gb368, _, none⟩) (by first | exact Kd.own_blk (Kd.R_ne HO371.out BK368.out (by decide)) | (rw [add_block]; exact Kd.own_blk (Kd.R_ne HO371.out BK368.out (by decide))) | (show (Addr.add _ _).block ≠ _; rw [add_block]; exact Kd.own_blk (Kd.R_ne HO371.out BK368.out (by decide))) | (dsimp only; exact Kd.own_blk (Kd.R_ne HO371.out BK368.out (by decide)))) _).trans (((cell_far (p := ⟨gb368, _, none⟩) (by first | exact Kd.own_blk (Kd.R_ne HO371.out BK368.out (by decide)) | (rw [add_block]; exact Kd.own_blk (Kd.R_ne HO371.out BK368.out (by decide))) | (show (Addr.add _ _).block ≠ _; rw [add_block]; exact Kd.own_blk (Kd.R_ne HO371.out BK368.out (by decide))) | (dsimp only; exact Kd.own_blk (Kd.R_ne HO371.out BK368.out (by decide)))) _).trans (((cell_far (p := ⟨gb368, _, none⟩) (by first | exact Kd.own_blk (Kd.R_ne HO371.out BK368.out (by decide)) | (rw [add_block]; exact Kd.own_blk (Kd.R_ne HO371.out BK368.out (by decide))) | (show (Addr.add _ _).block ≠ _; rw [add_block]; exact Kd.own_blk (Kd.R_ne HO371.out BK368.out (by decide))) | (dsimp only; exact Kd.own_blk (Kd.R_ne HO371.out BK368.out (by decide)))) _).trans (((cell_far (p := ⟨gb368, _, none⟩) (by first | exact Kd.own_blk (Kd.R_ne HO371.out BK368.out (by decide)) | (rw [add_block]; exact Kd.own_blk (Kd.R_ne HO371.out BK368.out (by decide))) | (show (Addr.add _ _).block ≠ _; rw [add_block]; exact Kd.own_blk (Kd.R_ne HO371.out BK368.out (by decide))) | (dsimp only; exact Kd.own_blk (Kd.R_ne HO371.out BK368.out (by decide)))) _).trans (((cell_far (p := ⟨gb368, _, none⟩) (by first | exact Kd.own_blk (Kd.R_ne HO371.out BK368.out (by decide)) | (rw [add_block]; exact Kd.own_blk (Kd.R_ne HO371.out BK368.out (by decide))) | (show (Addr.add _ _).block ≠ _; rw [add_block]; exact Kd.own_blk (Kd.R_ne HO371.out BK368.out (by decide))) | (dsimp only; exact Kd.own_blk (Kd.R_ne HO371.out BK368.out (by decide)))) _).trans (((cell_far (p := ⟨gb368, _, none⟩) (by first | exact Kd.own_blk (Kd.R_ne HO371.out BK368.out (by decide)) | (rw [add_block]; exact Kd.own_blk (Kd.R_ne HO371.out BK368.out (by decide))) | (show (Addr.add _ _).block ≠ _; rw [add_block]; exact Kd.own_blk (Kd.R_ne HO371.out BK368.out (by decide))) | (dsimp only; exact Kd.own_blk (Kd.R_ne HO371.out BK368.out (by decide)))) _).trans (((cell_far (p := ⟨gb368, _, none⟩) (by first | exact Kd.own_blk (Kd.R_ne HO371.out BK368.out (by decide)) | (rw [add_block]; exact Kd.own_blk (Kd.R_ne HO371.out BK368.out (by decide))) | (show (Addr.add _ _).block ≠ _; rw [add_block]; exact Kd.own_blk (Kd.R_ne HO371.out BK368.out (by decide))) | (dsimp only; exact Kd.own_blk (Kd.R_ne HO371.out BK368.out (by decide)))) _).trans (((cell_far (p := ⟨gb368, _, none⟩) (by first | exact Kd.own_blk (Kd.R_ne HO371.out BK368.out (by decide)) | (rw [add_block]; exact Kd.own_blk (Kd.R_ne HO371.out BK368.out (by decide))) | (show (Addr.add _ _).block ≠ _; rw [add_block]; exact Kd.own_blk (Kd.R_ne HO371.out BK368.out (by decide))) | (dsimp only; exact Kd.own_blk (Kd.R_ne HO371.out BK368.out (by decide)))) _).trans (((cell_far (p := ⟨gb368, _, none⟩) (by first | exact Kd.own_blk (Kd.R_ne HO371.out BK368.out (by decide)) | (rw [add_block]; exact Kd.own_blk (Kd.R_ne HO371.out BK368.out (by decide))) | (show (Addr.add _ _).block ≠ _; rw [add_block]; exact Kd.own_blk (Kd.R_ne HO371.out BK368.out (by decide))) | (dsimp only; exact Kd.own_blk (Kd.R_ne HO371.out BK368.out (by decide)))) _).trans (((cell_far (p := ⟨gb368, _, none⟩) (by first | exact Kd.own_blk (Kd.R_ne HO371.out BK368.out (by decide)) | (rw [add_block]; exact Kd.own_blk (Kd.R_ne HO371.out BK368.out (by decide))) | (show (Addr.add _ _).block ≠ _; rw [add_block]; exact Kd.own_blk (Kd.R_ne HO371.out BK368.out (by decide))) | (dsimp only; exact Kd.own_blk (Kd.R_ne HO371.out BK368.out (by decide)))) _).trans (((cell_far (p := ⟨gb368, _, none⟩) (by first | exact Kd.own_blk (Kd.R_ne HO371.out BK368.out (by decide)) | (rw [add_block]; exact Kd.own_blk (Kd.R_ne HO371.out BK368.out (by decide))) | (show (Addr.add _ _).block ≠ _; rw [add_block]; exact Kd.own_blk (Kd.R_ne HO371.out BK368.out (by decide))) | (dsimp only; exact Kd.own_blk (Kd.R_ne HO371.out BK368.out (by decide)))) _).trans (hHeld.2.2.2.2.2.2.2.2.2.2.2.1)))))))))))))))))))))), ((cell_far (p := ⟨gb368, _, none⟩) (by first | exact Kd.own_blk (Kd.R_ne HO371.out BK368.out (by decide)) | (rw [add_block]; exact Kd.own_blk (Kd.R_ne HO371.out BK368.out (by decide))) | (show (Addr.add _ _).block ≠ _; rw [add_block]; exact Kd.own_blk (Kd.R_ne HO371.out BK368.out (by decide))) | (dsimp only; exact Kd.own_blk (Kd.R_ne HO371.out BK368.out (by decide)))) _).trans (((cell_far (p := ⟨gb368, _, none⟩) (by first | exact Kd.own_blk (Kd.R_ne HO371.out BK368.out (by decide)) | (rw [add_block]; exact Kd.own_blk (Kd.R_ne HO371.out BK368.out (by decide))) | (show (Addr.add _ _).block ≠ _; rw [add_block]; exact Kd.own_blk (Kd.R_ne HO371.out BK368.out (by decide))) | (dsimp only; exact Kd.own_blk (Kd.R_ne HO371.out BK368.out (by decide)))) _).trans (((cell_far (p := ⟨gb368, _, none⟩) (by first | exact Kd.own_blk (Kd.R_ne HO371.out BK368.out (by decide)) | (rw [add_block]; exact Kd.own_blk (Kd.R_ne HO371.out BK368.out (by decide))) | (show (Addr.add _ _).block ≠ _; rw [add_block]; exact Kd.own_blk (Kd.R_ne HO371.out BK368.out (by decide))) | (dsimp only; exact Kd.own_blk (Kd.R_ne HO371.out BK368.out (by decide)))) _).trans (((cell_far (p := ⟨gb368, _, none⟩) (by first | exact Kd.own_blk (Kd.R_ne HO371.out BK368.out (by decide)) | (rw [add_block]; exact Kd.own_blk (Kd.R_ne HO371.out BK368.out (by decide))) | (show (Addr.add _ _).block ≠ _; rw [add_block]; exact Kd.own_blk (Kd.R_ne HO371.out BK368.out (by decide))) | (dsimp only; exact Kd.own_blk (Kd.R_ne HO371.out BK368.out (by decide)))) _).trans (((cell_far (p := ⟨gb368, _, none⟩) (by first | exact Kd.own_blk (Kd.R_ne HO371.out BK368.out (by decide)) | (rw [add_block]; exact Kd.own_blk (Kd.R_ne HO371.out BK368.out (by decide))) | (show (Addr.add _ _).block ≠ _; rw [add_block]; exact Kd.own_blk (Kd.R_ne HO371.out BK368.out (by decide))) | (dsimp only; exact Kd.own_blk (Kd.R_ne HO371.out BK368.out (by decide)))) _).trans (((cell_far (p := ⟨gb368, _, none⟩) (by first | exact Kd.own_blk (Kd.R_ne HO371.out BK368.out (by decide)) | (rw [add_block]; exact Kd.own_blk (Kd.R_ne HO371.out BK368.out (by decide))) | (show (Addr.add _ _).block ≠ _; rw [add_block]; exact Kd.own_blk (Kd.R_ne HO371.out BK368.out (by decide))) | (dsimp only; exact Kd.own_blk (Kd.R_ne HO371.out BK368.out (by decide)))) _).trans (((cell_far (p := ⟨gb368, _, none⟩) (by first | exact Kd.own_blk (Kd.R_ne HO371.out BK368.out (by decide)) | (rw [add_block]; exact Kd.own_blk (Kd.R_ne HO371.out BK368.out (by decide))) | (show (Addr.add _ _).block ≠ _; rw [add_block]; exact Kd.own_blk (Kd.R_ne HO371.out BK368.out (by decide))) | (dsimp only; exact Kd.own_blk (Kd.R_ne HO371.out BK368.out (by decide)))) _).trans (((cell_far (p := ⟨gb368, _, none⟩) (by first | exact Kd.own_blk (Kd.R_ne HO371.out BK368.out (by decide)) | (rw [add_block]; exact Kd.own_blk (Kd.R_ne HO371.out BK368.out (by decide))) | (show (Addr.add _ _).block ≠ _; rw [add_block]; exact Kd.own_blk (Kd.R_ne HO371.out BK368.out (by decide))) | (dsimp only; exact Kd.own_blk (Kd.R_ne HO371.out BK368.out (by decide)))) _).trans (((cell_far (p := ⟨gb368, _, none⟩) (by first | exact Kd.own_blk (Kd.R_ne HO371.out BK368.out (by decide)) | (rw [add_block]; exact Kd.own_blk (Kd.R_ne HO371.out BK368.out (by decide))) | (show (Addr.add _ _).block ≠ _; rw [add_block]; exact Kd.own_blk (Kd.R_ne HO371.out BK368.out (by decide))) | (dsimp only; exact Kd.own_blk (Kd.R_ne HO371.out BK368.out (by decide)))) _).trans (((cell_far (p := ⟨gb368, _, none⟩) (by first | exact Kd.own_blk (Kd.R_ne HO371.out BK368.out (by decide)) | (rw [add_block]; exact Kd.own_blk (Kd.R_ne HO371.out BK368.out (by decide))) | (show (Addr.add _ _).block ≠ _; rw [add_block]; exact Kd.own_blk (Kd.R_ne HO371.out BK368.out (by decide))) | (dsimp only; exact Kd.own_blk (Kd.R_ne HO371.out BK368.out (by decide)))) _).trans (((cell_far (p := ⟨gb368, _, none⟩) (by first | exact Kd.own_blk (Kd.R_ne HO371.out BK368.out (by decide)) | (rw [add_block]; exact Kd.own_blk (Kd.R_ne HO371.out BK368.out (by decide))) | (show (Addr.add _ _).block ≠ _; rw [add_block]; exact Kd.own_blk (Kd.R_ne HO371.out BK368.out (by decide))) | (dsimp only; exact Kd.own_blk (Kd.R_ne HO371.out BK368.out (by decide)))) _).trans (hHeld.2.2.2.2.2.2.2.2.2.2.2.2.1)))))))))))))))))))))), ((cell_far (p := ⟨gb368, _, none⟩) (by first | exact Kd.own_blk (Kd.R_ne HO371.out BK368.out (by decide)) | (rw [add_block]; exact Kd.own_blk (Kd.R_ne HO371.out BK368.out (by decide))) | (show (Addr.add _ _).block ≠ _; rw [add_block]; exact Kd.own_blk (Kd.R_ne HO371.out BK368.out (by decide))) | (dsimp only; exact Kd.own_blk (Kd.R_ne HO371.out BK368.out (by decide)))) _).trans (((cell_far (p := ⟨gb368, _, none⟩) (by first | exact Kd.own_blk (Kd.R_ne HO371.out BK368.out (by decide)) | (rw [add_block]; exact Kd.own_blk (Kd.R_ne HO371.out BK368.out (by decide))) | (show (Addr.add _ _).block ≠ _; rw [add_block]; exact Kd.own_blk (Kd.R_ne HO371.out BK368.out (by decide))) | (dsimp only; exact Kd.own_blk (Kd.R_ne HO371.out BK368.out (by decide)))) _).trans (((cell_far (p := ⟨gb368, _, none⟩) (by first | exact Kd.own_blk (Kd.R_ne HO371.out BK368.out (by decide)) | (rw [add_block]; exact Kd.own_blk (Kd.R_ne HO371.out BK368.out (by decide))) | (show (Addr.add _ _).block ≠ _; rw [add_block]; exact Kd.own_blk (Kd.R_ne HO371.out BK368.out (by decide))) | (dsimp only; exact Kd.own_blk (Kd.R_ne HO371.out BK368.out (by decide)))) _).trans (((cell_far (p := ⟨gb368, _, none⟩) (by first | exact Kd.own_blk (Kd.R_ne HO371.out BK368.out (by decide)) | (rw [add_block]; exact Kd.own_blk (Kd.R_ne HO371.out BK368.out (by decide))) | (show (Addr.add _ _).block ≠ _; rw [add_block]; exact Kd.own_blk (Kd.R_ne HO371.out BK368.out (by decide))) | (dsimp only; exact Kd.own_blk (Kd.R_ne HO371.out BK368.out (by decide)))) _).trans (((cell_far (p := ⟨gb368, _, none⟩) (by first | exact Kd.own_blk (Kd.R_ne HO371.out BK368.out (by decide)) | (rw [add_block]; exact Kd.own_blk (Kd.R_ne HO371.out BK368.out (by decide))) | (show (Addr.add _ _).block ≠ _; rw [add_block]; exact Kd.own_blk (Kd.R_ne HO371.out BK368.out (by decide))) | (dsimp only; exact Kd.own_blk (Kd.R_ne HO371.out BK368.out (by decide)))) _).trans (((cell_far (p := ⟨gb368, _, none⟩) (by first | exact Kd.own_blk (Kd.R_ne HO371.out BK368.out (by decide)) | (rw [add_block]; exact Kd.own_blk (Kd.R_ne HO371.out BK368.out (by decide))) | (show (Addr.add _ _).block ≠ _; rw [add_block]; exact Kd.own_blk (Kd.R_ne HO371.out BK368.out (by decide))) | (dsimp only; exact Kd.own_blk (Kd.R_ne HO371.out BK368.out (by decide)))) _).trans (((cell_far (p := ⟨gb368, _, none⟩) (by first | exact Kd.own_blk (Kd.R_ne HO371.out BK368.out (by decide)) | (rw [add_block]; exact Kd.own_blk (Kd.R_ne HO371.out BK368.out (by decide))) | (show (Addr.add _ _).block ≠ _; rw [add_block]; exact Kd.own_blk (Kd.R_ne HO371.out BK368.out (by decide))) | (dsimp only; exact Kd.own_blk (Kd.R_ne HO371.out BK368.out (by decide)))) _).trans (((cell_far (p := ⟨gb368, _, none⟩) (by first | exact Kd.own_blk (Kd.R_ne HO371.out BK368.out (by decide)) | (rw [add_block]; exact Kd.own_blk (Kd.R_ne HO371.out BK368.out (by decide))) | (show (Addr.add _ _).block ≠ _; rw [add_block]; exact Kd.own_blk (Kd.R_ne HO371.out BK368.out (by decide))) | (dsimp only; exact Kd.own_blk (Kd.R_ne HO371.out BK368.out (by decide)))) _).trans (((cell_far (p := ⟨gb368, _, none⟩) (by first | exact Kd.own_blk (Kd.R_ne HO371.out BK368.out (by decide)) | (rw [add_block]; exact Kd.own_blk (Kd.R_ne HO371.out BK368.out (by decide))) | (show (Addr.add _ _).block ≠ _; rw [add_block]; exact Kd.own_blk (Kd.R_ne HO371.out BK368.out (by decide))) | (dsimp only; exact Kd.own_blk (Kd.R_ne HO371.out BK368.out (by decide)))) _).trans (((cell_far (p := ⟨gb368, _, none⟩) (by first | exact Kd.own_blk (Kd.R_ne HO371.out BK368.out (by decide)) | (rw [add_block]; exact Kd.own_blk (Kd.R_ne HO371.out BK368.out (by decide))) | (show (Addr.add _ _).block ≠ _; rw [add_block]; exact Kd.own_blk (Kd.R_ne HO371.out BK368.out (by decide))) | (dsimp only; exact Kd.own_blk (Kd.R_ne HO371.out BK368.out (by decide)))) _).trans (((cell_far (p := ⟨gb368, _, none⟩) (by first | exact Kd.own_blk (Kd.R_ne HO371.out BK368.out (by decide)) | (rw [add_block]; exact Kd.own_blk (Kd.R_ne HO371.out BK368.out (by decide))) | (show (Addr.add _ _).block ≠ _; rw [add_block]; exact Kd.own_blk (Kd.R_ne HO371.out BK368.out (by decide))) | (dsimp only; exact Kd.own_blk (Kd.R_ne HO371.out BK368.out (by decide)))) _).trans (hHeld.2.2.2.2.2.2.2.2.2.2.2.2.2))))))))))))))))))))))⟩ (fun hHeld => ?_)
                  clear hK K
                  refine pure_ (i := 17) (N := some 5) (v := ?_) (a' := ?_) #[true, true, true, true, true, true, true, true, true, true, true, true, true, true, true, true, true, true] rfl rfl (any_of HT_.out (by kernel_rfl)) (fun _ _ _ h => h) (Or.inl ⟨by rfl, ?_⟩) ?_ ?_
                  rotate_left
                  · intro w'
                    go_simp
                    with_reducible rfl
                  rotate_left
                  · simp only [Act.put, List.setIfInBounds_toArray, List.set_cons_zero, List.set_cons_succ, i64_w, i32_w]
                    rfl
                  refine done_ (done_of HT_.out (by kernel_rfl)) ?_
                  try go_wp2
                  refine bodyPost_ret (results_ct rfl _ _ gb368 134 #[.int .i64 ((rd_T63 l0_3 a1).f0), .int .i64 ((rd_T63 l0_3 a1).f1), .int .i64 ((rd_T63 l0_3 a1).f2), .int .i64 ((rd_T63 l0_3 a1).f3), .int .i64 ((rd_T23 t369 a1).f0), .int .i64 ((rd_T23 t369 a1).f1), .int .i64 ((rd_T23 t369 a1).f2), .int .i64 ((rd_T23 t369 (ji24)).f0), .int .i64 ((rd_T23 t369 (ji24)).f1), .int .i64 ((rd_T23 t369 (ji24)).f2), .int .i64 t373] (0, 0) _ rfl (by (with_reducible repeat (first | refine blk_drewN ?_ _ | refine blk_drew ?_ | refine blk_alloc ?_ _)); refine blk_put (cs := #[.int .i64 ((rd_T63 l0_3 a1).f0), .int .i64 ((rd_T63 l0_3 a1).f1), .int .i64 ((rd_T63 l0_3 a1).f2), .int .i64 ((rd_T63 l0_3 a1).f3), .int .i64 ((rd_T23 t369 a1).f0), .int .i64 ((rd_T23 t369 a1).f1), .int .i64 ((rd_T23 t369 a1).f2), .int .i64 ((rd_T23 t369 (ji24)).f0), .int .i64 ((rd_T23 t369 (ji24)).f1), .int .i64 ((rd_T23 t369 (ji24)).f2), .int .i64 0]) ?_ 10 _ rfl; (with_reducible repeat (first | refine blk_drewN ?_ _ | refine blk_drew ?_ | refine blk_alloc ?_ _)); refine blk_put (cs := #[.int .i64 ((rd_T63 l0_3 a1).f0), .int .i64 ((rd_T63 l0_3 a1).f1), .int .i64 ((rd_T63 l0_3 a1).f2), .int .i64 ((rd_T63 l0_3 a1).f3), .int .i64 ((rd_T23 t369 a1).f0), .int .i64 ((rd_T23 t369 a1).f1), .int .i64 ((rd_T23 t369 a1).f2), .int .i64 ((rd_T23 t369 (ji24)).f0), .int .i64 ((rd_T23 t369 (ji24)).f1), .int .i64 0, .int .i64 0]) ?_ 9 _ rfl; (with_reducible repeat (first | refine blk_drewN ?_ _ | refine blk_drew ?_ | refine blk_alloc ?_ _)); refine blk_put (cs := #[.int .i64 ((rd_T63 l0_3 a1).f0), .int .i64 ((rd_T63 l0_3 a1).f1), .int .i64 ((rd_T63 l0_3 a1).f2), .int .i64 ((rd_T63 l0_3 a1).f3), .int .i64 ((rd_T23 t369 a1).f0), .int .i64 ((rd_T23 t369 a1).f1), .int .i64 ((rd_T23 t369 a1).f2), .int .i64 ((rd_T23 t369 (ji24)).f0), .int .i64 0, .int .i64 0, .int .i64 0]) ?_ 8 _ rfl; (with_reducible repeat (first | refine blk_drewN ?_ _ | refine blk_drew ?_ | refine blk_alloc ?_ _)); refine blk_put (cs := #[.int .i64 ((rd_T63 l0_3 a1).f0), .int .i64 ((rd_T63 l0_3 a1).f1), .int .i64 ((rd_T63 l0_3 a1).f2), .int .i64 ((rd_T63 l0_3 a1).f3), .int .i64 ((rd_T23 t369 a1).f0), .int .i64 ((rd_T23 t369 a1).f1), .int .i64 ((rd_T23 t369 a1).f2), .int .i64 0, .int .i64 0, .int .i64 0, .int .i64 0]) ?_ 7 _ rfl; (with_reducible repeat (first | refine blk_drewN ?_ _ | refine blk_drew ?_ | refine blk_alloc ?_ _)); refine blk_put (cs := #[.int .i64 ((rd_T63 l0_3 a1).f0), .int .i64 ((rd_T63 l0_3 a1).f1), .int .i64 ((rd_T63 l0_3 a1).f2), .int .i64 ((rd_T63 l0_3 a1).f3), .int .i64 ((rd_T23 t369 a1).f0), .int .i64 ((rd_T23 t369 a1).f1), .int .i64 0, .int .i64 0, .int .i64 0, .int .i64 0, .int .i64 0]) ?_ 6 _ rfl; (with_reducible repeat (first | refine blk_drewN ?_ _ | refine blk_drew ?_ | refine blk_alloc ?_ _)); refine blk_put (cs := #[.int .i64 ((rd_T63 l0_3 a1).f0), .int .i64 ((rd_T63 l0_3 a1).f1), .int .i64 ((rd_T63 l0_3 a1).f2), .int .i64 ((rd_T63 l0_3 a1).f3), .int .i64 ((rd_T23 t369 a1).f0), .int .i64 0, .int .i64 0, .int .i64 0, .int .i64 0, .int .i64 0, .int .i64 0]) ?_ 5 _ rfl; (with_reducible repeat (first | refine blk_drewN ?_ _ | refine blk_drew ?_ | refine blk_alloc ?_ _)); refine blk_put (cs := #[.int .i64 ((rd_T63 l0_3 a1).f0), .int .i64 ((rd_T63 l0_3 a1).f1), .int .i64 ((rd_T63 l0_3 a1).f2), .int .i64 ((rd_T63 l0_3 a1).f3), .int .i64 0, .int .i64 0, .int .i64 0, .int .i64 0, .int .i64 0, .int .i64 0, .int .i64 0]) ?_ 4 _ rfl; (with_reducible repeat (first | refine blk_drewN ?_ _ | refine blk_drew ?_ | refine blk_alloc ?_ _)); refine blk_put (cs := #[.int .i64 ((rd_T63 l0_3 a1).f0), .int .i64 ((rd_T63 l0_3 a1).f1), .int .i64 ((rd_T63 l0_3 a1).f2), .int .i64 0, .int .i64 0, .int .i64 0, .int .i64 0, .int .i64 0, .int .i64 0, .int .i64 0, .int .i64 0]) ?_ 3 _ rfl; (with_reducible repeat (first | refine blk_drewN ?_ _ | refine blk_drew ?_ | refine blk_alloc ?_ _)); refine blk_put (cs := #[.int .i64 ((rd_T63 l0_3 a1).f0), .int .i64 ((rd_T63 l0_3 a1).f1), .int .i64 0, .int .i64 0, .int .i64 0, .int .i64 0, .int .i64 0, .int .i64 0, .int .i64 0, .int .i64 0, .int .i64 0]) ?_ 2 _ rfl; (with_reducible repeat (first | refine blk_drewN ?_ _ | refine blk_drew ?_ | refine blk_alloc ?_ _)); refine blk_put (cs := #[.int .i64 ((rd_T63 l0_3 a1).f0), .int .i64 0, .int .i64 0, .int .i64 0, .int .i64 0, .int .i64 0, .int .i64 0, .int .i64 0, .int .i64 0, .int .i64 0, .int .i64 0]) ?_ 1 _ rfl; (with_reducible repeat (first | refine blk_drewN ?_ _ | refine blk_drew ?_ | refine blk_alloc ?_ _)); refine blk_put (cs := #[.int .i64 0, .int .i64 0, .int .i64 0, .int .i64 0, .int .i64 0, .int .i64 0, .int .i64 0, .int .i64 0, .int .i64 0, .int .i64 0, .int .i64 0]) ?_ 0 _ rfl; (with_reducible repeat (first | refine blk_drewN ?_ _ | refine blk_drew ?_ | refine blk_alloc ?_ _)); exact BK368.out) Try.underlying134 rfl (by kernel_rfl)) rfl ?_
                  exact ⟨by first | rfl | (simp [errW_none, errW_some] <;> rfl) | (simp only [← hji24]; first | rfl | (simp [errW_none, errW_some] <;> rfl)) | (simp [*, errW_none, errW_some] <;> rfl), by repeat (first | (with_reducible first | exact HB.out | apply below_alloc | apply pw_below_drewN | apply below_drew1 | refine below_set ?_ GE367.out | refine below_set ?_ GE368.out) | exact HB.out)⟩
                · rw [if_neg c26] at H
                  exact absurd H (by simp)
              · rw [if_neg c25] at H
                exact absurd H (by simp)
            · rw [if_neg c23] at H
              exact absurd H (by simp)
          · rw [if_neg c22] at H
            exact absurd H (by simp)
        · rw [if_neg c21] at H
          exact absurd H (by simp)
  · rw [if_neg c4] at H
    have c4b0 : (t372 == 0) = false := beq_eq_false_iff_ne.mpr c4
    have c4b1 : (t372 != 0) = true := bne_iff_ne.mpr c4
    simp only [Option.some.injEq, Prod.mk.injEq] at H
    obtain ⟨rfl, rfl, rfl, rfl, rfl, rfl, rfl, rfl, rfl, rfl, rfl, rfl⟩ := H
    go_enter Try.func83, Try.ntmps83
    go_wp2_with (first | ((with_reducible refine gate_dst (N := 2) rfl ?_); (try (refine gate_guard (by rfl) ?_; dsimp only)); refine box_event ?hg (N := 2) ?hd (cs := #[.int .i64 a0_0, .int .i64 a0_1, .int .i64 a0_2, .slice A0_3 l0_3.length c0_3]) (t := 26) ?hr ?_; (case hd => rfl); (case hg => rfl); (case hr => first | (go_simp; done) | (go_simp; rfl)); intro gb367 hg w47 hbox hb; have n0_ := Aside0.mk (below_step (by repeat (first | (with_reducible first | exact HB.out | apply below_alloc | apply pw_below_drewN | apply below_drew1) | exact HB.out)) hb); have n1_ := Aside0.mk (hbox); have n2_ := Aside0.mk ((by rw [hg]; exact (below_size (by repeat (first | (with_reducible first | exact HB.out | apply below_alloc | apply pw_below_drewN | apply below_drew1) | exact HB.out))) : w.heap.size ≤ gb367)); have n3_ := Aside0.mk ((by rw [hg]; exact (below_size (by repeat (first | (with_reducible first | exact HB.out | apply below_alloc | apply pw_below_drewN | apply below_drew1) | exact HB.out))) : w.heap.size ≤ gb367)); clear HB; have HB := n0_; have BK367 := n1_; have GW367 := n2_; have GE367 := n3_; clear n0_ n1_ n2_ n3_; clear hb hbox hg) | ((with_reducible refine gate_dst (N := 4) rfl ?_); (try (refine gate_guard (by rfl) ?_; dsimp only)); refine box_event ?hg (N := 4) ?hd (cs := #[.int .i64 0, .int .i64 0, .int .i64 0, .int .i64 0, .int .i64 0, .int .i64 0, .int .i64 0, .int .i64 0, .int .i64 0, .int .i64 0, .int .i64 0]) (t := 134) ?hr ?_; (case hd => rfl); (case hg => rfl); (case hr => first | (go_simp; done) | (go_simp; rfl)); intro gb368 hg w48 hbox hb; have n0_ := Aside0.mk (blk_below (g := gb367) (o := .cells #[.int .i64 a0_0, .int .i64 a0_1, .int .i64 a0_2, .slice A0_3 l0_3.length c0_3] 26 (0, 0)) (by (with_reducible repeat (first | refine blk_drewN ?_ _ | refine blk_drew ?_ | refine blk_alloc ?_ _)); exact BK367.out) hb); have n1_ := Aside0.mk (below_step (by repeat (first | (with_reducible first | exact HB.out | apply below_alloc | apply pw_below_drewN | apply below_drew1 | refine below_set ?_ GE367.out) | exact HB.out)) hb); have n2_ := Aside0.mk (hbox); have n3_ := Aside0.mk ((by rw [hg]; exact (below_size (by repeat (first | (with_reducible first | exact HB.out | apply below_alloc | apply pw_below_drewN | apply below_drew1 | refine below_set ?_ GE367.out) | exact HB.out))) : w.heap.size ≤ gb368)); have n4_ := Aside0.mk ((by rw [hg]; exact (below_size (by repeat (first | (with_reducible first | exact HB.out | apply below_alloc | apply pw_below_drewN | apply below_drew1 | refine below_set ?_ GE367.out) | exact HB.out))) : w.heap.size ≤ gb368)); have n5_ := Aside0.mk ((by rw [hg]; exact Nat.ne_of_lt (blk_lt (g := gb367) (o := .cells #[.int .i64 a0_0, .int .i64 a0_1, .int .i64 a0_2, .slice A0_3 l0_3.length c0_3] 26 (0, 0)) (by (with_reducible repeat (first | refine blk_drewN ?_ _ | refine blk_drew ?_ | refine blk_alloc ?_ _)); exact BK367.out)) : gb367 ≠ gb368)); have n6_ := Aside0.mk ((by rw [hg]; exact Nat.ne_of_gt (blk_lt (g := gb367) (o := .cells #[.int .i64 a0_0, .int .i64 a0_1, .int .i64 a0_2, .slice A0_3 l0_3.length c0_3] 26 (0, 0)) (by (with_reducible repeat (first | refine blk_drewN ?_ _ | refine blk_drew ?_ | refine blk_alloc ?_ _)); exact BK367.out)) : gb368 ≠ gb367)); clear BK367; clear HB; have BK367 := n0_; have HB := n1_; have BK368 := n2_; have GW368 := n3_; have GE368 := n4_; have NB367_368 := n5_; have NB368_367 := n6_; clear n0_ n1_ n2_ n3_ n4_ n5_ n6_; clear hb hbox hg; have hnb49 := NB367_368.out; have hnc49 := NB368_367.out; have hcz50_0 : w48.cell? ⟨gb367, 0, none⟩ = some (.int .i64 a0_0) := (blk_cell BK367.out 0).trans rfl; have hcz50_1 : w48.cell? ⟨gb367, 1, none⟩ = some (.int .i64 a0_1) := (blk_cell BK367.out 1).trans rfl; have hcz50_2 : w48.cell? ⟨gb367, 2, none⟩ = some (.int .i64 a0_2) := (blk_cell BK367.out 2).trans rfl; have hcz50_3 : w48.cell? ⟨gb367, 3, none⟩ = some (.slice A0_3 l0_3.length c0_3) := (blk_cell BK367.out 3).trans rfl; have hfz50_0 := blk_frozen BK367.out 0; have hfz50_1 := blk_frozen BK367.out 1; have hfz50_2 := blk_frozen BK367.out 2; have hfz50_3 := blk_frozen BK367.out 3) | ((with_reducible refine gate_callee (f := 39) rfl ?_); refine goesL_ (some 12) rfl rfl Try.func39 (by kernel_rfl) rfl #[.agg #[.int .i64 a0_0, .int .i64 a0_1, .int .i64 a0_2, .slice A0_3 l0_3.length c0_3]] rfl (by (try simp only [List.map_toArray, List.map_cons, List.map_nil]); first | done | rfl | (simp only [List.length_drop, List.length_take]; rfl)) ?_; (with_reducible refine (check_Shapes.calls k a0_0 a0_1 a0_2 _ _ l0_3 t369 t372 _ ?side1 ?side2 A3.out).mono ?_); (case side1 => repeat (first | exact (Kd.C_below HR0_3.out HB.out) | (with_reducible refine Kd.C_alloc ?_ _) | (with_reducible refine Kd.C_drewN ?_ _) | (with_reducible refine Kd.C_drew ?_))); (case side2 => exact HC0_3.out); rintro e w51 ⟨v370, rfl, ho0, hb⟩; refine ⟨_, rfl, ?_⟩; have n0_ := Aside0.mk (Kd.R_lower ho0 (below_size (by repeat (first | (with_reducible first | exact HB.out | apply below_alloc | apply pw_below_drewN | apply below_drew1 | refine below_set ?_ GE367.out | refine below_set ?_ GE368.out) | exact HB.out)))); have n1_ := Aside0.mk (blk_below (g := gb367) (o := .cells #[.int .i64 a0_0, .int .i64 a0_1, .int .i64 a0_2, .slice A0_3 l0_3.length c0_3] 26 (0, 0)) (by (with_reducible repeat (first | refine blk_drewN ?_ _ | refine blk_drew ?_ | refine blk_alloc ?_ _)); exact BK367.out) hb); have n2_ := Aside0.mk (blk_below (g := gb368) (o := .cells #[.int .i64 0, .int .i64 0, .int .i64 0, .int .i64 0, .int .i64 0, .int .i64 0, .int .i64 0, .int .i64 0, .int .i64 0, .int .i64 0, .int .i64 0] 134 (0, 0)) (by (with_reducible repeat (first | refine blk_drewN ?_ _ | refine blk_drew ?_ | refine blk_alloc ?_ _)); exact BK368.out) hb); have n3_ := Aside0.mk (below_step (by repeat (first | (with_reducible first | exact HB.out | apply below_alloc | apply pw_below_drewN | apply below_drew1 | refine below_set ?_ GE367.out | refine below_set ?_ GE368.out) | exact HB.out)) hb); clear BK367; clear BK368; clear HB; have HO371 := n0_; have BK367 := n1_; have BK368 := n2_; have HB := n3_; clear n0_ n1_ n2_ n3_; (try clear hb); (try clear hb2); (try clear hk); (try clear hi); (try clear ho0); have hcz52_0 : w51.cell? ⟨gb368, 0, none⟩ = some (.int .i64 0) := (blk_cell BK368.out 0).trans rfl; have hcz52_1 : w51.cell? ⟨gb368, 1, none⟩ = some (.int .i64 0) := (blk_cell BK368.out 1).trans rfl; have hcz52_2 : w51.cell? ⟨gb368, 2, none⟩ = some (.int .i64 0) := (blk_cell BK368.out 2).trans rfl; have hcz52_3 : w51.cell? ⟨gb368, 3, none⟩ = some (.int .i64 0) := (blk_cell BK368.out 3).trans rfl; have hcz52_4 : w51.cell? ⟨gb368, 4, none⟩ = some (.int .i64 0) := (blk_cell BK368.out 4).trans rfl; have hcz52_5 : w51.cell? ⟨gb368, 5, none⟩ = some (.int .i64 0) := (blk_cell BK368.out 5).trans rfl; have hcz52_6 : w51.cell? ⟨gb368, 6, none⟩ = some (.int .i64 0) := (blk_cell BK368.out 6).trans rfl; have hcz52_7 : w51.cell? ⟨gb368, 7, none⟩ = some (.int .i64 0) := (blk_cell BK368.out 7).trans rfl; have hcz52_8 : w51.cell? ⟨gb368, 8, none⟩ = some (.int .i64 0) := (blk_cell BK368.out 8).trans rfl; have hcz52_9 : w51.cell? ⟨gb368, 9, none⟩ = some (.int .i64 0) := (blk_cell BK368.out 9).trans rfl; have hcz52_10 : w51.cell? ⟨gb368, 10, none⟩ = some (.int .i64 0) := (blk_cell BK368.out 10).trans rfl; have hfz52_0 := blk_frozen BK368.out 0; have hfz52_1 := blk_frozen BK368.out 1; have hfz52_2 := blk_frozen BK368.out 2; have hfz52_3 := blk_frozen BK368.out 3; have hfz52_4 := blk_frozen BK368.out 4; have hfz52_5 := blk_frozen BK368.out 5; have hfz52_6 := blk_frozen BK368.out 6; have hfz52_7 := blk_frozen BK368.out 7; have hfz52_8 := blk_frozen BK368.out 8; have hfz52_9 := blk_frozen BK368.out 9; have hfz52_10 := blk_frozen BK368.out 10))
    refine bodyPost_ret (results_ct rfl _ _ gb368 134 #[.int .i64 0, .int .i64 0, .int .i64 0, .int .i64 0, .int .i64 0, .int .i64 0, .int .i64 0, .int .i64 0, .int .i64 0, .int .i64 0, .int .i64 0] (0, 0) _ rfl (by (with_reducible repeat (first | refine blk_drewN ?_ _ | refine blk_drew ?_ | refine blk_alloc ?_ _)); refine blk_put (cs := #[.int .i64 0, .int .i64 0, .int .i64 0, .int .i64 0, .int .i64 0, .int .i64 0, .int .i64 0, .int .i64 0, .int .i64 0, .int .i64 0, .int .i64 0]) ?_ 10 _ rfl; (with_reducible repeat (first | refine blk_drewN ?_ _ | refine blk_drew ?_ | refine blk_alloc ?_ _)); refine blk_put (cs := #[.int .i64 0, .int .i64 0, .int .i64 0, .int .i64 0, .int .i64 0, .int .i64 0, .int .i64 0, .int .i64 0, .int .i64 0, .int .i64 0, .int .i64 0]) ?_ 9 _ rfl; (with_reducible repeat (first | refine blk_drewN ?_ _ | refine blk_drew ?_ | refine blk_alloc ?_ _)); refine blk_put (cs := #[.int .i64 0, .int .i64 0, .int .i64 0, .int .i64 0, .int .i64 0, .int .i64 0, .int .i64 0, .int .i64 0, .int .i64 0, .int .i64 0, .int .i64 0]) ?_ 8 _ rfl; (with_reducible repeat (first | refine blk_drewN ?_ _ | refine blk_drew ?_ | refine blk_alloc ?_ _)); refine blk_put (cs := #[.int .i64 0, .int .i64 0, .int .i64 0, .int .i64 0, .int .i64 0, .int .i64 0, .int .i64 0, .int .i64 0, .int .i64 0, .int .i64 0, .int .i64 0]) ?_ 7 _ rfl; (with_reducible repeat (first | refine blk_drewN ?_ _ | refine blk_drew ?_ | refine blk_alloc ?_ _)); refine blk_put (cs := #[.int .i64 0, .int .i64 0, .int .i64 0, .int .i64 0, .int .i64 0, .int .i64 0, .int .i64 0, .int .i64 0, .int .i64 0, .int .i64 0, .int .i64 0]) ?_ 6 _ rfl; (with_reducible repeat (first | refine blk_drewN ?_ _ | refine blk_drew ?_ | refine blk_alloc ?_ _)); refine blk_put (cs := #[.int .i64 0, .int .i64 0, .int .i64 0, .int .i64 0, .int .i64 0, .int .i64 0, .int .i64 0, .int .i64 0, .int .i64 0, .int .i64 0, .int .i64 0]) ?_ 5 _ rfl; (with_reducible repeat (first | refine blk_drewN ?_ _ | refine blk_drew ?_ | refine blk_alloc ?_ _)); refine blk_put (cs := #[.int .i64 0, .int .i64 0, .int .i64 0, .int .i64 0, .int .i64 0, .int .i64 0, .int .i64 0, .int .i64 0, .int .i64 0, .int .i64 0, .int .i64 0]) ?_ 4 _ rfl; (with_reducible repeat (first | refine blk_drewN ?_ _ | refine blk_drew ?_ | refine blk_alloc ?_ _)); refine blk_put (cs := #[.int .i64 0, .int .i64 0, .int .i64 0, .int .i64 0, .int .i64 0, .int .i64 0, .int .i64 0, .int .i64 0, .int .i64 0, .int .i64 0, .int .i64 0]) ?_ 3 _ rfl; (with_reducible repeat (first | refine blk_drewN ?_ _ | refine blk_drew ?_ | refine blk_alloc ?_ _)); refine blk_put (cs := #[.int .i64 0, .int .i64 0, .int .i64 0, .int .i64 0, .int .i64 0, .int .i64 0, .int .i64 0, .int .i64 0, .int .i64 0, .int .i64 0, .int .i64 0]) ?_ 2 _ rfl; (with_reducible repeat (first | refine blk_drewN ?_ _ | refine blk_drew ?_ | refine blk_alloc ?_ _)); refine blk_put (cs := #[.int .i64 0, .int .i64 0, .int .i64 0, .int .i64 0, .int .i64 0, .int .i64 0, .int .i64 0, .int .i64 0, .int .i64 0, .int .i64 0, .int .i64 0]) ?_ 1 _ rfl; (with_reducible repeat (first | refine blk_drewN ?_ _ | refine blk_drew ?_ | refine blk_alloc ?_ _)); refine blk_put (cs := #[.int .i64 0, .int .i64 0, .int .i64 0, .int .i64 0, .int .i64 0, .int .i64 0, .int .i64 0, .int .i64 0, .int .i64 0, .int .i64 0, .int .i64 0]) ?_ 0 _ rfl; (with_reducible repeat (first | refine blk_drewN ?_ _ | refine blk_drew ?_ | refine blk_alloc ?_ _)); exact BK368.out) Try.underlying134 rfl (by kernel_rfl)) rfl ?_
    exact ⟨by first | rfl | (simp [errW_none, errW_some] <;> rfl) | (simp [*, errW_none, errW_some] <;> rfl), by repeat (first | (with_reducible first | exact HB.out | apply below_alloc | apply pw_below_drewN | apply below_drew1 | refine below_set ?_ GE367.out | refine below_set ?_ GE368.out) | exact HB.out)⟩

end Go.Proofs.Ytjegihodmidhoaa.G
namespace Go.Proofs.Ytjegihodmidhoaa.G
open Go.RowKit Go.Proofs.YtjegihodmidhoaaW.PrintWords Go.Proofs.YtjegihodmidhoaaW.PrintLast Go.Proofs.YtjegihodmidhoaaW.PrintMore
set_option linter.unusedVariables false
set_option linter.unusedSimpArgs false

/-- A small number as a float64's bits. -/
@[irreducible] def fl (n : Nat) : Nat := FloatKind.f64.nearest n
def okMul : Bool := (List.range 13).all fun a => (List.range 13).all fun b => Ieee.double.mul (fl a) (fl b) == some (fl (a * b))
def okAdd : Bool := (List.range 133).all fun a => (List.range 13).all fun b => Ieee.double.add (fl a) (fl b) == some (fl (a + b))
def okSub : Bool := (List.range 133).all fun a => Ieee.double.sub (fl a) (fl 0) == some (fl a) && Ieee.double.add (fl 0) (fl a) == some (fl a)
def okInt : Bool := (List.range 145).all fun a => (FloatKind.f64.decode (fl a)).toInt .zero == some (a : Int)
theorem okMul_eq : okMul = true := by kernel_rfl
theorem okAdd_eq : okAdd = true := by kernel_rfl
theorem okSub_eq : okSub = true := by kernel_rfl
theorem okInt_eq : okInt = true := by kernel_rfl
theorem fl_mul {a b : Nat} (ha : a < 13) (hb : b < 13) : Ieee.double.mul (fl a) (fl b) = some (fl (a * b)) := by
  have h := okMul_eq
  simp only [okMul, List.all_eq_true, List.mem_range, beq_iff_eq] at h
  exact h a ha b hb
theorem fl_add {a b : Nat} (ha : a < 133) (hb : b < 13) : Ieee.double.add (fl a) (fl b) = some (fl (a + b)) := by
  have h := okAdd_eq
  simp only [okAdd, List.all_eq_true, List.mem_range, beq_iff_eq] at h
  exact h a ha b hb
theorem fl_sub {a : Nat} (ha : a < 133) : Ieee.double.sub (fl a) (fl 0) = some (fl a) ∧ Ieee.double.add (fl 0) (fl a) = some (fl a) := by
  have h := okSub_eq
  simp only [okSub, List.all_eq_true, List.mem_range, beq_iff_eq, Bool.and_eq_true] at h
  exact h a ha
theorem fl_int {a : Nat} (ha : a < 145) : (FloatKind.f64.decode (fl a)).toInt .zero = some (a : Int) := by
  have h := okInt_eq
  simp only [okInt, List.all_eq_true, List.mem_range, beq_iff_eq] at h
  exact h a ha
theorem fl_of (n : Nat) : floatOfInt .f64 (n : Int) = fl n := by rw [floatOfInt, fl]
theorem fl_zero : fl 0 = 0 := by kernel_rfl
end Go.Proofs.Ytjegihodmidhoaa.G
namespace Go.Proofs.Ytjegihodmidhoaa.G
open Go.RowKit Go.Proofs.YtjegihodmidhoaaW.PrintWords Go.Proofs.YtjegihodmidhoaaW.PrintLast Go.Proofs.YtjegihodmidhoaaW.PrintMore
attribute [local go_sem] max2_int min2_int max_two min_two max_three min_three max_four min_four   -- for this text's walks alone
set_option linter.unusedVariables false
set_option linter.unusedSimpArgs false

/-! ### shape_At: function 101 -/
def shape_At.f (a0_0 : Int) (a0_1 : Int) (a0_2 : Int) (a1 : Int) (a2 : Int) (a3 : Int) : Option (Int) := (shape_Right.f a0_0 a0_1 a0_2).bind fun t408 => (if t408 = true then ((shape_within.f a1 0 (wrap64 (a0_0 - 1))).bind fun t409 => (if t409 = true then ((shape_within.f a2 0 (wrap64 (a0_1 - 1))).bind fun t410 => (if t410 = true then ((shape_within.f a3 0 (wrap64 (a0_2 - 1))).bind fun t411 => (if t411 = true then (some (wrap64 (a3 + (wrap64 (a0_2 * (wrap64 (a2 + (wrap64 (a0_1 * a1))))))))) else (some (-1)))) else (some (-1)))) else (some (-1)))) else (some (-1)))
set_option maxHeartbeats 8000000 in
set_option maxRecDepth 100000 in
theorem shape_At.calls (a0_0 : Int) (a0_1 : Int) (a0_2 : Int) (a1 : Int) (a2 : Int) (a3 : Int) (r : Int) (w : World) (h : shape_At.f a0_0 a0_1 a0_2 a1 a2 a3 = some r) :
    Calls Try.prog 101 #[.agg #[.int .i64 a0_0, .int .i64 a0_1, .int .i64 a0_2], .int .i64 a1, .int .i64 a2, .int .i64 a3] w fun e w' => e = .returned (.int .i64 r) ∧ Below w.heap.size w w' := by
  have hu23 := Try.underlying23
  have HB := Aside0.mk (Below.refl w.heap.size w)
  have H : ((shape_Right.f a0_0 a0_1 a0_2).bind fun t408 => (if t408 = true then ((shape_within.f a1 0 (wrap64 (a0_0 - 1))).bind fun t409 => (if t409 = true then ((shape_within.f a2 0 (wrap64 (a0_1 - 1))).bind fun t410 => (if t410 = true then ((shape_within.f a3 0 (wrap64 (a0_2 - 1))).bind fun t411 => (if t411 = true then (some (wrap64 (a3 + (wrap64 (a0_2 * (wrap64 (a2 + (wrap64 (a0_1 * a1))))))))) else (some (-1)))) else (some (-1)))) else (some (-1)))) else (some (-1)))) = some r := h
  clear h
  replace H := Option.bind_eq_some_iff.mp H
  obtain ⟨t408, A50, H⟩ := H
  replace H : (if t408 = true then ((shape_within.f a1 0 (wrap64 (a0_0 - 1))).bind fun t409 => (if t409 = true then ((shape_within.f a2 0 (wrap64 (a0_1 - 1))).bind fun t410 => (if t410 = true then ((shape_within.f a3 0 (wrap64 (a0_2 - 1))).bind fun t411 => (if t411 = true then (some (wrap64 (a3 + (wrap64 (a0_2 * (wrap64 (a2 + (wrap64 (a0_1 * a1))))))))) else (some (-1)))) else (some (-1)))) else (some (-1)))) else (some (-1))) = some r := H
  have A5 := Aside0.mk A50
  clear A50
  by_cases c6 : t408 = true
  · subst c6
    have H1 : ((shape_within.f a1 0 (wrap64 (a0_0 - 1))).bind fun t409 => (if t409 = true then ((shape_within.f a2 0 (wrap64 (a0_1 - 1))).bind fun t410 => (if t410 = true then ((shape_within.f a3 0 (wrap64 (a0_2 - 1))).bind fun t411 => (if t411 = true then (some (wrap64 (a3 + (wrap64 (a0_2 * (wrap64 (a2 + (wrap64 (a0_1 * a1))))))))) else (some (-1)))) else (some (-1)))) else (some (-1)))) = some r := by rw [if_pos rfl] at H; exact H
    clear H
    have H := H1
    clear H1
    replace H := Option.bind_eq_some_iff.mp H
    obtain ⟨t409, A70, H⟩ := H
    replace H : (if t409 = true then ((shape_within.f a2 0 (wrap64 (a0_1 - 1))).bind fun t410 => (if t410 = true then ((shape_within.f a3 0 (wrap64 (a0_2 - 1))).bind fun t411 => (if t411 = true then (some (wrap64 (a3 + (wrap64 (a0_2 * (wrap64 (a2 + (wrap64 (a0_1 * a1))))))))) else (some (-1)))) else (some (-1)))) else (some (-1))) = some r := H
    have A7 := Aside0.mk A70
    clear A70
    by_cases c8 : t409 = true
    · subst c8
      have H1 : ((shape_within.f a2 0 (wrap64 (a0_1 - 1))).bind fun t410 => (if t410 = true then ((shape_within.f a3 0 (wrap64 (a0_2 - 1))).bind fun t411 => (if t411 = true then (some (wrap64 (a3 + (wrap64 (a0_2 * (wrap64 (a2 + (wrap64 (a0_1 * a1))))))))) else (some (-1)))) else (some (-1)))) = some r := by rw [if_pos rfl] at H; exact H
      clear H
      have H := H1
      clear H1
      replace H := Option.bind_eq_some_iff.mp H
      obtain ⟨t410, A90, H⟩ := H
      replace H : (if t410 = true then ((shape_within.f a3 0 (wrap64 (a0_2 - 1))).bind fun t411 => (if t411 = true then (some (wrap64 (a3 + (wrap64 (a0_2 * (wrap64 (a2 + (wrap64 (a0_1 * a1))))))))) else (some (-1)))) else (some (-1))) = some r := H
      have A9 := Aside0.mk A90
      clear A90
      by_cases c10 : t410 = true
      · subst c10
        have H1 : ((shape_within.f a3 0 (wrap64 (a0_2 - 1))).bind fun t411 => (if t411 = true then (some (wrap64 (a3 + (wrap64 (a0_2 * (wrap64 (a2 + (wrap64 (a0_1 * a1))))))))) else (some (-1)))) = some r := by rw [if_pos rfl] at H; exact H
        clear H
        have H := H1
        clear H1
        replace H := Option.bind_eq_some_iff.mp H
        obtain ⟨t411, A110, H⟩ := H
        replace H : (if t411 = true then (some (wrap64 (a3 + (wrap64 (a0_2 * (wrap64 (a2 + (wrap64 (a0_1 * a1))))))))) else (some (-1))) = some r := H
        have A11 := Aside0.mk A110
        clear A110
        by_cases c12 : t411 = true
        · subst c12
          have H1 : (some (wrap64 (a3 + (wrap64 (a0_2 * (wrap64 (a2 + (wrap64 (a0_1 * a1))))))))) = some r := by rw [if_pos rfl] at H; exact H
          clear H
          have H := H1
          clear H1
          obtain rfl := Option.some.inj H
          go_enter Try.func101, Try.ntmps101
          go_wp2_with (first | ((with_reducible refine gate_dst (N := 4) rfl ?_); refine box_event ?hg (N := 4) ?hd (cs := #[.int .i64 a0_0, .int .i64 a0_1, .int .i64 a0_2]) (t := 23) ?hr ?_; (case hd => rfl); (case hg => rfl); (case hr => first | (go_simp; done) | (go_simp; rfl)); intro gb407 hg w13 hbox hb; have n0_ := Aside0.mk (below_step (by repeat (first | (with_reducible first | exact HB.out | apply below_alloc | apply pw_below_drewN | apply below_drew1) | exact HB.out)) hb); have n1_ := Aside0.mk (hbox); have n2_ := Aside0.mk ((by rw [hg]; exact (below_size (by repeat (first | (with_reducible first | exact HB.out | apply below_alloc | apply pw_below_drewN | apply below_drew1) | exact HB.out))) : w.heap.size ≤ gb407)); have n3_ := Aside0.mk ((by rw [hg]; exact (below_size (by repeat (first | (with_reducible first | exact HB.out | apply below_alloc | apply pw_below_drewN | apply below_drew1) | exact HB.out))) : w.heap.size ≤ gb407)); clear HB; have HB := n0_; have BK407 := n1_; have GW407 := n2_; have GE407 := n3_; clear n0_ n1_ n2_ n3_; clear hb hbox hg; have hcz14_0 : w13.cell? ⟨gb407, 0, none⟩ = some (.int .i64 a0_0) := (blk_cell BK407.out 0).trans rfl; have hcz14_1 : w13.cell? ⟨gb407, 1, none⟩ = some (.int .i64 a0_1) := (blk_cell BK407.out 1).trans rfl; have hcz14_2 : w13.cell? ⟨gb407, 2, none⟩ = some (.int .i64 a0_2) := (blk_cell BK407.out 2).trans rfl; have hfz14_0 := blk_frozen BK407.out 0; have hfz14_1 := blk_frozen BK407.out 1; have hfz14_2 := blk_frozen BK407.out 2) | ((with_reducible refine gate_callee (f := 59) rfl ?_); refine goesL_ (some 10) rfl rfl Try.func59 (by kernel_rfl) rfl #[.agg #[.int .i64 a0_0, .int .i64 a0_1, .int .i64 a0_2]] rfl (by (try simp only [List.map_toArray, List.map_cons, List.map_nil]); first | done | rfl | (simp only [List.length_drop, List.length_take]; rfl)) ?_; (with_reducible refine (shape_Right.calls a0_0 a0_1 a0_2 true _ A5.out).mono ?_); rintro e w15 ⟨rfl, hb⟩; refine ⟨_, rfl, ?_⟩; have n0_ := Aside0.mk (blk_below (g := gb407) (o := .cells #[.int .i64 a0_0, .int .i64 a0_1, .int .i64 a0_2] 23 (0, 0)) (by (with_reducible repeat (first | refine blk_drewN ?_ _ | refine blk_drew ?_ | refine blk_alloc ?_ _)); exact BK407.out) hb); have n1_ := Aside0.mk (below_step (by repeat (first | (with_reducible first | exact HB.out | apply below_alloc | apply pw_below_drewN | apply below_drew1 | refine below_set ?_ GE407.out) | exact HB.out)) hb); clear BK407; clear HB; have BK407 := n0_; have HB := n1_; clear n0_ n1_; (try clear hb); (try clear hb2); (try clear hk); (try clear hi); have hcz16_0 : w15.cell? ⟨gb407, 0, none⟩ = some (.int .i64 a0_0) := (blk_cell BK407.out 0).trans rfl; have hcz16_1 : w15.cell? ⟨gb407, 1, none⟩ = some (.int .i64 a0_1) := (blk_cell BK407.out 1).trans rfl; have hcz16_2 : w15.cell? ⟨gb407, 2, none⟩ = some (.int .i64 a0_2) := (blk_cell BK407.out 2).trans rfl; have hfz16_0 := blk_frozen BK407.out 0; have hfz16_1 := blk_frozen BK407.out 1; have hfz16_2 := blk_frozen BK407.out 2) | (go_at_call 72; (with_reducible refine (shape_within.calls a1 0 (wrap64 (a0_0 - 1)) true _ A7.out).mono ?_); rintro e w' ⟨rfl, ⟨nd, rfl⟩⟩) | (go_at_call 72; (with_reducible refine (shape_within.calls a2 0 (wrap64 (a0_1 - 1)) true _ A9.out).mono ?_); rintro e w' ⟨rfl, ⟨nd, rfl⟩⟩) | (go_at_call 72; (with_reducible refine (shape_within.calls a3 0 (wrap64 (a0_2 - 1)) true _ A11.out).mono ?_); rintro e w' ⟨rfl, ⟨nd, rfl⟩⟩))
          go_ret
          exact ⟨by first | rfl | (simp [errW_none, errW_some] <;> rfl) | (simp [*, errW_none, errW_some] <;> rfl), by repeat (first | (with_reducible first | exact HB.out | apply below_alloc | apply pw_below_drewN | apply below_drew1 | refine below_set ?_ GE407.out) | exact HB.out)⟩
        · replace c12 := Bool.eq_false_iff.mpr c12
          subst c12
          have H1 : (some (-1)) = some r := by rw [if_neg (show ¬ (false = true) by decide)] at H; exact H
          clear H
          have H := H1
          clear H1
          obtain rfl := Option.some.inj H
          go_enter Try.func101, Try.ntmps101
          go_wp2_with (first | ((with_reducible refine gate_dst (N := 4) rfl ?_); refine box_event ?hg (N := 4) ?hd (cs := #[.int .i64 a0_0, .int .i64 a0_1, .int .i64 a0_2]) (t := 23) ?hr ?_; (case hd => rfl); (case hg => rfl); (case hr => first | (go_simp; done) | (go_simp; rfl)); intro gb407 hg w17 hbox hb; have n0_ := Aside0.mk (below_step (by repeat (first | (with_reducible first | exact HB.out | apply below_alloc | apply pw_below_drewN | apply below_drew1) | exact HB.out)) hb); have n1_ := Aside0.mk (hbox); have n2_ := Aside0.mk ((by rw [hg]; exact (below_size (by repeat (first | (with_reducible first | exact HB.out | apply below_alloc | apply pw_below_drewN | apply below_drew1) | exact HB.out))) : w.heap.size ≤ gb407)); have n3_ := Aside0.mk ((by rw [hg]; exact (below_size (by repeat (first | (with_reducible first | exact HB.out | apply below_alloc | apply pw_below_drewN | apply below_drew1) | exact HB.out))) : w.heap.size ≤ gb407)); clear HB; have HB := n0_; have BK407 := n1_; have GW407 := n2_; have GE407 := n3_; clear n0_ n1_ n2_ n3_; clear hb hbox hg; have hcz18_0 : w17.cell? ⟨gb407, 0, none⟩ = some (.int .i64 a0_0) := (blk_cell BK407.out 0).trans rfl; have hcz18_1 : w17.cell? ⟨gb407, 1, none⟩ = some (.int .i64 a0_1) := (blk_cell BK407.out 1).trans rfl; have hcz18_2 : w17.cell? ⟨gb407, 2, none⟩ = some (.int .i64 a0_2) := (blk_cell BK407.out 2).trans rfl; have hfz18_0 := blk_frozen BK407.out 0; have hfz18_1 := blk_frozen BK407.out 1; have hfz18_2 := blk_frozen BK407.out 2) | ((with_reducible refine gate_callee (f := 59) rfl ?_); refine goesL_ (some 10) rfl rfl Try.func59 (by kernel_rfl) rfl #[.agg #[.int .i64 a0_0, .int .i64 a0_1, .int .i64 a0_2]] rfl (by (try simp only [List.map_toArray, List.map_cons, List.map_nil]); first | done | rfl | (simp only [List.length_drop, List.length_take]; rfl)) ?_; (with_reducible refine (shape_Right.calls a0_0 a0_1 a0_2 true _ A5.out).mono ?_); rintro e w19 ⟨rfl, hb⟩; refine ⟨_, rfl, ?_⟩; have n0_ := Aside0.mk (blk_below (g := gb407) (o := .cells #[.int .i64 a0_0, .int .i64 a0_1, .int .i64 a0_2] 23 (0, 0)) (by (with_reducible repeat (first | refine blk_drewN ?_ _ | refine blk_drew ?_ | refine blk_alloc ?_ _)); exact BK407.out) hb); have n1_ := Aside0.mk (below_step (by repeat (first | (with_reducible first | exact HB.out | apply below_alloc | apply pw_below_drewN | apply below_drew1 | refine below_set ?_ GE407.out) | exact HB.out)) hb); clear BK407; clear HB; have BK407 := n0_; have HB := n1_; clear n0_ n1_; (try clear hb); (try clear hb2); (try clear hk); (try clear hi); have hcz20_0 : w19.cell? ⟨gb407, 0, none⟩ = some (.int .i64 a0_0) := (blk_cell BK407.out 0).trans rfl; have hcz20_1 : w19.cell? ⟨gb407, 1, none⟩ = some (.int .i64 a0_1) := (blk_cell BK407.out 1).trans rfl; have hcz20_2 : w19.cell? ⟨gb407, 2, none⟩ = some (.int .i64 a0_2) := (blk_cell BK407.out 2).trans rfl; have hfz20_0 := blk_frozen BK407.out 0; have hfz20_1 := blk_frozen BK407.out 1; have hfz20_2 := blk_frozen BK407.out 2) | (go_at_call 72; (with_reducible refine (shape_within.calls a1 0 (wrap64 (a0_0 - 1)) true _ A7.out).mono ?_); rintro e w' ⟨rfl, ⟨nd, rfl⟩⟩) | (go_at_call 72; (with_reducible refine (shape_within.calls a2 0 (wrap64 (a0_1 - 1)) true _ A9.out).mono ?_); rintro e w' ⟨rfl, ⟨nd, rfl⟩⟩) | (go_at_call 72; (with_reducible refine (shape_within.calls a3 0 (wrap64 (a0_2 - 1)) false _ A11.out).mono ?_); rintro e w' ⟨rfl, ⟨nd, rfl⟩⟩))
          go_ret
          exact ⟨by first | rfl | (simp [errW_none, errW_some] <;> rfl) | (simp [*, errW_none, errW_some] <;> rfl), by repeat (first | (with_reducible first | exact HB.out | apply below_alloc | apply pw_below_drewN | apply below_drew1 | refine below_set ?_ GE407.out) | exact HB.out)⟩
      · replace c10 := Bool.eq_false_iff.mpr c10
        subst c10
        have H1 : (some (-1)) = some r := by rw [if_neg (show ¬ (false = true) by decide)] at H; exact H
        clear H
        have H := H1
        clear H1
        obtain rfl := Option.some.inj H
        go_enter Try.func101, Try.ntmps101
        go_wp2_with (first | ((with_reducible refine gate_dst (N := 4) rfl ?_); refine box_event ?hg (N := 4) ?hd (cs := #[.int .i64 a0_0, .int .i64 a0_1, .int .i64 a0_2]) (t := 23) ?hr ?_; (case hd => rfl); (case hg => rfl); (case hr => first | (go_simp; done) | (go_simp; rfl)); intro gb407 hg w21 hbox hb; have n0_ := Aside0.mk (below_step (by repeat (first | (with_reducible first | exact HB.out | apply below_alloc | apply pw_below_drewN | apply below_drew1) | exact HB.out)) hb); have n1_ := Aside0.mk (hbox); have n2_ := Aside0.mk ((by rw [hg]; exact (below_size (by repeat (first | (with_reducible first | exact HB.out | apply below_alloc | apply pw_below_drewN | apply below_drew1) | exact HB.out))) : w.heap.size ≤ gb407)); have n3_ := Aside0.mk ((by rw [hg]; exact (below_size (by repeat (first | (with_reducible first | exact HB.out | apply below_alloc | apply pw_below_drewN | apply below_drew1) | exact HB.out))) : w.heap.size ≤ gb407)); clear HB; have HB := n0_; have BK407 := n1_; have GW407 := n2_; have GE407 := n3_; clear n0_ n1_ n2_ n3_; clear hb hbox hg; have hcz22_0 : w21.cell? ⟨gb407, 0, none⟩ = some (.int .i64 a0_0) := (blk_cell BK407.out 0).trans rfl; have hcz22_1 : w21.cell? ⟨gb407, 1, none⟩ = some (.int .i64 a0_1) := (blk_cell BK407.out 1).trans rfl; have hcz22_2 : w21.cell? ⟨gb407, 2, none⟩ = some (.int .i64 a0_2) := (blk_cell BK407.out 2).trans rfl; have hfz22_0 := blk_frozen BK407.out 0; have hfz22_1 := blk_frozen BK407.out 1; have hfz22_2 := blk_frozen BK407.out 2) | ((with_reducible refine gate_callee (f := 59) rfl ?_); refine goesL_ (some 10) rfl rfl Try.func59 (by kernel_rfl) rfl #[.agg #[.int .i64 a0_0, .int .i64 a0_1, .int .i64 a0_2]] rfl (by (try simp only [List.map_toArray, List.map_cons, List.map_nil]); first | done | rfl | (simp only [List.length_drop, List.length_take]; rfl)) ?_; (with_reducible refine (shape_Right.calls a0_0 a0_1 a0_2 true _ A5.out).mono ?_); rintro e w23 ⟨rfl, hb⟩; refine ⟨_, rfl, ?_⟩; have n0_ := Aside0.mk (blk_below (g := gb407) (o := .cells #[.int .i64 a0_0, .int .i64 a0_1, .int .i64 a0_2] 23 (0, 0)) (by (with_reducible repeat (first | refine blk_drewN ?_ _ | refine blk_drew ?_ | refine blk_alloc ?_ _)); exact BK407.out) hb); have n1_ := Aside0.mk (below_step (by repeat (first | (with_reducible first | exact HB.out | apply below_alloc | apply pw_below_drewN | apply below_drew1 | refine below_set ?_ GE407.out) | exact HB.out)) hb); clear BK407; clear HB; have BK407 := n0_; have HB := n1_; clear n0_ n1_; (try clear hb); (try clear hb2); (try clear hk); (try clear hi); have hcz24_0 : w23.cell? ⟨gb407, 0, none⟩ = some (.int .i64 a0_0) := (blk_cell BK407.out 0).trans rfl; have hcz24_1 : w23.cell? ⟨gb407, 1, none⟩ = some (.int .i64 a0_1) := (blk_cell BK407.out 1).trans rfl; have hcz24_2 : w23.cell? ⟨gb407, 2, none⟩ = some (.int .i64 a0_2) := (blk_cell BK407.out 2).trans rfl; have hfz24_0 := blk_frozen BK407.out 0; have hfz24_1 := blk_frozen BK407.out 1; have hfz24_2 := blk_frozen BK407.out 2) | (go_at_call 72; (with_reducible refine (shape_within.calls a1 0 (wrap64 (a0_0 - 1)) true _ A7.out).mono ?_); rintro e w' ⟨rfl, ⟨nd, rfl⟩⟩) | (go_at_call 72; (with_reducible refine (shape_within.calls a2 0 (wrap64 (a0_1 - 1)) false _ A9.out).mono ?_); rintro e w' ⟨rfl, ⟨nd, rfl⟩⟩))
        go_ret
        exact ⟨by first | rfl | (simp [errW_none, errW_some] <;> rfl) | (simp [*, errW_none, errW_some] <;> rfl), by repeat (first | (with_reducible first | exact HB.out | apply below_alloc | apply pw_below_drewN | apply below_drew1 | refine below_set ?_ GE407.out) | exact HB.out)⟩
    · replace c8 := Bool.eq_false_iff.mpr c8
      subst c8
      have H1 : (some (-1)) = some r := by rw [if_neg (show ¬ (false = true) by decide)] at H; exact H
      clear H
      have H := H1
      clear H1
      obtain rfl := Option.some.inj H
      go_enter Try.func101, Try.ntmps101
      go_wp2_with (first | ((with_reducible refine gate_dst (N := 4) rfl ?_); refine box_event ?hg (N := 4) ?hd (cs := #[.int .i64 a0_0, .int .i64 a0_1, .int .i64 a0_2]) (t := 23) ?hr ?_; (case hd => rfl); (case hg => rfl); (case hr => first | (go_simp; done) | (go_simp; rfl)); intro gb407 hg w25 hbox hb; have n0_ := Aside0.mk (below_step (by repeat (first | (with_reducible first | exact HB.out | apply below_alloc | apply pw_below_drewN | apply below_drew1) | exact HB.out)) hb); have n1_ := Aside0.mk (hbox); have n2_ := Aside0.mk ((by rw [hg]; exact (below_size (by repeat (first | (with_reducible first | exact HB.out | apply below_alloc | apply pw_below_drewN | apply below_drew1) | exact HB.out))) : w.heap.size ≤ gb407)); have n3_ := Aside0.mk ((by rw [hg]; exact (below_size (by repeat (first | (with_reducible first | exact HB.out | apply below_alloc | apply pw_below_drewN | apply below_drew1) | exact HB.out))) : w.heap.size ≤ gb407)); clear HB; have HB := n0_; have BK407 := n1_; have GW407 := n2_; have GE407 := n3_; clear n0_ n1_ n2_ n3_; clear hb hbox hg; have hcz26_0 : w25.cell? ⟨gb407, 0, none⟩ = some (.int .i64 a0_0) := (blk_cell BK407.out 0).trans rfl; have hcz26_1 : w25.cell? ⟨gb407, 1, none⟩ = some (.int .i64 a0_1) := (blk_cell BK407.out 1).trans rfl; have hcz26_2 : w25.cell? ⟨gb407, 2, none⟩ = some (.int .i64 a0_2) := (blk_cell BK407.out 2).trans rfl; have hfz26_0 := blk_frozen BK407.out 0; have hfz26_1 := blk_frozen BK407.out 1; have hfz26_2 := blk_frozen BK407.out 2) | ((with_reducible refine gate_callee (f := 59) rfl ?_); refine goesL_ (some 10) rfl rfl Try.func59 (by kernel_rfl) rfl #[.agg #[.int .i64 a0_0, .int .i64 a0_1, .int .i64 a0_2]] rfl (by (try simp only [List.map_toArray, List.map_cons, List.map_nil]); first | done | rfl | (simp only [List.length_drop, List.length_take]; rfl)) ?_; (with_reducible refine (shape_Right.calls a0_0 a0_1 a0_2 true _ A5.out).mono ?_); rintro e w27 ⟨rfl, hb⟩; refine ⟨_, rfl, ?_⟩; have n0_ := Aside0.mk (blk_below (g := gb407) (o := .cells #[.int .i64 a0_0, .int .i64 a0_1, .int .i64 a0_2] 23 (0, 0)) (by (with_reducible repeat (first | refine blk_drewN ?_ _ | refine blk_drew ?_ | refine blk_alloc ?_ _)); exact BK407.out) hb); have n1_ := Aside0.mk (below_step (by repeat (first | (with_reducible first | exact HB.out | apply below_alloc | apply pw_below_drewN | apply below_drew1 | refine below_set ?_ GE407.out) | exact HB.out)) hb); clear BK407; clear HB; have BK407 := n0_; have HB := n1_; clear n0_ n1_; (try clear hb); (try clear hb2); (try clear hk); (try clear hi); have hcz28_0 : w27.cell? ⟨gb407, 0, none⟩ = some (.int .i64 a0_0) := (blk_cell BK407.out 0).trans rfl; have hcz28_1 : w27.cell? ⟨gb407, 1, none⟩ = some (.int .i64 a0_1) := (blk_cell BK407.out 1).trans rfl; have hcz28_2 : w27.cell? ⟨gb407, 2, none⟩ = some (.int .i64 a0_2) := (blk_cell BK407.out 2).trans rfl; have hfz28_0 := blk_frozen BK407.out 0; have hfz28_1 := blk_frozen BK407.out 1; have hfz28_2 := blk_frozen BK407.out 2) | (go_at_call 72; (with_reducible refine (shape_within.calls a1 0 (wrap64 (a0_0 - 1)) false _ A7.out).mono ?_); rintro e w' ⟨rfl, ⟨nd, rfl⟩⟩))
      go_ret
      exact ⟨by first | rfl | (simp [errW_none, errW_some] <;> rfl) | (simp [*, errW_none, errW_some] <;> rfl), by repeat (first | (with_reducible first | exact HB.out | apply below_alloc | apply pw_below_drewN | apply below_drew1 | refine below_set ?_ GE407.out) | exact HB.out)⟩
  · replace c6 := Bool.eq_false_iff.mpr c6
    subst c6
    have H1 : (some (-1)) = some r := by rw [if_neg (show ¬ (false = true) by decide)] at H; exact H
    clear H
    have H := H1
    clear H1
    obtain rfl := Option.some.inj H
    go_enter Try.func101, Try.ntmps101
    go_wp2_with (first | ((with_reducible refine gate_dst (N := 4) rfl ?_); refine box_event ?hg (N := 4) ?hd (cs := #[.int .i64 a0_0, .int .i64 a0_1, .int .i64 a0_2]) (t := 23) ?hr ?_; (case hd => rfl); (case hg => rfl); (case hr => first | (go_simp; done) | (go_simp; rfl)); intro gb407 hg w29 hbox hb; have n0_ := Aside0.mk (below_step (by repeat (first | (with_reducible first | exact HB.out | apply below_alloc | apply pw_below_drewN | apply below_drew1) | exact HB.out)) hb); have n1_ := Aside0.mk (hbox); have n2_ := Aside0.mk ((by rw [hg]; exact (below_size (by repeat (first | (with_reducible first | exact HB.out | apply below_alloc | apply pw_below_drewN | apply below_drew1) | exact HB.out))) : w.heap.size ≤ gb407)); have n3_ := Aside0.mk ((by rw [hg]; exact (below_size (by repeat (first | (with_reducible first | exact HB.out | apply below_alloc | apply pw_below_drewN | apply below_drew1) | exact HB.out))) : w.heap.size ≤ gb407)); clear HB; have HB := n0_; have BK407 := n1_; have GW407 := n2_; have GE407 := n3_; clear n0_ n1_ n2_ n3_; clear hb hbox hg; have hcz30_0 : w29.cell? ⟨gb407, 0, none⟩ = some (.int .i64 a0_0) := (blk_cell BK407.out 0).trans rfl; have hcz30_1 : w29.cell? ⟨gb407, 1, none⟩ = some (.int .i64 a0_1) := (blk_cell BK407.out 1).trans rfl; have hcz30_2 : w29.cell? ⟨gb407, 2, none⟩ = some (.int .i64 a0_2) := (blk_cell BK407.out 2).trans rfl; have hfz30_0 := blk_frozen BK407.out 0; have hfz30_1 := blk_frozen BK407.out 1; have hfz30_2 := blk_frozen BK407.out 2) | ((with_reducible refine gate_callee (f := 59) rfl ?_); refine goesL_ (some 10) rfl rfl Try.func59 (by kernel_rfl) rfl #[.agg #[.int .i64 a0_0, .int .i64 a0_1, .int .i64 a0_2]] rfl (by (try simp only [List.map_toArray, List.map_cons, List.map_nil]); first | done | rfl | (simp only [List.length_drop, List.length_take]; rfl)) ?_; (with_reducible refine (shape_Right.calls a0_0 a0_1 a0_2 false _ A5.out).mono ?_); rintro e w31 ⟨rfl, hb⟩; refine ⟨_, rfl, ?_⟩; have n0_ := Aside0.mk (blk_below (g := gb407) (o := .cells #[.int .i64 a0_0, .int .i64 a0_1, .int .i64 a0_2] 23 (0, 0)) (by (with_reducible repeat (first | refine blk_drewN ?_ _ | refine blk_drew ?_ | refine blk_alloc ?_ _)); exact BK407.out) hb); have n1_ := Aside0.mk (below_step (by repeat (first | (with_reducible first | exact HB.out | apply below_alloc | apply pw_below_drewN | apply below_drew1 | refine below_set ?_ GE407.out) | exact HB.out)) hb); clear BK407; clear HB; have BK407 := n0_; have HB := n1_; clear n0_ n1_; (try clear hb); (try clear hb2); (try clear hk); (try clear hi)))
    go_ret
    exact ⟨by first | rfl | (simp [errW_none, errW_some] <;> rfl) | (simp [*, errW_none, errW_some] <;> rfl), by repeat (first | (with_reducible first | exact HB.out | apply below_alloc | apply pw_below_drewN | apply below_drew1 | refine below_set ?_ GE407.out) | exact HB.out)⟩

end Go.Proofs.Ytjegihodmidhoaa.G
namespace Go.Proofs.Ytjegihodmidhoaa.G
open Go.RowKit Go.Proofs.YtjegihodmidhoaaW.PrintWords Go.Proofs.YtjegihodmidhoaaW.PrintLast Go.Proofs.YtjegihodmidhoaaW.PrintMore
attribute [local go_sem] max2_int min2_int max_two min_two max_three min_three max_four min_four   -- for this text's walks alone
set_option linter.unusedVariables false
set_option linter.unusedSimpArgs false

/-! ### shape_Of: function 94 -/
def shape_Of.f (a0_0 : Int) (a0_1 : Int) (a0_2 : Int) (a1 : Int) : Option (Int × Int × Int × Bool) := (shape_Size.f a0_0 a0_1 a0_2).bind fun t413 => ((shape_within.f a1 0 (wrap64 (t413 - 1))).bind fun t414 => (if t414 = true then (if a0_2 = 0 then (none) else (if a0_1 = 0 then (none) else (some (wrap64 (Int.tdiv (wrap64 (Int.tdiv a1 a0_2)) a0_1), Int.tmod (wrap64 (Int.tdiv a1 a0_2)) a0_1, Int.tmod a1 a0_2, true)))) else (some (0, 0, 0, false))))
set_option maxHeartbeats 8000000 in
set_option maxRecDepth 100000 in
theorem shape_Of.calls (a0_0 : Int) (a0_1 : Int) (a0_2 : Int) (a1 : Int) (r1 : Int) (r2 : Int) (r3 : Int) (r4 : Bool) (w : World) (h : shape_Of.f a0_0 a0_1 a0_2 a1 = some (r1, r2, r3, r4)) :
    Calls Try.prog 94 #[.agg #[.int .i64 a0_0, .int .i64 a0_1, .int .i64 a0_2], .int .i64 a1] w fun e w' => e = .returned (.tuple #[.int .i64 r1, .int .i64 r2, .int .i64 r3, .bool r4]) ∧ Below w.heap.size w w' := by
  have hu23 := Try.underlying23
  have HB := Aside0.mk (Below.refl w.heap.size w)
  have H : ((shape_Size.f a0_0 a0_1 a0_2).bind fun t413 => ((shape_within.f a1 0 (wrap64 (t413 - 1))).bind fun t414 => (if t414 = true then (if a0_2 = 0 then (none) else (if a0_1 = 0 then (none) else (some (wrap64 (Int.tdiv (wrap64 (Int.tdiv a1 a0_2)) a0_1), Int.tmod (wrap64 (Int.tdiv a1 a0_2)) a0_1, Int.tmod a1 a0_2, true)))) else (some (0, 0, 0, false))))) = some (r1, r2, r3, r4) := h
  clear h
  replace H := Option.bind_eq_some_iff.mp H
  obtain ⟨t413, A30, H⟩ := H
  replace H : ((shape_within.f a1 0 (wrap64 (t413 - 1))).bind fun t414 => (if t414 = true then (if a0_2 = 0 then (none) else (if a0_1 = 0 then (none) else (some (wrap64 (Int.tdiv (wrap64 (Int.tdiv a1 a0_2)) a0_1), Int.tmod (wrap64 (Int.tdiv a1 a0_2)) a0_1, Int.tmod a1 a0_2, true)))) else (some (0, 0, 0, false)))) = some (r1, r2, r3, r4) := H
  have A3 := Aside0.mk A30
  clear A30
  replace H := Option.bind_eq_some_iff.mp H
  obtain ⟨t414, A40, H⟩ := H
  replace H : (if t414 = true then (if a0_2 = 0 then (none) else (if a0_1 = 0 then (none) else (some (wrap64 (Int.tdiv (wrap64 (Int.tdiv a1 a0_2)) a0_1), Int.tmod (wrap64 (Int.tdiv a1 a0_2)) a0_1, Int.tmod a1 a0_2, true)))) else (some (0, 0, 0, false))) = some (r1, r2, r3, r4) := H
  have A4 := Aside0.mk A40
  clear A40
  by_cases c5 : t414 = true
  · subst c5
    have H1 : (if a0_2 = 0 then (none) else (if a0_1 = 0 then (none) else (some (wrap64 (Int.tdiv (wrap64 (Int.tdiv a1 a0_2)) a0_1), Int.tmod (wrap64 (Int.tdiv a1 a0_2)) a0_1, Int.tmod a1 a0_2, true)))) = some (r1, r2, r3, r4) := by rw [if_pos rfl] at H; exact H
    clear H
    have H := H1
    clear H1
    by_cases c6 : a0_2 = 0
    · rw [if_pos c6] at H
      exact absurd H (by simp)
    · rw [if_neg c6] at H
      have c6b0 : (a0_2 == 0) = false := beq_eq_false_iff_ne.mpr c6
      have c6b1 : (a0_2 != 0) = true := bne_iff_ne.mpr c6
      by_cases c7 : a0_1 = 0
      · rw [if_pos c7] at H
        exact absurd H (by simp)
      · rw [if_neg c7] at H
        have c7b0 : (a0_1 == 0) = false := beq_eq_false_iff_ne.mpr c7
        have c7b1 : (a0_1 != 0) = true := bne_iff_ne.mpr c7
        simp only [Option.some.injEq, Prod.mk.injEq] at H
        obtain ⟨rfl, rfl, rfl, rfl⟩ := H
        go_enter Try.func94, Try.ntmps94
        go_wp2_with (first | ((with_reducible refine gate_dst (N := 2) rfl ?_); refine box_event ?hg (N := 2) ?hd (cs := #[.int .i64 a0_0, .int .i64 a0_1, .int .i64 a0_2]) (t := 23) ?hr ?_; (case hd => rfl); (case hg => rfl); (case hr => first | (go_simp; done) | (go_simp; rfl)); intro gb412 hg w8 hbox hb; have n0_ := Aside0.mk (below_step (by repeat (first | (with_reducible first | exact HB.out | apply below_alloc | apply pw_below_drewN | apply below_drew1) | exact HB.out)) hb); have n1_ := Aside0.mk (hbox); have n2_ := Aside0.mk ((by rw [hg]; exact (below_size (by repeat (first | (with_reducible first | exact HB.out | apply below_alloc | apply pw_below_drewN | apply below_drew1) | exact HB.out))) : w.heap.size ≤ gb412)); have n3_ := Aside0.mk ((by rw [hg]; exact (below_size (by repeat (first | (with_reducible first | exact HB.out | apply below_alloc | apply pw_below_drewN | apply below_drew1) | exact HB.out))) : w.heap.size ≤ gb412)); clear HB; have HB := n0_; have BK412 := n1_; have GW412 := n2_; have GE412 := n3_; clear n0_ n1_ n2_ n3_; clear hb hbox hg; have hcz9_0 : w8.cell? ⟨gb412, 0, none⟩ = some (.int .i64 a0_0) := (blk_cell BK412.out 0).trans rfl; have hcz9_1 : w8.cell? ⟨gb412, 1, none⟩ = some (.int .i64 a0_1) := (blk_cell BK412.out 1).trans rfl; have hcz9_2 : w8.cell? ⟨gb412, 2, none⟩ = some (.int .i64 a0_2) := (blk_cell BK412.out 2).trans rfl; have hfz9_0 := blk_frozen BK412.out 0; have hfz9_1 := blk_frozen BK412.out 1; have hfz9_2 := blk_frozen BK412.out 2) | (go_at_call 40; (with_reducible refine (shape_Size.calls a0_0 a0_1 a0_2 t413 _ A3.out).mono ?_); rintro e w10 ⟨rfl, hb⟩; have n0_ := Aside0.mk (blk_below (g := gb412) (o := .cells #[.int .i64 a0_0, .int .i64 a0_1, .int .i64 a0_2] 23 (0, 0)) (by (with_reducible repeat (first | refine blk_drewN ?_ _ | refine blk_drew ?_ | refine blk_alloc ?_ _)); exact BK412.out) hb); have n1_ := Aside0.mk (below_step (by repeat (first | (with_reducible first | exact HB.out | apply below_alloc | apply pw_below_drewN | apply below_drew1 | refine below_set ?_ GE412.out) | exact HB.out)) hb); clear BK412; clear HB; have BK412 := n0_; have HB := n1_; clear n0_ n1_; (try clear hb); (try clear hb2); (try clear hk); (try clear hi)) | (go_at_call 72; (with_reducible refine (shape_within.calls a1 0 (wrap64 (t413 - 1)) true _ A4.out).mono ?_); rintro e w' ⟨rfl, ⟨nd, rfl⟩⟩; (try first | exact ⟨rfl, _, World.drewN_drewN _ _ _⟩ | exact ⟨rfl, _, Eq.trans (World.drewN_drewN _ _ _) (congrArg (World.drewN _) (Nat.add_assoc _ _ _))⟩); have hcz11_0 : w10.cell? ⟨gb412, 0, none⟩ = some (.int .i64 a0_0) := (blk_cell BK412.out 0).trans rfl; have hcz11_1 : w10.cell? ⟨gb412, 1, none⟩ = some (.int .i64 a0_1) := (blk_cell BK412.out 1).trans rfl; have hcz11_2 : w10.cell? ⟨gb412, 2, none⟩ = some (.int .i64 a0_2) := (blk_cell BK412.out 2).trans rfl; have hfz11_0 := blk_frozen BK412.out 0; have hfz11_1 := blk_frozen BK412.out 1; have hfz11_2 := blk_frozen BK412.out 2))
        repeat (go_quiet (first | ((with_reducible refine gate_dst (N := 2) rfl ?_); refine box_event ?hg (N := 2) ?hd (cs := #[.int .i64 a0_0, .int .i64 a0_1, .int .i64 a0_2]) (t := 23) ?hr ?_; (case hd => rfl); (case hg => rfl); (case hr => first | (go_simp; done) | (go_simp; rfl)); intro gb412 hg w8 hbox hb; have n0_ := Aside0.mk (below_step (by repeat (first | (with_reducible first | exact HB.out | apply below_alloc | apply pw_below_drewN | apply below_drew1) | exact HB.out)) hb); have n1_ := Aside0.mk (hbox); have n2_ := Aside0.mk ((by rw [hg]; exact (below_size (by repeat (first | (with_reducible first | exact HB.out | apply below_alloc | apply pw_below_drewN | apply below_drew1) | exact HB.out))) : w.heap.size ≤ gb412)); have n3_ := Aside0.mk ((by rw [hg]; exact (below_size (by repeat (first | (with_reducible first | exact HB.out | apply below_alloc | apply pw_below_drewN | apply below_drew1) | exact HB.out))) : w.heap.size ≤ gb412)); clear HB; have HB := n0_; have BK412 := n1_; have GW412 := n2_; have GE412 := n3_; clear n0_ n1_ n2_ n3_; clear hb hbox hg; have hcz9_0 : w8.cell? ⟨gb412, 0, none⟩ = some (.int .i64 a0_0) := (blk_cell BK412.out 0).trans rfl; have hcz9_1 : w8.cell? ⟨gb412, 1, none⟩ = some (.int .i64 a0_1) := (blk_cell BK412.out 1).trans rfl; have hcz9_2 : w8.cell? ⟨gb412, 2, none⟩ = some (.int .i64 a0_2) := (blk_cell BK412.out 2).trans rfl; have hfz9_0 := blk_frozen BK412.out 0; have hfz9_1 := blk_frozen BK412.out 1; have hfz9_2 := blk_frozen BK412.out 2) | (go_at_call 40; (with_reducible refine (shape_Size.calls a0_0 a0_1 a0_2 t413 _ A3.out).mono ?_); rintro e w10 ⟨rfl, hb⟩; have n0_ := Aside0.mk (blk_below (g := gb412) (o := .cells #[.int .i64 a0_0, .int .i64 a0_1, .int .i64 a0_2] 23 (0, 0)) (by (with_reducible repeat (first | refine blk_drewN ?_ _ | refine blk_drew ?_ | refine blk_alloc ?_ _)); exact BK412.out) hb); have n1_ := Aside0.mk (below_step (by repeat (first | (with_reducible first | exact HB.out | apply below_alloc | apply pw_below_drewN | apply below_drew1 | refine below_set ?_ GE412.out) | exact HB.out)) hb); clear BK412; clear HB; have BK412 := n0_; have HB := n1_; clear n0_ n1_; (try clear hb); (try clear hb2); (try clear hk); (try clear hi)) | (go_at_call 72; (with_reducible refine (shape_within.calls a1 0 (wrap64 (t413 - 1)) true _ A4.out).mono ?_); rintro e w' ⟨rfl, ⟨nd, rfl⟩⟩; (try first | exact ⟨rfl, _, World.drewN_drewN _ _ _⟩ | exact ⟨rfl, _, Eq.trans (World.drewN_drewN _ _ _) (congrArg (World.drewN _) (Nat.add_assoc _ _ _))⟩); have hcz11_0 : w10.cell? ⟨gb412, 0, none⟩ = some (.int .i64 a0_0) := (blk_cell BK412.out 0).trans rfl; have hcz11_1 : w10.cell? ⟨gb412, 1, none⟩ = some (.int .i64 a0_1) := (blk_cell BK412.out 1).trans rfl; have hcz11_2 : w10.cell? ⟨gb412, 2, none⟩ = some (.int .i64 a0_2) := (blk_cell BK412.out 2).trans rfl; have hfz11_0 := blk_frozen BK412.out 0; have hfz11_1 := blk_frozen BK412.out 1; have hfz11_2 := blk_frozen BK412.out 2)); try go_wp2_with (first | ((with_reducible refine gate_dst (N := 2) rfl ?_); refine box_event ?hg (N := 2) ?hd (cs := #[.int .i64 a0_0, .int .i64 a0_1, .int .i64 a0_2]) (t := 23) ?hr ?_; (case hd => rfl); (case hg => rfl); (case hr => first | (go_simp; done) | (go_simp; rfl)); intro gb412 hg w8 hbox hb; have n0_ := Aside0.mk (below_step (by repeat (first | (with_reducible first | exact HB.out | apply below_alloc | apply pw_below_drewN | apply below_drew1) | exact HB.out)) hb); have n1_ := Aside0.mk (hbox); have n2_ := Aside0.mk ((by rw [hg]; exact (below_size (by repeat (first | (with_reducible first | exact HB.out | apply below_alloc | apply pw_below_drewN | apply below_drew1) | exact HB.out))) : w.heap.size ≤ gb412)); have n3_ := Aside0.mk ((by rw [hg]; exact (below_size (by repeat (first | (with_reducible first | exact HB.out | apply below_alloc | apply pw_below_drewN | apply below_drew1) | exact HB.out))) : w.heap.size ≤ gb412)); clear HB; have HB := n0_; have BK412 := n1_; have GW412 := n2_; have GE412 := n3_; clear n0_ n1_ n2_ n3_; clear hb hbox hg; have hcz9_0 : w8.cell? ⟨gb412, 0, none⟩ = some (.int .i64 a0_0) := (blk_cell BK412.out 0).trans rfl; have hcz9_1 : w8.cell? ⟨gb412, 1, none⟩ = some (.int .i64 a0_1) := (blk_cell BK412.out 1).trans rfl; have hcz9_2 : w8.cell? ⟨gb412, 2, none⟩ = some (.int .i64 a0_2) := (blk_cell BK412.out 2).trans rfl; have hfz9_0 := blk_frozen BK412.out 0; have hfz9_1 := blk_frozen BK412.out 1; have hfz9_2 := blk_frozen BK412.out 2) | (go_at_call 40; (with_reducible refine (shape_Size.calls a0_0 a0_1 a0_2 t413 _ A3.out).mono ?_); rintro e w10 ⟨rfl, hb⟩; have n0_ := Aside0.mk (blk_below (g := gb412) (o := .cells #[.int .i64 a0_0, .int .i64 a0_1, .int .i64 a0_2] 23 (0, 0)) (by (with_reducible repeat (first | refine blk_drewN ?_ _ | refine blk_drew ?_ | refine blk_alloc ?_ _)); exact BK412.out) hb); have n1_ := Aside0.mk (below_step (by repeat (first | (with_reducible first | exact HB.out | apply below_alloc | apply pw_below_drewN | apply below_drew1 | refine below_set ?_ GE412.out) | exact HB.out)) hb); clear BK412; clear HB; have BK412 := n0_; have HB := n1_; clear n0_ n1_; (try clear hb); (try clear hb2); (try clear hk); (try clear hi)) | (go_at_call 72; (with_reducible refine (shape_within.calls a1 0 (wrap64 (t413 - 1)) true _ A4.out).mono ?_); rintro e w' ⟨rfl, ⟨nd, rfl⟩⟩; (try first | exact ⟨rfl, _, World.drewN_drewN _ _ _⟩ | exact ⟨rfl, _, Eq.trans (World.drewN_drewN _ _ _) (congrArg (World.drewN _) (Nat.add_assoc _ _ _))⟩); have hcz11_0 : w10.cell? ⟨gb412, 0, none⟩ = some (.int .i64 a0_0) := (blk_cell BK412.out 0).trans rfl; have hcz11_1 : w10.cell? ⟨gb412, 1, none⟩ = some (.int .i64 a0_1) := (blk_cell BK412.out 1).trans rfl; have hcz11_2 : w10.cell? ⟨gb412, 2, none⟩ = some (.int .i64 a0_2) := (blk_cell BK412.out 2).trans rfl; have hfz11_0 := blk_frozen BK412.out 0; have hfz11_1 := blk_frozen BK412.out 1; have hfz11_2 := blk_frozen BK412.out 2)))
        refine bodyPost_ret (results_list (rs := [.tmp 4, .tmp 5, .tmp 6, .tmp 7]) rfl (by simp) (.tmp (.tmp (.tmp (.tmp .nil))))) rfl ?_
        exact ⟨by first | rfl | (simp [errW_none, errW_some] <;> rfl) | (simp [*, errW_none, errW_some] <;> rfl), by repeat (first | (with_reducible first | exact HB.out | apply below_alloc | apply pw_below_drewN | apply below_drew1 | refine below_set ?_ GE412.out) | exact HB.out)⟩
  · replace c5 := Bool.eq_false_iff.mpr c5
    subst c5
    have H1 : (some (0, 0, 0, false)) = some (r1, r2, r3, r4) := by rw [if_neg (show ¬ (false = true) by decide)] at H; exact H
    clear H
    have H := H1
    clear H1
    simp only [Option.some.injEq, Prod.mk.injEq] at H
    obtain ⟨rfl, rfl, rfl, rfl⟩ := H
    go_enter Try.func94, Try.ntmps94
    go_wp2_with (first | ((with_reducible refine gate_dst (N := 2) rfl ?_); refine box_event ?hg (N := 2) ?hd (cs := #[.int .i64 a0_0, .int .i64 a0_1, .int .i64 a0_2]) (t := 23) ?hr ?_; (case hd => rfl); (case hg => rfl); (case hr => first | (go_simp; done) | (go_simp; rfl)); intro gb412 hg w12 hbox hb; have n0_ := Aside0.mk (below_step (by repeat (first | (with_reducible first | exact HB.out | apply below_alloc | apply pw_below_drewN | apply below_drew1) | exact HB.out)) hb); have n1_ := Aside0.mk (hbox); have n2_ := Aside0.mk ((by rw [hg]; exact (below_size (by repeat (first | (with_reducible first | exact HB.out | apply below_alloc | apply pw_below_drewN | apply below_drew1) | exact HB.out))) : w.heap.size ≤ gb412)); have n3_ := Aside0.mk ((by rw [hg]; exact (below_size (by repeat (first | (with_reducible first | exact HB.out | apply below_alloc | apply pw_below_drewN | apply below_drew1) | exact HB.out))) : w.heap.size ≤ gb412)); clear HB; have HB := n0_; have BK412 := n1_; have GW412 := n2_; have GE412 := n3_; clear n0_ n1_ n2_ n3_; clear hb hbox hg; have hcz13_0 : w12.cell? ⟨gb412, 0, none⟩ = some (.int .i64 a0_0) := (blk_cell BK412.out 0).trans rfl; have hcz13_1 : w12.cell? ⟨gb412, 1, none⟩ = some (.int .i64 a0_1) := (blk_cell BK412.out 1).trans rfl; have hcz13_2 : w12.cell? ⟨gb412, 2, none⟩ = some (.int .i64 a0_2) := (blk_cell BK412.out 2).trans rfl; have hfz13_0 := blk_frozen BK412.out 0; have hfz13_1 := blk_frozen BK412.out 1; have hfz13_2 := blk_frozen BK412.out 2) | (go_at_call 40; (with_reducible refine (shape_Size.calls a0_0 a0_1 a0_2 t413 _ A3.out).mono ?_); rintro e w14 ⟨rfl, hb⟩; have n0_ := Aside0.mk (blk_below (g := gb412) (o := .cells #[.int .i64 a0_0, .int .i64 a0_1, .int .i64 a0_2] 23 (0, 0)) (by (with_reducible repeat (first | refine blk_drewN ?_ _ | refine blk_drew ?_ | refine blk_alloc ?_ _)); exact BK412.out) hb); have n1_ := Aside0.mk (below_step (by repeat (first | (with_reducible first | exact HB.out | apply below_alloc | apply pw_below_drewN | apply below_drew1 | refine below_set ?_ GE412.out) | exact HB.out)) hb); clear BK412; clear HB; have BK412 := n0_; have HB := n1_; clear n0_ n1_; (try clear hb); (try clear hb2); (try clear hk); (try clear hi)) | (go_at_call 72; (with_reducible refine (shape_within.calls a1 0 (wrap64 (t413 - 1)) false _ A4.out).mono ?_); rintro e w' ⟨rfl, ⟨nd, rfl⟩⟩; (try first | exact ⟨rfl, _, World.drewN_drewN _ _ _⟩ | exact ⟨rfl, _, Eq.trans (World.drewN_drewN _ _ _) (congrArg (World.drewN _) (Nat.add_assoc _ _ _))⟩)))
    repeat (go_quiet (first | ((with_reducible refine gate_dst (N := 2) rfl ?_); refine box_event ?hg (N := 2) ?hd (cs := #[.int .i64 a0_0, .int .i64 a0_1, .int .i64 a0_2]) (t := 23) ?hr ?_; (case hd => rfl); (case hg => rfl); (case hr => first | (go_simp; done) | (go_simp; rfl)); intro gb412 hg w12 hbox hb; have n0_ := Aside0.mk (below_step (by repeat (first | (with_reducible first | exact HB.out | apply below_alloc | apply pw_below_drewN | apply below_drew1) | exact HB.out)) hb); have n1_ := Aside0.mk (hbox); have n2_ := Aside0.mk ((by rw [hg]; exact (below_size (by repeat (first | (with_reducible first | exact HB.out | apply below_alloc | apply pw_below_drewN | apply below_drew1) | exact HB.out))) : w.heap.size ≤ gb412)); have n3_ := Aside0.mk ((by rw [hg]; exact (below_size (by repeat (first | (with_reducible first | exact HB.out | apply below_alloc | apply pw_below_drewN | apply below_drew1) | exact HB.out))) : w.heap.size ≤ gb412)); clear HB; have HB := n0_; have BK412 := n1_; have GW412 := n2_; have GE412 := n3_; clear n0_ n1_ n2_ n3_; clear hb hbox hg; have hcz13_0 : w12.cell? ⟨gb412, 0, none⟩ = some (.int .i64 a0_0) := (blk_cell BK412.out 0).trans rfl; have hcz13_1 : w12.cell? ⟨gb412, 1, none⟩ = some (.int .i64 a0_1) := (blk_cell BK412.out 1).trans rfl; have hcz13_2 : w12.cell? ⟨gb412, 2, none⟩ = some (.int .i64 a0_2) := (blk_cell BK412.out 2).trans rfl; have hfz13_0 := blk_frozen BK412.out 0; have hfz13_1 := blk_frozen BK412.out 1; have hfz13_2 := blk_frozen BK412.out 2) | (go_at_call 40; (with_reducible refine (shape_Size.calls a0_0 a0_1 a0_2 t413 _ A3.out).mono ?_); rintro e w14 ⟨rfl, hb⟩; have n0_ := Aside0.mk (blk_below (g := gb412) (o := .cells #[.int .i64 a0_0, .int .i64 a0_1, .int .i64 a0_2] 23 (0, 0)) (by (with_reducible repeat (first | refine blk_drewN ?_ _ | refine blk_drew ?_ | refine blk_alloc ?_ _)); exact BK412.out) hb); have n1_ := Aside0.mk (below_step (by repeat (first | (with_reducible first | exact HB.out | apply below_alloc | apply pw_below_drewN | apply below_drew1 | refine below_set ?_ GE412.out) | exact HB.out)) hb); clear BK412; clear HB; have BK412 := n0_; have HB := n1_; clear n0_ n1_; (try clear hb); (try clear hb2); (try clear hk); (try clear hi)) | (go_at_call 72; (with_reducible refine (shape_within.calls a1 0 (wrap64 (t413 - 1)) false _ A4.out).mono ?_); rintro e w' ⟨rfl, ⟨nd, rfl⟩⟩; (try first | exact ⟨rfl, _, World.drewN_drewN _ _ _⟩ | exact ⟨rfl, _, Eq.trans (World.drewN_drewN _ _ _) (congrArg (World.drewN _) (Nat.add_assoc _ _ _))⟩))); try go_wp2_with (first | ((with_reducible refine gate_dst (N := 2) rfl ?_); refine box_event ?hg (N := 2) ?hd (cs := #[.int .i64 a0_0, .int .i64 a0_1, .int .i64 a0_2]) (t := 23) ?hr ?_; (case hd => rfl); (case hg => rfl); (case hr => first | (go_simp; done) | (go_simp; rfl)); intro gb412 hg w12 hbox hb; have n0_ := Aside0.mk (below_step (by repeat (first | (with_reducible first | exact HB.out | apply below_alloc | apply pw_below_drewN | apply below_drew1) | exact HB.out)) hb); have n1_ := Aside0.mk (hbox); have n2_ := Aside0.mk ((by rw [hg]; exact (below_size (by repeat (first | (with_reducible first | exact HB.out | apply below_alloc | apply pw_below_drewN | apply below_drew1) | exact HB.out))) : w.heap.size ≤ gb412)); have n3_ := Aside0.mk ((by rw [hg]; exact (below_size (by repeat (first | (with_reducible first | exact HB.out | apply below_alloc | apply pw_below_drewN | apply below_drew1) | exact HB.out))) : w.heap.size ≤ gb412)); clear HB; have HB := n0_; have BK412 := n1_; have GW412 := n2_; have GE412 := n3_; clear n0_ n1_ n2_ n3_; clear hb hbox hg; have hcz13_0 : w12.cell? ⟨gb412, 0, none⟩ = some (.int .i64 a0_0) := (blk_cell BK412.out 0).trans rfl; have hcz13_1 : w12.cell? ⟨gb412, 1, none⟩ = some (.int .i64 a0_1) := (blk_cell BK412.out 1).trans rfl; have hcz13_2 : w12.cell? ⟨gb412, 2, none⟩ = some (.int .i64 a0_2) := (blk_cell BK412.out 2).trans rfl; have hfz13_0 := blk_frozen BK412.out 0; have hfz13_1 := blk_frozen BK412.out 1; have hfz13_2 := blk_frozen BK412.out 2) | (go_at_call 40; (with_reducible refine (shape_Size.calls a0_0 a0_1 a0_2 t413 _ A3.out).mono ?_); rintro e w14 ⟨rfl, hb⟩; have n0_ := Aside0.mk (blk_below (g := gb412) (o := .cells #[.int .i64 a0_0, .int .i64 a0_1, .int .i64 a0_2] 23 (0, 0)) (by (with_reducible repeat (first | refine blk_drewN ?_ _ | refine blk_drew ?_ | refine blk_alloc ?_ _)); exact BK412.out) hb); have n1_ := Aside0.mk (below_step (by repeat (first | (with_reducible first | exact HB.out | apply below_alloc | apply pw_below_drewN | apply below_drew1 | refine below_set ?_ GE412.out) | exact HB.out)) hb); clear BK412; clear HB; have BK412 := n0_; have HB := n1_; clear n0_ n1_; (try clear hb); (try clear hb2); (try clear hk); (try clear hi)) | (go_at_call 72; (with_reducible refine (shape_within.calls a1 0 (wrap64 (t413 - 1)) false _ A4.out).mono ?_); rintro e w' ⟨rfl, ⟨nd, rfl⟩⟩; (try first | exact ⟨rfl, _, World.drewN_drewN _ _ _⟩ | exact ⟨rfl, _, Eq.trans (World.drewN_drewN _ _ _) (congrArg (World.drewN _) (Nat.add_assoc _ _ _))⟩))))
    refine bodyPost_ret (results_list (rs := [.tmp 4, .tmp 5, .tmp 6, .tmp 7]) rfl (by simp) (.tmp (.tmp (.tmp (.tmp .nil))))) rfl ?_
    exact ⟨by first | rfl | (simp [errW_none, errW_some] <;> rfl) | (simp [*, errW_none, errW_some] <;> rfl), by repeat (first | (with_reducible first | exact HB.out | apply below_alloc | apply pw_below_drewN | apply below_drew1 | refine below_set ?_ GE412.out) | exact HB.out)⟩

end Go.Proofs.Ytjegihodmidhoaa.G
namespace Go.Proofs.Ytjegihodmidhoaa.G
open Go.RowKit Go.Proofs.YtjegihodmidhoaaW.PrintWords Go.Proofs.YtjegihodmidhoaaW.PrintLast Go.Proofs.YtjegihodmidhoaaW.PrintMore
set_option linter.unusedVariables false
set_option linter.unusedSimpArgs false
theorem place_calls (y x : Nat) (w : World) : Calls Try.prog 100 #[.int .i64 y, .int .i64 x] w fun e w' => e = .returned (.complex .f64 (fl x) (fl y)) ∧ w = w' := by
  have hu := Try.underlying146
  have h1 := run_convert_int_float (P := Try.prog) (w := w) 3 146 .i64 .f64 x (by simp [go_sem, Try.underlying3]) Try.underlying146
  have h2 := run_convert_int_float (P := Try.prog) (w := w) 3 146 .i64 .f64 y (by simp [go_sem, Try.underlying3]) Try.underlying146
  rw [fl_of] at h1 h2
  go_enter Try.func100, Try.ntmps100
  go_wp2_with fail
  go_ret
  exact ⟨rfl, rfl⟩
theorem cmul {y x s : Nat} (hy : y < 12) (hx : x < 12) (hs : s < 13) : cMulBits (fl x) (fl y) (fl s) (fl 0) = some (fl (x * s), fl (y * s)) := by
  have a1 : floatBits .mul .f64 (fl x) (fl s) = some (fl (x * s)) := fl_mul (by omega) hs
  have a2 : floatBits .mul .f64 (fl y) (fl 0) = some (fl 0) := (fl_mul (by omega) (by omega)).trans (by rw [Nat.mul_zero])
  have a4 : floatBits .mul .f64 (fl x) (fl 0) = some (fl 0) := (fl_mul (by omega) (by omega)).trans (by rw [Nat.mul_zero])
  have a5 : floatBits .mul .f64 (fl y) (fl s) = some (fl (y * s)) := fl_mul (by omega) hs
  have b1 : x * s < 133 := Nat.lt_succ_of_le (Nat.mul_le_mul (by omega : x ≤ 11) (by omega : s ≤ 12))
  have b2 : y * s < 133 := Nat.lt_succ_of_le (Nat.mul_le_mul (by omega : y ≤ 11) (by omega : s ≤ 12))
  have a3 : floatBits .sub .f64 (fl (x * s)) (fl 0) = some (fl (x * s)) := (fl_sub b1).1
  have a6 : floatBits .add .f64 (fl 0) (fl (y * s)) = some (fl (y * s)) := (fl_sub b2).2
  simp only [cMulBits, a1, a2, a3, a4, a5, a6, Option.bind_some]
theorem csum {a b y x : Nat} (ha : a < 133) (hb : b < 133) (hy : y < 13) (hx : x < 13) : cSumBits .add .f64 (fl a) (fl b) (fl x) (fl y) = some (fl (a + x), fl (b + y)) := by
  have a1 : floatBits .add .f64 (fl a) (fl x) = some (fl (a + x)) := fl_add ha hx
  have a2 : floatBits .add .f64 (fl b) (fl y) = some (fl (b + y)) := fl_add hb hy
  simp only [cSumBits, a1, a2, Option.bind_some]
theorem times_calls (y x s : Nat) (hy : y < 12) (hx : x < 12) (hs : s < 13) (w : World) : Calls Try.prog 96 #[.int .i64 y, .int .i64 x, .int .i64 s] w fun e w' => e = .returned (.complex .f64 (fl (x * s)) (fl (y * s))) ∧ w = w' := by
  have hu := Try.underlying146
  have h1 := run_convert_int_float (P := Try.prog) (w := w) 3 146 .i64 .f64 s (by simp [go_sem, Try.underlying3]) Try.underlying146
  rw [fl_of] at h1
  have h2 := run_complex_mul (P := Try.prog) w 141 _ _ _ _ _ _ (cmul hy hx hs)
  rw [fl_zero] at h2
  go_enter Try.func96, Try.ntmps96
  go_wp2_with (go_at_call 100; refine (place_calls y x _).mono ?_; rintro e w' ⟨rfl, rfl⟩)
  go_ret
  exact ⟨rfl, rfl⟩
theorem at_calls (a b c : Int) (q : Int) (y x : Nat) (hy : y < 145) (hx : x < 145) (r : Int) (w : World) (h : shape_At.f a b c q y x = some r) :
    Calls Try.prog 98 #[.agg #[.int .i64 a, .int .i64 b, .int .i64 c], .int .i64 q, .complex .f64 (fl x) (fl y)] w fun e w' => e = .returned (.int .i64 r) ∧ Below w.heap.size w w' := by
  have hu := Try.underlying146
  have hu23 := Try.underlying23
  have hv : ∀ {n : Nat}, n < 145 → floatToIntVal .f64 (fl n) .i64 = some (n : Int) := by
    intro n hn
    have h := fl_int hn
    simp only [floatToIntVal, h]
    have e1 : IntKind.i64.min = -9223372036854775808 := by kernel_rfl
    have e2 : IntKind.i64.max = 9223372036854775807 := by kernel_rfl
    rw [if_pos (by rw [e1, e2]; omega)]
  have h1 : ∀ w, (convert 146 3 (.float .f64 (fl y))).run Try.prog w = .ok (.int .i64 y) w := fun w => run_convert_float_int (P := Try.prog) (w := w) 146 3 .f64 .i64 _ _ (by simp [hu]) Try.underlying3 (hv hy)
  have h2 : ∀ w, (convert 146 3 (.float .f64 (fl x))).run Try.prog w = .ok (.int .i64 x) w := fun w => run_convert_float_int (P := Try.prog) (w := w) 146 3 .f64 .i64 _ _ (by simp [hu]) Try.underlying3 (hv hx)
  go_enter Try.func98, Try.ntmps98
  go_wp2_with fail
  refine (shape_At.calls a b c q y x r _ h).mono ?_
  rintro e w1 ⟨rfl, hb⟩
  go_wp2_with fail
  go_ret
  exact ⟨rfl, below_then (below_alloc (Below.refl _ _) _) (by simp) hb⟩
end Go.Proofs.Ytjegihodmidhoaa.G
namespace Go.Proofs.Ytjegihodmidhoaa.G
open Go.RowKit Go.Proofs.YtjegihodmidhoaaW.PrintWords Go.Proofs.YtjegihodmidhoaaW.PrintLast Go.Proofs.YtjegihodmidhoaaW.PrintMore
set_option linter.unusedVariables false
set_option linter.unusedSimpArgs false
theorem info91h : (Try.prog.info? 91).map (fun i => (i.zero, i.size, i.bytes)) = some (some (.agg #[.int .i64 0, .int .i64 0]), 2, 16) := by kernel_rfl
theorem append91 {ops : Array Oper} {o : Oper} {a : Act} {Q : Exit → Act → World → Prop} {Kc : Act → World → Prop} {B w W : World} {xs : List S91} {p : S91} {v : Value} {sl : Nat}
    (hw : Region.wanted o (yielded ops a.tmps) = true) (ho : o.op = .call { callee := .builtin .append, args := #[.tmp 8, .tmp 35], argTypes := #[88, 88] })
    (hs : a.eval (.tmp 8) = v) (hx : a.eval (.tmp 35) = .slice (some ⟨W.heap.size, 0, none⟩) 1 1) (HO : Kd.R k91 91 W B.heap.size (fun _ => True) v xs) (HB : Below B.heap.size B W) (hl : (xs.length + 1) * 16 ≤ 140737488355328)
    (h : ∀ v1 w1, Kd.R k91 91 w1 B.heap.size (fun _ => True) v1 (xs ++ [p]) → Below B.heap.size B w1 → W.grownBy w1 v.ownBlock → Kc (a.put o.dst v1) w1) :
    if Region.wanted o (yielded ops a.tmps) = true then Oper.wp Try.prog o a (W.alloc (.cells #[.int .i64 p.f0, .int .i64 p.f1] 91)) Kc Q else Kc (a.put o.dst undef) (W.alloc (.cells #[.int .i64 p.f0, .int .i64 p.f1] 91)) :=
  Kd.R_append_step k91 (w0 := B) (W := W) B.heap.size hw (.tmp 8) (.tmp 35) 88 91 _ 16 ho Try.underlying88 info91h rfl (show 0 < 2 by decide) (by decide) v xs p [.int .i64 p.f0, .int .i64 p.f1] (fun _ => True) (fun _ => False) hs hx (k91_mkM _ _ _ p) (fun _ h => h.elim) (fun _ _ => trivial) HO HB HB.size hl
    (fun v1 w1 h1 h2 h3 _ => h v1 w1 h1 h2 h3)
theorem append91r {ops : Array Oper} {o : Oper} {a : Act} {Q : Exit → Act → World → Prop} {Kc : Act → World → Prop} {B W : World} {xs : List S91} {r t : Int} {v : Value}
    (HO : Kd.R k91 91 W B.heap.size (fun _ => True) v xs) (HB : Below B.heap.size B W) (hl : (xs.length + 1) * 16 ≤ 140737488355328)
    (hw : Region.wanted o (yielded ops a.tmps) = true) (ho : o.op = .call { callee := .builtin .append, args := #[.tmp 8, .tmp 35], argTypes := #[88, 88] })
    (hs : a.eval (.tmp 8) = v) (hx : a.eval (.tmp 35) = .slice (some ⟨W.heap.size, 0, none⟩) 1 1)
    (h : ∀ v1 w1, Kd.R k91 91 w1 B.heap.size (fun _ => True) v1 (xs ++ [⟨r, t⟩]) → Below B.heap.size B w1 → W.grownBy w1 v.ownBlock → Kc (a.put o.dst v1) w1) :
    if Region.wanted o (yielded ops a.tmps) = true then Oper.wp Try.prog o a (W.alloc (.cells #[.int .i64 r, .int .i64 t] 91)) Kc Q else Kc (a.put o.dst undef) (W.alloc (.cells #[.int .i64 r, .int .i64 t] 91)) :=
  append91 (B := B) (w := B) (p := ⟨r, t⟩) (sl := 0) hw ho hs hx HO HB hl h
theorem R_slice91 {w : World} {B : Nat} {v : Value} {xs : List S91} {p : S91} (h : Kd.R k91 91 w B (fun _ => True) v (xs ++ [p])) : ∃ (A : Option Addr) (c : Nat), v = .slice A (xs.length + 1) c := by
  obtain ⟨A, c, h⟩ := Kd.R_slice h
  exact ⟨A, c, by rw [h, List.length_append]; rfl⟩
/-- A look's cells. -/
def lookCs (l0 l1 l2 l3 i0 i1 i2 o0 o1 o2 wt : Int) : Array Value := #[.int .i64 l0, .int .i64 l1, .int .i64 l2, .int .i64 l3, .int .i64 i0, .int .i64 i1, .int .i64 i2, .int .i64 o0, .int .i64 o1, .int .i64 o2, .int .i64 wt]
section
variable (l0 l1 l2 l3 i0 i1 i2 o0 o1 o2 wt c o : Int) (B : World) (go gl gc gr : Nat)
def termW (k : Int) : Int := IntKind.i64.wrap (IntKind.i64.wrap (wt + IntKind.i64.wrap (IntKind.i64.wrap (IntKind.i64.wrap (IntKind.i64.wrap (o * i0) + c) * l2) * l2)) + k)
structure ConvSt (xs : List S91) (W : World) : Prop where
  row : ∃ A cap, W.heap[go]? = some (.cells #[.slice A xs.length cap] 88 (0, 0)) ∧ Kd.R k91 91 W B.heap.size (fun _ => True) (.slice A xs.length cap) xs
  look : W.heap[gl]? = some (.cells #[.int .i64 l0, .int .i64 l1, .int .i64 l2, .int .i64 l3, .int .i64 i0, .int .i64 i1, .int .i64 i2, .int .i64 o0, .int .i64 o1, .int .i64 o2, .int .i64 wt] 134 (0, 0))
  chan : W.heap[gc]? = some (.cells #[.int .i64 c] 3 (0, 0))
  outc : W.heap[gr]? = some (.cells #[.int .i64 o] 3 (0, 0))
  below : Below B.heap.size B W
  ne : (B.heap.size ≤ go ∧ B.heap.size ≤ gl ∧ B.heap.size ≤ gc ∧ B.heap.size ≤ gr) ∧ go ≠ gl ∧ go ≠ gc ∧ go ≠ gr
variable {l0 l1 l2 l3 i0 i1 i2 o0 o1 o2 wt c o B go gl gc gr} in
theorem ConvSt.push {xs : List S91} {t : S91} {w4 : World} {v : Value} {A2 : Option Addr} {c2 : Nat} (hO : w4.heap[go]? = some (.cells #[v] 88 (0, 0)))
    (hL : w4.heap[gl]? = some (.cells #[.int .i64 l0, .int .i64 l1, .int .i64 l2, .int .i64 l3, .int .i64 i0, .int .i64 i1, .int .i64 i2, .int .i64 o0, .int .i64 o1, .int .i64 o2, .int .i64 wt] 134 (0, 0)))
    (hC : w4.heap[gc]? = some (.cells #[.int .i64 c] 3 (0, 0))) (hR : w4.heap[gr]? = some (.cells #[.int .i64 o] 3 (0, 0)))
    (hx : Kd.R k91 91 w4 B.heap.size (fun _ => True) (.slice A2 (xs.length + 1) c2) (xs ++ [t])) (hB : Below B.heap.size B w4)
    (ne : (B.heap.size ≤ go ∧ B.heap.size ≤ gl ∧ B.heap.size ≤ gc ∧ B.heap.size ≤ gr) ∧ go ≠ gl ∧ go ≠ gc ∧ go ≠ gr) :
    ConvSt l0 l1 l2 l3 i0 i1 i2 o0 o1 o2 wt c o B go gl gc gr (xs ++ [t]) (w4.setCell ⟨go, 0, none⟩ (.slice A2 (xs.length + 1) c2)) where
  row := ⟨A2, c2, by rw [List.length_append]; exact blk_set hO 0 _, by rw [List.length_append]; exact Kd.R_set hx hO (by decide) 0 _⟩
  look := blk_far hL (p := ⟨go, 0, none⟩) ne.2.1.symm _
  chan := blk_far hC (p := ⟨go, 0, none⟩) ne.2.2.1.symm _
  outc := blk_far hR (p := ⟨go, 0, none⟩) ne.2.2.2.symm _
  below := below_set hB ne.1.1
  ne := ne
set_option maxRecDepth 100000 in
set_option maxHeartbeats 4000000 in
theorem cl97 (k : Int) (y x : Nat) (hy : y < 145) (hx : x < 145) (r : Int) (xs : List S91) (hl : (xs.length + 1) * 16 ≤ 140737488355328) (W : World) (hst : ConvSt l0 l1 l2 l3 i0 i1 i2 o0 o1 o2 wt c o B go gl gc gr xs W) (h : shape_At.f i0 i1 i2 c y x = some r) :
    Calls Try.prog 97 #[.int .i64 k, .complex .f64 (fl x) (fl y), .pointer (some ⟨go, 0, none⟩), .pointer (some ⟨gl, 0, none⟩), .pointer (some ⟨gc, 0, none⟩), .pointer (some ⟨gr, 0, none⟩)] W fun e w' =>
      e = .returned (.tuple #[]) ∧ ConvSt l0 l1 l2 l3 i0 i1 i2 o0 o1 o2 wt c o B go gl gc gr (xs ++ [⟨r, termW l2 i0 wt c o k⟩]) w' := by
  have hu134 := Try.underlying134
  have hu63 := Try.underlying63
  have hu23 := Try.underlying23
  have hu91 := Try.underlying91
  have ST := Aside0.mk hst
  clear hst
  obtain ⟨A, cap, hO, hR⟩ := ST.out.row
  have HO := Aside0.mk hO
  have HRR := Aside0.mk hR
  clear hO hR
  have L0 := Aside0.mk ST.out.look
  have C0 := Aside0.mk ST.out.chan
  have R0 := Aside0.mk ST.out.outc
  have e2 := (blk_cell L0.out 2).trans rfl
  have e4 := (blk_cell L0.out 4).trans rfl
  have e5 := (blk_cell L0.out 5).trans rfl
  have e6 := (blk_cell L0.out 6).trans rfl
  have e10 := (blk_cell L0.out 10).trans rfl
  have ec := (blk_cell C0.out 0).trans rfl
  have er := (blk_cell R0.out 0).trans rfl
  have eo := (blk_cell HO.out 0).trans rfl
  obtain ⟨⟨m0, m1, m2, m3⟩, n1, n2, n3⟩ := ST.out.ne
  have n1' : ¬ gl = go := fun h => n1 h.symm
  have n2' : ¬ gc = go := fun h => n2 h.symm
  have n3' : ¬ gr = go := fun h => n3 h.symm
  go_enter Try.func97, Try.ntmps97
  refine wp_region_held_drew (S := (fun w' => w'.cell? ⟨gl, 2, none⟩ = some (.int .i64 l2) ∧ w'.cell? ⟨gl, 4, none⟩ = some (.int .i64 i0) ∧ w'.cell? ⟨gl, 5, none⟩ = some (.int .i64 i1) ∧ w'.cell? ⟨gl, 6, none⟩ = some (.int .i64 i2) ∧ w'.cell? ⟨gl, 10, none⟩ = some (.int .i64 wt) ∧ w'.cell? ⟨gc, 0, none⟩ = some (.int .i64 c) ∧ w'.cell? ⟨gr, 0, none⟩ = some (.int .i64 o))) (by kernel_rfl) ?_ (fun hHeld => ?_)
  · ((try dsimp only); (first | exact ⟨e2, e4, e5, e6, e10, ec, er⟩ | exact ⟨f2, f4, f5, f6, f10, fc, fr⟩ | exact ⟨g2, g4, g5, g6, g10, gcc, grr⟩ | go_keep))
  refine wpAnyH_take (i := 1) (oi := ({ dst := some 9, op := Op.fieldAddr 134 (Operand.tmp 3) 1, type := 0, pos := "terms.go:52", after := #[], guard := none } : Oper)) (v := ?vv1) rfl (by kernel_rfl) (by kernel_rfl) (by kernel_rfl) (fun _ _ _ h => h) (Or.inl ⟨by rfl, ?hy1⟩) (by assumption) ?re1
  case hy1 => (intro w hSw; (try dsimp only at hSw); go_simp <;> (with_reducible rfl))
  try simp only [Act.put, List.setIfInBounds_toArray, List.set_cons_zero, List.set_cons_succ]
  refine wpAnyH_take (i := 2) (oi := ({ dst := some 10, op := Op.load 23 (Operand.tmp 9), type := 23, pos := "terms.go:52", after := #[{ on := 1, ground := Ground.data }], guard := none } : Oper)) (v := ?vv2) rfl (by kernel_rfl) (by kernel_rfl) (by kernel_rfl) (fun _ _ _ h => h) (Or.inl ⟨by rfl, ?hy2⟩) (by assumption) ?re2
  case hy2 => (intro w hSw; (try dsimp only at hSw); go_simp <;> (with_reducible rfl))
  try simp only [Act.put, List.setIfInBounds_toArray, List.set_cons_zero, List.set_cons_succ]
  refine wpAnyH_take (i := 3) (oi := ({ dst := some 11, op := Op.load 3 (Operand.tmp 4), type := 3, pos := "terms.go:52", after := #[], guard := none } : Oper)) (v := ?vv3) rfl (by kernel_rfl) (by kernel_rfl) (by kernel_rfl) (fun _ _ _ h => h) (Or.inl ⟨by rfl, ?hy3⟩) (by assumption) ?re3
  case hy3 => (intro w hSw; (try dsimp only at hSw); go_simp <;> (with_reducible rfl))
  try simp only [Act.put, List.setIfInBounds_toArray, List.set_cons_zero, List.set_cons_succ]
  refine wpAnyH_take (i := 4) (oi := ({ dst := some 12, op := Op.move (Operand.tmp 1), type := 141, pos := "terms.go:52", after := #[], guard := none } : Oper)) (v := ?vv4) rfl (by kernel_rfl) (by kernel_rfl) (by kernel_rfl) (fun _ _ _ h => h) (Or.inl ⟨by rfl, ?hy4⟩) (by assumption) ?re4
  case hy4 => (intro w hSw; (try dsimp only at hSw); go_simp <;> (with_reducible rfl))
  try simp only [Act.put, List.setIfInBounds_toArray, List.set_cons_zero, List.set_cons_succ]
  refine wpAnyH_take (i := 6) (oi := ({ dst := some 14, op := Op.fieldAddr 134 (Operand.tmp 3) 3, type := 0, pos := "terms.go:52", after := #[], guard := none } : Oper)) (v := ?vv5) rfl (by kernel_rfl) (by kernel_rfl) (by kernel_rfl) (fun _ _ _ h => h) (Or.inl ⟨by rfl, ?hy5⟩) (by assumption) ?re5
  case hy5 => (intro w hSw; (try dsimp only at hSw); go_simp <;> (with_reducible rfl))
  try simp only [Act.put, List.setIfInBounds_toArray, List.set_cons_zero, List.set_cons_succ]
  refine wpAnyH_take (i := 7) (oi := ({ dst := some 15, op := Op.load 3 (Operand.tmp 14), type := 3, pos := "terms.go:52", after := #[{ on := 6, ground := Ground.data }], guard := none } : Oper)) (v := ?vv6) rfl (by kernel_rfl) (by kernel_rfl) (by kernel_rfl) (fun _ _ _ h => h) (Or.inl ⟨by rfl, ?hy6⟩) (by assumption) ?re6
  case hy6 => (intro w hSw; (try dsimp only at hSw); go_simp <;> (with_reducible rfl))
  try simp only [Act.put, List.setIfInBounds_toArray, List.set_cons_zero, List.set_cons_succ]
  refine wpAnyH_take (i := 8) (oi := ({ dst := some 16, op := Op.load 3 (Operand.tmp 5), type := 3, pos := "terms.go:52", after := #[], guard := none } : Oper)) (v := ?vv7) rfl (by kernel_rfl) (by kernel_rfl) (by kernel_rfl) (fun _ _ _ h => h) (Or.inl ⟨by rfl, ?hy7⟩) (by assumption) ?re7
  case hy7 => (intro w hSw; (try dsimp only at hSw); go_simp <;> (with_reducible rfl))
  try simp only [Act.put, List.setIfInBounds_toArray, List.set_cons_zero, List.set_cons_succ]
  refine wpAnyH_take (i := 9) (oi := ({ dst := some 17, op := Op.fieldAddr 134 (Operand.tmp 3) 1, type := 0, pos := "terms.go:52", after := #[], guard := none } : Oper)) (v := ?vv8) rfl (by kernel_rfl) (by kernel_rfl) (by kernel_rfl) (fun _ _ _ h => h) (Or.inl ⟨by rfl, ?hy8⟩) (by assumption) ?re8
  case hy8 => (intro w hSw; (try dsimp only at hSw); go_simp <;> (with_reducible rfl))
  try simp only [Act.put, List.setIfInBounds_toArray, List.set_cons_zero, List.set_cons_succ]
  refine wpAnyH_take (i := 10) (oi := ({ dst := some 18, op := Op.fieldAddr 23 (Operand.tmp 17) 0, type := 0, pos := "terms.go:52", after := #[{ on := 9, ground := Ground.data }], guard := none } : Oper)) (v := ?vv9) rfl (by kernel_rfl) (by kernel_rfl) (by kernel_rfl) (fun _ _ _ h => h) (Or.inl ⟨by rfl, ?hy9⟩) (by assumption) ?re9
  case hy9 => (intro w hSw; (try dsimp only at hSw); go_simp <;> (with_reducible rfl))
  try simp only [Act.put, List.setIfInBounds_toArray, List.set_cons_zero, List.set_cons_succ]
  refine wpAnyH_take (i := 11) (oi := ({ dst := some 19, op := Op.load 3 (Operand.tmp 18), type := 3, pos := "terms.go:52", after := #[{ on := 10, ground := Ground.data }], guard := none } : Oper)) (v := ?vv10) rfl (by kernel_rfl) (by kernel_rfl) (by kernel_rfl) (fun _ _ _ h => h) (Or.inl ⟨by rfl, ?hy10⟩) (by assumption) ?re10
  case hy10 => (intro w hSw; (try dsimp only at hSw); go_simp <;> (with_reducible rfl))
  try simp only [Act.put, List.setIfInBounds_toArray, List.set_cons_zero, List.set_cons_succ]
  refine wpAnyH_take (i := 12) (oi := ({ dst := some 20, op := Op.binOp BinOp.mul 3 (Operand.tmp 16) (Operand.tmp 19) 3, type := 3, pos := "terms.go:52", after := #[{ on := 8, ground := Ground.data }, { on := 11, ground := Ground.data }], guard := none } : Oper)) (v := ?vv11) rfl (by kernel_rfl) (by kernel_rfl) (by kernel_rfl) (fun _ _ _ h => h) (Or.inl ⟨by rfl, ?hy11⟩) (by assumption) ?re11
  case hy11 => (intro w hSw; (try dsimp only at hSw); go_simp <;> (with_reducible rfl))
  try simp only [Act.put, List.setIfInBounds_toArray, List.set_cons_zero, List.set_cons_succ]
  refine wpAnyH_take (i := 13) (oi := ({ dst := some 21, op := Op.load 3 (Operand.tmp 4), type := 3, pos := "terms.go:52", after := #[], guard := none } : Oper)) (v := ?vv12) rfl (by kernel_rfl) (by kernel_rfl) (by kernel_rfl) (fun _ _ _ h => h) (Or.inl ⟨by rfl, ?hy12⟩) (by assumption) ?re12
  case hy12 => (intro w hSw; (try dsimp only at hSw); go_simp <;> (with_reducible rfl))
  try simp only [Act.put, List.setIfInBounds_toArray, List.set_cons_zero, List.set_cons_succ]
  refine wpAnyH_take (i := 14) (oi := ({ dst := some 22, op := Op.binOp BinOp.add 3 (Operand.tmp 20) (Operand.tmp 21) 3, type := 3, pos := "terms.go:52", after := #[{ on := 12, ground := Ground.data }, { on := 13, ground := Ground.data }], guard := none } : Oper)) (v := ?vv13) rfl (by kernel_rfl) (by kernel_rfl) (by kernel_rfl) (fun _ _ _ h => h) (Or.inl ⟨by rfl, ?hy13⟩) (by assumption) ?re13
  case hy13 => (intro w hSw; (try dsimp only at hSw); go_simp <;> (with_reducible rfl))
  try simp only [Act.put, List.setIfInBounds_toArray, List.set_cons_zero, List.set_cons_succ]
  refine wpAnyH_take (i := 15) (oi := ({ dst := some 23, op := Op.fieldAddr 134 (Operand.tmp 3) 0, type := 0, pos := "terms.go:52", after := #[], guard := none } : Oper)) (v := ?vv14) rfl (by kernel_rfl) (by kernel_rfl) (by kernel_rfl) (fun _ _ _ h => h) (Or.inl ⟨by rfl, ?hy14⟩) (by assumption) ?re14
  case hy14 => (intro w hSw; (try dsimp only at hSw); go_simp <;> (with_reducible rfl))
  try simp only [Act.put, List.setIfInBounds_toArray, List.set_cons_zero, List.set_cons_succ]
  refine wpAnyH_take (i := 16) (oi := ({ dst := some 24, op := Op.fieldAddr 63 (Operand.tmp 23) 2, type := 0, pos := "terms.go:52", after := #[{ on := 15, ground := Ground.data }], guard := none } : Oper)) (v := ?vv15) rfl (by kernel_rfl) (by kernel_rfl) (by kernel_rfl) (fun _ _ _ h => h) (Or.inl ⟨by rfl, ?hy15⟩) (by assumption) ?re15
  case hy15 => (intro w hSw; (try dsimp only at hSw); go_simp <;> (with_reducible rfl))
  try simp only [Act.put, List.setIfInBounds_toArray, List.set_cons_zero, List.set_cons_succ]
  refine wpAnyH_take (i := 17) (oi := ({ dst := some 25, op := Op.load 3 (Operand.tmp 24), type := 3, pos := "terms.go:52", after := #[{ on := 16, ground := Ground.data }], guard := none } : Oper)) (v := ?vv16) rfl (by kernel_rfl) (by kernel_rfl) (by kernel_rfl) (fun _ _ _ h => h) (Or.inl ⟨by rfl, ?hy16⟩) (by assumption) ?re16
  case hy16 => (intro w hSw; (try dsimp only at hSw); go_simp <;> (with_reducible rfl))
  try simp only [Act.put, List.setIfInBounds_toArray, List.set_cons_zero, List.set_cons_succ]
  refine wpAnyH_take (i := 18) (oi := ({ dst := some 26, op := Op.binOp BinOp.mul 3 (Operand.tmp 22) (Operand.tmp 25) 3, type := 3, pos := "terms.go:52", after := #[{ on := 14, ground := Ground.data }, { on := 17, ground := Ground.data }], guard := none } : Oper)) (v := ?vv17) rfl (by kernel_rfl) (by kernel_rfl) (by kernel_rfl) (fun _ _ _ h => h) (Or.inl ⟨by rfl, ?hy17⟩) (by assumption) ?re17
  case hy17 => (intro w hSw; (try dsimp only at hSw); go_simp <;> (with_reducible rfl))
  try simp only [Act.put, List.setIfInBounds_toArray, List.set_cons_zero, List.set_cons_succ]
  refine wpAnyH_take (i := 19) (oi := ({ dst := some 27, op := Op.fieldAddr 134 (Operand.tmp 3) 0, type := 0, pos := "terms.go:52", after := #[], guard := none } : Oper)) (v := ?vv18) rfl (by kernel_rfl) (by kernel_rfl) (by kernel_rfl) (fun _ _ _ h => h) (Or.inl ⟨by rfl, ?hy18⟩) (by assumption) ?re18
  case hy18 => (intro w hSw; (try dsimp only at hSw); go_simp <;> (with_reducible rfl))
  try simp only [Act.put, List.setIfInBounds_toArray, List.set_cons_zero, List.set_cons_succ]
  refine wpAnyH_take (i := 20) (oi := ({ dst := some 28, op := Op.fieldAddr 63 (Operand.tmp 27) 2, type := 0, pos := "terms.go:52", after := #[{ on := 19, ground := Ground.data }], guard := none } : Oper)) (v := ?vv19) rfl (by kernel_rfl) (by kernel_rfl) (by kernel_rfl) (fun _ _ _ h => h) (Or.inl ⟨by rfl, ?hy19⟩) (by assumption) ?re19
  case hy19 => (intro w hSw; (try dsimp only at hSw); go_simp <;> (with_reducible rfl))
  try simp only [Act.put, List.setIfInBounds_toArray, List.set_cons_zero, List.set_cons_succ]
  refine wpAnyH_take (i := 21) (oi := ({ dst := some 29, op := Op.load 3 (Operand.tmp 28), type := 3, pos := "terms.go:52", after := #[{ on := 20, ground := Ground.data }], guard := none } : Oper)) (v := ?vv20) rfl (by kernel_rfl) (by kernel_rfl) (by kernel_rfl) (fun _ _ _ h => h) (Or.inl ⟨by rfl, ?hy20⟩) (by assumption) ?re20
  case hy20 => (intro w hSw; (try dsimp only at hSw); go_simp <;> (with_reducible rfl))
  try simp only [Act.put, List.setIfInBounds_toArray, List.set_cons_zero, List.set_cons_succ]
  refine wpAnyH_take (i := 22) (oi := ({ dst := some 30, op := Op.binOp BinOp.mul 3 (Operand.tmp 26) (Operand.tmp 29) 3, type := 3, pos := "terms.go:52", after := #[{ on := 18, ground := Ground.data }, { on := 21, ground := Ground.data }], guard := none } : Oper)) (v := ?vv21) rfl (by kernel_rfl) (by kernel_rfl) (by kernel_rfl) (fun _ _ _ h => h) (Or.inl ⟨by rfl, ?hy21⟩) (by assumption) ?re21
  case hy21 => (intro w hSw; (try dsimp only at hSw); go_simp <;> (with_reducible rfl))
  try simp only [Act.put, List.setIfInBounds_toArray, List.set_cons_zero, List.set_cons_succ]
  refine wpAnyH_take (i := 23) (oi := ({ dst := some 31, op := Op.binOp BinOp.add 3 (Operand.tmp 15) (Operand.tmp 30) 3, type := 3, pos := "terms.go:52", after := #[{ on := 7, ground := Ground.data }, { on := 22, ground := Ground.data }], guard := none } : Oper)) (v := ?vv22) rfl (by kernel_rfl) (by kernel_rfl) (by kernel_rfl) (fun _ _ _ h => h) (Or.inl ⟨by rfl, ?hy22⟩) (by assumption) ?re22
  case hy22 => (intro w hSw; (try dsimp only at hSw); go_simp <;> (with_reducible rfl))
  try simp only [Act.put, List.setIfInBounds_toArray, List.set_cons_zero, List.set_cons_succ]
  refine wpAnyH_take (i := 24) (oi := ({ dst := some 32, op := Op.move (Operand.tmp 0), type := 3, pos := "terms.go:52", after := #[], guard := none } : Oper)) (v := ?vv23) rfl (by kernel_rfl) (by kernel_rfl) (by kernel_rfl) (fun _ _ _ h => h) (Or.inl ⟨by rfl, ?hy23⟩) (by assumption) ?re23
  case hy23 => (intro w hSw; (try dsimp only at hSw); go_simp <;> (with_reducible rfl))
  try simp only [Act.put, List.setIfInBounds_toArray, List.set_cons_zero, List.set_cons_succ]
  refine wpAnyH_take (i := 25) (oi := ({ dst := some 33, op := Op.binOp BinOp.add 3 (Operand.tmp 31) (Operand.tmp 32) 3, type := 3, pos := "terms.go:52", after := #[{ on := 23, ground := Ground.data }, { on := 24, ground := Ground.data }], guard := none } : Oper)) (v := ?vv24) rfl (by kernel_rfl) (by kernel_rfl) (by kernel_rfl) (fun _ _ _ h => h) (Or.inl ⟨by rfl, ?hy24⟩) (by assumption) ?re24
  case hy24 => (intro w hSw; (try dsimp only at hSw); go_simp <;> (with_reducible rfl))
  try simp only [Act.put, List.setIfInBounds_toArray, List.set_cons_zero, List.set_cons_succ]
  refine wpAnyH_ready (rs := [0, 5]) (by kernel_rfl) (by simp) ?_
  refine AllReadyH.cons (o := ({ dst := some 8, op := Op.load 88 (Operand.tmp 2), type := 88, pos := "terms.go:52", after := #[], guard := none } : Oper)) rfl (fun K hK => ?_) ?_
  · skip
    go_simp
    refine hK.out _ _ ?_ (fun hHeld => ?_)
    · ((try dsimp only); (first | exact ⟨e2, e4, e5, e6, e10, ec, er⟩ | exact ⟨f2, f4, f5, f6, f10, fc, fr⟩ | exact ⟨g2, g4, g5, g6, g10, gcc, grr⟩ | go_keep))
    clear hK K
    try simp only [Act.put, List.setIfInBounds_toArray, List.set_cons_zero, List.set_cons_succ]
    refine wpAnyH_ready (rs := [5]) (by kernel_rfl) (by simp) ?_
    refine AllReadyH.cons (o := ({ dst := some 13, op := Op.call { callee := Callee.value (Operand.func 98), args := #[Operand.tmp 10, Operand.tmp 11, Operand.tmp 12], argTypes := #[23, 3, 141] }, type := 3, pos := "terms.go:52", after := #[{ on := 2, ground := Ground.data }, { on := 3, ground := Ground.data }, { on := 4, ground := Ground.data }], guard := none } : Oper)) rfl (fun K hK => ?_) ?_
    · skip
      go_simp
      (go_at_call 98; refine (at_calls i0 i1 i2 c y x hy hx r _ h).mono ?_; rintro e w1 ⟨rfl, hb0⟩; have hb : Below W.heap.size W w1 := below_then (below_drew (Below.refl _ _)) (by simp) hb0; clear hb0; have HO1 := Aside0.mk (blk_below HO.out hb); have L1 := Aside0.mk (blk_below L0.out hb); have C1 := Aside0.mk (blk_below C0.out hb); have R1 := Aside0.mk (blk_below R0.out hb); have HR1 := Aside0.mk (Kd.R_below HRR.out hb); have HB1 := Aside0.mk (below_then ST.out.below ST.out.below.size hb); clear hb; have f2 := (blk_cell L1.out 2).trans rfl; have f4 := (blk_cell L1.out 4).trans rfl; have f5 := (blk_cell L1.out 5).trans rfl; have f6 := (blk_cell L1.out 6).trans rfl; have f10 := (blk_cell L1.out 10).trans rfl; have fc := (blk_cell C1.out 0).trans rfl; have fr := (blk_cell R1.out 0).trans rfl; have fo := (blk_cell HO1.out 0).trans rfl; have bl := blk_lt L1.out; have bc := blk_lt C1.out; have br := blk_lt R1.out; have bo := blk_lt HO1.out; have nl : ¬ gl = w1.heap.size := (by omega); have nc : ¬ gc = w1.heap.size := (by omega); have nr : ¬ gr = w1.heap.size := (by omega); have no : ¬ go = w1.heap.size := (by omega))
      refine hK.out _ _ ?_ (fun hHeld => ?_)
      · ((try dsimp only); (first | exact ⟨e2, e4, e5, e6, e10, ec, er⟩ | exact ⟨f2, f4, f5, f6, f10, fc, fr⟩ | exact ⟨g2, g4, g5, g6, g10, gcc, grr⟩ | go_keep))
      clear hK K
      try simp only [Act.put, List.setIfInBounds_toArray, List.set_cons_zero, List.set_cons_succ]
      refine wpAnyH_take (i := 26) (oi := ({ dst := some 34, op := Op.build 91 #[(0, Operand.tmp 13), (1, Operand.tmp 33)], type := 91, pos := "terms.go:52", after := #[{ on := 5, ground := Ground.data }, { on := 25, ground := Ground.data }], guard := none } : Oper)) (v := ?vv25) rfl (by kernel_rfl) (by kernel_rfl) (by kernel_rfl) (fun _ _ _ h => h) (Or.inl ⟨by rfl, ?hy25⟩) (by assumption) ?re25
      case hy25 => (intro w hSw; (try dsimp only at hSw); go_simp <;> (with_reducible rfl))
      try simp only [Act.put, List.setIfInBounds_toArray, List.set_cons_zero, List.set_cons_succ]
      refine wpAnyH_ready (rs := [27]) (by kernel_rfl) (by simp) ?_
      refine AllReadyH.cons (o := ({ dst := some 35, op := Op.buildSlice 88 1 #[(0, Operand.tmp 34)], type := 88, pos := "terms.go:52", after := #[{ on := 26, ground := Ground.data }], guard := none } : Oper)) rfl (fun K hK => ?_) ?_
      · skip
        go_simp
        refine hK.out _ _ ?_ (fun hHeld => ?_)
        · ((try dsimp only); (first | exact ⟨e2, e4, e5, e6, e10, ec, er⟩ | exact ⟨f2, f4, f5, f6, f10, fc, fr⟩ | exact ⟨g2, g4, g5, g6, g10, gcc, grr⟩ | go_keep))
        clear hK K
        try simp only [Act.put, List.setIfInBounds_toArray, List.set_cons_zero, List.set_cons_succ]
        refine wpAnyH_ready (rs := [28]) (by kernel_rfl) (by simp) ?_
        refine AllReadyH.cons (o := ({ dst := some 36, op := Op.call { callee := Callee.builtin Builtin.append, args := #[Operand.tmp 8, Operand.tmp 35], argTypes := #[88, 88] }, type := 88, pos := "terms.go:52", after := #[{ on := 0, ground := Ground.data }, { on := 27, ground := Ground.data }, { on := 5, ground := Ground.chain }], guard := none } : Oper)) rfl (fun K hK => ?_) ?_
        · skip
          (refine append91r HR1.out HB1.out hl ?_ ?_ ?_ ?_ ?_; rfl; rfl; rfl; rfl; intro v1 w4 HO5 hB4 hg5; obtain ⟨A2, c2, rfl⟩ := R_slice91 HO5; have hg4 : w1.grownBy w4 (Value.slice A xs.length cap).ownBlock := ⟨hg5.os, hg5.tape, hg5.output, hg5.size, hg5.block⟩; clear hg5; have HO4 := Aside0.mk (blk_grown HO1.out hg4 (Kd.R_ne HR1.out HO1.out (by decide))); have L4 := Aside0.mk (blk_grown L1.out hg4 (Kd.R_ne HR1.out L1.out (by decide))); have C4 := Aside0.mk (blk_grown C1.out hg4 (Kd.R_ne HR1.out C1.out (by decide))); have R4 := Aside0.mk (blk_grown R1.out hg4 (Kd.R_ne HR1.out R1.out (by decide))); clear hg4; have g2 := (blk_cell L4.out 2).trans rfl; have g4 := (blk_cell L4.out 4).trans rfl; have g5 := (blk_cell L4.out 5).trans rfl; have g6 := (blk_cell L4.out 6).trans rfl; have g10 := (blk_cell L4.out 10).trans rfl; have gcc := (blk_cell C4.out 0).trans rfl; have grr := (blk_cell R4.out 0).trans rfl; have go4 := (blk_cell HO4.out 0).trans rfl; have ff4 := blk_frozen HO4.out 0)
          refine hK.out _ _ ?_ (fun hHeld => ?_)
          · ((try dsimp only); (first | exact ⟨e2, e4, e5, e6, e10, ec, er⟩ | exact ⟨f2, f4, f5, f6, f10, fc, fr⟩ | exact ⟨g2, g4, g5, g6, g10, gcc, grr⟩ | go_keep))
          clear hK K
          try simp only [Act.put, List.setIfInBounds_toArray, List.set_cons_zero, List.set_cons_succ]
          refine wpAnyH_ready (rs := [29]) (by kernel_rfl) (by simp) ?_
          refine AllReadyH.cons (o := ({ dst := none, op := Op.store 88 (Operand.tmp 2) (Operand.tmp 36), type := 0, pos := "terms.go:52", after := #[{ on := 28, ground := Ground.data }, { on := 28, ground := Ground.chain }, { on := 0, ground := Ground.phase }, { on := 1, ground := Ground.phase }, { on := 2, ground := Ground.phase }, { on := 3, ground := Ground.phase }, { on := 4, ground := Ground.phase }, { on := 5, ground := Ground.phase }, { on := 6, ground := Ground.phase }, { on := 7, ground := Ground.phase }, { on := 8, ground := Ground.phase }, { on := 9, ground := Ground.phase }, { on := 10, ground := Ground.phase }, { on := 11, ground := Ground.phase }, { on := 12, ground := Ground.phase }, { on := 13, ground := Ground.phase }, { on := 14, ground := Ground.phase }, { on := 15, ground := Ground.phase }, { on := 16, ground := Ground.phase }, { on := 17, ground := Ground.phase }, { on := 18, ground := Ground.phase }, { on := 19, ground := Ground.phase }, { on := 20, ground := Ground.phase }, { on := 21, ground := Ground.phase }, { on := 22, ground := Ground.phase }, { on := 23, ground := Ground.phase }, { on := 24, ground := Ground.phase }, { on := 25, ground := Ground.phase }, { on := 26, ground := Ground.phase }, { on := 27, ground := Ground.phase }, { on := 28, ground := Ground.phase }], guard := none } : Oper)) rfl (fun K hK => ?_) ?_
          · skip
            go_simp
            refine hK.out _ _ ?_ (fun hHeld => ?_)
            · ((try dsimp only); (first | exact ⟨e2, e4, e5, e6, e10, ec, er⟩ | exact ⟨f2, f4, f5, f6, f10, fc, fr⟩ | exact ⟨g2, g4, g5, g6, g10, gcc, grr⟩ | go_keep))
            clear hK K
            try simp only [Act.put, List.setIfInBounds_toArray, List.set_cons_zero, List.set_cons_succ]
            refine wpAnyH_done (by kernel_rfl) ?_ _
            (go_wp2_with fail; go_end0; refine ⟨rfl, ?_⟩; exact ConvSt.push HO4.out L4.out C4.out R4.out HO5 hB4 ST.out.ne)
          exact AllReadyH.nil
        exact AllReadyH.nil
      exact AllReadyH.nil
    exact AllReadyH.nil
  refine AllReadyH.cons (o := ({ dst := some 13, op := Op.call { callee := Callee.value (Operand.func 98), args := #[Operand.tmp 10, Operand.tmp 11, Operand.tmp 12], argTypes := #[23, 3, 141] }, type := 3, pos := "terms.go:52", after := #[{ on := 2, ground := Ground.data }, { on := 3, ground := Ground.data }, { on := 4, ground := Ground.data }], guard := none } : Oper)) rfl (fun K hK => ?_) ?_
  · skip
    go_simp
    (go_at_call 98; refine (at_calls i0 i1 i2 c y x hy hx r _ h).mono ?_; rintro e w1 ⟨rfl, hb0⟩; have hb : Below W.heap.size W w1 := below_then (below_drew (Below.refl _ _)) (by simp) hb0; clear hb0; have HO1 := Aside0.mk (blk_below HO.out hb); have L1 := Aside0.mk (blk_below L0.out hb); have C1 := Aside0.mk (blk_below C0.out hb); have R1 := Aside0.mk (blk_below R0.out hb); have HR1 := Aside0.mk (Kd.R_below HRR.out hb); have HB1 := Aside0.mk (below_then ST.out.below ST.out.below.size hb); clear hb; have f2 := (blk_cell L1.out 2).trans rfl; have f4 := (blk_cell L1.out 4).trans rfl; have f5 := (blk_cell L1.out 5).trans rfl; have f6 := (blk_cell L1.out 6).trans rfl; have f10 := (blk_cell L1.out 10).trans rfl; have fc := (blk_cell C1.out 0).trans rfl; have fr := (blk_cell R1.out 0).trans rfl; have fo := (blk_cell HO1.out 0).trans rfl; have bl := blk_lt L1.out; have bc := blk_lt C1.out; have br := blk_lt R1.out; have bo := blk_lt HO1.out; have nl : ¬ gl = w1.heap.size := (by omega); have nc : ¬ gc = w1.heap.size := (by omega); have nr : ¬ gr = w1.heap.size := (by omega); have no : ¬ go = w1.heap.size := (by omega))
    refine hK.out _ _ ?_ (fun hHeld => ?_)
    · ((try dsimp only); (first | exact ⟨e2, e4, e5, e6, e10, ec, er⟩ | exact ⟨f2, f4, f5, f6, f10, fc, fr⟩ | exact ⟨g2, g4, g5, g6, g10, gcc, grr⟩ | go_keep))
    clear hK K
    try simp only [Act.put, List.setIfInBounds_toArray, List.set_cons_zero, List.set_cons_succ]
    refine wpAnyH_take (i := 26) (oi := ({ dst := some 34, op := Op.build 91 #[(0, Operand.tmp 13), (1, Operand.tmp 33)], type := 91, pos := "terms.go:52", after := #[{ on := 5, ground := Ground.data }, { on := 25, ground := Ground.data }], guard := none } : Oper)) (v := ?vv26) rfl (by kernel_rfl) (by kernel_rfl) (by kernel_rfl) (fun _ _ _ h => h) (Or.inl ⟨by rfl, ?hy26⟩) (by assumption) ?re26
    case hy26 => (intro w hSw; (try dsimp only at hSw); go_simp <;> (with_reducible rfl))
    try simp only [Act.put, List.setIfInBounds_toArray, List.set_cons_zero, List.set_cons_succ]
    refine wpAnyH_ready (rs := [0, 27]) (by kernel_rfl) (by simp) ?_
    refine AllReadyH.cons (o := ({ dst := some 8, op := Op.load 88 (Operand.tmp 2), type := 88, pos := "terms.go:52", after := #[], guard := none } : Oper)) rfl (fun K hK => ?_) ?_
    · skip
      go_simp
      refine hK.out _ _ ?_ (fun hHeld => ?_)
      · ((try dsimp only); (first | exact ⟨e2, e4, e5, e6, e10, ec, er⟩ | exact ⟨f2, f4, f5, f6, f10, fc, fr⟩ | exact ⟨g2, g4, g5, g6, g10, gcc, grr⟩ | go_keep))
      clear hK K
      try simp only [Act.put, List.setIfInBounds_toArray, List.set_cons_zero, List.set_cons_succ]
      refine wpAnyH_ready (rs := [27]) (by kernel_rfl) (by simp) ?_
      refine AllReadyH.cons (o := ({ dst := some 35, op := Op.buildSlice 88 1 #[(0, Operand.tmp 34)], type := 88, pos := "terms.go:52", after := #[{ on := 26, ground := Ground.data }], guard := none } : Oper)) rfl (fun K hK => ?_) ?_
      · skip
        go_simp
        refine hK.out _ _ ?_ (fun hHeld => ?_)
        · ((try dsimp only); (first | exact ⟨e2, e4, e5, e6, e10, ec, er⟩ | exact ⟨f2, f4, f5, f6, f10, fc, fr⟩ | exact ⟨g2, g4, g5, g6, g10, gcc, grr⟩ | go_keep))
        clear hK K
        try simp only [Act.put, List.setIfInBounds_toArray, List.set_cons_zero, List.set_cons_succ]
        refine wpAnyH_ready (rs := [28]) (by kernel_rfl) (by simp) ?_
        refine AllReadyH.cons (o := ({ dst := some 36, op := Op.call { callee := Callee.builtin Builtin.append, args := #[Operand.tmp 8, Operand.tmp 35], argTypes := #[88, 88] }, type := 88, pos := "terms.go:52", after := #[{ on := 0, ground := Ground.data }, { on := 27, ground := Ground.data }, { on := 5, ground := Ground.chain }], guard := none } : Oper)) rfl (fun K hK => ?_) ?_
        · skip
          (refine append91r HR1.out HB1.out hl ?_ ?_ ?_ ?_ ?_; rfl; rfl; rfl; rfl; intro v1 w4 HO5 hB4 hg5; obtain ⟨A2, c2, rfl⟩ := R_slice91 HO5; have hg4 : w1.grownBy w4 (Value.slice A xs.length cap).ownBlock := ⟨hg5.os, hg5.tape, hg5.output, hg5.size, hg5.block⟩; clear hg5; have HO4 := Aside0.mk (blk_grown HO1.out hg4 (Kd.R_ne HR1.out HO1.out (by decide))); have L4 := Aside0.mk (blk_grown L1.out hg4 (Kd.R_ne HR1.out L1.out (by decide))); have C4 := Aside0.mk (blk_grown C1.out hg4 (Kd.R_ne HR1.out C1.out (by decide))); have R4 := Aside0.mk (blk_grown R1.out hg4 (Kd.R_ne HR1.out R1.out (by decide))); clear hg4; have g2 := (blk_cell L4.out 2).trans rfl; have g4 := (blk_cell L4.out 4).trans rfl; have g5 := (blk_cell L4.out 5).trans rfl; have g6 := (blk_cell L4.out 6).trans rfl; have g10 := (blk_cell L4.out 10).trans rfl; have gcc := (blk_cell C4.out 0).trans rfl; have grr := (blk_cell R4.out 0).trans rfl; have go4 := (blk_cell HO4.out 0).trans rfl; have ff4 := blk_frozen HO4.out 0)
          refine hK.out _ _ ?_ (fun hHeld => ?_)
          · ((try dsimp only); (first | exact ⟨e2, e4, e5, e6, e10, ec, er⟩ | exact ⟨f2, f4, f5, f6, f10, fc, fr⟩ | exact ⟨g2, g4, g5, g6, g10, gcc, grr⟩ | go_keep))
          clear hK K
          try simp only [Act.put, List.setIfInBounds_toArray, List.set_cons_zero, List.set_cons_succ]
          refine wpAnyH_ready (rs := [29]) (by kernel_rfl) (by simp) ?_
          refine AllReadyH.cons (o := ({ dst := none, op := Op.store 88 (Operand.tmp 2) (Operand.tmp 36), type := 0, pos := "terms.go:52", after := #[{ on := 28, ground := Ground.data }, { on := 28, ground := Ground.chain }, { on := 0, ground := Ground.phase }, { on := 1, ground := Ground.phase }, { on := 2, ground := Ground.phase }, { on := 3, ground := Ground.phase }, { on := 4, ground := Ground.phase }, { on := 5, ground := Ground.phase }, { on := 6, ground := Ground.phase }, { on := 7, ground := Ground.phase }, { on := 8, ground := Ground.phase }, { on := 9, ground := Ground.phase }, { on := 10, ground := Ground.phase }, { on := 11, ground := Ground.phase }, { on := 12, ground := Ground.phase }, { on := 13, ground := Ground.phase }, { on := 14, ground := Ground.phase }, { on := 15, ground := Ground.phase }, { on := 16, ground := Ground.phase }, { on := 17, ground := Ground.phase }, { on := 18, ground := Ground.phase }, { on := 19, ground := Ground.phase }, { on := 20, ground := Ground.phase }, { on := 21, ground := Ground.phase }, { on := 22, ground := Ground.phase }, { on := 23, ground := Ground.phase }, { on := 24, ground := Ground.phase }, { on := 25, ground := Ground.phase }, { on := 26, ground := Ground.phase }, { on := 27, ground := Ground.phase }, { on := 28, ground := Ground.phase }], guard := none } : Oper)) rfl (fun K hK => ?_) ?_
          · skip
            go_simp
            refine hK.out _ _ ?_ (fun hHeld => ?_)
            · ((try dsimp only); (first | exact ⟨e2, e4, e5, e6, e10, ec, er⟩ | exact ⟨f2, f4, f5, f6, f10, fc, fr⟩ | exact ⟨g2, g4, g5, g6, g10, gcc, grr⟩ | go_keep))
            clear hK K
            try simp only [Act.put, List.setIfInBounds_toArray, List.set_cons_zero, List.set_cons_succ]
            refine wpAnyH_done (by kernel_rfl) ?_ _
            (go_wp2_with fail; go_end0; refine ⟨rfl, ?_⟩; exact ConvSt.push HO4.out L4.out C4.out R4.out HO5 hB4 ST.out.ne)
          exact AllReadyH.nil
        exact AllReadyH.nil
      exact AllReadyH.nil
    refine AllReadyH.cons (o := ({ dst := some 35, op := Op.buildSlice 88 1 #[(0, Operand.tmp 34)], type := 88, pos := "terms.go:52", after := #[{ on := 26, ground := Ground.data }], guard := none } : Oper)) rfl (fun K hK => ?_) ?_
    · skip
      go_simp
      refine hK.out _ _ ?_ (fun hHeld => ?_)
      · ((try dsimp only); (first | exact ⟨e2, e4, e5, e6, e10, ec, er⟩ | exact ⟨f2, f4, f5, f6, f10, fc, fr⟩ | exact ⟨g2, g4, g5, g6, g10, gcc, grr⟩ | go_keep))
      clear hK K
      try simp only [Act.put, List.setIfInBounds_toArray, List.set_cons_zero, List.set_cons_succ]
      refine wpAnyH_ready (rs := [0]) (by kernel_rfl) (by simp) ?_
      refine AllReadyH.cons (o := ({ dst := some 8, op := Op.load 88 (Operand.tmp 2), type := 88, pos := "terms.go:52", after := #[], guard := none } : Oper)) rfl (fun K hK => ?_) ?_
      · skip
        go_simp
        refine hK.out _ _ ?_ (fun hHeld => ?_)
        · ((try dsimp only); (first | exact ⟨e2, e4, e5, e6, e10, ec, er⟩ | exact ⟨f2, f4, f5, f6, f10, fc, fr⟩ | exact ⟨g2, g4, g5, g6, g10, gcc, grr⟩ | go_keep))
        clear hK K
        try simp only [Act.put, List.setIfInBounds_toArray, List.set_cons_zero, List.set_cons_succ]
        refine wpAnyH_ready (rs := [28]) (by kernel_rfl) (by simp) ?_
        refine AllReadyH.cons (o := ({ dst := some 36, op := Op.call { callee := Callee.builtin Builtin.append, args := #[Operand.tmp 8, Operand.tmp 35], argTypes := #[88, 88] }, type := 88, pos := "terms.go:52", after := #[{ on := 0, ground := Ground.data }, { on := 27, ground := Ground.data }, { on := 5, ground := Ground.chain }], guard := none } : Oper)) rfl (fun K hK => ?_) ?_
        · skip
          (refine append91r HR1.out HB1.out hl ?_ ?_ ?_ ?_ ?_; rfl; rfl; rfl; rfl; intro v1 w4 HO5 hB4 hg5; obtain ⟨A2, c2, rfl⟩ := R_slice91 HO5; have hg4 : w1.grownBy w4 (Value.slice A xs.length cap).ownBlock := ⟨hg5.os, hg5.tape, hg5.output, hg5.size, hg5.block⟩; clear hg5; have HO4 := Aside0.mk (blk_grown HO1.out hg4 (Kd.R_ne HR1.out HO1.out (by decide))); have L4 := Aside0.mk (blk_grown L1.out hg4 (Kd.R_ne HR1.out L1.out (by decide))); have C4 := Aside0.mk (blk_grown C1.out hg4 (Kd.R_ne HR1.out C1.out (by decide))); have R4 := Aside0.mk (blk_grown R1.out hg4 (Kd.R_ne HR1.out R1.out (by decide))); clear hg4; have g2 := (blk_cell L4.out 2).trans rfl; have g4 := (blk_cell L4.out 4).trans rfl; have g5 := (blk_cell L4.out 5).trans rfl; have g6 := (blk_cell L4.out 6).trans rfl; have g10 := (blk_cell L4.out 10).trans rfl; have gcc := (blk_cell C4.out 0).trans rfl; have grr := (blk_cell R4.out 0).trans rfl; have go4 := (blk_cell HO4.out 0).trans rfl; have ff4 := blk_frozen HO4.out 0)
          refine hK.out _ _ ?_ (fun hHeld => ?_)
          · ((try dsimp only); (first | exact ⟨e2, e4, e5, e6, e10, ec, er⟩ | exact ⟨f2, f4, f5, f6, f10, fc, fr⟩ | exact ⟨g2, g4, g5, g6, g10, gcc, grr⟩ | go_keep))
          clear hK K
          try simp only [Act.put, List.setIfInBounds_toArray, List.set_cons_zero, List.set_cons_succ]
          refine wpAnyH_ready (rs := [29]) (by kernel_rfl) (by simp) ?_
          refine AllReadyH.cons (o := ({ dst := none, op := Op.store 88 (Operand.tmp 2) (Operand.tmp 36), type := 0, pos := "terms.go:52", after := #[{ on := 28, ground := Ground.data }, { on := 28, ground := Ground.chain }, { on := 0, ground := Ground.phase }, { on := 1, ground := Ground.phase }, { on := 2, ground := Ground.phase }, { on := 3, ground := Ground.phase }, { on := 4, ground := Ground.phase }, { on := 5, ground := Ground.phase }, { on := 6, ground := Ground.phase }, { on := 7, ground := Ground.phase }, { on := 8, ground := Ground.phase }, { on := 9, ground := Ground.phase }, { on := 10, ground := Ground.phase }, { on := 11, ground := Ground.phase }, { on := 12, ground := Ground.phase }, { on := 13, ground := Ground.phase }, { on := 14, ground := Ground.phase }, { on := 15, ground := Ground.phase }, { on := 16, ground := Ground.phase }, { on := 17, ground := Ground.phase }, { on := 18, ground := Ground.phase }, { on := 19, ground := Ground.phase }, { on := 20, ground := Ground.phase }, { on := 21, ground := Ground.phase }, { on := 22, ground := Ground.phase }, { on := 23, ground := Ground.phase }, { on := 24, ground := Ground.phase }, { on := 25, ground := Ground.phase }, { on := 26, ground := Ground.phase }, { on := 27, ground := Ground.phase }, { on := 28, ground := Ground.phase }], guard := none } : Oper)) rfl (fun K hK => ?_) ?_
          · skip
            go_simp
            refine hK.out _ _ ?_ (fun hHeld => ?_)
            · ((try dsimp only); (first | exact ⟨e2, e4, e5, e6, e10, ec, er⟩ | exact ⟨f2, f4, f5, f6, f10, fc, fr⟩ | exact ⟨g2, g4, g5, g6, g10, gcc, grr⟩ | go_keep))
            clear hK K
            try simp only [Act.put, List.setIfInBounds_toArray, List.set_cons_zero, List.set_cons_succ]
            refine wpAnyH_done (by kernel_rfl) ?_ _
            (go_wp2_with fail; go_end0; refine ⟨rfl, ?_⟩; exact ConvSt.push HO4.out L4.out C4.out R4.out HO5 hB4 ST.out.ne)
          exact AllReadyH.nil
        exact AllReadyH.nil
      exact AllReadyH.nil
    exact AllReadyH.nil
  exact AllReadyH.nil

end
end Go.Proofs.Ytjegihodmidhoaa.G
namespace Go.Proofs.Ytjegihodmidhoaa.G
open Go.RowKit Go.Proofs.YtjegihodmidhoaaW.PrintWords Go.Proofs.YtjegihodmidhoaaW.PrintLast Go.Proofs.YtjegihodmidhoaaW.PrintMore
set_option linter.unusedVariables false
set_option linter.unusedSimpArgs false
/-- shape.At, total. -/
def atS (a b c q y x : Int) : Int := if shR a b c = true ∧ wiB q 0 (wrap64 (a - 1)) = true ∧ wiB y 0 (wrap64 (b - 1)) = true ∧ wiB x 0 (wrap64 (c - 1)) = true then wrap64 (x + wrap64 (c * wrap64 (y + wrap64 (b * q)))) else -1
theorem at_eq (a b c q y x : Int) : shape_At.f a b c q y x = some (atS a b c q y x) := by
  unfold shape_At.f atS
  simp only [right_eq, within_eq, Option.bind_some]
  by_cases h1 : shR a b c = true <;> by_cases h2 : wiB q 0 (wrap64 (a - 1)) = true <;> by_cases h3 : wiB y 0 (wrap64 (b - 1)) = true <;> by_cases h4 : wiB x 0 (wrap64 (c - 1)) = true <;> simp [h1, h2, h3, h4]

theorem ConvSt.drew {l0 l1 l2 l3 i0 i1 i2 o0 o1 o2 wt c o : Int} {B : World} {go gl gc gr : Nat} {xs : List S91} {W : World} (h : ConvSt l0 l1 l2 l3 i0 i1 i2 o0 o1 o2 wt c o B go gl gc gr xs W) : ConvSt l0 l1 l2 l3 i0 i1 i2 o0 o1 o2 wt c o B go gl gc gr xs W.drew where
  row := by obtain ⟨A, cap, h1, h2⟩ := h.row; exact ⟨A, cap, h1, Kd.R_below h2 (below_drew (Below.refl _ _))⟩
  look := h.look
  chan := h.chan
  outc := h.outc
  below := below_drew h.below
  ne := h.ne
section
variable (l0 l1 l2 l3 i0 i1 i2 o0 o1 o2 wt c o : Int) (B : World) (go gl gc gr : Nat)
/-- One term of a window: its number, the window's corner. -/
def winT (n Y X k : Nat) : S91 := ⟨atS i0 i1 i2 c ((Y + k / n : Nat) : Int) ((X + k % n : Nat) : Int), termW l2 i0 wt c o k⟩
theorem win_snoc (n Y X k : Nat) (xs : List S91) : xs ++ (List.range (k + 1)).map (winT l2 i0 i1 i2 wt c o n Y X) = xs ++ (List.range k).map (winT l2 i0 i1 i2 wt c o n Y X) ++ [winT l2 i0 i1 i2 wt c o n Y X k] := by
  rw [List.range_succ, List.map_append, List.append_assoc]; rfl
def WinSt (n Y X : Nat) (xs : List S91) (k : Nat) (W : World) : Prop := ConvSt l0 l1 l2 l3 i0 i1 i2 o0 o1 o2 wt c o B go gl gc gr (xs ++ (List.range k).map (winT l2 i0 i1 i2 wt c o n Y X)) W
set_option maxRecDepth 100000 in
set_option maxHeartbeats 600000 in
theorem window_calls (n Y X : Nat) (hn : n ≤ 12) (hY : Y < 133) (hX : X < 133) (xs : List S91) (hl : xs.length ≤ 100000) (W : World) (hst : ConvSt l0 l1 l2 l3 i0 i1 i2 o0 o1 o2 wt c o B go gl gc gr xs W) :
    Calls Try.prog 95 #[.complex .f64 (fl X) (fl Y), .int .i64 n, .func (.func 97) #[] #[.pointer (some ⟨go, 0, none⟩), .pointer (some ⟨gl, 0, none⟩), .pointer (some ⟨gc, 0, none⟩), .pointer (some ⟨gr, 0, none⟩)]] W fun e w' =>
      e = .returned (.tuple #[]) ∧ ConvSt l0 l1 l2 l3 i0 i1 i2 o0 o1 o2 wt c o B go gl gc gr (xs ++ (List.range (n * n)).map (winT l2 i0 i1 i2 wt c o n Y X)) w' := by
  have hu := Try.underlying146
  have hN : n * n ≤ 144 := Nat.mul_le_mul hn hn
  have hNI : (n : Int) * (n : Int) = ((n * n : Nat) : Int) := by simp
  have ST : Aside0 (WinSt l0 l1 l2 l3 i0 i1 i2 o0 o1 o2 wt c o B go gl gc gr n Y X xs 0 W) := ⟨by unfold WinSt; simpa using hst⟩
  clear hst
  have hdiv : ∀ k, k < n * n → k / n < n ∧ k % n < n ∧ 0 < n := by
    intro k hk
    have h0 : 0 < n := by rcases Nat.eq_zero_or_pos n with h | h; (subst h; simp at hk); exact h
    exact ⟨(Nat.div_lt_iff_lt_mul h0).mpr hk, Nat.mod_lt _ h0, h0⟩
  have HD := Aside0.mk hdiv
  clear hdiv
  generalize hNN : n * n = N at *
  have HNN := Aside0.mk hNN
  clear hNN
  show Calls Try.prog 95 _ W fun e w' => e = .returned (.tuple #[]) ∧ WinSt l0 l1 l2 l3 i0 i1 i2 o0 o1 o2 wt c o B go gl gc gr n Y X xs N w'
  go_enter Try.func95, Try.ntmps95
  go_wp2_with fail
  go_loopw [10] (fun i wr => ∃ k : Nat, k ≤ N ∧ i = .int .i64 k ∧ Aside0 (WinSt l0 l1 l2 l3 i0 i1 i2 o0 o1 o2 wt c o B go gl gc gr n Y X xs k wr)) (fun i _ => N - (intOf i).toNat)
  case atStart => exact ⟨0, Nat.zero_le _, rfl, ST⟩
  case round =>
    obtain ⟨k, hk, rfl, SK⟩ := hrel
    by_cases hlt : k < N
    · obtain ⟨d1, d2, d3⟩ := HD.out k hlt
      have hz : ((n : Int) == 0) = false := by simp; omega
      obtain ⟨a, ha⟩ : ∃ a, k / n = a := ⟨_, rfl⟩
      obtain ⟨b, hb⟩ : ∃ b, k % n = b := ⟨_, rfl⟩
      rw [ha] at d1
      rw [hb] at d2
      have hA := Aside0.mk ha
      have hB := Aside0.mk hb
      clear ha hb
      have hy1 : Y + a < 145 := by omega
      have hx1 : X + b < 145 := by omega
      have ha13 : a < 13 := by omega
      have hb13 : b < 13 := by omega
      have hln : (xs ++ (List.range k).map (winT l2 i0 i1 i2 wt c o n Y X)).length = xs.length + k := by simp
      have LL : Aside0 (((xs ++ (List.range k).map (winT l2 i0 i1 i2 wt c o n Y X)).length + 1) * 16 ≤ 140737488355328) := ⟨by rw [hln]; omega⟩
      clear hln
      have SD : Aside0 (ConvSt l0 l1 l2 l3 i0 i1 i2 o0 o1 o2 wt c o B go gl gc gr (xs ++ (List.range k).map (winT l2 i0 i1 i2 wt c o n Y X)) wr.drew) := ⟨ConvSt.drew SK.out⟩
      clear SK
      have C97 := Aside0.mk (cl97 l0 l1 l2 l3 i0 i1 i2 o0 o1 o2 wt c o B go gl gc gr k (Y + a) (X + b) hy1 hx1 _ _ LL.out _ SD.out (at_eq _ _ _ _ _ _))
      clear SD LL
      have hadd : ∀ w, (binOp .add 141 (.complex .f64 (fl X) (fl Y)) (.complex .f64 (fl b) (fl a))).run Try.prog w = .ok (.complex .f64 (fl (X + b)) (fl (Y + a))) w := fun w => run_complex_sum (P := Try.prog) (w := w) .add (.inl rfl) 141 _ _ _ _ _ _ _ (csum hX hY ha13 hb13)
      have q1 : wrap64 ((k : Int) / (n : Int)) = (a : Int) := by
        have q0 : (k : Int) / (n : Int) = (a : Int) := by rw [← hA.out]; rfl
        rw [q0]; unfold wrap64; omega
      have q4 : IntKind.i64.wrap ((k : Int) / (n : Int)) = (a : Int) := by
        have q0 : (k : Int) / (n : Int) = (a : Int) := by rw [← hA.out]; rfl
        rw [q0]; exact IntWalk.i64_in _ ⟨by omega, by omega⟩
      have q2 : (k : Int) % (n : Int) = (b : Int) := by rw [← hB.out]; rfl
      have q3 : (k : Int).tmod (n : Int) = (b : Int) := by rw [Int.tmod_eq_emod_of_nonneg (Int.natCast_nonneg k)]; exact q2
      go_wp2_with fail
      go_region_with (first | (go_at_call 97; (with_reducible refine C97.out.mono ?_); rintro e w2 ⟨rfl, hst2⟩; have ST2 := Aside0.mk hst2; clear hst2) | (go_at_call 100; (with_reducible refine (place_calls a b _).mono ?_); rintro e w' ⟨rfl, rfl⟩))
      all_goals
        clear q1 q2 q3 q4 hadd C97 HD
        go_wp2_with fail
        go_roundw
        case rel => exact ⟨k + 1, by omega, by go_num, ⟨by unfold WinSt; rw [win_snoc]; have h := ST2.out; rw [← hA.out, ← hB.out] at h; exact h⟩⟩
        case measure => simp [intOf]; omega
    · obtain rfl : k = N := by omega
      go_wp2_with fail
      go_end0
      exact ⟨rfl, SK.out⟩
end
end Go.Proofs.Ytjegihodmidhoaa.G
namespace Go.Proofs.Ytjegihodmidhoaa.G
open Go.RowKit Go.Proofs.YtjegihodmidhoaaW.PrintWords Go.Proofs.YtjegihodmidhoaaW.PrintLast Go.Proofs.YtjegihodmidhoaaW.PrintMore
set_option linter.unusedVariables false
set_option linter.unusedSimpArgs false
theorem mul3_le {a b c : Int} (h1 : 1 ≤ a) (h2 : a ≤ 8) (h3 : 1 ≤ b) (h4 : b ≤ 12) (h5 : 1 ≤ c) (h6 : c ≤ 12) : 1 ≤ a * b ∧ a * b ≤ 96 ∧ 1 ≤ a * b * c ∧ a * b * c ≤ 1152 := by
  have e1 : a * b ≤ 8 * 12 := Int.mul_le_mul h2 h4 (by omega) (by omega)
  have e2 : 1 * 1 ≤ a * b := Int.mul_le_mul h1 h3 (by omega) (by omega)
  have e3 : a * b * c ≤ 96 * 12 := Int.mul_le_mul (by omega) h6 (by omega) (by omega)
  have e4 : 1 * 1 ≤ a * b * c := Int.mul_le_mul (by omega) h5 (by omega) (by omega)
  omega
theorem shR_iff (a b c : Int) : shR a b c = true ↔ (1 ≤ a ∧ a ≤ 8) ∧ (1 ≤ b ∧ b ≤ 12) ∧ (1 ≤ c ∧ c ≤ 12) ∧ a * b * c ≤ 128 := by
  simp only [shR, wiB, Bool.and_eq_true, decide_eq_true_eq]
  constructor
  · rintro ⟨⟨h1, h2⟩, ⟨h3, h4⟩, ⟨h5, h6⟩, h7⟩
    obtain ⟨e1, e2, e3, e4⟩ := mul3_le h1 h2 h3 h4 h5 h6
    rw [IntWalk.wrap64_in (a * b) (by omega), IntWalk.wrap64_in (a * b * c) (by omega)] at h7
    exact ⟨⟨h1, h2⟩, ⟨h3, h4⟩, ⟨h5, h6⟩, h7⟩
  · rintro ⟨⟨h1, h2⟩, ⟨h3, h4⟩, ⟨h5, h6⟩, h7⟩
    obtain ⟨e1, e2, e3, e4⟩ := mul3_le h1 h2 h3 h4 h5 h6
    refine ⟨⟨h1, h2⟩, ⟨h3, h4⟩, ⟨h5, h6⟩, ?_⟩
    rw [IntWalk.wrap64_in (a * b) (by omega), IntWalk.wrap64_in (a * b * c) (by omega)]
    exact h7
theorem sizeS_eq {a b c : Int} (h : shR a b c = true) : sizeS a b c = a * b * c := by
  obtain ⟨⟨h1, h2⟩, ⟨h3, h4⟩, ⟨h5, h6⟩, h7⟩ := (shR_iff a b c).1 h
  obtain ⟨e1, e2, e3, e4⟩ := mul3_le h1 h2 h3 h4 h5 h6
  rw [sizeS, if_pos h, IntWalk.wrap64_in (a * b) (by omega), IntWalk.wrap64_in (a * b * c) (by omega)]
/-- shape.Of where there is no such place. -/
theorem of_no {a b c i : Int} (h : ¬ (0 ≤ i ∧ i < sizeS a b c)) : shape_Of.f a b c i = some (0, 0, 0, false) := by
  have hs : 0 ≤ sizeS a b c ∧ sizeS a b c ≤ 128 := by
    by_cases hr : shR a b c = true
    · rw [sizeS_eq hr]
      obtain ⟨⟨h1, h2⟩, ⟨h3, h4⟩, ⟨h5, h6⟩, h7⟩ := (shR_iff a b c).1 hr
      obtain ⟨e1, e2, e3, e4⟩ := mul3_le h1 h2 h3 h4 h5 h6
      omega
    · simp [sizeS, hr]
  unfold shape_Of.f
  simp only [size_eq, within_eq, Option.bind_some]
  rw [IntWalk.wrap64_in _ (by omega)]
  have : wiB i 0 (sizeS a b c - 1) = false := by
    unfold wiB
    by_cases h0 : 0 ≤ i
    · have : ¬ i ≤ sizeS a b c - 1 := by omega
      simp [this]
    · simp [h0]
  rw [this]; simp
/-- .. and where there is one. -/
theorem of_yes {a b c i : Int} (h : 0 ≤ i ∧ i < sizeS a b c) : ∃ q y x : Nat, shape_Of.f a b c i = some ((q : Int), (y : Int), (x : Int), true) ∧ (q : Int) < a ∧ (y : Int) < b ∧ (x : Int) < c ∧ i = ((q : Int) * b + y) * c + x := by
  have hr : shR a b c = true := by
    by_cases hr : shR a b c = true
    · exact hr
    · rw [sizeS, if_neg hr] at h; omega
  have hz := sizeS_eq hr
  obtain ⟨⟨h1, h2⟩, ⟨h3, h4⟩, ⟨h5, h6⟩, h7⟩ := (shR_iff a b c).1 hr
  obtain ⟨e1, e2, e3, e4⟩ := mul3_le h1 h2 h3 h4 h5 h6
  rw [hz] at h
  have d0 : 0 ≤ i / c := Int.ediv_nonneg (by omega) (by omega)
  have d1 : i / c < a * b := Int.ediv_lt_of_lt_mul (by omega) h.2
  have d2 : 0 ≤ i / c / b := Int.ediv_nonneg d0 (by omega)
  have d3 : i / c / b < a := Int.ediv_lt_of_lt_mul (by omega) d1
  have m0 := Int.emod_nonneg i (by omega : c ≠ 0)
  have m1 := Int.emod_lt_of_pos i (by omega : 0 < c)
  have m2 := Int.emod_nonneg (i / c) (by omega : b ≠ 0)
  have m3 := Int.emod_lt_of_pos (i / c) (by omega : 0 < b)
  obtain ⟨q, hq⟩ := Int.eq_ofNat_of_zero_le d2
  obtain ⟨y, hy⟩ := Int.eq_ofNat_of_zero_le m2
  obtain ⟨x, hx⟩ := Int.eq_ofNat_of_zero_le m0
  refine ⟨q, y, x, ?_, by omega, by omega, by omega, ?_⟩
  · unfold shape_Of.f
    simp only [size_eq, within_eq, Option.bind_some]
    rw [hz, IntWalk.wrap64_in _ (by omega)]
    have : wiB i 0 (a * b * c - 1) = true := by
      unfold wiB
      have g1 : i ≤ a * b * c - 1 := by omega
      simp [h.1, g1]
    rw [this, if_pos rfl, if_neg (by omega), if_neg (by omega)]
    rw [Int.tdiv_eq_ediv_of_nonneg h.1, IntWalk.wrap64_in (i / c) (by omega), Int.tdiv_eq_ediv_of_nonneg d0, IntWalk.wrap64_in _ (by omega), Int.tmod_eq_emod_of_nonneg d0, Int.tmod_eq_emod_of_nonneg h.1, hq, hy, hx]
  · have f1 := Int.mul_ediv_add_emod i c
    have f2 := Int.mul_ediv_add_emod (i / c) b
    rw [hx] at f1
    rw [hq, hy] at f2
    rw [← f1, ← f2]
    simp only [Int.mul_comm]
end Go.Proofs.Ytjegihodmidhoaa.G
namespace Go.Proofs.Ytjegihodmidhoaa.G
open Go.RowKit Go.Proofs.YtjegihodmidhoaaW.PrintWords Go.Proofs.YtjegihodmidhoaaW.PrintLast Go.Proofs.YtjegihodmidhoaaW.PrintMore
set_option linter.unusedVariables false
set_option linter.unusedSimpArgs false
section
variable (l0 l1 l2 l3 i0 i1 i2 o0 o1 o2 wt o : Int) (B : World) (go gl gr : Nat)
structure ConvPre (xs : List S91) (W : World) : Prop where
  row : ∃ A cap, W.heap[go]? = some (.cells #[.slice A xs.length cap] 88 (0, 0)) ∧ Kd.R k91 91 W B.heap.size (fun _ => True) (.slice A xs.length cap) xs
  look : W.heap[gl]? = some (.cells #[.int .i64 l0, .int .i64 l1, .int .i64 l2, .int .i64 l3, .int .i64 i0, .int .i64 i1, .int .i64 i2, .int .i64 o0, .int .i64 o1, .int .i64 o2, .int .i64 wt] 134 (0, 0))
  outc : W.heap[gr]? = some (.cells #[.int .i64 o] 3 (0, 0))
  below : Below B.heap.size B W
  ne : (B.heap.size ≤ go ∧ B.heap.size ≤ gl ∧ B.heap.size ≤ gr) ∧ go ≠ gl ∧ go ≠ gr
variable {l0 l1 l2 l3 i0 i1 i2 o0 o1 o2 wt o B go gl gr}
theorem ConvPre.chan {xs : List S91} {W : World} (h : ConvPre l0 l1 l2 l3 i0 i1 i2 o0 o1 o2 wt o B go gl gr xs W) (c : Int) :
    ConvSt l0 l1 l2 l3 i0 i1 i2 o0 o1 o2 wt c o B go gl W.heap.size gr xs (W.alloc (.cells #[.int .i64 c] 3)) where
  row := by obtain ⟨A, cap, h1, h2⟩ := h.row; exact ⟨A, cap, blk_alloc h1 _, Kd.R_below h2 (below_alloc (Below.refl _ _) _)⟩
  look := blk_alloc h.look _
  chan := heap_alloc_new _ _
  outc := blk_alloc h.outc _
  below := below_alloc h.below _
  ne := by
    obtain ⟨⟨n1, n2, n3⟩, n4, n5⟩ := h.ne
    obtain ⟨A, cap, h1, h2⟩ := h.row
    have := blk_lt h1
    exact ⟨⟨n1, n2, h.below.size, n3⟩, n4, by omega, n5⟩
theorem ConvSt.pre {c : Int} {gc : Nat} {xs : List S91} {W : World} (h : ConvSt l0 l1 l2 l3 i0 i1 i2 o0 o1 o2 wt c o B go gl gc gr xs W) : ConvPre l0 l1 l2 l3 i0 i1 i2 o0 o1 o2 wt o B go gl gr xs W where
  row := h.row
  look := h.look
  outc := h.outc
  below := h.below
  ne := ⟨⟨h.ne.1.1, h.ne.1.2.1, h.ne.1.2.2.2⟩, h.ne.2.1, h.ne.2.2.2⟩
end
/-- All terms of a place, channel by channel. -/
def convL (l2 i0 i1 i2 wt o : Int) (n Y X C : Nat) : List S91 := (List.range C).flatMap fun (c : Nat) => (List.range (n * n)).map (winT l2 i0 i1 i2 wt (c : Int) o n Y X)
theorem convL_succ (l2 i0 i1 i2 wt o : Int) (n Y X C : Nat) : convL l2 i0 i1 i2 wt o n Y X (C + 1) = convL l2 i0 i1 i2 wt o n Y X C ++ (List.range (n * n)).map (winT l2 i0 i1 i2 wt C o n Y X) := by
  simp [convL, List.range_succ, List.flatMap_append]
theorem convL_length (l2 i0 i1 i2 wt o : Int) (n Y X C : Nat) : (convL l2 i0 i1 i2 wt o n Y X C).length = C * (n * n) := by
  induction C with
  | zero => simp [convL]
  | succ C ih => rw [convL_succ, List.length_append, ih, List.length_map, List.length_range, Nat.succ_mul]
section
variable (l0 l1 i1 i2 o0 o1 o2 wt : Int) (n st C : Nat)
set_option maxRecDepth 100000 in
set_option maxHeartbeats 4000000 in
theorem conv_yes (i : Int) (q y x : Nat) (hOf : shape_Of.f o0 o1 o2 i = some ((q : Int), (y : Int), (x : Int), true)) (hn : n ≤ 12) (hst : st ≤ 12) (hy : y < 12) (hx : x < 12) (hC : C ≤ 8) (w : World) :
    Calls Try.prog 84 #[.agg #[.int .i64 l0, .int .i64 l1, .int .i64 n, .int .i64 st, .int .i64 C, .int .i64 i1, .int .i64 i2, .int .i64 o0, .int .i64 o1, .int .i64 o2, .int .i64 wt], .int .i64 i] w fun e w' =>
      ∃ v, e = .returned v ∧ Kd.R k91 91 w' w.heap.size (fun _ => True) v (convL n C i1 i2 wt q n (y * st) (x * st) C) ∧ Below w.heap.size w w' := by
  have hu134 := Try.underlying134
  have hu63 := Try.underlying63
  have hu23 := Try.underlying23
  have hY : y * st < 133 := Nat.lt_succ_of_le (Nat.mul_le_mul (by omega : y ≤ 11) hst)
  have hX : x * st < 133 := Nat.lt_succ_of_le (Nat.mul_le_mul (by omega : x ≤ 11) hst)
  have hnn : n * n ≤ 144 := Nat.mul_le_mul hn hn
  go_enter Try.func84, Try.ntmps84
  go_wp2_with fail
  refine (shape_Of.calls o0 o1 o2 i _ _ _ _ _ hOf).mono ?_
  rintro e w1 ⟨rfl, hb⟩
  have hL := blk_below (heap_alloc_new w _) hb
  have hB1 : Below w.heap.size w w1 := below_then (below_alloc (Below.refl _ _) _) (by simp) hb
  have hlt : w.heap.size < w1.heap.size := blk_lt hL
  have hne : ¬ w.heap.size = w1.heap.size := by omega
  have hne2 : ¬ w.heap.size = w1.heap.size + 1 := by omega
  have e4 := (blk_cell hL 4).trans rfl
  have HL := Aside0.mk hL
  have HB := Aside0.mk hB1
  clear hb hL hB1
  go_wp2_with fail
  clear e4 hOf
  obtain ⟨gr, hgr⟩ : ∃ gr, w1.heap.size = gr := ⟨_, rfl⟩
  have hP0 : Aside0 (ConvPre l0 l1 n st C i1 i2 o0 o1 o2 wt q w (gr + 1) w.heap.size gr (convL n C i1 i2 wt q n (y * st) (x * st) 0) ((w1.alloc (.cells #[.int .i64 q] 3)).alloc (.cells #[.slice none 0 0] 88))) := by
    subst hgr
    have h0 : convL n C i1 i2 wt q n (y * st) (x * st) 0 = [] := rfl
    rw [h0]
    refine ⟨{ row := ⟨none, 0, ?_, Kd.R_nil _ _ _ _ _⟩, look := ?_, outc := ?_, below := ?_, ne := ?_ }⟩
    · have := heap_alloc_new (w1.alloc (.cells #[.int .i64 q] 3)) (.cells #[.slice none 0 0] 88)
      rw [World.size_alloc] at this
      exact this
    · exact blk_alloc (blk_alloc HL.out _) _
    · exact blk_alloc (heap_alloc_new _ _) _
    · exact below_alloc (below_alloc HB.out _) _
    · have := HB.out.size
      exact ⟨⟨by omega, by omega, by omega⟩, by omega, by omega⟩
  simp only [hgr]
  clear HL HB
  go_loopw [25] (fun i wr => ∃ k : Nat, k ≤ C ∧ i = .int .i64 k ∧ Aside0 (ConvPre l0 l1 n st C i1 i2 o0 o1 o2 wt q w (gr + 1) w.heap.size gr (convL n C i1 i2 wt q n (y * st) (x * st) k) wr)) (fun i _ => C - (intOf i).toNat)
  case atStart => exact ⟨0, Nat.zero_le _, rfl, hP0⟩
  case round =>
    obtain ⟨k, hk, rfl, HP⟩ := hrel
    by_cases hlt2 : k < C
    · have hlk := HP.out.look
      have e2 : wr.cell? ⟨w.heap.size, 2, none⟩ = some (.int .i64 n) := (blk_cell hlk 2).trans rfl
      have e3 : wr.cell? ⟨w.heap.size, 3, none⟩ = some (.int .i64 st) := (blk_cell hlk 3).trans rfl
      have g1 := blk_lt hlk
      have g2 : ¬ w.heap.size = wr.heap.size := by omega
      have hll : (convL n C i1 i2 wt q n (y * st) (x * st) k).length ≤ 100000 := by
        rw [convL_length]
        exact Nat.le_trans (Nat.mul_le_mul (by omega : k ≤ 8) hnn) (by omega)
      have C95 := Aside0.mk (window_calls l0 l1 n st C i1 i2 o0 o1 o2 wt k q w (gr + 1) w.heap.size wr.heap.size gr n (y * st) (x * st) hn hY hX _ hll _ (HP.out.chan (k : Int)).drew)
      clear hlk hP0 HP hll
      go_wp2_with fail
      go_region_with (first | (go_at_call 95; (with_reducible refine C95.out.mono ?_); rintro e w2 ⟨rfl, hst2⟩; have ST2 := Aside0.mk hst2; clear hst2) | (go_at_call 96; (with_reducible refine (times_calls y x st hy hx (Nat.lt_succ_of_le hst) _).mono ?_); rintro e w' ⟨rfl, rfl⟩))
      all_goals
        clear C95 e2 e3
        go_wp2_with fail
        go_roundw
        case rel => exact ⟨k + 1, by omega, by go_num, ⟨by rw [convL_succ]; exact ST2.out.pre⟩⟩
        case measure => simp [intOf]; omega
    · obtain rfl : k = C := by omega
      obtain ⟨A, cap, h1, h2⟩ := HP.out.row
      have e0 := (blk_cell h1 0).trans rfl
      have HR := Aside0.mk h2
      clear h1 h2
      go_wp2_with fail
      go_ret
      exact ⟨_, rfl, HR.out, HP.out.below⟩
end
set_option maxRecDepth 100000 in
set_option maxHeartbeats 4000000 in
theorem conv_no (l0 l1 l2 l3 i0 i1 i2 o0 o1 o2 wt i r1 r2 r3 : Int) (hOf : shape_Of.f o0 o1 o2 i = some (r1, r2, r3, false)) (w : World) :
    Calls Try.prog 84 #[.agg #[.int .i64 l0, .int .i64 l1, .int .i64 l2, .int .i64 l3, .int .i64 i0, .int .i64 i1, .int .i64 i2, .int .i64 o0, .int .i64 o1, .int .i64 o2, .int .i64 wt], .int .i64 i] w fun e w' =>
      ∃ v, e = .returned v ∧ Kd.R k91 91 w' w.heap.size (fun _ => True) v [] ∧ Below w.heap.size w w' := by
  have hu134 := Try.underlying134
  have hu63 := Try.underlying63
  have hu23 := Try.underlying23
  go_enter Try.func84, Try.ntmps84
  go_wp2_with fail
  refine (shape_Of.calls o0 o1 o2 i _ _ _ _ _ hOf).mono ?_
  rintro e w1 ⟨rfl, hb⟩
  have HB := Aside0.mk (below_then (below_alloc (Below.refl _ _) _) (by simp) hb : Below w.heap.size w w1)
  clear hb hOf
  go_wp2_with fail
  go_ret
  exact ⟨_, rfl, Kd.R_nil _ _ _ _ _, below_alloc HB.out _⟩
/-- (look).conv by its plain reading: what a step of a network that fits has. -/
def terms_look_conv.f (l0 l1 l2 l3 i0 i1 i2 o0 o1 o2 wt i : Int) : Option (List S91) :=
  if (0 ≤ l2 ∧ l2 ≤ 12) ∧ (0 ≤ l3 ∧ l3 ≤ 12) ∧ (0 ≤ i0 ∧ i0 ≤ 8) then
    (shape_Of.f o0 o1 o2 i).bind fun t => if t.2.2.2 = true then some (convL l2 i0 i1 i2 wt t.1 l2.toNat (t.2.1.toNat * l3.toNat) (t.2.2.1.toNat * l3.toNat) i0.toNat) else some []
  else none
theorem terms_look_conv.calls (l0 l1 l2 l3 i0 i1 i2 o0 o1 o2 wt i : Int) (r : List S91) (w : World) (h : terms_look_conv.f l0 l1 l2 l3 i0 i1 i2 o0 o1 o2 wt i = some r) :
    Calls Try.prog 84 #[.agg #[.int .i64 l0, .int .i64 l1, .int .i64 l2, .int .i64 l3, .int .i64 i0, .int .i64 i1, .int .i64 i2, .int .i64 o0, .int .i64 o1, .int .i64 o2, .int .i64 wt], .int .i64 i] w fun e w' =>
      ∃ v0_ : Value, e = .returned (v0_) ∧ Kd.R k91 91 w' w.heap.size (fun _ => True) v0_ r ∧ Below w.heap.size w w' := by
  unfold terms_look_conv.f at h
  split at h
  · rename_i hb
    obtain ⟨⟨a1, a2⟩, ⟨a3, a4⟩, ⟨a5, a6⟩⟩ := hb
    obtain ⟨n, rfl⟩ := Int.eq_ofNat_of_zero_le a1
    obtain ⟨st, rfl⟩ := Int.eq_ofNat_of_zero_le a3
    obtain ⟨C, rfl⟩ := Int.eq_ofNat_of_zero_le a5
    by_cases hi : 0 ≤ i ∧ i < sizeS o0 o1 o2
    · have hr : shR o0 o1 o2 = true := by
        by_cases hr : shR o0 o1 o2 = true
        · exact hr
        · rw [sizeS, if_neg hr] at hi; omega
      obtain ⟨_, ⟨_, b2⟩, ⟨_, b3⟩, _⟩ := (shR_iff _ _ _).1 hr
      obtain ⟨q, y, x, hOf, _, h2, h3, _⟩ := of_yes hi
      rw [hOf] at h
      simp only [Option.bind_some, if_true, Int.toNat_natCast, Option.some.injEq] at h
      subst h
      exact conv_yes l0 l1 i1 i2 o0 o1 o2 wt n st C i q y x hOf (by omega) (by omega) (by omega) (by omega) (by omega) w
    · rw [of_no hi] at h
      simp at h
      subst h
      exact conv_no l0 l1 n st C i1 i2 o0 o1 o2 wt i _ _ _ (of_no hi) w
  · cases h
end Go.Proofs.Ytjegihodmidhoaa.G
