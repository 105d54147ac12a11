/- The law GraphRemove returns true at every input, and its arguments read afterwards as they read before. No condition. -/
import Derived.Test.YtmbnibonggbjgaaZGraphRemove5
import Derived.Test.YtmbnibonggbjgaaRows
namespace Go.Proofs.Ytmbnibonggbjgaa.X
open Go.RowKit Go.Proofs.YtmbnibonggbjgaaW.PrintWords Go.Proofs.YtmbnibonggbjgaaW.PrintLast Go.Proofs.YtmbnibonggbjgaaW.PrintMore
open Go.Proofs.YtmbnibonggbjgaaW.PrintWords renaming blk_drewN → bN, blk_drew → bD, blk_alloc → bA, below_alloc → wA, pw_below_drewN → wN, below_drew1 → wD, blk_below → bB, below_step → wS, blk_at → bT, blk_grown → bG
open Go.Proofs.YtmbnibonggbjgaaW.PrintWords.Kd renaming R_alloc → rA, R_drewN → rN, R_drew → rD, R_below → rB, R_grown → rG, C_below → cB, C_alloc → cA, C_drewN → cN, C_drew → cD
attribute [local go_sem] max2_int min2_int max_two min_two max_three min_three max_four min_four
set_option linter.unusedVariables false
set_option linter.unusedSimpArgs false
/-! ### scarfjointlaw05_same: function 17 -/
def scarfjointlaw05_same.f (k : Nat) (l0_0 : List Int) (l0_1 : List Int) (l1_0 : List Int) (l1_1 : List Int) : Option (Bool) := (slices_Equal_int_int.f k l0_0 l1_0).bind fun t103 => (if t103 = true then ((slices_Equal_int_int.f k l0_1 l1_1).bind fun t104 => (some t104)) else (some false))
theorem scarfjointlaw05_same.mono : ∀ a0 a1 a2 a3 k, LeO (scarfjointlaw05_same.f k a0 a1 a2 a3) (scarfjointlaw05_same.f (k + 1) a0 a1 a2 a3) := by
 intro a0 a1 a2 a3 k
 unfold scarfjointlaw05_same.f
 repeat' first
   | (with_reducible exact slices_Equal_int_int.mono _ _ _)
   | (with_reducible exact LeO.refl _)
   | (with_reducible exact LeO.none _)
   | (with_reducible refine LeO.ite ?_ ?_)
   | (with_reducible refine LeO.bind ?_ (fun _ => ?_))
   | exact slices_Equal_int_int.mono _ _ _
   | exact LeO.none _
   | refine LeO.ite ?_ ?_
   | refine LeO.bind ?_ (fun _ => ?_)
set_option maxHeartbeats 8000000 in
set_option maxRecDepth 100000 in
theorem scarfjointlaw05_same.calls (k : Nat) (A0_0 : Option Addr) (c0_0 : Nat) (l0_0 : List Int) (A0_1 : Option Addr) (c0_1 : Nat) (l0_1 : List Int) (A1_0 : Option Addr) (c1_0 : Nat) (l1_0 : List Int) (A1_1 : Option Addr) (c1_1 : Nat) (l1_1 : List Int) (r : Bool) (w : World) (hr0_0 : Kd.C (Kd.int .i64) w A0_0 l0_0.length l0_0) (hc0_0 : l0_0.length ≤ c0_0) (hr0_1 : Kd.C (Kd.int .i64) w A0_1 l0_1.length l0_1) (hc0_1 : l0_1.length ≤ c0_1) (hr1_0 : Kd.C (Kd.int .i64) w A1_0 l1_0.length l1_0) (hc1_0 : l1_0.length ≤ c1_0) (hr1_1 : Kd.C (Kd.int .i64) w A1_1 l1_1.length l1_1) (hc1_1 : l1_1.length ≤ c1_1) (h : scarfjointlaw05_same.f k l0_0 l0_1 l1_0 l1_1 = some r) :
  Calls Try.prog 17 #[.agg #[.slice A0_0 l0_0.length c0_0, .slice A0_1 l0_1.length c0_1], .agg #[.slice A1_0 l1_0.length c1_0, .slice A1_1 l1_1.length c1_1]] w fun e w' => e = .returned (.bool r) ∧ Below w.heap.size w w' := by
 have hu29 := Try.underlying29
 have HR0_0 := Aside0.mk hr0_0
 have HC0_0 := Aside0.mk hc0_0
 clear hr0_0 hc0_0
 have HR0_1 := Aside0.mk hr0_1
 have HC0_1 := Aside0.mk hc0_1
 clear hr0_1 hc0_1
 have HR1_0 := Aside0.mk hr1_0
 have HC1_0 := Aside0.mk hc1_0
 clear hr1_0 hc1_0
 have HR1_1 := Aside0.mk hr1_1
 have HC1_1 := Aside0.mk hc1_1
 clear hr1_1 hc1_1
 have HB := Aside0.mk (Below.refl w.heap.size w)
 have H : ((slices_Equal_int_int.f k l0_0 l1_0).bind fun t103 => (if t103 = true then ((slices_Equal_int_int.f k l0_1 l1_1).bind fun t104 => (some t104)) else (some false))) = some r := h
 clear h
 replace H := Option.bind_eq_some_iff.mp H
 obtain ⟨t103, A30, H⟩ := H
 replace H : (if t103 = true then ((slices_Equal_int_int.f k l0_1 l1_1).bind fun t104 => (some t104)) else (some false)) = some r := H
 have A3 := Aside0.mk A30
 clear A30
 by_cases c4 : t103 = true
 ·subst c4
  have H1 : ((slices_Equal_int_int.f k l0_1 l1_1).bind fun t104 => (some t104)) = some r := by rw [if_pos rfl] at H; exact H
  clear H
  have H := H1
  clear H1
  replace H := Option.bind_eq_some_iff.mp H
  obtain ⟨t104, A50, H⟩ := H
  replace H : (some t104) = some r := H
  have A5 := Aside0.mk A50
  clear A50
  obtain rfl := Option.some.inj H
  go_enter Try.func17, Try.ntmps17
  go_wp2_with (first | ((with_reducible refine gate_dst (N := 2) rfl ?_); refine box_event ?hg (N := 2) ?hd (cs := #[.slice A0_0 l0_0.length c0_0, .slice A0_1 l0_1.length c0_1]) (t := 29) ?hr ?_; (case hd => rfl); (case hg => rfl); (case hr => first | (go_simp; done) | (go_simp; rfl)); intro gb101 hg w6 hbox hb; have n0_ := Aside0.mk (wS hB hb); have n1_ := Aside0.mk (hbox); have n2_ := Aside0.mk ((by rw [hg]; exact (below_size hB) : w.heap.size ≤ gb101)); have n3_ := Aside0.mk ((by rw [hg]; exact (below_size hB) : w.heap.size ≤ gb101)); clear HB; have HB := n0_; have BK101 := n1_; have GW101 := n2_; have GE101 := n3_; clear n0_ n1_ n2_ n3_; clear hb hbox hg) | ((with_reducible refine gate_dst (N := 3) rfl ?_); refine box_event ?hg (N := 3) ?hd (cs := #[.slice A1_0 l1_0.length c1_0, .slice A1_1 l1_1.length c1_1]) (t := 29) ?hr ?_; (case hd => rfl); (case hg => rfl); (case hr => first | (go_simp; done) | (go_simp; rfl)); intro gb102 hg w7 hbox hb; have n0_ := Aside0.mk (bB (g := gb101) (o := .cells #[.slice A0_0 l0_0.length c0_0, .slice A0_1 l0_1.length c0_1] 29 (0, 0)) (by (with_reducible repeat (first | refine bN ?_ _ | refine bD ?_ | refine bA ?_ _)); exact BK101.out) hb); have n1_ := Aside0.mk (wS (by repeat (first | (with_reducible first | exact HB.out | apply wA | apply wN | apply wD | refine below_set ?_ GE101.out) | exact HB.out)) hb); have n2_ := Aside0.mk (hbox); have n3_ := Aside0.mk ((by rw [hg]; exact (below_size (by repeat (first | (with_reducible first | exact HB.out | apply wA | apply wN | apply wD | refine below_set ?_ GE101.out) | exact HB.out))) : w.heap.size ≤ gb102)); have n4_ := Aside0.mk ((by rw [hg]; exact (below_size (by repeat (first | (with_reducible first | exact HB.out | apply wA | apply wN | apply wD | refine below_set ?_ GE101.out) | exact HB.out))) : w.heap.size ≤ gb102)); have n5_ := Aside0.mk ((by rw [hg]; exact Nat.ne_of_lt (blk_lt (g := gb101) (o := .cells #[.slice A0_0 l0_0.length c0_0, .slice A0_1 l0_1.length c0_1] 29 (0, 0)) (by (with_reducible repeat (first | refine bN ?_ _ | refine bD ?_ | refine bA ?_ _)); exact BK101.out)) : gb101 ≠ gb102)); have n6_ := Aside0.mk ((by rw [hg]; exact Nat.ne_of_gt (blk_lt (g := gb101) (o := .cells #[.slice A0_0 l0_0.length c0_0, .slice A0_1 l0_1.length c0_1] 29 (0, 0)) (by (with_reducible repeat (first | refine bN ?_ _ | refine bD ?_ | refine bA ?_ _)); exact BK101.out)) : gb102 ≠ gb101)); clear BK101; clear HB; have BK101 := n0_; have HB := n1_; have BK102 := n2_; have GW102 := n3_; have GE102 := n4_; have NB101_102 := n5_; have NB102_101 := n6_; clear n0_ n1_ n2_ n3_ n4_ n5_ n6_; clear hb hbox hg; have hnb8 := NB101_102.out; have hnc8 := NB102_101.out; have hcz9_0 : w7.cell? ⟨gb101, 0, none⟩ = some (.slice A0_0 l0_0.length c0_0) := (blk_cell BK101.out 0).trans rfl; have hcz9_1 : w7.cell? ⟨gb101, 1, none⟩ = some (.slice A0_1 l0_1.length c0_1) := (blk_cell BK101.out 1).trans rfl; have hfz9_0 := blk_frozen BK101.out 0; have hfz9_1 := blk_frozen BK101.out 1; have hcz10_0 : w7.cell? ⟨gb102, 0, none⟩ = some (.slice A1_0 l1_0.length c1_0) := (blk_cell BK102.out 0).trans rfl; have hcz10_1 : w7.cell? ⟨gb102, 1, none⟩ = some (.slice A1_1 l1_1.length c1_1) := (blk_cell BK102.out 1).trans rfl; have hfz10_0 := blk_frozen BK102.out 0; have hfz10_1 := blk_frozen BK102.out 1) | ((with_reducible refine gate_callee (f := 22) rfl ?_); refine goesL_ (some 9) rfl rfl Try.func22 (by kernel_rfl) rfl #[.slice A0_0 l0_0.length c0_0, .slice A1_0 l1_0.length c1_0] rfl aM ?_; (with_reducible refine (slices_Equal_int_int.calls k _ _ l0_0 _ _ l1_0 true _ ?side1 ?side2 ?side3 ?side4 A3.out).mono ?_); (case side1 => repeat (first | exact (cB HR0_0.out HB.out) | (with_reducible refine cA ?_ _) | (with_reducible refine cN ?_ _) | (with_reducible refine cD ?_))); (case side2 => exact HC0_0.out); (case side3 => repeat (first | exact (cB HR1_0.out HB.out) | (with_reducible refine cA ?_ _) | (with_reducible refine cN ?_ _) | (with_reducible refine cD ?_))); (case side4 => exact HC1_0.out); rintro e w' ⟨rfl, ⟨nd, rfl⟩⟩; refine ⟨_, rfl, ?_⟩) | (go_at_call 22; (with_reducible refine (slices_Equal_int_int.calls k _ _ l0_1 _ _ l1_1 t104 _ ?side1 ?side2 ?side3 ?side4 A5.out).mono ?_); (case side1 => repeat (first | exact (cB HR0_1.out (by repeat (first | (with_reducible first | exact HB.out | apply wA | apply wN | apply wD | refine below_set ?_ GE101.out | refine below_set ?_ GE102.out) | exact HB.out))) | (with_reducible refine cA ?_ _) | (with_reducible refine cN ?_ _) | (with_reducible refine cD ?_))); (case side2 => exact HC0_1.out); (case side3 => repeat (first | exact (cB HR1_1.out (by repeat (first | (with_reducible first | exact HB.out | apply wA | apply wN | apply wD | refine below_set ?_ GE101.out | refine below_set ?_ GE102.out) | exact HB.out))) | (with_reducible refine cA ?_ _) | (with_reducible refine cN ?_ _) | (with_reducible refine cD ?_))); (case side4 => exact HC1_1.out); rintro e w' ⟨rfl, ⟨nd, rfl⟩⟩))
  go_ret
  exact ⟨by first | rfl | (simp [errW_none, errW_some] <;> rfl) | (simp [*, errW_none, errW_some] <;> rfl), by repeat (first | (with_reducible first | exact HB.out | apply wA | apply wN | apply wD | refine below_set ?_ GE101.out | refine below_set ?_ GE102.out) | exact HB.out)⟩
 ·replace c4 := Bool.eq_false_iff.mpr c4
  subst c4
  have H1 : (some false) = some r := by rw [if_neg (show ¬ (false = true) by decide)] at H; exact H
  clear H
  have H := H1
  clear H1
  obtain rfl := Option.some.inj H
  go_enter Try.func17, Try.ntmps17
  go_wp2_with (first | ((with_reducible refine gate_dst (N := 2) rfl ?_); refine box_event ?hg (N := 2) ?hd (cs := #[.slice A0_0 l0_0.length c0_0, .slice A0_1 l0_1.length c0_1]) (t := 29) ?hr ?_; (case hd => rfl); (case hg => rfl); (case hr => first | (go_simp; done) | (go_simp; rfl)); intro gb101 hg w11 hbox hb; have n0_ := Aside0.mk (wS hB hb); have n1_ := Aside0.mk (hbox); have n2_ := Aside0.mk ((by rw [hg]; exact (below_size hB) : w.heap.size ≤ gb101)); have n3_ := Aside0.mk ((by rw [hg]; exact (below_size hB) : w.heap.size ≤ gb101)); clear HB; have HB := n0_; have BK101 := n1_; have GW101 := n2_; have GE101 := n3_; clear n0_ n1_ n2_ n3_; clear hb hbox hg) | ((with_reducible refine gate_dst (N := 3) rfl ?_); refine box_event ?hg (N := 3) ?hd (cs := #[.slice A1_0 l1_0.length c1_0, .slice A1_1 l1_1.length c1_1]) (t := 29) ?hr ?_; (case hd => rfl); (case hg => rfl); (case hr => first | (go_simp; done) | (go_simp; rfl)); intro gb102 hg w12 hbox hb; have n0_ := Aside0.mk (bB (g := gb101) (o := .cells #[.slice A0_0 l0_0.length c0_0, .slice A0_1 l0_1.length c0_1] 29 (0, 0)) (by (with_reducible repeat (first | refine bN ?_ _ | refine bD ?_ | refine bA ?_ _)); exact BK101.out) hb); have n1_ := Aside0.mk (wS (by repeat (first | (with_reducible first | exact HB.out | apply wA | apply wN | apply wD | refine below_set ?_ GE101.out) | exact HB.out)) hb); have n2_ := Aside0.mk (hbox); have n3_ := Aside0.mk ((by rw [hg]; exact (below_size (by repeat (first | (with_reducible first | exact HB.out | apply wA | apply wN | apply wD | refine below_set ?_ GE101.out) | exact HB.out))) : w.heap.size ≤ gb102)); have n4_ := Aside0.mk ((by rw [hg]; exact (below_size (by repeat (first | (with_reducible first | exact HB.out | apply wA | apply wN | apply wD | refine below_set ?_ GE101.out) | exact HB.out))) : w.heap.size ≤ gb102)); have n5_ := Aside0.mk ((by rw [hg]; exact Nat.ne_of_lt (blk_lt (g := gb101) (o := .cells #[.slice A0_0 l0_0.length c0_0, .slice A0_1 l0_1.length c0_1] 29 (0, 0)) (by (with_reducible repeat (first | refine bN ?_ _ | refine bD ?_ | refine bA ?_ _)); exact BK101.out)) : gb101 ≠ gb102)); have n6_ := Aside0.mk ((by rw [hg]; exact Nat.ne_of_gt (blk_lt (g := gb101) (o := .cells #[.slice A0_0 l0_0.length c0_0, .slice A0_1 l0_1.length c0_1] 29 (0, 0)) (by (with_reducible repeat (first | refine bN ?_ _ | refine bD ?_ | refine bA ?_ _)); exact BK101.out)) : gb102 ≠ gb101)); clear BK101; clear HB; have BK101 := n0_; have HB := n1_; have BK102 := n2_; have GW102 := n3_; have GE102 := n4_; have NB101_102 := n5_; have NB102_101 := n6_; clear n0_ n1_ n2_ n3_ n4_ n5_ n6_; clear hb hbox hg; have hnb13 := NB101_102.out; have hnc13 := NB102_101.out; have hcz14_0 : w12.cell? ⟨gb101, 0, none⟩ = some (.slice A0_0 l0_0.length c0_0) := (blk_cell BK101.out 0).trans rfl; have hcz14_1 : w12.cell? ⟨gb101, 1, none⟩ = some (.slice A0_1 l0_1.length c0_1) := (blk_cell BK101.out 1).trans rfl; have hfz14_0 := blk_frozen BK101.out 0; have hfz14_1 := blk_frozen BK101.out 1; have hcz15_0 : w12.cell? ⟨gb102, 0, none⟩ = some (.slice A1_0 l1_0.length c1_0) := (blk_cell BK102.out 0).trans rfl; have hcz15_1 : w12.cell? ⟨gb102, 1, none⟩ = some (.slice A1_1 l1_1.length c1_1) := (blk_cell BK102.out 1).trans rfl; have hfz15_0 := blk_frozen BK102.out 0; have hfz15_1 := blk_frozen BK102.out 1) | ((with_reducible refine gate_callee (f := 22) rfl ?_); refine goesL_ (some 9) rfl rfl Try.func22 (by kernel_rfl) rfl #[.slice A0_0 l0_0.length c0_0, .slice A1_0 l1_0.length c1_0] rfl aM ?_; (with_reducible refine (slices_Equal_int_int.calls k _ _ l0_0 _ _ l1_0 false _ ?side1 ?side2 ?side3 ?side4 A3.out).mono ?_); (case side1 => repeat (first | exact (cB HR0_0.out HB.out) | (with_reducible refine cA ?_ _) | (with_reducible refine cN ?_ _) | (with_reducible refine cD ?_))); (case side2 => exact HC0_0.out); (case side3 => repeat (first | exact (cB HR1_0.out HB.out) | (with_reducible refine cA ?_ _) | (with_reducible refine cN ?_ _) | (with_reducible refine cD ?_))); (case side4 => exact HC1_0.out); rintro e w' ⟨rfl, ⟨nd, rfl⟩⟩; refine ⟨_, rfl, ?_⟩))
  go_ret
  exact ⟨by first | rfl | (simp [errW_none, errW_some] <;> rfl) | (simp [*, errW_none, errW_some] <;> rfl), by repeat (first | (with_reducible first | exact HB.out | apply wA | apply wN | apply wD | refine below_set ?_ GE101.out | refine below_set ?_ GE102.out) | exact HB.out)⟩
end Go.Proofs.Ytmbnibonggbjgaa.X

/- The law GraphRemove, walked by hand: what it returns where the premises hold. -/
namespace Go.Proofs.Ytmbnibonggbjgaa.X
open Go.RowKit Go.Proofs.YtmbnibonggbjgaaW.PrintWords Go.Proofs.YtmbnibonggbjgaaW.PrintLast Go.Proofs.YtmbnibonggbjgaaW.PrintMore
open Go.Proofs.YtmbnibonggbjgaaW.PrintWords renaming blk_drewN → bN, blk_drew → bD, blk_alloc → bA, below_alloc → wA, pw_below_drewN → wN, below_drew1 → wD, blk_below → bB, below_step → wS, blk_at → bT, blk_grown → bG
open Go.Proofs.YtmbnibonggbjgaaW.PrintWords.Kd renaming R_alloc → rA, R_drewN → rN, R_drew → rD, R_below → rB, R_grown → rG, C_below → cB, C_alloc → cA, C_drewN → cN, C_drew → cD
set_option linter.unusedVariables false
set_option linter.unusedSimpArgs false
set_option maxHeartbeats 4000000 in
set_option maxRecDepth 100000 in
/-- Where the graph is not small: true. -/
theorem law3_few (k : Nat) (A0 : Option Addr) (c0 : Nat) (l0 : List Int) (A1 : Option Addr) (c1 : Nat) (l1 : List S38) (x1 x2 : Value) (w : World) (h0 : Kd.C (Kd.int .i64) w A0 l0.length l0) (hc0 : l0.length ≤ c0) (h1 : Kd.C k38 w A1 l1.length l1) (hc1 : l1.length ≤ c1)
  (hA : scarfjointlaw05_awake.f k = some true) (hF : scarfjointref05_Few.f l0 l1 = some false) :
  Calls Try.prog 3 #[.agg #[.slice A0 l0.length c0, .slice A1 l1.length c1], x1, x2] w fun e w' => e = .returned (.bool true) ∧ Below w.heap.size w w' := by
 have hu25 := Try.underlying25
 have H0 := Aside0.mk h0
 have H1 := Aside0.mk h1
 have HC0 := Aside0.mk hc0
 have HC1 := Aside0.mk hc1
 have HA := Aside0.mk hA
 have HF := Aside0.mk hF
 clear h0 h1 hA hF hc0 hc1
 have HB := Aside0.mk (Below.refl w.heap.size w)
 go_enter Try.func3, Try.ntmps3
 go_wp2_with fail
 refine (scarfjointlaw05_awake.calls k true _ HA.out).mono ?_
 rintro e w1 ⟨rfl, hb⟩
 have BX := Aside0.mk (show Box2 w1 w.heap.size 25 _ _ from ⟨bB (heap_alloc_new w _) hb⟩)
 have HB1 := Aside0.mk (wS (wA HB.out _) hb)
 clear hb
 have hx0 := BX.out.c0
 have hx1 := BX.out.c1
 go_wp2_with fail
 refine Calls.mono (scarfjointref05_Few.calls _ _ l0 _ _ l1 false _ (cB H0.out HB1.out) HC0.out (cB H1.out HB1.out) HC1.out HF.out) ?_
 rintro e w2 ⟨rfl, hb⟩
 have HB2 := Aside0.mk (wS HB1.out hb)
 clear hb
 go_wp2_with fail
 refine (scarfjointlaw05_awake.calls k true _ HA.out).mono ?_
 rintro e w3 ⟨rfl, hb⟩
 have HB3 := Aside0.mk (wS HB2.out hb)
 clear hb
 go_wp2_with fail
 go_ret
 exact ⟨rfl, HB3.out⟩
set_option maxHeartbeats 4000000 in
set_option maxRecDepth 100000 in
/-- Where one of the lists is too long: true. -/
theorem law3_long (k : Nat) (A0 : Option Addr) (c0 : Nat) (l0 : List Int) (A1 : Option Addr) (c1 : Nat) (l1 : List S38) (B1 B2 : Option Addr) (n1 n2 d1 d2 : Nat) (w : World) (h0 : Kd.C (Kd.int .i64) w A0 l0.length l0) (hc0 : l0.length ≤ c0) (h1 : Kd.C k38 w A1 l1.length l1) (hc1 : l1.length ≤ c1)
  (hA : scarfjointlaw05_awake.f k = some true) (hF : scarfjointref05_Few.f l0 l1 = some true) (hn : 100 < n1 ∨ 100 < n2) :
  Calls Try.prog 3 #[.agg #[.slice A0 l0.length c0, .slice A1 l1.length c1], .slice B1 n1 d1, .slice B2 n2 d2] w fun e w' => e = .returned (.bool true) ∧ Below w.heap.size w w' := by
 have hu25 := Try.underlying25
 have H0 := Aside0.mk h0
 have H1 := Aside0.mk h1
 have HC0 := Aside0.mk hc0
 have HC1 := Aside0.mk hc1
 have HA := Aside0.mk hA
 have HF := Aside0.mk hF
 clear h0 h1 hA hF hc0 hc1
 have HB := Aside0.mk (Below.refl w.heap.size w)
 go_enter Try.func3, Try.ntmps3
 go_wp2_with fail
 refine (scarfjointlaw05_awake.calls k true _ HA.out).mono ?_
 rintro e w1 ⟨rfl, hb⟩
 have BX := Aside0.mk (show Box2 w1 w.heap.size 25 _ _ from ⟨bB (heap_alloc_new w _) hb⟩)
 have HB1 := Aside0.mk (wS (wA HB.out _) hb)
 clear hb
 have hx0 := BX.out.c0
 have hx1 := BX.out.c1
 go_wp2_with fail
 refine Calls.mono (scarfjointref05_Few.calls _ _ l0 _ _ l1 true _ (cB H0.out HB1.out) HC0.out (cB H1.out HB1.out) HC1.out HF.out) ?_
 rintro e w2 ⟨rfl, hb⟩
 have HB2 := Aside0.mk (wS HB1.out hb)
 clear hb
 go_wp2_with fail
 all_goals
  refine (scarfjointlaw05_awake.calls k true _ HA.out).mono ?_
  rintro e w3 ⟨rfl, hb⟩
  have HB3 := Aside0.mk (wS HB2.out hb)
  clear hb
  go_wp2_with fail
  try go_wp2_with fail
  go_ret
  exact ⟨rfl, HB3.out⟩
set_option maxHeartbeats 4000000 in
set_option maxRecDepth 100000 in
theorem law3_main (k : Nat) (A0 : Option Addr) (c0 : Nat) (l0 : List Int) (A1 : Option Addr) (c1 : Nat) (l1 : List S38) (A2 : Option Addr) (c2 : Nat) (l2 : List Int) (A3 : Option Addr) (c3 : Nat) (l3 : List Int) (w : World)
  (G0 : Row (Kd.int .i64) w A0 c0 l0) (G1 : Row k38 w A1 c1 l1) (N : Row (Kd.int .i64) w A2 c2 l2) (M : Row (Kd.int .i64) w A3 c3 l3)
  (r1 : List Int) (r2 : List S38) (r3 r4 : List Int) (r5 : Int)
  (hA : scarfjointlaw05_awake.f k = some true) (hF : scarfjointref05_Few.f l0 l1 = some true) (hn : l2.length ≤ 100) (hm : l3.length ≤ 100)
  (hC : scarfjointref05_Copied.f l0 l1 = some (l0, l1)) (hD : slices_Clone_int_int.f l2 = some l2) (hE_ : slices_Clone_int_int.f l3 = some l3)
  (hR : graph_Remove.f k l0 l1 l2 l3 = some (r1, r2, r3, r4, r5)) (hR' : scarfjointref05_Remove.f k l0 l1 l2 l3 = some (r1, r2, r3, r4, r5))
  (hS : scarfjointref05_Same.f k r1 r2 r1 r2 = some true) (hs : scarfjointlaw05_same.f k r3 r4 r3 r4 = some true)
  (hl3 : r3.length < 4611686018427387904) (hl4 : r4.length < 4611686018427387904)
  (hN : ∀ i : Int, 0 ≤ i → i < r3.length → 0 ≤ rd r3 i → rd r3 i < r1.length ∧ i < l0.length ∧ rd r1 (rd r3 i) = rd l0 i)
  (hE : ∀ i : Int, 0 ≤ i → i < r4.length → i < l1.length ∧ (0 ≤ rd r4 i → rd r4 i < r2.length ∧ (0 ≤ (rd_T38 l1 i).f1 ∧ (rd_T38 l1 i).f1 < r3.length) ∧ (0 ≤ (rd_T38 l1 i).f2 ∧ (rd_T38 l1 i).f2 < r3.length) ∧
   (rd_T38 r2 (rd r4 i)).f0 = (rd_T38 l1 i).f0 ∧ (rd_T38 r2 (rd r4 i)).f1 = rd r3 (rd_T38 l1 i).f1 ∧ (rd_T38 r2 (rd r4 i)).f2 = rd r3 (rd_T38 l1 i).f2)) :
  Calls Try.prog 3 #[.agg #[.slice A0 l0.length c0, .slice A1 l1.length c1], .slice A2 l2.length c2, .slice A3 l3.length c3] w fun e w' => e = .returned (.bool true) ∧ Below w.heap.size w w' := by
 have hu25 := Try.underlying25
 have hu29 := Try.underlying29
 have hu38 := Try.underlying38
 have HA := Aside0.mk hA
 have HF := Aside0.mk hF
 have HC := Aside0.mk hC
 have HD := Aside0.mk hD
 have HE := Aside0.mk hE_
 have HR := Aside0.mk hR
 have HR' := Aside0.mk hR'
 have HS := Aside0.mk hS
 have Hs := Aside0.mk hs
 have HN := Aside0.mk hN
 have HE2 := Aside0.mk hE
 have HL3 := Aside0.mk hl3
 have HL4 := Aside0.mk hl4
 clear hN hE hl3 hl4
 clear hA hF hC hD hE_ hR hR' hS hs
 have SB := Since.refl w
 go_enter Try.func3, Try.ntmps3
 go_wp2_with fail
 refine (scarfjointlaw05_awake.calls k true _ HA.out).mono ?_
 rintro e w1 ⟨rfl, hb⟩
 have BX : Box2 w1 w.heap.size 25 _ _ := ⟨bB (heap_alloc_new w _) hb⟩
 replace hb := wS (show Below w.heap.size w _ from by repeat (first | exact Below.refl _ _ | apply wA | refine below_set ?_ (by assumption))) hb
 replace G0 := G0.below hb
 replace G1 := G1.below hb
 replace N := N.below hb
 replace M := M.below hb
 replace SB := SB.step hb
 clear hb
 have BXx0 := BX.c0
 have BXx1 := BX.c1
 go_wp2_with fail
 refine (scarfjointref05_Few.calls _ _ l0 _ _ l1 true _ G0.at_ G0.cap G1.at_ G1.cap HF.out).mono ?_
 rintro e w2 ⟨rfl, hb⟩
 replace hb := wS (show Below w1.heap.size w1 _ from by repeat (first | exact Below.refl _ _ | apply wA | refine below_set ?_ (by assumption))) hb
 replace G0 := G0.below hb
 replace G1 := G1.below hb
 replace N := N.below hb
 replace M := M.below hb
 replace BX := BX.below hb
 replace SB := SB.step hb
 clear hb
 have BXx0 := BX.c0
 have BXx1 := BX.c1
 go_wp2_with fail
 all_goals try (exfalso; omega)
 refine (scarfjointref05_Copied.calls _ _ l0 _ _ l1 l0 l1 _ G0.at_ G0.cap G1.at_ G1.cap HC.out).mono ?_
 rintro e w3 ⟨v0, v1, rfl, q0, q1, hb⟩
 replace hb := wS (show Below w2.heap.size w2 _ from by repeat (first | exact Below.refl _ _ | apply wA | refine below_set ?_ (by assumption))) hb
 replace G0 := G0.below hb
 replace G1 := G1.below hb
 replace N := N.below hb
 replace M := M.below hb
 replace BX := BX.below hb
 replace SB := SB.step hb
 clear hb
 obtain ⟨A4, c4, rfl, P0⟩ := Row.of_R q0
 clear q0
 obtain ⟨A5, c5, rfl, P1⟩ := Row.of_R q1
 clear q1
 have BXx0 := BX.c0
 have BXx1 := BX.c1
 go_wp2_with fail
 refine (slices_Clone_int_int.calls _ _ l2 l2 _ N.at_ N.cap HD.out).mono ?_
 rintro e w4 ⟨v2, rfl, q2, hb⟩
 replace hb := wS (show Below w3.heap.size w3 _ from by repeat (first | exact Below.refl _ _ | apply wA | refine below_set ?_ (by assumption))) hb
 replace G0 := G0.below hb
 replace G1 := G1.below hb
 replace N := N.below hb
 replace M := M.below hb
 replace P0 := P0.below hb
 replace P1 := P1.below hb
 replace BX := BX.below hb
 replace SB := SB.step hb
 clear hb
 obtain ⟨A6, c6, rfl, P2⟩ := Row.of_R q2
 clear q2
 have BXx0 := BX.c0
 have BXx1 := BX.c1
 go_wp2_with fail
 refine (slices_Clone_int_int.calls _ _ l3 l3 _ M.at_ M.cap HE.out).mono ?_
 rintro e w5 ⟨v3, rfl, q3, hb⟩
 replace hb := wS (show Below w4.heap.size w4 _ from by repeat (first | exact Below.refl _ _ | apply wA | refine below_set ?_ (by assumption))) hb
 replace G0 := G0.below hb
 replace G1 := G1.below hb
 replace N := N.below hb
 replace M := M.below hb
 replace P0 := P0.below hb
 replace P1 := P1.below hb
 replace P2 := P2.below hb
 replace BX := BX.below hb
 replace SB := SB.step hb
 clear hb
 obtain ⟨A7, c7, rfl, P3⟩ := Row.of_R q3
 clear q3
 have BXx0 := BX.c0
 have BXx1 := BX.c1
 go_wp2_with fail
 refine (graph_Remove.calls k _ _ l0 _ _ l1 _ _ l2 _ _ l3 r1 r2 r3 r4 r5 _ P0.at_ P0.cap P1.at_ P1.cap P2.at_ P2.cap P3.at_ P3.cap HR.out).mono ?_
 rintro e w6 ⟨v4, v5, v6, v7, rfl, q4, q5, q6, q7, hb⟩
 replace hb := wS (show Below w5.heap.size w5 _ from by repeat (first | exact Below.refl _ _ | apply wA | refine below_set ?_ (by assumption))) hb
 replace G0 := G0.below hb
 replace G1 := G1.below hb
 replace N := N.below hb
 replace M := M.below hb
 replace P0 := P0.below hb
 replace P1 := P1.below hb
 replace P2 := P2.below hb
 replace P3 := P3.below hb
 replace BX := BX.below hb
 replace SB := SB.step hb
 clear hb
 obtain ⟨A8, c8, rfl, Q0⟩ := Row.of_R q4
 clear q4
 obtain ⟨A9, c9, rfl, Q1⟩ := Row.of_R q5
 clear q5
 obtain ⟨A10, c10, rfl, Q2⟩ := Row.of_R q6
 clear q6
 obtain ⟨A11, c11, rfl, Q3⟩ := Row.of_R q7
 clear q7
 have BXx0 := BX.c0
 have BXx1 := BX.c1
 go_upto_region 4 with fail
 obtain ⟨BA, BM, hb⟩ := two_new w6 (.slice A8 r1.length c8) (.slice A9 r2.length c9) 25 (.slice A10 r3.length c10) (.slice A11 r4.length c11) 29
 replace G0 := G0.below hb
 replace G1 := G1.below hb
 replace N := N.below hb
 replace M := M.below hb
 replace P0 := P0.below hb
 replace P1 := P1.below hb
 replace P2 := P2.below hb
 replace P3 := P3.below hb
 replace Q0 := Q0.below hb
 replace Q1 := Q1.below hb
 replace Q2 := Q2.below hb
 replace Q3 := Q3.below hb
 replace BX := BX.below hb
 replace SB := SB.step hb
 clear hb
 generalize hw : ((w6.alloc (.cells #[.slice A8 r1.length c8, .slice A9 r2.length c9] 25)).alloc (.cells #[.slice A10 r3.length c10, .slice A11 r4.length c11] 29)) = w7 at *
 clear hw
 have BXx0 := BX.c0
 have BXx1 := BX.c1
 go_wp2_with fail
 refine (scarfjointref05_Remove.calls k _ _ l0 _ _ l1 _ _ l2 _ _ l3 r1 r2 r3 r4 r5 _ G0.at_ G0.cap G1.at_ G1.cap N.at_ N.cap M.at_ M.cap HR'.out).mono ?_
 rintro e w8 ⟨v8, v9, v10, v11, rfl, q8, q9, q10, q11, hb⟩
 replace hb := wS (show Below w7.heap.size w7 _ from by repeat (first | exact Below.refl _ _ | apply wA | refine below_set ?_ (by assumption))) hb
 replace G0 := G0.below hb
 replace G1 := G1.below hb
 replace N := N.below hb
 replace M := M.below hb
 replace P0 := P0.below hb
 replace P1 := P1.below hb
 replace P2 := P2.below hb
 replace P3 := P3.below hb
 replace Q0 := Q0.below hb
 replace Q1 := Q1.below hb
 replace Q2 := Q2.below hb
 replace Q3 := Q3.below hb
 replace BX := BX.below hb
 replace BA := BA.below hb
 replace BM := BM.below hb
 replace SB := SB.step hb
 clear hb
 obtain ⟨A12, c12, rfl, R0⟩ := Row.of_R q8
 clear q8
 obtain ⟨A13, c13, rfl, R1⟩ := Row.of_R q9
 clear q9
 obtain ⟨A14, c14, rfl, R2⟩ := Row.of_R q10
 clear q10
 obtain ⟨A15, c15, rfl, R3⟩ := Row.of_R q11
 clear q11
 go_upto_region 5 with fail
 obtain ⟨BB, BN, hb⟩ := two_new w8 (.slice A12 r1.length c12) (.slice A13 r2.length c13) 25 (.slice A14 r3.length c14) (.slice A15 r4.length c15) 29
 replace G0 := G0.below hb
 replace G1 := G1.below hb
 replace N := N.below hb
 replace M := M.below hb
 replace P0 := P0.below hb
 replace P1 := P1.below hb
 replace P2 := P2.below hb
 replace P3 := P3.below hb
 replace Q0 := Q0.below hb
 replace Q1 := Q1.below hb
 replace Q2 := Q2.below hb
 replace Q3 := Q3.below hb
 replace R0 := R0.below hb
 replace R1 := R1.below hb
 replace R2 := R2.below hb
 replace R3 := R3.below hb
 replace BX := BX.below hb
 replace BA := BA.below hb
 replace BM := BM.below hb
 replace SB := SB.step hb
 clear hb
 generalize hw : ((w8.alloc (.cells #[.slice A12 r1.length c12, .slice A13 r2.length c13] 25)).alloc (.cells #[.slice A14 r3.length c14, .slice A15 r4.length c15] 29)) = w9 at *
 clear hw
 have BXx0 := BX.c0
 have BXx1 := BX.c1
 have BAx0 := BA.c0
 have BAx1 := BA.c1
 have BMx0 := BM.c0
 have BMx1 := BM.c1
 have BBx0 := BB.c0
 have BBx1 := BB.c1
 have BNx0 := BN.c0
 have BNx1 := BN.c1
 go_wp2_with fail
 refine (scarfjointref05_Same.calls k _ _ r1 _ _ r2 _ _ r1 _ _ r2 true _ Q0.at_ Q0.cap Q1.at_ Q1.cap R0.at_ R0.cap R1.at_ R1.cap HS.out).mono ?_
 rintro e w10 ⟨rfl, hb⟩
 replace hb := wS (show Below w9.heap.size w9 _ from by repeat (first | exact Below.refl _ _ | apply wA | refine below_set ?_ (by assumption))) hb
 replace G0 := G0.below hb
 replace G1 := G1.below hb
 replace N := N.below hb
 replace M := M.below hb
 replace P0 := P0.below hb
 replace P1 := P1.below hb
 replace P2 := P2.below hb
 replace P3 := P3.below hb
 replace Q0 := Q0.below hb
 replace Q1 := Q1.below hb
 replace Q2 := Q2.below hb
 replace Q3 := Q3.below hb
 replace R0 := R0.below hb
 replace R1 := R1.below hb
 replace R2 := R2.below hb
 replace R3 := R3.below hb
 replace BX := BX.below hb
 replace BA := BA.below hb
 replace BM := BM.below hb
 replace BB := BB.below hb
 replace BN := BN.below hb
 replace SB := SB.step hb
 clear hb
 have BXx0 := BX.c0
 have BXx1 := BX.c1
 have BAx0 := BA.c0
 have BAx1 := BA.c1
 have BMx0 := BM.c0
 have BMx1 := BM.c1
 have BBx0 := BB.c0
 have BBx1 := BB.c1
 have BNx0 := BN.c0
 have BNx1 := BN.c1
 go_wp2_with fail
 refine (scarfjointlaw05_same.calls k _ _ r3 _ _ r4 _ _ r3 _ _ r4 true _ Q2.at_ Q2.cap Q3.at_ Q3.cap R2.at_ R2.cap R3.at_ R3.cap Hs.out).mono ?_
 rintro e w11 ⟨rfl, hb⟩
 replace hb := wS (show Below w10.heap.size w10 _ from by repeat (first | exact Below.refl _ _ | apply wA | refine below_set ?_ (by assumption))) hb
 replace G0 := G0.below hb
 replace G1 := G1.below hb
 replace N := N.below hb
 replace M := M.below hb
 replace P0 := P0.below hb
 replace P1 := P1.below hb
 replace P2 := P2.below hb
 replace P3 := P3.below hb
 replace Q0 := Q0.below hb
 replace Q1 := Q1.below hb
 replace Q2 := Q2.below hb
 replace Q3 := Q3.below hb
 replace R0 := R0.below hb
 replace R1 := R1.below hb
 replace R2 := R2.below hb
 replace R3 := R3.below hb
 replace BX := BX.below hb
 replace BA := BA.below hb
 replace BM := BM.below hb
 replace BB := BB.below hb
 replace BN := BN.below hb
 replace SB := SB.step hb
 clear hb
 have BXx0 := BX.c0
 have BXx1 := BX.c1
 have BAx0 := BA.c0
 have BAx1 := BA.c1
 have BMx0 := BM.c0
 have BMx1 := BM.c1
 have BBx0 := BB.c0
 have BBx1 := BB.c1
 have BNx0 := BN.c0
 have BNx1 := BN.c1
 go_wp2_with fail
 ·refine (scarfjointref05_Same.calls k _ _ r1 _ _ r2 _ _ r1 _ _ r2 true _ Q0.at_ Q0.cap Q1.at_ Q1.cap R0.at_ R0.cap R1.at_ R1.cap HS.out).mono ?_
  rintro e w12 ⟨rfl, hb⟩
  replace hb := wS (show Below w11.heap.size w11 _ from by repeat (first | exact Below.refl _ _ | apply wA | refine below_set ?_ (by assumption))) hb
  replace G0 := G0.below hb
  replace G1 := G1.below hb
  replace N := N.below hb
  replace M := M.below hb
  replace P0 := P0.below hb
  replace P1 := P1.below hb
  replace P2 := P2.below hb
  replace P3 := P3.below hb
  replace Q0 := Q0.below hb
  replace Q1 := Q1.below hb
  replace Q2 := Q2.below hb
  replace Q3 := Q3.below hb
  replace R0 := R0.below hb
  replace R1 := R1.below hb
  replace R2 := R2.below hb
  replace R3 := R3.below hb
  replace BX := BX.below hb
  replace BA := BA.below hb
  replace BM := BM.below hb
  replace BB := BB.below hb
  replace BN := BN.below hb
  replace SB := SB.step hb
  clear hb
  have BXx0 := BX.c0
  have BXx1 := BX.c1
  have BAx0 := BA.c0
  have BAx1 := BA.c1
  have BMx0 := BM.c0
  have BMx1 := BM.c1
  have BBx0 := BB.c0
  have BBx1 := BB.c1
  have BNx0 := BN.c0
  have BNx1 := BN.c1
  go_wp2_with fail
  refine (scarfjointlaw05_same.calls k _ _ r3 _ _ r4 _ _ r3 _ _ r4 true _ Q2.at_ Q2.cap Q3.at_ Q3.cap R2.at_ R2.cap R3.at_ R3.cap Hs.out).mono ?_
  rintro e w13 ⟨rfl, hb⟩
  replace hb := wS (show Below w12.heap.size w12 _ from by repeat (first | exact Below.refl _ _ | apply wA | refine below_set ?_ (by assumption))) hb
  replace G0 := G0.below hb
  replace G1 := G1.below hb
  replace N := N.below hb
  replace M := M.below hb
  replace P0 := P0.below hb
  replace P1 := P1.below hb
  replace P2 := P2.below hb
  replace P3 := P3.below hb
  replace Q0 := Q0.below hb
  replace Q1 := Q1.below hb
  replace Q2 := Q2.below hb
  replace Q3 := Q3.below hb
  replace R0 := R0.below hb
  replace R1 := R1.below hb
  replace R2 := R2.below hb
  replace R3 := R3.below hb
  replace BX := BX.below hb
  replace BA := BA.below hb
  replace BM := BM.below hb
  replace BB := BB.below hb
  replace BN := BN.below hb
  replace SB := SB.step hb
  clear hb
  have BXx0 := BX.c0
  have BXx1 := BX.c1
  have BAx0 := BA.c0
  have BAx1 := BA.c1
  have BMx0 := BM.c0
  have BMx1 := BM.c1
  have BBx0 := BB.c0
  have BBx1 := BB.c1
  have BNx0 := BN.c0
  have BNx1 := BN.c1
  go_wp2_with fail
  try go_wp2_with fail
  go_ret
  exact ⟨rfl, SB.get⟩
 ·go_loopg [90] r3.length (fun kq v90 w' => ∃ i : Int, v90 = .int .i64 i ∧ Aside0 (0 ≤ i ∧ i + kq = r3.length) ∧ Row (Kd.int .i64) w' A0 c0 l0 ∧ Row k38 w' A1 c1 l1 ∧ Row (Kd.int .i64) w' A8 c8 r1 ∧ Row k38 w' A9 c9 r2 ∧ Row (Kd.int .i64) w' A10 c10 r3 ∧ Row (Kd.int .i64) w' A11 c11 r4 ∧ Box2 w' w.heap.size 25 (.slice A0 l0.length c0) (.slice A1 l1.length c1) ∧ Box2 w' w6.heap.size 25 (.slice A8 r1.length c8) (.slice A9 r2.length c9) ∧ Box2 w' (w6.heap.size + 1) 29 (.slice A10 r3.length c10) (.slice A11 r4.length c11) ∧ Since w w')
  case atStart => exact ⟨0, rfl, ⟨by omega⟩, G0, G1, Q0, Q1, Q2, Q3, BX, BA, BM, SB⟩
  case round =>
   clear G0 G1 Q0 Q1 Q2 Q3 BX BA BM SB
   obtain ⟨i, rfl, hi, G0, G1, Q0, Q1, Q2, Q3, BX, BA, BM, SB⟩ := hrel
   have BXx0 := BX.c0
   have BXx1 := BX.c1
   have BAx0 := BA.c0
   have BAx1 := BA.c1
   have BMx0 := BM.c0
   have BMx1 := BM.c1
   by_cases c1 : i < r3.length
   ·have c1b : decide (i < (r3.length : Int)) = true := decide_eq_true c1
    have p : 0 ≤ i := hi.out.1
    obtain ⟨ad, ead, hx⟩ := Kd.at_int Q2.at_ i p c1
    cases ead
    have HP := Aside0.mk p
    have HC1 := Aside0.mk c1
    replace p := eq_true p
    have q := eq_true c1
    clear c1
    go_upto_region 10 with fail
    by_cases c2 : 0 ≤ rd r3 i
    ·have c2b : decide (0 ≤ rd r3 i) = true := decide_eq_true c2
     obtain ⟨c3, c4, c5⟩ := HN.out i HP.out HC1.out c2
     have c3b : decide ((r1.length : Int) ≤ rd r3 i) = false := decide_eq_false (by omega)
     have c5b : (rd r1 (rd r3 i) != rd l0 i) = false := bne_eq_false_iff_eq.mpr c5
     clear c5
     obtain ⟨ae, eae, hy⟩ := Kd.at_int Q0.at_ (rd r3 i) c2 c3
     cases eae
     obtain ⟨af, eaf, hz⟩ := Kd.at_int G0.at_ i HP.out c4
     cases eaf
     replace c2 := eq_true c2
     replace c3 := eq_true c3
     replace c4 := eq_true c4
     go_wp2
     repeat (go_quiet (fail); try go_wp2)
     go_roundg (gk - 1)
     case measure => have h1 := hi.out; have h2 := HC1.out; omega
     case rel =>
      have h1 := hi.out
      have h2 := HC1.out
      have h3 := HL3.out
      exact ⟨_, rfl, ⟨by unfold wrap64; omega⟩, G0.below (by repeat (first | exact Below.refl _ _ | apply wN | apply below_drew | apply wA)), G1.below (by repeat (first | exact Below.refl _ _ | apply wN | apply below_drew | apply wA)), Q0.below (by repeat (first | exact Below.refl _ _ | apply wN | apply below_drew | apply wA)), Q1.below (by repeat (first | exact Below.refl _ _ | apply wN | apply below_drew | apply wA)), Q2.below (by repeat (first | exact Below.refl _ _ | apply wN | apply below_drew | apply wA)), Q3.below (by repeat (first | exact Below.refl _ _ | apply wN | apply below_drew | apply wA)), BX.below (by repeat (first | exact Below.refl _ _ | apply wN | apply below_drew | apply wA)), BA.below (by repeat (first | exact Below.refl _ _ | apply wN | apply below_drew | apply wA)), BM.below (by repeat (first | exact Below.refl _ _ | apply wN | apply below_drew | apply wA)), SB.step (by repeat (first | exact Below.refl _ _ | apply wN | apply below_drew | apply wA))⟩
    ·have c2b : decide (0 ≤ rd r3 i) = false := decide_eq_false c2
     clear c2
     go_wp2
     repeat (go_quiet (fail); try go_wp2)
     go_roundg (gk - 1)
     case measure => have h1 := hi.out; have h2 := HC1.out; omega
     case rel =>
      have h1 := hi.out
      have h2 := HC1.out
      have h3 := HL3.out
      exact ⟨_, rfl, ⟨by unfold wrap64; omega⟩, G0.below (by repeat (first | exact Below.refl _ _ | apply wN | apply below_drew | apply wA)), G1.below (by repeat (first | exact Below.refl _ _ | apply wN | apply below_drew | apply wA)), Q0.below (by repeat (first | exact Below.refl _ _ | apply wN | apply below_drew | apply wA)), Q1.below (by repeat (first | exact Below.refl _ _ | apply wN | apply below_drew | apply wA)), Q2.below (by repeat (first | exact Below.refl _ _ | apply wN | apply below_drew | apply wA)), Q3.below (by repeat (first | exact Below.refl _ _ | apply wN | apply below_drew | apply wA)), BX.below (by repeat (first | exact Below.refl _ _ | apply wN | apply below_drew | apply wA)), BA.below (by repeat (first | exact Below.refl _ _ | apply wN | apply below_drew | apply wA)), BM.below (by repeat (first | exact Below.refl _ _ | apply wN | apply below_drew | apply wA)), SB.step (by repeat (first | exact Below.refl _ _ | apply wN | apply below_drew | apply wA))⟩
   ·have c1b : decide (i < (r3.length : Int)) = false := decide_eq_false c1
    clear c1
    go_wp2
    go_loopg [121] r4.length (fun kq v121 w' => ∃ i : Int, v121 = .int .i64 i ∧ Aside0 (0 ≤ i ∧ i + kq = r4.length) ∧ Row (Kd.int .i64) w' A0 c0 l0 ∧ Row k38 w' A1 c1 l1 ∧ Row (Kd.int .i64) w' A8 c8 r1 ∧ Row k38 w' A9 c9 r2 ∧ Row (Kd.int .i64) w' A10 c10 r3 ∧ Row (Kd.int .i64) w' A11 c11 r4 ∧ Box2 w' w.heap.size 25 (.slice A0 l0.length c0) (.slice A1 l1.length c1) ∧ Box2 w' w6.heap.size 25 (.slice A8 r1.length c8) (.slice A9 r2.length c9) ∧ Box2 w' (w6.heap.size + 1) 29 (.slice A10 r3.length c10) (.slice A11 r4.length c11) ∧ Since w w')
    case atStart => exact ⟨0, rfl, ⟨by omega⟩, G0, G1, Q0, Q1, Q2, Q3, BX, BA, BM, SB⟩
    case round =>
     clear hi G0 G1 Q0 Q1 Q2 Q3 BX BA BM SB
     obtain ⟨i, rfl, hi, G0, G1, Q0, Q1, Q2, Q3, BX, BA, BM, SB⟩ := hrel
     have BXx0 := BX.c0
     have BXx1 := BX.c1
     have BAx0 := BA.c0
     have BAx1 := BA.c1
     have BMx0 := BM.c0
     have BMx1 := BM.c1
     by_cases c1 : i < r4.length
     ·have c1b : decide (i < (r4.length : Int)) = true := decide_eq_true c1
      have p : 0 ≤ i := hi.out.1
      obtain ⟨c2, c3⟩ := HE2.out i p c1
      obtain ⟨ad, ead, hx⟩ := Kd.at_int Q3.at_ i p c1
      cases ead
      obtain ⟨ae, eae, hy0, hy1, hy2⟩ := at_T38 G1.at_ i p c2
      cases eae
      have HP := Aside0.mk p
      have HC1 := Aside0.mk c1
      have HC2 := Aside0.mk c2
      have HC3 := Aside0.mk c3
      clear c3
      replace p := eq_true p
      have q := eq_true c1
      replace c2 := eq_true c2
      clear c1
      go_upto_region 17 with fail
      obtain ⟨BE, hb⟩ := three_new wr (.int .i64 (rd_T38 l1 i).f0) (.int .i64 (rd_T38 l1 i).f1) (.int .i64 (rd_T38 l1 i).f2) 38
      replace G0 := G0.below hb
      replace G1 := G1.below hb
      replace Q0 := Q0.below hb
      replace Q1 := Q1.below hb
      replace Q2 := Q2.below hb
      replace Q3 := Q3.below hb
      replace BX := BX.below hb
      replace BA := BA.below hb
      replace BM := BM.below hb
      replace SB := SB.step hb
      clear hb
      have BXx0 := BX.c0
      have BXx1 := BX.c1
      have BAx0 := BA.c0
      have BAx1 := BA.c1
      have BMx0 := BM.c0
      have BMx1 := BM.c1
      generalize hw : wr.alloc (.cells #[.int .i64 (rd_T38 l1 i).f0, .int .i64 (rd_T38 l1 i).f1, .int .i64 (rd_T38 l1 i).f2] 38) = wx at *
      clear hw
      have BEx0 := BE.c0
      have BEx1 := BE.c1
      have BEx2 := BE.c2
      by_cases d1 : 0 ≤ rd r4 i
      ·have d1b : decide (0 ≤ rd r4 i) = true := decide_eq_true d1
       obtain ⟨d2, ⟨d3, d4⟩, ⟨d5, d6⟩, e0, e1, e2⟩ := HC3.out d1
       have d2b : decide ((r2.length : Int) ≤ rd r4 i) = false := decide_eq_false (by omega)
       obtain ⟨af, eaf, hz0, hz1, hz2⟩ := at_T38 Q1.at_ (rd r4 i) d1 d2
       cases eaf
       obtain ⟨ag, eag, hf⟩ := Kd.at_int Q2.at_ _ d3 d4
       cases eag
       obtain ⟨ah, eah, hg⟩ := Kd.at_int Q2.at_ _ d5 d6
       cases eah
       replace d1 := eq_true d1
       replace d2 := eq_true d2
       replace d3 := eq_true d3
       replace d4 := eq_true d4
       replace d5 := eq_true d5
       replace d6 := eq_true d6
       go_wp2
       repeat (go_quiet (fail); try go_wp2)
       go_roundg (gk - 1)
       case measure => have h1 := hi.out; have h2 := HC1.out; omega
       case rel =>
        have h1 := hi.out
        have h2 := HC1.out
        have h3 := HL4.out
        exact ⟨_, rfl, ⟨by unfold wrap64; omega⟩, G0.below (by repeat (first | exact Below.refl _ _ | apply wN | apply below_drew | apply wA)), G1.below (by repeat (first | exact Below.refl _ _ | apply wN | apply below_drew | apply wA)), Q0.below (by repeat (first | exact Below.refl _ _ | apply wN | apply below_drew | apply wA)), Q1.below (by repeat (first | exact Below.refl _ _ | apply wN | apply below_drew | apply wA)), Q2.below (by repeat (first | exact Below.refl _ _ | apply wN | apply below_drew | apply wA)), Q3.below (by repeat (first | exact Below.refl _ _ | apply wN | apply below_drew | apply wA)), BX.below (by repeat (first | exact Below.refl _ _ | apply wN | apply below_drew | apply wA)), BA.below (by repeat (first | exact Below.refl _ _ | apply wN | apply below_drew | apply wA)), BM.below (by repeat (first | exact Below.refl _ _ | apply wN | apply below_drew | apply wA)), SB.step (by repeat (first | exact Below.refl _ _ | apply wN | apply below_drew | apply wA))⟩
      ·have d1b : decide (0 ≤ rd r4 i) = false := decide_eq_false d1
       clear d1
       go_wp2
       repeat (go_quiet (fail); try go_wp2)
       go_roundg (gk - 1)
       case measure => have h1 := hi.out; have h2 := HC1.out; omega
       case rel =>
        have h1 := hi.out
        have h2 := HC1.out
        have h3 := HL4.out
        exact ⟨_, rfl, ⟨by unfold wrap64; omega⟩, G0.below (by repeat (first | exact Below.refl _ _ | apply wN | apply below_drew | apply wA)), G1.below (by repeat (first | exact Below.refl _ _ | apply wN | apply below_drew | apply wA)), Q0.below (by repeat (first | exact Below.refl _ _ | apply wN | apply below_drew | apply wA)), Q1.below (by repeat (first | exact Below.refl _ _ | apply wN | apply below_drew | apply wA)), Q2.below (by repeat (first | exact Below.refl _ _ | apply wN | apply below_drew | apply wA)), Q3.below (by repeat (first | exact Below.refl _ _ | apply wN | apply below_drew | apply wA)), BX.below (by repeat (first | exact Below.refl _ _ | apply wN | apply below_drew | apply wA)), BA.below (by repeat (first | exact Below.refl _ _ | apply wN | apply below_drew | apply wA)), BM.below (by repeat (first | exact Below.refl _ _ | apply wN | apply below_drew | apply wA)), SB.step (by repeat (first | exact Below.refl _ _ | apply wN | apply below_drew | apply wA))⟩
     ·have c1b : decide (i < (r4.length : Int)) = false := decide_eq_false c1
      clear c1
      go_wp2
      go_ret
      exact ⟨rfl, SB.get⟩
end Go.Proofs.Ytmbnibonggbjgaa.X

/- Plain laws: the reference's Valid and the program's are one; a list is the same as itself. -/
namespace Go.Proofs.Ytmbnibonggbjgaa.Pl
open Go.RowKit Go.Proofs.YtmbnibonggbjgaaW.PrintWords Go.Proofs.Ytmbnibonggbjgaa.X
set_option linter.unusedVariables false

theorem rd_mid (pre : List Int) (x : Int) (r : List Int) : rd (pre ++ x :: r) (pre.length : Int) = x := by
  unfold rd; rw [Int.toNat_natCast, List.getD_eq_getElem?_getD, List.getElem?_append_right (Nat.le_refl _)]; simp
theorem rd38_mid (pre : List S38) (x : S38) (r : List S38) : rd_T38 (pre ++ x :: r) (pre.length : Int) = x := by
  unfold rd_T38; rw [Int.toNat_natCast, List.getD_eq_getElem?_getD, List.getElem?_append_right (Nat.le_refl _)]; simp
theorem lt_mid {α : Type} (pre : List α) (x : α) (r : List α) : (pre.length : Int) < ((pre ++ x :: r).length : Int) := by simp; omega
theorem snoc_mid {α : Type} (pre : List α) (x : α) (r : List α) : pre ++ x :: r = (pre ++ [x]) ++ r := by simp
theorem wrap_mid {α : Type} (pre : List α) (x : α) (r : List α) (h : (pre ++ x :: r).length ≤ 9223372036854775807) : wrap64 ((pre.length : Int) + 1) = ((pre ++ [x]).length : Int) := by
  simp at h ⊢
  unfold wrap64
  omega
theorem wrap_id {i : Int} (h0 : 0 ≤ i) (h : i ≤ 9223372036854775807) : wrap64 i = i := by unfold wrap64; omega

theorem kind_eq (t : Int) : scarfjointref05_kind.f t = some (kindB t) := by
  unfold scarfjointref05_kind.f kindB
  by_cases h : t ≥ 0
  · rw [if_pos h]; simp [h]
  · rw [if_neg h]; simp [h]
theorem right_eq (e : S38) (n : Int) : scarfjointref05_right.f e.f0 e.f1 e.f2 n = some (edgeB n e) := by
  unfold scarfjointref05_right.f edgeB
  rw [kind_eq]
  simp only [Option.bind_some]
  cases kindB e.f0
  · simp
  · simp only [if_true, Bool.true_and]
    by_cases h1 : e.f1 ≥ 0
    · rw [if_pos h1]
      by_cases h2 : e.f1 < n
      · rw [if_pos h2]
        by_cases h3 : e.f2 ≥ 0
        · rw [if_pos h3]; simp [h1, h2, h3]
        · rw [if_neg h3]; simp [h3]
      · rw [if_neg h2]; simp [h2]
    · rw [if_neg h1]; simp [h1]

theorem valid_l1 (l0 : List Int) (l1 : List S38) (hl : l1.length ≤ 9223372036854775807) : ∀ (r pre : List S38), l1 = pre ++ r →
    Ev (fun k => scarfjointref05_Valid.l1 k (pre.length : Int) l0 l1) (if r.any (fun e => !edgeB l0.length e) = true then 6 else 0) := by
  intro r
  induction r with
  | nil =>
    rintro pre rfl
    refine Ev.step (fun k => by simp only [scarfjointref05_Valid.l1]; rw [if_neg (by simp)]) ?_
    exact Ev.now _
  | cons x r ih =>
    rintro pre rfl
    have ih' := ih (pre ++ [x]) (snoc_mid pre x r)
    cases hb : edgeB l0.length x with
    | true =>
      refine Ev.step (fun k => by simp only [scarfjointref05_Valid.l1]; rw [if_pos (lt_mid pre x r), if_pos (by omega), rd38_mid, right_eq, hb, wrap_mid pre x r hl]) ?_
      simpa [hb] using ih'
    | false =>
      refine Ev.step (fun k => by simp only [scarfjointref05_Valid.l1]; rw [if_pos (lt_mid pre x r), if_pos (by omega), rd38_mid, right_eq, hb]) ?_
      simpa [hb] using Ev.now (6 : Int)

theorem valid_l0 (l0 : List Int) (l1 : List S38) (hl0 : l0.length ≤ 9223372036854775807) (hl : l1.length ≤ 9223372036854775807) : ∀ (r pre : List Int), l0 = pre ++ r →
    Ev (fun k => scarfjointref05_Valid.l0 k (pre.length : Int) l0 l1) (if r.any (fun t => !kindB t) = true then 6 else if l1.any (fun e => !edgeB l0.length e) = true then 6 else 0) := by
  intro r
  induction r with
  | nil =>
    rintro pre rfl
    refine Ev.step (fun k => by simp only [scarfjointref05_Valid.l0]; rw [if_neg (by simp)]) ?_
    have h := valid_l1 pre l1 hl l1 [] rfl
    simpa using h
  | cons x r ih =>
    rintro pre rfl
    have ih' := ih (pre ++ [x]) (snoc_mid pre x r)
    cases hb : kindB x with
    | true =>
      refine Ev.step (fun k => by simp only [scarfjointref05_Valid.l0]; rw [if_pos (lt_mid pre x r), if_pos (by omega), rd_mid, kind_eq, hb, wrap_mid pre x r hl0]) ?_
      simpa [hb] using ih'
    | false =>
      refine Ev.step (fun k => by simp only [scarfjointref05_Valid.l0]; rw [if_pos (lt_mid pre x r), if_pos (by omega), rd_mid, kind_eq, hb]) ?_
      simpa [hb] using Ev.now (6 : Int)

theorem valid_ev (l0 : List Int) (l1 : List S38) : Ev (fun k => scarfjointref05_Valid.f k l0 l1) (validE l0 l1) := by
  unfold validE scarfjointref05_Valid.f
  by_cases h0 : l0.length > 40
  · rw [if_pos h0]
    simp only [if_pos (show (l0.length : Int) > 40 by omega)]
    exact Ev.step (fun k => by simp only [scarfjointref05_Valid.j0, if_true]) (Ev.now _)
  · rw [if_neg h0]
    simp only [if_neg (show ¬ (l0.length : Int) > 40 by omega)]
    by_cases h1 : l1.length > 80
    · rw [if_pos h1]
      refine Ev.step (fun k => by simp only [scarfjointref05_Valid.j0]; rw [if_pos (by simp; omega)]) (Ev.now _)
    · rw [if_neg h1]
      refine Ev.step (fun k => by simp only [scarfjointref05_Valid.j0]; rw [if_neg (by simp; omega)]) ?_
      exact valid_l0 l0 l1 (by omega) (by omega) l0 [] rfl

theorem few_eq (l0 : List Int) (l1 : List S38) : scarfjointref05_Few.f l0 l1 = some (decide (l0.length ≤ 45 ∧ l1.length ≤ 90)) := by
  unfold scarfjointref05_Few.f
  by_cases h : (l0.length : Int) ≤ 45
  · rw [if_pos h]
    have h' : l0.length ≤ 45 := by omega
    simp [h']; omega
  · rw [if_neg h]
    have h' : ¬ l0.length ≤ 45 := by omega
    simp [h']
theorem copied_eq (l0 : List Int) (l1 : List S38) (h0 : l0.length ≤ 1000000) (h1 : l1.length ≤ 1000000) : scarfjointref05_Copied.f l0 l1 = some (l0, l1) := by
  unfold scarfjointref05_Copied.f
  simp only [Option.bind_some]
  rw [if_pos (by simp; omega), if_pos (by simp; omega)]
  simp

theorem sameInts_l0 (l : List Int) (hl : l.length ≤ 9223372036854775807) : ∀ (r pre : List Int), l = pre ++ r → Ev (fun k => scarfjointref05_SameInts.l0 k l l (pre.length : Int)) true := by
  intro r
  induction r with
  | nil =>
    rintro pre rfl
    exact Ev.step (fun k => by simp only [scarfjointref05_SameInts.l0]; rw [if_neg (by simp)]) (Ev.now _)
  | cons x r ih =>
    rintro pre rfl
    refine Ev.step (fun k => by simp only [scarfjointref05_SameInts.l0]; rw [if_pos (lt_mid pre x r), if_pos (by omega), if_pos (lt_mid pre x r), if_pos trivial, wrap_mid pre x r hl]) (ih (pre ++ [x]) (snoc_mid pre x r))
theorem sameInts_self (l : List Int) (hl : l.length ≤ 1000000) : Ev (fun k => scarfjointref05_SameInts.f k l l) true := by
  unfold scarfjointref05_SameInts.f
  simp only [if_true]
  exact sameInts_l0 l (by omega) l [] rfl
theorem same_l0 (l : List S38) (a b : List Int) (hl : l.length ≤ 9223372036854775807) : ∀ (r pre : List S38), l = pre ++ r → Ev (fun k => scarfjointref05_Same.l0 k (pre.length : Int) a l b l) true := by
  intro r
  induction r with
  | nil =>
    rintro pre rfl
    exact Ev.step (fun k => by simp only [scarfjointref05_Same.l0]; rw [if_neg (by simp)]) (Ev.now _)
  | cons x r ih =>
    rintro pre rfl
    refine Ev.step (fun k => by simp only [scarfjointref05_Same.l0]; rw [if_pos (lt_mid pre x r), if_pos (by omega), if_pos (lt_mid pre x r), if_neg (by simp), wrap_mid pre x r hl]) (ih (pre ++ [x]) (snoc_mid pre x r))
theorem same_self (l0 : List Int) (l1 : List S38) (h0 : l0.length ≤ 1000000) (h1 : l1.length ≤ 1000000) : Ev (fun k => scarfjointref05_Same.f k l0 l1 l0 l1) true := by
  unfold scarfjointref05_Same.f
  refine Ev.bind (sameInts_self l0 h0) ?_
  simp only [if_true]
  refine Ev.step (fun k => by simp only [scarfjointref05_Same.j0]; rw [if_neg (by simp)]) ?_
  exact same_l0 l1 l0 l0 (by omega) l1 [] rfl
end Go.Proofs.Ytmbnibonggbjgaa.Pl

/- Plain laws: the edges of a valid graph have their ends in it. -/
namespace Go.Proofs.Ytmbnibonggbjgaa.Pl
open Go.RowKit Go.Proofs.YtmbnibonggbjgaaW.PrintWords Go.Proofs.Ytmbnibonggbjgaa.X
set_option linter.unusedVariables false

def okE (n : Nat) (e : S38) : Prop := (0 ≤ e.f1 ∧ e.f1 < (n : Int)) ∧ (0 ≤ e.f2 ∧ e.f2 < (n : Int))
theorem okE_of {l0 : List Int} {l1 : List S38} (h : validE l0 l1 = 0) : l0.length ≤ 40 ∧ l1.length ≤ 80 ∧ ∀ e ∈ l1, okE l0.length e := by
  unfold validE at h
  split at h
  · exact absurd h (by decide)
  · split at h
    · exact absurd h (by decide)
    · split at h
      · exact absurd h (by decide)
      · split at h
        · exact absurd h (by decide)
        · rename_i h1 h2 _ h4
          refine ⟨by omega, by omega, fun e he => ?_⟩
          have hb : edgeB l0.length e = true := by
            cases hb : edgeB l0.length e
            · exact absurd (List.any_eq_true.mpr ⟨e, he, by rw [hb]; rfl⟩) h4
            · rfl
          unfold edgeB at hb
          simp only [Bool.and_eq_true, decide_eq_true_eq] at hb
          exact hb.2
end Go.Proofs.Ytmbnibonggbjgaa.Pl

/- Plain laws: what is left of a graph without some elements, as the program and the reference tell it. -/
namespace Go.Proofs.Ytmbnibonggbjgaa.Pl
open Go.RowKit Go.Proofs.YtmbnibonggbjgaaW.PrintWords Go.Proofs.Ytmbnibonggbjgaa.X
set_option linter.unusedVariables false

/-- Are numbers ascending, from above b and below n? -/
def ascR (n : Int) : Int → List Int → Int
  | _, [] => 0
  | b, x :: r => if 0 ≤ x ∧ x < n then (if x ≤ b then 12 else ascR n x r) else 6
theorem rd_last (q : List Int) (b x : Int) (r : List Int) : rd (q ++ [b] ++ x :: r) ((q.length : Int)) = b := by
  rw [List.append_assoc]; exact rd_mid q b _
theorem gasc_l0 (l : List Int) (n : Int) (hn : 0 ≤ n) (hn' : n ≤ 9223372036854775807) (hl : l.length ≤ 1000000) : ∀ (r pre : List Int) (b : Int), l = pre ++ r → ((pre = [] ∧ b = -1) ∨ ∃ q, pre = q ++ [b]) →
    Ev (fun k => graph_ascending.l0 k l n l (l.length : Int) (pre.length : Int)) (ascR n b r) := by
  intro r
  induction r with
  | nil =>
    rintro pre b rfl h
    refine Ev.step (fun k => by simp only [graph_ascending.l0]; rw [if_neg (by simp)]) ?_
    simpa [ascR] using Ev.now (0 : Int)
  | cons x r ih =>
    rintro pre b rfl h
    have ih' := ih (pre ++ [x]) x (snoc_mid pre x r) (.inr ⟨pre, rfl⟩)
    have hp : pre.length ≤ 1000000 := by simp at hl; omega
    by_cases hx : 0 ≤ x ∧ x < n
    rotate_left
    · have hb : (decide (0 ≤ x) && decide (x < n)) = false := by
        rw [Bool.and_eq_false_iff]
        by_cases h : 0 ≤ x
        · exact .inr (decide_eq_false (fun k => hx ⟨h, k⟩))
        · exact .inl (decide_eq_false h)
      refine Ev.step (fun k => by simp only [graph_ascending.l0]; rw [if_pos (lt_mid pre x r), if_pos (by omega), if_pos (lt_mid pre x r), rd_mid, within_lt x n hn hn', hb]) ?_
      simpa [ascR, hx] using Ev.now (6 : Int)
    · have hb : (decide (0 ≤ x) && decide (x < n)) = true := by simp [hx.1, hx.2]
      have go : ∀ c : Bool, c = decide (x ≤ b) → Ev (fun k => graph_ascending.j1 k (pre ++ x :: r) n (pre ++ x :: r) ((pre ++ x :: r).length : Int) (pre.length : Int) c) (ascR n b (x :: r)) := by
        rintro c rfl
        by_cases hc : x ≤ b
        · rw [decide_eq_true hc]
          refine Ev.step (fun k => by simp only [graph_ascending.j1, if_true]; rfl) ?_
          simpa [ascR, hx, hc] using Ev.now (12 : Int)
        · rw [decide_eq_false hc]
          refine Ev.step (fun k => by simp only [graph_ascending.j1]; rw [if_neg (by decide), wrap_mid pre x r (by omega)]) ?_
          simpa [ascR, hx, hc] using ih'
      rcases h with ⟨rfl, rfl⟩ | ⟨q, rfl⟩
      · refine Ev.step (fun k => by simp only [graph_ascending.l0]; rw [if_pos (lt_mid [] x r), if_pos (by simp), if_pos (lt_mid [] x r), rd_mid, within_lt x n hn hn', hb]) ?_
        simp only [Option.bind_some, if_true]
        simp only [if_neg (show ¬ ((([] : List Int).length : Int) > 0) by simp)]
        exact go false (decide_eq_false (by omega)).symm
      · have hw : wrap64 (((q ++ [b]).length : Int) - 1) = (q.length : Int) := by simp at hp ⊢; unfold wrap64; omega
        refine Ev.step (fun k => by simp only [graph_ascending.l0]; rw [if_pos (lt_mid (q ++ [b]) x r), if_pos (by omega), if_pos (lt_mid (q ++ [b]) x r), rd_mid, within_lt x n hn hn', hb]) ?_
        simp only [Option.bind_some, if_true, hw, rd_last, if_pos (show ((q ++ [b]).length : Int) > 0 by simp), if_pos (show 0 ≤ (q.length : Int) by omega), if_pos (show (q.length : Int) < ((q ++ [b] ++ x :: r).length : Int) by simp; omega)]
        exact go _ rfl
theorem gasc_ev (l : List Int) (n : Int) (hn : 0 ≤ n) (hn' : n ≤ 9223372036854775807) (hl : l.length ≤ 1000000) : Ev (fun k => graph_ascending.f k l n) (ascR n (-1) l) := by
  unfold graph_ascending.f
  exact gasc_l0 l n hn hn' hl l [] (-1) rfl (.inl ⟨rfl, rfl⟩)
theorem rasc_l0 (l : List Int) (n : Int) (hl : l.length ≤ 1000000) : ∀ (r pre : List Int) (b : Int), l = pre ++ r → ((pre = [] ∧ b = -1) ∨ ∃ q, pre = q ++ [b]) →
    Ev (fun k => scarfjointref05_ascending.l0 k l n (pre.length : Int)) (ascR n b r) := by
  intro r
  induction r with
  | nil =>
    rintro pre b rfl h
    refine Ev.step (fun k => by simp only [scarfjointref05_ascending.l0]; rw [if_neg (by simp)]) ?_
    simpa [ascR] using Ev.now (0 : Int)
  | cons x r ih =>
    rintro pre b rfl h
    have ih' := ih (pre ++ [x]) x (snoc_mid pre x r) (.inr ⟨pre, rfl⟩)
    have hp : pre.length ≤ 1000000 := by simp at hl; omega
    by_cases hx : 0 ≤ x ∧ x < n
    rotate_left
    · by_cases h0 : x < 0
      · refine Ev.step (fun k => by simp only [scarfjointref05_ascending.l0]; rw [if_pos (lt_mid pre x r), if_pos (by omega), rd_mid, if_pos h0]) ?_
        refine Ev.step (fun k => by simp only [scarfjointref05_ascending.j1, if_true]; rfl) ?_
        simpa [ascR, hx] using Ev.now (6 : Int)
      · refine Ev.step (fun k => by simp only [scarfjointref05_ascending.l0]; rw [if_pos (lt_mid pre x r), if_pos (by omega), rd_mid, if_neg h0, decide_eq_true (show x ≥ n by omega)]) ?_
        refine Ev.step (fun k => by simp only [scarfjointref05_ascending.j1, if_true]; rfl) ?_
        simpa [ascR, hx] using Ev.now (6 : Int)
    · have go : ∀ c : Bool, c = decide (x ≤ b) → Ev (fun k => scarfjointref05_ascending.j2 k (pre ++ x :: r) n (pre.length : Int) c) (ascR n b (x :: r)) := by
        rintro c rfl
        by_cases hc : x ≤ b
        · rw [decide_eq_true hc]
          refine Ev.step (fun k => by simp only [scarfjointref05_ascending.j2, if_true]; rfl) ?_
          simpa [ascR, hx, hc] using Ev.now (12 : Int)
        · rw [decide_eq_false hc]
          refine Ev.step (fun k => by simp only [scarfjointref05_ascending.j2]; rw [if_neg (by decide), wrap_mid pre x r (by omega)]) ?_
          simpa [ascR, hx, hc] using ih'
      refine Ev.step (fun k => by simp only [scarfjointref05_ascending.l0]; rw [if_pos (lt_mid pre x r), if_pos (by omega), rd_mid, if_neg (by omega), decide_eq_false (show ¬ x ≥ n by omega)]) ?_
      rcases h with ⟨rfl, rfl⟩ | ⟨q, rfl⟩
      · refine Ev.step (fun k => by simp only [scarfjointref05_ascending.j1]; rw [if_neg (by decide), if_neg (by simp)]) ?_
        exact go false (decide_eq_false (by omega)).symm
      · have hw : wrap64 (((q ++ [b]).length : Int) - 1) = (q.length : Int) := by simp at hp ⊢; unfold wrap64; omega
        refine Ev.step (fun k => by simp only [scarfjointref05_ascending.j1]; rw [if_neg (by decide), if_pos (by simp), if_pos (by omega), if_pos (lt_mid (q ++ [b]) x r), hw, if_pos (by omega), if_pos (by simp; omega), rd_last, rd_mid]) ?_
        exact go _ rfl
theorem rasc_ev (l : List Int) (n : Int) (hl : l.length ≤ 1000000) : Ev (fun k => scarfjointref05_ascending.f k l n) (ascR n (-1) l) := by
  unfold scarfjointref05_ascending.f
  exact rasc_l0 l n hl l [] (-1) rfl (.inl ⟨rfl, rfl⟩)
/-- Numbers that are ascending: each is above b, and above those ahead. -/
theorem asc_of (n : Int) : ∀ (l : List Int) (b : Int), ascR n b l = 0 → (∀ x ∈ l, b < x ∧ 0 ≤ x ∧ x < n) ∧ l.Pairwise (· < ·) := by
  intro l
  induction l with
  | nil => intro b _; exact ⟨by simp, by simp⟩
  | cons x r ih =>
    intro b h
    unfold ascR at h
    split at h
    · rename_i hx
      split at h
      · exact absurd h (by decide)
      · obtain ⟨h1, h2⟩ := ih x h
        refine ⟨?_, ?_⟩
        · intro y hy
          rcases List.mem_cons.mp hy with rfl | hy
          · omega
          · have := h1 y hy; omega
        · exact List.pairwise_cons.mpr ⟨fun y hy => (h1 y hy).1, h2⟩
    · exact absurd h (by decide)

/-- Where the numbers from i on are, so many, without some. -/
def leftL (p : Int → Bool) : Nat → Int → Int → List Int
  | 0, _, _ => []
  | m + 1, i, a => if p i = true then -1 :: leftL p m (i + 1) a else a :: leftL p m (i + 1) (a + 1)
theorem leftL_len (p : Int → Bool) : ∀ (m : Nat) (i a : Int), (leftL p m i a).length = m := by
  intro m
  induction m with
  | zero => intro i a; rfl
  | succ m ih => intro i a; unfold leftL; split <;> simp [ih]
theorem wrap_one {i : Int} (h0 : 0 ≤ i) (h : i ≤ 2000000) : wrap64 (i + 1) = i + 1 := by unfold wrap64; omega
theorem index_at (x : Int) (l : List Int) (hl : l.length ≤ 9223372036854775807) : ∀ (d k : Nat) (i : Int), 0 ≤ i → (l.length : Int) - i = d → d < k → (∀ j : Nat, (j : Int) < i → l.getD j 0 ≠ x) →
    ∃ r, slices_Index_int_int.l0 k l x (l.length : Int) i = some r ∧ (decide (r ≥ 0)) = decide (x ∈ l) := by
  intro d
  induction d with
  | zero =>
    intro k i h0 h1 hk hm
    obtain ⟨k, rfl⟩ : ∃ m, k = m + 1 := ⟨k - 1, by omega⟩
    refine ⟨-1, by simp only [slices_Index_int_int.l0]; rw [if_neg (by omega)], ?_⟩
    have : ¬ x ∈ l := by
      intro hx
      obtain ⟨j, hj, e⟩ := List.mem_iff_getElem.mp hx
      exact hm j (by omega) (by rw [getD_at _ _ _ hj]; exact e)
    simp [this]
  | succ d ih =>
    intro k i h0 h1 hk hm
    obtain ⟨k, rfl⟩ : ∃ m, k = m + 1 := ⟨k - 1, by omega⟩
    have hlt : i < (l.length : Int) := by omega
    have hj : i.toNat < l.length := by omega
    by_cases e : x = rd l i
    · refine ⟨i, by simp only [slices_Index_int_int.l0]; rw [if_pos hlt, if_pos h0, if_pos hlt, if_pos e], ?_⟩
      have : x ∈ l := by rw [e]; unfold rd; rw [getD_at _ _ _ hj]; exact List.getElem_mem hj
      simp [this, h0]
    · obtain ⟨r, h, hr⟩ := ih k (i + 1) (by omega) (by omega) (by omega) (fun j hji => by
        by_cases ej : (j : Int) < i
        · exact hm j ej
        · obtain rfl : j = i.toNat := by omega
          exact fun h => e h.symm)
      refine ⟨r, ?_, hr⟩
      simp only [slices_Index_int_int.l0]; rw [if_pos hlt, if_pos h0, if_pos hlt, if_neg e, wrap_succ h0 hlt hl]; exact h
theorem contains_at (x : Int) (l : List Int) (hl : l.length ≤ 9223372036854775807) : slices_Contains_int_int.f (l.length + 1) l x = some (decide (x ∈ l)) := by
  obtain ⟨r, h, hr⟩ := index_at x l hl l.length (l.length + 1) 0 (by omega) (by omega) (by omega) (fun j hj => by omega)
  unfold slices_Contains_int_int.f slices_Index_int_int.f
  rw [h]; simp only [Option.bind_some]; rw [hr]
theorem gleft_l0 (l : List Int) (hl : l.length ≤ 1000000) : ∀ (m : Nat) (i a : Int) (acc : List Int), 0 ≤ i → i + m ≤ 1000000 → 0 ≤ a → a ≤ i → acc.length ≤ i →
    Ev (fun k => graph_left.l0 k (i + m) l acc i a) (acc ++ leftL (fun j => decide (j ∈ l)) m i a) := by
  intro m
  induction m with
  | zero =>
    intro i a acc h0 h1 ha hai hacc
    refine Ev.step (fun k => by simp only [graph_left.l0]; rw [if_neg (by simp)]) ?_
    simpa [leftL] using Ev.now acc
  | succ m ih =>
    intro i a acc h0 h1 ha hai hacc
    have hc : Ev (fun k => slices_Contains_int_int.f k l i) (decide (i ∈ l)) := Ev.of (slices_Contains_int_int.mono l i) (contains_at i l (by omega))
    have e : i + ((m + 1 : Nat) : Int) = i + 1 + m := by omega
    rw [e]
    by_cases hi : i ∈ l
    · refine Ev.step (fun k => by simp only [graph_left.l0]; rw [if_pos (by omega)]) ?_
      refine Ev.bind hc ?_
      simp only [decide_eq_true hi, if_true, if_pos (show acc.length < 17592186044416 by omega), wrap_one h0 (by omega)]
      have := ih (i + 1) a (acc ++ [-1]) (by omega) (by omega) ha (by omega) (by simp; omega)
      simpa [leftL, hi] using this
    · refine Ev.step (fun k => by simp only [graph_left.l0]; rw [if_pos (by omega)]) ?_
      refine Ev.bind hc ?_
      simp only [decide_eq_false hi, Bool.false_eq_true, if_false, if_pos (show acc.length < 17592186044416 by omega), wrap_one h0 (by omega), wrap_one ha (by omega)]
      have := ih (i + 1) (a + 1) (acc ++ [a]) (by omega) (by omega) (by omega) (by omega) (by simp; omega)
      simpa [leftL, hi] using this
theorem gleft_ev (l : List Int) (n : Nat) (hn : n ≤ 1000000) (hl : l.length ≤ 1000000) : Ev (fun k => graph_left.f k (n : Int) l) (leftL (fun j => decide (j ∈ l)) n 0 0) := by
  unfold graph_left.f
  have := gleft_l0 l hl n 0 0 [] (by omega) (by omega) (by omega) (by omega) (by simp)
  simpa using this
theorem rplaces_l0 (l : List Int) (hl : l.length ≤ 1000000) : ∀ (m : Nat) (i a : Int) (acc pre r : List Int), 0 ≤ i → i + m ≤ 1000000 → 0 ≤ a → a ≤ i → acc.length ≤ i →
    l = pre ++ r → (∀ x ∈ pre, x < i) → (∀ x ∈ r, i ≤ x) → r.Pairwise (· < ·) →
    Ev (fun k => scarfjointref05_places.l0 k (i + m) l acc a (pre.length : Int) i) (acc ++ leftL (fun j => decide (j ∈ l)) m i a) := by
  intro m
  induction m with
  | zero =>
    intro i a acc pre r h0 h1 ha hai hacc he hp hr hs
    refine Ev.step (fun k => by simp only [scarfjointref05_places.l0]; rw [if_neg (by simp)]) ?_
    simpa [leftL] using Ev.now acc
  | succ m ih =>
    intro i a acc pre r h0 h1 ha hai hacc he hp hr hs
    have e : i + ((m + 1 : Nat) : Int) = i + 1 + m := by omega
    rw [e]
    have skip : i ∉ l → (∀ x ∈ r, i + 1 ≤ x) → Ev (fun k => scarfjointref05_places.j1 k (i + 1 + m) l acc a (pre.length : Int) i false) (acc ++ leftL (fun j => decide (j ∈ l)) (m + 1) i a) := by
      intro hi hr'
      refine Ev.step (fun k => by simp only [scarfjointref05_places.j1]; rw [if_neg (by decide), if_pos (by omega), wrap_one h0 (by omega), wrap_one ha (by omega)]) ?_
      have := ih (i + 1) (a + 1) (acc ++ [a]) pre r (by omega) (by omega) (by omega) (by omega) (by simp; omega) he (fun x hx => by have := hp x hx; omega) hr' hs
      simpa [leftL, hi] using this
    cases r with
    | nil =>
      have hi : i ∉ l := by
        rw [he, List.append_nil]
        intro h
        have := hp i h
        omega
      refine Ev.step (fun k => by simp only [scarfjointref05_places.l0]; rw [if_pos (by omega), if_neg (by rw [he]; simp)]) ?_
      exact skip hi (by simp)
    | cons y r =>
      have hrd : rd l (pre.length : Int) = y := by rw [he]; exact rd_mid pre y r
      have hlt : (pre.length : Int) < (l.length : Int) := by rw [he]; exact lt_mid pre y r
      obtain ⟨hs1, hs2⟩ := List.pairwise_cons.mp hs
      by_cases hy : y = i
      · have hi : i ∈ l := by rw [he, ← hy]; simp
        refine Ev.step (fun k => by simp only [scarfjointref05_places.l0]; rw [if_pos (by omega), if_pos hlt, if_pos (by omega), hrd, show (y == i) = true from beq_iff_eq.mpr hy]) ?_
        have hw : wrap64 ((pre.length : Int) + 1) = ((pre ++ [y]).length : Int) := by
          rw [he] at hl
          exact wrap_mid pre y r (by omega)
        refine Ev.step (fun k => by simp only [scarfjointref05_places.j1, if_true]; rw [if_pos (by omega), wrap_one h0 (by omega), hw]) ?_
        have := ih (i + 1) a (acc ++ [-1]) (pre ++ [y]) r (by omega) (by omega) ha (by omega) (by simp; omega) (by rw [he]; simp) (fun x hx => by
          rcases List.mem_append.mp hx with hx | hx
          · have := hp x hx; omega
          · have : x = y := by simpa using hx
            omega) (fun x hx => by have := hs1 x hx; omega) hs2
        simpa [leftL, hi] using this
      · have hi : i ∉ l := by
          rw [he]
          intro h
          rcases List.mem_append.mp h with h | h
          · have := hp i h; omega
          · rcases List.mem_cons.mp h with h | h
            · exact hy h.symm
            · have h1 := hs1 i h
              have h2 := hr y (by simp)
              omega
        refine Ev.step (fun k => by simp only [scarfjointref05_places.l0]; rw [if_pos (by omega), if_pos hlt, if_pos (by omega), hrd, show (y == i) = false from beq_eq_false_iff_ne.mpr hy]) ?_
        exact skip hi (fun x hx => by
          rcases List.mem_cons.mp hx with rfl | hx
          · have := hr x (by simp); omega
          · have h1 := hs1 x hx
            have h2 := hr y (by simp)
            omega)
theorem rplaces_ev (l : List Int) (n : Nat) (hn : n ≤ 1000000) (hl : l.length ≤ 1000000) (h : ascR n (-1) l = 0) : Ev (fun k => scarfjointref05_places.f k (n : Int) l) (leftL (fun j => decide (j ∈ l)) n 0 0) := by
  unfold scarfjointref05_places.f
  obtain ⟨h1, h2⟩ := asc_of n l (-1) h
  have := rplaces_l0 l hl n 0 0 [] [] l (by omega) (by omega) (by omega) (by omega) (by simp) rfl (by simp) (fun x hx => (h1 x hx).2.1) h2
  simpa using this
end Go.Proofs.Ytmbnibonggbjgaa.Pl

/- Plain laws: Remove, as the program and the reference tell it; where its result's parts stood. -/
namespace Go.Proofs.Ytmbnibonggbjgaa.Pl
open Go.RowKit Go.Proofs.YtmbnibonggbjgaaW.PrintWords Go.Proofs.Ytmbnibonggbjgaa.X
set_option linter.unusedVariables false

abbrev Rem := List Int × (List S38) × List Int × List Int × Int
def gone : Rem := ([], [], [], [], 14)
def remE (N M E : List Int) : Int → List S38 → List S38 → Rem
  | _, [], acc => (N, acc, M, E, 0)
  | i, x :: r, acc => if rd E i < 0 then remE N M E (i + 1) r acc else if rd M x.f1 < 0 ∨ rd M x.f2 < 0 then gone else remE N M E (i + 1) r (acc ++ [(⟨x.f0, rd M x.f1, rd M x.f2⟩ : S38)])
def keptN (M : List Int) : Int → List Int → List Int → List Int
  | _, [], acc => acc
  | i, x :: r, acc => if rd M i ≥ 0 then keptN M (i + 1) r (acc ++ [x]) else keptN M (i + 1) r acc

theorem grem_l1 (N M E : List Int) (l : List S38) (hl : l.length ≤ 1000000) (hE : E.length = l.length) (hM : ∀ e ∈ l, (0 ≤ e.f1 ∧ e.f1 < M.length) ∧ 0 ≤ e.f2 ∧ e.f2 < M.length) :
    ∀ (r pre : List S38) (acc : List S38), l = pre ++ r → acc.length ≤ pre.length →
    Ev (fun k => graph_Remove.l1 k l (l.length : Int) (pre.length : Int) M E N acc) (remE N M E pre.length r acc) := by
  intro r
  induction r with
  | nil =>
    rintro pre acc rfl h
    refine Ev.step (fun k => by simp only [graph_Remove.l1]; rw [if_neg (by simp)]) ?_
    simpa [remE] using Ev.now _
  | cons x r ih =>
    rintro pre acc rfl h
    have hp : pre.length ≤ 1000000 := by simp at hl; omega
    have hEl : (pre.length : Int) < (E.length : Int) := by rw [hE]; exact lt_mid pre x r
    by_cases c : rd E pre.length < 0
    · refine Ev.step (fun k => by simp only [graph_Remove.l1]; rw [if_pos (lt_mid pre x r), if_pos (by omega), if_pos (lt_mid pre x r), if_pos hEl, if_pos c, wrap_mid pre x r (by omega)]) ?_
      have := ih (pre ++ [x]) acc (snoc_mid pre x r) (by simp; omega)
      simpa [remE, c] using this
    · obtain ⟨⟨m1, m2⟩, m3, m4⟩ := hM x (by simp)
      have tail : ∀ b : Bool, b = decide (rd M x.f1 < 0 ∨ rd M x.f2 < 0) → Ev (fun k => graph_Remove.j2 k (pre ++ x :: r) ((pre ++ x :: r).length : Int) (pre.length : Int) b M E N acc x.f0 (rd M x.f1) (rd M x.f2)) (remE N M E pre.length (x :: r) acc) := by
        rintro b rfl
        by_cases d : rd M x.f1 < 0 ∨ rd M x.f2 < 0
        · rw [decide_eq_true d]
          refine Ev.step (fun k => by simp only [graph_Remove.j2, if_true]; rfl) ?_
          simpa [remE, c, d, gone] using Ev.now _
        · rw [decide_eq_false d]
          refine Ev.step (fun k => by simp only [graph_Remove.j2]; rw [if_neg (by decide), if_pos (by omega), wrap_mid pre x r (by omega)]) ?_
          have := ih (pre ++ [x]) (acc ++ [(⟨x.f0, rd M x.f1, rd M x.f2⟩ : S38)]) (snoc_mid pre x r) (by simp; omega)
          simpa [remE, c, d] using this
      by_cases d : rd M x.f1 < 0
      · refine Ev.step (fun k => by simp only [graph_Remove.l1]; rw [if_pos (lt_mid pre x r), if_pos (by omega), if_pos (lt_mid pre x r), if_pos hEl, if_neg c, rd38_mid, if_pos m1, if_pos m2, if_pos m3, if_pos m4, if_pos d]) ?_
        exact tail true (decide_eq_true (.inl d)).symm
      · refine Ev.step (fun k => by simp only [graph_Remove.l1]; rw [if_pos (lt_mid pre x r), if_pos (by omega), if_pos (lt_mid pre x r), if_pos hEl, if_neg c, rd38_mid, if_pos m1, if_pos m2, if_pos m3, if_pos m4, if_neg d]) ?_
        exact tail _ (by simp [d])
theorem rrem_l1 (N M E : List Int) (l0 : List Int) (l : List S38) (hl : l.length ≤ 1000000) (hE : E.length = l.length) (hM : ∀ e ∈ l, (0 ≤ e.f1 ∧ e.f1 < M.length) ∧ 0 ≤ e.f2 ∧ e.f2 < M.length) :
    ∀ (r pre : List S38) (acc : List S38), l = pre ++ r → acc.length ≤ pre.length →
    Ev (fun k => scarfjointref05_Remove.l1 k (pre.length : Int) l0 l M E N acc) (remE N M E pre.length r acc) := by
  intro r
  induction r with
  | nil =>
    rintro pre acc rfl h
    refine Ev.step (fun k => by simp only [scarfjointref05_Remove.l1]; rw [if_neg (by simp)]) ?_
    simpa [remE] using Ev.now _
  | cons x r ih =>
    rintro pre acc rfl h
    have hp : pre.length ≤ 1000000 := by simp at hl; omega
    have hEl : (pre.length : Int) < (E.length : Int) := by rw [hE]; exact lt_mid pre x r
    by_cases c : rd E pre.length < 0
    · refine Ev.step (fun k => by simp only [scarfjointref05_Remove.l1]; rw [if_pos (lt_mid pre x r), if_pos (by omega), if_pos hEl, if_pos c, wrap_mid pre x r (by omega)]) ?_
      have := ih (pre ++ [x]) acc (snoc_mid pre x r) (by simp; omega)
      simpa [remE, c] using this
    · obtain ⟨⟨m1, m2⟩, m3, m4⟩ := hM x (by simp)
      have tail : ∀ b : Bool, b = decide (rd M x.f1 < 0 ∨ rd M x.f2 < 0) → Ev (fun k => scarfjointref05_Remove.j2 k (pre.length : Int) b l0 (pre ++ x :: r) M E N acc x.f0 (rd M x.f1) (rd M x.f2)) (remE N M E pre.length (x :: r) acc) := by
        rintro b rfl
        by_cases d : rd M x.f1 < 0 ∨ rd M x.f2 < 0
        · rw [decide_eq_true d]
          refine Ev.step (fun k => by simp only [scarfjointref05_Remove.j2, if_true]; rfl) ?_
          simpa [remE, c, d, gone] using Ev.now _
        · rw [decide_eq_false d]
          refine Ev.step (fun k => by simp only [scarfjointref05_Remove.j2]; rw [if_neg (by decide), if_pos (by omega), wrap_mid pre x r (by omega)]) ?_
          have := ih (pre ++ [x]) (acc ++ [(⟨x.f0, rd M x.f1, rd M x.f2⟩ : S38)]) (snoc_mid pre x r) (by simp; omega)
          simpa [remE, c, d] using this
      by_cases d : rd M x.f1 < 0
      · refine Ev.step (fun k => by simp only [scarfjointref05_Remove.l1]; rw [if_pos (lt_mid pre x r), if_pos (by omega), if_pos hEl, if_neg c, rd38_mid, if_pos m1, if_pos m2, if_pos m3, if_pos m4, if_pos d]) ?_
        exact tail true (decide_eq_true (.inl d)).symm
      · refine Ev.step (fun k => by simp only [scarfjointref05_Remove.l1]; rw [if_pos (lt_mid pre x r), if_pos (by omega), if_pos hEl, if_neg c, rd38_mid, if_pos m1, if_pos m2, if_pos m3, if_pos m4, if_neg d]) ?_
        exact tail _ (by simp [d])
theorem grem_l0 (M E : List Int) (l : List Int) (l1 : List S38) (hl0 : l.length ≤ 1000000) (hl : l1.length ≤ 1000000) (hE : E.length = l1.length) (hMl : M.length = l.length) (hM : ∀ e ∈ l1, (0 ≤ e.f1 ∧ e.f1 < M.length) ∧ 0 ≤ e.f2 ∧ e.f2 < M.length) :
    ∀ (r pre : List Int) (acc : List Int), l = pre ++ r → acc.length ≤ pre.length →
    Ev (fun k => graph_Remove.l0 k l (l.length : Int) (pre.length : Int) l l1 M E acc) (remE (keptN M pre.length r acc) M E 0 l1 []) := by
  intro r
  induction r with
  | nil =>
    rintro pre acc rfl h
    refine Ev.step (fun k => by simp only [graph_Remove.l0]; rw [if_neg (by simp)]) ?_
    have := grem_l1 acc M E l1 hl hE hM l1 [] [] rfl (by simp)
    simpa [keptN] using this
  | cons x r ih =>
    rintro pre acc rfl h
    have hp : pre.length ≤ 1000000 := by simp at hl0; omega
    have hMm : (pre.length : Int) < (M.length : Int) := by rw [hMl]; exact lt_mid pre x r
    by_cases c : rd M pre.length ≥ 0
    · refine Ev.step (fun k => by simp only [graph_Remove.l0]; rw [if_pos (lt_mid pre x r), if_pos (by omega), if_pos (lt_mid pre x r), if_pos hMm, if_pos c, if_pos (by omega), wrap_mid pre x r (by omega), rd_mid]) ?_
      have := ih (pre ++ [x]) (acc ++ [x]) (snoc_mid pre x r) (by simp; omega)
      simpa [keptN, c] using this
    · refine Ev.step (fun k => by simp only [graph_Remove.l0]; rw [if_pos (lt_mid pre x r), if_pos (by omega), if_pos (lt_mid pre x r), if_pos hMm, if_neg c, wrap_mid pre x r (by omega)]) ?_
      have := ih (pre ++ [x]) acc (snoc_mid pre x r) (by simp; omega)
      simpa [keptN, c] using this
theorem rrem_l0 (M E : List Int) (l : List Int) (l1 : List S38) (hl0 : l.length ≤ 1000000) (hl : l1.length ≤ 1000000) (hE : E.length = l1.length) (hMl : M.length = l.length) (hM : ∀ e ∈ l1, (0 ≤ e.f1 ∧ e.f1 < M.length) ∧ 0 ≤ e.f2 ∧ e.f2 < M.length) :
    ∀ (r pre : List Int) (acc : List Int), l = pre ++ r → acc.length ≤ pre.length →
    Ev (fun k => scarfjointref05_Remove.l0 k (pre.length : Int) l l1 M E acc) (remE (keptN M pre.length r acc) M E 0 l1 []) := by
  intro r
  induction r with
  | nil =>
    rintro pre acc rfl h
    refine Ev.step (fun k => by simp only [scarfjointref05_Remove.l0]; rw [if_neg (by simp)]) ?_
    have := rrem_l1 acc M E (pre ++ []) l1 hl hE hM l1 [] [] rfl (by simp)
    simpa [keptN] using this
  | cons x r ih =>
    rintro pre acc rfl h
    have hp : pre.length ≤ 1000000 := by simp at hl0; omega
    have hMm : (pre.length : Int) < (M.length : Int) := by rw [hMl]; exact lt_mid pre x r
    by_cases c : rd M pre.length ≥ 0
    · refine Ev.step (fun k => by simp only [scarfjointref05_Remove.l0]; rw [if_pos (lt_mid pre x r), if_pos (by omega), if_pos hMm, if_pos c, if_pos (by omega), wrap_mid pre x r (by omega), rd_mid]) ?_
      have := ih (pre ++ [x]) (acc ++ [x]) (snoc_mid pre x r) (by simp; omega)
      simpa [keptN, c] using this
    · refine Ev.step (fun k => by simp only [scarfjointref05_Remove.l0]; rw [if_pos (lt_mid pre x r), if_pos (by omega), if_pos hMm, if_neg c, wrap_mid pre x r (by omega)]) ?_
      have := ih (pre ++ [x]) acc (snoc_mid pre x r) (by simp; omega)
      simpa [keptN, c] using this

def leftOf (n : Nat) (l : List Int) : List Int := leftL (fun j => decide (j ∈ l)) n 0 0
def remove (l0 : List Int) (l1 : List S38) (n m : List Int) : Rem :=
  if validE l0 l1 = 0 then (if ascR l0.length (-1) n = 0 then (if ascR l1.length (-1) m = 0 then remE (keptN (leftOf l0.length n) 0 l0 []) (leftOf l0.length n) (leftOf l1.length m) 0 l1 []
    else ([], [], [], [], ascR l1.length (-1) m)) else ([], [], [], [], ascR l0.length (-1) n)) else ([], [], [], [], validE l0 l1)
theorem ends_of {l0 : List Int} {l1 : List S38} (h : validE l0 l1 = 0) (n : List Int) : ∀ e ∈ l1, (0 ≤ e.f1 ∧ e.f1 < (leftOf l0.length n).length) ∧ 0 ≤ e.f2 ∧ e.f2 < (leftOf l0.length n).length := by
  obtain ⟨_, _, h3⟩ := okE_of h
  intro e he
  have := h3 e he
  unfold okE at this
  unfold leftOf
  rw [leftL_len]
  exact this
theorem gremove_ev (l0 : List Int) (l1 : List S38) (n m : List Int) (hn : n.length ≤ 1000000) (hm : m.length ≤ 1000000) : Ev (fun k => graph_Remove.f k l0 l1 n m) (remove l0 l1 n m) := by
  unfold graph_Remove.f graph_Valid.f remove
  simp only [Option.bind_some]
  by_cases hv : validE l0 l1 = 0
  · simp only [if_pos hv]
    obtain ⟨h0, h1, _⟩ := okE_of hv
    refine Ev.bind (gasc_ev n _ (by omega) (by omega) hn) ?_
    by_cases ha : ascR l0.length (-1) n = 0
    · simp only [if_pos ha]
      refine Ev.bind (gasc_ev m _ (by omega) (by omega) hm) ?_
      by_cases hb : ascR l1.length (-1) m = 0
      · simp only [if_pos hb]
        refine Ev.bind (gleft_ev n l0.length (by omega) hn) ?_
        refine Ev.bind (gleft_ev m l1.length (by omega) hm) ?_
        exact grem_l0 (leftOf l0.length n) (leftOf l1.length m) l0 l1 (by omega) (by omega) (leftL_len _ _ _ _) (leftL_len _ _ _ _) (ends_of hv n) l0 [] [] rfl (by simp)
      · simp only [if_neg hb]
        exact Ev.now _
    · simp only [if_neg ha]
      exact Ev.now _
  · simp only [if_neg hv]
    exact Ev.now _
theorem rremove_ev (l0 : List Int) (l1 : List S38) (n m : List Int) (hn : n.length ≤ 1000000) (hm : m.length ≤ 1000000) : Ev (fun k => scarfjointref05_Remove.f k l0 l1 n m) (remove l0 l1 n m) := by
  unfold scarfjointref05_Remove.f remove
  refine Ev.bind (valid_ev l0 l1) ?_
  by_cases hv : validE l0 l1 = 0
  · simp only [if_pos hv]
    obtain ⟨h0, h1, _⟩ := okE_of hv
    refine Ev.bind (rasc_ev n _ hn) ?_
    by_cases ha : ascR l0.length (-1) n = 0
    · simp only [if_pos ha]
      refine Ev.bind (rasc_ev m _ hm) ?_
      by_cases hb : ascR l1.length (-1) m = 0
      · simp only [if_pos hb]
        refine Ev.bind (rplaces_ev n l0.length (by omega) hn ha) ?_
        refine Ev.bind (rplaces_ev m l1.length (by omega) hm hb) ?_
        exact rrem_l0 (leftOf l0.length n) (leftOf l1.length m) l0 l1 (by omega) (by omega) (leftL_len _ _ _ _) (leftL_len _ _ _ _) (ends_of hv n) l0 [] [] rfl (by simp)
      · simp only [if_neg hb]
        exact Ev.now _
    · simp only [if_neg ha]
      exact Ev.now _
  · simp only [if_neg hv]
    exact Ev.now _

theorem rd_app (a t : List Int) (i : Int) (h0 : 0 ≤ i) (h : i < a.length) : rd (a ++ t) i = rd a i := by
  unfold rd
  rw [List.getD_eq_getElem?_getD, List.getD_eq_getElem?_getD, List.getElem?_append_left (by omega)]
theorem rd38_app (a t : List S38) (i : Int) (h0 : 0 ≤ i) (h : i < a.length) : rd_T38 (a ++ t) i = rd_T38 a i := by
  unfold rd_T38
  rw [List.getD_eq_getElem?_getD, List.getD_eq_getElem?_getD, List.getElem?_append_left (by omega)]
theorem rd_at_mid (m : List Int) (x : Int) (t : List Int) (n : Nat) (h : m.length = n) : rd (m ++ x :: t) (n : Int) = x := by subst h; exact rd_mid m x t
theorem kept_fact (p : Int → Bool) (M l : List Int) : ∀ (r pre acc mp : List Int), l = pre ++ r → M = mp ++ leftL p r.length pre.length acc.length → mp.length = pre.length →
    (∀ j : Int, 0 ≤ j → j < pre.length → 0 ≤ rd M j → rd M j < acc.length ∧ rd acc (rd M j) = rd l j) →
    ∀ j : Int, 0 ≤ j → j < l.length → 0 ≤ rd M j → rd M j < (keptN M pre.length r acc).length ∧ rd (keptN M pre.length r acc) (rd M j) = rd l j := by
  intro r
  induction r with
  | nil =>
    intro pre acc mp he hM hmp hf j h0 h1 h2
    simp only [keptN]
    exact hf j h0 (by rw [he] at h1; simpa using h1) h2
  | cons x r ih =>
    intro pre acc mp he hM hmp hf
    have e2 : l = (pre ++ [x]) ++ r := by rw [he]; exact snoc_mid pre x r
    have el : ((pre ++ [x]).length : Int) = (pre.length : Int) + 1 := by simp
    unfold keptN
    simp only [List.length_cons, leftL] at hM
    by_cases hp : p pre.length = true
    · rw [if_pos hp] at hM
      have hr : rd M pre.length = -1 := by rw [hM]; exact rd_at_mid mp _ _ _ hmp
      rw [if_neg (by omega), ← el]
      refine ih (pre ++ [x]) acc (mp ++ [-1]) e2 (by rw [hM, el]; simp) (by simp [hmp]) ?_
      intro j h0 h1 h2
      by_cases hj : j = pre.length
      · subst hj; omega
      · exact hf j h0 (by omega) h2
    · rw [if_neg hp] at hM
      have hr : rd M pre.length = acc.length := by rw [hM]; exact rd_at_mid mp _ _ _ hmp
      rw [if_pos (by omega), ← el]
      refine ih (pre ++ [x]) (acc ++ [x]) (mp ++ [(acc.length : Int)]) e2 (by rw [hM, el]; simp) (by simp [hmp]) ?_
      intro j h0 h1 h2
      by_cases hj : j = pre.length
      · subst hj
        rw [hr]
        refine ⟨by simp; omega, ?_⟩
        rw [rd_mid, he, rd_mid]
      · obtain ⟨a, b⟩ := hf j h0 (by omega) h2
        exact ⟨by simp; omega, by rw [rd_app _ _ _ h2 a]; exact b⟩
theorem rem_fact (p : Int → Bool) (N M E : List Int) (l : List S38) : ∀ (r pre acc : List S38) (mp : List Int) (r1 : List Int) (r2 : List S38) (r3 r4 : List Int) (r5 : Int), l = pre ++ r → E = mp ++ leftL p r.length pre.length acc.length → mp.length = pre.length →
    (∀ j : Int, 0 ≤ j → j < pre.length → 0 ≤ rd E j → rd E j < acc.length ∧ rd_T38 acc (rd E j) = ⟨(rd_T38 l j).f0, rd M (rd_T38 l j).f1, rd M (rd_T38 l j).f2⟩) →
    remE N M E pre.length r acc = (r1, r2, r3, r4, r5) →
    (r1 = [] ∧ r2 = [] ∧ r3 = [] ∧ r4 = []) ∨ (r1 = N ∧ r3 = M ∧ r4 = E ∧ ∀ j : Int, 0 ≤ j → j < l.length → 0 ≤ rd E j → rd E j < r2.length ∧ rd_T38 r2 (rd E j) = ⟨(rd_T38 l j).f0, rd M (rd_T38 l j).f1, rd M (rd_T38 l j).f2⟩) := by
  intro r
  induction r with
  | nil =>
    intro pre acc mp r1 r2 r3 r4 r5 he hM hmp hf h
    simp only [remE, Prod.mk.injEq] at h
    obtain ⟨rfl, rfl, rfl, rfl, rfl⟩ := h
    refine .inr ⟨rfl, rfl, rfl, fun j h0 h1 h2 => hf j h0 (by rw [he] at h1; simpa using h1) h2⟩
  | cons x r ih =>
    intro pre acc mp r1 r2 r3 r4 r5 he hM hmp hf h
    have e2 : l = (pre ++ [x]) ++ r := by rw [he]; exact snoc_mid pre x r
    have el : ((pre ++ [x]).length : Int) = (pre.length : Int) + 1 := by simp
    unfold remE at h
    simp only [List.length_cons, leftL] at hM
    by_cases hp : p pre.length = true
    · rw [if_pos hp] at hM
      have hr : rd E pre.length = -1 := by rw [hM]; exact rd_at_mid mp _ _ _ hmp
      rw [if_pos (by omega), ← el] at h
      refine ih (pre ++ [x]) acc (mp ++ [-1]) _ _ _ _ _ e2 (by rw [hM, el]; simp) (by simp [hmp]) ?_ h
      intro j h0 h1 h2
      by_cases hj : j = pre.length
      · subst hj; omega
      · exact hf j h0 (by omega) h2
    · rw [if_neg hp] at hM
      have hr : rd E pre.length = acc.length := by rw [hM]; exact rd_at_mid mp _ _ _ hmp
      rw [if_neg (by omega)] at h
      by_cases hd : rd M x.f1 < 0 ∨ rd M x.f2 < 0
      · rw [if_pos hd] at h
        simp only [gone, Prod.mk.injEq] at h
        obtain ⟨rfl, rfl, rfl, rfl, rfl⟩ := h
        exact .inl ⟨rfl, rfl, rfl, rfl⟩
      · rw [if_neg hd, ← el] at h
        refine ih (pre ++ [x]) _ (mp ++ [(acc.length : Int)]) _ _ _ _ _ e2 (by rw [hM, el]; simp) (by simp [hmp]) ?_ h
        intro j h0 h1 h2
        by_cases hj : j = pre.length
        · subst hj
          rw [hr]
          refine ⟨by simp; omega, ?_⟩
          rw [rd38_mid, he, rd38_mid]
        · obtain ⟨a, b⟩ := hf j h0 (by omega) h2
          exact ⟨by simp; omega, by rw [rd38_app _ _ _ h2 a]; exact b⟩
theorem keptN_len (M : List Int) : ∀ (r acc : List Int) (i : Int), (keptN M i r acc).length ≤ acc.length + r.length := by
  intro r
  induction r with
  | nil => intro acc i; simp [keptN]
  | cons x r ih =>
    intro acc i
    unfold keptN
    split
    · have := ih (acc ++ [x]) (i + 1); simp at this ⊢; omega
    · have := ih acc (i + 1); simp at this ⊢; omega
theorem remE_len (N M E : List Int) : ∀ (r acc : List S38) (i : Int), (remE N M E i r acc).2.1.length ≤ acc.length + r.length := by
  intro r
  induction r with
  | nil => intro acc i; simp [remE]
  | cons x r ih =>
    intro acc i
    unfold remE
    split
    · have := ih acc (i + 1); simp at this ⊢; omega
    · split
      · simp [gone]
      · have := ih (acc ++ [(⟨x.f0, rd M x.f1, rd M x.f2⟩ : S38)]) (i + 1); simp at this ⊢; omega
/-- What Remove's result tells: lengths, and where each part stood. -/
def RemGood (l0 : List Int) (l1 : List S38) (r1 : List Int) (r2 : List S38) (r3 r4 : List Int) : Prop :=
    (r1.length ≤ l0.length ∧ r2.length ≤ l1.length ∧ r3.length ≤ l0.length ∧ r4.length ≤ l1.length) ∧
    (∀ i : Int, 0 ≤ i → i < r3.length → 0 ≤ rd r3 i → rd r3 i < r1.length ∧ i < l0.length ∧ rd r1 (rd r3 i) = rd l0 i) ∧
    (∀ i : Int, 0 ≤ i → i < r4.length → i < l1.length ∧ (0 ≤ rd r4 i → rd r4 i < r2.length ∧ (0 ≤ (rd_T38 l1 i).f1 ∧ (rd_T38 l1 i).f1 < r3.length) ∧ (0 ≤ (rd_T38 l1 i).f2 ∧ (rd_T38 l1 i).f2 < r3.length) ∧
      (rd_T38 r2 (rd r4 i)).f0 = (rd_T38 l1 i).f0 ∧ (rd_T38 r2 (rd r4 i)).f1 = rd r3 (rd_T38 l1 i).f1 ∧ (rd_T38 r2 (rd r4 i)).f2 = rd r3 (rd_T38 l1 i).f2))
theorem remGood_nil (l0 : List Int) (l1 : List S38) : RemGood l0 l1 [] [] [] [] :=
  ⟨by simp, fun i h0 h1 => absurd h1 (by simp; omega), fun i h0 h1 => absurd h1 (by simp; omega)⟩
theorem remove_facts (l0 : List Int) (l1 : List S38) (n m r1 : List Int) (r2 : List S38) (r3 r4 : List Int) (r5 : Int) (h : remove l0 l1 n m = (r1, r2, r3, r4, r5)) : RemGood l0 l1 r1 r2 r3 r4 := by
  have none : ∀ {c : Int}, (([], [], [], [], c) : Rem) = (r1, r2, r3, r4, r5) → r1 = [] ∧ r2 = [] ∧ r3 = [] ∧ r4 = [] := by
    intro c h
    simp only [Prod.mk.injEq] at h
    exact ⟨h.1.symm, h.2.1.symm, h.2.2.1.symm, h.2.2.2.1.symm⟩
  unfold remove at h
  by_cases hv : validE l0 l1 = 0
  rotate_left
  · rw [if_neg hv] at h; obtain ⟨rfl, rfl, rfl, rfl⟩ := none h; exact remGood_nil l0 l1
  rw [if_pos hv] at h
  by_cases ha : ascR l0.length (-1) n = 0
  rotate_left
  · rw [if_neg ha] at h; obtain ⟨rfl, rfl, rfl, rfl⟩ := none h; exact remGood_nil l0 l1
  rw [if_pos ha] at h
  by_cases hb : ascR l1.length (-1) m = 0
  rotate_left
  · rw [if_neg hb] at h; obtain ⟨rfl, rfl, rfl, rfl⟩ := none h; exact remGood_nil l0 l1
  rw [if_pos hb] at h
  have hlen := remE_len (keptN (leftOf l0.length n) 0 l0 []) (leftOf l0.length n) (leftOf l1.length m) l1 [] 0
  rw [h] at hlen
  have hE := rem_fact (fun j => decide (j ∈ m)) (keptN (leftOf l0.length n) 0 l0 []) (leftOf l0.length n) (leftOf l1.length m) l1 l1 [] [] [] r1 r2 r3 r4 r5 rfl rfl rfl (fun j h0 h1 => absurd h1 (by simp; omega)) h
  have hN := kept_fact (fun j => decide (j ∈ n)) (leftOf l0.length n) l0 l0 [] [] [] rfl rfl rfl (fun j h0 h1 => absurd h1 (by simp; omega))
  have hk := keptN_len (leftOf l0.length n) l0 [] 0
  rcases hE with hE | ⟨rfl, rfl, rfl, hE⟩
  · obtain ⟨rfl, rfl, rfl, rfl⟩ := hE
    exact remGood_nil l0 l1
  have hx := ends_of hv n
  have l3 : (leftOf l0.length n).length = l0.length := leftL_len _ _ _ _
  have l4 : (leftOf l1.length m).length = l1.length := leftL_len _ _ _ _
  refine ⟨⟨by simpa using hk, by simpa using hlen, by omega, by omega⟩, ?_, ?_⟩
  · intro i h0 h1 h2
    have := hN i h0 (by omega) h2
    exact ⟨this.1, by omega, this.2⟩
  · intro i h0 h1
    refine ⟨by omega, fun h2 => ?_⟩
    obtain ⟨h3, h4⟩ := hE i h0 (by omega) h2
    have hi : i.toNat < l1.length := by omega
    have hm : rd_T38 l1 i ∈ l1 := by
      unfold rd_T38
      rw [List.getD_eq_getElem?_getD, List.getElem?_eq_getElem hi]
      exact List.getElem_mem hi
    obtain ⟨m1, m2⟩ := hx _ hm
    exact ⟨h3, m1, m2, by rw [h4], by rw [h4], by rw [h4]⟩
end Go.Proofs.Ytmbnibonggbjgaa.Pl

/- Plain laws: a list is equal to itself. -/
namespace Go.Proofs.Ytmbnibonggbjgaa.Pl
open Go.RowKit Go.Proofs.YtmbnibonggbjgaaW.PrintWords Go.Proofs.Ytmbnibonggbjgaa.X
set_option linter.unusedVariables false

theorem equal_l0 (l : List Int) (hl : l.length ≤ 9223372036854775807) : ∀ (r pre : List Int), l = pre ++ r → Ev (fun k => slices_Equal_int_int.l0 k l l (l.length : Int) (pre.length : Int)) true := by
  intro r
  induction r with
  | nil =>
    rintro pre rfl
    exact Ev.step (fun k => by simp only [slices_Equal_int_int.l0]; rw [if_neg (by simp)]) (Ev.now _)
  | cons x r ih =>
    rintro pre rfl
    refine Ev.step (fun k => by simp only [slices_Equal_int_int.l0]; rw [if_pos (lt_mid pre x r), if_pos (by omega), if_pos (lt_mid pre x r), if_pos (lt_mid pre x r), if_pos trivial, wrap_mid pre x r hl]) (ih (pre ++ [x]) (snoc_mid pre x r))
theorem equal_self (l : List Int) (hl : l.length ≤ 1000000) : Ev (fun k => slices_Equal_int_int.f k l l) true := by
  unfold slices_Equal_int_int.f
  simp only [if_true]
  exact equal_l0 l (by omega) l [] rfl
end Go.Proofs.Ytmbnibonggbjgaa.Pl

namespace Go.Proofs.Ytmbnibonggbjgaa.Pl
open Go.RowKit Go.Proofs.YtmbnibonggbjgaaW.PrintWords Go.Proofs.Ytmbnibonggbjgaa.X
theorem awake_ev : Ev (fun k => scarfjointlaw05_awake.f k) true := Ev.of (fun k => scarfjointlaw05_awake.mono k) (k := 40) (by decide +kernel)
end Go.Proofs.Ytmbnibonggbjgaa.Pl

/- The plain law of GraphRemove, and the walk with it: the law answers true. -/
namespace Go.Proofs.Ytmbnibonggbjgaa.Pure
open Go.RowKit Go.Proofs.YtmbnibonggbjgaaW.PrintWords Go.Proofs.Ytmbnibonggbjgaa.X Go.Proofs.Ytmbnibonggbjgaa.Pl
set_option linter.unusedVariables false

theorem clone_eq (l : List Int) (h : l.length ≤ 1000000) : slices_Clone_int_int.f l = some l := by
  unfold slices_Clone_int_int.f
  simp only [Option.bind_some]
  rw [if_pos (by simp; omega)]
  simp
theorem lsame_self (a b : List Int) (ha : a.length ≤ 1000000) (hb : b.length ≤ 1000000) : Ev (fun k => scarfjointlaw05_same.f k a b a b) true := by
  unfold scarfjointlaw05_same.f
  refine Ev.bind (equal_self a ha) ?_
  simp only [if_true]
  exact Ev.bind (equal_self b hb) (Ev.now _)
theorem GraphRemove_walk (A0 : Option Addr) (c0 : Nat) (l0 : List Int) (A1 : Option Addr) (c1 : Nat) (l1 : List S38) (A2 : Option Addr) (c2 : Nat) (l2 : List Int) (A3 : Option Addr) (c3 : Nat) (l3 : List Int) (w : World)
    (h0 : Kd.C (Kd.int .i64) w A0 l0.length l0) (hc0 : l0.length ≤ c0) (h1 : Kd.C k38 w A1 l1.length l1) (hc1 : l1.length ≤ c1) (h2 : Kd.C (Kd.int .i64) w A2 l2.length l2) (hc2 : l2.length ≤ c2) (h3 : Kd.C (Kd.int .i64) w A3 l3.length l3) (hc3 : l3.length ≤ c3) :
    Calls Try.prog 3 #[.agg #[.slice A0 l0.length c0, .slice A1 l1.length c1], .slice A2 l2.length c2, .slice A3 l3.length c3] w fun e w' => e = .returned (.bool true) ∧ Below w.heap.size w w' := by
  obtain ⟨K0, hA⟩ := awake_ev
  have hF := few_eq l0 l1
  by_cases hf : l0.length ≤ 45 ∧ l1.length ≤ 90
  rotate_left
  · rw [decide_eq_false hf] at hF
    exact law3_few K0 A0 c0 l0 A1 c1 l1 _ _ w h0 hc0 h1 hc1 (hA K0 (Nat.le_refl _)) hF
  rw [decide_eq_true hf] at hF
  by_cases hn : 100 < l2.length ∨ 100 < l3.length
  · exact law3_long K0 A0 c0 l0 A1 c1 l1 A2 A3 l2.length l3.length c2 c3 w h0 hc0 h1 hc1 (hA K0 (Nat.le_refl _)) hF hn
  obtain ⟨r1, r2, r3, r4, r5, hr⟩ : ∃ r1 r2 r3 r4 r5, remove l0 l1 l2 l3 = (r1, r2, r3, r4, r5) := ⟨_, _, _, _, _, rfl⟩
  obtain ⟨⟨g1, g2, g3, g4⟩, hN, hE⟩ := remove_facts l0 l1 l2 l3 r1 r2 r3 r4 r5 hr
  obtain ⟨K1, hR⟩ := gremove_ev l0 l1 l2 l3 (by omega) (by omega)
  obtain ⟨K2, hR'⟩ := rremove_ev l0 l1 l2 l3 (by omega) (by omega)
  obtain ⟨K3, hS⟩ := same_self r1 r2 (by omega) (by omega)
  obtain ⟨K4, hs⟩ := lsame_self r3 r4 (by omega) (by omega)
  obtain ⟨k, k0, k1, k2, k3, k4⟩ : ∃ k, K0 ≤ k ∧ K1 ≤ k ∧ K2 ≤ k ∧ K3 ≤ k ∧ K4 ≤ k := ⟨K0 + K1 + K2 + K3 + K4, by omega, by omega, by omega, by omega, by omega⟩
  exact law3_main k A0 c0 l0 A1 c1 l1 A2 c2 l2 A3 c3 l3 w ⟨hc0, h0⟩ ⟨hc1, h1⟩ ⟨hc2, h2⟩ ⟨hc3, h3⟩ r1 r2 r3 r4 r5 (hA k k0) hF (by omega) (by omega) (copied_eq l0 l1 (by omega) (by omega)) (clone_eq l2 (by omega)) (clone_eq l3 (by omega))
    ((hR k k1).trans (congrArg some hr)) ((hR' k k2).trans (congrArg some hr)) (hS k k3) (hs k k4) (by omega) (by omega) hN hE
end Go.Proofs.Ytmbnibonggbjgaa.Pure

/- The seat's own argument types, by 'Opens'. -/
namespace Go.Proofs.Ytmbnibonggbjgaa.Open
open Go.RowKit Go.Proofs.YtmbnibonggbjgaaW.PrintWords Go.Proofs.Ytmbnibonggbjgaa.X
set_option linter.unusedVariables false
abbrev okInt (n : Int) : Prop := (Lit.int .i64 n).wf = true
theorem open22 : Opens Try.prog 22 (Kd.slice 3 (Kd.int .i64)) (fun l => ∀ x ∈ l, okInt x) := opens_slice Try.underlying22 (opens_int Try.underlying3) (by kernel_rfl)
theorem open38 : Opens Try.prog 38 k38 (fun e : S38 => okInt e.f0 ∧ okInt e.f1 ∧ okInt e.f2) :=
  opens_iso (opens_struct3 Try.underlying38 rfl (by kernel_rfl) (by kernel_rfl) (by kernel_rfl) (opens_int Try.underlying3) (opens_int Try.underlying3) (opens_int Try.underlying3)) _ (fun p => ⟨p.1, p.2.1, p.2.2⟩) (fun _ => rfl)
theorem open23 : Opens Try.prog 23 (Kd.slice 38 k38) (fun l => ∀ e ∈ l, okInt e.f0 ∧ okInt e.f1 ∧ okInt e.f2) := opens_slice Try.underlying23 open38 (by kernel_rfl)
theorem open25 : Opens Try.prog 25 k25 (fun g : S25 => (∀ x ∈ g.f0, okInt x) ∧ ∀ e ∈ g.f1, okInt e.f0 ∧ okInt e.f1 ∧ okInt e.f2) :=
  opens_iso (opens_struct2 Try.underlying25 rfl (by kernel_rfl) (by kernel_rfl) open22 open23) _ (fun p => ⟨p.1, p.2⟩) (fun _ => rfl)
end Go.Proofs.Ytmbnibonggbjgaa.Open


namespace Go.Proofs.Ytmbnibonggbjgaa.graphRemove
open Go.ChangeShapes Go.WideShapes Go.ChangeAt Go.RowKit
open Go.ChangeMaps (open_string shut_string)
open Go.Proofs.YtmbnibonggbjgaaW.PrintWords Go.Proofs.Ytmbnibonggbjgaa.X
set_option linter.unusedVariables false
theorem own : ownKnob Try.prog.godebug = none := by kernel_rfl
theorem laidOut : laidOutB Try.prog = true := by kernel_rfl
set_option maxRecDepth 100000 in
theorem lifted (os : Os) (started : os.Started) (H : Type) (enc : TypeId × Value → H) :
    ReturnsInHanded {} Try.checked os 3 .any (Rows.graphRemoveSpec.pre6 enc Try.prog Try.f3 Rows.graphRemoveRow.domain false) (Rows.graphRemoveSpec.post enc Try.prog Try.f3 false true false false) := by
  refine returnsInHanded_of_change_sized (C := Try.checked) own started (by kernel_rfl) Try.func3
    (ChangeSpec.witness6 (enc := enc) (C := Try.checked) false ⟨#[], #[.agg #[.slice none 0 0, .slice none 0 0], .slice none 0 0, .slice none 0 0], []⟩ 8 (by kernel_rfl) (by kernel_rfl) (by kernel_rfl) (by kernel_rfl)) ?_
  intro W base args ds gs before hval0 hW hcnd hsz0 _
  clear hsz0
  have hval : ∀ (j : Nat) t v, Try.f3.params[j]? = some t → args[j]? = some v → Value.okWide Try.prog W .any base t v := hval0
  have hW' := hW
  obtain ⟨p, q, hA0, hV, rfl, hfz, hnd⟩ := hW
  have hA : DataW.TrodAll enc Try.prog W 0 (fun _ => true) true Try.f3.params.toList args.toList ds p := hA0
  rw [Try.params3] at hA hval
  obtain ⟨v0, vs0, d0, ds0, p0, q0, hargs, rfl, rfl, h0, r0⟩ := trodAll_cons hA
  obtain ⟨v1, vs1, d1, ds1, p1, q1, rfl, rfl, rfl, h1, r1⟩ := trodAll_cons r0
  obtain ⟨v2, vs2, d2, ds2, p2, q2, rfl, rfl, rfl, h2, r2⟩ := trodAll_cons r1
  obtain ⟨rfl, rfl, rfl⟩ := trodAll_nil r2
  obtain rfl : args = #[v0, v1, v2] := by cases args; simp_all
  obtain ⟨rfl, rfl⟩ := trodVars_none hV
  have k0 := h0
  have lt0 : ∀ x ∈ p0, x.block < W.heap.size := by obtain ⟨m, hm⟩ := k0; exact DataW.trod_lt m _ _ _ hm
  obtain ⟨cs0, rfl, hz0⟩ := okWide_struct Try.underlying25 (hval 0 25 v0 rfl rfl)
  obtain ⟨m0, hm0⟩ := h0
  obtain ⟨x0, K0, g0⟩ := Open.open25 hm0
  replace K0 : k25.K W x0 cs0.toList := K0
  obtain ⟨A0_0, c0_0, A0_1, c0_1, e0, hc0_0, hr0_0, hc0_1, hr0_1⟩ := k25_open K0
  obtain rfl : cs0 = #[.slice A0_0 x0.f0.length c0_0, .slice A0_1 x0.f1.length c0_1] := by apply Array.toList_inj.mp; rw [e0]
  have k1 := h1
  have lt1 : ∀ x ∈ p1, x.block < W.heap.size := by obtain ⟨m, hm⟩ := k1; exact DataW.trod_lt m _ _ _ hm
  obtain ⟨b1, len1, cap1, rfl⟩ := okWide_slice Try.underlying22 (hval 1 22 v1 rfl rfl)
  obtain ⟨m1, hm1⟩ := h1
  obtain ⟨l1, ⟨A1, c1, e1, hc1, hr1⟩, g1⟩ := Open.open22 hm1
  replace e1 : [Value.slice b1 len1 cap1] = _ := e1
  injection e1 with e1 _
  injection e1 with e1a e1b e1c
  subst e1a e1b e1c
  have k2 := h2
  have lt2 : ∀ x ∈ p2, x.block < W.heap.size := by obtain ⟨m, hm⟩ := k2; exact DataW.trod_lt m _ _ _ hm
  obtain ⟨b2, len2, cap2, rfl⟩ := okWide_slice Try.underlying22 (hval 2 22 v2 rfl rfl)
  obtain ⟨m2, hm2⟩ := h2
  obtain ⟨l2, ⟨A2, c2, e2, hc2, hr2⟩, g2⟩ := Open.open22 hm2
  replace e2 : [Value.slice b2 len2 cap2] = _ := e2
  injection e2 with e2 _
  injection e2 with e2a e2b e2c
  subst e2a e2b e2c
  clear hA0 hval0
  refine (Pure.GraphRemove_walk _ _ x0.f0 _ _ x0.f1 _ _ l1 _ _ l2 W hr0_0 hc0_0 hr0_1 hc0_1 hr1 hc1 hr2 hc2).mono fun e W' ⟨he, bel⟩ => ?_
  subst he
  exact ⟨_, rfl, _, _, _, [], _, [], hW', trodAll_mk1 (shut_bool Try.underlying4 _), (trodAll_cons_mk (Below.trod laidOut (by kernel_rfl) (of_decide_eq_true (by kernel_rfl)) k0 bel lt0) (trodAll_cons_mk (Below.trod laidOut (by kernel_rfl) (of_decide_eq_true (by kernel_rfl)) k1 bel lt1) (trodAll_cons_mk (Below.trod laidOut (by kernel_rfl) (of_decide_eq_true (by kernel_rfl)) k2 bel lt2) trodAll_mk0))), rfl, bel.frame _, fun h => by cases h⟩
theorem over : Rows.graphRemoveRow.holds Try.pinned (OpenSpec.ofChange Rows.graphRemoveSpec) :=
  OpenClaim.holds_of_wide 3 Try.f3 rfl rfl rfl rfl rfl rfl rfl ⟨rfl, rfl, rfl, rfl, rfl⟩ rfl rfl rfl rfl rfl (by kernel_rfl) Try.func3 (by kernel_rfl)
    (of_decide_eq_true (by kernel_rfl)) (by unfold Func.isWrapper; first | (rw [if_pos (by decide +kernel)]; kernel_rfl) | (rw [if_neg (by decide +kernel)]; exact ⟨rfl, rfl⟩))
    (fun os started H enc _ => lifted os started H enc)
theorem proved : Rows.GraphRemoveSaid := over
#print axioms proved
end Go.Proofs.Ytmbnibonggbjgaa.graphRemove
namespace Go.Proofs.Ytmbnibonggbjgaa
/-- The row, under a short name, for the claim. -/
theorem graphRemove_holds : Rows.GraphRemoveSaid := graphRemove.proved
end Go.Proofs.Ytmbnibonggbjgaa
