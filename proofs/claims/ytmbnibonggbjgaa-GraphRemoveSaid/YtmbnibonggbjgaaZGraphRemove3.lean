/- A part of the proof that the law GraphRemove returns true at every input: contracts of the functions that it calls, and lemmas. -/
import Derived.Test.YtmbnibonggbjgaaZGraphRemove2
namespace Go.Proofs.Ytmbnibonggbjgaa.X
open Go.RowKit Go.Proofs.YtmbnibonggbjgaaW.PrintWords Go.Proofs.YtmbnibonggbjgaaW.PrintLast Go.Proofs.YtmbnibonggbjgaaW.PrintMore
open Go.Proofs.YtmbnibonggbjgaaW.PrintWords renaming blk_drewN → bN, blk_drew → bD, blk_alloc → bA, below_alloc → wA, pw_below_drewN → wN, below_drew1 → wD, blk_below → bB, below_step → wS, blk_at → bT, blk_grown → bG
open Go.Proofs.YtmbnibonggbjgaaW.PrintWords.Kd renaming R_alloc → rA, R_drewN → rN, R_drew → rD, R_below → rB, R_grown → rG, C_below → cB, C_alloc → cA, C_drewN → cN, C_drew → cD
attribute [local go_sem] max2_int min2_int max_two min_two max_three min_three max_four min_four
set_option linter.unusedVariables false
set_option linter.unusedSimpArgs false
attribute [local go_sem high] eqA38
/-! ### scarfjointref05_Same: function 16 -/
mutual
def scarfjointref05_Same.j0 : Nat → Bool → List Int → List (S38) → List Int → List (S38) → Option (Bool)
 | 0, _, _, _, _, _ => none
 | k + 1, x20, x102000, x102001, x103000, x103001 => if x20 = true then (some false) else (scarfjointref05_Same.l0 k 0 x102000 x102001 x103000 x103001)
def scarfjointref05_Same.l0 : Nat → Int → List Int → List (S38) → List Int → List (S38) → Option (Bool)
 | 0, _, _, _, _, _ => none
 | k + 1, x5, x102000, x102001, x103000, x103001 => if x5 < (x102001.length : Int) then (if 0 ≤ x5 then (if x5 < (x103001.length : Int) then (if (!(((rd_T38 x102001 x5).f0) == ((rd_T38 x103001 x5).f0)) || (!(((rd_T38 x102001 x5).f1) == ((rd_T38 x103001 x5).f1)) || (!(((rd_T38 x102001 x5).f2) == ((rd_T38 x103001 x5).f2))))) = true then (some false) else (scarfjointref05_Same.l0 k (wrap64 (x5 + 1)) x102000 x102001 x103000 x103001)) else (none)) else (none)) else (some true)
end
def scarfjointref05_Same.f (k : Nat) (l0_0 : List Int) (l0_1 : List (S38)) (l1_0 : List Int) (l1_1 : List (S38)) : Option (Bool) := (scarfjointref05_SameInts.f k l0_0 l1_0).bind fun t103 => (if t103 = true then (scarfjointref05_Same.j0 k ((l0_1.length : Int) != (l1_1.length : Int)) l0_0 l0_1 l1_0 l1_1) else (scarfjointref05_Same.j0 k true l0_0 l0_1 l1_0 l1_1))
theorem scarfjointref05_Same.mono_l : ∀ k, (∀ y0 y1 y2 y3 y4, LeO (scarfjointref05_Same.j0 k y0 y1 y2 y3 y4) (scarfjointref05_Same.j0 (k + 1) y0 y1 y2 y3 y4)) ∧ (∀ y0 y1 y2 y3 y4, LeO (scarfjointref05_Same.l0 k y0 y1 y2 y3 y4) (scarfjointref05_Same.l0 (k + 1) y0 y1 y2 y3 y4))
 | 0 => ⟨fun _ _ _ _ _ r h => by simp [scarfjointref05_Same.j0] at h, fun _ _ _ _ _ r h => by simp [scarfjointref05_Same.l0] at h⟩
 | k + 1 => by
  obtain ⟨ih0, ih1⟩ := scarfjointref05_Same.mono_l k
  refine ⟨?_, ?_⟩
  ·intro y0 y1 y2 y3 y4
   unfold scarfjointref05_Same.j0
   repeat' first
   | (with_reducible exact ih0 _ _ _ _ _)
   | (with_reducible exact ih1 _ _ _ _ _)
   | (with_reducible exact scarfjointref05_SameInts.mono _ _ _)
   | (with_reducible exact LeO.refl _)
   | (with_reducible exact LeO.none _)
   | (with_reducible refine LeO.ite ?_ ?_)
   | (with_reducible refine LeO.bind ?_ (fun _ => ?_))
   | exact ih0 _ _ _ _ _
   | exact ih1 _ _ _ _ _
   | exact scarfjointref05_SameInts.mono _ _ _
   | exact LeO.none _
   | refine LeO.ite ?_ ?_
   | refine LeO.bind ?_ (fun _ => ?_)
  ·intro y0 y1 y2 y3 y4
   unfold scarfjointref05_Same.l0
   repeat' first
   | (with_reducible exact ih0 _ _ _ _ _)
   | (with_reducible exact ih1 _ _ _ _ _)
   | (with_reducible exact scarfjointref05_SameInts.mono _ _ _)
   | (with_reducible exact LeO.refl _)
   | (with_reducible exact LeO.none _)
   | (with_reducible refine LeO.ite ?_ ?_)
   | (with_reducible refine LeO.bind ?_ (fun _ => ?_))
   | exact ih0 _ _ _ _ _
   | exact ih1 _ _ _ _ _
   | exact scarfjointref05_SameInts.mono _ _ _
   | exact LeO.none _
   | refine LeO.ite ?_ ?_
   | refine LeO.bind ?_ (fun _ => ?_)
theorem scarfjointref05_Same.mono : ∀ a0 a1 a2 a3 k, LeO (scarfjointref05_Same.f k a0 a1 a2 a3) (scarfjointref05_Same.f (k + 1) a0 a1 a2 a3) := by
 intro a0 a1 a2 a3 k
 obtain ⟨ih0, ih1⟩ := scarfjointref05_Same.mono_l k
 unfold scarfjointref05_Same.f
 repeat' first
   | (with_reducible exact ih0 _ _ _ _ _)
   | (with_reducible exact ih1 _ _ _ _ _)
   | (with_reducible exact scarfjointref05_SameInts.mono _ _ _)
   | (with_reducible exact LeO.refl _)
   | (with_reducible exact LeO.none _)
   | (with_reducible refine LeO.ite ?_ ?_)
   | (with_reducible refine LeO.bind ?_ (fun _ => ?_))
   | exact ih0 _ _ _ _ _
   | exact ih1 _ _ _ _ _
   | exact scarfjointref05_SameInts.mono _ _ _
   | exact LeO.none _
   | refine LeO.ite ?_ ?_
   | refine LeO.bind ?_ (fun _ => ?_)
set_option maxHeartbeats 8000000 in
set_option maxRecDepth 100000 in
theorem scarfjointref05_Same.calls (k : Nat) (A0_0 : Option Addr) (c0_0 : Nat) (l0_0 : List Int) (A0_1 : Option Addr) (c0_1 : Nat) (l0_1 : List (S38)) (A1_0 : Option Addr) (c1_0 : Nat) (l1_0 : List Int) (A1_1 : Option Addr) (c1_1 : Nat) (l1_1 : List (S38)) (r : Bool) (w : World) (hr0_0 : Kd.C (Kd.int .i64) w A0_0 l0_0.length l0_0) (hc0_0 : l0_0.length ≤ c0_0) (hr0_1 : Kd.C k38 w A0_1 l0_1.length l0_1) (hc0_1 : l0_1.length ≤ c0_1) (hr1_0 : Kd.C (Kd.int .i64) w A1_0 l1_0.length l1_0) (hc1_0 : l1_0.length ≤ c1_0) (hr1_1 : Kd.C k38 w A1_1 l1_1.length l1_1) (hc1_1 : l1_1.length ≤ c1_1) (h : scarfjointref05_Same.f k l0_0 l0_1 l1_0 l1_1 = some r) :
  Calls Try.prog 16 #[.agg #[.slice A0_0 l0_0.length c0_0, .slice A0_1 l0_1.length c0_1], .agg #[.slice A1_0 l1_0.length c1_0, .slice A1_1 l1_1.length c1_1]] w fun e w' => e = .returned (.bool r) ∧ Below w.heap.size w w' := by
 have hu25 := Try.underlying25
 have hu38 := Try.underlying38
 have HR0_0 := Aside0.mk hr0_0
 have HC0_0 := Aside0.mk hc0_0
 clear hr0_0 hc0_0
 have HR0_1 := Aside0.mk hr0_1
 have HC0_1 := Aside0.mk hc0_1
 clear hr0_1 hc0_1
 have HR1_0 := Aside0.mk hr1_0
 have HC1_0 := Aside0.mk hc1_0
 clear hr1_0 hc1_0
 have HR1_1 := Aside0.mk hr1_1
 have HC1_1 := Aside0.mk hc1_1
 clear hr1_1 hc1_1
 have HB := Aside0.mk (Below.refl w.heap.size w)
 have H : ((scarfjointref05_SameInts.f k l0_0 l1_0).bind fun t103 => (if t103 = true then (scarfjointref05_Same.j0 k ((l0_1.length : Int) != (l1_1.length : Int)) l0_0 l0_1 l1_0 l1_1) else (scarfjointref05_Same.j0 k true l0_0 l0_1 l1_0 l1_1))) = some r := h
 clear h
 have HC3 := Aside0.mk H
 clear H
 go_enter Try.func16, Try.ntmps16
 go_upto_region 1 with (first | ((with_reducible refine gate_dst (N := 2) rfl ?_); (try (refine gate_guard (by rfl) ?_; dsimp only)); refine box_event ?hg (N := 2) ?hd (cs := #[.slice A0_0 l0_0.length c0_0, .slice A0_1 l0_1.length c0_1]) (t := 25) ?hr ?_; (case hd => rfl); (case hg => rfl); (case hr => first | (go_simp; done) | (go_simp; rfl)); intro gb101 hg w4 hbox hb; have n0_ := Aside0.mk (wS hB hb); have n1_ := Aside0.mk (hbox); have n2_ := Aside0.mk ((by rw [hg]; exact (below_size hB) : w.heap.size ≤ gb101)); have n3_ := Aside0.mk ((by rw [hg]; exact (below_size hB) : w.heap.size ≤ gb101)); clear HB; have HB := n0_; have BK101 := n1_; have GW101 := n2_; have GE101 := n3_; clear n0_ n1_ n2_ n3_; clear hb hbox hg) | ((with_reducible refine gate_dst (N := 3) rfl ?_); (try (refine gate_guard (by rfl) ?_; dsimp only)); refine box_event ?hg (N := 3) ?hd (cs := #[.slice A1_0 l1_0.length c1_0, .slice A1_1 l1_1.length c1_1]) (t := 25) ?hr ?_; (case hd => rfl); (case hg => rfl); (case hr => first | (go_simp; done) | (go_simp; rfl)); intro gb102 hg w5 hbox hb; have n0_ := Aside0.mk (bB (g := gb101) (o := .cells #[.slice A0_0 l0_0.length c0_0, .slice A0_1 l0_1.length c0_1] 25 (0, 0)) (by (with_reducible repeat (first | refine bN ?_ _ | refine bD ?_ | refine bA ?_ _)); exact BK101.out) hb); have n1_ := Aside0.mk (wS (by repeat (first | (with_reducible first | exact HB.out | apply wA | apply wN | apply wD | refine below_set ?_ GE101.out) | exact HB.out)) hb); have n2_ := Aside0.mk (hbox); have n3_ := Aside0.mk ((by rw [hg]; exact (below_size (by repeat (first | (with_reducible first | exact HB.out | apply wA | apply wN | apply wD | refine below_set ?_ GE101.out) | exact HB.out))) : w.heap.size ≤ gb102)); have n4_ := Aside0.mk ((by rw [hg]; exact (below_size (by repeat (first | (with_reducible first | exact HB.out | apply wA | apply wN | apply wD | refine below_set ?_ GE101.out) | exact HB.out))) : w.heap.size ≤ gb102)); have n5_ := Aside0.mk ((by rw [hg]; exact Nat.ne_of_lt (blk_lt (g := gb101) (o := .cells #[.slice A0_0 l0_0.length c0_0, .slice A0_1 l0_1.length c0_1] 25 (0, 0)) (by (with_reducible repeat (first | refine bN ?_ _ | refine bD ?_ | refine bA ?_ _)); exact BK101.out)) : gb101 ≠ gb102)); have n6_ := Aside0.mk ((by rw [hg]; exact Nat.ne_of_gt (blk_lt (g := gb101) (o := .cells #[.slice A0_0 l0_0.length c0_0, .slice A0_1 l0_1.length c0_1] 25 (0, 0)) (by (with_reducible repeat (first | refine bN ?_ _ | refine bD ?_ | refine bA ?_ _)); exact BK101.out)) : gb102 ≠ gb101)); clear BK101; clear HB; have BK101 := n0_; have HB := n1_; have BK102 := n2_; have GW102 := n3_; have GE102 := n4_; have NB101_102 := n5_; have NB102_101 := n6_; clear n0_ n1_ n2_ n3_ n4_ n5_ n6_; clear hb hbox hg))
 repeat (go_quiet (first | ((with_reducible refine gate_dst (N := 2) rfl ?_); (try (refine gate_guard (by rfl) ?_; dsimp only)); refine box_event ?hg (N := 2) ?hd (cs := #[.slice A0_0 l0_0.length c0_0, .slice A0_1 l0_1.length c0_1]) (t := 25) ?hr ?_; (case hd => rfl); (case hg => rfl); (case hr => first | (go_simp; done) | (go_simp; rfl)); intro gb101 hg w4 hbox hb; have n0_ := Aside0.mk (wS hB hb); have n1_ := Aside0.mk (hbox); have n2_ := Aside0.mk ((by rw [hg]; exact (below_size hB) : w.heap.size ≤ gb101)); have n3_ := Aside0.mk ((by rw [hg]; exact (below_size hB) : w.heap.size ≤ gb101)); clear HB; have HB := n0_; have BK101 := n1_; have GW101 := n2_; have GE101 := n3_; clear n0_ n1_ n2_ n3_; clear hb hbox hg) | ((with_reducible refine gate_dst (N := 3) rfl ?_); (try (refine gate_guard (by rfl) ?_; dsimp only)); refine box_event ?hg (N := 3) ?hd (cs := #[.slice A1_0 l1_0.length c1_0, .slice A1_1 l1_1.length c1_1]) (t := 25) ?hr ?_; (case hd => rfl); (case hg => rfl); (case hr => first | (go_simp; done) | (go_simp; rfl)); intro gb102 hg w5 hbox hb; have n0_ := Aside0.mk (bB (g := gb101) (o := .cells #[.slice A0_0 l0_0.length c0_0, .slice A0_1 l0_1.length c0_1] 25 (0, 0)) (by (with_reducible repeat (first | refine bN ?_ _ | refine bD ?_ | refine bA ?_ _)); exact BK101.out) hb); have n1_ := Aside0.mk (wS (by repeat (first | (with_reducible first | exact HB.out | apply wA | apply wN | apply wD | refine below_set ?_ GE101.out) | exact HB.out)) hb); have n2_ := Aside0.mk (hbox); have n3_ := Aside0.mk ((by rw [hg]; exact (below_size (by repeat (first | (with_reducible first | exact HB.out | apply wA | apply wN | apply wD | refine below_set ?_ GE101.out) | exact HB.out))) : w.heap.size ≤ gb102)); have n4_ := Aside0.mk ((by rw [hg]; exact (below_size (by repeat (first | (with_reducible first | exact HB.out | apply wA | apply wN | apply wD | refine below_set ?_ GE101.out) | exact HB.out))) : w.heap.size ≤ gb102)); have n5_ := Aside0.mk ((by rw [hg]; exact Nat.ne_of_lt (blk_lt (g := gb101) (o := .cells #[.slice A0_0 l0_0.length c0_0, .slice A0_1 l0_1.length c0_1] 25 (0, 0)) (by (with_reducible repeat (first | refine bN ?_ _ | refine bD ?_ | refine bA ?_ _)); exact BK101.out)) : gb101 ≠ gb102)); have n6_ := Aside0.mk ((by rw [hg]; exact Nat.ne_of_gt (blk_lt (g := gb101) (o := .cells #[.slice A0_0 l0_0.length c0_0, .slice A0_1 l0_1.length c0_1] 25 (0, 0)) (by (with_reducible repeat (first | refine bN ?_ _ | refine bD ?_ | refine bA ?_ _)); exact BK101.out)) : gb102 ≠ gb101)); clear BK101; clear HB; have BK101 := n0_; have HB := n1_; have BK102 := n2_; have GW102 := n3_; have GE102 := n4_; have NB101_102 := n5_; have NB102_101 := n6_; clear n0_ n1_ n2_ n3_ n4_ n5_ n6_; clear hb hbox hg)); go_upto_region 1 with (first | ((with_reducible refine gate_dst (N := 2) rfl ?_); (try (refine gate_guard (by rfl) ?_; dsimp only)); refine box_event ?hg (N := 2) ?hd (cs := #[.slice A0_0 l0_0.length c0_0, .slice A0_1 l0_1.length c0_1]) (t := 25) ?hr ?_; (case hd => rfl); (case hg => rfl); (case hr => first | (go_simp; done) | (go_simp; rfl)); intro gb101 hg w4 hbox hb; have n0_ := Aside0.mk (wS hB hb); have n1_ := Aside0.mk (hbox); have n2_ := Aside0.mk ((by rw [hg]; exact (below_size hB) : w.heap.size ≤ gb101)); have n3_ := Aside0.mk ((by rw [hg]; exact (below_size hB) : w.heap.size ≤ gb101)); clear HB; have HB := n0_; have BK101 := n1_; have GW101 := n2_; have GE101 := n3_; clear n0_ n1_ n2_ n3_; clear hb hbox hg) | ((with_reducible refine gate_dst (N := 3) rfl ?_); (try (refine gate_guard (by rfl) ?_; dsimp only)); refine box_event ?hg (N := 3) ?hd (cs := #[.slice A1_0 l1_0.length c1_0, .slice A1_1 l1_1.length c1_1]) (t := 25) ?hr ?_; (case hd => rfl); (case hg => rfl); (case hr => first | (go_simp; done) | (go_simp; rfl)); intro gb102 hg w5 hbox hb; have n0_ := Aside0.mk (bB (g := gb101) (o := .cells #[.slice A0_0 l0_0.length c0_0, .slice A0_1 l0_1.length c0_1] 25 (0, 0)) (by (with_reducible repeat (first | refine bN ?_ _ | refine bD ?_ | refine bA ?_ _)); exact BK101.out) hb); have n1_ := Aside0.mk (wS (by repeat (first | (with_reducible first | exact HB.out | apply wA | apply wN | apply wD | refine below_set ?_ GE101.out) | exact HB.out)) hb); have n2_ := Aside0.mk (hbox); have n3_ := Aside0.mk ((by rw [hg]; exact (below_size (by repeat (first | (with_reducible first | exact HB.out | apply wA | apply wN | apply wD | refine below_set ?_ GE101.out) | exact HB.out))) : w.heap.size ≤ gb102)); have n4_ := Aside0.mk ((by rw [hg]; exact (below_size (by repeat (first | (with_reducible first | exact HB.out | apply wA | apply wN | apply wD | refine below_set ?_ GE101.out) | exact HB.out))) : w.heap.size ≤ gb102)); have n5_ := Aside0.mk ((by rw [hg]; exact Nat.ne_of_lt (blk_lt (g := gb101) (o := .cells #[.slice A0_0 l0_0.length c0_0, .slice A0_1 l0_1.length c0_1] 25 (0, 0)) (by (with_reducible repeat (first | refine bN ?_ _ | refine bD ?_ | refine bA ?_ _)); exact BK101.out)) : gb101 ≠ gb102)); have n6_ := Aside0.mk ((by rw [hg]; exact Nat.ne_of_gt (blk_lt (g := gb101) (o := .cells #[.slice A0_0 l0_0.length c0_0, .slice A0_1 l0_1.length c0_1] 25 (0, 0)) (by (with_reducible repeat (first | refine bN ?_ _ | refine bD ?_ | refine bA ?_ _)); exact BK101.out)) : gb102 ≠ gb101)); clear BK101; clear HB; have BK101 := n0_; have HB := n1_; have BK102 := n2_; have GW102 := n3_; have GE102 := n4_; have NB101_102 := n5_; have NB102_101 := n6_; clear n0_ n1_ n2_ n3_ n4_ n5_ n6_; clear hb hbox hg)))
 (try simp only [Act.put, List.setIfInBounds_toArray, List.set_cons_zero, List.set_cons_succ])
 go_cut [20] (fun v20 wc => ∃ (kq : Nat) (x20_2 : Bool), v20 = .bool x20_2 ∧ Aside0 (scarfjointref05_Same.j0 kq x20_2 l0_0 l0_1 l1_0 l1_1 = some r) ∧ Aside0 (kq ≤ k) ∧ Aside0 (wc.heap[gb101]? = some (.cells #[(.slice A0_0 l0_0.length c0_0), (.slice A0_1 l0_1.length c0_1)] 25 (0, 0))) ∧ Aside0 (wc.heap[gb102]? = some (.cells #[(.slice A1_0 l1_0.length c1_0), (.slice A1_1 l1_1.length c1_1)] 25 (0, 0))) ∧ Aside0 (Below w.heap.size w wc))
 case first =>
  have H := HC3.out
  clear HC3
  replace H := Option.bind_eq_some_iff.mp H
  obtain ⟨t103, A60, H⟩ := H
  replace H : (if t103 = true then (scarfjointref05_Same.j0 k ((l0_1.length : Int) != (l1_1.length : Int)) l0_0 l0_1 l1_0 l1_1) else (scarfjointref05_Same.j0 k true l0_0 l0_1 l1_0 l1_1)) = some r := H
  have A6 := Aside0.mk A60
  clear A60
  by_cases c7 : t103 = true
  ·subst c7
   have H1 : (scarfjointref05_Same.j0 k ((l0_1.length : Int) != (l1_1.length : Int)) l0_0 l0_1 l1_0 l1_1) = some r := by rw [if_pos rfl] at H; exact H
   clear H
   have H := H1
   clear H1
   have H' := Aside0.mk H
   clear H
   have hnb8 := NB101_102.out
   have hnc8 := NB102_101.out
   have hcz9_0 : w5.cell? ⟨gb101, 0, none⟩ = some (.slice A0_0 l0_0.length c0_0) := (blk_cell BK101.out 0).trans rfl
   have hcz9_1 : w5.cell? ⟨gb101, 1, none⟩ = some (.slice A0_1 l0_1.length c0_1) := (blk_cell BK101.out 1).trans rfl
   have hfz9_0 := blk_frozen BK101.out 0
   have hfz9_1 := blk_frozen BK101.out 1
   have hcz10_0 : w5.cell? ⟨gb102, 0, none⟩ = some (.slice A1_0 l1_0.length c1_0) := (blk_cell BK102.out 0).trans rfl
   have hcz10_1 : w5.cell? ⟨gb102, 1, none⟩ = some (.slice A1_1 l1_1.length c1_1) := (blk_cell BK102.out 1).trans rfl
   have hfz10_0 := blk_frozen BK102.out 0
   have hfz10_1 := blk_frozen BK102.out 1
   iterate 3 (try (go_wp2_with (first | (go_at_call 43; (with_reducible refine (scarfjointref05_SameInts.calls k _ _ l0_0 _ _ l1_0 true _ ?side1 ?side2 ?side3 ?side4 A6.out).mono ?_); (case side1 => repeat (first | exact (cB HR0_0.out HB.out) | (with_reducible refine cA ?_ _) | (with_reducible refine cN ?_ _) | (with_reducible refine cD ?_))); (case side2 => exact HC0_0.out); (case side3 => repeat (first | exact (cB HR1_0.out HB.out) | (with_reducible refine cA ?_ _) | (with_reducible refine cN ?_ _) | (with_reducible refine cD ?_))); (case side4 => exact HC1_0.out); rintro e w' ⟨rfl, ⟨nd, rfl⟩⟩; (try first | exact ⟨rfl, _, World.drewN_drewN _ _ _⟩ | exact ⟨rfl, _, Eq.trans (World.drewN_drewN _ _ _) (congrArg (World.drewN _) (Nat.add_assoc _ _ _))⟩)))); try (go_quiet (fail)))
   go_meet
   case rel => exact ⟨_, (((l0_1.length : Int) != (l1_1.length : Int))), rS, H', ⟨by first | omega | exact Nat.le_refl _⟩, ⟨by (with_reducible repeat (first | refine bN ?_ _ | refine bD ?_ | refine bA ?_ _)); exact BK101.out⟩, ⟨by (with_reducible repeat (first | refine bN ?_ _ | refine bD ?_ | refine bA ?_ _)); exact BK102.out⟩, ⟨by repeat (first | (with_reducible first | exact HB.out | apply wA | apply wN | apply wD | refine below_set ?_ GE101.out | refine below_set ?_ GE102.out) | exact HB.out)⟩⟩
  ·replace c7 := Bool.eq_false_iff.mpr c7
   subst c7
   have H1 : (scarfjointref05_Same.j0 k true l0_0 l0_1 l1_0 l1_1) = some r := by rw [if_neg (show ¬ (false = true) by decide)] at H; exact H
   clear H
   have H := H1
   clear H1
   have H' := Aside0.mk H
   clear H
   have hnb11 := NB101_102.out
   have hnc11 := NB102_101.out
   have hcz12_0 : w5.cell? ⟨gb101, 0, none⟩ = some (.slice A0_0 l0_0.length c0_0) := (blk_cell BK101.out 0).trans rfl
   have hcz12_1 : w5.cell? ⟨gb101, 1, none⟩ = some (.slice A0_1 l0_1.length c0_1) := (blk_cell BK101.out 1).trans rfl
   have hfz12_0 := blk_frozen BK101.out 0
   have hfz12_1 := blk_frozen BK101.out 1
   have hcz13_0 : w5.cell? ⟨gb102, 0, none⟩ = some (.slice A1_0 l1_0.length c1_0) := (blk_cell BK102.out 0).trans rfl
   have hcz13_1 : w5.cell? ⟨gb102, 1, none⟩ = some (.slice A1_1 l1_1.length c1_1) := (blk_cell BK102.out 1).trans rfl
   have hfz13_0 := blk_frozen BK102.out 0
   have hfz13_1 := blk_frozen BK102.out 1
   iterate 3 (try (go_wp2_with (first | (go_at_call 43; (with_reducible refine (scarfjointref05_SameInts.calls k _ _ l0_0 _ _ l1_0 false _ ?side1 ?side2 ?side3 ?side4 A6.out).mono ?_); (case side1 => repeat (first | exact (cB HR0_0.out HB.out) | (with_reducible refine cA ?_ _) | (with_reducible refine cN ?_ _) | (with_reducible refine cD ?_))); (case side2 => exact HC0_0.out); (case side3 => repeat (first | exact (cB HR1_0.out HB.out) | (with_reducible refine cA ?_ _) | (with_reducible refine cN ?_ _) | (with_reducible refine cD ?_))); (case side4 => exact HC1_0.out); rintro e w' ⟨rfl, ⟨nd, rfl⟩⟩; (try first | exact ⟨rfl, _, World.drewN_drewN _ _ _⟩ | exact ⟨rfl, _, Eq.trans (World.drewN_drewN _ _ _) (congrArg (World.drewN _) (Nat.add_assoc _ _ _))⟩)))); try (go_quiet (fail)))
   go_meet
   case rel => exact ⟨_, (true), rS, H', ⟨by first | omega | exact Nat.le_refl _⟩, ⟨by (with_reducible repeat (first | refine bN ?_ _ | refine bD ?_ | refine bA ?_ _)); exact BK101.out⟩, ⟨by (with_reducible repeat (first | refine bN ?_ _ | refine bD ?_ | refine bA ?_ _)); exact BK102.out⟩, ⟨by repeat (first | (with_reducible first | exact HB.out | apply wA | apply wN | apply wD | refine below_set ?_ GE101.out | refine below_set ?_ GE102.out) | exact HB.out)⟩⟩
 case rest =>
  clear HC3
  try clear c1
  try clear p2
  try clear c7
  try clear c8
  try clear c11
  try clear hcz10_0
  try clear hcz10_1
  try clear hcz12_0
  try clear hcz12_1
  try clear hcz13_0
  try clear hcz13_1
  try clear hcz9_0
  try clear hcz9_1
  try clear hfz10_0
  try clear hfz10_1
  try clear hfz12_0
  try clear hfz12_1
  try clear hfz13_0
  try clear hfz13_1
  try clear hfz9_0
  try clear hfz9_1
  obtain ⟨kq, x20_2, rfl, HA, HJ2, BK101, BK102, HB⟩ := hcut
  cases kq with
  | zero => exact absurd HA.out (by simp [scarfjointref05_Same.j0])
  | succ kj2 =>
   have H := HA.out
   clear HA
   simp only [scarfjointref05_Same.j0] at H
   by_cases c14 : x20_2 = true
   ·subst c14
    have H1 : (some false) = some r := by rw [if_pos rfl] at H; exact H
    clear H
    have H := H1
    clear H1
    obtain rfl := Option.some.inj H
    go_wp2
    repeat (go_quiet (fail); try go_wp2)
    go_ret
    exact ⟨by first | rfl | (simp [errW_none, errW_some] <;> rfl) | (simp [*, errW_none, errW_some] <;> rfl), by repeat (first | (with_reducible first | exact HB.out | apply wA | apply wN | apply wD | refine below_set ?_ GE101.out | refine below_set ?_ GE102.out) | exact HB.out)⟩
   ·replace c14 := Bool.eq_false_iff.mpr c14
    subst c14
    have H1 : (scarfjointref05_Same.l0 kj2 0 l0_0 l0_1 l1_0 l1_1) = some r := by rw [if_neg (show ¬ (false = true) by decide)] at H; exact H
    clear H
    have H := H1
    clear H1
    have H' := Aside0.mk H
    clear H
    go_wp2
    repeat (go_quiet (fail); try go_wp2)
    go_loopg [5] kj2 (fun kq v5 w' => ∃ (x5_2 : Int), v5 = .int .i64 x5_2 ∧ Aside0 (scarfjointref05_Same.l0 kq x5_2 l0_0 l0_1 l1_0 l1_1 = some r) ∧ Aside0 (kq ≤ kj2) ∧ Aside0 (w'.heap[gb101]? = some (.cells #[(.slice A0_0 l0_0.length c0_0), (.slice A0_1 l0_1.length c0_1)] 25 (0, 0))) ∧ Aside0 (w'.heap[gb102]? = some (.cells #[(.slice A1_0 l1_0.length c1_0), (.slice A1_1 l1_1.length c1_1)] 25 (0, 0))) ∧ Aside0 (Below w.heap.size w w'))
    case atStart => exact ⟨(0), rS, H', ⟨Nat.le_refl _⟩, ⟨by (with_reducible repeat (first | refine bN ?_ _ | refine bD ?_ | refine bA ?_ _)); exact BK101.out⟩, ⟨by (with_reducible repeat (first | refine bN ?_ _ | refine bD ?_ | refine bA ?_ _)); exact BK102.out⟩, ⟨by repeat (first | (with_reducible first | exact HB.out | apply wA | apply wN | apply wD | refine below_set ?_ GE101.out | refine below_set ?_ GE102.out) | exact HB.out)⟩⟩
    case round =>
     clear H'
     try clear c1
     try clear p2
     try clear c7
     try clear c8
     try clear c11
     try clear c14
     try clear hcz10_0
     try clear hcz10_1
     try clear hcz12_0
     try clear hcz12_1
     try clear hcz13_0
     try clear hcz13_1
     try clear hcz9_0
     try clear hcz9_1
     try clear hfz10_0
     try clear hfz10_1
     try clear hfz12_0
     try clear hfz12_1
     try clear hfz13_0
     try clear hfz13_1
     try clear hfz9_0
     try clear hfz9_1
     try clear p2
     obtain ⟨x5_2, rfl, HA, HK2, BK101, BK102, HB⟩ := hrel
     cases gk with
     | zero => exact absurd HA.out (by simp [scarfjointref05_Same.l0])
     | succ k2 =>
      have H := HA.out
      clear HA
      simp only [scarfjointref05_Same.l0] at H
      by_cases c15 : x5_2 < (l0_1.length : Int)
      ·rw [if_pos c15] at H
       have c15b0 : decide (x5_2 < (l0_1.length : Int)) = true := decide_eq_true c15
       clear c15
       by_cases c16 : 0 ≤ x5_2
       ·rw [if_pos c16] at H
        have c16b0 : decide (0 ≤ x5_2) = true := decide_eq_true c16
        clear c16
        by_cases c17 : x5_2 < (l1_1.length : Int)
        ·rw [if_pos c17] at H
         have c17b0 : decide (x5_2 < (l1_1.length : Int)) = true := decide_eq_true c17
         clear c17
         by_cases c18 : (!(((rd_T38 l0_1 x5_2).f0) == ((rd_T38 l1_1 x5_2).f0)) || (!(((rd_T38 l0_1 x5_2).f1) == ((rd_T38 l1_1 x5_2).f1)) || (!(((rd_T38 l0_1 x5_2).f2) == ((rd_T38 l1_1 x5_2).f2))))) = true
         ·rw [if_pos c18] at H
          have c18b0 : (!(((rd_T38 l0_1 x5_2).f0) == ((rd_T38 l1_1 x5_2).f0)) || (!(((rd_T38 l0_1 x5_2).f1) == ((rd_T38 l1_1 x5_2).f1)) || (!(((rd_T38 l0_1 x5_2).f2) == ((rd_T38 l1_1 x5_2).f2))))) = true := c18
          clear c18
          obtain rfl := Option.some.inj H
          have hnb19 := NB101_102.out
          have hnc19 := NB102_101.out
          have hcz20_0 : wr.cell? ⟨gb101, 0, none⟩ = some (.slice A0_0 l0_0.length c0_0) := (blk_cell BK101.out 0).trans rfl
          have hcz20_1 : wr.cell? ⟨gb101, 1, none⟩ = some (.slice A0_1 l0_1.length c0_1) := (blk_cell BK101.out 1).trans rfl
          have hfz20_0 := blk_frozen BK101.out 0
          have hfz20_1 := blk_frozen BK101.out 1
          have p104 : 0 ≤ (x5_2 : Int) := oT
          have q104 : x5_2 < (l0_1.length : Int) := oT
          obtain ⟨ad104, e104, hx104_0, hx104_1, hx104_2⟩ := at_T38 HR0_1.out x5_2 p104 q104
          cases e104
          replace hx104_0 := (HB.out.cell (World.block_lt_of_cell? w _ hx104_0)).trans hx104_0
          replace hx104_1 := (HB.out.cell (World.block_lt_of_cell? w _ hx104_1)).trans hx104_1
          replace hx104_2 := (HB.out.cell (World.block_lt_of_cell? w _ hx104_2)).trans hx104_2
          replace p104 := eq_true p104
          replace q104 := eq_true q104
          have hcz21_0 : wr.cell? ⟨gb102, 0, none⟩ = some (.slice A1_0 l1_0.length c1_0) := (blk_cell BK102.out 0).trans rfl
          have hcz21_1 : wr.cell? ⟨gb102, 1, none⟩ = some (.slice A1_1 l1_1.length c1_1) := (blk_cell BK102.out 1).trans rfl
          have hfz21_0 := blk_frozen BK102.out 0
          have hfz21_1 := blk_frozen BK102.out 1
          have p105 : 0 ≤ (x5_2 : Int) := oT
          have q105 : x5_2 < (l1_1.length : Int) := oT
          obtain ⟨ad105, e105, hx105_0, hx105_1, hx105_2⟩ := at_T38 HR1_1.out x5_2 p105 q105
          cases e105
          replace hx105_0 := (HB.out.cell (World.block_lt_of_cell? w _ hx105_0)).trans hx105_0
          replace hx105_1 := (HB.out.cell (World.block_lt_of_cell? w _ hx105_1)).trans hx105_1
          replace hx105_2 := (HB.out.cell (World.block_lt_of_cell? w _ hx105_2)).trans hx105_2
          replace p105 := eq_true p105
          replace q105 := eq_true q105
          go_wp2
          repeat (go_quiet (fail); try go_wp2)
          go_ret
          exact ⟨by first | rfl | (simp [errW_none, errW_some] <;> rfl) | (simp [*, errW_none, errW_some] <;> rfl), by repeat (first | (with_reducible first | exact HB.out | apply wA | apply wN | apply wD | refine below_set ?_ GE101.out | refine below_set ?_ GE102.out) | exact HB.out)⟩
         ·rw [if_neg c18] at H
          have c18b0 : (!(((rd_T38 l0_1 x5_2).f0) == ((rd_T38 l1_1 x5_2).f0)) || (!(((rd_T38 l0_1 x5_2).f1) == ((rd_T38 l1_1 x5_2).f1)) || (!(((rd_T38 l0_1 x5_2).f2) == ((rd_T38 l1_1 x5_2).f2))))) = false := by simpa using c18
          clear c18
          have H' := Aside0.mk H
          clear H
          have hnb22 := NB101_102.out
          have hnc22 := NB102_101.out
          have hcz23_0 : wr.cell? ⟨gb101, 0, none⟩ = some (.slice A0_0 l0_0.length c0_0) := (blk_cell BK101.out 0).trans rfl
          have hcz23_1 : wr.cell? ⟨gb101, 1, none⟩ = some (.slice A0_1 l0_1.length c0_1) := (blk_cell BK101.out 1).trans rfl
          have hfz23_0 := blk_frozen BK101.out 0
          have hfz23_1 := blk_frozen BK101.out 1
          have p104 : 0 ≤ (x5_2 : Int) := oT
          have q104 : x5_2 < (l0_1.length : Int) := oT
          obtain ⟨ad104, e104, hx104_0, hx104_1, hx104_2⟩ := at_T38 HR0_1.out x5_2 p104 q104
          cases e104
          replace hx104_0 := (HB.out.cell (World.block_lt_of_cell? w _ hx104_0)).trans hx104_0
          replace hx104_1 := (HB.out.cell (World.block_lt_of_cell? w _ hx104_1)).trans hx104_1
          replace hx104_2 := (HB.out.cell (World.block_lt_of_cell? w _ hx104_2)).trans hx104_2
          replace p104 := eq_true p104
          replace q104 := eq_true q104
          have hcz24_0 : wr.cell? ⟨gb102, 0, none⟩ = some (.slice A1_0 l1_0.length c1_0) := (blk_cell BK102.out 0).trans rfl
          have hcz24_1 : wr.cell? ⟨gb102, 1, none⟩ = some (.slice A1_1 l1_1.length c1_1) := (blk_cell BK102.out 1).trans rfl
          have hfz24_0 := blk_frozen BK102.out 0
          have hfz24_1 := blk_frozen BK102.out 1
          have p105 : 0 ≤ (x5_2 : Int) := oT
          have q105 : x5_2 < (l1_1.length : Int) := oT
          obtain ⟨ad105, e105, hx105_0, hx105_1, hx105_2⟩ := at_T38 HR1_1.out x5_2 p105 q105
          cases e105
          replace hx105_0 := (HB.out.cell (World.block_lt_of_cell? w _ hx105_0)).trans hx105_0
          replace hx105_1 := (HB.out.cell (World.block_lt_of_cell? w _ hx105_1)).trans hx105_1
          replace hx105_2 := (HB.out.cell (World.block_lt_of_cell? w _ hx105_2)).trans hx105_2
          replace p105 := eq_true p105
          replace q105 := eq_true q105
          go_wp2
          repeat (go_quiet (fail); try go_wp2)
          go_roundg k2
          case measure => have := HJ2.out; have := HK2.out; omega
          case rel => exact ⟨(wrap64 (x5_2 + 1)), rS, H', ⟨by have := HJ2.out; have := HK2.out; omega⟩, ⟨by (with_reducible repeat (first | refine bN ?_ _ | refine bD ?_ | refine bA ?_ _)); exact BK101.out⟩, ⟨by (with_reducible repeat (first | refine bN ?_ _ | refine bD ?_ | refine bA ?_ _)); exact BK102.out⟩, ⟨by repeat (first | (with_reducible first | exact HB.out | apply wA | apply wN | apply wD | refine below_set ?_ GE101.out | refine below_set ?_ GE102.out) | exact HB.out)⟩⟩
        ·rw [if_neg c17] at H
         exact absurd H (by simp)
       ·rw [if_neg c16] at H
        exact absurd H (by simp)
      ·rw [if_neg c15] at H
       have c15b0 : decide (x5_2 < (l0_1.length : Int)) = false := decide_eq_false c15
       clear c15
       obtain rfl := Option.some.inj H
       have hnb25 := NB101_102.out
       have hnc25 := NB102_101.out
       have hcz26_0 : wr.cell? ⟨gb101, 0, none⟩ = some (.slice A0_0 l0_0.length c0_0) := (blk_cell BK101.out 0).trans rfl
       have hcz26_1 : wr.cell? ⟨gb101, 1, none⟩ = some (.slice A0_1 l0_1.length c0_1) := (blk_cell BK101.out 1).trans rfl
       have hfz26_0 := blk_frozen BK101.out 0
       have hfz26_1 := blk_frozen BK101.out 1
       go_wp2
       repeat (go_quiet (fail); try go_wp2)
       go_ret
       exact ⟨by first | rfl | (simp [errW_none, errW_some] <;> rfl) | (simp [*, errW_none, errW_some] <;> rfl), by repeat (first | (with_reducible first | exact HB.out | apply wA | apply wN | apply wD | refine below_set ?_ GE101.out | refine below_set ?_ GE102.out) | exact HB.out)⟩
end Go.Proofs.Ytmbnibonggbjgaa.X

namespace Go.Proofs.Ytmbnibonggbjgaa.X
open Go.RowKit Go.Proofs.YtmbnibonggbjgaaW.PrintWords Go.Proofs.YtmbnibonggbjgaaW.PrintLast Go.Proofs.YtmbnibonggbjgaaW.PrintMore
open Go.Proofs.YtmbnibonggbjgaaW.PrintWords renaming blk_drewN → bN, blk_drew → bD, blk_alloc → bA, below_alloc → wA, pw_below_drewN → wN, below_drew1 → wD, blk_below → bB, below_step → wS, blk_at → bT, blk_grown → bG
open Go.Proofs.YtmbnibonggbjgaaW.PrintWords.Kd renaming R_alloc → rA, R_drewN → rN, R_drew → rD, R_below → rB, R_grown → rG, C_below → cB, C_alloc → cA, C_drewN → cN, C_drew → cD
attribute [local go_sem] max2_int min2_int max_two min_two max_three min_three max_four min_four
set_option linter.unusedVariables false
set_option linter.unusedSimpArgs false
/-! ### graph_numbers: function 45 -/
def graph_numbers.l0 : Nat → Int → List Int → Int → Int → Option (List Int)
 | 0, _, _, _, _ => none
 | k + 1, x0, x5, x7, x8 => if x8 < x7 then (if x5.length < 17592186044416 then (graph_numbers.l0 k x0 (x5 ++ [wrap64 (x0 + x8)]) x7 (wrap64 (x8 + 1))) else (none)) else (some x5)
def graph_numbers.f (k : Nat) (a0 : Int) (a1 : Int) : Option (List Int) := graph_numbers.l0 k a0 ([] : List Int) a1 0
theorem graph_numbers.mono_l : ∀ k, (∀ y0 y1 y2 y3, LeO (graph_numbers.l0 k y0 y1 y2 y3) (graph_numbers.l0 (k + 1) y0 y1 y2 y3))
 | 0 => fun _ _ _ _ r h => by simp [graph_numbers.l0] at h
 | k + 1 => by
  have ih0 := graph_numbers.mono_l k
  ·intro y0 y1 y2 y3
   unfold graph_numbers.l0
   repeat' first
   | (with_reducible exact ih0 _ _ _ _)
   | (with_reducible exact LeO.refl _)
   | (with_reducible exact LeO.none _)
   | (with_reducible refine LeO.ite ?_ ?_)
   | (with_reducible refine LeO.bind ?_ (fun _ => ?_))
   | exact ih0 _ _ _ _
   | exact LeO.none _
   | refine LeO.ite ?_ ?_
   | refine LeO.bind ?_ (fun _ => ?_)
theorem graph_numbers.mono : ∀ a0 a1 k, LeO (graph_numbers.f k a0 a1) (graph_numbers.f (k + 1) a0 a1) := by
 intro a0 a1 k
 have ih0 := graph_numbers.mono_l k
 unfold graph_numbers.f
 repeat' first
   | (with_reducible exact ih0 _ _ _ _)
   | (with_reducible exact LeO.refl _)
   | (with_reducible exact LeO.none _)
   | (with_reducible refine LeO.ite ?_ ?_)
   | (with_reducible refine LeO.bind ?_ (fun _ => ?_))
   | exact ih0 _ _ _ _
   | exact LeO.none _
   | refine LeO.ite ?_ ?_
   | refine LeO.bind ?_ (fun _ => ?_)
set_option maxHeartbeats 8000000 in
set_option maxRecDepth 100000 in
theorem graph_numbers.calls (k : Nat) (a0 : Int) (a1 : Int) (r : List Int) (w : World) (h : graph_numbers.f k a0 a1 = some r) :
  Calls Try.prog 45 #[.int .i64 a0, .int .i64 a1] w fun e w' => ∃ v0_ : Value, e = .returned (v0_) ∧ Kd.R (Kd.int .i64) 3 w' w.heap.size (fun _ => True) v0_ r ∧ Below w.heap.size w w' := by
 have HB := Aside0.mk (Below.refl w.heap.size w)
 have H : (graph_numbers.l0 k a0 ([] : List Int) a1 0) = some r := h
 clear h
 have H' := Aside0.mk H
 clear H
 go_enter Try.func45, Try.ntmps45
 go_wp2
 go_loopg [5, 8] k (fun kq v5 v8 w' => ∃ (x5_1 : List Int) (x8_1 : Int), v8 = .int .i64 x8_1 ∧ Aside0 (graph_numbers.l0 kq a0 x5_1 a1 x8_1 = some r) ∧ Aside0 (kq ≤ k) ∧ Aside0 (Kd.R (Kd.int .i64) 3 w' w.heap.size (fun _ => True) v5 x5_1) ∧ Aside0 (Below w.heap.size w w'))
 case atStart => exact ⟨(([] : List Int)), (0), rS, H', ⟨Nat.le_refl _⟩, ⟨by first | exact Kd.R_nil _ _ _ _ _ | exact Kd.N_nil _ _ _ _ _ | exact Kd.V_nil _ _ _ _ _ | exact Kd.Q_nil _ _ _ _ _ | exact Kd.S_nil _ _ _ _ _⟩, ⟨by repeat (first | (with_reducible first | exact HB.out | apply wA | apply wN | apply wD) | exact HB.out)⟩⟩
 case round =>
  clear H'
  try clear p2
  obtain ⟨x5_1, x8_1, rfl, HA, HK1, HO_5, HB⟩ := hrel
  cases gk with
  | zero => exact absurd HA.out (by simp [graph_numbers.l0])
  | succ k1 =>
   have H := HA.out
   clear HA
   simp only [graph_numbers.l0] at H
   by_cases c3 : x8_1 < a1
   ·rw [if_pos c3] at H
    have c3b0 : decide (x8_1 < a1) = true := decide_eq_true c3
    clear c3
    by_cases c4 : x5_1.length < 17592186044416
    ·rw [if_pos c4] at H
     have LMc4 := Aside0.mk c4
     clear c4
     obtain ⟨y101, hy101⟩ : ∃ y_ : List Int, y_ = (x5_1 ++ [wrap64 (a0 + x8_1)]) := ⟨_, rfl⟩
     replace H : (graph_numbers.l0 k1 a0 y101 a1 (wrap64 (x8_1 + 1))) = some r := by first | (rw [hy101]; with_reducible exact H) | (have H2_ := (Option.bind_some _ _).symm.trans H; rw [hy101]; with_reducible exact H2_) | (have H2_ := (Option.bind_some _ _).symm.trans H; with_reducible exact H2_) | with_reducible exact H | (rw [hy101]; exact H) | exact H
     have Ny101 := Aside0.mk hy101
     clear hy101
     have H' := Aside0.mk H
     clear H
     go_wp2_with (first | ((with_reducible refine gate_builtin (b := .append) (xs := #[.tmp 11, .tmp 15]) rfl ?_); at_builtin; refine Kd.R_append (Kd.int .i64) (w0 := w) w.heap.size rfl (.tmp 11) (.tmp 15) 22 3 (.int .i64 0) 8 rfl Try.underlying22 info3 rfl (by decide) (by omega) u5 x5_1 (wrap64 (a0 + x8_1)) [.int .i64 (wrap64 (a0 + x8_1))] (fun _ => True) (fun _ => False) rfl rfl ?aP (fun _ hk => hk.elim) ?aF ?aO ?aB ?aS ?aL ?_; (case aP => exact rfl); (case aB => exact hB); (case aF => exact (fun _ _ => trivial)); (case aO => exact (by (with_reducible repeat (first | apply rA | apply rN | apply rD)); exact HO_5.out)); (case aS => exact (below_size hB)); (case aL => have := LMc4.out; omega); intro v102 w5 ho hb hg hat; rw [← Ny101.out] at ho; have n0_ := Aside0.mk (hb); have n1_ := Aside0.mk (ho); clear HB; clear HO_5; have HB := n0_; have HO103 := n1_; clear n0_ n1_; clear ho hb hg hat))
     go_roundg k1
     case measure => have := HK1.out; omega
     case rel => exact ⟨(y101), (wrap64 (x8_1 + 1)), rS, H', ⟨by have := HK1.out; omega⟩, ⟨by (with_reducible repeat (first | apply rA | apply rN | apply rD)); exact HO103.out⟩, ⟨by repeat (first | (with_reducible first | exact HB.out | apply wA | apply wN | apply wD) | exact HB.out)⟩⟩
    ·rw [if_neg c4] at H
     exact absurd H (by simp)
   ·rw [if_neg c3] at H
    have c3b0 : decide (x8_1 < a1) = false := decide_eq_false c3
    clear c3
    obtain rfl := Option.some.inj H
    go_wp2
    go_ret
    exact ⟨_, by first | rfl | (simp [errW_none, errW_some] <;> rfl) | (simp [*, errW_none, errW_some] <;> rfl), by (with_reducible repeat (first | apply rA | apply rN | apply rD)); exact HO_5.out, by repeat (first | (with_reducible first | exact HB.out | apply wA | apply wN | apply wD) | exact HB.out)⟩
end Go.Proofs.Ytmbnibonggbjgaa.X

namespace Go.Proofs.Ytmbnibonggbjgaa.X
open Go.RowKit Go.Proofs.YtmbnibonggbjgaaW.PrintWords Go.Proofs.YtmbnibonggbjgaaW.PrintLast Go.Proofs.YtmbnibonggbjgaaW.PrintMore
open Go.Proofs.YtmbnibonggbjgaaW.PrintWords renaming blk_drewN → bN, blk_drew → bD, blk_alloc → bA, below_alloc → wA, pw_below_drewN → wN, below_drew1 → wD, blk_below → bB, below_step → wS, blk_at → bT, blk_grown → bG
open Go.Proofs.YtmbnibonggbjgaaW.PrintWords.Kd renaming R_alloc → rA, R_drewN → rN, R_drew → rD, R_below → rB, R_grown → rG, C_below → cB, C_alloc → cA, C_drewN → cN, C_drew → cD
attribute [local go_sem] max2_int min2_int max_two min_two max_three min_three max_four min_four
set_option linter.unusedVariables false
set_option linter.unusedSimpArgs false
/-! ### graph_Components: function 20 -/
mutual
def graph_Components.l0 : Nat → List Int → Bool → List Int → List (S38) → Option ((List (S64)) × Int)
 | 0, _, _, _, _ => none
 | k + 1, x5, x6, x102000, x102001 => if x6 = true then (graph_Components.l1 k x5 false x102001 (x102001.length : Int) 0 x102000 x102001) else (graph_Components.l2 k x5 ([] : List (S64)) x5 (x5.length : Int) 0 x102000 x102001)
def graph_Components.l1 : Nat → List Int → Bool → List (S38) → Int → Int → List Int → List (S38) → Option ((List (S64)) × Int)
 | 0, _, _, _, _, _, _, _ => none
 | k + 1, x5, x6, x29, x30, x31, x102000, x102001 => if x31 < x30 then (if 0 ≤ x31 then (if x31 < (x29.length : Int) then (if 0 ≤ ((rd_T38 x29 x31).f1) then (if ((rd_T38 x29 x31).f1) < (x5.length : Int) then (if 0 ≤ ((rd_T38 x29 x31).f2) then (if ((rd_T38 x29 x31).f2) < (x5.length : Int) then (if (rd x5 ((rd_T38 x29 x31).f1)) = (mn (rd x5 ((rd_T38 x29 x31).f1)) (rd x5 ((rd_T38 x29 x31).f2))) then (graph_Components.j2 k x5 x6 (mn (rd x5 ((rd_T38 x29 x31).f1)) (rd x5 ((rd_T38 x29 x31).f2))) x29 x30 x31 ((rd x5 ((rd_T38 x29 x31).f2)) != (mn (rd x5 ((rd_T38 x29 x31).f1)) (rd x5 ((rd_T38 x29 x31).f2)))) x102000 x102001 ((rd_T38 x29 x31).f0) ((rd_T38 x29 x31).f1) ((rd_T38 x29 x31).f2)) else (graph_Components.j2 k x5 x6 (mn (rd x5 ((rd_T38 x29 x31).f1)) (rd x5 ((rd_T38 x29 x31).f2))) x29 x30 x31 true x102000 x102001 ((rd_T38 x29 x31).f0) ((rd_T38 x29 x31).f1) ((rd_T38 x29 x31).f2))) else (none)) else (none)) else (none)) else (none)) else (none)) else (none)) else (graph_Components.l0 k x5 x6 x102000 x102001)
def graph_Components.j2 : Nat → List Int → Bool → Int → List (S38) → Int → Int → Bool → List Int → List (S38) → Int → Int → Int → Option ((List (S64)) × Int)
 | 0, _, _, _, _, _, _, _, _, _, _, _, _ => none
 | k + 1, x5, x6, x9, x29, x30, x31, x61, x102000, x102001, x108000, x108001, x108002 => if x61 = true then (if 0 ≤ x108001 then (if x108001 < (x5.length : Int) then (if 0 ≤ x108002 then (if x108002 < (x5.length : Int) then (graph_Components.l1 k ((x5.set (x108001 : Int).toNat x9).set (x108002 : Int).toNat x9) true x29 x30 (wrap64 (x31 + 1)) x102000 x102001) else (none)) else (none)) else (none)) else (none)) else (graph_Components.l1 k x5 x6 x29 x30 (wrap64 (x31 + 1)) x102000 x102001)
def graph_Components.l2 : Nat → List Int → List (S64) → List Int → Int → Int → List Int → List (S38) → Option ((List (S64)) × Int)
 | 0, _, _, _, _, _, _, _ => none
 | k + 1, x5, x10, x73, x74, x75, x102000, x102001 => if x75 < x74 then (if 0 ≤ x75 then (if x75 < (x73.length : Int) then (if x75 = (rd x73 x75) then (graph_Components.l3 k x5 x10 x75 x73 x74 x75 x5 (x5.length : Int) 0 x102000 x102001 ([] : List Int)) else (graph_Components.l2 k x5 x10 x73 x74 (wrap64 (x75 + 1)) x102000 x102001)) else (none)) else (none)) else (some (x10, 0))
def graph_Components.l3 : Nat → List Int → List (S64) → Int → List Int → Int → Int → List Int → Int → Int → List Int → List (S38) → List Int → Option ((List (S64)) × Int)
 | 0, _, _, _, _, _, _, _, _, _, _, _, _ => none
 | k + 1, x5, x10, x11, x73, x74, x75, x83, x84, x85, x102000, x102001, x116000 => if x85 < x84 then (if 0 ≤ x85 then (if x85 < (x83.length : Int) then (if (rd x83 x85) = x11 then (if x116000.length < 17592186044416 then (graph_Components.l3 k x5 x10 x11 x73 x74 x75 x83 x84 (wrap64 (x85 + 1)) x102000 x102001 (x116000 ++ [x85])) else (none)) else (graph_Components.l3 k x5 x10 x11 x73 x74 x75 x83 x84 (wrap64 (x85 + 1)) x102000 x102001 x116000)) else (none)) else (none)) else (graph_Components.l4 k x5 x10 x11 x73 x74 x75 x102001 (x102001.length : Int) 0 x102000 x102001 x116000 ([] : List Int))
def graph_Components.l4 : Nat → List Int → List (S64) → Int → List Int → Int → Int → List (S38) → Int → Int → List Int → List (S38) → List Int → List Int → Option ((List (S64)) × Int)
 | 0, _, _, _, _, _, _, _, _, _, _, _, _, _ => none
 | k + 1, x5, x10, x11, x73, x74, x75, x101, x102, x103, x102000, x102001, x116000, x116001 => if x103 < x102 then (if 0 ≤ x103 then (if x103 < (x101.length : Int) then (if 0 ≤ ((rd_T38 x101 x103).f1) then (if ((rd_T38 x101 x103).f1) < (x5.length : Int) then (if (rd x5 ((rd_T38 x101 x103).f1)) = x11 then (if x116001.length < 17592186044416 then (graph_Components.l4 k x5 x10 x11 x73 x74 x75 x101 x102 (wrap64 (x103 + 1)) x102000 x102001 x116000 (x116001 ++ [x103])) else (none)) else (graph_Components.l4 k x5 x10 x11 x73 x74 x75 x101 x102 (wrap64 (x103 + 1)) x102000 x102001 x116000 x116001)) else (none)) else (none)) else (none)) else (none)) else (if x10.length < 2932031007402 then (graph_Components.l2 k x5 (x10 ++ [(⟨x116000, x116001⟩ : S64)]) x73 x74 (wrap64 (x75 + 1)) x102000 x102001) else (none))
end
def graph_Components.f (k : Nat) (l0_0 : List Int) (l0_1 : List (S38)) : Option ((List (S64)) × Int) := (graph_Valid.f l0_0 l0_1).bind fun t102 => (if t102 = 0 then ((graph_numbers.f k 0 (l0_0.length : Int)).bind fun t103 => (graph_Components.l0 k t103 true l0_0 l0_1)) else (some (([] : List (S64)), t102)))
theorem graph_Components.mono_l : ∀ k, (∀ y0 y1 y2 y3, LeO (graph_Components.l0 k y0 y1 y2 y3) (graph_Components.l0 (k + 1) y0 y1 y2 y3)) ∧ (∀ y0 y1 y2 y3 y4 y5 y6, LeO (graph_Components.l1 k y0 y1 y2 y3 y4 y5 y6) (graph_Components.l1 (k + 1) y0 y1 y2 y3 y4 y5 y6)) ∧ (∀ y0 y1 y2 y3 y4 y5 y6 y7 y8 y9 y10 y11, LeO (graph_Components.j2 k y0 y1 y2 y3 y4 y5 y6 y7 y8 y9 y10 y11) (graph_Components.j2 (k + 1) y0 y1 y2 y3 y4 y5 y6 y7 y8 y9 y10 y11)) ∧ (∀ y0 y1 y2 y3 y4 y5 y6, LeO (graph_Components.l2 k y0 y1 y2 y3 y4 y5 y6) (graph_Components.l2 (k + 1) y0 y1 y2 y3 y4 y5 y6)) ∧ (∀ y0 y1 y2 y3 y4 y5 y6 y7 y8 y9 y10 y11, LeO (graph_Components.l3 k y0 y1 y2 y3 y4 y5 y6 y7 y8 y9 y10 y11) (graph_Components.l3 (k + 1) y0 y1 y2 y3 y4 y5 y6 y7 y8 y9 y10 y11)) ∧ (∀ y0 y1 y2 y3 y4 y5 y6 y7 y8 y9 y10 y11 y12, LeO (graph_Components.l4 k y0 y1 y2 y3 y4 y5 y6 y7 y8 y9 y10 y11 y12) (graph_Components.l4 (k + 1) y0 y1 y2 y3 y4 y5 y6 y7 y8 y9 y10 y11 y12))
 | 0 => ⟨fun _ _ _ _ r h => by simp [graph_Components.l0] at h, fun _ _ _ _ _ _ _ r h => by simp [graph_Components.l1] at h, fun _ _ _ _ _ _ _ _ _ _ _ _ r h => by simp [graph_Components.j2] at h, fun _ _ _ _ _ _ _ r h => by simp [graph_Components.l2] at h, fun _ _ _ _ _ _ _ _ _ _ _ _ r h => by simp [graph_Components.l3] at h, fun _ _ _ _ _ _ _ _ _ _ _ _ _ r h => by simp [graph_Components.l4] at h⟩
 | k + 1 => by
  obtain ⟨ih0, ih1, ih2, ih3, ih4, ih5⟩ := graph_Components.mono_l k
  refine ⟨?_, ?_, ?_, ?_, ?_, ?_⟩
  ·intro y0 y1 y2 y3
   unfold graph_Components.l0
   repeat' first
   | (with_reducible exact ih0 _ _ _ _)
   | (with_reducible exact ih1 _ _ _ _ _ _ _)
   | (with_reducible exact ih2 _ _ _ _ _ _ _ _ _ _ _ _)
   | (with_reducible exact ih3 _ _ _ _ _ _ _)
   | (with_reducible exact ih4 _ _ _ _ _ _ _ _ _ _ _ _)
   | (with_reducible exact ih5 _ _ _ _ _ _ _ _ _ _ _ _ _)
   | (with_reducible exact graph_numbers.mono _ _ _)
   | (with_reducible exact LeO.refl _)
   | (with_reducible exact LeO.none _)
   | (with_reducible refine LeO.ite ?_ ?_)
   | (with_reducible refine LeO.bind ?_ (fun _ => ?_))
   | exact ih0 _ _ _ _
   | exact ih1 _ _ _ _ _ _ _
   | exact ih2 _ _ _ _ _ _ _ _ _ _ _ _
   | exact ih3 _ _ _ _ _ _ _
   | exact ih4 _ _ _ _ _ _ _ _ _ _ _ _
   | exact ih5 _ _ _ _ _ _ _ _ _ _ _ _ _
   | exact graph_numbers.mono _ _ _
   | exact LeO.none _
   | refine LeO.ite ?_ ?_
   | refine LeO.bind ?_ (fun _ => ?_)
  ·intro y0 y1 y2 y3 y4 y5 y6
   unfold graph_Components.l1
   repeat' first
   | (with_reducible exact ih0 _ _ _ _)
   | (with_reducible exact ih1 _ _ _ _ _ _ _)
   | (with_reducible exact ih2 _ _ _ _ _ _ _ _ _ _ _ _)
   | (with_reducible exact ih3 _ _ _ _ _ _ _)
   | (with_reducible exact ih4 _ _ _ _ _ _ _ _ _ _ _ _)
   | (with_reducible exact ih5 _ _ _ _ _ _ _ _ _ _ _ _ _)
   | (with_reducible exact graph_numbers.mono _ _ _)
   | (with_reducible exact LeO.refl _)
   | (with_reducible exact LeO.none _)
   | (with_reducible refine LeO.ite ?_ ?_)
   | (with_reducible refine LeO.bind ?_ (fun _ => ?_))
   | exact ih0 _ _ _ _
   | exact ih1 _ _ _ _ _ _ _
   | exact ih2 _ _ _ _ _ _ _ _ _ _ _ _
   | exact ih3 _ _ _ _ _ _ _
   | exact ih4 _ _ _ _ _ _ _ _ _ _ _ _
   | exact ih5 _ _ _ _ _ _ _ _ _ _ _ _ _
   | exact graph_numbers.mono _ _ _
   | exact LeO.none _
   | refine LeO.ite ?_ ?_
   | refine LeO.bind ?_ (fun _ => ?_)
  ·intro y0 y1 y2 y3 y4 y5 y6 y7 y8 y9 y10 y11
   unfold graph_Components.j2
   repeat' first
   | (with_reducible exact ih0 _ _ _ _)
   | (with_reducible exact ih1 _ _ _ _ _ _ _)
   | (with_reducible exact ih2 _ _ _ _ _ _ _ _ _ _ _ _)
   | (with_reducible exact ih3 _ _ _ _ _ _ _)
   | (with_reducible exact ih4 _ _ _ _ _ _ _ _ _ _ _ _)
   | (with_reducible exact ih5 _ _ _ _ _ _ _ _ _ _ _ _ _)
   | (with_reducible exact graph_numbers.mono _ _ _)
   | (with_reducible exact LeO.refl _)
   | (with_reducible exact LeO.none _)
   | (with_reducible refine LeO.ite ?_ ?_)
   | (with_reducible refine LeO.bind ?_ (fun _ => ?_))
   | exact ih0 _ _ _ _
   | exact ih1 _ _ _ _ _ _ _
   | exact ih2 _ _ _ _ _ _ _ _ _ _ _ _
   | exact ih3 _ _ _ _ _ _ _
   | exact ih4 _ _ _ _ _ _ _ _ _ _ _ _
   | exact ih5 _ _ _ _ _ _ _ _ _ _ _ _ _
   | exact graph_numbers.mono _ _ _
   | exact LeO.none _
   | refine LeO.ite ?_ ?_
   | refine LeO.bind ?_ (fun _ => ?_)
  ·intro y0 y1 y2 y3 y4 y5 y6
   unfold graph_Components.l2
   repeat' first
   | (with_reducible exact ih0 _ _ _ _)
   | (with_reducible exact ih1 _ _ _ _ _ _ _)
   | (with_reducible exact ih2 _ _ _ _ _ _ _ _ _ _ _ _)
   | (with_reducible exact ih3 _ _ _ _ _ _ _)
   | (with_reducible exact ih4 _ _ _ _ _ _ _ _ _ _ _ _)
   | (with_reducible exact ih5 _ _ _ _ _ _ _ _ _ _ _ _ _)
   | (with_reducible exact graph_numbers.mono _ _ _)
   | (with_reducible exact LeO.refl _)
   | (with_reducible exact LeO.none _)
   | (with_reducible refine LeO.ite ?_ ?_)
   | (with_reducible refine LeO.bind ?_ (fun _ => ?_))
   | exact ih0 _ _ _ _
   | exact ih1 _ _ _ _ _ _ _
   | exact ih2 _ _ _ _ _ _ _ _ _ _ _ _
   | exact ih3 _ _ _ _ _ _ _
   | exact ih4 _ _ _ _ _ _ _ _ _ _ _ _
   | exact ih5 _ _ _ _ _ _ _ _ _ _ _ _ _
   | exact graph_numbers.mono _ _ _
   | exact LeO.none _
   | refine LeO.ite ?_ ?_
   | refine LeO.bind ?_ (fun _ => ?_)
  ·intro y0 y1 y2 y3 y4 y5 y6 y7 y8 y9 y10 y11
   unfold graph_Components.l3
   repeat' first
   | (with_reducible exact ih0 _ _ _ _)
   | (with_reducible exact ih1 _ _ _ _ _ _ _)
   | (with_reducible exact ih2 _ _ _ _ _ _ _ _ _ _ _ _)
   | (with_reducible exact ih3 _ _ _ _ _ _ _)
   | (with_reducible exact ih4 _ _ _ _ _ _ _ _ _ _ _ _)
   | (with_reducible exact ih5 _ _ _ _ _ _ _ _ _ _ _ _ _)
   | (with_reducible exact graph_numbers.mono _ _ _)
   | (with_reducible exact LeO.refl _)
   | (with_reducible exact LeO.none _)
   | (with_reducible refine LeO.ite ?_ ?_)
   | (with_reducible refine LeO.bind ?_ (fun _ => ?_))
   | exact ih0 _ _ _ _
   | exact ih1 _ _ _ _ _ _ _
   | exact ih2 _ _ _ _ _ _ _ _ _ _ _ _
   | exact ih3 _ _ _ _ _ _ _
   | exact ih4 _ _ _ _ _ _ _ _ _ _ _ _
   | exact ih5 _ _ _ _ _ _ _ _ _ _ _ _ _
   | exact graph_numbers.mono _ _ _
   | exact LeO.none _
   | refine LeO.ite ?_ ?_
   | refine LeO.bind ?_ (fun _ => ?_)
  ·intro y0 y1 y2 y3 y4 y5 y6 y7 y8 y9 y10 y11 y12
   unfold graph_Components.l4
   repeat' first
   | (with_reducible exact ih0 _ _ _ _)
   | (with_reducible exact ih1 _ _ _ _ _ _ _)
   | (with_reducible exact ih2 _ _ _ _ _ _ _ _ _ _ _ _)
   | (with_reducible exact ih3 _ _ _ _ _ _ _)
   | (with_reducible exact ih4 _ _ _ _ _ _ _ _ _ _ _ _)
   | (with_reducible exact ih5 _ _ _ _ _ _ _ _ _ _ _ _ _)
   | (with_reducible exact graph_numbers.mono _ _ _)
   | (with_reducible exact LeO.refl _)
   | (with_reducible exact LeO.none _)
   | (with_reducible refine LeO.ite ?_ ?_)
   | (with_reducible refine LeO.bind ?_ (fun _ => ?_))
   | exact ih0 _ _ _ _
   | exact ih1 _ _ _ _ _ _ _
   | exact ih2 _ _ _ _ _ _ _ _ _ _ _ _
   | exact ih3 _ _ _ _ _ _ _
   | exact ih4 _ _ _ _ _ _ _ _ _ _ _ _
   | exact ih5 _ _ _ _ _ _ _ _ _ _ _ _ _
   | exact graph_numbers.mono _ _ _
   | exact LeO.none _
   | refine LeO.ite ?_ ?_
   | refine LeO.bind ?_ (fun _ => ?_)
theorem graph_Components.mono : ∀ a0 a1 k, LeO (graph_Components.f k a0 a1) (graph_Components.f (k + 1) a0 a1) := by
 intro a0 a1 k
 obtain ⟨ih0, ih1, ih2, ih3, ih4, ih5⟩ := graph_Components.mono_l k
 unfold graph_Components.f
 repeat' first
   | (with_reducible exact ih0 _ _ _ _)
   | (with_reducible exact ih1 _ _ _ _ _ _ _)
   | (with_reducible exact ih2 _ _ _ _ _ _ _ _ _ _ _ _)
   | (with_reducible exact ih3 _ _ _ _ _ _ _)
   | (with_reducible exact ih4 _ _ _ _ _ _ _ _ _ _ _ _)
   | (with_reducible exact ih5 _ _ _ _ _ _ _ _ _ _ _ _ _)
   | (with_reducible exact graph_numbers.mono _ _ _)
   | (with_reducible exact LeO.refl _)
   | (with_reducible exact LeO.none _)
   | (with_reducible refine LeO.ite ?_ ?_)
   | (with_reducible refine LeO.bind ?_ (fun _ => ?_))
   | exact ih0 _ _ _ _
   | exact ih1 _ _ _ _ _ _ _
   | exact ih2 _ _ _ _ _ _ _ _ _ _ _ _
   | exact ih3 _ _ _ _ _ _ _
   | exact ih4 _ _ _ _ _ _ _ _ _ _ _ _
   | exact ih5 _ _ _ _ _ _ _ _ _ _ _ _ _
   | exact graph_numbers.mono _ _ _
   | exact LeO.none _
   | refine LeO.ite ?_ ?_
   | refine LeO.bind ?_ (fun _ => ?_)
set_option maxHeartbeats 8000000 in
set_option maxRecDepth 100000 in
theorem graph_Components.calls (k : Nat) (A0_0 : Option Addr) (c0_0 : Nat) (l0_0 : List Int) (A0_1 : Option Addr) (c0_1 : Nat) (l0_1 : List (S38)) (r1 : List (S64)) (r2 : Int) (w : World) (hr0_0 : Kd.C (Kd.int .i64) w A0_0 l0_0.length l0_0) (hc0_0 : l0_0.length ≤ c0_0) (hr0_1 : Kd.C k38 w A0_1 l0_1.length l0_1) (hc0_1 : l0_1.length ≤ c0_1) (h : graph_Components.f k l0_0 l0_1 = some (r1, r2)) :
  Calls Try.prog 20 #[.agg #[.slice A0_0 l0_0.length c0_0, .slice A0_1 l0_1.length c0_1]] w fun e w' => ∃ v0_ : Value, e = .returned (.tuple #[v0_, .int .i64 r2]) ∧ Kd.S k64 64 w' w.heap.size (fun _ => True) v0_ r1 ∧ Below w.heap.size w w' := by
 have hu25 := Try.underlying25
 have hu38 := Try.underlying38
 have hu64 := Try.underlying64
 have HR0_0 := Aside0.mk hr0_0
 have HC0_0 := Aside0.mk hc0_0
 clear hr0_0 hc0_0
 have HR0_1 := Aside0.mk hr0_1
 have HC0_1 := Aside0.mk hc0_1
 clear hr0_1 hc0_1
 have HB := Aside0.mk (Below.refl w.heap.size w)
 have H : ((graph_Valid.f l0_0 l0_1).bind fun t102 => (if t102 = 0 then ((graph_numbers.f k 0 (l0_0.length : Int)).bind fun t103 => (graph_Components.l0 k t103 true l0_0 l0_1)) else (some (([] : List (S64)), t102)))) = some (r1, r2) := h
 clear h
 replace H := Option.bind_eq_some_iff.mp H
 obtain ⟨t102, A20, H⟩ := H
 replace H : (if t102 = 0 then ((graph_numbers.f k 0 (l0_0.length : Int)).bind fun t103 => (graph_Components.l0 k t103 true l0_0 l0_1)) else (some (([] : List (S64)), t102))) = some (r1, r2) := H
 have A2 := Aside0.mk A20
 clear A20
 by_cases c3 : t102 = 0
 ·rw [if_pos c3] at H
  have c3b0 : (t102 == 0) = true := beq_iff_eq.mpr c3
  have c3b1 : (t102 != 0) = false := bne_eq_false_iff_eq.mpr c3
  clear c3
  replace H := Option.bind_eq_some_iff.mp H
  obtain ⟨t103, A40, H⟩ := H
  replace H : (graph_Components.l0 k t103 true l0_0 l0_1) = some (r1, r2) := H
  have A4 := Aside0.mk A40
  clear A40
  have H' := Aside0.mk H
  clear H
  go_enter Try.func20, Try.ntmps20
  iterate 3 (try (go_wp2_with (first | ((with_reducible refine gate_dst (N := 1) rfl ?_); refine box_event ?hg (N := 1) ?hd (cs := #[.slice A0_0 l0_0.length c0_0, .slice A0_1 l0_1.length c0_1]) (t := 25) ?hr ?_; (case hd => rfl); (case hg => rfl); (case hr => first | (go_simp; done) | (go_simp; rfl)); intro gb101 hg w5 hbox hb; have n0_ := Aside0.mk (wS hB hb); have n1_ := Aside0.mk (hbox); have n2_ := Aside0.mk ((by rw [hg]; exact (below_size hB) : w.heap.size ≤ gb101)); have n3_ := Aside0.mk ((by rw [hg]; exact (below_size hB) : w.heap.size ≤ gb101)); clear HB; have HB := n0_; have BK101 := n1_; have GW101 := n2_; have GE101 := n3_; clear n0_ n1_ n2_ n3_; clear hb hbox hg; have hcz6_0 : w5.cell? ⟨gb101, 0, none⟩ = some (.slice A0_0 l0_0.length c0_0) := (blk_cell BK101.out 0).trans rfl; have hcz6_1 : w5.cell? ⟨gb101, 1, none⟩ = some (.slice A0_1 l0_1.length c0_1) := (blk_cell BK101.out 1).trans rfl; have hfz6_0 := blk_frozen BK101.out 0; have hfz6_1 := blk_frozen BK101.out 1) | (go_at_call 26; (with_reducible refine (graph_Valid.calls _ _ l0_0 _ _ l0_1 t102 _ ?side1 ?side2 ?side3 ?side4 A2.out).mono ?_); (case side1 => repeat (first | exact (cB HR0_0.out HB.out) | (with_reducible refine cA ?_ _) | (with_reducible refine cN ?_ _) | (with_reducible refine cD ?_))); (case side2 => exact HC0_0.out); (case side3 => repeat (first | exact (cB HR0_1.out HB.out) | (with_reducible refine cA ?_ _) | (with_reducible refine cN ?_ _) | (with_reducible refine cD ?_))); (case side4 => exact HC0_1.out); rintro e w7 ⟨rfl, hb⟩; have n0_ := Aside0.mk (bB (g := gb101) (o := .cells #[.slice A0_0 l0_0.length c0_0, .slice A0_1 l0_1.length c0_1] 25 (0, 0)) (by (with_reducible repeat (first | refine bN ?_ _ | refine bD ?_ | refine bA ?_ _)); exact BK101.out) hb); have n1_ := Aside0.mk (wS (by repeat (first | (with_reducible first | exact HB.out | apply wA | apply wN | apply wD | refine below_set ?_ GE101.out) | exact HB.out)) hb); clear BK101; clear HB; have BK101 := n0_; have HB := n1_; clear n0_ n1_; (try clear hb); (try clear hb2); (try clear hk); (try clear hi); have hcz8_0 : w7.cell? ⟨gb101, 0, none⟩ = some (.slice A0_0 l0_0.length c0_0) := (blk_cell BK101.out 0).trans rfl; have hcz8_1 : w7.cell? ⟨gb101, 1, none⟩ = some (.slice A0_1 l0_1.length c0_1) := (blk_cell BK101.out 1).trans rfl; have hfz8_0 := blk_frozen BK101.out 0; have hfz8_1 := blk_frozen BK101.out 1) | (go_at_call 45; (with_reducible refine (graph_numbers.calls k 0 (l0_0.length : Int) t103 _ A4.out).mono ?_); rintro e w9 ⟨v104, rfl, ho0, hb⟩; have n0_ := Aside0.mk (Kd.R_lower ho0 (below_size (by repeat (first | (with_reducible first | exact HB.out | apply wA | apply wN | apply wD | refine below_set ?_ GE101.out) | exact HB.out)))); have n1_ := Aside0.mk (bB (g := gb101) (o := .cells #[.slice A0_0 l0_0.length c0_0, .slice A0_1 l0_1.length c0_1] 25 (0, 0)) (by (with_reducible repeat (first | refine bN ?_ _ | refine bD ?_ | refine bA ?_ _)); exact BK101.out) hb); have n2_ := Aside0.mk (wS (by repeat (first | (with_reducible first | exact HB.out | apply wA | apply wN | apply wD | refine below_set ?_ GE101.out) | exact HB.out)) hb); clear BK101; clear HB; have HO105 := n0_; have BK101 := n1_; have HB := n2_; clear n0_ n1_ n2_; (try clear hb); (try clear hb2); (try clear hk); (try clear hi); (try clear ho0)))); try (go_quiet (fail)))
  go_loopg [6] k (fun kq v6 w' => ∃ (x5_1 : List Int) (x6_1 : Bool), v6 = .bool x6_1 ∧ Aside0 (graph_Components.l0 kq x5_1 x6_1 l0_0 l0_1 = some (r1, r2)) ∧ Aside0 (kq ≤ k) ∧ Aside0 (Kd.R (Kd.int .i64) 3 w' w.heap.size (fun _ => True) v104 x5_1) ∧ Aside0 (w'.heap[gb101]? = some (.cells #[(.slice A0_0 l0_0.length c0_0), (.slice A0_1 l0_1.length c0_1)] 25 (0, 0))) ∧ Aside0 (Below w.heap.size w w'))
  case atStart => exact ⟨(t103), (true), rS, H', ⟨Nat.le_refl _⟩, ⟨by (with_reducible repeat (first | apply rA | apply rN | apply rD)); exact HO105.out⟩, ⟨by (with_reducible repeat (first | refine bN ?_ _ | refine bD ?_ | refine bA ?_ _)); exact BK101.out⟩, ⟨by repeat (first | (with_reducible first | exact HB.out | apply wA | apply wN | apply wD | refine below_set ?_ GE101.out) | exact HB.out)⟩⟩
  case round =>
   clear H'
   try clear c2
   try clear p2
   try clear c3
   try clear c3b0
   try clear c3b1
   try clear hcz6_0
   try clear hcz6_1
   try clear hcz8_0
   try clear hcz8_1
   try clear hfz6_0
   try clear hfz6_1
   try clear hfz8_0
   try clear hfz8_1
   obtain ⟨x5_1, x6_1, rfl, HA, HK1, HO_5, BK101, HB⟩ := hrel
   cases gk with
   | zero => exact absurd HA.out (by simp [graph_Components.l0])
   | succ k1 =>
    have H := HA.out
    clear HA
    simp only [graph_Components.l0] at H
    by_cases c10 : x6_1 = true
    ·subst c10
     have H1 : (graph_Components.l1 k1 x5_1 false l0_1 (l0_1.length : Int) 0 l0_0 l0_1) = some (r1, r2) := by rw [if_pos rfl] at H; exact H
     clear H
     have H := H1
     clear H1
     have H' := Aside0.mk H
     clear H
     have hcz11_0 : wr.cell? ⟨gb101, 0, none⟩ = some (.slice A0_0 l0_0.length c0_0) := (blk_cell BK101.out 0).trans rfl
     have hcz11_1 : wr.cell? ⟨gb101, 1, none⟩ = some (.slice A0_1 l0_1.length c0_1) := (blk_cell BK101.out 1).trans rfl
     have hfz11_0 := blk_frozen BK101.out 0
     have hfz11_1 := blk_frozen BK101.out 1
     go_wp2
     repeat (go_quiet (fail); try go_wp2)
     go_loopg [6, 31] k1 (fun kq v6 v31 w' => ∃ (x5_2 : List Int) (x6_2 : Bool) (x31_2 : Int), v6 = .bool x6_2 ∧ v31 = .int .i64 x31_2 ∧ Aside0 (graph_Components.l1 kq x5_2 x6_2 l0_1 (l0_1.length : Int) x31_2 l0_0 l0_1 = some (r1, r2)) ∧ Aside0 (kq ≤ k1) ∧ Aside0 (Kd.R (Kd.int .i64) 3 w' w.heap.size (fun _ => True) v104 x5_2) ∧ Aside0 (w'.heap[gb101]? = some (.cells #[(.slice A0_0 l0_0.length c0_0), (.slice A0_1 l0_1.length c0_1)] 25 (0, 0))) ∧ Aside0 (Below w.heap.size w w'))
     case atStart => exact ⟨(x5_1), (false), (0), rS, rS, H', ⟨Nat.le_refl _⟩, ⟨by (with_reducible repeat (first | apply rA | apply rN | apply rD)); exact HO_5.out⟩, ⟨by (with_reducible repeat (first | refine bN ?_ _ | refine bD ?_ | refine bA ?_ _)); exact BK101.out⟩, ⟨by repeat (first | (with_reducible first | exact HB.out | apply wA | apply wN | apply wD | refine below_set ?_ GE101.out) | exact HB.out)⟩⟩
     case round =>
      clear H'
      try clear c1
      try clear c2
      try clear p2
      try clear c3
      try clear c3b0
      try clear c3b1
      try clear c10
      try clear hcz11_0
      try clear hcz11_1
      try clear hcz6_0
      try clear hcz6_1
      try clear hcz8_0
      try clear hcz8_1
      try clear hfz11_0
      try clear hfz11_1
      try clear hfz6_0
      try clear hfz6_1
      try clear hfz8_0
      try clear hfz8_1
      try clear p2
      obtain ⟨x5_2, x6_2, x31_2, rfl, rfl, HA, HK2, HO_5, BK101, HB⟩ := hrel
      cases gk with
      | zero => exact absurd HA.out (by simp [graph_Components.l1])
      | succ k2 =>
       have H := HA.out
       clear HA
       simp only [graph_Components.l1] at H
       by_cases c12 : x31_2 < (l0_1.length : Int)
       ·rw [if_pos c12] at H
        have c12b0 : decide (x31_2 < (l0_1.length : Int)) = true := decide_eq_true c12
        clear c12
        by_cases c13 : 0 ≤ x31_2
        ·rw [if_pos c13] at H
         have c13b0 : decide (0 ≤ x31_2) = true := decide_eq_true c13
         clear c13
         by_cases c14 : x31_2 < (l0_1.length : Int)
         ·rw [if_pos c14] at H
          have c14b0 : decide (x31_2 < (l0_1.length : Int)) = true := decide_eq_true c14
          clear c14
          by_cases c15 : 0 ≤ ((rd_T38 l0_1 x31_2).f1)
          ·rw [if_pos c15] at H
           have c15b0 : decide (0 ≤ ((rd_T38 l0_1 x31_2).f1)) = true := decide_eq_true c15
           clear c15
           by_cases c16 : ((rd_T38 l0_1 x31_2).f1) < (x5_2.length : Int)
           ·rw [if_pos c16] at H
            have c16b0 : decide (((rd_T38 l0_1 x31_2).f1) < (x5_2.length : Int)) = true := decide_eq_true c16
            clear c16
            by_cases c17 : 0 ≤ ((rd_T38 l0_1 x31_2).f2)
            ·rw [if_pos c17] at H
             have c17b0 : decide (0 ≤ ((rd_T38 l0_1 x31_2).f2)) = true := decide_eq_true c17
             clear c17
             by_cases c18 : ((rd_T38 l0_1 x31_2).f2) < (x5_2.length : Int)
             ·rw [if_pos c18] at H
              have c18b0 : decide (((rd_T38 l0_1 x31_2).f2) < (x5_2.length : Int)) = true := decide_eq_true c18
              clear c18
              obtain ⟨ji19, hji19⟩ : ∃ j_ : Int, (mn (rd x5_2 ((rd_T38 l0_1 x31_2).f1)) (rd x5_2 ((rd_T38 l0_1 x31_2).f2))) = j_ := ⟨_, rfl⟩
              replace H : (if (rd x5_2 ((rd_T38 l0_1 x31_2).f1)) = (ji19) then (graph_Components.j2 k2 x5_2 x6_2 ji19 l0_1 (l0_1.length : Int) x31_2 ((rd x5_2 ((rd_T38 l0_1 x31_2).f2)) != (ji19)) l0_0 l0_1 ((rd_T38 l0_1 x31_2).f0) ((rd_T38 l0_1 x31_2).f1) ((rd_T38 l0_1 x31_2).f2)) else (graph_Components.j2 k2 x5_2 x6_2 ji19 l0_1 (l0_1.length : Int) x31_2 true l0_0 l0_1 ((rd_T38 l0_1 x31_2).f0) ((rd_T38 l0_1 x31_2).f1) ((rd_T38 l0_1 x31_2).f2))) = some (r1, r2) := by first | (rw [hji19] at H; exact H) | (simp only [hji19] at H ⊢; exact H)
              have hji19_ : (if (rd x5_2 ((rd_T38 l0_1 x31_2).f2)) < (rd x5_2 ((rd_T38 l0_1 x31_2).f1)) then (rd x5_2 ((rd_T38 l0_1 x31_2).f2)) else (rd x5_2 ((rd_T38 l0_1 x31_2).f1))) = ji19 := hji19
              have HC20 := Aside0.mk H
              clear H
              have p106 : 0 ≤ (x31_2 : Int) := oT
              have q106 : x31_2 < (l0_1.length : Int) := oT
              obtain ⟨ad106, e106, hx106_0, hx106_1, hx106_2⟩ := at_T38 HR0_1.out x31_2 p106 q106
              cases e106
              replace hx106_0 := (HB.out.cell (World.block_lt_of_cell? w _ hx106_0)).trans hx106_0
              replace hx106_1 := (HB.out.cell (World.block_lt_of_cell? w _ hx106_1)).trans hx106_1
              replace hx106_2 := (HB.out.cell (World.block_lt_of_cell? w _ hx106_2)).trans hx106_2
              replace p106 := eq_true p106
              replace q106 := eq_true q106
              go_upto_region 12 with (first | ((with_reducible refine gate_dst (N := 8) rfl ?_); refine box_event ?hg (N := 8) ?hd (cs := #[.int .i64 0, .int .i64 0, .int .i64 0]) (t := 38) ?hr ?_; (case hd => rfl); (case hg => rfl); (case hr => first | (go_simp; done) | (go_simp; rfl)); intro gb107 hg w21 hbox hb; have n0_ := Aside0.mk (rB (by (with_reducible repeat (first | apply rA | apply rN | apply rD)); exact HO_5.out) hb); have n1_ := Aside0.mk (bB (g := gb101) (o := .cells #[.slice A0_0 l0_0.length c0_0, .slice (some ad106) l0_1.length c0_1] 25 (0, 0)) (by (with_reducible repeat (first | refine bN ?_ _ | refine bD ?_ | refine bA ?_ _)); exact BK101.out) hb); have n2_ := Aside0.mk (wS (by repeat (first | (with_reducible first | exact HB.out | apply wA | apply wN | apply wD | refine below_set ?_ GE101.out) | exact HB.out)) hb); have n3_ := Aside0.mk (hbox); have n4_ := Aside0.mk ((by rw [hg]; exact (below_size (by repeat (first | (with_reducible first | exact HB.out | apply wA | apply wN | apply wD | refine below_set ?_ GE101.out) | exact HB.out))) : w.heap.size ≤ gb107)); have n5_ := Aside0.mk ((by rw [hg]; exact (below_size (by repeat (first | (with_reducible first | exact HB.out | apply wA | apply wN | apply wD | refine below_set ?_ GE101.out) | exact HB.out))) : w.heap.size ≤ gb107)); have n6_ := Aside0.mk ((by rw [hg]; exact Nat.ne_of_lt (blk_lt (g := gb101) (o := .cells #[.slice A0_0 l0_0.length c0_0, .slice (some ad106) l0_1.length c0_1] 25 (0, 0)) (by (with_reducible repeat (first | refine bN ?_ _ | refine bD ?_ | refine bA ?_ _)); exact BK101.out)) : gb101 ≠ gb107)); have n7_ := Aside0.mk ((by rw [hg]; exact Nat.ne_of_gt (blk_lt (g := gb101) (o := .cells #[.slice A0_0 l0_0.length c0_0, .slice (some ad106) l0_1.length c0_1] 25 (0, 0)) (by (with_reducible repeat (first | refine bN ?_ _ | refine bD ?_ | refine bA ?_ _)); exact BK101.out)) : gb107 ≠ gb101)); clear HO_5; clear BK101; clear HB; have HO_5 := n0_; have BK101 := n1_; have HB := n2_; have BK107 := n3_; have GW107 := n4_; have GE107 := n5_; have NB101_107 := n6_; have NB107_101 := n7_; clear n0_ n1_ n2_ n3_ n4_ n5_ n6_ n7_; clear hb hbox hg; have hnb22 := NB107_101.out; have hnc22 := NB101_107.out; have hcz23_0 : w21.cell? ⟨gb107, 0, none⟩ = some (.int .i64 0) := (blk_cell BK107.out 0).trans rfl; have hcz23_1 : w21.cell? ⟨gb107, 1, none⟩ = some (.int .i64 0) := (blk_cell BK107.out 1).trans rfl; have hcz23_2 : w21.cell? ⟨gb107, 2, none⟩ = some (.int .i64 0) := (blk_cell BK107.out 2).trans rfl; have hfz23_0 := blk_frozen BK107.out 0; have hfz23_1 := blk_frozen BK107.out 1; have hfz23_2 := blk_frozen BK107.out 2; obtain ⟨Ao24, co24, eo24⟩ := Kd.R_slice HO_5.out; subst eo24; have p108 : 0 ≤ (((rd_T38 l0_1 x31_2).f1) : Int) := oT; have q108 : ((rd_T38 l0_1 x31_2).f1) < (x5_2.length : Int) := oT; obtain ⟨ad108, e108, hx108_0⟩ := Kd.at_int (Kd.R_reads' HO_5.out).2.2 ((rd_T38 l0_1 x31_2).f1) p108 q108; cases e108; have hn108_0 : ad108.block ≠ gb107 := Kd.own_blk (Kd.R_ne HO_5.out BK107.out (by decide)); have hn108_1 : ad108.block ≠ gb107 := Kd.own_blk (Kd.R_ne HO_5.out BK107.out (by decide)); have hn108_2 : ad108.block ≠ gb107 := Kd.own_blk (Kd.R_ne HO_5.out BK107.out (by decide)); replace hx108_0 := (cell_far (p := ⟨gb107, 0, none⟩) (by first | (rw [add_block]; exact hn108_0) | (show (Addr.add _ _).block ≠ _; rw [add_block]; exact hn108_0) | exact hn108_0) (.int .i64 ((rd_T38 l0_1 x31_2).f0))).trans hx108_0; replace hx108_0 := (cell_far (p := ⟨gb107, 1, none⟩) (by first | (rw [add_block]; exact hn108_1) | (show (Addr.add _ _).block ≠ _; rw [add_block]; exact hn108_1) | exact hn108_1) (.int .i64 ((rd_T38 l0_1 x31_2).f1))).trans hx108_0; replace hx108_0 := (cell_far (p := ⟨gb107, 2, none⟩) (by first | (rw [add_block]; exact hn108_2) | (show (Addr.add _ _).block ≠ _; rw [add_block]; exact hn108_2) | exact hn108_2) (.int .i64 ((rd_T38 l0_1 x31_2).f2))).trans hx108_0; (try have hy108_0 := fun (n_ : Nat) => (show (((((w21.drewN n_).setCell ⟨gb107, 0, none⟩ (.int .i64 ((rd_T38 l0_1 x31_2).f0))).setCell ⟨gb107, 1, none⟩ (.int .i64 ((rd_T38 l0_1 x31_2).f1))).setCell ⟨gb107, 2, none⟩ (.int .i64 ((rd_T38 l0_1 x31_2).f2)))).cell? _ = some _ from hx108_0)); clear hn108_0; clear hn108_1; clear hn108_2; replace p108 := eq_true p108; replace q108 := eq_true q108; have p109 : 0 ≤ (((rd_T38 l0_1 x31_2).f2) : Int) := oT; have q109 : ((rd_T38 l0_1 x31_2).f2) < (x5_2.length : Int) := oT; obtain ⟨ad109, e109, hx109_0⟩ := Kd.at_int (Kd.R_reads' HO_5.out).2.2 ((rd_T38 l0_1 x31_2).f2) p109 q109; obtain rfl : ad108 = ad109 := (by injection e109); have hn109_0 : ad108.block ≠ gb107 := Kd.own_blk (Kd.R_ne HO_5.out BK107.out (by decide)); have hn109_1 : ad108.block ≠ gb107 := Kd.own_blk (Kd.R_ne HO_5.out BK107.out (by decide)); have hn109_2 : ad108.block ≠ gb107 := Kd.own_blk (Kd.R_ne HO_5.out BK107.out (by decide)); replace hx109_0 := (cell_far (p := ⟨gb107, 0, none⟩) (by first | (rw [add_block]; exact hn109_0) | (show (Addr.add _ _).block ≠ _; rw [add_block]; exact hn109_0) | exact hn109_0) (.int .i64 ((rd_T38 l0_1 x31_2).f0))).trans hx109_0; replace hx109_0 := (cell_far (p := ⟨gb107, 1, none⟩) (by first | (rw [add_block]; exact hn109_1) | (show (Addr.add _ _).block ≠ _; rw [add_block]; exact hn109_1) | exact hn109_1) (.int .i64 ((rd_T38 l0_1 x31_2).f1))).trans hx109_0; replace hx109_0 := (cell_far (p := ⟨gb107, 2, none⟩) (by first | (rw [add_block]; exact hn109_2) | (show (Addr.add _ _).block ≠ _; rw [add_block]; exact hn109_2) | exact hn109_2) (.int .i64 ((rd_T38 l0_1 x31_2).f2))).trans hx109_0; (try have hy109_0 := fun (n_ : Nat) => (show (((((w21.drewN n_).setCell ⟨gb107, 0, none⟩ (.int .i64 ((rd_T38 l0_1 x31_2).f0))).setCell ⟨gb107, 1, none⟩ (.int .i64 ((rd_T38 l0_1 x31_2).f1))).setCell ⟨gb107, 2, none⟩ (.int .i64 ((rd_T38 l0_1 x31_2).f2)))).cell? _ = some _ from hx109_0)); clear hn109_0; clear hn109_1; clear hn109_2; replace p109 := eq_true p109; replace q109 := eq_true q109))
              repeat (go_quiet (first | ((with_reducible refine gate_dst (N := 8) rfl ?_); refine box_event ?hg (N := 8) ?hd (cs := #[.int .i64 0, .int .i64 0, .int .i64 0]) (t := 38) ?hr ?_; (case hd => rfl); (case hg => rfl); (case hr => first | (go_simp; done) | (go_simp; rfl)); intro gb107 hg w21 hbox hb; have n0_ := Aside0.mk (rB (by (with_reducible repeat (first | apply rA | apply rN | apply rD)); exact HO_5.out) hb); have n1_ := Aside0.mk (bB (g := gb101) (o := .cells #[.slice A0_0 l0_0.length c0_0, .slice (some ad106) l0_1.length c0_1] 25 (0, 0)) (by (with_reducible repeat (first | refine bN ?_ _ | refine bD ?_ | refine bA ?_ _)); exact BK101.out) hb); have n2_ := Aside0.mk (wS (by repeat (first | (with_reducible first | exact HB.out | apply wA | apply wN | apply wD | refine below_set ?_ GE101.out) | exact HB.out)) hb); have n3_ := Aside0.mk (hbox); have n4_ := Aside0.mk ((by rw [hg]; exact (below_size (by repeat (first | (with_reducible first | exact HB.out | apply wA | apply wN | apply wD | refine below_set ?_ GE101.out) | exact HB.out))) : w.heap.size ≤ gb107)); have n5_ := Aside0.mk ((by rw [hg]; exact (below_size (by repeat (first | (with_reducible first | exact HB.out | apply wA | apply wN | apply wD | refine below_set ?_ GE101.out) | exact HB.out))) : w.heap.size ≤ gb107)); have n6_ := Aside0.mk ((by rw [hg]; exact Nat.ne_of_lt (blk_lt (g := gb101) (o := .cells #[.slice A0_0 l0_0.length c0_0, .slice (some ad106) l0_1.length c0_1] 25 (0, 0)) (by (with_reducible repeat (first | refine bN ?_ _ | refine bD ?_ | refine bA ?_ _)); exact BK101.out)) : gb101 ≠ gb107)); have n7_ := Aside0.mk ((by rw [hg]; exact Nat.ne_of_gt (blk_lt (g := gb101) (o := .cells #[.slice A0_0 l0_0.length c0_0, .slice (some ad106) l0_1.length c0_1] 25 (0, 0)) (by (with_reducible repeat (first | refine bN ?_ _ | refine bD ?_ | refine bA ?_ _)); exact BK101.out)) : gb107 ≠ gb101)); clear HO_5; clear BK101; clear HB; have HO_5 := n0_; have BK101 := n1_; have HB := n2_; have BK107 := n3_; have GW107 := n4_; have GE107 := n5_; have NB101_107 := n6_; have NB107_101 := n7_; clear n0_ n1_ n2_ n3_ n4_ n5_ n6_ n7_; clear hb hbox hg; have hnb22 := NB107_101.out; have hnc22 := NB101_107.out; have hcz23_0 : w21.cell? ⟨gb107, 0, none⟩ = some (.int .i64 0) := (blk_cell BK107.out 0).trans rfl; have hcz23_1 : w21.cell? ⟨gb107, 1, none⟩ = some (.int .i64 0) := (blk_cell BK107.out 1).trans rfl; have hcz23_2 : w21.cell? ⟨gb107, 2, none⟩ = some (.int .i64 0) := (blk_cell BK107.out 2).trans rfl; have hfz23_0 := blk_frozen BK107.out 0; have hfz23_1 := blk_frozen BK107.out 1; have hfz23_2 := blk_frozen BK107.out 2; obtain ⟨Ao24, co24, eo24⟩ := Kd.R_slice HO_5.out; subst eo24; have p108 : 0 ≤ (((rd_T38 l0_1 x31_2).f1) : Int) := oT; have q108 : ((rd_T38 l0_1 x31_2).f1) < (x5_2.length : Int) := oT; obtain ⟨ad108, e108, hx108_0⟩ := Kd.at_int (Kd.R_reads' HO_5.out).2.2 ((rd_T38 l0_1 x31_2).f1) p108 q108; cases e108; have hn108_0 : ad108.block ≠ gb107 := Kd.own_blk (Kd.R_ne HO_5.out BK107.out (by decide)); have hn108_1 : ad108.block ≠ gb107 := Kd.own_blk (Kd.R_ne HO_5.out BK107.out (by decide)); have hn108_2 : ad108.block ≠ gb107 := Kd.own_blk (Kd.R_ne HO_5.out BK107.out (by decide)); replace hx108_0 := (cell_far (p := ⟨gb107, 0, none⟩) (by first | (rw [add_block]; exact hn108_0) | (show (Addr.add _ _).block ≠ _; rw [add_block]; exact hn108_0) | exact hn108_0) (.int .i64 ((rd_T38 l0_1 x31_2).f0))).trans hx108_0; replace hx108_0 := (cell_far (p := ⟨gb107, 1, none⟩) (by first | (rw [add_block]; exact hn108_1) | (show (Addr.add _ _).block ≠ _; rw [add_block]; exact hn108_1) | exact hn108_1) (.int .i64 ((rd_T38 l0_1 x31_2).f1))).trans hx108_0; replace hx108_0 := (cell_far (p := ⟨gb107, 2, none⟩) (by first | (rw [add_block]; exact hn108_2) | (show (Addr.add _ _).block ≠ _; rw [add_block]; exact hn108_2) | exact hn108_2) (.int .i64 ((rd_T38 l0_1 x31_2).f2))).trans hx108_0; (try have hy108_0 := fun (n_ : Nat) => (show (((((w21.drewN n_).setCell ⟨gb107, 0, none⟩ (.int .i64 ((rd_T38 l0_1 x31_2).f0))).setCell ⟨gb107, 1, none⟩ (.int .i64 ((rd_T38 l0_1 x31_2).f1))).setCell ⟨gb107, 2, none⟩ (.int .i64 ((rd_T38 l0_1 x31_2).f2)))).cell? _ = some _ from hx108_0)); clear hn108_0; clear hn108_1; clear hn108_2; replace p108 := eq_true p108; replace q108 := eq_true q108; have p109 : 0 ≤ (((rd_T38 l0_1 x31_2).f2) : Int) := oT; have q109 : ((rd_T38 l0_1 x31_2).f2) < (x5_2.length : Int) := oT; obtain ⟨ad109, e109, hx109_0⟩ := Kd.at_int (Kd.R_reads' HO_5.out).2.2 ((rd_T38 l0_1 x31_2).f2) p109 q109; obtain rfl : ad108 = ad109 := (by injection e109); have hn109_0 : ad108.block ≠ gb107 := Kd.own_blk (Kd.R_ne HO_5.out BK107.out (by decide)); have hn109_1 : ad108.block ≠ gb107 := Kd.own_blk (Kd.R_ne HO_5.out BK107.out (by decide)); have hn109_2 : ad108.block ≠ gb107 := Kd.own_blk (Kd.R_ne HO_5.out BK107.out (by decide)); replace hx109_0 := (cell_far (p := ⟨gb107, 0, none⟩) (by first | (rw [add_block]; exact hn109_0) | (show (Addr.add _ _).block ≠ _; rw [add_block]; exact hn109_0) | exact hn109_0) (.int .i64 ((rd_T38 l0_1 x31_2).f0))).trans hx109_0; replace hx109_0 := (cell_far (p := ⟨gb107, 1, none⟩) (by first | (rw [add_block]; exact hn109_1) | (show (Addr.add _ _).block ≠ _; rw [add_block]; exact hn109_1) | exact hn109_1) (.int .i64 ((rd_T38 l0_1 x31_2).f1))).trans hx109_0; replace hx109_0 := (cell_far (p := ⟨gb107, 2, none⟩) (by first | (rw [add_block]; exact hn109_2) | (show (Addr.add _ _).block ≠ _; rw [add_block]; exact hn109_2) | exact hn109_2) (.int .i64 ((rd_T38 l0_1 x31_2).f2))).trans hx109_0; (try have hy109_0 := fun (n_ : Nat) => (show (((((w21.drewN n_).setCell ⟨gb107, 0, none⟩ (.int .i64 ((rd_T38 l0_1 x31_2).f0))).setCell ⟨gb107, 1, none⟩ (.int .i64 ((rd_T38 l0_1 x31_2).f1))).setCell ⟨gb107, 2, none⟩ (.int .i64 ((rd_T38 l0_1 x31_2).f2)))).cell? _ = some _ from hx109_0)); clear hn109_0; clear hn109_1; clear hn109_2; replace p109 := eq_true p109; replace q109 := eq_true q109)); go_upto_region 12 with (first | ((with_reducible refine gate_dst (N := 8) rfl ?_); refine box_event ?hg (N := 8) ?hd (cs := #[.int .i64 0, .int .i64 0, .int .i64 0]) (t := 38) ?hr ?_; (case hd => rfl); (case hg => rfl); (case hr => first | (go_simp; done) | (go_simp; rfl)); intro gb107 hg w21 hbox hb; have n0_ := Aside0.mk (rB (by (with_reducible repeat (first | apply rA | apply rN | apply rD)); exact HO_5.out) hb); have n1_ := Aside0.mk (bB (g := gb101) (o := .cells #[.slice A0_0 l0_0.length c0_0, .slice (some ad106) l0_1.length c0_1] 25 (0, 0)) (by (with_reducible repeat (first | refine bN ?_ _ | refine bD ?_ | refine bA ?_ _)); exact BK101.out) hb); have n2_ := Aside0.mk (wS (by repeat (first | (with_reducible first | exact HB.out | apply wA | apply wN | apply wD | refine below_set ?_ GE101.out) | exact HB.out)) hb); have n3_ := Aside0.mk (hbox); have n4_ := Aside0.mk ((by rw [hg]; exact (below_size (by repeat (first | (with_reducible first | exact HB.out | apply wA | apply wN | apply wD | refine below_set ?_ GE101.out) | exact HB.out))) : w.heap.size ≤ gb107)); have n5_ := Aside0.mk ((by rw [hg]; exact (below_size (by repeat (first | (with_reducible first | exact HB.out | apply wA | apply wN | apply wD | refine below_set ?_ GE101.out) | exact HB.out))) : w.heap.size ≤ gb107)); have n6_ := Aside0.mk ((by rw [hg]; exact Nat.ne_of_lt (blk_lt (g := gb101) (o := .cells #[.slice A0_0 l0_0.length c0_0, .slice (some ad106) l0_1.length c0_1] 25 (0, 0)) (by (with_reducible repeat (first | refine bN ?_ _ | refine bD ?_ | refine bA ?_ _)); exact BK101.out)) : gb101 ≠ gb107)); have n7_ := Aside0.mk ((by rw [hg]; exact Nat.ne_of_gt (blk_lt (g := gb101) (o := .cells #[.slice A0_0 l0_0.length c0_0, .slice (some ad106) l0_1.length c0_1] 25 (0, 0)) (by (with_reducible repeat (first | refine bN ?_ _ | refine bD ?_ | refine bA ?_ _)); exact BK101.out)) : gb107 ≠ gb101)); clear HO_5; clear BK101; clear HB; have HO_5 := n0_; have BK101 := n1_; have HB := n2_; have BK107 := n3_; have GW107 := n4_; have GE107 := n5_; have NB101_107 := n6_; have NB107_101 := n7_; clear n0_ n1_ n2_ n3_ n4_ n5_ n6_ n7_; clear hb hbox hg; have hnb22 := NB107_101.out; have hnc22 := NB101_107.out; have hcz23_0 : w21.cell? ⟨gb107, 0, none⟩ = some (.int .i64 0) := (blk_cell BK107.out 0).trans rfl; have hcz23_1 : w21.cell? ⟨gb107, 1, none⟩ = some (.int .i64 0) := (blk_cell BK107.out 1).trans rfl; have hcz23_2 : w21.cell? ⟨gb107, 2, none⟩ = some (.int .i64 0) := (blk_cell BK107.out 2).trans rfl; have hfz23_0 := blk_frozen BK107.out 0; have hfz23_1 := blk_frozen BK107.out 1; have hfz23_2 := blk_frozen BK107.out 2; obtain ⟨Ao24, co24, eo24⟩ := Kd.R_slice HO_5.out; subst eo24; have p108 : 0 ≤ (((rd_T38 l0_1 x31_2).f1) : Int) := oT; have q108 : ((rd_T38 l0_1 x31_2).f1) < (x5_2.length : Int) := oT; obtain ⟨ad108, e108, hx108_0⟩ := Kd.at_int (Kd.R_reads' HO_5.out).2.2 ((rd_T38 l0_1 x31_2).f1) p108 q108; cases e108; have hn108_0 : ad108.block ≠ gb107 := Kd.own_blk (Kd.R_ne HO_5.out BK107.out (by decide)); have hn108_1 : ad108.block ≠ gb107 := Kd.own_blk (Kd.R_ne HO_5.out BK107.out (by decide)); have hn108_2 : ad108.block ≠ gb107 := Kd.own_blk (Kd.R_ne HO_5.out BK107.out (by decide)); replace hx108_0 := (cell_far (p := ⟨gb107, 0, none⟩) (by first | (rw [add_block]; exact hn108_0) | (show (Addr.add _ _).block ≠ _; rw [add_block]; exact hn108_0) | exact hn108_0) (.int .i64 ((rd_T38 l0_1 x31_2).f0))).trans hx108_0; replace hx108_0 := (cell_far (p := ⟨gb107, 1, none⟩) (by first | (rw [add_block]; exact hn108_1) | (show (Addr.add _ _).block ≠ _; rw [add_block]; exact hn108_1) | exact hn108_1) (.int .i64 ((rd_T38 l0_1 x31_2).f1))).trans hx108_0; replace hx108_0 := (cell_far (p := ⟨gb107, 2, none⟩) (by first | (rw [add_block]; exact hn108_2) | (show (Addr.add _ _).block ≠ _; rw [add_block]; exact hn108_2) | exact hn108_2) (.int .i64 ((rd_T38 l0_1 x31_2).f2))).trans hx108_0; (try have hy108_0 := fun (n_ : Nat) => (show (((((w21.drewN n_).setCell ⟨gb107, 0, none⟩ (.int .i64 ((rd_T38 l0_1 x31_2).f0))).setCell ⟨gb107, 1, none⟩ (.int .i64 ((rd_T38 l0_1 x31_2).f1))).setCell ⟨gb107, 2, none⟩ (.int .i64 ((rd_T38 l0_1 x31_2).f2)))).cell? _ = some _ from hx108_0)); clear hn108_0; clear hn108_1; clear hn108_2; replace p108 := eq_true p108; replace q108 := eq_true q108; have p109 : 0 ≤ (((rd_T38 l0_1 x31_2).f2) : Int) := oT; have q109 : ((rd_T38 l0_1 x31_2).f2) < (x5_2.length : Int) := oT; obtain ⟨ad109, e109, hx109_0⟩ := Kd.at_int (Kd.R_reads' HO_5.out).2.2 ((rd_T38 l0_1 x31_2).f2) p109 q109; obtain rfl : ad108 = ad109 := (by injection e109); have hn109_0 : ad108.block ≠ gb107 := Kd.own_blk (Kd.R_ne HO_5.out BK107.out (by decide)); have hn109_1 : ad108.block ≠ gb107 := Kd.own_blk (Kd.R_ne HO_5.out BK107.out (by decide)); have hn109_2 : ad108.block ≠ gb107 := Kd.own_blk (Kd.R_ne HO_5.out BK107.out (by decide)); replace hx109_0 := (cell_far (p := ⟨gb107, 0, none⟩) (by first | (rw [add_block]; exact hn109_0) | (show (Addr.add _ _).block ≠ _; rw [add_block]; exact hn109_0) | exact hn109_0) (.int .i64 ((rd_T38 l0_1 x31_2).f0))).trans hx109_0; replace hx109_0 := (cell_far (p := ⟨gb107, 1, none⟩) (by first | (rw [add_block]; exact hn109_1) | (show (Addr.add _ _).block ≠ _; rw [add_block]; exact hn109_1) | exact hn109_1) (.int .i64 ((rd_T38 l0_1 x31_2).f1))).trans hx109_0; replace hx109_0 := (cell_far (p := ⟨gb107, 2, none⟩) (by first | (rw [add_block]; exact hn109_2) | (show (Addr.add _ _).block ≠ _; rw [add_block]; exact hn109_2) | exact hn109_2) (.int .i64 ((rd_T38 l0_1 x31_2).f2))).trans hx109_0; (try have hy109_0 := fun (n_ : Nat) => (show (((((w21.drewN n_).setCell ⟨gb107, 0, none⟩ (.int .i64 ((rd_T38 l0_1 x31_2).f0))).setCell ⟨gb107, 1, none⟩ (.int .i64 ((rd_T38 l0_1 x31_2).f1))).setCell ⟨gb107, 2, none⟩ (.int .i64 ((rd_T38 l0_1 x31_2).f2)))).cell? _ = some _ from hx109_0)); clear hn109_0; clear hn109_1; clear hn109_2; replace p109 := eq_true p109; replace q109 := eq_true q109)))
              (try simp only [Act.put, List.setIfInBounds_toArray, List.set_cons_zero, List.set_cons_succ])
              go_cut [61] (fun v61 wc => ∃ (kq : Nat) (x61_19 : Bool), v61 = .bool x61_19 ∧ Aside0 (graph_Components.j2 kq x5_2 x6_2 ji19 l0_1 (l0_1.length : Int) x31_2 x61_19 l0_0 l0_1 ((rd_T38 l0_1 x31_2).f0) ((rd_T38 l0_1 x31_2).f1) ((rd_T38 l0_1 x31_2).f2) = some (r1, r2)) ∧ Aside0 (kq ≤ k2) ∧ Aside0 (Kd.R (Kd.int .i64) 3 wc w.heap.size (fun _ => True) (.slice (some ad108) x5_2.length co24) x5_2) ∧ Aside0 (wc.heap[gb101]? = some (.cells #[(.slice A0_0 l0_0.length c0_0), (.slice (some ad106) l0_1.length c0_1)] 25 (0, 0))) ∧ Aside0 (wc.heap[gb107]? = some (.cells #[.int .i64 ((rd_T38 l0_1 x31_2).f0), .int .i64 ((rd_T38 l0_1 x31_2).f1), .int .i64 ((rd_T38 l0_1 x31_2).f2)] 38 (0, 0))) ∧ Aside0 (Below w.heap.size w wc))
              case first =>
               have H := HC20.out
               clear HC20
               by_cases c25 : (rd x5_2 ((rd_T38 l0_1 x31_2).f1)) = (ji19)
               ·rw [if_pos c25] at H
                have c25b0 : ((rd x5_2 ((rd_T38 l0_1 x31_2).f1)) == (ji19)) = true := beq_iff_eq.mpr c25
                have c25b1 : ((rd x5_2 ((rd_T38 l0_1 x31_2).f1)) != (ji19)) = false := bne_eq_false_iff_eq.mpr c25
                clear c25
                (first | rw [c25b0] | (simp only [i64_w, i32_w]; rw [c25b0]) | skip)
                have H' := Aside0.mk H
                clear H
                have hnb26 := NB107_101.out
                have hnc26 := NB101_107.out
                have hcz27_0 : w21.cell? ⟨gb107, 0, none⟩ = some (.int .i64 0) := (blk_cell BK107.out 0).trans rfl
                have hcz27_1 : w21.cell? ⟨gb107, 1, none⟩ = some (.int .i64 0) := (blk_cell BK107.out 1).trans rfl
                have hcz27_2 : w21.cell? ⟨gb107, 2, none⟩ = some (.int .i64 0) := (blk_cell BK107.out 2).trans rfl
                have hfz27_0 := blk_frozen BK107.out 0
                have hfz27_1 := blk_frozen BK107.out 1
                have hfz27_2 := blk_frozen BK107.out 2
                have p110 : 0 ≤ (((rd_T38 l0_1 x31_2).f1) : Int) := oT
                have q110 : ((rd_T38 l0_1 x31_2).f1) < (x5_2.length : Int) := oT
                obtain ⟨ad110, e110, hx110_0⟩ := Kd.at_int (Kd.R_reads' HO_5.out).2.2 ((rd_T38 l0_1 x31_2).f1) p110 q110
                obtain rfl : ad108 = ad110 := (by injection e110)
                have hn110_0 : ad108.block ≠ gb107 := Kd.own_blk (Kd.R_ne HO_5.out BK107.out (by decide))
                have hn110_1 : ad108.block ≠ gb107 := Kd.own_blk (Kd.R_ne HO_5.out BK107.out (by decide))
                have hn110_2 : ad108.block ≠ gb107 := Kd.own_blk (Kd.R_ne HO_5.out BK107.out (by decide))
                replace hx110_0 := (cell_far (p := ⟨gb107, 0, none⟩) (by first | (rw [add_block]; exact hn110_0) | (show (Addr.add _ _).block ≠ _; rw [add_block]; exact hn110_0) | exact hn110_0) (.int .i64 ((rd_T38 l0_1 x31_2).f0))).trans hx110_0
                replace hx110_0 := (cell_far (p := ⟨gb107, 1, none⟩) (by first | (rw [add_block]; exact hn110_1) | (show (Addr.add _ _).block ≠ _; rw [add_block]; exact hn110_1) | exact hn110_1) (.int .i64 ((rd_T38 l0_1 x31_2).f1))).trans hx110_0
                replace hx110_0 := (cell_far (p := ⟨gb107, 2, none⟩) (by first | (rw [add_block]; exact hn110_2) | (show (Addr.add _ _).block ≠ _; rw [add_block]; exact hn110_2) | exact hn110_2) (.int .i64 ((rd_T38 l0_1 x31_2).f2))).trans hx110_0
                (try have hy110_0 := fun (n_ : Nat) => (show (((((w21.drewN n_).setCell ⟨gb107, 0, none⟩ (.int .i64 ((rd_T38 l0_1 x31_2).f0))).setCell ⟨gb107, 1, none⟩ (.int .i64 ((rd_T38 l0_1 x31_2).f1))).setCell ⟨gb107, 2, none⟩ (.int .i64 ((rd_T38 l0_1 x31_2).f2)))).cell? _ = some _ from hx110_0))
                clear hn110_0
                clear hn110_1
                clear hn110_2
                replace p110 := eq_true p110
                replace q110 := eq_true q110
                have p111 : 0 ≤ (((rd_T38 l0_1 x31_2).f2) : Int) := oT
                have q111 : ((rd_T38 l0_1 x31_2).f2) < (x5_2.length : Int) := oT
                obtain ⟨ad111, e111, hx111_0⟩ := Kd.at_int (Kd.R_reads' HO_5.out).2.2 ((rd_T38 l0_1 x31_2).f2) p111 q111
                obtain rfl : ad108 = ad111 := (by injection e111)
                have hn111_0 : ad108.block ≠ gb107 := Kd.own_blk (Kd.R_ne HO_5.out BK107.out (by decide))
                have hn111_1 : ad108.block ≠ gb107 := Kd.own_blk (Kd.R_ne HO_5.out BK107.out (by decide))
                have hn111_2 : ad108.block ≠ gb107 := Kd.own_blk (Kd.R_ne HO_5.out BK107.out (by decide))
                replace hx111_0 := (cell_far (p := ⟨gb107, 0, none⟩) (by first | (rw [add_block]; exact hn111_0) | (show (Addr.add _ _).block ≠ _; rw [add_block]; exact hn111_0) | exact hn111_0) (.int .i64 ((rd_T38 l0_1 x31_2).f0))).trans hx111_0
                replace hx111_0 := (cell_far (p := ⟨gb107, 1, none⟩) (by first | (rw [add_block]; exact hn111_1) | (show (Addr.add _ _).block ≠ _; rw [add_block]; exact hn111_1) | exact hn111_1) (.int .i64 ((rd_T38 l0_1 x31_2).f1))).trans hx111_0
                replace hx111_0 := (cell_far (p := ⟨gb107, 2, none⟩) (by first | (rw [add_block]; exact hn111_2) | (show (Addr.add _ _).block ≠ _; rw [add_block]; exact hn111_2) | exact hn111_2) (.int .i64 ((rd_T38 l0_1 x31_2).f2))).trans hx111_0
                (try have hy111_0 := fun (n_ : Nat) => (show (((((w21.drewN n_).setCell ⟨gb107, 0, none⟩ (.int .i64 ((rd_T38 l0_1 x31_2).f0))).setCell ⟨gb107, 1, none⟩ (.int .i64 ((rd_T38 l0_1 x31_2).f1))).setCell ⟨gb107, 2, none⟩ (.int .i64 ((rd_T38 l0_1 x31_2).f2)))).cell? _ = some _ from hx111_0))
                clear hn111_0
                clear hn111_1
                clear hn111_2
                replace p111 := eq_true p111
                replace q111 := eq_true q111
                go_wp2
                repeat (go_quiet (fail); try go_wp2)
                go_meet
                case rel => exact ⟨_, (((rd x5_2 ((rd_T38 l0_1 x31_2).f2)) != (ji19))), (by first | rfl | (simp; done) | (simp only [← hji19] <;> (first | rfl | simp)) | (simp [*]; done)), H', ⟨by have := HK1.out; have := HK2.out; first | omega | exact Nat.le_refl _⟩, ⟨by (with_reducible repeat (first | apply rA | apply rN | apply rD)); exact Kd.R_mono (Kd.R_far (p := ⟨gb107, 2, none⟩) (Kd.R_far (p := ⟨gb107, 1, none⟩) (Kd.R_far (p := ⟨gb107, 0, none⟩) (Kd.R_types HO_5.out BK107.out (by decide)) (fun _ hk => hk.2) (.int .i64 ((rd_T38 l0_1 x31_2).f0))) (fun _ hk => hk.2) (.int .i64 ((rd_T38 l0_1 x31_2).f1))) (fun _ hk => hk.2) (.int .i64 ((rd_T38 l0_1 x31_2).f2))) (fun _ hk => trivial)⟩, ⟨by (with_reducible repeat (first | refine bN ?_ _ | refine bD ?_ | refine bA ?_ _)); refine blk_far ?_ NB101_107.out _; (with_reducible repeat (first | refine bN ?_ _ | refine bD ?_ | refine bA ?_ _)); refine blk_far ?_ NB101_107.out _; (with_reducible repeat (first | refine bN ?_ _ | refine bD ?_ | refine bA ?_ _)); refine blk_far ?_ NB101_107.out _; (with_reducible repeat (first | refine bN ?_ _ | refine bD ?_ | refine bA ?_ _)); exact BK101.out⟩, ⟨by (with_reducible repeat (first | refine bN ?_ _ | refine bD ?_ | refine bA ?_ _)); refine blk_put (cs := #[.int .i64 ((rd_T38 l0_1 x31_2).f0), .int .i64 ((rd_T38 l0_1 x31_2).f1), .int .i64 0]) ?_ 2 _ rfl; (with_reducible repeat (first | refine bN ?_ _ | refine bD ?_ | refine bA ?_ _)); refine blk_put (cs := #[.int .i64 ((rd_T38 l0_1 x31_2).f0), .int .i64 0, .int .i64 0]) ?_ 1 _ rfl; (with_reducible repeat (first | refine bN ?_ _ | refine bD ?_ | refine bA ?_ _)); refine blk_put (cs := #[.int .i64 0, .int .i64 0, .int .i64 0]) ?_ 0 _ rfl; (with_reducible repeat (first | refine bN ?_ _ | refine bD ?_ | refine bA ?_ _)); exact BK107.out⟩, ⟨by repeat (first | (with_reducible first | exact HB.out | apply wA | apply wN | apply wD | refine below_set ?_ GE101.out | refine below_set ?_ GE107.out) | exact HB.out)⟩⟩
               ·rw [if_neg c25] at H
                have c25b0 : ((rd x5_2 ((rd_T38 l0_1 x31_2).f1)) == (ji19)) = false := beq_eq_false_iff_ne.mpr c25
                have c25b1 : ((rd x5_2 ((rd_T38 l0_1 x31_2).f1)) != (ji19)) = true := bne_iff_ne.mpr c25
                (first | rw [c25b0] | (simp only [i64_w, i32_w]; rw [c25b0]) | skip)
                have H' := Aside0.mk H
                clear H
                have hnb28 := NB107_101.out
                have hnc28 := NB101_107.out
                have hcz29_0 : w21.cell? ⟨gb107, 0, none⟩ = some (.int .i64 0) := (blk_cell BK107.out 0).trans rfl
                have hcz29_1 : w21.cell? ⟨gb107, 1, none⟩ = some (.int .i64 0) := (blk_cell BK107.out 1).trans rfl
                have hcz29_2 : w21.cell? ⟨gb107, 2, none⟩ = some (.int .i64 0) := (blk_cell BK107.out 2).trans rfl
                have hfz29_0 := blk_frozen BK107.out 0
                have hfz29_1 := blk_frozen BK107.out 1
                have hfz29_2 := blk_frozen BK107.out 2
                have p110 : 0 ≤ (((rd_T38 l0_1 x31_2).f1) : Int) := oT
                have q110 : ((rd_T38 l0_1 x31_2).f1) < (x5_2.length : Int) := oT
                obtain ⟨ad110, e110, hx110_0⟩ := Kd.at_int (Kd.R_reads' HO_5.out).2.2 ((rd_T38 l0_1 x31_2).f1) p110 q110
                obtain rfl : ad108 = ad110 := (by injection e110)
                have hn110_0 : ad108.block ≠ gb107 := Kd.own_blk (Kd.R_ne HO_5.out BK107.out (by decide))
                have hn110_1 : ad108.block ≠ gb107 := Kd.own_blk (Kd.R_ne HO_5.out BK107.out (by decide))
                have hn110_2 : ad108.block ≠ gb107 := Kd.own_blk (Kd.R_ne HO_5.out BK107.out (by decide))
                replace hx110_0 := (cell_far (p := ⟨gb107, 0, none⟩) (by first | (rw [add_block]; exact hn110_0) | (show (Addr.add _ _).block ≠ _; rw [add_block]; exact hn110_0) | exact hn110_0) (.int .i64 ((rd_T38 l0_1 x31_2).f0))).trans hx110_0
                replace hx110_0 := (cell_far (p := ⟨gb107, 1, none⟩) (by first | (rw [add_block]; exact hn110_1) | (show (Addr.add _ _).block ≠ _; rw [add_block]; exact hn110_1) | exact hn110_1) (.int .i64 ((rd_T38 l0_1 x31_2).f1))).trans hx110_0
                replace hx110_0 := (cell_far (p := ⟨gb107, 2, none⟩) (by first | (rw [add_block]; exact hn110_2) | (show (Addr.add _ _).block ≠ _; rw [add_block]; exact hn110_2) | exact hn110_2) (.int .i64 ((rd_T38 l0_1 x31_2).f2))).trans hx110_0
                (try have hy110_0 := fun (n_ : Nat) => (show (((((w21.drewN n_).setCell ⟨gb107, 0, none⟩ (.int .i64 ((rd_T38 l0_1 x31_2).f0))).setCell ⟨gb107, 1, none⟩ (.int .i64 ((rd_T38 l0_1 x31_2).f1))).setCell ⟨gb107, 2, none⟩ (.int .i64 ((rd_T38 l0_1 x31_2).f2)))).cell? _ = some _ from hx110_0))
                clear hn110_0
                clear hn110_1
                clear hn110_2
                replace p110 := eq_true p110
                replace q110 := eq_true q110
                go_wp2
                repeat (go_quiet (fail); try go_wp2)
                go_meet
                case rel => exact ⟨_, (true), rS, H', ⟨by have := HK1.out; have := HK2.out; first | omega | exact Nat.le_refl _⟩, ⟨by (with_reducible repeat (first | apply rA | apply rN | apply rD)); exact Kd.R_mono (Kd.R_far (p := ⟨gb107, 2, none⟩) (Kd.R_far (p := ⟨gb107, 1, none⟩) (Kd.R_far (p := ⟨gb107, 0, none⟩) (Kd.R_types HO_5.out BK107.out (by decide)) (fun _ hk => hk.2) (.int .i64 ((rd_T38 l0_1 x31_2).f0))) (fun _ hk => hk.2) (.int .i64 ((rd_T38 l0_1 x31_2).f1))) (fun _ hk => hk.2) (.int .i64 ((rd_T38 l0_1 x31_2).f2))) (fun _ hk => trivial)⟩, ⟨by (with_reducible repeat (first | refine bN ?_ _ | refine bD ?_ | refine bA ?_ _)); refine blk_far ?_ NB101_107.out _; (with_reducible repeat (first | refine bN ?_ _ | refine bD ?_ | refine bA ?_ _)); refine blk_far ?_ NB101_107.out _; (with_reducible repeat (first | refine bN ?_ _ | refine bD ?_ | refine bA ?_ _)); refine blk_far ?_ NB101_107.out _; (with_reducible repeat (first | refine bN ?_ _ | refine bD ?_ | refine bA ?_ _)); exact BK101.out⟩, ⟨by (with_reducible repeat (first | refine bN ?_ _ | refine bD ?_ | refine bA ?_ _)); refine blk_put (cs := #[.int .i64 ((rd_T38 l0_1 x31_2).f0), .int .i64 ((rd_T38 l0_1 x31_2).f1), .int .i64 0]) ?_ 2 _ rfl; (with_reducible repeat (first | refine bN ?_ _ | refine bD ?_ | refine bA ?_ _)); refine blk_put (cs := #[.int .i64 ((rd_T38 l0_1 x31_2).f0), .int .i64 0, .int .i64 0]) ?_ 1 _ rfl; (with_reducible repeat (first | refine bN ?_ _ | refine bD ?_ | refine bA ?_ _)); refine blk_put (cs := #[.int .i64 0, .int .i64 0, .int .i64 0]) ?_ 0 _ rfl; (with_reducible repeat (first | refine bN ?_ _ | refine bD ?_ | refine bA ?_ _)); exact BK107.out⟩, ⟨by repeat (first | (with_reducible first | exact HB.out | apply wA | apply wN | apply wD | refine below_set ?_ GE101.out | refine below_set ?_ GE107.out) | exact HB.out)⟩⟩
              case rest =>
               clear HC20
               try clear c1
               try clear c2
               try clear p2
               try clear q2
               try clear hx2
               try clear c3
               try clear c3b0
               try clear c3b1
               try clear c10
               try clear c12
               try clear c12b0
               try clear c13
               try clear c13b0
               try clear c14
               try clear c14b0
               try clear c15
               try clear c15b0
               try clear c16
               try clear c16b0
               try clear c17
               try clear c17b0
               try clear c18
               try clear c18b0
               try clear c20
               try clear p20
               try clear q20
               try clear hx20
               try clear c22
               try clear c25
               try clear c25b0
               try clear c25b1
               try clear c26
               try clear c28
               try clear hcz11_0
               try clear hcz11_1
               try clear hcz23_0
               try clear hcz23_1
               try clear hcz23_2
               try clear hcz27_0
               try clear hcz27_1
               try clear hcz27_2
               try clear hcz29_0
               try clear hcz29_1
               try clear hcz29_2
               try clear hcz6_0
               try clear hcz6_1
               try clear hcz8_0
               try clear hcz8_1
               try clear hfz11_0
               try clear hfz11_1
               try clear hfz23_0
               try clear hfz23_1
               try clear hfz23_2
               try clear hfz27_0
               try clear hfz27_1
               try clear hfz27_2
               try clear hfz29_0
               try clear hfz29_1
               try clear hfz29_2
               try clear hfz6_0
               try clear hfz6_1
               try clear hfz8_0
               try clear hfz8_1
               try clear hx106_0
               try clear hx106_1
               try clear hx106_2
               try clear hx108_0
               try clear hx109_0
               try clear hx110_0
               try clear hx111_0
               try clear p2
               try clear p106
               try clear p108
               try clear p109
               try clear p110
               try clear p111
               try clear q106
               try clear q108
               try clear q109
               try clear q110
               try clear q111
               obtain ⟨kq, x61_19, rfl, HA, HJ19, HO_5, BK101, BK107, HB⟩ := hcut
               cases kq with
               | zero => exact absurd HA.out (by simp [graph_Components.j2])
               | succ kj19 =>
                have H := HA.out
                clear HA
                simp only [graph_Components.j2] at H
                by_cases c30 : x61_19 = true
                ·subst c30
                 have H1 : (if 0 ≤ ((rd_T38 l0_1 x31_2).f1) then (if ((rd_T38 l0_1 x31_2).f1) < (x5_2.length : Int) then (if 0 ≤ ((rd_T38 l0_1 x31_2).f2) then (if ((rd_T38 l0_1 x31_2).f2) < (x5_2.length : Int) then (graph_Components.l1 kj19 ((x5_2.set (((rd_T38 l0_1 x31_2).f1) : Int).toNat ji19).set (((rd_T38 l0_1 x31_2).f2) : Int).toNat ji19) true l0_1 (l0_1.length : Int) (wrap64 (x31_2 + 1)) l0_0 l0_1) else (none)) else (none)) else (none)) else (none)) = some (r1, r2) := by rw [if_pos rfl] at H; exact H
                 clear H
                 have H := H1
                 clear H1
                 by_cases c31 : 0 ≤ ((rd_T38 l0_1 x31_2).f1)
                 ·rw [if_pos c31] at H
                  have c31b0 : decide (0 ≤ ((rd_T38 l0_1 x31_2).f1)) = true := decide_eq_true c31
                  clear c31
                  by_cases c32 : ((rd_T38 l0_1 x31_2).f1) < (x5_2.length : Int)
                  ·rw [if_pos c32] at H
                   have c32b0 : decide (((rd_T38 l0_1 x31_2).f1) < (x5_2.length : Int)) = true := decide_eq_true c32
                   clear c32
                   obtain ⟨y112, hy112⟩ : ∃ y_ : List Int, y_ = (x5_2.set (((rd_T38 l0_1 x31_2).f1) : Int).toNat ji19) := ⟨_, rfl⟩
                   replace H : (if 0 ≤ ((rd_T38 l0_1 x31_2).f2) then (if ((rd_T38 l0_1 x31_2).f2) < (x5_2.length : Int) then (graph_Components.l1 kj19 (y112.set (((rd_T38 l0_1 x31_2).f2) : Int).toNat ji19) true l0_1 (l0_1.length : Int) (wrap64 (x31_2 + 1)) l0_0 l0_1) else (none)) else (none)) = some (r1, r2) := by first | (rw [hy112]; with_reducible exact H) | (have H2_ := (Option.bind_some _ _).symm.trans H; rw [hy112]; with_reducible exact H2_) | (have H2_ := (Option.bind_some _ _).symm.trans H; with_reducible exact H2_) | with_reducible exact H | (rw [hy112]; exact H) | exact H
                   have Ny112 := Aside0.mk hy112
                   clear hy112
                   by_cases c34 : 0 ≤ ((rd_T38 l0_1 x31_2).f2)
                   ·rw [if_pos c34] at H
                    have c34b0 : decide (0 ≤ ((rd_T38 l0_1 x31_2).f2)) = true := decide_eq_true c34
                    clear c34
                    by_cases c35 : ((rd_T38 l0_1 x31_2).f2) < (x5_2.length : Int)
                    ·rw [if_pos c35] at H
                     have c35b0 : decide (((rd_T38 l0_1 x31_2).f2) < (x5_2.length : Int)) = true := decide_eq_true c35
                     clear c35
                     obtain ⟨y113, hy113⟩ : ∃ y_ : List Int, y_ = (y112.set (((rd_T38 l0_1 x31_2).f2) : Int).toNat ji19) := ⟨_, rfl⟩
                     replace H : (graph_Components.l1 kj19 y113 true l0_1 (l0_1.length : Int) (wrap64 (x31_2 + 1)) l0_0 l0_1) = some (r1, r2) := by first | (rw [hy113]; with_reducible exact H) | (have H2_ := (Option.bind_some _ _).symm.trans H; rw [hy113]; with_reducible exact H2_) | (have H2_ := (Option.bind_some _ _).symm.trans H; with_reducible exact H2_) | with_reducible exact H | (rw [hy113]; exact H) | exact H
                     have Ny113 := Aside0.mk hy113
                     clear hy113
                     have H' := Aside0.mk H
                     clear H
                     have hnb37 := NB107_101.out
                     have hnc37 := NB101_107.out
                     have hcz38_0 : wc.cell? ⟨gb107, 0, none⟩ = some (.int .i64 ((rd_T38 l0_1 x31_2).f0)) := (blk_cell BK107.out 0).trans rfl
                     have hcz38_1 : wc.cell? ⟨gb107, 1, none⟩ = some (.int .i64 ((rd_T38 l0_1 x31_2).f1)) := (blk_cell BK107.out 1).trans rfl
                     have hcz38_2 : wc.cell? ⟨gb107, 2, none⟩ = some (.int .i64 ((rd_T38 l0_1 x31_2).f2)) := (blk_cell BK107.out 2).trans rfl
                     have hfz38_0 := blk_frozen BK107.out 0
                     have hfz38_1 := blk_frozen BK107.out 1
                     have hfz38_2 := blk_frozen BK107.out 2
                     have p33 : 0 ≤ (((rd_T38 l0_1 x31_2).f1) : Int) := oT
                     have q33 : (((rd_T38 l0_1 x31_2).f1) : Int) < ((x5_2.length : Int) : Int) := oT
                     obtain ⟨go33, co33, eo33, gb33, gl33, cl33, HG33⟩ := Kd.R_form HO_5.out (by omega)
                     (first | cases eo33 | (injection eo33 with ea_ en_ ec_; (first | subst ea_ | (injection ea_ with ea_; subst ea_)); subst ec_; clear en_))
                     have GB33 := Aside0.mk gb33
                     have GG33 := Aside0.mk HG33
                     clear gb33 gl33 HG33
                     (first | simp only [add_plain] at hx108_0 | skip)
                     (first | simp only [add_plain] at hx109_0 | skip)
                     (first | simp only [add_plain] at hx110_0 | skip)
                     (first | simp only [add_plain] at hx111_0 | skip)
                     obtain ⟨hx33_0, hf33_0⟩ := Kd.R_celln 0 HO_5.out (((rd_T38 l0_1 x31_2).f1) : Int) p33 q33
                     replace p33 := eq_true p33
                     replace q33 := eq_true q33
                     have HP39 := Kd.R_putg HO_5.out (((rd_T38 l0_1 x31_2).f1) : Int) ji19
                     obtain ⟨hx2_, hf2_⟩ := Kd.R_celln 0 HP39.1 (((rd_T38 l0_1 x31_2).f2) : Int) (of_decide_eq_true c34b0) (of_decide_eq_true c35b0)
                     have p35_ := eq_true (of_decide_eq_true c34b0)
                     have q35_ := eq_true (of_decide_eq_true c35b0)
                     have HP2_ := Kd.R_putg HP39.1 (((rd_T38 l0_1 x31_2).f2) : Int) ji19
                     have hne_ : go33 ≠ gb107 := blk_ne GG33.out BK107.out (by decide)
                     have hy2_ : (wc.setCell ⟨go33, (((rd_T38 l0_1 x31_2).f1) : Int).toNat, none⟩ (.int .i64 ji19)).cell? ⟨gb107, 2, none⟩ = some (.int .i64 ((rd_T38 l0_1 x31_2).f2)) := (World.cell?_setCell_other _ _ _ _ (by intro e; injection e with e; exact hne_ e)).trans hcz38_2
                     have n0_ := Aside0.mk HP2_.1
                     rw [← Ny112.out, ← Ny113.out] at n0_
                     have n1_ := Aside0.mk (bG (bG BK101.out HP39.2 (Kd.R_ne HO_5.out BK101.out (by decide))) HP2_.2 (Kd.R_ne HO_5.out BK101.out (by decide)))
                     have n3_ := Aside0.mk (bG (bG BK107.out HP39.2 (Kd.R_ne HO_5.out BK107.out (by decide))) HP2_.2 (Kd.R_ne HO_5.out BK107.out (by decide)))
                     have n2_ := Aside0.mk (below_set (v := .int .i64 ji19) (j := (((rd_T38 l0_1 x31_2).f2) : Int).toNat) (below_set (v := .int .i64 ji19) (j := (((rd_T38 l0_1 x31_2).f1) : Int).toNat) HB.out GB33.out) GB33.out)
                     clear HP39 HP2_ HO_5 BK101 BK107 HB hne_
                     have HO_5 := n0_
                     have BK101 := n1_
                     have BK107 := n3_
                     have HB := n2_
                     clear n0_ n1_ n2_ n3_
                     go_wp2_with fail
                     go_region
                     go_wp2_with fail
                     go_roundg kj19
                     case measure => have := HK1.out; have := HK2.out; have := HJ19.out; omega
                     case rel => exact ⟨(y113), (true), (wrap64 (x31_2 + 1)), rS, rS, H', ⟨by have := HK1.out; have := HK2.out; have := HJ19.out; omega⟩, ⟨by (with_reducible repeat (first | apply rA | apply rN | apply rD)); exact HO_5.out⟩, ⟨by (with_reducible repeat (first | refine bN ?_ _ | refine bD ?_ | refine bA ?_ _)); exact BK101.out⟩, ⟨by repeat (first | (with_reducible first | exact HB.out | apply wA | apply wN | apply wD | refine below_set ?_ GE101.out | refine below_set ?_ GE107.out) | exact HB.out)⟩⟩
                    ·rw [if_neg c35] at H
                     exact absurd H (by simp)
                   ·rw [if_neg c34] at H
                    exact absurd H (by simp)
                  ·rw [if_neg c32] at H
                   exact absurd H (by simp)
                 ·rw [if_neg c31] at H
                  exact absurd H (by simp)
                ·replace c30 := Bool.eq_false_iff.mpr c30
                 subst c30
                 have H1 : (graph_Components.l1 kj19 x5_2 x6_2 l0_1 (l0_1.length : Int) (wrap64 (x31_2 + 1)) l0_0 l0_1) = some (r1, r2) := by rw [if_neg (show ¬ (false = true) by decide)] at H; exact H
                 clear H
                 have H := H1
                 clear H1
                 have H' := Aside0.mk H
                 clear H
                 go_wp2
                 repeat (go_quiet (fail); try go_wp2)
                 go_roundg kj19
                 case measure => have := HK1.out; have := HK2.out; have := HJ19.out; omega
                 case rel => exact ⟨(x5_2), (x6_2), (wrap64 (x31_2 + 1)), rS, rS, H', ⟨by have := HK1.out; have := HK2.out; have := HJ19.out; omega⟩, ⟨by (with_reducible repeat (first | apply rA | apply rN | apply rD)); exact HO_5.out⟩, ⟨by (with_reducible repeat (first | refine bN ?_ _ | refine bD ?_ | refine bA ?_ _)); exact BK101.out⟩, ⟨by repeat (first | (with_reducible first | exact HB.out | apply wA | apply wN | apply wD | refine below_set ?_ GE101.out | refine below_set ?_ GE107.out) | exact HB.out)⟩⟩
             ·rw [if_neg c18] at H
              exact absurd H (by simp)
            ·rw [if_neg c17] at H
             exact absurd H (by simp)
           ·rw [if_neg c16] at H
            exact absurd H (by simp)
          ·rw [if_neg c15] at H
           exact absurd H (by simp)
         ·rw [if_neg c14] at H
          exact absurd H (by simp)
        ·rw [if_neg c13] at H
         exact absurd H (by simp)
       ·rw [if_neg c12] at H
        have c12b0 : decide (x31_2 < (l0_1.length : Int)) = false := decide_eq_false c12
        clear c12
        have H' := Aside0.mk H
        clear H
        go_wp2
        repeat (go_quiet (fail); try go_wp2)
        go_roundg k2
        case measure => have := HK1.out; have := HK2.out; omega
        case rel => exact ⟨(x5_2), (x6_2), rS, H', ⟨by have := HK1.out; have := HK2.out; omega⟩, ⟨by (with_reducible repeat (first | apply rA | apply rN | apply rD)); exact HO_5.out⟩, ⟨by (with_reducible repeat (first | refine bN ?_ _ | refine bD ?_ | refine bA ?_ _)); exact BK101.out⟩, ⟨by repeat (first | (with_reducible first | exact HB.out | apply wA | apply wN | apply wD | refine below_set ?_ GE101.out) | exact HB.out)⟩⟩
    ·replace c10 := Bool.eq_false_iff.mpr c10
     subst c10
     have H1 : (graph_Components.l2 k1 x5_1 ([] : List (S64)) x5_1 (x5_1.length : Int) 0 l0_0 l0_1) = some (r1, r2) := by rw [if_neg (show ¬ (false = true) by decide)] at H; exact H
     clear H
     have H := H1
     clear H1
     have H' := Aside0.mk H
     clear H
     obtain ⟨Ao43, co43, eo43⟩ := Kd.R_slice HO_5.out
     subst eo43
     go_wp2
     repeat (go_quiet (fail); try go_wp2)
     go_loopg [10, 75] k1 (fun kq v10 v75 w' => ∃ (x10_2 : List (S64)) (x75_2 : Int), v75 = .int .i64 x75_2 ∧ Aside0 (graph_Components.l2 kq x5_1 x10_2 x5_1 (x5_1.length : Int) x75_2 l0_0 l0_1 = some (r1, r2)) ∧ Aside0 (kq ≤ k1) ∧ Aside0 (Kd.R (Kd.int .i64) 3 w' w.heap.size (fun _ => True) (.slice Ao43 x5_1.length co43) x5_1) ∧ Aside0 (Kd.S k64 64 w' w.heap.size (fun k_ => some k_ ≠ ((.slice Ao43 x5_1.length co43) : Value).ownBlock ∧ some k_ ≠ ((.slice Ao43 x5_1.length co43) : Value).ownBlock) v10 x10_2) ∧ Aside0 (Kd.R (Kd.int .i64) 3 w' w.heap.size (fun _ => True) (.slice Ao43 x5_1.length co43) x5_1) ∧ Aside0 (w'.heap[gb101]? = some (.cells #[(.slice A0_0 l0_0.length c0_0), (.slice A0_1 l0_1.length c0_1)] 25 (0, 0))) ∧ Aside0 (Below w.heap.size w w'))
     case atStart => exact ⟨(([] : List (S64))), (0), rS, H', ⟨Nat.le_refl _⟩, ⟨by (with_reducible repeat (first | apply rA | apply rN | apply rD)); exact HO_5.out⟩, ⟨by first | exact Kd.S_nil _ _ _ _ _ | exact Kd.N_nil _ _ _ _ _ | exact Kd.V_nil _ _ _ _ _ | exact Kd.Q_nil _ _ _ _ _ | exact Kd.R_nil _ _ _ _ _⟩, ⟨by (with_reducible repeat (first | apply rA | apply rN | apply rD)); exact HO_5.out⟩, ⟨by (with_reducible repeat (first | refine bN ?_ _ | refine bD ?_ | refine bA ?_ _)); exact BK101.out⟩, ⟨by repeat (first | (with_reducible first | exact HB.out | apply wA | apply wN | apply wD | refine below_set ?_ GE101.out) | exact HB.out)⟩⟩
     case round =>
      clear H'
      try clear c1
      try clear c2
      try clear p2
      try clear q2
      try clear hx2
      try clear c3
      try clear c3b0
      try clear c3b1
      try clear p3
      try clear q3
      try clear hx3
      try clear hf3
      try clear p6
      try clear c10
      try clear c12
      try clear c12b0
      try clear c13
      try clear c13b0
      try clear c14
      try clear c14b0
      try clear c15
      try clear c15b0
      try clear c16
      try clear c16b0
      try clear c17
      try clear c17b0
      try clear c18
      try clear c18b0
      try clear c20
      try clear p20
      try clear q20
      try clear hx20
      try clear c22
      try clear c25
      try clear c25b0
      try clear c25b1
      try clear c26
      try clear c28
      try clear c30
      try clear c31
      try clear c31b0
      try clear c32
      try clear c32b0
      try clear p33
      try clear q33
      try clear hx33
      try clear hf33
      try clear c34
      try clear c34b0
      try clear c35
      try clear c35b0
      try clear p36
      try clear q36
      try clear hx36
      try clear hf36
      try clear c37
      try clear hcz11_0
      try clear hcz11_1
      try clear hcz23_0
      try clear hcz23_1
      try clear hcz23_2
      try clear hcz27_0
      try clear hcz27_1
      try clear hcz27_2
      try clear hcz29_0
      try clear hcz29_1
      try clear hcz29_2
      try clear hcz38_0
      try clear hcz38_1
      try clear hcz38_2
      try clear hcz6_0
      try clear hcz6_1
      try clear hcz8_0
      try clear hcz8_1
      try clear hfz11_0
      try clear hfz11_1
      try clear hfz23_0
      try clear hfz23_1
      try clear hfz23_2
      try clear hfz27_0
      try clear hfz27_1
      try clear hfz27_2
      try clear hfz29_0
      try clear hfz29_1
      try clear hfz29_2
      try clear hfz38_0
      try clear hfz38_1
      try clear hfz38_2
      try clear hfz6_0
      try clear hfz6_1
      try clear hfz8_0
      try clear hfz8_1
      try clear hx106_0
      try clear hx106_1
      try clear hx106_2
      try clear hx108_0
      try clear hx109_0
      try clear hx110_0
      try clear hx111_0
      try clear hx33_0
      try clear hx36_0
      try clear p2
      try clear p20
      try clear p106
      try clear p108
      try clear p109
      try clear p110
      try clear p111
      try clear p33
      try clear p36
      try clear q2
      try clear q20
      try clear q106
      try clear q108
      try clear q109
      try clear q110
      try clear q111
      try clear q33
      try clear q36
      obtain ⟨x10_2, x75_2, rfl, HA, HK2, HO_5, HO_10, HO_73, BK101, HB⟩ := hrel
      cases gk with
      | zero => exact absurd HA.out (by simp [graph_Components.l2])
      | succ k2 =>
       have H := HA.out
       clear HA
       simp only [graph_Components.l2] at H
       by_cases c44 : x75_2 < (x5_1.length : Int)
       ·rw [if_pos c44] at H
        have c44b0 : decide (x75_2 < (x5_1.length : Int)) = true := decide_eq_true c44
        clear c44
        by_cases c45 : 0 ≤ x75_2
        ·rw [if_pos c45] at H
         have c45b0 : decide (0 ≤ x75_2) = true := decide_eq_true c45
         clear c45
         by_cases c46 : x75_2 < (x5_1.length : Int)
         ·rw [if_pos c46] at H
          have c46b0 : decide (x75_2 < (x5_1.length : Int)) = true := decide_eq_true c46
          clear c46
          by_cases c47 : x75_2 = (rd x5_1 x75_2)
          ·rw [if_pos c47] at H
           have c47b0 : (x75_2 == (rd x5_1 x75_2)) = true := beq_iff_eq.mpr c47
           have c47b1 : (x75_2 != (rd x5_1 x75_2)) = false := bne_eq_false_iff_eq.mpr c47
           clear c47
           have H' := Aside0.mk H
           clear H
           have p114 : 0 ≤ (x75_2 : Int) := oT
           have q114 : x75_2 < (x5_1.length : Int) := oT
           obtain ⟨ad114, e114, hx114_0⟩ := Kd.at_int (Kd.R_reads' HO_73.out).2.2 x75_2 p114 q114
           cases e114
           replace p114 := eq_true p114
           replace q114 := eq_true q114
           iterate 3 (try (go_wp2_with (first | ((with_reducible refine gate_dst (N := 13) rfl ?_); refine box_event ?hg (N := 13) ?hd (cs := #[.slice none 0 0, .slice none 0 0]) (t := 64) ?hr ?_; (case hd => rfl); (case hg => rfl); (case hr => first | (go_simp; done) | (go_simp; rfl)); intro gb115 hg w48 hbox hb; have n0_ := Aside0.mk (rB (by (with_reducible repeat (first | apply rA | apply rN | apply rD)); exact HO_5.out) hb); have n1_ := Aside0.mk (Kd.S_below (Kd.S_elderB (by (with_reducible repeat (first | apply Kd.S_alloc | apply Kd.S_drewN | apply Kd.S_drew)); exact HO_10.out) gb115 (Nat.le_of_eq hg.symm)) hb); have n2_ := Aside0.mk (rB (by (with_reducible repeat (first | apply rA | apply rN | apply rD)); exact HO_73.out) hb); have n3_ := Aside0.mk (bB (g := gb101) (o := .cells #[.slice A0_0 l0_0.length c0_0, .slice A0_1 l0_1.length c0_1] 25 (0, 0)) (by (with_reducible repeat (first | refine bN ?_ _ | refine bD ?_ | refine bA ?_ _)); exact BK101.out) hb); have n4_ := Aside0.mk (wS (by repeat (first | (with_reducible first | exact HB.out | apply wA | apply wN | apply wD | refine below_set ?_ GE101.out) | exact HB.out)) hb); have n5_ := Aside0.mk (hbox); have n6_ := Aside0.mk ((by rw [hg]; exact (below_size (by repeat (first | (with_reducible first | exact HB.out | apply wA | apply wN | apply wD | refine below_set ?_ GE101.out) | exact HB.out))) : w.heap.size ≤ gb115)); have n7_ := Aside0.mk ((by rw [hg]; exact (below_size (by repeat (first | (with_reducible first | exact HB.out | apply wA | apply wN | apply wD | refine below_set ?_ GE101.out) | exact HB.out))) : w.heap.size ≤ gb115)); have n8_ := Aside0.mk ((by rw [hg]; exact Nat.ne_of_lt (blk_lt (g := gb101) (o := .cells #[.slice A0_0 l0_0.length c0_0, .slice A0_1 l0_1.length c0_1] 25 (0, 0)) (by (with_reducible repeat (first | refine bN ?_ _ | refine bD ?_ | refine bA ?_ _)); exact BK101.out)) : gb101 ≠ gb115)); have n9_ := Aside0.mk ((by rw [hg]; exact Nat.ne_of_gt (blk_lt (g := gb101) (o := .cells #[.slice A0_0 l0_0.length c0_0, .slice A0_1 l0_1.length c0_1] 25 (0, 0)) (by (with_reducible repeat (first | refine bN ?_ _ | refine bD ?_ | refine bA ?_ _)); exact BK101.out)) : gb115 ≠ gb101)); clear HO_5; clear HO_10; clear HO_73; clear BK101; clear HB; have HO_5 := n0_; have HO_10 := n1_; have HO_73 := n2_; have BK101 := n3_; have HB := n4_; have BK115 := n5_; have GW115 := n6_; have GE115 := n7_; have NB101_115 := n8_; have NB115_101 := n9_; clear n0_ n1_ n2_ n3_ n4_ n5_ n6_ n7_ n8_ n9_; clear hb hbox hg))); try (go_quiet (fail)))
           go_loopg [85] k2 (fun kq v85 w' => ∃ (x85_3 : Int) (x116000_3 : List Int) (u116000 : Value), v85 = .int .i64 x85_3 ∧ Aside0 (graph_Components.l3 kq x5_1 x10_2 x75_2 x5_1 (x5_1.length : Int) x75_2 x5_1 (x5_1.length : Int) x85_3 l0_0 l0_1 x116000_3 = some (r1, r2)) ∧ Aside0 (kq ≤ k2) ∧ Aside0 (Kd.R (Kd.int .i64) 3 w' w.heap.size (fun k_ => some k_ ≠ (u116000 : Value).ownBlock) (.slice (some ad114) x5_1.length co43) x5_1) ∧ Aside0 (Kd.S k64 64 w' w.heap.size (fun k_ => some k_ ≠ ((.slice (some ad114) x5_1.length co43) : Value).ownBlock ∧ some k_ ≠ ((.slice (some ad114) x5_1.length co43) : Value).ownBlock ∧ some k_ ≠ ((.slice (some ad114) x5_1.length co43) : Value).ownBlock ∧ some k_ ≠ (u116000 : Value).ownBlock ∧ k_ ≠ gb115) u10 x10_2) ∧ Aside0 (Kd.R (Kd.int .i64) 3 w' w.heap.size (fun k_ => some k_ ≠ (u116000 : Value).ownBlock) (.slice (some ad114) x5_1.length co43) x5_1) ∧ Aside0 (Kd.R (Kd.int .i64) 3 w' w.heap.size (fun k_ => some k_ ≠ (u116000 : Value).ownBlock) (.slice (some ad114) x5_1.length co43) x5_1) ∧ Aside0 (Kd.R (Kd.int .i64) 3 w' w.heap.size (fun k_ => some k_ ≠ ((.slice (some ad114) x5_1.length co43) : Value).ownBlock ∧ some k_ ≠ ((.slice (some ad114) x5_1.length co43) : Value).ownBlock ∧ some k_ ≠ ((.slice (some ad114) x5_1.length co43) : Value).ownBlock) u116000 x116000_3) ∧ Aside0 (w'.heap[gb101]? = some (.cells #[(.slice A0_0 l0_0.length c0_0), (.slice A0_1 l0_1.length c0_1)] 25 (0, 0))) ∧ Aside0 (w'.heap[gb115]? = some (.cells #[u116000, (.slice none 0 0)] 64 (0, 0))) ∧ Aside0 (Below w.heap.size w w'))
           case atStart => exact ⟨(0), (([] : List Int)), (.slice none 0 0), rS, H', ⟨Nat.le_refl _⟩, ⟨by (with_reducible repeat (first | apply rA | apply rN | apply rD)); exact Kd.R_mono HO_5.out (fun _ hk => (by simp [Value.ownBlock]))⟩, ⟨by (with_reducible repeat (first | apply Kd.S_alloc | apply Kd.S_drewN | apply Kd.S_drew)); exact Kd.S_mono HO_10.out (fun _ hk => ⟨hk.1.1, ⟨hk.1.2, ⟨hk.1.1, ⟨(by simp [Value.ownBlock]), hk.2⟩⟩⟩⟩)⟩, ⟨by (with_reducible repeat (first | apply rA | apply rN | apply rD)); exact Kd.R_mono HO_73.out (fun _ hk => (by simp [Value.ownBlock]))⟩, ⟨by (with_reducible repeat (first | apply rA | apply rN | apply rD)); exact Kd.R_mono HO_5.out (fun _ hk => (by simp [Value.ownBlock]))⟩, ⟨by first | exact Kd.R_nil _ _ _ _ _ | exact Kd.N_nil _ _ _ _ _ | exact Kd.V_nil _ _ _ _ _ | exact Kd.Q_nil _ _ _ _ _ | exact Kd.S_nil _ _ _ _ _⟩, ⟨by (with_reducible repeat (first | refine bN ?_ _ | refine bD ?_ | refine bA ?_ _)); exact BK101.out⟩, ⟨by (with_reducible repeat (first | refine bN ?_ _ | refine bD ?_ | refine bA ?_ _)); exact BK115.out⟩, ⟨by repeat (first | (with_reducible first | exact HB.out | apply wA | apply wN | apply wD | refine below_set ?_ GE101.out | refine below_set ?_ GE115.out) | exact HB.out)⟩⟩
           case round =>
            clear H'
            try clear c1
            try clear c2
            try clear p2
            try clear q2
            try clear hx2
            try clear c3
            try clear c3b0
            try clear c3b1
            try clear p3
            try clear q3
            try clear hx3
            try clear hf3
            try clear c4
            try clear p6
            try clear c10
            try clear c12
            try clear c12b0
            try clear c13
            try clear c13b0
            try clear c14
            try clear c14b0
            try clear c15
            try clear c15b0
            try clear c16
            try clear c16b0
            try clear c17
            try clear c17b0
            try clear c18
            try clear c18b0
            try clear c20
            try clear p20
            try clear q20
            try clear hx20
            try clear c22
            try clear c25
            try clear c25b0
            try clear c25b1
            try clear c26
            try clear c28
            try clear c30
            try clear c31
            try clear c31b0
            try clear c32
            try clear c32b0
            try clear p33
            try clear q33
            try clear hx33
            try clear hf33
            try clear c34
            try clear c34b0
            try clear c35
            try clear c35b0
            try clear p36
            try clear q36
            try clear hx36
            try clear hf36
            try clear c37
            try clear c44
            try clear c44b0
            try clear c45
            try clear c45b0
            try clear c46
            try clear c46b0
            try clear c47
            try clear c47b0
            try clear c47b1
            try clear hcz11_0
            try clear hcz11_1
            try clear hcz23_0
            try clear hcz23_1
            try clear hcz23_2
            try clear hcz27_0
            try clear hcz27_1
            try clear hcz27_2
            try clear hcz29_0
            try clear hcz29_1
            try clear hcz29_2
            try clear hcz38_0
            try clear hcz38_1
            try clear hcz38_2
            try clear hcz6_0
            try clear hcz6_1
            try clear hcz8_0
            try clear hcz8_1
            try clear hfz11_0
            try clear hfz11_1
            try clear hfz23_0
            try clear hfz23_1
            try clear hfz23_2
            try clear hfz27_0
            try clear hfz27_1
            try clear hfz27_2
            try clear hfz29_0
            try clear hfz29_1
            try clear hfz29_2
            try clear hfz38_0
            try clear hfz38_1
            try clear hfz38_2
            try clear hfz6_0
            try clear hfz6_1
            try clear hfz8_0
            try clear hfz8_1
            try clear hx106_0
            try clear hx106_1
            try clear hx106_2
            try clear hx108_0
            try clear hx109_0
            try clear hx110_0
            try clear hx111_0
            try clear hx114_0
            try clear hx33_0
            try clear hx36_0
            try clear p2
            try clear p20
            try clear p106
            try clear p108
            try clear p109
            try clear p110
            try clear p111
            try clear p114
            try clear p3
            try clear p33
            try clear p36
            try clear p6
            try clear q2
            try clear q20
            try clear q106
            try clear q108
            try clear q109
            try clear q110
            try clear q111
            try clear q114
            try clear q3
            try clear q33
            try clear q36
            obtain ⟨x85_3, x116000_3, u116000, rfl, HA, HK3, HO_5, HO_10, HO_73, HO_83, HO_116000, BK101, BK115, HB⟩ := hrel
            cases gk with
            | zero => exact absurd HA.out (by simp [graph_Components.l3])
            | succ k3 =>
             have H := HA.out
             clear HA
             simp only [graph_Components.l3] at H
             by_cases c49 : x85_3 < (x5_1.length : Int)
             ·rw [if_pos c49] at H
              have c49b0 : decide (x85_3 < (x5_1.length : Int)) = true := decide_eq_true c49
              clear c49
              by_cases c50 : 0 ≤ x85_3
              ·rw [if_pos c50] at H
               have c50b0 : decide (0 ≤ x85_3) = true := decide_eq_true c50
               clear c50
               by_cases c51 : x85_3 < (x5_1.length : Int)
               ·rw [if_pos c51] at H
                have c51b0 : decide (x85_3 < (x5_1.length : Int)) = true := decide_eq_true c51
                clear c51
                by_cases c52 : (rd x5_1 x85_3) = x75_2
                ·rw [if_pos c52] at H
                 have c52b0 : ((rd x5_1 x85_3) == x75_2) = true := beq_iff_eq.mpr c52
                 have c52b1 : ((rd x5_1 x85_3) != x75_2) = false := bne_eq_false_iff_eq.mpr c52
                 clear c52
                 by_cases c53 : x116000_3.length < 17592186044416
                 ·rw [if_pos c53] at H
                  have LMc53 := Aside0.mk c53
                  clear c53
                  obtain ⟨y117, hy117⟩ : ∃ y_ : List Int, y_ = (x116000_3 ++ [x85_3]) := ⟨_, rfl⟩
                  replace H : (graph_Components.l3 k3 x5_1 x10_2 x75_2 x5_1 (x5_1.length : Int) x75_2 x5_1 (x5_1.length : Int) (wrap64 (x85_3 + 1)) l0_0 l0_1 y117) = some (r1, r2) := by first | (rw [hy117]; with_reducible exact H) | (have H2_ := (Option.bind_some _ _).symm.trans H; rw [hy117]; with_reducible exact H2_) | (have H2_ := (Option.bind_some _ _).symm.trans H; with_reducible exact H2_) | with_reducible exact H | (rw [hy117]; exact H) | exact H
                  have Ny117 := Aside0.mk hy117
                  clear hy117
                  have H' := Aside0.mk H
                  clear H
                  have p116 : 0 ≤ (x85_3 : Int) := oT
                  have q116 : x85_3 < (x5_1.length : Int) := oT
                  obtain ⟨ad116, e116, hx116_0⟩ := Kd.at_int (Kd.R_reads' HO_83.out).2.2 x85_3 p116 q116
                  obtain rfl : ad114 = ad116 := (by injection e116)
                  replace p116 := eq_true p116
                  replace q116 := eq_true q116
                  have hnb54 := NB115_101.out
                  have hnc54 := NB101_115.out
                  have hcz55_0 : wr.cell? ⟨gb115, 0, none⟩ = some (u116000) := (blk_cell BK115.out 0).trans rfl
                  have hcz55_1 : wr.cell? ⟨gb115, 1, none⟩ = some (.slice none 0 0) := (blk_cell BK115.out 1).trans rfl
                  have hfz55_0 := blk_frozen BK115.out 0
                  have hfz55_1 := blk_frozen BK115.out 1
                  iterate 3 (try (go_wp2_with (first | ((with_reducible refine gate_builtin (b := .append) (xs := #[.tmp 94, .tmp 96]) rfl ?_); at_builtin; refine Kd.R_append (Kd.int .i64) (w0 := w) w.heap.size rfl (.tmp 94) (.tmp 96) 22 3 (.int .i64 0) 8 rfl Try.underlying22 info3 rfl (by decide) (by omega) u116000 x116000_3 x85_3 [.int .i64 x85_3] (fun k_ => some k_ ≠ (.slice (some ad114) x5_1.length co43 : Value).ownBlock ∧ some k_ ≠ (.slice (some ad114) x5_1.length co43 : Value).ownBlock ∧ some k_ ≠ (.slice (some ad114) x5_1.length co43 : Value).ownBlock) (fun _ => False) rfl rfl ?aP (fun _ hk => hk.elim) ?aF ?aO ?aB ?aS ?aL ?_; (case aP => exact rfl); (case aB => exact (by repeat (first | (with_reducible first | exact HB.out | apply wA | apply wN | apply wD | refine below_set ?_ GE101.out | refine below_set ?_ GE115.out) | exact HB.out))); (case aF => exact (fun k_ hk => ⟨Kd.fresh' (Kd.R_lt (by (with_reducible repeat (first | apply rA | apply rN | apply rD)); exact HO_5.out)) k_ hk, Kd.fresh' (Kd.R_lt (by (with_reducible repeat (first | apply rA | apply rN | apply rD)); exact HO_73.out)) k_ hk, Kd.fresh' (Kd.R_lt (by (with_reducible repeat (first | apply rA | apply rN | apply rD)); exact HO_83.out)) k_ hk⟩)); (case aO => exact (by (with_reducible repeat (first | apply rA | apply rN | apply rD)); exact HO_116000.out)); (case aS => exact (below_size (by repeat (first | (with_reducible first | exact HB.out | apply wA | apply wN | apply wD | refine below_set ?_ GE101.out | refine below_set ?_ GE115.out) | exact HB.out)))); (case aL => have := LMc53.out; omega); intro v118 w56 ho hb hg hat; rw [← Ny117.out] at ho; have n0_ := Aside0.mk (Kd.R_after (ok := (fun _ => True)) (by (with_reducible repeat (first | apply rA | apply rN | apply rD)); exact Kd.R_mono HO_5.out (fun _ hk => ⟨trivial, hk⟩)) hg hat); have n1_ := Aside0.mk (Kd.S_after (ok := (fun k_ => some k_ ≠ (.slice (some ad114) x5_1.length co43 : Value).ownBlock ∧ some k_ ≠ (.slice (some ad114) x5_1.length co43 : Value).ownBlock ∧ some k_ ≠ (.slice (some ad114) x5_1.length co43 : Value).ownBlock ∧ k_ ≠ gb115)) (by (with_reducible repeat (first | apply Kd.S_alloc | apply Kd.S_drewN | apply Kd.S_drew)); exact Kd.S_mono HO_10.out (fun _ hk => ⟨⟨hk.1, ⟨hk.2.1, ⟨hk.2.2.1, hk.2.2.2.2⟩⟩⟩, hk.2.2.2.1⟩)) hg hat); have n2_ := Aside0.mk (Kd.R_after (ok := (fun _ => True)) (by (with_reducible repeat (first | apply rA | apply rN | apply rD)); exact Kd.R_mono HO_73.out (fun _ hk => ⟨trivial, hk⟩)) hg hat); have n3_ := Aside0.mk (Kd.R_after (ok := (fun _ => True)) (by (with_reducible repeat (first | apply rA | apply rN | apply rD)); exact Kd.R_mono HO_83.out (fun _ hk => ⟨trivial, hk⟩)) hg hat); have n4_ := Aside0.mk (bG (g := gb101) (o := .cells #[.slice A0_0 l0_0.length c0_0, .slice A0_1 l0_1.length c0_1] 25 (0, 0)) (by (with_reducible repeat (first | refine bN ?_ _ | refine bD ?_ | refine bA ?_ _)); exact BK101.out) hg (Kd.R_ne HO_116000.out BK101.out (by decide))); have n5_ := Aside0.mk (bG (g := gb115) (o := .cells #[u116000, .slice none 0 0] 64 (0, 0)) (by (with_reducible repeat (first | refine bN ?_ _ | refine bD ?_ | refine bA ?_ _)); exact BK115.out) hg (Kd.R_ne HO_116000.out BK115.out (by decide))); have n6_ := Aside0.mk (hb); have n7_ := Aside0.mk (ho); clear HO_5; clear HO_10; clear HO_73; clear HO_83; clear BK101; clear BK115; clear HB; clear HO_116000; have HO_5 := n0_; have HO_10 := n1_; have HO_73 := n2_; have HO_83 := n3_; have BK101 := n4_; have BK115 := n5_; have HB := n6_; have HO119 := n7_; clear n0_ n1_ n2_ n3_ n4_ n5_ n6_ n7_; clear ho hb hg hat; obtain ⟨Ao57, co57, eo57⟩ := Kd.R_slice HO119.out; subst eo57; have hcz58_0 : w56.cell? ⟨gb115, 0, none⟩ = some (u116000) := (blk_cell BK115.out 0).trans rfl; have hcz58_1 : w56.cell? ⟨gb115, 1, none⟩ = some (.slice none 0 0) := (blk_cell BK115.out 1).trans rfl; have hfz58_0 := blk_frozen BK115.out 0; have hfz58_1 := blk_frozen BK115.out 1))); try (go_quiet (fail)))
                  go_roundg k3
                  case measure => have := HK1.out; have := HK2.out; have := HK3.out; omega
                  case rel => exact ⟨(wrap64 (x85_3 + 1)), (y117), (.slice Ao57 y117.length co57), rS, H', ⟨by have := HK1.out; have := HK2.out; have := HK3.out; omega⟩, ⟨by (with_reducible repeat (first | apply rA | apply rN | apply rD)); exact Kd.R_mono (Kd.R_far (p := ⟨gb115, 0, none⟩) (Kd.R_types HO_5.out BK115.out (by decide)) (fun _ hk => hk.2) (.slice Ao57 y117.length co57)) (fun _ hk => hk.1.2)⟩, ⟨by (with_reducible repeat (first | apply Kd.S_alloc | apply Kd.S_drewN | apply Kd.S_drew)); exact Kd.S_mono (Kd.S_far (p := ⟨gb115, 0, none⟩) (Kd.S_mono HO_10.out (fun k_ hk => (⟨hk, hk.1.2.2.2⟩ : _ ∧ k_ ≠ gb115))) (fun _ hk => hk.2) (.slice Ao57 y117.length co57)) (fun _ hk => ⟨hk.1.1.1, ⟨hk.1.1.2.1, ⟨hk.1.1.2.2.1, ⟨hk.1.2, hk.1.1.2.2.2⟩⟩⟩⟩)⟩, ⟨by (with_reducible repeat (first | apply rA | apply rN | apply rD)); exact Kd.R_mono (Kd.R_far (p := ⟨gb115, 0, none⟩) (Kd.R_types HO_73.out BK115.out (by decide)) (fun _ hk => hk.2) (.slice Ao57 y117.length co57)) (fun _ hk => hk.1.2)⟩, ⟨by (with_reducible repeat (first | apply rA | apply rN | apply rD)); exact Kd.R_mono (Kd.R_far (p := ⟨gb115, 0, none⟩) (Kd.R_types HO_83.out BK115.out (by decide)) (fun _ hk => hk.2) (.slice Ao57 y117.length co57)) (fun _ hk => hk.1.2)⟩, ⟨by (with_reducible repeat (first | apply rA | apply rN | apply rD)); exact Kd.R_mono (Kd.R_far (p := ⟨gb115, 0, none⟩) (Kd.R_types HO119.out BK115.out (by decide)) (fun _ hk => hk.2) (.slice Ao57 y117.length co57)) (fun _ hk => ⟨hk.1.1, ⟨hk.1.2.1, hk.1.2.2⟩⟩)⟩, ⟨by (with_reducible repeat (first | refine bN ?_ _ | refine bD ?_ | refine bA ?_ _)); refine blk_far ?_ NB101_115.out _; (with_reducible repeat (first | refine bN ?_ _ | refine bD ?_ | refine bA ?_ _)); exact BK101.out⟩, ⟨by (with_reducible repeat (first | refine bN ?_ _ | refine bD ?_ | refine bA ?_ _)); refine blk_put (cs := #[u116000, .slice none 0 0]) ?_ 0 _ rfl; (with_reducible repeat (first | refine bN ?_ _ | refine bD ?_ | refine bA ?_ _)); exact BK115.out⟩, ⟨by repeat (first | (with_reducible first | exact HB.out | apply wA | apply wN | apply wD | refine below_set ?_ GE101.out | refine below_set ?_ GE115.out) | exact HB.out)⟩⟩
                 ·rw [if_neg c53] at H
                  exact absurd H (by simp)
                ·rw [if_neg c52] at H
                 have c52b0 : ((rd x5_1 x85_3) == x75_2) = false := beq_eq_false_iff_ne.mpr c52
                 have c52b1 : ((rd x5_1 x85_3) != x75_2) = true := bne_iff_ne.mpr c52
                 have H' := Aside0.mk H
                 clear H
                 have p116 : 0 ≤ (x85_3 : Int) := oT
                 have q116 : x85_3 < (x5_1.length : Int) := oT
                 obtain ⟨ad116, e116, hx116_0⟩ := Kd.at_int (Kd.R_reads' HO_83.out).2.2 x85_3 p116 q116
                 obtain rfl : ad114 = ad116 := (by injection e116)
                 replace p116 := eq_true p116
                 replace q116 := eq_true q116
                 go_wp2
                 repeat (go_quiet (fail); try go_wp2)
                 go_roundg k3
                 case measure => have := HK1.out; have := HK2.out; have := HK3.out; omega
                 case rel => exact ⟨(wrap64 (x85_3 + 1)), (x116000_3), (u116000), rS, H', ⟨by have := HK1.out; have := HK2.out; have := HK3.out; omega⟩, ⟨by (with_reducible repeat (first | apply rA | apply rN | apply rD)); exact HO_5.out⟩, ⟨by (with_reducible repeat (first | apply Kd.S_alloc | apply Kd.S_drewN | apply Kd.S_drew)); exact HO_10.out⟩, ⟨by (with_reducible repeat (first | apply rA | apply rN | apply rD)); exact HO_73.out⟩, ⟨by (with_reducible repeat (first | apply rA | apply rN | apply rD)); exact HO_83.out⟩, ⟨by (with_reducible repeat (first | apply rA | apply rN | apply rD)); exact HO_116000.out⟩, ⟨by (with_reducible repeat (first | refine bN ?_ _ | refine bD ?_ | refine bA ?_ _)); exact BK101.out⟩, ⟨by (with_reducible repeat (first | refine bN ?_ _ | refine bD ?_ | refine bA ?_ _)); exact BK115.out⟩, ⟨by repeat (first | (with_reducible first | exact HB.out | apply wA | apply wN | apply wD | refine below_set ?_ GE101.out | refine below_set ?_ GE115.out) | exact HB.out)⟩⟩
               ·rw [if_neg c51] at H
                exact absurd H (by simp)
              ·rw [if_neg c50] at H
               exact absurd H (by simp)
             ·rw [if_neg c49] at H
              have c49b0 : decide (x85_3 < (x5_1.length : Int)) = false := decide_eq_false c49
              clear c49
              have H' := Aside0.mk H
              clear H
              have hnb59 := NB101_115.out
              have hnc59 := NB115_101.out
              have hcz60_0 : wr.cell? ⟨gb101, 0, none⟩ = some (.slice A0_0 l0_0.length c0_0) := (blk_cell BK101.out 0).trans rfl
              have hcz60_1 : wr.cell? ⟨gb101, 1, none⟩ = some (.slice A0_1 l0_1.length c0_1) := (blk_cell BK101.out 1).trans rfl
              have hfz60_0 := blk_frozen BK101.out 0
              have hfz60_1 := blk_frozen BK101.out 1
              go_wp2
              repeat (go_quiet (fail); try go_wp2)
              go_loopg [103] k3 (fun kq v103 w' => ∃ (x103_4 : Int) (x116001_4 : List Int) (u116001 : Value), v103 = .int .i64 x103_4 ∧ Aside0 (graph_Components.l4 kq x5_1 x10_2 x75_2 x5_1 (x5_1.length : Int) x75_2 l0_1 (l0_1.length : Int) x103_4 l0_0 l0_1 x116000_3 x116001_4 = some (r1, r2)) ∧ Aside0 (kq ≤ k3) ∧ Aside0 (Kd.R (Kd.int .i64) 3 w' w.heap.size (fun k_ => some k_ ≠ (u116000 : Value).ownBlock ∧ some k_ ≠ (u116001 : Value).ownBlock) (.slice (some ad114) x5_1.length co43) x5_1) ∧ Aside0 (Kd.S k64 64 w' w.heap.size (fun k_ => some k_ ≠ ((.slice (some ad114) x5_1.length co43) : Value).ownBlock ∧ some k_ ≠ ((.slice (some ad114) x5_1.length co43) : Value).ownBlock ∧ some k_ ≠ (u116000 : Value).ownBlock ∧ some k_ ≠ (u116001 : Value).ownBlock ∧ k_ ≠ gb115) u10 x10_2) ∧ Aside0 (Kd.R (Kd.int .i64) 3 w' w.heap.size (fun k_ => some k_ ≠ (u116000 : Value).ownBlock ∧ some k_ ≠ (u116001 : Value).ownBlock) (.slice (some ad114) x5_1.length co43) x5_1) ∧ Aside0 (Kd.R (Kd.int .i64) 3 w' w.heap.size (fun k_ => some k_ ≠ ((.slice (some ad114) x5_1.length co43) : Value).ownBlock ∧ some k_ ≠ ((.slice (some ad114) x5_1.length co43) : Value).ownBlock ∧ some k_ ≠ (u116001 : Value).ownBlock) u116000 x116000_3) ∧ Aside0 (Kd.R (Kd.int .i64) 3 w' w.heap.size (fun k_ => some k_ ≠ ((.slice (some ad114) x5_1.length co43) : Value).ownBlock ∧ some k_ ≠ ((.slice (some ad114) x5_1.length co43) : Value).ownBlock ∧ some k_ ≠ (u116000 : Value).ownBlock) u116001 x116001_4) ∧ Aside0 (w'.heap[gb101]? = some (.cells #[(.slice A0_0 l0_0.length c0_0), (.slice A0_1 l0_1.length c0_1)] 25 (0, 0))) ∧ Aside0 (w'.heap[gb115]? = some (.cells #[u116000, u116001] 64 (0, 0))) ∧ Aside0 (Below w.heap.size w w'))
              case atStart => exact ⟨(0), (([] : List Int)), (.slice none 0 0), rS, H', ⟨Nat.le_refl _⟩, ⟨by (with_reducible repeat (first | apply rA | apply rN | apply rD)); exact Kd.R_mono HO_5.out (fun _ hk => ⟨hk, (by simp [Value.ownBlock])⟩)⟩, ⟨by (with_reducible repeat (first | apply Kd.S_alloc | apply Kd.S_drewN | apply Kd.S_drew)); exact Kd.S_mono HO_10.out (fun _ hk => ⟨hk.1, ⟨hk.2.1, ⟨hk.2.2.2.1, ⟨(by simp [Value.ownBlock]), hk.2.2.2.2⟩⟩⟩⟩)⟩, ⟨by (with_reducible repeat (first | apply rA | apply rN | apply rD)); exact Kd.R_mono HO_73.out (fun _ hk => ⟨hk, (by simp [Value.ownBlock])⟩)⟩, ⟨by (with_reducible repeat (first | apply rA | apply rN | apply rD)); exact Kd.R_mono HO_116000.out (fun _ hk => ⟨hk.1, ⟨hk.2.1, (by simp [Value.ownBlock])⟩⟩)⟩, ⟨by first | exact Kd.R_nil _ _ _ _ _ | exact Kd.N_nil _ _ _ _ _ | exact Kd.V_nil _ _ _ _ _ | exact Kd.Q_nil _ _ _ _ _ | exact Kd.S_nil _ _ _ _ _⟩, ⟨by (with_reducible repeat (first | refine bN ?_ _ | refine bD ?_ | refine bA ?_ _)); exact BK101.out⟩, ⟨by (with_reducible repeat (first | refine bN ?_ _ | refine bD ?_ | refine bA ?_ _)); exact BK115.out⟩, ⟨by repeat (first | (with_reducible first | exact HB.out | apply wA | apply wN | apply wD | refine below_set ?_ GE101.out | refine below_set ?_ GE115.out) | exact HB.out)⟩⟩
              case round =>
               clear H'
               try clear c1
               try clear c2
               try clear p2
               try clear q2
               try clear hx2
               try clear c3
               try clear c3b0
               try clear c3b1
               try clear p3
               try clear q3
               try clear hx3
               try clear hf3
               try clear c4
               try clear c5
               try clear p6
               try clear c10
               try clear c12
               try clear c12b0
               try clear c13
               try clear c13b0
               try clear c14
               try clear c14b0
               try clear c15
               try clear c15b0
               try clear c16
               try clear c16b0
               try clear c17
               try clear c17b0
               try clear c18
               try clear c18b0
               try clear c20
               try clear p20
               try clear q20
               try clear hx20
               try clear c22
               try clear c25
               try clear c25b0
               try clear c25b1
               try clear c26
               try clear c28
               try clear c30
               try clear c31
               try clear c31b0
               try clear c32
               try clear c32b0
               try clear p33
               try clear q33
               try clear hx33
               try clear hf33
               try clear c34
               try clear c34b0
               try clear c35
               try clear c35b0
               try clear p36
               try clear q36
               try clear hx36
               try clear hf36
               try clear c37
               try clear c44
               try clear c44b0
               try clear c45
               try clear c45b0
               try clear c46
               try clear c46b0
               try clear c47
               try clear c47b0
               try clear c47b1
               try clear c49
               try clear c49b0
               try clear c50
               try clear c50b0
               try clear c51
               try clear c51b0
               try clear c52
               try clear c52b0
               try clear c52b1
               try clear c53
               try clear c54
               try clear c59
               try clear hcz11_0
               try clear hcz11_1
               try clear hcz23_0
               try clear hcz23_1
               try clear hcz23_2
               try clear hcz27_0
               try clear hcz27_1
               try clear hcz27_2
               try clear hcz29_0
               try clear hcz29_1
               try clear hcz29_2
               try clear hcz38_0
               try clear hcz38_1
               try clear hcz38_2
               try clear hcz55_0
               try clear hcz55_1
               try clear hcz58_0
               try clear hcz58_1
               try clear hcz60_0
               try clear hcz60_1
               try clear hcz6_0
               try clear hcz6_1
               try clear hcz8_0
               try clear hcz8_1
               try clear hfz11_0
               try clear hfz11_1
               try clear hfz23_0
               try clear hfz23_1
               try clear hfz23_2
               try clear hfz27_0
               try clear hfz27_1
               try clear hfz27_2
               try clear hfz29_0
               try clear hfz29_1
               try clear hfz29_2
               try clear hfz38_0
               try clear hfz38_1
               try clear hfz38_2
               try clear hfz55_0
               try clear hfz55_1
               try clear hfz58_0
               try clear hfz58_1
               try clear hfz60_0
               try clear hfz60_1
               try clear hfz6_0
               try clear hfz6_1
               try clear hfz8_0
               try clear hfz8_1
               try clear hx106_0
               try clear hx106_1
               try clear hx106_2
               try clear hx108_0
               try clear hx109_0
               try clear hx110_0
               try clear hx111_0
               try clear hx114_0
               try clear hx116_0
               try clear hx33_0
               try clear hx36_0
               try clear p2
               try clear p20
               try clear p106
               try clear p108
               try clear p109
               try clear p110
               try clear p111
               try clear p114
               try clear p116
               try clear p3
               try clear p33
               try clear p36
               try clear p6
               try clear q2
               try clear q20
               try clear q106
               try clear q108
               try clear q109
               try clear q110
               try clear q111
               try clear q114
               try clear q116
               try clear q3
               try clear q33
               try clear q36
               obtain ⟨x103_4, x116001_4, u116001, rfl, HA, HK4, HO_5, HO_10, HO_73, HO_116000, HO_116001, BK101, BK115, HB⟩ := hrel
               cases gk with
               | zero => exact absurd HA.out (by simp [graph_Components.l4])
               | succ k4 =>
                have H := HA.out
                clear HA
                simp only [graph_Components.l4] at H
                by_cases c61 : x103_4 < (l0_1.length : Int)
                ·rw [if_pos c61] at H
                 have c61b0 : decide (x103_4 < (l0_1.length : Int)) = true := decide_eq_true c61
                 clear c61
                 by_cases c62 : 0 ≤ x103_4
                 ·rw [if_pos c62] at H
                  have c62b0 : decide (0 ≤ x103_4) = true := decide_eq_true c62
                  clear c62
                  by_cases c63 : x103_4 < (l0_1.length : Int)
                  ·rw [if_pos c63] at H
                   have c63b0 : decide (x103_4 < (l0_1.length : Int)) = true := decide_eq_true c63
                   clear c63
                   by_cases c64 : 0 ≤ ((rd_T38 l0_1 x103_4).f1)
                   ·rw [if_pos c64] at H
                    have c64b0 : decide (0 ≤ ((rd_T38 l0_1 x103_4).f1)) = true := decide_eq_true c64
                    clear c64
                    by_cases c65 : ((rd_T38 l0_1 x103_4).f1) < (x5_1.length : Int)
                    ·rw [if_pos c65] at H
                     have c65b0 : decide (((rd_T38 l0_1 x103_4).f1) < (x5_1.length : Int)) = true := decide_eq_true c65
                     clear c65
                     by_cases c66 : (rd x5_1 ((rd_T38 l0_1 x103_4).f1)) = x75_2
                     ·rw [if_pos c66] at H
                      have c66b0 : ((rd x5_1 ((rd_T38 l0_1 x103_4).f1)) == x75_2) = true := beq_iff_eq.mpr c66
                      have c66b1 : ((rd x5_1 ((rd_T38 l0_1 x103_4).f1)) != x75_2) = false := bne_eq_false_iff_eq.mpr c66
                      clear c66
                      by_cases c67 : x116001_4.length < 17592186044416
                      ·rw [if_pos c67] at H
                       have LMc67 := Aside0.mk c67
                       clear c67
                       obtain ⟨y126, hy126⟩ : ∃ y_ : List Int, y_ = (x116001_4 ++ [x103_4]) := ⟨_, rfl⟩
                       replace H : (graph_Components.l4 k4 x5_1 x10_2 x75_2 x5_1 (x5_1.length : Int) x75_2 l0_1 (l0_1.length : Int) (wrap64 (x103_4 + 1)) l0_0 l0_1 x116000_3 y126) = some (r1, r2) := by first | (rw [hy126]; with_reducible exact H) | (have H2_ := (Option.bind_some _ _).symm.trans H; rw [hy126]; with_reducible exact H2_) | (have H2_ := (Option.bind_some _ _).symm.trans H; with_reducible exact H2_) | with_reducible exact H | (rw [hy126]; exact H) | exact H
                       have Ny126 := Aside0.mk hy126
                       clear hy126
                       have H' := Aside0.mk H
                       clear H
                       have p123 : 0 ≤ (x103_4 : Int) := oT
                       have q123 : x103_4 < (l0_1.length : Int) := oT
                       obtain ⟨ad123, e123, hx123_0, hx123_1, hx123_2⟩ := at_T38 HR0_1.out x103_4 p123 q123
                       cases e123
                       replace hx123_0 := (HB.out.cell (World.block_lt_of_cell? w _ hx123_0)).trans hx123_0
                       replace hx123_1 := (HB.out.cell (World.block_lt_of_cell? w _ hx123_1)).trans hx123_1
                       replace hx123_2 := (HB.out.cell (World.block_lt_of_cell? w _ hx123_2)).trans hx123_2
                       replace p123 := eq_true p123
                       replace q123 := eq_true q123
                       iterate 3 (try (go_wp2_with (first | ((with_reducible refine gate_dst (N := 17) rfl ?_); refine box_event ?hg (N := 17) ?hd (cs := #[.int .i64 0, .int .i64 0, .int .i64 0]) (t := 38) ?hr ?_; (case hd => rfl); (case hg => rfl); (case hr => first | (go_simp; done) | (go_simp; rfl)); intro gb124 hg w68 hbox hb; have n0_ := Aside0.mk (rB (by (with_reducible repeat (first | apply rA | apply rN | apply rD)); exact HO_5.out) hb); have n1_ := Aside0.mk (Kd.S_below (by (with_reducible repeat (first | apply Kd.S_alloc | apply Kd.S_drewN | apply Kd.S_drew)); exact HO_10.out) hb); have n2_ := Aside0.mk (rB (by (with_reducible repeat (first | apply rA | apply rN | apply rD)); exact HO_73.out) hb); have n3_ := Aside0.mk (rB (by (with_reducible repeat (first | apply rA | apply rN | apply rD)); exact HO_116000.out) hb); have n4_ := Aside0.mk (rB (by (with_reducible repeat (first | apply rA | apply rN | apply rD)); exact HO_116001.out) hb); have n5_ := Aside0.mk (bB (g := gb101) (o := .cells #[.slice A0_0 l0_0.length c0_0, .slice (some ad123) l0_1.length c0_1] 25 (0, 0)) (by (with_reducible repeat (first | refine bN ?_ _ | refine bD ?_ | refine bA ?_ _)); exact BK101.out) hb); have n6_ := Aside0.mk (bB (g := gb115) (o := .cells #[u116000, u116001] 64 (0, 0)) (by (with_reducible repeat (first | refine bN ?_ _ | refine bD ?_ | refine bA ?_ _)); exact BK115.out) hb); have n7_ := Aside0.mk (wS (by repeat (first | (with_reducible first | exact HB.out | apply wA | apply wN | apply wD | refine below_set ?_ GE101.out | refine below_set ?_ GE115.out) | exact HB.out)) hb); have n8_ := Aside0.mk (hbox); have n9_ := Aside0.mk ((by rw [hg]; exact (below_size (by repeat (first | (with_reducible first | exact HB.out | apply wA | apply wN | apply wD | refine below_set ?_ GE101.out | refine below_set ?_ GE115.out) | exact HB.out))) : w.heap.size ≤ gb124)); have n10_ := Aside0.mk ((by rw [hg]; exact (below_size (by repeat (first | (with_reducible first | exact HB.out | apply wA | apply wN | apply wD | refine below_set ?_ GE101.out | refine below_set ?_ GE115.out) | exact HB.out))) : w.heap.size ≤ gb124)); have n11_ := Aside0.mk ((by rw [hg]; exact Nat.ne_of_lt (blk_lt (g := gb101) (o := .cells #[.slice A0_0 l0_0.length c0_0, .slice (some ad123) l0_1.length c0_1] 25 (0, 0)) (by (with_reducible repeat (first | refine bN ?_ _ | refine bD ?_ | refine bA ?_ _)); exact BK101.out)) : gb101 ≠ gb124)); have n12_ := Aside0.mk ((by rw [hg]; exact Nat.ne_of_gt (blk_lt (g := gb101) (o := .cells #[.slice A0_0 l0_0.length c0_0, .slice (some ad123) l0_1.length c0_1] 25 (0, 0)) (by (with_reducible repeat (first | refine bN ?_ _ | refine bD ?_ | refine bA ?_ _)); exact BK101.out)) : gb124 ≠ gb101)); have n13_ := Aside0.mk ((by rw [hg]; exact Nat.ne_of_lt (blk_lt (g := gb115) (o := .cells #[u116000, u116001] 64 (0, 0)) (by (with_reducible repeat (first | refine bN ?_ _ | refine bD ?_ | refine bA ?_ _)); exact BK115.out)) : gb115 ≠ gb124)); have n14_ := Aside0.mk ((by rw [hg]; exact Nat.ne_of_gt (blk_lt (g := gb115) (o := .cells #[u116000, u116001] 64 (0, 0)) (by (with_reducible repeat (first | refine bN ?_ _ | refine bD ?_ | refine bA ?_ _)); exact BK115.out)) : gb124 ≠ gb115)); clear HO_5; clear HO_10; clear HO_73; clear HO_116000; clear HO_116001; clear BK101; clear BK115; clear HB; have HO_5 := n0_; have HO_10 := n1_; have HO_73 := n2_; have HO_116000 := n3_; have HO_116001 := n4_; have BK101 := n5_; have BK115 := n6_; have HB := n7_; have BK124 := n8_; have GW124 := n9_; have GE124 := n10_; have NB101_124 := n11_; have NB124_101 := n12_; have NB115_124 := n13_; have NB124_115 := n14_; clear n0_ n1_ n2_ n3_ n4_ n5_ n6_ n7_ n8_ n9_ n10_ n11_ n12_ n13_ n14_; clear hb hbox hg; have hnb69 := NB124_101.out; have hnc69 := NB101_124.out; have hnb70 := NB124_115.out; have hnc70 := NB115_124.out; have hcz71_0 : w68.cell? ⟨gb124, 0, none⟩ = some (.int .i64 0) := (blk_cell BK124.out 0).trans rfl; have hcz71_1 : w68.cell? ⟨gb124, 1, none⟩ = some (.int .i64 0) := (blk_cell BK124.out 1).trans rfl; have hcz71_2 : w68.cell? ⟨gb124, 2, none⟩ = some (.int .i64 0) := (blk_cell BK124.out 2).trans rfl; have hfz71_0 := blk_frozen BK124.out 0; have hfz71_1 := blk_frozen BK124.out 1; have hfz71_2 := blk_frozen BK124.out 2; have p125 : 0 ≤ (((rd_T38 l0_1 x103_4).f1) : Int) := oT; have q125 : ((rd_T38 l0_1 x103_4).f1) < (x5_1.length : Int) := oT; obtain ⟨ad125, e125, hx125_0⟩ := Kd.at_int (Kd.R_reads' HO_5.out).2.2 ((rd_T38 l0_1 x103_4).f1) p125 q125; obtain rfl : ad114 = ad125 := (by injection e125); have hn125_0 : ad114.block ≠ gb124 := Kd.own_blk (Kd.R_ne HO_5.out BK124.out (by decide)); have hn125_1 : ad114.block ≠ gb124 := Kd.own_blk (Kd.R_ne HO_5.out BK124.out (by decide)); have hn125_2 : ad114.block ≠ gb124 := Kd.own_blk (Kd.R_ne HO_5.out BK124.out (by decide)); replace hx125_0 := (cell_far (p := ⟨gb124, 0, none⟩) (by first | (rw [add_block]; exact hn125_0) | (show (Addr.add _ _).block ≠ _; rw [add_block]; exact hn125_0) | exact hn125_0) (.int .i64 ((rd_T38 l0_1 x103_4).f0))).trans hx125_0; replace hx125_0 := (cell_far (p := ⟨gb124, 1, none⟩) (by first | (rw [add_block]; exact hn125_1) | (show (Addr.add _ _).block ≠ _; rw [add_block]; exact hn125_1) | exact hn125_1) (.int .i64 ((rd_T38 l0_1 x103_4).f1))).trans hx125_0; replace hx125_0 := (cell_far (p := ⟨gb124, 2, none⟩) (by first | (rw [add_block]; exact hn125_2) | (show (Addr.add _ _).block ≠ _; rw [add_block]; exact hn125_2) | exact hn125_2) (.int .i64 ((rd_T38 l0_1 x103_4).f2))).trans hx125_0; (try have hy125_0 := fun (n_ : Nat) => (show (((((w68.drewN n_).setCell ⟨gb124, 0, none⟩ (.int .i64 ((rd_T38 l0_1 x103_4).f0))).setCell ⟨gb124, 1, none⟩ (.int .i64 ((rd_T38 l0_1 x103_4).f1))).setCell ⟨gb124, 2, none⟩ (.int .i64 ((rd_T38 l0_1 x103_4).f2)))).cell? _ = some _ from hx125_0)); clear hn125_0; clear hn125_1; clear hn125_2; replace p125 := eq_true p125; replace q125 := eq_true q125; have hnb72 := NB115_101.out; have hnc72 := NB101_115.out; have hcz73_0 : w68.cell? ⟨gb115, 0, none⟩ = some (u116000) := (blk_cell BK115.out 0).trans rfl; have hcz73_1 : w68.cell? ⟨gb115, 1, none⟩ = some (u116001) := (blk_cell BK115.out 1).trans rfl; have hfz73_0 := blk_frozen BK115.out 0; have hfz73_1 := blk_frozen BK115.out 1) | ((with_reducible refine gate_builtin (b := .append) (xs := #[.tmp 116, .tmp 118]) rfl ?_); at_builtin; refine Kd.R_append (Kd.int .i64) (w0 := w) w.heap.size rfl (.tmp 116) (.tmp 118) 22 3 (.int .i64 0) 8 rfl Try.underlying22 info3 rfl (by decide) (by omega) u116001 x116001_4 x103_4 [.int .i64 x103_4] (fun k_ => some k_ ≠ (.slice (some ad114) x5_1.length co43 : Value).ownBlock ∧ some k_ ≠ (.slice (some ad114) x5_1.length co43 : Value).ownBlock ∧ some k_ ≠ (u116000 : Value).ownBlock) (fun _ => False) rfl (by first | (go_simp; done) | (go_simp; rfl)) ?aP (fun _ hk => hk.elim) ?aF ?aO ?aB ?aS ?aL ?_; (case aP => exact rfl); (case aB => exact (by repeat (first | (with_reducible first | exact HB.out | apply wA | apply wN | apply wD | refine below_set ?_ GE101.out | refine below_set ?_ GE115.out | refine below_set ?_ GE124.out) | exact HB.out))); (case aF => exact (fun k_ hk => ⟨Kd.fresh' (Kd.R_lt (by (with_reducible repeat (first | apply rA | apply rN | apply rD)); exact (Kd.R_mono (Kd.R_far (p := ⟨gb124, 2, none⟩) (Kd.R_far (p := ⟨gb124, 1, none⟩) (Kd.R_far (p := ⟨gb124, 0, none⟩) (Kd.R_types HO_5.out BK124.out (by decide)) (fun _ hk => hk.2) (.int .i64 ((rd_T38 l0_1 x103_4).f0))) (fun _ hk => hk.2) (.int .i64 ((rd_T38 l0_1 x103_4).f1))) (fun _ hk => hk.2) (.int .i64 ((rd_T38 l0_1 x103_4).f2))) (fun _ h_ => h_.1)))) k_ hk, Kd.fresh' (Kd.R_lt (by (with_reducible repeat (first | apply rA | apply rN | apply rD)); exact (Kd.R_mono (Kd.R_far (p := ⟨gb124, 2, none⟩) (Kd.R_far (p := ⟨gb124, 1, none⟩) (Kd.R_far (p := ⟨gb124, 0, none⟩) (Kd.R_types HO_73.out BK124.out (by decide)) (fun _ hk => hk.2) (.int .i64 ((rd_T38 l0_1 x103_4).f0))) (fun _ hk => hk.2) (.int .i64 ((rd_T38 l0_1 x103_4).f1))) (fun _ hk => hk.2) (.int .i64 ((rd_T38 l0_1 x103_4).f2))) (fun _ h_ => h_.1)))) k_ hk, Kd.fresh' (Kd.R_lt (by (with_reducible repeat (first | apply rA | apply rN | apply rD)); exact (Kd.R_mono (Kd.R_far (p := ⟨gb124, 2, none⟩) (Kd.R_far (p := ⟨gb124, 1, none⟩) (Kd.R_far (p := ⟨gb124, 0, none⟩) (Kd.R_types HO_116000.out BK124.out (by decide)) (fun _ hk => hk.2) (.int .i64 ((rd_T38 l0_1 x103_4).f0))) (fun _ hk => hk.2) (.int .i64 ((rd_T38 l0_1 x103_4).f1))) (fun _ hk => hk.2) (.int .i64 ((rd_T38 l0_1 x103_4).f2))) (fun _ h_ => h_.1)))) k_ hk⟩)); (case aO => exact (by (with_reducible repeat (first | apply rA | apply rN | apply rD)); exact Kd.R_mono (Kd.R_far (p := ⟨gb124, 2, none⟩) (Kd.R_far (p := ⟨gb124, 1, none⟩) (Kd.R_far (p := ⟨gb124, 0, none⟩) (Kd.R_types HO_116001.out BK124.out (by decide)) (fun _ hk => hk.2) (.int .i64 ((rd_T38 l0_1 x103_4).f0))) (fun _ hk => hk.2) (.int .i64 ((rd_T38 l0_1 x103_4).f1))) (fun _ hk => hk.2) (.int .i64 ((rd_T38 l0_1 x103_4).f2))) (fun _ hk => ⟨hk.1.1, ⟨hk.1.2.1, hk.1.2.2⟩⟩))); (case aS => exact (below_size (by repeat (first | (with_reducible first | exact HB.out | apply wA | apply wN | apply wD | refine below_set ?_ GE101.out | refine below_set ?_ GE115.out | refine below_set ?_ GE124.out) | exact HB.out)))); (case aL => have := LMc67.out; omega); intro v127 w74 ho hb hg hat; rw [← Ny126.out] at ho; have n0_ := Aside0.mk (Kd.R_after (ok := (fun k_ => some k_ ≠ (u116000 : Value).ownBlock)) (by (with_reducible repeat (first | apply rA | apply rN | apply rD)); exact Kd.R_mono (Kd.R_far (p := ⟨gb124, 2, none⟩) (Kd.R_far (p := ⟨gb124, 1, none⟩) (Kd.R_far (p := ⟨gb124, 0, none⟩) (Kd.R_types HO_5.out BK124.out (by decide)) (fun _ hk => hk.2) (.int .i64 ((rd_T38 l0_1 x103_4).f0))) (fun _ hk => hk.2) (.int .i64 ((rd_T38 l0_1 x103_4).f1))) (fun _ hk => hk.2) (.int .i64 ((rd_T38 l0_1 x103_4).f2))) (fun _ hk => ⟨hk.1.1, hk.1.2⟩)) hg hat); have n1_ := Aside0.mk (Kd.S_after (ok := (fun k_ => some k_ ≠ (.slice (some ad114) x5_1.length co43 : Value).ownBlock ∧ some k_ ≠ (.slice (some ad114) x5_1.length co43 : Value).ownBlock ∧ some k_ ≠ (u116000 : Value).ownBlock ∧ k_ ≠ gb115)) (by (with_reducible repeat (first | apply Kd.S_alloc | apply Kd.S_drewN | apply Kd.S_drew)); exact Kd.S_mono (Kd.S_far (p := ⟨gb124, 2, none⟩) (Kd.S_far (p := ⟨gb124, 1, none⟩) (Kd.S_far (p := ⟨gb124, 0, none⟩) (Kd.S_types HO_10.out BK124.out (by decide)) (fun _ hk => hk.2) (.int .i64 ((rd_T38 l0_1 x103_4).f0))) (fun _ hk => hk.2) (.int .i64 ((rd_T38 l0_1 x103_4).f1))) (fun _ hk => hk.2) (.int .i64 ((rd_T38 l0_1 x103_4).f2))) (fun _ hk => ⟨⟨hk.1.1, ⟨hk.1.2.1, ⟨hk.1.2.2.1, hk.1.2.2.2.2⟩⟩⟩, hk.1.2.2.2.1⟩)) hg hat); have n2_ := Aside0.mk (Kd.R_after (ok := (fun k_ => some k_ ≠ (u116000 : Value).ownBlock)) (by (with_reducible repeat (first | apply rA | apply rN | apply rD)); exact Kd.R_mono (Kd.R_far (p := ⟨gb124, 2, none⟩) (Kd.R_far (p := ⟨gb124, 1, none⟩) (Kd.R_far (p := ⟨gb124, 0, none⟩) (Kd.R_types HO_73.out BK124.out (by decide)) (fun _ hk => hk.2) (.int .i64 ((rd_T38 l0_1 x103_4).f0))) (fun _ hk => hk.2) (.int .i64 ((rd_T38 l0_1 x103_4).f1))) (fun _ hk => hk.2) (.int .i64 ((rd_T38 l0_1 x103_4).f2))) (fun _ hk => ⟨hk.1.1, hk.1.2⟩)) hg hat); have n3_ := Aside0.mk (Kd.R_after (ok := (fun k_ => some k_ ≠ (.slice (some ad114) x5_1.length co43 : Value).ownBlock ∧ some k_ ≠ (.slice (some ad114) x5_1.length co43 : Value).ownBlock)) (by (with_reducible repeat (first | apply rA | apply rN | apply rD)); exact Kd.R_mono (Kd.R_far (p := ⟨gb124, 2, none⟩) (Kd.R_far (p := ⟨gb124, 1, none⟩) (Kd.R_far (p := ⟨gb124, 0, none⟩) (Kd.R_types HO_116000.out BK124.out (by decide)) (fun _ hk => hk.2) (.int .i64 ((rd_T38 l0_1 x103_4).f0))) (fun _ hk => hk.2) (.int .i64 ((rd_T38 l0_1 x103_4).f1))) (fun _ hk => hk.2) (.int .i64 ((rd_T38 l0_1 x103_4).f2))) (fun _ hk => ⟨⟨hk.1.1, hk.1.2.1⟩, hk.1.2.2⟩)) hg hat); have n4_ := Aside0.mk (bG (g := gb101) (o := .cells #[.slice A0_0 l0_0.length c0_0, .slice (some ad123) l0_1.length c0_1] 25 (0, 0)) (by (with_reducible repeat (first | refine bN ?_ _ | refine bD ?_ | refine bA ?_ _)); refine blk_far ?_ NB101_124.out _; (with_reducible repeat (first | refine bN ?_ _ | refine bD ?_ | refine bA ?_ _)); refine blk_far ?_ NB101_124.out _; (with_reducible repeat (first | refine bN ?_ _ | refine bD ?_ | refine bA ?_ _)); refine blk_far ?_ NB101_124.out _; (with_reducible repeat (first | refine bN ?_ _ | refine bD ?_ | refine bA ?_ _)); exact BK101.out) hg (Kd.R_ne HO_116001.out BK101.out (by decide))); have n5_ := Aside0.mk (bG (g := gb115) (o := .cells #[u116000, u116001] 64 (0, 0)) (by (with_reducible repeat (first | refine bN ?_ _ | refine bD ?_ | refine bA ?_ _)); refine blk_far ?_ NB115_124.out _; (with_reducible repeat (first | refine bN ?_ _ | refine bD ?_ | refine bA ?_ _)); refine blk_far ?_ NB115_124.out _; (with_reducible repeat (first | refine bN ?_ _ | refine bD ?_ | refine bA ?_ _)); refine blk_far ?_ NB115_124.out _; (with_reducible repeat (first | refine bN ?_ _ | refine bD ?_ | refine bA ?_ _)); exact BK115.out) hg (Kd.R_ne HO_116001.out BK115.out (by decide))); have n6_ := Aside0.mk (bG (g := gb124) (o := .cells #[.int .i64 ((rd_T38 l0_1 x103_4).f0), .int .i64 ((rd_T38 l0_1 x103_4).f1), .int .i64 ((rd_T38 l0_1 x103_4).f2)] 38 (0, 0)) (by (with_reducible repeat (first | refine bN ?_ _ | refine bD ?_ | refine bA ?_ _)); refine blk_put (cs := #[.int .i64 ((rd_T38 l0_1 x103_4).f0), .int .i64 ((rd_T38 l0_1 x103_4).f1), .int .i64 0]) ?_ 2 _ rfl; (with_reducible repeat (first | refine bN ?_ _ | refine bD ?_ | refine bA ?_ _)); refine blk_put (cs := #[.int .i64 ((rd_T38 l0_1 x103_4).f0), .int .i64 0, .int .i64 0]) ?_ 1 _ rfl; (with_reducible repeat (first | refine bN ?_ _ | refine bD ?_ | refine bA ?_ _)); refine blk_put (cs := #[.int .i64 0, .int .i64 0, .int .i64 0]) ?_ 0 _ rfl; (with_reducible repeat (first | refine bN ?_ _ | refine bD ?_ | refine bA ?_ _)); exact BK124.out) hg (Kd.R_ne HO_116001.out BK124.out (by decide))); have n7_ := Aside0.mk (hb); have n8_ := Aside0.mk (ho); clear HO_5; clear HO_10; clear HO_73; clear HO_116000; clear BK101; clear BK115; clear BK124; clear HB; clear HO_116001; have HO_5 := n0_; have HO_10 := n1_; have HO_73 := n2_; have HO_116000 := n3_; have BK101 := n4_; have BK115 := n5_; have BK124 := n6_; have HB := n7_; have HO128 := n8_; clear n0_ n1_ n2_ n3_ n4_ n5_ n6_ n7_ n8_; clear ho hb hg hat; obtain ⟨Ao75, co75, eo75⟩ := Kd.R_slice HO128.out; subst eo75; have hcz76_0 : w74.cell? ⟨gb115, 0, none⟩ = some (u116000) := (blk_cell BK115.out 0).trans rfl; have hcz76_1 : w74.cell? ⟨gb115, 1, none⟩ = some (u116001) := (blk_cell BK115.out 1).trans rfl; have hfz76_0 := blk_frozen BK115.out 0; have hfz76_1 := blk_frozen BK115.out 1))); try (go_quiet (fail)))
                       go_roundg k4
                       case measure => have := HK1.out; have := HK2.out; have := HK3.out; have := HK4.out; omega
                       case rel => exact ⟨(wrap64 (x103_4 + 1)), (y126), (.slice Ao75 y126.length co75), rS, H', ⟨by have := HK1.out; have := HK2.out; have := HK3.out; have := HK4.out; omega⟩, ⟨by (with_reducible repeat (first | apply rA | apply rN | apply rD)); exact Kd.R_mono (Kd.R_far (p := ⟨gb115, 1, none⟩) (Kd.R_types HO_5.out BK115.out (by decide)) (fun _ hk => hk.2) (.slice Ao75 y126.length co75)) (fun _ hk => ⟨hk.1.1, hk.1.2⟩)⟩, ⟨by (with_reducible repeat (first | apply Kd.S_alloc | apply Kd.S_drewN | apply Kd.S_drew)); exact Kd.S_mono (Kd.S_far (p := ⟨gb115, 1, none⟩) (Kd.S_mono HO_10.out (fun k_ hk => (⟨hk, hk.1.2.2.2⟩ : _ ∧ k_ ≠ gb115))) (fun _ hk => hk.2) (.slice Ao75 y126.length co75)) (fun _ hk => ⟨hk.1.1.1, ⟨hk.1.1.2.1, ⟨hk.1.1.2.2.1, ⟨hk.1.2, hk.1.1.2.2.2⟩⟩⟩⟩)⟩, ⟨by (with_reducible repeat (first | apply rA | apply rN | apply rD)); exact Kd.R_mono (Kd.R_far (p := ⟨gb115, 1, none⟩) (Kd.R_types HO_73.out BK115.out (by decide)) (fun _ hk => hk.2) (.slice Ao75 y126.length co75)) (fun _ hk => ⟨hk.1.1, hk.1.2⟩)⟩, ⟨by (with_reducible repeat (first | apply rA | apply rN | apply rD)); exact Kd.R_mono (Kd.R_far (p := ⟨gb115, 1, none⟩) (Kd.R_types HO_116000.out BK115.out (by decide)) (fun _ hk => hk.2) (.slice Ao75 y126.length co75)) (fun _ hk => ⟨hk.1.1.1, ⟨hk.1.1.2, hk.1.2⟩⟩)⟩, ⟨by (with_reducible repeat (first | apply rA | apply rN | apply rD)); exact Kd.R_mono (Kd.R_far (p := ⟨gb115, 1, none⟩) (Kd.R_types HO128.out BK115.out (by decide)) (fun _ hk => hk.2) (.slice Ao75 y126.length co75)) (fun _ hk => ⟨hk.1.1, ⟨hk.1.2.1, hk.1.2.2⟩⟩)⟩, ⟨by (with_reducible repeat (first | refine bN ?_ _ | refine bD ?_ | refine bA ?_ _)); refine blk_far ?_ NB101_115.out _; (with_reducible repeat (first | refine bN ?_ _ | refine bD ?_ | refine bA ?_ _)); exact BK101.out⟩, ⟨by (with_reducible repeat (first | refine bN ?_ _ | refine bD ?_ | refine bA ?_ _)); refine blk_put (cs := #[u116000, u116001]) ?_ 1 _ rfl; (with_reducible repeat (first | refine bN ?_ _ | refine bD ?_ | refine bA ?_ _)); exact BK115.out⟩, ⟨by repeat (first | (with_reducible first | exact HB.out | apply wA | apply wN | apply wD | refine below_set ?_ GE101.out | refine below_set ?_ GE115.out | refine below_set ?_ GE124.out) | exact HB.out)⟩⟩
                      ·rw [if_neg c67] at H
                       exact absurd H (by simp)
                     ·rw [if_neg c66] at H
                      have c66b0 : ((rd x5_1 ((rd_T38 l0_1 x103_4).f1)) == x75_2) = false := beq_eq_false_iff_ne.mpr c66
                      have c66b1 : ((rd x5_1 ((rd_T38 l0_1 x103_4).f1)) != x75_2) = true := bne_iff_ne.mpr c66
                      have H' := Aside0.mk H
                      clear H
                      have p123 : 0 ≤ (x103_4 : Int) := oT
                      have q123 : x103_4 < (l0_1.length : Int) := oT
                      obtain ⟨ad123, e123, hx123_0, hx123_1, hx123_2⟩ := at_T38 HR0_1.out x103_4 p123 q123
                      cases e123
                      replace hx123_0 := (HB.out.cell (World.block_lt_of_cell? w _ hx123_0)).trans hx123_0
                      replace hx123_1 := (HB.out.cell (World.block_lt_of_cell? w _ hx123_1)).trans hx123_1
                      replace hx123_2 := (HB.out.cell (World.block_lt_of_cell? w _ hx123_2)).trans hx123_2
                      replace p123 := eq_true p123
                      replace q123 := eq_true q123
                      iterate 3 (try (go_wp2_with (first | ((with_reducible refine gate_dst (N := 17) rfl ?_); refine box_event ?hg (N := 17) ?hd (cs := #[.int .i64 0, .int .i64 0, .int .i64 0]) (t := 38) ?hr ?_; (case hd => rfl); (case hg => rfl); (case hr => first | (go_simp; done) | (go_simp; rfl)); intro gb124 hg w77 hbox hb; have n0_ := Aside0.mk (rB (by (with_reducible repeat (first | apply rA | apply rN | apply rD)); exact HO_5.out) hb); have n1_ := Aside0.mk (Kd.S_below (by (with_reducible repeat (first | apply Kd.S_alloc | apply Kd.S_drewN | apply Kd.S_drew)); exact HO_10.out) hb); have n2_ := Aside0.mk (rB (by (with_reducible repeat (first | apply rA | apply rN | apply rD)); exact HO_73.out) hb); have n3_ := Aside0.mk (rB (by (with_reducible repeat (first | apply rA | apply rN | apply rD)); exact HO_116000.out) hb); have n4_ := Aside0.mk (rB (by (with_reducible repeat (first | apply rA | apply rN | apply rD)); exact HO_116001.out) hb); have n5_ := Aside0.mk (bB (g := gb101) (o := .cells #[.slice A0_0 l0_0.length c0_0, .slice (some ad123) l0_1.length c0_1] 25 (0, 0)) (by (with_reducible repeat (first | refine bN ?_ _ | refine bD ?_ | refine bA ?_ _)); exact BK101.out) hb); have n6_ := Aside0.mk (bB (g := gb115) (o := .cells #[u116000, u116001] 64 (0, 0)) (by (with_reducible repeat (first | refine bN ?_ _ | refine bD ?_ | refine bA ?_ _)); exact BK115.out) hb); have n7_ := Aside0.mk (wS (by repeat (first | (with_reducible first | exact HB.out | apply wA | apply wN | apply wD | refine below_set ?_ GE101.out | refine below_set ?_ GE115.out) | exact HB.out)) hb); have n8_ := Aside0.mk (hbox); have n9_ := Aside0.mk ((by rw [hg]; exact (below_size (by repeat (first | (with_reducible first | exact HB.out | apply wA | apply wN | apply wD | refine below_set ?_ GE101.out | refine below_set ?_ GE115.out) | exact HB.out))) : w.heap.size ≤ gb124)); have n10_ := Aside0.mk ((by rw [hg]; exact (below_size (by repeat (first | (with_reducible first | exact HB.out | apply wA | apply wN | apply wD | refine below_set ?_ GE101.out | refine below_set ?_ GE115.out) | exact HB.out))) : w.heap.size ≤ gb124)); have n11_ := Aside0.mk ((by rw [hg]; exact Nat.ne_of_lt (blk_lt (g := gb101) (o := .cells #[.slice A0_0 l0_0.length c0_0, .slice (some ad123) l0_1.length c0_1] 25 (0, 0)) (by (with_reducible repeat (first | refine bN ?_ _ | refine bD ?_ | refine bA ?_ _)); exact BK101.out)) : gb101 ≠ gb124)); have n12_ := Aside0.mk ((by rw [hg]; exact Nat.ne_of_gt (blk_lt (g := gb101) (o := .cells #[.slice A0_0 l0_0.length c0_0, .slice (some ad123) l0_1.length c0_1] 25 (0, 0)) (by (with_reducible repeat (first | refine bN ?_ _ | refine bD ?_ | refine bA ?_ _)); exact BK101.out)) : gb124 ≠ gb101)); have n13_ := Aside0.mk ((by rw [hg]; exact Nat.ne_of_lt (blk_lt (g := gb115) (o := .cells #[u116000, u116001] 64 (0, 0)) (by (with_reducible repeat (first | refine bN ?_ _ | refine bD ?_ | refine bA ?_ _)); exact BK115.out)) : gb115 ≠ gb124)); have n14_ := Aside0.mk ((by rw [hg]; exact Nat.ne_of_gt (blk_lt (g := gb115) (o := .cells #[u116000, u116001] 64 (0, 0)) (by (with_reducible repeat (first | refine bN ?_ _ | refine bD ?_ | refine bA ?_ _)); exact BK115.out)) : gb124 ≠ gb115)); clear HO_5; clear HO_10; clear HO_73; clear HO_116000; clear HO_116001; clear BK101; clear BK115; clear HB; have HO_5 := n0_; have HO_10 := n1_; have HO_73 := n2_; have HO_116000 := n3_; have HO_116001 := n4_; have BK101 := n5_; have BK115 := n6_; have HB := n7_; have BK124 := n8_; have GW124 := n9_; have GE124 := n10_; have NB101_124 := n11_; have NB124_101 := n12_; have NB115_124 := n13_; have NB124_115 := n14_; clear n0_ n1_ n2_ n3_ n4_ n5_ n6_ n7_ n8_ n9_ n10_ n11_ n12_ n13_ n14_; clear hb hbox hg; have hnb78 := NB124_101.out; have hnc78 := NB101_124.out; have hnb79 := NB124_115.out; have hnc79 := NB115_124.out; have hcz80_0 : w77.cell? ⟨gb124, 0, none⟩ = some (.int .i64 0) := (blk_cell BK124.out 0).trans rfl; have hcz80_1 : w77.cell? ⟨gb124, 1, none⟩ = some (.int .i64 0) := (blk_cell BK124.out 1).trans rfl; have hcz80_2 : w77.cell? ⟨gb124, 2, none⟩ = some (.int .i64 0) := (blk_cell BK124.out 2).trans rfl; have hfz80_0 := blk_frozen BK124.out 0; have hfz80_1 := blk_frozen BK124.out 1; have hfz80_2 := blk_frozen BK124.out 2; have p125 : 0 ≤ (((rd_T38 l0_1 x103_4).f1) : Int) := oT; have q125 : ((rd_T38 l0_1 x103_4).f1) < (x5_1.length : Int) := oT; obtain ⟨ad125, e125, hx125_0⟩ := Kd.at_int (Kd.R_reads' HO_5.out).2.2 ((rd_T38 l0_1 x103_4).f1) p125 q125; obtain rfl : ad114 = ad125 := (by injection e125); have hn125_0 : ad114.block ≠ gb124 := Kd.own_blk (Kd.R_ne HO_5.out BK124.out (by decide)); have hn125_1 : ad114.block ≠ gb124 := Kd.own_blk (Kd.R_ne HO_5.out BK124.out (by decide)); have hn125_2 : ad114.block ≠ gb124 := Kd.own_blk (Kd.R_ne HO_5.out BK124.out (by decide)); replace hx125_0 := (cell_far (p := ⟨gb124, 0, none⟩) (by first | (rw [add_block]; exact hn125_0) | (show (Addr.add _ _).block ≠ _; rw [add_block]; exact hn125_0) | exact hn125_0) (.int .i64 ((rd_T38 l0_1 x103_4).f0))).trans hx125_0; replace hx125_0 := (cell_far (p := ⟨gb124, 1, none⟩) (by first | (rw [add_block]; exact hn125_1) | (show (Addr.add _ _).block ≠ _; rw [add_block]; exact hn125_1) | exact hn125_1) (.int .i64 ((rd_T38 l0_1 x103_4).f1))).trans hx125_0; replace hx125_0 := (cell_far (p := ⟨gb124, 2, none⟩) (by first | (rw [add_block]; exact hn125_2) | (show (Addr.add _ _).block ≠ _; rw [add_block]; exact hn125_2) | exact hn125_2) (.int .i64 ((rd_T38 l0_1 x103_4).f2))).trans hx125_0; (try have hy125_0 := fun (n_ : Nat) => (show (((((w77.drewN n_).setCell ⟨gb124, 0, none⟩ (.int .i64 ((rd_T38 l0_1 x103_4).f0))).setCell ⟨gb124, 1, none⟩ (.int .i64 ((rd_T38 l0_1 x103_4).f1))).setCell ⟨gb124, 2, none⟩ (.int .i64 ((rd_T38 l0_1 x103_4).f2)))).cell? _ = some _ from hx125_0)); clear hn125_0; clear hn125_1; clear hn125_2; replace p125 := eq_true p125; replace q125 := eq_true q125))); try (go_quiet (fail)))
                      go_roundg k4
                      case measure => have := HK1.out; have := HK2.out; have := HK3.out; have := HK4.out; omega
                      case rel => exact ⟨(wrap64 (x103_4 + 1)), (x116001_4), (u116001), rS, H', ⟨by have := HK1.out; have := HK2.out; have := HK3.out; have := HK4.out; omega⟩, ⟨by (with_reducible repeat (first | apply rA | apply rN | apply rD)); exact Kd.R_mono (Kd.R_far (p := ⟨gb124, 2, none⟩) (Kd.R_far (p := ⟨gb124, 1, none⟩) (Kd.R_far (p := ⟨gb124, 0, none⟩) (Kd.R_types HO_5.out BK124.out (by decide)) (fun _ hk => hk.2) (.int .i64 ((rd_T38 l0_1 x103_4).f0))) (fun _ hk => hk.2) (.int .i64 ((rd_T38 l0_1 x103_4).f1))) (fun _ hk => hk.2) (.int .i64 ((rd_T38 l0_1 x103_4).f2))) (fun _ hk => ⟨hk.1.1, hk.1.2⟩)⟩, ⟨by (with_reducible repeat (first | apply Kd.S_alloc | apply Kd.S_drewN | apply Kd.S_drew)); exact Kd.S_mono (Kd.S_far (p := ⟨gb124, 2, none⟩) (Kd.S_far (p := ⟨gb124, 1, none⟩) (Kd.S_far (p := ⟨gb124, 0, none⟩) (Kd.S_types HO_10.out BK124.out (by decide)) (fun _ hk => hk.2) (.int .i64 ((rd_T38 l0_1 x103_4).f0))) (fun _ hk => hk.2) (.int .i64 ((rd_T38 l0_1 x103_4).f1))) (fun _ hk => hk.2) (.int .i64 ((rd_T38 l0_1 x103_4).f2))) (fun _ hk => ⟨hk.1.1, ⟨hk.1.2.1, ⟨hk.1.2.2.1, ⟨hk.1.2.2.2.1, hk.1.2.2.2.2⟩⟩⟩⟩)⟩, ⟨by (with_reducible repeat (first | apply rA | apply rN | apply rD)); exact Kd.R_mono (Kd.R_far (p := ⟨gb124, 2, none⟩) (Kd.R_far (p := ⟨gb124, 1, none⟩) (Kd.R_far (p := ⟨gb124, 0, none⟩) (Kd.R_types HO_73.out BK124.out (by decide)) (fun _ hk => hk.2) (.int .i64 ((rd_T38 l0_1 x103_4).f0))) (fun _ hk => hk.2) (.int .i64 ((rd_T38 l0_1 x103_4).f1))) (fun _ hk => hk.2) (.int .i64 ((rd_T38 l0_1 x103_4).f2))) (fun _ hk => ⟨hk.1.1, hk.1.2⟩)⟩, ⟨by (with_reducible repeat (first | apply rA | apply rN | apply rD)); exact Kd.R_mono (Kd.R_far (p := ⟨gb124, 2, none⟩) (Kd.R_far (p := ⟨gb124, 1, none⟩) (Kd.R_far (p := ⟨gb124, 0, none⟩) (Kd.R_types HO_116000.out BK124.out (by decide)) (fun _ hk => hk.2) (.int .i64 ((rd_T38 l0_1 x103_4).f0))) (fun _ hk => hk.2) (.int .i64 ((rd_T38 l0_1 x103_4).f1))) (fun _ hk => hk.2) (.int .i64 ((rd_T38 l0_1 x103_4).f2))) (fun _ hk => ⟨hk.1.1, ⟨hk.1.2.1, hk.1.2.2⟩⟩)⟩, ⟨by (with_reducible repeat (first | apply rA | apply rN | apply rD)); exact Kd.R_mono (Kd.R_far (p := ⟨gb124, 2, none⟩) (Kd.R_far (p := ⟨gb124, 1, none⟩) (Kd.R_far (p := ⟨gb124, 0, none⟩) (Kd.R_types HO_116001.out BK124.out (by decide)) (fun _ hk => hk.2) (.int .i64 ((rd_T38 l0_1 x103_4).f0))) (fun _ hk => hk.2) (.int .i64 ((rd_T38 l0_1 x103_4).f1))) (fun _ hk => hk.2) (.int .i64 ((rd_T38 l0_1 x103_4).f2))) (fun _ hk => ⟨hk.1.1, ⟨hk.1.2.1, hk.1.2.2⟩⟩)⟩, ⟨by (with_reducible repeat (first | refine bN ?_ _ | refine bD ?_ | refine bA ?_ _)); refine blk_far ?_ NB101_124.out _; (with_reducible repeat (first | refine bN ?_ _ | refine bD ?_ | refine bA ?_ _)); refine blk_far ?_ NB101_124.out _; (with_reducible repeat (first | refine bN ?_ _ | refine bD ?_ | refine bA ?_ _)); refine blk_far ?_ NB101_124.out _; (with_reducible repeat (first | refine bN ?_ _ | refine bD ?_ | refine bA ?_ _)); exact BK101.out⟩, ⟨by (with_reducible repeat (first | refine bN ?_ _ | refine bD ?_ | refine bA ?_ _)); refine blk_far ?_ NB115_124.out _; (with_reducible repeat (first | refine bN ?_ _ | refine bD ?_ | refine bA ?_ _)); refine blk_far ?_ NB115_124.out _; (with_reducible repeat (first | refine bN ?_ _ | refine bD ?_ | refine bA ?_ _)); refine blk_far ?_ NB115_124.out _; (with_reducible repeat (first | refine bN ?_ _ | refine bD ?_ | refine bA ?_ _)); exact BK115.out⟩, ⟨by repeat (first | (with_reducible first | exact HB.out | apply wA | apply wN | apply wD | refine below_set ?_ GE101.out | refine below_set ?_ GE115.out | refine below_set ?_ GE124.out) | exact HB.out)⟩⟩
                    ·rw [if_neg c65] at H
                     exact absurd H (by simp)
                   ·rw [if_neg c64] at H
                    exact absurd H (by simp)
                  ·rw [if_neg c63] at H
                   exact absurd H (by simp)
                 ·rw [if_neg c62] at H
                  exact absurd H (by simp)
                ·rw [if_neg c61] at H
                 have c61b0 : decide (x103_4 < (l0_1.length : Int)) = false := decide_eq_false c61
                 clear c61
                 by_cases c81 : x10_2.length < 2932031007402
                 ·rw [if_pos c81] at H
                  have LMc81 := Aside0.mk c81
                  clear c81
                  obtain ⟨y120, hy120⟩ : ∃ y_ : List (S64), y_ = (x10_2 ++ [(⟨x116000_3, x116001_4⟩ : S64)]) := ⟨_, rfl⟩
                  replace H : (graph_Components.l2 k4 x5_1 y120 x5_1 (x5_1.length : Int) (wrap64 (x75_2 + 1)) l0_0 l0_1) = some (r1, r2) := by first | (rw [hy120]; with_reducible exact H) | (have H2_ := (Option.bind_some _ _).symm.trans H; rw [hy120]; with_reducible exact H2_) | (have H2_ := (Option.bind_some _ _).symm.trans H; with_reducible exact H2_) | with_reducible exact H | (rw [hy120]; exact H) | exact H
                  have Ny120 := Aside0.mk hy120
                  clear hy120
                  have H' := Aside0.mk H
                  clear H
                  have hnb82 := NB115_101.out
                  have hnc82 := NB101_115.out
                  have hcz83_0 : wr.cell? ⟨gb115, 0, none⟩ = some (u116000) := (blk_cell BK115.out 0).trans rfl
                  have hcz83_1 : wr.cell? ⟨gb115, 1, none⟩ = some (u116001) := (blk_cell BK115.out 1).trans rfl
                  have hfz83_0 := blk_frozen BK115.out 0
                  have hfz83_1 := blk_frozen BK115.out 1
                  obtain ⟨Ao85, co85, eo85⟩ := Kd.R_slice HO_116000.out
                  subst eo85
                  obtain ⟨Ao86, co86, eo86⟩ := Kd.R_slice HO_116001.out
                  subst eo86
                  iterate 3 (try (go_wp2_with (first | ((with_reducible refine gate_builtin (b := .append) (xs := #[.tmp 122, .tmp 124]) rfl ?_); at_builtin; refine Kd.S_append k64 (w0 := w) w.heap.size rfl (.tmp 122) (.tmp 124) 42 64 (.agg #[(.slice none 0 0), (.slice none 0 0)]) 48 rfl Try.underlying42 info64 rfl (by decide) (by omega) u10 x10_2 (⟨x116000_3, x116001_4⟩ : S64) [.slice Ao85 x116000_3.length co85, .slice Ao86 x116001_4.length co86] (fun k_ => some k_ ≠ (.slice (some ad114) x5_1.length co43 : Value).ownBlock ∧ some k_ ≠ (.slice (some ad114) x5_1.length co43 : Value).ownBlock ∧ k_ ≠ gb115) (fun k_ => some k_ = (.slice Ao85 x116000_3.length co85 : Value).ownBlock ∨ some k_ = (.slice Ao86 x116001_4.length co86 : Value).ownBlock) rfl rfl ?aP (fun k_ hk_ => hk_.elim (fun h_ => ((Kd.R_mono (ok' := fun k_ => ((fun k_ => some k_ ≠ (.slice (some ad114) x5_1.length co43 : Value).ownBlock ∧ some k_ ≠ (.slice (some ad114) x5_1.length co43 : Value).ownBlock ∧ k_ ≠ gb115)) k_ ∧ some k_ ≠ (u10 : Value).ownBlock) (Kd.R_types (Kd.R_apart' (HO_116000.out) (Kd.S_typed HO_10.out) (by decide)) BK115.out (by decide)) (fun k_ hk => ⟨⟨hk.1.1.1, ⟨hk.1.1.2.1, hk.2⟩⟩, hk.1.2⟩))).1 k_ h_.symm) (fun h_ => ((Kd.R_mono (ok' := fun k_ => ((fun k_ => some k_ ≠ (.slice (some ad114) x5_1.length co43 : Value).ownBlock ∧ some k_ ≠ (.slice (some ad114) x5_1.length co43 : Value).ownBlock ∧ k_ ≠ gb115)) k_ ∧ some k_ ≠ (u10 : Value).ownBlock) (Kd.R_types (Kd.R_apart' (HO_116001.out) (Kd.S_typed HO_10.out) (by decide)) BK115.out (by decide)) (fun k_ hk => ⟨⟨hk.1.1.1, ⟨hk.1.1.2.1, hk.2⟩⟩, hk.1.2⟩))).1 k_ h_.symm)) ?aF ?aO ?aB ?aS ?aL ?_; (case aP => exact k64_mkM _ _ _ (⟨x116000_3, x116001_4⟩ : S64) (Kd.R_mono (Kd.R_tight rfl (Kd.R_mono (ok' := fun k_ => ((fun k_ => some k_ ≠ (.slice (some ad114) x5_1.length co43 : Value).ownBlock ∧ some k_ ≠ (.slice (some ad114) x5_1.length co43 : Value).ownBlock ∧ k_ ≠ gb115)) k_ ∧ some k_ ≠ (u10 : Value).ownBlock) (Kd.R_types (Kd.R_apart' (HO_116000.out) (Kd.S_typed HO_10.out) (by decide)) BK115.out (by decide)) (fun k_ hk => ⟨⟨hk.1.1.1, ⟨hk.1.1.2.1, hk.2⟩⟩, hk.1.2⟩))) (fun _ h_ => Or.inl h_)) (Kd.R_mono (Kd.R_tight rfl (Kd.R_mono (ok' := fun k_ => ((fun k_ => some k_ ≠ (.slice (some ad114) x5_1.length co43 : Value).ownBlock ∧ some k_ ≠ (.slice (some ad114) x5_1.length co43 : Value).ownBlock ∧ k_ ≠ gb115)) k_ ∧ some k_ ≠ (u10 : Value).ownBlock) (Kd.R_types (Kd.R_apart' (HO_116001.out) (Kd.S_typed HO_10.out) (by decide)) BK115.out (by decide)) (fun k_ hk => ⟨⟨hk.1.1.1, ⟨hk.1.1.2.1, hk.2⟩⟩, hk.1.2⟩))) (fun _ h_ => Or.inr (h_)))); (case aB => exact (by repeat (first | (with_reducible first | exact HB.out | apply wA | apply wN | apply wD | refine below_set ?_ GE101.out | refine below_set ?_ GE115.out) | exact HB.out))); (case aF => exact (fun k_ hk => ⟨Kd.fresh' (Kd.R_lt (by (with_reducible repeat (first | apply rA | apply rN | apply rD)); exact HO_5.out)) k_ hk, Kd.fresh' (Kd.R_lt (by (with_reducible repeat (first | apply rA | apply rN | apply rD)); exact HO_73.out)) k_ hk, Kd.freshB (g := gb115) (o := .cells #[.slice Ao85 x116000_3.length co85, .slice Ao86 x116001_4.length co86] 64 (0, 0)) (by (with_reducible repeat (first | refine bN ?_ _ | refine bD ?_ | refine bA ?_ _)); exact BK115.out) k_ hk⟩)); (case aO => exact (by (with_reducible repeat (first | apply Kd.S_alloc | apply Kd.S_drewN | apply Kd.S_drew)); exact Kd.S_mono HO_10.out (fun k_ hk => ⟨⟨hk.1, ⟨hk.2.1, hk.2.2.2.2⟩⟩, fun e_ => e_.elim (fun h_ => hk.2.2.1 h_) (fun h_ => hk.2.2.2.1 h_)⟩))); (case aS => exact (below_size (by repeat (first | (with_reducible first | exact HB.out | apply wA | apply wN | apply wD | refine below_set ?_ GE101.out | refine below_set ?_ GE115.out) | exact HB.out)))); (case aL => have := LMc81.out; omega); intro v121 w84 ho hb hg hat; rw [← Ny120.out] at ho; have n0_ := Aside0.mk (Kd.R_over' (by (with_reducible repeat (first | apply rA | apply rN | apply rD)); exact HO_5.out) (Kd.S_typed (by (with_reducible repeat (first | apply Kd.S_alloc | apply Kd.S_drewN | apply Kd.S_drew)); exact HO_10.out)) (by decide) hg); have n1_ := Aside0.mk (Kd.R_over' (by (with_reducible repeat (first | apply rA | apply rN | apply rD)); exact HO_73.out) (Kd.S_typed (by (with_reducible repeat (first | apply Kd.S_alloc | apply Kd.S_drewN | apply Kd.S_drew)); exact HO_10.out)) (by decide) hg); have n2_ := Aside0.mk (bG (g := gb101) (o := .cells #[.slice A0_0 l0_0.length c0_0, .slice A0_1 l0_1.length c0_1] 25 (0, 0)) (by (with_reducible repeat (first | refine bN ?_ _ | refine bD ?_ | refine bA ?_ _)); exact BK101.out) hg (Kd.S_ne HO_10.out BK101.out (by decide))); have n3_ := Aside0.mk (bG (g := gb115) (o := .cells #[.slice Ao85 x116000_3.length co85, .slice Ao86 x116001_4.length co86] 64 (0, 0)) (by (with_reducible repeat (first | refine bN ?_ _ | refine bD ?_ | refine bA ?_ _)); exact BK115.out) hg (Kd.S_away HO_10.out (fun _ hk => hk.2.2.2.2))); have n4_ := Aside0.mk (hb); have n5_ := Aside0.mk (ho); clear HO_5; clear HO_73; clear BK101; clear BK115; clear HB; clear HO_10; clear HO_116000; clear HO_116001; have HO_5 := n0_; have HO_73 := n1_; have BK101 := n2_; have BK115 := n3_; have HB := n4_; have HO122 := n5_; clear n0_ n1_ n2_ n3_ n4_ n5_; clear ho hb hg hat))); try (go_quiet (fail)))
                  go_roundg k4
                  case measure => have := HK1.out; have := HK2.out; have := HK3.out; have := HK4.out; omega
                  case rel => exact ⟨(y120), (wrap64 (x75_2 + 1)), rS, H', ⟨by have := HK1.out; have := HK2.out; have := HK3.out; have := HK4.out; omega⟩, ⟨by (with_reducible repeat (first | apply rA | apply rN | apply rD)); exact Kd.R_mono HO_5.out (fun _ hk => trivial)⟩, ⟨by (with_reducible repeat (first | apply Kd.S_alloc | apply Kd.S_drewN | apply Kd.S_drew)); exact Kd.S_mono HO122.out (fun _ hk => ⟨hk.1, hk.2.1⟩)⟩, ⟨by (with_reducible repeat (first | apply rA | apply rN | apply rD)); exact Kd.R_mono HO_73.out (fun _ hk => trivial)⟩, ⟨by (with_reducible repeat (first | refine bN ?_ _ | refine bD ?_ | refine bA ?_ _)); exact BK101.out⟩, ⟨by repeat (first | (with_reducible first | exact HB.out | apply wA | apply wN | apply wD | refine below_set ?_ GE101.out | refine below_set ?_ GE115.out) | exact HB.out)⟩⟩
                 ·rw [if_neg c81] at H
                  exact absurd H (by simp)
          ·rw [if_neg c47] at H
           have c47b0 : (x75_2 == (rd x5_1 x75_2)) = false := beq_eq_false_iff_ne.mpr c47
           have c47b1 : (x75_2 != (rd x5_1 x75_2)) = true := bne_iff_ne.mpr c47
           have H' := Aside0.mk H
           clear H
           have p114 : 0 ≤ (x75_2 : Int) := oT
           have q114 : x75_2 < (x5_1.length : Int) := oT
           obtain ⟨ad114, e114, hx114_0⟩ := Kd.at_int (Kd.R_reads' HO_73.out).2.2 x75_2 p114 q114
           cases e114
           replace p114 := eq_true p114
           replace q114 := eq_true q114
           go_wp2
           repeat (go_quiet (fail); try go_wp2)
           go_roundg k2
           case measure => have := HK1.out; have := HK2.out; omega
           case rel => exact ⟨(x10_2), (wrap64 (x75_2 + 1)), rS, H', ⟨by have := HK1.out; have := HK2.out; omega⟩, ⟨by (with_reducible repeat (first | apply rA | apply rN | apply rD)); exact HO_5.out⟩, ⟨by (with_reducible repeat (first | apply Kd.S_alloc | apply Kd.S_drewN | apply Kd.S_drew)); exact HO_10.out⟩, ⟨by (with_reducible repeat (first | apply rA | apply rN | apply rD)); exact HO_73.out⟩, ⟨by (with_reducible repeat (first | refine bN ?_ _ | refine bD ?_ | refine bA ?_ _)); exact BK101.out⟩, ⟨by repeat (first | (with_reducible first | exact HB.out | apply wA | apply wN | apply wD | refine below_set ?_ GE101.out) | exact HB.out)⟩⟩
         ·rw [if_neg c46] at H
          exact absurd H (by simp)
        ·rw [if_neg c45] at H
         exact absurd H (by simp)
       ·rw [if_neg c44] at H
        have c44b0 : decide (x75_2 < (x5_1.length : Int)) = false := decide_eq_false c44
        clear c44
        simp only [Option.some.injEq, Prod.mk.injEq] at H
        obtain ⟨rfl, rfl⟩ := H
        go_wp2
        repeat (go_quiet (fail); try go_wp2)
        go_ret2
        exact ⟨_, by first | rfl | (simp [errW_none, errW_some] <;> rfl) | (simp [*, errW_none, errW_some] <;> rfl), by (with_reducible repeat (first | apply Kd.S_alloc | apply Kd.S_drewN | apply Kd.S_drew)); exact Kd.S_mono HO_10.out (fun _ hk => trivial), by repeat (first | (with_reducible first | exact HB.out | apply wA | apply wN | apply wD | refine below_set ?_ GE101.out) | exact HB.out)⟩
 ·rw [if_neg c3] at H
  have c3b0 : (t102 == 0) = false := beq_eq_false_iff_ne.mpr c3
  have c3b1 : (t102 != 0) = true := bne_iff_ne.mpr c3
  simp only [Option.some.injEq, Prod.mk.injEq] at H
  obtain ⟨rfl, rfl⟩ := H
  go_enter Try.func20, Try.ntmps20
  iterate 3 (try (go_wp2_with (first | ((with_reducible refine gate_dst (N := 1) rfl ?_); refine box_event ?hg (N := 1) ?hd (cs := #[.slice A0_0 l0_0.length c0_0, .slice A0_1 l0_1.length c0_1]) (t := 25) ?hr ?_; (case hd => rfl); (case hg => rfl); (case hr => first | (go_simp; done) | (go_simp; rfl)); intro gb101 hg w87 hbox hb; have n0_ := Aside0.mk (wS hB hb); have n1_ := Aside0.mk (hbox); have n2_ := Aside0.mk ((by rw [hg]; exact (below_size hB) : w.heap.size ≤ gb101)); have n3_ := Aside0.mk ((by rw [hg]; exact (below_size hB) : w.heap.size ≤ gb101)); clear HB; have HB := n0_; have BK101 := n1_; have GW101 := n2_; have GE101 := n3_; clear n0_ n1_ n2_ n3_; clear hb hbox hg; have hcz88_0 : w87.cell? ⟨gb101, 0, none⟩ = some (.slice A0_0 l0_0.length c0_0) := (blk_cell BK101.out 0).trans rfl; have hcz88_1 : w87.cell? ⟨gb101, 1, none⟩ = some (.slice A0_1 l0_1.length c0_1) := (blk_cell BK101.out 1).trans rfl; have hfz88_0 := blk_frozen BK101.out 0; have hfz88_1 := blk_frozen BK101.out 1) | (go_at_call 26; (with_reducible refine (graph_Valid.calls _ _ l0_0 _ _ l0_1 t102 _ ?side1 ?side2 ?side3 ?side4 A2.out).mono ?_); (case side1 => repeat (first | exact (cB HR0_0.out HB.out) | (with_reducible refine cA ?_ _) | (with_reducible refine cN ?_ _) | (with_reducible refine cD ?_))); (case side2 => exact HC0_0.out); (case side3 => repeat (first | exact (cB HR0_1.out HB.out) | (with_reducible refine cA ?_ _) | (with_reducible refine cN ?_ _) | (with_reducible refine cD ?_))); (case side4 => exact HC0_1.out); rintro e w89 ⟨rfl, hb⟩; have n0_ := Aside0.mk (bB (g := gb101) (o := .cells #[.slice A0_0 l0_0.length c0_0, .slice A0_1 l0_1.length c0_1] 25 (0, 0)) (by (with_reducible repeat (first | refine bN ?_ _ | refine bD ?_ | refine bA ?_ _)); exact BK101.out) hb); have n1_ := Aside0.mk (wS (by repeat (first | (with_reducible first | exact HB.out | apply wA | apply wN | apply wD | refine below_set ?_ GE101.out) | exact HB.out)) hb); clear BK101; clear HB; have BK101 := n0_; have HB := n1_; clear n0_ n1_; (try clear hb); (try clear hb2); (try clear hk); (try clear hi)))); try (go_quiet (fail)))
  go_ret2
  exact ⟨_, by first | rfl | (simp [errW_none, errW_some] <;> rfl) | (simp [*, errW_none, errW_some] <;> rfl), by first | exact Kd.S_nil _ _ _ _ _ | exact Kd.N_nil _ _ _ _ _ | exact Kd.V_nil _ _ _ _ _ | exact Kd.Q_nil _ _ _ _ _ | exact Kd.R_nil _ _ _ _ _, by repeat (first | (with_reducible first | exact HB.out | apply wA | apply wN | apply wD | refine below_set ?_ GE101.out) | exact HB.out)⟩
end Go.Proofs.Ytmbnibonggbjgaa.X

namespace Go.Proofs.Ytmbnibonggbjgaa.X
open Go.RowKit Go.Proofs.YtmbnibonggbjgaaW.PrintWords Go.Proofs.YtmbnibonggbjgaaW.PrintLast Go.Proofs.YtmbnibonggbjgaaW.PrintMore
open Go.Proofs.YtmbnibonggbjgaaW.PrintWords renaming blk_drewN → bN, blk_drew → bD, blk_alloc → bA, below_alloc → wA, pw_below_drewN → wN, below_drew1 → wD, blk_below → bB, below_step → wS, blk_at → bT, blk_grown → bG
open Go.Proofs.YtmbnibonggbjgaaW.PrintWords.Kd renaming R_alloc → rA, R_drewN → rN, R_drew → rD, R_below → rB, R_grown → rG, C_below → cB, C_alloc → cA, C_drewN → cN, C_drew → cD
attribute [local go_sem] max2_int min2_int max_two min_two max_three min_three max_four min_four
set_option linter.unusedVariables false
set_option linter.unusedSimpArgs false
/-! ### slices_Equal_int_int: function 22 -/
def slices_Equal_int_int.l0 : Nat → List Int → List Int → Int → Int → Option (Bool)
 | 0, _, _, _, _ => none
 | k + 1, x0, x1, x12, x13 => if x13 < x12 then (if 0 ≤ x13 then (if x13 < (x0.length : Int) then (if x13 < (x1.length : Int) then (if (rd x0 x13) = (rd x1 x13) then (slices_Equal_int_int.l0 k x0 x1 x12 (wrap64 (x13 + 1))) else (some false)) else (none)) else (none)) else (none)) else (some true)
def slices_Equal_int_int.f (k : Nat) (l0 : List Int) (l1 : List Int) : Option (Bool) := if (l0.length : Int) = (l1.length : Int) then (slices_Equal_int_int.l0 k l0 l1 (l0.length : Int) 0) else (some false)
theorem slices_Equal_int_int.mono_l : ∀ k, (∀ y0 y1 y2 y3, LeO (slices_Equal_int_int.l0 k y0 y1 y2 y3) (slices_Equal_int_int.l0 (k + 1) y0 y1 y2 y3))
 | 0 => fun _ _ _ _ r h => by simp [slices_Equal_int_int.l0] at h
 | k + 1 => by
  have ih0 := slices_Equal_int_int.mono_l k
  ·intro y0 y1 y2 y3
   unfold slices_Equal_int_int.l0
   repeat' first
   | (with_reducible exact ih0 _ _ _ _)
   | (with_reducible exact LeO.refl _)
   | (with_reducible exact LeO.none _)
   | (with_reducible refine LeO.ite ?_ ?_)
   | (with_reducible refine LeO.bind ?_ (fun _ => ?_))
   | exact ih0 _ _ _ _
   | exact LeO.none _
   | refine LeO.ite ?_ ?_
   | refine LeO.bind ?_ (fun _ => ?_)
theorem slices_Equal_int_int.mono : ∀ a0 a1 k, LeO (slices_Equal_int_int.f k a0 a1) (slices_Equal_int_int.f (k + 1) a0 a1) := by
 intro a0 a1 k
 have ih0 := slices_Equal_int_int.mono_l k
 unfold slices_Equal_int_int.f
 repeat' first
   | (with_reducible exact ih0 _ _ _ _)
   | (with_reducible exact LeO.refl _)
   | (with_reducible exact LeO.none _)
   | (with_reducible refine LeO.ite ?_ ?_)
   | (with_reducible refine LeO.bind ?_ (fun _ => ?_))
   | exact ih0 _ _ _ _
   | exact LeO.none _
   | refine LeO.ite ?_ ?_
   | refine LeO.bind ?_ (fun _ => ?_)
set_option maxHeartbeats 8000000 in
set_option maxRecDepth 100000 in
theorem slices_Equal_int_int.calls (k : Nat) (A0 : Option Addr) (c0 : Nat) (l0 : List Int) (A1 : Option Addr) (c1 : Nat) (l1 : List Int) (r : Bool) (w : World) (hr0 : Kd.C (Kd.int .i64) w A0 l0.length l0) (hc0 : l0.length ≤ c0) (hr1 : Kd.C (Kd.int .i64) w A1 l1.length l1) (hc1 : l1.length ≤ c1) (h : slices_Equal_int_int.f k l0 l1 = some r) :
  Calls Try.prog 22 #[.slice A0 l0.length c0, .slice A1 l1.length c1] w fun e w' => e = .returned (.bool r) ∧ Drawn0 w w' := by
 have HR0 := Aside0.mk hr0
 have HC0 := Aside0.mk hc0
 clear hr0 hc0
 have HR1 := Aside0.mk hr1
 have HC1 := Aside0.mk hc1
 clear hr1 hc1
 have H : (if (l0.length : Int) = (l1.length : Int) then (slices_Equal_int_int.l0 k l0 l1 (l0.length : Int) 0) else (some false)) = some r := h
 clear h
 by_cases c3 : (l0.length : Int) = (l1.length : Int)
 ·rw [if_pos c3] at H
  have c3b0 : ((l0.length : Int) == (l1.length : Int)) = true := beq_iff_eq.mpr c3
  have c3b1 : ((l0.length : Int) != (l1.length : Int)) = false := bne_eq_false_iff_eq.mpr c3
  have c3b2 : (l0.length == l1.length) = true := by first | simpa using c3 | (simp at c3 ⊢; omega)
  clear c3
  have H' := Aside0.mk H
  clear H
  go_enter Try.func22, Try.ntmps22
  go_wp2
  repeat (go_quiet (fail); try go_wp2)
  go_loopg [13] k (fun kq v13 w' => ∃ (x13_1 : Int), v13 = .int .i64 x13_1 ∧ Aside0 (slices_Equal_int_int.l0 kq l0 l1 (l0.length : Int) x13_1 = some r) ∧ Aside0 (kq ≤ k) ∧ Drawn0 w w')
  case atStart => exact ⟨(0), rS, H', ⟨Nat.le_refl _⟩, by repeat (first | exact Drawn0.refl _ | apply Drawn0.step)⟩
  case round =>
   clear H'
   try clear c1
   try clear c2
   try clear p2
   try clear c3
   try clear c3b0
   try clear c3b1
   try clear c3b2
   obtain ⟨x13_1, rfl, HA, HK1, ⟨m1, rfl⟩⟩ := hrel
   cases gk with
   | zero => exact absurd HA.out (by simp [slices_Equal_int_int.l0])
   | succ k1 =>
    have H := HA.out
    clear HA
    simp only [slices_Equal_int_int.l0] at H
    by_cases c4 : x13_1 < (l0.length : Int)
    ·rw [if_pos c4] at H
     have c4b0 : decide (x13_1 < (l0.length : Int)) = true := decide_eq_true c4
     clear c4
     by_cases c5 : 0 ≤ x13_1
     ·rw [if_pos c5] at H
      have c5b0 : decide (0 ≤ x13_1) = true := decide_eq_true c5
      clear c5
      by_cases c6 : x13_1 < (l0.length : Int)
      ·rw [if_pos c6] at H
       have c6b0 : decide (x13_1 < (l0.length : Int)) = true := decide_eq_true c6
       clear c6
       by_cases c7 : x13_1 < (l1.length : Int)
       ·rw [if_pos c7] at H
        have c7b0 : decide (x13_1 < (l1.length : Int)) = true := decide_eq_true c7
        clear c7
        by_cases c8 : (rd l0 x13_1) = (rd l1 x13_1)
        ·rw [if_pos c8] at H
         have c8b0 : ((rd l0 x13_1) == (rd l1 x13_1)) = true := beq_iff_eq.mpr c8
         have c8b1 : ((rd l0 x13_1) != (rd l1 x13_1)) = false := bne_eq_false_iff_eq.mpr c8
         clear c8
         have H' := Aside0.mk H
         clear H
         have p101 : 0 ≤ (x13_1 : Int) := oT
         have q101 : x13_1 < (l0.length : Int) := oT
         obtain ⟨ad101, e101, hx101_0⟩ := Kd.at_int HR0.out x13_1 p101 q101
         cases e101
         replace p101 := eq_true p101
         replace q101 := eq_true q101
         have p102 : 0 ≤ (x13_1 : Int) := oT
         have q102 : x13_1 < (l1.length : Int) := oT
         obtain ⟨ad102, e102, hx102_0⟩ := Kd.at_int HR1.out x13_1 p102 q102
         cases e102
         replace p102 := eq_true p102
         replace q102 := eq_true q102
         go_wp2
         repeat (go_quiet (fail); try go_wp2)
         go_roundg k1
         case measure => have := HK1.out; omega
         case rel => exact ⟨(wrap64 (x13_1 + 1)), rS, H', ⟨by have := HK1.out; omega⟩, by repeat (first | exact Drawn0.refl _ | apply Drawn0.step)⟩
        ·rw [if_neg c8] at H
         have c8b0 : ((rd l0 x13_1) == (rd l1 x13_1)) = false := beq_eq_false_iff_ne.mpr c8
         have c8b1 : ((rd l0 x13_1) != (rd l1 x13_1)) = true := bne_iff_ne.mpr c8
         obtain rfl := Option.some.inj H
         have p101 : 0 ≤ (x13_1 : Int) := oT
         have q101 : x13_1 < (l0.length : Int) := oT
         obtain ⟨ad101, e101, hx101_0⟩ := Kd.at_int HR0.out x13_1 p101 q101
         cases e101
         replace p101 := eq_true p101
         replace q101 := eq_true q101
         have p102 : 0 ≤ (x13_1 : Int) := oT
         have q102 : x13_1 < (l1.length : Int) := oT
         obtain ⟨ad102, e102, hx102_0⟩ := Kd.at_int HR1.out x13_1 p102 q102
         cases e102
         replace p102 := eq_true p102
         replace q102 := eq_true q102
         go_wp2
         repeat (go_quiet (fail); try go_wp2)
         go_ret
         exact ⟨by first | rfl | (simp; done) | (simp [*]; done), by repeat (first | exact Drawn0.refl _ | apply Drawn0.step)⟩
       ·rw [if_neg c7] at H
        exact absurd H (by simp)
      ·rw [if_neg c6] at H
       exact absurd H (by simp)
     ·rw [if_neg c5] at H
      exact absurd H (by simp)
    ·rw [if_neg c4] at H
     have c4b0 : decide (x13_1 < (l0.length : Int)) = false := decide_eq_false c4
     clear c4
     obtain rfl := Option.some.inj H
     go_wp2
     repeat (go_quiet (fail); try go_wp2)
     go_ret
     exact ⟨by first | rfl | (simp; done) | (simp [*]; done), by repeat (first | exact Drawn0.refl _ | apply Drawn0.step)⟩
 ·rw [if_neg c3] at H
  have c3b0 : ((l0.length : Int) == (l1.length : Int)) = false := beq_eq_false_iff_ne.mpr c3
  have c3b1 : ((l0.length : Int) != (l1.length : Int)) = true := bne_iff_ne.mpr c3
  have c3b2 : (l0.length == l1.length) = false := by first | simpa using c3 | (simp at c3 ⊢; omega)
  obtain rfl := Option.some.inj H
  go_enter Try.func22, Try.ntmps22
  go_wp2
  repeat (go_quiet (fail); try go_wp2)
  go_ret
  exact ⟨by first | rfl | (simp; done) | (simp [*]; done), by repeat (first | exact Drawn0.refl _ | apply Drawn0.step)⟩
end Go.Proofs.Ytmbnibonggbjgaa.X

namespace Go.Proofs.Ytmbnibonggbjgaa.X
open Go.RowKit Go.Proofs.YtmbnibonggbjgaaW.PrintWords Go.Proofs.YtmbnibonggbjgaaW.PrintLast Go.Proofs.YtmbnibonggbjgaaW.PrintMore
open Go.Proofs.YtmbnibonggbjgaaW.PrintWords renaming blk_drewN → bN, blk_drew → bD, blk_alloc → bA, below_alloc → wA, pw_below_drewN → wN, below_drew1 → wD, blk_below → bB, below_step → wS, blk_at → bT, blk_grown → bG
open Go.Proofs.YtmbnibonggbjgaaW.PrintWords.Kd renaming R_alloc → rA, R_drewN → rN, R_drew → rD, R_below → rB, R_grown → rG, C_below → cB, C_alloc → cA, C_drewN → cN, C_drew → cD
attribute [local go_sem] max2_int min2_int max_two min_two max_three min_three max_four min_four
set_option linter.unusedVariables false
set_option linter.unusedSimpArgs false
/-! ### scarfjointlaw05_example: function 38 -/
def scarfjointlaw05_example.f  : Option (List Int × (List (S38))) := some ((([3, 1, 1] : List Int)), (([(⟨0, 0, 1⟩ : S38), (⟨0, 0, 2⟩ : S38)] : List (S38))))
set_option maxHeartbeats 8000000 in
set_option maxRecDepth 100000 in
theorem scarfjointlaw05_example.calls  (r1 : List Int) (r2 : List (S38)) (w : World) (h : scarfjointlaw05_example.f  = some (r1, r2)) :
  Calls Try.prog 38 #[] w fun e w' => ∃ v0_ v1_ : Value, e = .returned (.agg #[v0_, v1_]) ∧ Kd.R (Kd.int .i64) 3 w' w.heap.size (fun _ => True) v0_ r1 ∧ Kd.R k38 38 w' w.heap.size (fun _ => True) v1_ r2 ∧ Below w.heap.size w w' := by
 have hu25 := Try.underlying25
 have hu38 := Try.underlying38
 have HB := Aside0.mk (Below.refl w.heap.size w)
 have H : (some ((([3, 1, 1] : List Int)), (([(⟨0, 0, 1⟩ : S38), (⟨0, 0, 2⟩ : S38)] : List (S38))))) = some (r1, r2) := h
 clear h
 obtain ⟨y102, hy102⟩ : ∃ y_ : List Int, y_ = (([3, 1, 1] : List Int)) := ⟨_, rfl⟩
 replace H : (some (y102, (([(⟨0, 0, 1⟩ : S38), (⟨0, 0, 2⟩ : S38)] : List (S38))))) = some (r1, r2) := by first | (rw [hy102]; with_reducible exact H) | (have H2_ := (Option.bind_some _ _).symm.trans H; rw [hy102]; with_reducible exact H2_) | (have H2_ := (Option.bind_some _ _).symm.trans H; with_reducible exact H2_) | with_reducible exact H | (rw [hy102]; exact H) | exact H
 have Ny102 := Aside0.mk hy102
 clear hy102
 obtain ⟨y105, hy105⟩ : ∃ y_ : List (S38), y_ = (([(⟨0, 0, 1⟩ : S38), (⟨0, 0, 2⟩ : S38)] : List (S38))) := ⟨_, rfl⟩
 replace H : (some (y102, y105)) = some (r1, r2) := by first | (rw [hy105]; with_reducible exact H) | (have H2_ := (Option.bind_some _ _).symm.trans H; rw [hy105]; with_reducible exact H2_) | (have H2_ := (Option.bind_some _ _).symm.trans H; with_reducible exact H2_) | with_reducible exact H | (rw [hy105]; exact H) | exact H
 have Ny105 := Aside0.mk hy105
 clear hy105
 simp only [Option.some.injEq, Prod.mk.injEq] at H
 obtain ⟨rfl, rfl⟩ := H
 go_enter Try.func38, Try.ntmps38
 go_wp2_with (first | ((with_reducible refine gate_dst (N := 0) rfl ?_); refine box_event ?hg (N := 0) ?hd (cs := #[.slice none 0 0, .slice none 0 0]) (t := 25) ?hr ?_; (case hd => rfl); (case hg => rfl); (case hr => first | (go_simp; done) | (go_simp; rfl)); intro gb101 hg w1 hbox hb; have n0_ := Aside0.mk (wS hB hb); have n1_ := Aside0.mk (hbox); have n2_ := Aside0.mk ((by rw [hg]; exact (below_size hB) : w.heap.size ≤ gb101)); have n3_ := Aside0.mk ((by rw [hg]; exact (below_size hB) : w.heap.size ≤ gb101)); clear HB; have HB := n0_; have BK101 := n1_; have GW101 := n2_; have GE101 := n3_; clear n0_ n1_ n2_ n3_; clear hb hbox hg) | ((with_reducible refine gate_dst (N := 1) rfl ?_); refine Kd.R_lit (Kd.int .i64) _ 3 ?hg (N := 1) ?hd (xs := ([3, 1, 1] : List Int)) (inner := [.int .i64 3, .int .i64 1, .int .i64 1]) (ok := fun _ => True) (okp := fun _ => True) ?hr ?hp (fun _ hk => hk) trivial (Below.refl _ _) (Nat.le_refl _) (by simp) ?_; (case hd => rfl); (case hg => rfl); (case hr => first | (go_simp; done) | (go_simp; rfl)); (case hp => exact (Reps.one (show Kd.M (Kd.int .i64) _ _ _ 3 [.int .i64 3] from rfl) (Reps.one (show Kd.M (Kd.int .i64) _ _ _ 1 [.int .i64 1] from rfl) (Reps.one (show Kd.M (Kd.int .i64) _ _ _ 1 [.int .i64 1] from rfl) (Reps.none _ _))))); intro v103 w2 ho3 hb hg_ hnew_; clear hg_ hnew_; (first | rw [← Ny102.out] at ho3 | (simp only [Int.reduceToNat] at ho3; rw [← Ny102.out] at ho3)); have n0_ := Aside0.mk (Kd.R_lower ho3 (below_size (by repeat (first | (with_reducible first | exact HB.out | apply wA | apply wN | apply wD | refine below_set ?_ GE101.out) | exact HB.out)))); have n1_ := Aside0.mk (bB (g := gb101) (o := .cells #[.slice none 0 0, .slice none 0 0] 25 (0, 0)) (by (with_reducible repeat (first | refine bN ?_ _ | refine bD ?_ | refine bA ?_ _)); exact BK101.out) hb); have n2_ := Aside0.mk (wS (by repeat (first | (with_reducible first | exact HB.out | apply wA | apply wN | apply wD | refine below_set ?_ GE101.out) | exact HB.out)) hb); clear BK101; clear HB; have HO104 := n0_; have BK101 := n1_; have HB := n2_; clear n0_ n1_ n2_; clear hb ho3) | ((with_reducible refine gate_dst (N := 4) rfl ?_); refine Kd.R_lit k38 _ 38 ?hg (N := 4) ?hd (xs := ([(⟨0, 0, 1⟩ : S38), (⟨0, 0, 2⟩ : S38)] : List (S38))) (inner := [.int .i64 0, .int .i64 0, .int .i64 1, .int .i64 0, .int .i64 0, .int .i64 2]) (ok := fun _ => True) (okp := fun _ => True) ?hr ?hp (fun _ hk => hk) trivial (Below.refl _ _) (Nat.le_refl _) (by simp) ?_; (case hd => rfl); (case hg => rfl); (case hr => first | (go_simp; done) | (go_simp; rfl)); (case hp => exact (Reps.c3 (show Kd.M k38 _ _ _ (⟨0, 0, 1⟩ : S38) [.int .i64 0, .int .i64 0, .int .i64 1] from (k38_mkM _ _ _ (⟨0, 0, 1⟩ : S38) )) (Reps.c3 (show Kd.M k38 _ _ _ (⟨0, 0, 2⟩ : S38) [.int .i64 0, .int .i64 0, .int .i64 2] from (k38_mkM _ _ _ (⟨0, 0, 2⟩ : S38) )) (Reps.none _ _)))); intro v106 w4 ho5 hb hg_ hnew_; clear hg_ hnew_; (first | rw [← Ny105.out] at ho5 | (simp only [Int.reduceToNat] at ho5; rw [← Ny105.out] at ho5)); have n0_ := Aside0.mk (rB (by (with_reducible repeat (first | apply rA | apply rN | apply rD)); exact HO104.out) hb); have n1_ := Aside0.mk (Kd.R_lower ho5 (below_size (by repeat (first | (with_reducible first | exact HB.out | apply wA | apply wN | apply wD | refine below_set ?_ GE101.out) | exact HB.out)))); have n2_ := Aside0.mk (bB (g := gb101) (o := .cells #[.slice none 0 0, .slice none 0 0] 25 (0, 0)) (by (with_reducible repeat (first | refine bN ?_ _ | refine bD ?_ | refine bA ?_ _)); exact BK101.out) hb); have n3_ := Aside0.mk (wS (by repeat (first | (with_reducible first | exact HB.out | apply wA | apply wN | apply wD | refine below_set ?_ GE101.out) | exact HB.out)) hb); clear HO104; clear BK101; clear HB; have HO104 := n0_; have HO107 := n1_; have BK101 := n2_; have HB := n3_; clear n0_ n1_ n2_ n3_; clear hb ho5; obtain ⟨Ao6, co6, eo6⟩ := Kd.R_slice HO107.out; subst eo6; obtain ⟨Ao7, co7, eo7⟩ := Kd.R_slice HO104.out; subst eo7; have hcz8_0 : w4.cell? ⟨gb101, 0, none⟩ = some (.slice none 0 0) := (blk_cell BK101.out 0).trans rfl; have hcz8_1 : w4.cell? ⟨gb101, 1, none⟩ = some (.slice none 0 0) := (blk_cell BK101.out 1).trans rfl; have hfz8_0 := blk_frozen BK101.out 0; have hfz8_1 := blk_frozen BK101.out 1))
 refine bodyPost_ret (results_cell_row rfl _ _ gb101 25 #[.slice Ao7 y102.length co7, .slice Ao6 y105.length co6] (0, 0) _ rfl (by (with_reducible repeat (first | refine bN ?_ _ | refine bD ?_ | refine bA ?_ _)); refine blk_put (cs := #[.slice Ao7 y102.length co7, .slice none 0 0]) ?_ 1 _ rfl; (with_reducible repeat (first | refine bN ?_ _ | refine bD ?_ | refine bA ?_ _)); refine blk_put (cs := #[.slice none 0 0, .slice none 0 0]) ?_ 0 _ rfl; (with_reducible repeat (first | refine bN ?_ _ | refine bD ?_ | refine bA ?_ _)); exact BK101.out) Try.underlying25 rfl (by kernel_rfl)) rfl ?_
 exact ⟨_, _, by first | rfl | (simp [errW_none, errW_some] <;> rfl) | (simp [*, errW_none, errW_some] <;> rfl), by (with_reducible repeat (first | apply rA | apply rN | apply rD)); exact Kd.R_mono (Kd.R_far (p := ⟨gb101, 1, none⟩) (Kd.R_far (p := ⟨gb101, 0, none⟩) (Kd.R_types HO104.out BK101.out (by decide)) (fun _ hk => hk.2) (.slice Ao7 y102.length co7)) (fun _ hk => hk.2) (.slice Ao6 y105.length co6)) (fun _ hk => trivial), by (with_reducible repeat (first | apply rA | apply rN | apply rD)); exact Kd.R_mono (Kd.R_far (p := ⟨gb101, 1, none⟩) (Kd.R_far (p := ⟨gb101, 0, none⟩) (Kd.R_types HO107.out BK101.out (by decide)) (fun _ hk => hk.2) (.slice Ao7 y102.length co7)) (fun _ hk => hk.2) (.slice Ao6 y105.length co6)) (fun _ hk => trivial), by repeat (first | (with_reducible first | exact HB.out | apply wA | apply wN | apply wD | refine below_set ?_ GE101.out) | exact HB.out)⟩
end Go.Proofs.Ytmbnibonggbjgaa.X
