/- A part of the proof that the law GraphRemove returns true at every input: contracts of the functions that it calls, and lemmas. -/
import Derived.Test.YtmbnibonggbjgaaZGraphRemove1
namespace Go.Proofs.Ytmbnibonggbjgaa.X
open Go.RowKit Go.Proofs.YtmbnibonggbjgaaW.PrintWords Go.Proofs.YtmbnibonggbjgaaW.PrintLast Go.Proofs.YtmbnibonggbjgaaW.PrintMore
open Go.Proofs.YtmbnibonggbjgaaW.PrintWords renaming blk_drewN → bN, blk_drew → bD, blk_alloc → bA, below_alloc → wA, pw_below_drewN → wN, below_drew1 → wD, blk_below → bB, below_step → wS, blk_at → bT, blk_grown → bG
open Go.Proofs.YtmbnibonggbjgaaW.PrintWords.Kd renaming R_alloc → rA, R_drewN → rN, R_drew → rD, R_below → rB, R_grown → rG, C_below → cB, C_alloc → cA, C_drewN → cN, C_drew → cD
attribute [local go_sem] max2_int min2_int max_two min_two max_three min_three max_four min_four
set_option linter.unusedVariables false
set_option linter.unusedSimpArgs false
/-! ### graph_Remove: function 12 -/
mutual
def graph_Remove.l0 : Nat → List Int → Int → Int → List Int → List (S38) → List Int → List Int → List Int → Option (List Int × (List (S38)) × List Int × List Int × Int)
 | 0, _, _, _, _, _, _, _, _ => none
 | k + 1, x58, x59, x60, x102000, x102001, x114000, x114001, x115000 => if x60 < x59 then (if 0 ≤ x60 then (if x60 < (x58.length : Int) then (if x60 < (x114000.length : Int) then (if (rd x114000 x60) ≥ 0 then (if x115000.length < 17592186044416 then (graph_Remove.l0 k x58 x59 (wrap64 (x60 + 1)) x102000 x102001 x114000 x114001 (x115000 ++ [rd x58 x60])) else (none)) else (graph_Remove.l0 k x58 x59 (wrap64 (x60 + 1)) x102000 x102001 x114000 x114001 x115000)) else (none)) else (none)) else (none)) else (graph_Remove.l1 k x102001 (x102001.length : Int) 0 x114000 x114001 x115000 ([] : List (S38)))
def graph_Remove.l1 : Nat → List (S38) → Int → Int → List Int → List Int → List Int → List (S38) → Option (List Int × (List (S38)) × List Int × List Int × Int)
 | 0, _, _, _, _, _, _, _ => none
 | k + 1, x79, x80, x81, x114000, x114001, x115000, x115001 => if x81 < x80 then (if 0 ≤ x81 then (if x81 < (x79.length : Int) then (if x81 < (x114001.length : Int) then (if (rd x114001 x81) < 0 then (graph_Remove.l1 k x79 x80 (wrap64 (x81 + 1)) x114000 x114001 x115000 x115001) else (if 0 ≤ ((rd_T38 x79 x81).f1) then (if ((rd_T38 x79 x81).f1) < (x114000.length : Int) then (if 0 ≤ ((rd_T38 x79 x81).f2) then (if ((rd_T38 x79 x81).f2) < (x114000.length : Int) then (if (rd x114000 ((rd_T38 x79 x81).f1)) < 0 then (graph_Remove.j2 k x79 x80 x81 true x114000 x114001 x115000 x115001 ((rd_T38 x79 x81).f0) (rd x114000 ((rd_T38 x79 x81).f1)) (rd x114000 ((rd_T38 x79 x81).f2))) else (graph_Remove.j2 k x79 x80 x81 (decide ((rd x114000 ((rd_T38 x79 x81).f2)) < 0)) x114000 x114001 x115000 x115001 ((rd_T38 x79 x81).f0) (rd x114000 ((rd_T38 x79 x81).f1)) (rd x114000 ((rd_T38 x79 x81).f2)))) else (none)) else (none)) else (none)) else (none))) else (none)) else (none)) else (none)) else (some (x115000, x115001, x114000, x114001, 0))
def graph_Remove.j2 : Nat → List (S38) → Int → Int → Bool → List Int → List Int → List Int → List (S38) → Int → Int → Int → Option (List Int × (List (S38)) × List Int × List Int × Int)
 | 0, _, _, _, _, _, _, _, _, _, _, _ => none
 | k + 1, x79, x80, x81, x114, x114000, x114001, x115000, x115001, x126000, x126001, x126002 => if x114 = true then (some (([] : List Int), ([] : List (S38)), ([] : List Int), ([] : List Int), 14)) else (if x115001.length < 5864062014805 then (graph_Remove.l1 k x79 x80 (wrap64 (x81 + 1)) x114000 x114001 x115000 (x115001 ++ [(⟨x126000, x126001, x126002⟩ : S38)])) else (none))
end
def graph_Remove.f (k : Nat) (l0_0 : List Int) (l0_1 : List (S38)) (l1 : List Int) (l2 : List Int) : Option (List Int × (List (S38)) × List Int × List Int × Int) := (graph_Valid.f l0_0 l0_1).bind fun t104 => (if t104 = 0 then ((graph_ascending.f k l1 (l0_0.length : Int)).bind fun t105 => (if t105 = 0 then ((graph_ascending.f k l2 (l0_1.length : Int)).bind fun t106 => (if t106 = 0 then ((graph_left.f k (l0_0.length : Int) l1).bind fun t107 => ((graph_left.f k (l0_1.length : Int) l2).bind fun t110 => (graph_Remove.l0 k l0_0 (l0_0.length : Int) 0 l0_0 l0_1 t107 t110 ([] : List Int)))) else (some (([] : List Int), ([] : List (S38)), ([] : List Int), ([] : List Int), t106)))) else (some (([] : List Int), ([] : List (S38)), ([] : List Int), ([] : List Int), t105)))) else (some (([] : List Int), ([] : List (S38)), ([] : List Int), ([] : List Int), t104)))
theorem graph_Remove.mono_l : ∀ k, (∀ y0 y1 y2 y3 y4 y5 y6 y7, LeO (graph_Remove.l0 k y0 y1 y2 y3 y4 y5 y6 y7) (graph_Remove.l0 (k + 1) y0 y1 y2 y3 y4 y5 y6 y7)) ∧ (∀ y0 y1 y2 y3 y4 y5 y6, LeO (graph_Remove.l1 k y0 y1 y2 y3 y4 y5 y6) (graph_Remove.l1 (k + 1) y0 y1 y2 y3 y4 y5 y6)) ∧ (∀ y0 y1 y2 y3 y4 y5 y6 y7 y8 y9 y10, LeO (graph_Remove.j2 k y0 y1 y2 y3 y4 y5 y6 y7 y8 y9 y10) (graph_Remove.j2 (k + 1) y0 y1 y2 y3 y4 y5 y6 y7 y8 y9 y10))
 | 0 => ⟨fun _ _ _ _ _ _ _ _ r h => by simp [graph_Remove.l0] at h, fun _ _ _ _ _ _ _ r h => by simp [graph_Remove.l1] at h, fun _ _ _ _ _ _ _ _ _ _ _ r h => by simp [graph_Remove.j2] at h⟩
 | k + 1 => by
  obtain ⟨ih0, ih1, ih2⟩ := graph_Remove.mono_l k
  refine ⟨?_, ?_, ?_⟩
  ·intro y0 y1 y2 y3 y4 y5 y6 y7
   unfold graph_Remove.l0
   repeat' first
   | (with_reducible exact ih0 _ _ _ _ _ _ _ _)
   | (with_reducible exact ih1 _ _ _ _ _ _ _)
   | (with_reducible exact ih2 _ _ _ _ _ _ _ _ _ _ _)
   | (with_reducible exact graph_ascending.mono _ _ _)
   | (with_reducible exact graph_left.mono _ _ _)
   | (with_reducible exact LeO.refl _)
   | (with_reducible exact LeO.none _)
   | (with_reducible refine LeO.ite ?_ ?_)
   | (with_reducible refine LeO.bind ?_ (fun _ => ?_))
   | exact ih0 _ _ _ _ _ _ _ _
   | exact ih1 _ _ _ _ _ _ _
   | exact ih2 _ _ _ _ _ _ _ _ _ _ _
   | exact graph_ascending.mono _ _ _
   | exact graph_left.mono _ _ _
   | exact LeO.none _
   | refine LeO.ite ?_ ?_
   | refine LeO.bind ?_ (fun _ => ?_)
  ·intro y0 y1 y2 y3 y4 y5 y6
   unfold graph_Remove.l1
   repeat' first
   | (with_reducible exact ih0 _ _ _ _ _ _ _ _)
   | (with_reducible exact ih1 _ _ _ _ _ _ _)
   | (with_reducible exact ih2 _ _ _ _ _ _ _ _ _ _ _)
   | (with_reducible exact graph_ascending.mono _ _ _)
   | (with_reducible exact graph_left.mono _ _ _)
   | (with_reducible exact LeO.refl _)
   | (with_reducible exact LeO.none _)
   | (with_reducible refine LeO.ite ?_ ?_)
   | (with_reducible refine LeO.bind ?_ (fun _ => ?_))
   | exact ih0 _ _ _ _ _ _ _ _
   | exact ih1 _ _ _ _ _ _ _
   | exact ih2 _ _ _ _ _ _ _ _ _ _ _
   | exact graph_ascending.mono _ _ _
   | exact graph_left.mono _ _ _
   | exact LeO.none _
   | refine LeO.ite ?_ ?_
   | refine LeO.bind ?_ (fun _ => ?_)
  ·intro y0 y1 y2 y3 y4 y5 y6 y7 y8 y9 y10
   unfold graph_Remove.j2
   repeat' first
   | (with_reducible exact ih0 _ _ _ _ _ _ _ _)
   | (with_reducible exact ih1 _ _ _ _ _ _ _)
   | (with_reducible exact ih2 _ _ _ _ _ _ _ _ _ _ _)
   | (with_reducible exact graph_ascending.mono _ _ _)
   | (with_reducible exact graph_left.mono _ _ _)
   | (with_reducible exact LeO.refl _)
   | (with_reducible exact LeO.none _)
   | (with_reducible refine LeO.ite ?_ ?_)
   | (with_reducible refine LeO.bind ?_ (fun _ => ?_))
   | exact ih0 _ _ _ _ _ _ _ _
   | exact ih1 _ _ _ _ _ _ _
   | exact ih2 _ _ _ _ _ _ _ _ _ _ _
   | exact graph_ascending.mono _ _ _
   | exact graph_left.mono _ _ _
   | exact LeO.none _
   | refine LeO.ite ?_ ?_
   | refine LeO.bind ?_ (fun _ => ?_)
theorem graph_Remove.mono : ∀ a0 a1 a2 a3 k, LeO (graph_Remove.f k a0 a1 a2 a3) (graph_Remove.f (k + 1) a0 a1 a2 a3) := by
 intro a0 a1 a2 a3 k
 obtain ⟨ih0, ih1, ih2⟩ := graph_Remove.mono_l k
 unfold graph_Remove.f
 repeat' first
   | (with_reducible exact ih0 _ _ _ _ _ _ _ _)
   | (with_reducible exact ih1 _ _ _ _ _ _ _)
   | (with_reducible exact ih2 _ _ _ _ _ _ _ _ _ _ _)
   | (with_reducible exact graph_ascending.mono _ _ _)
   | (with_reducible exact graph_left.mono _ _ _)
   | (with_reducible exact LeO.refl _)
   | (with_reducible exact LeO.none _)
   | (with_reducible refine LeO.ite ?_ ?_)
   | (with_reducible refine LeO.bind ?_ (fun _ => ?_))
   | exact ih0 _ _ _ _ _ _ _ _
   | exact ih1 _ _ _ _ _ _ _
   | exact ih2 _ _ _ _ _ _ _ _ _ _ _
   | exact graph_ascending.mono _ _ _
   | exact graph_left.mono _ _ _
   | exact LeO.none _
   | refine LeO.ite ?_ ?_
   | refine LeO.bind ?_ (fun _ => ?_)
def graph_Remove.T10 : Bool × List (List Nat × List Nat) := (true, [([], []), ([0], [0]), ([1], [1]), ([], []), ([2, 3], [2, 3]), ([], []), ([5], [5]), ([6], [6]), ([], []), ([7, 8, 4], [7, 8]), ([4, 9], [4, 9]), ([], []), ([11, 10, 9, 0, 1, 2, 3, 4, 5, 6, 7, 8, 9, 10, 11], [10, 11])])
def graph_Remove.B10 : List Nat := [0, 1, 3, 0, 15, 0, 32, 96, 0, 511, 1023, 0, 4095]
theorem graph_Remove.tab10 : rtab .any (opsOf Try.f12 10) = graph_Remove.T10 := by kernel_rfl
theorem graph_Remove.bits10 : waitsOk graph_Remove.T10.2 graph_Remove.B10 = true := by kernel_rfl
def graph_Remove.T22 : Bool × List (List Nat × List Nat) := (true, [([], []), ([0], [0]), ([], []), ([2], [2]), ([], []), ([4], [4]), ([3, 5], [3, 5]), ([6], [6]), ([], []), ([8], [8]), ([], []), ([10], [10]), ([9, 11], [9, 11]), ([12], [12]), ([1, 7, 13], [1, 7, 13]), ([], []), ([15, 14, 0, 1, 2, 3, 4, 5, 6, 7, 8, 9, 10, 11, 12, 13, 14, 15], [14, 15])])
def graph_Remove.B22 : List Nat := [0, 1, 0, 4, 0, 16, 60, 124, 0, 256, 0, 1024, 3840, 7936, 16383, 0, 65535]
theorem graph_Remove.tab22 : rtab .any (opsOf Try.f12 22) = graph_Remove.T22 := by kernel_rfl
theorem graph_Remove.bits22 : waitsOk graph_Remove.T22.2 graph_Remove.B22 = true := by kernel_rfl
set_option maxHeartbeats 8000000 in
set_option maxRecDepth 100000 in
theorem graph_Remove.calls (k : Nat) (A0_0 : Option Addr) (c0_0 : Nat) (l0_0 : List Int) (A0_1 : Option Addr) (c0_1 : Nat) (l0_1 : List (S38)) (A1 : Option Addr) (c1 : Nat) (l1 : List Int) (A2 : Option Addr) (c2 : Nat) (l2 : List Int) (r1 : List Int) (r2 : List (S38)) (r3 : List Int) (r4 : List Int) (r5 : Int) (w : World) (hr0_0 : Kd.C (Kd.int .i64) w A0_0 l0_0.length l0_0) (hc0_0 : l0_0.length ≤ c0_0) (hr0_1 : Kd.C k38 w A0_1 l0_1.length l0_1) (hc0_1 : l0_1.length ≤ c0_1) (hr1 : Kd.C (Kd.int .i64) w A1 l1.length l1) (hc1 : l1.length ≤ c1) (hr2 : Kd.C (Kd.int .i64) w A2 l2.length l2) (hc2 : l2.length ≤ c2) (h : graph_Remove.f k l0_0 l0_1 l1 l2 = some (r1, r2, r3, r4, r5)) :
  Calls Try.prog 12 #[.agg #[.slice A0_0 l0_0.length c0_0, .slice A0_1 l0_1.length c0_1], .slice A1 l1.length c1, .slice A2 l2.length c2] w fun e w' => ∃ v0_ v1_ v2_ v3_ : Value, e = .returned (.tuple #[.agg #[v0_, v1_], .agg #[v2_, v3_], .int .i64 r5]) ∧ Kd.R (Kd.int .i64) 3 w' w.heap.size (fun k_ => some k_ ≠ (v2_ : Value).ownBlock ∧ some k_ ≠ (v3_ : Value).ownBlock) v0_ r1 ∧ Kd.R k38 38 w' w.heap.size (fun _ => True) v1_ r2 ∧ Kd.R (Kd.int .i64) 3 w' w.heap.size (fun k_ => some k_ ≠ (v0_ : Value).ownBlock ∧ some k_ ≠ (v3_ : Value).ownBlock) v2_ r3 ∧ Kd.R (Kd.int .i64) 3 w' w.heap.size (fun k_ => some k_ ≠ (v0_ : Value).ownBlock ∧ some k_ ≠ (v2_ : Value).ownBlock) v3_ r4 ∧ Below w.heap.size w w' := by
 have hu25 := Try.underlying25
 have hu29 := Try.underlying29
 have hu38 := Try.underlying38
 have HR0_0 := Aside0.mk hr0_0
 have HC0_0 := Aside0.mk hc0_0
 clear hr0_0 hc0_0
 have HR0_1 := Aside0.mk hr0_1
 have HC0_1 := Aside0.mk hc0_1
 clear hr0_1 hc0_1
 have HR1 := Aside0.mk hr1
 have HC1 := Aside0.mk hc1
 clear hr1 hc1
 have HR2 := Aside0.mk hr2
 have HC2 := Aside0.mk hc2
 clear hr2 hc2
 have HB := Aside0.mk (Below.refl w.heap.size w)
 have H : ((graph_Valid.f l0_0 l0_1).bind fun t104 => (if t104 = 0 then ((graph_ascending.f k l1 (l0_0.length : Int)).bind fun t105 => (if t105 = 0 then ((graph_ascending.f k l2 (l0_1.length : Int)).bind fun t106 => (if t106 = 0 then ((graph_left.f k (l0_0.length : Int) l1).bind fun t107 => ((graph_left.f k (l0_1.length : Int) l2).bind fun t110 => (graph_Remove.l0 k l0_0 (l0_0.length : Int) 0 l0_0 l0_1 t107 t110 ([] : List Int)))) else (some (([] : List Int), ([] : List (S38)), ([] : List Int), ([] : List Int), t106)))) else (some (([] : List Int), ([] : List (S38)), ([] : List Int), ([] : List Int), t105)))) else (some (([] : List Int), ([] : List (S38)), ([] : List Int), ([] : List Int), t104)))) = some (r1, r2, r3, r4, r5) := h
 clear h
 replace H := Option.bind_eq_some_iff.mp H
 obtain ⟨t104, A40, H⟩ := H
 replace H : (if t104 = 0 then ((graph_ascending.f k l1 (l0_0.length : Int)).bind fun t105 => (if t105 = 0 then ((graph_ascending.f k l2 (l0_1.length : Int)).bind fun t106 => (if t106 = 0 then ((graph_left.f k (l0_0.length : Int) l1).bind fun t107 => ((graph_left.f k (l0_1.length : Int) l2).bind fun t110 => (graph_Remove.l0 k l0_0 (l0_0.length : Int) 0 l0_0 l0_1 t107 t110 ([] : List Int)))) else (some (([] : List Int), ([] : List (S38)), ([] : List Int), ([] : List Int), t106)))) else (some (([] : List Int), ([] : List (S38)), ([] : List Int), ([] : List Int), t105)))) else (some (([] : List Int), ([] : List (S38)), ([] : List Int), ([] : List Int), t104))) = some (r1, r2, r3, r4, r5) := H
 have A4 := Aside0.mk A40
 clear A40
 by_cases c5 : t104 = 0
 ·rw [if_pos c5] at H
  have c5b0 : (t104 == 0) = true := beq_iff_eq.mpr c5
  have c5b1 : (t104 != 0) = false := bne_eq_false_iff_eq.mpr c5
  clear c5
  replace H := Option.bind_eq_some_iff.mp H
  obtain ⟨t105, A60, H⟩ := H
  replace H : (if t105 = 0 then ((graph_ascending.f k l2 (l0_1.length : Int)).bind fun t106 => (if t106 = 0 then ((graph_left.f k (l0_0.length : Int) l1).bind fun t107 => ((graph_left.f k (l0_1.length : Int) l2).bind fun t110 => (graph_Remove.l0 k l0_0 (l0_0.length : Int) 0 l0_0 l0_1 t107 t110 ([] : List Int)))) else (some (([] : List Int), ([] : List (S38)), ([] : List Int), ([] : List Int), t106)))) else (some (([] : List Int), ([] : List (S38)), ([] : List Int), ([] : List Int), t105))) = some (r1, r2, r3, r4, r5) := H
  have A6 := Aside0.mk A60
  clear A60
  by_cases c7 : t105 = 0
  ·rw [if_pos c7] at H
   have c7b0 : (t105 == 0) = true := beq_iff_eq.mpr c7
   have c7b1 : (t105 != 0) = false := bne_eq_false_iff_eq.mpr c7
   clear c7
   replace H := Option.bind_eq_some_iff.mp H
   obtain ⟨t106, A80, H⟩ := H
   replace H : (if t106 = 0 then ((graph_left.f k (l0_0.length : Int) l1).bind fun t107 => ((graph_left.f k (l0_1.length : Int) l2).bind fun t110 => (graph_Remove.l0 k l0_0 (l0_0.length : Int) 0 l0_0 l0_1 t107 t110 ([] : List Int)))) else (some (([] : List Int), ([] : List (S38)), ([] : List Int), ([] : List Int), t106))) = some (r1, r2, r3, r4, r5) := H
   have A8 := Aside0.mk A80
   clear A80
   by_cases c9 : t106 = 0
   ·rw [if_pos c9] at H
    have c9b0 : (t106 == 0) = true := beq_iff_eq.mpr c9
    have c9b1 : (t106 != 0) = false := bne_eq_false_iff_eq.mpr c9
    clear c9
    replace H := Option.bind_eq_some_iff.mp H
    obtain ⟨t107, A100, H⟩ := H
    replace H : ((graph_left.f k (l0_1.length : Int) l2).bind fun t110 => (graph_Remove.l0 k l0_0 (l0_0.length : Int) 0 l0_0 l0_1 t107 t110 ([] : List Int))) = some (r1, r2, r3, r4, r5) := H
    have A10 := Aside0.mk A100
    clear A100
    replace H := Option.bind_eq_some_iff.mp H
    obtain ⟨t110, A110, H⟩ := H
    replace H : (graph_Remove.l0 k l0_0 (l0_0.length : Int) 0 l0_0 l0_1 t107 t110 ([] : List Int)) = some (r1, r2, r3, r4, r5) := H
    have A11 := Aside0.mk A110
    clear A110
    have H' := Aside0.mk H
    clear H
    go_enter Try.func12, Try.ntmps12
    try go_wp2_with (first | ((with_reducible refine gate_dst (N := 3) rfl ?_); refine box_event ?hg (N := 3) ?hd (cs := #[.slice A0_0 l0_0.length c0_0, .slice A0_1 l0_1.length c0_1]) (t := 25) ?hr ?_; (case hd => rfl); (case hg => rfl); (case hr => first | (go_simp; done) | (go_simp; rfl)); intro gb101 hg w12 hbox hb; have n0_ := Aside0.mk (wS hB hb); have n1_ := Aside0.mk (hbox); have n2_ := Aside0.mk ((by rw [hg]; exact (below_size hB) : w.heap.size ≤ gb101)); have n3_ := Aside0.mk ((by rw [hg]; exact (below_size hB) : w.heap.size ≤ gb101)); clear HB; have HB := n0_; have BK101 := n1_; have GW101 := n2_; have GE101 := n3_; clear n0_ n1_ n2_ n3_; clear hb hbox hg) | ((with_reducible refine gate_dst (N := 6) rfl ?_); refine box_event ?hg (N := 6) ?hd (cs := #[.slice none 0 0, .slice none 0 0]) (t := 25) ?hr ?_; (case hd => rfl); (case hg => rfl); (case hr => first | (go_simp; done) | (go_simp; rfl)); intro gb102 hg w13 hbox hb; have n0_ := Aside0.mk (bB (g := gb101) (o := .cells #[.slice A0_0 l0_0.length c0_0, .slice A0_1 l0_1.length c0_1] 25 (0, 0)) (by (with_reducible repeat (first | refine bN ?_ _ | refine bD ?_ | refine bA ?_ _)); exact BK101.out) hb); have n1_ := Aside0.mk (wS (by repeat (first | (with_reducible first | exact HB.out | apply wA | apply wN | apply wD | refine below_set ?_ GE101.out) | exact HB.out)) hb); have n2_ := Aside0.mk (hbox); have n3_ := Aside0.mk ((by rw [hg]; exact (below_size (by repeat (first | (with_reducible first | exact HB.out | apply wA | apply wN | apply wD | refine below_set ?_ GE101.out) | exact HB.out))) : w.heap.size ≤ gb102)); have n4_ := Aside0.mk ((by rw [hg]; exact (below_size (by repeat (first | (with_reducible first | exact HB.out | apply wA | apply wN | apply wD | refine below_set ?_ GE101.out) | exact HB.out))) : w.heap.size ≤ gb102)); have n5_ := Aside0.mk ((by rw [hg]; exact Nat.ne_of_lt (blk_lt (g := gb101) (o := .cells #[.slice A0_0 l0_0.length c0_0, .slice A0_1 l0_1.length c0_1] 25 (0, 0)) (by (with_reducible repeat (first | refine bN ?_ _ | refine bD ?_ | refine bA ?_ _)); exact BK101.out)) : gb101 ≠ gb102)); have n6_ := Aside0.mk ((by rw [hg]; exact Nat.ne_of_gt (blk_lt (g := gb101) (o := .cells #[.slice A0_0 l0_0.length c0_0, .slice A0_1 l0_1.length c0_1] 25 (0, 0)) (by (with_reducible repeat (first | refine bN ?_ _ | refine bD ?_ | refine bA ?_ _)); exact BK101.out)) : gb102 ≠ gb101)); clear BK101; clear HB; have BK101 := n0_; have HB := n1_; have BK102 := n2_; have GW102 := n3_; have GE102 := n4_; have NB101_102 := n5_; have NB102_101 := n6_; clear n0_ n1_ n2_ n3_ n4_ n5_ n6_; clear hb hbox hg) | ((with_reducible refine gate_dst (N := 7) rfl ?_); refine box_event ?hg (N := 7) ?hd (cs := #[.slice none 0 0, .slice none 0 0]) (t := 29) ?hr ?_; (case hd => rfl); (case hg => rfl); (case hr => first | (go_simp; done) | (go_simp; rfl)); intro gb103 hg w14 hbox hb; have n0_ := Aside0.mk (bB (g := gb101) (o := .cells #[.slice A0_0 l0_0.length c0_0, .slice A0_1 l0_1.length c0_1] 25 (0, 0)) (by (with_reducible repeat (first | refine bN ?_ _ | refine bD ?_ | refine bA ?_ _)); exact BK101.out) hb); have n1_ := Aside0.mk (bB (g := gb102) (o := .cells #[.slice none 0 0, .slice none 0 0] 25 (0, 0)) (by (with_reducible repeat (first | refine bN ?_ _ | refine bD ?_ | refine bA ?_ _)); exact BK102.out) hb); have n2_ := Aside0.mk (wS (by repeat (first | (with_reducible first | exact HB.out | apply wA | apply wN | apply wD | refine below_set ?_ GE101.out | refine below_set ?_ GE102.out) | exact HB.out)) hb); have n3_ := Aside0.mk (hbox); have n4_ := Aside0.mk ((by rw [hg]; exact (below_size (by repeat (first | (with_reducible first | exact HB.out | apply wA | apply wN | apply wD | refine below_set ?_ GE101.out | refine below_set ?_ GE102.out) | exact HB.out))) : w.heap.size ≤ gb103)); have n5_ := Aside0.mk ((by rw [hg]; exact (below_size (by repeat (first | (with_reducible first | exact HB.out | apply wA | apply wN | apply wD | refine below_set ?_ GE101.out | refine below_set ?_ GE102.out) | exact HB.out))) : w.heap.size ≤ gb103)); have n6_ := Aside0.mk ((by rw [hg]; exact Nat.ne_of_lt (blk_lt (g := gb101) (o := .cells #[.slice A0_0 l0_0.length c0_0, .slice A0_1 l0_1.length c0_1] 25 (0, 0)) (by (with_reducible repeat (first | refine bN ?_ _ | refine bD ?_ | refine bA ?_ _)); exact BK101.out)) : gb101 ≠ gb103)); have n7_ := Aside0.mk ((by rw [hg]; exact Nat.ne_of_gt (blk_lt (g := gb101) (o := .cells #[.slice A0_0 l0_0.length c0_0, .slice A0_1 l0_1.length c0_1] 25 (0, 0)) (by (with_reducible repeat (first | refine bN ?_ _ | refine bD ?_ | refine bA ?_ _)); exact BK101.out)) : gb103 ≠ gb101)); have n8_ := Aside0.mk ((by rw [hg]; exact Nat.ne_of_lt (blk_lt (g := gb102) (o := .cells #[.slice none 0 0, .slice none 0 0] 25 (0, 0)) (by (with_reducible repeat (first | refine bN ?_ _ | refine bD ?_ | refine bA ?_ _)); exact BK102.out)) : gb102 ≠ gb103)); have n9_ := Aside0.mk ((by rw [hg]; exact Nat.ne_of_gt (blk_lt (g := gb102) (o := .cells #[.slice none 0 0, .slice none 0 0] 25 (0, 0)) (by (with_reducible repeat (first | refine bN ?_ _ | refine bD ?_ | refine bA ?_ _)); exact BK102.out)) : gb103 ≠ gb102)); clear BK101; clear BK102; clear HB; have BK101 := n0_; have BK102 := n1_; have HB := n2_; have BK103 := n3_; have GW103 := n4_; have GE103 := n5_; have NB101_103 := n6_; have NB103_101 := n7_; have NB102_103 := n8_; have NB103_102 := n9_; clear n0_ n1_ n2_ n3_ n4_ n5_ n6_ n7_ n8_ n9_; clear hb hbox hg; have hnb15 := NB101_102.out; have hnc15 := NB102_101.out; have hnb16 := NB101_103.out; have hnc16 := NB103_101.out; have hcz17_0 : w14.cell? ⟨gb101, 0, none⟩ = some (.slice A0_0 l0_0.length c0_0) := (blk_cell BK101.out 0).trans rfl; have hcz17_1 : w14.cell? ⟨gb101, 1, none⟩ = some (.slice A0_1 l0_1.length c0_1) := (blk_cell BK101.out 1).trans rfl; have hfz17_0 := blk_frozen BK101.out 0; have hfz17_1 := blk_frozen BK101.out 1) | ((with_reducible refine gate_callee (f := 26) rfl ?_); refine goesL_ (some 20) rfl rfl Try.func26 (by kernel_rfl) rfl #[.agg #[.slice A0_0 l0_0.length c0_0, .slice A0_1 l0_1.length c0_1]] rfl aM ?_; (with_reducible refine (graph_Valid.calls _ _ l0_0 _ _ l0_1 t104 _ ?side1 ?side2 ?side3 ?side4 A4.out).mono ?_); (case side1 => repeat (first | exact (cB HR0_0.out HB.out) | (with_reducible refine cA ?_ _) | (with_reducible refine cN ?_ _) | (with_reducible refine cD ?_))); (case side2 => exact HC0_0.out); (case side3 => repeat (first | exact (cB HR0_1.out HB.out) | (with_reducible refine cA ?_ _) | (with_reducible refine cN ?_ _) | (with_reducible refine cD ?_))); (case side4 => exact HC0_1.out); rintro e w18 ⟨rfl, hb⟩; refine ⟨_, rfl, ?_⟩; have n0_ := Aside0.mk (bB (g := gb101) (o := .cells #[.slice A0_0 l0_0.length c0_0, .slice A0_1 l0_1.length c0_1] 25 (0, 0)) (by (with_reducible repeat (first | refine bN ?_ _ | refine bD ?_ | refine bA ?_ _)); exact BK101.out) hb); have n1_ := Aside0.mk (bB (g := gb102) (o := .cells #[.slice none 0 0, .slice none 0 0] 25 (0, 0)) (by (with_reducible repeat (first | refine bN ?_ _ | refine bD ?_ | refine bA ?_ _)); exact BK102.out) hb); have n2_ := Aside0.mk (bB (g := gb103) (o := .cells #[.slice none 0 0, .slice none 0 0] 29 (0, 0)) (by (with_reducible repeat (first | refine bN ?_ _ | refine bD ?_ | refine bA ?_ _)); exact BK103.out) hb); have n3_ := Aside0.mk (wS (by repeat (first | (with_reducible first | exact HB.out | apply wA | apply wN | apply wD | refine below_set ?_ GE101.out | refine below_set ?_ GE102.out | refine below_set ?_ GE103.out) | exact HB.out)) hb); clear BK101; clear BK102; clear BK103; clear HB; have BK101 := n0_; have BK102 := n1_; have BK103 := n2_; have HB := n3_; clear n0_ n1_ n2_ n3_; (try clear hb); (try clear hb2); (try clear hk); (try clear hi); have hcz19_0 : w18.cell? ⟨gb101, 0, none⟩ = some (.slice A0_0 l0_0.length c0_0) := (blk_cell BK101.out 0).trans rfl; have hcz19_1 : w18.cell? ⟨gb101, 1, none⟩ = some (.slice A0_1 l0_1.length c0_1) := (blk_cell BK101.out 1).trans rfl; have hfz19_0 := blk_frozen BK101.out 0; have hfz19_1 := blk_frozen BK101.out 1) | ((with_reducible refine gate_callee (f := 39) rfl ?_); refine goesL_ (some 30) rfl rfl Try.func39 (by kernel_rfl) rfl #[.slice A1 l1.length c1, .int .i64 (l0_0.length : Int)] rfl aM ?_; (with_reducible refine (graph_ascending.calls k _ _ l1 (l0_0.length : Int) t105 _ ?side1 ?side2 A6.out).mono ?_); (case side1 => repeat (first | exact (cB HR1.out HB.out) | (with_reducible refine cA ?_ _) | (with_reducible refine cN ?_ _) | (with_reducible refine cD ?_))); (case side2 => exact HC1.out); rintro e w' ⟨rfl, ⟨nd, rfl⟩⟩; refine ⟨_, rfl, ?_⟩; (try (rw [drewN_self w18]; generalize hq_ : World.drewN w18 _ = w18; have n0_ : Aside0 (w18.heap[gb101]? = some (.cells #[.slice A0_0 l0_0.length c0_0, .slice A0_1 l0_1.length c0_1] 25 (0, 0))) := ⟨by rw [← hq_]; exact (by (with_reducible repeat (first | refine bN ?_ _ | refine bD ?_ | refine bA ?_ _)); exact BK101.out)⟩; have n1_ : Aside0 (w18.heap[gb102]? = some (.cells #[.slice none 0 0, .slice none 0 0] 25 (0, 0))) := ⟨by rw [← hq_]; exact (by (with_reducible repeat (first | refine bN ?_ _ | refine bD ?_ | refine bA ?_ _)); exact BK102.out)⟩; have n2_ : Aside0 (w18.heap[gb103]? = some (.cells #[.slice none 0 0, .slice none 0 0] 29 (0, 0))) := ⟨by rw [← hq_]; exact (by (with_reducible repeat (first | refine bN ?_ _ | refine bD ?_ | refine bA ?_ _)); exact BK103.out)⟩; have n3_ : Aside0 (Below w.heap.size w w18) := ⟨by rw [← hq_]; exact (by repeat (first | (with_reducible first | exact HB.out | apply wA | apply wN | apply wD | refine below_set ?_ GE101.out | refine below_set ?_ GE102.out | refine below_set ?_ GE103.out) | exact HB.out))⟩; clear BK101 BK102 BK103 HB hq_; have BK101 := n0_; have BK102 := n1_; have BK103 := n2_; have HB := n3_; clear n0_ n1_ n2_ n3_)); have hcz20_0 : w18.cell? ⟨gb101, 0, none⟩ = some (.slice A0_0 l0_0.length c0_0) := (blk_cell BK101.out 0).trans rfl; have hcz20_1 : w18.cell? ⟨gb101, 1, none⟩ = some (.slice A0_1 l0_1.length c0_1) := (blk_cell BK101.out 1).trans rfl; have hfz20_0 := blk_frozen BK101.out 0; have hfz20_1 := blk_frozen BK101.out 1) | ((with_reducible refine gate_callee (f := 39) rfl ?_); refine goesL_ (some 40) rfl rfl Try.func39 (by kernel_rfl) rfl #[.slice A2 l2.length c2, .int .i64 (l0_1.length : Int)] rfl aM ?_; (with_reducible refine (graph_ascending.calls k _ _ l2 (l0_1.length : Int) t106 _ ?side1 ?side2 A8.out).mono ?_); (case side1 => repeat (first | exact (cB HR2.out HB.out) | (with_reducible refine cA ?_ _) | (with_reducible refine cN ?_ _) | (with_reducible refine cD ?_))); (case side2 => exact HC2.out); rintro e w' ⟨rfl, ⟨nd, rfl⟩⟩; refine ⟨_, rfl, ?_⟩; (try (rw [drewN_self w18]; generalize hq_ : World.drewN w18 _ = w18; have n0_ : Aside0 (w18.heap[gb101]? = some (.cells #[.slice A0_0 l0_0.length c0_0, .slice A0_1 l0_1.length c0_1] 25 (0, 0))) := ⟨by rw [← hq_]; exact (by (with_reducible repeat (first | refine bN ?_ _ | refine bD ?_ | refine bA ?_ _)); exact BK101.out)⟩; have n1_ : Aside0 (w18.heap[gb102]? = some (.cells #[.slice none 0 0, .slice none 0 0] 25 (0, 0))) := ⟨by rw [← hq_]; exact (by (with_reducible repeat (first | refine bN ?_ _ | refine bD ?_ | refine bA ?_ _)); exact BK102.out)⟩; have n2_ : Aside0 (w18.heap[gb103]? = some (.cells #[.slice none 0 0, .slice none 0 0] 29 (0, 0))) := ⟨by rw [← hq_]; exact (by (with_reducible repeat (first | refine bN ?_ _ | refine bD ?_ | refine bA ?_ _)); exact BK103.out)⟩; have n3_ : Aside0 (Below w.heap.size w w18) := ⟨by rw [← hq_]; exact (by repeat (first | (with_reducible first | exact HB.out | apply wA | apply wN | apply wD | refine below_set ?_ GE101.out | refine below_set ?_ GE102.out | refine below_set ?_ GE103.out) | exact HB.out))⟩; clear BK101 BK102 BK103 HB hq_; have BK101 := n0_; have BK102 := n1_; have BK103 := n2_; have HB := n3_; clear n0_ n1_ n2_ n3_))))
    have n0_ := Aside0.mk (bD BK101.out)
    have n1_ := Aside0.mk (bD BK102.out)
    have n2_ := Aside0.mk (bD BK103.out)
    have n3_ := Aside0.mk (wD HB.out)
    clear BK101
    clear BK102
    clear BK103
    clear HB
    have BK101 := n0_
    have BK102 := n1_
    have BK103 := n2_
    have HB := n3_
    clear n0_ n1_ n2_ n3_
    refine start_ (n := 13) (S := fun w' => w'.cell? ⟨gb101, 0, none⟩ = some (.slice A0_0 l0_0.length c0_0) ∧ w'.cell? ⟨gb101, 1, none⟩ = some (.slice A0_1 l0_1.length c0_1)) (ds := []) #[false, false, false, false, false, false, false, false, false, false, false, false, false] (by kernel_rfl) rfl rfl ⟨(blk_cell BK101.out 0).trans rfl, (blk_cell BK101.out 1).trans rfl⟩ (fun hHeld => ?_); refine with_tabW graph_Remove.tab10 graph_Remove.bits10 (fun HT_ HW_ => ?_)
    generalize w18.drew = w21 at BK101 BK102 BK103 HB hHeld ⊢
    refine pure_ (i := 0) (N := some 46) (v := ?_) (a' := ?_) #[true, false, false, false, false, false, false, false, false, false, false, false, false] rfl rfl (any_of HT_.out (by kernel_rfl)) (fun _ _ _ h => h) (Or.inl ⟨by rfl, ?_⟩) ?_ ?_
    rotate_left
    ·intro w'
     go_simp
     with_reducible rfl
    rotate_left
    ·simp only [Act.put, List.setIfInBounds_toArray, List.set_cons_zero, List.set_cons_succ, i64_w, i32_w]
     rfl
    refine pure_ (i := 3) (N := some 49) (v := ?_) (a' := ?_) #[true, false, false, true, false, false, false, false, false, false, false, false, false] rfl rfl (any_of HT_.out (by kernel_rfl)) (fun _ _ _ h => h) (Or.inl ⟨by rfl, ?_⟩) ?_ ?_
    rotate_left
    ·intro w'
     go_simp
     with_reducible rfl
    rotate_left
    ·simp only [Act.put, List.setIfInBounds_toArray, List.set_cons_zero, List.set_cons_succ, i64_w, i32_w]
     rfl
    refine pure_ (i := 5) (N := some 51) (v := ?_) (a' := ?_) #[true, false, false, true, false, true, false, false, false, false, false, false, false] rfl rfl (any_of HT_.out (by kernel_rfl)) (fun _ _ _ h => h) (Or.inl ⟨by rfl, ?_⟩) ?_ ?_
    rotate_left
    ·intro w'
     go_simp
     with_reducible rfl
    rotate_left
    ·simp only [Act.put, List.setIfInBounds_toArray, List.set_cons_zero, List.set_cons_succ, i64_w, i32_w]
     rfl
    refine pure_ (i := 8) (N := some 54) (v := ?_) (a' := ?_) #[true, false, false, true, false, true, false, false, true, false, false, false, false] rfl rfl (any_of HT_.out (by kernel_rfl)) (fun _ _ _ h => h) (Or.inl ⟨by rfl, ?_⟩) ?_ ?_
    rotate_left
    ·intro w'
     go_simp
     with_reducible rfl
    rotate_left
    ·simp only [Act.put, List.setIfInBounds_toArray, List.set_cons_zero, List.set_cons_succ, i64_w, i32_w]
     rfl
    refine take_ (i := 1) (N := some 47) (v := ?_) (a' := ?_) #[true, true, false, true, false, true, false, false, true, false, false, false, false] rfl rfl (take_ofW HT_.out HW_.out (by kernel_rfl)) (fun _ _ _ h => h) (Or.inl ⟨by rfl, ?_⟩) hHeld ?_ ?_
    rotate_left
    ·rintro w' ⟨s0, s1⟩
     go_simp
     with_reducible rfl
    rotate_left
    ·simp only [Act.put, List.setIfInBounds_toArray, List.set_cons_zero, List.set_cons_succ, i64_w, i32_w]
     rfl
    refine pure_ (i := 2) (N := some 48) (v := ?_) (a' := ?_) #[true, true, true, true, false, true, false, false, true, false, false, false, false] rfl rfl (any_of HT_.out (by kernel_rfl)) (fun _ _ _ h => h) (Or.inl ⟨by rfl, ?_⟩) ?_ ?_
    rotate_left
    ·intro w'
     go_simp
     with_reducible rfl
    rotate_left
    ·simp only [Act.put, List.setIfInBounds_toArray, List.set_cons_zero, List.set_cons_succ, i64_w, i32_w]
     rfl
    refine take_ (i := 6) (N := some 52) (v := ?_) (a' := ?_) #[true, true, true, true, false, true, true, false, true, false, false, false, false] rfl rfl (take_ofW HT_.out HW_.out (by kernel_rfl)) (fun _ _ _ h => h) (Or.inl ⟨by rfl, ?_⟩) hHeld ?_ ?_
    rotate_left
    ·rintro w' ⟨s0, s1⟩
     go_simp
     with_reducible rfl
    rotate_left
    ·simp only [Act.put, List.setIfInBounds_toArray, List.set_cons_zero, List.set_cons_succ, i64_w, i32_w]
     rfl
    refine pure_ (i := 7) (N := some 53) (v := ?_) (a' := ?_) #[true, true, true, true, false, true, true, true, true, false, false, false, false] rfl rfl (any_of HT_.out (by kernel_rfl)) (fun _ _ _ h => h) (Or.inl ⟨by rfl, ?_⟩) ?_ ?_
    rotate_left
    ·intro w'
     go_simp
     with_reducible rfl
    rotate_left
    ·simp only [Act.put, List.setIfInBounds_toArray, List.set_cons_zero, List.set_cons_succ, i64_w, i32_w]
     rfl
    refine join_ (σ := Value × Value × Nat) 1 #[true, true, true, true, true, true, true, true, true, true, true, true, false] (fun s_ => [(50, s_.1), (55, s_.2.1), (12, .pointer (some ⟨s_.2.2, 0, none⟩)), (56, .agg #[s_.1, s_.2.1])]) (fun s_ w' => (w'.cell? ⟨gb101, 0, none⟩ = some (.slice A0_0 l0_0.length c0_0) ∧ w'.cell? ⟨gb101, 1, none⟩ = some (.slice A0_1 l0_1.length c0_1)) ∧ (Kd.R (Kd.int .i64) 3 w' w.heap.size (fun k_ => some k_ ≠ (s_.2.1 : Value).ownBlock) s_.1 t107) ∧ (Kd.R (Kd.int .i64) 3 w' w.heap.size (fun k_ => some k_ ≠ (s_.1 : Value).ownBlock) s_.2.1 t110) ∧ (w'.heap[gb101]? = some (.cells #[.slice A0_0 l0_0.length c0_0, .slice A0_1 l0_1.length c0_1] 25 (0, 0))) ∧ (w'.heap[gb102]? = some (.cells #[.slice none 0 0, .slice none 0 0] 25 (0, 0))) ∧ (w'.heap[gb103]? = some (.cells #[.slice none 0 0, .slice none 0 0] 29 (0, 0))) ∧ (w'.heap[s_.2.2]? = some (.cells #[.slice none 0 0, .slice none 0 0] 29 (0, 0))) ∧ (w.heap.size ≤ s_.2.2) ∧ (w.heap.size ≤ s_.2.2) ∧ (gb101 ≠ s_.2.2) ∧ (s_.2.2 ≠ gb101) ∧ (gb102 ≠ s_.2.2) ∧ (s_.2.2 ≠ gb102) ∧ (gb103 ≠ s_.2.2) ∧ (s_.2.2 ≠ gb103) ∧ (Below w.heap.size w w')) ?_ ?_
    rotate_left
    ·intro hCont
     refine two_ (i := 4) (j := 11) (Ni := some 50) (Nj := some 12) #[true, true, true, true, true, true, true, true, true, false, false, false, false] #[true, true, true, true, false, true, true, true, true, false, false, true, false] rfl rfl rfl rfl (two_of HT_.out (by kernel_rfl)) (by decide) (by decide) (fun K hK => ?_) (fun K hK => ?_)
     ·skip
      refine goes_ Try.func40 (by kernel_rfl) rfl #[.int .i64 (l0_0.length : Int), .slice A1 l1.length c1] (by rfl) rfl rfl aM ?_
      with_reducible refine (graph_left.calls k (l0_0.length : Int) _ _ l1 t107 _ ?side1 ?side2 A10.out).mono ?_
      (case side1 => repeat (first | exact (cB HR1.out HB.out) | (with_reducible refine cA ?_ _) | (with_reducible refine cN ?_ _) | (with_reducible refine cD ?_)))
      (case side2 => exact HC1.out)
      rintro e w22 ⟨v108, rfl, ho0, hb⟩
      refine ⟨_, rfl, ?_⟩
      have n0_ := Aside0.mk (Kd.R_lower ho0 (below_size (by repeat (first | (with_reducible first | exact HB.out | apply wA | apply wN | apply wD | refine below_set ?_ GE101.out | refine below_set ?_ GE102.out | refine below_set ?_ GE103.out) | exact HB.out))))
      have n1_ := Aside0.mk (bB (g := gb101) (o := .cells #[.slice A0_0 l0_0.length c0_0, .slice A0_1 l0_1.length c0_1] 25 (0, 0)) (by (with_reducible repeat (first | refine bN ?_ _ | refine bD ?_ | refine bA ?_ _)); exact BK101.out) hb)
      have n2_ := Aside0.mk (bB (g := gb102) (o := .cells #[.slice none 0 0, .slice none 0 0] 25 (0, 0)) (by (with_reducible repeat (first | refine bN ?_ _ | refine bD ?_ | refine bA ?_ _)); exact BK102.out) hb)
      have n3_ := Aside0.mk (bB (g := gb103) (o := .cells #[.slice none 0 0, .slice none 0 0] 29 (0, 0)) (by (with_reducible repeat (first | refine bN ?_ _ | refine bD ?_ | refine bA ?_ _)); exact BK103.out) hb)
      have n4_ := Aside0.mk (wS (by repeat (first | (with_reducible first | exact HB.out | apply wA | apply wN | apply wD | refine below_set ?_ GE101.out | refine below_set ?_ GE102.out | refine below_set ?_ GE103.out) | exact HB.out)) hb)
      clear BK101
      clear BK102
      clear BK103
      clear HB
      have HO109 := n0_
      have BK101 := n1_
      have BK102 := n2_
      have BK103 := n3_
      have HB := n4_
      clear n0_ n1_ n2_ n3_ n4_
      (try clear hb)
      (try clear hb2)
      (try clear hk)
      (try clear hi)
      (try clear ho0)
      refine hK.out _ _ ⟨(blk_cell BK101.out 0).trans rfl, (blk_cell BK101.out 1).trans rfl⟩ (fun hHeld => ?_)
      clear hK K
      refine norm_ (a' := ?_) ?_ ?_
      rotate_left
      ·show Act.put _ (some 50) _ = _
       simp only [Act.put, List.setIfInBounds_toArray, List.set_cons_zero, List.set_cons_succ, i64_w, i32_w]
       rfl
      refine two_ (i := 9) (j := 11) (Ni := some 55) (Nj := some 12) #[true, true, true, true, true, true, true, true, true, true, false, false, false] #[true, true, true, true, true, true, true, true, true, false, false, true, false] rfl rfl rfl rfl (two_of HT_.out (by kernel_rfl)) (by decide) (by decide) (fun K hK => ?_) (fun K hK => ?_)
      ·skip
       refine goes_ Try.func40 (by kernel_rfl) rfl #[.int .i64 (l0_1.length : Int), .slice A2 l2.length c2] (by rfl) rfl rfl aM ?_
       with_reducible refine (graph_left.calls k (l0_1.length : Int) _ _ l2 t110 _ ?side1 ?side2 A11.out).mono ?_
       (case side1 => repeat (first | exact (cB HR2.out HB.out) | (with_reducible refine cA ?_ _) | (with_reducible refine cN ?_ _) | (with_reducible refine cD ?_)))
       (case side2 => exact HC2.out)
       rintro e w23 ⟨v111, rfl, ho0, hb⟩
       refine ⟨_, rfl, ?_⟩
       have n0_ := Aside0.mk (Kd.R_elder' (by (with_reducible repeat (first | apply rA | apply rN | apply rD)); exact HO109.out) (Kd.R_base ho0) hb)
       have n1_ := Aside0.mk (Kd.R_lower (Kd.R_new' ho0 (Kd.R_lt (by (with_reducible repeat (first | apply rA | apply rN | apply rD)); exact HO109.out))) (below_size (by repeat (first | (with_reducible first | exact HB.out | apply wA | apply wN | apply wD | refine below_set ?_ GE101.out | refine below_set ?_ GE102.out | refine below_set ?_ GE103.out) | exact HB.out))))
       have n2_ := Aside0.mk (bB (g := gb101) (o := .cells #[.slice A0_0 l0_0.length c0_0, .slice A0_1 l0_1.length c0_1] 25 (0, 0)) (by (with_reducible repeat (first | refine bN ?_ _ | refine bD ?_ | refine bA ?_ _)); exact BK101.out) hb)
       have n3_ := Aside0.mk (bB (g := gb102) (o := .cells #[.slice none 0 0, .slice none 0 0] 25 (0, 0)) (by (with_reducible repeat (first | refine bN ?_ _ | refine bD ?_ | refine bA ?_ _)); exact BK102.out) hb)
       have n4_ := Aside0.mk (bB (g := gb103) (o := .cells #[.slice none 0 0, .slice none 0 0] 29 (0, 0)) (by (with_reducible repeat (first | refine bN ?_ _ | refine bD ?_ | refine bA ?_ _)); exact BK103.out) hb)
       have n5_ := Aside0.mk (wS (by repeat (first | (with_reducible first | exact HB.out | apply wA | apply wN | apply wD | refine below_set ?_ GE101.out | refine below_set ?_ GE102.out | refine below_set ?_ GE103.out) | exact HB.out)) hb)
       clear HO109
       clear BK101
       clear BK102
       clear BK103
       clear HB
       have HO109 := n0_
       have HO112 := n1_
       have BK101 := n2_
       have BK102 := n3_
       have BK103 := n4_
       have HB := n5_
       clear n0_ n1_ n2_ n3_ n4_ n5_
       (try clear hb)
       (try clear hb2)
       (try clear hk)
       (try clear hi)
       (try clear ho0)
       obtain ⟨Ao24, co24, eo24⟩ := Kd.R_slice HO112.out
       (first | subst eo24 | (injection eo24 with f1_ f2_ f3_; have f4_ := f1_.symm; have f5_ := f3_.symm; clear f1_ f2_ f3_; subst f4_; subst f5_))
       obtain ⟨Ao25, co25, eo25⟩ := Kd.R_slice HO109.out
       (first | subst eo25 | (injection eo25 with f1_ f2_ f3_; have f4_ := f1_.symm; have f5_ := f3_.symm; clear f1_ f2_ f3_; subst f4_; subst f5_))
       refine hK.out _ _ ⟨(blk_cell BK101.out 0).trans rfl, (blk_cell BK101.out 1).trans rfl⟩ (fun hHeld => ?_)
       clear hK K
       refine norm_ (a' := ?_) ?_ ?_
       rotate_left
       ·show Act.put _ (some 55) _ = _
        simp only [Act.put, List.setIfInBounds_toArray, List.set_cons_zero, List.set_cons_succ, i64_w, i32_w]
        rfl
       refine pure_ (i := 10) (N := some 56) (v := ?_) (a' := ?_) #[true, true, true, true, true, true, true, true, true, true, true, false, false] rfl rfl (any_of HT_.out (by kernel_rfl)) (fun _ _ _ h => h) (Or.inl ⟨by rfl, ?_⟩) ?_ ?_
       rotate_left
       ·intro w'
        go_simp
        with_reducible rfl
       rotate_left
       ·simp only [Act.put, List.setIfInBounds_toArray, List.set_cons_zero, List.set_cons_succ, i64_w, i32_w]
        rfl
       refine one_ (i := 11) (N := some 12) #[true, true, true, true, true, true, true, true, true, true, true, true, false] rfl rfl (one_of HT_.out (by kernel_rfl)) (by decide) (fun K hK => ?_)
       refine box_step ?hg (N := 12) ?hd (cs := #[.slice none 0 0, .slice none 0 0]) (t := 29) ?hr ?_; (case hd => rfl); (case hg => rfl); (case hr => first | (go_simp; done) | (go_simp; rfl))
       intro gb113 hg w26 hbox hb
       have n0_ := Aside0.mk (rB (by (with_reducible repeat (first | apply rA | apply rN | apply rD)); exact HO109.out) hb)
       have n1_ := Aside0.mk (rB (by (with_reducible repeat (first | apply rA | apply rN | apply rD)); exact HO112.out) hb)
       have n2_ := Aside0.mk (bB (g := gb101) (o := .cells #[.slice A0_0 l0_0.length c0_0, .slice A0_1 l0_1.length c0_1] 25 (0, 0)) (by (with_reducible repeat (first | refine bN ?_ _ | refine bD ?_ | refine bA ?_ _)); exact BK101.out) hb)
       have n3_ := Aside0.mk (bB (g := gb102) (o := .cells #[.slice none 0 0, .slice none 0 0] 25 (0, 0)) (by (with_reducible repeat (first | refine bN ?_ _ | refine bD ?_ | refine bA ?_ _)); exact BK102.out) hb)
       have n4_ := Aside0.mk (bB (g := gb103) (o := .cells #[.slice none 0 0, .slice none 0 0] 29 (0, 0)) (by (with_reducible repeat (first | refine bN ?_ _ | refine bD ?_ | refine bA ?_ _)); exact BK103.out) hb)
       have n5_ := Aside0.mk (wS (by repeat (first | (with_reducible first | exact HB.out | apply wA | apply wN | apply wD | refine below_set ?_ GE101.out | refine below_set ?_ GE102.out | refine below_set ?_ GE103.out) | exact HB.out)) hb)
       have n6_ := Aside0.mk (hbox)
       have n7_ := Aside0.mk ((by rw [hg]; exact (below_size (by repeat (first | (with_reducible first | exact HB.out | apply wA | apply wN | apply wD | refine below_set ?_ GE101.out | refine below_set ?_ GE102.out | refine below_set ?_ GE103.out) | exact HB.out))) : w.heap.size ≤ gb113))
       have n8_ := Aside0.mk ((by rw [hg]; exact (below_size (by repeat (first | (with_reducible first | exact HB.out | apply wA | apply wN | apply wD | refine below_set ?_ GE101.out | refine below_set ?_ GE102.out | refine below_set ?_ GE103.out) | exact HB.out))) : w.heap.size ≤ gb113))
       have n9_ := Aside0.mk ((by rw [hg]; exact Nat.ne_of_lt (blk_lt (g := gb101) (o := .cells #[.slice A0_0 l0_0.length c0_0, .slice A0_1 l0_1.length c0_1] 25 (0, 0)) (by (with_reducible repeat (first | refine bN ?_ _ | refine bD ?_ | refine bA ?_ _)); exact BK101.out)) : gb101 ≠ gb113))
       have n10_ := Aside0.mk ((by rw [hg]; exact Nat.ne_of_gt (blk_lt (g := gb101) (o := .cells #[.slice A0_0 l0_0.length c0_0, .slice A0_1 l0_1.length c0_1] 25 (0, 0)) (by (with_reducible repeat (first | refine bN ?_ _ | refine bD ?_ | refine bA ?_ _)); exact BK101.out)) : gb113 ≠ gb101))
       have n11_ := Aside0.mk ((by rw [hg]; exact Nat.ne_of_lt (blk_lt (g := gb102) (o := .cells #[.slice none 0 0, .slice none 0 0] 25 (0, 0)) (by (with_reducible repeat (first | refine bN ?_ _ | refine bD ?_ | refine bA ?_ _)); exact BK102.out)) : gb102 ≠ gb113))
       have n12_ := Aside0.mk ((by rw [hg]; exact Nat.ne_of_gt (blk_lt (g := gb102) (o := .cells #[.slice none 0 0, .slice none 0 0] 25 (0, 0)) (by (with_reducible repeat (first | refine bN ?_ _ | refine bD ?_ | refine bA ?_ _)); exact BK102.out)) : gb113 ≠ gb102))
       have n13_ := Aside0.mk ((by rw [hg]; exact Nat.ne_of_lt (blk_lt (g := gb103) (o := .cells #[.slice none 0 0, .slice none 0 0] 29 (0, 0)) (by (with_reducible repeat (first | refine bN ?_ _ | refine bD ?_ | refine bA ?_ _)); exact BK103.out)) : gb103 ≠ gb113))
       have n14_ := Aside0.mk ((by rw [hg]; exact Nat.ne_of_gt (blk_lt (g := gb103) (o := .cells #[.slice none 0 0, .slice none 0 0] 29 (0, 0)) (by (with_reducible repeat (first | refine bN ?_ _ | refine bD ?_ | refine bA ?_ _)); exact BK103.out)) : gb113 ≠ gb103))
       clear HO109
       clear HO112
       clear BK101
       clear BK102
       clear BK103
       clear HB
       have HO109 := n0_
       have HO112 := n1_
       have BK101 := n2_
       have BK102 := n3_
       have BK103 := n4_
       have HB := n5_
       have BK113 := n6_
       have GW113 := n7_
       have GE113 := n8_
       have NB101_113 := n9_
       have NB113_101 := n10_
       have NB102_113 := n11_
       have NB113_102 := n12_
       have NB103_113 := n13_
       have NB113_103 := n14_
       clear n0_ n1_ n2_ n3_ n4_ n5_ n6_ n7_ n8_ n9_ n10_ n11_ n12_ n13_ n14_
       clear hb hbox hg
       refine hK.out _ _ ⟨(blk_cell BK101.out 0).trans rfl, (blk_cell BK101.out 1).trans rfl⟩ (fun hHeld => ?_)
       clear hK K
       refine norm_ (a' := ?_) ?_ ?_
       rotate_left
       ·show Act.put _ (some 12) _ = _
        simp only [Act.put, List.setIfInBounds_toArray, List.set_cons_zero, List.set_cons_succ, i64_w, i32_w]
        rfl
       exact norm_ (by simp only [putAll, Act.put, List.setIfInBounds_toArray, List.set_cons_zero, List.set_cons_succ]) (hCont (.slice Ao25 t107.length co25, .slice Ao24 t110.length co24, gb113) _ ⟨hHeld, (by (with_reducible repeat (first | apply rA | apply rN | apply rD)); exact Kd.R_mono HO109.out (fun _ hk => hk.2)), (by (with_reducible repeat (first | apply rA | apply rN | apply rD)); exact Kd.R_mono HO112.out (fun _ hk => hk.2)), (by (with_reducible repeat (first | refine bN ?_ _ | refine bD ?_ | refine bA ?_ _)); exact BK101.out), (by (with_reducible repeat (first | refine bN ?_ _ | refine bD ?_ | refine bA ?_ _)); exact BK102.out), (by (with_reducible repeat (first | refine bN ?_ _ | refine bD ?_ | refine bA ?_ _)); exact BK103.out), (by (with_reducible repeat (first | refine bN ?_ _ | refine bD ?_ | refine bA ?_ _)); exact BK113.out), GW113.out, GE113.out, NB101_113.out, NB113_101.out, NB102_113.out, NB113_102.out, NB103_113.out, NB113_103.out, (by repeat (first | (with_reducible first | exact HB.out | apply wA | apply wN | apply wD | refine below_set ?_ GE101.out | refine below_set ?_ GE102.out | refine below_set ?_ GE103.out | refine below_set ?_ GE113.out) | exact HB.out))⟩)
      ·skip
       refine box_step ?hg (N := 12) ?hd (cs := #[.slice none 0 0, .slice none 0 0]) (t := 29) ?hr ?_; (case hd => rfl); (case hg => rfl); (case hr => first | (go_simp; done) | (go_simp; rfl))
       intro gb113 hg w23 hbox hb
       have n0_ := Aside0.mk (rB (by (with_reducible repeat (first | apply rA | apply rN | apply rD)); exact HO109.out) hb)
       have n1_ := Aside0.mk (bB (g := gb101) (o := .cells #[.slice A0_0 l0_0.length c0_0, .slice A0_1 l0_1.length c0_1] 25 (0, 0)) (by (with_reducible repeat (first | refine bN ?_ _ | refine bD ?_ | refine bA ?_ _)); exact BK101.out) hb)
       have n2_ := Aside0.mk (bB (g := gb102) (o := .cells #[.slice none 0 0, .slice none 0 0] 25 (0, 0)) (by (with_reducible repeat (first | refine bN ?_ _ | refine bD ?_ | refine bA ?_ _)); exact BK102.out) hb)
       have n3_ := Aside0.mk (bB (g := gb103) (o := .cells #[.slice none 0 0, .slice none 0 0] 29 (0, 0)) (by (with_reducible repeat (first | refine bN ?_ _ | refine bD ?_ | refine bA ?_ _)); exact BK103.out) hb)
       have n4_ := Aside0.mk (wS (by repeat (first | (with_reducible first | exact HB.out | apply wA | apply wN | apply wD | refine below_set ?_ GE101.out | refine below_set ?_ GE102.out | refine below_set ?_ GE103.out) | exact HB.out)) hb)
       have n5_ := Aside0.mk (hbox)
       have n6_ := Aside0.mk ((by rw [hg]; exact (below_size (by repeat (first | (with_reducible first | exact HB.out | apply wA | apply wN | apply wD | refine below_set ?_ GE101.out | refine below_set ?_ GE102.out | refine below_set ?_ GE103.out) | exact HB.out))) : w.heap.size ≤ gb113))
       have n7_ := Aside0.mk ((by rw [hg]; exact (below_size (by repeat (first | (with_reducible first | exact HB.out | apply wA | apply wN | apply wD | refine below_set ?_ GE101.out | refine below_set ?_ GE102.out | refine below_set ?_ GE103.out) | exact HB.out))) : w.heap.size ≤ gb113))
       have n8_ := Aside0.mk ((by rw [hg]; exact Nat.ne_of_lt (blk_lt (g := gb101) (o := .cells #[.slice A0_0 l0_0.length c0_0, .slice A0_1 l0_1.length c0_1] 25 (0, 0)) (by (with_reducible repeat (first | refine bN ?_ _ | refine bD ?_ | refine bA ?_ _)); exact BK101.out)) : gb101 ≠ gb113))
       have n9_ := Aside0.mk ((by rw [hg]; exact Nat.ne_of_gt (blk_lt (g := gb101) (o := .cells #[.slice A0_0 l0_0.length c0_0, .slice A0_1 l0_1.length c0_1] 25 (0, 0)) (by (with_reducible repeat (first | refine bN ?_ _ | refine bD ?_ | refine bA ?_ _)); exact BK101.out)) : gb113 ≠ gb101))
       have n10_ := Aside0.mk ((by rw [hg]; exact Nat.ne_of_lt (blk_lt (g := gb102) (o := .cells #[.slice none 0 0, .slice none 0 0] 25 (0, 0)) (by (with_reducible repeat (first | refine bN ?_ _ | refine bD ?_ | refine bA ?_ _)); exact BK102.out)) : gb102 ≠ gb113))
       have n11_ := Aside0.mk ((by rw [hg]; exact Nat.ne_of_gt (blk_lt (g := gb102) (o := .cells #[.slice none 0 0, .slice none 0 0] 25 (0, 0)) (by (with_reducible repeat (first | refine bN ?_ _ | refine bD ?_ | refine bA ?_ _)); exact BK102.out)) : gb113 ≠ gb102))
       have n12_ := Aside0.mk ((by rw [hg]; exact Nat.ne_of_lt (blk_lt (g := gb103) (o := .cells #[.slice none 0 0, .slice none 0 0] 29 (0, 0)) (by (with_reducible repeat (first | refine bN ?_ _ | refine bD ?_ | refine bA ?_ _)); exact BK103.out)) : gb103 ≠ gb113))
       have n13_ := Aside0.mk ((by rw [hg]; exact Nat.ne_of_gt (blk_lt (g := gb103) (o := .cells #[.slice none 0 0, .slice none 0 0] 29 (0, 0)) (by (with_reducible repeat (first | refine bN ?_ _ | refine bD ?_ | refine bA ?_ _)); exact BK103.out)) : gb113 ≠ gb103))
       clear HO109
       clear BK101
       clear BK102
       clear BK103
       clear HB
       have HO109 := n0_
       have BK101 := n1_
       have BK102 := n2_
       have BK103 := n3_
       have HB := n4_
       have BK113 := n5_
       have GW113 := n6_
       have GE113 := n7_
       have NB101_113 := n8_
       have NB113_101 := n9_
       have NB102_113 := n10_
       have NB113_102 := n11_
       have NB103_113 := n12_
       have NB113_103 := n13_
       clear n0_ n1_ n2_ n3_ n4_ n5_ n6_ n7_ n8_ n9_ n10_ n11_ n12_ n13_
       clear hb hbox hg
       refine hK.out _ _ ⟨(blk_cell BK101.out 0).trans rfl, (blk_cell BK101.out 1).trans rfl⟩ (fun hHeld => ?_)
       clear hK K
       refine norm_ (a' := ?_) ?_ ?_
       rotate_left
       ·show Act.put _ (some 12) _ = _
        simp only [Act.put, List.setIfInBounds_toArray, List.set_cons_zero, List.set_cons_succ, i64_w, i32_w]
        rfl
       refine one_ (i := 9) (N := some 55) #[true, true, true, true, true, true, true, true, true, true, false, true, false] rfl rfl (one_of HT_.out (by kernel_rfl)) (by decide) (fun K hK => ?_)
       refine goes_ Try.func40 (by kernel_rfl) rfl #[.int .i64 (l0_1.length : Int), .slice A2 l2.length c2] (by rfl) rfl rfl aM ?_
       with_reducible refine (graph_left.calls k (l0_1.length : Int) _ _ l2 t110 _ ?side1 ?side2 A11.out).mono ?_
       (case side1 => repeat (first | exact (cB HR2.out HB.out) | (with_reducible refine cA ?_ _) | (with_reducible refine cN ?_ _) | (with_reducible refine cD ?_)))
       (case side2 => exact HC2.out)
       rintro e w24 ⟨v111, rfl, ho0, hb⟩
       refine ⟨_, rfl, ?_⟩
       have n0_ := Aside0.mk (Kd.R_elder' (by (with_reducible repeat (first | apply rA | apply rN | apply rD)); exact HO109.out) (Kd.R_base ho0) hb)
       have n1_ := Aside0.mk (Kd.R_lower (Kd.R_new' ho0 (Kd.R_lt (by (with_reducible repeat (first | apply rA | apply rN | apply rD)); exact HO109.out))) (below_size (by repeat (first | (with_reducible first | exact HB.out | apply wA | apply wN | apply wD | refine below_set ?_ GE101.out | refine below_set ?_ GE102.out | refine below_set ?_ GE103.out | refine below_set ?_ GE113.out) | exact HB.out))))
       have n2_ := Aside0.mk (bB (g := gb101) (o := .cells #[.slice A0_0 l0_0.length c0_0, .slice A0_1 l0_1.length c0_1] 25 (0, 0)) (by (with_reducible repeat (first | refine bN ?_ _ | refine bD ?_ | refine bA ?_ _)); exact BK101.out) hb)
       have n3_ := Aside0.mk (bB (g := gb102) (o := .cells #[.slice none 0 0, .slice none 0 0] 25 (0, 0)) (by (with_reducible repeat (first | refine bN ?_ _ | refine bD ?_ | refine bA ?_ _)); exact BK102.out) hb)
       have n4_ := Aside0.mk (bB (g := gb103) (o := .cells #[.slice none 0 0, .slice none 0 0] 29 (0, 0)) (by (with_reducible repeat (first | refine bN ?_ _ | refine bD ?_ | refine bA ?_ _)); exact BK103.out) hb)
       have n5_ := Aside0.mk (bB (g := gb113) (o := .cells #[.slice none 0 0, .slice none 0 0] 29 (0, 0)) (by (with_reducible repeat (first | refine bN ?_ _ | refine bD ?_ | refine bA ?_ _)); exact BK113.out) hb)
       have n6_ := Aside0.mk (wS (by repeat (first | (with_reducible first | exact HB.out | apply wA | apply wN | apply wD | refine below_set ?_ GE101.out | refine below_set ?_ GE102.out | refine below_set ?_ GE103.out | refine below_set ?_ GE113.out) | exact HB.out)) hb)
       clear HO109
       clear BK101
       clear BK102
       clear BK103
       clear BK113
       clear HB
       have HO109 := n0_
       have HO112 := n1_
       have BK101 := n2_
       have BK102 := n3_
       have BK103 := n4_
       have BK113 := n5_
       have HB := n6_
       clear n0_ n1_ n2_ n3_ n4_ n5_ n6_
       (try clear hb)
       (try clear hb2)
       (try clear hk)
       (try clear hi)
       (try clear ho0)
       obtain ⟨Ao25, co25, eo25⟩ := Kd.R_slice HO112.out
       (first | subst eo25 | (injection eo25 with f1_ f2_ f3_; have f4_ := f1_.symm; have f5_ := f3_.symm; clear f1_ f2_ f3_; subst f4_; subst f5_))
       obtain ⟨Ao26, co26, eo26⟩ := Kd.R_slice HO109.out
       (first | subst eo26 | (injection eo26 with f1_ f2_ f3_; have f4_ := f1_.symm; have f5_ := f3_.symm; clear f1_ f2_ f3_; subst f4_; subst f5_))
       refine hK.out _ _ ⟨(blk_cell BK101.out 0).trans rfl, (blk_cell BK101.out 1).trans rfl⟩ (fun hHeld => ?_)
       clear hK K
       refine norm_ (a' := ?_) ?_ ?_
       rotate_left
       ·show Act.put _ (some 55) _ = _
        simp only [Act.put, List.setIfInBounds_toArray, List.set_cons_zero, List.set_cons_succ, i64_w, i32_w]
        rfl
       refine pure_ (i := 10) (N := some 56) (v := ?_) (a' := ?_) #[true, true, true, true, true, true, true, true, true, true, true, true, false] rfl rfl (any_of HT_.out (by kernel_rfl)) (fun _ _ _ h => h) (Or.inl ⟨by rfl, ?_⟩) ?_ ?_
       rotate_left
       ·intro w'
        go_simp
        with_reducible rfl
       rotate_left
       ·simp only [Act.put, List.setIfInBounds_toArray, List.set_cons_zero, List.set_cons_succ, i64_w, i32_w]
        rfl
       exact norm_ (by simp only [putAll, Act.put, List.setIfInBounds_toArray, List.set_cons_zero, List.set_cons_succ]) (hCont (.slice Ao26 t107.length co26, .slice Ao25 t110.length co25, gb113) _ ⟨hHeld, (by (with_reducible repeat (first | apply rA | apply rN | apply rD)); exact Kd.R_mono HO109.out (fun _ hk => hk.2)), (by (with_reducible repeat (first | apply rA | apply rN | apply rD)); exact Kd.R_mono HO112.out (fun _ hk => hk.2)), (by (with_reducible repeat (first | refine bN ?_ _ | refine bD ?_ | refine bA ?_ _)); exact BK101.out), (by (with_reducible repeat (first | refine bN ?_ _ | refine bD ?_ | refine bA ?_ _)); exact BK102.out), (by (with_reducible repeat (first | refine bN ?_ _ | refine bD ?_ | refine bA ?_ _)); exact BK103.out), (by (with_reducible repeat (first | refine bN ?_ _ | refine bD ?_ | refine bA ?_ _)); exact BK113.out), GW113.out, GE113.out, NB101_113.out, NB113_101.out, NB102_113.out, NB113_102.out, NB103_113.out, NB113_103.out, (by repeat (first | (with_reducible first | exact HB.out | apply wA | apply wN | apply wD | refine below_set ?_ GE101.out | refine below_set ?_ GE102.out | refine below_set ?_ GE103.out | refine below_set ?_ GE113.out) | exact HB.out))⟩)
     ·skip
      refine box_step ?hg (N := 12) ?hd (cs := #[.slice none 0 0, .slice none 0 0]) (t := 29) ?hr ?_; (case hd => rfl); (case hg => rfl); (case hr => first | (go_simp; done) | (go_simp; rfl))
      intro gb113 hg w22 hbox hb
      have n0_ := Aside0.mk (bB (g := gb101) (o := .cells #[.slice A0_0 l0_0.length c0_0, .slice A0_1 l0_1.length c0_1] 25 (0, 0)) (by (with_reducible repeat (first | refine bN ?_ _ | refine bD ?_ | refine bA ?_ _)); exact BK101.out) hb)
      have n1_ := Aside0.mk (bB (g := gb102) (o := .cells #[.slice none 0 0, .slice none 0 0] 25 (0, 0)) (by (with_reducible repeat (first | refine bN ?_ _ | refine bD ?_ | refine bA ?_ _)); exact BK102.out) hb)
      have n2_ := Aside0.mk (bB (g := gb103) (o := .cells #[.slice none 0 0, .slice none 0 0] 29 (0, 0)) (by (with_reducible repeat (first | refine bN ?_ _ | refine bD ?_ | refine bA ?_ _)); exact BK103.out) hb)
      have n3_ := Aside0.mk (wS (by repeat (first | (with_reducible first | exact HB.out | apply wA | apply wN | apply wD | refine below_set ?_ GE101.out | refine below_set ?_ GE102.out | refine below_set ?_ GE103.out) | exact HB.out)) hb)
      have n4_ := Aside0.mk (hbox)
      have n5_ := Aside0.mk ((by rw [hg]; exact (below_size (by repeat (first | (with_reducible first | exact HB.out | apply wA | apply wN | apply wD | refine below_set ?_ GE101.out | refine below_set ?_ GE102.out | refine below_set ?_ GE103.out) | exact HB.out))) : w.heap.size ≤ gb113))
      have n6_ := Aside0.mk ((by rw [hg]; exact (below_size (by repeat (first | (with_reducible first | exact HB.out | apply wA | apply wN | apply wD | refine below_set ?_ GE101.out | refine below_set ?_ GE102.out | refine below_set ?_ GE103.out) | exact HB.out))) : w.heap.size ≤ gb113))
      have n7_ := Aside0.mk ((by rw [hg]; exact Nat.ne_of_lt (blk_lt (g := gb101) (o := .cells #[.slice A0_0 l0_0.length c0_0, .slice A0_1 l0_1.length c0_1] 25 (0, 0)) (by (with_reducible repeat (first | refine bN ?_ _ | refine bD ?_ | refine bA ?_ _)); exact BK101.out)) : gb101 ≠ gb113))
      have n8_ := Aside0.mk ((by rw [hg]; exact Nat.ne_of_gt (blk_lt (g := gb101) (o := .cells #[.slice A0_0 l0_0.length c0_0, .slice A0_1 l0_1.length c0_1] 25 (0, 0)) (by (with_reducible repeat (first | refine bN ?_ _ | refine bD ?_ | refine bA ?_ _)); exact BK101.out)) : gb113 ≠ gb101))
      have n9_ := Aside0.mk ((by rw [hg]; exact Nat.ne_of_lt (blk_lt (g := gb102) (o := .cells #[.slice none 0 0, .slice none 0 0] 25 (0, 0)) (by (with_reducible repeat (first | refine bN ?_ _ | refine bD ?_ | refine bA ?_ _)); exact BK102.out)) : gb102 ≠ gb113))
      have n10_ := Aside0.mk ((by rw [hg]; exact Nat.ne_of_gt (blk_lt (g := gb102) (o := .cells #[.slice none 0 0, .slice none 0 0] 25 (0, 0)) (by (with_reducible repeat (first | refine bN ?_ _ | refine bD ?_ | refine bA ?_ _)); exact BK102.out)) : gb113 ≠ gb102))
      have n11_ := Aside0.mk ((by rw [hg]; exact Nat.ne_of_lt (blk_lt (g := gb103) (o := .cells #[.slice none 0 0, .slice none 0 0] 29 (0, 0)) (by (with_reducible repeat (first | refine bN ?_ _ | refine bD ?_ | refine bA ?_ _)); exact BK103.out)) : gb103 ≠ gb113))
      have n12_ := Aside0.mk ((by rw [hg]; exact Nat.ne_of_gt (blk_lt (g := gb103) (o := .cells #[.slice none 0 0, .slice none 0 0] 29 (0, 0)) (by (with_reducible repeat (first | refine bN ?_ _ | refine bD ?_ | refine bA ?_ _)); exact BK103.out)) : gb113 ≠ gb103))
      clear BK101
      clear BK102
      clear BK103
      clear HB
      have BK101 := n0_
      have BK102 := n1_
      have BK103 := n2_
      have HB := n3_
      have BK113 := n4_
      have GW113 := n5_
      have GE113 := n6_
      have NB101_113 := n7_
      have NB113_101 := n8_
      have NB102_113 := n9_
      have NB113_102 := n10_
      have NB103_113 := n11_
      have NB113_103 := n12_
      clear n0_ n1_ n2_ n3_ n4_ n5_ n6_ n7_ n8_ n9_ n10_ n11_ n12_
      clear hb hbox hg
      refine hK.out _ _ ⟨(blk_cell BK101.out 0).trans rfl, (blk_cell BK101.out 1).trans rfl⟩ (fun hHeld => ?_)
      clear hK K
      refine norm_ (a' := ?_) ?_ ?_
      rotate_left
      ·show Act.put _ (some 12) _ = _
       simp only [Act.put, List.setIfInBounds_toArray, List.set_cons_zero, List.set_cons_succ, i64_w, i32_w]
       rfl
      refine one_ (i := 4) (N := some 50) #[true, true, true, true, true, true, true, true, true, false, false, true, false] rfl rfl (one_of HT_.out (by kernel_rfl)) (by decide) (fun K hK => ?_)
      refine goes_ Try.func40 (by kernel_rfl) rfl #[.int .i64 (l0_0.length : Int), .slice A1 l1.length c1] (by rfl) rfl rfl aM ?_
      with_reducible refine (graph_left.calls k (l0_0.length : Int) _ _ l1 t107 _ ?side1 ?side2 A10.out).mono ?_
      (case side1 => repeat (first | exact (cB HR1.out HB.out) | (with_reducible refine cA ?_ _) | (with_reducible refine cN ?_ _) | (with_reducible refine cD ?_)))
      (case side2 => exact HC1.out)
      rintro e w23 ⟨v108, rfl, ho0, hb⟩
      refine ⟨_, rfl, ?_⟩
      have n0_ := Aside0.mk (Kd.R_lower ho0 (below_size (by repeat (first | (with_reducible first | exact HB.out | apply wA | apply wN | apply wD | refine below_set ?_ GE101.out | refine below_set ?_ GE102.out | refine below_set ?_ GE103.out | refine below_set ?_ GE113.out) | exact HB.out))))
      have n1_ := Aside0.mk (bB (g := gb101) (o := .cells #[.slice A0_0 l0_0.length c0_0, .slice A0_1 l0_1.length c0_1] 25 (0, 0)) (by (with_reducible repeat (first | refine bN ?_ _ | refine bD ?_ | refine bA ?_ _)); exact BK101.out) hb)
      have n2_ := Aside0.mk (bB (g := gb102) (o := .cells #[.slice none 0 0, .slice none 0 0] 25 (0, 0)) (by (with_reducible repeat (first | refine bN ?_ _ | refine bD ?_ | refine bA ?_ _)); exact BK102.out) hb)
      have n3_ := Aside0.mk (bB (g := gb103) (o := .cells #[.slice none 0 0, .slice none 0 0] 29 (0, 0)) (by (with_reducible repeat (first | refine bN ?_ _ | refine bD ?_ | refine bA ?_ _)); exact BK103.out) hb)
      have n4_ := Aside0.mk (bB (g := gb113) (o := .cells #[.slice none 0 0, .slice none 0 0] 29 (0, 0)) (by (with_reducible repeat (first | refine bN ?_ _ | refine bD ?_ | refine bA ?_ _)); exact BK113.out) hb)
      have n5_ := Aside0.mk (wS (by repeat (first | (with_reducible first | exact HB.out | apply wA | apply wN | apply wD | refine below_set ?_ GE101.out | refine below_set ?_ GE102.out | refine below_set ?_ GE103.out | refine below_set ?_ GE113.out) | exact HB.out)) hb)
      clear BK101
      clear BK102
      clear BK103
      clear BK113
      clear HB
      have HO109 := n0_
      have BK101 := n1_
      have BK102 := n2_
      have BK103 := n3_
      have BK113 := n4_
      have HB := n5_
      clear n0_ n1_ n2_ n3_ n4_ n5_
      (try clear hb)
      (try clear hb2)
      (try clear hk)
      (try clear hi)
      (try clear ho0)
      refine hK.out _ _ ⟨(blk_cell BK101.out 0).trans rfl, (blk_cell BK101.out 1).trans rfl⟩ (fun hHeld => ?_)
      clear hK K
      refine norm_ (a' := ?_) ?_ ?_
      rotate_left
      ·show Act.put _ (some 50) _ = _
       simp only [Act.put, List.setIfInBounds_toArray, List.set_cons_zero, List.set_cons_succ, i64_w, i32_w]
       rfl
      refine one_ (i := 9) (N := some 55) #[true, true, true, true, true, true, true, true, true, true, false, true, false] rfl rfl (one_of HT_.out (by kernel_rfl)) (by decide) (fun K hK => ?_)
      refine goes_ Try.func40 (by kernel_rfl) rfl #[.int .i64 (l0_1.length : Int), .slice A2 l2.length c2] (by rfl) rfl rfl aM ?_
      with_reducible refine (graph_left.calls k (l0_1.length : Int) _ _ l2 t110 _ ?side1 ?side2 A11.out).mono ?_
      (case side1 => repeat (first | exact (cB HR2.out HB.out) | (with_reducible refine cA ?_ _) | (with_reducible refine cN ?_ _) | (with_reducible refine cD ?_)))
      (case side2 => exact HC2.out)
      rintro e w24 ⟨v111, rfl, ho0, hb⟩
      refine ⟨_, rfl, ?_⟩
      have n0_ := Aside0.mk (Kd.R_elder' (by (with_reducible repeat (first | apply rA | apply rN | apply rD)); exact HO109.out) (Kd.R_base ho0) hb)
      have n1_ := Aside0.mk (Kd.R_lower (Kd.R_new' ho0 (Kd.R_lt (by (with_reducible repeat (first | apply rA | apply rN | apply rD)); exact HO109.out))) (below_size (by repeat (first | (with_reducible first | exact HB.out | apply wA | apply wN | apply wD | refine below_set ?_ GE101.out | refine below_set ?_ GE102.out | refine below_set ?_ GE103.out | refine below_set ?_ GE113.out) | exact HB.out))))
      have n2_ := Aside0.mk (bB (g := gb101) (o := .cells #[.slice A0_0 l0_0.length c0_0, .slice A0_1 l0_1.length c0_1] 25 (0, 0)) (by (with_reducible repeat (first | refine bN ?_ _ | refine bD ?_ | refine bA ?_ _)); exact BK101.out) hb)
      have n3_ := Aside0.mk (bB (g := gb102) (o := .cells #[.slice none 0 0, .slice none 0 0] 25 (0, 0)) (by (with_reducible repeat (first | refine bN ?_ _ | refine bD ?_ | refine bA ?_ _)); exact BK102.out) hb)
      have n4_ := Aside0.mk (bB (g := gb103) (o := .cells #[.slice none 0 0, .slice none 0 0] 29 (0, 0)) (by (with_reducible repeat (first | refine bN ?_ _ | refine bD ?_ | refine bA ?_ _)); exact BK103.out) hb)
      have n5_ := Aside0.mk (bB (g := gb113) (o := .cells #[.slice none 0 0, .slice none 0 0] 29 (0, 0)) (by (with_reducible repeat (first | refine bN ?_ _ | refine bD ?_ | refine bA ?_ _)); exact BK113.out) hb)
      have n6_ := Aside0.mk (wS (by repeat (first | (with_reducible first | exact HB.out | apply wA | apply wN | apply wD | refine below_set ?_ GE101.out | refine below_set ?_ GE102.out | refine below_set ?_ GE103.out | refine below_set ?_ GE113.out) | exact HB.out)) hb)
      clear HO109
      clear BK101
      clear BK102
      clear BK103
      clear BK113
      clear HB
      have HO109 := n0_
      have HO112 := n1_
      have BK101 := n2_
      have BK102 := n3_
      have BK103 := n4_
      have BK113 := n5_
      have HB := n6_
      clear n0_ n1_ n2_ n3_ n4_ n5_ n6_
      (try clear hb)
      (try clear hb2)
      (try clear hk)
      (try clear hi)
      (try clear ho0)
      obtain ⟨Ao25, co25, eo25⟩ := Kd.R_slice HO112.out
      (first | subst eo25 | (injection eo25 with f1_ f2_ f3_; have f4_ := f1_.symm; have f5_ := f3_.symm; clear f1_ f2_ f3_; subst f4_; subst f5_))
      obtain ⟨Ao26, co26, eo26⟩ := Kd.R_slice HO109.out
      (first | subst eo26 | (injection eo26 with f1_ f2_ f3_; have f4_ := f1_.symm; have f5_ := f3_.symm; clear f1_ f2_ f3_; subst f4_; subst f5_))
      refine hK.out _ _ ⟨(blk_cell BK101.out 0).trans rfl, (blk_cell BK101.out 1).trans rfl⟩ (fun hHeld => ?_)
      clear hK K
      refine norm_ (a' := ?_) ?_ ?_
      rotate_left
      ·show Act.put _ (some 55) _ = _
       simp only [Act.put, List.setIfInBounds_toArray, List.set_cons_zero, List.set_cons_succ, i64_w, i32_w]
       rfl
      refine pure_ (i := 10) (N := some 56) (v := ?_) (a' := ?_) #[true, true, true, true, true, true, true, true, true, true, true, true, false] rfl rfl (any_of HT_.out (by kernel_rfl)) (fun _ _ _ h => h) (Or.inl ⟨by rfl, ?_⟩) ?_ ?_
      rotate_left
      ·intro w'
       go_simp
       with_reducible rfl
      rotate_left
      ·simp only [Act.put, List.setIfInBounds_toArray, List.set_cons_zero, List.set_cons_succ, i64_w, i32_w]
       rfl
      exact norm_ (by simp only [putAll, Act.put, List.setIfInBounds_toArray, List.set_cons_zero, List.set_cons_succ]) (hCont (.slice Ao26 t107.length co26, .slice Ao25 t110.length co25, gb113) _ ⟨hHeld, (by (with_reducible repeat (first | apply rA | apply rN | apply rD)); exact Kd.R_mono HO109.out (fun _ hk => hk.2)), (by (with_reducible repeat (first | apply rA | apply rN | apply rD)); exact Kd.R_mono HO112.out (fun _ hk => hk.2)), (by (with_reducible repeat (first | refine bN ?_ _ | refine bD ?_ | refine bA ?_ _)); exact BK101.out), (by (with_reducible repeat (first | refine bN ?_ _ | refine bD ?_ | refine bA ?_ _)); exact BK102.out), (by (with_reducible repeat (first | refine bN ?_ _ | refine bD ?_ | refine bA ?_ _)); exact BK103.out), (by (with_reducible repeat (first | refine bN ?_ _ | refine bD ?_ | refine bA ?_ _)); exact BK113.out), GW113.out, GE113.out, NB101_113.out, NB113_101.out, NB102_113.out, NB113_102.out, NB103_113.out, NB113_103.out, (by repeat (first | (with_reducible first | exact HB.out | apply wA | apply wN | apply wD | refine below_set ?_ GE101.out | refine below_set ?_ GE102.out | refine below_set ?_ GE103.out | refine below_set ?_ GE113.out) | exact HB.out))⟩)
    rintro ⟨v108, v111, gb113⟩ w27 ⟨hS_, h0_, h1_, h2_, h3_, h4_, h5_, h6_, h7_, h8_, h9_, h10_, h11_, h12_, h13_, h14_⟩
    have n0_ : Aside0 (Kd.R (Kd.int .i64) 3 w27 w.heap.size (fun k_ => some k_ ≠ (v111 : Value).ownBlock) v108 t107) := ⟨h0_⟩
    have n1_ : Aside0 (Kd.R (Kd.int .i64) 3 w27 w.heap.size (fun k_ => some k_ ≠ (v108 : Value).ownBlock) v111 t110) := ⟨h1_⟩
    have n2_ : Aside0 (w27.heap[gb101]? = some (.cells #[.slice A0_0 l0_0.length c0_0, .slice A0_1 l0_1.length c0_1] 25 (0, 0))) := ⟨h2_⟩
    have n3_ : Aside0 (w27.heap[gb102]? = some (.cells #[.slice none 0 0, .slice none 0 0] 25 (0, 0))) := ⟨h3_⟩
    have n4_ : Aside0 (w27.heap[gb103]? = some (.cells #[.slice none 0 0, .slice none 0 0] 29 (0, 0))) := ⟨h4_⟩
    have n5_ : Aside0 (w27.heap[gb113]? = some (.cells #[.slice none 0 0, .slice none 0 0] 29 (0, 0))) := ⟨h5_⟩
    have n6_ : Aside0 (w.heap.size ≤ gb113) := ⟨h6_⟩
    have n7_ : Aside0 (w.heap.size ≤ gb113) := ⟨h7_⟩
    have n8_ : Aside0 (gb101 ≠ gb113) := ⟨h8_⟩
    have n9_ : Aside0 (gb113 ≠ gb101) := ⟨h9_⟩
    have n10_ : Aside0 (gb102 ≠ gb113) := ⟨h10_⟩
    have n11_ : Aside0 (gb113 ≠ gb102) := ⟨h11_⟩
    have n12_ : Aside0 (gb103 ≠ gb113) := ⟨h12_⟩
    have n13_ : Aside0 (gb113 ≠ gb103) := ⟨h13_⟩
    have n14_ : Aside0 (Below w.heap.size w w27) := ⟨h14_⟩
    clear BK101
    clear BK102
    clear BK103
    clear HB
    clear h0_ h1_ h2_ h3_ h4_ h5_ h6_ h7_ h8_ h9_ h10_ h11_ h12_ h13_ h14_
    have HO109 := n0_
    have HO112 := n1_
    have BK101 := n2_
    have BK102 := n3_
    have BK103 := n4_
    have BK113 := n5_
    have GW113 := n6_
    have GE113 := n7_
    have NB101_113 := n8_
    have NB113_101 := n9_
    have NB102_113 := n10_
    have NB113_102 := n11_
    have NB103_113 := n12_
    have NB113_103 := n13_
    have HB := n14_
    clear n0_ n1_ n2_ n3_ n4_ n5_ n6_ n7_ n8_ n9_ n10_ n11_ n12_ n13_ n14_
    have hHeld : w27.cell? ⟨gb101, 0, none⟩ = some (.slice A0_0 l0_0.length c0_0) ∧ w27.cell? ⟨gb101, 1, none⟩ = some (.slice A0_1 l0_1.length c0_1) := hS_
    obtain ⟨Ao28, co28, eo28⟩ := Kd.R_slice HO112.out
    (first | subst eo28 | (injection eo28 with f1_ f2_ f3_; have f4_ := f1_.symm; have f5_ := f3_.symm; clear f1_ f2_ f3_; subst f4_; subst f5_))
    obtain ⟨Ao29, co29, eo29⟩ := Kd.R_slice HO109.out
    (first | subst eo29 | (injection eo29 with f1_ f2_ f3_; have f4_ := f1_.symm; have f5_ := f3_.symm; clear f1_ f2_ f3_; subst f4_; subst f5_))
    refine norm_ (a' := ?_) ?_ ?_
    rotate_left
    ·simp only [putAll, Act.put, List.setIfInBounds_toArray, List.set_cons_zero, List.set_cons_succ]
     rfl
    refine one_ (i := 12) (N := none) #[true, true, true, true, true, true, true, true, true, true, true, true, true] rfl rfl (one_of HT_.out (by kernel_rfl)) (by decide) (fun K hK => ?_)
    have hs30 : w27.cell? ⟨gb113, 0, none⟩ = some (.slice none 0 0) := (blk_cell BK113.out 0).trans rfl
    have hfs30 := blk_frozen BK113.out 0
    have hns30_0 := NB101_113.out
    have hns30_1 := NB102_113.out
    have hns30_2 := NB103_113.out
    have hms30_0 := NB113_101.out
    have hms30_1 := NB113_102.out
    have hms30_2 := NB113_103.out
    have hs31 : w27.cell? ⟨gb113, 1, none⟩ = some (.slice none 0 0) := (blk_cell BK113.out 1).trans rfl
    have hfs31 := blk_frozen BK113.out 1
    have hns31_0 := NB101_113.out
    have hns31_1 := NB102_113.out
    have hns31_2 := NB103_113.out
    have hms31_0 := NB113_101.out
    have hms31_1 := NB113_102.out
    have hms31_2 := NB113_103.out
    refine skip_ (w1 := ?_) (by rfl) rfl ?_ ?_
    rotate_left
    ·go_simp
     rfl
    refine hK.out _ _ ⟨((cell_far (p := ⟨gb113, _, none⟩) NB101_113.out _).trans (((cell_far (p := ⟨gb113, _, none⟩) NB101_113.out _).trans (hHeld.1)))), ((cell_far (p := ⟨gb113, _, none⟩) NB101_113.out _).trans (((cell_far (p := ⟨gb113, _, none⟩) NB101_113.out _).trans (hHeld.2))))⟩ (fun hHeld => ?_)
    clear hK K
    refine done_ (done_of HT_.out (by kernel_rfl)) ?_
    try go_wp2_with (first | ((with_reducible refine gate_dst (N := 13) rfl ?_); refine box_event ?hg (N := 13) ?hd (cs := #[.slice none 0 0, .slice none 0 0]) (t := 25) ?hr ?_; (case hd => rfl); (case hg => rfl); (case hr => first | (go_simp; done) | (go_simp; rfl)); intro gb114 hg w32 hbox hb; have n0_ := Aside0.mk (rB (by (with_reducible repeat (first | apply rA | apply rN | apply rD)); exact (Kd.R_mono (Kd.R_far (p := ⟨gb113, 1, none⟩) (Kd.R_far (p := ⟨gb113, 0, none⟩) (Kd.R_types HO109.out BK113.out (by decide)) (fun _ hk => hk.2) (.slice Ao29 t107.length co29)) (fun _ hk => hk.2) (.slice Ao28 t110.length co28)) (fun _ h_ => h_.1))) hb); have n1_ := Aside0.mk (rB (by (with_reducible repeat (first | apply rA | apply rN | apply rD)); exact (Kd.R_mono (Kd.R_far (p := ⟨gb113, 1, none⟩) (Kd.R_far (p := ⟨gb113, 0, none⟩) (Kd.R_types HO112.out BK113.out (by decide)) (fun _ hk => hk.2) (.slice Ao29 t107.length co29)) (fun _ hk => hk.2) (.slice Ao28 t110.length co28)) (fun _ h_ => h_.1))) hb); have n2_ := Aside0.mk (bB (g := gb101) (o := .cells #[.slice A0_0 l0_0.length c0_0, .slice A0_1 l0_1.length c0_1] 25 (0, 0)) (by (with_reducible repeat (first | refine bN ?_ _ | refine bD ?_ | refine bA ?_ _)); refine blk_far ?_ NB101_113.out _; (with_reducible repeat (first | refine bN ?_ _ | refine bD ?_ | refine bA ?_ _)); refine blk_far ?_ NB101_113.out _; (with_reducible repeat (first | refine bN ?_ _ | refine bD ?_ | refine bA ?_ _)); exact BK101.out) hb); have n3_ := Aside0.mk (bB (g := gb102) (o := .cells #[.slice none 0 0, .slice none 0 0] 25 (0, 0)) (by (with_reducible repeat (first | refine bN ?_ _ | refine bD ?_ | refine bA ?_ _)); refine blk_far ?_ NB102_113.out _; (with_reducible repeat (first | refine bN ?_ _ | refine bD ?_ | refine bA ?_ _)); refine blk_far ?_ NB102_113.out _; (with_reducible repeat (first | refine bN ?_ _ | refine bD ?_ | refine bA ?_ _)); exact BK102.out) hb); have n4_ := Aside0.mk (bB (g := gb103) (o := .cells #[.slice none 0 0, .slice none 0 0] 29 (0, 0)) (by (with_reducible repeat (first | refine bN ?_ _ | refine bD ?_ | refine bA ?_ _)); refine blk_far ?_ NB103_113.out _; (with_reducible repeat (first | refine bN ?_ _ | refine bD ?_ | refine bA ?_ _)); refine blk_far ?_ NB103_113.out _; (with_reducible repeat (first | refine bN ?_ _ | refine bD ?_ | refine bA ?_ _)); exact BK103.out) hb); have n5_ := Aside0.mk (bB (g := gb113) (o := .cells #[.slice Ao29 t107.length co29, .slice Ao28 t110.length co28] 29 (0, 0)) (by (with_reducible repeat (first | refine bN ?_ _ | refine bD ?_ | refine bA ?_ _)); refine blk_put (cs := #[.slice Ao29 t107.length co29, .slice none 0 0]) ?_ 1 _ rfl; (with_reducible repeat (first | refine bN ?_ _ | refine bD ?_ | refine bA ?_ _)); refine blk_put (cs := #[.slice none 0 0, .slice none 0 0]) ?_ 0 _ rfl; (with_reducible repeat (first | refine bN ?_ _ | refine bD ?_ | refine bA ?_ _)); exact BK113.out) hb); have n6_ := Aside0.mk (wS (by repeat (first | (with_reducible first | exact HB.out | apply wA | apply wN | apply wD | refine below_set ?_ GE101.out | refine below_set ?_ GE102.out | refine below_set ?_ GE103.out | refine below_set ?_ GE113.out) | exact HB.out)) hb); have n7_ := Aside0.mk (hbox); have n8_ := Aside0.mk ((by rw [hg]; exact (below_size (by repeat (first | (with_reducible first | exact HB.out | apply wA | apply wN | apply wD | refine below_set ?_ GE101.out | refine below_set ?_ GE102.out | refine below_set ?_ GE103.out | refine below_set ?_ GE113.out) | exact HB.out))) : w.heap.size ≤ gb114)); have n9_ := Aside0.mk ((by rw [hg]; exact (below_size (by repeat (first | (with_reducible first | exact HB.out | apply wA | apply wN | apply wD | refine below_set ?_ GE101.out | refine below_set ?_ GE102.out | refine below_set ?_ GE103.out | refine below_set ?_ GE113.out) | exact HB.out))) : w.heap.size ≤ gb114)); have n10_ := Aside0.mk ((by rw [hg]; exact Nat.ne_of_lt (blk_lt (g := gb101) (o := .cells #[.slice A0_0 l0_0.length c0_0, .slice A0_1 l0_1.length c0_1] 25 (0, 0)) (by (with_reducible repeat (first | refine bN ?_ _ | refine bD ?_ | refine bA ?_ _)); refine blk_far ?_ NB101_113.out _; (with_reducible repeat (first | refine bN ?_ _ | refine bD ?_ | refine bA ?_ _)); refine blk_far ?_ NB101_113.out _; (with_reducible repeat (first | refine bN ?_ _ | refine bD ?_ | refine bA ?_ _)); exact BK101.out)) : gb101 ≠ gb114)); have n11_ := Aside0.mk ((by rw [hg]; exact Nat.ne_of_gt (blk_lt (g := gb101) (o := .cells #[.slice A0_0 l0_0.length c0_0, .slice A0_1 l0_1.length c0_1] 25 (0, 0)) (by (with_reducible repeat (first | refine bN ?_ _ | refine bD ?_ | refine bA ?_ _)); refine blk_far ?_ NB101_113.out _; (with_reducible repeat (first | refine bN ?_ _ | refine bD ?_ | refine bA ?_ _)); refine blk_far ?_ NB101_113.out _; (with_reducible repeat (first | refine bN ?_ _ | refine bD ?_ | refine bA ?_ _)); exact BK101.out)) : gb114 ≠ gb101)); have n12_ := Aside0.mk ((by rw [hg]; exact Nat.ne_of_lt (blk_lt (g := gb102) (o := .cells #[.slice none 0 0, .slice none 0 0] 25 (0, 0)) (by (with_reducible repeat (first | refine bN ?_ _ | refine bD ?_ | refine bA ?_ _)); refine blk_far ?_ NB102_113.out _; (with_reducible repeat (first | refine bN ?_ _ | refine bD ?_ | refine bA ?_ _)); refine blk_far ?_ NB102_113.out _; (with_reducible repeat (first | refine bN ?_ _ | refine bD ?_ | refine bA ?_ _)); exact BK102.out)) : gb102 ≠ gb114)); have n13_ := Aside0.mk ((by rw [hg]; exact Nat.ne_of_gt (blk_lt (g := gb102) (o := .cells #[.slice none 0 0, .slice none 0 0] 25 (0, 0)) (by (with_reducible repeat (first | refine bN ?_ _ | refine bD ?_ | refine bA ?_ _)); refine blk_far ?_ NB102_113.out _; (with_reducible repeat (first | refine bN ?_ _ | refine bD ?_ | refine bA ?_ _)); refine blk_far ?_ NB102_113.out _; (with_reducible repeat (first | refine bN ?_ _ | refine bD ?_ | refine bA ?_ _)); exact BK102.out)) : gb114 ≠ gb102)); have n14_ := Aside0.mk ((by rw [hg]; exact Nat.ne_of_lt (blk_lt (g := gb103) (o := .cells #[.slice none 0 0, .slice none 0 0] 29 (0, 0)) (by (with_reducible repeat (first | refine bN ?_ _ | refine bD ?_ | refine bA ?_ _)); refine blk_far ?_ NB103_113.out _; (with_reducible repeat (first | refine bN ?_ _ | refine bD ?_ | refine bA ?_ _)); refine blk_far ?_ NB103_113.out _; (with_reducible repeat (first | refine bN ?_ _ | refine bD ?_ | refine bA ?_ _)); exact BK103.out)) : gb103 ≠ gb114)); have n15_ := Aside0.mk ((by rw [hg]; exact Nat.ne_of_gt (blk_lt (g := gb103) (o := .cells #[.slice none 0 0, .slice none 0 0] 29 (0, 0)) (by (with_reducible repeat (first | refine bN ?_ _ | refine bD ?_ | refine bA ?_ _)); refine blk_far ?_ NB103_113.out _; (with_reducible repeat (first | refine bN ?_ _ | refine bD ?_ | refine bA ?_ _)); refine blk_far ?_ NB103_113.out _; (with_reducible repeat (first | refine bN ?_ _ | refine bD ?_ | refine bA ?_ _)); exact BK103.out)) : gb114 ≠ gb103)); have n16_ := Aside0.mk ((by rw [hg]; exact Nat.ne_of_lt (blk_lt (g := gb113) (o := .cells #[.slice Ao29 t107.length co29, .slice Ao28 t110.length co28] 29 (0, 0)) (by (with_reducible repeat (first | refine bN ?_ _ | refine bD ?_ | refine bA ?_ _)); refine blk_put (cs := #[.slice Ao29 t107.length co29, .slice none 0 0]) ?_ 1 _ rfl; (with_reducible repeat (first | refine bN ?_ _ | refine bD ?_ | refine bA ?_ _)); refine blk_put (cs := #[.slice none 0 0, .slice none 0 0]) ?_ 0 _ rfl; (with_reducible repeat (first | refine bN ?_ _ | refine bD ?_ | refine bA ?_ _)); exact BK113.out)) : gb113 ≠ gb114)); have n17_ := Aside0.mk ((by rw [hg]; exact Nat.ne_of_gt (blk_lt (g := gb113) (o := .cells #[.slice Ao29 t107.length co29, .slice Ao28 t110.length co28] 29 (0, 0)) (by (with_reducible repeat (first | refine bN ?_ _ | refine bD ?_ | refine bA ?_ _)); refine blk_put (cs := #[.slice Ao29 t107.length co29, .slice none 0 0]) ?_ 1 _ rfl; (with_reducible repeat (first | refine bN ?_ _ | refine bD ?_ | refine bA ?_ _)); refine blk_put (cs := #[.slice none 0 0, .slice none 0 0]) ?_ 0 _ rfl; (with_reducible repeat (first | refine bN ?_ _ | refine bD ?_ | refine bA ?_ _)); exact BK113.out)) : gb114 ≠ gb113)); clear HO109; clear HO112; clear BK101; clear BK102; clear BK103; clear BK113; clear HB; have HO109 := n0_; have HO112 := n1_; have BK101 := n2_; have BK102 := n3_; have BK103 := n4_; have BK113 := n5_; have HB := n6_; have BK114 := n7_; have GW114 := n8_; have GE114 := n9_; have NB101_114 := n10_; have NB114_101 := n11_; have NB102_114 := n12_; have NB114_102 := n13_; have NB103_114 := n14_; have NB114_103 := n15_; have NB113_114 := n16_; have NB114_113 := n17_; clear n0_ n1_ n2_ n3_ n4_ n5_ n6_ n7_ n8_ n9_ n10_ n11_ n12_ n13_ n14_ n15_ n16_ n17_; clear hb hbox hg; have hnb33 := NB101_113.out; have hnc33 := NB113_101.out; have hnb34 := NB101_114.out; have hnc34 := NB114_101.out; have hcz35_0 : w32.cell? ⟨gb101, 0, none⟩ = some (.slice A0_0 l0_0.length c0_0) := (blk_cell BK101.out 0).trans rfl; have hcz35_1 : w32.cell? ⟨gb101, 1, none⟩ = some (.slice A0_1 l0_1.length c0_1) := (blk_cell BK101.out 1).trans rfl; have hfz35_0 := blk_frozen BK101.out 0; have hfz35_1 := blk_frozen BK101.out 1))
    go_loopg [60] k (fun kq v60 w' => ∃ (x60_1 : Int) (x115000_1 : List Int) (u115000 : Value), v60 = .int .i64 x60_1 ∧ Aside0 (graph_Remove.l0 kq l0_0 (l0_0.length : Int) x60_1 l0_0 l0_1 t107 t110 x115000_1 = some (r1, r2, r3, r4, r5)) ∧ Aside0 (kq ≤ k) ∧ Aside0 (Kd.R (Kd.int .i64) 3 w' w.heap.size (fun k_ => some k_ ≠ ((.slice Ao28 t110.length co28) : Value).ownBlock ∧ some k_ ≠ (u115000 : Value).ownBlock) (.slice Ao29 t107.length co29) t107) ∧ Aside0 (Kd.R (Kd.int .i64) 3 w' w.heap.size (fun k_ => some k_ ≠ ((.slice Ao29 t107.length co29) : Value).ownBlock ∧ some k_ ≠ (u115000 : Value).ownBlock) (.slice Ao28 t110.length co28) t110) ∧ Aside0 (Kd.R (Kd.int .i64) 3 w' w.heap.size (fun k_ => some k_ ≠ ((.slice Ao29 t107.length co29) : Value).ownBlock ∧ some k_ ≠ ((.slice Ao28 t110.length co28) : Value).ownBlock) u115000 x115000_1) ∧ Aside0 (w'.heap[gb101]? = some (.cells #[(.slice A0_0 l0_0.length c0_0), (.slice A0_1 l0_1.length c0_1)] 25 (0, 0))) ∧ Aside0 (w'.heap[gb102]? = some (.cells #[(.slice none 0 0), (.slice none 0 0)] 25 (0, 0))) ∧ Aside0 (w'.heap[gb103]? = some (.cells #[(.slice none 0 0), (.slice none 0 0)] 29 (0, 0))) ∧ Aside0 (w'.heap[gb113]? = some (.cells #[(.slice Ao29 t107.length co29), (.slice Ao28 t110.length co28)] 29 (0, 0))) ∧ Aside0 (w'.heap[gb114]? = some (.cells #[u115000, (.slice none 0 0)] 25 (0, 0))) ∧ Aside0 (Below w.heap.size w w'))
    case atStart => exact ⟨(0), (([] : List Int)), (.slice none 0 0), rS, H', ⟨Nat.le_refl _⟩, ⟨by (with_reducible repeat (first | apply rA | apply rN | apply rD)); exact Kd.R_mono HO109.out (fun _ hk => ⟨hk, (by simp [Value.ownBlock])⟩)⟩, ⟨by (with_reducible repeat (first | apply rA | apply rN | apply rD)); exact Kd.R_mono HO112.out (fun _ hk => ⟨hk, (by simp [Value.ownBlock])⟩)⟩, ⟨by first | exact Kd.R_nil _ _ _ _ _ | exact Kd.N_nil _ _ _ _ _ | exact Kd.V_nil _ _ _ _ _ | exact Kd.Q_nil _ _ _ _ _ | exact Kd.S_nil _ _ _ _ _⟩, ⟨by (with_reducible repeat (first | refine bN ?_ _ | refine bD ?_ | refine bA ?_ _)); exact BK101.out⟩, ⟨by (with_reducible repeat (first | refine bN ?_ _ | refine bD ?_ | refine bA ?_ _)); exact BK102.out⟩, ⟨by (with_reducible repeat (first | refine bN ?_ _ | refine bD ?_ | refine bA ?_ _)); exact BK103.out⟩, ⟨by (with_reducible repeat (first | refine bN ?_ _ | refine bD ?_ | refine bA ?_ _)); exact BK113.out⟩, ⟨by (with_reducible repeat (first | refine bN ?_ _ | refine bD ?_ | refine bA ?_ _)); exact BK114.out⟩, ⟨by repeat (first | (with_reducible first | exact HB.out | apply wA | apply wN | apply wD | refine below_set ?_ GE101.out | refine below_set ?_ GE102.out | refine below_set ?_ GE103.out | refine below_set ?_ GE113.out | refine below_set ?_ GE114.out) | exact HB.out)⟩⟩
    case round =>
     clear H'
     try clear c1
     try clear c2
     try clear p2
     try clear c3
     try clear c4
     try clear c5
     try clear c5b0
     try clear c5b1
     try clear c7
     try clear c7b0
     try clear c7b1
     try clear c9
     try clear c9b0
     try clear c9b1
     try clear c12
     try clear c15
     try clear c16
     try clear c26
     try clear c33
     try clear c34
     try clear hcz17_0
     try clear hcz17_1
     try clear hcz19_0
     try clear hcz19_1
     try clear hcz20_0
     try clear hcz20_1
     try clear hcz35_0
     try clear hcz35_1
     try clear hfz17_0
     try clear hfz17_1
     try clear hfz19_0
     try clear hfz19_1
     try clear hfz20_0
     try clear hfz20_1
     try clear hfz35_0
     try clear hfz35_1
     obtain ⟨x60_1, x115000_1, u115000, rfl, HA, HK1, HO_114000, HO_114001, HO_115000, BK101, BK102, BK103, BK113, BK114, HB⟩ := hrel
     cases gk with
     | zero => exact absurd HA.out (by simp [graph_Remove.l0])
     | succ k1 =>
      have H := HA.out
      clear HA
      simp only [graph_Remove.l0] at H
      by_cases c36 : x60_1 < (l0_0.length : Int)
      ·rw [if_pos c36] at H
       have c36b0 : decide (x60_1 < (l0_0.length : Int)) = true := decide_eq_true c36
       clear c36
       by_cases c37 : 0 ≤ x60_1
       ·rw [if_pos c37] at H
        have c37b0 : decide (0 ≤ x60_1) = true := decide_eq_true c37
        clear c37
        by_cases c38 : x60_1 < (l0_0.length : Int)
        ·rw [if_pos c38] at H
         have c38b0 : decide (x60_1 < (l0_0.length : Int)) = true := decide_eq_true c38
         clear c38
         by_cases c39 : x60_1 < (t107.length : Int)
         ·rw [if_pos c39] at H
          have c39b0 : decide (x60_1 < (t107.length : Int)) = true := decide_eq_true c39
          clear c39
          by_cases c40 : (rd t107 x60_1) ≥ 0
          ·rw [if_pos c40] at H
           have c40b0 : decide (0 ≤ (rd t107 x60_1)) = true := decide_eq_true c40
           clear c40
           by_cases c41 : x115000_1.length < 17592186044416
           ·rw [if_pos c41] at H
            have LMc41 := Aside0.mk c41
            clear c41
            obtain ⟨y117, hy117⟩ : ∃ y_ : List Int, y_ = (x115000_1 ++ [rd l0_0 x60_1]) := ⟨_, rfl⟩
            replace H : (graph_Remove.l0 k1 l0_0 (l0_0.length : Int) (wrap64 (x60_1 + 1)) l0_0 l0_1 t107 t110 y117) = some (r1, r2, r3, r4, r5) := by first | (rw [hy117]; with_reducible exact H) | (have H2_ := (Option.bind_some _ _).symm.trans H; rw [hy117]; with_reducible exact H2_) | (have H2_ := (Option.bind_some _ _).symm.trans H; with_reducible exact H2_) | with_reducible exact H | (rw [hy117]; exact H) | exact H
            have Ny117 := Aside0.mk hy117
            clear hy117
            have H' := Aside0.mk H
            clear H
            have p115 : 0 ≤ (x60_1 : Int) := oT
            have q115 : x60_1 < (l0_0.length : Int) := oT
            obtain ⟨ad115, e115, hx115_0⟩ := Kd.at_int HR0_0.out x60_1 p115 q115
            cases e115
            replace hx115_0 := (HB.out.cell (World.block_lt_of_cell? w _ hx115_0)).trans hx115_0
            replace p115 := eq_true p115
            replace q115 := eq_true q115
            have hnb42 := NB113_101.out
            have hnc42 := NB101_113.out
            have hnb43 := NB113_102.out
            have hnc43 := NB102_113.out
            have hnb44 := NB113_103.out
            have hnc44 := NB103_113.out
            have hnb45 := NB113_114.out
            have hnc45 := NB114_113.out
            have hcz46_0 : wr.cell? ⟨gb113, 0, none⟩ = some (.slice Ao29 t107.length co29) := (blk_cell BK113.out 0).trans rfl
            have hcz46_1 : wr.cell? ⟨gb113, 1, none⟩ = some (.slice Ao28 t110.length co28) := (blk_cell BK113.out 1).trans rfl
            have hfz46_0 := blk_frozen BK113.out 0
            have hfz46_1 := blk_frozen BK113.out 1
            have p116 : 0 ≤ (x60_1 : Int) := oT
            have q116 : x60_1 < (t107.length : Int) := oT
            obtain ⟨ad116, e116, hx116_0⟩ := Kd.at_int (Kd.R_reads' HO_114000.out).2.2 x60_1 p116 q116
            cases e116
            replace p116 := eq_true p116
            replace q116 := eq_true q116
            have hnb47 := NB114_101.out
            have hnc47 := NB101_114.out
            have hnb48 := NB114_102.out
            have hnc48 := NB102_114.out
            have hnb49 := NB114_103.out
            have hnc49 := NB103_114.out
            have hcz50_0 : wr.cell? ⟨gb114, 0, none⟩ = some (u115000) := (blk_cell BK114.out 0).trans rfl
            have hcz50_1 : wr.cell? ⟨gb114, 1, none⟩ = some (.slice none 0 0) := (blk_cell BK114.out 1).trans rfl
            have hfz50_0 := blk_frozen BK114.out 0
            have hfz50_1 := blk_frozen BK114.out 1
            go_wp2_with (first | ((with_reducible refine gate_builtin (b := .append) (xs := #[.tmp 72, .tmp 74]) rfl ?_); at_builtin; refine Kd.R_append (Kd.int .i64) (w0 := w) w.heap.size rfl (.tmp 72) (.tmp 74) 22 3 (.int .i64 0) 8 rfl Try.underlying22 info3 rfl (by decide) (by omega) u115000 x115000_1 (rd l0_0 x60_1) [.int .i64 (rd l0_0 x60_1)] (fun k_ => some k_ ≠ (.slice (some ad116) t107.length co29 : Value).ownBlock ∧ some k_ ≠ (.slice Ao28 t110.length co28 : Value).ownBlock) (fun _ => False) rfl rfl ?aP (fun _ hk => hk.elim) ?aF ?aO ?aB ?aS ?aL ?_; (case aP => exact rfl); (case aB => exact (by repeat (first | (with_reducible first | exact HB.out | apply wA | apply wN | apply wD | refine below_set ?_ GE101.out | refine below_set ?_ GE102.out | refine below_set ?_ GE103.out | refine below_set ?_ GE113.out | refine below_set ?_ GE114.out) | exact HB.out))); (case aF => exact (fun k_ hk => ⟨Kd.fresh' (Kd.R_lt (by (with_reducible repeat (first | apply rA | apply rN | apply rD)); exact HO_114000.out)) k_ hk, Kd.fresh' (Kd.R_lt (by (with_reducible repeat (first | apply rA | apply rN | apply rD)); exact HO_114001.out)) k_ hk⟩)); (case aO => exact (by (with_reducible repeat (first | apply rA | apply rN | apply rD)); exact HO_115000.out)); (case aS => exact (below_size (by repeat (first | (with_reducible first | exact HB.out | apply wA | apply wN | apply wD | refine below_set ?_ GE101.out | refine below_set ?_ GE102.out | refine below_set ?_ GE103.out | refine below_set ?_ GE113.out | refine below_set ?_ GE114.out) | exact HB.out)))); (case aL => have := LMc41.out; omega); intro v118 w51 ho hb hg hat; rw [← Ny117.out] at ho; have n0_ := Aside0.mk (Kd.R_after (ok := (fun k_ => some k_ ≠ (.slice Ao28 t110.length co28 : Value).ownBlock)) (by (with_reducible repeat (first | apply rA | apply rN | apply rD)); exact HO_114000.out) hg hat); have n1_ := Aside0.mk (Kd.R_after (ok := (fun k_ => some k_ ≠ (.slice (some ad116) t107.length co29 : Value).ownBlock)) (by (with_reducible repeat (first | apply rA | apply rN | apply rD)); exact HO_114001.out) hg hat); have n2_ := Aside0.mk (bG (g := gb101) (o := .cells #[.slice (some ad115) l0_0.length c0_0, .slice A0_1 l0_1.length c0_1] 25 (0, 0)) (by (with_reducible repeat (first | refine bN ?_ _ | refine bD ?_ | refine bA ?_ _)); exact BK101.out) hg (Kd.R_ne HO_115000.out BK101.out (by decide))); have n3_ := Aside0.mk (bG (g := gb102) (o := .cells #[.slice none 0 0, .slice none 0 0] 25 (0, 0)) (by (with_reducible repeat (first | refine bN ?_ _ | refine bD ?_ | refine bA ?_ _)); exact BK102.out) hg (Kd.R_ne HO_115000.out BK102.out (by decide))); have n4_ := Aside0.mk (bG (g := gb103) (o := .cells #[.slice none 0 0, .slice none 0 0] 29 (0, 0)) (by (with_reducible repeat (first | refine bN ?_ _ | refine bD ?_ | refine bA ?_ _)); exact BK103.out) hg (Kd.R_ne HO_115000.out BK103.out (by decide))); have n5_ := Aside0.mk (bG (g := gb113) (o := .cells #[.slice (some ad116) t107.length co29, .slice Ao28 t110.length co28] 29 (0, 0)) (by (with_reducible repeat (first | refine bN ?_ _ | refine bD ?_ | refine bA ?_ _)); exact BK113.out) hg (Kd.R_ne HO_115000.out BK113.out (by decide))); have n6_ := Aside0.mk (bG (g := gb114) (o := .cells #[u115000, .slice none 0 0] 25 (0, 0)) (by (with_reducible repeat (first | refine bN ?_ _ | refine bD ?_ | refine bA ?_ _)); exact BK114.out) hg (Kd.R_ne HO_115000.out BK114.out (by decide))); have n7_ := Aside0.mk (hb); have n8_ := Aside0.mk (ho); clear HO_114000; clear HO_114001; clear BK101; clear BK102; clear BK103; clear BK113; clear BK114; clear HB; clear HO_115000; have HO_114000 := n0_; have HO_114001 := n1_; have BK101 := n2_; have BK102 := n3_; have BK103 := n4_; have BK113 := n5_; have BK114 := n6_; have HB := n7_; have HO119 := n8_; clear n0_ n1_ n2_ n3_ n4_ n5_ n6_ n7_ n8_; clear ho hb hg hat; obtain ⟨Ao52, co52, eo52⟩ := Kd.R_slice HO119.out; subst eo52; have hcz53_0 : w51.cell? ⟨gb114, 0, none⟩ = some (u115000) := (blk_cell BK114.out 0).trans rfl; have hcz53_1 : w51.cell? ⟨gb114, 1, none⟩ = some (.slice none 0 0) := (blk_cell BK114.out 1).trans rfl; have hfz53_0 := blk_frozen BK114.out 0; have hfz53_1 := blk_frozen BK114.out 1))
            go_roundg k1
            case measure => have := HK1.out; omega
            case rel => exact ⟨(wrap64 (x60_1 + 1)), (y117), (.slice Ao52 y117.length co52), rS, H', ⟨by have := HK1.out; omega⟩, ⟨by (with_reducible repeat (first | apply rA | apply rN | apply rD)); exact Kd.R_mono (Kd.R_far (p := ⟨gb114, 0, none⟩) (Kd.R_types HO_114000.out BK114.out (by decide)) (fun _ hk => hk.2) (.slice Ao52 y117.length co52)) (fun _ hk => ⟨hk.1.1, hk.1.2⟩)⟩, ⟨by (with_reducible repeat (first | apply rA | apply rN | apply rD)); exact Kd.R_mono (Kd.R_far (p := ⟨gb114, 0, none⟩) (Kd.R_types HO_114001.out BK114.out (by decide)) (fun _ hk => hk.2) (.slice Ao52 y117.length co52)) (fun _ hk => ⟨hk.1.1, hk.1.2⟩)⟩, ⟨by (with_reducible repeat (first | apply rA | apply rN | apply rD)); exact Kd.R_mono (Kd.R_far (p := ⟨gb114, 0, none⟩) (Kd.R_types HO119.out BK114.out (by decide)) (fun _ hk => hk.2) (.slice Ao52 y117.length co52)) (fun _ hk => ⟨hk.1.1, hk.1.2⟩)⟩, ⟨by (with_reducible repeat (first | refine bN ?_ _ | refine bD ?_ | refine bA ?_ _)); refine blk_far ?_ NB101_114.out _; (with_reducible repeat (first | refine bN ?_ _ | refine bD ?_ | refine bA ?_ _)); exact BK101.out⟩, ⟨by (with_reducible repeat (first | refine bN ?_ _ | refine bD ?_ | refine bA ?_ _)); refine blk_far ?_ NB102_114.out _; (with_reducible repeat (first | refine bN ?_ _ | refine bD ?_ | refine bA ?_ _)); exact BK102.out⟩, ⟨by (with_reducible repeat (first | refine bN ?_ _ | refine bD ?_ | refine bA ?_ _)); refine blk_far ?_ NB103_114.out _; (with_reducible repeat (first | refine bN ?_ _ | refine bD ?_ | refine bA ?_ _)); exact BK103.out⟩, ⟨by (with_reducible repeat (first | refine bN ?_ _ | refine bD ?_ | refine bA ?_ _)); refine blk_far ?_ NB113_114.out _; (with_reducible repeat (first | refine bN ?_ _ | refine bD ?_ | refine bA ?_ _)); exact BK113.out⟩, ⟨by (with_reducible repeat (first | refine bN ?_ _ | refine bD ?_ | refine bA ?_ _)); refine blk_put (cs := #[u115000, .slice none 0 0]) ?_ 0 _ rfl; (with_reducible repeat (first | refine bN ?_ _ | refine bD ?_ | refine bA ?_ _)); exact BK114.out⟩, ⟨by repeat (first | (with_reducible first | exact HB.out | apply wA | apply wN | apply wD | refine below_set ?_ GE101.out | refine below_set ?_ GE102.out | refine below_set ?_ GE103.out | refine below_set ?_ GE113.out | refine below_set ?_ GE114.out) | exact HB.out)⟩⟩
           ·rw [if_neg c41] at H
            exact absurd H (by simp)
          ·rw [if_neg c40] at H
           have c40b0 : decide (0 ≤ (rd t107 x60_1)) = false := decide_eq_false c40
           clear c40
           have H' := Aside0.mk H
           clear H
           have p115 : 0 ≤ (x60_1 : Int) := oT
           have q115 : x60_1 < (l0_0.length : Int) := oT
           obtain ⟨ad115, e115, hx115_0⟩ := Kd.at_int HR0_0.out x60_1 p115 q115
           cases e115
           replace hx115_0 := (HB.out.cell (World.block_lt_of_cell? w _ hx115_0)).trans hx115_0
           replace p115 := eq_true p115
           replace q115 := eq_true q115
           have hnb54 := NB113_101.out
           have hnc54 := NB101_113.out
           have hnb55 := NB113_102.out
           have hnc55 := NB102_113.out
           have hnb56 := NB113_103.out
           have hnc56 := NB103_113.out
           have hnb57 := NB113_114.out
           have hnc57 := NB114_113.out
           have hcz58_0 : wr.cell? ⟨gb113, 0, none⟩ = some (.slice Ao29 t107.length co29) := (blk_cell BK113.out 0).trans rfl
           have hcz58_1 : wr.cell? ⟨gb113, 1, none⟩ = some (.slice Ao28 t110.length co28) := (blk_cell BK113.out 1).trans rfl
           have hfz58_0 := blk_frozen BK113.out 0
           have hfz58_1 := blk_frozen BK113.out 1
           have p116 : 0 ≤ (x60_1 : Int) := oT
           have q116 : x60_1 < (t107.length : Int) := oT
           obtain ⟨ad116, e116, hx116_0⟩ := Kd.at_int (Kd.R_reads' HO_114000.out).2.2 x60_1 p116 q116
           cases e116
           replace p116 := eq_true p116
           replace q116 := eq_true q116
           go_wp2
           go_roundg k1
           case measure => have := HK1.out; omega
           case rel => exact ⟨(wrap64 (x60_1 + 1)), (x115000_1), (u115000), rS, H', ⟨by have := HK1.out; omega⟩, ⟨by (with_reducible repeat (first | apply rA | apply rN | apply rD)); exact HO_114000.out⟩, ⟨by (with_reducible repeat (first | apply rA | apply rN | apply rD)); exact HO_114001.out⟩, ⟨by (with_reducible repeat (first | apply rA | apply rN | apply rD)); exact HO_115000.out⟩, ⟨by (with_reducible repeat (first | refine bN ?_ _ | refine bD ?_ | refine bA ?_ _)); exact BK101.out⟩, ⟨by (with_reducible repeat (first | refine bN ?_ _ | refine bD ?_ | refine bA ?_ _)); exact BK102.out⟩, ⟨by (with_reducible repeat (first | refine bN ?_ _ | refine bD ?_ | refine bA ?_ _)); exact BK103.out⟩, ⟨by (with_reducible repeat (first | refine bN ?_ _ | refine bD ?_ | refine bA ?_ _)); exact BK113.out⟩, ⟨by (with_reducible repeat (first | refine bN ?_ _ | refine bD ?_ | refine bA ?_ _)); exact BK114.out⟩, ⟨by repeat (first | (with_reducible first | exact HB.out | apply wA | apply wN | apply wD | refine below_set ?_ GE101.out | refine below_set ?_ GE102.out | refine below_set ?_ GE103.out | refine below_set ?_ GE113.out | refine below_set ?_ GE114.out) | exact HB.out)⟩⟩
         ·rw [if_neg c39] at H
          exact absurd H (by simp)
        ·rw [if_neg c38] at H
         exact absurd H (by simp)
       ·rw [if_neg c37] at H
        exact absurd H (by simp)
      ·rw [if_neg c36] at H
       have c36b0 : decide (x60_1 < (l0_0.length : Int)) = false := decide_eq_false c36
       clear c36
       have H' := Aside0.mk H
       clear H
       have hnb59 := NB101_102.out
       have hnc59 := NB102_101.out
       have hnb60 := NB101_103.out
       have hnc60 := NB103_101.out
       have hnb61 := NB101_113.out
       have hnc61 := NB113_101.out
       have hnb62 := NB101_114.out
       have hnc62 := NB114_101.out
       have hcz63_0 : wr.cell? ⟨gb101, 0, none⟩ = some (.slice A0_0 l0_0.length c0_0) := (blk_cell BK101.out 0).trans rfl
       have hcz63_1 : wr.cell? ⟨gb101, 1, none⟩ = some (.slice A0_1 l0_1.length c0_1) := (blk_cell BK101.out 1).trans rfl
       have hfz63_0 := blk_frozen BK101.out 0
       have hfz63_1 := blk_frozen BK101.out 1
       go_wp2
       go_loopg [81] k1 (fun kq v81 w' => ∃ (x81_2 : Int) (x115001_2 : List (S38)) (u115001 : Value), v81 = .int .i64 x81_2 ∧ Aside0 (graph_Remove.l1 kq l0_1 (l0_1.length : Int) x81_2 t107 t110 x115000_1 x115001_2 = some (r1, r2, r3, r4, r5)) ∧ Aside0 (kq ≤ k1) ∧ Aside0 (Kd.R (Kd.int .i64) 3 w' w.heap.size (fun k_ => some k_ ≠ ((.slice Ao28 t110.length co28) : Value).ownBlock ∧ some k_ ≠ (u115000 : Value).ownBlock) (.slice Ao29 t107.length co29) t107) ∧ Aside0 (Kd.R (Kd.int .i64) 3 w' w.heap.size (fun k_ => some k_ ≠ ((.slice Ao29 t107.length co29) : Value).ownBlock ∧ some k_ ≠ (u115000 : Value).ownBlock) (.slice Ao28 t110.length co28) t110) ∧ Aside0 (Kd.R (Kd.int .i64) 3 w' w.heap.size (fun k_ => some k_ ≠ ((.slice Ao29 t107.length co29) : Value).ownBlock ∧ some k_ ≠ ((.slice Ao28 t110.length co28) : Value).ownBlock) u115000 x115000_1) ∧ Aside0 (Kd.R k38 38 w' w.heap.size (fun _ => True) u115001 x115001_2) ∧ Aside0 (w'.heap[gb101]? = some (.cells #[(.slice A0_0 l0_0.length c0_0), (.slice A0_1 l0_1.length c0_1)] 25 (0, 0))) ∧ Aside0 (w'.heap[gb102]? = some (.cells #[(.slice none 0 0), (.slice none 0 0)] 25 (0, 0))) ∧ Aside0 (w'.heap[gb103]? = some (.cells #[(.slice none 0 0), (.slice none 0 0)] 29 (0, 0))) ∧ Aside0 (w'.heap[gb113]? = some (.cells #[(.slice Ao29 t107.length co29), (.slice Ao28 t110.length co28)] 29 (0, 0))) ∧ Aside0 (w'.heap[gb114]? = some (.cells #[u115000, u115001] 25 (0, 0))) ∧ Aside0 (Below w.heap.size w w'))
       case atStart => exact ⟨(0), (([] : List (S38))), (.slice none 0 0), rS, H', ⟨Nat.le_refl _⟩, ⟨by (with_reducible repeat (first | apply rA | apply rN | apply rD)); exact HO_114000.out⟩, ⟨by (with_reducible repeat (first | apply rA | apply rN | apply rD)); exact HO_114001.out⟩, ⟨by (with_reducible repeat (first | apply rA | apply rN | apply rD)); exact HO_115000.out⟩, ⟨by first | exact Kd.R_nil _ _ _ _ _ | exact Kd.N_nil _ _ _ _ _ | exact Kd.V_nil _ _ _ _ _ | exact Kd.Q_nil _ _ _ _ _ | exact Kd.S_nil _ _ _ _ _⟩, ⟨by (with_reducible repeat (first | refine bN ?_ _ | refine bD ?_ | refine bA ?_ _)); exact BK101.out⟩, ⟨by (with_reducible repeat (first | refine bN ?_ _ | refine bD ?_ | refine bA ?_ _)); exact BK102.out⟩, ⟨by (with_reducible repeat (first | refine bN ?_ _ | refine bD ?_ | refine bA ?_ _)); exact BK103.out⟩, ⟨by (with_reducible repeat (first | refine bN ?_ _ | refine bD ?_ | refine bA ?_ _)); exact BK113.out⟩, ⟨by (with_reducible repeat (first | refine bN ?_ _ | refine bD ?_ | refine bA ?_ _)); exact BK114.out⟩, ⟨by repeat (first | (with_reducible first | exact HB.out | apply wA | apply wN | apply wD | refine below_set ?_ GE101.out | refine below_set ?_ GE102.out | refine below_set ?_ GE103.out | refine below_set ?_ GE113.out | refine below_set ?_ GE114.out) | exact HB.out)⟩⟩
       case round =>
        clear H'
        try clear c1
        try clear p1
        try clear q1
        try clear hx1
        try clear c2
        try clear p2
        try clear c3
        try clear c4
        try clear c5
        try clear c5b0
        try clear c5b1
        try clear c6
        try clear p6
        try clear c7
        try clear c7b0
        try clear c7b1
        try clear c9
        try clear c9b0
        try clear c9b1
        try clear c12
        try clear p12
        try clear q12
        try clear hx12
        try clear c15
        try clear c16
        try clear c26
        try clear c33
        try clear c34
        try clear c36
        try clear c36b0
        try clear c37
        try clear c37b0
        try clear c38
        try clear c38b0
        try clear c39
        try clear c39b0
        try clear c40
        try clear c40b0
        try clear c41
        try clear c42
        try clear c43
        try clear c44
        try clear c45
        try clear c47
        try clear c48
        try clear c49
        try clear c54
        try clear c55
        try clear c56
        try clear c57
        try clear c59
        try clear c60
        try clear c61
        try clear c62
        try clear hcz17_0
        try clear hcz17_1
        try clear hcz19_0
        try clear hcz19_1
        try clear hcz20_0
        try clear hcz20_1
        try clear hcz35_0
        try clear hcz35_1
        try clear hcz46_0
        try clear hcz46_1
        try clear hcz50_0
        try clear hcz50_1
        try clear hcz53_0
        try clear hcz53_1
        try clear hcz58_0
        try clear hcz58_1
        try clear hcz63_0
        try clear hcz63_1
        try clear hfz17_0
        try clear hfz17_1
        try clear hfz19_0
        try clear hfz19_1
        try clear hfz20_0
        try clear hfz20_1
        try clear hfz35_0
        try clear hfz35_1
        try clear hfz46_0
        try clear hfz46_1
        try clear hfz50_0
        try clear hfz50_1
        try clear hfz53_0
        try clear hfz53_1
        try clear hfz58_0
        try clear hfz58_1
        try clear hfz63_0
        try clear hfz63_1
        try clear hx115_0
        try clear hx116_0
        try clear p115
        try clear p116
        try clear p2
        try clear q115
        try clear q116
        obtain ⟨x81_2, x115001_2, u115001, rfl, HA, HK2, HO_114000, HO_114001, HO_115000, HO_115001, BK101, BK102, BK103, BK113, BK114, HB⟩ := hrel
        cases gk with
        | zero => exact absurd HA.out (by simp [graph_Remove.l1])
        | succ k2 =>
         have H := HA.out
         clear HA
         simp only [graph_Remove.l1] at H
         by_cases c64 : x81_2 < (l0_1.length : Int)
         ·rw [if_pos c64] at H
          have c64b0 : decide (x81_2 < (l0_1.length : Int)) = true := decide_eq_true c64
          clear c64
          by_cases c65 : 0 ≤ x81_2
          ·rw [if_pos c65] at H
           have c65b0 : decide (0 ≤ x81_2) = true := decide_eq_true c65
           clear c65
           by_cases c66 : x81_2 < (l0_1.length : Int)
           ·rw [if_pos c66] at H
            have c66b0 : decide (x81_2 < (l0_1.length : Int)) = true := decide_eq_true c66
            clear c66
            by_cases c67 : x81_2 < (t110.length : Int)
            ·rw [if_pos c67] at H
             have c67b0 : decide (x81_2 < (t110.length : Int)) = true := decide_eq_true c67
             clear c67
             by_cases c68 : (rd t110 x81_2) < 0
             ·rw [if_pos c68] at H
              have c68b0 : decide ((rd t110 x81_2) < 0) = true := decide_eq_true c68
              clear c68
              have H' := Aside0.mk H
              clear H
              have p120 : 0 ≤ (x81_2 : Int) := oT
              have q120 : x81_2 < (l0_1.length : Int) := oT
              obtain ⟨ad120, e120, hx120_0, hx120_1, hx120_2⟩ := at_T38 HR0_1.out x81_2 p120 q120
              cases e120
              replace hx120_0 := (HB.out.cell (World.block_lt_of_cell? w _ hx120_0)).trans hx120_0
              replace hx120_1 := (HB.out.cell (World.block_lt_of_cell? w _ hx120_1)).trans hx120_1
              replace hx120_2 := (HB.out.cell (World.block_lt_of_cell? w _ hx120_2)).trans hx120_2
              replace p120 := eq_true p120
              replace q120 := eq_true q120
              go_wp2_with (first | ((with_reducible refine gate_dst (N := 17) rfl ?_); refine box_event ?hg (N := 17) ?hd (cs := #[.int .i64 0, .int .i64 0, .int .i64 0]) (t := 38) ?hr ?_; (case hd => rfl); (case hg => rfl); (case hr => first | (go_simp; done) | (go_simp; rfl)); intro gb121 hg w69 hbox hb; have n0_ := Aside0.mk (rB (by (with_reducible repeat (first | apply rA | apply rN | apply rD)); exact HO_114000.out) hb); have n1_ := Aside0.mk (rB (by (with_reducible repeat (first | apply rA | apply rN | apply rD)); exact HO_114001.out) hb); have n2_ := Aside0.mk (rB (by (with_reducible repeat (first | apply rA | apply rN | apply rD)); exact HO_115000.out) hb); have n3_ := Aside0.mk (rB (Kd.R_elderB (by (with_reducible repeat (first | apply rA | apply rN | apply rD)); exact HO_115001.out) gb121 (Nat.le_of_eq hg.symm)) hb); have n4_ := Aside0.mk (bB (g := gb101) (o := .cells #[.slice A0_0 l0_0.length c0_0, .slice (some ad120) l0_1.length c0_1] 25 (0, 0)) (by (with_reducible repeat (first | refine bN ?_ _ | refine bD ?_ | refine bA ?_ _)); exact BK101.out) hb); have n5_ := Aside0.mk (bB (g := gb102) (o := .cells #[.slice none 0 0, .slice none 0 0] 25 (0, 0)) (by (with_reducible repeat (first | refine bN ?_ _ | refine bD ?_ | refine bA ?_ _)); exact BK102.out) hb); have n6_ := Aside0.mk (bB (g := gb103) (o := .cells #[.slice none 0 0, .slice none 0 0] 29 (0, 0)) (by (with_reducible repeat (first | refine bN ?_ _ | refine bD ?_ | refine bA ?_ _)); exact BK103.out) hb); have n7_ := Aside0.mk (bB (g := gb113) (o := .cells #[.slice Ao29 t107.length co29, .slice Ao28 t110.length co28] 29 (0, 0)) (by (with_reducible repeat (first | refine bN ?_ _ | refine bD ?_ | refine bA ?_ _)); exact BK113.out) hb); have n8_ := Aside0.mk (bB (g := gb114) (o := .cells #[u115000, u115001] 25 (0, 0)) (by (with_reducible repeat (first | refine bN ?_ _ | refine bD ?_ | refine bA ?_ _)); exact BK114.out) hb); have n9_ := Aside0.mk (wS (by repeat (first | (with_reducible first | exact HB.out | apply wA | apply wN | apply wD | refine below_set ?_ GE101.out | refine below_set ?_ GE102.out | refine below_set ?_ GE103.out | refine below_set ?_ GE113.out | refine below_set ?_ GE114.out) | exact HB.out)) hb); have n10_ := Aside0.mk (hbox); have n11_ := Aside0.mk ((by rw [hg]; exact (below_size (by repeat (first | (with_reducible first | exact HB.out | apply wA | apply wN | apply wD | refine below_set ?_ GE101.out | refine below_set ?_ GE102.out | refine below_set ?_ GE103.out | refine below_set ?_ GE113.out | refine below_set ?_ GE114.out) | exact HB.out))) : w.heap.size ≤ gb121)); have n12_ := Aside0.mk ((by rw [hg]; exact (below_size (by repeat (first | (with_reducible first | exact HB.out | apply wA | apply wN | apply wD | refine below_set ?_ GE101.out | refine below_set ?_ GE102.out | refine below_set ?_ GE103.out | refine below_set ?_ GE113.out | refine below_set ?_ GE114.out) | exact HB.out))) : w.heap.size ≤ gb121)); have n13_ := Aside0.mk ((by rw [hg]; exact Nat.ne_of_lt (blk_lt (g := gb101) (o := .cells #[.slice A0_0 l0_0.length c0_0, .slice (some ad120) l0_1.length c0_1] 25 (0, 0)) (by (with_reducible repeat (first | refine bN ?_ _ | refine bD ?_ | refine bA ?_ _)); exact BK101.out)) : gb101 ≠ gb121)); have n14_ := Aside0.mk ((by rw [hg]; exact Nat.ne_of_gt (blk_lt (g := gb101) (o := .cells #[.slice A0_0 l0_0.length c0_0, .slice (some ad120) l0_1.length c0_1] 25 (0, 0)) (by (with_reducible repeat (first | refine bN ?_ _ | refine bD ?_ | refine bA ?_ _)); exact BK101.out)) : gb121 ≠ gb101)); have n15_ := Aside0.mk ((by rw [hg]; exact Nat.ne_of_lt (blk_lt (g := gb102) (o := .cells #[.slice none 0 0, .slice none 0 0] 25 (0, 0)) (by (with_reducible repeat (first | refine bN ?_ _ | refine bD ?_ | refine bA ?_ _)); exact BK102.out)) : gb102 ≠ gb121)); have n16_ := Aside0.mk ((by rw [hg]; exact Nat.ne_of_gt (blk_lt (g := gb102) (o := .cells #[.slice none 0 0, .slice none 0 0] 25 (0, 0)) (by (with_reducible repeat (first | refine bN ?_ _ | refine bD ?_ | refine bA ?_ _)); exact BK102.out)) : gb121 ≠ gb102)); have n17_ := Aside0.mk ((by rw [hg]; exact Nat.ne_of_lt (blk_lt (g := gb103) (o := .cells #[.slice none 0 0, .slice none 0 0] 29 (0, 0)) (by (with_reducible repeat (first | refine bN ?_ _ | refine bD ?_ | refine bA ?_ _)); exact BK103.out)) : gb103 ≠ gb121)); have n18_ := Aside0.mk ((by rw [hg]; exact Nat.ne_of_gt (blk_lt (g := gb103) (o := .cells #[.slice none 0 0, .slice none 0 0] 29 (0, 0)) (by (with_reducible repeat (first | refine bN ?_ _ | refine bD ?_ | refine bA ?_ _)); exact BK103.out)) : gb121 ≠ gb103)); have n19_ := Aside0.mk ((by rw [hg]; exact Nat.ne_of_lt (blk_lt (g := gb113) (o := .cells #[.slice Ao29 t107.length co29, .slice Ao28 t110.length co28] 29 (0, 0)) (by (with_reducible repeat (first | refine bN ?_ _ | refine bD ?_ | refine bA ?_ _)); exact BK113.out)) : gb113 ≠ gb121)); have n20_ := Aside0.mk ((by rw [hg]; exact Nat.ne_of_gt (blk_lt (g := gb113) (o := .cells #[.slice Ao29 t107.length co29, .slice Ao28 t110.length co28] 29 (0, 0)) (by (with_reducible repeat (first | refine bN ?_ _ | refine bD ?_ | refine bA ?_ _)); exact BK113.out)) : gb121 ≠ gb113)); have n21_ := Aside0.mk ((by rw [hg]; exact Nat.ne_of_lt (blk_lt (g := gb114) (o := .cells #[u115000, u115001] 25 (0, 0)) (by (with_reducible repeat (first | refine bN ?_ _ | refine bD ?_ | refine bA ?_ _)); exact BK114.out)) : gb114 ≠ gb121)); have n22_ := Aside0.mk ((by rw [hg]; exact Nat.ne_of_gt (blk_lt (g := gb114) (o := .cells #[u115000, u115001] 25 (0, 0)) (by (with_reducible repeat (first | refine bN ?_ _ | refine bD ?_ | refine bA ?_ _)); exact BK114.out)) : gb121 ≠ gb114)); clear HO_114000; clear HO_114001; clear HO_115000; clear HO_115001; clear BK101; clear BK102; clear BK103; clear BK113; clear BK114; clear HB; have HO_114000 := n0_; have HO_114001 := n1_; have HO_115000 := n2_; have HO_115001 := n3_; have BK101 := n4_; have BK102 := n5_; have BK103 := n6_; have BK113 := n7_; have BK114 := n8_; have HB := n9_; have BK121 := n10_; have GW121 := n11_; have GE121 := n12_; have NB101_121 := n13_; have NB121_101 := n14_; have NB102_121 := n15_; have NB121_102 := n16_; have NB103_121 := n17_; have NB121_103 := n18_; have NB113_121 := n19_; have NB121_113 := n20_; have NB114_121 := n21_; have NB121_114 := n22_; clear n0_ n1_ n2_ n3_ n4_ n5_ n6_ n7_ n8_ n9_ n10_ n11_ n12_ n13_ n14_ n15_ n16_ n17_ n18_ n19_ n20_ n21_ n22_; clear hb hbox hg; have hnb70 := NB121_101.out; have hnc70 := NB101_121.out; have hnb71 := NB121_102.out; have hnc71 := NB102_121.out; have hnb72 := NB121_103.out; have hnc72 := NB103_121.out; have hnb73 := NB121_113.out; have hnc73 := NB113_121.out; have hnb74 := NB121_114.out; have hnc74 := NB114_121.out; have hcz75_0 : w69.cell? ⟨gb121, 0, none⟩ = some (.int .i64 0) := (blk_cell BK121.out 0).trans rfl; have hcz75_1 : w69.cell? ⟨gb121, 1, none⟩ = some (.int .i64 0) := (blk_cell BK121.out 1).trans rfl; have hcz75_2 : w69.cell? ⟨gb121, 2, none⟩ = some (.int .i64 0) := (blk_cell BK121.out 2).trans rfl; have hfz75_0 := blk_frozen BK121.out 0; have hfz75_1 := blk_frozen BK121.out 1; have hfz75_2 := blk_frozen BK121.out 2; have hnb76 := NB113_101.out; have hnc76 := NB101_113.out; have hnb77 := NB113_102.out; have hnc77 := NB102_113.out; have hnb78 := NB113_103.out; have hnc78 := NB103_113.out; have hnb79 := NB113_114.out; have hnc79 := NB114_113.out; have hcz80_0 : w69.cell? ⟨gb113, 0, none⟩ = some (.slice Ao29 t107.length co29) := (blk_cell BK113.out 0).trans rfl; have hcz80_1 : w69.cell? ⟨gb113, 1, none⟩ = some (.slice Ao28 t110.length co28) := (blk_cell BK113.out 1).trans rfl; have hfz80_0 := blk_frozen BK113.out 0; have hfz80_1 := blk_frozen BK113.out 1; have p122 : 0 ≤ (x81_2 : Int) := oT; have q122 : x81_2 < (t110.length : Int) := oT; obtain ⟨ad122, e122, hx122_0⟩ := Kd.at_int (Kd.R_reads' HO_114001.out).2.2 x81_2 p122 q122; cases e122; have hn122_0 : ad122.block ≠ gb121 := Kd.own_blk (Kd.R_ne HO_114001.out BK121.out (by decide)); have hn122_1 : ad122.block ≠ gb121 := Kd.own_blk (Kd.R_ne HO_114001.out BK121.out (by decide)); have hn122_2 : ad122.block ≠ gb121 := Kd.own_blk (Kd.R_ne HO_114001.out BK121.out (by decide)); replace hx122_0 := (cell_far (p := ⟨gb121, 0, none⟩) (by first | (rw [add_block]; exact hn122_0) | (show (Addr.add _ _).block ≠ _; rw [add_block]; exact hn122_0) | exact hn122_0) (.int .i64 ((rd_T38 l0_1 x81_2).f0))).trans hx122_0; replace hx122_0 := (cell_far (p := ⟨gb121, 1, none⟩) (by first | (rw [add_block]; exact hn122_1) | (show (Addr.add _ _).block ≠ _; rw [add_block]; exact hn122_1) | exact hn122_1) (.int .i64 ((rd_T38 l0_1 x81_2).f1))).trans hx122_0; replace hx122_0 := (cell_far (p := ⟨gb121, 2, none⟩) (by first | (rw [add_block]; exact hn122_2) | (show (Addr.add _ _).block ≠ _; rw [add_block]; exact hn122_2) | exact hn122_2) (.int .i64 ((rd_T38 l0_1 x81_2).f2))).trans hx122_0; clear hn122_0; clear hn122_1; clear hn122_2; replace p122 := eq_true p122; replace q122 := eq_true q122))
              go_roundg k2
              case measure => have := HK1.out; have := HK2.out; omega
              case rel => exact ⟨(wrap64 (x81_2 + 1)), (x115001_2), (u115001), rS, H', ⟨by have := HK1.out; have := HK2.out; omega⟩, ⟨by (with_reducible repeat (first | apply rA | apply rN | apply rD)); exact Kd.R_mono (Kd.R_far (p := ⟨gb121, 2, none⟩) (Kd.R_far (p := ⟨gb121, 1, none⟩) (Kd.R_far (p := ⟨gb121, 0, none⟩) (Kd.R_types HO_114000.out BK121.out (by decide)) (fun _ hk => hk.2) (.int .i64 ((rd_T38 l0_1 x81_2).f0))) (fun _ hk => hk.2) (.int .i64 ((rd_T38 l0_1 x81_2).f1))) (fun _ hk => hk.2) (.int .i64 ((rd_T38 l0_1 x81_2).f2))) (fun _ hk => ⟨hk.1.1, hk.1.2⟩)⟩, ⟨by (with_reducible repeat (first | apply rA | apply rN | apply rD)); exact Kd.R_mono (Kd.R_far (p := ⟨gb121, 2, none⟩) (Kd.R_far (p := ⟨gb121, 1, none⟩) (Kd.R_far (p := ⟨gb121, 0, none⟩) (Kd.R_types HO_114001.out BK121.out (by decide)) (fun _ hk => hk.2) (.int .i64 ((rd_T38 l0_1 x81_2).f0))) (fun _ hk => hk.2) (.int .i64 ((rd_T38 l0_1 x81_2).f1))) (fun _ hk => hk.2) (.int .i64 ((rd_T38 l0_1 x81_2).f2))) (fun _ hk => ⟨hk.1.1, hk.1.2⟩)⟩, ⟨by (with_reducible repeat (first | apply rA | apply rN | apply rD)); exact Kd.R_mono (Kd.R_far (p := ⟨gb121, 2, none⟩) (Kd.R_far (p := ⟨gb121, 1, none⟩) (Kd.R_far (p := ⟨gb121, 0, none⟩) (Kd.R_types HO_115000.out BK121.out (by decide)) (fun _ hk => hk.2) (.int .i64 ((rd_T38 l0_1 x81_2).f0))) (fun _ hk => hk.2) (.int .i64 ((rd_T38 l0_1 x81_2).f1))) (fun _ hk => hk.2) (.int .i64 ((rd_T38 l0_1 x81_2).f2))) (fun _ hk => ⟨hk.1.1, hk.1.2⟩)⟩, ⟨by (with_reducible repeat (first | apply rA | apply rN | apply rD)); exact Kd.R_mono (Kd.R_far (p := ⟨gb121, 2, none⟩) (Kd.R_far (p := ⟨gb121, 1, none⟩) (Kd.R_far (p := ⟨gb121, 0, none⟩) (Kd.R_mono HO_115001.out (fun k_ hk => (⟨hk, hk.2⟩ : _ ∧ k_ ≠ gb121))) (fun _ hk => hk.2) (.int .i64 ((rd_T38 l0_1 x81_2).f0))) (fun _ hk => hk.2) (.int .i64 ((rd_T38 l0_1 x81_2).f1))) (fun _ hk => hk.2) (.int .i64 ((rd_T38 l0_1 x81_2).f2))) (fun _ hk => trivial)⟩, ⟨by (with_reducible repeat (first | refine bN ?_ _ | refine bD ?_ | refine bA ?_ _)); refine blk_far ?_ NB101_121.out _; (with_reducible repeat (first | refine bN ?_ _ | refine bD ?_ | refine bA ?_ _)); refine blk_far ?_ NB101_121.out _; (with_reducible repeat (first | refine bN ?_ _ | refine bD ?_ | refine bA ?_ _)); refine blk_far ?_ NB101_121.out _; (with_reducible repeat (first | refine bN ?_ _ | refine bD ?_ | refine bA ?_ _)); exact BK101.out⟩, ⟨by (with_reducible repeat (first | refine bN ?_ _ | refine bD ?_ | refine bA ?_ _)); refine blk_far ?_ NB102_121.out _; (with_reducible repeat (first | refine bN ?_ _ | refine bD ?_ | refine bA ?_ _)); refine blk_far ?_ NB102_121.out _; (with_reducible repeat (first | refine bN ?_ _ | refine bD ?_ | refine bA ?_ _)); refine blk_far ?_ NB102_121.out _; (with_reducible repeat (first | refine bN ?_ _ | refine bD ?_ | refine bA ?_ _)); exact BK102.out⟩, ⟨by (with_reducible repeat (first | refine bN ?_ _ | refine bD ?_ | refine bA ?_ _)); refine blk_far ?_ NB103_121.out _; (with_reducible repeat (first | refine bN ?_ _ | refine bD ?_ | refine bA ?_ _)); refine blk_far ?_ NB103_121.out _; (with_reducible repeat (first | refine bN ?_ _ | refine bD ?_ | refine bA ?_ _)); refine blk_far ?_ NB103_121.out _; (with_reducible repeat (first | refine bN ?_ _ | refine bD ?_ | refine bA ?_ _)); exact BK103.out⟩, ⟨by (with_reducible repeat (first | refine bN ?_ _ | refine bD ?_ | refine bA ?_ _)); refine blk_far ?_ NB113_121.out _; (with_reducible repeat (first | refine bN ?_ _ | refine bD ?_ | refine bA ?_ _)); refine blk_far ?_ NB113_121.out _; (with_reducible repeat (first | refine bN ?_ _ | refine bD ?_ | refine bA ?_ _)); refine blk_far ?_ NB113_121.out _; (with_reducible repeat (first | refine bN ?_ _ | refine bD ?_ | refine bA ?_ _)); exact BK113.out⟩, ⟨by (with_reducible repeat (first | refine bN ?_ _ | refine bD ?_ | refine bA ?_ _)); refine blk_far ?_ NB114_121.out _; (with_reducible repeat (first | refine bN ?_ _ | refine bD ?_ | refine bA ?_ _)); refine blk_far ?_ NB114_121.out _; (with_reducible repeat (first | refine bN ?_ _ | refine bD ?_ | refine bA ?_ _)); refine blk_far ?_ NB114_121.out _; (with_reducible repeat (first | refine bN ?_ _ | refine bD ?_ | refine bA ?_ _)); exact BK114.out⟩, ⟨by repeat (first | (with_reducible first | exact HB.out | apply wA | apply wN | apply wD | refine below_set ?_ GE101.out | refine below_set ?_ GE102.out | refine below_set ?_ GE103.out | refine below_set ?_ GE113.out | refine below_set ?_ GE114.out | refine below_set ?_ GE121.out) | exact HB.out)⟩⟩
             ·rw [if_neg c68] at H
              have c68b0 : decide ((rd t110 x81_2) < 0) = false := decide_eq_false c68
              clear c68
              by_cases c81 : 0 ≤ ((rd_T38 l0_1 x81_2).f1)
              ·rw [if_pos c81] at H
               have c81b0 : decide (0 ≤ ((rd_T38 l0_1 x81_2).f1)) = true := decide_eq_true c81
               clear c81
               by_cases c82 : ((rd_T38 l0_1 x81_2).f1) < (t107.length : Int)
               ·rw [if_pos c82] at H
                have c82b0 : decide (((rd_T38 l0_1 x81_2).f1) < (t107.length : Int)) = true := decide_eq_true c82
                clear c82
                by_cases c83 : 0 ≤ ((rd_T38 l0_1 x81_2).f2)
                ·rw [if_pos c83] at H
                 have c83b0 : decide (0 ≤ ((rd_T38 l0_1 x81_2).f2)) = true := decide_eq_true c83
                 clear c83
                 by_cases c84 : ((rd_T38 l0_1 x81_2).f2) < (t107.length : Int)
                 ·rw [if_pos c84] at H
                  have c84b0 : decide (((rd_T38 l0_1 x81_2).f2) < (t107.length : Int)) = true := decide_eq_true c84
                  clear c84
                  have HC85 := Aside0.mk H
                  clear H
                  have p120 : 0 ≤ (x81_2 : Int) := oT
                  have q120 : x81_2 < (l0_1.length : Int) := oT
                  obtain ⟨ad120, e120, hx120_0, hx120_1, hx120_2⟩ := at_T38 HR0_1.out x81_2 p120 q120
                  cases e120
                  replace hx120_0 := (HB.out.cell (World.block_lt_of_cell? w _ hx120_0)).trans hx120_0
                  replace hx120_1 := (HB.out.cell (World.block_lt_of_cell? w _ hx120_1)).trans hx120_1
                  replace hx120_2 := (HB.out.cell (World.block_lt_of_cell? w _ hx120_2)).trans hx120_2
                  replace p120 := eq_true p120
                  replace q120 := eq_true q120
                  try go_wp2_with (first | ((with_reducible refine gate_dst (N := 17) rfl ?_); refine box_event ?hg (N := 17) ?hd (cs := #[.int .i64 0, .int .i64 0, .int .i64 0]) (t := 38) ?hr ?_; (case hd => rfl); (case hg => rfl); (case hr => first | (go_simp; done) | (go_simp; rfl)); intro gb121 hg w86 hbox hb; have n0_ := Aside0.mk (rB (by (with_reducible repeat (first | apply rA | apply rN | apply rD)); exact HO_114000.out) hb); have n1_ := Aside0.mk (rB (by (with_reducible repeat (first | apply rA | apply rN | apply rD)); exact HO_114001.out) hb); have n2_ := Aside0.mk (rB (by (with_reducible repeat (first | apply rA | apply rN | apply rD)); exact HO_115000.out) hb); have n3_ := Aside0.mk (rB (Kd.R_elderB (by (with_reducible repeat (first | apply rA | apply rN | apply rD)); exact HO_115001.out) gb121 (Nat.le_of_eq hg.symm)) hb); have n4_ := Aside0.mk (bB (g := gb101) (o := .cells #[.slice A0_0 l0_0.length c0_0, .slice (some ad120) l0_1.length c0_1] 25 (0, 0)) (by (with_reducible repeat (first | refine bN ?_ _ | refine bD ?_ | refine bA ?_ _)); exact BK101.out) hb); have n5_ := Aside0.mk (bB (g := gb102) (o := .cells #[.slice none 0 0, .slice none 0 0] 25 (0, 0)) (by (with_reducible repeat (first | refine bN ?_ _ | refine bD ?_ | refine bA ?_ _)); exact BK102.out) hb); have n6_ := Aside0.mk (bB (g := gb103) (o := .cells #[.slice none 0 0, .slice none 0 0] 29 (0, 0)) (by (with_reducible repeat (first | refine bN ?_ _ | refine bD ?_ | refine bA ?_ _)); exact BK103.out) hb); have n7_ := Aside0.mk (bB (g := gb113) (o := .cells #[.slice Ao29 t107.length co29, .slice Ao28 t110.length co28] 29 (0, 0)) (by (with_reducible repeat (first | refine bN ?_ _ | refine bD ?_ | refine bA ?_ _)); exact BK113.out) hb); have n8_ := Aside0.mk (bB (g := gb114) (o := .cells #[u115000, u115001] 25 (0, 0)) (by (with_reducible repeat (first | refine bN ?_ _ | refine bD ?_ | refine bA ?_ _)); exact BK114.out) hb); have n9_ := Aside0.mk (wS (by repeat (first | (with_reducible first | exact HB.out | apply wA | apply wN | apply wD | refine below_set ?_ GE101.out | refine below_set ?_ GE102.out | refine below_set ?_ GE103.out | refine below_set ?_ GE113.out | refine below_set ?_ GE114.out) | exact HB.out)) hb); have n10_ := Aside0.mk (hbox); have n11_ := Aside0.mk ((by rw [hg]; exact (below_size (by repeat (first | (with_reducible first | exact HB.out | apply wA | apply wN | apply wD | refine below_set ?_ GE101.out | refine below_set ?_ GE102.out | refine below_set ?_ GE103.out | refine below_set ?_ GE113.out | refine below_set ?_ GE114.out) | exact HB.out))) : w.heap.size ≤ gb121)); have n12_ := Aside0.mk ((by rw [hg]; exact (below_size (by repeat (first | (with_reducible first | exact HB.out | apply wA | apply wN | apply wD | refine below_set ?_ GE101.out | refine below_set ?_ GE102.out | refine below_set ?_ GE103.out | refine below_set ?_ GE113.out | refine below_set ?_ GE114.out) | exact HB.out))) : w.heap.size ≤ gb121)); have n13_ := Aside0.mk ((by rw [hg]; exact Nat.ne_of_lt (blk_lt (g := gb101) (o := .cells #[.slice A0_0 l0_0.length c0_0, .slice (some ad120) l0_1.length c0_1] 25 (0, 0)) (by (with_reducible repeat (first | refine bN ?_ _ | refine bD ?_ | refine bA ?_ _)); exact BK101.out)) : gb101 ≠ gb121)); have n14_ := Aside0.mk ((by rw [hg]; exact Nat.ne_of_gt (blk_lt (g := gb101) (o := .cells #[.slice A0_0 l0_0.length c0_0, .slice (some ad120) l0_1.length c0_1] 25 (0, 0)) (by (with_reducible repeat (first | refine bN ?_ _ | refine bD ?_ | refine bA ?_ _)); exact BK101.out)) : gb121 ≠ gb101)); have n15_ := Aside0.mk ((by rw [hg]; exact Nat.ne_of_lt (blk_lt (g := gb102) (o := .cells #[.slice none 0 0, .slice none 0 0] 25 (0, 0)) (by (with_reducible repeat (first | refine bN ?_ _ | refine bD ?_ | refine bA ?_ _)); exact BK102.out)) : gb102 ≠ gb121)); have n16_ := Aside0.mk ((by rw [hg]; exact Nat.ne_of_gt (blk_lt (g := gb102) (o := .cells #[.slice none 0 0, .slice none 0 0] 25 (0, 0)) (by (with_reducible repeat (first | refine bN ?_ _ | refine bD ?_ | refine bA ?_ _)); exact BK102.out)) : gb121 ≠ gb102)); have n17_ := Aside0.mk ((by rw [hg]; exact Nat.ne_of_lt (blk_lt (g := gb103) (o := .cells #[.slice none 0 0, .slice none 0 0] 29 (0, 0)) (by (with_reducible repeat (first | refine bN ?_ _ | refine bD ?_ | refine bA ?_ _)); exact BK103.out)) : gb103 ≠ gb121)); have n18_ := Aside0.mk ((by rw [hg]; exact Nat.ne_of_gt (blk_lt (g := gb103) (o := .cells #[.slice none 0 0, .slice none 0 0] 29 (0, 0)) (by (with_reducible repeat (first | refine bN ?_ _ | refine bD ?_ | refine bA ?_ _)); exact BK103.out)) : gb121 ≠ gb103)); have n19_ := Aside0.mk ((by rw [hg]; exact Nat.ne_of_lt (blk_lt (g := gb113) (o := .cells #[.slice Ao29 t107.length co29, .slice Ao28 t110.length co28] 29 (0, 0)) (by (with_reducible repeat (first | refine bN ?_ _ | refine bD ?_ | refine bA ?_ _)); exact BK113.out)) : gb113 ≠ gb121)); have n20_ := Aside0.mk ((by rw [hg]; exact Nat.ne_of_gt (blk_lt (g := gb113) (o := .cells #[.slice Ao29 t107.length co29, .slice Ao28 t110.length co28] 29 (0, 0)) (by (with_reducible repeat (first | refine bN ?_ _ | refine bD ?_ | refine bA ?_ _)); exact BK113.out)) : gb121 ≠ gb113)); have n21_ := Aside0.mk ((by rw [hg]; exact Nat.ne_of_lt (blk_lt (g := gb114) (o := .cells #[u115000, u115001] 25 (0, 0)) (by (with_reducible repeat (first | refine bN ?_ _ | refine bD ?_ | refine bA ?_ _)); exact BK114.out)) : gb114 ≠ gb121)); have n22_ := Aside0.mk ((by rw [hg]; exact Nat.ne_of_gt (blk_lt (g := gb114) (o := .cells #[u115000, u115001] 25 (0, 0)) (by (with_reducible repeat (first | refine bN ?_ _ | refine bD ?_ | refine bA ?_ _)); exact BK114.out)) : gb121 ≠ gb114)); clear HO_114000; clear HO_114001; clear HO_115000; clear HO_115001; clear BK101; clear BK102; clear BK103; clear BK113; clear BK114; clear HB; have HO_114000 := n0_; have HO_114001 := n1_; have HO_115000 := n2_; have HO_115001 := n3_; have BK101 := n4_; have BK102 := n5_; have BK103 := n6_; have BK113 := n7_; have BK114 := n8_; have HB := n9_; have BK121 := n10_; have GW121 := n11_; have GE121 := n12_; have NB101_121 := n13_; have NB121_101 := n14_; have NB102_121 := n15_; have NB121_102 := n16_; have NB103_121 := n17_; have NB121_103 := n18_; have NB113_121 := n19_; have NB121_113 := n20_; have NB114_121 := n21_; have NB121_114 := n22_; clear n0_ n1_ n2_ n3_ n4_ n5_ n6_ n7_ n8_ n9_ n10_ n11_ n12_ n13_ n14_ n15_ n16_ n17_ n18_ n19_ n20_ n21_ n22_; clear hb hbox hg; have hnb87 := NB121_101.out; have hnc87 := NB101_121.out; have hnb88 := NB121_102.out; have hnc88 := NB102_121.out; have hnb89 := NB121_103.out; have hnc89 := NB103_121.out; have hnb90 := NB121_113.out; have hnc90 := NB113_121.out; have hnb91 := NB121_114.out; have hnc91 := NB114_121.out; have hcz92_0 : w86.cell? ⟨gb121, 0, none⟩ = some (.int .i64 0) := (blk_cell BK121.out 0).trans rfl; have hcz92_1 : w86.cell? ⟨gb121, 1, none⟩ = some (.int .i64 0) := (blk_cell BK121.out 1).trans rfl; have hcz92_2 : w86.cell? ⟨gb121, 2, none⟩ = some (.int .i64 0) := (blk_cell BK121.out 2).trans rfl; have hfz92_0 := blk_frozen BK121.out 0; have hfz92_1 := blk_frozen BK121.out 1; have hfz92_2 := blk_frozen BK121.out 2; have hnb93 := NB113_101.out; have hnc93 := NB101_113.out; have hnb94 := NB113_102.out; have hnc94 := NB102_113.out; have hnb95 := NB113_103.out; have hnc95 := NB103_113.out; have hnb96 := NB113_114.out; have hnc96 := NB114_113.out; have hcz97_0 : w86.cell? ⟨gb113, 0, none⟩ = some (.slice Ao29 t107.length co29) := (blk_cell BK113.out 0).trans rfl; have hcz97_1 : w86.cell? ⟨gb113, 1, none⟩ = some (.slice Ao28 t110.length co28) := (blk_cell BK113.out 1).trans rfl; have hfz97_0 := blk_frozen BK113.out 0; have hfz97_1 := blk_frozen BK113.out 1; have p122 : 0 ≤ (x81_2 : Int) := oT; have q122 : x81_2 < (t110.length : Int) := oT; obtain ⟨ad122, e122, hx122_0⟩ := Kd.at_int (Kd.R_reads' HO_114001.out).2.2 x81_2 p122 q122; cases e122; have hn122_0 : ad122.block ≠ gb121 := Kd.own_blk (Kd.R_ne HO_114001.out BK121.out (by decide)); have hn122_1 : ad122.block ≠ gb121 := Kd.own_blk (Kd.R_ne HO_114001.out BK121.out (by decide)); have hn122_2 : ad122.block ≠ gb121 := Kd.own_blk (Kd.R_ne HO_114001.out BK121.out (by decide)); replace hx122_0 := (cell_far (p := ⟨gb121, 0, none⟩) (by first | (rw [add_block]; exact hn122_0) | (show (Addr.add _ _).block ≠ _; rw [add_block]; exact hn122_0) | exact hn122_0) (.int .i64 ((rd_T38 l0_1 x81_2).f0))).trans hx122_0; replace hx122_0 := (cell_far (p := ⟨gb121, 1, none⟩) (by first | (rw [add_block]; exact hn122_1) | (show (Addr.add _ _).block ≠ _; rw [add_block]; exact hn122_1) | exact hn122_1) (.int .i64 ((rd_T38 l0_1 x81_2).f1))).trans hx122_0; replace hx122_0 := (cell_far (p := ⟨gb121, 2, none⟩) (by first | (rw [add_block]; exact hn122_2) | (show (Addr.add _ _).block ≠ _; rw [add_block]; exact hn122_2) | exact hn122_2) (.int .i64 ((rd_T38 l0_1 x81_2).f2))).trans hx122_0; clear hn122_0; clear hn122_1; clear hn122_2; replace p122 := eq_true p122; replace q122 := eq_true q122))
                  have n0_ : Aside0 (Kd.R (Kd.int .i64) 3 (((w86.setCell ⟨gb121, 0, none⟩ (.int .i64 ((rd_T38 l0_1 x81_2).f0))).setCell ⟨gb121, 1, none⟩ (.int .i64 ((rd_T38 l0_1 x81_2).f1))).setCell ⟨gb121, 2, none⟩ (.int .i64 ((rd_T38 l0_1 x81_2).f2))) w.heap.size (fun k_ => some k_ ≠ (.slice (some ad122) t110.length co28 : Value).ownBlock ∧ some k_ ≠ (u115000 : Value).ownBlock) (.slice Ao29 t107.length co29) t107) := ⟨by (with_reducible repeat (first | apply rA | apply rN | apply rD)); exact Kd.R_mono (Kd.R_far (p := ⟨gb121, 2, none⟩) (Kd.R_far (p := ⟨gb121, 1, none⟩) (Kd.R_far (p := ⟨gb121, 0, none⟩) (Kd.R_types HO_114000.out BK121.out (by decide)) (fun _ hk => hk.2) (.int .i64 ((rd_T38 l0_1 x81_2).f0))) (fun _ hk => hk.2) (.int .i64 ((rd_T38 l0_1 x81_2).f1))) (fun _ hk => hk.2) (.int .i64 ((rd_T38 l0_1 x81_2).f2))) (fun _ hk => ⟨hk.1.1, hk.1.2⟩)⟩
                  have n1_ : Aside0 (Kd.R (Kd.int .i64) 3 (((w86.setCell ⟨gb121, 0, none⟩ (.int .i64 ((rd_T38 l0_1 x81_2).f0))).setCell ⟨gb121, 1, none⟩ (.int .i64 ((rd_T38 l0_1 x81_2).f1))).setCell ⟨gb121, 2, none⟩ (.int .i64 ((rd_T38 l0_1 x81_2).f2))) w.heap.size (fun k_ => some k_ ≠ (.slice Ao29 t107.length co29 : Value).ownBlock ∧ some k_ ≠ (u115000 : Value).ownBlock) (.slice (some ad122) t110.length co28) t110) := ⟨by (with_reducible repeat (first | apply rA | apply rN | apply rD)); exact Kd.R_mono (Kd.R_far (p := ⟨gb121, 2, none⟩) (Kd.R_far (p := ⟨gb121, 1, none⟩) (Kd.R_far (p := ⟨gb121, 0, none⟩) (Kd.R_types HO_114001.out BK121.out (by decide)) (fun _ hk => hk.2) (.int .i64 ((rd_T38 l0_1 x81_2).f0))) (fun _ hk => hk.2) (.int .i64 ((rd_T38 l0_1 x81_2).f1))) (fun _ hk => hk.2) (.int .i64 ((rd_T38 l0_1 x81_2).f2))) (fun _ hk => ⟨hk.1.1, hk.1.2⟩)⟩
                  have n2_ : Aside0 (Kd.R (Kd.int .i64) 3 (((w86.setCell ⟨gb121, 0, none⟩ (.int .i64 ((rd_T38 l0_1 x81_2).f0))).setCell ⟨gb121, 1, none⟩ (.int .i64 ((rd_T38 l0_1 x81_2).f1))).setCell ⟨gb121, 2, none⟩ (.int .i64 ((rd_T38 l0_1 x81_2).f2))) w.heap.size (fun k_ => some k_ ≠ (.slice Ao29 t107.length co29 : Value).ownBlock ∧ some k_ ≠ (.slice (some ad122) t110.length co28 : Value).ownBlock) u115000 x115000_1) := ⟨by (with_reducible repeat (first | apply rA | apply rN | apply rD)); exact Kd.R_mono (Kd.R_far (p := ⟨gb121, 2, none⟩) (Kd.R_far (p := ⟨gb121, 1, none⟩) (Kd.R_far (p := ⟨gb121, 0, none⟩) (Kd.R_types HO_115000.out BK121.out (by decide)) (fun _ hk => hk.2) (.int .i64 ((rd_T38 l0_1 x81_2).f0))) (fun _ hk => hk.2) (.int .i64 ((rd_T38 l0_1 x81_2).f1))) (fun _ hk => hk.2) (.int .i64 ((rd_T38 l0_1 x81_2).f2))) (fun _ hk => ⟨hk.1.1, hk.1.2⟩)⟩
                  have n3_ : Aside0 (Kd.R k38 38 (((w86.setCell ⟨gb121, 0, none⟩ (.int .i64 ((rd_T38 l0_1 x81_2).f0))).setCell ⟨gb121, 1, none⟩ (.int .i64 ((rd_T38 l0_1 x81_2).f1))).setCell ⟨gb121, 2, none⟩ (.int .i64 ((rd_T38 l0_1 x81_2).f2))) w.heap.size (fun k_ => k_ ≠ gb121) u115001 x115001_2) := ⟨by (with_reducible repeat (first | apply rA | apply rN | apply rD)); exact Kd.R_mono (Kd.R_far (p := ⟨gb121, 2, none⟩) (Kd.R_far (p := ⟨gb121, 1, none⟩) (Kd.R_far (p := ⟨gb121, 0, none⟩) (Kd.R_mono HO_115001.out (fun k_ hk => (⟨hk, hk.2⟩ : _ ∧ k_ ≠ gb121))) (fun _ hk => hk.2) (.int .i64 ((rd_T38 l0_1 x81_2).f0))) (fun _ hk => hk.2) (.int .i64 ((rd_T38 l0_1 x81_2).f1))) (fun _ hk => hk.2) (.int .i64 ((rd_T38 l0_1 x81_2).f2))) (fun _ hk => hk.1.2)⟩
                  have n4_ : Aside0 ((((w86.setCell ⟨gb121, 0, none⟩ (.int .i64 ((rd_T38 l0_1 x81_2).f0))).setCell ⟨gb121, 1, none⟩ (.int .i64 ((rd_T38 l0_1 x81_2).f1))).setCell ⟨gb121, 2, none⟩ (.int .i64 ((rd_T38 l0_1 x81_2).f2))).heap[gb101]? = some (.cells #[.slice A0_0 l0_0.length c0_0, .slice (some ad120) l0_1.length c0_1] 25 (0, 0))) := ⟨by (with_reducible repeat (first | refine bN ?_ _ | refine bD ?_ | refine bA ?_ _)); refine blk_far ?_ NB101_121.out _; (with_reducible repeat (first | refine bN ?_ _ | refine bD ?_ | refine bA ?_ _)); refine blk_far ?_ NB101_121.out _; (with_reducible repeat (first | refine bN ?_ _ | refine bD ?_ | refine bA ?_ _)); refine blk_far ?_ NB101_121.out _; (with_reducible repeat (first | refine bN ?_ _ | refine bD ?_ | refine bA ?_ _)); exact BK101.out⟩
                  have n5_ : Aside0 ((((w86.setCell ⟨gb121, 0, none⟩ (.int .i64 ((rd_T38 l0_1 x81_2).f0))).setCell ⟨gb121, 1, none⟩ (.int .i64 ((rd_T38 l0_1 x81_2).f1))).setCell ⟨gb121, 2, none⟩ (.int .i64 ((rd_T38 l0_1 x81_2).f2))).heap[gb102]? = some (.cells #[.slice none 0 0, .slice none 0 0] 25 (0, 0))) := ⟨by (with_reducible repeat (first | refine bN ?_ _ | refine bD ?_ | refine bA ?_ _)); refine blk_far ?_ NB102_121.out _; (with_reducible repeat (first | refine bN ?_ _ | refine bD ?_ | refine bA ?_ _)); refine blk_far ?_ NB102_121.out _; (with_reducible repeat (first | refine bN ?_ _ | refine bD ?_ | refine bA ?_ _)); refine blk_far ?_ NB102_121.out _; (with_reducible repeat (first | refine bN ?_ _ | refine bD ?_ | refine bA ?_ _)); exact BK102.out⟩
                  have n6_ : Aside0 ((((w86.setCell ⟨gb121, 0, none⟩ (.int .i64 ((rd_T38 l0_1 x81_2).f0))).setCell ⟨gb121, 1, none⟩ (.int .i64 ((rd_T38 l0_1 x81_2).f1))).setCell ⟨gb121, 2, none⟩ (.int .i64 ((rd_T38 l0_1 x81_2).f2))).heap[gb103]? = some (.cells #[.slice none 0 0, .slice none 0 0] 29 (0, 0))) := ⟨by (with_reducible repeat (first | refine bN ?_ _ | refine bD ?_ | refine bA ?_ _)); refine blk_far ?_ NB103_121.out _; (with_reducible repeat (first | refine bN ?_ _ | refine bD ?_ | refine bA ?_ _)); refine blk_far ?_ NB103_121.out _; (with_reducible repeat (first | refine bN ?_ _ | refine bD ?_ | refine bA ?_ _)); refine blk_far ?_ NB103_121.out _; (with_reducible repeat (first | refine bN ?_ _ | refine bD ?_ | refine bA ?_ _)); exact BK103.out⟩
                  have n7_ : Aside0 ((((w86.setCell ⟨gb121, 0, none⟩ (.int .i64 ((rd_T38 l0_1 x81_2).f0))).setCell ⟨gb121, 1, none⟩ (.int .i64 ((rd_T38 l0_1 x81_2).f1))).setCell ⟨gb121, 2, none⟩ (.int .i64 ((rd_T38 l0_1 x81_2).f2))).heap[gb113]? = some (.cells #[.slice Ao29 t107.length co29, .slice (some ad122) t110.length co28] 29 (0, 0))) := ⟨by (with_reducible repeat (first | refine bN ?_ _ | refine bD ?_ | refine bA ?_ _)); refine blk_far ?_ NB113_121.out _; (with_reducible repeat (first | refine bN ?_ _ | refine bD ?_ | refine bA ?_ _)); refine blk_far ?_ NB113_121.out _; (with_reducible repeat (first | refine bN ?_ _ | refine bD ?_ | refine bA ?_ _)); refine blk_far ?_ NB113_121.out _; (with_reducible repeat (first | refine bN ?_ _ | refine bD ?_ | refine bA ?_ _)); exact BK113.out⟩
                  have n8_ : Aside0 ((((w86.setCell ⟨gb121, 0, none⟩ (.int .i64 ((rd_T38 l0_1 x81_2).f0))).setCell ⟨gb121, 1, none⟩ (.int .i64 ((rd_T38 l0_1 x81_2).f1))).setCell ⟨gb121, 2, none⟩ (.int .i64 ((rd_T38 l0_1 x81_2).f2))).heap[gb114]? = some (.cells #[u115000, u115001] 25 (0, 0))) := ⟨by (with_reducible repeat (first | refine bN ?_ _ | refine bD ?_ | refine bA ?_ _)); refine blk_far ?_ NB114_121.out _; (with_reducible repeat (first | refine bN ?_ _ | refine bD ?_ | refine bA ?_ _)); refine blk_far ?_ NB114_121.out _; (with_reducible repeat (first | refine bN ?_ _ | refine bD ?_ | refine bA ?_ _)); refine blk_far ?_ NB114_121.out _; (with_reducible repeat (first | refine bN ?_ _ | refine bD ?_ | refine bA ?_ _)); exact BK114.out⟩
                  have n9_ : Aside0 ((((w86.setCell ⟨gb121, 0, none⟩ (.int .i64 ((rd_T38 l0_1 x81_2).f0))).setCell ⟨gb121, 1, none⟩ (.int .i64 ((rd_T38 l0_1 x81_2).f1))).setCell ⟨gb121, 2, none⟩ (.int .i64 ((rd_T38 l0_1 x81_2).f2))).heap[gb121]? = some (.cells #[.int .i64 ((rd_T38 l0_1 x81_2).f0), .int .i64 ((rd_T38 l0_1 x81_2).f1), .int .i64 ((rd_T38 l0_1 x81_2).f2)] 38 (0, 0))) := ⟨by (with_reducible repeat (first | refine bN ?_ _ | refine bD ?_ | refine bA ?_ _)); refine blk_put (cs := #[.int .i64 ((rd_T38 l0_1 x81_2).f0), .int .i64 ((rd_T38 l0_1 x81_2).f1), .int .i64 0]) ?_ 2 _ rfl; (with_reducible repeat (first | refine bN ?_ _ | refine bD ?_ | refine bA ?_ _)); refine blk_put (cs := #[.int .i64 ((rd_T38 l0_1 x81_2).f0), .int .i64 0, .int .i64 0]) ?_ 1 _ rfl; (with_reducible repeat (first | refine bN ?_ _ | refine bD ?_ | refine bA ?_ _)); refine blk_put (cs := #[.int .i64 0, .int .i64 0, .int .i64 0]) ?_ 0 _ rfl; (with_reducible repeat (first | refine bN ?_ _ | refine bD ?_ | refine bA ?_ _)); exact BK121.out⟩
                  have n10_ : Aside0 (Below w.heap.size w (((w86.setCell ⟨gb121, 0, none⟩ (.int .i64 ((rd_T38 l0_1 x81_2).f0))).setCell ⟨gb121, 1, none⟩ (.int .i64 ((rd_T38 l0_1 x81_2).f1))).setCell ⟨gb121, 2, none⟩ (.int .i64 ((rd_T38 l0_1 x81_2).f2)))) := ⟨by repeat (first | (with_reducible first | exact HB.out | apply wA | apply wN | apply wD | refine below_set ?_ GE101.out | refine below_set ?_ GE102.out | refine below_set ?_ GE103.out | refine below_set ?_ GE113.out | refine below_set ?_ GE114.out | refine below_set ?_ GE121.out) | exact HB.out)⟩
                  (try clear HO_114000)
                  (try clear HO_114001)
                  (try clear HO_115000)
                  (try clear HO_115001)
                  (try clear BK101)
                  (try clear BK102)
                  (try clear BK103)
                  (try clear BK113)
                  (try clear BK114)
                  (try clear BK121)
                  (try clear HB)
                  generalize (((w86.setCell ⟨gb121, 0, none⟩ (.int .i64 ((rd_T38 l0_1 x81_2).f0))).setCell ⟨gb121, 1, none⟩ (.int .i64 ((rd_T38 l0_1 x81_2).f1))).setCell ⟨gb121, 2, none⟩ (.int .i64 ((rd_T38 l0_1 x81_2).f2))) = w98 at n0_ n1_ n2_ n3_ n4_ n5_ n6_ n7_ n8_ n9_ n10_ ⊢
                  have HO_114000 := n0_
                  have HO_114001 := n1_
                  have HO_115000 := n2_
                  have HO_115001 := n3_
                  have BK101 := n4_
                  have BK102 := n5_
                  have BK103 := n6_
                  have BK113 := n7_
                  have BK114 := n8_
                  have BK121 := n9_
                  have HB := n10_
                  clear n0_ n1_ n2_ n3_ n4_ n5_ n6_ n7_ n8_ n9_ n10_
                  have n0_ := Aside0.mk (rD HO_114000.out)
                  have n1_ := Aside0.mk (rD HO_114001.out)
                  have n2_ := Aside0.mk (rD HO_115000.out)
                  have n3_ := Aside0.mk (rD HO_115001.out)
                  have n4_ := Aside0.mk (bD BK101.out)
                  have n5_ := Aside0.mk (bD BK102.out)
                  have n6_ := Aside0.mk (bD BK103.out)
                  have n7_ := Aside0.mk (bD BK113.out)
                  have n8_ := Aside0.mk (bD BK114.out)
                  have n9_ := Aside0.mk (bD BK121.out)
                  have n10_ := Aside0.mk (wD HB.out)
                  clear HO_114000
                  clear HO_114001
                  clear HO_115000
                  clear HO_115001
                  clear BK101
                  clear BK102
                  clear BK103
                  clear BK113
                  clear BK114
                  clear BK121
                  clear HB
                  have HO_114000 := n0_
                  have HO_114001 := n1_
                  have HO_115000 := n2_
                  have HO_115001 := n3_
                  have BK101 := n4_
                  have BK102 := n5_
                  have BK103 := n6_
                  have BK113 := n7_
                  have BK114 := n8_
                  have BK121 := n9_
                  have HB := n10_
                  clear n0_ n1_ n2_ n3_ n4_ n5_ n6_ n7_ n8_ n9_ n10_
                  have p123 : 0 ≤ (((rd_T38 l0_1 x81_2).f1) : Int) := oT
                  have q123 : ((rd_T38 l0_1 x81_2).f1) < (t107.length : Int) := oT
                  obtain ⟨ad123, e123, hx123_0⟩ := Kd.at_int (Kd.R_reads' HO_114000.out).2.2 ((rd_T38 l0_1 x81_2).f1) p123 q123
                  cases e123
                  replace p123 := eq_true p123
                  replace q123 := eq_true q123
                  have p124 : 0 ≤ (((rd_T38 l0_1 x81_2).f2) : Int) := oT
                  have q124 : ((rd_T38 l0_1 x81_2).f2) < (t107.length : Int) := oT
                  obtain ⟨ad124, e124, hx124_0⟩ := Kd.at_int (Kd.R_reads' HO_114000.out).2.2 ((rd_T38 l0_1 x81_2).f2) p124 q124
                  obtain rfl : ad123 = ad124 := (by injection e124)
                  replace p124 := eq_true p124
                  replace q124 := eq_true q124
                  refine start_ (n := 17) (S := fun w' => w'.cell? ⟨gb121, 0, none⟩ = some (.int .i64 ((rd_T38 l0_1 x81_2).f0)) ∧ w'.cell? ⟨gb121, 1, none⟩ = some (.int .i64 ((rd_T38 l0_1 x81_2).f1)) ∧ w'.cell? ⟨gb121, 2, none⟩ = some (.int .i64 ((rd_T38 l0_1 x81_2).f2)) ∧ w'.cell? ⟨gb113, 0, none⟩ = some (.slice (some ad123) t107.length co29) ∧ w'.cell? ⟨gb113, 1, none⟩ = some (.slice (some ad122) t110.length co28) ∧ w'.cell? (ad123.add (((rd_T38 l0_1 x81_2).f1)).toNat) = some (.int .i64 (rd t107 ((rd_T38 l0_1 x81_2).f1))) ∧ w'.cell? (ad123.add (((rd_T38 l0_1 x81_2).f2)).toNat) = some (.int .i64 (rd t107 ((rd_T38 l0_1 x81_2).f2)))) (ds := []) #[false, false, false, false, false, false, false, false, false, false, false, false, false, false, false, false, false] (by kernel_rfl) rfl rfl ⟨(blk_cell BK121.out 0).trans rfl, (blk_cell BK121.out 1).trans rfl, (blk_cell BK121.out 2).trans rfl, (blk_cell BK113.out 0).trans rfl, (blk_cell BK113.out 1).trans rfl, hx123_0, hx124_0⟩ (fun hHeld => ?_); refine with_tabW graph_Remove.tab22 graph_Remove.bits22 (fun HT_ HW_ => ?_)
                  generalize w98.drew = w99 at HO_114000 HO_114001 HO_115000 HO_115001 BK101 BK102 BK103 BK113 BK114 BK121 HB hx123_0 hx124_0 hHeld ⊢
                  refine pure_ (i := 0) (N := some 92) (v := ?_) (a' := ?_) #[true, false, false, false, false, false, false, false, false, false, false, false, false, false, false, false, false] rfl rfl (any_of HT_.out (by kernel_rfl)) (fun _ _ _ h => h) (Or.inl ⟨by rfl, ?_⟩) ?_ ?_
                  rotate_left
                  ·intro w'
                   go_simp
                   with_reducible rfl
                  rotate_left
                  ·simp only [Act.put, List.setIfInBounds_toArray, List.set_cons_zero, List.set_cons_succ, i64_w, i32_w]
                   rfl
                  refine pure_ (i := 2) (N := some 94) (v := ?_) (a' := ?_) #[true, false, true, false, false, false, false, false, false, false, false, false, false, false, false, false, false] rfl rfl (any_of HT_.out (by kernel_rfl)) (fun _ _ _ h => h) (Or.inl ⟨by rfl, ?_⟩) ?_ ?_
                  rotate_left
                  ·intro w'
                   go_simp
                   with_reducible rfl
                  rotate_left
                  ·simp only [Act.put, List.setIfInBounds_toArray, List.set_cons_zero, List.set_cons_succ, i64_w, i32_w]
                   rfl
                  refine pure_ (i := 4) (N := some 96) (v := ?_) (a' := ?_) #[true, false, true, false, true, false, false, false, false, false, false, false, false, false, false, false, false] rfl rfl (any_of HT_.out (by kernel_rfl)) (fun _ _ _ h => h) (Or.inl ⟨by rfl, ?_⟩) ?_ ?_
                  rotate_left
                  ·intro w'
                   go_simp
                   with_reducible rfl
                  rotate_left
                  ·simp only [Act.put, List.setIfInBounds_toArray, List.set_cons_zero, List.set_cons_succ, i64_w, i32_w]
                   rfl
                  refine pure_ (i := 8) (N := some 100) (v := ?_) (a' := ?_) #[true, false, true, false, true, false, false, false, true, false, false, false, false, false, false, false, false] rfl rfl (any_of HT_.out (by kernel_rfl)) (fun _ _ _ h => h) (Or.inl ⟨by rfl, ?_⟩) ?_ ?_
                  rotate_left
                  ·intro w'
                   go_simp
                   with_reducible rfl
                  rotate_left
                  ·simp only [Act.put, List.setIfInBounds_toArray, List.set_cons_zero, List.set_cons_succ, i64_w, i32_w]
                   rfl
                  refine pure_ (i := 10) (N := some 102) (v := ?_) (a' := ?_) #[true, false, true, false, true, false, false, false, true, false, true, false, false, false, false, false, false] rfl rfl (any_of HT_.out (by kernel_rfl)) (fun _ _ _ h => h) (Or.inl ⟨by rfl, ?_⟩) ?_ ?_
                  rotate_left
                  ·intro w'
                   go_simp
                   with_reducible rfl
                  rotate_left
                  ·simp only [Act.put, List.setIfInBounds_toArray, List.set_cons_zero, List.set_cons_succ, i64_w, i32_w]
                   rfl
                  refine take_ (i := 1) (N := some 93) (v := ?_) (a' := ?_) #[true, true, true, false, true, false, false, false, true, false, true, false, false, false, false, false, false] rfl rfl (take_ofW HT_.out HW_.out (by kernel_rfl)) (fun _ _ _ h => h) (Or.inl ⟨by rfl, ?_⟩) hHeld ?_ ?_
                  rotate_left
                  ·rintro w' ⟨s0, s1, s2, s3, s4, s5, s6⟩
                   go_simp
                   with_reducible rfl
                  rotate_left
                  ·simp only [Act.put, List.setIfInBounds_toArray, List.set_cons_zero, List.set_cons_succ, i64_w, i32_w]
                   rfl
                  refine take_ (i := 3) (N := some 95) (v := ?_) (a' := ?_) #[true, true, true, true, true, false, false, false, true, false, true, false, false, false, false, false, false] rfl rfl (take_ofW HT_.out HW_.out (by kernel_rfl)) (fun _ _ _ h => h) (Or.inl ⟨by rfl, ?_⟩) hHeld ?_ ?_
                  rotate_left
                  ·rintro w' ⟨s0, s1, s2, s3, s4, s5, s6⟩
                   go_simp
                   with_reducible rfl
                  rotate_left
                  ·simp only [Act.put, List.setIfInBounds_toArray, List.set_cons_zero, List.set_cons_succ, i64_w, i32_w]
                   rfl
                  refine take_ (i := 5) (N := some 97) (v := ?_) (a' := ?_) #[true, true, true, true, true, true, false, false, true, false, true, false, false, false, false, false, false] rfl rfl (take_ofW HT_.out HW_.out (by kernel_rfl)) (fun _ _ _ h => h) (Or.inl ⟨by rfl, ?_⟩) hHeld ?_ ?_
                  rotate_left
                  ·rintro w' ⟨s0, s1, s2, s3, s4, s5, s6⟩
                   go_simp
                   with_reducible rfl
                  rotate_left
                  ·simp only [Act.put, List.setIfInBounds_toArray, List.set_cons_zero, List.set_cons_succ, i64_w, i32_w]
                   rfl
                  refine pure_ (i := 6) (N := some 98) (v := ?_) (a' := ?_) #[true, true, true, true, true, true, true, false, true, false, true, false, false, false, false, false, false] rfl rfl (any_of HT_.out (by kernel_rfl)) (fun _ _ _ h => h) (Or.inl ⟨by rfl, ?_⟩) ?_ ?_
                  rotate_left
                  ·intro w'
                   go_simp
                   with_reducible rfl
                  rotate_left
                  ·simp only [Act.put, List.setIfInBounds_toArray, List.set_cons_zero, List.set_cons_succ, i64_w, i32_w]
                   rfl
                  refine take_ (i := 7) (N := some 99) (v := ?_) (a' := ?_) #[true, true, true, true, true, true, true, true, true, false, true, false, false, false, false, false, false] rfl rfl (take_ofW HT_.out HW_.out (by kernel_rfl)) (fun _ _ _ h => h) (Or.inl ⟨by rfl, ?_⟩) hHeld ?_ ?_
                  rotate_left
                  ·rintro w' ⟨s0, s1, s2, s3, s4, s5, s6⟩
                   go_simp
                   with_reducible rfl
                  rotate_left
                  ·simp only [Act.put, List.setIfInBounds_toArray, List.set_cons_zero, List.set_cons_succ, i64_w, i32_w]
                   rfl
                  refine take_ (i := 9) (N := some 101) (v := ?_) (a' := ?_) #[true, true, true, true, true, true, true, true, true, true, true, false, false, false, false, false, false] rfl rfl (take_ofW HT_.out HW_.out (by kernel_rfl)) (fun _ _ _ h => h) (Or.inl ⟨by rfl, ?_⟩) hHeld ?_ ?_
                  rotate_left
                  ·rintro w' ⟨s0, s1, s2, s3, s4, s5, s6⟩
                   go_simp
                   with_reducible rfl
                  rotate_left
                  ·simp only [Act.put, List.setIfInBounds_toArray, List.set_cons_zero, List.set_cons_succ, i64_w, i32_w]
                   rfl
                  refine take_ (i := 11) (N := some 103) (v := ?_) (a' := ?_) #[true, true, true, true, true, true, true, true, true, true, true, true, false, false, false, false, false] rfl rfl (take_ofW HT_.out HW_.out (by kernel_rfl)) (fun _ _ _ h => h) (Or.inl ⟨by rfl, ?_⟩) hHeld ?_ ?_
                  rotate_left
                  ·rintro w' ⟨s0, s1, s2, s3, s4, s5, s6⟩
                   go_simp
                   with_reducible rfl
                  rotate_left
                  ·simp only [Act.put, List.setIfInBounds_toArray, List.set_cons_zero, List.set_cons_succ, i64_w, i32_w]
                   rfl
                  refine pure_ (i := 12) (N := some 104) (v := ?_) (a' := ?_) #[true, true, true, true, true, true, true, true, true, true, true, true, true, false, false, false, false] rfl rfl (any_of HT_.out (by kernel_rfl)) (fun _ _ _ h => h) (Or.inl ⟨by rfl, ?_⟩) ?_ ?_
                  rotate_left
                  ·intro w'
                   go_simp
                   with_reducible rfl
                  rotate_left
                  ·simp only [Act.put, List.setIfInBounds_toArray, List.set_cons_zero, List.set_cons_succ, i64_w, i32_w]
                   rfl
                  refine take_ (i := 13) (N := some 105) (v := ?_) (a' := ?_) #[true, true, true, true, true, true, true, true, true, true, true, true, true, true, false, false, false] rfl rfl (take_ofW HT_.out HW_.out (by kernel_rfl)) (fun _ _ _ h => h) (Or.inl ⟨by rfl, ?_⟩) hHeld ?_ ?_
                  rotate_left
                  ·rintro w' ⟨s0, s1, s2, s3, s4, s5, s6⟩
                   go_simp
                   with_reducible rfl
                  rotate_left
                  ·simp only [Act.put, List.setIfInBounds_toArray, List.set_cons_zero, List.set_cons_succ, i64_w, i32_w]
                   rfl
                  refine pure_ (i := 14) (N := some 106) (v := ?_) (a' := ?_) #[true, true, true, true, true, true, true, true, true, true, true, true, true, true, true, false, false] rfl rfl (any_of HT_.out (by kernel_rfl)) (fun _ _ _ h => h) (Or.inl ⟨by rfl, ?_⟩) ?_ ?_
                  rotate_left
                  ·intro w'
                   go_simp
                   with_reducible rfl
                  rotate_left
                  ·simp only [Act.put, List.setIfInBounds_toArray, List.set_cons_zero, List.set_cons_succ, i64_w, i32_w]
                   rfl
                  refine one_ (i := 15) (N := some 18) #[true, true, true, true, true, true, true, true, true, true, true, true, true, true, true, true, false] rfl rfl (one_of HT_.out (by kernel_rfl)) (by decide) (fun K hK => ?_)
                  refine box_step ?hg (N := 18) ?hd (cs := #[.int .i64 0, .int .i64 0, .int .i64 0]) (t := 38) ?hr ?_; (case hd => rfl); (case hg => rfl); (case hr => first | (go_simp; done) | (go_simp; rfl))
                  intro gb125 hg w100 hbox hb
                  have HS5_ := (hb.cell (World.block_lt_of_cell? _ _ (hHeld.2.2.2.2.2.1))).trans (hHeld.2.2.2.2.2.1)
                  have HS6_ := (hb.cell (World.block_lt_of_cell? _ _ (hHeld.2.2.2.2.2.2))).trans (hHeld.2.2.2.2.2.2)
                  have n0_ := Aside0.mk (rB (by (with_reducible repeat (first | apply rA | apply rN | apply rD)); exact HO_114000.out) hb)
                  have n1_ := Aside0.mk (rB (by (with_reducible repeat (first | apply rA | apply rN | apply rD)); exact HO_114001.out) hb)
                  have n2_ := Aside0.mk (rB (by (with_reducible repeat (first | apply rA | apply rN | apply rD)); exact HO_115000.out) hb)
                  have n3_ := Aside0.mk (rB (Kd.R_elderB (by (with_reducible repeat (first | apply rA | apply rN | apply rD)); exact HO_115001.out) gb125 (Nat.le_of_eq hg.symm)) hb)
                  have n4_ := Aside0.mk (bB (g := gb101) (o := .cells #[.slice A0_0 l0_0.length c0_0, .slice (some ad120) l0_1.length c0_1] 25 (0, 0)) (by (with_reducible repeat (first | refine bN ?_ _ | refine bD ?_ | refine bA ?_ _)); exact BK101.out) hb)
                  have n5_ := Aside0.mk (bB (g := gb102) (o := .cells #[.slice none 0 0, .slice none 0 0] 25 (0, 0)) (by (with_reducible repeat (first | refine bN ?_ _ | refine bD ?_ | refine bA ?_ _)); exact BK102.out) hb)
                  have n6_ := Aside0.mk (bB (g := gb103) (o := .cells #[.slice none 0 0, .slice none 0 0] 29 (0, 0)) (by (with_reducible repeat (first | refine bN ?_ _ | refine bD ?_ | refine bA ?_ _)); exact BK103.out) hb)
                  have n7_ := Aside0.mk (bB (g := gb113) (o := .cells #[.slice (some ad123) t107.length co29, .slice (some ad122) t110.length co28] 29 (0, 0)) (by (with_reducible repeat (first | refine bN ?_ _ | refine bD ?_ | refine bA ?_ _)); exact BK113.out) hb)
                  have n8_ := Aside0.mk (bB (g := gb114) (o := .cells #[u115000, u115001] 25 (0, 0)) (by (with_reducible repeat (first | refine bN ?_ _ | refine bD ?_ | refine bA ?_ _)); exact BK114.out) hb)
                  have n9_ := Aside0.mk (bB (g := gb121) (o := .cells #[.int .i64 ((rd_T38 l0_1 x81_2).f0), .int .i64 ((rd_T38 l0_1 x81_2).f1), .int .i64 ((rd_T38 l0_1 x81_2).f2)] 38 (0, 0)) (by (with_reducible repeat (first | refine bN ?_ _ | refine bD ?_ | refine bA ?_ _)); exact BK121.out) hb)
                  have n10_ := Aside0.mk (wS (by repeat (first | (with_reducible first | exact HB.out | apply wA | apply wN | apply wD | refine below_set ?_ GE101.out | refine below_set ?_ GE102.out | refine below_set ?_ GE103.out | refine below_set ?_ GE113.out | refine below_set ?_ GE114.out | refine below_set ?_ GE121.out) | exact HB.out)) hb)
                  have n11_ := Aside0.mk (hbox)
                  have n12_ := Aside0.mk ((by rw [hg]; exact (below_size (by repeat (first | (with_reducible first | exact HB.out | apply wA | apply wN | apply wD | refine below_set ?_ GE101.out | refine below_set ?_ GE102.out | refine below_set ?_ GE103.out | refine below_set ?_ GE113.out | refine below_set ?_ GE114.out | refine below_set ?_ GE121.out) | exact HB.out))) : w.heap.size ≤ gb125))
                  have n13_ := Aside0.mk ((by rw [hg]; exact (below_size (by repeat (first | (with_reducible first | exact HB.out | apply wA | apply wN | apply wD | refine below_set ?_ GE101.out | refine below_set ?_ GE102.out | refine below_set ?_ GE103.out | refine below_set ?_ GE113.out | refine below_set ?_ GE114.out | refine below_set ?_ GE121.out) | exact HB.out))) : w.heap.size ≤ gb125))
                  have n14_ := Aside0.mk ((by rw [hg]; exact Nat.ne_of_lt (blk_lt (g := gb101) (o := .cells #[.slice A0_0 l0_0.length c0_0, .slice (some ad120) l0_1.length c0_1] 25 (0, 0)) (by (with_reducible repeat (first | refine bN ?_ _ | refine bD ?_ | refine bA ?_ _)); exact BK101.out)) : gb101 ≠ gb125))
                  have n15_ := Aside0.mk ((by rw [hg]; exact Nat.ne_of_gt (blk_lt (g := gb101) (o := .cells #[.slice A0_0 l0_0.length c0_0, .slice (some ad120) l0_1.length c0_1] 25 (0, 0)) (by (with_reducible repeat (first | refine bN ?_ _ | refine bD ?_ | refine bA ?_ _)); exact BK101.out)) : gb125 ≠ gb101))
                  have n16_ := Aside0.mk ((by rw [hg]; exact Nat.ne_of_lt (blk_lt (g := gb102) (o := .cells #[.slice none 0 0, .slice none 0 0] 25 (0, 0)) (by (with_reducible repeat (first | refine bN ?_ _ | refine bD ?_ | refine bA ?_ _)); exact BK102.out)) : gb102 ≠ gb125))
                  have n17_ := Aside0.mk ((by rw [hg]; exact Nat.ne_of_gt (blk_lt (g := gb102) (o := .cells #[.slice none 0 0, .slice none 0 0] 25 (0, 0)) (by (with_reducible repeat (first | refine bN ?_ _ | refine bD ?_ | refine bA ?_ _)); exact BK102.out)) : gb125 ≠ gb102))
                  have n18_ := Aside0.mk ((by rw [hg]; exact Nat.ne_of_lt (blk_lt (g := gb103) (o := .cells #[.slice none 0 0, .slice none 0 0] 29 (0, 0)) (by (with_reducible repeat (first | refine bN ?_ _ | refine bD ?_ | refine bA ?_ _)); exact BK103.out)) : gb103 ≠ gb125))
                  have n19_ := Aside0.mk ((by rw [hg]; exact Nat.ne_of_gt (blk_lt (g := gb103) (o := .cells #[.slice none 0 0, .slice none 0 0] 29 (0, 0)) (by (with_reducible repeat (first | refine bN ?_ _ | refine bD ?_ | refine bA ?_ _)); exact BK103.out)) : gb125 ≠ gb103))
                  have n20_ := Aside0.mk ((by rw [hg]; exact Nat.ne_of_lt (blk_lt (g := gb113) (o := .cells #[.slice (some ad123) t107.length co29, .slice (some ad122) t110.length co28] 29 (0, 0)) (by (with_reducible repeat (first | refine bN ?_ _ | refine bD ?_ | refine bA ?_ _)); exact BK113.out)) : gb113 ≠ gb125))
                  have n21_ := Aside0.mk ((by rw [hg]; exact Nat.ne_of_gt (blk_lt (g := gb113) (o := .cells #[.slice (some ad123) t107.length co29, .slice (some ad122) t110.length co28] 29 (0, 0)) (by (with_reducible repeat (first | refine bN ?_ _ | refine bD ?_ | refine bA ?_ _)); exact BK113.out)) : gb125 ≠ gb113))
                  have n22_ := Aside0.mk ((by rw [hg]; exact Nat.ne_of_lt (blk_lt (g := gb114) (o := .cells #[u115000, u115001] 25 (0, 0)) (by (with_reducible repeat (first | refine bN ?_ _ | refine bD ?_ | refine bA ?_ _)); exact BK114.out)) : gb114 ≠ gb125))
                  have n23_ := Aside0.mk ((by rw [hg]; exact Nat.ne_of_gt (blk_lt (g := gb114) (o := .cells #[u115000, u115001] 25 (0, 0)) (by (with_reducible repeat (first | refine bN ?_ _ | refine bD ?_ | refine bA ?_ _)); exact BK114.out)) : gb125 ≠ gb114))
                  have n24_ := Aside0.mk ((by rw [hg]; exact Nat.ne_of_lt (blk_lt (g := gb121) (o := .cells #[.int .i64 ((rd_T38 l0_1 x81_2).f0), .int .i64 ((rd_T38 l0_1 x81_2).f1), .int .i64 ((rd_T38 l0_1 x81_2).f2)] 38 (0, 0)) (by (with_reducible repeat (first | refine bN ?_ _ | refine bD ?_ | refine bA ?_ _)); exact BK121.out)) : gb121 ≠ gb125))
                  have n25_ := Aside0.mk ((by rw [hg]; exact Nat.ne_of_gt (blk_lt (g := gb121) (o := .cells #[.int .i64 ((rd_T38 l0_1 x81_2).f0), .int .i64 ((rd_T38 l0_1 x81_2).f1), .int .i64 ((rd_T38 l0_1 x81_2).f2)] 38 (0, 0)) (by (with_reducible repeat (first | refine bN ?_ _ | refine bD ?_ | refine bA ?_ _)); exact BK121.out)) : gb125 ≠ gb121))
                  clear HO_114000
                  clear HO_114001
                  clear HO_115000
                  clear HO_115001
                  clear BK101
                  clear BK102
                  clear BK103
                  clear BK113
                  clear BK114
                  clear BK121
                  clear HB
                  have HO_114000 := n0_
                  have HO_114001 := n1_
                  have HO_115000 := n2_
                  have HO_115001 := n3_
                  have BK101 := n4_
                  have BK102 := n5_
                  have BK103 := n6_
                  have BK113 := n7_
                  have BK114 := n8_
                  have BK121 := n9_
                  have HB := n10_
                  have BK125 := n11_
                  have GW125 := n12_
                  have GE125 := n13_
                  have NB101_125 := n14_
                  have NB125_101 := n15_
                  have NB102_125 := n16_
                  have NB125_102 := n17_
                  have NB103_125 := n18_
                  have NB125_103 := n19_
                  have NB113_125 := n20_
                  have NB125_113 := n21_
                  have NB114_125 := n22_
                  have NB125_114 := n23_
                  have NB121_125 := n24_
                  have NB125_121 := n25_
                  clear n0_ n1_ n2_ n3_ n4_ n5_ n6_ n7_ n8_ n9_ n10_ n11_ n12_ n13_ n14_ n15_ n16_ n17_ n18_ n19_ n20_ n21_ n22_ n23_ n24_ n25_
                  clear hb hbox hg
                  refine hK.out _ _ ⟨(blk_cell BK121.out 0).trans rfl, (blk_cell BK121.out 1).trans rfl, (blk_cell BK121.out 2).trans rfl, (blk_cell BK113.out 0).trans rfl, (blk_cell BK113.out 1).trans rfl, HS5_, HS6_⟩ (fun hHeld => ?_)
                  clear hK K
                  refine norm_ (a' := ?_) ?_ ?_
                  rotate_left
                  ·show Act.put _ (some 18) _ = _
                   simp only [Act.put, List.setIfInBounds_toArray, List.set_cons_zero, List.set_cons_succ, i64_w, i32_w]
                   rfl
                  refine one_ (i := 16) (N := none) #[true, true, true, true, true, true, true, true, true, true, true, true, true, true, true, true, true] rfl rfl (one_of HT_.out (by kernel_rfl)) (by decide) (fun K hK => ?_)
                  have hs101 : w100.cell? ⟨gb125, 0, none⟩ = some (.int .i64 0) := (blk_cell BK125.out 0).trans rfl
                  have hfs101 := blk_frozen BK125.out 0
                  have hns101_0 := NB101_125.out
                  have hns101_1 := NB102_125.out
                  have hns101_2 := NB103_125.out
                  have hns101_3 := NB113_125.out
                  have hns101_4 := NB114_125.out
                  have hns101_5 := NB121_125.out
                  have hms101_0 := NB125_101.out
                  have hms101_1 := NB125_102.out
                  have hms101_2 := NB125_103.out
                  have hms101_3 := NB125_113.out
                  have hms101_4 := NB125_114.out
                  have hms101_5 := NB125_121.out
                  have hs102 : w100.cell? ⟨gb125, 1, none⟩ = some (.int .i64 0) := (blk_cell BK125.out 1).trans rfl
                  have hfs102 := blk_frozen BK125.out 1
                  have hns102_0 := NB101_125.out
                  have hns102_1 := NB102_125.out
                  have hns102_2 := NB103_125.out
                  have hns102_3 := NB113_125.out
                  have hns102_4 := NB114_125.out
                  have hns102_5 := NB121_125.out
                  have hms102_0 := NB125_101.out
                  have hms102_1 := NB125_102.out
                  have hms102_2 := NB125_103.out
                  have hms102_3 := NB125_113.out
                  have hms102_4 := NB125_114.out
                  have hms102_5 := NB125_121.out
                  have hs103 : w100.cell? ⟨gb125, 2, none⟩ = some (.int .i64 0) := (blk_cell BK125.out 2).trans rfl
                  have hfs103 := blk_frozen BK125.out 2
                  have hns103_0 := NB101_125.out
                  have hns103_1 := NB102_125.out
                  have hns103_2 := NB103_125.out
                  have hns103_3 := NB113_125.out
                  have hns103_4 := NB114_125.out
                  have hns103_5 := NB121_125.out
                  have hms103_0 := NB125_101.out
                  have hms103_1 := NB125_102.out
                  have hms103_2 := NB125_103.out
                  have hms103_3 := NB125_113.out
                  have hms103_4 := NB125_114.out
                  have hms103_5 := NB125_121.out
                  refine skip_ (w1 := ?_) (by rfl) rfl ?_ ?_
                  rotate_left
                  ·go_simp
                   rfl
                  refine hK.out _ _ ⟨((cell_far (p := ⟨gb125, _, none⟩) NB121_125.out _).trans (((cell_far (p := ⟨gb125, _, none⟩) NB121_125.out _).trans (((cell_far (p := ⟨gb125, _, none⟩) NB121_125.out _).trans (hHeld.1)))))), ((cell_far (p := ⟨gb125, _, none⟩) NB121_125.out _).trans (((cell_far (p := ⟨gb125, _, none⟩) NB121_125.out _).trans (((cell_far (p := ⟨gb125, _, none⟩) NB121_125.out _).trans (hHeld.2.1)))))), ((cell_far (p := ⟨gb125, _, none⟩) NB121_125.out _).trans (((cell_far (p := ⟨gb125, _, none⟩) NB121_125.out _).trans (((cell_far (p := ⟨gb125, _, none⟩) NB121_125.out _).trans (hHeld.2.2.1)))))), ((cell_far (p := ⟨gb125, _, none⟩) NB113_125.out _).trans (((cell_far (p := ⟨gb125, _, none⟩) NB113_125.out _).trans (((cell_far (p := ⟨gb125, _, none⟩) NB113_125.out _).trans (hHeld.2.2.2.1)))))), ((cell_far (p := ⟨gb125, _, none⟩) NB113_125.out _).trans (((cell_far (p := ⟨gb125, _, none⟩) NB113_125.out _).trans (((cell_far (p := ⟨gb125, _, none⟩) NB113_125.out _).trans (hHeld.2.2.2.2.1)))))), ((cell_far (p := ⟨gb125, _, none⟩) (by first | exact Kd.own_blk (Kd.R_ne HO_114000.out BK125.out (by decide)) | (rw [add_block]; exact Kd.own_blk (Kd.R_ne HO_114000.out BK125.out (by decide))) | (show (Addr.add _ _).block ≠ _; rw [add_block]; exact Kd.own_blk (Kd.R_ne HO_114000.out BK125.out (by decide))) | (dsimp only; exact Kd.own_blk (Kd.R_ne HO_114000.out BK125.out (by decide)))) _).trans (((cell_far (p := ⟨gb125, _, none⟩) (by first | exact Kd.own_blk (Kd.R_ne HO_114000.out BK125.out (by decide)) | (rw [add_block]; exact Kd.own_blk (Kd.R_ne HO_114000.out BK125.out (by decide))) | (show (Addr.add _ _).block ≠ _; rw [add_block]; exact Kd.own_blk (Kd.R_ne HO_114000.out BK125.out (by decide))) | (dsimp only; exact Kd.own_blk (Kd.R_ne HO_114000.out BK125.out (by decide)))) _).trans (((cell_far (p := ⟨gb125, _, none⟩) (by first | exact Kd.own_blk (Kd.R_ne HO_114000.out BK125.out (by decide)) | (rw [add_block]; exact Kd.own_blk (Kd.R_ne HO_114000.out BK125.out (by decide))) | (show (Addr.add _ _).block ≠ _; rw [add_block]; exact Kd.own_blk (Kd.R_ne HO_114000.out BK125.out (by decide))) | (dsimp only; exact Kd.own_blk (Kd.R_ne HO_114000.out BK125.out (by decide)))) _).trans (hHeld.2.2.2.2.2.1)))))), ((cell_far (p := ⟨gb125, _, none⟩) (by first | exact Kd.own_blk (Kd.R_ne HO_114000.out BK125.out (by decide)) | (rw [add_block]; exact Kd.own_blk (Kd.R_ne HO_114000.out BK125.out (by decide))) | (show (Addr.add _ _).block ≠ _; rw [add_block]; exact Kd.own_blk (Kd.R_ne HO_114000.out BK125.out (by decide))) | (dsimp only; exact Kd.own_blk (Kd.R_ne HO_114000.out BK125.out (by decide)))) _).trans (((cell_far (p := ⟨gb125, _, none⟩) (by first | exact Kd.own_blk (Kd.R_ne HO_114000.out BK125.out (by decide)) | (rw [add_block]; exact Kd.own_blk (Kd.R_ne HO_114000.out BK125.out (by decide))) | (show (Addr.add _ _).block ≠ _; rw [add_block]; exact Kd.own_blk (Kd.R_ne HO_114000.out BK125.out (by decide))) | (dsimp only; exact Kd.own_blk (Kd.R_ne HO_114000.out BK125.out (by decide)))) _).trans (((cell_far (p := ⟨gb125, _, none⟩) (by first | exact Kd.own_blk (Kd.R_ne HO_114000.out BK125.out (by decide)) | (rw [add_block]; exact Kd.own_blk (Kd.R_ne HO_114000.out BK125.out (by decide))) | (show (Addr.add _ _).block ≠ _; rw [add_block]; exact Kd.own_blk (Kd.R_ne HO_114000.out BK125.out (by decide))) | (dsimp only; exact Kd.own_blk (Kd.R_ne HO_114000.out BK125.out (by decide)))) _).trans (hHeld.2.2.2.2.2.2))))))⟩ (fun hHeld => ?_)
                  clear hK K
                  refine done_ (done_of HT_.out (by kernel_rfl)) ?_
                  go_upto_region 23 with (fail)
                  go_cut [114] (fun v114 wc => ∃ (kq : Nat) (x114_84 : Bool), v114 = .bool x114_84 ∧ Aside0 (graph_Remove.j2 kq l0_1 (l0_1.length : Int) x81_2 x114_84 t107 t110 x115000_1 x115001_2 ((rd_T38 l0_1 x81_2).f0) (rd t107 ((rd_T38 l0_1 x81_2).f1)) (rd t107 ((rd_T38 l0_1 x81_2).f2)) = some (r1, r2, r3, r4, r5)) ∧ Aside0 (kq ≤ k2) ∧ Aside0 (Kd.R (Kd.int .i64) 3 wc w.heap.size (fun k_ => some k_ ≠ ((.slice (some ad122) t110.length co28) : Value).ownBlock ∧ some k_ ≠ (u115000 : Value).ownBlock) (.slice (some ad123) t107.length co29) t107) ∧ Aside0 (Kd.R (Kd.int .i64) 3 wc w.heap.size (fun k_ => some k_ ≠ ((.slice (some ad123) t107.length co29) : Value).ownBlock ∧ some k_ ≠ (u115000 : Value).ownBlock) (.slice (some ad122) t110.length co28) t110) ∧ Aside0 (Kd.R (Kd.int .i64) 3 wc w.heap.size (fun k_ => some k_ ≠ ((.slice (some ad123) t107.length co29) : Value).ownBlock ∧ some k_ ≠ ((.slice (some ad122) t110.length co28) : Value).ownBlock) u115000 x115000_1) ∧ Aside0 (Kd.R k38 38 wc w.heap.size (fun k_ => k_ ≠ gb121 ∧ k_ ≠ gb125) u115001 x115001_2) ∧ Aside0 (wc.heap[gb101]? = some (.cells #[(.slice A0_0 l0_0.length c0_0), (.slice (some ad120) l0_1.length c0_1)] 25 (0, 0))) ∧ Aside0 (wc.heap[gb102]? = some (.cells #[(.slice none 0 0), (.slice none 0 0)] 25 (0, 0))) ∧ Aside0 (wc.heap[gb103]? = some (.cells #[(.slice none 0 0), (.slice none 0 0)] 29 (0, 0))) ∧ Aside0 (wc.heap[gb113]? = some (.cells #[(.slice (some ad123) t107.length co29), (.slice (some ad122) t110.length co28)] 29 (0, 0))) ∧ Aside0 (wc.heap[gb114]? = some (.cells #[u115000, u115001] 25 (0, 0))) ∧ Aside0 (wc.heap[gb121]? = some (.cells #[.int .i64 ((rd_T38 l0_1 x81_2).f0), .int .i64 ((rd_T38 l0_1 x81_2).f1), .int .i64 ((rd_T38 l0_1 x81_2).f2)] 38 (0, 0))) ∧ Aside0 (wc.heap[gb125]? = some (.cells #[.int .i64 ((rd_T38 l0_1 x81_2).f0), .int .i64 (rd t107 ((rd_T38 l0_1 x81_2).f1)), .int .i64 (rd t107 ((rd_T38 l0_1 x81_2).f2))] 38 (0, 0))) ∧ Aside0 (Below w.heap.size w wc))
                  case first =>
                   have H := HC85.out
                   clear HC85
                   by_cases c104 : (rd t107 ((rd_T38 l0_1 x81_2).f1)) < 0
                   ·rw [if_pos c104] at H
                    have c104b0 : decide ((rd t107 ((rd_T38 l0_1 x81_2).f1)) < 0) = true := decide_eq_true c104
                    clear c104
                    (first | rw [c104b0] | (simp only [i64_w, i32_w]; rw [c104b0]) | skip)
                    have H' := Aside0.mk H
                    clear H
                    have hnb105 := NB125_101.out
                    have hnc105 := NB101_125.out
                    have hnb106 := NB125_102.out
                    have hnc106 := NB102_125.out
                    have hnb107 := NB125_103.out
                    have hnc107 := NB103_125.out
                    have hnb108 := NB125_113.out
                    have hnc108 := NB113_125.out
                    have hnb109 := NB125_114.out
                    have hnc109 := NB114_125.out
                    have hnb110 := NB125_121.out
                    have hnc110 := NB121_125.out
                    have hcz111_0 : w100.cell? ⟨gb125, 0, none⟩ = some (.int .i64 0) := (blk_cell BK125.out 0).trans rfl
                    have hcz111_1 : w100.cell? ⟨gb125, 1, none⟩ = some (.int .i64 0) := (blk_cell BK125.out 1).trans rfl
                    have hcz111_2 : w100.cell? ⟨gb125, 2, none⟩ = some (.int .i64 0) := (blk_cell BK125.out 2).trans rfl
                    have hfz111_0 := blk_frozen BK125.out 0
                    have hfz111_1 := blk_frozen BK125.out 1
                    have hfz111_2 := blk_frozen BK125.out 2
                    go_wp2
                    go_meet
                    case rel => exact ⟨_, (true), rS, H', ⟨by have := HK1.out; have := HK2.out; first | omega | exact Nat.le_refl _⟩, ⟨by (with_reducible repeat (first | apply rA | apply rN | apply rD)); exact Kd.R_mono (Kd.R_far (p := ⟨gb125, 2, none⟩) (Kd.R_far (p := ⟨gb125, 1, none⟩) (Kd.R_far (p := ⟨gb125, 0, none⟩) (Kd.R_types HO_114000.out BK125.out (by decide)) (fun _ hk => hk.2) (.int .i64 ((rd_T38 l0_1 x81_2).f0))) (fun _ hk => hk.2) (.int .i64 (rd t107 ((rd_T38 l0_1 x81_2).f1)))) (fun _ hk => hk.2) (.int .i64 (rd t107 ((rd_T38 l0_1 x81_2).f2)))) (fun _ hk => ⟨hk.1.1, hk.1.2⟩)⟩, ⟨by (with_reducible repeat (first | apply rA | apply rN | apply rD)); exact Kd.R_mono (Kd.R_far (p := ⟨gb125, 2, none⟩) (Kd.R_far (p := ⟨gb125, 1, none⟩) (Kd.R_far (p := ⟨gb125, 0, none⟩) (Kd.R_types HO_114001.out BK125.out (by decide)) (fun _ hk => hk.2) (.int .i64 ((rd_T38 l0_1 x81_2).f0))) (fun _ hk => hk.2) (.int .i64 (rd t107 ((rd_T38 l0_1 x81_2).f1)))) (fun _ hk => hk.2) (.int .i64 (rd t107 ((rd_T38 l0_1 x81_2).f2)))) (fun _ hk => ⟨hk.1.1, hk.1.2⟩)⟩, ⟨by (with_reducible repeat (first | apply rA | apply rN | apply rD)); exact Kd.R_mono (Kd.R_far (p := ⟨gb125, 2, none⟩) (Kd.R_far (p := ⟨gb125, 1, none⟩) (Kd.R_far (p := ⟨gb125, 0, none⟩) (Kd.R_types HO_115000.out BK125.out (by decide)) (fun _ hk => hk.2) (.int .i64 ((rd_T38 l0_1 x81_2).f0))) (fun _ hk => hk.2) (.int .i64 (rd t107 ((rd_T38 l0_1 x81_2).f1)))) (fun _ hk => hk.2) (.int .i64 (rd t107 ((rd_T38 l0_1 x81_2).f2)))) (fun _ hk => ⟨hk.1.1, hk.1.2⟩)⟩, ⟨by (with_reducible repeat (first | apply rA | apply rN | apply rD)); exact Kd.R_mono (Kd.R_far (p := ⟨gb125, 2, none⟩) (Kd.R_far (p := ⟨gb125, 1, none⟩) (Kd.R_far (p := ⟨gb125, 0, none⟩) (Kd.R_mono HO_115001.out (fun k_ hk => (⟨hk, hk.2⟩ : _ ∧ k_ ≠ gb125))) (fun _ hk => hk.2) (.int .i64 ((rd_T38 l0_1 x81_2).f0))) (fun _ hk => hk.2) (.int .i64 (rd t107 ((rd_T38 l0_1 x81_2).f1)))) (fun _ hk => hk.2) (.int .i64 (rd t107 ((rd_T38 l0_1 x81_2).f2)))) (fun _ hk => ⟨hk.1.1, hk.1.2⟩)⟩, ⟨by (with_reducible repeat (first | refine bN ?_ _ | refine bD ?_ | refine bA ?_ _)); refine blk_far ?_ NB101_125.out _; (with_reducible repeat (first | refine bN ?_ _ | refine bD ?_ | refine bA ?_ _)); refine blk_far ?_ NB101_125.out _; (with_reducible repeat (first | refine bN ?_ _ | refine bD ?_ | refine bA ?_ _)); refine blk_far ?_ NB101_125.out _; (with_reducible repeat (first | refine bN ?_ _ | refine bD ?_ | refine bA ?_ _)); exact BK101.out⟩, ⟨by (with_reducible repeat (first | refine bN ?_ _ | refine bD ?_ | refine bA ?_ _)); refine blk_far ?_ NB102_125.out _; (with_reducible repeat (first | refine bN ?_ _ | refine bD ?_ | refine bA ?_ _)); refine blk_far ?_ NB102_125.out _; (with_reducible repeat (first | refine bN ?_ _ | refine bD ?_ | refine bA ?_ _)); refine blk_far ?_ NB102_125.out _; (with_reducible repeat (first | refine bN ?_ _ | refine bD ?_ | refine bA ?_ _)); exact BK102.out⟩, ⟨by (with_reducible repeat (first | refine bN ?_ _ | refine bD ?_ | refine bA ?_ _)); refine blk_far ?_ NB103_125.out _; (with_reducible repeat (first | refine bN ?_ _ | refine bD ?_ | refine bA ?_ _)); refine blk_far ?_ NB103_125.out _; (with_reducible repeat (first | refine bN ?_ _ | refine bD ?_ | refine bA ?_ _)); refine blk_far ?_ NB103_125.out _; (with_reducible repeat (first | refine bN ?_ _ | refine bD ?_ | refine bA ?_ _)); exact BK103.out⟩, ⟨by (with_reducible repeat (first | refine bN ?_ _ | refine bD ?_ | refine bA ?_ _)); refine blk_far ?_ NB113_125.out _; (with_reducible repeat (first | refine bN ?_ _ | refine bD ?_ | refine bA ?_ _)); refine blk_far ?_ NB113_125.out _; (with_reducible repeat (first | refine bN ?_ _ | refine bD ?_ | refine bA ?_ _)); refine blk_far ?_ NB113_125.out _; (with_reducible repeat (first | refine bN ?_ _ | refine bD ?_ | refine bA ?_ _)); exact BK113.out⟩, ⟨by (with_reducible repeat (first | refine bN ?_ _ | refine bD ?_ | refine bA ?_ _)); refine blk_far ?_ NB114_125.out _; (with_reducible repeat (first | refine bN ?_ _ | refine bD ?_ | refine bA ?_ _)); refine blk_far ?_ NB114_125.out _; (with_reducible repeat (first | refine bN ?_ _ | refine bD ?_ | refine bA ?_ _)); refine blk_far ?_ NB114_125.out _; (with_reducible repeat (first | refine bN ?_ _ | refine bD ?_ | refine bA ?_ _)); exact BK114.out⟩, ⟨by (with_reducible repeat (first | refine bN ?_ _ | refine bD ?_ | refine bA ?_ _)); refine blk_far ?_ NB121_125.out _; (with_reducible repeat (first | refine bN ?_ _ | refine bD ?_ | refine bA ?_ _)); refine blk_far ?_ NB121_125.out _; (with_reducible repeat (first | refine bN ?_ _ | refine bD ?_ | refine bA ?_ _)); refine blk_far ?_ NB121_125.out _; (with_reducible repeat (first | refine bN ?_ _ | refine bD ?_ | refine bA ?_ _)); exact BK121.out⟩, ⟨by (with_reducible repeat (first | refine bN ?_ _ | refine bD ?_ | refine bA ?_ _)); refine blk_put (cs := #[.int .i64 ((rd_T38 l0_1 x81_2).f0), .int .i64 (rd t107 ((rd_T38 l0_1 x81_2).f1)), .int .i64 0]) ?_ 2 _ rfl; (with_reducible repeat (first | refine bN ?_ _ | refine bD ?_ | refine bA ?_ _)); refine blk_put (cs := #[.int .i64 ((rd_T38 l0_1 x81_2).f0), .int .i64 0, .int .i64 0]) ?_ 1 _ rfl; (with_reducible repeat (first | refine bN ?_ _ | refine bD ?_ | refine bA ?_ _)); refine blk_put (cs := #[.int .i64 0, .int .i64 0, .int .i64 0]) ?_ 0 _ rfl; (with_reducible repeat (first | refine bN ?_ _ | refine bD ?_ | refine bA ?_ _)); exact BK125.out⟩, ⟨by repeat (first | (with_reducible first | exact HB.out | apply wA | apply wN | apply wD | refine below_set ?_ GE101.out | refine below_set ?_ GE102.out | refine below_set ?_ GE103.out | refine below_set ?_ GE113.out | refine below_set ?_ GE114.out | refine below_set ?_ GE121.out | refine below_set ?_ GE125.out) | exact HB.out)⟩⟩
                   ·rw [if_neg c104] at H
                    have c104b0 : decide ((rd t107 ((rd_T38 l0_1 x81_2).f1)) < 0) = false := decide_eq_false c104
                    clear c104
                    (first | rw [c104b0] | (simp only [i64_w, i32_w]; rw [c104b0]) | skip)
                    have H' := Aside0.mk H
                    clear H
                    have hnb112 := NB125_101.out
                    have hnc112 := NB101_125.out
                    have hnb113 := NB125_102.out
                    have hnc113 := NB102_125.out
                    have hnb114 := NB125_103.out
                    have hnc114 := NB103_125.out
                    have hnb115 := NB125_113.out
                    have hnc115 := NB113_125.out
                    have hnb116 := NB125_114.out
                    have hnc116 := NB114_125.out
                    have hnb117 := NB125_121.out
                    have hnc117 := NB121_125.out
                    have hcz118_0 : w100.cell? ⟨gb125, 0, none⟩ = some (.int .i64 0) := (blk_cell BK125.out 0).trans rfl
                    have hcz118_1 : w100.cell? ⟨gb125, 1, none⟩ = some (.int .i64 0) := (blk_cell BK125.out 1).trans rfl
                    have hcz118_2 : w100.cell? ⟨gb125, 2, none⟩ = some (.int .i64 0) := (blk_cell BK125.out 2).trans rfl
                    have hfz118_0 := blk_frozen BK125.out 0
                    have hfz118_1 := blk_frozen BK125.out 1
                    have hfz118_2 := blk_frozen BK125.out 2
                    go_wp2
                    go_meet
                    case rel => exact ⟨_, (decide ((rd t107 ((rd_T38 l0_1 x81_2).f2)) < 0)), rS, H', ⟨by have := HK1.out; have := HK2.out; first | omega | exact Nat.le_refl _⟩, ⟨by (with_reducible repeat (first | apply rA | apply rN | apply rD)); exact Kd.R_mono (Kd.R_far (p := ⟨gb125, 2, none⟩) (Kd.R_far (p := ⟨gb125, 1, none⟩) (Kd.R_far (p := ⟨gb125, 0, none⟩) (Kd.R_types HO_114000.out BK125.out (by decide)) (fun _ hk => hk.2) (.int .i64 ((rd_T38 l0_1 x81_2).f0))) (fun _ hk => hk.2) (.int .i64 (rd t107 ((rd_T38 l0_1 x81_2).f1)))) (fun _ hk => hk.2) (.int .i64 (rd t107 ((rd_T38 l0_1 x81_2).f2)))) (fun _ hk => ⟨hk.1.1, hk.1.2⟩)⟩, ⟨by (with_reducible repeat (first | apply rA | apply rN | apply rD)); exact Kd.R_mono (Kd.R_far (p := ⟨gb125, 2, none⟩) (Kd.R_far (p := ⟨gb125, 1, none⟩) (Kd.R_far (p := ⟨gb125, 0, none⟩) (Kd.R_types HO_114001.out BK125.out (by decide)) (fun _ hk => hk.2) (.int .i64 ((rd_T38 l0_1 x81_2).f0))) (fun _ hk => hk.2) (.int .i64 (rd t107 ((rd_T38 l0_1 x81_2).f1)))) (fun _ hk => hk.2) (.int .i64 (rd t107 ((rd_T38 l0_1 x81_2).f2)))) (fun _ hk => ⟨hk.1.1, hk.1.2⟩)⟩, ⟨by (with_reducible repeat (first | apply rA | apply rN | apply rD)); exact Kd.R_mono (Kd.R_far (p := ⟨gb125, 2, none⟩) (Kd.R_far (p := ⟨gb125, 1, none⟩) (Kd.R_far (p := ⟨gb125, 0, none⟩) (Kd.R_types HO_115000.out BK125.out (by decide)) (fun _ hk => hk.2) (.int .i64 ((rd_T38 l0_1 x81_2).f0))) (fun _ hk => hk.2) (.int .i64 (rd t107 ((rd_T38 l0_1 x81_2).f1)))) (fun _ hk => hk.2) (.int .i64 (rd t107 ((rd_T38 l0_1 x81_2).f2)))) (fun _ hk => ⟨hk.1.1, hk.1.2⟩)⟩, ⟨by (with_reducible repeat (first | apply rA | apply rN | apply rD)); exact Kd.R_mono (Kd.R_far (p := ⟨gb125, 2, none⟩) (Kd.R_far (p := ⟨gb125, 1, none⟩) (Kd.R_far (p := ⟨gb125, 0, none⟩) (Kd.R_mono HO_115001.out (fun k_ hk => (⟨hk, hk.2⟩ : _ ∧ k_ ≠ gb125))) (fun _ hk => hk.2) (.int .i64 ((rd_T38 l0_1 x81_2).f0))) (fun _ hk => hk.2) (.int .i64 (rd t107 ((rd_T38 l0_1 x81_2).f1)))) (fun _ hk => hk.2) (.int .i64 (rd t107 ((rd_T38 l0_1 x81_2).f2)))) (fun _ hk => ⟨hk.1.1, hk.1.2⟩)⟩, ⟨by (with_reducible repeat (first | refine bN ?_ _ | refine bD ?_ | refine bA ?_ _)); refine blk_far ?_ NB101_125.out _; (with_reducible repeat (first | refine bN ?_ _ | refine bD ?_ | refine bA ?_ _)); refine blk_far ?_ NB101_125.out _; (with_reducible repeat (first | refine bN ?_ _ | refine bD ?_ | refine bA ?_ _)); refine blk_far ?_ NB101_125.out _; (with_reducible repeat (first | refine bN ?_ _ | refine bD ?_ | refine bA ?_ _)); exact BK101.out⟩, ⟨by (with_reducible repeat (first | refine bN ?_ _ | refine bD ?_ | refine bA ?_ _)); refine blk_far ?_ NB102_125.out _; (with_reducible repeat (first | refine bN ?_ _ | refine bD ?_ | refine bA ?_ _)); refine blk_far ?_ NB102_125.out _; (with_reducible repeat (first | refine bN ?_ _ | refine bD ?_ | refine bA ?_ _)); refine blk_far ?_ NB102_125.out _; (with_reducible repeat (first | refine bN ?_ _ | refine bD ?_ | refine bA ?_ _)); exact BK102.out⟩, ⟨by (with_reducible repeat (first | refine bN ?_ _ | refine bD ?_ | refine bA ?_ _)); refine blk_far ?_ NB103_125.out _; (with_reducible repeat (first | refine bN ?_ _ | refine bD ?_ | refine bA ?_ _)); refine blk_far ?_ NB103_125.out _; (with_reducible repeat (first | refine bN ?_ _ | refine bD ?_ | refine bA ?_ _)); refine blk_far ?_ NB103_125.out _; (with_reducible repeat (first | refine bN ?_ _ | refine bD ?_ | refine bA ?_ _)); exact BK103.out⟩, ⟨by (with_reducible repeat (first | refine bN ?_ _ | refine bD ?_ | refine bA ?_ _)); refine blk_far ?_ NB113_125.out _; (with_reducible repeat (first | refine bN ?_ _ | refine bD ?_ | refine bA ?_ _)); refine blk_far ?_ NB113_125.out _; (with_reducible repeat (first | refine bN ?_ _ | refine bD ?_ | refine bA ?_ _)); refine blk_far ?_ NB113_125.out _; (with_reducible repeat (first | refine bN ?_ _ | refine bD ?_ | refine bA ?_ _)); exact BK113.out⟩, ⟨by (with_reducible repeat (first | refine bN ?_ _ | refine bD ?_ | refine bA ?_ _)); refine blk_far ?_ NB114_125.out _; (with_reducible repeat (first | refine bN ?_ _ | refine bD ?_ | refine bA ?_ _)); refine blk_far ?_ NB114_125.out _; (with_reducible repeat (first | refine bN ?_ _ | refine bD ?_ | refine bA ?_ _)); refine blk_far ?_ NB114_125.out _; (with_reducible repeat (first | refine bN ?_ _ | refine bD ?_ | refine bA ?_ _)); exact BK114.out⟩, ⟨by (with_reducible repeat (first | refine bN ?_ _ | refine bD ?_ | refine bA ?_ _)); refine blk_far ?_ NB121_125.out _; (with_reducible repeat (first | refine bN ?_ _ | refine bD ?_ | refine bA ?_ _)); refine blk_far ?_ NB121_125.out _; (with_reducible repeat (first | refine bN ?_ _ | refine bD ?_ | refine bA ?_ _)); refine blk_far ?_ NB121_125.out _; (with_reducible repeat (first | refine bN ?_ _ | refine bD ?_ | refine bA ?_ _)); exact BK121.out⟩, ⟨by (with_reducible repeat (first | refine bN ?_ _ | refine bD ?_ | refine bA ?_ _)); refine blk_put (cs := #[.int .i64 ((rd_T38 l0_1 x81_2).f0), .int .i64 (rd t107 ((rd_T38 l0_1 x81_2).f1)), .int .i64 0]) ?_ 2 _ rfl; (with_reducible repeat (first | refine bN ?_ _ | refine bD ?_ | refine bA ?_ _)); refine blk_put (cs := #[.int .i64 ((rd_T38 l0_1 x81_2).f0), .int .i64 0, .int .i64 0]) ?_ 1 _ rfl; (with_reducible repeat (first | refine bN ?_ _ | refine bD ?_ | refine bA ?_ _)); refine blk_put (cs := #[.int .i64 0, .int .i64 0, .int .i64 0]) ?_ 0 _ rfl; (with_reducible repeat (first | refine bN ?_ _ | refine bD ?_ | refine bA ?_ _)); exact BK125.out⟩, ⟨by repeat (first | (with_reducible first | exact HB.out | apply wA | apply wN | apply wD | refine below_set ?_ GE101.out | refine below_set ?_ GE102.out | refine below_set ?_ GE103.out | refine below_set ?_ GE113.out | refine below_set ?_ GE114.out | refine below_set ?_ GE121.out | refine below_set ?_ GE125.out) | exact HB.out)⟩⟩
                  case rest =>
                   clear HC85
                   try clear c1
                   try clear p1
                   try clear q1
                   try clear hx1
                   try clear c2
                   try clear p2
                   try clear c3
                   try clear c4
                   try clear c5
                   try clear c5b0
                   try clear c5b1
                   try clear c6
                   try clear p6
                   try clear c7
                   try clear c7b0
                   try clear c7b1
                   try clear c8
                   try clear c9
                   try clear c9b0
                   try clear c9b1
                   try clear c10
                   try clear c11
                   try clear c12
                   try clear p12
                   try clear q12
                   try clear hx12
                   try clear c15
                   try clear c16
                   try clear c26
                   try clear c33
                   try clear c34
                   try clear c36
                   try clear c36b0
                   try clear c37
                   try clear c37b0
                   try clear c38
                   try clear c38b0
                   try clear c39
                   try clear c39b0
                   try clear c40
                   try clear c40b0
                   try clear c41
                   try clear c42
                   try clear c43
                   try clear c44
                   try clear c45
                   try clear c47
                   try clear c48
                   try clear c49
                   try clear c54
                   try clear c55
                   try clear c56
                   try clear c57
                   try clear c59
                   try clear c60
                   try clear c61
                   try clear c62
                   try clear c64
                   try clear c64b0
                   try clear p64
                   try clear c65
                   try clear c65b0
                   try clear c66
                   try clear c66b0
                   try clear c67
                   try clear c67b0
                   try clear c68
                   try clear c68b0
                   try clear c70
                   try clear c71
                   try clear c72
                   try clear c73
                   try clear c74
                   try clear c76
                   try clear c77
                   try clear c78
                   try clear c79
                   try clear c81
                   try clear c81b0
                   try clear c82
                   try clear c82b0
                   try clear c83
                   try clear c83b0
                   try clear c84
                   try clear c84b0
                   try clear c87
                   try clear c88
                   try clear c89
                   try clear c90
                   try clear c91
                   try clear c93
                   try clear c94
                   try clear c95
                   try clear c96
                   try clear c104
                   try clear c104b0
                   try clear c105
                   try clear c106
                   try clear c107
                   try clear c108
                   try clear c109
                   try clear c110
                   try clear c112
                   try clear c113
                   try clear c114
                   try clear c115
                   try clear c116
                   try clear c117
                   try clear hcz111_0
                   try clear hcz111_1
                   try clear hcz111_2
                   try clear hcz118_0
                   try clear hcz118_1
                   try clear hcz118_2
                   try clear hcz17_0
                   try clear hcz17_1
                   try clear hcz19_0
                   try clear hcz19_1
                   try clear hcz20_0
                   try clear hcz20_1
                   try clear hcz35_0
                   try clear hcz35_1
                   try clear hcz46_0
                   try clear hcz46_1
                   try clear hcz50_0
                   try clear hcz50_1
                   try clear hcz53_0
                   try clear hcz53_1
                   try clear hcz58_0
                   try clear hcz58_1
                   try clear hcz63_0
                   try clear hcz63_1
                   try clear hcz75_0
                   try clear hcz75_1
                   try clear hcz75_2
                   try clear hcz80_0
                   try clear hcz80_1
                   try clear hcz92_0
                   try clear hcz92_1
                   try clear hcz92_2
                   try clear hcz97_0
                   try clear hcz97_1
                   try clear hfz111_0
                   try clear hfz111_1
                   try clear hfz111_2
                   try clear hfz118_0
                   try clear hfz118_1
                   try clear hfz118_2
                   try clear hfz17_0
                   try clear hfz17_1
                   try clear hfz19_0
                   try clear hfz19_1
                   try clear hfz20_0
                   try clear hfz20_1
                   try clear hfz35_0
                   try clear hfz35_1
                   try clear hfz46_0
                   try clear hfz46_1
                   try clear hfz50_0
                   try clear hfz50_1
                   try clear hfz53_0
                   try clear hfz53_1
                   try clear hfz58_0
                   try clear hfz58_1
                   try clear hfz63_0
                   try clear hfz63_1
                   try clear hfz75_0
                   try clear hfz75_1
                   try clear hfz75_2
                   try clear hfz80_0
                   try clear hfz80_1
                   try clear hfz92_0
                   try clear hfz92_1
                   try clear hfz92_2
                   try clear hfz97_0
                   try clear hfz97_1
                   try clear hx115_0
                   try clear hx116_0
                   try clear hx120_0
                   try clear hx120_1
                   try clear hx120_2
                   try clear hx122_0
                   try clear hx123_0
                   try clear hx124_0
                   try clear p1
                   try clear p12
                   try clear p115
                   try clear p116
                   try clear p120
                   try clear p122
                   try clear p123
                   try clear p124
                   try clear p2
                   try clear p6
                   try clear q1
                   try clear q12
                   try clear q115
                   try clear q116
                   try clear q120
                   try clear q122
                   try clear q123
                   try clear q124
                   obtain ⟨kq, x114_84, rfl, HA, HJ84, HO_114000, HO_114001, HO_115000, HO_115001, BK101, BK102, BK103, BK113, BK114, BK121, BK125, HB⟩ := hcut
                   cases kq with
                   | zero => exact absurd HA.out (by simp [graph_Remove.j2])
                   | succ kj84 =>
                    have H := HA.out
                    clear HA
                    simp only [graph_Remove.j2] at H
                    by_cases c119 : x114_84 = true
                    ·subst c119
                     have H1 : (some (([] : List Int), ([] : List (S38)), ([] : List Int), ([] : List Int), 14)) = some (r1, r2, r3, r4, r5) := by rw [if_pos rfl] at H; exact H
                     clear H
                     have H := H1
                     clear H1
                     simp only [Option.some.injEq, Prod.mk.injEq] at H
                     obtain ⟨rfl, rfl, rfl, rfl, rfl⟩ := H
                     have hnb120 := NB102_101.out
                     have hnc120 := NB101_102.out
                     have hnb121 := NB102_103.out
                     have hnc121 := NB103_102.out
                     have hnb122 := NB102_113.out
                     have hnc122 := NB113_102.out
                     have hnb123 := NB102_114.out
                     have hnc123 := NB114_102.out
                     have hnb124 := NB102_121.out
                     have hnc124 := NB121_102.out
                     have hnb125 := NB102_125.out
                     have hnc125 := NB125_102.out
                     have hcz126_0 : wc.cell? ⟨gb102, 0, none⟩ = some (.slice none 0 0) := (blk_cell BK102.out 0).trans rfl
                     have hcz126_1 : wc.cell? ⟨gb102, 1, none⟩ = some (.slice none 0 0) := (blk_cell BK102.out 1).trans rfl
                     have hfz126_0 := blk_frozen BK102.out 0
                     have hfz126_1 := blk_frozen BK102.out 1
                     have hnb127 := NB103_101.out
                     have hnc127 := NB101_103.out
                     have hnb128 := NB103_113.out
                     have hnc128 := NB113_103.out
                     have hnb129 := NB103_114.out
                     have hnc129 := NB114_103.out
                     have hnb130 := NB103_121.out
                     have hnc130 := NB121_103.out
                     have hnb131 := NB103_125.out
                     have hnc131 := NB125_103.out
                     have hcz132_0 : wc.cell? ⟨gb103, 0, none⟩ = some (.slice none 0 0) := (blk_cell BK103.out 0).trans rfl
                     have hcz132_1 : wc.cell? ⟨gb103, 1, none⟩ = some (.slice none 0 0) := (blk_cell BK103.out 1).trans rfl
                     have hfz132_0 := blk_frozen BK103.out 0
                     have hfz132_1 := blk_frozen BK103.out 1
                     go_wp2
                     refine bodyPost_ret (results_list (rs := [.cell 6 25, .cell 7 29, .tmp 8]) rfl (by simp) (.cell gb102 25 #[.slice none 0 0, .slice none 0 0] (0, 0) _ rfl (by (with_reducible repeat (first | refine bN ?_ _ | refine bD ?_ | refine bA ?_ _)); refine blk_far ?_ NB102_103.out _; (with_reducible repeat (first | refine bN ?_ _ | refine bD ?_ | refine bA ?_ _)); refine blk_far ?_ NB102_103.out _; (with_reducible repeat (first | refine bN ?_ _ | refine bD ?_ | refine bA ?_ _)); refine blk_put (cs := #[.slice none 0 0, .slice none 0 0]) ?_ 1 _ rfl; (with_reducible repeat (first | refine bN ?_ _ | refine bD ?_ | refine bA ?_ _)); refine blk_put (cs := #[.slice none 0 0, .slice none 0 0]) ?_ 0 _ rfl; (with_reducible repeat (first | refine bN ?_ _ | refine bD ?_ | refine bA ?_ _)); exact BK102.out) Try.underlying25 rfl (by kernel_rfl) (.cell gb103 29 #[.slice none 0 0, .slice none 0 0] (0, 0) _ rfl (by (with_reducible repeat (first | refine bN ?_ _ | refine bD ?_ | refine bA ?_ _)); refine blk_put (cs := #[.slice none 0 0, .slice none 0 0]) ?_ 1 _ rfl; (with_reducible repeat (first | refine bN ?_ _ | refine bD ?_ | refine bA ?_ _)); refine blk_put (cs := #[.slice none 0 0, .slice none 0 0]) ?_ 0 _ rfl; (with_reducible repeat (first | refine bN ?_ _ | refine bD ?_ | refine bA ?_ _)); refine blk_far ?_ NB103_102.out _; (with_reducible repeat (first | refine bN ?_ _ | refine bD ?_ | refine bA ?_ _)); refine blk_far ?_ NB103_102.out _; (with_reducible repeat (first | refine bN ?_ _ | refine bD ?_ | refine bA ?_ _)); exact BK103.out) Try.underlying29 rfl (by kernel_rfl) (.tmp .nil)))) rfl ?_
                     exact ⟨_, _, _, _, by first | rfl | (simp [errW_none, errW_some] <;> rfl) | (simp [*, errW_none, errW_some] <;> rfl), by first | exact Kd.R_nil _ _ _ _ _ | exact Kd.N_nil _ _ _ _ _ | exact Kd.V_nil _ _ _ _ _ | exact Kd.Q_nil _ _ _ _ _ | exact Kd.S_nil _ _ _ _ _, by first | exact Kd.R_nil _ _ _ _ _ | exact Kd.N_nil _ _ _ _ _ | exact Kd.V_nil _ _ _ _ _ | exact Kd.Q_nil _ _ _ _ _ | exact Kd.S_nil _ _ _ _ _, by first | exact Kd.R_nil _ _ _ _ _ | exact Kd.N_nil _ _ _ _ _ | exact Kd.V_nil _ _ _ _ _ | exact Kd.Q_nil _ _ _ _ _ | exact Kd.S_nil _ _ _ _ _, by first | exact Kd.R_nil _ _ _ _ _ | exact Kd.N_nil _ _ _ _ _ | exact Kd.V_nil _ _ _ _ _ | exact Kd.Q_nil _ _ _ _ _ | exact Kd.S_nil _ _ _ _ _, by repeat (first | (with_reducible first | exact HB.out | apply wA | apply wN | apply wD | refine below_set ?_ GE101.out | refine below_set ?_ GE102.out | refine below_set ?_ GE103.out | refine below_set ?_ GE113.out | refine below_set ?_ GE114.out | refine below_set ?_ GE121.out | refine below_set ?_ GE125.out) | exact HB.out)⟩
                    ·replace c119 := Bool.eq_false_iff.mpr c119
                     subst c119
                     have H1 : (if x115001_2.length < 5864062014805 then (graph_Remove.l1 kj84 l0_1 (l0_1.length : Int) (wrap64 (x81_2 + 1)) t107 t110 x115000_1 (x115001_2 ++ [(⟨((rd_T38 l0_1 x81_2).f0), (rd t107 ((rd_T38 l0_1 x81_2).f1)), (rd t107 ((rd_T38 l0_1 x81_2).f2))⟩ : S38)])) else (none)) = some (r1, r2, r3, r4, r5) := by rw [if_neg (show ¬ (false = true) by decide)] at H; exact H
                     clear H
                     have H := H1
                     clear H1
                     by_cases c133 : x115001_2.length < 5864062014805
                     ·rw [if_pos c133] at H
                      have LMc133 := Aside0.mk c133
                      clear c133
                      obtain ⟨y126, hy126⟩ : ∃ y_ : List (S38), y_ = (x115001_2 ++ [(⟨((rd_T38 l0_1 x81_2).f0), (rd t107 ((rd_T38 l0_1 x81_2).f1)), (rd t107 ((rd_T38 l0_1 x81_2).f2))⟩ : S38)]) := ⟨_, rfl⟩
                      replace H : (graph_Remove.l1 kj84 l0_1 (l0_1.length : Int) (wrap64 (x81_2 + 1)) t107 t110 x115000_1 y126) = some (r1, r2, r3, r4, r5) := by first | (rw [hy126]; with_reducible exact H) | (have H2_ := (Option.bind_some _ _).symm.trans H; rw [hy126]; with_reducible exact H2_) | (have H2_ := (Option.bind_some _ _).symm.trans H; with_reducible exact H2_) | with_reducible exact H | (rw [hy126]; exact H) | exact H
                      have Ny126 := Aside0.mk hy126
                      clear hy126
                      have H' := Aside0.mk H
                      clear H
                      have hnb134 := NB114_101.out
                      have hnc134 := NB101_114.out
                      have hnb135 := NB114_102.out
                      have hnc135 := NB102_114.out
                      have hnb136 := NB114_103.out
                      have hnc136 := NB103_114.out
                      have hnb137 := NB114_113.out
                      have hnc137 := NB113_114.out
                      have hnb138 := NB114_121.out
                      have hnc138 := NB121_114.out
                      have hnb139 := NB114_125.out
                      have hnc139 := NB125_114.out
                      have hcz140_0 : wc.cell? ⟨gb114, 0, none⟩ = some (u115000) := (blk_cell BK114.out 0).trans rfl
                      have hcz140_1 : wc.cell? ⟨gb114, 1, none⟩ = some (u115001) := (blk_cell BK114.out 1).trans rfl
                      have hfz140_0 := blk_frozen BK114.out 0
                      have hfz140_1 := blk_frozen BK114.out 1
                      have hnb141 := NB125_101.out
                      have hnc141 := NB101_125.out
                      have hnb142 := NB125_102.out
                      have hnc142 := NB102_125.out
                      have hnb143 := NB125_103.out
                      have hnc143 := NB103_125.out
                      have hnb144 := NB125_113.out
                      have hnc144 := NB113_125.out
                      have hnb145 := NB125_121.out
                      have hnc145 := NB121_125.out
                      have hcz146_0 : wc.cell? ⟨gb125, 0, none⟩ = some (.int .i64 ((rd_T38 l0_1 x81_2).f0)) := (blk_cell BK125.out 0).trans rfl
                      have hcz146_1 : wc.cell? ⟨gb125, 1, none⟩ = some (.int .i64 (rd t107 ((rd_T38 l0_1 x81_2).f1))) := (blk_cell BK125.out 1).trans rfl
                      have hcz146_2 : wc.cell? ⟨gb125, 2, none⟩ = some (.int .i64 (rd t107 ((rd_T38 l0_1 x81_2).f2))) := (blk_cell BK125.out 2).trans rfl
                      have hfz146_0 := blk_frozen BK125.out 0
                      have hfz146_1 := blk_frozen BK125.out 1
                      have hfz146_2 := blk_frozen BK125.out 2
                      go_wp2_with (first | ((with_reducible refine gate_builtin (b := .append) (xs := #[.tmp 118, .tmp 120]) rfl ?_); at_builtin; refine Kd.R_append k38 (w0 := w) w.heap.size rfl (.tmp 118) (.tmp 120) 23 38 (.agg #[(.int .i64 0), (.int .i64 0), (.int .i64 0)]) 24 rfl Try.underlying23 info38 rfl (by decide) (by omega) u115001 x115001_2 (⟨((rd_T38 l0_1 x81_2).f0), (rd t107 ((rd_T38 l0_1 x81_2).f1)), (rd t107 ((rd_T38 l0_1 x81_2).f2))⟩ : S38) [.int .i64 ((rd_T38 l0_1 x81_2).f0), .int .i64 (rd t107 ((rd_T38 l0_1 x81_2).f1)), .int .i64 (rd t107 ((rd_T38 l0_1 x81_2).f2))] (fun k_ => k_ ≠ gb121 ∧ k_ ≠ gb125) (fun _ => False) rfl rfl ?aP (fun _ hk => hk.elim) ?aF ?aO ?aB ?aS ?aL ?_; (case aP => exact k38_mkM _ _ _ (⟨((rd_T38 l0_1 x81_2).f0), (rd t107 ((rd_T38 l0_1 x81_2).f1)), (rd t107 ((rd_T38 l0_1 x81_2).f2))⟩ : S38)); (case aB => exact (by repeat (first | (with_reducible first | exact HB.out | apply wA | apply wN | apply wD | refine below_set ?_ GE101.out | refine below_set ?_ GE102.out | refine below_set ?_ GE103.out | refine below_set ?_ GE113.out | refine below_set ?_ GE114.out | refine below_set ?_ GE121.out | refine below_set ?_ GE125.out) | exact HB.out))); (case aF => exact (fun k_ hk => ⟨Kd.freshB (g := gb121) (o := .cells #[.int .i64 ((rd_T38 l0_1 x81_2).f0), .int .i64 ((rd_T38 l0_1 x81_2).f1), .int .i64 ((rd_T38 l0_1 x81_2).f2)] 38 (0, 0)) (by (with_reducible repeat (first | refine bN ?_ _ | refine bD ?_ | refine bA ?_ _)); exact BK121.out) k_ hk, Kd.freshB (g := gb125) (o := .cells #[.int .i64 ((rd_T38 l0_1 x81_2).f0), .int .i64 (rd t107 ((rd_T38 l0_1 x81_2).f1)), .int .i64 (rd t107 ((rd_T38 l0_1 x81_2).f2))] 38 (0, 0)) (by (with_reducible repeat (first | refine bN ?_ _ | refine bD ?_ | refine bA ?_ _)); exact BK125.out) k_ hk⟩)); (case aO => exact (by (with_reducible repeat (first | apply rA | apply rN | apply rD)); exact HO_115001.out)); (case aS => exact (below_size (by repeat (first | (with_reducible first | exact HB.out | apply wA | apply wN | apply wD | refine below_set ?_ GE101.out | refine below_set ?_ GE102.out | refine below_set ?_ GE103.out | refine below_set ?_ GE113.out | refine below_set ?_ GE114.out | refine below_set ?_ GE121.out | refine below_set ?_ GE125.out) | exact HB.out)))); (case aL => have := LMc133.out; omega); intro v127 w147 ho hb hg hat; rw [← Ny126.out] at ho; have n0_ := Aside0.mk (Kd.R_over' (by (with_reducible repeat (first | apply rA | apply rN | apply rD)); exact HO_114000.out) (Kd.R_typed (by (with_reducible repeat (first | apply rA | apply rN | apply rD)); exact HO_115001.out)) (by decide) hg); have n1_ := Aside0.mk (Kd.R_over' (by (with_reducible repeat (first | apply rA | apply rN | apply rD)); exact HO_114001.out) (Kd.R_typed (by (with_reducible repeat (first | apply rA | apply rN | apply rD)); exact HO_115001.out)) (by decide) hg); have n2_ := Aside0.mk (Kd.R_over' (by (with_reducible repeat (first | apply rA | apply rN | apply rD)); exact HO_115000.out) (Kd.R_typed (by (with_reducible repeat (first | apply rA | apply rN | apply rD)); exact HO_115001.out)) (by decide) hg); have n3_ := Aside0.mk (bG (g := gb101) (o := .cells #[.slice A0_0 l0_0.length c0_0, .slice (some ad120) l0_1.length c0_1] 25 (0, 0)) (by (with_reducible repeat (first | refine bN ?_ _ | refine bD ?_ | refine bA ?_ _)); exact BK101.out) hg (Kd.R_ne HO_115001.out BK101.out (by decide))); have n4_ := Aside0.mk (bG (g := gb102) (o := .cells #[.slice none 0 0, .slice none 0 0] 25 (0, 0)) (by (with_reducible repeat (first | refine bN ?_ _ | refine bD ?_ | refine bA ?_ _)); exact BK102.out) hg (Kd.R_ne HO_115001.out BK102.out (by decide))); have n5_ := Aside0.mk (bG (g := gb103) (o := .cells #[.slice none 0 0, .slice none 0 0] 29 (0, 0)) (by (with_reducible repeat (first | refine bN ?_ _ | refine bD ?_ | refine bA ?_ _)); exact BK103.out) hg (Kd.R_ne HO_115001.out BK103.out (by decide))); have n6_ := Aside0.mk (bG (g := gb113) (o := .cells #[.slice (some ad123) t107.length co29, .slice (some ad122) t110.length co28] 29 (0, 0)) (by (with_reducible repeat (first | refine bN ?_ _ | refine bD ?_ | refine bA ?_ _)); exact BK113.out) hg (Kd.R_ne HO_115001.out BK113.out (by decide))); have n7_ := Aside0.mk (bG (g := gb114) (o := .cells #[u115000, u115001] 25 (0, 0)) (by (with_reducible repeat (first | refine bN ?_ _ | refine bD ?_ | refine bA ?_ _)); exact BK114.out) hg (Kd.R_ne HO_115001.out BK114.out (by decide))); have n8_ := Aside0.mk (bG (g := gb121) (o := .cells #[.int .i64 ((rd_T38 l0_1 x81_2).f0), .int .i64 ((rd_T38 l0_1 x81_2).f1), .int .i64 ((rd_T38 l0_1 x81_2).f2)] 38 (0, 0)) (by (with_reducible repeat (first | refine bN ?_ _ | refine bD ?_ | refine bA ?_ _)); exact BK121.out) hg (Kd.R_away HO_115001.out (fun _ hk => hk.1))); have n9_ := Aside0.mk (bG (g := gb125) (o := .cells #[.int .i64 ((rd_T38 l0_1 x81_2).f0), .int .i64 (rd t107 ((rd_T38 l0_1 x81_2).f1)), .int .i64 (rd t107 ((rd_T38 l0_1 x81_2).f2))] 38 (0, 0)) (by (with_reducible repeat (first | refine bN ?_ _ | refine bD ?_ | refine bA ?_ _)); exact BK125.out) hg (Kd.R_away HO_115001.out (fun _ hk => hk.2))); have n10_ := Aside0.mk (hb); have n11_ := Aside0.mk (ho); clear HO_114000; clear HO_114001; clear HO_115000; clear BK101; clear BK102; clear BK103; clear BK113; clear BK114; clear BK121; clear BK125; clear HB; clear HO_115001; have HO_114000 := n0_; have HO_114001 := n1_; have HO_115000 := n2_; have BK101 := n3_; have BK102 := n4_; have BK103 := n5_; have BK113 := n6_; have BK114 := n7_; have BK121 := n8_; have BK125 := n9_; have HB := n10_; have HO128 := n11_; clear n0_ n1_ n2_ n3_ n4_ n5_ n6_ n7_ n8_ n9_ n10_ n11_; clear ho hb hg hat; obtain ⟨Ao148, co148, eo148⟩ := Kd.R_slice HO128.out; subst eo148; have hcz149_0 : w147.cell? ⟨gb114, 0, none⟩ = some (u115000) := (blk_cell BK114.out 0).trans rfl; have hcz149_1 : w147.cell? ⟨gb114, 1, none⟩ = some (u115001) := (blk_cell BK114.out 1).trans rfl; have hfz149_0 := blk_frozen BK114.out 0; have hfz149_1 := blk_frozen BK114.out 1))
                      go_roundg kj84
                      case measure => have := HK1.out; have := HK2.out; have := HJ84.out; omega
                      case rel => exact ⟨(wrap64 (x81_2 + 1)), (y126), (.slice Ao148 y126.length co148), rS, H', ⟨by have := HK1.out; have := HK2.out; have := HJ84.out; omega⟩, ⟨by (with_reducible repeat (first | apply rA | apply rN | apply rD)); exact Kd.R_mono (Kd.R_far (p := ⟨gb114, 1, none⟩) (Kd.R_types HO_114000.out BK114.out (by decide)) (fun _ hk => hk.2) (.slice Ao148 y126.length co148)) (fun _ hk => ⟨hk.1.1, hk.1.2⟩)⟩, ⟨by (with_reducible repeat (first | apply rA | apply rN | apply rD)); exact Kd.R_mono (Kd.R_far (p := ⟨gb114, 1, none⟩) (Kd.R_types HO_114001.out BK114.out (by decide)) (fun _ hk => hk.2) (.slice Ao148 y126.length co148)) (fun _ hk => ⟨hk.1.1, hk.1.2⟩)⟩, ⟨by (with_reducible repeat (first | apply rA | apply rN | apply rD)); exact Kd.R_mono (Kd.R_far (p := ⟨gb114, 1, none⟩) (Kd.R_types HO_115000.out BK114.out (by decide)) (fun _ hk => hk.2) (.slice Ao148 y126.length co148)) (fun _ hk => ⟨hk.1.1, hk.1.2⟩)⟩, ⟨by (with_reducible repeat (first | apply rA | apply rN | apply rD)); exact Kd.R_mono (Kd.R_far (p := ⟨gb114, 1, none⟩) (Kd.R_types HO128.out BK114.out (by decide)) (fun _ hk => hk.2) (.slice Ao148 y126.length co148)) (fun _ hk => trivial)⟩, ⟨by (with_reducible repeat (first | refine bN ?_ _ | refine bD ?_ | refine bA ?_ _)); refine blk_far ?_ NB101_114.out _; (with_reducible repeat (first | refine bN ?_ _ | refine bD ?_ | refine bA ?_ _)); exact BK101.out⟩, ⟨by (with_reducible repeat (first | refine bN ?_ _ | refine bD ?_ | refine bA ?_ _)); refine blk_far ?_ NB102_114.out _; (with_reducible repeat (first | refine bN ?_ _ | refine bD ?_ | refine bA ?_ _)); exact BK102.out⟩, ⟨by (with_reducible repeat (first | refine bN ?_ _ | refine bD ?_ | refine bA ?_ _)); refine blk_far ?_ NB103_114.out _; (with_reducible repeat (first | refine bN ?_ _ | refine bD ?_ | refine bA ?_ _)); exact BK103.out⟩, ⟨by (with_reducible repeat (first | refine bN ?_ _ | refine bD ?_ | refine bA ?_ _)); refine blk_far ?_ NB113_114.out _; (with_reducible repeat (first | refine bN ?_ _ | refine bD ?_ | refine bA ?_ _)); exact BK113.out⟩, ⟨by (with_reducible repeat (first | refine bN ?_ _ | refine bD ?_ | refine bA ?_ _)); refine blk_put (cs := #[u115000, u115001]) ?_ 1 _ rfl; (with_reducible repeat (first | refine bN ?_ _ | refine bD ?_ | refine bA ?_ _)); exact BK114.out⟩, ⟨by repeat (first | (with_reducible first | exact HB.out | apply wA | apply wN | apply wD | refine below_set ?_ GE101.out | refine below_set ?_ GE102.out | refine below_set ?_ GE103.out | refine below_set ?_ GE113.out | refine below_set ?_ GE114.out | refine below_set ?_ GE121.out | refine below_set ?_ GE125.out) | exact HB.out)⟩⟩
                     ·rw [if_neg c133] at H
                      exact absurd H (by simp)
                 ·rw [if_neg c84] at H
                  exact absurd H (by simp)
                ·rw [if_neg c83] at H
                 exact absurd H (by simp)
               ·rw [if_neg c82] at H
                exact absurd H (by simp)
              ·rw [if_neg c81] at H
               exact absurd H (by simp)
            ·rw [if_neg c67] at H
             exact absurd H (by simp)
           ·rw [if_neg c66] at H
            exact absurd H (by simp)
          ·rw [if_neg c65] at H
           exact absurd H (by simp)
         ·rw [if_neg c64] at H
          have c64b0 : decide (x81_2 < (l0_1.length : Int)) = false := decide_eq_false c64
          clear c64
          simp only [Option.some.injEq, Prod.mk.injEq] at H
          obtain ⟨rfl, rfl, rfl, rfl, rfl⟩ := H
          try go_wp2
          have n0_ := Aside0.mk (rD HO_114000.out)
          have n1_ := Aside0.mk (rD HO_114001.out)
          have n2_ := Aside0.mk (rD HO_115000.out)
          have n3_ := Aside0.mk (rD HO_115001.out)
          have n4_ := Aside0.mk (bD BK101.out)
          have n5_ := Aside0.mk (bD BK102.out)
          have n6_ := Aside0.mk (bD BK103.out)
          have n7_ := Aside0.mk (bD BK113.out)
          have n8_ := Aside0.mk (bD BK114.out)
          have n9_ := Aside0.mk (wD HB.out)
          clear HO_114000
          clear HO_114001
          clear HO_115000
          clear HO_115001
          clear BK101
          clear BK102
          clear BK103
          clear BK113
          clear BK114
          clear HB
          have HO_114000 := n0_
          have HO_114001 := n1_
          have HO_115000 := n2_
          have HO_115001 := n3_
          have BK101 := n4_
          have BK102 := n5_
          have BK103 := n6_
          have BK113 := n7_
          have BK114 := n8_
          have HB := n9_
          clear n0_ n1_ n2_ n3_ n4_ n5_ n6_ n7_ n8_ n9_
          obtain ⟨Ao151, co151, eo151⟩ := Kd.R_slice HO_115000.out
          (first | subst eo151 | (injection eo151 with f1_ f2_ f3_; have f4_ := f1_.symm; have f5_ := f3_.symm; clear f1_ f2_ f3_; subst f4_; subst f5_))
          obtain ⟨Ao153, co153, eo153⟩ := Kd.R_slice HO_115001.out
          (first | subst eo153 | (injection eo153 with f1_ f2_ f3_; have f4_ := f1_.symm; have f5_ := f3_.symm; clear f1_ f2_ f3_; subst f4_; subst f5_))
          refine start_ (n := 5) (S := fun w' => w'.cell? ⟨gb114, 0, none⟩ = some (.slice Ao151 x115000_1.length co151) ∧ w'.cell? ⟨gb114, 1, none⟩ = some (.slice Ao153 x115001_2.length co153) ∧ w'.cell? ⟨gb113, 0, none⟩ = some (.slice Ao29 t107.length co29) ∧ w'.cell? ⟨gb113, 1, none⟩ = some (.slice Ao28 t110.length co28)) (ds := []) #[false, false, false, false, false] (by kernel_rfl) rfl rfl ⟨(blk_cell BK114.out 0).trans rfl, (blk_cell BK114.out 1).trans rfl, (blk_cell BK113.out 0).trans rfl, (blk_cell BK113.out 1).trans rfl⟩ (fun hHeld => ?_)
          generalize wr.drew = w150 at HO_114000 HO_114001 HO_115000 HO_115001 BK101 BK102 BK103 BK113 BK114 HB hHeld ⊢
          refine take_ (i := 0) (N := some 124) (v := ?_) (a' := ?_) #[true, false, false, false, false] rfl rfl (by kernel_rfl) (fun _ _ _ h => h) (Or.inl ⟨by rfl, ?_⟩) hHeld ?_ ?_
          rotate_left
          ·rintro w' ⟨s0, s1, s2, s3⟩
           go_simp
           with_reducible rfl
          rotate_left
          ·simp only [Act.put, List.setIfInBounds_toArray, List.set_cons_zero, List.set_cons_succ, i64_w, i32_w]
           rfl
          refine take_ (i := 1) (N := some 125) (v := ?_) (a' := ?_) #[true, true, false, false, false] rfl rfl (by kernel_rfl) (fun _ _ _ h => h) (Or.inl ⟨by rfl, ?_⟩) hHeld ?_ ?_
          rotate_left
          ·rintro w' ⟨s0, s1, s2, s3⟩
           go_simp
           with_reducible rfl
          rotate_left
          ·simp only [Act.put, List.setIfInBounds_toArray, List.set_cons_zero, List.set_cons_succ, i64_w, i32_w]
           rfl
          refine one_ (i := 2) (N := none) #[true, true, true, false, false] rfl rfl (by kernel_rfl) (by decide) (fun K hK => ?_)
          have hs152 : w150.cell? ⟨gb102, 0, none⟩ = some (.slice none 0 0) := (blk_cell BK102.out 0).trans rfl
          have hfs152 := blk_frozen BK102.out 0
          have hns152_0 := NB101_102.out
          have hns152_2 := NB103_102.out
          have hns152_3 := NB113_102.out
          have hns152_4 := NB114_102.out
          have hms152_0 := NB102_101.out
          have hms152_2 := NB102_103.out
          have hms152_3 := NB102_113.out
          have hms152_4 := NB102_114.out
          have hs154 : w150.cell? ⟨gb102, 1, none⟩ = some (.slice none 0 0) := (blk_cell BK102.out 1).trans rfl
          have hfs154 := blk_frozen BK102.out 1
          have hns154_0 := NB101_102.out
          have hns154_2 := NB103_102.out
          have hns154_3 := NB113_102.out
          have hns154_4 := NB114_102.out
          have hms154_0 := NB102_101.out
          have hms154_2 := NB102_103.out
          have hms154_3 := NB102_113.out
          have hms154_4 := NB102_114.out
          refine skip_ (w1 := ?_) (by rfl) rfl ?_ ?_
          rotate_left
          ·go_simp
           rfl
          refine hK.out _ _ ⟨((cell_far (p := ⟨gb102, _, none⟩) NB114_102.out _).trans (((cell_far (p := ⟨gb102, _, none⟩) NB114_102.out _).trans (hHeld.1)))), ((cell_far (p := ⟨gb102, _, none⟩) NB114_102.out _).trans (((cell_far (p := ⟨gb102, _, none⟩) NB114_102.out _).trans (hHeld.2.1)))), ((cell_far (p := ⟨gb102, _, none⟩) NB113_102.out _).trans (((cell_far (p := ⟨gb102, _, none⟩) NB113_102.out _).trans (hHeld.2.2.1)))), ((cell_far (p := ⟨gb102, _, none⟩) NB113_102.out _).trans (((cell_far (p := ⟨gb102, _, none⟩) NB113_102.out _).trans (hHeld.2.2.2))))⟩ (fun hHeld => ?_)
          clear hK K
          refine one_ (i := 3) (N := none) #[true, true, true, true, false] rfl rfl (by kernel_rfl) (by decide) (fun K hK => ?_)
          have hs155 : w150.cell? ⟨gb103, 0, none⟩ = some (.slice none 0 0) := (blk_cell BK103.out 0).trans rfl
          have hfs155 := blk_frozen BK103.out 0
          have hns155_0 := NB101_103.out
          have hns155_1 := NB102_103.out
          have hns155_3 := NB113_103.out
          have hns155_4 := NB114_103.out
          have hms155_0 := NB103_101.out
          have hms155_1 := NB103_102.out
          have hms155_3 := NB103_113.out
          have hms155_4 := NB103_114.out
          have hs156 : w150.cell? ⟨gb103, 1, none⟩ = some (.slice none 0 0) := (blk_cell BK103.out 1).trans rfl
          have hfs156 := blk_frozen BK103.out 1
          have hns156_0 := NB101_103.out
          have hns156_1 := NB102_103.out
          have hns156_3 := NB113_103.out
          have hns156_4 := NB114_103.out
          have hms156_0 := NB103_101.out
          have hms156_1 := NB103_102.out
          have hms156_3 := NB103_113.out
          have hms156_4 := NB103_114.out
          refine skip_ (w1 := ?_) (by rfl) rfl ?_ ?_
          rotate_left
          ·go_simp
           rfl
          refine hK.out _ _ ⟨((cell_far (p := ⟨gb103, _, none⟩) NB114_103.out _).trans (((cell_far (p := ⟨gb103, _, none⟩) NB114_103.out _).trans (hHeld.1)))), ((cell_far (p := ⟨gb103, _, none⟩) NB114_103.out _).trans (((cell_far (p := ⟨gb103, _, none⟩) NB114_103.out _).trans (hHeld.2.1)))), ((cell_far (p := ⟨gb103, _, none⟩) NB113_103.out _).trans (((cell_far (p := ⟨gb103, _, none⟩) NB113_103.out _).trans (hHeld.2.2.1)))), ((cell_far (p := ⟨gb103, _, none⟩) NB113_103.out _).trans (((cell_far (p := ⟨gb103, _, none⟩) NB113_103.out _).trans (hHeld.2.2.2))))⟩ (fun hHeld => ?_)
          clear hK K
          refine pure_ (i := 4) (N := some 8) (v := ?_) (a' := ?_) #[true, true, true, true, true] rfl rfl (by kernel_rfl) (fun _ _ _ h => h) (Or.inl ⟨by rfl, ?_⟩) ?_ ?_
          rotate_left
          ·intro w'
           go_simp
           with_reducible rfl
          rotate_left
          ·simp only [Act.put, List.setIfInBounds_toArray, List.set_cons_zero, List.set_cons_succ, i64_w, i32_w]
           rfl
          refine done_ (by kernel_rfl) ?_
          try go_wp2
          refine bodyPost_ret (results_list (rs := [.cell 6 25, .cell 7 29, .tmp 8]) rfl (by simp) (.cell gb102 25 #[.slice Ao151 x115000_1.length co151, .slice Ao153 x115001_2.length co153] (0, 0) _ rfl (by (with_reducible repeat (first | refine bN ?_ _ | refine bD ?_ | refine bA ?_ _)); refine blk_far ?_ NB102_103.out _; (with_reducible repeat (first | refine bN ?_ _ | refine bD ?_ | refine bA ?_ _)); refine blk_far ?_ NB102_103.out _; (with_reducible repeat (first | refine bN ?_ _ | refine bD ?_ | refine bA ?_ _)); refine blk_put (cs := #[.slice Ao151 x115000_1.length co151, .slice none 0 0]) ?_ 1 _ rfl; (with_reducible repeat (first | refine bN ?_ _ | refine bD ?_ | refine bA ?_ _)); refine blk_put (cs := #[.slice none 0 0, .slice none 0 0]) ?_ 0 _ rfl; (with_reducible repeat (first | refine bN ?_ _ | refine bD ?_ | refine bA ?_ _)); exact BK102.out) Try.underlying25 rfl (by kernel_rfl) (.cell gb103 29 #[.slice Ao29 t107.length co29, .slice Ao28 t110.length co28] (0, 0) _ rfl (by (with_reducible repeat (first | refine bN ?_ _ | refine bD ?_ | refine bA ?_ _)); refine blk_put (cs := #[.slice Ao29 t107.length co29, .slice none 0 0]) ?_ 1 _ rfl; (with_reducible repeat (first | refine bN ?_ _ | refine bD ?_ | refine bA ?_ _)); refine blk_put (cs := #[.slice none 0 0, .slice none 0 0]) ?_ 0 _ rfl; (with_reducible repeat (first | refine bN ?_ _ | refine bD ?_ | refine bA ?_ _)); refine blk_far ?_ NB103_102.out _; (with_reducible repeat (first | refine bN ?_ _ | refine bD ?_ | refine bA ?_ _)); refine blk_far ?_ NB103_102.out _; (with_reducible repeat (first | refine bN ?_ _ | refine bD ?_ | refine bA ?_ _)); exact BK103.out) Try.underlying29 rfl (by kernel_rfl) (.tmp .nil)))) rfl ?_
          exact ⟨_, _, _, _, by first | rfl | (simp [errW_none, errW_some] <;> rfl) | (simp [*, errW_none, errW_some] <;> rfl), by (with_reducible repeat (first | apply rA | apply rN | apply rD)); exact Kd.R_mono (Kd.R_far (p := ⟨gb103, 1, none⟩) (Kd.R_far (p := ⟨gb103, 0, none⟩) (Kd.R_far (p := ⟨gb102, 1, none⟩) (Kd.R_far (p := ⟨gb102, 0, none⟩) (Kd.R_types (Kd.R_types HO_115000.out BK102.out (by decide)) BK103.out (by decide)) (fun _ hk => hk.1.2) (.slice Ao151 x115000_1.length co151)) (fun _ hk => hk.1.2) (.slice Ao153 x115001_2.length co153)) (fun _ hk => hk.2) (.slice Ao29 t107.length co29)) (fun _ hk => hk.2) (.slice Ao28 t110.length co28)) (fun _ hk => ⟨hk.1.1.1, hk.1.1.2⟩), by (with_reducible repeat (first | apply rA | apply rN | apply rD)); exact Kd.R_mono (Kd.R_far (p := ⟨gb103, 1, none⟩) (Kd.R_far (p := ⟨gb103, 0, none⟩) (Kd.R_far (p := ⟨gb102, 1, none⟩) (Kd.R_far (p := ⟨gb102, 0, none⟩) (Kd.R_types (Kd.R_types HO_115001.out BK102.out (by decide)) BK103.out (by decide)) (fun _ hk => hk.1.2) (.slice Ao151 x115000_1.length co151)) (fun _ hk => hk.1.2) (.slice Ao153 x115001_2.length co153)) (fun _ hk => hk.2) (.slice Ao29 t107.length co29)) (fun _ hk => hk.2) (.slice Ao28 t110.length co28)) (fun _ hk => trivial), by (with_reducible repeat (first | apply rA | apply rN | apply rD)); exact Kd.R_mono (Kd.R_far (p := ⟨gb103, 1, none⟩) (Kd.R_far (p := ⟨gb103, 0, none⟩) (Kd.R_far (p := ⟨gb102, 1, none⟩) (Kd.R_far (p := ⟨gb102, 0, none⟩) (Kd.R_types (Kd.R_types HO_114000.out BK102.out (by decide)) BK103.out (by decide)) (fun _ hk => hk.1.2) (.slice Ao151 x115000_1.length co151)) (fun _ hk => hk.1.2) (.slice Ao153 x115001_2.length co153)) (fun _ hk => hk.2) (.slice Ao29 t107.length co29)) (fun _ hk => hk.2) (.slice Ao28 t110.length co28)) (fun _ hk => ⟨hk.1.1.2, hk.1.1.1⟩), by (with_reducible repeat (first | apply rA | apply rN | apply rD)); exact Kd.R_mono (Kd.R_far (p := ⟨gb103, 1, none⟩) (Kd.R_far (p := ⟨gb103, 0, none⟩) (Kd.R_far (p := ⟨gb102, 1, none⟩) (Kd.R_far (p := ⟨gb102, 0, none⟩) (Kd.R_types (Kd.R_types HO_114001.out BK102.out (by decide)) BK103.out (by decide)) (fun _ hk => hk.1.2) (.slice Ao151 x115000_1.length co151)) (fun _ hk => hk.1.2) (.slice Ao153 x115001_2.length co153)) (fun _ hk => hk.2) (.slice Ao29 t107.length co29)) (fun _ hk => hk.2) (.slice Ao28 t110.length co28)) (fun _ hk => ⟨hk.1.1.2, hk.1.1.1⟩), by repeat (first | (with_reducible first | exact HB.out | apply wA | apply wN | apply wD | refine below_set ?_ GE101.out | refine below_set ?_ GE102.out | refine below_set ?_ GE103.out | refine below_set ?_ GE113.out | refine below_set ?_ GE114.out) | exact HB.out)⟩
   ·rw [if_neg c9] at H
    have c9b0 : (t106 == 0) = false := beq_eq_false_iff_ne.mpr c9
    have c9b1 : (t106 != 0) = true := bne_iff_ne.mpr c9
    simp only [Option.some.injEq, Prod.mk.injEq] at H
    obtain ⟨rfl, rfl, rfl, rfl, rfl⟩ := H
    go_enter Try.func12, Try.ntmps12
    go_wp2_with (first | ((with_reducible refine gate_dst (N := 3) rfl ?_); refine box_event ?hg (N := 3) ?hd (cs := #[.slice A0_0 l0_0.length c0_0, .slice A0_1 l0_1.length c0_1]) (t := 25) ?hr ?_; (case hd => rfl); (case hg => rfl); (case hr => first | (go_simp; done) | (go_simp; rfl)); intro gb101 hg w157 hbox hb; have n0_ := Aside0.mk (wS hB hb); have n1_ := Aside0.mk (hbox); have n2_ := Aside0.mk ((by rw [hg]; exact (below_size hB) : w.heap.size ≤ gb101)); have n3_ := Aside0.mk ((by rw [hg]; exact (below_size hB) : w.heap.size ≤ gb101)); clear HB; have HB := n0_; have BK101 := n1_; have GW101 := n2_; have GE101 := n3_; clear n0_ n1_ n2_ n3_; clear hb hbox hg) | ((with_reducible refine gate_dst (N := 6) rfl ?_); refine box_event ?hg (N := 6) ?hd (cs := #[.slice none 0 0, .slice none 0 0]) (t := 25) ?hr ?_; (case hd => rfl); (case hg => rfl); (case hr => first | (go_simp; done) | (go_simp; rfl)); intro gb102 hg w158 hbox hb; have n0_ := Aside0.mk (bB (g := gb101) (o := .cells #[.slice A0_0 l0_0.length c0_0, .slice A0_1 l0_1.length c0_1] 25 (0, 0)) (by (with_reducible repeat (first | refine bN ?_ _ | refine bD ?_ | refine bA ?_ _)); exact BK101.out) hb); have n1_ := Aside0.mk (wS (by repeat (first | (with_reducible first | exact HB.out | apply wA | apply wN | apply wD | refine below_set ?_ GE101.out) | exact HB.out)) hb); have n2_ := Aside0.mk (hbox); have n3_ := Aside0.mk ((by rw [hg]; exact (below_size (by repeat (first | (with_reducible first | exact HB.out | apply wA | apply wN | apply wD | refine below_set ?_ GE101.out) | exact HB.out))) : w.heap.size ≤ gb102)); have n4_ := Aside0.mk ((by rw [hg]; exact (below_size (by repeat (first | (with_reducible first | exact HB.out | apply wA | apply wN | apply wD | refine below_set ?_ GE101.out) | exact HB.out))) : w.heap.size ≤ gb102)); have n5_ := Aside0.mk ((by rw [hg]; exact Nat.ne_of_lt (blk_lt (g := gb101) (o := .cells #[.slice A0_0 l0_0.length c0_0, .slice A0_1 l0_1.length c0_1] 25 (0, 0)) (by (with_reducible repeat (first | refine bN ?_ _ | refine bD ?_ | refine bA ?_ _)); exact BK101.out)) : gb101 ≠ gb102)); have n6_ := Aside0.mk ((by rw [hg]; exact Nat.ne_of_gt (blk_lt (g := gb101) (o := .cells #[.slice A0_0 l0_0.length c0_0, .slice A0_1 l0_1.length c0_1] 25 (0, 0)) (by (with_reducible repeat (first | refine bN ?_ _ | refine bD ?_ | refine bA ?_ _)); exact BK101.out)) : gb102 ≠ gb101)); clear BK101; clear HB; have BK101 := n0_; have HB := n1_; have BK102 := n2_; have GW102 := n3_; have GE102 := n4_; have NB101_102 := n5_; have NB102_101 := n6_; clear n0_ n1_ n2_ n3_ n4_ n5_ n6_; clear hb hbox hg) | ((with_reducible refine gate_dst (N := 7) rfl ?_); refine box_event ?hg (N := 7) ?hd (cs := #[.slice none 0 0, .slice none 0 0]) (t := 29) ?hr ?_; (case hd => rfl); (case hg => rfl); (case hr => first | (go_simp; done) | (go_simp; rfl)); intro gb103 hg w159 hbox hb; have n0_ := Aside0.mk (bB (g := gb101) (o := .cells #[.slice A0_0 l0_0.length c0_0, .slice A0_1 l0_1.length c0_1] 25 (0, 0)) (by (with_reducible repeat (first | refine bN ?_ _ | refine bD ?_ | refine bA ?_ _)); exact BK101.out) hb); have n1_ := Aside0.mk (bB (g := gb102) (o := .cells #[.slice none 0 0, .slice none 0 0] 25 (0, 0)) (by (with_reducible repeat (first | refine bN ?_ _ | refine bD ?_ | refine bA ?_ _)); exact BK102.out) hb); have n2_ := Aside0.mk (wS (by repeat (first | (with_reducible first | exact HB.out | apply wA | apply wN | apply wD | refine below_set ?_ GE101.out | refine below_set ?_ GE102.out) | exact HB.out)) hb); have n3_ := Aside0.mk (hbox); have n4_ := Aside0.mk ((by rw [hg]; exact (below_size (by repeat (first | (with_reducible first | exact HB.out | apply wA | apply wN | apply wD | refine below_set ?_ GE101.out | refine below_set ?_ GE102.out) | exact HB.out))) : w.heap.size ≤ gb103)); have n5_ := Aside0.mk ((by rw [hg]; exact (below_size (by repeat (first | (with_reducible first | exact HB.out | apply wA | apply wN | apply wD | refine below_set ?_ GE101.out | refine below_set ?_ GE102.out) | exact HB.out))) : w.heap.size ≤ gb103)); have n6_ := Aside0.mk ((by rw [hg]; exact Nat.ne_of_lt (blk_lt (g := gb101) (o := .cells #[.slice A0_0 l0_0.length c0_0, .slice A0_1 l0_1.length c0_1] 25 (0, 0)) (by (with_reducible repeat (first | refine bN ?_ _ | refine bD ?_ | refine bA ?_ _)); exact BK101.out)) : gb101 ≠ gb103)); have n7_ := Aside0.mk ((by rw [hg]; exact Nat.ne_of_gt (blk_lt (g := gb101) (o := .cells #[.slice A0_0 l0_0.length c0_0, .slice A0_1 l0_1.length c0_1] 25 (0, 0)) (by (with_reducible repeat (first | refine bN ?_ _ | refine bD ?_ | refine bA ?_ _)); exact BK101.out)) : gb103 ≠ gb101)); have n8_ := Aside0.mk ((by rw [hg]; exact Nat.ne_of_lt (blk_lt (g := gb102) (o := .cells #[.slice none 0 0, .slice none 0 0] 25 (0, 0)) (by (with_reducible repeat (first | refine bN ?_ _ | refine bD ?_ | refine bA ?_ _)); exact BK102.out)) : gb102 ≠ gb103)); have n9_ := Aside0.mk ((by rw [hg]; exact Nat.ne_of_gt (blk_lt (g := gb102) (o := .cells #[.slice none 0 0, .slice none 0 0] 25 (0, 0)) (by (with_reducible repeat (first | refine bN ?_ _ | refine bD ?_ | refine bA ?_ _)); exact BK102.out)) : gb103 ≠ gb102)); clear BK101; clear BK102; clear HB; have BK101 := n0_; have BK102 := n1_; have HB := n2_; have BK103 := n3_; have GW103 := n4_; have GE103 := n5_; have NB101_103 := n6_; have NB103_101 := n7_; have NB102_103 := n8_; have NB103_102 := n9_; clear n0_ n1_ n2_ n3_ n4_ n5_ n6_ n7_ n8_ n9_; clear hb hbox hg; have hnb160 := NB101_102.out; have hnc160 := NB102_101.out; have hnb161 := NB101_103.out; have hnc161 := NB103_101.out; have hcz162_0 : w159.cell? ⟨gb101, 0, none⟩ = some (.slice A0_0 l0_0.length c0_0) := (blk_cell BK101.out 0).trans rfl; have hcz162_1 : w159.cell? ⟨gb101, 1, none⟩ = some (.slice A0_1 l0_1.length c0_1) := (blk_cell BK101.out 1).trans rfl; have hfz162_0 := blk_frozen BK101.out 0; have hfz162_1 := blk_frozen BK101.out 1) | ((with_reducible refine gate_callee (f := 26) rfl ?_); refine goesL_ (some 20) rfl rfl Try.func26 (by kernel_rfl) rfl #[.agg #[.slice A0_0 l0_0.length c0_0, .slice A0_1 l0_1.length c0_1]] rfl aM ?_; (with_reducible refine (graph_Valid.calls _ _ l0_0 _ _ l0_1 t104 _ ?side1 ?side2 ?side3 ?side4 A4.out).mono ?_); (case side1 => repeat (first | exact (cB HR0_0.out HB.out) | (with_reducible refine cA ?_ _) | (with_reducible refine cN ?_ _) | (with_reducible refine cD ?_))); (case side2 => exact HC0_0.out); (case side3 => repeat (first | exact (cB HR0_1.out HB.out) | (with_reducible refine cA ?_ _) | (with_reducible refine cN ?_ _) | (with_reducible refine cD ?_))); (case side4 => exact HC0_1.out); rintro e w163 ⟨rfl, hb⟩; refine ⟨_, rfl, ?_⟩; have n0_ := Aside0.mk (bB (g := gb101) (o := .cells #[.slice A0_0 l0_0.length c0_0, .slice A0_1 l0_1.length c0_1] 25 (0, 0)) (by (with_reducible repeat (first | refine bN ?_ _ | refine bD ?_ | refine bA ?_ _)); exact BK101.out) hb); have n1_ := Aside0.mk (bB (g := gb102) (o := .cells #[.slice none 0 0, .slice none 0 0] 25 (0, 0)) (by (with_reducible repeat (first | refine bN ?_ _ | refine bD ?_ | refine bA ?_ _)); exact BK102.out) hb); have n2_ := Aside0.mk (bB (g := gb103) (o := .cells #[.slice none 0 0, .slice none 0 0] 29 (0, 0)) (by (with_reducible repeat (first | refine bN ?_ _ | refine bD ?_ | refine bA ?_ _)); exact BK103.out) hb); have n3_ := Aside0.mk (wS (by repeat (first | (with_reducible first | exact HB.out | apply wA | apply wN | apply wD | refine below_set ?_ GE101.out | refine below_set ?_ GE102.out | refine below_set ?_ GE103.out) | exact HB.out)) hb); clear BK101; clear BK102; clear BK103; clear HB; have BK101 := n0_; have BK102 := n1_; have BK103 := n2_; have HB := n3_; clear n0_ n1_ n2_ n3_; (try clear hb); (try clear hb2); (try clear hk); (try clear hi); have hcz164_0 : w163.cell? ⟨gb101, 0, none⟩ = some (.slice A0_0 l0_0.length c0_0) := (blk_cell BK101.out 0).trans rfl; have hcz164_1 : w163.cell? ⟨gb101, 1, none⟩ = some (.slice A0_1 l0_1.length c0_1) := (blk_cell BK101.out 1).trans rfl; have hfz164_0 := blk_frozen BK101.out 0; have hfz164_1 := blk_frozen BK101.out 1) | ((with_reducible refine gate_callee (f := 39) rfl ?_); refine goesL_ (some 30) rfl rfl Try.func39 (by kernel_rfl) rfl #[.slice A1 l1.length c1, .int .i64 (l0_0.length : Int)] rfl aM ?_; (with_reducible refine (graph_ascending.calls k _ _ l1 (l0_0.length : Int) t105 _ ?side1 ?side2 A6.out).mono ?_); (case side1 => repeat (first | exact (cB HR1.out HB.out) | (with_reducible refine cA ?_ _) | (with_reducible refine cN ?_ _) | (with_reducible refine cD ?_))); (case side2 => exact HC1.out); rintro e w' ⟨rfl, ⟨nd, rfl⟩⟩; refine ⟨_, rfl, ?_⟩; (try (rw [drewN_self w163]; generalize hq_ : World.drewN w163 _ = w163; have n0_ : Aside0 (w163.heap[gb101]? = some (.cells #[.slice A0_0 l0_0.length c0_0, .slice A0_1 l0_1.length c0_1] 25 (0, 0))) := ⟨by rw [← hq_]; exact (by (with_reducible repeat (first | refine bN ?_ _ | refine bD ?_ | refine bA ?_ _)); exact BK101.out)⟩; have n1_ : Aside0 (w163.heap[gb102]? = some (.cells #[.slice none 0 0, .slice none 0 0] 25 (0, 0))) := ⟨by rw [← hq_]; exact (by (with_reducible repeat (first | refine bN ?_ _ | refine bD ?_ | refine bA ?_ _)); exact BK102.out)⟩; have n2_ : Aside0 (w163.heap[gb103]? = some (.cells #[.slice none 0 0, .slice none 0 0] 29 (0, 0))) := ⟨by rw [← hq_]; exact (by (with_reducible repeat (first | refine bN ?_ _ | refine bD ?_ | refine bA ?_ _)); exact BK103.out)⟩; have n3_ : Aside0 (Below w.heap.size w w163) := ⟨by rw [← hq_]; exact (by repeat (first | (with_reducible first | exact HB.out | apply wA | apply wN | apply wD | refine below_set ?_ GE101.out | refine below_set ?_ GE102.out | refine below_set ?_ GE103.out) | exact HB.out))⟩; clear BK101 BK102 BK103 HB hq_; have BK101 := n0_; have BK102 := n1_; have BK103 := n2_; have HB := n3_; clear n0_ n1_ n2_ n3_)); have hcz165_0 : w163.cell? ⟨gb101, 0, none⟩ = some (.slice A0_0 l0_0.length c0_0) := (blk_cell BK101.out 0).trans rfl; have hcz165_1 : w163.cell? ⟨gb101, 1, none⟩ = some (.slice A0_1 l0_1.length c0_1) := (blk_cell BK101.out 1).trans rfl; have hfz165_0 := blk_frozen BK101.out 0; have hfz165_1 := blk_frozen BK101.out 1) | ((with_reducible refine gate_callee (f := 39) rfl ?_); refine goesL_ (some 40) rfl rfl Try.func39 (by kernel_rfl) rfl #[.slice A2 l2.length c2, .int .i64 (l0_1.length : Int)] rfl aM ?_; (with_reducible refine (graph_ascending.calls k _ _ l2 (l0_1.length : Int) t106 _ ?side1 ?side2 A8.out).mono ?_); (case side1 => repeat (first | exact (cB HR2.out HB.out) | (with_reducible refine cA ?_ _) | (with_reducible refine cN ?_ _) | (with_reducible refine cD ?_))); (case side2 => exact HC2.out); rintro e w' ⟨rfl, ⟨nd, rfl⟩⟩; refine ⟨_, rfl, ?_⟩; (try (rw [drewN_self w163]; generalize hq_ : World.drewN w163 _ = w163; have n0_ : Aside0 (w163.heap[gb101]? = some (.cells #[.slice A0_0 l0_0.length c0_0, .slice A0_1 l0_1.length c0_1] 25 (0, 0))) := ⟨by rw [← hq_]; exact (by (with_reducible repeat (first | refine bN ?_ _ | refine bD ?_ | refine bA ?_ _)); exact BK101.out)⟩; have n1_ : Aside0 (w163.heap[gb102]? = some (.cells #[.slice none 0 0, .slice none 0 0] 25 (0, 0))) := ⟨by rw [← hq_]; exact (by (with_reducible repeat (first | refine bN ?_ _ | refine bD ?_ | refine bA ?_ _)); exact BK102.out)⟩; have n2_ : Aside0 (w163.heap[gb103]? = some (.cells #[.slice none 0 0, .slice none 0 0] 29 (0, 0))) := ⟨by rw [← hq_]; exact (by (with_reducible repeat (first | refine bN ?_ _ | refine bD ?_ | refine bA ?_ _)); exact BK103.out)⟩; have n3_ : Aside0 (Below w.heap.size w w163) := ⟨by rw [← hq_]; exact (by repeat (first | (with_reducible first | exact HB.out | apply wA | apply wN | apply wD | refine below_set ?_ GE101.out | refine below_set ?_ GE102.out | refine below_set ?_ GE103.out) | exact HB.out))⟩; clear BK101 BK102 BK103 HB hq_; have BK101 := n0_; have BK102 := n1_; have BK103 := n2_; have HB := n3_; clear n0_ n1_ n2_ n3_)); have hnb166 := NB102_103.out; have hnc166 := NB103_102.out; have hcz167_0 : w163.cell? ⟨gb102, 0, none⟩ = some (.slice none 0 0) := (blk_cell BK102.out 0).trans rfl; have hcz167_1 : w163.cell? ⟨gb102, 1, none⟩ = some (.slice none 0 0) := (blk_cell BK102.out 1).trans rfl; have hfz167_0 := blk_frozen BK102.out 0; have hfz167_1 := blk_frozen BK102.out 1; have hcz168_0 : w163.cell? ⟨gb103, 0, none⟩ = some (.slice none 0 0) := (blk_cell BK103.out 0).trans rfl; have hcz168_1 : w163.cell? ⟨gb103, 1, none⟩ = some (.slice none 0 0) := (blk_cell BK103.out 1).trans rfl; have hfz168_0 := blk_frozen BK103.out 0; have hfz168_1 := blk_frozen BK103.out 1))
    refine bodyPost_ret (results_list (rs := [.cell 6 25, .cell 7 29, .tmp 8]) rfl (by simp) (.cell gb102 25 #[.slice none 0 0, .slice none 0 0] (0, 0) _ rfl (by (with_reducible repeat (first | refine bN ?_ _ | refine bD ?_ | refine bA ?_ _)); refine blk_far ?_ NB102_103.out _; (with_reducible repeat (first | refine bN ?_ _ | refine bD ?_ | refine bA ?_ _)); refine blk_far ?_ NB102_103.out _; (with_reducible repeat (first | refine bN ?_ _ | refine bD ?_ | refine bA ?_ _)); refine blk_put (cs := #[.slice none 0 0, .slice none 0 0]) ?_ 1 _ rfl; (with_reducible repeat (first | refine bN ?_ _ | refine bD ?_ | refine bA ?_ _)); refine blk_put (cs := #[.slice none 0 0, .slice none 0 0]) ?_ 0 _ rfl; (with_reducible repeat (first | refine bN ?_ _ | refine bD ?_ | refine bA ?_ _)); exact BK102.out) Try.underlying25 rfl (by kernel_rfl) (.cell gb103 29 #[.slice none 0 0, .slice none 0 0] (0, 0) _ rfl (by (with_reducible repeat (first | refine bN ?_ _ | refine bD ?_ | refine bA ?_ _)); refine blk_put (cs := #[.slice none 0 0, .slice none 0 0]) ?_ 1 _ rfl; (with_reducible repeat (first | refine bN ?_ _ | refine bD ?_ | refine bA ?_ _)); refine blk_put (cs := #[.slice none 0 0, .slice none 0 0]) ?_ 0 _ rfl; (with_reducible repeat (first | refine bN ?_ _ | refine bD ?_ | refine bA ?_ _)); refine blk_far ?_ NB103_102.out _; (with_reducible repeat (first | refine bN ?_ _ | refine bD ?_ | refine bA ?_ _)); refine blk_far ?_ NB103_102.out _; (with_reducible repeat (first | refine bN ?_ _ | refine bD ?_ | refine bA ?_ _)); exact BK103.out) Try.underlying29 rfl (by kernel_rfl) (.tmp .nil)))) rfl ?_
    exact ⟨_, _, _, _, by first | rfl | (simp [errW_none, errW_some] <;> rfl) | (simp [*, errW_none, errW_some] <;> rfl), by first | exact Kd.R_nil _ _ _ _ _ | exact Kd.N_nil _ _ _ _ _ | exact Kd.V_nil _ _ _ _ _ | exact Kd.Q_nil _ _ _ _ _ | exact Kd.S_nil _ _ _ _ _, by first | exact Kd.R_nil _ _ _ _ _ | exact Kd.N_nil _ _ _ _ _ | exact Kd.V_nil _ _ _ _ _ | exact Kd.Q_nil _ _ _ _ _ | exact Kd.S_nil _ _ _ _ _, by first | exact Kd.R_nil _ _ _ _ _ | exact Kd.N_nil _ _ _ _ _ | exact Kd.V_nil _ _ _ _ _ | exact Kd.Q_nil _ _ _ _ _ | exact Kd.S_nil _ _ _ _ _, by first | exact Kd.R_nil _ _ _ _ _ | exact Kd.N_nil _ _ _ _ _ | exact Kd.V_nil _ _ _ _ _ | exact Kd.Q_nil _ _ _ _ _ | exact Kd.S_nil _ _ _ _ _, by repeat (first | (with_reducible first | exact HB.out | apply wA | apply wN | apply wD | refine below_set ?_ GE101.out | refine below_set ?_ GE102.out | refine below_set ?_ GE103.out) | exact HB.out)⟩
  ·rw [if_neg c7] at H
   have c7b0 : (t105 == 0) = false := beq_eq_false_iff_ne.mpr c7
   have c7b1 : (t105 != 0) = true := bne_iff_ne.mpr c7
   simp only [Option.some.injEq, Prod.mk.injEq] at H
   obtain ⟨rfl, rfl, rfl, rfl, rfl⟩ := H
   go_enter Try.func12, Try.ntmps12
   go_wp2_with (first | ((with_reducible refine gate_dst (N := 3) rfl ?_); refine box_event ?hg (N := 3) ?hd (cs := #[.slice A0_0 l0_0.length c0_0, .slice A0_1 l0_1.length c0_1]) (t := 25) ?hr ?_; (case hd => rfl); (case hg => rfl); (case hr => first | (go_simp; done) | (go_simp; rfl)); intro gb101 hg w169 hbox hb; have n0_ := Aside0.mk (wS hB hb); have n1_ := Aside0.mk (hbox); have n2_ := Aside0.mk ((by rw [hg]; exact (below_size hB) : w.heap.size ≤ gb101)); have n3_ := Aside0.mk ((by rw [hg]; exact (below_size hB) : w.heap.size ≤ gb101)); clear HB; have HB := n0_; have BK101 := n1_; have GW101 := n2_; have GE101 := n3_; clear n0_ n1_ n2_ n3_; clear hb hbox hg) | ((with_reducible refine gate_dst (N := 6) rfl ?_); refine box_event ?hg (N := 6) ?hd (cs := #[.slice none 0 0, .slice none 0 0]) (t := 25) ?hr ?_; (case hd => rfl); (case hg => rfl); (case hr => first | (go_simp; done) | (go_simp; rfl)); intro gb102 hg w170 hbox hb; have n0_ := Aside0.mk (bB (g := gb101) (o := .cells #[.slice A0_0 l0_0.length c0_0, .slice A0_1 l0_1.length c0_1] 25 (0, 0)) (by (with_reducible repeat (first | refine bN ?_ _ | refine bD ?_ | refine bA ?_ _)); exact BK101.out) hb); have n1_ := Aside0.mk (wS (by repeat (first | (with_reducible first | exact HB.out | apply wA | apply wN | apply wD | refine below_set ?_ GE101.out) | exact HB.out)) hb); have n2_ := Aside0.mk (hbox); have n3_ := Aside0.mk ((by rw [hg]; exact (below_size (by repeat (first | (with_reducible first | exact HB.out | apply wA | apply wN | apply wD | refine below_set ?_ GE101.out) | exact HB.out))) : w.heap.size ≤ gb102)); have n4_ := Aside0.mk ((by rw [hg]; exact (below_size (by repeat (first | (with_reducible first | exact HB.out | apply wA | apply wN | apply wD | refine below_set ?_ GE101.out) | exact HB.out))) : w.heap.size ≤ gb102)); have n5_ := Aside0.mk ((by rw [hg]; exact Nat.ne_of_lt (blk_lt (g := gb101) (o := .cells #[.slice A0_0 l0_0.length c0_0, .slice A0_1 l0_1.length c0_1] 25 (0, 0)) (by (with_reducible repeat (first | refine bN ?_ _ | refine bD ?_ | refine bA ?_ _)); exact BK101.out)) : gb101 ≠ gb102)); have n6_ := Aside0.mk ((by rw [hg]; exact Nat.ne_of_gt (blk_lt (g := gb101) (o := .cells #[.slice A0_0 l0_0.length c0_0, .slice A0_1 l0_1.length c0_1] 25 (0, 0)) (by (with_reducible repeat (first | refine bN ?_ _ | refine bD ?_ | refine bA ?_ _)); exact BK101.out)) : gb102 ≠ gb101)); clear BK101; clear HB; have BK101 := n0_; have HB := n1_; have BK102 := n2_; have GW102 := n3_; have GE102 := n4_; have NB101_102 := n5_; have NB102_101 := n6_; clear n0_ n1_ n2_ n3_ n4_ n5_ n6_; clear hb hbox hg) | ((with_reducible refine gate_dst (N := 7) rfl ?_); refine box_event ?hg (N := 7) ?hd (cs := #[.slice none 0 0, .slice none 0 0]) (t := 29) ?hr ?_; (case hd => rfl); (case hg => rfl); (case hr => first | (go_simp; done) | (go_simp; rfl)); intro gb103 hg w171 hbox hb; have n0_ := Aside0.mk (bB (g := gb101) (o := .cells #[.slice A0_0 l0_0.length c0_0, .slice A0_1 l0_1.length c0_1] 25 (0, 0)) (by (with_reducible repeat (first | refine bN ?_ _ | refine bD ?_ | refine bA ?_ _)); exact BK101.out) hb); have n1_ := Aside0.mk (bB (g := gb102) (o := .cells #[.slice none 0 0, .slice none 0 0] 25 (0, 0)) (by (with_reducible repeat (first | refine bN ?_ _ | refine bD ?_ | refine bA ?_ _)); exact BK102.out) hb); have n2_ := Aside0.mk (wS (by repeat (first | (with_reducible first | exact HB.out | apply wA | apply wN | apply wD | refine below_set ?_ GE101.out | refine below_set ?_ GE102.out) | exact HB.out)) hb); have n3_ := Aside0.mk (hbox); have n4_ := Aside0.mk ((by rw [hg]; exact (below_size (by repeat (first | (with_reducible first | exact HB.out | apply wA | apply wN | apply wD | refine below_set ?_ GE101.out | refine below_set ?_ GE102.out) | exact HB.out))) : w.heap.size ≤ gb103)); have n5_ := Aside0.mk ((by rw [hg]; exact (below_size (by repeat (first | (with_reducible first | exact HB.out | apply wA | apply wN | apply wD | refine below_set ?_ GE101.out | refine below_set ?_ GE102.out) | exact HB.out))) : w.heap.size ≤ gb103)); have n6_ := Aside0.mk ((by rw [hg]; exact Nat.ne_of_lt (blk_lt (g := gb101) (o := .cells #[.slice A0_0 l0_0.length c0_0, .slice A0_1 l0_1.length c0_1] 25 (0, 0)) (by (with_reducible repeat (first | refine bN ?_ _ | refine bD ?_ | refine bA ?_ _)); exact BK101.out)) : gb101 ≠ gb103)); have n7_ := Aside0.mk ((by rw [hg]; exact Nat.ne_of_gt (blk_lt (g := gb101) (o := .cells #[.slice A0_0 l0_0.length c0_0, .slice A0_1 l0_1.length c0_1] 25 (0, 0)) (by (with_reducible repeat (first | refine bN ?_ _ | refine bD ?_ | refine bA ?_ _)); exact BK101.out)) : gb103 ≠ gb101)); have n8_ := Aside0.mk ((by rw [hg]; exact Nat.ne_of_lt (blk_lt (g := gb102) (o := .cells #[.slice none 0 0, .slice none 0 0] 25 (0, 0)) (by (with_reducible repeat (first | refine bN ?_ _ | refine bD ?_ | refine bA ?_ _)); exact BK102.out)) : gb102 ≠ gb103)); have n9_ := Aside0.mk ((by rw [hg]; exact Nat.ne_of_gt (blk_lt (g := gb102) (o := .cells #[.slice none 0 0, .slice none 0 0] 25 (0, 0)) (by (with_reducible repeat (first | refine bN ?_ _ | refine bD ?_ | refine bA ?_ _)); exact BK102.out)) : gb103 ≠ gb102)); clear BK101; clear BK102; clear HB; have BK101 := n0_; have BK102 := n1_; have HB := n2_; have BK103 := n3_; have GW103 := n4_; have GE103 := n5_; have NB101_103 := n6_; have NB103_101 := n7_; have NB102_103 := n8_; have NB103_102 := n9_; clear n0_ n1_ n2_ n3_ n4_ n5_ n6_ n7_ n8_ n9_; clear hb hbox hg; have hnb172 := NB101_102.out; have hnc172 := NB102_101.out; have hnb173 := NB101_103.out; have hnc173 := NB103_101.out; have hcz174_0 : w171.cell? ⟨gb101, 0, none⟩ = some (.slice A0_0 l0_0.length c0_0) := (blk_cell BK101.out 0).trans rfl; have hcz174_1 : w171.cell? ⟨gb101, 1, none⟩ = some (.slice A0_1 l0_1.length c0_1) := (blk_cell BK101.out 1).trans rfl; have hfz174_0 := blk_frozen BK101.out 0; have hfz174_1 := blk_frozen BK101.out 1) | ((with_reducible refine gate_callee (f := 26) rfl ?_); refine goesL_ (some 20) rfl rfl Try.func26 (by kernel_rfl) rfl #[.agg #[.slice A0_0 l0_0.length c0_0, .slice A0_1 l0_1.length c0_1]] rfl aM ?_; (with_reducible refine (graph_Valid.calls _ _ l0_0 _ _ l0_1 t104 _ ?side1 ?side2 ?side3 ?side4 A4.out).mono ?_); (case side1 => repeat (first | exact (cB HR0_0.out HB.out) | (with_reducible refine cA ?_ _) | (with_reducible refine cN ?_ _) | (with_reducible refine cD ?_))); (case side2 => exact HC0_0.out); (case side3 => repeat (first | exact (cB HR0_1.out HB.out) | (with_reducible refine cA ?_ _) | (with_reducible refine cN ?_ _) | (with_reducible refine cD ?_))); (case side4 => exact HC0_1.out); rintro e w175 ⟨rfl, hb⟩; refine ⟨_, rfl, ?_⟩; have n0_ := Aside0.mk (bB (g := gb101) (o := .cells #[.slice A0_0 l0_0.length c0_0, .slice A0_1 l0_1.length c0_1] 25 (0, 0)) (by (with_reducible repeat (first | refine bN ?_ _ | refine bD ?_ | refine bA ?_ _)); exact BK101.out) hb); have n1_ := Aside0.mk (bB (g := gb102) (o := .cells #[.slice none 0 0, .slice none 0 0] 25 (0, 0)) (by (with_reducible repeat (first | refine bN ?_ _ | refine bD ?_ | refine bA ?_ _)); exact BK102.out) hb); have n2_ := Aside0.mk (bB (g := gb103) (o := .cells #[.slice none 0 0, .slice none 0 0] 29 (0, 0)) (by (with_reducible repeat (first | refine bN ?_ _ | refine bD ?_ | refine bA ?_ _)); exact BK103.out) hb); have n3_ := Aside0.mk (wS (by repeat (first | (with_reducible first | exact HB.out | apply wA | apply wN | apply wD | refine below_set ?_ GE101.out | refine below_set ?_ GE102.out | refine below_set ?_ GE103.out) | exact HB.out)) hb); clear BK101; clear BK102; clear BK103; clear HB; have BK101 := n0_; have BK102 := n1_; have BK103 := n2_; have HB := n3_; clear n0_ n1_ n2_ n3_; (try clear hb); (try clear hb2); (try clear hk); (try clear hi); have hcz176_0 : w175.cell? ⟨gb101, 0, none⟩ = some (.slice A0_0 l0_0.length c0_0) := (blk_cell BK101.out 0).trans rfl; have hcz176_1 : w175.cell? ⟨gb101, 1, none⟩ = some (.slice A0_1 l0_1.length c0_1) := (blk_cell BK101.out 1).trans rfl; have hfz176_0 := blk_frozen BK101.out 0; have hfz176_1 := blk_frozen BK101.out 1) | ((with_reducible refine gate_callee (f := 39) rfl ?_); refine goesL_ (some 30) rfl rfl Try.func39 (by kernel_rfl) rfl #[.slice A1 l1.length c1, .int .i64 (l0_0.length : Int)] rfl aM ?_; (with_reducible refine (graph_ascending.calls k _ _ l1 (l0_0.length : Int) t105 _ ?side1 ?side2 A6.out).mono ?_); (case side1 => repeat (first | exact (cB HR1.out HB.out) | (with_reducible refine cA ?_ _) | (with_reducible refine cN ?_ _) | (with_reducible refine cD ?_))); (case side2 => exact HC1.out); rintro e w' ⟨rfl, ⟨nd, rfl⟩⟩; refine ⟨_, rfl, ?_⟩; (try (rw [drewN_self w175]; generalize hq_ : World.drewN w175 _ = w175; have n0_ : Aside0 (w175.heap[gb101]? = some (.cells #[.slice A0_0 l0_0.length c0_0, .slice A0_1 l0_1.length c0_1] 25 (0, 0))) := ⟨by rw [← hq_]; exact (by (with_reducible repeat (first | refine bN ?_ _ | refine bD ?_ | refine bA ?_ _)); exact BK101.out)⟩; have n1_ : Aside0 (w175.heap[gb102]? = some (.cells #[.slice none 0 0, .slice none 0 0] 25 (0, 0))) := ⟨by rw [← hq_]; exact (by (with_reducible repeat (first | refine bN ?_ _ | refine bD ?_ | refine bA ?_ _)); exact BK102.out)⟩; have n2_ : Aside0 (w175.heap[gb103]? = some (.cells #[.slice none 0 0, .slice none 0 0] 29 (0, 0))) := ⟨by rw [← hq_]; exact (by (with_reducible repeat (first | refine bN ?_ _ | refine bD ?_ | refine bA ?_ _)); exact BK103.out)⟩; have n3_ : Aside0 (Below w.heap.size w w175) := ⟨by rw [← hq_]; exact (by repeat (first | (with_reducible first | exact HB.out | apply wA | apply wN | apply wD | refine below_set ?_ GE101.out | refine below_set ?_ GE102.out | refine below_set ?_ GE103.out) | exact HB.out))⟩; clear BK101 BK102 BK103 HB hq_; have BK101 := n0_; have BK102 := n1_; have BK103 := n2_; have HB := n3_; clear n0_ n1_ n2_ n3_)); have hnb177 := NB102_103.out; have hnc177 := NB103_102.out; have hcz178_0 : w175.cell? ⟨gb102, 0, none⟩ = some (.slice none 0 0) := (blk_cell BK102.out 0).trans rfl; have hcz178_1 : w175.cell? ⟨gb102, 1, none⟩ = some (.slice none 0 0) := (blk_cell BK102.out 1).trans rfl; have hfz178_0 := blk_frozen BK102.out 0; have hfz178_1 := blk_frozen BK102.out 1; have hcz179_0 : w175.cell? ⟨gb103, 0, none⟩ = some (.slice none 0 0) := (blk_cell BK103.out 0).trans rfl; have hcz179_1 : w175.cell? ⟨gb103, 1, none⟩ = some (.slice none 0 0) := (blk_cell BK103.out 1).trans rfl; have hfz179_0 := blk_frozen BK103.out 0; have hfz179_1 := blk_frozen BK103.out 1))
   refine bodyPost_ret (results_list (rs := [.cell 6 25, .cell 7 29, .tmp 8]) rfl (by simp) (.cell gb102 25 #[.slice none 0 0, .slice none 0 0] (0, 0) _ rfl (by (with_reducible repeat (first | refine bN ?_ _ | refine bD ?_ | refine bA ?_ _)); refine blk_far ?_ NB102_103.out _; (with_reducible repeat (first | refine bN ?_ _ | refine bD ?_ | refine bA ?_ _)); refine blk_far ?_ NB102_103.out _; (with_reducible repeat (first | refine bN ?_ _ | refine bD ?_ | refine bA ?_ _)); refine blk_put (cs := #[.slice none 0 0, .slice none 0 0]) ?_ 1 _ rfl; (with_reducible repeat (first | refine bN ?_ _ | refine bD ?_ | refine bA ?_ _)); refine blk_put (cs := #[.slice none 0 0, .slice none 0 0]) ?_ 0 _ rfl; (with_reducible repeat (first | refine bN ?_ _ | refine bD ?_ | refine bA ?_ _)); exact BK102.out) Try.underlying25 rfl (by kernel_rfl) (.cell gb103 29 #[.slice none 0 0, .slice none 0 0] (0, 0) _ rfl (by (with_reducible repeat (first | refine bN ?_ _ | refine bD ?_ | refine bA ?_ _)); refine blk_put (cs := #[.slice none 0 0, .slice none 0 0]) ?_ 1 _ rfl; (with_reducible repeat (first | refine bN ?_ _ | refine bD ?_ | refine bA ?_ _)); refine blk_put (cs := #[.slice none 0 0, .slice none 0 0]) ?_ 0 _ rfl; (with_reducible repeat (first | refine bN ?_ _ | refine bD ?_ | refine bA ?_ _)); refine blk_far ?_ NB103_102.out _; (with_reducible repeat (first | refine bN ?_ _ | refine bD ?_ | refine bA ?_ _)); refine blk_far ?_ NB103_102.out _; (with_reducible repeat (first | refine bN ?_ _ | refine bD ?_ | refine bA ?_ _)); exact BK103.out) Try.underlying29 rfl (by kernel_rfl) (.tmp .nil)))) rfl ?_
   exact ⟨_, _, _, _, by first | rfl | (simp [errW_none, errW_some] <;> rfl) | (simp [*, errW_none, errW_some] <;> rfl), by first | exact Kd.R_nil _ _ _ _ _ | exact Kd.N_nil _ _ _ _ _ | exact Kd.V_nil _ _ _ _ _ | exact Kd.Q_nil _ _ _ _ _ | exact Kd.S_nil _ _ _ _ _, by first | exact Kd.R_nil _ _ _ _ _ | exact Kd.N_nil _ _ _ _ _ | exact Kd.V_nil _ _ _ _ _ | exact Kd.Q_nil _ _ _ _ _ | exact Kd.S_nil _ _ _ _ _, by first | exact Kd.R_nil _ _ _ _ _ | exact Kd.N_nil _ _ _ _ _ | exact Kd.V_nil _ _ _ _ _ | exact Kd.Q_nil _ _ _ _ _ | exact Kd.S_nil _ _ _ _ _, by first | exact Kd.R_nil _ _ _ _ _ | exact Kd.N_nil _ _ _ _ _ | exact Kd.V_nil _ _ _ _ _ | exact Kd.Q_nil _ _ _ _ _ | exact Kd.S_nil _ _ _ _ _, by repeat (first | (with_reducible first | exact HB.out | apply wA | apply wN | apply wD | refine below_set ?_ GE101.out | refine below_set ?_ GE102.out | refine below_set ?_ GE103.out) | exact HB.out)⟩
 ·rw [if_neg c5] at H
  have c5b0 : (t104 == 0) = false := beq_eq_false_iff_ne.mpr c5
  have c5b1 : (t104 != 0) = true := bne_iff_ne.mpr c5
  simp only [Option.some.injEq, Prod.mk.injEq] at H
  obtain ⟨rfl, rfl, rfl, rfl, rfl⟩ := H
  go_enter Try.func12, Try.ntmps12
  go_wp2_with (first | ((with_reducible refine gate_dst (N := 3) rfl ?_); refine box_event ?hg (N := 3) ?hd (cs := #[.slice A0_0 l0_0.length c0_0, .slice A0_1 l0_1.length c0_1]) (t := 25) ?hr ?_; (case hd => rfl); (case hg => rfl); (case hr => first | (go_simp; done) | (go_simp; rfl)); intro gb101 hg w180 hbox hb; have n0_ := Aside0.mk (wS hB hb); have n1_ := Aside0.mk (hbox); have n2_ := Aside0.mk ((by rw [hg]; exact (below_size hB) : w.heap.size ≤ gb101)); have n3_ := Aside0.mk ((by rw [hg]; exact (below_size hB) : w.heap.size ≤ gb101)); clear HB; have HB := n0_; have BK101 := n1_; have GW101 := n2_; have GE101 := n3_; clear n0_ n1_ n2_ n3_; clear hb hbox hg) | ((with_reducible refine gate_dst (N := 6) rfl ?_); refine box_event ?hg (N := 6) ?hd (cs := #[.slice none 0 0, .slice none 0 0]) (t := 25) ?hr ?_; (case hd => rfl); (case hg => rfl); (case hr => first | (go_simp; done) | (go_simp; rfl)); intro gb102 hg w181 hbox hb; have n0_ := Aside0.mk (bB (g := gb101) (o := .cells #[.slice A0_0 l0_0.length c0_0, .slice A0_1 l0_1.length c0_1] 25 (0, 0)) (by (with_reducible repeat (first | refine bN ?_ _ | refine bD ?_ | refine bA ?_ _)); exact BK101.out) hb); have n1_ := Aside0.mk (wS (by repeat (first | (with_reducible first | exact HB.out | apply wA | apply wN | apply wD | refine below_set ?_ GE101.out) | exact HB.out)) hb); have n2_ := Aside0.mk (hbox); have n3_ := Aside0.mk ((by rw [hg]; exact (below_size (by repeat (first | (with_reducible first | exact HB.out | apply wA | apply wN | apply wD | refine below_set ?_ GE101.out) | exact HB.out))) : w.heap.size ≤ gb102)); have n4_ := Aside0.mk ((by rw [hg]; exact (below_size (by repeat (first | (with_reducible first | exact HB.out | apply wA | apply wN | apply wD | refine below_set ?_ GE101.out) | exact HB.out))) : w.heap.size ≤ gb102)); have n5_ := Aside0.mk ((by rw [hg]; exact Nat.ne_of_lt (blk_lt (g := gb101) (o := .cells #[.slice A0_0 l0_0.length c0_0, .slice A0_1 l0_1.length c0_1] 25 (0, 0)) (by (with_reducible repeat (first | refine bN ?_ _ | refine bD ?_ | refine bA ?_ _)); exact BK101.out)) : gb101 ≠ gb102)); have n6_ := Aside0.mk ((by rw [hg]; exact Nat.ne_of_gt (blk_lt (g := gb101) (o := .cells #[.slice A0_0 l0_0.length c0_0, .slice A0_1 l0_1.length c0_1] 25 (0, 0)) (by (with_reducible repeat (first | refine bN ?_ _ | refine bD ?_ | refine bA ?_ _)); exact BK101.out)) : gb102 ≠ gb101)); clear BK101; clear HB; have BK101 := n0_; have HB := n1_; have BK102 := n2_; have GW102 := n3_; have GE102 := n4_; have NB101_102 := n5_; have NB102_101 := n6_; clear n0_ n1_ n2_ n3_ n4_ n5_ n6_; clear hb hbox hg) | ((with_reducible refine gate_dst (N := 7) rfl ?_); refine box_event ?hg (N := 7) ?hd (cs := #[.slice none 0 0, .slice none 0 0]) (t := 29) ?hr ?_; (case hd => rfl); (case hg => rfl); (case hr => first | (go_simp; done) | (go_simp; rfl)); intro gb103 hg w182 hbox hb; have n0_ := Aside0.mk (bB (g := gb101) (o := .cells #[.slice A0_0 l0_0.length c0_0, .slice A0_1 l0_1.length c0_1] 25 (0, 0)) (by (with_reducible repeat (first | refine bN ?_ _ | refine bD ?_ | refine bA ?_ _)); exact BK101.out) hb); have n1_ := Aside0.mk (bB (g := gb102) (o := .cells #[.slice none 0 0, .slice none 0 0] 25 (0, 0)) (by (with_reducible repeat (first | refine bN ?_ _ | refine bD ?_ | refine bA ?_ _)); exact BK102.out) hb); have n2_ := Aside0.mk (wS (by repeat (first | (with_reducible first | exact HB.out | apply wA | apply wN | apply wD | refine below_set ?_ GE101.out | refine below_set ?_ GE102.out) | exact HB.out)) hb); have n3_ := Aside0.mk (hbox); have n4_ := Aside0.mk ((by rw [hg]; exact (below_size (by repeat (first | (with_reducible first | exact HB.out | apply wA | apply wN | apply wD | refine below_set ?_ GE101.out | refine below_set ?_ GE102.out) | exact HB.out))) : w.heap.size ≤ gb103)); have n5_ := Aside0.mk ((by rw [hg]; exact (below_size (by repeat (first | (with_reducible first | exact HB.out | apply wA | apply wN | apply wD | refine below_set ?_ GE101.out | refine below_set ?_ GE102.out) | exact HB.out))) : w.heap.size ≤ gb103)); have n6_ := Aside0.mk ((by rw [hg]; exact Nat.ne_of_lt (blk_lt (g := gb101) (o := .cells #[.slice A0_0 l0_0.length c0_0, .slice A0_1 l0_1.length c0_1] 25 (0, 0)) (by (with_reducible repeat (first | refine bN ?_ _ | refine bD ?_ | refine bA ?_ _)); exact BK101.out)) : gb101 ≠ gb103)); have n7_ := Aside0.mk ((by rw [hg]; exact Nat.ne_of_gt (blk_lt (g := gb101) (o := .cells #[.slice A0_0 l0_0.length c0_0, .slice A0_1 l0_1.length c0_1] 25 (0, 0)) (by (with_reducible repeat (first | refine bN ?_ _ | refine bD ?_ | refine bA ?_ _)); exact BK101.out)) : gb103 ≠ gb101)); have n8_ := Aside0.mk ((by rw [hg]; exact Nat.ne_of_lt (blk_lt (g := gb102) (o := .cells #[.slice none 0 0, .slice none 0 0] 25 (0, 0)) (by (with_reducible repeat (first | refine bN ?_ _ | refine bD ?_ | refine bA ?_ _)); exact BK102.out)) : gb102 ≠ gb103)); have n9_ := Aside0.mk ((by rw [hg]; exact Nat.ne_of_gt (blk_lt (g := gb102) (o := .cells #[.slice none 0 0, .slice none 0 0] 25 (0, 0)) (by (with_reducible repeat (first | refine bN ?_ _ | refine bD ?_ | refine bA ?_ _)); exact BK102.out)) : gb103 ≠ gb102)); clear BK101; clear BK102; clear HB; have BK101 := n0_; have BK102 := n1_; have HB := n2_; have BK103 := n3_; have GW103 := n4_; have GE103 := n5_; have NB101_103 := n6_; have NB103_101 := n7_; have NB102_103 := n8_; have NB103_102 := n9_; clear n0_ n1_ n2_ n3_ n4_ n5_ n6_ n7_ n8_ n9_; clear hb hbox hg; have hnb183 := NB101_102.out; have hnc183 := NB102_101.out; have hnb184 := NB101_103.out; have hnc184 := NB103_101.out; have hcz185_0 : w182.cell? ⟨gb101, 0, none⟩ = some (.slice A0_0 l0_0.length c0_0) := (blk_cell BK101.out 0).trans rfl; have hcz185_1 : w182.cell? ⟨gb101, 1, none⟩ = some (.slice A0_1 l0_1.length c0_1) := (blk_cell BK101.out 1).trans rfl; have hfz185_0 := blk_frozen BK101.out 0; have hfz185_1 := blk_frozen BK101.out 1) | ((with_reducible refine gate_callee (f := 26) rfl ?_); refine goesL_ (some 20) rfl rfl Try.func26 (by kernel_rfl) rfl #[.agg #[.slice A0_0 l0_0.length c0_0, .slice A0_1 l0_1.length c0_1]] rfl aM ?_; (with_reducible refine (graph_Valid.calls _ _ l0_0 _ _ l0_1 t104 _ ?side1 ?side2 ?side3 ?side4 A4.out).mono ?_); (case side1 => repeat (first | exact (cB HR0_0.out HB.out) | (with_reducible refine cA ?_ _) | (with_reducible refine cN ?_ _) | (with_reducible refine cD ?_))); (case side2 => exact HC0_0.out); (case side3 => repeat (first | exact (cB HR0_1.out HB.out) | (with_reducible refine cA ?_ _) | (with_reducible refine cN ?_ _) | (with_reducible refine cD ?_))); (case side4 => exact HC0_1.out); rintro e w186 ⟨rfl, hb⟩; refine ⟨_, rfl, ?_⟩; have n0_ := Aside0.mk (bB (g := gb101) (o := .cells #[.slice A0_0 l0_0.length c0_0, .slice A0_1 l0_1.length c0_1] 25 (0, 0)) (by (with_reducible repeat (first | refine bN ?_ _ | refine bD ?_ | refine bA ?_ _)); exact BK101.out) hb); have n1_ := Aside0.mk (bB (g := gb102) (o := .cells #[.slice none 0 0, .slice none 0 0] 25 (0, 0)) (by (with_reducible repeat (first | refine bN ?_ _ | refine bD ?_ | refine bA ?_ _)); exact BK102.out) hb); have n2_ := Aside0.mk (bB (g := gb103) (o := .cells #[.slice none 0 0, .slice none 0 0] 29 (0, 0)) (by (with_reducible repeat (first | refine bN ?_ _ | refine bD ?_ | refine bA ?_ _)); exact BK103.out) hb); have n3_ := Aside0.mk (wS (by repeat (first | (with_reducible first | exact HB.out | apply wA | apply wN | apply wD | refine below_set ?_ GE101.out | refine below_set ?_ GE102.out | refine below_set ?_ GE103.out) | exact HB.out)) hb); clear BK101; clear BK102; clear BK103; clear HB; have BK101 := n0_; have BK102 := n1_; have BK103 := n2_; have HB := n3_; clear n0_ n1_ n2_ n3_; (try clear hb); (try clear hb2); (try clear hk); (try clear hi); have hnb187 := NB102_103.out; have hnc187 := NB103_102.out; have hcz188_0 : w186.cell? ⟨gb102, 0, none⟩ = some (.slice none 0 0) := (blk_cell BK102.out 0).trans rfl; have hcz188_1 : w186.cell? ⟨gb102, 1, none⟩ = some (.slice none 0 0) := (blk_cell BK102.out 1).trans rfl; have hfz188_0 := blk_frozen BK102.out 0; have hfz188_1 := blk_frozen BK102.out 1; have hcz189_0 : w186.cell? ⟨gb103, 0, none⟩ = some (.slice none 0 0) := (blk_cell BK103.out 0).trans rfl; have hcz189_1 : w186.cell? ⟨gb103, 1, none⟩ = some (.slice none 0 0) := (blk_cell BK103.out 1).trans rfl; have hfz189_0 := blk_frozen BK103.out 0; have hfz189_1 := blk_frozen BK103.out 1))
  refine bodyPost_ret (results_list (rs := [.cell 6 25, .cell 7 29, .tmp 8]) rfl (by simp) (.cell gb102 25 #[.slice none 0 0, .slice none 0 0] (0, 0) _ rfl (by (with_reducible repeat (first | refine bN ?_ _ | refine bD ?_ | refine bA ?_ _)); refine blk_far ?_ NB102_103.out _; (with_reducible repeat (first | refine bN ?_ _ | refine bD ?_ | refine bA ?_ _)); refine blk_far ?_ NB102_103.out _; (with_reducible repeat (first | refine bN ?_ _ | refine bD ?_ | refine bA ?_ _)); refine blk_put (cs := #[.slice none 0 0, .slice none 0 0]) ?_ 1 _ rfl; (with_reducible repeat (first | refine bN ?_ _ | refine bD ?_ | refine bA ?_ _)); refine blk_put (cs := #[.slice none 0 0, .slice none 0 0]) ?_ 0 _ rfl; (with_reducible repeat (first | refine bN ?_ _ | refine bD ?_ | refine bA ?_ _)); exact BK102.out) Try.underlying25 rfl (by kernel_rfl) (.cell gb103 29 #[.slice none 0 0, .slice none 0 0] (0, 0) _ rfl (by (with_reducible repeat (first | refine bN ?_ _ | refine bD ?_ | refine bA ?_ _)); refine blk_put (cs := #[.slice none 0 0, .slice none 0 0]) ?_ 1 _ rfl; (with_reducible repeat (first | refine bN ?_ _ | refine bD ?_ | refine bA ?_ _)); refine blk_put (cs := #[.slice none 0 0, .slice none 0 0]) ?_ 0 _ rfl; (with_reducible repeat (first | refine bN ?_ _ | refine bD ?_ | refine bA ?_ _)); refine blk_far ?_ NB103_102.out _; (with_reducible repeat (first | refine bN ?_ _ | refine bD ?_ | refine bA ?_ _)); refine blk_far ?_ NB103_102.out _; (with_reducible repeat (first | refine bN ?_ _ | refine bD ?_ | refine bA ?_ _)); exact BK103.out) Try.underlying29 rfl (by kernel_rfl) (.tmp .nil)))) rfl ?_
  exact ⟨_, _, _, _, by first | rfl | (simp [errW_none, errW_some] <;> rfl) | (simp [*, errW_none, errW_some] <;> rfl), by first | exact Kd.R_nil _ _ _ _ _ | exact Kd.N_nil _ _ _ _ _ | exact Kd.V_nil _ _ _ _ _ | exact Kd.Q_nil _ _ _ _ _ | exact Kd.S_nil _ _ _ _ _, by first | exact Kd.R_nil _ _ _ _ _ | exact Kd.N_nil _ _ _ _ _ | exact Kd.V_nil _ _ _ _ _ | exact Kd.Q_nil _ _ _ _ _ | exact Kd.S_nil _ _ _ _ _, by first | exact Kd.R_nil _ _ _ _ _ | exact Kd.N_nil _ _ _ _ _ | exact Kd.V_nil _ _ _ _ _ | exact Kd.Q_nil _ _ _ _ _ | exact Kd.S_nil _ _ _ _ _, by first | exact Kd.R_nil _ _ _ _ _ | exact Kd.N_nil _ _ _ _ _ | exact Kd.V_nil _ _ _ _ _ | exact Kd.Q_nil _ _ _ _ _ | exact Kd.S_nil _ _ _ _ _, by repeat (first | (with_reducible first | exact HB.out | apply wA | apply wN | apply wD | refine below_set ?_ GE101.out | refine below_set ?_ GE102.out | refine below_set ?_ GE103.out) | exact HB.out)⟩
end Go.Proofs.Ytmbnibonggbjgaa.X

namespace Go.Proofs.Ytmbnibonggbjgaa.X
open Go.RowKit Go.Proofs.YtmbnibonggbjgaaW.PrintWords Go.Proofs.YtmbnibonggbjgaaW.PrintLast Go.Proofs.YtmbnibonggbjgaaW.PrintMore
attribute [local go_sem] max2_int min2_int max_two min_two max_three min_three max_four min_four
set_option linter.unusedVariables false
set_option linter.unusedSimpArgs false
theorem eqA38 (d : Nat) (w : World) (x0 y0 : Int) (x1 y1 : Int) (x2 y2 : Int) :
  (Op.equalIn (d + 2) 38 (.agg #[.int .i64 x0, .int .i64 x1, .int .i64 x2]) (.agg #[.int .i64 y0, .int .i64 y1, .int .i64 y2])).run Try.prog w = .ok (x0 == y0 && (x1 == y1 && (x2 == y2))) w := by
 refine eqA_of Try.underlying38 (by kernel_rfl) ?_
 refine eqf_cons (by rfl) (by go_simp; rfl) (by go_simp; rfl) (by go_simp) ?_
 refine eqf_cons (by rfl) (by go_simp; rfl) (by go_simp; rfl) (by go_simp) ?_
 exact eqf_last (by rfl) (by go_simp; rfl) (by go_simp; rfl) (by go_simp)
end Go.Proofs.Ytmbnibonggbjgaa.X

namespace Go.Proofs.Ytmbnibonggbjgaa.X
open Go.RowKit Go.Proofs.YtmbnibonggbjgaaW.PrintWords Go.Proofs.YtmbnibonggbjgaaW.PrintLast Go.Proofs.YtmbnibonggbjgaaW.PrintMore
open Go.Proofs.YtmbnibonggbjgaaW.PrintWords renaming blk_drewN → bN, blk_drew → bD, blk_alloc → bA, below_alloc → wA, pw_below_drewN → wN, below_drew1 → wD, blk_below → bB, below_step → wS, blk_at → bT, blk_grown → bG
open Go.Proofs.YtmbnibonggbjgaaW.PrintWords.Kd renaming R_alloc → rA, R_drewN → rN, R_drew → rD, R_below → rB, R_grown → rG, C_below → cB, C_alloc → cA, C_drewN → cN, C_drew → cD
attribute [local go_sem] max2_int min2_int max_two min_two max_three min_three max_four min_four
set_option linter.unusedVariables false
set_option linter.unusedSimpArgs false
/-! ### scarfjointref05_SameInts: function 43 -/
def scarfjointref05_SameInts.l0 : Nat → List Int → List Int → Int → Option (Bool)
 | 0, _, _, _ => none
 | k + 1, x0, x1, x5 => if x5 < (x0.length : Int) then (if 0 ≤ x5 then (if x5 < (x1.length : Int) then (if (rd x0 x5) = (rd x1 x5) then (scarfjointref05_SameInts.l0 k x0 x1 (wrap64 (x5 + 1))) else (some false)) else (none)) else (none)) else (some true)
def scarfjointref05_SameInts.f (k : Nat) (l0 : List Int) (l1 : List Int) : Option (Bool) := if (l0.length : Int) = (l1.length : Int) then (scarfjointref05_SameInts.l0 k l0 l1 0) else (some false)
theorem scarfjointref05_SameInts.mono_l : ∀ k, (∀ y0 y1 y2, LeO (scarfjointref05_SameInts.l0 k y0 y1 y2) (scarfjointref05_SameInts.l0 (k + 1) y0 y1 y2))
 | 0 => fun _ _ _ r h => by simp [scarfjointref05_SameInts.l0] at h
 | k + 1 => by
  have ih0 := scarfjointref05_SameInts.mono_l k
  ·intro y0 y1 y2
   unfold scarfjointref05_SameInts.l0
   repeat' first
   | (with_reducible exact ih0 _ _ _)
   | (with_reducible exact LeO.refl _)
   | (with_reducible exact LeO.none _)
   | (with_reducible refine LeO.ite ?_ ?_)
   | (with_reducible refine LeO.bind ?_ (fun _ => ?_))
   | exact ih0 _ _ _
   | exact LeO.none _
   | refine LeO.ite ?_ ?_
   | refine LeO.bind ?_ (fun _ => ?_)
theorem scarfjointref05_SameInts.mono : ∀ a0 a1 k, LeO (scarfjointref05_SameInts.f k a0 a1) (scarfjointref05_SameInts.f (k + 1) a0 a1) := by
 intro a0 a1 k
 have ih0 := scarfjointref05_SameInts.mono_l k
 unfold scarfjointref05_SameInts.f
 repeat' first
   | (with_reducible exact ih0 _ _ _)
   | (with_reducible exact LeO.refl _)
   | (with_reducible exact LeO.none _)
   | (with_reducible refine LeO.ite ?_ ?_)
   | (with_reducible refine LeO.bind ?_ (fun _ => ?_))
   | exact ih0 _ _ _
   | exact LeO.none _
   | refine LeO.ite ?_ ?_
   | refine LeO.bind ?_ (fun _ => ?_)
set_option maxHeartbeats 8000000 in
set_option maxRecDepth 100000 in
theorem scarfjointref05_SameInts.calls (k : Nat) (A0 : Option Addr) (c0 : Nat) (l0 : List Int) (A1 : Option Addr) (c1 : Nat) (l1 : List Int) (r : Bool) (w : World) (hr0 : Kd.C (Kd.int .i64) w A0 l0.length l0) (hc0 : l0.length ≤ c0) (hr1 : Kd.C (Kd.int .i64) w A1 l1.length l1) (hc1 : l1.length ≤ c1) (h : scarfjointref05_SameInts.f k l0 l1 = some r) :
  Calls Try.prog 43 #[.slice A0 l0.length c0, .slice A1 l1.length c1] w fun e w' => e = .returned (.bool r) ∧ Drawn0 w w' := by
 have HR0 := Aside0.mk hr0
 have HC0 := Aside0.mk hc0
 clear hr0 hc0
 have HR1 := Aside0.mk hr1
 have HC1 := Aside0.mk hc1
 clear hr1 hc1
 have H : (if (l0.length : Int) = (l1.length : Int) then (scarfjointref05_SameInts.l0 k l0 l1 0) else (some false)) = some r := h
 clear h
 by_cases c3 : (l0.length : Int) = (l1.length : Int)
 ·rw [if_pos c3] at H
  have c3b0 : ((l0.length : Int) == (l1.length : Int)) = true := beq_iff_eq.mpr c3
  have c3b1 : ((l0.length : Int) != (l1.length : Int)) = false := bne_eq_false_iff_eq.mpr c3
  have c3b2 : (l0.length == l1.length) = true := by first | simpa using c3 | (simp at c3 ⊢; omega)
  clear c3
  have H' := Aside0.mk H
  clear H
  go_enter Try.func43, Try.ntmps43
  go_wp2
  repeat (go_quiet (fail); try go_wp2)
  go_loopg [5] k (fun kq v5 w' => ∃ (x5_1 : Int), v5 = .int .i64 x5_1 ∧ Aside0 (scarfjointref05_SameInts.l0 kq l0 l1 x5_1 = some r) ∧ Aside0 (kq ≤ k) ∧ Drawn0 w w')
  case atStart => exact ⟨(0), rS, H', ⟨Nat.le_refl _⟩, by repeat (first | exact Drawn0.refl _ | apply Drawn0.step)⟩
  case round =>
   clear H'
   try clear c1
   try clear p2
   try clear c3
   try clear c3b0
   try clear c3b1
   try clear c3b2
   obtain ⟨x5_1, rfl, HA, HK1, ⟨m1, rfl⟩⟩ := hrel
   cases gk with
   | zero => exact absurd HA.out (by simp [scarfjointref05_SameInts.l0])
   | succ k1 =>
    have H := HA.out
    clear HA
    simp only [scarfjointref05_SameInts.l0] at H
    by_cases c4 : x5_1 < (l0.length : Int)
    ·rw [if_pos c4] at H
     have c4b0 : decide (x5_1 < (l0.length : Int)) = true := decide_eq_true c4
     clear c4
     by_cases c5 : 0 ≤ x5_1
     ·rw [if_pos c5] at H
      have c5b0 : decide (0 ≤ x5_1) = true := decide_eq_true c5
      clear c5
      by_cases c6 : x5_1 < (l1.length : Int)
      ·rw [if_pos c6] at H
       have c6b0 : decide (x5_1 < (l1.length : Int)) = true := decide_eq_true c6
       clear c6
       by_cases c7 : (rd l0 x5_1) = (rd l1 x5_1)
       ·rw [if_pos c7] at H
        have c7b0 : ((rd l0 x5_1) == (rd l1 x5_1)) = true := beq_iff_eq.mpr c7
        have c7b1 : ((rd l0 x5_1) != (rd l1 x5_1)) = false := bne_eq_false_iff_eq.mpr c7
        clear c7
        have H' := Aside0.mk H
        clear H
        have p101 : 0 ≤ (x5_1 : Int) := oT
        have q101 : x5_1 < (l0.length : Int) := oT
        obtain ⟨ad101, e101, hx101_0⟩ := Kd.at_int HR0.out x5_1 p101 q101
        cases e101
        replace p101 := eq_true p101
        replace q101 := eq_true q101
        have p102 : 0 ≤ (x5_1 : Int) := oT
        have q102 : x5_1 < (l1.length : Int) := oT
        obtain ⟨ad102, e102, hx102_0⟩ := Kd.at_int HR1.out x5_1 p102 q102
        cases e102
        replace p102 := eq_true p102
        replace q102 := eq_true q102
        go_wp2
        repeat (go_quiet (fail); try go_wp2)
        go_roundg k1
        case measure => have := HK1.out; omega
        case rel => exact ⟨(wrap64 (x5_1 + 1)), rS, H', ⟨by have := HK1.out; omega⟩, by repeat (first | exact Drawn0.refl _ | apply Drawn0.step)⟩
       ·rw [if_neg c7] at H
        have c7b0 : ((rd l0 x5_1) == (rd l1 x5_1)) = false := beq_eq_false_iff_ne.mpr c7
        have c7b1 : ((rd l0 x5_1) != (rd l1 x5_1)) = true := bne_iff_ne.mpr c7
        obtain rfl := Option.some.inj H
        have p101 : 0 ≤ (x5_1 : Int) := oT
        have q101 : x5_1 < (l0.length : Int) := oT
        obtain ⟨ad101, e101, hx101_0⟩ := Kd.at_int HR0.out x5_1 p101 q101
        cases e101
        replace p101 := eq_true p101
        replace q101 := eq_true q101
        have p102 : 0 ≤ (x5_1 : Int) := oT
        have q102 : x5_1 < (l1.length : Int) := oT
        obtain ⟨ad102, e102, hx102_0⟩ := Kd.at_int HR1.out x5_1 p102 q102
        cases e102
        replace p102 := eq_true p102
        replace q102 := eq_true q102
        go_wp2
        repeat (go_quiet (fail); try go_wp2)
        go_ret
        exact ⟨by first | rfl | (simp; done) | (simp [*]; done), by repeat (first | exact Drawn0.refl _ | apply Drawn0.step)⟩
      ·rw [if_neg c6] at H
       exact absurd H (by simp)
     ·rw [if_neg c5] at H
      exact absurd H (by simp)
    ·rw [if_neg c4] at H
     have c4b0 : decide (x5_1 < (l0.length : Int)) = false := decide_eq_false c4
     clear c4
     obtain rfl := Option.some.inj H
     go_wp2
     repeat (go_quiet (fail); try go_wp2)
     go_ret
     exact ⟨by first | rfl | (simp; done) | (simp [*]; done), by repeat (first | exact Drawn0.refl _ | apply Drawn0.step)⟩
 ·rw [if_neg c3] at H
  have c3b0 : ((l0.length : Int) == (l1.length : Int)) = false := beq_eq_false_iff_ne.mpr c3
  have c3b1 : ((l0.length : Int) != (l1.length : Int)) = true := bne_iff_ne.mpr c3
  have c3b2 : (l0.length == l1.length) = false := by first | simpa using c3 | (simp at c3 ⊢; omega)
  obtain rfl := Option.some.inj H
  go_enter Try.func43, Try.ntmps43
  go_wp2
  repeat (go_quiet (fail); try go_wp2)
  go_ret
  exact ⟨by first | rfl | (simp; done) | (simp [*]; done), by repeat (first | exact Drawn0.refl _ | apply Drawn0.step)⟩
end Go.Proofs.Ytmbnibonggbjgaa.X
